import PyProof.Rows.All
import Wide.All
import OpenK.AllK
import Wide.FinOn
import PyProof.InstStore
import PyProof.InstStoreFacts
import PyProof.ExcBaseAll.Exception
import PySem.Challenge.RW_pf0129_01
set_option Elab.async false
set_option maxRecDepth 100000
set_option maxHeartbeats 2000000
set_option compiler.extract_closed false
set_option linter.all false
namespace Mine

local macro_rules | `(tactic| walk_at "q") => `(tactic| (intros; lia -abstractProof))
local macro_rules | `(tactic| walk_at "g") => `(tactic| (intros; first | grind -abstractProof only | grind -abstractProof))

-- printed by wip/apply.py from the logs of wip/Fq.lean
theorem c9 (x y : Int) : x <= max x y := by lia -abstractProof
theorem c8 (x y : Int) : y <= max x y := by lia -abstractProof
theorem dS (x y : Int) : max x y = x \/ max x y = y := by lia -abstractProof
theorem eU (x y : Int) : min x y <= x := by lia -abstractProof
theorem eT (x y : Int) : min x y <= y := by lia -abstractProof
theorem fz (x y : Int) : min x y = x \/ min x y = y := by lia -abstractProof
theorem db (x : Int) : x <= (Int.natAbs x : Int) := by omega
theorem da (x : Int) : -x <= (Int.natAbs x : Int) := by omega
theorem dg (x : Int) : (Int.natAbs x : Int) = x \/ (Int.natAbs x : Int) = -x := by omega
theorem dv (x : Int) : 0 <= (Int.toNat x : Int) := by omega
theorem dk (x : Int) : x <= (Int.toNat x : Int) := by omega
theorem dH (x : Int) : (Int.toNat x : Int) = x \/ (Int.toNat x : Int) = 0 := by omega
theorem vA {a b : Int} (h0 : -b <= a) (h1 : a <= b) : a.natAbs <= b.natAbs := Int.ofNat_le.mp (by rw [Int.ofNat_natAbs_of_nonneg (a := b) (by lia -abstractProof)]; rcases dg a with h | h <;> rw [h] <;> lia -abstractProof)
theorem ktl {a b : Int} (h0 : 0 <= a) (h1 : a < b) : a.toNat < b.toNat := (Int.toNat_lt_toNat (Int.lt_of_le_of_lt h0 h1)).mpr h1
theorem kpm {a : Int} (h : (a = 1) \/ (a = (-1))) : ((-a) = 1) \/ ((-a) = (-1)) := by rcases h with rfl | rfl; exact .inr rfl; exact .inl rfl
theorem ksub (x y : Int) : (x - min x y).toNat = (x - y).toNat := by
  rcases Int.le_total x y with h | h
  · rw [Int.min_eq_left h, Int.sub_self, Int.toNat_of_nonpos (Int.sub_nonpos_of_le h)]; rfl
  · rw [Int.min_eq_right h]
theorem ksub' (x y : Int) : (x - min y x).toNat = (x - y).toNat := by rw [Int.min_comm]; exact ksub x y
theorem ktn {x : Int} {a b : Nat} (h : x = (a : Int) - b) : x.toNat = a - b := by rw [h, Int.toNat_sub]
theorem kmx {x : Int} {a b : Nat} (h : x = (a : Int) - b) : max 0 x = ((a - b : Nat) : Int) := by rw [<- ktn h, Int.toNat_eq_max, Int.max_comm]
theorem kpl {c x : Int} {l k L : Nat} (h1 : c <= (l : Int) + 10) (hx : max 0 x = (L : Int)) (h : k = 2 * l + 30 + L) : ((((l : Int) + 10) + (max ((l : Int) + 10) c)) + 10) + (max (0 : Int) x) = (k : Int) := by
  rw [Int.max_eq_left h1, hx, h]; lia -abstractProof
theorem kng {x : Int} {a : Nat} (h : x = -(a : Int)) : x.natAbs = a := by rw [h, Int.natAbs_neg, Int.natAbs_natCast]
theorem iS {k : Nat}: 0 <= k := by walk_at "q"
theorem jb {a : Int}: 0 < a -> ¬ (a = 0) := by walk_at "q"
theorem jC {a : Int}: 0 < a -> 0 <= a := by walk_at "q"
theorem kg {k : Nat}: 10 <= k -> 10 <= k := by walk_at "q"
theorem ke {k : Nat}: 20 <= k -> 20 <= k := by walk_at "q"
theorem kd {k : Nat}: 30 <= k -> 30 <= k := by walk_at "q"
theorem ka {k : Nat}: k < 10 -> k < 0 + 10 := by walk_at "q"
theorem j9 {k : Nat}: k < 20 -> k < 10 + 10 := by walk_at "q"
theorem j8 {k : Nat}: k < 30 -> k < 20 + 10 := by walk_at "q"
theorem eF {k : Nat}: k < 39 -> k < 30 + 9 := by walk_at "q"
theorem fX {k : Nat}: 0 <= (k : Int) := by walk_at "q"
theorem im {a : Int}: 14 <= a -> 1 <= a := by walk_at "q"
theorem iR {a : Int}: 4 <= a -> 1 <= a := by walk_at "q"
theorem iQ {k : Nat}: 0 < k -> 0 < (k : Int) := by walk_at "q"
theorem jD {a : Int}: 4 <= a -> 0 <= a := by walk_at "q"
theorem ky {a : Int}: 1 <= a -> 0 < a := by walk_at "q"
theorem kx {k l m : Nat}: 4 <= k -> l = ((2 * k) + 30) + m -> 38 <= l := by walk_at "q"
theorem lm {k : Nat}: 0 < k -> ¬ ((k : Int) = 0) := by walk_at "q"
theorem lR {k : Nat}: 0 <= (k : Int) + 10 := by walk_at "q"
theorem nj {a b : Int} (h : 0 <= a) (h1 : a <= b) : (Int.natAbs a) <= (Int.natAbs b) := vA (by lia -abstractProof) h1
theorem ni {k : Nat}: 1 + (k + 1) <= k + 2 := by walk_at "q"
theorem oD {a : Int}: (-2) <= a -> a <= 1 -> (((-400) <= a) /\ (a <= 400)) := by walk_at "q"
theorem oC {a : Int}: a <= 2 -> a <= 100 := by walk_at "q"
theorem oB {a : Int}: ¬ (a = 0) -> ¬ ((-a) = 0) := by walk_at "q"
theorem oA {a b : Int}: (-200) <= a -> b <= 200 -> b - a < 2300 := by walk_at "q"
theorem oz {a b c d : Int}: (-60) <= a -> (-60) <= b -> c <= 60 -> d <= 60 -> (c + d) - (a + b) <= ((240 : Nat) : Int) := by walk_at "q"
theorem ow {k : Nat}: 1 <= k + 10 := by walk_at "q"
theorem ov {k : Nat}: 4 <= k -> k <= 6 -> ((4 <= (k : Int)) /\ ((k : Int) <= 6)) := by intros; constructor <;> lia -abstractProof
theorem pt {a : Int}: 1 <= a -> 0 <= a := by walk_at "q"
theorem pq {a : Int}: 2 <= a -> 1 <= a := by walk_at "q"
theorem po {a : Int}: 4 <= a -> 14 <= a + 10 := by walk_at "q"
theorem pn {a : Int}: 4 <= a -> a <= 6 -> ((14 <= a + 10) /\ (a + 10 <= 16)) := by walk_at "q"
theorem pk {k : Nat}: 4 <= k -> 1 <= k := by walk_at "q"
theorem pj {k : Nat}: k <= 38 -> k < ((10 : Nat) ^ 2) := by walk_at "q"
theorem tB {a : Int}: 0 < a -> 0 < a := by walk_at "q"
theorem tv {a : Int}: 0 <= a -> a <= 1000 -> ((0 <= a + 5) /\ (a + 5 <= 2000)) := by intros; constructor <;> lia -abstractProof
theorem tj {a : Int}: 2 <= a -> 0 <= a := by walk_at "q"
theorem ti {a : Int}: 4 <= a -> 0 <= a + 10 := by walk_at "q"
theorem te {a b : Int}: (-200) <= a -> b <= 200 -> b - a <= ((400 : Nat) : Int) := by walk_at "q"
theorem td {k : Nat}: ((3 = (3 : Nat)) -> (k <= 3)) -> k < 0 + 4 := by walk_at "q"
theorem s9 {k : Nat}: 4 <= k -> k <= 6 -> ((k = 4) \/ (((k = 5) \/ (k = 6)))) := by walk_at "q"
theorem vT {a : Int}: 0 <= (max (0 : Int) a) := by intros; have := c9 (0 : Int) a; have := c8 (0 : Int) a; have := dS (0 : Int) a; generalize max (0 : Int) a = z1 at *; lia -abstractProof
theorem vR {a : Int}: 100 <= a -> 0 <= a := by walk_at "q"
theorem vQ {a : Int}: 4 <= a -> 2 <= a := by walk_at "q"
theorem vP {a : Int}: 4 <= a -> a <= 6 -> ((1 <= a) /\ (a <= 10)) := by walk_at "q"
theorem vO {a b : Int}: (-999) <= a -> 1 <= b -> a <= 160 -> b <= 10 -> (((-2050) <= a - b) /\ (a - b <= 500)) := by intros; constructor <;> lia -abstractProof
theorem vN {a b : Int}: 0 <= a -> a < b -> (Int.natAbs a) <= (Int.natAbs b) := by walk_at "q"
theorem vM {k : Nat}: 1 <= (k : Int) + 10 := by walk_at "q"
theorem vL {k : Nat}: ¬ (k = 0) -> 0 < (k : Int) := by walk_at "q"
theorem fq50 {a : Int} {k : Nat}: (Int.natAbs a) <= k -> (Int.toNat a) <= k := by intros; have := db a; have := da a; have := dg a; generalize Int.natAbs a = z1 at *; have := dv a; have := dk a; have := dH a; generalize Int.toNat a = z2 at *; lia -abstractProof
theorem fq51 {a : Int}: (-200) <= a -> a <= 200 -> (((-200) <= a) /\ (a <= 200)) := by walk_at "q"
theorem fq52 {a : Int}: 0 < a -> (((Int.natAbs a) : Nat) : Int) = a := by walk_at "q"
theorem fq53 {a : Int}: 0 < a -> 0 < 2 * a := by walk_at "q"
theorem fq54 {a : Int}: 0 <= a -> a <= 400 -> ((0 <= a) /\ (a <= 1000)) := by walk_at "q"
theorem fq55 {a : Int}: 2 <= a -> 1 - a <= (-1) := by walk_at "q"
theorem fq56 {a : Int}: 4 <= a -> 1 <= a + 10 := by walk_at "q"
theorem fq57 {a : Int}: 4 <= a -> 2 <= a + 10 := by walk_at "q"
theorem fq58 {a : Int}: a = 0 -> (-a) = 0 := by walk_at "q"
theorem fq59 {a : Int}: a <= 0 -> 0 <= (-a) := by walk_at "q"
theorem fq60 {a : Int}: ¬ (a = 0) -> 0 < (((Int.natAbs a) : Nat) : Int) := by walk_at "q"
theorem fq61 {a : Int}: ¬ (a = 0) -> ¬ ((Int.natAbs a) = 0) := by walk_at "q"
theorem fq62 {a b : Int}: ((¬ (a = 0)) -> ((((-50) < b) /\ (b < 50)))) -> ¬ (a = 0) -> (-99) <= b - 1 := by walk_at "q"
theorem fq63 {a b : Int}: 0 < a -> 10 * a <= b -> 0 < b := by walk_at "q"
theorem fq64 {a b c : Int}: a = b - c -> (-a) = c - b := by walk_at "q"
theorem fq65 {a b c d : Int}: (-60) <= a -> (-60) <= b -> c <= 60 -> d <= 60 -> (c + d) - (a + b) < 2300 := by walk_at "q"
theorem fq66 {k : Nat}: 0 < k -> ¬ (k = 0) := by walk_at "q"
theorem fq67 {k : Nat}: 1 <= (k : Int) -> 1 <= k := by walk_at "q"
theorem fq68 {k : Nat}: 1 <= k + 2 := by walk_at "q"
theorem fq69 {k : Nat}: 4 <= k -> 1 <= (k : Int) := by walk_at "q"
theorem fq70 {k : Nat}: k <= 46 -> (-496) <= (-(k : Int)) := by walk_at "q"
theorem fq71 {k : Nat}: ¬ (k = 0) -> 0 < k := by walk_at "q"
theorem fq72 {k l m n : Nat}: k = (l + 30) + m -> 0 <= ((n : Int) - 2) + (k : Int) := by walk_at "q"
theorem fq73 {k l m n o : Nat}: k < l -> l <= m -> m <= k -> n = o := by walk_at "q"
theorem fq74 {a : Int}: ((a = 1) \/ (a = (-1))) -> (Int.natAbs a) < 1152921504606846976 := by intros; have := db a; have := da a; have := dg a; generalize Int.natAbs a = z1 at *; lia -abstractProof
theorem fq75 {a : Int}: (a + 10) + 10 = (((((((((((((((((((a + 1) + 1) + 1) + 1) + 1) + 1) + 1) + 1) + 1) + 1) + 1) + 1) + 1) + 1) + 1) + 1) + 1) + 1) + 1) + 1 := by walk_at "q"
theorem fq76 {a : Int}: 0 < a -> ¬ (a < 0) := by walk_at "q"
theorem fq77 {a : Int}: 0 <= a -> a = (((Int.toNat a) : Nat) : Int) := by walk_at "q"
theorem fq78 {a : Int}: 14 <= a -> 0 <= a := by walk_at "q"
theorem fq79 {a : Int}: 14 <= a -> 1 - a <= (-13) := by walk_at "q"
theorem fq80 {a : Int}: 2 * a = a + a := by walk_at "q"
theorem fq81 {a : Int}: 2 <= a -> 1 <= a + 1 := by walk_at "q"
theorem fq82 {a : Int}: 2 <= a -> 2 <= a + 1 := by walk_at "q"
theorem fq83 {a : Int}: 2 <= a -> a <= 1000 -> (Int.natAbs a) < ((10 : Nat) ^ 4) := by walk_at "q"
theorem fq84 {a : Int}: a < 0 -> ¬ ((-a) < 0) := by walk_at "q"
theorem fq85 {a : Int}: a < 2300 -> (Int.toNat a) < 2300 := by walk_at "q"
theorem fq86 {a : Int}: a = 0 -> a <= 100 := by walk_at "q"
theorem fq87 {a : Int}: a <= 400 -> (Int.toNat a) + 1 <= 2300 := by intros; have := dv a; have := dk a; have := dH a; generalize Int.toNat a = z1 at *; lia -abstractProof
theorem fq88 {a : Int}: a <= 400 -> (Int.toNat a) + 2 <= 2300 := by intros; have := dv a; have := dk a; have := dH a; generalize Int.toNat a = z1 at *; lia -abstractProof
theorem fq89 {a : Int}: a <= 400 -> a <= 100000 := by walk_at "q"
theorem fq90 {a : Int}: a <= 700 -> (Int.toNat a) + 3 <= 2300 := by walk_at "q"
theorem fq91 {a : Int}: ¬ (a < 0) -> ¬ (a = 0) -> (-a) < 0 := by walk_at "q"
theorem fq92 {a b : Int}: (-(a - b)) = b - a := by walk_at "q"
theorem fq93 {a b : Int}: 0 <= a - (min a b) := by walk_at "q"
theorem fq94 {a b : Int}: 0 <= a - (min b a) := by intros; have := eU b a; have := eT b a; have := fz b a; generalize min b a = z1 at *; lia -abstractProof
theorem fq95 {a b : Int}: a - 1 < b -> a <= b := by walk_at "q"
theorem fq96 {a b : Int}: a < b -> a + 1 <= b := by walk_at "q"
theorem fq97 {a b : Int}: a <= 6 -> b <= a + 10 -> b <= ((16 : Nat) : Int) := by walk_at "q"
theorem fq98 {a b : Int}: a <= 6 -> b <= a + 10 -> b <= 16 := by walk_at "q"
theorem fq99 {a b : Int}: a <= 6 -> b <= a -> b <= ((20 : Nat) : Int) := by walk_at "q"
theorem wk {a b : Int}: a <= 6 -> b <= a -> b <= 100 := by walk_at "q"
theorem wj {a b c : Int}: a <= b -> a - c <= b - c := by walk_at "q"
theorem wi {k : Nat}: 1 <= k + 1 := by walk_at "q"
theorem wg {k : Nat}: 4 <= k -> 24 <= k + 20 := by walk_at "q"
theorem wf {k : Nat}: k < 4 -> ((k = 0) \/ (((k = 1) \/ (((k = 2) \/ (k = 3)))))) := by walk_at "q"
theorem wd {k : Nat}: k <= 0 -> k = 0 := by walk_at "q"
theorem wb {k : Nat}: k <= 40 -> (((-20) <= (k : Int) - 20) /\ ((k : Int) - 20 <= 20)) := by walk_at "q"
theorem v9 {k : Nat}: k <= 46 -> ((0 <= (k : Int)) /\ ((k : Int) <= 400)) := by intros; constructor <;> lia -abstractProof
theorem v8 {k : Nat}: k <= 6 -> k + 20 <= 26 := by walk_at "q"
theorem v7 {k l : Nat}: k + 1 <= l -> k < l := by walk_at "q"
theorem v6 {k l : Nat}: k + 1 <= l -> l = (l - 1) + 1 := by walk_at "q"
theorem v5 {k l : Nat}: k <= l + 1 -> k / 10 <= l := by walk_at "q"
theorem v4 {k l : Nat}: k <= l -> (k : Int) <= (l : Int) := by walk_at "q"
theorem vZ {k l m : Nat}: k + (10 * l) < 9000 -> m <= l -> k + (10 * m) < 9000 := by walk_at "q"
theorem vW {k l m : Nat}: k + l < 900 -> m <= l -> k + m < 900 := by walk_at "q"
theorem vV {k l m : Nat}: k < l -> l <= m + 1 -> k <= m := by walk_at "q"
theorem vU {k l m : Nat}: k = ((2 * l) + 30) + m -> l <= 6 -> m <= 1 -> k <= 46 := by walk_at "q"
theorem fq117 : 0 <= (100 : Int) := by walk_at "q"
theorem fq118 : 1 + 1000 <= (1001 : Nat) := by walk_at "q"
theorem fq119 : 1002 <= (2300 : Nat) := by walk_at "q"
theorem fq120 {a : Int} {k : Nat}: (k : Int) <= a -> k <= (Int.natAbs a) := by intros; have := db a; have := da a; generalize Int.natAbs a = z1 at *; lia -abstractProof
theorem fq121 {a : Int} {k : Nat}: 0 < a -> k <= (Int.natAbs a) -> (k : Int) <= a := by walk_at "q"
theorem fq122 {a : Int} {k : Nat}: a + ((-(k : Int)) - 1) <= 22 -> k <= 46 -> a <= 2000 := by walk_at "q"
theorem fq123 {a : Int} {k : Nat}: a <= (((k + 21) : Nat) : Int) + 1 -> a <= (k : Int) + 22 := by walk_at "q"
theorem fq124 {a : Int} {k l : Nat}: a = (k : Int) - (l : Int) -> k + 1 <= l -> a = (-(((l - k) : Nat) : Int)) := by walk_at "q"
theorem fq125 {a : Int} {k l : Nat}: a = (k : Int) - (l : Int) -> l + 1 <= k -> a = (((k - l) : Nat) : Int) := by walk_at "q"
theorem fq126 {a : Int} {k l : Nat}: a = (k : Int) -> k <= l -> a <= (l : Int) := by walk_at "q"
theorem fq127 {a : Int} {k l m n : Nat}: a = (k : Int) -> l = (k + m) - n -> l <= 1 -> n <= (k + m) + 10 -> (((-10) <= a + ((-(n : Int)) + (m : Int))) /\ (a + ((-(n : Int)) + (m : Int)) <= 1)) := by intros; constructor <;> lia -abstractProof
theorem fq128 {a : Int}: ((a < 0) \/ (0 <= a)) := by walk_at "q"
theorem fq129 {a : Int}: (-((-1) * a)) = a := by walk_at "q"
theorem fq130 {a : Int}: (-2) <= a -> a <= 1 -> (((-200) <= a) /\ (a <= 200)) := by intros; constructor <;> lia -abstractProof
theorem fq131 {a : Int}: (-2) <= a -> a <= 1 -> (((-50) <= a) /\ (a <= 50)) := by walk_at "q"
theorem fq132 {a : Int}: (-2) <= a -> a <= 3 -> (((-20) <= a) /\ (a <= 20)) := by walk_at "q"
theorem fq133 {a : Int}: (-2) <= a -> a <= 4 -> (((-12) <= a) /\ (a <= 4)) := by walk_at "q"
theorem fq134 {a : Int}: (2 * a) / 2 = a := by walk_at "q"
theorem fq135 {a : Int}: 0 < a -> (Int.toNat (a / 10)) < (Int.toNat a) := by walk_at "q"
theorem fq136 {a : Int}: 0 < a -> 1 <= a := by walk_at "q"
theorem fq137 {a : Int}: 0 < a -> ¬ ((-a) = 0) := by walk_at "q"
theorem fq138 {a : Int}: 0 < a -> ¬ (2 * a = 0) := by walk_at "q"
theorem fq139 {a : Int}: 0 < a -> ¬ (a <= 0) := by walk_at "q"
theorem fq140 {a : Int}: 0 <= a -> ((a = 0) \/ (0 < a)) := by walk_at "q"
theorem fq141 {a : Int}: 0 <= a -> a < 3 -> (((-2) <= a - 2) /\ (a - 2 <= 0)) := by walk_at "q"
theorem fq142 {a : Int}: 0 <= a -> ¬ (a = 0) -> 0 < a := by walk_at "q"
theorem fq143 {a : Int}: 1 * a = a := by walk_at "q"
theorem fq144 {a : Int}: 1 <= a -> 0 < (Int.natAbs a) := by walk_at "q"
theorem fq145 {a : Int}: 1 <= a -> 0 <= a - 1 := by walk_at "q"
theorem fq146 {a : Int}: 1 <= a -> a = (((Int.toNat a) : Nat) : Int) := by walk_at "q"
theorem fq147 {a : Int}: 1 <= a -> a <= 50 -> ((0 <= a) /\ (a <= 100)) := by intros; constructor <;> lia -abstractProof
theorem fq148 {a : Int}: 10 <= a -> 0 <= a := by walk_at "q"
theorem fq149 {a : Int}: 14 <= a -> 2 <= a := by walk_at "q"
theorem fq150 {a : Int}: 4 <= a -> 0 - a < 2300 := by walk_at "q"
theorem fq151 {a : Int}: 4 <= a -> 1 - a <= (-3) := by walk_at "q"
theorem fq152 {a : Int}: 4 <= a -> a = (((Int.toNat a) : Nat) : Int) := by walk_at "q"
theorem fq153 {a : Int}: 4 <= a -> a <= 6 -> ((2 <= a + 10) /\ (a + 10 <= 20)) := by intros; constructor <;> lia -abstractProof
theorem fq154 {a : Int}: a - 0 = a := by walk_at "q"
theorem fq155 {a : Int}: a < 2300 -> a <= 100000 := by walk_at "q"
theorem fq156 {a : Int}: a < a + 1 := by walk_at "q"
theorem fq157 {a : Int}: a = 0 -> ¬ (a < 0) := by walk_at "q"
theorem fq158 {a : Int}: a = 3 -> ¬ (a = 3) -> False := by walk_at "q"
theorem fq159 {a : Int}: a = 4 -> ¬ (a = 4) -> False := by walk_at "q"
theorem fq160 {a : Int}: a <= (((Int.toNat a) : Nat) : Int) := by intros; have := dv a; have := dk a; have := dH a; generalize Int.toNat a = z1 at *; lia -abstractProof
theorem fq161 {a : Int}: a <= ((100 : Nat) : Int) -> a + 1 <= 101 := by walk_at "q"
theorem fq162 {a : Int}: a <= ((100 : Nat) : Int) -> a <= 101 := by walk_at "q"
theorem fq163 {a : Int}: a <= (100 * 100000) -> a <= ((2 : Int) ^ 27) := by walk_at "q"
theorem fq164 {a : Int}: a <= 101 -> (Int.toNat (a - 1)) + 1 <= 102 := by intros; have := dv (a - 1); have := dk (a - 1); have := dH (a - 1); generalize Int.toNat (a - 1) = z1 at *; lia -abstractProof
theorem fq165 {a : Int}: a <= 23 -> a <= 23 := by walk_at "q"
theorem fq166 {a : Int}: a <= 32 -> a <= 2000 := by walk_at "q"
theorem fq167 {a : Int}: a <= 38 -> (Int.toNat a) <= 40 := by intros; have := dv a; have := dk a; have := dH a; generalize Int.toNat a = z1 at *; lia -abstractProof
theorem fq168 {a : Int}: a <= 400 -> (Int.toNat a) + 1 <= 2900 := by walk_at "q"
theorem fq169 {a : Int}: a <= 400 -> (Int.toNat a) + 2 <= 1001 := by walk_at "q"
theorem fq170 {a : Int}: a <= 400 -> (Int.toNat a) + 3 <= 2300 := by intros; have := dv a; have := dk a; have := dH a; generalize Int.toNat a = z1 at *; lia -abstractProof
theorem fq171 {a : Int}: a <= 400 -> (Int.toNat a) <= 700 := by walk_at "q"
theorem fq172 {a : Int}: a <= 6 -> (-5) <= 1 - a := by walk_at "q"
theorem fq173 {a : Int}: a <= 6 -> a + 10 <= 16 := by walk_at "q"
theorem fq174 {a : Int}: a <= 700 -> ((Int.toNat a) + 1) + ((Int.toNat a) + 3) <= 2300 := by intros; have := dv a; have := dk a; have := dH a; generalize Int.toNat a = z1 at *; lia -abstractProof
theorem fq175 {a : Int}: a <= 700 -> (Int.toNat a) + 1 <= 2300 := by walk_at "q"
theorem fq176 {a : Int}: a <= 700 -> (Int.toNat a) + 2 <= 2300 := by walk_at "q"
theorem fq177 {a : Int}: a <= 700 -> a <= 100000 := by walk_at "q"
theorem fq178 {a : Int}: ¬ ((-a) = 0) -> ¬ (a = 0) := by walk_at "q"
theorem fq179 {a : Int}: ¬ (a % 10 = 0) -> ¬ ((-a) % 10 = 0) := by walk_at "q"
theorem fq180 {a : Int}: ¬ (a < 0) -> 0 <= a := by walk_at "q"
theorem fq181 {a : Int}: ¬ (a < 0) -> a = (((Int.natAbs a) : Nat) : Int) := by walk_at "q"
theorem fq182 {a b : Int} {k : Nat}: (k : Int) = a -> a = b -> b <= ((400 : Nat) : Int) -> k < ((2 : Nat) ^ 20) := by walk_at "q"
theorem fq183 {a b : Int} {k : Nat}: (k : Int) = a -> a <= b -> b <= 10 -> k < ((2 : Nat) ^ 20) := by walk_at "q"
theorem fq184 {a b : Int} {k : Nat}: 1 <= a -> b = (k : Int) -> k <= 46 -> (-496) <= (a + ((-b) - 1)) - 1 := by walk_at "q"
theorem fq185 {a b : Int} {k : Nat}: 1 <= a -> b = (k : Int) -> k <= 46 -> (-496) <= (a + (-b)) - 1 := by walk_at "q"
theorem fq186 {a b : Int}: (-(1 * (a - b))) = b - a := by walk_at "q"
theorem fq187 {a b : Int}: (-1) * (a - b) = b - a := by walk_at "q"
theorem fq188 {a b : Int}: (-10) <= a -> 4 <= b -> ¬ (a < (-(b + 10))) := by walk_at "q"
theorem fq189 {a b : Int}: (-100) <= a -> b <= 110 -> (2 * b) - a < 2300 := by walk_at "q"
theorem fq190 {a b : Int}: (-110) <= a -> b <= 100 -> b - (2 * a) < 2300 := by walk_at "q"
theorem fq191 {a b : Int}: (-2) <= a -> 0 <= b -> a <= 0 -> b <= 38 -> ¬ (b = 0) -> ((0 < b) /\ (((b <= 38) /\ ((((-2) <= a) /\ (a <= 0)))))) := by walk_at "q"
theorem fq192 {a b : Int}: (-2) <= a -> b <= 1 -> b - a < 500 := by walk_at "q"
theorem fq193 {a b : Int}: (-4) <= a -> b <= 2 -> b - a <= ((6 : Nat) : Int) := by walk_at "q"
theorem fq194 {a b : Int}: (-50) <= a -> b <= 50 -> (2 * b) - (2 * a) < 2300 := by walk_at "q"
theorem fq195 {a b : Int}: (-50) <= a -> b <= 50 -> (2 * b) - (2 * a) <= ((200 : Nat) : Int) := by walk_at "q"
theorem fq196 {a b : Int}: (2 * a) - b = (a + a) - b := by walk_at "q"
theorem fq197 {a b : Int}: 0 < a -> a <= b -> 0 < a + b := by walk_at "q"
theorem fq198 {a b : Int}: 0 < a -> a <= b -> 0 <= a + b := by walk_at "q"
theorem fq199 {a b : Int}: 0 <= a -> 0 <= b -> 0 <= a + b := by walk_at "q"
theorem fq200 {a b : Int}: 0 <= a -> 0 <= b -> a < 12 -> b < 4 -> ((0 <= (b * 9) + a) /\ ((b * 9) + a <= 38)) := by intros; constructor <;> lia -abstractProof
theorem fq202 {a b : Int}: 1 <= a -> 1 <= b -> 0 < a + b := by walk_at "q"
theorem fq203 {a b : Int}: 1 <= a -> b <= ((100 : Nat) : Int) -> b - a < 2300 := by walk_at "q"
theorem fq204 {a b : Int}: 1 <= a -> b <= 60 -> (-496) <= (a + (-b)) - 1 := by walk_at "q"
theorem fq205 {a b : Int}: 100 <= a -> b <= 22 -> b <= a := by walk_at "q"
theorem fq206 {a b : Int}: 3 <= a -> b <= 4 -> b <= a + 1 := by walk_at "q"
theorem fq207 {a b : Int}: a - b < 2300 -> (Int.toNat (a - (min a b))) < 2300 := by intros; have := eU a b; have := eT a b; have := fz a b; generalize min a b = z1 at *; have := dv (a - z1); have := dk (a - z1); have := dH (a - z1); generalize Int.toNat (a - z1) = z2 at *; lia -abstractProof
theorem fq208 {a b : Int}: a - b < 2300 -> (Int.toNat (a - (min b a))) < 2300 := by intros; have := eU b a; have := eT b a; have := fz b a; generalize min b a = z1 at *; have := dv (a - z1); have := dk (a - z1); have := dH (a - z1); generalize Int.toNat (a - z1) = z2 at *; lia -abstractProof
theorem fq209 {a b : Int}: a - b < 2300 -> a - (min a b) <= 100000 := by intros; have := eU a b; have := eT a b; have := fz a b; generalize min a b = z1 at *; lia -abstractProof
theorem fq210 {a b : Int}: a - b < 2300 -> a - (min b a) <= 100000 := by intros; have := eU b a; have := eT b a; have := fz b a; generalize min b a = z1 at *; lia -abstractProof
theorem fq211 {a b : Int}: a - b < 500 -> (a + a) - (b + b) < 2300 := by walk_at "q"
theorem fq212 {a b : Int}: a <= ((((2 * (Int.toNat b)) + 3) : Nat) : Int) -> b <= 400 -> a < 2300 := by walk_at "q"
theorem fq213 {a b : Int}: a <= ((20 : Nat) : Int) -> b <= 60 -> (((-999) <= (max ((-999) : Int) (a + b))) /\ ((max ((-999) : Int) (a + b)) <= 160)) := by intros; have := c9 ((-999) : Int) (a + b); have := c8 ((-999) : Int) (a + b); have := dS ((-999) : Int) (a + b); generalize max ((-999) : Int) (a + b) = z1 at *; constructor <;> lia -abstractProof
theorem fq214 {a b : Int}: a <= 1 -> b <= 2 -> b + a <= 10 := by walk_at "q"
theorem fq215 {a b : Int}: a <= 16 -> b <= a -> b <= 16 := by walk_at "q"
theorem fq216 {a b : Int}: a <= 400 -> b <= 400 -> a + b < 2300 := by walk_at "q"
theorem fq217 {a b : Int}: a <= 400 -> b <= 400 -> a + b <= 800 := by walk_at "q"
theorem fq218 {a b : Int}: a <= 6 -> b <= a + 10 -> b <= 2000 := by walk_at "q"
theorem fq219 {a b : Int}: a <= b -> (Int.toNat (max (0 : Int) (a - b))) = 0 := by intros; have := c9 (0 : Int) (a - b); have := c8 (0 : Int) (a - b); have := dS (0 : Int) (a - b); generalize max (0 : Int) (a - b) = z1 at *; have := dv z1; have := dk z1; have := dH z1; generalize Int.toNat z1 = z2 at *; lia -abstractProof
theorem fq220 {a b : Int}: a <= b -> (max (0 : Int) (b - a)) = b - a := by intros; have := c9 (0 : Int) (b - a); have := c8 (0 : Int) (b - a); have := dS (0 : Int) (b - a); generalize max (0 : Int) (b - a) = z1 at *; lia -abstractProof
theorem fq221 {a b : Int}: a <= b -> 0 <= b - a := by walk_at "q"
theorem fq222 {a b : Int}: a <= b -> b <= a -> a = b := by walk_at "q"
theorem fq223 {a b : Int}: a <= b -> ¬ (b < a) := by walk_at "q"
theorem fq224 {a b c : Int} {k : Nat} (h1 : (-100) <= a) (h2 : (k : Int) = b) (h3 : a <= 100) (h4 : c <= 10) : (((-110) <= (min a ((a + b) - c))) /\ ((min a ((a + b) - c)) <= 110)) :=
  ⟨Int.le_min.mpr ⟨by lia -abstractProof, by lia -abstractProof⟩, Int.le_trans (Int.min_le_left _ _) (by lia -abstractProof)⟩
theorem fq225 {a b c : Int} {k : Nat}: (k : Int) = a -> b <= 10 -> c - ((c + a) - b) < 2300 := by walk_at "q"
theorem fq226 {a b c : Int} {k : Nat}: (k : Int) = a -> b <= 10 -> c - ((c + a) - b) <= ((10 : Nat) : Int) := by walk_at "q"
theorem fq227 {a b c : Int}: ((0 < a) \/ (((a = 0) /\ (b < 0)))) -> a < 0 -> 0 < c := by walk_at "q"
theorem fq229 {a b c : Int}: 1 <= a -> a <= ((((Int.toNat a) - 1) : Nat) : Int) -> b <= c := by walk_at "q"
theorem fq230 {a b c : Int}: a < b -> c <= a -> c < b := by walk_at "q"
theorem fq231 {a b c : Int}: a = b + c -> b <= 2 -> c <= 1 -> a <= 4 := by walk_at "q"
theorem fq232 {a b c : Int}: a = b -> c <= a -> c <= b := by walk_at "q"
theorem fq233 {a b c : Int}: a <= b -> ((c + a) - b) - c < 2300 := by walk_at "q"
theorem fq234 {a b c : Int}: a <= b -> ((c + a) - b) - c <= ((10 : Nat) : Int) := by walk_at "q"
theorem fq236 {a b c d : Int}: (-200) <= a -> (-200) <= b -> c = (min a b) -> d <= 500 -> (max (0 : Int) (d - c)) <= 2260 := by intros; have := eU a b; have := eT a b; have := fz a b; generalize min a b = z1 at *; have := c9 (0 : Int) (d - c); have := c8 (0 : Int) (d - c); have := dS (0 : Int) (d - c); generalize max (0 : Int) (d - c) = z2 at *; lia -abstractProof
theorem fq237 {a b c d : Int}: (-2050) <= a -> b = (min c d) -> c <= 200 -> (max (0 : Int) (b - a)) <= 2260 := by intros; have := eU c d; have := eT c d; have := fz c d; generalize min c d = z1 at *; have := c9 (0 : Int) (b - a); have := c8 (0 : Int) (b - a); have := dS (0 : Int) (b - a); generalize max (0 : Int) (b - a) = z2 at *; lia -abstractProof
theorem fq238 {a b c d : Int}: (max a b) = c -> d <= a -> d <= c := by intros; have := c9 a b; have := c8 a b; have := dS a b; generalize max a b = z1 at *; lia -abstractProof
theorem fq239 {a b c d : Int}: (max a b) = c -> d <= b -> d <= c := by intros; have := c9 a b; have := c8 a b; generalize max a b = z1 at *; lia -abstractProof
theorem fq240 {a b c d : Int}: 0 < a -> 2 * b <= c -> 2 * c <= d -> d <= a -> b < a := by walk_at "q"
theorem fq241 {a b c d : Int} (h : 0 <= a) (h1 : 2 * a <= b) (h2 : 2 * b <= c) (h3 : c <= d) : (Int.natAbs a) <= (Int.natAbs d) := vA (by lia -abstractProof) (by lia -abstractProof)
theorem fq242 {a b c d : Int}: a = b + c -> b <= 2 -> c <= 1 -> d = a -> d <= 4 := by walk_at "q"
theorem fq243 {a b c d : Int}: a <= 6 -> (-10) <= b -> b <= 1 -> c <= a -> 1 <= c -> b = c + d -> (((-400) <= d) /\ (d <= 400)) := by walk_at "q"
theorem fq244 {k : Nat}: (((k + 1) + 1) + 1) + 1 = k + 4 := by walk_at "q"
theorem fq245 {k : Nat}: ((k < 10) \/ (((((10 <= k) /\ (k < 20))) \/ (((((20 <= k) /\ (k < 30))) \/ (30 <= k)))))) := by walk_at "q"
theorem fq246 {k : Nat}: (Int.toNat ((k : Int) + 21)) = k + 21 := by walk_at "q"
theorem fq247 {k : Nat}: (Int.toNat ((k : Int) - 1)) = k - 1 := by walk_at "q"
theorem fq248 {k : Nat}: (Int.toNat (k : Int)) = k := by walk_at "q"
theorem fq249 {k : Nat}: (k : Int) <= 6 -> 4 <= (k : Int) -> ((4 <= k) /\ (k <= 6)) := by intros; constructor <;> lia -abstractProof
theorem fq250 {k : Nat}: 0 - (k : Int) < 2300 := by walk_at "q"
theorem fq251 {k : Nat}: 0 < (k : Int) -> 0 < k := by walk_at "q"
theorem fq252 {k : Nat}: 0 < k -> ¬ (2 * (k : Int) = 0) := by walk_at "q"
theorem fq253 {k : Nat}: 0 <= (k : Int) + 1 := by walk_at "q"
theorem fq254 {k : Nat}: 1 + (k + 2) <= k + 3 := by walk_at "q"
theorem fq255 {k : Nat}: 1 <= k -> 1 <= (k : Int) := by walk_at "q"
theorem fq256 {k : Nat}: 2 <= k + 2 := by walk_at "q"
theorem fq257 {k : Nat}: 4 <= k -> 4 <= (k : Int) := by walk_at "q"
theorem fq258 {k : Nat}: 4 <= k -> k <= 6 -> ((1 <= (k : Int)) /\ ((k : Int) <= 10)) := by intros; constructor <;> lia -abstractProof
theorem fq259 {k : Nat}: k < 4 -> k <= 3 := by walk_at "q"
theorem fq260 {k : Nat}: k <= 100 -> (k : Int) <= 100 := by walk_at "q"
theorem fq261 {k : Nat}: k <= 20 -> k <= 100 := by walk_at "q"
theorem fq262 {k : Nat}: k <= 6 -> ((0 <= ((k : Int) + 10) + 10) /\ (((k : Int) + 10) + 10 <= 60)) := by intros; constructor <;> lia -abstractProof
theorem fq263 {k : Nat}: k <= 6 -> ((k : Int) + 10) + 10 <= 60 := by walk_at "q"
theorem fq264 {k : Nat}: k <= 6 -> k + 20 <= 46 := by walk_at "q"
theorem fq265 {k : Nat}: k <= k := by walk_at "q"
theorem fq266 {k : Nat}: k <= k + 801 := by walk_at "q"
theorem fq267 {k : Nat}: ¬ (k % 10 = 0) -> 0 < k := by walk_at "q"
theorem fq268 {k : Nat}: ¬ (k % 10 = 0) -> ¬ ((k : Int) % 10 = 0) := by walk_at "q"
theorem fq269 {k : Nat}: ¬ (k = 0) -> ¬ ((k : Int) = 0) := by walk_at "q"
theorem fq270 {k l : Nat}: (2 * (k + 1)) + 1 <= l -> l = ((l - 2) + 1) + 1 := by walk_at "q"
theorem fq271 {k l : Nat} : (Int.toNat (((k : Int) - 2) + (l : Int))) = (k + l) - 2 := ktn (by lia -abstractProof)
theorem fq272 {k l : Nat}: (k : Int) + (20 * (l : Int)) = ((((20 * l) + k) : Nat) : Int) := by walk_at "q"
theorem fq273 {k l : Nat}: 2 * (k + 1) <= (l + 1) + 1 -> 2 * k <= l := by walk_at "q"
theorem fq274 {k l : Nat}: 2 * (k + 1) <= l -> l = ((l - 2) + 1) + 1 := by walk_at "q"
theorem fq275 {k l : Nat}: 2 * (k + 1) <= l -> l = (l - 1) + 1 := by walk_at "q"
theorem fq276 {k l : Nat}: k + (10 * (l + 1)) < 9000 -> (k + 3) + (10 * l) < 9000 := by walk_at "q"
theorem fq277 {k l : Nat}: k + (l + 1) < 900 -> (k + 1) + l < 900 := by walk_at "q"
theorem fq278 {k l : Nat}: k + 1 <= l + 1 -> k <= l := by walk_at "q"
theorem fq279 {k l : Nat}: k + l < 900 -> k < 1000 := by walk_at "q"
theorem fq280 {k l : Nat}: k - l = 3 -> k < 4 -> k = 3 := by walk_at "q"
theorem fq281 {k l : Nat}: k < 4 -> k - l < 4 := by walk_at "q"
theorem fq282 {k l : Nat}: k < l -> k <= l := by walk_at "q"
theorem fq283 {k l : Nat}: k = l + 1 -> 1 <= (k : Int) := by walk_at "q"
theorem fq284 {k l : Nat}: k <= (k + l) + 2 := by walk_at "q"
theorem fq285 {k l : Nat}: k <= 20 * l -> (-(k : Int)) + (20 * (l : Int)) = ((((20 * l) - k) : Nat) : Int) := by walk_at "q"
theorem fq286 {k l : Nat}: k <= l -> (l - k) + k = l := by walk_at "q"
theorem fq287 {k l : Nat}: k <= l -> k + (l - k) = l := by walk_at "q"
theorem fq288 {k l : Nat}: k <= l -> l <= k -> k = l := by walk_at "q"
theorem fq289 {k l m : Nat}: 4 <= k -> k <= 6 -> l = ((2 * k) + 30) + m -> m <= 1 -> ((38 <= l) /\ (l <= 46)) := by intros; constructor <;> lia -abstractProof
theorem fq290 {k l m : Nat}: k + l < 9000 -> m = 9900 -> k + 64 < m := by walk_at "q"
theorem fq291 {k l m : Nat}: k < l + m -> l <= k -> k - l < m := by walk_at "q"
theorem fq292 {k l m n : Nat} (h : k = ((2 * l) + 30) + ((m + n) - 2)) (hm : m <= 2) : ((((l : Int) + 10) + (max ((l : Int) + 10) (m : Int))) + 10) + (max (0 : Int) ((m : Int) + ((n : Int) - 2))) = (k : Int) :=
  kpl (by lia -abstractProof) (kmx (a := m + n) (b := 2) (by lia -abstractProof)) h
theorem fq293 {k l m n o p : Nat}: k = ((2 * l) + 30) + m -> n <= (o + p) + 10 -> o <= l -> 0 <= ((-(n : Int)) + (p : Int)) + (k : Int) := by walk_at "q"
theorem fq294 : (((-999) <= ((-999) : Int)) /\ ((-999) <= (160 : Int))) := by walk_at "q"
theorem fq295 : (((0 + 1) + 1) + 4) + 5 < (100 : Nat) := by walk_at "q"
theorem fq296 : ((0 + 1) + 1) + 5 < (100 : Nat) := by walk_at "q"
theorem fq297 : 0 + 1 < (100 : Nat) := by walk_at "q"
theorem fq299 : 0 < (100 : Nat) := by walk_at "q"
theorem fq300 : 1 <= (0 + 1 : Nat) := by walk_at "q"
theorem fq301 : 1 <= (1 + 1 : Int) := by walk_at "q"
theorem fq302 : 2 <= (1 + 1 : Int) := by walk_at "q"
theorem fq303 : ¬ (300 < (0 : Nat)) := by walk_at "q"
theorem fq304 {a : Int} {k : Nat}: (((k : Int) - (4 * a)) + 0) % 4 = (((k % 4) : Nat) : Int) := by walk_at "q"
theorem fq305 {a : Int} {k : Nat}: (((k : Int) - (4 * a)) + 1) % 4 = (((((k % 4) + 1) % 4) : Nat) : Int) := by walk_at "q"
theorem fq306 {a : Int} {k : Nat}: ((a = 1) -> (k <= 3)) -> a = 1 -> k < 10 := by walk_at "q"
theorem fq307 {a : Int} {k : Nat} (h : (Int.natAbs ((9 * a) + 99)) <= k) : (Int.toNat (((2 * (((Int.natAbs a) : Nat) : Int)) + 1) + ((4 * a) + 10))) <= k := by
  refine Int.toNat_le.mpr (Int.le_trans ?_ (Int.ofNat_le.mpr h))
  have h1 := da ((9 * a) + 99)
  have h2 := db ((9 * a) + 99)
  rcases dg a with h3 | h3 <;> lia -abstractProof
theorem fq308 {a : Int} {k : Nat}: (Int.natAbs a) < k -> (Int.natAbs (-a)) < k := by intros; have := db a; have := da a; have := dg a; generalize Int.natAbs a = z1 at *; have := db (-a); have := da (-a); have := dg (-a); generalize Int.natAbs (-a) = z2 at *; lia -abstractProof
theorem fq309 {a : Int} {k : Nat}: (Int.natAbs a) < k -> a < (k : Int) := by intros; have := db a; have := da a; have := dg a; generalize Int.natAbs a = z1 at *; lia -abstractProof
theorem fq310 {a : Int} {k : Nat}: (Int.natAbs a) = k * 10 -> ¬ (a % 10 = 0) -> False := by intros; have := db a; have := da a; have := dg a; generalize Int.natAbs a = z1 at *; lia -abstractProof
theorem fq311 {a : Int} {k : Nat}: (Int.toNat a) < k -> k <= 10 -> a < ((2 : Int) ^ 63) := by walk_at "q"
theorem fq312 {a : Int} {k : Nat}: (Int.toNat a) < k -> k <= 100 -> a < ((2 : Int) ^ 63) := by intros; have := dv a; have := dk a; generalize Int.toNat a = z1 at *; lia -abstractProof
theorem fq313 {a : Int} {k : Nat}: (a - 1) - (k : Int) < a := by walk_at "q"
theorem fq314 {a : Int} {k : Nat}: (k : Int) <= a -> ((0 <= (k : Int)) /\ ((k : Int) <= a)) := by intros; constructor <;> lia -abstractProof
theorem fq315 {a : Int} {k : Nat}: 1 <= a -> k <= 46 -> (-496) <= (a + (-(k : Int))) - 1 := by walk_at "q"
theorem fq316 {a : Int} {k : Nat}: 5 * (k : Int) <= 6 * a -> (1 + 1) + (((2 * (k : Int)) + 0) + 0) <= (7 * a) + 20 := by walk_at "q"
theorem fq317 {a : Int} {k : Nat}: 5 * (k : Int) <= 6 * a -> (1 + 1) + (((2 * (k : Int)) + 1) + 0) <= (7 * a) + 20 := by walk_at "q"
theorem fq318 {a : Int} {k : Nat}: 5 * (k : Int) <= 6 * a -> (k : Int) <= 2 * a := by walk_at "q"
theorem fq319 {a : Int} {k : Nat}: 5 * (k : Int) <= 6 * a -> k <= (Int.natAbs (2 * a)) := by intros; have := db (2 * a); have := da (2 * a); generalize Int.natAbs (2 * a) = z1 at *; lia -abstractProof
theorem fq320 {a : Int} {k : Nat}: a % 4 = (k : Int) -> ((k = 0) \/ (((k = 1) \/ (((k = 2) \/ (k = 3)))))) := by walk_at "q"
theorem fq321 {a : Int} {k : Nat}: a + ((k : Int) + 2) = a + (((k + 2) : Nat) : Int) := by walk_at "q"
theorem fq322 {a : Int} {k : Nat}: a < (k : Int) -> a <= (((k - 1) : Nat) : Int) := by walk_at "q"
theorem fq323 {a : Int} {k : Nat}: a = (k : Int) -> 0 <= (a + 1) / 2 := by walk_at "q"
theorem fq324 {a : Int} {k : Nat}: a = (k : Int) -> k <= 12 -> a <= 12 := by walk_at "q"
theorem fq325 {a : Int} {k : Nat}: a <= (((k + 1) : Nat) : Int) + 1 -> a <= (k : Int) + 2 := by walk_at "q"
theorem fq326 {a : Int} {k : Nat}: a <= (((k + 1) : Nat) : Int) -> a <= (k : Int) + 1 := by walk_at "q"
theorem fq327 {a : Int} {k : Nat}: a <= (((k + 2) : Nat) : Int) + 1 -> a + (-(k : Int)) <= 496 := by walk_at "q"
theorem fq328 {a : Int} {k : Nat}: a <= (((k + 2) : Nat) : Int) + 1 -> k <= 46 -> a <= 2000 := by walk_at "q"
theorem fq329 {a : Int} {k : Nat}: a <= 800 -> k + ((Int.toNat a) + 1) <= k + 801 := by walk_at "q"
theorem fq330 {a : Int} {k : Nat}: a <= a + (k : Int) := by walk_at "q"
theorem fq331 {a : Int} {k : Nat}: k <= 40 -> ((k : Int) - 20) - a <= 20 - a := by walk_at "q"
theorem fq332 {a : Int} {k l : Nat}: ((k : Int) - a) + (l : Int) = (((k + l) : Nat) : Int) - a := by walk_at "q"
theorem fq333 {a : Int} {k l : Nat}: (a - (k : Int)) + (-(l : Int)) = a - (((k + l) : Nat) : Int) := by walk_at "q"
theorem fq334 {a : Int} {k l : Nat}: 1 <= a -> ¬ (0 < a) -> k <= l := by walk_at "q"
theorem fq335 {a : Int} {k l : Nat} (h : 5 * (k : Int) <= 6 * a) : (Int.toNat (((2 * (k : Int)) + 0) + 0)) < (Int.toNat (((2 * (l : Int)) + 1) + ((4 * a) + 10))) :=
  ktl (by lia -abstractProof) (by lia -abstractProof)
theorem fq336 {a : Int} {k l : Nat}: 5 * (k : Int) <= 6 * a -> (Int.toNat (((2 * (k : Int)) + 1) + 0)) < (Int.toNat (((2 * (l : Int)) + 1) + ((4 * a) + 10))) := by walk_at "q"
theorem fq337 {a : Int} {k l : Nat}: a = (k : Int) + (l : Int) -> a <= (((k + l) : Nat) : Int) := by walk_at "q"
theorem fq338 {a : Int} {k l : Nat}: a = (k : Int) -> k <= l -> ¬ (0 < a - (l : Int)) := by walk_at "q"
theorem fq339 {a : Int} {k l : Nat}: a <= (a + (k : Int)) + (l : Int) := by walk_at "q"
theorem fq340 {a : Int} {k l m : Nat}: a = (k : Int) -> l < k -> m = k - l -> a - (l : Int) = (m : Int) := by walk_at "q"
theorem fq341 {a : Int} {k l m : Nat}: k = l + m -> ((a + (l : Int)) - 1) + (m : Int) = (a + (k : Int)) - 1 := by walk_at "q"
theorem fq342 {a : Int} {k l m : Nat}: k = l + m -> (a + (l : Int)) + (m : Int) = a + (k : Int) := by walk_at "q"
theorem fq343 {a : Int} {k l m n : Nat}: 1 <= a -> k = ((2 * l) + 30) + m -> l <= 6 -> m <= 1 -> (-496) <= (a + (((n : Int) - 20) - (k : Int))) - 1 := by walk_at "q"
theorem fq344 {a : Int} {k l m n : Nat}: 1 <= k -> a = (k : Int) + (l : Int) -> a <= ((((k + l) - 1) : Nat) : Int) -> m <= n := by walk_at "q"
theorem fq345 {a : Int} {k l m n : Nat} (ha : a = 3) (h : k = (l + m) - (n + 1)) (h1 : k <= 1) : ¬ (a + 1 < (l : Int) + (((-(n : Int)) + (m : Int)) - 1)) := by
  subst ha
  have : l + m <= n + 1 + 1 := Nat.sub_le_iff_le_add'.mp (h ▸ h1)
  lia -abstractProof
theorem fq346 {a : Int}: ((0 <= (max a (0 : Int))) /\ (a <= (max a (0 : Int)))) := by intros; have := c9 a (0 : Int); have := c8 a (0 : Int); generalize max a (0 : Int) = z1 at *; lia -abstractProof
theorem fq347 {a : Int}: ((1 - (a % 2) = 0) \/ (1 - (a % 2) = 1)) := by walk_at "q"
theorem fq348 {a : Int}: ((a = 0) \/ (a = 1)) -> 0 <= a := by walk_at "q"
theorem fq349 {a : Int}: ((a = 0) \/ (¬ (a = 0))) := by walk_at "q"
theorem fq350 {a : Int}: ((a = 1) \/ (a = 2)) -> (Int.natAbs a) < 1152921504606846976 := by walk_at "q"
theorem fq351 {a : Int}: (-10) <= a -> a <= 1 -> (((-12) <= a) /\ (a <= 4)) := by walk_at "q"
theorem fq352 {a : Int}: (-2) < a -> a <= 2 -> (((-1) <= a) /\ (a <= 2)) := by intros; constructor <;> lia -abstractProof
theorem fq353 {a : Int}: (-2) < a -> a <= 2 -> (((-2) <= a) /\ (a <= 3)) := by walk_at "q"
theorem fq354 {a : Int}: (-2) <= a -> a = (((Int.toNat (a + 2)) : Nat) : Int) - 2 := by walk_at "q"
theorem fq355 {a : Int}: (-2) <= a -> a <= 1 -> (((-30) <= a) /\ (a <= 30)) := by intros; constructor <;> lia -abstractProof
theorem fq356 {a : Int}: (-2) <= a -> a <= 1 -> (((-4) <= a + a) /\ (a + a <= 2)) := by intros; constructor <;> lia -abstractProof
theorem fq357 {a : Int}: (-2) <= a -> a <= 1 -> (((-60) <= a) /\ (a <= 60)) := by intros; constructor <;> lia -abstractProof
theorem fq358 {a : Int}: (-20) <= a -> (-99) <= a - 1 := by walk_at "q"
theorem fq359 {a : Int}: (-23) < a -> a <= 23 -> (((-23) <= a) /\ (a <= 23)) := by walk_at "q"
theorem fq360 {a : Int}: (-23) <= a -> a <= 23 -> (((-50) <= a) /\ (a <= 50)) := by walk_at "q"
theorem fq361 {a : Int}: (-3) < a -> a <= 3 -> (((-2) <= a) /\ (a <= 4)) := by intros; constructor <;> lia -abstractProof
theorem fq362 {a : Int}: (-30) <= a -> a <= 30 -> (((-60) <= a - 1) /\ (a - 1 <= 60)) := by intros; constructor <;> lia -abstractProof
theorem fq363 {a : Int}: (-31) < a + 30 -> (-60) <= a := by walk_at "q"
theorem fq364 {a : Int}: (-4) <= a -> a <= 2 -> (((-400) <= a) /\ (a <= 400)) := by intros; constructor <;> lia -abstractProof
theorem fq365 {a : Int}: (-4) <= a -> a <= 2 -> (((-60) <= a) /\ (a <= 60)) := by walk_at "q"
theorem fq366 {a : Int}: (-41) < a + a -> (-20) <= a := by walk_at "q"
theorem fq367 {a : Int}: (-46) < a -> a <= 3 -> (((-46) <= a) /\ (a <= 3)) := by intros; constructor <;> lia -abstractProof
theorem fq368 {a : Int}: (-60) <= a -> a <= 60 -> (((-200) <= a) /\ (a <= 200)) := by walk_at "q"
theorem fq369 {a : Int}: (-9) < a -> (-8) <= a := by walk_at "q"
theorem fq370 {a : Int}: (-a) + a = 0 := by walk_at "q"
theorem fq371 {a : Int}: (-a) = 0 -> a = 0 := by walk_at "q"
theorem fq372 {a : Int}: (1 - a) + a = 1 := by walk_at "q"
theorem fq373 {a : Int}: (2 * 2) <= a -> 4 <= a := by walk_at "q"
theorem fq374 {a : Int}: (Int.natAbs a) <= 3 -> (Int.natAbs (-a)) <= 3 := by intros; have := db a; have := da a; have := dg a; generalize Int.natAbs a = z1 at *; have := db (-a); have := da (-a); have := dg (-a); generalize Int.natAbs (-a) = z2 at *; lia -abstractProof
theorem fq375 {a : Int} (h : (Int.natAbs a) <= 38) : (Int.natAbs (-a)) <= 38 := by rw [Int.natAbs_neg]; exact h
theorem fq376 {a : Int}: (Int.toNat (a + 2)) = 3 -> a = 1 := by walk_at "q"
theorem fq377 {a : Int}: (a + 1) + (-a) = 1 := by walk_at "q"
theorem fq378 {a : Int}: (a + 1) + (20 - a) = 21 := by walk_at "q"
theorem fq379 {a : Int}: (a - 1) + (-30) < 31 -> a <= 61 := by walk_at "q"
theorem fq380 {a : Int}: (a - 1) + (a - 1) < 41 -> a <= 21 := by walk_at "q"
theorem fq381 {a : Int}: (a - 1) + 1 = a := by walk_at "q"
theorem fq382 {a : Int}: 0 + (1 * a) = a := by walk_at "q"
theorem fq383 {a : Int}: 0 + a = a := by walk_at "q"
theorem fq384 {a : Int}: 0 - (0 * a) = 0 := by walk_at "q"
theorem fq385 {a : Int}: 0 - (2 * a) = (-2) * a := by walk_at "q"
theorem fq386 {a : Int}: 0 < (-a) -> a < 0 := by walk_at "q"
theorem fq387 {a : Int}: 0 < a -> 0 < 5 * a := by walk_at "q"
theorem fq388 {a : Int}: 0 < a -> 0 <= a + 1 := by walk_at "q"
theorem fq389 {a : Int}: 0 < a -> a = (((Int.natAbs a) : Nat) : Int) := by walk_at "q"
theorem fq390 {a : Int}: 0 < a -> a = (((Int.toNat a) : Nat) : Int) := by walk_at "q"
theorem fq391 {a : Int}: 0 < a -> ¬ (0 < (-a)) := by walk_at "q"
theorem fq392 {a : Int}: 0 <= (max (0 : Int) a) + 1 := by intros; have := c9 (0 : Int) a; have := c8 (0 : Int) a; have := dS (0 : Int) a; generalize max (0 : Int) a = z1 at *; lia -abstractProof
theorem fq393 {a : Int}: 0 <= (max a (0 : Int)) := by intros; have := c9 a (0 : Int); have := c8 a (0 : Int); generalize max a (0 : Int) = z1 at *; lia -abstractProof
theorem fq394 {a : Int}: 0 <= a -> (((Int.toNat a) : Nat) : Int) = a := by walk_at "q"
theorem fq395 {a : Int}: 0 <= a -> (-((2 : Int) ^ 63)) <= a := by walk_at "q"
theorem fq396 {a : Int}: 0 <= a -> (0 + 0) - 1 <= a := by walk_at "q"
theorem fq397 {a : Int}: 0 <= a -> 0 < a + 1 := by walk_at "q"
theorem fq398 {a : Int}: 0 <= a -> 0 < a + 2 := by walk_at "q"
theorem fq399 {a : Int}: 0 <= a -> 0 <= 2 * a := by walk_at "q"
theorem fq400 {a : Int}: 0 <= a -> 0 <= a + 1 := by walk_at "q"
theorem fq401 {a : Int}: 0 <= a -> 1 <= a + 1 := by walk_at "q"
theorem fq402 {a : Int}: 0 <= a -> 2 <= a + 2 := by walk_at "q"
theorem fq403 {a : Int}: 0 <= a -> a < 3 -> ((4 <= 4 + a) /\ (4 + a <= 6)) := by walk_at "q"
theorem fq404 {a : Int}: 0 <= a -> a = (((Int.natAbs a) : Nat) : Int) := by walk_at "q"
theorem fq405 {a : Int}: 0 <= a -> a <= 0 -> a = 0 := by walk_at "q"
theorem fq406 {a : Int}: 0 <= a -> a <= 100 -> ((0 <= a + 10) /\ (a + 10 <= 1000)) := by intros; constructor <;> lia -abstractProof
theorem fq407 {a : Int}: 0 <= a -> a <= 400 -> ((0 <= a) /\ (a <= 700)) := by walk_at "q"
theorem fq408 {a : Int}: 0 <= a -> ¬ (0 < 0 - a) := by walk_at "q"
theorem fq409 {a : Int}: 0 <= a -> ¬ (a < 0) := by walk_at "q"
theorem fq410 {a : Int}: 0 <= a -> ¬ (a = 0) -> 1 <= a := by walk_at "q"
theorem fq411 {a : Int}: 1 - (a + 10) <= (1 - a) + (-3) := by walk_at "q"
theorem fq412 {a : Int}: 1 - a = (-a) + 1 := by walk_at "q"
theorem fq413 {a : Int}: 1 <= a -> 0 <= (2 * a) - 1 := by walk_at "q"
theorem fq414 {a : Int}: 1 <= a -> 0 <= a + 1 := by walk_at "q"
theorem fq415 {a : Int}: 1 <= a -> 1 + (((2 * (((Int.natAbs a) : Nat) : Int)) + 0) + ((4 * a) + 10)) <= (7 * a) + 20 := by walk_at "q"
theorem fq416 {a : Int}: 1 <= a -> 1 + (((2 * (((Int.natAbs a) : Nat) : Int)) + 1) + ((4 * a) + 10)) <= (7 * a) + 20 := by intros; have := db a; have := da a; have := dg a; generalize Int.natAbs a = z1 at *; lia -abstractProof
theorem fq417 {a : Int}: 1 <= a -> 1 <= (Int.toNat a) := by walk_at "q"
theorem fq418 {a : Int}: 1 <= a -> 1 <= a := by walk_at "q"
theorem fq419 {a : Int}: 1 <= a -> 1 <= a + 1 := by walk_at "q"
theorem fq420 {a : Int}: 1 <= a -> 1 <= a + 10 := by walk_at "q"
theorem fq421 {a : Int}: 1 <= a -> 1 <= a + 2 := by walk_at "q"
theorem fq422 {a : Int}: 1 <= a -> a <= 10 -> (((-2050) <= 3 - a) /\ (3 - a <= 500)) := by intros; constructor <;> lia -abstractProof
theorem fq423 {a : Int}: 1 <= a -> a <= 400 -> ((0 <= a) /\ (a <= 1000)) := by walk_at "q"
theorem fq424 {a : Int}: 1 <= a -> a <= 400 -> ((0 <= a) /\ (a <= 700)) := by intros; constructor <;> lia -abstractProof
theorem fq425 {a : Int}: 1 <= a -> ¬ (0 < 1 - a) := by walk_at "q"
theorem fq426 {a : Int}: 100 <= a -> 10 <= a := by walk_at "q"
theorem fq427 {a : Int}: 14 <= a -> ((a + (max a (0 : Int))) + 10) + (max (0 : Int) (0 + 0)) = (((Int.toNat ((2 * a) + 10)) : Nat) : Int) := by walk_at "q"
theorem fq428 {a : Int}: 14 <= a -> 38 <= (Int.toNat ((2 * a) + 10)) := by intros; have := dv ((2 * a) + 10); have := dk ((2 * a) + 10); generalize Int.toNat ((2 * a) + 10) = z1 at *; lia -abstractProof
theorem fq429 {a : Int}: 2 <= a -> (-a) <= (-1) := by walk_at "q"
theorem fq430 {a : Int}: 2 <= a -> 0 < a := by walk_at "q"
theorem fq431 {a : Int}: 2 <= a -> 2 <= a := by walk_at "q"
theorem fq432 {a : Int}: 2 <= a -> a <= 1000 -> (Int.natAbs a) < 1152921504606846976 := by intros; have := db a; have := da a; have := dg a; generalize Int.natAbs a = z1 at *; lia -abstractProof
theorem fq433 {a : Int}: 2 <= a -> a <= 20 -> ((0 <= a) /\ (a <= 100)) := by walk_at "q"
theorem fq434 {a : Int}: 2 <= a -> ¬ (a + 1 = 1) := by walk_at "q"
theorem fq435 {a : Int}: 2 <= a -> ¬ (a = 1) := by walk_at "q"
theorem fq436 {a : Int}: 3 - a = ((1 - a) + 1) + 1 := by walk_at "q"
theorem fq437 {a : Int}: 4 <= a -> 0 - (a + 10) < 2300 := by walk_at "q"
theorem fq438 {a : Int}: 4 <= a -> 0 < a := by walk_at "q"
theorem fq439 {a : Int}: 4 <= a -> 1 - (a + 10) <= (-13) := by walk_at "q"
theorem fq440 {a : Int}: 4 <= a -> a <= 6 -> ((2 <= a) /\ (a <= 20)) := by walk_at "q"
theorem fq441 {a : Int}: 4 <= a -> a <= 6 -> ((4 <= a) /\ (a <= 6)) := by intros; constructor <;> lia -abstractProof
theorem fq442 {a : Int}: 4 <= a -> ¬ (a = 1) := by walk_at "q"
theorem fq443 {a : Int}: 60 <= a -> 0 <= a := by walk_at "q"
theorem fq444 {a : Int} (h : a % 10 = 0) (h0 : ¬ (a = 0)) : ((¬ (a / 10 = 0)) /\ ((Int.natAbs (a / 10)) < (Int.natAbs a))) := by
  obtain ⟨q, rfl⟩ := Int.dvd_of_emod_eq_zero h
  rw [Int.mul_ediv_cancel_left _ (by decide), Int.natAbs_mul]
  have : q ≠ 0 := fun e => h0 (by rw [e]; rfl)
  have := Int.natAbs_pos.mpr this
  exact ⟨by assumption, by show _ < 10 * _; lia -abstractProof⟩
theorem fq445 {a : Int}: a % 2 = 0 -> a = 2 * (((a / 2) - 1) + 1) := by walk_at "q"
theorem fq446 {a : Int}: a * ((10 : Int) ^ 2) = 20 * (5 * a) := by walk_at "q"
theorem fq447 {a : Int}: a * 5 = 5 * a := by walk_at "q"
theorem fq448 {a : Int}: a + (-a) = 0 := by walk_at "q"
theorem fq449 {a : Int}: a < 0 -> (-a) = (((Int.natAbs a) : Nat) : Int) := by walk_at "q"
theorem fq450 {a : Int}: a < 0 -> 0 < (-a) := by walk_at "q"
theorem fq451 {a : Int}: a < 0 -> a = (-(((Int.natAbs a) : Nat) : Int)) := by walk_at "q"
theorem fq452 {a : Int}: a < 0 -> ¬ (0 < a) := by walk_at "q"
theorem fq453 {a : Int}: a < 0 -> ¬ (a = 0) := by walk_at "q"
theorem fq454 {a : Int}: a < 2300 -> (Int.toNat (max a (0 : Int))) < 2300 := by intros; have := c9 a (0 : Int); have := c8 a (0 : Int); have := dS a (0 : Int); generalize max a (0 : Int) = z1 at *; have := dv z1; have := dk z1; have := dH z1; generalize Int.toNat z1 = z2 at *; lia -abstractProof
theorem fq455 {a : Int}: a < 2300 -> (max a (0 : Int)) <= 100000 := by intros; have := c9 a (0 : Int); have := c8 a (0 : Int); have := dS a (0 : Int); generalize max a (0 : Int) = z1 at *; lia -abstractProof
theorem fq456 {a : Int}: a < 3 -> a <= ((2 : Nat) : Int) := by walk_at "q"
theorem fq457 {a : Int}: a = (a - 4) + 4 := by walk_at "q"
theorem fq458 {a : Int}: a = 0 -> a + 0 <= 10 := by walk_at "q"
theorem fq459 {a : Int}: a = 0 -> a <= 4 := by walk_at "q"
theorem fq460 {a : Int}: a = 3 -> a = 4 -> False := by walk_at "q"
theorem fq461 {a : Int}: a <= ((100 : Nat) : Int) -> (2 * a) - 1 <= 100000 := by walk_at "q"
theorem fq462 {a : Int}: a <= ((120 : Nat) : Int) -> a < 2300 := by walk_at "q"
theorem fq463 {a : Int}: a <= (max ((-999) : Int) a) := by intros; have := c9 ((-999) : Int) a; have := c8 ((-999) : Int) a; generalize max ((-999) : Int) a = z1 at *; lia -abstractProof
theorem fq464 {a : Int}: a <= 1 -> (Int.toNat (a + 2)) < 4 := by walk_at "q"
theorem fq465 {a : Int}: a <= 1 -> a <= 4 := by walk_at "q"
theorem fq466 {a : Int}: a <= 100 -> a <= 2000 := by walk_at "q"
theorem fq467 {a : Int}: a <= 101 -> a - 1 <= 100000 := by walk_at "q"
theorem fq468 {a : Int}: a <= 12 -> a <= ((100 : Nat) : Int) := by walk_at "q"
theorem fq469 {a : Int}: a <= 16 -> (Int.toNat ((2 * a) + 10)) <= 46 := by walk_at "q"
theorem fq470 {a : Int}: a <= 16 -> a <= 2000 := by walk_at "q"
theorem fq471 {a : Int}: a <= 20 -> a <= 300 := by walk_at "q"
theorem fq472 {a : Int}: a <= 2000 -> (Int.toNat a) + 1 <= 2900 := by intros; have := dv a; have := dk a; have := dH a; generalize Int.toNat a = z1 at *; lia -abstractProof
theorem fq473 {a : Int}: a <= 2000 -> (Int.toNat a) + 3 <= 2300 := by walk_at "q"
theorem fq474 {a : Int}: a <= 2000 -> a <= 100000 := by walk_at "q"
theorem fq475 {a : Int}: a <= 2260 -> (Int.toNat a) < 2300 := by intros; have := dv a; have := dk a; have := dH a; generalize Int.toNat a = z1 at *; lia -abstractProof
theorem fq476 {a : Int}: a <= 2260 -> a <= 100000 := by walk_at "q"
theorem fq477 {a : Int}: a <= 300 -> (Int.toNat a) < 2300 := by walk_at "q"
theorem fq478 {a : Int}: a <= 300 -> 600 + ((Int.toNat a) + 1) <= 901 := by intros; have := dv a; have := dk a; have := dH a; generalize Int.toNat a = z1 at *; lia -abstractProof
theorem fq479 {a : Int}: a <= 300 -> a <= 100000 := by walk_at "q"
theorem fq480 {a : Int}: a <= 400 -> 1 + ((Int.toNat a) + 1) <= 2300 := by intros; have := dv a; have := dk a; have := dH a; generalize Int.toNat a = z1 at *; lia -abstractProof
theorem fq481 {a : Int}: a <= 400 -> 2 * a <= 100000 := by walk_at "q"
theorem fq482 {a : Int}: a <= 5 -> a <= 6 := by walk_at "q"
theorem fq483 {a : Int}: a <= 6 -> a <= 16 := by walk_at "q"
theorem fq484 {a : Int}: a <= 61 -> a <= 496 := by walk_at "q"
theorem fq485 {a : Int}: a <= 700 -> (((Int.toNat a) + 1) + ((Int.toNat a) + 3)) + ((Int.toNat a) + 3) <= 2300 := by walk_at "q"
theorem fq486 {a : Int}: a <= 700 -> (Int.toNat a) + 1 <= 2900 := by walk_at "q"
theorem fq487 {a : Int}: a <= 700 -> (Int.toNat a) + 3 <= 2900 := by intros; have := dv a; have := dk a; have := dH a; generalize Int.toNat a = z1 at *; lia -abstractProof
theorem fq488 {a : Int}: ¬ (0 < a) -> a = (-(((Int.natAbs a) : Nat) : Int)) := by walk_at "q"
theorem fq489 {a : Int}: ¬ (0 < a) -> ¬ (a = 0) -> 0 < (-a) := by walk_at "q"
theorem fq490 {a : Int}: ¬ (0 < a) -> ¬ (a = 0) -> a < 0 := by walk_at "q"
theorem fq491 {a : Int}: ¬ (0 <= a) -> (-a) = (((Int.natAbs a) : Nat) : Int) := by walk_at "q"
theorem fq492 {a : Int}: ¬ (0 <= a) -> 0 <= (-a) := by walk_at "q"
theorem fq493 {a : Int} (h : ¬ (a % 10 = 0)) : ¬ ((Int.natAbs a) % 10 = 0) := fun e => h (Int.emod_eq_zero_of_dvd (Int.natAbs_dvd_natAbs.mp (Nat.dvd_of_mod_eq_zero e)))
theorem fq494 {a : Int}: ¬ (a = 0) -> 0 < (((Int.natAbs a) : Nat) : Int) * 5 := by intros; have := db a; have := da a; generalize Int.natAbs a = z1 at *; lia -abstractProof
theorem fq495 {a : Int}: ¬ (a = 0) -> 0 < (Int.natAbs a) := by intros; have := db a; have := da a; generalize Int.natAbs a = z1 at *; lia -abstractProof
theorem fq496 {a : Int}: ¬ (a = 0) -> ¬ (a = 0) := by walk_at "q"
theorem fq497 {a b : Int} {k : Nat}: (((-1) <= a) /\ (a <= 2)) -> (-1) <= b -> a - b <= ((k : Int) + 10) + 2 := by walk_at "q"
theorem fq498 {a b : Int} {k : Nat}: (((-1) <= a) /\ (a <= 2)) -> b <= 2 -> b - a <= ((k : Int) + 10) + 2 := by walk_at "q"
theorem fq499 {a b : Int} {k : Nat} (h1 : (Int.natAbs a) < k) (h2 : (Int.natAbs b) < k) : (Int.natAbs (a + b)) < k * 10 :=
  Nat.lt_of_le_of_lt (Int.natAbs_add_le a b) (by lia -abstractProof)
theorem fq500 {a b : Int} {k : Nat}: (Int.natAbs a) < k -> (Int.natAbs b) < k -> (Int.natAbs (a - b)) < k * 10 := by intros; have := db a; have := da a; have := dg a; generalize Int.natAbs a = z1 at *; have := db b; have := da b; have := dg b; generalize Int.natAbs b = z2 at *; have := db (a - b); have := da (a - b); have := dg (a - b); generalize Int.natAbs (a - b) = z3 at *; lia -abstractProof
theorem fq501 {a b : Int} {k : Nat}: (k : Int) = a -> 0 < b -> k <= (Int.natAbs b) -> a <= b := by intros; have := db b; have := da b; have := dg b; generalize Int.natAbs b = z1 at *; lia -abstractProof
theorem fq502 {a b : Int} {k : Nat}: 0 < a - b -> a = b + (k : Int) -> 1 <= k := by walk_at "q"
theorem fq503 {a b : Int} {k : Nat} (h1 : 1 <= a) (h : a + (((2 * (k : Int)) + 0) + 0) <= (7 * b) + 20) : (Int.natAbs a) <= (Int.natAbs ((9 * b) + 99)) := vA (by lia -abstractProof) (by lia -abstractProof)
theorem fq504 {a b : Int} {k : Nat}: 1 <= a -> a + (((2 * (k : Int)) + 1) + 0) <= (7 * b) + 20 -> (Int.natAbs a) <= (Int.natAbs ((9 * b) + 99)) := by walk_at "q"
theorem fq505 {a b : Int} {k : Nat}: 1 <= a -> a <= 2 -> b = a + ((k : Int) - 2) -> k < 4 -> (((-2) <= b) /\ (b <= 4)) := by walk_at "q"
theorem fq506 {a b : Int} {k : Nat}: 1 <= a -> b = a + (-(k : Int)) -> k <= 46 -> (-46) <= b - 1 := by walk_at "q"
theorem fq507 {a b : Int} {k : Nat}: 1 <= a -> b <= (k : Int) + 1 -> k <= 46 -> b - a < 2300 := by walk_at "q"
theorem fq508 {a b : Int} {k : Nat}: a = b + ((k : Int) + 2) -> a - b = (((k + 2) : Nat) : Int) := by walk_at "q"
theorem fq509 {a b : Int} {k : Nat}: a = b + (k : Int) -> a + 1 = b + (((k + 1) : Nat) : Int) := by walk_at "q"
theorem fq510 {a b : Int} {k : Nat}: a = b -> b <= (((k + 1) : Nat) : Int) + 1 -> a <= (k : Int) + 3 := by walk_at "q"
theorem fq511 {a b : Int} {k : Nat}: a <= (k : Int) + 10 -> b <= a + 1 -> k <= 6 -> b <= 2000 := by walk_at "q"
theorem fq512 {a b : Int} {k l : Nat}: ((((k : Int) + 10) + (max ((k : Int) + 10) a)) + 10) + (max (0 : Int) b) = (l : Int) -> 4 <= k -> 38 <= l := by intros; have := c9 ((k : Int) + 10) a; have := c8 ((k : Int) + 10) a; have := dS ((k : Int) + 10) a; generalize max ((k : Int) + 10) a = z1 at *; have := c9 (0 : Int) b; have := c8 (0 : Int) b; have := dS (0 : Int) b; generalize max (0 : Int) b = z2 at *; lia -abstractProof
theorem fq513 {a b : Int} {k l : Nat}: a - b <= (k : Int) -> l + ((Int.toNat (a - (min a b))) + 1) <= (l + k) + 1 := by walk_at "q"
theorem fq514 {a b : Int} {k l : Nat}: a - b <= (k : Int) -> l + ((Int.toNat (a - (min b a))) + 1) <= (l + k) + 1 := by intros; have := eU b a; have := eT b a; have := fz b a; generalize min b a = z1 at *; have := dv (a - z1); have := dk (a - z1); have := dH (a - z1); generalize Int.toNat (a - z1) = z2 at *; lia -abstractProof
theorem fq515 {a b : Int} {k l : Nat}: a = b -> b <= (k : Int) + 2 -> k <= 46 -> a - ((l : Int) + 10) < 2300 := by walk_at "q"
theorem fq516 {a b : Int} {k l : Nat}: k < l -> l <= k -> a = b := by walk_at "q"
theorem fq517 {a b : Int}: ((0 < a) ↔ (0 < b)) -> b < 0 -> ¬ (a = 0) -> a < 0 := by walk_at "q"
theorem fq518 {a b : Int}: ((0 <= a) -> (0 <= b)) -> b < 0 -> a < 0 := by walk_at "q"
theorem fq519 {a b : Int}: ((a - 20) - b) + ((a - 20) - b) = (2 * a) + ((-40) - (2 * b)) := by walk_at "q"
theorem fq520 {a b : Int}: ((a - 4) + b) - 1 = (a + b) - 5 := by walk_at "q"
theorem fq521 {a b : Int}: ((¬ (a = 0)) -> ((((-20) <= b) /\ (b <= 20)))) -> ¬ (a = 0) -> (-23) <= b - 1 := by walk_at "q"
theorem fq522 {a b : Int}: ((¬ (a = 0)) -> ((((-20) <= b) /\ (b <= 20)))) -> ¬ (a = 0) -> b <= 22 := by walk_at "q"
theorem fq523 {a b : Int}: ((¬ (a = 0)) -> ((((-50) < b) /\ (b < 50)))) -> ¬ (a = 0) -> b <= 99 := by walk_at "q"
theorem fq524 {a b : Int}: (-12) <= a -> 14 <= b -> ¬ (a < (-b)) := by walk_at "q"
theorem fq527 {a b : Int}: (-2) <= a -> 14 <= b -> ¬ (a < (-b)) := by walk_at "q"
theorem fq528 {a b : Int}: (-20) <= a -> 60 <= b -> (-b) <= a - 1 := by walk_at "q"
theorem fq529 {a b : Int}: (-200) <= a -> (-200) <= b -> a <= 200 -> (((-200) <= (min a b)) /\ ((min a b) <= 200)) := by intros; have := eU a b; have := eT a b; have := fz a b; generalize min a b = z1 at *; constructor <;> lia -abstractProof
theorem fq530 {a b : Int}: (-200) <= a -> b <= 200 -> (Int.toNat (b - (min a b))) < 2300 := by intros; have := eU a b; have := eT a b; have := fz a b; generalize min a b = z1 at *; have := dv (b - z1); have := dk (b - z1); have := dH (b - z1); generalize Int.toNat (b - z1) = z2 at *; lia -abstractProof
theorem fq531 {a b : Int}: (-200) <= a -> b <= 200 -> (Int.toNat (b - (min b a))) < 2300 := by walk_at "q"
theorem fq532 {a b : Int}: (-200) <= a -> b <= 200 -> 60 + ((Int.toNat (b - (min a b))) + 1) <= 900 := by walk_at "q"
theorem fq533 {a b : Int}: (-200) <= a -> b <= 200 -> 60 + ((Int.toNat (b - (min b a))) + 1) <= 900 := by walk_at "q"
theorem fq534 {a b : Int}: (-200) <= a -> b <= 200 -> b - (min a b) <= 100000 := by intros; have := eU a b; have := eT a b; have := fz a b; generalize min a b = z1 at *; lia -abstractProof
theorem fq535 {a b : Int}: (-200) <= a -> b <= 200 -> b - (min b a) <= 100000 := by walk_at "q"
theorem fq536 {a b : Int}: (-400) <= a -> 0 <= b -> (-(a + b)) < 2300 := by walk_at "q"
theorem fq537 {a b : Int}: (-400) <= a -> 1 <= b -> (-(a + b)) < 2300 := by walk_at "q"
theorem fq538 {a b : Int}: (-400) <= a -> 1 <= b -> a <= 400 -> b <= 101 -> (Int.natAbs ((a + b) - 1)) < 1152921504606846976 := by intros; have := db ((a + b) - 1); have := da ((a + b) - 1); have := dg ((a + b) - 1); generalize Int.natAbs ((a + b) - 1) = z1 at *; lia -abstractProof
theorem fq539 {a b : Int}: (-50) <= a -> (-50) <= b -> a <= 50 -> (((-100) <= (min (2 * a) (2 * b))) /\ ((min (2 * a) (2 * b)) <= 100)) := by intros; have := eU (2 * a) (2 * b); have := eT (2 * a) (2 * b); have := fz (2 * a) (2 * b); generalize min (2 * a) (2 * b) = z1 at *; constructor <;> lia -abstractProof
theorem fq540 {a b : Int}: (-60) <= a -> 90 <= b -> (-b) <= a - 1 := by walk_at "q"
theorem fq541 {a b : Int}: (-999) <= a -> 1 <= b -> a <= 160 -> b <= 10 -> (((-2050) <= ((2 * a) - b) + 1) /\ (((2 * a) - b) + 1 <= 500)) := by walk_at "q"
theorem fq542 {a b : Int}: (2 * (a + (20 * b))) + b = ((2 * a) + b) + (20 * (2 * b)) := by walk_at "q"
theorem fq543 {a b : Int}: (Int.natAbs a) < ((10 : Nat) ^ 2) -> 100 <= a -> 3 <= b := by intros; have := db a; have := da a; have := dg a; generalize Int.natAbs a = z1 at *; lia -abstractProof
theorem fq544 {a b : Int}: (a + b) - 1 = (a - 1) + b := by walk_at "q"
theorem fq545 {a b : Int}: (a - (max (0 : Int) b)) % 2 = 1 -> ((0 <= (max (0 : Int) b) + 1) /\ (((b <= (max (0 : Int) b) + 1) /\ ((a - ((max (0 : Int) b) + 1)) % 2 = 0)))) := by intros; have := c9 (0 : Int) b; have := c8 (0 : Int) b; have := dS (0 : Int) b; generalize max (0 : Int) b = z1 at *; repeat' apply And.intro; all_goals lia -abstractProof
theorem fq546 {a b : Int}: (a - b) + b = a := by walk_at "q"
theorem fq547 {a b : Int}: (min a b) <= a := by intros; have := eU a b; have := eT a b; generalize min a b = z1 at *; lia -abstractProof
theorem fq548 {a b : Int}: (min a b) <= b := by intros; have := eU a b; have := eT a b; generalize min a b = z1 at *; lia -abstractProof
theorem fq549 {a b : Int}: 0 < (-a) -> 0 < a -> 0 < b := by walk_at "q"
theorem fq550 {a b : Int}: 0 < a - b -> a = b + (((Int.toNat (a - b)) : Nat) : Int) := by walk_at "q"
theorem fq551 {a b : Int}: 0 < a -> 0 <= b -> ¬ (a + b = 0) := by walk_at "q"
theorem fq552 {a b : Int}: 0 < a -> 10 * a <= b -> (((Int.natAbs b) : Nat) : Int) = b := by walk_at "q"
theorem fq553 {a b : Int}: 0 < a -> 1001 * a <= 1000 * b -> 0 < b := by walk_at "q"
theorem fq554 {a b : Int}: 0 < a -> 1001 * a <= 1000 * b -> 0 <= b := by walk_at "q"
theorem fq555 {a b : Int}: 0 < a -> 5 * a <= 12 * b -> (Int.natAbs a) <= (Int.natAbs (3 * b)) := by intros; have := db a; have := da a; have := dg a; generalize Int.natAbs a = z1 at *; have := db (3 * b); have := da (3 * b); have := dg (3 * b); generalize Int.natAbs (3 * b) = z2 at *; lia -abstractProof
theorem fq556 {a b : Int}: 0 < a -> 5 * a <= 16 * b -> (Int.natAbs a) <= (Int.natAbs (4 * b)) := by intros; have := db a; have := da a; have := dg a; generalize Int.natAbs a = z1 at *; have := db (4 * b); have := da (4 * b); have := dg (4 * b); generalize Int.natAbs (4 * b) = z2 at *; lia -abstractProof
theorem fq557 {a b : Int}: 0 < a -> a < 0 -> b < 0 := by walk_at "q"
theorem fq558 {a b : Int}: 0 < a -> a < b -> 0 <= b := by walk_at "q"
theorem fq559 {a b : Int}: 0 < a -> a <= b -> 0 < b := by walk_at "q"
theorem fq560 {a b : Int}: 0 < a -> b < a -> (Int.toNat b) < (Int.toNat a) := by walk_at "q"
theorem fq561 {a b : Int}: 0 <= a -> 0 <= b -> ((0 <= (max (0 : Int) (((2 * a) + 2) - b)) + 1) /\ ((max (0 : Int) (((2 * a) + 2) - b)) + 1 <= (2 * a) + 3)) := by intros; have := c9 (0 : Int) (((2 * a) + 2) - b); have := c8 (0 : Int) (((2 * a) + 2) - b); have := dS (0 : Int) (((2 * a) + 2) - b); generalize max (0 : Int) (((2 * a) + 2) - b) = z1 at *; constructor <;> lia -abstractProof
theorem fq562 {a b : Int}: 0 <= a -> 0 <= b -> ((0 <= (max (0 : Int) (((2 * a) + 2) - b))) /\ ((max (0 : Int) (((2 * a) + 2) - b)) <= (2 * a) + 3)) := by intros; have := c9 (0 : Int) (((2 * a) + 2) - b); have := c8 (0 : Int) (((2 * a) + 2) - b); have := dS (0 : Int) (((2 * a) + 2) - b); generalize max (0 : Int) (((2 * a) + 2) - b) = z1 at *; lia -abstractProof
theorem fq563 {a b : Int}: 0 <= a -> 0 <= b -> a + b = (((Int.toNat (a + b)) : Nat) : Int) := by walk_at "q"
theorem fq564 {a b : Int}: 0 <= a -> a < 0 -> b < 0 := by walk_at "q"
theorem fq565 {a b : Int}: 0 <= a -> a <= b -> 0 <= b := by walk_at "q"
theorem fq566 {a b : Int}: 0 <= a -> b = 0 -> b <= a := by walk_at "q"
theorem fq567 {a b : Int}: 0 <= a -> b <= ((((Int.toNat a) + 1) : Nat) : Int) -> b <= a + 1 := by walk_at "q"
theorem fq568 {a b : Int}: 0 <= a -> b <= 100 -> (Int.toNat ((max (0 : Int) (((2 * b) + 2) - a)) + 1)) < 2300 := by intros; have := c9 (0 : Int) (((2 * b) + 2) - a); have := c8 (0 : Int) (((2 * b) + 2) - a); have := dS (0 : Int) (((2 * b) + 2) - a); generalize max (0 : Int) (((2 * b) + 2) - a) = z1 at *; have := dv (z1 + 1); have := dk (z1 + 1); have := dH (z1 + 1); generalize Int.toNat (z1 + 1) = z2 at *; lia -abstractProof
theorem fq569 {a b : Int} (h : 0 <= a) (h1 : b <= 100) : (Int.toNat (max (0 : Int) (((2 * b) + 2) - a))) < 2300 :=
  (Int.toNat_lt_toNat (m := ((2300 : Nat) : Int)) (by decide)).mpr (Int.max_lt.mpr ⟨by decide, by lia -abstractProof⟩)
theorem fq570 {a b : Int}: 0 <= a -> b <= 100 -> (max (0 : Int) (((2 * b) + 2) - a)) + 1 <= 100000 := by walk_at "q"
theorem fq571 {a b : Int}: 0 <= a -> b <= 100 -> (max (0 : Int) (((2 * b) + 2) - a)) <= 100000 := by intros; have := c9 (0 : Int) (((2 * b) + 2) - a); have := c8 (0 : Int) (((2 * b) + 2) - a); have := dS (0 : Int) (((2 * b) + 2) - a); generalize max (0 : Int) (((2 * b) + 2) - a) = z1 at *; lia -abstractProof
theorem fq572 {a b : Int}: 1 * a <= b -> a <= b := by walk_at "q"
theorem fq573 {a b : Int}: 1 <= a -> 1 <= b -> (((Int.natAbs (a - b)) : Nat) : Int) < a + b := by walk_at "q"
theorem fq574 {a b : Int}: 1 <= a -> 1 <= b -> 0 <= a + b := by walk_at "q"
theorem fq575 {a b : Int}: 1 <= a -> 2 * a <= b -> 0 < b := by walk_at "q"
theorem fq576 {a b : Int}: 1 <= a -> a <= 50 -> ¬ (a + 2 < b) -> ((0 <= ((2 * a) + 10) + (max (0 : Int) b)) /\ (((2 * a) + 10) + (max (0 : Int) b) <= 400)) := by intros; have := c9 (0 : Int) b; have := c8 (0 : Int) b; have := dS (0 : Int) b; generalize max (0 : Int) b = z1 at *; constructor <;> lia -abstractProof
theorem fq577 {a b : Int} (h1 : 1 <= a) (h : b = 1) : (Int.natAbs b) <= (Int.natAbs ((9 * a) + 99)) := vA (by lia -abstractProof) (by lia -abstractProof)
theorem fq578 {a b : Int}: 1 <= a -> b <= 2000 -> b - a < 2300 := by walk_at "q"
theorem fq579 {a b : Int}: 10 <= a -> b <= 10 -> b <= a := by walk_at "q"
theorem fq580 {a b : Int}: 100 <= a -> b = 0 -> b + 0 <= a := by walk_at "q"
theorem fq581 {a b : Int}: 60 <= a -> b <= 21 -> b <= a := by walk_at "q"
theorem fq582 {a b : Int}: a * 1 <= b -> a <= b := by walk_at "q"
theorem fq583 {a b : Int}: a * 2 <= b -> 2 * a <= b := by walk_at "q"
theorem fq584 {a b : Int}: a + 2 <= b -> b = a + ((((Int.toNat ((b - a) - 2)) : Nat) : Int) + 2) := by intros; have := dv ((b - a) - 2); have := dk ((b - a) - 2); have := dH ((b - a) - 2); generalize Int.toNat ((b - a) - 2) = z1 at *; lia -abstractProof
theorem fq585 {a b : Int}: a + 20 = b -> a = b - 20 := by walk_at "q"
theorem fq586 {a b : Int}: a - 4 = (a + (36 + b)) + ((-40) - b) := by walk_at "q"
theorem fq587 {a b : Int}: a - b = (1 - b) + (a - 1) := by walk_at "q"
theorem fq588 {a b : Int}: a < 2300 -> b = a -> (b + 1) / 2 <= 100000 := by walk_at "q"
theorem fq589 {a b : Int}: a < b + 1 -> a <= b := by walk_at "q"
theorem fq590 {a b : Int}: a < b + 2 -> a <= (((Int.toNat (b + 1)) : Nat) : Int) := by intros; have := dv (b + 1); have := dk (b + 1); generalize Int.toNat (b + 1) = z1 at *; lia -abstractProof
theorem fq591 {a b : Int}: a < b -> a <= b - 1 := by walk_at "q"
theorem fq592 {a b : Int}: a < b -> b <= a -> a = b := by walk_at "q"
theorem fq593 {a b : Int}: a = (a - b) + b := by walk_at "q"
theorem fq594 {a b : Int}: a = (b + ((a - b) - 1)) + 1 := by walk_at "q"
theorem fq595 {a b : Int}: a = 0 -> ¬ (((a = 0) /\ (b = 0))) -> ¬ (b < 0) -> ((0 < b) \/ (((b = 0) /\ (a < 0)))) := by intros; constructor <;> lia -abstractProof
theorem fq596 {a b : Int}: a = 3 -> b <= 1 -> ¬ (a + 1 < b) := by walk_at "q"
theorem fq597 {a b : Int}: a = 3 -> b <= 4 -> ¬ (a + 1 < b) := by walk_at "q"
theorem fq598 {a b : Int}: a = b * 10 -> ¬ (a % 10 = 0) -> False := by walk_at "q"
theorem fq599 {a b : Int}: a = b + (a - b) := by walk_at "q"
theorem fq600 {a b : Int}: a = b -> a <= 1 -> b <= 10 := by walk_at "q"
theorem fq601 {a b : Int}: a = b -> a <= 2 -> b <= 99 := by walk_at "q"
theorem fq602 {a b : Int}: a <= (2 * b) + 3 -> b <= 20 -> 60 + ((Int.toNat a) + 1) <= 120 := by walk_at "q"
theorem fq603 {a b : Int}: a <= (max (max ((-999) : Int) a) b) := by intros; have := c9 ((-999) : Int) a; have := c8 ((-999) : Int) a; generalize max ((-999) : Int) a = z1 at *; have := c9 z1 b; have := c8 z1 b; generalize max z1 b = z2 at *; lia -abstractProof
theorem fq604 {a b : Int}: a <= (max b a) := by intros; have := c9 b a; have := c8 b a; generalize max b a = z1 at *; lia -abstractProof
theorem fq605 {a b : Int}: a <= 1 * b -> a <= b := by walk_at "q"
theorem fq606 {a b : Int}: a <= 10 -> b <= a -> (Int.toNat b) <= 10 := by intros; have := dv b; have := dk b; have := dH b; generalize Int.toNat b = z1 at *; lia -abstractProof
theorem fq607 {a b : Int}: a <= 6 -> ((-7) + b) + 1 <= b - a := by walk_at "q"
theorem fq608 {a b : Int}: a <= 6 -> b + (-6) <= b - a := by walk_at "q"
theorem fq609 {a b : Int}: a <= b + 22 -> a <= ((b + 10) + 10) + 3 := by walk_at "q"
theorem fq610 {a b : Int}: a <= b -> 2 * a <= a + b := by walk_at "q"
theorem fq611 {a b : Int}: a <= b -> ¬ (a < b) -> a = b := by walk_at "q"
theorem fq612 {a b : Int}: ¬ (0 < a - b) -> a <= b := by walk_at "q"
theorem fq613 {a b : Int}: ¬ (a % 2 = 1) -> ((0 <= (max (0 : Int) b)) /\ (((b <= (max (0 : Int) b)) /\ (a % 2 = 0)))) := by intros; have := c9 (0 : Int) b; have := c8 (0 : Int) b; generalize max (0 : Int) b = z1 at *; repeat' apply And.intro; all_goals lia -abstractProof
theorem fq614 {a b : Int}: ¬ (a < 0) -> ¬ (a = 0) -> ((0 < a) \/ (((a = 0) /\ (b < 0)))) := by walk_at "q"
theorem fq615 {a b : Int}: ¬ (a < b) -> ¬ (b <= a) -> b = a := by walk_at "q"
theorem fq616 {a b : Int}: ¬ (a <= b) -> b <= a := by walk_at "q"
theorem fq617 {a b c : Int} {k : Nat}: (-20) <= a -> 1 <= b -> c = (k : Int) -> k <= 46 -> (-496) <= (b + (a - c)) - 1 := by walk_at "q"
theorem fq618 {a b c : Int} {k : Nat}: 100 <= a -> 38 <= k -> b <= 100 -> c <= 20 -> b + (c - (k : Int)) <= a := by walk_at "q"
theorem fq619 {a b c : Int} {k : Nat}: a = b + ((k : Int) + 2) -> (a + c) - b = (((k + 2) : Nat) : Int) + c := by walk_at "q"
theorem fq620 {a b c : Int}: ((((a = 1) /\ (b = c))) \/ (((2 <= a) /\ ((((Int.natAbs b) : Nat) : Int) <= 2 * c)))) -> 1 <= c -> (((Int.natAbs b) : Nat) : Int) <= 2 * c := by intros; have := db b; have := da b; have := dg b; generalize Int.natAbs b = z1 at *; lia -abstractProof
theorem fq621 {a b c : Int}: ((0 < a) ↔ (((0 < b) \/ (((b = 0) /\ (c < 0)))))) -> ((0 < b) \/ (((b = 0) /\ (c < 0)))) -> ¬ (0 < a) -> False := by walk_at "q"
theorem fq622 {a b c : Int}: ((0 < a) ↔ (((0 < b) \/ (((b = 0) /\ (c < 0)))))) -> ((¬ (b = 0)) \/ (0 <= c)) -> 0 < a -> b <= 0 -> False := by walk_at "q"
theorem fq623 {a b c : Int}: ((0 < a) \/ (((a = 0) /\ (b < 0)))) -> 0 < b -> a = 0 -> 0 < c := by walk_at "q"
theorem fq624 {a b c : Int}: ((1 - a) + b) + 1 <= ((b + (max (1 : Int) c)) - a) + 1 := by intros; have := c9 (1 : Int) c; have := c8 (1 : Int) c; have := dS (1 : Int) c; generalize max (1 : Int) c = z1 at *; lia -abstractProof
theorem fq625 {a b c : Int} (h : ((2 * a) + 2) - b <= c) : (Int.toNat a) + (Int.toNat a) <= ((Int.toNat b) - 1) + (Int.toNat c) := by
  have h1 := dk b
  have h2 := dk c
  rcases dH a with h3 | h3 <;> lia -abstractProof
theorem fq626 {a b c : Int}: ((a = 1) -> (b <= 1)) -> a = 1 -> c = b + a -> c <= 2 := by walk_at "q"
theorem fq627 {a b c : Int}: ((¬ (a = 0)) -> ((((-20) <= b) /\ (b <= 20)))) -> b = c -> ¬ (a = 0) -> (-99) <= c - 1 := by walk_at "q"
theorem fq628 {a b c : Int}: ((¬ (a = 0)) -> ((((-50) < b) /\ (b < 50)))) -> b <= c -> c <= b + 1 -> ¬ (a = 0) -> (((-50) <= c) /\ (c <= 50)) := by intros; constructor <;> lia -abstractProof
theorem fq629 {a b c : Int}: (-2) <= a -> 1 <= b -> c = b + a -> (-2) <= c - 1 := by walk_at "q"
theorem fq630 {a b c : Int}: (-999) <= a -> 1 <= b -> a <= 160 -> b <= 10 -> c <= 160 -> (((-2050) <= ((2 * (max a c)) - b) + 1) /\ (((2 * (max a c)) - b) + 1 <= 500)) := by intros; have := c9 a c; have := c8 a c; have := dS a c; generalize max a c = z1 at *; constructor <;> lia -abstractProof
theorem fq631 {a b c : Int}: (-999) <= a -> 1 <= b -> a <= 160 -> b <= 10 -> c <= 160 -> (((-2050) <= ((a + (max (1 : Int) c)) - b) + 1) /\ (((a + (max (1 : Int) c)) - b) + 1 <= 500)) := by intros; have := c9 (1 : Int) c; have := c8 (1 : Int) c; have := dS (1 : Int) c; generalize max (1 : Int) c = z1 at *; constructor <;> lia -abstractProof
theorem fq632 {a b c : Int}: (a + b) + c = a + (b + c) := by walk_at "q"
theorem fq633 {a b c : Int}: (a + b) - c = (a - c) + b := by walk_at "q"
theorem fq634 {a b c : Int}: (a + b) - c = a + (b - c) := by walk_at "q"
theorem fq635 {a b c : Int}: 0 < (-a) -> 0 < a -> ((0 < b) \/ (((b = 0) /\ (c < 0)))) := by walk_at "q"
theorem fq636 {a b c : Int}: 0 < (-a) -> 0 <= a -> ((0 < b) \/ (((b = 0) /\ (c < 0)))) := by walk_at "q"
theorem fq637 {a b c : Int}: 0 < a - b -> a = b + c -> 0 < c := by walk_at "q"
theorem fq638 {a b c : Int}: 0 < a -> 0 <= b -> a <= c -> 0 < (10 * c) + b := by walk_at "q"
theorem fq639 {a b c : Int}: 0 < a -> 2 * b <= c -> c <= a -> b <= a := by walk_at "q"
theorem fq640 {a b c : Int}: 0 < a -> a * 2 <= b -> c <= a -> c < b := by walk_at "q"
theorem fq642 {a b c : Int}: 0 <= a -> 2 * a <= b -> b <= c -> (Int.natAbs a) <= (Int.natAbs c) := by walk_at "q"
theorem fq643 {a b c : Int}: 0 <= a -> b <= 6 -> c <= b + 10 -> (((b + 10) + 2) + c) - a < 2300 := by walk_at "q"
theorem fq644 {a b c : Int}: 0 <= a -> b <= 6 -> c <= b + 10 -> 3 + ((Int.toNat (max ((((b + 10) + 2) + c) - a) (0 : Int))) + 1) <= 2300 := by walk_at "q"
theorem fq645 {a b c : Int}: 1 <= a -> b <= c -> b <= (a + c) - 1 := by walk_at "q"
theorem fq646 {a b c : Int}: 10 <= a -> 4 * b <= c + 4 -> 5 * c <= 16 * a -> b <= a := by walk_at "q"
theorem fq647 {a b c : Int}: 10 <= a -> b <= c + 1 -> b + (-c) <= a := by walk_at "q"
theorem fq648 {a b c : Int}: 100 <= a -> b = c -> b <= 4 -> c <= a := by walk_at "q"
theorem fq649 {a b c : Int}: 2 * a <= b -> 5 * b <= 12 * c -> 5 * a <= 6 * c := by walk_at "q"
theorem fq650 {a b c : Int}: 2 * a <= b -> c <= 6 * a -> c <= 3 * b := by walk_at "q"
theorem fq651 {a b c : Int}: a * 1 <= b -> b <= c -> a <= c := by walk_at "q"
theorem fq652 {a b c : Int}: a + b = c -> a = c - b := by walk_at "q"
theorem fq653 {a b c : Int}: a - 1 < 1 -> a = b + (-c) -> b <= c + 1 := by walk_at "q"
theorem fq654 {a b c : Int}: a - b = 2 * c -> a = (b + c) + c := by walk_at "q"
theorem fq655 {a b c : Int}: a - b = c -> a = b + c := by walk_at "q"
theorem fq656 {a b c : Int}: a < 0 -> a = 0 -> ((b = 0) /\ (0 < c)) := by walk_at "q"
theorem fq657 {a b c : Int}: a < b -> b <= c -> a <= c := by walk_at "q"
theorem fq658 {a b c : Int}: a = (b + 0) - c -> a = b - c := by walk_at "q"
theorem fq659 {a b c : Int}: a = 0 -> ¬ (a = 0) -> ((((0 < a) /\ (((0 <= b) /\ (0 <= c))))) \/ (((((0 < a) /\ (((b < 0) /\ (c < 0))))) \/ (((a < 0) /\ (((b < 0) /\ (0 <= c)))))))) := by walk_at "q"
theorem fq660 {a b c : Int}: a = b + c -> a - b = c := by walk_at "q"
theorem fq661 {a b c : Int}: a = b + c -> b <= 2 -> c <= 1 -> ¬ (c = 1) -> a <= 2 := by walk_at "q"
theorem fq662 {a b c : Int}: a = b - (c + 0) -> a = b - c := by walk_at "q"
theorem fq663 {a b c : Int}: a = b -> a <= c -> b <= c := by walk_at "q"
theorem fq664 {a b c : Int}: a = b -> b <= c + 2 -> a + (-c) <= 496 := by walk_at "q"
theorem fq665 {a b c : Int}: a = b -> b <= c + 22 -> a + (-((c + 10) + 10)) <= 496 := by walk_at "q"
theorem fq666 {a b c : Int}: a = b -> b <= c + 22 -> a - (c + 10) < 2300 := by walk_at "q"
theorem fq667 {a b c : Int}: a = b -> b <= c + 22 -> a <= ((c + 10) + 10) + 3 := by walk_at "q"
theorem fq668 {a b c : Int}: a <= b -> b <= c -> a <= c := by walk_at "q"
theorem fq669 {a b c : Int}: a <= b -> ¬ (¬ (a = c)) -> c <= b := by walk_at "q"
theorem fq672 {a b c d : Int}: (-2) <= a -> 1 <= b -> c = b + d -> c <= 3 -> d - a < 2300 := by walk_at "q"
theorem fq673 {a b c d : Int}: (-2) <= a -> 1 <= b -> c = b + d -> c <= 3 -> d - a <= ((25 : Nat) : Int) := by walk_at "q"
theorem fq674 {a b c d : Int}: (-23) <= a -> (-23) <= b -> (a - 1) + (b - 1) < c -> c = d -> c <= 47 -> (((-50) < d) /\ (d < 50)) := by intros; constructor <;> lia -abstractProof
theorem fq675 {a b c d : Int}: (-60) <= a -> (-60) <= b -> b <= 60 -> (-60) <= c -> c <= 60 -> (-60) <= d -> (((-200) <= (min (a + d) (b + c))) /\ ((min (a + d) (b + c)) <= 200)) := by intros; have := eU (a + d) (b + c); have := eT (a + d) (b + c); have := fz (a + d) (b + c); generalize min (a + d) (b + c) = z1 at *; lia -abstractProof
theorem fq676 {a b c d : Int} (h1 : (-60) <= a) (h2 : a <= 60) (h3 : (-60) <= b) (h4 : (-60) <= c) (h5 : c <= 60) (h6 : (-60) <= d) : (((-200) <= (min (a + c) (b + d))) /\ ((min (a + c) (b + d)) <= 200)) :=
  ⟨Int.le_min.mpr ⟨by lia -abstractProof, by lia -abstractProof⟩, Int.le_trans (Int.min_le_left _ _) (by lia -abstractProof)⟩
theorem fq677 {a b c d : Int}: 0 < a -> 2 * b <= c -> 2 * c <= d -> d <= a -> b <= a := by walk_at "q"
theorem fq678 {a b c d : Int}: 0 < a -> 2 * b <= c -> c <= a -> d <= b -> 1 + d <= 1 + (2 * a) := by walk_at "q"
theorem fq679 {a b c d : Int} (h1 : 0 <= a) (h2 : 1 <= b) (h3 : a < c) (h4 : b + (2 * c) <= d) : ((((0 <= a) /\ (((1 <= b + 2) /\ ((b + 2) + (2 * a) <= d))))) /\ ((Int.toNat a) < (Int.toNat c))) :=
  ⟨⟨h1, by lia -abstractProof, by lia -abstractProof⟩, ktl h1 h3⟩
theorem fq680 {a b c d : Int} (h : 0 <= a) (h1 : 1 <= b) (h2 : b + (2 * a) <= 1 + (2 * c)) (h3 : c < d) : (Int.natAbs a) <= (Int.natAbs d) := vA (by lia -abstractProof) (by lia -abstractProof)
theorem fq681 {a b c d : Int}: 1 <= a -> a + (-b) <= c -> b <= 60 -> c = d -> (-99) <= d - 1 := by walk_at "q"
theorem fq682 {a b c d : Int}: 4 <= a -> b = c + d -> (d + c) - a <= b - 1 := by walk_at "q"
theorem fq683 {a b c d : Int}: a + (2 * b) <= c -> d < b -> (a + 2) + (2 * d) <= c := by walk_at "q"
theorem fq684 {a b c d : Int}: a + b <= c + 1 -> c <= d -> (b + a) - 1 <= d := by walk_at "q"
theorem fq685 {a b c d : Int}: a < b -> b <= a -> c < d := by walk_at "q"
theorem fq686 {a b c d : Int}: a = b + c -> (a + d) - 1 = (b - 1) + (d + c) := by walk_at "q"
theorem fq687 {a b c d : Int}: a = b + c -> (a + d) - b = d + c := by walk_at "q"
theorem fq688 {a b c d : Int}: a = b + c -> a + d = b + (d + c) := by walk_at "q"
theorem fq689 {a b c d : Int}: a = b -> a <= (c + (-d)) + 1 -> c <= d + 3 -> b <= 99 := by walk_at "q"
theorem fq690 {a b c d : Int} (h1 : a <= ((20 : Nat) : Int)) (h2 : b <= ((20 : Nat) : Int)) (h3 : c <= 60) (h4 : d <= 60) : (((-999) <= (max (max ((-999) : Int) (a + c)) (b + d))) /\ ((max (max ((-999) : Int) (a + c)) (b + d)) <= 160)) :=
  ⟨Int.le_trans (Int.le_max_left _ _) (Int.le_max_left _ _), Int.max_le.mpr ⟨Int.max_le.mpr ⟨by decide, by lia -abstractProof⟩, by lia -abstractProof⟩⟩
theorem fq691 {a b c d : Int}: a <= 6 -> (-10) <= b -> b <= 1 -> c <= a -> 1 <= c -> b = c + d -> (((-60) <= d) /\ (d <= 60)) := by intros; constructor <;> lia -abstractProof
theorem fq692 {a b c d : Int}: a <= 6 -> (-3) < b -> b <= 3 -> c <= a + 10 -> 1 <= c -> b = c + d -> (((-30) <= d) /\ (d <= 30)) := by intros; constructor <;> lia -abstractProof
theorem fq693 {a b c d : Int}: a <= 6 -> b <= a -> (-10) <= c -> c <= 1 -> 1 <= b -> c = b + d -> (((-400) <= d) /\ (d <= 400)) := by walk_at "q"
theorem fq694 {a b c d : Int}: a <= 6 -> b <= a -> (-10) <= c -> c <= 1 -> 1 <= b -> c = b + d -> (((-60) <= d) /\ (d <= 60)) := by intros; constructor <;> lia -abstractProof
theorem fq695 {a b c d : Int}: a <= b + c -> d <= a - 1 -> ¬ ((c + b) - 1 < d) := by walk_at "q"
theorem fq696 {a b c d : Int}: a <= b -> a <= c -> b <= d -> ((a <= (min b c)) /\ ((min b c) <= d)) := by intros; have := eU b c; have := eT b c; have := fz b c; generalize min b c = z1 at *; lia -abstractProof
theorem fq697 {a b c d : Int}: a <= b -> b <= c -> c <= d -> a <= d := by walk_at "q"
theorem fq698 {a b c d e : Int} {k : Nat}: a = b + c -> a <= (d + (-(k : Int))) + 1 -> d <= (((k + 2) : Nat) : Int) + 1 -> e <= b + 1 -> e + (c - 1) <= 99 := by walk_at "q"
theorem fq699 {a b c d e : Int} (h : ((a = 1) \/ (a = (-1)))) (h1 : 0 <= b) (h2 : 0 <= c) (h4 : b + (2 * d) <= 1 + (2 * e)) (h3 : c < d) : ((((0 <= c) /\ (((c <= e) /\ ((((((-a) = 1) \/ ((-a) = (-1)))) /\ (((0 <= b + 2) /\ ((b + 2) + (2 * c) <= 1 + (2 * e)))))))))) /\ ((Int.toNat c) < (Int.toNat d))) :=
  ⟨⟨h2, by lia -abstractProof, kpm h, by lia -abstractProof, by lia -abstractProof⟩, ktl h2 h3⟩
theorem fq700 {a b c d e : Int} (h : ((a = 1) \/ (a = (-1)))) (h1 : 0 <= b) (h2 : 1 <= c) (h3 : b < d) (h4 : c + (2 * d) <= 1 + (2 * e)) : ((((0 <= b) /\ (((b <= e) /\ ((((((-a) = 1) \/ ((-a) = (-1)))) /\ (((1 <= c + 2) /\ ((c + 2) + (2 * b) <= 1 + (2 * e)))))))))) /\ ((Int.toNat b) < (Int.toNat d))) :=
  ⟨⟨h1, by lia -abstractProof, kpm h, by lia -abstractProof, by lia -abstractProof⟩, ktl h1 h3⟩
theorem fq701 {a b c d e : Int}: (-3) < a -> a = b + c -> b <= d + 10 -> d <= 6 -> e <= 1 -> e - c < 2300 := by walk_at "q"
theorem fq702 {a b c d e : Int}: (-3) < a -> a = b + c -> b <= d + 10 -> d <= 6 -> e <= 1 -> e - c <= ((25 : Nat) : Int) := by walk_at "q"
theorem fq703 {a b c d e : Int}: (-60) <= a -> b + c <= 21 -> c = ((a - d) / 2) - 1 -> d <= (2 * e) + 3 -> e <= 20 -> b <= 2000 := by walk_at "q"
theorem fq704 {a b c d e : Int}: a = b + c -> d <= a -> d - e <= (c + b) - e := by walk_at "q"
theorem fq705 {a b c d e : Int}: a = b - c -> a + (d - e) = (b + d) - (c + e) := by walk_at "q"
theorem fq706 {a b c d e : Int}: a <= 6 -> ((¬ (b = 0)) -> ((((-50) <= c) /\ (c <= 50)))) -> d <= a -> ¬ (b = 0) -> c = d + e -> 1 <= d -> (((-60) <= e) /\ (e <= 60)) := by walk_at "q"
theorem fq707 {a b c d e : Int}: a <= 6 -> (-20) <= b -> b <= 21 -> b <= c -> c <= b + 1 -> c = d + e -> d <= a -> 1 <= d -> (((-100) <= e) /\ (e <= 100)) := by intros; constructor <;> lia -abstractProof
theorem fq708 {a b c d e f g : Int} (h1 : 0 < a) (h2 : a <= b) (h3 : c = 100 * d) (h4 : e = f + 0) (h5 : ¬ (¬ (d = g))) : ((f <= e) /\ (((e <= f + 1) /\ (((0 < b) /\ (((c <= (100 * g) + (20 * b)) /\ (100 * g <= (c + (200 * b)) + 100)))))))) := by
  have h5 := Classical.not_not.mp h5
  subst h3 h4 h5
  exact ⟨by lia -abstractProof, by lia -abstractProof, by lia -abstractProof, by lia -abstractProof, by lia -abstractProof⟩
theorem fq709 {a b c d e f g h : Int}: ((a < 2 * b) \/ (((2 * b = a) /\ (c = 1)))) -> b < a -> d < e -> f = g + b -> h <= d -> ((h <= d + 1) /\ (((d + 1 <= e) /\ (((2 * ((g + a) - f) <= a) /\ (2 * (f - (g + a)) <= a)))))) := by walk_at "q"
theorem fq710 {a b c d e f g h : Int}: 0 <= a -> b < c -> d = e + a -> f <= b -> ¬ (((g < 2 * a) \/ (((2 * a = g) /\ (h = 1))))) -> ((f <= b) /\ (((b <= c) /\ (((2 * (e - d) <= g) /\ (2 * (d - e) <= g)))))) := by intros; repeat' apply And.intro; all_goals lia -abstractProof
theorem fq711 {a b c d e f g h i : Int}: a <= 6 -> b <= 2 -> 1 <= c -> b = c + d -> e = f - 1 -> (-2) <= f -> 0 <= g -> h + i <= 61 -> i = ((e - d) - (max ((((a + 10) + 2) + c) - g) (0 : Int))) - 1 -> h <= 2000 := by walk_at "q"
theorem fq712 {a b c d e f g h i j : Int}: ((¬ (a = 0)) -> (((b <= c) /\ (c <= d)))) -> ((¬ (e = 0)) -> (((f <= g) /\ (g <= h)))) -> (-49) < b + f -> d + h < 48 -> ¬ (a = 0) -> ¬ (e = 0) -> (c - 1) + (g - 1) < i -> i <= (c + g) + 1 -> i = j -> (((-50) < j) /\ (j < 50)) := by walk_at "q"
theorem fq714 {k : Nat}: (((Int.natAbs (k : Int)) : Nat) : Int) = (k : Int) := by intros; have := db (k : Int); have := da (k : Int); have := dg (k : Int); generalize Int.natAbs (k : Int) = z1 at *; lia -abstractProof
theorem fq715 {k : Nat}: (((k + 21) : Nat) : Int) + (-(k : Int)) = 21 := by walk_at "q"
theorem fq716 {k : Nat}: ((k + 1) + (k + 1)) + 1 <= (2 * k) + 3 := by walk_at "q"
theorem fq717 {k : Nat}: ((k : Int) + 1) / 2 = ((((k + 1) / 2) : Nat) : Int) := by walk_at "q"
theorem fq718 {k : Nat}: ((k : Int) - 2) + ((k : Int) - 2) = (((2 * k) : Nat) : Int) - 4 := by walk_at "q"
theorem fq719 {k : Nat}: (-((2 : Int) ^ 62)) <= (k : Int) := by walk_at "q"
theorem fq720 {k : Nat}: (1 * (k : Int)) / 2 = (((k / 2) : Nat) : Int) := by walk_at "q"
theorem fq721 {k : Nat}: (Int.toNat (((k : Int) + 1) - 1)) = k := by walk_at "q"
theorem fq722 {k : Nat} : (Int.toNat ((2 * (k : Int)) - 1)) = (2 * k) - 1 := ktn (by lia -abstractProof)
theorem fq723 {k : Nat} : (Int.toNat ((k : Int) - 20)) = k - 20 := Int.toNat_sub k 20
theorem fq724 {k : Nat}: (Int.toNat (2 * (k : Int))) = 2 * k := by walk_at "q"
theorem fq725 {k : Nat}: (k + 1) / 10 <= k := by walk_at "q"
theorem fq726 {k : Nat}: (k : Int) % 2 = 1 -> (k : Int) + 1 = (((k + (k % 2)) : Nat) : Int) := by walk_at "q"
theorem fq727 {k : Nat}: (k : Int) < 2300 -> ((k + 1) / 2) + 1 <= 2300 := by walk_at "q"
theorem fq728 {k : Nat}: (k : Int) = 0 -> k = 0 := by walk_at "q"
theorem fq729 {k : Nat}: (min (20 : Nat) k) <= 20 := by walk_at "q"
theorem fq730 {k : Nat}: 0 < (((k + 2) : Nat) : Int) := by walk_at "q"
theorem fq731 {k : Nat}: 0 < (k : Int) -> k / 10 < k := by walk_at "q"
theorem fq732 {k : Nat}: 0 < k + 1 := by walk_at "q"
theorem fq733 {k : Nat}: 0 < k -> ((10 : Nat) ^ 0) <= k := by walk_at "q"
theorem fq734 {k : Nat}: 0 < k -> (-(k : Int)) < 0 := by walk_at "q"
theorem fq735 {k : Nat}: 0 < k -> (2 * 0) + (k : Int) < 2 * (k : Int) := by walk_at "q"
theorem fq736 {k : Nat}: 0 < k -> k * 10000000000 <= (0 * 10000000000) + k -> False := by walk_at "q"
theorem fq737 {k : Nat}: 0 < k -> k / 10 < k := by walk_at "q"
theorem fq738 {k : Nat}: 0 < k -> k = (k - 1) + 1 := by walk_at "q"
theorem fq739 {k : Nat}: 0 < k -> ¬ ((-(k : Int)) = 0) := by walk_at "q"
theorem fq740 {k : Nat}: 0 <= ((k : Int) + 1) - 1 := by walk_at "q"
theorem fq741 {k : Nat}: 0 <= (2 * 0) + (k : Int) := by walk_at "q"
theorem fq742 {k : Nat}: 0 <= 0 + (k : Int) := by walk_at "q"
theorem fq743 {k : Nat}: 1 <= k -> (1 - (k : Int)) + (((k - 1) : Nat) : Int) = 0 := by walk_at "q"
theorem fq744 {k : Nat}: 1 <= k -> (k : Int) - 1 = (((k - 1) : Nat) : Int) := by walk_at "q"
theorem fq745 {k : Nat}: 1 <= k -> 0 < k := by walk_at "q"
theorem fq746 {k : Nat}: 1 <= k -> 1 <= k := by walk_at "q"
theorem fq747 {k : Nat}: 1 <= k -> k = (k - 1) + 1 := by walk_at "q"
theorem fq748 {k : Nat}: 1 <= k -> ¬ (k = 1) -> 0 < k - 1 := by walk_at "q"
theorem fq749 {k : Nat}: 1000000000 <= (k : Int) -> 1000000000 <= k := by walk_at "q"
theorem fq750 {k : Nat}: 1000000000 <= (k : Int) -> k / 1000000000 < k := by walk_at "q"
theorem fq760 {k : Nat}: 2 * k = k + k := by walk_at "q"
theorem fq761 {k : Nat}: 2 <= k -> 0 < (1 * (k : Int)) / 2 := by walk_at "q"
theorem fq762 {k : Nat}: 20 <= k -> 0 <= (k : Int) - 20 := by walk_at "q"
theorem fq763 {k : Nat}: 24 <= k -> k = 24 + (k - 24) := by walk_at "q"
theorem fq764 {k : Nat}: 38 <= k -> (-(k : Int)) <= (-38) := by walk_at "q"
theorem fq765 {k : Nat}: 38 <= k -> k = 38 + (k - 38) := by walk_at "q"
theorem fq766 {k : Nat}: 38 <= k -> k <= 46 -> ((1 <= (k : Int)) /\ ((k : Int) <= 400)) := by walk_at "q"
theorem fq767 {k : Nat}: 4 <= k -> (1 - (k : Int)) + (((k - 1) : Nat) : Int) = 0 := by walk_at "q"
theorem fq768 {k : Nat}: 4 <= k -> 3 <= k - 1 := by walk_at "q"
theorem fq769 {k : Nat}: 4 <= k -> 4 <= k := by walk_at "q"
theorem fq770 {k : Nat}: 4 <= k -> k <= 6 -> ((2 <= (k : Int)) /\ ((k : Int) <= 20)) := by intros; constructor <;> lia -abstractProof
theorem fq771 {k : Nat}: k % 10 = 0 -> k = (k / 10) * 10 := by walk_at "q"
theorem fq772 {k : Nat}: k % 10 = 0 -> ¬ (k = 0) -> ¬ (k / 10 = 0) := by walk_at "q"
theorem fq773 {k : Nat}: k + (10 * 6) < 9000 -> (k + 3) + (10 * 4) < 9000 := by walk_at "q"
theorem fq774 {k : Nat}: k + 1 <= (2 * k) + 3 := by walk_at "q"
theorem fq775 {k : Nat}: k + 1 <= 2 * ((k / 2) + 1) := by walk_at "q"
theorem fq776 {k : Nat}: k + 21 = (k + 1) + 20 := by walk_at "q"
theorem fq777 {k : Nat}: k + 21 = (k + 20) + 1 := by walk_at "q"
theorem fq778 {k : Nat}: k + 4 < 900 -> k + 1 < 898 := by walk_at "q"
theorem fq779 {k : Nat}: k + 5 < 100 -> ((k + 1) + 1) + 1 < 100 := by walk_at "q"
theorem fq780 {k : Nat}: k + 5 < 100 -> (k + 1) + 1 < 100 := by walk_at "q"
theorem fq781 {k : Nat}: k + 5 < 100 -> k + 1 < 100 := by walk_at "q"
theorem fq782 {k : Nat}: k + 5 < 100 -> k < 100 := by walk_at "q"
theorem fq783 {k : Nat}: k + 5 < 900 -> (k + 1) + 3 < 900 := by walk_at "q"
theorem fq784 {k : Nat}: k + 5 < 900 -> k < 1000 := by walk_at "q"
theorem fq785 {k : Nat}: k + 50 < 9000 -> (k + 3) + (10 * 3) < 9000 := by walk_at "q"
theorem fq786 {k : Nat}: k + 6 < 900 -> (k + 1) + 4 < 900 := by walk_at "q"
theorem fq787 {k : Nat}: k + 8 < 900 -> (k + 1) + 6 < 900 := by walk_at "q"
theorem fq788 {k : Nat}: k + 8 < 900 -> k < 1000 := by walk_at "q"
theorem fq789 {k : Nat}: k + 80 < 9000 -> (k + 3) + (10 * 6) < 9000 := by walk_at "q"
theorem fq790 {k : Nat}: k / 10 = 0 -> k < 10 := by walk_at "q"
theorem fq791 {k : Nat}: k < ((10 : Nat) ^ 1) -> k < 10 := by walk_at "q"
theorem fq792 {k : Nat}: k < ((2 : Nat) ^ 20) -> (k : Int) < 9223372036854775808 := by walk_at "q"
theorem fq793 {k : Nat}: k < 100 -> k + 1 < 1000 := by walk_at "q"
theorem fq794 {k : Nat}: k < 100 -> k < 1000 := by walk_at "q"
theorem fq795 {k : Nat}: k < 1900 -> k < 1920 := by walk_at "q"
theorem fq796 {k : Nat}: k < 39 -> k < 100 := by walk_at "q"
theorem fq797 {k : Nat}: k < 4 -> (((-2) <= (k : Int) - 2) /\ ((k : Int) - 2 <= 1)) := by walk_at "q"
theorem fq798 {k : Nat}: k < 8000 -> ¬ (300 < (k / 30) + 1) := by walk_at "q"
theorem fq799 {k : Nat}: k < 898 -> k + 1 < 900 := by walk_at "q"
theorem fq800 {k : Nat}: k < 900 -> k < 1000 := by walk_at "q"
theorem fq801 {k : Nat}: k < k + 1 := by walk_at "q"
theorem fq802 {k : Nat}: k <= ((k + 1) / 2) + ((k + 1) / 2) := by walk_at "q"
theorem fq803 {k : Nat}: k <= 100 -> (k : Int) < 9223372036854775808 := by walk_at "q"
theorem fq804 {k : Nat}: k <= 100 -> k <= 16777216 := by walk_at "q"
theorem fq805 {k : Nat}: k <= 1000 -> (k : Int) < ((2 : Int) ^ 62) := by walk_at "q"
theorem fq806 {k : Nat}: k <= 26 -> k - 24 < 3 := by walk_at "q"
theorem fq807 {k : Nat}: k <= 2900 -> k <= 3000 := by walk_at "q"
theorem fq808 {k : Nat}: k <= 38 -> (Int.natAbs ((k : Int) * 5)) < 1000 := by intros; have := db ((k : Int) * 5); have := da ((k : Int) * 5); have := dg ((k : Int) * 5); generalize Int.natAbs ((k : Int) * 5) = z1 at *; lia -abstractProof
theorem fq809 {k : Nat}: k <= 38 -> (Int.natAbs (k : Int)) < ((10 : Nat) ^ 2) := by intros; have := db (k : Int); have := da (k : Int); have := dg (k : Int); generalize Int.natAbs (k : Int) = z1 at *; lia -abstractProof
theorem fq810 {k : Nat}: k <= 38 -> k < 100 := by walk_at "q"
theorem fq811 {k : Nat}: k <= 38 -> k < 39 := by walk_at "q"
theorem fq812 {k : Nat}: k <= 40 -> k - 20 <= 20 := by walk_at "q"
theorem fq813 {k : Nat}: k <= 46 -> ((0 <= (k : Int)) /\ ((k : Int) <= 60)) := by walk_at "q"
theorem fq814 {k : Nat}: k <= 46 -> (k : Int) <= 60 := by walk_at "q"
theorem fq815 {k : Nat}: k <= 46 -> k + 1 < 100 := by walk_at "q"
theorem fq816 {k : Nat}: k <= 46 -> k - 38 < 9 := by walk_at "q"
theorem fq817 {k : Nat}: k <= 46 -> k < 100 := by walk_at "q"
theorem fq818 {k : Nat}: k <= 6 -> ((1 <= (k : Int) + 10) /\ ((k : Int) + 10 <= 50)) := by walk_at "q"
theorem fq819 {k : Nat}: k <= 6 -> (k : Int) <= 6 := by walk_at "q"
theorem fq820 {k : Nat}: k <= 700 -> ((2 * k) + 3) + 1 <= 2300 := by walk_at "q"
theorem fq821 {k : Nat}: ¬ ((k : Int) % 2 = 1) -> (k : Int) = (((k + (k % 2)) : Nat) : Int) := by walk_at "q"
theorem fq822 {k : Nat}: ¬ ((k : Int) < 0) := by walk_at "q"
theorem fq823 {k : Nat}: ¬ (0 < (k : Int)) -> 0 = (k : Int) := by walk_at "q"
theorem fq824 {k : Nat}: ¬ (0 < (k : Int)) -> k = 0 := by walk_at "q"
theorem fq825 {k : Nat}: ¬ (k + 1 = 0) := by walk_at "q"
theorem fq826 {k : Nat}: ¬ (k = 0) -> 1 <= k := by walk_at "q"
theorem fq827 {k : Nat}: ¬ (k = 0) -> k / 10 < k := by walk_at "q"
theorem fq828 {k l : Nat}: ((((k = 0) /\ (l <= 3))) \/ (((l = 0) /\ (k <= 3)))) -> ((((k = 0) /\ (l = 0))) \/ (((((k = 1) /\ (l = 0))) \/ (((((k = 2) /\ (l = 0))) \/ (((((k = 0) /\ (l = 1))) \/ (((((k = 0) /\ (l = 2))) \/ (((((k = 0) /\ (l = 3))) \/ (((k = 3) /\ (l = 0)))))))))))))) := by walk_at "q"
theorem fq829 {k l : Nat} : (((k - l) : Nat) : Int) + ((min (k : Int) (l : Int)) - 2) = (k : Int) - 2 := by
  rcases Nat.le_total k l with h | h
  · rw [Int.min_eq_left (Int.ofNat_le.mpr h), Nat.sub_eq_zero_of_le h]; exact Int.zero_add _
  · rw [Int.min_eq_right (Int.ofNat_le.mpr h), Int.ofNat_sub h]; lia -abstractProof
theorem fq830 {k l : Nat}: (((k - l) : Nat) : Int) + ((min (l : Int) (k : Int)) - 2) = (k : Int) - 2 := by walk_at "q"
theorem fq831 {k l : Nat}: ((k + (1 * l)) + (((l * 1) + (1 * 1)) + (1 * 1))) + (((l * 1) + (1 * 1)) + (1 * 1)) = ((k + ((l * 1) + (1 * 1))) + ((2 * l) + (2 * 1))) + 1 := by walk_at "q"
theorem fq832 {k l : Nat}: (2 * (k + 1)) + 1 <= (l + 1) + 1 -> (2 * k) + 1 <= l := by walk_at "q"
theorem fq833 {k l : Nat} : (Int.toNat (((((2 * k) : Nat) : Int) - 4) - (min ((((2 * k) : Nat) : Int) - 4) ((((2 * l) : Nat) : Int) - 4)))) = 2 * (k - l) := by
  rw [ksub, ktn (a := 2 * k) (b := 2 * l) (by lia -abstractProof), Nat.mul_sub]
theorem fq834 {k l : Nat} : (Int.toNat (((((2 * k) : Nat) : Int) - 4) - (min ((((2 * l) : Nat) : Int) - 4) ((((2 * k) : Nat) : Int) - 4)))) = 2 * (k - l) := by rw [Int.min_comm]; exact fq833
theorem fq835 {k l : Nat} : (Int.toNat (((k : Int) - 2) - (min ((k : Int) - 2) ((l : Int) - 2)))) = k - l := by rw [ksub, ktn (a := k) (b := l) (by lia -abstractProof)]
theorem fq836 {k l : Nat} : (Int.toNat (((k : Int) - 2) - (min ((l : Int) - 2) ((k : Int) - 2)))) = k - l := by rw [Int.min_comm]; exact fq835
theorem fq837 {k l : Nat}: (k : Int) + ((2 * 1) * (l : Int)) = ((((2 * l) + k) : Nat) : Int) := by walk_at "q"
theorem fq838 {k l : Nat}: (k : Int) + ((2 * 7) * (l : Int)) = ((((14 * l) + k) : Nat) : Int) := by walk_at "q"
theorem fq839 {k l : Nat}: (k : Int) <= (l : Int) -> k <= l := by walk_at "q"
theorem fq840 {k l : Nat}: 0 < (0 : Nat) -> k = l := by walk_at "q"
theorem fq841 {k l : Nat}: 0 < k -> k * ((10 : Nat) ^ 3) <= l -> l <= k * 3 -> False := by walk_at "q"
theorem fq842 {k l : Nat}: 0 < k -> l <= (k + l) - 1 := by walk_at "q"
theorem fq843 {k l : Nat}: 0 < k -> ¬ (k + l = 0) := by walk_at "q"
theorem fq844 {k l : Nat}: 1 <= k -> (k + l) - 1 = (k - 1) + l := by walk_at "q"
theorem fq845 {k l : Nat}: 2 * k < l -> ((2 * (k : Int)) - (l : Int)) / 2 < 0 := by walk_at "q"
theorem fq846 {k l : Nat}: 2 * k = l -> 2 * (k : Int) = (l : Int) := by walk_at "q"
theorem fq847 {k l : Nat}: 2 * k = l -> ¬ ((l : Int) < 2 * (k : Int)) := by walk_at "q"
theorem fq848 {k l : Nat}: 2 * k <= l -> ¬ ((l : Int) < 2 * (k : Int)) := by walk_at "q"
theorem fq849 {k l : Nat}: 5 * k <= 16 * l -> k <= l * 10 := by walk_at "q"
theorem fq850 {k l : Nat}: 5 <= k -> l + (10 * k) < 9000 -> l + 50 < 9000 := by walk_at "q"
theorem fq851 {k l : Nat}: 5 <= k -> l + k < 900 -> l + 5 < 900 := by walk_at "q"
theorem fq852 {k l : Nat}: 8 <= k -> l + (10 * k) < 9000 -> l + 80 < 9000 := by walk_at "q"
theorem fq853 {k l : Nat}: 8 <= k -> l + k < 900 -> l + 8 < 900 := by walk_at "q"
theorem fq854 {k l : Nat}: k + (l + 1) = (k + 1) + l := by walk_at "q"
theorem fq855 {k l : Nat}: k + 1 <= l -> (((Int.natAbs ((k : Int) - (l : Int))) : Nat) : Int) = (((l - k) : Nat) : Int) := by walk_at "q"
theorem fq856 {k l : Nat}: k + 1 <= l -> (k : Int) - (l : Int) = (-(((l - k) : Nat) : Int)) := by walk_at "q"
theorem fq857 {k l : Nat}: k + 1 <= l -> (l : Int) - (k : Int) = (((l - k) : Nat) : Int) := by walk_at "q"
theorem fq858 {k l : Nat}: k - 1 < l -> (k : Int) <= (l : Int) := by walk_at "q"
theorem fq859 {k l : Nat}: k - 1 < l -> k <= l := by walk_at "q"
theorem fq860 {k l : Nat}: k - l = 0 -> l < k -> l = k := by walk_at "q"
theorem fq861 {k l : Nat}: k - l = 0 -> l <= k -> k = l := by walk_at "q"
theorem fq862 {k l : Nat}: k / 10 < l -> k < l * 10 := by walk_at "q"
theorem fq863 {k l : Nat}: k < 2 * l -> (k : Int) < 2 * (l : Int) := by walk_at "q"
theorem fq864 {k l : Nat}: k < 4 -> ((((k - l = 0) /\ (l - l <= 3))) \/ (((l - l = 0) /\ (k - l <= 3)))) := by walk_at "q"
theorem fq865 {k l : Nat}: k < 4 -> ((((l - l = 0) /\ (k - l <= 3))) \/ (((k - l = 0) /\ (l - l <= 3)))) := by walk_at "q"
theorem fq866 {k l : Nat}: k < l + 1 -> (((Int.natAbs ((l : Int) - (k : Int))) : Nat) : Int) = (((l - k) : Nat) : Int) := by walk_at "q"
theorem fq867 {k l : Nat}: k < l + 1 -> k <= l := by walk_at "q"
theorem fq868 {k l : Nat}: k < l + 1 -> l < k + 1 -> (k : Int) - (l : Int) = 0 := by walk_at "q"
theorem fq869 {k l : Nat}: k < l + 1 -> ¬ (l < k) := by walk_at "q"
theorem fq870 {k l : Nat}: k < l -> (((2 * k) : Nat) : Int) - 4 = (min ((((2 * l) : Nat) : Int) - 4) ((((2 * k) : Nat) : Int) - 4)) := by intros; have := eU ((((2 * l) : Nat) : Int) - 4) ((((2 * k) : Nat) : Int) - 4); have := eT ((((2 * l) : Nat) : Int) - 4) ((((2 * k) : Nat) : Int) - 4); have := fz ((((2 * l) : Nat) : Int) - 4) ((((2 * k) : Nat) : Int) - 4); generalize min ((((2 * l) : Nat) : Int) - 4) ((((2 * k) : Nat) : Int) - 4) = z1 at *; lia -abstractProof
theorem fq871 {k l : Nat}: k < l -> (k : Int) < (l : Int) := by walk_at "q"
theorem fq872 {k l : Nat}: k < l -> 0 < l - k := by walk_at "q"
theorem fq873 {k l : Nat}: k < l -> 0 <= ((l : Int) - 1) - (k : Int) := by walk_at "q"
theorem fq874 {k l : Nat}: k < l -> k <= l - 1 := by walk_at "q"
theorem fq875 {k l : Nat}: k < l -> l < k -> k = l := by walk_at "q"
theorem fq876 {k l : Nat}: k < l -> l = k + (l - k) := by walk_at "q"
theorem fq877 {k l : Nat}: k < l -> ¬ ((l : Int) <= (k : Int)) := by walk_at "q"
theorem fq878 {k l : Nat}: k = l + 1 -> k = (k - 1) + 1 := by walk_at "q"
theorem fq879 {k l : Nat}: k = l -> k <= l := by walk_at "q"
theorem fq880 {k l : Nat}: k = l -> l <= 63 -> k <= 16777216 := by walk_at "q"
theorem fq881 {k l : Nat}: k <= 14 * l -> (-(k : Int)) + ((2 * 7) * (l : Int)) = ((((14 * l) - k) : Nat) : Int) := by walk_at "q"
theorem fq882 {k l : Nat}: k <= 2 * l -> (-(k : Int)) + ((2 * 1) * (l : Int)) = ((((2 * l) - k) : Nat) : Int) := by walk_at "q"
theorem fq883 {k l : Nat}: k <= 2 * l -> ¬ (((2 * (l : Int)) - (k : Int)) / 2 < 0) := by walk_at "q"
theorem fq884 {k l : Nat}: k <= 46 -> (-99) <= ((-(k : Int)) + (l : Int)) - 1 := by walk_at "q"
theorem fq885 {k l : Nat}: k <= 46 -> (-99) <= (-(k : Int)) + (l : Int) := by walk_at "q"
theorem fq887 {k l : Nat}: k <= l - 1 -> k <= l := by walk_at "q"
theorem fq888 {k l : Nat}: k <= l / 10 -> k * 10 <= l := by walk_at "q"
theorem fq889 {k l : Nat}: k <= l / 2 -> ((l : Int) / 2) - (k : Int) = ((((l / 2) - k) : Nat) : Int) := by walk_at "q"
theorem fq890 {k l : Nat} (h : k <= l) : (((2 * k) : Nat) : Int) - 4 = (min ((((2 * k) : Nat) : Int) - 4) ((((2 * l) : Nat) : Int) - 4)) := (Int.min_eq_left (by lia -abstractProof)).symm
theorem fq891 {k l : Nat}: k <= l -> (l : Int) - (k : Int) = (((l - k) : Nat) : Int) := by walk_at "q"
theorem fq892 {k l : Nat}: k <= l -> 4 * (0 + (1 * ((l : Int) - (k : Int)))) = (((4 * (l - k)) : Nat) : Int) := by walk_at "q"
theorem fq893 {k l : Nat}: k <= l -> k <= l + 1 := by walk_at "q"
theorem fq894 {k l : Nat}: k <= l -> l = k + (l - k) := by walk_at "q"
theorem fq895 {k l : Nat}: k <= l -> ¬ (k < l) -> k = l := by walk_at "q"
theorem fq896 {k l : Nat}: ¬ (2 * k = l) -> ¬ (2 * (k : Int) = (l : Int)) := by walk_at "q"
theorem fq897 {k l : Nat}: ¬ (k < l) -> ¬ ((k : Int) < (l : Int)) := by walk_at "q"
theorem fq898 {k l : Nat}: ¬ (k <= l) -> l < k := by walk_at "q"
theorem fq899 {k l m : Nat}: (((k : Int) - 20) - (l : Int)) + (((m : Int) - 20) - (l : Int)) = (((k + m) : Nat) : Int) + (-((((2 * l) + 40) : Nat) : Int)) := by walk_at "q"
theorem fq900 {k l m : Nat} : (Int.toNat ((((-(k : Int)) + (l : Int)) - 1) + (m : Int))) = (l + m) - (k + 1) := ktn (by lia -abstractProof)
theorem fq901 {k l m : Nat} : (Int.toNat (((-(k : Int)) + (l : Int)) + (m : Int))) = (l + m) - k := ktn (by lia -abstractProof)
theorem fq902 {k l m : Nat}: 1 <= k -> l = m - k -> l <= m - 1 := by walk_at "q"
theorem fq903 {k l m : Nat} (h : 2 * k < l) (hm : m = ((l - (2 * k)) + 1) / 2) : (Int.natAbs (((2 * (k : Int)) - (l : Int)) / 2)) = m := by
  refine kng ?_
  obtain ⟨d, rfl⟩ : ∃ d, l = 2 * k + d := ⟨l - 2 * k, by lia -abstractProof⟩
  rw [Nat.add_sub_cancel_left] at hm
  have : (2 * (k : Int)) - ((2 * k + d : Nat) : Int) = -(d : Int) := by lia -abstractProof
  rw [this, hm]; lia -abstractProof
theorem fq904 {k l m : Nat}: k + 1 <= (l + m) + 10 -> (-10) <= (l : Int) + (((-(k : Int)) + (m : Int)) - 1) := by walk_at "q"
theorem fq905 {k l m : Nat}: k < l -> l = m -> k < m := by walk_at "q"
theorem fq906 {k l m : Nat}: k < l -> m = (l + 1) - k -> (l + 1) - (k + 1) < m := by walk_at "q"
theorem fq907 {k l m : Nat}: k < l -> m = l - k -> 0 < (m : Int) := by walk_at "q"
theorem fq908 {k l m : Nat}: k < l -> m = l - k -> 1 <= m := by walk_at "q"
theorem fq910 {k l m : Nat}: k = ((2 * l) + 30) + m -> l <= 6 -> m <= 1 -> k + 1 < 100 := by walk_at "q"
theorem fq911 {k l m : Nat} (h : k = ((2 * l) - m) / 2) (hm : m <= 2 * l) : (Int.natAbs (((2 * (l : Int)) - (m : Int)) / 2)) = k := by
  have : (2 * (l : Int)) - (m : Int) = ((2 * l - m : Nat) : Int) := by lia -abstractProof
  rw [this, h]; rfl
theorem fq912 {k l m : Nat}: k <= l -> l <= m -> k <= m := by walk_at "q"
theorem fq913 {k l m n : Nat}: ((¬ (k / 10 = 0)) -> (((1 <= l) /\ (((m <= k / 10) /\ (k / 10 < n)))))) -> ¬ (k / 10 = 0) -> k < n * 10 := by walk_at "q"
theorem fq914 {k l m n : Nat}: ((¬ (k / 10 = 0)) -> (((1 <= l) /\ (((m <= k / 10) /\ (k / 10 < n)))))) -> ¬ (k / 10 = 0) -> m * 10 <= k := by walk_at "q"
theorem fq915 {k l m n : Nat}: ((¬ (k = 0)) -> (((1 <= l) /\ (((m <= k) /\ (k < n)))))) -> ¬ (k = 0) -> (l + 1) - 1 = (l - 1) + 1 := by walk_at "q"
theorem fq916 {k l m n : Nat}: (39 * k) + l < (39 * m) + n -> n < 39 -> k <= m := by walk_at "q"
theorem fq917 {k l m n : Nat}: (39 * k) + l <= (39 * m) + n -> n < 39 -> k <= m := by walk_at "q"
theorem fq918 {k l m n : Nat} (h4 : 4 <= k) (h : l = ((2 * k) + 30) + ((m + n) - 4)) (hm : m <= 12) : ((((k : Int) + 10) + (max ((k : Int) + 10) (m : Int))) + 10) + (max (0 : Int) ((m : Int) + ((n : Int) - 4))) = (l : Int) :=
  kpl (by lia -abstractProof) (kmx (a := m + n) (b := 4) (by lia -abstractProof)) h
theorem fq919 {k l m n : Nat}: k + 1 <= (l + m) + 10 -> ¬ ((l : Int) + (((-(k : Int)) + (m : Int)) - 1) < (-((n : Int) + 10))) := by walk_at "q"
theorem fq920 {k l m n : Nat}: k + l = m -> k = n + 1 -> n + (l + 1) = m := by walk_at "q"
theorem fq921 {k l m n : Nat}: k + l = m -> k = n + 9 -> n + (l + 9) = m := by walk_at "q"
theorem fq922 {k l m n : Nat}: k + l = m -> l < n -> m < k + (1 * n) := by walk_at "q"
theorem fq923 {k l m n : Nat}: k < l -> l <= k -> m = n := by walk_at "q"
theorem fq924 {k l m n : Nat}: k = (l + m) - (n + 1) -> k <= 1 -> (l : Int) + (((-(n : Int)) + (m : Int)) - 1) <= 1 := by walk_at "q"
theorem fq925 {k l m n : Nat}: k = l -> l <= m -> m <= n -> n <= k -> n = m := by walk_at "q"
theorem fq926 {k l m n o : Nat}: (k + (l + m)) - (n + (o + m)) = (k + l) - (n + o) := by walk_at "q"
theorem fq927 {k l m n o p : Nat}: k + 1 <= (l + m) + 10 -> l <= n -> o = ((2 * n) + 30) + p -> 0 <= (((-(k : Int)) + (m : Int)) - 1) + (o : Int) := by walk_at "q"
theorem fq928 {k l m n o p : Nat}: k = ((2 * l) + 30) + ((m + n) - (o + p)) -> ((2 * ((l : Int) + 10)) + 10) + (max (0 : Int) (((m : Int) + ((n : Int) - 2)) - ((o : Int) + ((p : Int) - 2)))) = (k : Int) := by walk_at "q"
theorem fq929 {k l m n o p : Nat} (h : k = ((2 * l) + 30) + m) (h2 : m = (n + o) - (p + 1)) (hn : n <= l) : ((((l : Int) + 10) + (max ((l : Int) + 10) (n : Int))) + 10) + (max (0 : Int) ((n : Int) + (((-(p : Int)) + (o : Int)) - 1))) = (k : Int) :=
  kpl (by lia -abstractProof) (kmx (a := n + o) (b := p + 1) (by lia -abstractProof)) (h2 ▸ h)
theorem fq930 {k l m n o p : Nat} (h : k = ((2 * l) + 30) + m) (h2 : m = (n + o) - p) (hn : n <= l) : ((((l : Int) + 10) + (max ((l : Int) + 10) (n : Int))) + 10) + (max (0 : Int) ((n : Int) + ((-(p : Int)) + (o : Int)))) = (k : Int) :=
  kpl (by lia -abstractProof) (kmx (a := n + o) (b := p) (by lia -abstractProof)) (h2 ▸ h)

-- printed by wip/applyg.py from the logs of wip/Fg.lean
theorem mn {u v w : Rat}: u <= v -> v <= w -> u <= w := by walk_at "g"
theorem us {u v w : Rat}: u < v -> v <= w -> u <= w := by walk_at "g"
theorem gq3 {u v w : Rat}: u < v -> w <= u -> w < v := by walk_at "g"
theorem gq4 {u : Rat}: u <= u := by walk_at "g"
theorem gq5 {u v : Rat}: 2 * u <= v -> u <= v / 2 := by walk_at "g"
theorem gq6 {u : Rat}: ¬ (0 <= u) -> 0 <= (-u) := by walk_at "g"
theorem gq7 {u v : Rat}: 0 <= u -> 0 <= v -> 0 <= u + v := by walk_at "g"
theorem gq8 {a : Int} {u : Rat}: ((0 < u) -> (0 < a)) -> ((u < 0) -> (a < 0)) -> a = 0 -> u = 0 := by walk_at "g"
theorem gq9 {u : Rat}: 2 * u <= 1 -> u <= 1 / 2 := by walk_at "g"
theorem gq10 {u : Rat}: u < 0 -> 0 < (-u) := by walk_at "g"
theorem gq11 {u v : Rat}: 0 < u -> u <= v -> 0 < v := by walk_at "g"
theorem gq12 {u v w x : Rat}: (u * v) * (w * x) = (u * x) * (w * v) := by walk_at "g"
theorem gq13 {u v w x y : Rat}: u <= v + w -> v <= x -> w <= y -> u <= x + y := by walk_at "g"
theorem gq14 {u : Rat}: 0 < u -> 0 <= u := by walk_at "g"
theorem gq15 {u v : Rat}: (-u) * v = (-(u * v)) := by walk_at "g"
theorem gq16 {u v : Rat}: (4 * u) * v = 4 * (u * v) := by walk_at "g"
theorem gq17 {u v : Rat}: u * (2 * v) = 2 * (u * v) := by walk_at "g"
theorem gq18 {u v : Rat}: u < v -> u < v := by walk_at "g"
theorem gq19 {u v w : Rat}: u < v -> v <= w -> u < w := by walk_at "g"
theorem gq20 {u v w x : Rat}: (u * v) * (w * x) = (u * w) * (v * x) := by walk_at "g"
theorem gq21 : ((1 * 1) + (0 * 0)) - 1 = (0 : Rat) := by walk_at "g"
theorem gq22 : (0 * 0) + (0 * 0) = (0 : Rat) := by walk_at "g"
theorem gq23 : (1 * 1) - 1 = (0 : Rat) := by walk_at "g"
theorem gq24 : 0 < (1 : Rat) := by walk_at "g"
theorem gq25 : 0 <= (1 / 10000000000000 : Rat) := by walk_at "g"
theorem gq26 : 0 <= (1001 / 1000 : Rat) := by walk_at "g"
theorem gq27 : 0 <= (999 : Rat) := by walk_at "g"
theorem gq28 {a b c d e : Int}: (a + (b * (c - d))) + (b * e) = a + (b * ((c + e) - d)) := by walk_at "g"
theorem gq29 {a b c d e f : Int}: ((a + (b * (c - d))) + (b * e)) + ((-b) * f) = a + (b * ((c + e) - (d + f))) := by walk_at "g"
theorem gq30 {u : Rat}: (-1) * (-u) = u := by walk_at "g"
theorem gq31 {u : Rat}: (-u) * (-u) = u * u := by walk_at "g"
theorem gq32 {u : Rat}: 0 * u = 0 := by walk_at "g"
theorem gq33 {u : Rat}: 0 < u -> (-u) < 0 := by walk_at "g"
theorem gq34 {u : Rat}: 0 < u -> (0 * 0) <= u := by walk_at "g"
theorem gq35 {u : Rat}: 0 < u -> (2 * 0) <= u := by walk_at "g"
theorem gq36 {u : Rat}: 0 <= u -> ¬ (u = 0) -> 0 < u := by walk_at "g"
theorem gq37 {u : Rat}: 1 / 100 <= u -> 0 <= u / 2 := by walk_at "g"
theorem gq38 {u : Rat}: 1 / 10000 <= u -> 0 < u := by walk_at "g"
theorem gq39 {u : Rat}: 1 / 2 <= u -> 0 < u := by walk_at "g"
theorem gq40 {u : Rat}: u * 10 = 10 * u := by walk_at "g"
theorem gq41 {u : Rat}: u * 1000 = 1 -> u = 1 / 1000 := by walk_at "g"
theorem gq42 {u : Rat}: u * 10000000000 = 1 -> u = 1 / 10000000000 := by walk_at "g"
theorem gq43 {u : Rat}: u - 0 = u := by walk_at "g"
theorem gq44 {u : Rat}: u - u = 0 := by walk_at "g"
theorem gq45 {u : Rat}: u <= 0 -> 0 <= (-u) := by walk_at "g"
theorem gq46 {u : Rat}: u <= 999 -> u < 1000 := by walk_at "g"
theorem gq47 {u v : Rat}: (-(u * v)) = (-u) * v := by walk_at "g"
theorem gq48 {u v : Rat}: (u * u) * (v * v) = (v * u) * (v * u) := by walk_at "g"
theorem gq49 {u v : Rat}: (u * v) * (u * v) = (u * u) * (v * v) := by walk_at "g"
theorem gq50 {u v : Rat}: 0 < u -> u <= v -> 0 <= v := by walk_at "g"
theorem gq51 {u v : Rat}: 0 <= u -> u <= v -> 0 <= v := by walk_at "g"
theorem gq52 {u v : Rat}: 2 * u <= v -> v <= ((1 / 10000000000000) * 2) -> u <= 1 / 10000000000000 := by walk_at "g"
theorem gq53 {u v : Rat}: 2 < u -> v <= 2 -> v < u := by walk_at "g"
theorem gq54 {u v : Rat}: u * 10000000000000 = 1 -> v <= u -> 2 * v <= 1 / 1000000000000 := by walk_at "g"
theorem gq55 {u v : Rat}: u * 10000000000000 = 1 -> v <= u -> v <= 1 / 10000000000000 := by walk_at "g"
theorem gq56 {u v : Rat}: u + ((-v) * (-v)) = (v * v) + u := by walk_at "g"
theorem gq57 {u v : Rat}: u + ((-v) * (-v)) = u + (v * v) := by walk_at "g"
theorem gq58 {u v : Rat}: u + (-v) = u - v := by walk_at "g"
theorem gq59 {u v : Rat}: u + v = v + u := by walk_at "g"
theorem gq60 {u v w : Rat}: 0 < u -> u <= (142 / 100) * v -> w <= ((142 / 100) * v) * (1001 / 1000) -> w <= (3 / 2) * v := by walk_at "g"
theorem gq61 {u v w : Rat}: 0 <= u -> v <= w -> v <= w + u := by walk_at "g"
theorem gq62 {u v w : Rat}: 2 * u <= v -> v <= w -> u <= w / 2 := by walk_at "g"
theorem gq63 {u v w : Rat}: u <= v -> v <= w -> 0 <= w - u := by walk_at "g"
theorem gq64 {u v w : Rat}: u <= v -> w + u <= w + v := by walk_at "g"
theorem gq65 {u v w : Rat}: u <= v -> w - v <= w - u := by walk_at "g"
theorem gq66 {u v w x : Rat}: 2 * u <= v -> v <= (1 / 2) * w -> x - w <= u -> x <= (5 / 4) * w := by walk_at "g"
theorem gq67 {u v w x : Rat}: u <= v * w -> x <= u -> x <= w * v := by walk_at "g"
theorem gq68 {u v w x y z u6 : Rat}: u <= v -> w <= x -> 0 < u -> x <= (1 / 2) * u -> y - u <= w -> z <= y -> u6 = v * 10 -> z < u6 := by walk_at "g"
theorem gq69 {u v w x y z u6 : Rat}: u <= v -> w <= x -> 0 < v -> x <= (1 / 2) * v -> (-(y - v)) <= w -> y <= z -> u = u6 * 10 -> u6 < z := by walk_at "g"
theorem gq70 : ((0 * 0) + (0 * 0)) - 0 = (0 - 0 : Rat) := by walk_at "g"
theorem gq71 : ((0 * 0) - (0 * 0)) - 0 = (0 - 0 : Rat) := by walk_at "g"
theorem gq72 : ((1 * 1) - (0 * 0)) - 1 = (0 : Rat) := by walk_at "g"
theorem gq73 : 0 - 0 = (0 : Rat) := by walk_at "g"
theorem gq74 : 0 <= (0 : Rat) := by walk_at "g"
theorem gq75 : 0 <= (1 / 1000000000 : Rat) := by walk_at "g"
theorem gq76 : 0 <= (1 / 2 : Rat) := by walk_at "g"
theorem gq77 : 0 <= (1 : Rat) := by walk_at "g"
theorem gq78 : 0 <= (99 : Rat) := by walk_at "g"
theorem gq79 {a : Int} {u : Rat}: ((0 < (-u)) ↔ (0 < (-a))) -> a < 0 -> u < 0 := by walk_at "g"
theorem gq80 {a : Int} {u : Rat}: ((u < 0) ↔ (a < 0)) -> 0 <= a -> 0 <= u := by walk_at "g"
theorem gq81 {a : Int} {u : Rat}: ((u < 0) ↔ (a < 0)) -> 0 <= u -> 0 <= a := by walk_at "g"
theorem gq82 {a : Int} {u v : Rat}: 0 < u * v -> 0 <= (-u) * v -> 0 < a := by walk_at "g"
theorem gq83 {a : Int}: ((10 * a) + 0) * ((10 * a) + 0) = 100 * (a * a) := by walk_at "g"
theorem gq84 {a : Int}: ((10 * a) + 1) * ((10 * a) + 1) = ((100 * (a * a)) + (20 * a)) + 1 := by walk_at "g"
theorem gq85 {a : Int}: (a + 1) * (a + 1) = ((a * a) + (2 * a)) + 1 := by walk_at "g"
theorem gq86 {a b : Int} {u v : Rat}: u < v -> v <= u -> a < b := by walk_at "g"
theorem gq87 {a b : Int}: (-a) * (-b) = a * b := by walk_at "g"
theorem gq88 {a b : Int}: (a * (b + 1)) * (b + 2) = a * ((b + 1) * ((b + 1) + 1)) := by walk_at "g"
theorem gq89 {a b : Int}: (a + 1) * b = (b * a) + b := by walk_at "g"
theorem gq90 {a b : Int}: a * (-b) = (-(a * b)) := by walk_at "g"
theorem gq91 {a b : Int}: a * (20 * b) = 20 * (a * b) := by walk_at "g"
theorem gq92 {a b : Int}: a * (b * 10) = (10 * a) * b := by walk_at "g"
theorem gq93 {a b : Int}: a * (b + 1) = (a * b) + a := by walk_at "g"
theorem gq94 {a b c : Int}: ((10 * a) + b) * c = (10 * (c * a)) + (b * c) := by walk_at "g"
theorem gq95 {a b c : Int}: (4 * (a + ((2 * b) * c))) + c = ((4 * a) + c) + ((4 * b) * (2 * c)) := by walk_at "g"
theorem gq96 {a b c : Int}: a - ((b - 20) * c) = (-((b * c) - (a + (20 * c)))) := by walk_at "g"
theorem gq97 {a b c : Int}: a - ((b - 20) * c) = (a + (20 * c)) - (b * c) := by walk_at "g"
theorem gq98 {a b c d : Int}: (2 * a) - ((b - (4 * c)) * d) = (2 * (a + ((2 * c) * d))) - (b * d) := by walk_at "g"
theorem gq99 {a b c d : Int}: (a * b) + c = (d + a) - 1 -> ((a - 1) - c) + (a * (-b)) = (-d) := by walk_at "g"
theorem gq100 {a b c d e : Int}: 0 < a -> 0 <= (-b) * c -> b * c = a -> d = e := by walk_at "g"
theorem gq101 {k l : Nat}: ((k * l) + k) + k = k * ((l + 1) + 1) := by walk_at "g"
theorem gq102 {u : Rat}: ((101 / 100) * u) * ((101 / 100) * u) = (10201 / 10000) * (u * u) := by walk_at "g"
theorem gq103 {u : Rat}: ((142 / 100) * u) * ((142 / 100) * u) = (20164 / 10000) * (u * u) := by walk_at "g"
theorem gq104 {u : Rat}: ((143 / 100) * u) * ((143 / 100) * u) = (20449 / 10000) * (u * u) := by walk_at "g"
theorem gq105 {u : Rat}: (-(-u)) = u := by walk_at "g"
theorem gq106 {u : Rat}: (0 * u) - (0 / 2) = 0 := by walk_at "g"
theorem gq107 {u : Rat}: (0 * u) - (1 * 0) = 0 := by walk_at "g"
theorem gq108 {u : Rat}: (10000000000 * 1) <= (10000000000 * u) + 1 -> (-(1 / 10000000000)) <= u - 1 := by walk_at "g"
theorem gq109 {u : Rat}: (2 * 0) <= u * 0 := by walk_at "g"
theorem gq110 {u : Rat}: (u * 10) * 10 = 100 * u := by walk_at "g"
theorem gq111 {u : Rat}: 0 < u * 10 -> 0 < u := by walk_at "g"
theorem gq112 {u : Rat}: 0 < u -> 0 < 3 * u := by walk_at "g"
theorem gq113 {u : Rat}: 0 < u -> 0 <= (101 / 100) * u := by walk_at "g"
theorem gq114 {u : Rat}: 0 < u -> 0 <= (142 / 100) * u := by walk_at "g"
theorem gq115 {u : Rat}: 0 < u -> 0 <= (143 / 100) * u := by walk_at "g"
theorem gq116 {u : Rat}: 0 < u -> 0 <= (4 * u) * 1 := by walk_at "g"
theorem gq117 {u : Rat}: 0 < u -> 0 <= 10 * (3 * u) := by walk_at "g"
theorem gq118 {u : Rat}: 0 < u -> 0 <= u * (1 * 1) := by walk_at "g"
theorem gq119 {u : Rat}: 0 < u -> u <= 0 -> False := by walk_at "g"
theorem gq120 {u : Rat}: 0 < u -> u <= 3 * u := by walk_at "g"
theorem gq121 {u : Rat}: 0 <= (-u) * (-u) -> 0 <= u * u := by walk_at "g"
theorem gq122 {u : Rat}: 0 <= (-u) -> 0 <= u -> (-u) = u := by walk_at "g"
theorem gq123 {u : Rat}: 0 <= u * (0 / 2) := by walk_at "g"
theorem gq124 {u : Rat}: 0 <= u -> (-u) <= u := by walk_at "g"
theorem gq125 {u : Rat}: 0 <= u -> 0 <= u := by walk_at "g"
theorem gq126 {u : Rat}: 0 <= u -> 0 <= u + 0 := by walk_at "g"
theorem gq127 {u : Rat}: 0 <= u -> 0 <= u / 2 := by walk_at "g"
theorem gq128 {u : Rat}: 1 * u = u := by walk_at "g"
theorem gq129 {u : Rat}: 1 / 1000 <= u -> 0 < u := by walk_at "g"
theorem gq130 {u : Rat}: 1 / 100000 <= u -> 0 <= (101 / 100) * u := by walk_at "g"
theorem gq131 {u : Rat}: 1 / 2 <= u -> 0 <= u := by walk_at "g"
theorem gq132 {u : Rat}: 10 * u = u * 10 := by walk_at "g"
theorem gq133 {u : Rat}: 10 <= u -> 2 < u := by walk_at "g"
theorem gq134 {u : Rat}: 10000000000 * u <= (10000000001 * 1) -> u - 1 <= 1 / 10000000000 := by walk_at "g"
theorem gq135 {u : Rat}: 2 * (u * 10) <= 1 -> u <= 1 / 20 := by walk_at "g"
theorem gq136 {u : Rat}: u * 100 = 1 -> u = 1 / 100 := by walk_at "g"
theorem gq137 {u : Rat}: u * 10000 = 1 -> u = 1 / 10000 := by walk_at "g"
theorem gq138 {u : Rat}: u * 10000 = 10000 -> u = 1 := by walk_at "g"
theorem gq139 {u : Rat}: u * 1000000 = 1 -> u = 1 / 1000000 := by walk_at "g"
theorem gq140 {u : Rat}: u * 1000000000 = 1 -> u = 1 / 1000000000 := by walk_at "g"
theorem gq141 {u : Rat}: u * 10000000000 = 1 -> u <= 1 / 2 := by walk_at "g"
theorem gq142 {u : Rat}: u * 1000000000000 = 1 -> u <= 1 / 1000000 := by walk_at "g"
theorem gq143 {u : Rat}: u / 4 = (1 / 4) * u := by walk_at "g"
theorem gq144 {u : Rat}: u < 0 -> 0 <= (-u) := by walk_at "g"
theorem gq145 {u : Rat}: u = ((1 * 10) * 10) -> u = 100 := by walk_at "g"
theorem gq146 {u : Rat}: u = ((1000 * 10) * 10) -> u = 100000 := by walk_at "g"
theorem gq147 {u : Rat}: u = (0 * 0) + (0 * 0) -> u = 0 := by walk_at "g"
theorem gq148 {u : Rat}: u = (100 * 10) -> u = 1000 := by walk_at "g"
theorem gq149 {u : Rat}: u = 0 + u := by walk_at "g"
theorem gq150 {u : Rat}: u = u := by walk_at "g"
theorem gq151 {u : Rat}: u = u + 0 := by walk_at "g"
theorem gq152 {u : Rat}: u <= 1 / 1000000000 -> u <= 1 / 1000 := by walk_at "g"
theorem gq153 {u : Rat}: u <= 2 -> u < 10 := by walk_at "g"
theorem gq154 {u : Rat}: u <= 99 -> u < 100 := by walk_at "g"
theorem gq155 {u : Rat}: ¬ (0 <= u) -> u <= (-u) := by walk_at "g"
theorem gq156 {u v : Rat}: (((5 / 4) * u) * ((v * u) / 2)) + (((v * u) / 2) * u) = (9 / 8) * (v * (u * u)) := by walk_at "g"
theorem gq157 {u v : Rat}: (((u + v) / 2) * ((u + v) / 2)) - (((u - v) / 2) * ((u - v) / 2)) = u * v := by walk_at "g"
theorem gq158 {u v : Rat}: ((10 * u) * v) * v = 10 * (u * (v * v)) := by walk_at "g"
theorem gq159 {u v : Rat}: ((101 / 100) * u) * v = (101 / 100) * (u * v) := by walk_at "g"
theorem gq160 {u v : Rat}: ((101 / 100) * u) * v = u * ((101 / 100) * v) := by walk_at "g"
theorem gq161 {u v : Rat}: ((2 * u) * v) + ((2 * u) * v) = 4 * (u * v) := by walk_at "g"
theorem gq162 {u v : Rat}: ((408 / 100) * u) * v = (408 / 100) * (u * v) := by walk_at "g"
theorem gq163 {u v : Rat}: (-(u * v)) = u * (-v) := by walk_at "g"
theorem gq164 {u v : Rat}: (-(u - 1)) <= v -> v <= 1 / 1000000000 -> 1 - (1 / 1000000000) <= u := by walk_at "g"
theorem gq165 {u v : Rat}: (-(u - v)) = v - u := by walk_at "g"
theorem gq166 {u v : Rat}: (-u) < v -> (-v) < u := by walk_at "g"
theorem gq167 {u v : Rat}: (-u) <= v -> (-v) <= u := by walk_at "g"
theorem gq168 {u v : Rat}: (-u) <= v -> u <= v -> v = 0 -> u = 0 := by walk_at "g"
theorem gq169 {u v : Rat}: (0 * u) - (0 * v) = 0 := by walk_at "g"
theorem gq170 {u v : Rat}: (1001 * 1) <= (1000 * u) * v -> 1001 / 1000 <= u * v := by walk_at "g"
theorem gq171 {u v : Rat}: (1001 * u) * v = 1001 * (v * u) := by walk_at "g"
theorem gq172 {u v : Rat}: (2 * u) * v = 2 * (u * v) := by walk_at "g"
theorem gq173 {u v : Rat}: (2 * u) - (2 * v) = 2 * (u - v) := by walk_at "g"
theorem gq174 {u v : Rat}: (3 * u) * v = 3 * (u * v) := by walk_at "g"
theorem gq175 {u v : Rat}: (u * ((101 / 100) * v)) * (u * ((101 / 100) * v)) = u * ((10201 / 10000) * (u * (v * v))) := by walk_at "g"
theorem gq176 {u v : Rat}: (u * (1 / 1000)) * v = (1 / 1000) * (u * v) := by walk_at "g"
theorem gq177 {u v : Rat}: (u * (v / 2)) * (v + ((1 / 1000) * (v / 2))) = (2001 / 4000) * (u * (v * v)) := by walk_at "g"
theorem gq178 {u v : Rat}: (u * 0) - (v * 0) = 0 := by walk_at "g"
theorem gq179 {u v : Rat}: (u * 10000000000) * v = 10000000000 * (u * v) := by walk_at "g"
theorem gq180 {u v : Rat}: (u * 10000000000) * v = 10000000000 * (v * u) := by walk_at "g"
theorem gq181 {u v : Rat}: (u * 10000000000) + (1 * 10000000000) <= (v * 10000000000) + 1 -> (-(1 / 10000000000)) <= (v - u) - 1 := by walk_at "g"
theorem gq182 {u v : Rat}: (u * 10000000001) * v = 10000000001 * (v * u) := by walk_at "g"
theorem gq183 {u v : Rat}: (u * u) - (v * v) = (u - v) * (u + v) := by walk_at "g"
theorem gq184 {u v : Rat}: (u * v) * ((2 * v) + ((1 / 1000) * v)) = (2001 / 1000) * (u * (v * v)) := by walk_at "g"
theorem gq185 {u v : Rat}: (u * v) + (v * u) = 2 * (u * v) := by walk_at "g"
theorem gq186 {u v : Rat}: (u + v) * (u + v) = ((u * u) + (v * v)) + (2 * (u * v)) := by walk_at "g"
theorem gq187 {u v : Rat}: (u - v) + v = u := by walk_at "g"
theorem gq188 {u v : Rat}: 0 < u -> 0 < v -> 0 <= (2 * u) + v := by walk_at "g"
theorem gq189 {u v : Rat}: 0 < u -> 0 <= v -> (-(1 / 1000000000)) * (v + 0) <= (1 * u) + (0 * 0) := by walk_at "g"
theorem gq190 {u v : Rat}: 0 < u -> u * 10 <= v -> u < v := by walk_at "g"
theorem gq191 {u v : Rat}: 0 < u -> u <= v -> v = 0 -> False := by walk_at "g"
theorem gq192 {u v : Rat}: 0 < u -> v <= (u + u) + (u + u) -> v <= 10 * u := by walk_at "g"
theorem gq193 {u v : Rat}: 0 < u -> v <= u -> 0 <= (2 * u) - v := by walk_at "g"
theorem gq194 {u v : Rat}: 0 <= (-u) * v -> 0 <= u * v -> u * v = (-u) * v := by walk_at "g"
theorem gq195 {u v : Rat}: 0 <= u * (-v) -> 0 <= u * v -> u * v = u * (-v) := by walk_at "g"
theorem gq196 {u v : Rat}: 0 <= u -> 0 <= v -> 0 <= (101 / 100) * (u + v) := by walk_at "g"
theorem gq197 {u v : Rat}: 0 <= u -> 1 / 1000 <= v -> 0 < (v + u) / 2 := by walk_at "g"
theorem gq198 {u v : Rat}: 0 <= u -> 1 / 1000 <= v -> 1 / 2000 <= (v + u) / 2 := by walk_at "g"
theorem gq199 {u v : Rat}: 0 <= u -> 1001 / 1000 <= v -> 1 / 2 <= (v + u) / 2 := by walk_at "g"
theorem gq200 {u v : Rat}: 0 <= u -> ¬ (v <= u) -> 0 < v := by walk_at "g"
theorem gq201 {u v : Rat}: 1 / 100 <= u -> v <= 1 / 10000 -> v <= u := by walk_at "g"
theorem gq202 {u v : Rat}: 1 / 100 <= u -> v <= 1 / 10000 -> v <= u / 2 := by walk_at "g"
theorem gq203 {u v : Rat}: 1 / 10000 <= u -> v <= 1 / 10000 -> v <= u := by walk_at "g"
theorem gq204 {u v : Rat}: 1 / 2 <= u -> v * 10 = 1 -> v <= u := by walk_at "g"
theorem gq205 {u v : Rat}: 100000 <= u -> v < 100 -> v / 2 <= u := by walk_at "g"
theorem gq206 {u v : Rat}: 100000 <= u -> v < 100000 -> v <= u := by walk_at "g"
theorem gq207 {u v : Rat}: 100000 <= u -> v <= 550 -> v <= u := by walk_at "g"
theorem gq208 {u v : Rat}: 100000 <= u -> v <= 99 -> v <= u := by walk_at "g"
theorem gq209 {u v : Rat}: 2 * u <= v -> v <= 2 -> u <= 1 := by walk_at "g"
theorem gq210 {u v : Rat}: u * (((1002 / 1000) * v) * ((1002 / 1000) * v)) = (1004004 / 1000000) * (u * (v * v)) := by walk_at "g"
theorem gq211 {u v : Rat}: u * (((101 / 100) * v) * ((101 / 100) * v)) = (10201 / 10000) * (u * (v * v)) := by walk_at "g"
theorem gq212 {u v : Rat}: u * ((1002 / 1000) * v) = (1002 / 1000) * (u * v) := by walk_at "g"
theorem gq213 {u v : Rat}: u * ((1005 / 1000) * (v * v)) = (1005 / 1000) * ((u * v) * v) := by walk_at "g"
theorem gq214 {u v : Rat}: u * ((142 / 100) * v) = (142 / 100) * (u * v) := by walk_at "g"
theorem gq215 {u v : Rat}: u * ((2 * v) * (2 * v)) = 4 * (u * (v * v)) := by walk_at "g"
theorem gq216 {u v : Rat}: u * ((202 / 100) * v) = (202 / 100) * (u * v) := by walk_at "g"
theorem gq217 {u v : Rat}: u * ((3 / 1000) * v) = (3 / 1000) * (u * v) := by walk_at "g"
theorem gq218 {u v : Rat}: u * ((3 / 2) * v) = (3 / 2) * (u * v) := by walk_at "g"
theorem gq219 {u v : Rat}: u * ((99 / 100) * v) = (99 / 100) * (u * v) := by walk_at "g"
theorem gq220 {u v : Rat}: u * (v * 10000) = (u * v) * 10000 := by walk_at "g"
theorem gq221 {u v : Rat}: u * 10 = 1 -> v <= u -> 2 * v <= 1 := by walk_at "g"
theorem gq222 {u v : Rat}: u * 100000 = 1 -> u <= v -> 1 / 100000 <= v := by walk_at "g"
theorem gq223 {u v : Rat}: u * 10000000 = 1 -> v <= 1 / 1000000000 -> 10 * v <= u := by walk_at "g"
theorem gq224 {u v : Rat}: u * 10000000000 <= ((v * 10000000000) + (1 * 10000000000)) + 1 -> (u - v) - 1 <= 1 / 10000000000 := by walk_at "g"
theorem gq225 {u v : Rat}: u * 10000000000000 = 1 -> v <= u -> 3 * v <= 1 / 1000000000 := by walk_at "g"
theorem gq226 {u v : Rat}: u * v = (-u) * (-v) := by walk_at "g"
theorem gq227 {u v : Rat}: u * v = v * u := by walk_at "g"
theorem gq228 {u v : Rat}: u + v = 1 -> u - 1 = (-v) := by walk_at "g"
theorem gq229 {u v : Rat}: u < 100 -> v <= 999 -> (v + u) / 2 <= 550 := by walk_at "g"
theorem gq230 {u v : Rat}: u <= 1 / 1000 -> v <= u * (1 / 1000) -> v <= 1 / 2 := by walk_at "g"
theorem gq231 {u v : Rat}: u <= 2 -> v <= u -> v < 10 := by walk_at "g"
theorem gq232 {u v : Rat}: u <= v -> 0 <= v - u := by walk_at "g"
theorem gq233 {u v : Rat}: u <= v -> 2 * u <= 2 * v := by walk_at "g"
theorem gq234 {u v : Rat}: u <= v -> u <= v := by walk_at "g"
theorem gq235 {u v : Rat}: ¬ (0 <= (-u)) -> ¬ (0 <= u) -> v = (-u) := by walk_at "g"
theorem gq236 {u v : Rat}: ¬ (u <= v) -> v < u := by walk_at "g"
theorem gq237 {u v w : Rat}: ((2 * u) * v) + ((-1) * w) = (2 * (u * v)) - w := by walk_at "g"
theorem gq238 {u v w : Rat}: ((2 * u) * v) + ((2 * u) * w) = 2 * (u * (v + w)) := by walk_at "g"
theorem gq239 {u v w : Rat}: ((2 * u) * v) + (1 * w) = (2 * (u * v)) + w := by walk_at "g"
theorem gq240 {u v w : Rat}: ((u * 10000000000) + v) * w = (10000000000 * (u * w)) + (w * v) := by walk_at "g"
theorem gq241 {u v w : Rat}: ((u + v) * 5) * w = ((u * (w * 10)) + (v * (w * 10))) / 2 := by walk_at "g"
theorem gq242 {u v w : Rat}: ((u - v) * 5) * w = ((u * (w * 10)) - (v * (w * 10))) / 2 := by walk_at "g"
theorem gq243 {u v w : Rat}: (-((0 * 0) - u)) <= v -> 1 / 10000 <= u -> v <= 4 * w -> w <= (1 / 1000) * u -> False := by walk_at "g"
theorem gq244 {u v w : Rat}: (-((u - v) - 1)) <= w -> 0 <= v -> w <= (1 / 1000000000) * u -> u - v <= 2 * u := by walk_at "g"
theorem gq245 {u v w : Rat}: (-(1 / 1000000000)) * u <= v -> 0 < w -> u <= (143 / 100) * w -> (99 / 100) * w <= v + w := by walk_at "g"
theorem gq246 {u v w : Rat}: (-(1 / 1000000000)) * u <= v -> 0 < w -> u <= (143 / 100) * w -> 0 <= v + w := by walk_at "g"
theorem gq247 {u v w : Rat}: (-(u - 1)) <= v -> 0 <= w -> v <= (1 / 1000000000) * w -> (-(2 * w)) <= u := by walk_at "g"
theorem gq248 {u v w : Rat}: (-u) <= v -> v <= w -> (-(w / 4)) <= u / 4 := by walk_at "g"
theorem gq249 {u v w : Rat}: (1001 / 1000) * u <= 1 -> 1001 / 1000 <= v -> w * 10000 = 1 -> w <= (v - u) / 2 := by walk_at "g"
theorem gq250 {u v w : Rat}: (1001 / 1000) * u <= v -> 0 <= w -> v + w = 1 -> u <= 1 := by walk_at "g"
theorem gq251 {u v w : Rat}: (2 * (u * (-v))) - w = (-((2 * (u * v)) - (-w))) := by walk_at "g"
theorem gq252 {u v w : Rat}: (2 * (u * (-v))) - w = (-((2 * (v * u)) - (-w))) := by walk_at "g"
theorem gq253 {u v w : Rat}: (2 * (u * v)) - w = (2 * (v * u)) - w := by walk_at "g"
theorem gq254 {u v w : Rat}: (2 * (u * v)) - w = 2 * ((v * u) - (w / 2)) := by walk_at "g"
theorem gq255 {u v w : Rat}: (99 / 100) * u <= (401 / 100) * v -> 0 < w -> v <= (1005 / 1000) * w -> u <= (408 / 100) * w := by walk_at "g"
theorem gq256 {u v w : Rat}: (u * u) * ((v * v) + (w * w)) = ((w * u) * (w * u)) + ((v * u) * (v * u)) := by walk_at "g"
theorem gq257 {u v w : Rat}: (u * v) * w = (u * w) * v := by walk_at "g"
theorem gq258 {u v w : Rat}: (u * v) * w = (v * w) * u := by walk_at "g"
theorem gq259 {u v w : Rat}: (u + v) / 2 = w -> 0 < u -> 0 <= v -> 0 < w := by walk_at "g"
theorem gq260 {u v w : Rat}: (u + v) / 2 = w -> 0 < u -> v <= 2 * w := by walk_at "g"
theorem gq261 {u v w : Rat}: (u + v) / 2 = w -> 0 <= v -> u <= 2 * w := by walk_at "g"
theorem gq262 {u v w : Rat}: (u - ((-v) * (-v))) - w = (-(((v * v) - u) - (-w))) := by walk_at "g"
theorem gq263 {u v w : Rat}: (u - ((-v) * (-v))) - w = (u - (v * v)) - w := by walk_at "g"
theorem gq264 {u v w : Rat}: (u - v) + (v - w) = u - w := by walk_at "g"
theorem gq265 {u v w : Rat}: (u - v) - w = (-((v - u) - (-w))) := by walk_at "g"
theorem gq266 {u v w : Rat}: 0 < u * v -> u * v <= (w * u) * v -> (20 * u) * v <= 2 * ((w * (20 * u)) * v) := by walk_at "g"
theorem gq267 {u v w : Rat}: 0 < u -> 0 < v -> u <= w -> 0 <= (2 * v) + w := by walk_at "g"
theorem gq268 {u v w : Rat}: 0 < u -> v <= (1 / 1000) * u -> w <= 2 * v -> (10201 / 10000) * w <= (3 / 1000) * u := by walk_at "g"
theorem gq269 {u v w : Rat}: 0 < u -> v <= (142 / 100) * u -> w <= (408 / 100) * v -> w <= (58 / 10) * u := by walk_at "g"
theorem gq270 {u v w : Rat}: 0 < u -> v <= 4 * w -> w <= u * (2 * 1) -> v <= 100 * u := by walk_at "g"
theorem gq271 {u v w : Rat}: 0 <= (-u) * (-v) -> ¬ (0 <= u * v) -> w = (-u) * (-v) := by walk_at "g"
theorem gq272 {u v w : Rat}: 0 <= u -> v + u = 1 -> w <= v -> w <= 1 := by walk_at "g"
theorem gq273 {u v w : Rat}: 0 <= u -> v <= 1 * u -> w <= u + (v / 2) -> w <= 2 * u := by walk_at "g"
theorem gq274 {u v w : Rat}: 0 <= u -> v <= w -> v <= u + w := by walk_at "g"
theorem gq275 {u v w : Rat}: 1 / 2 <= u -> v * 10 = 1 -> w <= v -> w <= u := by walk_at "g"
theorem gq276 {u v w : Rat}: 1 <= u * (v * 1000000) -> w * 1000000 = 1 -> w <= v * u := by walk_at "g"
theorem gq277 {u v w : Rat}: u * ((v * (w * 10)) * (w * 10)) = (100 * (u * v)) * (w * w) := by walk_at "g"
theorem gq278 {u v w : Rat}: u * ((v * w) * 10) = (10 * (u * v)) * w := by walk_at "g"
theorem gq279 {u v w : Rat}: u * (v * w) = (u * w) * v := by walk_at "g"
theorem gq280 {u v w : Rat}: u * (v + w) = (u * v) + (u * w) := by walk_at "g"
theorem gq281 {u v w : Rat}: u * 1 <= v -> w = v -> u <= w := by walk_at "g"
theorem gq282 {u v w : Rat}: u * 10 = v -> (w * 5) * u = (w * v) / 2 := by walk_at "g"
theorem gq283 {u v w : Rat}: u + ((-v) * w) = u - (v * w) := by walk_at "g"
theorem gq284 {u v w : Rat}: u < v -> v <= w -> w <= u -> False := by walk_at "g"
theorem gq285 {u v w : Rat}: u = v -> w <= u -> u + w <= 2 * v := by walk_at "g"
theorem gq286 {u v w : Rat}: u <= v + w -> (-w) <= v - u := by walk_at "g"
theorem gq287 {u v w : Rat}: u <= v + w -> u - v <= w := by walk_at "g"
theorem gq288 {u v w : Rat}: u <= v -> v <= w -> u / 4 <= w / 4 := by walk_at "g"
theorem gq289 {u v w : Rat}: u <= v -> w <= v -> (101 / 100) * (u + w) <= (202 / 100) * v := by walk_at "g"
theorem gq290 {u v w : Rat}: u <= v -> w <= v -> u + w <= 2 * v := by walk_at "g"
theorem gq291 {u v w x : Rat}: ((((u * u) + (v * v)) - 1) * ((w * w) - (x * x))) + (((w * w) - (x * x)) - 1) = ((((v * w) * (v * w)) - ((u * x) * (u * x))) + (((u * w) * (u * w)) - ((-(v * x)) * (-(v * x))))) - 1 := by walk_at "g"
theorem gq292 {u v w x : Rat}: (((2 * (u * v)) - v) * ((2 * (u * v)) - v)) * (w * w) <= x * (w * w) -> ((2 * ((u * (20 * v)) * w)) - ((20 * v) * w)) * ((2 * ((u * (20 * v)) * w)) - ((20 * v) * w)) <= 4 * ((100 * x) * (w * w)) := by walk_at "g"
theorem gq293 {u v w x : Rat}: (((u * v) * (w * x)) + ((w * x) * (u * v))) + (((w * v) * (-(u * x))) + ((-(u * x)) * (w * v))) = 0 := by walk_at "g"
theorem gq294 {u v w x : Rat}: (((u * v) + (w * x)) * ((u * v) + (w * x))) + (((w * v) - (u * x)) * ((w * v) - (u * x))) = ((v * v) + (x * x)) + ((((u * u) + (w * w)) - 1) * ((v * v) + (x * x))) := by walk_at "g"
theorem gq295 {u v w x : Rat}: (((u * v) - 1) * ((w * w) + (x * x))) + (((w * w) + (x * x)) - 1) = (((u * w) * (v * w)) - ((u * x) * (v * (-x)))) - 1 := by walk_at "g"
theorem gq296 {u v w x : Rat}: ((4 * u) * v) + ((-(w * w)) * (x * x)) = (4 * (u * v)) - ((w * x) * (w * x)) := by walk_at "g"
theorem gq297 {u v w x : Rat}: ((u * u) * (v * v)) + (((-4) * w) * x) = ((u * v) * (u * v)) - (4 * (w * x)) := by walk_at "g"
theorem gq298 {u v w x : Rat}: ((u * v) * (-w)) + x = (((-u) * v) * w) + x := by walk_at "g"
theorem gq299 {u v w x : Rat}: ((u * v) * (w * (-x))) + ((u * x) * (w * v)) = 0 := by walk_at "g"
theorem gq300 {u v w x : Rat}: ((u + v) * 10000000000) * w <= ((x * 10000000000) + v) * w -> ((u * w) * 10000000000) + ((v * w) * 10000000000) <= ((x * w) * 10000000000) + (v * w) := by walk_at "g"
theorem gq301 {u v w x : Rat}: ((u - v) * w) + ((v * w) - x) = (u * w) - x := by walk_at "g"
theorem gq302 {u v w x : Rat}: (-(u - 1)) <= v -> u <= w -> v <= x -> x <= 1 / 2 -> 1 / 2 <= w := by walk_at "g"
theorem gq303 {u v w x : Rat}: (-(u - v)) <= w -> 0 < v -> w <= 4 * x -> x <= (1 / 1000) * v -> v <= (1005 / 1000) * u := by walk_at "g"
theorem gq304 {u v w x : Rat}: (-(u - v)) <= w -> 1 / 10000 <= v -> w <= 4 * x -> x <= (1 / 1000) * v -> ((1 / 1000) * (1 / 1000)) <= u := by walk_at "g"
theorem gq305 {u v w x : Rat}: (-(u - v)) <= w -> 1 / 10000 <= v -> w <= x -> x <= (1 / 1000000000) * v -> ((1 / 1000) * (1 / 1000)) <= u := by walk_at "g"
theorem gq306 {u v w x : Rat}: (-u) <= v -> (-w) <= x -> (-(v + x)) <= u + w := by walk_at "g"
theorem gq307 {u v w x : Rat}: (2 * ((u * v) - w)) * x <= v * x -> 2 * ((u * (v * x)) - (w * x)) <= v * x := by walk_at "g"
theorem gq308 {u v w x : Rat}: (2 * ((u * v) - w)) * x <= v * x -> 2 * (-(((-u) * (v * x)) - ((-w) * x))) <= v * x := by walk_at "g"
theorem gq309 {u v w x : Rat}: (2 * (u - (v * w))) * x <= w * x -> 2 * (((-v) * (w * x)) - ((-u) * x)) <= w * x := by walk_at "g"
theorem gq310 {u v w x : Rat}: (2 * (u - (v * w))) * x <= w * x -> 2 * (-((v * (w * x)) - (u * x))) <= w * x := by walk_at "g"
theorem gq311 {u v w x : Rat}: (u * (v * w)) * x = u * (v * (w * x)) := by walk_at "g"
theorem gq312 {u v w x : Rat}: (u * (v + 3)) * (w * x) = ((u * x) * (w * v)) + ((3 * w) * (u * x)) := by walk_at "g"
theorem gq313 {u v w x : Rat}: (u * 10000000000) * v <= (((w + x) * 10000000000) + x) * v -> (u * v) * 10000000000 <= (((w * v) * 10000000000) + ((x * v) * 10000000000)) + (x * v) := by walk_at "g"
theorem gq314 {u v w x : Rat}: (u * v) * (w * x) = (u * w) * (x * v) := by walk_at "g"
theorem gq315 {u v w x : Rat}: (u * v) * (w * x) = (w * v) * (x * u) := by walk_at "g"
theorem gq316 {u v w x : Rat}: (u * v) - (w * x) = (u * (v - x)) + ((u - w) * x) := by walk_at "g"
theorem gq317 {u v w x : Rat}: (u + v) - 1 = w -> 0 <= u -> w <= x -> x <= 1 / 1000000000 -> v <= ((1001 / 1000) * (1001 / 1000)) := by walk_at "g"
theorem gq318 {u v w x : Rat}: (u + v) - 1 = w -> 0 <= v -> w <= x -> x <= 1 / 1000000000 -> u <= ((1001 / 1000) * (1001 / 1000)) := by walk_at "g"
theorem gq319 {u v w x : Rat}: (u + v) - 1 <= w -> 0 <= u -> w <= x -> x * 10000000000 = 1 -> v <= (2 * 2) := by walk_at "g"
theorem gq320 {u v w x : Rat}: (u + v) - 1 <= w -> 0 <= v -> w <= x -> x * 10000000000 = 1 -> u <= (2 * 2) := by walk_at "g"
theorem gq321 {u v w x : Rat}: (u - v) * w <= (x * u) * w -> (-(x * (u * w))) <= (v * w) - (u * w) := by walk_at "g"
theorem gq322 {u v w x : Rat}: (u - v) * w <= (x * v) * w -> (u * w) - (v * w) <= x * (v * w) := by walk_at "g"
theorem gq323 {u v w x : Rat}: (u - v) + (w - x) = (u + w) - (v + x) := by walk_at "g"
theorem gq324 {u v w x : Rat}: (u - v) + (w - x) = (u - x) - (v - w) := by walk_at "g"
theorem gq325 {u v w x : Rat}: 0 < u * v -> u * w <= u * ((21 / 10) * v) -> x <= u * (w / 2) -> 2 * x <= (10 * u) * v := by walk_at "g"
theorem gq326 {u v w x : Rat}: 0 < u -> v - u <= w -> w <= 3 * x -> x <= (1 / 1000) * u -> v <= 2 * u := by walk_at "g"
theorem gq327 {u v w x : Rat}: 0 < u -> v = u * 10 -> w <= u -> x <= u -> w + x < v := by walk_at "g"
theorem gq328 {u v w x : Rat}: 0 <= (u - v) * (u - v) -> u * u = w -> v * v = x -> 2 * (u * v) <= w + x := by walk_at "g"
theorem gq329 {u v w x : Rat}: 0 <= u * (v * w) -> x <= ((2 * v) * ((u * w) / 2)) + (((u * v) / 2) * w) -> x <= (2 * u) * (v * w) := by walk_at "g"
theorem gq330 {u v w x : Rat}: 0 <= u -> 1 / 1000 <= v -> w = (v + u) / 2 -> x <= 1 / 10000 -> x <= w := by walk_at "g"
theorem gq331 {u v w x : Rat}: 0 <= u -> 1 <= v -> w = v * 10 -> x <= v -> (x - u) / 2 < w := by walk_at "g"
theorem gq332 {u v w x : Rat}: 0 <= u -> u * (1 - (1 / 1000000000)) <= v + w -> v <= x -> w <= x -> u <= 4 * x := by walk_at "g"
theorem gq333 {u v w x : Rat}: 1 <= u -> 10 * u <= v * w -> 100 * w <= (x + (200 * u)) + 100 -> (100 * w) - x <= v * (100 * w) := by walk_at "g"
theorem gq334 {u v w x : Rat}: 1 <= u -> 10 * u <= v * w -> x <= (100 * w) + (20 * u) -> x - (100 * w) <= v * (100 * w) := by walk_at "g"
theorem gq335 {u v w x : Rat}: 1 <= u -> v = u * 10 -> w <= 1 -> x <= u -> (x + w) / 2 < v := by walk_at "g"
theorem gq336 {u v w x : Rat}: u * (v * v) <= (((2 * (w * x)) + x) * ((2 * (w * x)) + x)) * (v * v) -> 4 * ((100 * u) * (v * v)) <= ((2 * ((w * (20 * x)) * v)) + ((20 * x) * v)) * ((2 * ((w * (20 * x)) * v)) + ((20 * x) * v)) := by walk_at "g"
theorem gq337 {u v w x : Rat}: u * (v * v) <= w -> x <= (u * v) * v -> x <= w := by walk_at "g"
theorem gq338 {u v w x : Rat}: u + ((v * w) * (-x)) = u + (((-v) * w) * x) := by walk_at "g"
theorem gq339 {u v w x : Rat}: u + v = w -> u <= x -> v <= x -> w <= 2 * x := by walk_at "g"
theorem gq340 {u v w x : Rat}: u - v <= w -> v < 100000 -> w <= 4 * x -> x <= (1 / 1000) * v -> u <= (999 * 999) := by walk_at "g"
theorem gq341 {u v w x : Rat}: u - v <= w -> v < 100000 -> w <= x -> x <= (1 / 1000000000) * v -> u <= (999 * 999) := by walk_at "g"
theorem gq342 {u v w x : Rat}: u - v <= w -> w <= 4 * x -> x <= (1 / 1000) * v -> u <= (1004 / 1000) * v := by walk_at "g"
theorem gq343 {u v w x : Rat}: u - v <= w -> w <= x -> x <= (1 / 2) * v -> u <= (3 / 2) * v := by walk_at "g"
theorem gq344 {u v w x : Rat}: u - v <= w -> w <= x -> x <= (1 / 20) * v -> u <= (21 / 20) * v := by walk_at "g"
theorem gq345 {u v w x : Rat}: u = ((v * ((v * u) + (w * x))) + (w * ((w * u) - (v * x)))) - (u * (((v * v) + (w * w)) - 1)) := by walk_at "g"
theorem gq346 {u v w x : Rat}: u = ((v * ((w * x) + (v * u))) - (w * ((v * x) - (w * u)))) - (u * (((w * w) + (v * v)) - 1)) := by walk_at "g"
theorem gq347 {u v w x : Rat}: u = v -> v <= w -> x <= u -> x <= w := by walk_at "g"
theorem gq348 {u v w x : Rat}: u <= v + w -> v <= x -> u <= w + x := by walk_at "g"
theorem gq349 {u v w x : Rat}: u <= v -> v <= w -> w <= x -> u <= x := by walk_at "g"
theorem gq350 {u v w x : Rat}: u <= v -> w <= x -> u + w <= v + x := by walk_at "g"
theorem gq351 {u v w x y : Rat}: ((((u - v) * w) * ((u - v) * w)) + (((x - y) * w) * ((x - y) * w))) - 1 = (((((x * x) + (y * y)) + ((u * u) + (v * v))) * (w * w)) - (((2 * (x * y)) + (2 * (u * v))) * (w * w))) - 1 := by walk_at "g"
theorem gq352 {u v w x y : Rat}: (((u * u) - (v * v)) - w) * (u * u) = ((((x * x) - ((w * w) + (y * y))) / 4) + (((u * u) - ((x + w) / 2)) * (x + ((u * u) - ((x + w) / 2))))) - (((v * u) - (y / 2)) * (y + ((v * u) - (y / 2)))) := by walk_at "g"
theorem gq353 {u v w x y : Rat}: ((10 * u) - (v * w)) * x <= (y * u) * x -> 0 < (y * u) * x -> (-(y * ((10 * u) * x))) <= ((v * x) * w) - ((10 * u) * x) := by walk_at "g"
theorem gq354 {u v w x y : Rat}: ((u * v) * (-w)) + ((x * v) * (-y)) = (((-u) * v) * w) + (((-x) * v) * y) := by walk_at "g"
theorem gq355 {u v w x y : Rat}: ((u * v) * (-w)) - ((x * v) * (-y)) = (((-u) * v) * w) - (((-x) * v) * y) := by walk_at "g"
theorem gq356 {u v w x y : Rat}: ((u * v) * w) - (x * (-y)) = (-((((-u) * v) * w) - (x * y))) := by walk_at "g"
theorem gq357 {u v w x y : Rat}: ((u * v) + (w * 3)) * (x * y) = ((u * y) * (x * v)) + ((3 * x) * (w * y)) := by walk_at "g"
theorem gq358 {u v w x y : Rat}: ((u * v) + (w * x)) * y = (u * (v * y)) + (w * (x * y)) := by walk_at "g"
theorem gq359 {u v w x y : Rat}: ((u * v) - (10 * w)) * x <= (y * w) * x -> 0 < (y * w) * x -> ((u * x) * v) - ((10 * w) * x) <= y * ((10 * w) * x) := by walk_at "g"
theorem gq360 {u v w x y : Rat}: ((u * v) - (w * x)) * y = (u * (v * y)) - (w * (x * y)) := by walk_at "g"
theorem gq361 {u v w x y : Rat}: (-(u - (v + w))) <= x -> 0 <= v -> 0 <= w -> x <= y -> y <= (1 / 1000) * (v + w) -> v + w <= (1002 / 1000) * u := by walk_at "g"
theorem gq362 {u v w x y : Rat}: (-(u - (v + w))) <= x -> 0 <= v -> 0 <= w -> x <= y -> y <= (1 / 1000) * (v + w) -> w <= (10201 / 10000) * u := by walk_at "g"
theorem gq363 {u v w x y : Rat}: (-(u - (v / 2))) <= w -> (3 * x) * (v / 2) <= (1 / 1000000000) * (v / 2) -> 1 / 100 <= v -> u <= y * 99 -> w <= x * (v / 2) -> 1 / 1000000000 <= y := by walk_at "g"
theorem gq364 {u v w x y : Rat}: (-(u - v)) <= w -> 0 < v -> w <= 4 * x -> x <= (1 / 1000) * v -> y <= 2 * v -> y <= (20449 / 10000) * u := by walk_at "g"
theorem gq365 {u v w x y : Rat}: (3 * u) * (v / 2) <= (1 / 1000000000) * (v / 2) -> v < 100 -> w * (1 / 100) <= x -> x - (v / 2) <= y -> y <= u * (v / 2) -> w < 100000 := by walk_at "g"
theorem gq366 {u v w x y : Rat}: (u * (-v)) - ((w * x) * y) = (-((u * v) - (((-w) * x) * y))) := by walk_at "g"
theorem gq367 {u v w x y : Rat}: (u * (v * w)) - (x * (y * w)) = ((u * v) - (x * y)) * w := by walk_at "g"
theorem gq368 {u v w x y : Rat}: (u * v) + w = x * x -> y * x = 1 -> ((u * y) * (v * y)) + ((w * y) * y) = 1 := by walk_at "g"
theorem gq369 {u v w x y : Rat}: (u + v) / 2 = w -> 0 < u -> 0 <= v -> w <= (1002 / 1000) * x -> y <= (101 / 100) * u -> y <= (21 / 10) * x := by walk_at "g"
theorem gq370 {u v w x y : Rat}: 0 <= ((u * v) + (w * x)) * y -> 0 <= (u * (v * y)) + (w * (x * y)) := by walk_at "g"
theorem gq371 {u v w x y : Rat}: u + v = w + x -> u - y = ((-(y - w)) + x) - v := by walk_at "g"
theorem gq372 {u v w x y : Rat}: u <= (v * (w + x)) * y -> u <= v * ((w * y) + (x * y)) := by walk_at "g"
theorem gq373 {u v w x y : Rat}: u <= v + w -> w <= x -> x <= y -> u <= v + y := by walk_at "g"
theorem gq374 {u v w x y z : Rat}: (((u - v) * w) + (-((x - y) * z))) + ((v * w) - (y * z)) = (u * w) - (x * z) := by walk_at "g"
theorem gq375 {u v w x y z : Rat}: (u * v) + (w * x) = (((u - y) * v) + ((w - z) * x)) + ((y * v) + (z * x)) := by walk_at "g"
theorem gq376 {u v w x y z : Rat}: 0 < u * v -> 2 * w <= x -> x <= ((21 / 20) * v) * (u * 10) -> y <= u * v -> z <= w + y -> z <= (u * 10) * v := by walk_at "g"
theorem gq377 {u v w x y z : Rat}: 0 < u * v -> u * (w * w) <= u * ((3 / 2) * v) -> x <= (((5 / 4) * w) * ((u * w) / 2)) + (((u * w) / 2) * w) -> y <= u * v -> z <= x + y -> z <= (3 * u) * v := by walk_at "g"
theorem gq378 {u v w x y z : Rat}: 0 < u -> 0 <= v -> (u + v) / 2 = w -> x <= y -> y <= (1 / 1000) * w -> (-(z - w)) <= x -> w <= (1002 / 1000) * z := by walk_at "g"
theorem gq379 {u v w x y z : Rat}: 1 / 1000 <= u -> 0 <= v -> w = (u + v) / 2 -> x <= y -> y <= (1 / 1000000000) * w -> (-(z - w)) <= x -> ((1 / 100) * (1 / 100)) <= z := by walk_at "g"
theorem gq380 {u v w x y z : Rat}: 10 * u <= v -> 0 < u -> w <= 8 * u -> 2 * x <= y -> y <= (3 / 2) * u -> z <= x + w -> z <= v := by walk_at "g"
theorem gq381 {u v w x y z : Rat}: u * 10000000000 = 1 -> v <= u -> w <= x -> y - 1 <= v -> x <= (1 / 1000000000000) * y -> z <= w + v -> z <= 1 / 1000000000 := by walk_at "g"
theorem gq382 {u v w x y z : Rat}: u * u = v -> w * w = x -> ((y * u) * (z * u)) + ((y * w) * (z * w)) = (y * z) * (v + x) := by walk_at "g"
theorem gq383 {u v w x y z : Rat}: u = ((v * w) - x) - y -> ((v * (z - w)) + x) + y = (z * v) - u := by walk_at "g"
theorem gq384 {u v w x y z : Rat}: u = v * w -> u = x * y -> z <= (v * (w / 2)) + ((x / 2) * y) -> z <= u := by walk_at "g"
theorem gq385 {u v w x y z : Rat}: u <= 3 * v -> w <= (9 / 8) * x -> x <= 2 * y -> y <= (1 / 1000) * v -> 0 < v -> z <= w + u -> z <= 4 * v := by walk_at "g"
theorem gq386 {u v w x y z : Rat}: u <= 999 -> v < 100 -> w = (u + v) / 2 -> x <= y -> y <= (1 / 1000000000) * w -> z - w <= x -> z <= (99 * 99) := by walk_at "g"
theorem gq387 {u v w x y z u6 : Rat}: ((u * v) + (w * x)) * y <= ((z * v) + (u6 * x)) * y -> 0 <= (((z - u) * y) * v) + (((u6 - w) * y) * x) := by walk_at "g"
theorem gq388 {u v w x y z u6 : Rat}: (u + v) / 2 = w -> 0 <= v -> x <= u + y -> y <= z -> z <= u6 -> x <= (2 * w) + u6 := by walk_at "g"
theorem gq389 {u v w x y z u6 : Rat}: 0 <= u -> 0 <= v -> 0 <= w -> x <= (1 / 10000000000000) * v -> y <= (1 / 10000000000000) * w -> z <= x + y -> (-u6) <= z -> (-(1 / 1000000000)) * (v + w) <= u6 + u := by walk_at "g"
theorem gq390 {u v w x y z u6 : Rat}: u * 10 <= v -> 0 < v -> w <= u -> x <= y -> y <= 2 * w -> z <= 2 * v -> u6 <= z + x -> u6 <= 10 * v := by walk_at "g"
theorem gq391 {u v w x y z u6 : Rat}: u * 10 <= v -> 0 < v -> w <= u -> x <= y -> y <= 2 * w -> z <= v + v -> u6 <= z + x -> u6 <= 10 * v := by walk_at "g"
theorem gq392 {u v w x y z u6 : Rat}: u = ((v * w) + (x * y)) - z -> ((v * (u6 - w)) + ((-x) * y)) + z = (u6 * v) - u := by walk_at "g"
theorem gq393 {u v w x y z u6 : Rat}: u <= 4 * v -> 0 < w -> x + y = w -> z - w <= u -> v <= (1 / 1000) * w -> x <= u6 -> y <= u6 -> z <= (20164 / 10000) * u6 := by walk_at "g"
theorem gq394 {u v w x y z u6 : Rat}: u <= 4 * v -> 0 < w -> x <= u -> 0 <= y -> z <= (1 / 1000000000) * w -> u6 <= z -> (1 / 100000) * w <= v -> (x + u6) - y <= (401 / 100) * v := by walk_at "g"
theorem gq395 {u v w x y z u6 : Rat}: u <= 4 * v -> 0 < w -> x <= u -> y <= (3 / 1000) * v -> z <= (1 / 1000000000) * w -> (-u6) <= z -> (1 / 100000) * w <= v -> (-((401 / 100) * v)) <= ((-x) + u6) - y := by walk_at "g"
theorem gq396 {u v w x y z u6 u7 : Rat}: ((u * v) + (w * x)) * y <= (((z * v) + (u6 * x)) * y) + u7 -> (((u - z) * y) * v) - (((u6 - w) * y) * x) <= u7 := by walk_at "g"
theorem gq397 {u v w x y z u6 u7 : Rat}: ((u * v) + (w * x)) * y <= (((z * v) + (u6 * x)) * y) + u7 -> (-u7) <= (((z - u) * y) * v) - (((w - u6) * y) * x) := by walk_at "g"
theorem gq398 {u v w x y z u6 u7 : Rat}: 0 < u -> u <= (142 / 100) * v -> (1 / 100000) * v <= w -> x <= (1001 / 1000) * ((58 / 10) * w) -> y <= (1001 / 1000) * ((202 / 100) * w) -> z <= v * (1 / 1000000000) -> u6 <= x + y -> u7 <= u6 + z -> u7 <= 8 * w := by walk_at "g"
theorem gq399 {u v w x y z u6 u7 : Rat}: 0 <= u -> 0 <= v -> w <= (1 / 10000000000000) * u -> x <= (1 / 10000000000000) * v -> y <= w + x -> z <= y + u6 -> u6 <= u7 -> (1 / 100000) * (u + v) <= u7 -> z <= (101 / 100) * u7 := by walk_at "g"
theorem gq400 {u v w x y z u6 u7 : Rat}: u * 10000000000 = 1 -> v <= u -> (-((w + x) - 1)) <= v -> y <= (1 / 1000000000000) * x -> (-(z - x)) <= y -> u6 <= (1 / 1000000000000) * w -> (-(u7 - w)) <= u6 -> (-(1 / 1000000000)) <= (u7 + z) - 1 := by walk_at "g"
theorem gq401 {u v w x y z u6 u7 : Rat}: u * 10000000000 = 1 -> v <= u -> (w + x) - 1 <= v -> y <= (1 / 1000000000000) * x -> z - x <= y -> u6 <= (1 / 1000000000000) * w -> u7 - w <= u6 -> (u7 + z) - 1 <= 1 / 1000000000 := by walk_at "g"
theorem gq402 {u v w x y z u6 u7 : Rat}: u * 1000000000000 = 1 -> 0 <= v -> w <= u -> (-((x - v) - 1)) <= w -> y <= (1 / 1000000000000) * v -> z - v <= y -> u6 <= (1 / 1000000000000) * x -> (-(u7 - x)) <= u6 -> (-((1 / 1000000000) * u7)) <= (u7 - z) - 1 := by walk_at "g"
theorem gq403 {u v w x y z u6 u7 : Rat}: u * 1000000000000 = 1 -> 0 <= v -> w <= u -> (x - v) - 1 <= w -> y <= (1 / 1000000000000) * v -> (-(z - v)) <= y -> u6 <= (1 / 1000000000000) * x -> u7 - x <= u6 -> (u7 - z) - 1 <= (1 / 1000000000) * u7 := by walk_at "g"
theorem gq404 {u v w x y z u6 u7 : Rat}: u <= (1 / 1000000000) * v -> w * (1 / 1000000) <= x -> 0 <= v -> v <= 4 * w -> y <= (x + x) + (x + x) -> z <= (1 / 1000000000) * (2 * v) -> u6 <= z + u -> u7 <= y + u6 -> u7 <= 10 * x := by walk_at "g"
theorem gq405 {u v w x y z u6 u7 u8 u9 : Rat}: u <= v + w -> x <= u + y -> w <= (2001 / 1000) * z -> y <= (2001 / 4000) * u6 -> u7 <= 4 * z -> u6 <= (10201 / 10000) * u7 -> v <= (1 / 4) * u8 -> u8 <= (1002 / 1000) * u7 -> 0 < u9 -> z <= (1004004 / 1000000) * u9 -> x <= 10 * u9 := by walk_at "g"

section
-- plain definitions: what the defs of the program reckon

noncomputable def cV {σ : Type} (c : σ -> Bool) (f : σ -> σ) : Nat -> σ -> σ
  | 0, s => s
  | n + 1, s => bif c s then cV c f n (f s) else s

noncomputable def FU : Nat := 10 ^ 3000

theorem bZ {σ : Type} {c : σ -> Bool} {f : σ -> σ} {s : σ} (h : c s = false) : ∀ n, cV c f n s = s
  | 0 => rfl
  | n + 1 => by simp [cV, h]

theorem cg {σ : Type} {c : σ -> Bool} {f : σ -> σ} {s : σ} (h : c s = true) (n : Nat) : cV c f (n + 1) s = cV c f n (f s) := by
  simp [cV, h]

/-- an invariant and a measure: the loop comes to its end within the fuel -/
theorem jY {σ : Type} {c : σ -> Bool} {f : σ -> σ} (I : σ -> Prop) (μ : σ -> Nat) (hs : ∀ s, I s -> c s = true -> I (f s) /\ μ (f s) < μ s) :
    ∀ (n : Nat) (s : σ), I s -> μ s <= n -> I (cV c f n s) /\ c (cV c f n s) = false
  | 0, s, hi, hm => by
    refine ⟨hi, ?_⟩
    cases hc : c s with
    | false => exact hc
    | true => have := (hs s hi hc).2; lia -abstractProof
  | n + 1, s, hi, hm => by
    cases hc : c s with
    | false => rw [bZ hc]; exact ⟨hi, hc⟩
    | true =>
      rw [cg hc]
      have := hs s hi hc
      exact jY I μ hs n (f s) this.1 (by exact vV this.2 hm)

/-- more fuel gives the same, where the loop ends -/
theorem loopN_fuel {σ : Type} {c : σ -> Bool} {f : σ -> σ} (I : σ -> Prop) (μ : σ -> Nat) (hs : ∀ s, I s -> c s = true -> I (f s) /\ μ (f s) < μ s) :
    ∀ (n k : Nat) (s : σ), I s -> μ s <= n -> μ s <= k -> cV c f n s = cV c f k s := by
  intro n
  induction n with
  | zero =>
    intro k s hi h1 h2
    have hc : c s = false := by
      cases hc : c s with
      | false => rfl
      | true => have := (hs s hi hc).2; lia -abstractProof
    rw [bZ hc, bZ hc]
  | succ n ih =>
    intro k s hi h1 h2
    cases hc : c s with
    | false => rw [bZ hc, bZ hc]
    | true =>
      have := hs s hi hc
      cases k with
      | zero => lia -abstractProof
      | succ k => rw [cg hc, cg hc]; exact ih k _ this.1 (by exact vV this.2 h1) (by exact vV this.2 h2)

noncomputable def jW : Nat -> Nat -> Nat
  | 0, _ => 0
  | f + 1, n => bif n == 0 then 0 else jW f (n / 10) + 1
noncomputable def g8 (n : Nat) : Nat := jW n n
noncomputable def nd (n : Int) : Int := (g8 n.natAbs : Int)

abbrev Re := Int × Int
abbrev Cc := Re × Re

noncomputable def cA (m e : Int) : Re :=
  bif decide (m = 0) then (0, 0) else cV (fun s : Re => decide (s.1 % 10 = 0)) (fun s => (s.1 / 10, s.2 + 1)) m.natAbs (m, e)

noncomputable def ai (m e digits : Int) : Re :=
  let drop := nd m - digits
  bif decide (0 < drop) then
    let power : Int := 10 ^ drop.toNat
    let kept := (m.natAbs : Int) / power
    let rest := (m.natAbs : Int) % power
    let kept' := bif decide (power < 2 * rest) || (decide (2 * rest = power) && decide (kept % 2 = 1)) then kept + 1 else kept
    cA (bif decide (0 < m) then kept' else -kept') (e + drop)
  else cA m e

noncomputable def af (m e digits top : Int) : Re :=
  let x := ai m e digits
  bif decide (x.1 = 0) || decide (x.2 + nd x.1 - 1 < -top) then (0, 0) else x

noncomputable def bE (x y : Re) : Re :=
  bif decide (x.1 = 0) then y else bif decide (y.1 = 0) then x else
  (x.1 * 10 ^ (x.2 - min x.2 y.2).toNat + y.1 * 10 ^ (y.2 - min x.2 y.2).toNat, min x.2 y.2)
noncomputable def ao (x y : Re) : Re := (x.1 * y.1, x.2 + y.2)
noncomputable def cZ (x : Re) : Re := (-x.1, x.2)

noncomputable def aO (over under e digits : Int) : Re :=
  let shift := max (digits + 2 + nd under - nd over) 0
  let a := (over.natAbs : Int) * 10 ^ shift.toNat
  let kept := a / (under.natAbs : Int)
  let rest := a % (under.natAbs : Int)
  let m := 10 * kept + bif decide (rest ≠ 0) then 1 else 0
  (bif decide (over < 0) != decide (under < 0) then -m else m, e - shift - 1)
noncomputable def cv (x y : Re) (digits top : Int) : Re :=
  let q := aO x.1 y.1 (x.2 - y.2) digits
  af q.1 q.2 digits top

noncomputable def ak (x : Re) : Int := nd x.1 + x.2
noncomputable def ac (x : Re) (digits : Int) : Int := digits + max digits (nd x.1) + 10 + max 0 (ak x)
noncomputable def cr (x : Re) (places : Int) : Int :=
  bif decide (0 <= x.2 + places) then x.1 * 10 ^ (x.2 + places).toNat else
  bif decide (x.1 < 0) then -((x.1.natAbs : Int) / 10 ^ (-(x.2 + places)).toNat) else (x.1.natAbs : Int) / 10 ^ (-(x.2 + places)).toNat

theorem io (n : Nat) : ∃ r : Nat, r * r <= n /\ n < (r + 1) * (r + 1) := by
  induction n with
  | zero => exact ⟨0, by decide, by decide⟩
  | succ n ih =>
    obtain ⟨r, h1, h2⟩ := ih
    by_cases h : (r + 1) * (r + 1) <= n + 1
    · refine ⟨r + 1, h, ?_⟩
      have : (r + 1 + 1) * (r + 1 + 1) = (r + 1) * (r + 1) + 2 * (r + 1) + 1 := by
        simp only [Nat.mul_add, Nat.add_mul]; exact fq831
      lia -abstractProof
    · exact ⟨r, by exact fq893 h1, by exact fq898 h⟩
noncomputable def cW (n : Nat) : Nat := Classical.choose (io n)
theorem iJ (n : Nat) : cW n * cW n <= n := (Classical.choose_spec (io n)).1
theorem iI (n : Nat) : n < (cW n + 1) * (cW n + 1) := (Classical.choose_spec (io n)).2
noncomputable def b7 (n : Int) : Int := (cW n.toNat : Int)

noncomputable def dc (x : Re) (d : Int) : Int :=
  bif decide ((x.2 - max 0 (2 * d + 2 - nd x.1)) % 2 = 1) then max 0 (2 * d + 2 - nd x.1) + 1 else max 0 (2 * d + 2 - nd x.1)
noncomputable def gh (x : Re) (d : Int) : Int := x.1 * 10 ^ (dc x d).toNat
noncomputable def fJ (x : Re) (d : Int) : Int := 10 * b7 (gh x d) + bif decide (b7 (gh x d) * b7 (gh x d) ≠ gh x d) then 1 else 0
noncomputable def gE (x : Re) (d : Int) : Int := (x.2 - dc x d) / 2 - 1
noncomputable def bv (x : Re) (digits top : Int) : Re :=
  bif decide (x.1 = 0) then (0, 0) else af (fJ x digits) (gE x digits) digits top

structure S4 where
  a : Int
  b : Int
  c : Int
  d : Int

noncomputable def df (divisor places turn : Int) : Int :=
  (cV (fun s : S4 => decide (0 < s.a)) (fun s => ⟨s.a / (divisor * divisor), s.b + s.c * (s.a / s.d), s.c * turn, s.d + 2⟩) FU ⟨10 ^ places.toNat / divisor, 0, 1, 1⟩).b
noncomputable def aY (places : Int) : Int :=
  (46 * df 31 (places + 5) 1 + 34 * df 49 (places + 5) 1 + 20 * df 161 (places + 5) 1) / 10 ^ 5
noncomputable def aI (places : Int) : Int :=
  (48 * df 18 (places + 5) (-1) + 32 * df 57 (places + 5) (-1) - 20 * df 239 (places + 5) (-1)) / 10 ^ 5

structure S3 where
  a : Int
  b : Int
  c : Int

/-- a: total, b: term, c: k -/
noncomputable def eV (n places : Int) : Int :=
  (cV (fun s : S3 => decide (s.b ≠ 0)) (fun s => ⟨s.a + s.b * n / (10 ^ places.toNat * s.c), s.b * n / (10 ^ places.toNat * s.c), s.c + 1⟩) FU ⟨10 ^ places.toNat, 10 ^ places.toNat, 1⟩).a
noncomputable def dz (x : Re) (digits : Int) : Int := (2 * cr x (ac x digits) + aY (ac x digits)) / (2 * aY (ac x digits))
noncomputable def ds (x : Re) (digits : Int) : Int := eV (cr x (ac x digits) - dz x digits * aY (ac x digits)) (ac x digits)
noncomputable def dY (x : Re) (top : Int) : Bool := decide (nd top + 1 < ak x)
noncomputable def aQ (x : Re) (digits top : Int) : Re :=
  bif decide (x.1 = 0) || decide (ak x < -digits) then (1, 0) else
  bif dY x top then (0, 0) else
  af (ds x digits) (dz x digits - ac x digits) digits top

/-- the size that log_parts takes -/
noncomputable def aV (m : Int) : Int := bif decide (10 ^ (2 * nd m - 1).toNat < m * m) then nd m + 1 else nd m
/-- a: term, b: total, c: n -/
noncomputable def lf (term square one : Int) : Int :=
  (cV (fun s : S3 => decide (0 < s.a)) (fun s => ⟨s.a * square / one, s.b + s.a / s.c, s.c + 2⟩) FU ⟨term, 0, 1⟩).b
noncomputable def cH (x : Re) (digits : Int) : Int :=
  ((x.1 - 10 ^ (aV x.1 - 1).toNat).natAbs : Int) * 10 ^ (ac x digits).toNat / (x.1 + 10 ^ (aV x.1 - 1).toNat)
noncomputable def mY (x : Re) (digits : Int) : Int :=
  let one : Int := 10 ^ (ac x digits).toNat
  let total := lf (cH x digits) (cH x digits * cH x digits / one) one
  bif decide (x.1 < 10 ^ (aV x.1 - 1).toNat) then -2 * total else 2 * total
noncomputable def dB (x : Re) (digits top : Int) : Re :=
  af ((x.2 + aV x.1 - 1) * aY (ac x digits) + mY x digits) (-ac x digits) digits top

/-- a: term, b: total, c: sign, d: k -/
noncomputable def dw (r places first : Int) : Int :=
  let one : Int := 10 ^ places.toNat
  let square := r * r / one
  (cV (fun s : S4 => decide (0 < s.a)) (fun s => ⟨s.a * square / (one * (s.d + 1) * (s.d + 2)), s.b + s.c * s.a, -s.c, s.d + 2⟩) FU
    ⟨bif decide (first = 1) then (r.natAbs : Int) else one, 0, bif decide (first = 1) && decide (r < 0) then -1 else 1, first⟩).b
noncomputable def lV (x : Re) (digits : Int) : Int := (4 * cr x (ac x digits) + aI (ac x digits)) / (2 * aI (ac x digits))
noncomputable def ux (x : Re) (digits : Int) : Int := (2 * cr x (ac x digits) - lV x digits * aI (ac x digits)) / 2
noncomputable def bV (x : Re) (digits ahead : Int) : Int :=
  let turn := (lV x digits + ahead) % 4
  let value := dw (ux x digits) (ac x digits) (1 - turn % 2)
  bif decide (2 <= turn) then -value else value
noncomputable def bC (x : Re) (digits : Int) : Bool := decide (x.1 = 0) || decide (ak x < -digits)
noncomputable def aw (x : Re) (digits top : Int) : Re :=
  bif bC x digits then af x.1 x.2 digits top else af (bV x digits 0) (-ac x digits) digits top
noncomputable def aN (x : Re) (digits top : Int) : Re :=
  bif bC x digits then (1, 0) else af (bV x digits 1) (-ac x digits) digits top

noncomputable def bN (one t : Int) : Int := t * one / (one + b7 (one * one + t * t))
/-- a: t, b: total, c: sign, d: n -/
noncomputable def pD (t square one : Int) : Int :=
  (cV (fun s : S4 => decide (0 < s.a)) (fun s => ⟨s.a * square / one, s.b + s.c * (s.a / s.d), -s.c, s.d + 2⟩) FU ⟨t, 0, 1, 1⟩).b
noncomputable def gx (t places : Int) : Int :=
  let one : Int := 10 ^ places.toNat
  let u := bN one (bN one t)
  4 * pD u (u * u / one) one
noncomputable def dX (a b places : Int) : Int :=
  bif decide (a <= b) then gx (a * 10 ^ places.toNat / b) places else aI places / 2 - gx (b * 10 ^ places.toNat / a) places
noncomputable def cJ (y : Re) (quarters digits top : Int) : Re :=
  let angle := quarters * aI (digits + 10) / 2
  af (bif decide (y.1 < 0) then -angle else angle) (-(digits + 10)) digits top
noncomputable def bF (y x : Re) (digits : Int) : Int := 2 * digits + 10 + max 0 (ak x - ak y)
noncomputable def bn (y x : Re) (digits : Int) : Int :=
  let low := min y.2 x.2
  let angle := dX ((y.1.natAbs : Int) * 10 ^ (y.2 - low).toNat) ((x.1.natAbs : Int) * 10 ^ (x.2 - low).toNat) (bF y x digits)
  bif decide (x.1 < 0) then aI (bF y x digits) - angle else angle
/-- for arguments whose leads lie near -/
noncomputable def aA (y x : Re) (digits top : Int) : Re :=
  bif decide (y.1 = 0) then (bif decide (0 < x.1) then (0, 0) else cJ y 2 digits top) else
  bif decide (x.1 = 0) then cJ y 1 digits top else
  af (bif decide (y.1 < 0) then -bn y x digits else bn y x digits) (-bF y x digits) digits top

noncomputable def bL (x : Re) : Re := ((x.1.natAbs : Int), x.2)
noncomputable def az (x : Re) (digits : Int) : Int := ds (bL x) digits * 10 ^ (dz (bL x) digits).toNat
noncomputable def aD (x : Re) (digits : Int) : Int := 10 ^ (2 * ac (bL x) digits).toNat / az x digits
noncomputable def aP (x : Re) (digits top : Int) : Re :=
  bif bC x digits then af x.1 x.2 digits top else
  let value := (az x digits - aD x digits) * 5
  af (bif decide (x.1 < 0) then -value else value) (-ac (bL x) digits - 1) digits top
noncomputable def bf (x : Re) (digits top : Int) : Re :=
  bif bC x digits then (1, 0) else af ((az x digits + aD x digits) * 5) (-ac (bL x) digits - 1) digits top

noncomputable def cj (z : Cc) (digits top : Int) : Cc := (af z.1.1 z.1.2 digits top, af z.2.1 z.2.2 digits top)
noncomputable def ap (top : Int) : Int := 4 * top + 100
noncomputable def ag (z : Cc) : Re := bE (ao z.1 z.1) (ao z.2 z.2)
noncomputable def bK (z : Cc) : Bool := decide (z.1.1 = 0) && decide (z.2.1 = 0)
noncomputable def cE (x : Re) : Re := (x.1 * 5, x.2 - 1)
noncomputable def aU (z : Cc) (digits top : Int) : Re := bv (ag z) digits top
noncomputable def aJ (z : Cc) (digits top : Int) : Re :=
  bv (cE (bE (bv (ag z) (digits + 10) (ap top)) (bL z.1))) (digits + 10) (ap top)
noncomputable def bi (z : Cc) (digits top : Int) : Re := cv (cE (bL z.2)) (aJ z digits top) (digits + 10) (ap top)
noncomputable def aR (z : Cc) (digits top : Int) : Cc :=
  bif bK z then ((0, 0), (0, 0)) else
  cj (bif decide (z.1.1 < 0) then (bi z digits top, bif decide (z.2.1 < 0) then cZ (aJ z digits top) else aJ z digits top)
    else (aJ z digits top, bif decide (z.2.1 < 0) then cZ (bi z digits top) else bi z digits top)) digits top
noncomputable def aT (z : Cc) (digits top : Int) : Cc :=
  let grown := aQ z.1 (digits + 10) (ap top)
  cj (ao grown (aN z.2 (digits + 10) (ap top)), ao grown (aw z.2 (digits + 10) (ap top))) digits top
noncomputable def rB (z : Cc) (digits top : Int) : Cc := (cE (dB (ag z) digits top), aA z.2 z.1 digits top)
noncomputable def bk (z : Cc) (digits top : Int) : Cc := cj (rB z (digits + 10) (ap top)) digits top
noncomputable def bO (z : Cc) (digits top : Int) : Cc :=
  cj (ao (aw z.1 (digits + 10) (ap top)) (bf z.2 (digits + 10) (ap top)), ao (aN z.1 (digits + 10) (ap top)) (aP z.2 (digits + 10) (ap top))) digits top
noncomputable def bP (z : Cc) (digits top : Int) : Cc :=
  cj (ao (aN z.1 (digits + 10) (ap top)) (bf z.2 (digits + 10) (ap top)), cZ (ao (aw z.1 (digits + 10) (ap top)) (aP z.2 (digits + 10) (ap top)))) digits top

noncomputable def bo (x y : Re) : Re := (x.1 * 10 ^ (x.2 - min x.2 y.2).toNat + y.1 * 10 ^ (y.2 - min x.2 y.2).toNat, min x.2 y.2)
noncomputable def ah (x : Re) : Re := (-x.1, x.2)
noncomputable def bq (z w : Cc) : Cc :=
  (bo (z.1.1 * w.1.1, z.1.2 + w.1.2) (-z.2.1 * w.2.1, z.2.2 + w.2.2), bo (z.1.1 * w.2.1, z.1.2 + w.2.2) (z.2.1 * w.1.1, z.2.2 + w.1.2))
noncomputable def cF (x : Re) (found : Int) : Int := bif decide (x.1 ≠ 0) then max found (nd x.1 + x.2) else found
noncomputable def aW (z : Cc) : Int := cF z.2 (cF z.1 (-999))
/-- two decimals lie not more than 10 ^ lead apart -/
noncomputable def mw (x y : Re) (lead : Int) : Prop :=
  ((bo x (ah y)).1.natAbs : Int) * 10 ^ (max 0 ((bo x (ah y)).2 - lead)).toNat <= 10 ^ (max 0 (lead - (bo x (ah y)).2)).toNat
noncomputable def fe (z w : Cc) (lead : Int) : Prop := mw z.1 w.1 lead /\ mw z.2 w.2 lead
end

section
/-! ## powers of ten, values of decimals -/
noncomputable def aj (e : Int) : Rat := (10 : Rat) ^ e
noncomputable def val (x : Re) : Rat := (x.1 : Rat) * aj x.2

theorem ten_ne : (10 : Rat) ≠ 0 := by decide
theorem aq (e : Int) : 0 < aj e := Rat.zpow_pos (by decide)
theorem aM (a b : Int) : aj (a + b) = aj a * aj b := Rat.zpow_add ten_ne a b
theorem gl : aj 0 = 1 := Rat.zpow_zero _
theorem iC : aj 1 = 10 := Rat.zpow_one _
theorem bR (a : Int) : aj (a + 1) = aj a * 10 := by rw [aM, iC]
theorem n8 (a : Int) : aj (a - 1) * 10 = aj a := by rw [<- bR]; congr 1; exact fq381
theorem c7 (n : Nat) : aj (n : Int) = ((10 ^ n : Nat) : Rat) := by
  show (10:Rat) ^ (n : Int) = _
  rw [Rat.zpow_natCast, Rat.natCast_pow]; rfl
theorem dN {e : Int} (h : 0 <= e) : aj e = (((10:Int) ^ e.toNat : Int) : Rat) := by
  have : aj e = aj (e.toNat : Int) := by congr 1; exact fq77 h
  rw [this, c7]
  have h : ((10:Int) ^ e.toNat) = ((10 ^ e.toNat : Nat) : Int) := by simp
  rw [h]; rfl
theorem p10_neg (a : Int) : aj a * aj (-a) = 1 := by rw [<- aM, <- gl]; congr 1; exact fq448
theorem kZ {a : Int} (h : 0 <= a) : 1 <= aj a := by
  rw [dN h]
  have : (1:Int) <= 10 ^ a.toNat := Int.pow_pos (by decide)
  exact_mod_cast this
theorem aX {a b : Int} (h : a <= b) : aj a <= aj b := by
  have e : aj b = aj a * aj (b - a) := by rw [<- aM]; congr 1; exact fq599
  have h1 := kZ (a := b - a) (by exact fq221 h)
  have := Rat.mul_le_mul_of_nonneg_left h1 (Rat.le_of_lt (aq a))
  exact gq281 this e
theorem ig {a b : Int} (h : a < b) : aj a < aj b := by
  have h1 := aX (a := a + 1) (b := b) (by exact fq96 h)
  rw [bR] at h1
  have := aq a
  exact gq190 this h1
theorem dq {a b : Int} : aj a < aj b ↔ a < b := by
  refine ⟨fun h => ?_, ig⟩
  rcases Int.lt_or_le a b with h1 | h1
  · exact h1
  · have := aX h1; exact gq86 h this

/-- absolute value -/
noncomputable def ab (x : Rat) : Rat := Rat.abs x
theorem eI (x : Rat) : ab x = if 0 <= x then x else -x := rfl
theorem gX {x y : Rat} (h1 : -y <= x) (h2 : x <= y) : ab x <= y := by
  rw [eI]; split <;> (first | exact gq234 h2 | exact gq167 h1)
theorem cR (x : Rat) : x <= ab x := by rw [eI]; split <;> (first | exact gq4 | exact gq155 ‹_›)
theorem bB (x : Rat) : -x <= ab x := by rw [eI]; split <;> (first | exact gq124 ‹_› | exact gq4)
theorem bj (x : Rat) : 0 <= ab x := by rw [eI]; split <;> (first | exact gq125 ‹_› | exact gq6 ‹_›)
theorem dA (x : Rat) : ab (-x) = ab x := by rw [eI, eI]; split <;> split <;> (first | exact gq122 ‹_› ‹_› | exact gq150 | exact gq105 | exact gq235 ‹_› ‹_›)
theorem cU (x y : Rat) : ab (x * y) = ab x * ab y := by
  rw [eI, eI, eI]
  by_cases hx : 0 <= x <;> by_cases hy : 0 <= y
  · have := Rat.mul_nonneg hx hy; simp [hx, hy, this]
  · have h := Rat.mul_nonneg hx (show 0 <= -y by exact gq6 hy)
    simp only [hx, hy, if_true, if_false]
    split
    · exact gq195 h ‹_›
    · exact gq163
  · have h := Rat.mul_nonneg (show 0 <= -x by exact gq6 hx) hy
    simp only [hx, hy, if_true, if_false]
    split
    · exact gq194 h ‹_›
    · exact gq47
  · have h := Rat.mul_nonneg (show 0 <= -x by exact gq6 hx) (show 0 <= -y by exact gq6 hy)
    simp only [hx, hy, if_false]
    split
    · exact gq226
    · exact gq271 h ‹_›
theorem ba {x : Rat} (h : 0 <= x) : ab x = x := by rw [eI, if_pos h]
theorem dK (x y : Rat) : ab (x + y) <= ab x + ab y := by
  have h1 := cR x; have h2 := cR y; have h3 := bB x; have h4 := bB y
  exact gX (by exact gq306 h3 h4) (by exact gq350 h1 h2)
theorem ab_lt {x y : Rat} (h1 : -y < x) (h2 : x < y) : ab x < y := by
  rw [eI]; split <;> (first | exact gq18 h2 | exact gq166 h1)
theorem cf {a b c d : Rat} (h1 : a <= b) (h2 : c <= d) (h3 : 0 <= c) (h4 : 0 <= b) : a * c <= b * d := by
  have x := Rat.mul_le_mul_of_nonneg_right h1 h3
  have y := Rat.mul_le_mul_of_nonneg_left h2 h4
  exact mn x y
theorem lI (m : Int) : ab (m : Rat) = ((m.natAbs : Int) : Rat) := by
  rw [eI]
  split
  · rename_i h
    have h' : (0:Int) <= m := by exact_mod_cast h
    congr 1; exact fq404 h'
  · rename_i h
    have h' : ¬ (0:Int) <= m := fun x => h (by exact_mod_cast x)
    rw [<- Rat.intCast_neg]; congr 1; exact fq491 h'

/-! ## the number of digits -/
theorem ij : ∀ (f n : Nat), n <= f -> (n = 0 -> jW f n = 0) /\ (n ≠ 0 -> 1 <= jW f n /\ 10 ^ (jW f n - 1) <= n /\ n < 10 ^ jW f n)
  | 0, n, h => by
    have : n = 0 := by exact wd h
    subst this
    exact ⟨fun _ => rfl, fun h => absurd rfl h⟩
  | f + 1, n, h => by
    refine ⟨fun h0 => by subst h0; rfl, fun h0 => ?_⟩
    have e : jW (f + 1) n = jW f (n / 10) + 1 := by
      show (bif n == 0 then 0 else jW f (n / 10) + 1) = _
      rw [show (n == 0) = false from by simpa using h0]; rfl
    have ih := ij f (n / 10) (by exact v5 h)
    rw [e]
    by_cases h1 : n / 10 = 0
    · rw [ih.1 h1]
      exact ⟨by exact fq300, by simp; exact fq826 h0, by simp; exact fq790 h1⟩
    · obtain ⟨a, b, c⟩ := ih.2 h1
      refine ⟨by exact wi, ?_, ?_⟩
      · have : jW f (n / 10) + 1 - 1 = (jW f (n / 10) - 1) + 1 := by exact fq915 ih.2 h1
        rw [this, Nat.pow_succ]
        exact fq914 ih.2 h1
      · rw [Nat.pow_succ]; exact fq913 ih.2 h1
theorem bY : nd 0 = 0 := rfl
theorem cG {m : Int} (h : m ≠ 0) : 1 <= nd m := by
  have := ((ij m.natAbs m.natAbs (Nat.le_refl _)).2 (by exact fq61 h)).1
  show (1:Int) <= ((jW m.natAbs m.natAbs : Nat) : Int)
  exact fq255 this
theorem gq (m : Int) : 0 <= nd m := Int.natCast_nonneg _
theorem fw (m : Int) : nd (-m) = nd m := by unfold nd; rw [Int.natAbs_neg]
theorem dj {m : Int} {k : Nat} (h : m.natAbs < 10 ^ k) : nd m <= k := by
  by_cases h0 : m = 0
  · subst h0; rw [bY]; exact fX
  · obtain ⟨a, b, c⟩ := (ij m.natAbs m.natAbs (Nat.le_refl _)).2 (by exact fq61 h0)
    show ((jW m.natAbs m.natAbs : Nat) : Int) <= k
    have : 10 ^ (jW m.natAbs m.natAbs - 1) < 10 ^ k := Nat.lt_of_le_of_lt b h
    have := (Nat.pow_lt_pow_iff_right (by decide : 1 < 10)).mp this
    exact fq858 this
theorem eO {m : Int} {k : Nat} (h : nd m <= k) : m.natAbs < 10 ^ k := by
  by_cases h0 : m = 0
  · subst h0; exact Nat.pow_pos (by decide)
  · obtain ⟨a, b, c⟩ := (ij m.natAbs m.natAbs (Nat.le_refl _)).2 (by exact fq61 h0)
    have h' : ((jW m.natAbs m.natAbs : Nat) : Int) <= k := h
    exact Nat.lt_of_lt_of_le c (Nat.pow_le_pow_right (by decide) (by exact fq839 h'))
theorem nd_eq {m : Int} {k : Nat} (hk : 1 <= k) (h1 : 10 ^ (k - 1) <= m.natAbs) (h2 : m.natAbs < 10 ^ k) : nd m = k := by
  have a := dj h2
  rcases Int.lt_or_le (nd m) k with h | h
  · have b := eO (m := m) (k := k - 1) (by exact fq322 h)
    exact fq516 b h1
  · exact fq222 a h

theorem nd_lo {m : Int} (h : m ≠ 0) : aj (nd m - 1) <= ab (m : Rat) := by
  obtain ⟨a, b, c⟩ := (ij m.natAbs m.natAbs (Nat.le_refl _)).2 (by exact fq61 h)
  have e : aj (nd m - 1) = ((10 ^ (jW m.natAbs m.natAbs - 1) : Nat) : Rat) := by
    rw [<- c7]; congr 1
    show ((jW m.natAbs m.natAbs : Nat) : Int) - 1 = _
    exact fq744 a
  rw [e, lI]
  have : ((10 ^ (jW m.natAbs m.natAbs - 1) : Nat) : Int) <= (m.natAbs : Int) := by exact_mod_cast b
  exact_mod_cast b
theorem nd_hi (m : Int) : ab (m : Rat) < aj (nd m) := by
  have c := eO (m := m) (k := jW m.natAbs m.natAbs) (Int.le_refl _)
  have e : aj (nd m) = ((10 ^ (jW m.natAbs m.natAbs) : Nat) : Rat) := by
    rw [<- c7]; rfl
  rw [e, lI]
  exact_mod_cast c

theorem lH (x : Re) : ab (val x) = ab (x.1 : Rat) * aj x.2 := by
  show ab ((x.1 : Rat) * aj x.2) = _
  rw [cU, ba (x := aj x.2) (Rat.le_of_lt (aq _))]
theorem dC {x : Re} (h : x.1 ≠ 0) : aj (ak x - 1) <= ab (val x) := by
  rw [lH]
  have e : aj (ak x - 1) = aj (nd x.1 - 1) * aj x.2 := by rw [<- aM]; congr 1; unfold ak; exact fq544
  rw [e]
  exact Rat.mul_le_mul_of_nonneg_right (nd_lo h) (Rat.le_of_lt (aq _))
theorem di (x : Re) : ab (val x) < aj (ak x) := by
  rw [lH]
  have e : aj (ak x) = aj (nd x.1) * aj x.2 := by rw [<- aM]; rfl
  rw [e]
  exact Rat.mul_lt_mul_of_pos_right (nd_hi _) (aq _)
theorem fm {x : Re} {k : Int} (h0 : x.1 ≠ 0) (h : ab (val x) < aj k) : ak x <= k := by
  have := dq.mp (show aj (ak x - 1) < aj k by have := dC h0; exact gq3 h this)
  exact fq95 this
theorem iH {x : Re} {k : Int} (h : aj k <= ab (val x)) : k < ak x := dq.mp (by have := di x; exact gq3 this h)
theorem lead_congr {x y : Re} (hx : x.1 ≠ 0) (hy : y.1 ≠ 0) (h : ab (val x) = ab (val y)) : ak x = ak y := by
  have a := fm (k := ak y) hx (by rw [h]; exact di y)
  have b := fm (k := ak x) hy (by rw [<- h]; exact di x)
  exact fq222 a b
end

section
theorem dW {m : Int} (h : m ≠ 0) (e : Int) : ∃ k : Nat, (cA m e).1 * 10 ^ k = m /\ (cA m e).2 = e + k /\ (cA m e).1 % 10 ≠ 0 /\ (cA m e).1 ≠ 0 := by
  unfold cA
  rw [decide_eq_false h, cond_false]
  have := jY (c := fun s : Re => decide (s.1 % 10 = 0)) (f := fun s => (s.1 / 10, s.2 + 1)) (fun s => s.1 ≠ 0 /\ ∃ k : Nat, s.1 * 10 ^ k = m /\ s.2 = e + k) (fun s => s.1.natAbs)
    (fun s hs hc => by
      obtain ⟨h0, k, h1, h2⟩ := hs
      have hc := of_decide_eq_true hc
      refine ⟨⟨by show s.1 / 10 ≠ 0; lia -abstractProof, k + 1, ?_, ?_⟩, ?_⟩
      · show s.1 / 10 * 10 ^ (k + 1) = m
        have : s.1 = 10 * (s.1 / 10) := by lia -abstractProof
        rw [Int.pow_succ, <- h1]
        conv => rhs; rw [this]
        exact gq92
      · show s.2 + 1 = e + ((k + 1 : Nat) : Int); exact fq509 h2
      · show (s.1 / 10).natAbs < s.1.natAbs; lia -abstractProof)
    m.natAbs (m, e) ⟨h, 0, by simp, by simp⟩ (Nat.le_refl _)
  obtain ⟨⟨h0, k, h1, h2⟩, h3⟩ := this
  exact ⟨k, h1, h2, of_decide_eq_false h3, h0⟩

theorem jO (m e : Int) : val (cA m e) = (m : Rat) * aj e := by
  by_cases h : m = 0
  · subst h
    show ((0 : Int) : Rat) * aj 0 = ((0:Int):Rat) * aj e
    simp
  · obtain ⟨k, h1, h2, _⟩ := dW h e
    show ((cA m e).1 : Rat) * aj (cA m e).2 = _
    rw [h2, aM, c7, <- h1]
    have : ((10 ^ k : Nat) : Rat) = (((10:Int) ^ k : Int) : Rat) := by
      have h : ((10:Int) ^ k) = ((10 ^ k : Nat) : Int) := by simp
      rw [h]; rfl
    rw [this, Rat.intCast_mul]
    grind -abstractProof

theorem kO {m : Int} (h : m ≠ 0) (e : Int) : 0 < (cA m e).1 ↔ 0 < m := by
  obtain ⟨k, h1, h2, h3, h4⟩ := dW h e
  have hp : (0:Int) < 10 ^ k := Int.pow_pos (by decide)
  constructor
  · intro h; rw [<- h1]; exact Int.mul_pos h hp
  · intro h
    rcases Int.lt_or_le 0 (cA m e).1 with q | q
    · exact q
    · have := Int.mul_nonneg (show 0 <= -(cA m e).1 by exact fq59 q) (Int.le_of_lt hp)
      have : -(cA m e).1 * 10 ^ k = - m := by rw [<- h1]; exact gq100 h this h1
      lia -abstractProof

theorem nM {m : Int} {d : Nat} (h : m ≠ 0) (e : Int) (hd : 1 <= d) (hm : m.natAbs <= 10 ^ d) : nd (cA m e).1 <= d := by
  obtain ⟨k, h1, h2, h3, h4⟩ := dW h e
  apply dj
  rcases Nat.lt_or_ge (cA m e).1.natAbs (10 ^ d) with q | q
  · exact q
  · exfalso
    have e1 : (cA m e).1.natAbs * 10 ^ k = m.natAbs := by
      have := congrArg Int.natAbs h1
      rw [Int.natAbs_mul, Int.natAbs_pow] at this; exact this
    have e2 : (cA m e).1.natAbs <= (cA m e).1.natAbs * 10 ^ k := Nat.le_mul_of_pos_right _ (Nat.pow_pos (by decide))
    have e3 : (cA m e).1.natAbs = 10 ^ d := by exact fq925 e1 hm q e2
    obtain ⟨d', rfl⟩ : ∃ d', d = d' + 1 := ⟨d - 1, by exact fq747 hd⟩
    rw [Nat.pow_succ] at e3
    exact fq310 e3 h3

theorem mj (m : Int) : nd (m.natAbs : Int) = nd m := by unfold nd; simp

/-- the mantissa that rounding keeps -/
theorem iZ {n : Int} {D dr : Nat} (hn : 0 < n) (hnd : nd n = (D : Int) + dr) (hD : 1 <= D) (hdr : 1 <= dr) :
    let power : Int := 10 ^ dr
    let kept := n / power
    let rest := n % power
    let K := bif decide (power < 2 * rest) || (decide (2 * rest = power) && decide (kept % 2 = 1)) then kept + 1 else kept
    10 ^ (D - 1) <= K /\ K <= 10 ^ D /\ 2 * (K * power - n) <= power /\ 2 * (n - K * power) <= power := by
  intro power kept rest K
  have hp : 0 < power := Int.pow_pos (by decide)
  have h1 : n = power * kept + rest := (Int.mul_ediv_add_emod n power).symm
  have h2 : 0 <= rest := Int.emod_nonneg _ (by exact jb hp)
  have h3 : rest < power := Int.emod_lt_of_pos _ hp
  have hN := eO (m := n) (k := D + dr) (by exact fq337 hnd)
  have hL : 10 ^ (D + dr - 1) <= n.natAbs := by
    rcases Nat.lt_or_ge n.natAbs (10 ^ (D + dr - 1)) with q | q
    · have := dj q; exact fq344 hD hnd this
    · exact q
  have hu : kept < 10 ^ D := by
    apply Int.ediv_lt_of_lt_mul hp
    have : (n.natAbs : Int) < ((10 ^ (D + dr) : Nat) : Int) := by exact_mod_cast hN
    have e : ((10 ^ (D + dr) : Nat) : Int) = 10 ^ D * power := by rw [Nat.pow_add]; simp [power]
    rw [e] at this
    lia -abstractProof
  have hl : 10 ^ (D - 1) <= kept := by
    apply Int.le_ediv_of_mul_le hp
    have : ((10 ^ (D + dr - 1) : Nat) : Int) <= (n.natAbs : Int) := by exact_mod_cast hL
    have e : ((10 ^ (D + dr - 1) : Nat) : Int) = 10 ^ (D - 1) * power := by
      rw [show D + dr - 1 = (D - 1) + dr by exact fq844 hD, Nat.pow_add]; simp [power]
    rw [e] at this
    exact fq501 e hn hL
  have hm : kept * power = power * kept := Int.mul_comm _ _
  have hm1 : (kept + 1) * power = power * kept + power := by exact gq89
  show 10 ^ (D - 1) <= K /\ K <= 10 ^ D /\ 2 * (K * power - n) <= power /\ 2 * (n - K * power) <= power
  by_cases hc : (decide (power < 2 * rest) || (decide (2 * rest = power) && decide (kept % 2 = 1))) = true
  · have hK : K = kept + 1 := by show (bif _ then _ else _) = _; rw [hc]; rfl
    simp only [Bool.or_eq_true, Bool.and_eq_true, decide_eq_true_eq] at hc
    rw [hK, hm1]
    exact fq709 hc h3 hu h1 hl
  · have hK : K = kept := by show (bif _ then _ else _) = _; rw [Bool.eq_false_iff.mpr hc]; rfl
    simp only [Bool.or_eq_true, Bool.and_eq_true, decide_eq_true_eq] at hc
    rw [hK, hm]
    exact fq710 h2 hu h1 hl hc

structure RdSpec (m e d : Int) (r : Re) : Prop where
  nz : r.1 ≠ 0
  sg : 0 < r.1 ↔ 0 < m
  nd : Mine.nd r.1 <= d
  er : 2 * ab (val r - (m : Rat) * aj e) <= aj (Mine.nd m + e - d)
  lo : aj (Mine.nd m + e - 1) <= ab (val r)
  hi : ab (val r) <= aj (Mine.nd m + e)
  el : e <= r.2

theorem ab_mp (m e : Int) : ab ((m : Rat) * aj e) = ab (m : Rat) * aj e := lH (m, e)

theorem gF {m : Int} (h : m ≠ 0) (e : Int) {d : Int} (hd : 1 <= d) : RdSpec m e d (ai m e d) := by
  obtain ⟨D, rfl⟩ : ∃ D : Nat, d = D := ⟨d.toNat, by exact fq146 hd⟩
  have hs0 := jO m e
  have low : aj (nd m + e - 1) <= ab ((m : Rat) * aj e) := dC (x := (m, e)) h
  have upp : ab ((m : Rat) * aj e) < aj (nd m + e) := di (m, e)
  by_cases hdr : 0 < nd m - (D : Int)
  · obtain ⟨dr, hdr'⟩ : ∃ dr : Nat, nd m = (D : Int) + dr := ⟨(nd m - D).toNat, by exact fq550 hdr⟩
    have core := iZ (n := (m.natAbs : Int)) (D := D) (dr := dr) (by exact fq60 h) (by rw [mj]; exact hdr') (by exact fq67 hd) (by exact fq502 hdr hdr')
    have e1 : nd m - (D : Int) = dr := by exact fq660 hdr'
    have e2 : ai m e D = cA (bif decide (0 < m) then (bif decide ((10:Int) ^ dr < 2 * ((m.natAbs : Int) % 10 ^ dr)) || (decide (2 * ((m.natAbs : Int) % 10 ^ dr) = 10 ^ dr) && decide (((m.natAbs : Int) / 10 ^ dr) % 2 = 1)) then (m.natAbs : Int) / 10 ^ dr + 1 else (m.natAbs : Int) / 10 ^ dr) else -(bif decide ((10:Int) ^ dr < 2 * ((m.natAbs : Int) % 10 ^ dr)) || (decide (2 * ((m.natAbs : Int) % 10 ^ dr) = 10 ^ dr) && decide (((m.natAbs : Int) / 10 ^ dr) % 2 = 1)) then (m.natAbs : Int) / 10 ^ dr + 1 else (m.natAbs : Int) / 10 ^ dr)) (e + dr) := by
      unfold ai
      rw [e1]
      simp only []
      rw [decide_eq_true (show (0:Int) < (dr : Int) by exact fq637 hdr hdr')]
      rfl
    rw [e2]
    simp only at core
    revert core
    generalize (bif decide ((10:Int) ^ dr < 2 * ((m.natAbs : Int) % 10 ^ dr)) || (decide (2 * ((m.natAbs : Int) % 10 ^ dr) = 10 ^ dr) && decide (((m.natAbs : Int) / 10 ^ dr) % 2 = 1)) then (m.natAbs : Int) / 10 ^ dr + 1 else (m.natAbs : Int) / 10 ^ dr) = K
    intro core
    obtain ⟨c1, c2, c3, c4⟩ := core
    have hK : 0 < K := Int.lt_of_lt_of_le (Int.pow_pos (by decide)) c1
    have hnz : (bif decide (0 < m) then K else -K) ≠ 0 := by cases decide (0 < m) <;> simp <;> exact jb hK
    have habs : (bif decide (0 < m) then K else -K).natAbs = K.natAbs := by cases decide (0 < m) <;> simp
    have hv := jO (bif decide (0 < m) then K else -K) (e + dr)
    obtain ⟨k, s1, s2, s3, s4⟩ := dW hnz (e + dr)
    have sg := kO hnz (e + dr)
    have snd := nM (d := D) hnz (e + dr) (by exact fq67 hd) (by
      rw [habs]
      have : ((K.natAbs : Nat) : Int) <= ((10 ^ D : Nat) : Int) := by rw [Int.natAbs_of_nonneg (by exact jC hK)]; simpa using c2
      exact_mod_cast this)
    have pw : aj (e + dr) = (((10:Int) ^ dr : Int) : Rat) * aj e := by
      rw [aM, dN (e := (dr : Int)) (by exact fX)]
      have : ((dr : Int)).toNat = dr := by exact fq248
      rw [this]; exact gq227
    have hpe := aq e
    have kr1 : aj ((D : Int) - 1) <= (K : Rat) := by
      rw [dN (by exact fq145 hd)]
      have : ((D : Int) - 1).toNat = D - 1 := by exact fq247
      rw [this]; exact_mod_cast c1
    have kr2 : (K : Rat) <= aj D := by
      rw [dN (by exact fX)]
      have : ((D : Int)).toNat = D := by exact fq248
      rw [this]; exact_mod_cast c2
    have aK : ab (K : Rat) = K := ba (by exact_mod_cast (show (0:Int) <= K by exact jC hK))
    have aB : ab ((bif decide (0 < m) then K else -K : Int) : Rat) = K := by
      cases decide (0 < m)
      · rw [cond_false, Rat.intCast_neg, dA, aK]
      · rw [cond_true, aK]
    have av : ab (val (cA (bif decide (0 < m) then K else -K) (e + dr))) = (K : Rat) * aj (e + dr) := by
      rw [hv, ab_mp, aB]
    refine ⟨s4, sg.trans ?_, snd, ?_, ?_, ?_, by rw [s2]; exact fq339⟩
    · by_cases hm : 0 < m
      · rw [decide_eq_true hm, cond_true]; exact ⟨fun _ => hm, fun _ => hK⟩
      · rw [decide_eq_false hm, cond_false]; exact ⟨fun h => by exact fq549 h hK, fun h => absurd h hm⟩
    · rw [hv]
      have pd : aj (nd m + e - D) = (((10:Int) ^ dr : Int) : Rat) * aj e := by rw [<- pw]; congr 1; exact fq687 hdr'
      rw [pd, pw]
      have hmm : (m : Rat) = if 0 < m then ((m.natAbs : Int) : Rat) else -((m.natAbs : Int) : Rat) := by
        split
        · congr 1; exact fq389 ‹_›
        · rw [<- Rat.intCast_neg]; congr 1; exact fq488 ‹_›
      have r3 : (2:Rat) * ((K : Rat) * (((10:Int)^dr : Int) : Rat) - ((m.natAbs : Int) : Rat)) <= (((10:Int)^dr : Int) : Rat) := by exact_mod_cast c3
      have r4 : (2:Rat) * (((m.natAbs : Int) : Rat) - (K : Rat) * (((10:Int)^dr : Int) : Rat)) <= (((10:Int)^dr : Int) : Rat) := by exact_mod_cast c4
      have t3 := Rat.mul_le_mul_of_nonneg_right r3 (Rat.le_of_lt hpe)
      have t4 := Rat.mul_le_mul_of_nonneg_right r4 (Rat.le_of_lt hpe)
      rw [hmm]
      have key : ∀ x y : Rat, 2 * x <= y -> 2 * (-x) <= y -> 2 * ab x <= y := by
        intro x y h1 h2; rw [eI]; split <;> assumption
      apply key
      · by_cases hm : 0 < m
        · rw [decide_eq_true hm, cond_true, if_pos hm]; exact gq307 t3
        · rw [decide_eq_false hm, cond_false, if_neg hm, Rat.intCast_neg]; exact gq309 t4
      · by_cases hm : 0 < m
        · rw [decide_eq_true hm, cond_true, if_pos hm]; exact gq310 t4
        · rw [decide_eq_false hm, cond_false, if_neg hm, Rat.intCast_neg]; exact gq308 t3
    · rw [av, show nd m + e - 1 = ((D : Int) - 1) + (e + dr) by exact fq686 hdr', aM ((D : Int) - 1)]
      exact Rat.mul_le_mul_of_nonneg_right kr1 (Rat.le_of_lt (aq _))
    · rw [av, show nd m + e = (D : Int) + (e + dr) by exact fq688 hdr', aM (D : Int)]
      exact Rat.mul_le_mul_of_nonneg_right kr2 (Rat.le_of_lt (aq _))
  · have e2 : ai m e D = cA m e := by
      unfold ai
      simp only []
      rw [decide_eq_false hdr]; rfl
    rw [e2]
    obtain ⟨k, s1, s2, s3, s4⟩ := dW h e
    refine ⟨s4, kO h e, ?_, ?_, ?_, ?_, by rw [s2]; exact fq330⟩
    · refine nM h e (by exact fq67 hd) ?_
      exact Nat.le_of_lt (eO (by exact fq612 hdr))
    · rw [hs0]
      have : (m : Rat) * aj e - (m : Rat) * aj e = 0 := by exact gq44
      rw [this]
      have z : ab 0 = 0 := ba (by decide)
      rw [z]
      have := aq (nd m + e - D)
      exact gq35 this
    · rw [hs0]; exact low
    · rw [hs0]; exact Rat.le_of_lt upp
end

section
/-! ## rounding: consequences -/
theorem RdSpec.lead {m e d : Int} {r : Re} (S : RdSpec m e d r) : Mine.nd m + e <= ak r /\ ak r <= Mine.nd m + e + 1 := by
  refine ⟨?_, fm S.nz (Std.lt_of_le_of_lt S.hi (ig (by exact fq156)))⟩
  have := iH S.lo
  exact fq95 this
theorem ck (e d : Int) (hd : 0 <= d) : ai 0 e d = (0, 0) := by
  unfold ai
  simp only []
  rw [decide_eq_false (by rw [bY]; exact fq408 hd)]; rfl
theorem aL (e d top : Int) (hd : 0 <= d) : af 0 e d top = (0, 0) := by
  unfold af
  rw [ck e d hd]; rfl
theorem i7 {m e d top : Int} (hd : 1 <= d) (h : nd m + e <= top) (ht : 0 <= top) : (ai m e d).2 + nd (ai m e d).1 - 1 <= top := by
  by_cases h0 : m = 0
  · subst h0; rw [ck e d (by exact pt hd), bY]; show (0:Int) + 0 - 1 <= top; exact fq396 ht
  · have := (gF h0 e hd).lead.2
    unfold ak at this; exact fq684 this h
theorem qZ {m e d top : Int} (h : m ≠ 0) (hd : 1 <= d) (ht : -top <= nd m + e - 1) : af m e d top = ai m e d := by
  have S := gF h e hd
  have h1 := S.lead.1
  unfold ak at h1
  unfold af
  simp only []
  rw [decide_eq_false S.nz, decide_eq_false (by exact fq695 h1 ht)]; rfl
theorem iy {m e d top : Int} (h : m ≠ 0) (hd : 1 <= d) (ht : -top <= nd m + e - 1) : RdSpec m e d (af m e d top) := by
  rw [qZ h hd ht]; exact gF h e hd

/-- rounded to d digits: an absolute and a relative bound; zero stays zero -/
structure Rd (u : Rat) (d : Int) (r : Re) : Prop where
  rel : 2 * ab (val r - u) <= aj (1 - d) * ab u
  abs : 2 * ab (val r - u) <= aj (ak r - d)
  nd : nd r.1 <= d
  z : u = 0 -> r = (0, 0)
  pos : 0 < u -> 0 < r.1
  neg : u < 0 -> r.1 < 0
  lo : ∀ k, aj k <= ab u -> aj k <= ab (val r)
  hi : ∀ k, ab u < aj k -> ab (val r) <= aj k
  ub : ab u < aj (ak r)

theorem cC : ab 0 = 0 := ba (by decide)
theorem du (e : Int) : val (0, e) = 0 := by show ((0:Int):Rat) * _ = 0; rw [Rat.intCast_zero, Rat.zero_mul]
theorem iF (e : Int) : ((0:Int):Rat) * aj e = 0 := du e
theorem de {m e : Int} : 0 < (m : Rat) * aj e ↔ 0 < m := by
  constructor
  · intro h
    rcases Int.lt_or_le 0 m with q | q
    · exact q
    · have : (0:Rat) <= -(m : Rat) := by rw [<- Rat.intCast_neg]; exact_mod_cast (show 0 <= -m by exact fq59 q)
      have := Rat.mul_nonneg this (Rat.le_of_lt (aq e))
      exact gq82 h this
  · intro h
    exact Rat.mul_pos (by exact_mod_cast h) (aq e)
theorem uW {m e : Int} : (m : Rat) * aj e < 0 ↔ m < 0 := by
  have := de (m := -m) (e := e)
  rw [Rat.intCast_neg] at this
  have e1 : -(m:Rat) * aj e = -((m:Rat) * aj e) := by exact gq15
  rw [e1] at this
  constructor
  · intro h; have := this.mp (by exact gq10 h); exact fq386 this
  · intro h; have := this.mpr (by exact fq450 h); exact gq79 ‹_› h

theorem gY {m e d top : Int} (hd : 1 <= d) (ht : m ≠ 0 -> -top <= nd m + e - 1) : Rd ((m : Rat) * aj e) d (af m e d top) := by
  by_cases h : m = 0
  · subst h
    rw [aL _ _ _ (by exact pt hd), iF]
    have v0 := du 0
    refine ⟨?_, ?_, ?_, fun _ => rfl, fun h => absurd h (by decide), fun h => absurd h (by decide), fun k h => by rw [v0]; exact h, fun k h => by rw [v0]; exact Rat.le_of_lt h, by rw [cC]; exact aq _⟩
    · rw [v0, show (0:Rat) - 0 = 0 by grind, cC]; exact gq109
    · rw [v0, show (0:Rat) - 0 = 0 by grind, cC]
      have := aq (ak (0, 0) - d); exact gq35 this
    · rw [bY]; exact pt hd
  · have S := iy (top := top) h hd (ht h)
    have hl := S.lead
    have low : aj (nd m + e - 1) <= ab ((m : Rat) * aj e) := dC (x := (m, e)) h
    have upp : ab ((m : Rat) * aj e) < aj (nd m + e) := di (m, e)
    refine ⟨?_, ?_, S.nd, ?_, ?_, ?_, ?_, ?_, ?_⟩
    · have e1 : aj (nd m + e - d) = aj (1 - d) * aj (nd m + e - 1) := by rw [<- aM]; congr 1; exact fq587
      have := Rat.mul_le_mul_of_nonneg_left low (Rat.le_of_lt (aq (1 - d)))
      have := S.er
      exact gq347 e1 ‹_› this
    · have := S.er
      have := aX (a := nd m + e - d) (b := ak (af m e d top) - d) (by exact wj hl.1)
      exact mn ‹_› this
    · intro h0
      exfalso
      rw [h0, cC] at low
      have := aq (nd m + e - 1)
      exact gq119 this low
    · intro h0; exact S.sg.mpr (de.mp h0)
    · intro h0
      have := uW.mp h0
      have h1 := S.nz
      have h2 := S.sg
      exact fq517 h2 this h1
    · intro k hk
      have : k < nd m + e := dq.mp (by exact gq3 upp hk)
      have := aX (a := k) (b := nd m + e - 1) (by exact fq591 this)
      have := S.lo
      exact mn ‹_› this
    · intro k hk
      have : nd m + e - 1 < k := dq.mp (by exact gq3 hk low)
      have := aX (a := nd m + e) (b := k) (by exact fq95 this)
      have := S.hi
      exact mn this ‹_›
    · have := aX hl.1
      exact gq19 upp this
end

section
theorem iB {a b : Int} (h : b <= a) : aj a = (((10:Int) ^ (a - b).toNat : Int) : Rat) * aj b := by
  rw [<- dN (by exact fq221 h), <- aM]; congr 1; exact fq593
theorem cL (x y : Re) : val (bo x y) = val x + val y := by
  have h1 := iB (a := x.2) (b := min x.2 y.2) (by exact fq547)
  have h2 := iB (a := y.2) (b := min x.2 y.2) (by exact fq548)
  show ((x.1 * 10 ^ (x.2 - min x.2 y.2).toNat + y.1 * 10 ^ (y.2 - min x.2 y.2).toNat : Int) : Rat) * aj (min x.2 y.2) = (x.1 : Rat) * aj x.2 + (y.1 : Rat) * aj y.2
  rw [h1, h2, Rat.intCast_add, Rat.intCast_mul, Rat.intCast_mul]
  exact gq358
theorem jg (x y : Re) : val (bE x y) = val x + val y := by
  unfold bE
  by_cases hx : x.1 = 0
  · rw [decide_eq_true hx, cond_true]
    show _ = (x.1 : Rat) * aj x.2 + val y
    rw [hx, iF]; exact gq149
  · rw [decide_eq_false hx, cond_false]
    by_cases hy : y.1 = 0
    · rw [decide_eq_true hy, cond_true]
      show _ = val x + (y.1 : Rat) * aj y.2
      rw [hy, iF]; exact gq151
    · rw [decide_eq_false hy, cond_false]; exact cL x y
theorem d7 (x y : Re) : val (ao x y) = val x * val y := by
  show ((x.1 * y.1 : Int) : Rat) * aj (x.2 + y.2) = (x.1 : Rat) * aj x.2 * ((y.1 : Rat) * aj y.2)
  rw [aM, Rat.intCast_mul]; exact gq20
theorem gC (x : Re) : val (ah x) = - val x := by
  show ((-x.1 : Int) : Rat) * aj x.2 = - ((x.1 : Rat) * aj x.2)
  rw [Rat.intCast_neg]; exact gq15
theorem kK (x : Re) : val (cE x) = val x / 2 := by
  show ((x.1 * 5 : Int) : Rat) * aj (x.2 - 1) = _
  have := n8 x.2
  rw [Rat.intCast_mul]
  show (x.1 : Rat) * 5 * _ = (x.1 : Rat) * aj x.2 / 2
  exact gq282 this
theorem nL (x : Re) : val (bL x) = ab (val x) := by
  rw [lH, lI]; rfl
theorem fM : val (1, 0) = 1 := by show ((1:Int):Rat) * aj 0 = 1; rw [gl, Rat.mul_one]; rfl

theorem d9 {x y : Re} {lead : Int} (h : ab (val x - val y) <= aj lead) : mw x y lead := by
  unfold mw
  have hv : val (bo x (ah y)) = val x - val y := by rw [cL, gC]; exact gq58
  generalize bo x (ah y) = s at hv |-
  rw [<- hv, lH, lI] at h
  rcases Int.le_total lead s.2 with q | q
  · have e1 : (max 0 (lead - s.2)).toNat = 0 := by exact fq219 q
    have e2 : (max 0 (s.2 - lead)).toNat = (s.2 - lead).toNat := by congr 1; exact fq220 q
    rw [e1, e2, Int.pow_zero]
    have sp := iB q
    rw [sp] at h
    have hp := aq lead
    have : (((s.1.natAbs : Int) * 10 ^ (s.2 - lead).toNat : Int) : Rat) * aj lead <= ((1 : Int) : Rat) * aj lead := by
      rw [Rat.intCast_mul]; grind -abstractProof
    exact_mod_cast Rat.le_of_mul_le_mul_right this hp
  · have e1 : (max 0 (lead - s.2)).toNat = (lead - s.2).toNat := by congr 1; exact fq220 q
    have e2 : (max 0 (s.2 - lead)).toNat = 0 := by exact fq219 q
    rw [e1, e2, Int.pow_zero, Int.mul_one]
    have sp := iB q
    rw [sp] at h
    exact_mod_cast Rat.le_of_mul_le_mul_right h (aq s.2)

theorem fk (z : Cc) (h : z.1.1 ≠ 0) : ak z.1 <= aW z := by
  unfold aW cF
  rw [decide_eq_true h, cond_true]
  unfold ak
  cases decide (z.2.1 ≠ 0) <;> simp only [cond_true, cond_false] <;> (first | exact fq463 | exact fq603)
theorem fj (z : Cc) (h : z.2.1 ≠ 0) : ak z.2 <= aW z := by
  unfold aW cF
  rw [decide_eq_true h, cond_true]
  unfold ak
  exact fq604

/-! ## inequalities -/
theorem wK (x y : Rat) : ab (x - y) = ab (y - x) := by rw [<- dA]; congr 1; exact gq165
theorem wL {x y b : Rat} (h : ab (x - y) <= b) : ab x <= ab y + b := by
  have := dK (x - y) y
  have e : x - y + y = x := by exact gq187
  rw [e] at this; exact gq348 this h
theorem i8 {a b c d : Rat} (h1 : ab a <= c) (h2 : ab b <= d) : ab (a * b) <= c * d := by
  rw [cU]
  exact cf h1 h2 (bj _) (by have := bj a; exact gq51 this h1)
/-- errors of a product, absolute -/
theorem js {a a0 b b0 ea eb A B : Rat} (h1 : ab (a - a0) <= ea) (h2 : ab (b - b0) <= eb) (h3 : ab a <= A) (h4 : ab b0 <= B) : ab (a * b - a0 * b0) <= A * eb + ea * B := by
  have e : a * b - a0 * b0 = a * (b - b0) + (a - a0) * b0 := by exact gq316
  rw [e]
  have := dK (a * (b - b0)) ((a - a0) * b0)
  have := i8 h3 h2
  have := i8 h1 h4
  exact gq13 ‹_› ‹_› this
theorem ab3 (a b c : Rat) : ab (a - c) <= ab (a - b) + ab (b - c) := by
  have := dK (a - b) (b - c)
  have e : a - b + (b - c) = a - c := by exact gq264
  rw [e] at this; exact this
theorem fH {a b c d x y : Rat} (h1 : ab (a - c) <= x) (h2 : ab (b - d) <= y) : ab (a + b - (c + d)) <= x + y := by
  have := dK (a - c) (b - d)
  have e : a - c + (b - d) = a + b - (c + d) := by exact gq323
  rw [e] at this; exact gq13 this h1 h2
theorem gT {a b c d x y : Rat} (h1 : ab (a - c) <= x) (h2 : ab (b - d) <= y) : ab (a - b - (c - d)) <= x + y := by
  rw [wK b d] at h2
  have := dK (a - c) (d - b)
  have e : a - c + (d - b) = a - b - (c - d) := by exact gq324
  rw [e] at this; exact gq13 this h1 h2

/-- both rounded: the product, by leads -/
theorem Rd.prod {u v : Rat} {d k l : Int} {r q : Re} (R : Rd u d r) (Q : Rd v d q) (hk : ak r <= k) (hl : ak q <= l) : ab (val r * val q - u * v) <= aj (k + l - d) := by
  have h1 := R.abs
  have h2 := Q.abs
  have := aX (show ak r - d <= k - d by exact wj hk)
  have := aX (show ak q - d <= l - d by exact wj hl)
  have a1 : ab (val r) <= aj k := by have := di r; have := aX hk; exact us ‹_› this
  have a2 : ab v <= aj l := by have := Q.ub; have := aX hl; exact us ‹_› this
  have := js (a := val r) (a0 := u) (b := val q) (b0 := v) (ea := aj (k - d) / 2) (eb := aj (l - d) / 2) (A := aj k) (B := aj l) (by exact gq62 h1 ‹_›) (by exact gq62 h2 this) a1 a2
  have e1 : aj (k + l - d) = aj k * aj (l - d) := by rw [<- aM]; congr 1; exact fq634
  have e2 : aj (k + l - d) = aj (k - d) * aj l := by rw [<- aM]; congr 1; exact fq633
  exact gq384 e1 e2 this
/-- if one of the factors is zero its lead does not matter -/
theorem Rd.prod' {u v : Rat} {d k l : Int} {r q : Re} (R : Rd u d r) (Q : Rd v d q) (hk : r.1 ≠ 0 -> ak r <= k) (hl : q.1 ≠ 0 -> ak q <= l) : ab (val r * val q - u * v) <= aj (k + l - d) := by
  have key : ∀ {u : Rat} {r : Re}, Rd u d r -> r.1 = 0 -> val r = 0 /\ u = 0 := by
    intro u r R h
    refine ⟨by show (r.1:Rat) * _ = 0; rw [h, iF], ?_⟩
    have h1 := R.pos
    have h2 := R.neg
    by_cases a : 0 < u
    · have := h1 a; lia -abstractProof
    · by_cases b : u < 0
      · have := h2 b; lia -abstractProof
      · exact gq8 h1 h2 h
  have hp := aq (k + l - d)
  by_cases h1 : r.1 = 0
  · obtain ⟨a, b⟩ := key R h1
    rw [a, b]
    have e : 0 * val q - 0 * v = 0 := by exact gq169
    rw [e, cC]; exact gq14 hp
  · by_cases h2 : q.1 = 0
    · obtain ⟨a, b⟩ := key Q h2
      rw [a, b]
      have e : val r * 0 - u * 0 = 0 := by exact gq178
      rw [e, cC]; exact gq14 hp
    · exact R.prod Q (hk h1) (hl h2)
end

section
theorem ge (z w : Cc) : val (bq z w).1 = val z.1 * val w.1 - val z.2 * val w.2 := by
  show val (bo (z.1.1 * w.1.1, z.1.2 + w.1.2) (-z.2.1 * w.2.1, z.2.2 + w.2.2)) = _
  rw [cL]
  have e1 : val (z.1.1 * w.1.1, z.1.2 + w.1.2) = val z.1 * val w.1 := d7 z.1 w.1
  have e2 : val (-z.2.1 * w.2.1, z.2.2 + w.2.2) = val (ah z.2) * val w.2 := d7 (ah z.2) w.2
  rw [e1, e2, gC]; exact gq283
theorem gd (z w : Cc) : val (bq z w).2 = val z.1 * val w.2 + val z.2 * val w.1 := by
  show val (bo (z.1.1 * w.2.1, z.1.2 + w.2.2) (z.2.1 * w.1.1, z.2.2 + w.1.2)) = _
  rw [cL]
  have e1 : val (z.1.1 * w.2.1, z.1.2 + w.2.2) = val z.1 * val w.2 := d7 z.1 w.2
  have e2 : val (z.2.1 * w.1.1, z.2.2 + w.1.2) = val z.2 * val w.1 := d7 z.2 w.1
  rw [e1, e2]

theorem fy {a b : Rat} (h1 : 0 <= a) (h2 : 0 <= b) : 0 <= a * b := Rat.mul_nonneg h1 h2
theorem cQ (a : Rat) : 0 <= a * a := by
  rcases Rat.le_total (a := 0) (b := a) with h | h
  · exact fy h h
  · have := fy (a := -a) (b := -a) (by exact gq45 h) (by exact gq45 h)
    exact gq121 this
theorem eq (a : Rat) : ab a * ab a = a * a := by rw [<- cU, ba (cQ a)]
theorem oM (a b : Rat) : 2 * (ab a * ab b) <= a * a + b * b := by
  have := cQ (ab a - ab b)
  have := eq a
  have := eq b
  exact gq328 ‹_› ‹_› this
theorem bA (k : Nat) : aj (-(k : Int)) * ((10 ^ k : Nat) : Rat) = 1 := by
  rw [<- c7, <- aM, <- gl]; congr 1; exact fq370

theorem jV : aj (-9) = 1 / 1000000000 := by
  have h : aj (-9) * 1000000000 = 1 := bA 9
  exact gq140 h
theorem p10_m6 : aj (-6) = 1 / 1000000 := by
  have h : aj (-6) * 1000000 = 1 := bA 6
  exact gq139 h

/-- relative error of a product of two rounded ones -/
theorem Rd.prodRel {u v : Rat} {d : Int} {r q : Re} (hd : 2 <= d) (R : Rd u d r) (Q : Rd v d q) : ab (val r * val q - u * v) <= 2 * aj (1 - d) * (ab u * ab v) := by
  have t1 : aj (1 - d) <= aj (-1) := aX (by exact fq55 hd)
  have t2 := bA 1
  have t0 := aq (1 - d)
  have r1 := R.rel
  have q1 := Q.rel
  have nu := bj u
  have nv := bj v
  have a1 : ab (val r) <= 2 * ab u := by
    have := wL (x := val r) (y := u) (b := aj (1 - d) * ab u / 2) (by exact gq5 r1)
    have := Rat.mul_le_mul_of_nonneg_right (show aj (1 - d) <= 1 by grind -abstractProof) nu
    exact gq273 nu this ‹_›
  have := js (a := val r) (a0 := u) (b := val q) (b0 := v) (ea := aj (1 - d) * ab u / 2) (eb := aj (1 - d) * ab v / 2) (A := 2 * ab u) (B := ab v) (by exact gq5 r1) (by exact gq5 q1) a1 (by exact gq4)
  have := fy nu nv
  have := fy (Rat.le_of_lt t0) this
  exact gq329 this ‹_›

theorem wp {E F c s : Rat} {d : Int} {p q : Cc} (hd : 4 <= d /\ d <= 6) (P1 : Rd (E * c) d p.1) (P2 : Rd (E * s) d p.2) (Q1 : Rd (F * c) d q.1) (Q2 : Rd (F * (-s)) d q.2)
    (hE : 0 < E) (hF : 0 < F) (h1 : ab (E * F - 1) <= aj (-9)) (h2 : ab (c * c + s * s - 1) <= aj (-9)) : fe (bq p q) ((1, 0), (0, 0)) (3 - d) := by
  have n9 := bA 9
  have n9 : aj (-9) * 1000000000 = 1 := n9
  have t0 := aq (1 - d)
  have t3 : aj (3 - d) = 100 * aj (1 - d) := by
    rw [show 3 - d = 1 - d + 1 + 1 by exact fq436, bR, bR]; exact gq110
  have t5 : aj (-5) <= aj (1 - d) := aX (by exact fq172 hd.2)
  have n5 : aj (-5) * 100000 = 1 := bA 5
  have ef : E * F <= 2 := by have := cR (E * F - 1); grind -abstractProof
  have ef0 : 0 < E * F := Rat.mul_pos hE hF
  have cs : c * c + s * s <= 2 := by have := cR (c * c + s * s - 1); grind -abstractProof
  have c0 := cQ c
  have s0 := cQ s
  have aE : ab E = E := ba (Rat.le_of_lt hE)
  have aF : ab F = F := ba (Rat.le_of_lt hF)
  have k1 := P1.prodRel (by exact vQ hd.1) Q1
  have k2 := P2.prodRel (by exact vQ hd.1) Q2
  have k3 := P1.prodRel (by exact vQ hd.1) Q2
  have k4 := P2.prodRel (by exact vQ hd.1) Q1
  rw [cU E c, cU F c, aE, aF] at k1
  rw [cU E s, cU F (-s), aE, aF, dA] at k2
  rw [cU E c, cU F (-s), aE, aF, dA] at k3
  rw [cU E s, cU F c, aE, aF] at k4
  have cc := eq c
  have ss := eq s
  have csm := oM c s
  -- products bounded
  have e1 : E * ab c * (F * ab c) + E * ab s * (F * ab s) = (E * F) * (c * c + s * s) := by exact gq382 cc ss
  have e2 : (E * F) * (c * c + s * s) <= 2 * 2 := cf ef cs (by exact gq7 c0 s0) (by decide)
  have e3 : E * ab c * (F * ab s) = (E * F) * (ab c * ab s) := by exact gq20
  have e4 : (E * F) * (ab c * ab s) <= 2 * 1 := cf ef (by exact gq209 csm cs) (fy (bj _) (bj _)) (by decide)
  have e5 : E * ab s * (F * ab c) = (E * F) * (ab c * ab s) := by exact gq314
  have b1 := Rat.mul_le_mul_of_nonneg_left e2 (Rat.le_of_lt t0)
  have b2 := Rat.mul_le_mul_of_nonneg_left e4 (Rat.le_of_lt t0)
  have k12 : 2 * aj (1 - d) * (E * ab c * (F * ab c)) + 2 * aj (1 - d) * (E * ab s * (F * ab s)) = 2 * (aj (1 - d) * (E * F * (c * c + s * s))) := by rw [<- e1]; exact gq238
  have k34 : 2 * aj (1 - d) * (E * ab c * (F * ab s)) + 2 * aj (1 - d) * (E * ab s * (F * ab c)) = 4 * (aj (1 - d) * (E * F * (ab c * ab s))) := by rw [e3, e5]; exact gq161
  refine ⟨d9 ?_, d9 ?_⟩
  · rw [ge, t3]
    show ab (_ - val (1, 0)) <= _
    rw [fM]
    have f1 : ab (E * c * (F * c) - E * s * (F * (-s)) - 1) <= aj (-9) * 2 + aj (-9) := by
      have g1 := i8 (a := E * F - 1) (b := c * c + s * s) (c := aj (-9)) (d := 2) h1 (by rw [ba (by exact gq7 c0 s0)]; exact cs)
      have g2 := dK ((E * F - 1) * (c * c + s * s)) (c * c + s * s - 1)
      have e : (E * F - 1) * (c * c + s * s) + (c * c + s * s - 1) = E * c * (F * c) - E * s * (F * (-s)) - 1 := by exact gq295
      rw [e] at g2; exact gq13 g2 g1 h2
    have f2 := gT k1 k2
    have f3 := ab3 (val p.1 * val q.1 - val p.2 * val q.2) (E * c * (F * c) - E * s * (F * (-s))) 1
    rw [k12] at f2
    clear k1 k2 k3 k4 e1 e2 e3 e4 e5
    grind -abstractProof only
  · rw [gd, t3]
    show ab (_ - val (0, 0)) <= _
    rw [du]
    have f2 := fH k3 k4
    have e : E * c * (F * (-s)) + E * s * (F * c) = 0 := by exact gq299
    rw [e, k34] at f2
    have e0 : val p.1 * val q.2 + val p.2 * val q.1 - 0 = val p.1 * val q.2 + val p.2 * val q.1 := by exact gq43
    rw [e0] at f2 |-
    clear k1 k2 k3 k4 e1 e2 e3 e4 e5
    exact gq270 t0 f2 b2

/-- the sum of the squares of sine and cosine -/
theorem oV {s c sh ch : Rat} {d : Int} {S C : Cc} (hd : 4 <= d /\ d <= 6) (A : Rd (s * ch) d S.1) (B : Rd (c * sh) d S.2) (C1 : Rd (c * ch) d C.1) (D : Rd (-(s * sh)) d C.2)
    (h1 : ab (c * c + s * s - 1) <= aj (-9)) (h2 : ab (ch * ch - sh * sh - 1) <= aj (-9) * (ch * ch)) {T : Cc}
    (v1 : val T.1 = (val S.1 * val S.1 - val S.2 * val S.2) + (val C.1 * val C.1 - val C.2 * val C.2)) (v2 : val T.2 = (val S.1 * val S.2 + val S.2 * val S.1) + (val C.1 * val C.2 + val C.2 * val C.1)) :
    fe T ((1, 0), (0, 0)) (2 * max (aW S) (aW C) - d + 1) := by
  generalize hk : max (aW S) (aW C) = k
  have lA : S.1.1 ≠ 0 -> ak S.1 <= k := fun h => by have := fk S h; exact fq238 hk this
  have lB : S.2.1 ≠ 0 -> ak S.2 <= k := fun h => by have := fj S h; exact fq238 hk this
  have lC : C.1.1 ≠ 0 -> ak C.1 <= k := fun h => by have := fk C h; exact fq239 hk this
  have lD : C.2.1 ≠ 0 -> ak C.2 <= k := fun h => by have := fj C h; exact fq239 hk this
  have a1 := A.prod' A lA lA
  have b1 := B.prod' B lB lB
  have c1 := C1.prod' C1 lC lC
  have d1 := D.prod' D lD lD
  have m1 := A.prod' B lA lB
  have m2 := B.prod' A lB lA
  have m3 := C1.prod' D lC lD
  have m4 := D.prod' C1 lD lC
  rw [jV] at h1 h2
  have t : aj (2 * k - d + 1) = 10 * aj (k + k - d) := by
    rw [bR, show 2 * k - d = k + k - d by exact fq196]; exact gq40
  have t6 : aj (k + k) * aj (-6) <= aj (k + k - d) := by rw [<- aM]; exact aX (by exact fq608 hd.2)
  rw [p10_m6] at t6
  have c0 := cQ c
  have s0 := cQ s
  have ch0 := cQ ch
  have sh0 := cQ sh
  have u1 := cR (c * c + s * s - 1)
  have u2 := bB (c * c + s * s - 1)
  have w1 := cR (ch * ch - sh * sh - 1)
  have w2 := bB (ch * ch - sh * sh - 1)
  -- the size of ch
  have key : ∀ {u : Rat} {r : Re}, Rd u d r -> (r.1 ≠ 0 -> ak r <= k) -> u * u <= aj (k + k) := by
    intro u r R hr
    have hp := aq (k + k)
    by_cases h : r.1 = 0
    · have h1 := R.pos
      have h2 := R.neg
      have : u = 0 := by
        by_cases a : 0 < u
        · have := h1 a; lia -abstractProof
        · by_cases b : u < 0
          · have := h2 b; lia -abstractProof
          · exact gq8 h1 h2 h
      rw [this]; exact gq34 hp
    · have h1 := R.ub
      have h2 := aX (hr h)
      have h3 := cf (a := ab u) (b := aj k) (c := ab u) (d := aj k) (by exact us h1 h2) (by exact us h1 h2) (bj _) (Rat.le_of_lt (aq k))
      rw [eq, <- aM] at h3
      exact h3
  have q1 := key A lA
  have q2 := key C1 lC
  have chle : (ch * ch) * (1 - 1 / 1000000000) <= (ch * ch) * (c * c + s * s) := Rat.mul_le_mul_of_nonneg_left (by exact gq164 u2 h1) ch0
  have e0 : (ch * ch) * (c * c + s * s) = s * ch * (s * ch) + c * ch * (c * ch) := by exact gq256
  have ch4 : ch * ch <= 4 * aj (k + k) := by
    rw [e0] at chle
    clear e0 h1 h2 a1 b1 c1 d1 m1 m2 m3 m4 u1 u2 w1 w2 t t6
    exact gq332 ch0 chle q1 q2
  refine ⟨d9 ?_, d9 ?_⟩
  · rw [v1, t]
    show ab (_ - val (1, 0)) <= _
    rw [fM]
    have f1 := fH (gT a1 b1) (gT c1 d1)
    have g0 : ab (ch * ch - sh * sh) <= 2 * (ch * ch) := gX (by exact gq247 w2 ch0 h2) (by exact gq244 w2 sh0 h2)
    have g1 := i8 (a := c * c + s * s - 1) (b := ch * ch - sh * sh) h1 g0
    have g2 := dK ((c * c + s * s - 1) * (ch * ch - sh * sh)) (ch * ch - sh * sh - 1)
    have e : (c * c + s * s - 1) * (ch * ch - sh * sh) + (ch * ch - sh * sh - 1) = s * ch * (s * ch) - c * sh * (c * sh) + (c * ch * (c * ch) - -(s * sh) * -(s * sh)) - 1 := by exact gq291
    rw [e] at g2
    have g3 := ab3 (val S.1 * val S.1 - val S.2 * val S.2 + (val C.1 * val C.1 - val C.2 * val C.2)) (s * ch * (s * ch) - c * sh * (c * sh) + (c * ch * (c * ch) - -(s * sh) * -(s * sh))) 1
    have := aq (k + k - d)
    clear a1 b1 c1 d1 m1 m2 m3 m4 chle e0 q1 q2
    exact gq404 h2 t6 ch0 ch4 f1 g1 g2 g3
  · rw [v2, t]
    show ab (_ - val (0, 0)) <= _
    rw [du]
    have f1 := fH (fH m1 m2) (fH m3 m4)
    have e : s * ch * (c * sh) + c * sh * (s * ch) + (c * ch * -(s * sh) + -(s * sh) * (c * ch)) = 0 := by exact gq293
    rw [e] at f1
    have := aq (k + k - d)
    have e1 : ∀ x : Rat, x - 0 = x := fun x => by exact gq43
    rw [e1] at f1 |-
    clear a1 b1 c1 d1 m1 m2 m3 m4 chle e0 q1 q2
    exact gq192 this f1
end

section
theorem pf {n : Int} (h : 0 <= n) : 0 <= b7 n /\ b7 n * b7 n <= n /\ n < (b7 n + 1) * (b7 n + 1) := by
  have h1 := iJ n.toNat
  have h2 := iI n.toNat
  have e : (n.toNat : Int) = n := by exact fq394 h
  refine ⟨Int.natCast_nonneg _, ?_, ?_⟩
  · have : ((cW n.toNat : Int)) * ((cW n.toNat : Int)) <= (n.toNat : Int) := by exact_mod_cast h1
    rw [e] at this; exact this
  · have : (n.toNat : Int) < ((cW n.toNat : Int) + 1) * ((cW n.toNat : Int) + 1) := by exact_mod_cast h2
    rw [e] at this; exact this

/-- the whole root, with what is seen of it -/
structure SqF (m e d : Int) (more root : Int) (n E : Int) : Prop where
  r0 : 10 ^ d.toNat <= root
  lo : root * root <= m * 10 ^ more.toNat
  hi : m * 10 ^ more.toNat < (root + 1) * (root + 1)
  n : n = 10 * root + bif decide (root * root ≠ m * 10 ^ more.toNat) then 1 else 0
  E : e - more = 2 * (E + 1)
  mr : 0 <= more

theorem jm {a b : Int} (h0 : 0 <= a) (h : a <= b) : a * a <= b * b := Int.mul_le_mul h h h0 (by exact fq565 h0 h)
theorem uY {a b : Int} (h0 : 0 <= b) (h : a * a < b * b) : a < b := by
  rcases Int.lt_or_le a b with q | q
  · exact q
  · have := jm h0 q; exact fq685 h this

theorem o5 {x : Re} {d : Int} (hm : 0 < x.1) (hd : 0 <= d) : SqF x.1 x.2 d (dc x d) (b7 (gh x d)) (fJ x d) (gE x d) := by
  have hn := cG (m := x.1) (by exact jb hm)
  have hmore : 0 <= dc x d /\ 2 * d + 2 - nd x.1 <= dc x d /\ (x.2 - dc x d) % 2 = 0 := by
    unfold dc
    by_cases h : (x.2 - max 0 (2 * d + 2 - nd x.1)) % 2 = 1
    · rw [decide_eq_true h, cond_true]; exact fq545 h
    · rw [decide_eq_false h, cond_false]; exact fq613 h
  have hp : (0:Int) < 10 ^ (dc x d).toNat := Int.pow_pos (by decide)
  have hsq : 0 <= gh x d := Int.le_of_lt (Int.mul_pos hm hp)
  obtain ⟨s0, s1, s2⟩ := pf hsq
  refine ⟨?_, s1, s2, rfl, ?_, hmore.1⟩
  · -- the root is at least 10 ^ d
    have hbig : (10:Int) ^ d.toNat * 10 ^ d.toNat <= gh x d := by
      have h1 : ((10 ^ ((nd x.1).toNat - 1) : Nat) : Int) <= x.1 := by
        rcases Nat.lt_or_ge x.1.natAbs (10 ^ ((nd x.1).toNat - 1)) with q | q
        · have := dj q; exact fq229 hn this
        · have : ((10 ^ ((nd x.1).toNat - 1) : Nat) : Int) <= (x.1.natAbs : Int) := by exact_mod_cast q
          exact fq121 hm q
      have h2 : (10:Int) ^ d.toNat * 10 ^ d.toNat <= ((10 ^ ((nd x.1).toNat - 1) : Nat) : Int) * 10 ^ (dc x d).toNat := by
        have e1 : (10:Int) ^ d.toNat * 10 ^ d.toNat = ((10 ^ (d.toNat + d.toNat) : Nat) : Int) := by rw [Nat.pow_add]; simp
        have e2 : ((10 ^ ((nd x.1).toNat - 1) : Nat) : Int) * 10 ^ (dc x d).toNat = ((10 ^ ((nd x.1).toNat - 1 + (dc x d).toNat) : Nat) : Int) := by rw [Nat.pow_add]; simp
        rw [e1, e2]
        have : 10 ^ (d.toNat + d.toNat) <= 10 ^ ((nd x.1).toNat - 1 + (dc x d).toNat) := Nat.pow_le_pow_right (by decide) (by exact fq625 hmore.2.1)
        exact_mod_cast this
      exact Int.le_trans h2 (Int.mul_le_mul_of_nonneg_right h1 (Int.le_of_lt hp))
    have hq : (0:Int) <= 10 ^ d.toNat := Int.le_of_lt (Int.pow_pos (by decide))
    have := uY (a := 10 ^ d.toNat) (b := b7 (gh x d) + 1) (by exact fq400 s0) (by exact fq230 s2 hbig)
    exact fq589 this
  · unfold gE; exact fq445 hmore.2.2

section
variable {m e d more root n E : Int} (F : SqF m e d more root n E)

/-- the value of the argument -/
theorem SqF.val (F : SqF m e d more root n E) : (m : Rat) * aj e = 100 * ((m * 10 ^ more.toNat : Int) : Rat) * (aj E * aj E) := by
  have e1 : e = more + (E + 1) + (E + 1) := by have := F.E; exact fq654 this
  rw [e1, aM, aM, bR, dN F.mr, Rat.intCast_mul]
  exact gq277

theorem SqF.bounds (F : SqF m e d more root n E) (hd : 1 <= d) : 10 * root <= n /\ n <= 10 * root + 1 /\ 0 < root /\ n * n <= 100 * (m * 10 ^ more.toNat) + 20 * root /\ 100 * (m * 10 ^ more.toNat) <= n * n + 200 * root + 100 := by
  have h := F.r0
  have hp : (0:Int) < 10 ^ d.toNat := Int.pow_pos (by decide)
  have l := F.lo
  have u := F.hi
  have hn := F.n
  generalize m * 10 ^ more.toNat = q at *
  have e1 : (root + 1) * (root + 1) = root * root + 2 * root + 1 := by exact gq85
  by_cases hc : root * root ≠ q
  · rw [decide_eq_true hc, cond_true] at hn
    have e2 : n * n = 100 * (root * root) + 20 * root + 1 := by rw [hn]; exact gq84
    omega
  · rw [decide_eq_false hc, cond_false] at hn
    have e2 : n * n = 100 * (root * root) := by rw [hn]; exact gq83
    exact fq708 hp h e2 hn hc

/-- the unrounded root: its square is near the argument -/
theorem SqF.near (F : SqF m e d more root n E) (hd : 2 <= d) : ab ((n : Rat) * aj E * ((n : Rat) * aj E) - (m : Rat) * aj e) <= aj (1 - d) * ((m : Rat) * aj e) := by
  obtain ⟨b1, b2, b3, b4, b5⟩ := F.bounds (by exact pq hd)
  have l := F.lo
  have r0 := F.r0
  rw [F.val]
  generalize m * 10 ^ more.toNat = q at *
  have hE := Rat.mul_pos (aq E) (aq E)
  generalize hw : aj E * aj E = w at *
  -- 300 root <= 1000 q / 10 ^ d
  have hd0 : aj (1 - d) * aj d = 10 := by rw [<- aM, <- iC]; congr 1; exact fq372
  have hr : aj d <= (root : Rat) := by
    rw [dN (by exact tj hd)]; exact_mod_cast r0
  have hq : (root : Rat) * root <= q := by exact_mod_cast l
  have hroot : (0:Rat) < root := by exact_mod_cast b3
  have h1 : 10 * (root : Rat) <= aj (1 - d) * q := by
    have t0 := aq (1 - d)
    have := Rat.mul_le_mul_of_nonneg_left hq (Rat.le_of_lt t0)
    have h2 := Rat.mul_le_mul_of_nonneg_right (Rat.mul_le_mul_of_nonneg_left hr (Rat.le_of_lt t0)) (Rat.le_of_lt hroot)
    rw [hd0] at h2
    exact gq337 this h2
  have r4 : (n : Rat) * n <= 100 * q + 20 * root := by exact_mod_cast b4
  have r5 : 100 * (q : Rat) <= n * n + 200 * root + 100 := by exact_mod_cast b5
  have r3 : (1 : Rat) <= root := by exact_mod_cast b3
  have e1 : (n : Rat) * aj E * ((n : Rat) * aj E) = (n : Rat) * n * w := by rw [<- hw]; exact gq49
  rw [e1]
  have s1 := Rat.mul_le_mul_of_nonneg_right (show (n : Rat) * n - 100 * q <= aj (1 - d) * (100 * q) by exact gq334 r3 h1 r4) (Rat.le_of_lt hE)
  have s2 := Rat.mul_le_mul_of_nonneg_right (show 100 * q - (n : Rat) * n <= aj (1 - d) * (100 * q) by exact gq333 r3 h1 r5) (Rat.le_of_lt hE)
  exact gX (by exact gq321 s2) (by exact gq322 s1)
end
end

section
theorem p10_sq (k : Int) : aj k * aj k = aj (k + k) := (aM k k).symm
theorem ju {k : Int} (h : k <= -1) : 2 * aj k <= 1 := by
  have := aX h
  have h1 : aj (-1) * 10 = 1 := bA 1
  have := aq k
  exact gq221 h1 ‹_›
theorem cz {x : Re} : 0 < val x ↔ 0 < x.1 := de
theorem dZ {x : Re} : val x < 0 ↔ x.1 < 0 := uW
theorem ew {x : Re} : 0 <= val x ↔ 0 <= x.1 := by
  have := dZ (x := x)
  constructor
  · intro h
    rcases Int.lt_or_le x.1 0 with q | q
    · have := this.mpr q; exact gq81 ‹_› h
    · exact q
  · intro h
    by_cases a : val x < 0
    · have := this.mp a; lia -abstractProof
    · exact gq80 this h
theorem bw {x : Re} : val x = 0 ↔ x.1 = 0 := by
  constructor
  · intro h
    have h1 := cz (x := x)
    have h2 := dZ (x := x)
    rw [h] at h1 h2
    rcases Int.lt_trichotomy x.1 0 with q | q | q
    · exact absurd (h2.mpr q) (by decide)
    · exact q
    · exact absurd (h1.mpr q) (by decide)
  · intro h; show (x.1 : Rat) * aj x.2 = 0; rw [h, iF]

/-- where the unrounded root lies -/
theorem mH {x : Re} {d : Int} (hm : 0 < x.1) (hd : 2 <= d) (lo : aj (-40) <= val x) (hi : val x <= aj 40) : -20 <= nd (fJ x d) + gE x d /\ nd (fJ x d) + gE x d <= 21 := by
  have F := o5 hm (by exact tj hd : 0 <= d)
  have nr := F.near hd
  obtain ⟨b1, b2, b3, -, -⟩ := F.bounds (by exact pq hd)
  have n0 : 0 < fJ x d := by exact fq63 b3 b1
  have hx : (x.1 : Rat) * aj x.2 = val x := rfl
  rw [hx] at nr
  generalize hu : (fJ x d : Rat) * aj (gE x d) = u at nr
  have u0 : 0 < u := by rw [<- hu]; exact de.mpr n0
  have low : aj (nd (fJ x d) + gE x d - 1) <= ab u := by rw [<- hu]; exact dC (x := (fJ x d, gE x d)) (by exact jb n0)
  have upp : ab u < aj (nd (fJ x d) + gE x d) := by rw [<- hu]; exact di (fJ x d, gE x d)
  rw [ba (Rat.le_of_lt u0)] at low upp
  generalize nd (fJ x d) + gE x d = L at low upp
  have hh := ju (k := 1 - d) (by exact fq55 hd)
  have x0 : 0 < val x := de.mpr hm
  have t := Rat.mul_le_mul_of_nonneg_right (show aj (1 - d) <= 1 / 2 by exact gq9 hh) (Rat.le_of_lt x0)
  have l1 := cR (u * u - val x)
  have l2 := bB (u * u - val x)
  have m1 := cf low low (Rat.le_of_lt (aq _)) (Rat.le_of_lt u0)
  have m2 := cf (Rat.le_of_lt upp) (Rat.le_of_lt upp) (Rat.le_of_lt u0) (Rat.le_of_lt (aq _))
  rw [p10_sq] at m1 m2
  constructor
  · have h1 : aj (-41) < aj (L + L) := by
      have : aj (-40) = aj (-41) * 10 := by rw [show (-40:Int) = -41 + 1 by decide, bR]
      have := aq (-41)
      exact gq69 lo nr x0 t l2 m2 ‹_›
    have := dq.mp h1
    exact fq366 this
  · have h1 : aj (L - 1 + (L - 1)) < aj 41 := by
      have : aj 41 = aj 40 * 10 := by rw [show (41:Int) = 40 + 1 by decide, bR]
      have := aq 40
      exact gq68 hi nr x0 t l1 m1 ‹_›
    have := dq.mp h1
    exact fq380 this

theorem bJ {x : Rat} (h : 0 < x) : ab x = x := ba (Rat.le_of_lt h)

/-- a rounded root -/
structure SqRes (N : Rat) (d : Int) (r : Re) : Prop where
  pos : 0 < val r
  nd : nd r.1 <= d
  near : ab (val r * val r - N) <= 3 * aj (1 - d) * N

theorem jl {x : Re} {d top : Int} (hm : 0 < x.1) (hd : 2 <= d) (ht : 60 <= top) (lo : aj (-40) <= val x) (hi : val x <= aj 40) : SqRes (val x) d (bv x d top) := by
  have F := o5 hm (by exact tj hd : 0 <= d)
  have nr := F.near hd
  obtain ⟨b1, b2, b3, -, -⟩ := F.bounds (by exact pq hd)
  have n0 : 0 < fJ x d := by exact fq63 b3 b1
  have L := mH hm hd lo hi
  have R := gY (m := fJ x d) (e := gE x d) (d := d) (top := top) (by exact pq hd) (fun _ => by exact fq528 L.1 ht)
  have e : bv x d top = af (fJ x d) (gE x d) d top := by
    unfold bv; rw [decide_eq_false (by exact jb hm)]; rfl
  rw [e]
  have hx : (x.1 : Rat) * aj x.2 = val x := rfl
  rw [hx] at nr
  have u0 : 0 < (fJ x d : Rat) * aj (gE x d) := de.mpr n0
  generalize (fJ x d : Rat) * aj (gE x d) = u at nr R u0
  generalize af (fJ x d) (gE x d) d top = r at R |-
  have r0 := cz.mpr (R.pos u0)
  refine ⟨r0, R.nd, ?_⟩
  have x0 : 0 < val x := de.mpr hm
  have rel := R.rel
  rw [bJ u0] at rel
  have hh := ju (k := 1 - d) (by exact fq55 hd)
  have t0 := aq (1 - d)
  generalize aj (1 - d) = t at *
  have tu := Rat.mul_le_mul_of_nonneg_right (show t <= 1 / 2 by exact gq9 hh) (Rat.le_of_lt u0)
  have tx := Rat.mul_le_mul_of_nonneg_right (show t <= 1 / 2 by exact gq9 hh) (Rat.le_of_lt x0)
  have ru : val r <= 5 / 4 * u := by have := cR (val r - u); exact gq66 rel tu this
  have p := js (a := val r) (a0 := u) (b := val r) (b0 := u) (ea := t * u / 2) (eb := t * u / 2) (A := 5 / 4 * u) (B := u) (by exact gq5 rel) (by exact gq5 rel) (by rw [bJ r0]; exact ru) (by rw [bJ u0]; exact gq4)
  have uu : u * u <= 3 / 2 * val x := by have := cR (u * u - val x); exact gq343 this nr tx
  have tuu := Rat.mul_le_mul_of_nonneg_left uu (Rat.le_of_lt t0)
  have q := ab3 (val r * val r) (u * u) (val x)
  have tx0 := Rat.mul_pos t0 x0
  exact gq377 tx0 tuu p nr q

/-- the distance law: half a unit by squares -/
theorem o8 {m e d more root n E : Int} (F : SqF m e d more root n E) (hd : 1 <= d) (hn : d + 2 <= nd n) :
    let r := ai n E d
    (2 * val r - aj (nd n + E - d)) * (2 * val r - aj (nd n + E - d)) <= 4 * ((m : Rat) * aj e) /\ 4 * ((m : Rat) * aj e) <= (2 * val r + aj (nd n + E - d)) * (2 * val r + aj (nd n + E - d)) /\ aj (nd n + E - d) <= 2 * val r := by
  intro r
  obtain ⟨D, rfl⟩ : ∃ D : Nat, d = D := ⟨d.toNat, by exact fq146 hd⟩
  obtain ⟨dr, hdr⟩ : ∃ dr : Nat, nd n = (D : Int) + (dr + 2) := ⟨(nd n - D - 2).toNat, by exact fq584 hn⟩
  obtain ⟨b1, b2, b3, b4, b5⟩ := F.bounds hd
  have n0 : 0 < n := by exact fq63 b3 b1
  have core := iZ (n := n) (D := D) (dr := dr + 2) n0 (by rw [hdr]; exact fq321) (by exact fq67 hd) (by exact fq68)
  simp only at core
  have na : (n.natAbs : Int) = n := by exact fq552 b3 b1
  have e2 : r = cA (bif decide ((10:Int) ^ (dr + 2) < 2 * (n % 10 ^ (dr + 2))) || (decide (2 * (n % 10 ^ (dr + 2)) = 10 ^ (dr + 2)) && decide ((n / 10 ^ (dr + 2)) % 2 = 1)) then n / 10 ^ (dr + 2) + 1 else n / 10 ^ (dr + 2)) (E + (dr + 2 : Nat)) := by
    show ai n E D = _
    unfold ai
    have e1 : nd n - (D : Int) = ((dr + 2 : Nat) : Int) := by exact fq508 hdr
    rw [e1]
    simp only []
    rw [decide_eq_true (show (0:Int) < ((dr + 2 : Nat) : Int) by exact fq730), decide_eq_true n0, na]
    rfl
  revert core e2
  generalize (bif decide ((10:Int) ^ (dr + 2) < 2 * (n % 10 ^ (dr + 2))) || (decide (2 * (n % 10 ^ (dr + 2)) = 10 ^ (dr + 2)) && decide ((n / 10 ^ (dr + 2)) % 2 = 1)) then n / 10 ^ (dr + 2) + 1 else n / 10 ^ (dr + 2)) = K
  intro core e2
  obtain ⟨c1, c2, c3, c4⟩ := core
  have hK : 0 < K := Int.lt_of_lt_of_le (Int.pow_pos (by decide)) c1
  have ev : val r = (K : Rat) * aj (E + (dr + 2 : Nat)) := by rw [e2, jO]
  have w0 : (0:Int) < 10 ^ dr := Int.pow_pos (by decide)
  have w0' : (0:Int) < 5 * 10 ^ dr := by exact fq387 w0
  have ep : (10:Int) ^ (dr + 2) = 20 * (5 * 10 ^ dr) := by rw [Int.pow_add]; exact fq446
  have eu : aj (nd n + E - D) = (((20 * (5 * 10 ^ dr)) : Int) : Rat) * aj E := by
    rw [<- ep, show nd n + E - (D : Int) = ((dr + 2 : Nat) : Int) + E by exact fq619 hdr, aM, c7]
    have h : ((10:Int) ^ (dr + 2)) = ((10 ^ (dr + 2) : Nat) : Int) := by simp
    rw [h]; rfl
  have ev2 : val r = (K : Rat) * (((20 * (5 * 10 ^ dr)) : Int) : Rat) * aj E := by
    rw [ev, <- ep, aM, c7]
    have h : ((10:Int) ^ (dr + 2)) = ((10 ^ (dr + 2) : Nat) : Int) := by simp
    rw [h]
    show (K : Rat) * (aj E * ((10 ^ (dr + 2) : Nat) : Rat)) = (K : Rat) * ((10 ^ (dr + 2) : Nat) : Rat) * aj E
    exact gq279
  rw [ep] at c3 c4
  generalize (5 * 10 ^ dr : Int) = w at *
  have l := F.lo
  have u := F.hi
  have hn2 := F.n
  have val := F.val
  rw [val]
  generalize hq : m * 10 ^ more.toNat = q at *
  have k1 : K * (20 * w) = 20 * (K * w) := by exact gq91
  have kw : w <= K * w := by
    have := Int.mul_le_mul_of_nonneg_right (show 1 <= K by exact fq136 hK) (Int.le_of_lt w0')
    exact fq572 this
  have t1 : (2 * (K * w) - w) * (2 * (K * w) - w) <= q := by
    have h1 : 2 * (K * w) - w <= root := by lia -abstractProof
    have := jm (by lia -abstractProof) h1
    exact fq668 this l
  have t2 : q <= (2 * (K * w) + w) * (2 * (K * w) + w) := by
    by_cases hc : root * root ≠ q
    · rw [decide_eq_true hc, cond_true] at hn2
      have h1 : root + 1 <= 2 * (K * w) + w := by lia -abstractProof
      have := jm (by exact fq388 b3) h1
      exact fq657 u this
    · rw [decide_eq_false hc, cond_false] at hn2
      have h1 : root <= 2 * (K * w) + w := by lia -abstractProof
      have := jm (by exact jC b3) h1
      exact fq669 this hc
  rw [ev2, eu]
  have pp := Rat.mul_pos (aq E) (aq E)
  have p0 := aq E
  have r1 : (2 * ((K:Rat) * w) - w) * (2 * ((K:Rat) * w) - w) <= q := by exact_mod_cast t1
  have r2 : (q : Rat) <= (2 * ((K:Rat) * w) + w) * (2 * ((K:Rat) * w) + w) := by exact_mod_cast t2
  have r3 : (w:Rat) <= (K : Rat) * w := by exact_mod_cast kw
  have m1 := Rat.mul_le_mul_of_nonneg_right r1 (Rat.le_of_lt pp)
  have m2 := Rat.mul_le_mul_of_nonneg_right r2 (Rat.le_of_lt pp)
  have m3 := Rat.mul_le_mul_of_nonneg_right r3 (Rat.le_of_lt p0)
  have w1 : (0:Rat) < w := by exact_mod_cast w0'
  have m4 := Rat.mul_pos w1 p0
  rw [Rat.intCast_mul]
  have e20 : ((20 : Int) : Rat) = 20 := rfl
  rw [e20]
  refine ⟨?_, ?_, ?_⟩
  · exact gq292 m1
  · exact gq336 m2
  · exact gq266 m4 m3
end

section
theorem mT {m : Int} {k : Nat} (h0 : 0 < m) : ((10 ^ ((nd m).toNat - 1) : Nat) : Int) <= m := by
  have hn := cG (m := m) (by exact jb h0)
  rcases Nat.lt_or_ge m.natAbs (10 ^ ((nd m).toNat - 1)) with q | q
  · have := dj q; exact fq229 hn this
  · have : ((10 ^ ((nd m).toNat - 1) : Nat) : Int) <= (m.natAbs : Int) := by exact_mod_cast q
    exact fq121 h0 q
theorem mX {m : Int} (h0 : 0 < m) : m < ((10 ^ (nd m).toNat : Nat) : Int) := by
  have := eO (m := m) (k := (nd m).toNat) (by have := gq m; exact fq160)
  have : (m.natAbs : Int) < ((10 ^ (nd m).toNat : Nat) : Int) := by exact_mod_cast this
  exact fq309 ‹_›

/-- the unrounded aO -/
theorem sd {a b e d : Int} (ha : 0 < a) (hb : 0 < b) (hd : 1 <= d) :
    0 < (aO a b e d).1 /\ ab (((aO a b e d).1 : Rat) * aj (aO a b e d).2 * b - (a : Rat) * aj e) <= aj (-d) * ((a : Rat) * aj e) := by
  have q0 : (aO a b e d) = (10 * (a * 10 ^ (max (d + 2 + nd b - nd a) 0).toNat / b) + (bif decide (a * 10 ^ (max (d + 2 + nd b - nd a) 0).toNat % b ≠ 0) then 1 else 0), e - max (d + 2 + nd b - nd a) 0 - 1) := by
    unfold aO
    simp only []
    rw [show (a.natAbs : Int) = a by exact fq52 ha, show (b.natAbs : Int) = b by exact fq52 hb, decide_eq_false (show ¬ a < 0 by exact fq76 ha), decide_eq_false (show ¬ b < 0 by exact fq76 hb)]
    rfl
  have hs : 0 <= max (d + 2 + nd b - nd a) 0 /\ d + 2 + nd b - nd a <= max (d + 2 + nd b - nd a) 0 := by exact fq346
  rw [q0]
  generalize max (d + 2 + nd b - nd a) 0 = sh at hs
  have na := cG (m := a) (by exact jb ha)
  have nb := cG (m := b) (by exact jb hb)
  have p0 : (0:Int) < 10 ^ sh.toNat := Int.pow_pos (by decide)
  have la := mT (k := 0) ha
  have lb := mX hb
  -- a * 10 ^ sh ≥ 10 ^ (d+1) * b
  have big : 10 ^ (d + 1).toNat * b <= a * 10 ^ sh.toNat := by
    have h1 : ((10 ^ ((nd a).toNat - 1) : Nat) : Int) * 10 ^ sh.toNat <= a * 10 ^ sh.toNat := Int.mul_le_mul_of_nonneg_right la (Int.le_of_lt p0)
    have h2 : 10 ^ (d + 1).toNat * b <= 10 ^ (d + 1).toNat * ((10 ^ (nd b).toNat : Nat) : Int) := Int.mul_le_mul_of_nonneg_left (Int.le_of_lt lb) (Int.le_of_lt (Int.pow_pos (by decide)))
    have h3 : (10:Int) ^ (d + 1).toNat * ((10 ^ (nd b).toNat : Nat) : Int) <= ((10 ^ ((nd a).toNat - 1) : Nat) : Int) * 10 ^ sh.toNat := by
      have e1 : (10:Int) ^ (d + 1).toNat * ((10 ^ (nd b).toNat : Nat) : Int) = ((10 ^ ((d + 1).toNat + (nd b).toNat) : Nat) : Int) := by rw [Nat.pow_add]; simp
      have e2 : ((10 ^ ((nd a).toNat - 1) : Nat) : Int) * 10 ^ sh.toNat = ((10 ^ ((nd a).toNat - 1 + sh.toNat) : Nat) : Int) := by rw [Nat.pow_add]; simp
      rw [e1, e2]
      have : 10 ^ ((d + 1).toNat + (nd b).toNat) <= 10 ^ ((nd a).toNat - 1 + sh.toNat) := Nat.pow_le_pow_right (by decide) (by lia -abstractProof)
      exact_mod_cast this
    exact fq697 h2 h3 h1
  have hA : 10 ^ (d + 1).toNat <= a * 10 ^ sh.toNat / b := Int.le_ediv_of_mul_le hb big
  have dm := Int.mul_ediv_add_emod (a * 10 ^ sh.toNat) b
  have m0 := Int.emod_nonneg (a * 10 ^ sh.toNat) (show b ≠ 0 by exact jb hb)
  have m1 := Int.emod_lt_of_pos (a * 10 ^ sh.toNat) hb
  have t0 : (0:Int) < 10 ^ (d + 1).toNat := Int.pow_pos (by decide)
  have ex : e = sh + (e - sh - 1) + 1 := by exact fq594
  have ev : (a : Rat) * aj e = 10 * ((a * 10 ^ sh.toNat : Int) : Rat) * aj (e - sh - 1) := by
    have h1 : aj e = aj sh * aj (e - sh - 1) * 10 := by rw [<- aM, <- bR]; congr 1
    rw [h1, dN hs.1, Rat.intCast_mul]; exact gq278
  rw [ev]
  have pe := aq (e - sh - 1)
  show 0 < 10 * (a * 10 ^ sh.toNat / b) + (bif decide (a * 10 ^ sh.toNat % b ≠ 0) then (1:Int) else 0) /\ ab (((10 * (a * 10 ^ sh.toNat / b) + (bif decide (a * 10 ^ sh.toNat % b ≠ 0) then (1:Int) else 0) : Int) : Rat) * aj (e - sh - 1) * b - _) <= _
  generalize aj (e - sh - 1) = w at *
  generalize hq : a * 10 ^ sh.toNat = q at *
  have hst : 0 <= (bif decide (q % b ≠ 0) then (1:Int) else 0) /\ (bif decide (q % b ≠ 0) then (1:Int) else 0) <= 1 := by cases decide (q % b ≠ 0) <;> simp
  generalize (bif decide (q % b ≠ 0) then (1:Int) else 0) = st at *
  generalize hk : q / b = k at *
  refine ⟨by exact fq638 t0 hst.1 hA, ?_⟩
  have sb : 0 <= st * b /\ st * b <= b := ⟨Int.mul_nonneg hst.1 (by exact jC hb), by have := Int.mul_le_mul_of_nonneg_right hst.2 (Int.le_of_lt hb); exact fq605 this⟩
  have e1 : (10 * k + st) * b = 10 * (b * k) + st * b := by exact gq94
  have i1 : (10 * k + st) * b - 10 * q <= 10 * b := by lia -abstractProof
  have i2 : 10 * q - (10 * k + st) * b <= 10 * b := by lia -abstractProof
  -- 10 b <= 10 q / 10 ^ (d + 1)
  have r1 : ((10 * k + st : Int) : Rat) * b - 10 * q <= 10 * b := by exact_mod_cast i1
  have r2 : 10 * (q : Rat) - ((10 * k + st : Int) : Rat) * b <= 10 * b := by exact_mod_cast i2
  have r3 : ((10 ^ (d + 1).toNat : Int) : Rat) * b <= q := by exact_mod_cast big
  rw [<- dN (by exact fq414 hd)] at r3
  have b0 : (0:Rat) < b := by exact_mod_cast hb
  have hd1 : aj (d + 1) * aj (-d) = 10 := by rw [<- aM, <- iC]; congr 1; exact fq377
  have r4 := Rat.mul_le_mul_of_nonneg_right r3 (Rat.le_of_lt (aq (-d)))
  have e5 : aj (d + 1) * (b : Rat) * aj (-d) = 10 * b := by rw [<- hd1]; exact gq257
  rw [e5] at r4
  have r5 : 10 * (b : Rat) <= aj (-d) * q := by rw [Rat.mul_comm (aj (-d))]; exact r4
  generalize ((10 * k + st : Int) : Rat) = n at *
  have pd := aq (-d)
  generalize aj (-d) = t at *
  have q0' : (0:Rat) < q := by
    have := Rat.mul_pos pd b0
    have : (0:Int) < q := by have := Int.mul_pos t0 hb; exact fq559 this big
    exact_mod_cast this
  have tq := Rat.mul_pos pd q0'
  have s1 := Rat.mul_le_mul_of_nonneg_right (show n * b - 10 * q <= t * q by exact gq67 r4 r1) (Rat.le_of_lt pe)
  have s2 := Rat.mul_le_mul_of_nonneg_right (show 10 * q - n * b <= t * q by exact gq67 r4 r2) (Rat.le_of_lt pe)
  have tqw := Rat.mul_pos tq pe
  exact gX (by exact gq353 s2 tqw) (by exact gq359 s1 tqw)

theorem rZ (b e d : Int) : (aO 0 b e d).1 = 0 := by
  unfold aO
  simp
end

section
theorem gM {a b c : Rat} (hc : 0 < c) (h : a * c <= b * c) : a <= b := Rat.le_of_mul_le_mul_right h hc
theorem bW {a b : Rat} (hb : 0 <= b) (h : a * a <= b * b) : a <= b := by
  by_cases q : a <= b
  · exact q
  · exfalso
    have h1 : b < a := by exact gq236 q
    have h2 := Rat.mul_lt_mul_of_pos_right h1 (show 0 < a by exact gq200 hb q)
    have h3 := Rat.mul_le_mul_of_nonneg_left (Rat.le_of_lt h1) hb
    exact gq284 h2 h h3

structure DivRes (x y : Rat) (d : Int) (r : Re) : Prop where
  pos : 0 < val r
  nd : nd r.1 <= d
  near : ab (val r * y - x) <= aj (1 - d) * x

/-- the value of the unrounded aO and its lead -/
theorem mc {x y : Re} {d : Int} (hx : 0 < x.1) (hy : 0 < y.1) (hd : 2 <= d) (x1 : aj (-30) <= val x) (x2 : val x <= aj 30) (y1 : aj (-30) <= val y) (y2 : val y <= aj 30) :
    let q := aO x.1 y.1 (x.2 - y.2) d
    0 < q.1 /\ ab (val q * val y - val x) <= aj (-d) * val x /\ -60 <= nd q.1 + q.2 /\ nd q.1 + q.2 <= 61 := by
  intro q
  obtain ⟨q0, qn⟩ := sd (e := x.2 - y.2) (d := d) hx hy (by exact pq hd)
  have py := aq y.2
  have e1 : aj (x.2 - y.2) * aj y.2 = aj x.2 := by rw [<- aM]; congr 1; exact fq546
  have hval : ab (val q * val y - val x) <= aj (-d) * val x := by
    have := Rat.mul_le_mul_of_nonneg_right qn (Rat.le_of_lt py)
    rw [<- bJ py, <- cU, bJ py] at this
    have e2 : (((aO x.1 y.1 (x.2 - y.2) d).1 : Rat) * aj (aO x.1 y.1 (x.2 - y.2) d).2 * y.1 - (x.1 : Rat) * aj (x.2 - y.2)) * aj y.2 = val q * val y - val x := by
      show _ = ((aO x.1 y.1 (x.2 - y.2) d).1 : Rat) * aj (aO x.1 y.1 (x.2 - y.2) d).2 * ((y.1 : Rat) * aj y.2) - (x.1 : Rat) * aj x.2
      rw [<- e1]; exact gq360
    have e3 : aj (-d) * ((x.1 : Rat) * aj (x.2 - y.2)) * aj y.2 = aj (-d) * val x := by
      show _ = aj (-d) * ((x.1 : Rat) * aj x.2)
      rw [<- e1]; exact gq311
    rw [e2, e3] at this
    exact this
  have u0 : 0 < val q := de.mpr q0
  have low : aj (nd q.1 + q.2 - 1) <= ab (val q) := dC (x := q) (Int.ne_of_gt q0)
  have upp : ab (val q) < aj (nd q.1 + q.2) := di q
  rw [bJ u0] at low upp
  refine ⟨q0, hval, ?_⟩
  have xp : 0 < val x := de.mpr hx
  have yp : 0 < val y := de.mpr hy
  have hh := ju (k := -d) (by exact fq429 hd)
  have t := Rat.mul_le_mul_of_nonneg_right (show aj (-d) <= 1 / 2 by exact gq9 hh) (Rat.le_of_lt xp)
  have l1 := cR (val q * val y - val x)
  have l2 := bB (val q * val y - val x)
  generalize nd q.1 + q.2 = L at *
  have m1 := cf low y1 (Rat.le_of_lt (aq _)) (Rat.le_of_lt u0)
  have m2 := cf (Rat.le_of_lt upp) y2 (Rat.le_of_lt yp) (Rat.le_of_lt (aq _))
  rw [<- aM] at m1 m2
  constructor
  · have h1 : aj (-31) < aj (L + 30) := by
      have : aj (-30) = aj (-31) * 10 := by rw [show (-30:Int) = -31 + 1 by decide, bR]
      have := aq (-31)
      exact gq69 x1 hval xp t l2 m2 ‹_›
    have := dq.mp h1
    exact fq363 this
  · have h1 : aj (L - 1 + -30) < aj 31 := by
      have : aj 31 = aj 30 * 10 := by rw [show (31:Int) = 30 + 1 by decide, bR]
      have := aq 30
      exact gq68 x2 hval xp t l1 m1 ‹_›
    have := dq.mp h1
    exact fq379 this

theorem nT {x y : Re} {d top : Int} (hx : 0 < x.1) (hy : 0 < y.1) (hd : 2 <= d) (ht : 90 <= top) (x1 : aj (-30) <= val x) (x2 : val x <= aj 30) (y1 : aj (-30) <= val y) (y2 : val y <= aj 30) :
    DivRes (val x) (val y) d (cv x y d top) := by
  obtain ⟨q0, qn, l1, l2⟩ := mc hx hy hd x1 x2 y1 y2
  have R := gY (m := (aO x.1 y.1 (x.2 - y.2) d).1) (e := (aO x.1 y.1 (x.2 - y.2) d).2) (d := d) (top := top) (by exact pq hd) (fun _ => by exact fq540 l1 ht)
  show DivRes (val x) (val y) d (af (aO x.1 y.1 (x.2 - y.2) d).1 (aO x.1 y.1 (x.2 - y.2) d).2 d top)
  generalize af (aO x.1 y.1 (x.2 - y.2) d).1 (aO x.1 y.1 (x.2 - y.2) d).2 d top = r at *
  have u0 : 0 < val (aO x.1 y.1 (x.2 - y.2) d) := de.mpr q0
  have ev : ((aO x.1 y.1 (x.2 - y.2) d).1 : Rat) * aj (aO x.1 y.1 (x.2 - y.2) d).2 = val (aO x.1 y.1 (x.2 - y.2) d) := rfl
  rw [ev] at R
  generalize val (aO x.1 y.1 (x.2 - y.2) d) = u at *
  have xp : 0 < val x := de.mpr hx
  have yp : 0 < val y := de.mpr hy
  refine ⟨cz.mpr (R.pos u0), R.nd, ?_⟩
  have rel := R.rel
  rw [bJ u0] at rel
  have t0 := aq (1 - d)
  have e10 : aj (1 - d) = aj (-d) * 10 := by rw [<- bR]; congr 1; exact fq412
  have hh := ju (k := 1 - d) (by exact fq55 hd)
  have m := Rat.mul_le_mul_of_nonneg_right rel (Rat.le_of_lt yp)
  have e3 : 2 * ab (val r - u) * val y = 2 * ab ((val r - u) * val y) := by rw [cU, bJ yp]; exact gq172
  rw [e3] at m
  have a3 := dK ((val r - u) * val y) (u * val y - val x)
  have e4 : (val r - u) * val y + (u * val y - val x) = val r * val y - val x := by exact gq301
  rw [e4] at a3
  have uy := cR (u * val y - val x)
  generalize aj (-d) = s at *
  rw [e10] at m hh t0 |-
  have sx := Rat.mul_le_mul_of_nonneg_right (show s <= 1 / 20 by exact gq135 hh) (Rat.le_of_lt xp)
  have suy := Rat.mul_le_mul_of_nonneg_right (show u * val y <= 21 / 20 * val x by exact gq344 uy qn sx) (show 0 <= s * 10 by exact gq14 t0)
  have e5 : s * 10 * u * val y = u * val y * (s * 10) := by exact gq258
  rw [e5] at m
  have sx0 := Rat.mul_pos (show 0 < s by exact gq111 t0) xp
  clear rel e3 e4 e5 uy sx
  exact gq376 sx0 m suy qn a3

theorem uL {S X Y G s t : Rat} (hS : 0 < S) (hX : 0 <= X) (hY : 0 <= Y) (hG : 0 < G) (hs : 0 <= s) (ht : 0 < t) (ht1 : t <= 1 / 1000)
    (h1 : ab (S * S - (X * X + Y * Y)) <= t * (X * X + Y * Y)) (h2 : ab (G * G - (S + X) / 2) <= t * ((S + X) / 2)) (h3 : ab (s * G - Y / 2) <= t * (Y / 2)) :
    ab (G * G - s * s - X) <= 10 * t * (G * G) /\ ab (2 * (G * s) - Y) <= 10 * t * (G * G) := by
  have G2 := Rat.mul_pos hG hG
  have hx0 := cQ X
  have hy0 := cQ Y
  have N0 : 0 <= X * X + Y * Y := by exact gq7 hx0 hy0
  have tN := Rat.mul_le_mul_of_nonneg_right ht1 N0
  have c1 := cR (S * S - (X * X + Y * Y))
  have c2 := bB (S * S - (X * X + Y * Y))
  have NS : X * X + Y * Y <= 1002 / 1000 * (S * S) := by exact gq361 c2 hx0 hy0 h1 tN
  generalize hh : (S + X) / 2 = h at *
  have hh0 : 0 < h := by exact gq259 hh hS hX
  have Sh : S <= 2 * h := by exact gq261 hh hX
  have Xh : X <= 2 * h := by exact gq260 hh hS
  have th := Rat.mul_le_mul_of_nonneg_right ht1 (Rat.le_of_lt hh0)
  have a1 := cR (G * G - h)
  have a2 := bB (G * G - h)
  have hG2 : h <= 1002 / 1000 * (G * G) := by exact gq378 hS hX hh h2 th a2
  have YS : Y <= 101 / 100 * S := bW (by exact gq113 hS) (by
    have e : (101 / 100 * S) * (101 / 100 * S) = 10201 / 10000 * (S * S) := by exact gq102
    have := Rat.mul_pos hS hS
    rw [e]; exact gq362 c2 hx0 hy0 h1 tN)
  have YG : Y <= 21 / 10 * (G * G) := by exact gq369 hh hS hX hG2 YS
  refine ⟨?_, ?_⟩
  · -- multiply by G²
    have id : (G * G - s * s - X) * (G * G) = (S * S - (X * X + Y * Y)) / 4 + (G * G - h) * (S + (G * G - h)) - (s * G - Y / 2) * (Y + (s * G - Y / 2)) := by rw [<- hh]; exact gq352
    have b1 : ab ((G * G - h) * (S + (G * G - h))) <= t * h * (2 * h + 1 / 1000 * h) := by
      refine i8 h2 ?_
      have := dK S (G * G - h)
      rw [bJ hS] at this
      exact gq388 hh hX this h2 th
    have tY := Rat.mul_le_mul_of_nonneg_right ht1 (show 0 <= Y / 2 by exact gq127 hY)
    have b2 : ab ((s * G - Y / 2) * (Y + (s * G - Y / 2))) <= t * (Y / 2) * (Y + 1 / 1000 * (Y / 2)) := by
      refine i8 h3 ?_
      have := dK Y (s * G - Y / 2)
      rw [ba hY] at this
      exact gq373 this h3 tY
    have b3 : ab ((S * S - (X * X + Y * Y)) / 4) <= t * (X * X + Y * Y) / 4 := gX (by exact gq248 c2 h1) (by exact gq288 c1 h1)
    have k1 := dK ((S * S - (X * X + Y * Y)) / 4) ((G * G - h) * (S + (G * G - h)))
    have k2 := dK ((S * S - (X * X + Y * Y)) / 4 + (G * G - h) * (S + (G * G - h))) (-((s * G - Y / 2) * (Y + (s * G - Y / 2))))
    rw [dA] at k2
    have e0 : (S * S - (X * X + Y * Y)) / 4 + (G * G - h) * (S + (G * G - h)) + -((s * G - Y / 2) * (Y + (s * G - Y / 2))) = (G * G - s * s - X) * (G * G) := by rw [id]; exact gq58
    rw [e0, cU, bJ G2] at k2
    -- all by t h²
    have S2 := cf Sh Sh (Rat.le_of_lt hS) (by exact gq50 hS Sh)
    have Y2 := cf YS YS hY (by exact gq51 hY YS)
    have tS := Rat.mul_le_mul_of_nonneg_left S2 (Rat.le_of_lt ht)
    have tY2 := Rat.mul_le_mul_of_nonneg_left Y2 (Rat.le_of_lt ht)
    have tN2 := Rat.mul_le_mul_of_nonneg_left NS (Rat.le_of_lt ht)
    have H2 := cf hG2 hG2 (Rat.le_of_lt hh0) (by exact gq50 hh0 hG2)
    have tH := Rat.mul_le_mul_of_nonneg_left H2 (Rat.le_of_lt ht)
    have tG := Rat.mul_pos ht (Rat.mul_pos G2 G2)
    have fin : ab (G * G - s * s - X) * (G * G) <= 10 * t * (G * G) * (G * G) := by
      have f1 : t * h * (2 * h + 1 / 1000 * h) = 2001 / 1000 * (t * (h * h)) := by exact gq184
      have f2 : t * (Y / 2) * (Y + 1 / 1000 * (Y / 2)) = 2001 / 4000 * (t * (Y * Y)) := by exact gq177
      have f3 : t * (2 * h * (2 * h)) = 4 * (t * (h * h)) := by exact gq215
      have f4 : t * (101 / 100 * S * (101 / 100 * S)) = 10201 / 10000 * (t * (S * S)) := by exact gq211
      have f5 : t * (1002 / 1000 * (G * G) * (1002 / 1000 * (G * G))) = 1004004 / 1000000 * (t * (G * G * (G * G))) := by exact gq210
      have f6 : t * (1002 / 1000 * (S * S)) = 1002 / 1000 * (t * (S * S)) := by exact gq212
      have f7 : 10 * t * (G * G) * (G * G) = 10 * (t * (G * G * (G * G))) := by exact gq158
      have f8 : t * (X * X + Y * Y) / 4 = 1 / 4 * (t * (X * X + Y * Y)) := by exact gq143
      rw [f7]
      rw [f1] at b1
      rw [f2] at b2
      rw [f3] at tS
      rw [f4] at tY2
      rw [f5] at tH
      rw [f6] at tN2
      rw [f8] at b3
      generalize t * (h * h) = z1 at *
      generalize t * (Y * Y) = z2 at *
      generalize t * (S * S) = z3 at *
      generalize t * (X * X + Y * Y) = z4 at *
      generalize t * (G * G * (G * G)) = z5 at *
      clear id e0 f1 f2 f3 f4 f5 f6 f7 f8 h1 h2 h3 tN th c1 c2 a1 a2 tY NS S2 Y2 H2
      exact gq405 k1 k2 b1 b2 tS tY2 b3 tN2 tG tH
    exact gM G2 fin
  · have e : 2 * (G * s) - Y = 2 * (s * G - Y / 2) := by exact gq254
    rw [e, cU, bJ (show (0:Rat) < 2 by decide)]
    have := Rat.mul_le_mul_of_nonneg_left YG (Rat.le_of_lt ht)
    have tG := Rat.mul_pos ht G2
    exact gq325 tG this h3

theorem iz {A B x y k : Rat} {d : Int} {r z : Cc} (hd : 4 <= d /\ d <= 6) (R1 : Rd A d r.1) (R2 : Rd B d r.2) (hk : k <= aj (-7)) (hk0 : 0 <= k)
    (h1 : ab (A * A - B * B - val z.1) <= k * (A * A + B * B)) (h2 : ab (2 * (A * B) - val z.2) <= k * (A * A + B * B)) :
    fe (bq r r) z (2 * aW r - d + 1) := by
  generalize hl : aW r = l
  have lA : r.1.1 ≠ 0 -> ak r.1 <= l := fun h => by have := fk r h; exact fq232 hl this
  have lB : r.2.1 ≠ 0 -> ak r.2 <= l := fun h => by have := fj r h; exact fq232 hl this
  have a1 := R1.prod' R1 lA lA
  have b1 := R2.prod' R2 lB lB
  have m1 := R1.prod' R2 lA lB
  have key : ∀ {u : Rat} {r : Re}, Rd u d r -> (r.1 ≠ 0 -> ak r <= l) -> u * u <= aj (l + l) := by
    intro u r R hr
    have hp := aq (l + l)
    by_cases h : r.1 = 0
    · have h1 := R.pos
      have h2 := R.neg
      have : u = 0 := by
        by_cases a : 0 < u
        · have := h1 a; lia -abstractProof
        · by_cases b : u < 0
          · have := h2 b; lia -abstractProof
          · exact gq8 h1 h2 h
      rw [this]; exact gq34 hp
    · have h1 := R.ub
      have h2 := aX (hr h)
      have h3 := cf (a := ab u) (b := aj l) (c := ab u) (d := aj l) (by exact us h1 h2) (by exact us h1 h2) (bj _) (Rat.le_of_lt (aq l))
      rw [eq, <- aM] at h3
      exact h3
  have q1 := key R1 lA
  have q2 := key R2 lB
  have t : aj (2 * l - d + 1) = 10 * aj (l + l - d) := by
    rw [bR, show 2 * l - d = l + l - d by exact fq196]; exact gq40
  have t6 : aj (-7) * aj (l + l) * 10 <= aj (l + l - d) := by
    rw [<- aM, <- bR]; exact aX (by exact fq607 hd.2)
  have p0 := aq (l + l)
  have p1 := aq (l + l - d)
  have s1 := Rat.mul_le_mul_of_nonneg_left (show A * A + B * B <= 2 * aj (l + l) by exact gq290 q1 q2) hk0
  have s2 := Rat.mul_le_mul_of_nonneg_right hk (Rat.le_of_lt p0)
  have e1 : k * (2 * aj (l + l)) = 2 * (k * aj (l + l)) := by exact gq17
  rw [e1] at s1
  generalize k * (A * A + B * B) = z1 at *
  refine ⟨d9 ?_, d9 ?_⟩
  · rw [ge, t]
    have f1 := gT a1 b1
    have f2 := ab3 (val r.1 * val r.1 - val r.2 * val r.2) (A * A - B * B) (val z.1)
    clear a1 b1 m1 q1 q2 h2 t
    exact gq391 t6 p1 s2 h1 s1 f1 f2
  · rw [gd, t]
    have e2 : val r.1 * val r.2 + val r.2 * val r.1 = 2 * (val r.1 * val r.2) := by exact gq185
    rw [e2]
    have f1 : ab (2 * (val r.1 * val r.2) - 2 * (A * B)) <= 2 * aj (l + l - d) := by
      have e3 : 2 * (val r.1 * val r.2) - 2 * (A * B) = 2 * (val r.1 * val r.2 - A * B) := by exact gq173
      rw [e3, cU, bJ (show (0:Rat) < 2 by decide)]
      exact gq233 m1
    have f2 := ab3 (2 * (val r.1 * val r.2)) (2 * (A * B)) (val z.2)
    clear a1 b1 m1 q1 q2 h1 t
    exact gq390 t6 p1 s2 h2 s1 f1 f2
end

section
noncomputable def d6 (b t f : Bool) : Bool := @Bool.rec (fun _ => Bool) f t b
theorem dF {b t f : Bool} (h : d6 b t f = true) : (b = true /\ t = true) \/ (b = false /\ f = true) := by
  cases b
  · exact .inr ⟨rfl, h⟩
  · exact .inl ⟨rfl, h⟩
theorem aH {b t : Bool} (h : d6 b t false = true) : b = true /\ t = true := by
  rcases dF h with h | h
  · exact h
  · cases h.2

theorem fG {a b : Nat} (h : Nat.beq a b = true) : a = b := Nat.eq_of_beq_eq_true h
theorem jH {a b : Nat} (h : Nat.beq a b = false) : a ≠ b := Nat.ne_of_beq_eq_false h
theorem bx {a b : Nat} (h : Nat.ble a b = true) : a <= b := Nat.le_of_ble_eq_true h
theorem fE {a b : Nat} (h : Nat.ble a b = false) : b < a := by
  rcases Nat.lt_or_ge b a with q | q
  · exact q
  · rw [Nat.ble_eq_true_of_le q] at h; cases h

/-! ## the exponential's loop -/
noncomputable def expP (fuel : Nat) : Nat -> Nat -> Nat -> Nat -> Nat -> (Nat -> Bool) -> Bool :=
  @Nat.rec (fun _ => Nat -> Nat -> Nat -> Nat -> Nat -> (Nat -> Bool) -> Bool) (fun _ _ _ _ _ _ => false)
    (fun _ ih N one ok term total cont =>
      (fun t => @Bool.rec (fun _ => Bool) (ih N one (Nat.add ok one) t (Nat.add total t) cont) (cont total) (Nat.beq t 0)) (Nat.div (Nat.mul term N) ok)) fuel

abbrev ei (n O : Int) : S3 -> S3 := fun s => ⟨s.a + s.b * n / (O * s.c), s.b * n / (O * s.c), s.c + 1⟩
abbrev gP : S3 -> Bool := fun s => decide (s.b ≠ 0)

theorem lu (N one : Nat) (cont : Nat -> Bool) : ∀ (f : Nat) (k term total : Nat), term ≠ 0 -> expP f N one (one * k) term total cont = true ->
    ∃ v : Nat, cont v = true /\ ∀ F, f + 1 <= F -> (cV gP (ei N one) F ⟨total, term, k⟩).a = v
  | 0, k, term, total, h0, h => by cases h
  | f + 1, k, term, total, h0, h => by
    have hstep : ei (N : Int) one ⟨total, term, k⟩ = ⟨((total + term * N / (one * k) : Nat) : Int), ((term * N / (one * k) : Nat) : Int), ((k + 1 : Nat) : Int)⟩ := by
      unfold ei; simp
    have hc : gP ⟨(total : Int), (term : Int), (k : Int)⟩ = true := decide_eq_true (by show (term : Int) ≠ 0; exact fq269 h0)
    have h' : @Bool.rec (fun _ => Bool) (expP f N one (one * k + one) (term * N / (one * k)) (total + term * N / (one * k)) cont) (cont total) (Nat.beq (term * N / (one * k)) 0) = true := h
    cases hb : Nat.beq (term * N / (one * k)) 0 with
    | true =>
      rw [hb] at h'
      have z := fG hb
      refine ⟨total, h', fun F hF => ?_⟩
      obtain ⟨F, rfl⟩ : ∃ F', F = F' + 1 := ⟨F - 1, by exact v6 hF⟩
      rw [cg hc, hstep, z, bZ (by rfl)]
      rfl
    | false =>
      rw [hb] at h'
      have z := jH hb
      obtain ⟨v, v1, v2⟩ := lu N one cont f (k + 1) _ _ z h'
      refine ⟨v, v1, fun F hF => ?_⟩
      obtain ⟨F, rfl⟩ : ∃ F', F = F' + 1 := ⟨F - 1, by exact v6 hF⟩
      rw [cg hc, hstep]
      exact v2 F (by exact fq278 hF)

theorem uS (x y : Nat) (hy : 0 < y) : (-(x : Int)) / (y : Int) = -(((x + y - 1) / y : Nat) : Int) := by
  have e1 := Nat.div_add_mod (x + y - 1) y
  have e2 := Nat.mod_lt (x + y - 1) hy
  have h : (-(x : Int)) / (y : Int) = -(((x + y - 1) / y : Nat) : Int) /\ (-(x : Int)) % (y : Int) = (y : Int) - 1 - ((x + y - 1) % y : Nat) := by
    rw [Int.ediv_emod_unique (by exact iQ hy)]
    generalize (x + y - 1) / y = q at *
    generalize (x + y - 1) % y = r at *
    refine ⟨?_, by exact fq873 e2, by exact fq313⟩
    have : (y : Int) * q + r = x + y - 1 := by
      have : ((y * q + r : Nat) : Int) = ((x + y - 1 : Nat) : Int) := by rw [e1]
      rw [Int.natCast_add, Int.natCast_mul] at this
      lia -abstractProof
    exact gq99 this
  exact h.1

/-- r below 0: two turns at once -/
noncomputable def expN (fuel : Nat) : Nat -> Nat -> Nat -> Nat -> Nat -> Nat -> (Nat -> Nat -> Bool) -> Bool :=
  @Nat.rec (fun _ => Nat -> Nat -> Nat -> Nat -> Nat -> Nat -> (Nat -> Nat -> Bool) -> Bool) (fun _ _ _ _ _ _ _ => false)
    (fun _ ih N one ok term plus minus cont =>
      (fun b => (fun t => @Bool.rec (fun _ => Bool) (ih N one (Nat.add (Nat.add ok one) one) t (Nat.add plus t) (Nat.add minus b) cont) (cont plus (Nat.add minus b)) (Nat.beq t 0)) (Nat.div (Nat.mul b N) (Nat.add ok one)))
        (Nat.div (Nat.sub (Nat.add (Nat.mul term N) ok) 1) ok)) fuel

theorem lv (N one : Nat) (hN : 0 < N) (ho : 0 < one) (cont : Nat -> Nat -> Bool) : ∀ (f : Nat) (k term plus minus : Nat), 0 < k -> term ≠ 0 -> expN f N one (one * k) term plus minus cont = true ->
    ∃ p m : Nat, cont p m = true /\ ∀ F, 2 * f + 1 <= F -> (cV gP (ei (-(N : Int)) one) F ⟨(plus : Int) - minus, term, k⟩).a = (p : Int) - m
  | 0, k, term, plus, minus, hk, h0, h => by cases h
  | f + 1, k, term, plus, minus, hk, h0, h => by
    have hok : 0 < one * k := Nat.mul_pos ho hk
    have h' : @Bool.rec (fun _ => Bool) (expN f N one (one * k + one + one) (((term * N + one * k - 1) / (one * k)) * N / (one * k + one)) (plus + ((term * N + one * k - 1) / (one * k)) * N / (one * k + one)) (minus + (term * N + one * k - 1) / (one * k)) cont)
      (cont plus (minus + (term * N + one * k - 1) / (one * k))) (Nat.beq (((term * N + one * k - 1) / (one * k)) * N / (one * k + one)) 0) = true := h
    have hb0 : 0 < (term * N + one * k - 1) / (one * k) := by
      apply Nat.div_pos _ hok
      have := Nat.mul_pos (Nat.pos_of_ne_zero h0) hN
      exact fq842 this
    have hs1 : ei (-(N : Int)) one ⟨(plus : Int) - minus, term, k⟩ = ⟨(plus : Int) - ((minus + (term * N + one * k - 1) / (one * k) : Nat) : Int), -(((term * N + one * k - 1) / (one * k) : Nat) : Int), ((k + 1 : Nat) : Int)⟩ := by
      have e : (term : Int) * (-(N : Int)) / ((one : Int) * k) = -(((term * N + one * k - 1) / (one * k) : Nat) : Int) := by
        rw [<- uS _ _ hok]
        congr 1
        · rw [Int.natCast_mul]; exact gq90
      unfold ei
      simp only [e]
      congr 1
      exact fq333
    generalize hb : (term * N + one * k - 1) / (one * k) = b at *
    have hs2 : ei (-(N : Int)) one ⟨(plus : Int) - ((minus + b : Nat) : Int), -(b : Int), ((k + 1 : Nat) : Int)⟩ = ⟨((plus + b * N / (one * k + one) : Nat) : Int) - ((minus + b : Nat) : Int), ((b * N / (one * k + one) : Nat) : Int), ((k + 1 + 1 : Nat) : Int)⟩ := by
      have e : (-(b : Int)) * (-(N : Int)) / ((one : Int) * ((k + 1 : Nat) : Int)) = ((b * N / (one * k + one) : Nat) : Int) := by
        rw [Int.natCast_ediv, Int.natCast_mul]
        have e1 : (-(b : Int)) * (-(N : Int)) = b * N := by exact gq87
        have e2 : (one : Int) * ((k + 1 : Nat) : Int) = ((one * k + one : Nat) : Int) := by push_cast; exact gq93
        rw [e1, e2]
      unfold ei
      simp only [e]
      congr 1
      exact fq332
    have hc1 : gP ⟨(plus : Int) - minus, (term : Int), (k : Int)⟩ = true := decide_eq_true (by show (term : Int) ≠ 0; exact fq269 h0)
    have hc2 : gP ⟨(plus : Int) - ((minus + b : Nat) : Int), -(b : Int), ((k + 1 : Nat) : Int)⟩ = true := decide_eq_true (by show (-(b : Int)) ≠ 0; exact fq739 hb0)
    cases hz : Nat.beq (b * N / (one * k + one)) 0 with
    | true =>
      rw [hz] at h'
      have z := fG hz
      refine ⟨plus, minus + b, h', fun F hF => ?_⟩
      obtain ⟨F, rfl⟩ : ∃ F', F = F' + 1 + 1 := ⟨F - 2, by exact fq270 hF⟩
      rw [cg hc1, hs1, cg hc2, hs2, z, bZ (by rfl)]
      rfl
    | false =>
      rw [hz] at h'
      have z := jH hz
      have ek : one * k + one + one = one * (k + 1 + 1) := by exact gq101
      rw [ek] at h'
      obtain ⟨p, m, v1, v2⟩ := lv N one hN ho cont f (k + 1 + 1) _ _ _ (by exact fq732) z h'
      refine ⟨p, m, v1, fun F hF => ?_⟩
      obtain ⟨F, rfl⟩ : ∃ F', F = F' + 1 + 1 := ⟨F - 2, by exact fq270 hF⟩
      rw [cg hc1, hs1, cg hc2, hs2]
      exact v2 F (by exact fq832 hF)

/-! ## the logarithm's sum -/
noncomputable def logL (fuel : Nat) : Nat -> Nat -> Nat -> Nat -> Nat -> (Nat -> Bool) -> Bool :=
  @Nat.rec (fun _ => Nat -> Nat -> Nat -> Nat -> Nat -> (Nat -> Bool) -> Bool) (fun _ _ _ _ _ _ => false)
    (fun _ ih sq one term total n cont =>
      @Bool.rec (fun _ => Bool) (ih sq one (Nat.div (Nat.mul term sq) one) (Nat.add total (Nat.div term n)) (Nat.add n 2) cont) (cont total) (Nat.beq term 0)) fuel
abbrev kE (sq O : Int) : S3 -> S3 := fun s => ⟨s.a * sq / O, s.b + s.a / s.c, s.c + 2⟩
abbrev m8 : S3 -> Bool := fun s => decide (0 < s.a)
theorem ja (sq one : Nat) (cont : Nat -> Bool) : ∀ (f : Nat) (term total n : Nat), logL f sq one term total n cont = true ->
    ∃ v : Nat, cont v = true /\ ∀ F, f <= F -> (cV m8 (kE sq one) F ⟨term, total, n⟩).b = v
  | 0, term, total, n, h => by cases h
  | f + 1, term, total, n, h => by
    have hstep : kE (sq : Int) one ⟨term, total, n⟩ = ⟨((term * sq / one : Nat) : Int), ((total + term / n : Nat) : Int), ((n + 2 : Nat) : Int)⟩ := by
      unfold kE; simp
    have h' : @Bool.rec (fun _ => Bool) (logL f sq one (term * sq / one) (total + term / n) (n + 2) cont) (cont total) (Nat.beq term 0) = true := h
    cases hb : Nat.beq term 0 with
    | true =>
      rw [hb] at h'
      have z := fG hb
      refine ⟨total, h', fun F hF => ?_⟩
      rw [z, bZ (by rfl)]
    | false =>
      rw [hb] at h'
      have z := jH hb
      have hc : m8 ⟨(term : Int), (total : Int), (n : Int)⟩ = true := decide_eq_true (by show (0:Int) < term; exact vL z)
      obtain ⟨v, v1, v2⟩ := ja sq one cont f _ _ _ h'
      refine ⟨v, v1, fun F hF => ?_⟩
      obtain ⟨F, rfl⟩ : ∃ F', F = F' + 1 := ⟨F - 1, by exact v6 hF⟩
      rw [cg hc, hstep]
      exact v2 F (by exact fq278 hF)

/-! ## the waves' loop: two turns at once -/
noncomputable def oW (fuel : Nat) : Nat -> Nat -> Nat -> Nat -> Nat -> Nat -> (Nat -> Nat -> Bool) -> Bool :=
  @Nat.rec (fun _ => Nat -> Nat -> Nat -> Nat -> Nat -> Nat -> (Nat -> Nat -> Bool) -> Bool) (fun _ _ _ _ _ _ _ => false)
    (fun _ ih sq one k term plus minus cont =>
      @Bool.rec (fun _ => Bool)
        ((fun t => @Bool.rec (fun _ => Bool)
          (ih sq one (Nat.add k 4) (Nat.div (Nat.mul t sq) (Nat.mul one (Nat.mul (Nat.add k 3) (Nat.add k 4)))) (Nat.add plus term) (Nat.add minus t) cont)
          (cont (Nat.add plus term) minus) (Nat.beq t 0)) (Nat.div (Nat.mul term sq) (Nat.mul one (Nat.mul (Nat.add k 1) (Nat.add k 2)))))
        (cont plus minus) (Nat.beq term 0)) fuel
abbrev jf (sq O : Int) : S4 -> S4 := fun s => ⟨s.a * sq / (O * (s.d + 1) * (s.d + 2)), s.b + s.c * s.a, -s.c, s.d + 2⟩
abbrev fh : S4 -> Bool := fun s => decide (0 < s.a)
theorem hJ (sq one k term : Nat) (T σ : Int) : jf (sq : Int) one ⟨term, T, σ, k⟩ = ⟨((term * sq / (one * ((k + 1) * (k + 2))) : Nat) : Int), T + σ * term, -σ, ((k + 2 : Nat) : Int)⟩ := by
  have e : (term : Int) * sq / ((one : Int) * ((k : Int) + 1) * ((k : Int) + 2)) = ((term * sq / (one * ((k + 1) * (k + 2))) : Nat) : Int) := by
    rw [Int.natCast_ediv, Int.natCast_mul, Int.natCast_mul, Int.natCast_mul]
    congr 1
    push_cast
    exact gq88
  unfold jf
  simp only [e]
  congr 1
theorem iX (sq one : Nat) (cont : Nat -> Nat -> Bool) : ∀ (f : Nat) (k term plus minus : Nat), oW f sq one k term plus minus cont = true ->
    ∃ p m : Nat, cont p m = true /\ ∀ F, 2 * f <= F -> ∀ T σ : Int, (cV fh (jf sq one) F ⟨term, T + σ * ((plus : Int) - minus), σ, k⟩).b = T + σ * ((p : Int) - m)
  | 0, k, term, plus, minus, h => by cases h
  | f + 1, k, term, plus, minus, h => by
    have h' : @Bool.rec (fun _ => Bool)
        (@Bool.rec (fun _ => Bool)
          (oW f sq one (k + 4) (term * sq / (one * ((k + 1) * (k + 2))) * sq / (one * ((k + 3) * (k + 4)))) (plus + term) (minus + term * sq / (one * ((k + 1) * (k + 2)))) cont)
          (cont (plus + term) minus) (Nat.beq (term * sq / (one * ((k + 1) * (k + 2)))) 0))
        (cont plus minus) (Nat.beq term 0) = true := h
    cases hb : Nat.beq term 0 with
    | true =>
      rw [hb] at h'
      have z := fG hb
      refine ⟨plus, minus, h', fun F hF T σ => ?_⟩
      rw [z, bZ (by rfl)]
    | false =>
      rw [hb] at h'
      have z := jH hb
      have hc : ∀ T σ : Int, fh ⟨(term : Int), T, σ, (k : Int)⟩ = true := fun T σ => decide_eq_true (by show (0:Int) < term; exact vL z)
      cases hb2 : Nat.beq (term * sq / (one * ((k + 1) * (k + 2)))) 0 with
      | true =>
        rw [hb2] at h'
        have z2 := fG hb2
        refine ⟨plus + term, minus, h', fun F hF T σ => ?_⟩
        obtain ⟨F, rfl⟩ : ∃ F', F = F' + 1 := ⟨F - 1, by exact fq275 hF⟩
        rw [cg (hc _ _), hJ, z2, bZ (by rfl)]
        show T + σ * ((plus : Int) - minus) + σ * term = T + σ * (((plus + term : Nat) : Int) - minus)
        rw [Int.natCast_add]; exact gq28
      | false =>
        rw [hb2] at h'
        have z2 := jH hb2
        obtain ⟨p, m, v1, v2⟩ := iX sq one cont f _ _ _ _ h'
        refine ⟨p, m, v1, fun F hF T σ => ?_⟩
        obtain ⟨F, rfl⟩ : ∃ F', F = F' + 1 + 1 := ⟨F - 2, by exact fq274 hF⟩
        rw [cg (hc _ _), hJ]
        generalize term * sq / (one * ((k + 1) * (k + 2))) = t at *
        have hc2 : ∀ T σ : Int, fh ⟨(t : Int), T, σ, ((k + 2 : Nat) : Int)⟩ = true := fun T σ => decide_eq_true (by show (0:Int) < t; exact vL z2)
        rw [cg (hc2 _ _), hJ]
        have := v2 F (by exact fq273 hF) T σ
        have e1 : T + σ * ((plus : Int) - minus) + σ * term + -σ * t = T + σ * (((plus + term : Nat) : Int) - ((minus + t : Nat) : Int)) := by
          rw [Int.natCast_add, Int.natCast_add]; exact gq29
        rw [e1, Int.neg_neg]
        exact this

/-! ## the arc's sum: two turns at once -/
noncomputable def arcL (fuel : Nat) : Nat -> Nat -> Nat -> Nat -> Nat -> Nat -> (Nat -> Nat -> Bool) -> Bool :=
  @Nat.rec (fun _ => Nat -> Nat -> Nat -> Nat -> Nat -> Nat -> (Nat -> Nat -> Bool) -> Bool) (fun _ _ _ _ _ _ _ => false)
    (fun _ ih sq one n t plus minus cont =>
      @Bool.rec (fun _ => Bool)
        ((fun u => @Bool.rec (fun _ => Bool)
          (ih sq one (Nat.add n 4) (Nat.div (Nat.mul u sq) one) (Nat.add plus (Nat.div t n)) (Nat.add minus (Nat.div u (Nat.add n 2))) cont)
          (cont (Nat.add plus (Nat.div t n)) minus) (Nat.beq u 0)) (Nat.div (Nat.mul t sq) one))
        (cont plus minus) (Nat.beq t 0)) fuel
abbrev kG (sq O : Int) : S4 -> S4 := fun s => ⟨s.a * sq / O, s.b + s.c * (s.a / s.d), -s.c, s.d + 2⟩
theorem ip (sq one n t : Nat) (T σ : Int) : kG (sq : Int) one ⟨t, T, σ, n⟩ = ⟨((t * sq / one : Nat) : Int), T + σ * ((t / n : Nat) : Int), -σ, ((n + 2 : Nat) : Int)⟩ := by
  unfold kG
  simp
theorem lF (sq one : Nat) (cont : Nat -> Nat -> Bool) : ∀ (f : Nat) (n t plus minus : Nat), arcL f sq one n t plus minus cont = true ->
    ∃ p m : Nat, cont p m = true /\ ∀ F, 2 * f <= F -> ∀ T σ : Int, (cV fh (kG sq one) F ⟨t, T + σ * ((plus : Int) - minus), σ, n⟩).b = T + σ * ((p : Int) - m)
  | 0, n, t, plus, minus, h => by cases h
  | f + 1, n, t, plus, minus, h => by
    have h' : @Bool.rec (fun _ => Bool)
        (@Bool.rec (fun _ => Bool)
          (arcL f sq one (n + 4) (t * sq / one * sq / one) (plus + t / n) (minus + t * sq / one / (n + 2)) cont)
          (cont (plus + t / n) minus) (Nat.beq (t * sq / one) 0))
        (cont plus minus) (Nat.beq t 0) = true := h
    cases hb : Nat.beq t 0 with
    | true =>
      rw [hb] at h'
      have z := fG hb
      refine ⟨plus, minus, h', fun F hF T σ => ?_⟩
      rw [z, bZ (by rfl)]
    | false =>
      rw [hb] at h'
      have z := jH hb
      have hc : ∀ T σ : Int, fh ⟨(t : Int), T, σ, (n : Int)⟩ = true := fun T σ => decide_eq_true (by show (0:Int) < t; exact vL z)
      cases hb2 : Nat.beq (t * sq / one) 0 with
      | true =>
        rw [hb2] at h'
        have z2 := fG hb2
        refine ⟨plus + t / n, minus, h', fun F hF T σ => ?_⟩
        obtain ⟨F, rfl⟩ : ∃ F', F = F' + 1 := ⟨F - 1, by exact fq275 hF⟩
        rw [cg (hc _ _), ip, z2, bZ (by rfl)]
        show T + σ * ((plus : Int) - minus) + σ * ((t / n : Nat) : Int) = T + σ * (((plus + t / n : Nat) : Int) - minus)
        rw [Int.natCast_add]; exact gq28
      | false =>
        rw [hb2] at h'
        have z2 := jH hb2
        obtain ⟨p, m, v1, v2⟩ := lF sq one cont f _ _ _ _ h'
        refine ⟨p, m, v1, fun F hF T σ => ?_⟩
        obtain ⟨F, rfl⟩ : ∃ F', F = F' + 1 + 1 := ⟨F - 2, by exact fq274 hF⟩
        rw [cg (hc _ _), ip]
        generalize t * sq / one = u at *
        have hc2 : ∀ T σ : Int, fh ⟨(u : Int), T, σ, ((n + 2 : Nat) : Int)⟩ = true := fun T σ => decide_eq_true (by show (0:Int) < u; exact vL z2)
        rw [cg (hc2 _ _), ip]
        have := v2 F (by exact fq273 hF) T σ
        have e1 : T + σ * ((plus : Int) - minus) + σ * ((t / n : Nat) : Int) + -σ * ((u / (n + 2) : Nat) : Int) = T + σ * (((plus + t / n : Nat) : Int) - ((minus + u / (n + 2) : Nat) : Int)) := by
          rw [Int.natCast_add, Int.natCast_add]; exact gq29
        rw [e1, Int.neg_neg]
        exact this
end

section
/-! ## the number of digits -/
noncomputable def ndL (fuel : Nat) : Nat -> Nat -> (Nat -> Bool) -> Bool :=
  @Nat.rec (fun _ => Nat -> Nat -> (Nat -> Bool) -> Bool) (fun _ _ _ => false)
    (fun _ ih c n cont => @Bool.rec (fun _ => Bool) (ih (Nat.sub c 1) n cont) (cont c) (Nat.ble (Nat.pow 10 (Nat.sub c 1)) n)) fuel
/-- h: no fewer digits than these -/
noncomputable def ndC (h n : Nat) (cont : Nat -> Bool) : Bool := @Bool.rec (fun _ => Bool) (ndL 60 h n cont) false (Nat.ble (Nat.pow 10 h) n)
theorem ml {n : Nat} {cont : Nat -> Bool} : ∀ (f c : Nat), n < 10 ^ c -> ndL f c n cont = true -> ∃ c' : Nat, 1 <= c' /\ nd (n : Int) = c' /\ cont c' = true /\ 10 ^ (c' - 1) <= n /\ n < 10 ^ c' /\ c' <= c
  | 0, c, hc, h => by cases h
  | f + 1, c, hc, h => by
    have h' : @Bool.rec (fun _ => Bool) (ndL f (c - 1) n cont) (cont c) (Nat.ble (10 ^ (c - 1)) n) = true := h
    cases hb : Nat.ble (10 ^ (c - 1)) n with
    | true =>
      rw [hb] at h'
      have a := bx hb
      have c0 : 1 <= c := by
        rcases Nat.eq_zero_or_pos c with q | q
        · subst q; have : n < 1 := hc; have : 1 <= n := a; lia -abstractProof
        · exact q
      exact ⟨c, c0, nd_eq c0 (by simpa using a) (by simpa using hc), h', a, hc, Nat.le_refl _⟩
    | false =>
      rw [hb] at h'
      obtain ⟨c', a, b, e, g, i, j⟩ := ml f (c - 1) (fE hb) h'
      exact ⟨c', a, b, e, g, i, by exact fq887 j⟩
theorem d4 {h n : Nat} {cont : Nat -> Bool} (hh : ndC h n cont = true) : ∃ c : Nat, 1 <= c /\ nd (n : Int) = c /\ cont c = true /\ 10 ^ (c - 1) <= n /\ n < 10 ^ c /\ c <= h := by
  have h' : @Bool.rec (fun _ => Bool) (ndL 60 h n cont) false (Nat.ble (10 ^ h) n) = true := hh
  cases hb : Nat.ble (10 ^ h) n with
  | true => rw [hb] at h'; cases h'
  | false => rw [hb] at h'; exact ml 60 h (fE hb) h'

/-! ## stripping zeros -/
noncomputable def iY (fuel : Nat) : Nat -> Nat -> (Nat -> Nat -> Bool) -> Bool :=
  @Nat.rec (fun _ => Nat -> Nat -> (Nat -> Nat -> Bool) -> Bool) (fun _ _ _ => false)
    (fun _ ih q j cont => @Bool.rec (fun _ => Bool) (cont q j) (ih (Nat.div q 10) (Nat.add j 1) cont) (Nat.beq (Nat.mod q 10) 0)) fuel
theorem gD {cont : Nat -> Nat -> Bool} : ∀ (f q j : Nat), q ≠ 0 -> iY f q j cont = true -> ∃ q' i : Nat, cont q' (j + i) = true /\ q = q' * 10 ^ i /\ q' % 10 ≠ 0
  | 0, q, j, h0, h => by cases h
  | f + 1, q, j, h0, h => by
    have h' : @Bool.rec (fun _ => Bool) (cont q j) (iY f (q / 10) (j + 1) cont) (Nat.beq (q % 10) 0) = true := h
    cases hb : Nat.beq (q % 10) 0 with
    | true =>
      rw [hb] at h'
      have z := fG hb
      obtain ⟨q', i, a, b, c⟩ := gD f (q / 10) (j + 1) (by exact fq772 z h0) h'
      refine ⟨q', i + 1, by rw [show j + (i + 1) = j + 1 + i by exact fq854]; exact a, ?_, c⟩
      rw [Nat.pow_succ, <- Nat.mul_assoc, <- b]; exact fq771 z
    | false =>
      rw [hb] at h'
      exact ⟨q, 0, h', by simp, jH hb⟩

theorem fg {m a : Int} {k : Nat} (h : m = a * 10 ^ k) (ha : a % 10 ≠ 0) (e : Int) : cA m e = (a, e + k) := by
  have a0 : a ≠ 0 := fun h0 => ha (by rw [h0]; rfl)
  have hm : m ≠ 0 := by
    rw [h]; exact Int.mul_ne_zero a0 (Int.ne_of_gt (Int.pow_pos (by decide)))
  obtain ⟨l, s1, s2, s3, s4⟩ := dW hm e
  generalize cA m e = r at *
  have key : ∀ {x y : Int} {p q : Nat}, x * 10 ^ p = y * 10 ^ (p + q) -> x % 10 ≠ 0 -> q = 0 := by
    intro x y p q hxy hx
    rcases Nat.eq_zero_or_pos q with h0 | h0
    · exact h0
    · exfalso
      obtain ⟨q', rfl⟩ : ∃ q', q = q' + 1 := ⟨q - 1, by exact fq738 h0⟩
      have hp : (10:Int) ^ p ≠ 0 := Int.ne_of_gt (Int.pow_pos (by decide))
      have : x = y * 10 ^ (q' + 1) := by
        apply Int.eq_of_mul_eq_mul_right hp
        rw [hxy, Int.pow_add, Int.mul_assoc, Int.mul_comm (10 ^ p)]
      rw [Int.pow_succ, <- Int.mul_assoc] at this
      exact fq598 this hx
  have hlk : l = k := by
    rcases Nat.lt_or_ge l k with q | q
    · have := key (x := r.1) (y := a) (p := l) (q := k - l) (by rw [s1, h]; congr 2; exact fq876 q) s3
      exact fq860 this q
    · have := key (x := a) (y := r.1) (p := k) (q := l - k) (by rw [<- h, <- s1]; congr 2; exact fq894 q) ha
      exact fq861 this q
  subst hlk
  have hp : (10:Int) ^ l ≠ 0 := Int.ne_of_gt (Int.pow_pos (by decide))
  have : r.1 = a := Int.eq_of_mul_eq_mul_right hp (by rw [s1, h])
  exact Prod.ext this s2

theorem lZ {m : Int} (e : Int) : cA (-m) e = (-(cA m e).1, (cA m e).2) := by
  by_cases h : m = 0
  · subst h; rfl
  · obtain ⟨k, s1, s2, s3, s4⟩ := dW h e
    rw [fg (a := -(cA m e).1) (k := k) (by rw [Int.neg_mul, s1]) (by exact fq179 s3) e, s2]

theorem gV {m : Int} (h : m ≠ 0) (e d : Int) : ai (-m) e d = (-(ai m e d).1, (ai m e d).2) := by
  unfold ai
  simp only []
  rw [fw, Int.natAbs_neg]
  cases decide (0 < nd m - d) with
  | false => exact lZ e
  | true =>
    simp only [cond_true]
    rw [<- lZ]
    congr 1
    by_cases hm : 0 < m
    · rw [decide_eq_true hm, decide_eq_false (show ¬ 0 < -m by exact fq391 hm)]; rfl
    · rw [decide_eq_false hm, decide_eq_true (show 0 < -m by exact fq489 hm h)]; simp

theorem bX {m : Int} (e d top : Int) (hd : 0 <= d) : af (-m) e d top = ah (af m e d top) := by
  by_cases h : m = 0
  · subst h
    rw [Int.neg_zero, aL _ _ _ hd]; rfl
  · unfold af
    rw [gV h]
    simp only []
    rw [fw]
    have e1 : decide (-(ai m e d).1 = 0) = decide ((ai m e d).1 = 0) := by
      by_cases q : (ai m e d).1 = 0
      · rw [decide_eq_true q, decide_eq_true (by exact fq58 q)]
      · rw [decide_eq_false q, decide_eq_false (by exact oB q)]
    rw [e1]
    cases decide ((ai m e d).1 = 0) || decide ((ai m e d).2 + nd (ai m e d).1 - 1 < -top) <;> rfl

/-! ## rounding -/
noncomputable def nQ (h n d : Nat) (cont : Nat -> Nat -> Bool) : Bool :=
  ndC h n fun c => d6 (Nat.ble c d) (iY 20 n 0 cont)
    ((fun dr => (fun pw => (fun q => (fun r2 =>
      d6 (Nat.ble r2 pw) (d6 (Nat.beq r2 pw) (iY 20 (Nat.add q (Nat.mod q 2)) dr cont) (iY 20 q dr cont)) (iY 20 (Nat.add q 1) dr cont)) (Nat.mul 2 (Nat.mod n pw))) (Nat.div n pw)) (Nat.pow 10 dr)) (Nat.sub c d))

theorem eB {hi n d : Nat} {cont : Nat -> Nat -> Bool} (hd : 1 <= d) (h : nQ hi n d cont = true) : ∃ q j : Nat, cont q j = true /\ 0 < q /\ 0 < n /\ ∀ e : Int, ai n e d = ((q : Int), e + j) := by
  obtain ⟨c, c1, hnd, h, lo, hup, -⟩ := d4 h
  have n0 : 0 < n := Nat.lt_of_lt_of_le (Nat.pow_pos (by decide)) lo
  rcases dF h with ⟨h1, h2⟩ | ⟨h1, h2⟩
  · have hcd := bx h1
    obtain ⟨q, i, k1, k2, k3⟩ := gD 20 n 0 (by exact fq66 n0) h2
    rw [Nat.zero_add] at k1
    refine ⟨q, i, k1, by exact fq267 k3, n0, fun e => ?_⟩
    unfold ai
    simp only []
    rw [decide_eq_false (by exact fq338 hnd hcd), cond_false]
    exact fg (by rw [k2]; push_cast; rfl) (by exact fq268 k3) e
  · have hcd := fE h1
    simp only at h2
    obtain ⟨dr, hdr⟩ : ∃ dr, dr = c - d := ⟨_, rfl⟩
    have hdr' : Nat.sub c d = dr := hdr.symm
    rw [hdr'] at h2
    have en : nd (n : Int) - (d : Int) = (dr : Int) := by exact fq340 hnd hcd hdr
    -- what is kept
    have core := iZ (n := (n : Int)) (D := d) (dr := dr) (by exact iQ n0) (by exact fq655 en) hd (by exact fq908 hcd hdr)
    simp only at core
    have goal : ∀ (K : Nat), K ≠ 0 -> (bif decide ((10:Int) ^ dr < 2 * ((n : Int) % 10 ^ dr)) || (decide (2 * ((n : Int) % 10 ^ dr) = 10 ^ dr) && decide (((n : Int) / 10 ^ dr) % 2 = 1)) then (n : Int) / 10 ^ dr + 1 else (n : Int) / 10 ^ dr) = (K : Int) ->
        iY 20 K dr cont = true -> ∃ q j : Nat, cont q j = true /\ 0 < q /\ 0 < n /\ ∀ e : Int, ai n e d = ((q : Int), e + j) := by
      intro K K0 hK hs
      obtain ⟨q, i, k1, k2, k3⟩ := gD 20 K dr K0 hs
      refine ⟨q, dr + i, k1, by exact fq267 k3, n0, fun e => ?_⟩
      unfold ai
      rw [en]
      simp only []
      rw [decide_eq_true (show (0:Int) < (dr : Int) by exact fq907 hcd hdr), decide_eq_true (show (0:Int) < (n : Int) by exact iQ n0)]
      have et : ((dr : Int)).toNat = dr := rfl
      have ea : (((n : Int).natAbs : Nat) : Int) = n := by exact fq714
      rw [et, ea]
      simp only [cond_true]
      rw [hK]
      have := fg (m := (K : Int)) (a := q) (k := i) (by rw [k2]; push_cast; rfl) (by exact fq268 k3) (e + dr)
      rw [this]
      congr 1
      push_cast; exact fq632
    have ep : ((10 ^ dr : Nat) : Int) = (10:Int) ^ dr := by push_cast; rfl
    have hq : (n : Int) / 10 ^ dr = ((n / 10 ^ dr : Nat) : Int) := by rw [<- ep]; rfl
    have hr : (n : Int) % 10 ^ dr = ((n % 10 ^ dr : Nat) : Int) := by rw [<- ep]; rfl
    rw [hq, hr, <- ep] at core goal
    have hpw : Nat.pow 10 dr = 10 ^ dr := rfl
    have hdv : Nat.div n (10 ^ dr) = n / 10 ^ dr := rfl
    have hmd : Nat.mod n (10 ^ dr) = n % 10 ^ dr := rfl
    rw [hpw, hdv, hmd] at h2
    have hge : 0 < n / 10 ^ dr := by
      apply Nat.div_pos _ (Nat.pow_pos (by decide))
      exact Nat.le_trans (Nat.pow_le_pow_right (by decide) (by exact fq902 hd hdr)) lo
    generalize n / 10 ^ dr = Q at *
    generalize n % 10 ^ dr = R at *
    generalize 10 ^ dr = W at *
    have hmul : Nat.mul 2 R = 2 * R := rfl
    rw [hmul] at h2
    rcases dF h2 with ⟨g1, g2⟩ | ⟨g1, g2⟩
    · have l1 := bx g1
      rcases dF g2 with ⟨g3, g4⟩ | ⟨g3, g4⟩
      · have l2 := fG g3
        have hm : Nat.add Q (Nat.mod Q 2) = Q + Q % 2 := rfl
        rw [hm] at g4
        refine goal (Q + Q % 2) (by exact fq843 hge) ?_ g4
        rw [decide_eq_false (by exact fq847 l2), Bool.false_or, decide_eq_true (by exact fq846 l2), Bool.true_and]
        by_cases ho : (Q : Int) % 2 = 1
        · rw [decide_eq_true ho, cond_true]; exact fq726 ho
        · rw [decide_eq_false ho, cond_false]; exact fq821 ho
      · have l2 := jH g3
        refine goal Q (by exact fq66 hge) ?_ g4
        rw [decide_eq_false (by exact fq848 l1), Bool.false_or, decide_eq_false (by exact fq896 l2), Bool.false_and, cond_false]
    · have l1 := fE g1
      refine goal (Q + 1) (by exact fq825) ?_ g2
      rw [decide_eq_true (by exact fq863 l1), Bool.true_or, cond_true]
      push_cast; rfl

/-! ## the whole root -/
noncomputable def rk (fuel : Nat) : Nat -> Nat -> (Nat -> Bool) -> Bool :=
  @Nat.rec (fun _ => Nat -> Nat -> (Nat -> Bool) -> Bool) (fun _ _ _ => false)
    (fun _ ih n h cont => (fun g => @Bool.rec (fun _ => Bool) (ih n g cont) (d6 (Nat.ble (Nat.mul h h) n) (d6 (Nat.ble (Nat.mul (Nat.add h 1) (Nat.add h 1)) n) false (cont h)) false) (Nat.ble h g)) (Nat.div (Nat.add h (Nat.div n h)) 2)) fuel
theorem nc {n h : Nat} (h1 : h * h <= n) (h2 : n < (h + 1) * (h + 1)) : b7 n = h := by
  have a := iJ n
  have b := iI n
  have e : b7 (n : Int) = (cW n : Int) := rfl
  rw [e]
  generalize cW n = r at *
  have : r = h := by
    rcases Nat.lt_trichotomy r h with q | q | q
    · have := Nat.mul_le_mul (show r + 1 <= h from q) (show r + 1 <= h from q); exact fq73 b this h1
    · exact q
    · have := Nat.mul_le_mul (show h + 1 <= r from q) (show h + 1 <= r from q); exact fq73 h2 this a
  rw [this]
theorem ii {n : Nat} {cont : Nat -> Bool} : ∀ (f h : Nat), rk f n h cont = true -> ∃ r : Nat, b7 n = r /\ cont r = true
  | 0, h, hh => by cases hh
  | f + 1, h, hh => by
    have h' : @Bool.rec (fun _ => Bool) (rk f n ((h + n / h) / 2) cont) (d6 (Nat.ble (h * h) n) (d6 (Nat.ble ((h + 1) * (h + 1)) n) false (cont h)) false) (Nat.ble h ((h + n / h) / 2)) = true := hh
    cases hb : Nat.ble h ((h + n / h) / 2) with
    | true =>
      rw [hb] at h'
      obtain ⟨a, b⟩ := aH h'
      rcases dF b with ⟨c, d⟩ | ⟨c, d⟩
      · cases d
      · exact ⟨h, nc (bx a) (fE c), d⟩
    | false =>
      rw [hb] at h'
      exact ii f _ h'
end

section
/-- exp of a cr number n, laid up by 20 of ten's logs -/
noncomputable def tF (one T n2 : Nat) (cont : Nat -> Nat -> Bool) : Bool :=
  (fun k => (fun B =>
    @Bool.rec (fun _ => Bool)
      (expN 60 (Nat.sub B n2) one one one one 0 (fun p m => @Bool.rec (fun _ => Bool) false (cont (Nat.sub p m) k) (Nat.ble m p)))
      (expP 90 (Nat.sub n2 B) one one one one (fun f => cont f k))
      (Nat.ble B n2)) (Nat.mul k T)) (Nat.div (Nat.add (Nat.mul 2 n2) T) (Nat.mul 2 T))

theorem mA {k : Nat} (h : k <= 1000) : k <= FU := Nat.le_trans h (Nat.le_of_ble_eq_true (by unfold FU; rfl))

/-- what tF finds -/
theorem jc {P one T n2 : Nat} {n : Int} {cont : Nat -> Nat -> Bool} (h1 : one = 10 ^ P) (hT : aY P = T) (hT0 : 0 < T) (hn : n + 20 * T = n2) (h : tF one T n2 cont = true) :
    ∃ f k : Nat, cont f k = true /\ (2 * n + aY P) / (2 * aY P) = (k : Int) - 20 /\ eV (n - ((k : Int) - 20) * aY P) P = f := by
  have ho : 0 < one := by rw [h1]; exact Nat.pow_pos (by decide)
  unfold tF at h
  simp only at h
  obtain ⟨k, hk⟩ : ∃ k, k = (2 * n2 + T) / (2 * T) := ⟨_, rfl⟩
  have hk' : Nat.div (Nat.add (Nat.mul 2 n2) T) (Nat.mul 2 T) = k := hk.symm
  rw [hk'] at h
  have e1 : (2 * n + aY P) / (2 * aY P) = (k : Int) - 20 := by
    rw [hT]
    have : (2 * n2 + T : Int) / (2 * T) = (k : Int) := by rw [hk]; push_cast; rfl
    rw [<- hn] at this
    have e2 : 2 * (n + 20 * (T : Int)) + T = 2 * n + T + 20 * (2 * T) := by exact fq542
    rw [e2, Int.add_mul_ediv_right _ _ (show (2 * (T : Int)) ≠ 0 by exact fq252 hT0)] at this
    exact fq585 this
  have hO : (10 : Int) ^ ((P : Int)).toNat = (one : Int) := by rw [h1]; push_cast; rfl
  have hone : one * 1 = one := Nat.mul_one _
  cases hb : Nat.ble (Nat.mul k T) n2 with
  | true =>
    rw [hb] at h
    have hle : k * T <= n2 := bx hb
    have h' : expP 90 (n2 - k * T) one (one * 1) one one (fun f => cont f k) = true := by rw [hone]; exact h
    obtain ⟨v, v1, v2⟩ := lu _ _ _ 90 1 one one (by exact fq66 ho) h'
    refine ⟨v, k, v1, e1, ?_⟩
    have := v2 FU (mA (by decide))
    have en : n - ((k : Int) - 20) * aY P = ((n2 - k * T : Nat) : Int) := by
      rw [hT, Int.natCast_sub hle, Int.natCast_mul, <- hn]; exact gq97
    rw [en]
    unfold eV
    rw [hO]
    exact this
  | false =>
    rw [hb] at h
    have hle : n2 < k * T := fE hb
    have h' : expN 60 (k * T - n2) one (one * 1) one one 0 (fun p m => @Bool.rec (fun _ => Bool) false (cont (Nat.sub p m) k) (Nat.ble m p)) = true := by rw [hone]; exact h
    obtain ⟨p, m, v1, v2⟩ := lv _ _ (by exact fq872 hle) ho _ 60 1 one one 0 (by decide) (by exact fq66 ho) h'
    cases hb2 : Nat.ble m p with
    | false => rw [hb2] at v1; cases v1
    | true =>
      rw [hb2] at v1
      have hmp := bx hb2
      refine ⟨p - m, k, v1, e1, ?_⟩
      have := v2 FU (mA (by decide))
      have en : n - ((k : Int) - 20) * aY P = -((k * T - n2 : Nat) : Int) := by
        rw [hT, Int.natCast_sub (by exact fq282 hle), Int.natCast_mul, <- hn]; exact gq96
      rw [en]
      unfold eV
      rw [hO]
      have z : (one : Int) - ((0 : Nat) : Int) = one := by simp
      rw [z] at this
      rw [Int.natCast_sub hmp]
      exact this

/-- sine and cosine of a cr number, laid up by whole turns; each told as a difference -/
noncomputable def qT (neg : Bool) (q : Nat) (cont : Nat -> Nat -> Nat -> Nat -> Bool) (sp sm cp cm : Nat) : Bool :=
  (fun cont1 => (fun turn => @Nat.rec (fun _ => Bool) (cont1 sp sm cp cm)
    (fun t1 _ => @Nat.rec (fun _ => Bool) (cont cp cm (@Bool.rec (fun _ => Nat) sm sp neg) (@Bool.rec (fun _ => Nat) sp sm neg))
      (fun t2 _ => @Nat.rec (fun _ => Bool) (cont (@Bool.rec (fun _ => Nat) sm sp neg) (@Bool.rec (fun _ => Nat) sp sm neg) cm cp) (fun _ _ => cont cm cp (@Bool.rec (fun _ => Nat) sp sm neg) (@Bool.rec (fun _ => Nat) sm sp neg)) t2) t1) turn) (Nat.mod q 4))
    (fun a b c d => cont (@Bool.rec (fun _ => Nat) a b neg) (@Bool.rec (fun _ => Nat) b a neg) c d)
noncomputable def waveD (one q : Nat) (cont : Nat -> Nat -> Nat -> Nat -> Bool) (neg : Bool) (r : Nat) : Bool :=
  (fun sq => oW 40 sq one 1 r 0 0 (fun sp sm => oW 40 sq one 0 one 0 0 (qT neg q cont sp sm))) (Nat.div (Nat.mul r r) one)
noncomputable def mC (nn B : Nat) (neg : Bool) : Nat := @Bool.rec (fun _ => Nat) (Nat.div (Nat.sub nn B) 2) (Nat.div (Nat.add (Nat.sub B nn) 1) 2) neg
noncomputable def lW (one pi n2 : Nat) (cont : Nat -> Nat -> Nat -> Nat -> Bool) : Bool :=
  (fun q => (fun B => (fun neg => waveD one q cont neg (mC (Nat.mul 2 n2) B neg)) (Nat.blt (Nat.mul 2 n2) B)) (Nat.mul q pi))
    (Nat.div (Nat.add (Nat.mul 4 n2) pi) (Nat.mul 2 pi))

theorem wavF (P : Nat) (r : Int) (one ra : Nat) (h1 : one = 10 ^ P) (hr : r.natAbs = ra) {cont : Nat -> Nat -> Bool} (h : oW 40 (ra * ra / one) one 1 ra 0 0 cont = true) :
    ∃ p m : Nat, cont p m = true /\ dw r P 1 = (bif decide (r < 0) then -1 else 1) * ((p : Int) - m) := by
  obtain ⟨p, m, a, b⟩ := iX _ _ _ 40 1 ra 0 0 h
  refine ⟨p, m, a, ?_⟩
  have hO : (10 : Int) ^ ((P : Int)).toNat = (one : Int) := by rw [h1]; push_cast; rfl
  have hsq : r * r / (one : Int) = ((ra * ra / one : Nat) : Int) := by
    rw [<- hr]; push_cast
    rw [Int.natAbs_mul_self']
  have := b FU (mA (by decide)) 0 (bif decide (r < 0) then -1 else 1)
  have e0 : dw r P 1 = (cV fh (jf (r * r / 10 ^ ((P : Int)).toNat) (10 ^ ((P : Int)).toNat)) FU ⟨(r.natAbs : Int), 0, bif decide (r < 0) then -1 else 1, 1⟩).b := rfl
  rw [e0, hO, hsq, hr]
  have z : (0 : Int) + (bif decide (r < 0) then -1 else 1) * (((0 : Nat) : Int) - ((0 : Nat) : Int)) = 0 := by cases decide (r < 0) <;> rfl
  rw [z] at this
  have e4 : ((1 : Nat) : Int) = 1 := rfl
  rw [e4] at this
  rw [this]; exact fq383
theorem wavF0 (P : Nat) (r : Int) (one ra : Nat) (h1 : one = 10 ^ P) (hr : r.natAbs = ra) {cont : Nat -> Nat -> Bool} (h : oW 40 (ra * ra / one) one 0 one 0 0 cont = true) :
    ∃ p m : Nat, cont p m = true /\ dw r P 0 = (p : Int) - m := by
  obtain ⟨p, m, a, b⟩ := iX _ _ _ 40 0 one 0 0 h
  refine ⟨p, m, a, ?_⟩
  have hO : (10 : Int) ^ ((P : Int)).toNat = (one : Int) := by rw [h1]; push_cast; rfl
  have hsq : r * r / (one : Int) = ((ra * ra / one : Nat) : Int) := by
    rw [<- hr]; push_cast
    rw [Int.natAbs_mul_self']
  have := b FU (mA (by decide)) 0 1
  have e0 : dw r P 0 = (cV fh (jf (r * r / 10 ^ ((P : Int)).toNat) (10 ^ ((P : Int)).toNat)) FU ⟨10 ^ ((P : Int)).toNat, 0, 1, 0⟩).b := rfl
  rw [e0, hO, hsq]
  have z : (0 : Int) + 1 * (((0 : Nat) : Int) - ((0 : Nat) : Int)) = 0 := rfl
  rw [z] at this
  have e4 : ((0 : Nat) : Int) = 0 := rfl
  rw [e4] at this
  rw [this]; exact fq382

/-- what a wave is, by the cr number -/
noncomputable def g9 (n : Int) (P : Int) : Int := (4 * n + aI P) / (2 * aI P)
noncomputable def gB (n : Int) (P : Int) : Int := (2 * n - g9 n P * aI P) / 2
noncomputable def jM (n P ahead : Int) : Int :=
  let turn := (g9 n P + ahead) % 4
  let value := dw (gB n P) P (1 - turn % 2)
  bif decide (2 <= turn) then -value else value
theorem ir (x : Re) (d a : Int) : bV x d a = jM (cr x (ac x d)) (ac x d) a := rfl

theorem uz {P pi n2 q : Nat} {n j : Int} (hpi : aI P = pi) (hpi0 : 0 < pi) (hn : n + 2 * j * pi = n2) (hq : q = (4 * n2 + pi) / (2 * pi)) : g9 n P = (q : Int) - 4 * j := by
  unfold g9
  rw [hpi]
  have : (4 * n2 + pi : Int) / (2 * pi) = (q : Int) := by rw [hq]; push_cast; rfl
  rw [<- hn] at this
  have e2 : 4 * (n + 2 * j * (pi : Int)) + pi = 4 * n + pi + (4 * j) * (2 * pi) := by exact gq95
  rw [e2, Int.add_mul_ediv_right _ _ (show (2 * (pi : Int)) ≠ 0 by exact fq252 hpi0)] at this
  exact fq652 this

theorem uw {P pi n2 q : Nat} {n j : Int} (hpi : aI P = pi) (hn : n + 2 * j * pi = n2) (eQ : g9 n P = (q : Int) - 4 * j) :
    (gB n P).natAbs = mC (2 * n2) (q * pi) (Nat.blt (2 * n2) (q * pi)) /\ decide (gB n P < 0) = Nat.blt (2 * n2) (q * pi) := by
  have eR : gB n P = (2 * (n2 : Int) - ((q * pi : Nat) : Int)) / 2 := by
    unfold gB
    rw [eQ, hpi, <- hn, Int.natCast_mul]
    congr 1
    exact gq98
  rw [eR]
  generalize q * pi = B
  cases hneg : Nat.blt (2 * n2) B with
  | false =>
    have hle : B <= 2 * n2 := fq867 (fE (show Nat.ble (2 * n2 + 1) B = false from hneg))
    exact ⟨fq911 rfl hle, decide_eq_false (by exact fq883 hle)⟩
  | true =>
    have hle : 2 * n2 < B := v7 (bx (show Nat.ble (2 * n2 + 1) B = true from hneg))
    exact ⟨fq903 hle rfl, decide_eq_true (by exact fq845 hle)⟩

theorem nK {P q sp sm cp cm : Nat} {n j : Int} {neg : Bool} {cont : Nat -> Nat -> Nat -> Nat -> Bool} (eQ : g9 n P = (q : Int) - 4 * j) (hC : qT neg q cont sp sm cp cm = true)
    (vS : dw (gB n P) P 1 = (bif neg then -1 else 1) * ((sp : Int) - sm)) (vC : dw (gB n P) P 0 = (cp : Int) - cm) :
    ∃ sp sm cp cm : Nat, cont sp sm cp cm = true /\ jM n P 0 = (sp : Int) - sm /\ jM n P 1 = (cp : Int) - cm := by
  have t0 : (g9 n P + 0) % 4 = ((q % 4 : Nat) : Int) := by rw [eQ]; exact fq304
  have t1 : (g9 n P + 1) % 4 = (((q % 4 + 1) % 4 : Nat) : Int) := by rw [eQ]; exact fq305
  unfold qT at hC
  have hm4 : Nat.mod q 4 = q % 4 := rfl
  rw [hm4] at hC
  have lt4 : q % 4 < 4 := Nat.mod_lt _ (by decide)
  unfold jM
  simp only []
  rw [t0, t1]
  generalize q % 4 = t at *
  have cases4 : t = 0 \/ t = 1 \/ t = 2 \/ t = 3 := by exact fq320 t0
  have i0 : (1 : Int) - ((0 : Nat) : Int) % 2 = 1 := rfl
  have i1 : (1 : Int) - ((1 : Nat) : Int) % 2 = 0 := rfl
  have i2 : (1 : Int) - ((2 : Nat) : Int) % 2 = 1 := rfl
  have i3 : (1 : Int) - ((3 : Nat) : Int) % 2 = 0 := rfl
  have d0 : decide ((2 : Int) <= ((0 : Nat) : Int)) = false := rfl
  have d1 : decide ((2 : Int) <= ((1 : Nat) : Int)) = false := rfl
  have d2 : decide ((2 : Int) <= ((2 : Nat) : Int)) = true := rfl
  have d3 : decide ((2 : Int) <= ((3 : Nat) : Int)) = true := rfl
  rcases cases4 with rfl | rfl | rfl | rfl
  · rw [show (0 + 1) % 4 = 1 from rfl, i0, i1, d0, d1, vS, vC]
    refine ⟨_, _, _, _, hC, ?_, ?_⟩ <;> cases neg <;> simp only [cond_true, cond_false] <;> (first | exact fq143 | exact fq187)
  · rw [show (1 + 1) % 4 = 2 from rfl, i1, i2, d1, d2, vS, vC]
    refine ⟨_, _, _, _, hC, ?_, ?_⟩ <;> cases neg <;> simp only [cond_true, cond_false] <;> (first | exact fq186 | exact fq129)
  · rw [show (2 + 1) % 4 = 3 from rfl, i2, i3, d2, d3, vS, vC]
    refine ⟨_, _, _, _, hC, ?_, ?_⟩ <;> cases neg <;> simp only [cond_true, cond_false] <;> (first | exact fq186 | exact fq129 | exact fq92)
  · rw [show (3 + 1) % 4 = 0 from rfl, i3, i0, d3, d0, vS, vC]
    refine ⟨_, _, _, _, hC, ?_, ?_⟩ <;> cases neg <;> simp only [cond_true, cond_false] <;> (first | exact fq92 | exact fq143 | exact fq187)

theorem fL {P one pi n2 : Nat} {n : Int} {j : Int} {cont : Nat -> Nat -> Nat -> Nat -> Bool} (h1 : one = 10 ^ P) (hpi : aI P = pi) (hpi0 : 0 < pi) (hn : n + 2 * j * pi = n2) (h : lW one pi n2 cont = true) :
    ∃ sp sm cp cm : Nat, cont sp sm cp cm = true /\ jM n P 0 = (sp : Int) - sm /\ jM n P 1 = (cp : Int) - cm := by
  obtain ⟨q, hq⟩ : ∃ q, q = (4 * n2 + pi) / (2 * pi) := ⟨_, rfl⟩
  have eQ := uz hpi hpi0 hn hq
  obtain ⟨r1, r2⟩ := uw hpi hn eQ
  have h : waveD one q cont (Nat.blt (2 * n2) (q * pi)) (mC (2 * n2) (q * pi) (Nat.blt (2 * n2) (q * pi))) = true := by rw [hq]; exact h
  generalize mC (2 * n2) (q * pi) (Nat.blt (2 * n2) (q * pi)) = r at *
  generalize Nat.blt (2 * n2) (q * pi) = neg at *
  obtain ⟨sp, sm, hS, vS⟩ := wavF P (gB n P) one r h1 r1 (cont := fun sp sm => oW 40 (r * r / one) one 0 one 0 0 (qT neg q cont sp sm)) h
  obtain ⟨cp, cm, hC, vC⟩ := wavF0 P (gB n P) one _ h1 r1 hS
  rw [r2] at vS
  exact nK eQ hC vS vC
end

section
noncomputable def cO (P : Nat) : Nat := Nat.div 23025850929940456840179914546843642076011014886 (Nat.pow 10 (Nat.sub 46 P))
noncomputable def eY (P : Nat) : Nat := Nat.div 31415926535897932384626433832795028841971693993 (Nat.pow 10 (Nat.sub 46 P))

/-- the exponential of a told logarithm, against the square of the distance -/
noncomputable def u4 (d a0 b0 P2 n2 : Nat) : Bool :=
  tF (Nat.pow 10 P2) (cO P2) n2 (fun f k =>
    (fun a => (fun b => (fun w => d6 (Nat.ble (Nat.mul a w) (Nat.mul b (Nat.add w 3))) (d6 (Nat.ble (Nat.mul b w) (Nat.add (Nat.mul a w) (Nat.mul b 3))) (d6 (Nat.ble k 40) (Nat.ble f (Nat.pow 10 (Nat.add P2 1))) false) false) false) (Nat.pow 10 (Nat.sub d 1))) (Nat.mul a0 (Nat.pow 10 (Nat.add b0 (Nat.add 36 (Nat.mul 2 P2)))))) (Nat.mul (Nat.mul f f) (Nat.pow 10 (Nat.mul 2 k))))

/-- a found logarithm A (its sign: neg), rounded twice, and its exponential -/
noncomputable def lg (d m eo P A : Nat) (neg : Bool) : Bool :=
  d6 (Nat.ble A (Nat.pow 10 (Nat.add P 2)))
    (nQ (Nat.add P 3) A (Nat.add d 10) fun M j => nQ (Nat.add d 12) (Nat.mul 5 M) d fun q i => ndC d q fun cq =>
      (fun ji => (fun L1 => (fun P2 => d6 (Nat.ble (Nat.add P 1) (Nat.add ji P2))
        ((fun n => (fun t20 => d6 (Nat.ble n t20)
          (d6 (Nat.ble L1 1) (d6 (Nat.ble (Nat.add P 1) (Nat.add (Nat.add cq ji) 10))
            (u4 d m eo P2 (@Bool.rec (fun _ => Nat) (Nat.add t20 n) (Nat.sub t20 n) neg)) false) false) false)
          (Nat.mul 20 (cO P2))) (Nat.mul q (Nat.pow 10 (Nat.sub (Nat.add ji P2) (Nat.add P 1))))) false)
        (Nat.add (Nat.add (Nat.mul 2 d) 30) L1)) (Nat.sub (Nat.add cq ji) (Nat.add P 1))) (Nat.add j i)) false

noncomputable def m6 (d m eo P U W : Nat) : Bool :=
  d6 (Nat.blt W U) (lg d m eo P (Nat.sub U W) false)
    (d6 (Nat.blt U W) (lg d m eo P (Nat.sub W U) true) (Nat.beq (Nat.mul m (Nat.pow 10 eo)) 10000))

noncomputable def jy (d m eo size P : Nat) : Bool :=
  (fun one => (fun T => (fun near =>
    d6 (Nat.blt m near)
      ((fun term => logL 120 (Nat.div (Nat.mul term term) one) one term 0 1 (fun total => m6 d m eo P (Nat.mul (Nat.add eo size) T) (Nat.add (Nat.mul 5 T) (Nat.mul 2 total)))) (Nat.div (Nat.mul (Nat.sub near m) one) (Nat.add m near)))
      ((fun term => logL 120 (Nat.div (Nat.mul term term) one) one term 0 1 (fun total => m6 d m eo P (Nat.add (Nat.mul (Nat.add eo size) T) (Nat.mul 2 total)) (Nat.mul 5 T))) (Nat.div (Nat.mul (Nat.sub m near) one) (Nat.add m near))))
    (Nat.pow 10 (Nat.sub size 1))) (cO P)) (Nat.pow 10 P)

/-- the logarithm of m * 10 ^ (eo - 4) and its exponential -/
noncomputable def j3 (d m eo : Nat) : Bool :=
  ndC 12 m fun c => (fun P => d6 (Nat.ble P 46) (@Bool.rec (fun _ => Bool) (jy d m eo c P) (jy d m eo (Nat.add c 1) P) (Nat.blt (Nat.pow 10 (Nat.sub (Nat.mul 2 c) 1)) (Nat.mul m m))) false)
    (Nat.add (Nat.add (Nat.mul 2 d) 30) (Nat.sub (Nat.add c eo) 4))

/-- sine and cosine point where they ought to -/
noncomputable def f9 (d one X Y sp sm cp cm : Nat) : Bool :=
  (fun U => (fun V => (fun w => (fun tol =>
    d6 (Nat.ble (Nat.mul U w) (Nat.add (Nat.mul V w) tol)) (d6 (Nat.ble (Nat.mul V w) (Nat.add (Nat.mul U w) tol))
      (Nat.ble (Nat.add (Nat.mul cm X) (Nat.mul sm Y)) (Nat.add (Nat.mul cp X) (Nat.mul sp Y))) false) false)
    (Nat.mul one (Nat.add X Y))) (Nat.pow 10 (Nat.sub d 1))) (Nat.add (Nat.mul sm X) (Nat.mul cp Y))) (Nat.add (Nat.mul sp X) (Nat.mul cm Y))

/-- the squares make one -/
noncomputable def iD (one sp sm cp cm : Nat) : Bool :=
  (fun A => (fun B => (fun C => d6 (Nat.ble (Nat.mul A 10000000000) (Nat.add (Nat.mul B 10000000000) C)) (Nat.ble (Nat.mul B 10000000000) (Nat.add (Nat.mul A 10000000000) C)) false) (Nat.mul one one))
    (Nat.add (Nat.add (Nat.mul 2 (Nat.mul sp sm)) (Nat.mul 2 (Nat.mul cp cm))) (Nat.mul one one)))
    (Nat.add (Nat.add (Nat.mul sp sp) (Nat.mul sm sm)) (Nat.add (Nat.mul cp cp) (Nat.mul cm cm)))

noncomputable def angD (d one X Y : Nat) (flip : Bool) (sp sm cp cm : Nat) : Bool := @Bool.rec (fun _ => Bool) (f9 d one X Y sp sm cp cm) (f9 d one X Y sp sm cm cp) flip
noncomputable def angB (d one X Y : Nat) (flip : Bool) (sp sm cp cm : Nat) : Bool := d6 (iD one sp sm cp cm) (angD d one X Y flip sm sp cp cm) false
noncomputable def angA (d one pi n X Y : Nat) (flip : Bool) (sp sm cp cm : Nat) : Bool :=
  d6 (iD one sp sm cp cm) (d6 (angD d one X Y flip sp sm cp cm) (lW one pi (Nat.sub (Nat.mul 2 pi) n) (angB d one X Y flip)) false) false
noncomputable def angGo (d one pi X Y : Nat) (flip : Bool) (n : Nat) : Bool := lW one pi (Nat.add (Nat.mul 2 pi) n) (angA d one pi n X Y flip)
noncomputable def angC (P q ji cq L1 P2 : Nat) : Bool :=
  d6 (Nat.ble P (Nat.add ji P2)) (d6 (Nat.ble (Nat.mul q (Nat.pow 10 (Nat.sub (Nat.add ji P2) P))) (Nat.mul 2 (eY P2))) (d6 (Nat.ble L1 1) (Nat.ble P (Nat.add (Nat.add cq ji) 10)) false) false) false
noncomputable def angM (d P X Y : Nat) (flip : Bool) (q ji cq L1 P2 : Nat) : Bool :=
  d6 (angC P q ji cq L1 P2) (angGo d (Nat.pow 10 P2) (eY P2) X Y flip (Nat.mul q (Nat.pow 10 (Nat.sub (Nat.add ji P2) P)))) false
noncomputable def angK (d P X Y : Nat) (flip : Bool) (q j i cq : Nat) : Bool :=
  (fun ji => (fun L1 => angM d P X Y flip q ji cq L1 (Nat.add (Nat.add (Nat.mul 2 d) 30) L1)) (Nat.sub (Nat.add cq ji) P)) (Nat.add j i)
/-- a found angle (scaled by 10 ^ P), rounded twice; its waves and those of its negative -/
noncomputable def jI (d P al X Y : Nat) (flip : Bool) : Bool :=
  d6 (Nat.ble al (Nat.pow 10 (Nat.add P 1)))
    (nQ (Nat.add P 2) al (Nat.add d 10) fun M j => nQ (Nat.add d 10) M d fun q i => ndC d q (angK d P X Y flip q j i)) false

noncomputable def arcC (one t : Nat) (cont : Nat -> Bool) : Bool :=
  (fun oo => rk 60 (Nat.add oo (Nat.mul t t)) (Nat.add (Nat.add one 1) (Nat.div (Nat.mul t t) (Nat.mul 2 one))) fun r1 =>
    (fun u1 => rk 60 (Nat.add oo (Nat.mul u1 u1)) (Nat.add (Nat.add one 1) (Nat.div (Nat.mul u1 u1) (Nat.mul 2 one))) fun r2 =>
      (fun u => arcL 60 (Nat.div (Nat.mul u u) one) one 1 u 0 0 fun p m => d6 (Nat.ble m p) (cont (Nat.mul 4 (Nat.sub p m))) false) (Nat.div (Nat.mul u1 one) (Nat.add one r2)))
      (Nat.div (Nat.mul t one) (Nat.add one r1))) (Nat.mul one one)

noncomputable def kH (d P al X Y : Nat) : Bool := d6 (Nat.ble al (eY P)) (d6 (jI d P al X Y false) (jI d P (Nat.sub (eY P) al) X Y true) false) false

/-- the angle of (x, y), x = mx * 10 ^ (ox - 2), y = my * 10 ^ (oy - 2), and of (-x, y) -/
noncomputable def gR (d mx ox my oy : Nat) : Bool :=
  ndC 2 mx fun cx => ndC 2 my fun cy => (fun P => d6 (Nat.ble P 46) ((fun one => (fun a => (fun b =>
    @Bool.rec (fun _ => Bool)
      (arcC one (Nat.div (Nat.mul b one) a) fun al => (fun h => d6 (Nat.ble al h) (kH d P (Nat.sub h al) b a) false) (Nat.div (eY P) 2))
      (arcC one (Nat.div (Nat.mul a one) b) fun al => kH d P al b a)
      (Nat.ble a b)) (Nat.mul mx (Nat.pow 10 (Nat.sub ox oy)))) (Nat.mul my (Nat.pow 10 (Nat.sub oy ox)))) (Nat.pow 10 P)) false)
    (Nat.add (Nat.add (Nat.mul 2 d) 30) (Nat.sub (Nat.add cx ox) (Nat.add cy oy)))
end

section
noncomputable def qW (P : Nat) : Bool := decide (aY P = cO P) && decide (aI P = eY P) && decide (0 < cO P) && decide (5 * cO P <= 12 * 10 ^ P) && decide (0 < eY P) && decide (5 * eY P <= 16 * 10 ^ P)
theorem tabA : (List.range' 24 3).all qW = true := by decide +kernel
theorem tabB : (List.range' 38 9).all qW = true := by decide +kernel
structure Tab (P : Nat) : Prop where
  ten : aY P = cO P
  pi : aI P = eY P
  t0 : 0 < cO P
  t1 : 5 * cO P <= 12 * 10 ^ P
  p0 : 0 < eY P
  p1 : 5 * eY P <= 16 * 10 ^ P
theorem uE {P : Nat} (h : qW P = true) : Tab P := by
  unfold qW at h
  simp only [Bool.and_eq_true, decide_eq_true_eq] at h
  obtain ⟨⟨⟨⟨⟨a, b⟩, c⟩, d⟩, e⟩, f⟩ := h
  exact ⟨a, b, c, d, e, f⟩
theorem tab {P : Nat} (h1 : 38 <= P) (h2 : P <= 46) : Tab P := by
  have := List.all_eq_true.mp tabB P (by simp [List.mem_range']; exact ⟨P - 38, by exact fq816 h2, by exact fq765 h1⟩)
  exact uE this
theorem tab2 {P : Nat} (h1 : 24 <= P) (h2 : P <= 26) : Tab P := by
  have := List.all_eq_true.mp tabA P (by simp [List.mem_range']; exact ⟨P - 24, by exact fq806 h2, by exact fq763 h1⟩)
  exact uE this
end

section
noncomputable def sg (neg : Bool) (x : Int) : Int := bif neg then -x else x
theorem l6 (neg : Bool) (x : Int) : nd (sg neg x) = nd x := by cases neg; rfl; exact fw x
theorem qY {neg : Bool} {x : Int} (h : x ≠ 0) : sg neg x ≠ 0 := by
  cases neg
  · exact h
  · show -x ≠ 0; exact oB h
theorem l5 {m : Int} (neg : Bool) (e d top : Int) (hd : 0 <= d) : af (sg neg m) e d top = (sg neg (af m e d top).1, (af m e d top).2) := by
  cases neg
  · rfl
  · exact bX e d top hd
theorem o7 (neg : Bool) (x y : Int) : sg neg x * y = sg neg (x * y) := by cases neg; rfl; exact Int.neg_mul x y
theorem ix (neg : Bool) (x : Int) : (sg neg x).natAbs = x.natAbs := by cases neg; rfl; exact Int.natAbs_neg x

/-- a value found by nQ: what af gives -/
theorem gi {n d q j : Nat} {e top : Int} (hd : 1 <= d) (n0 : 0 < n) (he : -top <= e) (hq : ∀ e : Int, ai n e d = ((q : Int), e + j)) : af n e d top = ((q : Int), e + j) := by
  have := cG (m := (n : Int)) (by exact lm n0)
  rw [qZ (by exact lm n0) (by exact fq255 hd) (by exact fq645 this he), hq]

/-- a cr number, where the exponent is not below the places -/
theorem fB {m e P : Int} (h : 0 <= e + P) : cr (m, e) P = m * 10 ^ (e + P).toNat := by
  unfold cr
  show (bif decide (0 <= e + P) then m * 10 ^ (e + P).toNat else _) = _
  rw [decide_eq_true h, cond_true]

/-- the exponential is within the walk's reach at t -/
structure ExpF (t : Re) (D : Int) : Prop where
  P : ∃ P : Nat, ac t D = P /\ 38 <= P /\ P <= 46
  f0 : 0 <= ds t D
  fb : (ds t D).natAbs < 10 ^ 100
  k : -20 <= dz t D /\ dz t D <= 20

theorem m7 {d a0 b0 P2 n2 : Nat} {n : Int} (T : Tab P2) (hn : n + 20 * (cO P2 : Int) = n2) (h : u4 d a0 b0 P2 n2 = true) :
    ∃ f k : Nat, (2 * n + aY P2) / (2 * aY P2) = (k : Int) - 20 /\ eV (n - ((k : Int) - 20) * aY P2) P2 = f /\ k <= 40 /\ f <= 10 ^ (P2 + 1) /\
      f * f * 10 ^ (2 * k) * 10 ^ (d - 1) <= a0 * 10 ^ (b0 + (36 + 2 * P2)) * (10 ^ (d - 1) + 3) /\ a0 * 10 ^ (b0 + (36 + 2 * P2)) * 10 ^ (d - 1) <= f * f * 10 ^ (2 * k) * 10 ^ (d - 1) + a0 * 10 ^ (b0 + (36 + 2 * P2)) * 3 := by
  obtain ⟨f, k, h1, h2, h3⟩ := jc (one := 10 ^ P2) rfl T.ten T.t0 hn h
  obtain ⟨a, b⟩ := aH h1
  obtain ⟨b, c⟩ := aH b
  obtain ⟨c, e⟩ := aH c
  exact ⟨f, k, h2, h3, bx c, bx e, bx a, bx b⟩

theorem mp_div {a b : Rat} {e : Int} : a * aj e = b -> a = b * aj (-e) := by
  intro h
  rw [<- h, Rat.mul_assoc, p10_neg, Rat.mul_one]

/-- the told logarithm -/
noncomputable def dP (s : Re) (d : Int) : Re := af (cE (dB s (d + 10) 496)).1 (cE (dB s (d + 10) 496)).2 d 99
noncomputable def j0 (s : Re) (D : Int) : Int := (s.2 + aV s.1 - 1) * aY (ac s D) + mY s D

structure LogF (d : Int) (s : Re) : Prop where
  P : ∃ P : Nat, ac s (d + 10) = P /\ 38 <= P /\ P <= 46 /\ (j0 s (d + 10)).natAbs <= 10 ^ (P + 2)
  t : dP s d = (0, 0) \/ ((dP s d).1 ≠ 0 /\ nd (dP s d).1 <= d /\ -10 <= ak (dP s d) /\ ak (dP s d) <= 1)
  e : (dP s d).1 ≠ 0 -> ExpF (dP s d) (d + 10)
  near : ab (val (aQ (dP s d) (d + 10) 496) * val (aQ (dP s d) (d + 10) 496) - val s) <= 4 * aj (1 - d) * val s

/-- the square before rounding -/
theorem uG {f k m eo P2 d : Nat} (hd : 4 <= d) (i1 : f * f * 10 ^ (2 * k) * 10 ^ (d - 1) <= m * 10 ^ (eo + (36 + 2 * P2)) * (10 ^ (d - 1) + 3))
    (i2 : m * 10 ^ (eo + (36 + 2 * P2)) * 10 ^ (d - 1) <= f * f * 10 ^ (2 * k) * 10 ^ (d - 1) + m * 10 ^ (eo + (36 + 2 * P2)) * 3) :
    ab (((f : Int) : Rat) * aj ((k : Int) - 20 - P2) * (((f : Int) : Rat) * aj ((k : Int) - 20 - P2)) - val ((m : Int), (eo : Int) - 4)) <= 3 * aj (1 - (d : Int)) * val ((m : Int), (eo : Int) - 4) := by
  have g1 : ((f : Int) : Rat) * aj ((k : Int) - 20 - P2) * (((f : Int) : Rat) * aj ((k : Int) - 20 - P2)) = ((f * f * 10 ^ (2 * k) : Nat) : Rat) * aj (-40 - 2 * P2) := by
    have : aj ((k : Int) - 20 - P2) * aj ((k : Int) - 20 - P2) = ((10 ^ (2 * k) : Nat) : Rat) * aj (-40 - 2 * P2) := by
      rw [<- c7, <- aM, <- aM]; congr 1; push_cast; exact fq519
    rw [Rat.natCast_mul, Rat.natCast_mul, Rat.mul_assoc (((f : Nat) : Rat) * ((f : Nat) : Rat)), <- this]
    have c : (((f : Int)) : Rat) = ((f : Nat) : Rat) := rfl
    rw [c]
    generalize aj ((k : Int) - 20 - P2) = w
    generalize ((f : Nat) : Rat) = x
    exact gq49
  have g2 : val ((m : Int), (eo : Int) - 4) = ((m * 10 ^ (eo + (36 + 2 * P2)) : Nat) : Rat) * aj (-40 - 2 * P2) := by
    show ((m : Int) : Rat) * aj ((eo : Int) - 4) = _
    have : aj ((eo : Int) - 4) = ((10 ^ (eo + (36 + 2 * P2)) : Nat) : Rat) * aj (-40 - 2 * P2) := by
      rw [<- c7, <- aM]; congr 1; push_cast; exact fq586
    rw [this, Rat.natCast_mul, Rat.mul_assoc]
    rfl
  have g3 : aj (1 - (d : Int)) * ((10 ^ (d - 1) : Nat) : Rat) = 1 := by
    rw [<- c7, <- aM, <- gl]; congr 1; exact fq767 hd
  rw [g1, g2]
  have w0 := aq (-40 - 2 * (P2 : Int))
  have t0 := aq (1 - (d : Int))
  clear g1 g2
  generalize aj (-40 - 2 * (P2 : Int)) = w at *
  generalize aj (1 - (d : Int)) = t at *
  generalize f * f * 10 ^ (2 * k) = a at *
  generalize m * 10 ^ (eo + (36 + 2 * P2)) = b at *
  generalize 10 ^ (d - 1) = W at *
  have j1 : (a : Rat) * W <= b * (W + 3) := by exact_mod_cast i1
  have j2 : (b : Rat) * W <= a * W + b * 3 := by exact_mod_cast i2
  generalize (a : Rat) = a at *
  generalize (b : Rat) = b at *
  generalize (W : Rat) = W at *
  have tw := Rat.mul_pos t0 w0
  have m1 := Rat.mul_le_mul_of_nonneg_right j1 (Rat.le_of_lt tw)
  have m2 := Rat.mul_le_mul_of_nonneg_right j2 (Rat.le_of_lt tw)
  have x1 : a * W * (t * w) = a * w := by
    have : a * W * (t * w) = a * w * (t * W) := by exact gq12
    rw [this, g3, Rat.mul_one]
  have x2 : b * (W + 3) * (t * w) = b * w + 3 * t * (b * w) := by
    have : b * (W + 3) * (t * w) = b * w * (t * W) + 3 * t * (b * w) := by exact gq312
    rw [this, g3, Rat.mul_one]
  have x3 : b * W * (t * w) = b * w := by
    have : b * W * (t * w) = b * w * (t * W) := by exact gq12
    rw [this, g3, Rat.mul_one]
  have x4 : (a * W + b * 3) * (t * w) = a * w + 3 * t * (b * w) := by
    have : (a * W + b * 3) * (t * w) = a * w * (t * W) + 3 * t * (b * w) := by exact gq357
    rw [this, g3, Rat.mul_one]
  rw [x1, x2] at m1
  rw [x3, x4] at m2
  clear x1 x2 x3 x4 g3 j1 j2 i1 i2
  exact gX (by exact gq286 m2) (by exact gq287 m1)

theorem uH {u s : Rat} {d : Int} {r : Re} (hd : 4 <= d) (R : Rd u (d + 10) r) (u0 : 0 < u) (hs : 0 < s) (nr : ab (u * u - s) <= 3 * aj (1 - d) * s) : ab (val r * val r - s) <= 4 * aj (1 - d) * s := by
  have rel := R.rel
  rw [bJ u0] at rel
  have t1 : aj (1 - (d + 10)) <= aj (1 - d) * aj (-3) := by rw [<- aM]; exact aX (by exact fq411)
  have t3 : aj (-3) * 1000 = 1 := bA 3
  have t0 := aq (1 - d)
  have tt0 := aq (1 - (d + 10))
  have th := aX (show 1 - d <= -3 by exact fq151 hd)
  have ru0 := cz.mpr (R.pos u0)
  generalize aj (1 - d) = t at *
  generalize aj (1 - (d + 10)) = t' at *
  generalize val r = v at *
  clear R
  have p3 : aj (-3) = 1 / 1000 := by exact gq41 t3
  rw [p3] at t1 th
  have tu := Rat.mul_le_mul_of_nonneg_right (show t' <= 1 / 2 by exact gq230 th t1) (Rat.le_of_lt u0)
  have ru : v <= 5 / 4 * u := by have := cR (v - u); exact gq66 rel tu this
  have pe := js (a := v) (a0 := u) (b := v) (b0 := u) (ea := t' * u / 2) (eb := t' * u / 2) (A := 5 / 4 * u) (B := u) (by exact gq5 rel) (by exact gq5 rel) (by rw [bJ ru0]; exact ru) (by rw [bJ u0]; exact gq4)
  have ts := Rat.mul_le_mul_of_nonneg_right th (Rat.le_of_lt hs)
  have y5 : 3 * t * s = 3 * (t * s) := by exact gq174
  rw [y5] at nr
  have uu : u * u <= 2 * s := by have := cR (u * u - s); exact gq326 hs this nr ts
  have tuu := Rat.mul_le_mul_of_nonneg_left uu (Rat.le_of_lt tt0)
  have tts := Rat.mul_le_mul_of_nonneg_right t1 (Rat.le_of_lt hs)
  have ts0 := Rat.mul_pos t0 hs
  have q3 := ab3 (v * v) (u * u) s
  have y1 : 5 / 4 * u * (t' * u / 2) + t' * u / 2 * u = 9 / 8 * (t' * (u * u)) := by exact gq156
  have y2 : t' * (2 * s) = 2 * (t' * s) := by exact gq17
  have y3 : t * (1 / 1000) * s = 1 / 1000 * (t * s) := by exact gq176
  have y4 : 4 * t * s = 4 * (t * s) := by exact gq16
  rw [y1] at pe
  rw [y2] at tuu
  rw [y3] at tts
  rw [y4]
  clear rel y1 y2 y3 y4 y5 tu ts uu ru t1 t3 p3 th
  exact gq385 nr pe tuu tts ts0 q3

set_option maxHeartbeats 1000000 in
theorem jz {d m eo P A : Nat} {neg : Bool} (hd : 4 <= d /\ d <= 6) (hm : 0 < m) (hP : P <= 46) (hV : j0 ((m : Int), (eo : Int) - 4) ((d : Int) + 10) = sg neg A) (hp : ac ((m : Int), (eo : Int) - 4) ((d : Int) + 10) = P)
    (h : lg d m eo P A neg = true) : A <= 10 ^ (P + 2) /\ LogF d ((m : Int), (eo : Int) - 4) := by
  obtain ⟨hA, h⟩ := aH h
  have hA' : A <= 10 ^ (P + 2) := bx hA
  refine ⟨hA', ?_⟩
  obtain ⟨M, j, h, M0, A0, hM⟩ := eB (show 1 <= d + 10 by exact ow) h
  obtain ⟨q, i, h, q0, M50, hq⟩ := eB (show 1 <= d by exact pk hd.1) h
  obtain ⟨cq, cq1, hcq, h, clo, chi, cqd⟩ := d4 h
  simp only at h
  obtain ⟨ji, hji⟩ : ∃ ji, ji = j + i := ⟨_, rfl⟩
  have e1 : Nat.add j i = ji := hji.symm
  rw [e1] at h
  obtain ⟨L1, hL1⟩ : ∃ L1, L1 = cq + ji - (P + 1) := ⟨_, rfl⟩
  have e2 : Nat.sub (Nat.add cq ji) (Nat.add P 1) = L1 := hL1.symm
  rw [e2] at h
  obtain ⟨P2, hP2⟩ : ∃ P2, P2 = 2 * d + 30 + L1 := ⟨_, rfl⟩
  have e3 : Nat.add (Nat.add (Nat.mul 2 d) 30) L1 = P2 := hP2.symm
  rw [e3] at h
  obtain ⟨c1, h⟩ := aH h
  obtain ⟨c2, h⟩ := aH h
  obtain ⟨c3, h⟩ := aH h
  obtain ⟨c4, h⟩ := aH h
  have c1 : P + 1 <= ji + P2 := bx c1
  have c2 : q * 10 ^ (ji + P2 - (P + 1)) <= 20 * cO P2 := bx c2
  have c3 : L1 <= 1 := bx c3
  have c4 : P + 1 <= cq + ji + 10 := bx c4
  have T := tab (P := P2) (by exact kx hd.1 hP2) (by exact vU hP2 hd.2 c3)
  -- what is told
  have hl : dB ((m : Int), (eo : Int) - 4) ((d : Int) + 10) 496 = (sg neg M, -(P : Int) + j) := by
    have : dB ((m : Int), (eo : Int) - 4) ((d : Int) + 10) 496 = af (j0 ((m : Int), (eo : Int) - 4) ((d : Int) + 10)) (-ac ((m : Int), (eo : Int) - 4) ((d : Int) + 10)) ((d : Int) + 10) 496 := rfl
    rw [this, hV, hp, l5 _ _ _ _ (by exact lR)]
    have := gi (e := -(P : Int)) (top := 496) (show 1 <= d + 10 by exact ow) A0 (by exact fq70 hP) hM
    rw [show (((d + 10 : Nat)) : Int) = (d : Int) + 10 by push_cast; rfl] at this
    rw [this]
  have ht : dP ((m : Int), (eo : Int) - 4) (d : Int) = (sg neg q, -(P : Int) + ji - 1) := by
    unfold dP
    rw [hl]
    show af (sg neg M * 5) (-(P : Int) + j - 1) d 99 = _
    rw [o7, l5 _ _ _ _ (by exact fX)]
    have e5 : (M : Int) * 5 = ((Nat.mul 5 M : Nat) : Int) := by show (M : Int) * 5 = ((5 * M : Nat) : Int); push_cast; exact fq447
    have := gi (e := -(P : Int) + j - 1) (top := 99) (show 1 <= d by exact pk hd.1) M50 (by exact fq884 hP) hq
    rw [e5, this]
    have : -(P : Int) + j - 1 + i = -(P : Int) + ji - 1 := by exact fq341 hji
    rw [this]
  have hnd : nd (sg neg q) = cq := by rw [l6, hcq]
  have hpl : ac (sg neg q, -(P : Int) + ji - 1) ((d : Int) + 10) = P2 := by
    unfold ac ak
    show (d : Int) + 10 + max ((d : Int) + 10) (nd (sg neg q)) + 10 + max 0 (nd (sg neg q) + (-(P : Int) + ji - 1)) = P2
    rw [hnd]; exact fq929 hP2 hL1 cqd
  have hfx : cr (sg neg q, -(P : Int) + ji - 1) (P2 : Int) = sg neg ((q * 10 ^ (ji + P2 - (P + 1)) : Nat) : Int) := by
    rw [fB (by exact fq927 c4 cqd hP2), o7]
    have : (-(P : Int) + ji - 1 + P2).toNat = ji + P2 - (P + 1) := by exact fq900
    rw [this]; push_cast; rfl
  have hn : sg neg ((q * 10 ^ (ji + P2 - (P + 1)) : Nat) : Int) + 20 * (cO P2 : Int) = ((@Bool.rec (fun _ => Nat) (Nat.add (Nat.mul 20 (cO P2)) (Nat.mul q (Nat.pow 10 (Nat.sub (Nat.add ji P2) (Nat.add P 1))))) (Nat.sub (Nat.mul 20 (cO P2)) (Nat.mul q (Nat.pow 10 (Nat.sub (Nat.add ji P2) (Nat.add P 1))))) neg : Nat) : Int) := by
    have e6 : Nat.mul q (Nat.pow 10 (Nat.sub (Nat.add ji P2) (Nat.add P 1))) = q * 10 ^ (ji + P2 - (P + 1)) := rfl
    rw [e6]
    generalize q * 10 ^ (ji + P2 - (P + 1)) = n at *
    cases neg
    · show (n : Int) + 20 * (cO P2 : Int) = ((20 * cO P2 + n : Nat) : Int); exact fq272
    · show -(n : Int) + 20 * (cO P2 : Int) = ((20 * cO P2 - n : Nat) : Int); exact fq285 c2
  obtain ⟨f, k, k1, f1, k40, fb, i1, i2⟩ := m7 T hn h
  have hK : dz (sg neg q, -(P : Int) + ji - 1) ((d : Int) + 10) = (k : Int) - 20 := by
    unfold dz; rw [hpl, hfx]; exact k1
  have hF : ds (sg neg q, -(P : Int) + ji - 1) ((d : Int) + 10) = f := by
    unfold ds; rw [hK, hpl, hfx]; exact f1
  have hlead : ak (sg neg q, -(P : Int) + ji - 1) = (cq : Int) + (-(P : Int) + ji - 1) := by
    show nd (sg neg q) + (-(P : Int) + ji - 1) = _; rw [hnd]
  have tz : (sg neg (q : Int)) ≠ 0 := qY (by exact lm q0)
  have f0 : 0 < f := by
    rcases Nat.eq_zero_or_pos f with z | z
    · exfalso
      rw [z] at i2
      have w4 : 10 ^ 3 <= 10 ^ (d - 1) := Nat.pow_le_pow_right (by decide) (by exact fq768 hd.1)
      have b0 : 0 < m * 10 ^ (eo + (36 + 2 * P2)) := Nat.mul_pos hm (Nat.pow_pos (by decide))
      generalize m * 10 ^ (eo + (36 + 2 * P2)) = b at *
      have := Nat.mul_le_mul_left b w4
      simp at i2
      exact fq841 b0 this i2
    · exact z
  have fb' : f < 10 ^ 100 := Nat.lt_of_le_of_lt fb (Nat.pow_lt_pow_right (by decide) (by exact fq910 hP2 hd.2 c3))
  refine ⟨⟨P, hp, by have := hp; unfold ac at this; have := gq (m : Int); simp only at *; exact fq512 ‹_› hd.1, hP, by rw [hV, ix]; exact hA'⟩, .inr ?_, fun _ => ?_, ?_⟩
  · rw [ht]
    exact ⟨tz, by show nd (sg neg q) <= d; rw [hnd]; exact v4 cqd, by rw [hlead]; exact fq904 c4, by rw [hlead]; exact fq924 hL1 c3⟩
  · rw [ht]
    exact ⟨⟨P2, hpl, by exact kx hd.1 hP2, by exact vU hP2 hd.2 c3⟩, by rw [hF]; exact fX, by rw [hF]; simpa using fb', by rw [hK]; exact wb k40⟩
  · rw [ht]
    have hE : aQ (sg neg q, -(P : Int) + ji - 1) ((d : Int) + 10) 496 = af f ((k : Int) - 20 - P2) ((d : Int) + 10) 496 := by
      unfold aQ
      rw [hF, hK, hpl]
      have z1 : decide ((sg neg (q : Int), -(P : Int) + ji - 1).1 = 0) = false := decide_eq_false tz
      have z2 : decide (ak (sg neg (q : Int), -(P : Int) + ji - 1) < -((d : Int) + 10)) = false := decide_eq_false (by rw [hlead]; exact fq919 c4)
      have z3 : dY (sg neg (q : Int), -(P : Int) + ji - 1) 496 = false := by
        unfold dY; exact decide_eq_false (by rw [hlead]; exact fq345 (show nd 496 = 3 by decide +kernel) hL1 c3)
      rw [z1, z2, z3]; rfl
    rw [hE]
    have n1 := cG (m := (f : Int)) (by exact lm f0)
    have R := gY (m := (f : Int)) (e := (k : Int) - 20 - P2) (d := (d : Int) + 10) (top := 496) (by exact vM) (fun _ => by exact fq343 n1 hP2 hd.2 c3)
    have u0 : 0 < ((f : Int) : Rat) * aj ((k : Int) - 20 - P2) := de.mpr (by exact iQ f0)
    have hs : 0 < val ((m : Int), (eo : Int) - 4) := de.mpr (by show (0:Int) < (m : Int); exact iQ hm)
    exact uH (by exact fq257 hd.1) R u0 hs (uG (by exact fq769 hd.1) i1 i2)
end

section
theorem val_mk (m e : Int) : val (m, e) = (m : Rat) * aj e := rfl

theorem logZero {d m eo P : Nat} (hd : 4 <= d /\ d <= 6) (hP : 38 <= P /\ P <= 46) (hV : j0 ((m : Int), (eo : Int) - 4) ((d : Int) + 10) = 0) (hp : ac ((m : Int), (eo : Int) - 4) ((d : Int) + 10) = P)
    (h : m * 10 ^ eo = 10000) : LogF d ((m : Int), (eo : Int) - 4) := by
  have hl : dB ((m : Int), (eo : Int) - 4) ((d : Int) + 10) 496 = (0, 0) := by
    have : dB ((m : Int), (eo : Int) - 4) ((d : Int) + 10) 496 = af (j0 ((m : Int), (eo : Int) - 4) ((d : Int) + 10)) (-ac ((m : Int), (eo : Int) - 4) ((d : Int) + 10)) ((d : Int) + 10) 496 := rfl
    rw [this, hV, aL _ _ _ (by exact lR)]
  have ht : dP ((m : Int), (eo : Int) - 4) (d : Int) = (0, 0) := by
    unfold dP
    rw [hl]
    show af (0 * 5) (0 - 1) d 99 = _
    rw [Int.zero_mul, aL _ _ _ (by exact fX)]
  refine ⟨⟨P, hp, hP.1, hP.2, by rw [hV]; exact Nat.zero_le _⟩, .inl ht, fun h0 => ?_, ?_⟩
  · rw [ht] at h0; exact absurd rfl h0
  · rw [ht]
    have e1 : aQ (0, 0) ((d : Int) + 10) 496 = (1, 0) := rfl
    have e2 : val ((m : Int), (eo : Int) - 4) = 1 := by
      rw [val_mk]
      have h1 : ((m * 10 ^ eo : Nat) : Rat) = ((10000 : Nat) : Rat) := by rw [h]
      rw [Rat.natCast_mul, <- c7] at h1
      have h2 : aj (eo : Int) = aj ((eo : Int) - 4) * 10000 := by
        have : aj (eo : Int) = aj ((eo : Int) - 4 + 4) := by congr 1; exact fq457
        rw [this, aM]; congr 1
      rw [h2] at h1
      have h3 : (((m : Nat) : Int) : Rat) = ((m : Nat) : Rat) := rfl
      have h4 : ((10000 : Nat) : Rat) = 10000 := rfl
      rw [h3]
      rw [h4] at h1
      generalize aj ((eo : Int) - 4) = w at *
      generalize ((m : Nat) : Rat) = x at *
      have h5 : x * (w * 10000) = x * w * 10000 := by exact gq220
      rw [h5] at h1
      exact gq138 h1
    rw [e1, e2, fM]
    have z : (1 : Rat) * 1 - 1 = 0 := by exact gq23
    rw [z, cC]
    have := aq (1 - (d : Int))
    exact gq116 this

theorem jA {d m eo P U W : Nat} (hd : 4 <= d /\ d <= 6) (hm : 0 < m) (hP : 38 <= P /\ P <= 46) (hV : j0 ((m : Int), (eo : Int) - 4) ((d : Int) + 10) = (U : Int) - W) (hp : ac ((m : Int), (eo : Int) - 4) ((d : Int) + 10) = P)
    (h : m6 d m eo P U W = true) : LogF d ((m : Int), (eo : Int) - 4) := by
  unfold m6 at h
  rcases dF h with ⟨h1, h2⟩ | ⟨h1, h2⟩
  · have h1 : W + 1 <= U := bx h1
    have h2 : lg d m eo P (U - W) false = true := h2
    refine (jz hd hm hP.2 ?_ hp h2).2
    rw [hV]
    show (U : Int) - W = ((U - W : Nat) : Int)
    exact fq857 h1
  · have h1 : U < W + 1 := fE h1
    rcases dF h2 with ⟨h3, h4⟩ | ⟨h3, h4⟩
    · have h3 : U + 1 <= W := bx h3
      have h4 : lg d m eo P (W - U) true = true := h4
      refine (jz hd hm hP.2 ?_ hp h4).2
      rw [hV]
      show (U : Int) - W = -((W - U : Nat) : Int)
      exact fq856 h3
    · have h3 : W < U + 1 := fE h3
      exact logZero hd hP (by rw [hV]; exact fq868 h1 h3) hp (fG h4)

theorem ik {d m eo size P : Nat} (hd : 4 <= d /\ d <= 6) (hm : 0 < m) (hs : 1 <= size) (hP : 38 <= P /\ P <= 46) (hsz : aV (m : Int) = size) (hp : ac ((m : Int), (eo : Int) - 4) ((d : Int) + 10) = P)
    (h : jy d m eo size P = true) : LogF d ((m : Int), (eo : Int) - 4) := by
  have T := tab hP.1 hP.2
  unfold jy at h
  simp only at h
  obtain ⟨near, hnear⟩ : ∃ near, near = 10 ^ (size - 1) := ⟨_, rfl⟩
  have e1 : Nat.pow 10 (Nat.sub size 1) = near := hnear.symm
  obtain ⟨one, hone⟩ : ∃ one, one = 10 ^ P := ⟨_, rfl⟩
  have e2 : Nat.pow 10 P = one := hone.symm
  rw [e1, e2] at h
  have n1 : (10 : Int) ^ (aV (m : Int) - 1).toNat = near := by
    rw [hsz, hnear]
    have : ((size : Int) - 1).toNat = size - 1 := by exact fq247
    rw [this]; push_cast; rfl
  have n2 : (10 : Int) ^ (ac ((m : Int), (eo : Int) - 4) ((d : Int) + 10)).toNat = one := by rw [hp, hone]; push_cast; rfl
  have hV : ∀ term total : Nat, cH ((m : Int), (eo : Int) - 4) ((d : Int) + 10) = term -> lf term ((term * term / one : Nat) : Int) one = total ->
      j0 ((m : Int), (eo : Int) - 4) ((d : Int) + 10) = ((eo : Int) + size - 5) * (cO P : Int) + bif decide (m < near) then -2 * (total : Int) else 2 * total := by
    intro term total h1 h2
    have hT : mY ((m : Int), (eo : Int) - 4) ((d : Int) + 10) = bif decide (m < near) then -2 * (total : Int) else 2 * total := by
      have : mY ((m : Int), (eo : Int) - 4) ((d : Int) + 10) = bif decide ((m : Int) < 10 ^ (aV (m : Int) - 1).toNat) then
          -2 * lf (cH ((m : Int), (eo : Int) - 4) ((d : Int) + 10)) (cH ((m : Int), (eo : Int) - 4) ((d : Int) + 10) * cH ((m : Int), (eo : Int) - 4) ((d : Int) + 10) / 10 ^ (ac ((m : Int), (eo : Int) - 4) ((d : Int) + 10)).toNat) (10 ^ (ac ((m : Int), (eo : Int) - 4) ((d : Int) + 10)).toNat)
        else 2 * lf (cH ((m : Int), (eo : Int) - 4) ((d : Int) + 10)) (cH ((m : Int), (eo : Int) - 4) ((d : Int) + 10) * cH ((m : Int), (eo : Int) - 4) ((d : Int) + 10) / 10 ^ (ac ((m : Int), (eo : Int) - 4) ((d : Int) + 10)).toNat) (10 ^ (ac ((m : Int), (eo : Int) - 4) ((d : Int) + 10)).toNat) := rfl
      rw [this, n1, n2, h1]
      have e3 : (term : Int) * term / (one : Int) = ((term * term / one : Nat) : Int) := by push_cast; rfl
      rw [e3, h2]
      have e4 : decide ((m : Int) < (near : Int)) = decide (m < near) := by
        by_cases q : m < near
        · rw [decide_eq_true q, decide_eq_true (by exact fq871 q)]
        · rw [decide_eq_false q, decide_eq_false (by exact fq897 q)]
      rw [e4]
    unfold j0
    rw [hT, hp, T.ten]
    show ((eo : Int) - 4 + aV (m : Int) - 1) * (cO P : Int) + _ = _
    rw [hsz]
    congr 2
    exact fq520
  have hsum : ∀ (term v : Nat), (∀ F, 120 <= F -> (cV m8 (kE ((term * term / one : Nat) : Int) one) F ⟨term, ((0 : Nat) : Int), ((1 : Nat) : Int)⟩).b = v) -> lf term ((term * term / one : Nat) : Int) one = v := fun term v h => h FU (mA (by decide))
  have tr : ∀ x y : Int, ((eo : Int) + size - 5) * (cO P : Int) + (x - y) = (((eo : Int) + size) * cO P + x) - (5 * cO P + y) := fun x y => by
    have : ((eo : Int) + size - 5) * (cO P : Int) = ((eo : Int) + size) * cO P - 5 * cO P := by rw [Int.sub_mul]
    exact fq705 this
  rcases dF h with ⟨h1, h2⟩ | ⟨h1, h2⟩
  · have h1 : m + 1 <= near := bx h1
    obtain ⟨v, v1, v2⟩ := ja _ _ _ 120 _ _ _ h2
    refine jA hd hm hP ?_ hp v1
    have ht : cH ((m : Int), (eo : Int) - 4) ((d : Int) + 10) = ((Nat.div (Nat.mul (Nat.sub near m) one) (Nat.add m near) : Nat) : Int) := by
      unfold cH
      rw [n2]
      show (((m : Int) - 10 ^ (aV (m : Int) - 1).toNat).natAbs : Int) * one / ((m : Int) + 10 ^ (aV (m : Int) - 1).toNat) = (((near - m) * one / (m + near) : Nat) : Int)
      rw [n1]
      have : ((((m : Int) - (near : Int)).natAbs : Nat) : Int) = ((near - m : Nat) : Int) := by exact fq855 h1
      rw [this]; push_cast; rfl
    rw [hV _ v ht (hsum _ v v2), decide_eq_true (show m < near by exact v7 h1), cond_true]
    have c1 : ((Nat.mul (Nat.add eo size) (cO P) : Nat) : Int) = ((eo : Int) + size) * cO P := by show (((eo + size) * cO P : Nat) : Int) = _; push_cast; rfl
    have c2 : ((Nat.add (Nat.mul 5 (cO P)) (Nat.mul 2 v) : Nat) : Int) = 5 * (cO P : Int) + 2 * v := by show ((5 * cO P + 2 * v : Nat) : Int) = _; push_cast; rfl
    rw [c1, c2]
    have := tr 0 (2 * (v : Int))
    rw [show (0 : Int) - 2 * v = -2 * (v : Int) by exact fq385] at this
    exact fq658 this
  · have h1 : near < m + 1 := fE h1
    obtain ⟨v, v1, v2⟩ := ja _ _ _ 120 _ _ _ h2
    refine jA hd hm hP ?_ hp v1
    have ht : cH ((m : Int), (eo : Int) - 4) ((d : Int) + 10) = ((Nat.div (Nat.mul (Nat.sub m near) one) (Nat.add m near) : Nat) : Int) := by
      unfold cH
      rw [n2]
      show (((m : Int) - 10 ^ (aV (m : Int) - 1).toNat).natAbs : Int) * one / ((m : Int) + 10 ^ (aV (m : Int) - 1).toNat) = (((m - near) * one / (m + near) : Nat) : Int)
      rw [n1]
      have : ((((m : Int) - (near : Int)).natAbs : Nat) : Int) = ((m - near : Nat) : Int) := by exact fq866 h1
      rw [this]; push_cast; rfl
    rw [hV _ v ht (hsum _ v v2), decide_eq_false (show ¬ m < near by exact fq869 h1), cond_false]
    have c1 : ((Nat.add (Nat.mul (Nat.add eo size) (cO P)) (Nat.mul 2 v) : Nat) : Int) = ((eo : Int) + size) * cO P + 2 * v := by show (((eo + size) * cO P + 2 * v : Nat) : Int) = _; push_cast; rfl
    have c2 : ((Nat.mul 5 (cO P) : Nat) : Int) = 5 * (cO P : Int) := by show ((5 * cO P : Nat) : Int) = _; push_cast; rfl
    rw [c1, c2]
    have := tr (2 * (v : Int)) 0
    rw [show 2 * (v : Int) - 0 = 2 * (v : Int) by exact fq154] at this
    exact fq662 this

theorem m9 {d m eo : Nat} (hd : 4 <= d /\ d <= 6) (h : j3 d m eo = true) : LogF d ((m : Int), (eo : Int) - 4) /\ nd (m : Int) <= 12 /\ 0 < m := by
  unfold j3 at h
  obtain ⟨c, c1, hc, h, lo, hi, c12⟩ := d4 h
  have m0 : 0 < m := Nat.lt_of_lt_of_le (Nat.pow_pos (by decide)) lo
  simp only at h
  obtain ⟨P, hP⟩ : ∃ P, P = 2 * d + 30 + (c + eo - 4) := ⟨_, rfl⟩
  have e1 : Nat.add (Nat.add (Nat.mul 2 d) 30) (Nat.sub (Nat.add c eo) 4) = P := hP.symm
  rw [e1] at h
  obtain ⟨hP46, h⟩ := aH h
  have hP46 : P <= 46 := bx hP46
  have hp : ac ((m : Int), (eo : Int) - 4) ((d : Int) + 10) = P := by
    unfold ac ak
    show (d : Int) + 10 + max ((d : Int) + 10) (nd (m : Int)) + 10 + max 0 (nd (m : Int) + ((eo : Int) - 4)) = P
    rw [hc]; exact fq918 hd.1 hP c12
  refine ⟨?_, by exact fq324 hc c12, m0⟩
  have hmm : Nat.blt (Nat.pow 10 (Nat.sub (Nat.mul 2 c) 1)) (Nat.mul m m) = decide ((10:Int) ^ (2 * nd (m : Int) - 1).toNat < (m : Int) * m) := by
    rw [hc]
    have e2 : (2 * (c : Int) - 1).toNat = 2 * c - 1 := by exact fq722
    rw [e2]
    have e3 : ((10:Int) ^ (2 * c - 1) < (m : Int) * m) ↔ (10 ^ (2 * c - 1) < m * m) := by
      have : ((10 ^ (2 * c - 1) : Nat) : Int) = (10 : Int) ^ (2 * c - 1) := by push_cast; rfl
      rw [<- this, <- Int.natCast_mul]
      exact Int.ofNat_lt
    show Nat.ble (10 ^ (2 * c - 1) + 1) (m * m) = _
    cases hb : Nat.ble (10 ^ (2 * c - 1) + 1) (m * m) with
    | true => have := bx hb; rw [decide_eq_true (e3.mpr (by exact v7 this))]
    | false => have := fE hb; rw [decide_eq_false (fun q => by have := e3.mp q; lia -abstractProof)]
  rw [hmm] at h
  cases hb : decide ((10:Int) ^ (2 * nd (m : Int) - 1).toNat < (m : Int) * m) with
  | true =>
    rw [hb] at h
    exact ik (size := c + 1) hd m0 (by exact wi) ⟨by exact kx hd.1 hP, hP46⟩ (by unfold aV; rw [hb, cond_true, hc]; push_cast; rfl) hp h
  | false =>
    rw [hb] at h
    exact ik (size := c) hd m0 (by exact fq746 c1) ⟨by exact kx hd.1 hP, hP46⟩ (by unfold aV; rw [hb, cond_false, hc]) hp h
end

section
noncomputable def jh (V P d : Int) : Re := af (af V (-P) (d + 10) 496).1 (af V (-P) (d + 10) 496).2 d 99
noncomputable def wv (t : Re) (D a : Int) : Rat := (bV t D a : Rat) * aj (-ac t D)

structure AngF (d : Int) (t : Re) (x y : Rat) : Prop where
  tz : t.1 ≠ 0
  nd : nd t.1 <= d
  lead : -10 <= ak t /\ ak t <= 1
  P : ∃ P : Nat, ac t (d + 10) = P /\ 38 <= P /\ P <= 46
  norm : ab (wv t (d + 10) 1 * wv t (d + 10) 1 + wv t (d + 10) 0 * wv t (d + 10) 0 - 1) <= aj (-10)
  dir : ab (wv t (d + 10) 0 * x - wv t (d + 10) 1 * y) <= aj (1 - d) * (ab x + ab y)
  pos : 0 <= wv t (d + 10) 1 * x + wv t (d + 10) 0 * y

theorem AngF.scale {d : Int} {t : Re} {x y k : Rat} (F : AngF d t x y) (hk : 0 < k) : AngF d t (x * k) (y * k) := by
  obtain ⟨a, b, c, p, e, f, g⟩ := F
  refine ⟨a, b, c, p, e, ?_, ?_⟩
  · have := Rat.mul_le_mul_of_nonneg_right f (Rat.le_of_lt hk)
    have e1 : wv t (d + 10) 0 * (x * k) - wv t (d + 10) 1 * (y * k) = (wv t (d + 10) 0 * x - wv t (d + 10) 1 * y) * k := by exact gq367
    rw [e1, cU, cU, cU, bJ hk]
    exact gq372 this
  · have := Rat.mul_nonneg g (Rat.le_of_lt hk)
    exact gq370 this

/-- the checks, in the rationals -/
theorem dir_rat {d P X Y sp sm cp cm : Nat} (hd : 1 <= d) (h : f9 d (10 ^ P) X Y sp sm cp cm = true) {S C : Int} (hS : S = (sp : Int) - sm) (hC : C = (cp : Int) - cm) :
    ab ((S : Rat) * aj (-P) * (X : Rat) - (C : Rat) * aj (-P) * (Y : Rat)) <= aj (1 - d) * ((X : Rat) + Y) /\ 0 <= (C : Rat) * aj (-P) * (X : Rat) + (S : Rat) * aj (-P) * (Y : Rat) := by
  obtain ⟨a, b⟩ := aH h
  obtain ⟨b, c⟩ := aH b
  have a : (sp * X + cm * Y) * 10 ^ (d - 1) <= (sm * X + cp * Y) * 10 ^ (d - 1) + 10 ^ P * (X + Y) := bx a
  have b : (sm * X + cp * Y) * 10 ^ (d - 1) <= (sp * X + cm * Y) * 10 ^ (d - 1) + 10 ^ P * (X + Y) := bx b
  have c : cm * X + sm * Y <= cp * X + sp * Y := bx c
  have g3 : aj (1 - (d : Int)) * ((10 ^ (d - 1) : Nat) : Rat) = 1 := by
    rw [<- c7, <- aM, <- gl]; congr 1; exact fq743 hd
  have g4 : aj (-(P : Int)) * ((10 ^ P : Nat) : Rat) = 1 := bA P
  have w0 := aq (-(P : Int))
  have t0 := aq (1 - (d : Int))
  generalize aj (-(P : Int)) = w at *
  generalize aj (1 - (d : Int)) = t at *
  generalize 10 ^ (d - 1) = W at *
  generalize 10 ^ P = O at *
  have sS : (S : Rat) = (sp : Rat) - sm := by rw [hS, Rat.intCast_sub]; rfl
  have sC : (C : Rat) = (cp : Rat) - cm := by rw [hC, Rat.intCast_sub]; rfl
  rw [sS, sC]
  have a : ((sp : Rat) * X + cm * Y) * W <= ((sm : Rat) * X + cp * Y) * W + O * (X + Y) := by exact_mod_cast a
  have b : ((sm : Rat) * X + cp * Y) * W <= ((sp : Rat) * X + cm * Y) * W + O * (X + Y) := by exact_mod_cast b
  have c : (cm : Rat) * X + sm * Y <= cp * X + sp * Y := by exact_mod_cast c
  generalize (sp : Rat) = sp at *
  generalize (sm : Rat) = sm at *
  generalize (cp : Rat) = cp at *
  generalize (cm : Rat) = cm at *
  generalize (X : Rat) = X at *
  generalize (Y : Rat) = Y at *
  generalize (W : Rat) = W at *
  generalize (O : Rat) = O at *
  have tw := Rat.mul_pos t0 w0
  have m1 := Rat.mul_le_mul_of_nonneg_right a (Rat.le_of_lt tw)
  have m2 := Rat.mul_le_mul_of_nonneg_right b (Rat.le_of_lt tw)
  have m3 := Rat.mul_le_mul_of_nonneg_right c (Rat.le_of_lt w0)
  have x1 : (sp * X + cm * Y) * W * (t * w) = (sp * X + cm * Y) * w := by
    have : (sp * X + cm * Y) * W * (t * w) = (sp * X + cm * Y) * w * (t * W) := by exact gq12
    rw [this, g3, Rat.mul_one]
  have x2 : (sm * X + cp * Y) * W * (t * w) = (sm * X + cp * Y) * w := by
    have : (sm * X + cp * Y) * W * (t * w) = (sm * X + cp * Y) * w * (t * W) := by exact gq12
    rw [this, g3, Rat.mul_one]
  have x3 : O * (X + Y) * (t * w) = t * (X + Y) := by
    have : O * (X + Y) * (t * w) = t * (X + Y) * (w * O) := by exact gq315
    rw [this, g4, Rat.mul_one]
  rw [Rat.add_mul ((sm * X + cp * Y) * W), x1, x2, x3] at m1
  rw [Rat.add_mul ((sp * X + cm * Y) * W), x1, x2, x3] at m2
  clear x1 x2 x3 g3 g4 a b c
  refine ⟨gX (by exact gq397 m2) (by exact gq396 m1), by exact gq387 m3⟩

theorem k6 {P sp sm cp cm : Nat} (h : iD (10 ^ P) sp sm cp cm = true) {S C : Int} (hS : S = (sp : Int) - sm) (hC : C = (cp : Int) - cm) :
    ab ((C : Rat) * aj (-P) * ((C : Rat) * aj (-P)) + (S : Rat) * aj (-P) * ((S : Rat) * aj (-P)) - 1) <= aj (-10) := by
  obtain ⟨a, b⟩ := aH h
  have a : ((sp * sp + sm * sm) + (cp * cp + cm * cm)) * 10000000000 <= ((2 * (sp * sm) + 2 * (cp * cm)) + 10 ^ P * 10 ^ P) * 10000000000 + 10 ^ P * 10 ^ P := bx a
  have b : ((2 * (sp * sm) + 2 * (cp * cm)) + 10 ^ P * 10 ^ P) * 10000000000 <= ((sp * sp + sm * sm) + (cp * cp + cm * cm)) * 10000000000 + 10 ^ P * 10 ^ P := bx b
  have g4 : aj (-(P : Int)) * ((10 ^ P : Nat) : Rat) = 1 := bA P
  have g5 : aj (-10) = 1 / 10000000000 := by
    have h : aj (-10) * 10000000000 = 1 := bA 10
    exact gq42 h
  rw [g5]
  have w0 := aq (-(P : Int))
  generalize aj (-(P : Int)) = w at *
  generalize 10 ^ P = O at *
  have sS : (S : Rat) = (sp : Rat) - sm := by rw [hS, Rat.intCast_sub]; rfl
  have sC : (C : Rat) = (cp : Rat) - cm := by rw [hC, Rat.intCast_sub]; rfl
  rw [sS, sC]
  have a : (((sp : Rat) * sp + sm * sm) + (cp * cp + cm * cm)) * 10000000000 <= ((2 * ((sp : Rat) * sm) + 2 * (cp * cm)) + O * O) * 10000000000 + O * O := by exact_mod_cast a
  have b : ((2 * ((sp : Rat) * sm) + 2 * (cp * cm)) + (O : Rat) * O) * 10000000000 <= (((sp : Rat) * sp + sm * sm) + (cp * cp + cm * cm)) * 10000000000 + O * O := by exact_mod_cast b
  generalize (sp : Rat) = sp at *
  generalize (sm : Rat) = sm at *
  generalize (cp : Rat) = cp at *
  generalize (cm : Rat) = cm at *
  generalize (O : Rat) = O at *
  have ww := Rat.mul_pos w0 w0
  have m1 := Rat.mul_le_mul_of_nonneg_right a (Rat.le_of_lt ww)
  have m2 := Rat.mul_le_mul_of_nonneg_right b (Rat.le_of_lt ww)
  have x3 : O * O * (w * w) = 1 := by
    have : O * O * (w * w) = (w * O) * (w * O) := by exact gq48
    rw [this, g4, Rat.mul_one]
  have x1 : (cp - cm) * w * ((cp - cm) * w) + (sp - sm) * w * ((sp - sm) * w) - 1 = ((sp * sp + sm * sm) + (cp * cp + cm * cm)) * (w * w) - (2 * (sp * sm) + 2 * (cp * cm)) * (w * w) - O * O * (w * w) := by rw [x3]; exact gq351
  rw [x1]
  have m1' : ((sp * sp + sm * sm) + (cp * cp + cm * cm)) * (w * w) * 10000000000 <= (2 * (sp * sm) + 2 * (cp * cm)) * (w * w) * 10000000000 + O * O * (w * w) * 10000000000 + O * O * (w * w) := by exact gq313 m1
  have m2' : (2 * (sp * sm) + 2 * (cp * cm)) * (w * w) * 10000000000 + O * O * (w * w) * 10000000000 <= ((sp * sp + sm * sm) + (cp * cp + cm * cm)) * (w * w) * 10000000000 + O * O * (w * w) := by exact gq300 m2
  rw [x3] at *
  generalize ((sp * sp + sm * sm) + (cp * cp + cm * cm)) * (w * w) = p at *
  generalize (2 * (sp * sm) + 2 * (cp * cm)) * (w * w) = q at *
  clear m1 m2 x1 x3 g4 a b
  exact gX (by exact gq181 m2') (by exact gq224 m1')
end

section
noncomputable def fx (flip : Bool) (X : Nat) : Rat := bif flip then -(X : Rat) else X
theorem fx_ab (flip : Bool) (X : Nat) : ab (fx flip X) = X := by
  have : (0:Rat) <= (X : Rat) := by exact_mod_cast Nat.zero_le X
  cases flip
  · exact ba this
  · show ab (-(X:Rat)) = _; rw [dA, ba this]

/-- one sign of a told angle -/
theorem wG {d P2 X Y q : Nat} {e : Int} {neg flip : Bool} {n2 : Nat} {t : Re} (hd : 4 <= d /\ d <= 6) (T : Tab P2) (hP2 : 38 <= P2 /\ P2 <= 46) (ht : t = (sg neg q, e)) (q0 : 0 < q)
    (hnd : nd (q : Int) <= d) (hlead : -10 <= nd (q : Int) + e /\ nd (q : Int) + e <= 1) (hpl : ac t ((d : Int) + 10) = P2) (he : 0 <= e + P2)
    (hn : sg neg ((q * 10 ^ (e + P2).toNat : Nat) : Int) + 2 * 1 * (eY P2 : Int) = n2)
    {k : Nat -> Nat -> Nat -> Nat -> Bool} (h : lW (10 ^ P2) (eY P2) n2 k = true)
    (hk : ∀ sp sm cp cm, k sp sm cp cm = true -> iD (10 ^ P2) sp sm cp cm = true /\
      (bif neg then (bif flip then f9 d (10 ^ P2) X Y sm sp cm cp else f9 d (10 ^ P2) X Y sm sp cp cm) else (bif flip then f9 d (10 ^ P2) X Y sp sm cm cp else f9 d (10 ^ P2) X Y sp sm cp cm)) = true) :
    AngF d t (fx flip X) (fx neg Y) := by
  have hfx : cr t (P2 : Int) = sg neg ((q * 10 ^ (e + P2).toNat : Nat) : Int) := by
    rw [ht, fB he, o7]; push_cast; rfl
  obtain ⟨sp, sm, cp, cm, c1, c2, c3⟩ := fL (P := P2) (n := cr t (P2 : Int)) (j := 1) rfl T.pi T.p0 (by rw [hfx]; exact hn) h
  obtain ⟨n1, n2⟩ := hk _ _ _ _ c1
  have w0 : bV t ((d : Int) + 10) 0 = (sp : Int) - sm := by rw [ir, hpl]; exact c2
  have w1 : bV t ((d : Int) + 10) 1 = (cp : Int) - cm := by rw [ir, hpl]; exact c3
  have hleadt : ak t = nd (q : Int) + e := by rw [ht]; show nd (sg neg q) + e = _; rw [l6]
  have both : ab (wv t ((d : Int) + 10) 0 * fx flip X - wv t ((d : Int) + 10) 1 * fx neg Y) <= aj (1 - (d : Int)) * (ab (fx flip X) + ab (fx neg Y)) /\ 0 <= wv t ((d : Int) + 10) 1 * fx flip X + wv t ((d : Int) + 10) 0 * fx neg Y := by
    unfold wv; rw [hpl, fx_ab, fx_ab]
    generalize bV t ((d : Int) + 10) 0 = S at *
    generalize bV t ((d : Int) + 10) 1 = C at *
    have key : ∀ (S' C' : Int) (sp sm cp cm : Nat), S' = (sp : Int) - sm -> C' = (cp : Int) - cm -> f9 d (10 ^ P2) X Y sp sm cp cm = true ->
        ab ((S' : Rat) * aj (-P2) * (X : Rat) - (C' : Rat) * aj (-P2) * (Y : Rat)) <= aj (1 - (d : Int)) * ((X : Rat) + Y) /\ 0 <= (C' : Rat) * aj (-P2) * (X : Rat) + (S' : Rat) * aj (-P2) * (Y : Rat) :=
      fun S' C' sp sm cp cm a b c => dir_rat (by exact pk hd.1) c a b
    have sn : ∀ z : Int, ((-z : Int) : Rat) = -(z : Rat) := fun z => Rat.intCast_neg z
    cases neg <;> cases flip
    · have := key S C _ _ _ _ w0 w1 n2
      exact this
    · have := key S (-C) sp sm cm cp w0 (by exact fq64 w1) n2
      rw [sn] at this
      show ab ((S : Rat) * aj (-P2) * -(X : Rat) - (C : Rat) * aj (-P2) * (Y : Rat)) <= _ /\ 0 <= (C : Rat) * aj (-P2) * -(X : Rat) + (S : Rat) * aj (-P2) * (Y : Rat)
      have e1 : (S : Rat) * aj (-P2) * -(X : Rat) - (C : Rat) * aj (-P2) * (Y : Rat) = -((S : Rat) * aj (-P2) * (X : Rat) - -(C : Rat) * aj (-P2) * (Y : Rat)) := by exact gq366
      have e2 : (C : Rat) * aj (-P2) * -(X : Rat) + (S : Rat) * aj (-P2) * (Y : Rat) = -(C : Rat) * aj (-P2) * (X : Rat) + (S : Rat) * aj (-P2) * (Y : Rat) := by exact gq298
      rw [e1, e2, dA]; exact this
    · have := key (-S) C sm sp cp cm (by exact fq64 w0) w1 n2
      rw [sn] at this
      show ab ((S : Rat) * aj (-P2) * (X : Rat) - (C : Rat) * aj (-P2) * -(Y : Rat)) <= _ /\ 0 <= (C : Rat) * aj (-P2) * (X : Rat) + (S : Rat) * aj (-P2) * -(Y : Rat)
      have e1 : (S : Rat) * aj (-P2) * (X : Rat) - (C : Rat) * aj (-P2) * -(Y : Rat) = -(-(S : Rat) * aj (-P2) * (X : Rat) - (C : Rat) * aj (-P2) * (Y : Rat)) := by exact gq356
      have e2 : (C : Rat) * aj (-P2) * (X : Rat) + (S : Rat) * aj (-P2) * -(Y : Rat) = (C : Rat) * aj (-P2) * (X : Rat) + -(S : Rat) * aj (-P2) * (Y : Rat) := by exact gq338
      rw [e1, e2, dA]; exact this
    · have := key (-S) (-C) sm sp cm cp (by exact fq64 w0) (by exact fq64 w1) n2
      rw [sn, sn] at this
      show ab ((S : Rat) * aj (-P2) * -(X : Rat) - (C : Rat) * aj (-P2) * -(Y : Rat)) <= _ /\ 0 <= (C : Rat) * aj (-P2) * -(X : Rat) + (S : Rat) * aj (-P2) * -(Y : Rat)
      have e1 : (S : Rat) * aj (-P2) * -(X : Rat) - (C : Rat) * aj (-P2) * -(Y : Rat) = (-(S : Rat) * aj (-P2) * (X : Rat) - -(C : Rat) * aj (-P2) * (Y : Rat)) := by exact gq355
      have e2 : (C : Rat) * aj (-P2) * -(X : Rat) + (S : Rat) * aj (-P2) * -(Y : Rat) = -(C : Rat) * aj (-P2) * (X : Rat) + -(S : Rat) * aj (-P2) * (Y : Rat) := by exact gq354
      rw [e1, e2]; exact this
  refine ⟨by rw [ht]; exact qY (by exact lm q0), by rw [ht]; show nd (sg neg q) <= d; rw [l6]; exact hnd, by rw [hleadt]; exact hlead, ⟨P2, hpl, hP2⟩, ?_, both.1, both.2⟩
  unfold wv; rw [hpl]; exact k6 n1 w0 w1

theorem pG {P q ji cq L1 P2 : Nat} (h : angC P q ji cq L1 P2 = true) : P <= ji + P2 /\ q * 10 ^ (ji + P2 - P) <= 2 * eY P2 /\ L1 <= 1 /\ P <= cq + ji + 10 :=
  ⟨bx (aH h).1, bx (aH (aH h).2).1, bx (aH (aH (aH h).2).2).1, bx (aH (aH (aH h).2).2).2⟩

theorem angN_eq {pi n : Nat} (neg : Bool) (c2 : n <= 2 * pi) : sg neg ((n : Nat) : Int) + 2 * 1 * (pi : Int) = ((bif neg then 2 * pi - n else 2 * pi + n : Nat) : Int) := by
  cases neg
  · show (n : Int) + 2 * 1 * (pi : Int) = ((2 * pi + n : Nat) : Int); exact fq837
  · show -(n : Int) + 2 * 1 * (pi : Int) = ((2 * pi - n : Nat) : Int); exact fq882 c2

theorem ms {d one X Y sp sm cp cm : Nat} {flip : Bool} (h : angD d one X Y flip sp sm cp cm = true) : (bif flip then f9 d one X Y sp sm cm cp else f9 d one X Y sp sm cp cm) = true := by
  cases flip <;> exact h

theorem pF {d P X Y q ji cq L1 P2 : Nat} {flip : Bool} (hd : 4 <= d /\ d <= 6) (q0 : 0 < q) (hcq : nd (q : Int) = cq) (cqd : cq <= d) (hL1 : L1 = cq + ji - P) (hP2 : P2 = 2 * d + 30 + L1)
    (h : angM d P X Y flip q ji cq L1 P2 = true) (neg : Bool) : AngF d (sg neg q, -(P : Int) + ji) (fx flip X) (fx neg Y) := by
  obtain ⟨c1, c2, c3, c4⟩ := pG (aH h).1
  have h : angGo d (10 ^ P2) (eY P2) X Y flip (q * 10 ^ (ji + P2 - P)) = true := (aH h).2
  have T := tab (P := P2) (by exact kx hd.1 hP2) (by exact vU hP2 hd.2 c3)
  have hpl : ac (sg neg q, -(P : Int) + ji) ((d : Int) + 10) = P2 := by
    unfold ac ak
    show (d : Int) + 10 + max ((d : Int) + 10) (nd (sg neg q)) + 10 + max 0 (nd (sg neg q) + (-(P : Int) + ji)) = P2
    rw [l6, hcq]; exact fq930 hP2 hL1 cqd
  have hex : (-(P : Int) + ji + P2).toNat = ji + P2 - P := by exact fq901
  have hn : ∀ neg, sg neg ((q * 10 ^ (-(P : Int) + ji + P2).toNat : Nat) : Int) + 2 * 1 * (eY P2 : Int) = ((bif neg then 2 * eY P2 - q * 10 ^ (ji + P2 - P) else 2 * eY P2 + q * 10 ^ (ji + P2 - P) : Nat) : Int) := by
    intro neg; rw [hex]; exact angN_eq neg c2
  have b1 := fq289 hd.1 hd.2 hP2 c3
  have b2 : nd (q : Int) <= d := fq126 hcq cqd
  have b3 := fq127 hcq hL1 c3 c4
  have b4 := fq293 hP2 c4 cqd
  cases neg
  · exact wG (e := -(P : Int) + ji) (neg := false) hd T b1 rfl q0 b2 b3 hpl b4 (hn false) h fun sp sm cp cm k1 => ⟨(aH k1).1, ms (aH (aH k1).2).1⟩
  · obtain ⟨sp, sm, cp, cm, k1, -, -⟩ := fL (P := P2) (n := sg false ((q * 10 ^ (-(P : Int) + ji + P2).toNat : Nat) : Int)) (j := 1) rfl T.pi T.p0 (hn false) h
    exact wG (e := -(P : Int) + ji) (neg := true) hd T b1 rfl q0 b2 b3 hpl b4 (hn true) (aH (aH k1).2).2 fun sp sm cp cm k1 => ⟨(aH k1).1, ms (aH k1).2⟩

theorem eM {d P al X Y : Nat} {flip : Bool} (hd : 4 <= d /\ d <= 6) (hP : P <= 46) (h : jI d P al X Y flip = true) :
    0 < al /\ al <= 10 ^ (P + 1) /\ ∀ neg, AngF d (jh (sg neg al) P d) (fx flip X) (fx neg Y) := by
  have hA' : al <= 10 ^ (P + 1) := bx (aH h).1
  obtain ⟨M, j, h, M0, A0, hM⟩ := eB (show 1 <= d + 10 by exact ow) (aH h).2
  obtain ⟨q, i, h, q0, M50, hq⟩ := eB (show 1 <= d by exact pk hd.1) h
  obtain ⟨cq, cq1, hcq, h, clo, chi, cqd⟩ := d4 h
  refine ⟨A0, hA', fun neg => ?_⟩
  have ht : jh (sg neg al) P d = (sg neg q, -(P : Int) + ((j + i : Nat) : Int)) := by
    unfold jh
    have h1 := gi (e := -(P : Int)) (top := 496) (show 1 <= d + 10 by exact ow) A0 (by exact fq70 hP) hM
    rw [show (((d + 10 : Nat)) : Int) = (d : Int) + 10 by push_cast; rfl] at h1
    rw [l5 _ _ _ _ (by exact lR), h1]
    show af (sg neg M) (-(P : Int) + j) d 99 = _
    have h2 := gi (e := -(P : Int) + j) (top := 99) (show 1 <= d by exact pk hd.1) M50 (by exact fq885 hP) hq
    rw [l5 _ _ _ _ (by exact fX), h2, fq342 rfl]
  rw [ht]
  exact pF hd q0 hcq cqd rfl rfl h neg

theorem lG {P one t : Nat} {cont : Nat -> Bool} (h1 : one = 10 ^ P) (h : arcC one t cont = true) : ∃ v : Nat, cont v = true /\ gx t P = v := by
  unfold arcC at h
  simp only at h
  obtain ⟨r1, s1, h⟩ := ii _ _ h
  obtain ⟨r2, s2, h⟩ := ii _ _ h
  obtain ⟨p, m, h, a⟩ := lF _ _ _ 60 _ _ _ _ h
  obtain ⟨mp, h⟩ := aH h
  have mp : m <= p := bx mp
  refine ⟨4 * (p - m), h, ?_⟩
  have hO : (10 : Int) ^ ((P : Int)).toNat = (one : Int) := by rw [h1]; push_cast; rfl
  have u1 : bN (one : Int) t = ((t * one / (one + r1) : Nat) : Int) := by
    unfold bN
    have : (one : Int) * one + (t : Int) * t = ((Nat.add (Nat.mul one one) (Nat.mul t t) : Nat) : Int) := by show _ = ((one * one + t * t : Nat) : Int); push_cast; rfl
    rw [this, s1]; push_cast; rfl
  have u2 : bN (one : Int) ((t * one / (one + r1) : Nat) : Int) = ((t * one / (one + r1) * one / (one + r2) : Nat) : Int) := by
    unfold bN
    have : (one : Int) * one + ((t * one / (one + r1) : Nat) : Int) * ((t * one / (one + r1) : Nat) : Int) = ((Nat.add (Nat.mul one one) (Nat.mul (Nat.div (Nat.mul t one) (Nat.add one r1)) (Nat.div (Nat.mul t one) (Nat.add one r1))) : Nat) : Int) := by
      show _ = ((one * one + (t * one / (one + r1)) * (t * one / (one + r1)) : Nat) : Int); push_cast; rfl
    rw [this, s2]; push_cast; rfl
  have e0 : gx t P = 4 * pD (bN (10 ^ ((P : Int)).toNat) (bN (10 ^ ((P : Int)).toNat) t)) (bN (10 ^ ((P : Int)).toNat) (bN (10 ^ ((P : Int)).toNat) t) * bN (10 ^ ((P : Int)).toNat) (bN (10 ^ ((P : Int)).toNat) t) / 10 ^ ((P : Int)).toNat) (10 ^ ((P : Int)).toNat) := rfl
  rw [e0, hO, u1, u2]
  generalize hu : t * one / (one + r1) * one / (one + r2) = u at *
  have hu' : Nat.div (Nat.mul (Nat.div (Nat.mul t one) (Nat.add one r1)) one) (Nat.add one r2) = u := hu
  rw [hu'] at a
  have hs : (u : Int) * u / (one : Int) = ((u * u / one : Nat) : Int) := by push_cast; rfl
  have := a FU (mA (by decide)) 0 1
  rw [hs]
  have z : (0 : Int) + 1 * (((0 : Nat) : Int) - ((0 : Nat) : Int)) = 0 := rfl
  rw [z] at this
  have e4 : pD (u : Int) ((u * u / one : Nat) : Int) one = (cV fh (kG ((u * u / one : Nat) : Int) one) FU ⟨(u : Int), 0, 1, ((1 : Nat) : Int)⟩).b := rfl
  have e5 : ((Nat.div (Nat.mul u u) one : Nat) : Int) = ((u * u / one : Nat) : Int) := rfl
  rw [e5] at this
  rw [e4, this]
  exact fq892 mp

theorem lT {d P al X Y : Nat} (hd : 4 <= d /\ d <= 6) (hP : P <= 46) (h : kH d P al X Y = true) : al <= 10 ^ (P + 1) /\ al <= eY P /\ eY P - al <= 10 ^ (P + 1) /\
    ∀ n1 n2 : Bool, AngF d (jh (sg n2 ((bif n1 then eY P - al else al : Nat) : Int)) P d) (fx n1 X) (fx n2 Y) := by
  obtain ⟨a, h⟩ := aH h
  obtain ⟨b, h⟩ := aH h
  have a := bx a
  obtain ⟨b1, b2, b3⟩ := eM hd hP b
  obtain ⟨c1, c2, c3⟩ := eM hd hP h
  refine ⟨b2, a, c2, fun n1 n2 => ?_⟩
  cases n1
  · exact b3 n2
  · exact c3 n2
end

section
noncomputable def bM (z : Cc) (d : Int) : Re := af (aA z.2 z.1 (d + 10) 496).1 (aA z.2 z.1 (d + 10) 496).2 d 99

structure AngZ (d : Int) (z : Cc) : Prop where
  P : ∃ P : Nat, bF z.2 z.1 (d + 10) = P /\ 38 <= P /\ P <= 46 /\ (bn z.2 z.1 (d + 10)).natAbs <= 10 ^ (P + 1)
  nn : 0 <= bn z.2 z.1 (d + 10)
  f : AngF d (bM z d) (val z.1) (val z.2)

theorem nC (d mx ox my oy k : Nat) : gR d mx (ox + k) my (oy + k) = gR d mx ox my oy := by
  have h1 : Nat.sub (ox + k) (oy + k) = Nat.sub ox oy := Nat.add_sub_add_right ox k oy
  have h2 : Nat.sub (oy + k) (ox + k) = Nat.sub oy ox := Nat.add_sub_add_right oy k ox
  have h3 : ∀ cx cy : Nat, Nat.sub (Nat.add cx (ox + k)) (Nat.add cy (oy + k)) = Nat.sub (Nat.add cx ox) (Nat.add cy oy) := fun cx cy => by
    show (cx + (ox + k)) - (cy + (oy + k)) = (cx + ox) - (cy + oy); exact fq926
  unfold gR
  simp only [h1, h2, h3]

theorem uK (n : Bool) (m : Nat) (e : Int) : val (sg n m, e) = fx n m * aj e := by
  show ((sg n m : Int) : Rat) * aj e = _
  cases n
  · rfl
  · show ((-(m : Int) : Int) : Rat) * aj e = -(m : Rat) * aj e
    rw [Rat.intCast_neg]; rfl
theorem vK (n : Bool) (a b : Nat) : fx n (a * b) = fx n a * (b : Rat) := by
  cases n
  · show ((a * b : Nat) : Rat) = _; rw [Rat.natCast_mul]; rfl
  · show -((a * b : Nat) : Rat) = -(a : Rat) * b; rw [Rat.natCast_mul]; exact gq47

theorem nB {d mx ox my oy : Nat} (hd : 4 <= d /\ d <= 6) (h : gR d mx ox my oy = true) (n1 n2 : Bool) :
    AngZ d ((sg n1 mx, (ox : Int) - 2), (sg n2 my, (oy : Int) - 2)) := by
  unfold gR at h
  obtain ⟨cx, cx1, hcx, h, xlo, xhi, cx2⟩ := d4 h
  obtain ⟨cy, cy1, hcy, h, ylo, yhi, cy2⟩ := d4 h
  have mx0 : 0 < mx := Nat.lt_of_lt_of_le (Nat.pow_pos (by decide)) xlo
  have my0 : 0 < my := Nat.lt_of_lt_of_le (Nat.pow_pos (by decide)) ylo
  simp only at h
  obtain ⟨P, hP⟩ : ∃ P, P = 2 * d + 30 + ((cx + ox) - (cy + oy)) := ⟨_, rfl⟩
  have e1 : Nat.add (Nat.add (Nat.mul 2 d) 30) (Nat.sub (Nat.add cx ox) (Nat.add cy oy)) = P := hP.symm
  rw [e1] at h
  obtain ⟨hP46, h⟩ := aH h
  have hP46 : P <= 46 := bx hP46
  have T := tab (P := P) (by exact kx hd.1 hP) hP46
  obtain ⟨a, ha⟩ : ∃ a, a = my * 10 ^ (oy - ox) := ⟨_, rfl⟩
  obtain ⟨b, hb⟩ : ∃ b, b = mx * 10 ^ (ox - oy) := ⟨_, rfl⟩
  have e2 : Nat.mul my (Nat.pow 10 (Nat.sub oy ox)) = a := ha.symm
  have e3 : Nat.mul mx (Nat.pow 10 (Nat.sub ox oy)) = b := hb.symm
  rw [e2, e3] at h
  have hO : (10 : Int) ^ ((P : Int)).toNat = ((10 ^ P : Nat) : Int) := by push_cast; rfl
  -- the angle, by the checks
  have main : ∃ al : Nat, dX (a : Int) (b : Int) P = al /\ kH d P al b a = true := by
    unfold dX
    cases hc : Nat.ble a b with
    | true =>
      rw [hc] at h
      have hab := bx hc
      obtain ⟨v, h, v1⟩ := lG (P := P) rfl h
      refine ⟨v, ?_, h⟩
      rw [decide_eq_true (by exact v4 hab), cond_true, hO]
      have : (a : Int) * ((10 ^ P : Nat) : Int) / (b : Int) = ((Nat.div (Nat.mul a (Nat.pow 10 P)) b : Nat) : Int) := by show _ = ((a * 10 ^ P / b : Nat) : Int); push_cast; rfl
      rw [this, v1]
    | false =>
      rw [hc] at h
      have hab := fE hc
      obtain ⟨v, h, v1⟩ := lG (P := P) rfl h
      obtain ⟨vh, h⟩ := aH h
      have vh : v <= eY P / 2 := bx vh
      refine ⟨eY P / 2 - v, ?_, h⟩
      rw [decide_eq_false (by exact fq877 hab), cond_false, hO, T.pi]
      have : (b : Int) * ((10 ^ P : Nat) : Int) / (a : Int) = ((Nat.div (Nat.mul b (Nat.pow 10 P)) a : Nat) : Int) := by show _ = ((b * 10 ^ P / a : Nat) : Int); push_cast; rfl
      rw [this, v1]
      exact fq889 vh
  obtain ⟨al, al1, al2⟩ := main
  obtain ⟨b1, b2, b3, b4⟩ := lT hd hP46 al2
  have hx : sg n1 (mx : Int) ≠ 0 := qY (by exact lm mx0)
  have hy : sg n2 (my : Int) ≠ 0 := qY (by exact lm my0)
  have hpl : bF (sg n2 my, (oy : Int) - 2) (sg n1 mx, (ox : Int) - 2) ((d : Int) + 10) = P := by
    unfold bF ak
    show 2 * ((d : Int) + 10) + 10 + max 0 (nd (sg n1 mx) + ((ox : Int) - 2) - (nd (sg n2 my) + ((oy : Int) - 2))) = P
    rw [l6, l6, hcx, hcy]; exact fq928 hP
  have sgneg : ∀ (n : Bool) (m : Nat), 0 < m -> decide (sg n (m : Int) < 0) = n := by
    intro n m h
    cases n
    · exact decide_eq_false (by show ¬ (m : Int) < 0; exact fq822)
    · exact decide_eq_true (by show -(m : Int) < 0; exact fq734 h)
  have han : bn (sg n2 my, (oy : Int) - 2) (sg n1 mx, (ox : Int) - 2) ((d : Int) + 10) = ((bif n1 then eY P - al else al : Nat) : Int) := by
    have e0 : bn (sg n2 my, (oy : Int) - 2) (sg n1 mx, (ox : Int) - 2) ((d : Int) + 10) =
      bif decide (sg n1 (mx : Int) < 0) then aI (bF (sg n2 my, (oy : Int) - 2) (sg n1 mx, (ox : Int) - 2) ((d : Int) + 10)) - dX (((sg n2 (my : Int)).natAbs : Int) * 10 ^ ((oy : Int) - 2 - min ((oy : Int) - 2) ((ox : Int) - 2)).toNat) (((sg n1 (mx : Int)).natAbs : Int) * 10 ^ ((ox : Int) - 2 - min ((oy : Int) - 2) ((ox : Int) - 2)).toNat) (bF (sg n2 my, (oy : Int) - 2) (sg n1 mx, (ox : Int) - 2) ((d : Int) + 10))
      else dX (((sg n2 (my : Int)).natAbs : Int) * 10 ^ ((oy : Int) - 2 - min ((oy : Int) - 2) ((ox : Int) - 2)).toNat) (((sg n1 (mx : Int)).natAbs : Int) * 10 ^ ((ox : Int) - 2 - min ((oy : Int) - 2) ((ox : Int) - 2)).toNat) (bF (sg n2 my, (oy : Int) - 2) (sg n1 mx, (ox : Int) - 2) ((d : Int) + 10)) := rfl
    have ea : ((sg n2 (my : Int)).natAbs : Int) * 10 ^ ((oy : Int) - 2 - min ((oy : Int) - 2) ((ox : Int) - 2)).toNat = (a : Int) := by
      have : ((oy : Int) - 2 - min ((oy : Int) - 2) ((ox : Int) - 2)).toNat = oy - ox := by exact fq835
      rw [this, ix, ha]; push_cast; rfl
    have eb : ((sg n1 (mx : Int)).natAbs : Int) * 10 ^ ((ox : Int) - 2 - min ((oy : Int) - 2) ((ox : Int) - 2)).toNat = (b : Int) := by
      have : ((ox : Int) - 2 - min ((oy : Int) - 2) ((ox : Int) - 2)).toNat = ox - oy := by exact fq836
      rw [this, ix, hb]; push_cast; rfl
    rw [e0, ea, eb, hpl, al1, T.pi, sgneg n1 mx mx0]
    cases n1
    · rfl
    · show (eY P : Int) - al = ((eY P - al : Nat) : Int); exact fq891 b2
  refine ⟨⟨P, hpl, by exact kx hd.1 hP, hP46, ?_⟩, by show 0 <= bn (sg n2 my, (oy : Int) - 2) (sg n1 mx, (ox : Int) - 2) ((d : Int) + 10); rw [han]; exact fX, ?_⟩
  · show (bn (sg n2 my, (oy : Int) - 2) (sg n1 mx, (ox : Int) - 2) ((d : Int) + 10)).natAbs <= _
    rw [han]
    cases n1
    · exact b1
    · exact b3
  · have ht : bM ((sg n1 mx, (ox : Int) - 2), (sg n2 my, (oy : Int) - 2)) d = jh (sg n2 ((bif n1 then eY P - al else al : Nat) : Int)) P d := by
      have : aA (sg n2 my, (oy : Int) - 2) (sg n1 mx, (ox : Int) - 2) ((d : Int) + 10) 496 = af (sg n2 ((bif n1 then eY P - al else al : Nat) : Int)) (-(P : Int)) ((d : Int) + 10) 496 := by
        unfold aA
        have z1 : decide ((sg n2 (my : Int), (oy : Int) - 2).1 = 0) = false := decide_eq_false hy
        have z2 : decide ((sg n1 (mx : Int), (ox : Int) - 2).1 = 0) = false := decide_eq_false hx
        have z3 : decide ((sg n2 (my : Int), (oy : Int) - 2).1 < 0) = n2 := sgneg n2 my my0
        rw [z1, z2, z3, han, hpl]
        rfl
      show af (aA (sg n2 my, (oy : Int) - 2) (sg n1 mx, (ox : Int) - 2) ((d : Int) + 10) 496).1 (aA (sg n2 my, (oy : Int) - 2) (sg n1 mx, (ox : Int) - 2) ((d : Int) + 10) 496).2 d 99 = _
      rw [this]; rfl
    rw [ht]
    have F := (b4 n1 n2).scale (aq (min (ox : Int) oy - 2))
    have v1 : fx n1 b * aj (min (ox : Int) oy - 2) = val (sg n1 mx, (ox : Int) - 2) := by
      rw [uK, hb, vK, Rat.mul_assoc, <- c7, <- aM]
      congr 2; exact fq829
    have v2 : fx n2 a * aj (min (ox : Int) oy - 2) = val (sg n2 my, (oy : Int) - 2) := by
      rw [uK, ha, vK, Rat.mul_assoc, <- c7, <- aM]
      congr 2; exact fq830
    rw [v1, v2] at F
    exact F

/-! ## on the axes -/
noncomputable def kF (d : Nat) : Bool := d6 (jI d (Nat.add d 20) (eY (Nat.add d 20)) 1 0 true) (jI d (Nat.add d 20) (Nat.div (eY (Nat.add d 20)) 2) 0 1 false) false
theorem axis4 : kF 4 = true := by decide +kernel
theorem axis5 : kF 5 = true := by decide +kernel
theorem axis6 : kF 6 = true := by decide +kernel
theorem rH {d : Nat} (hd : 4 <= d /\ d <= 6) : kF d = true := by
  have : d = 4 \/ d = 5 \/ d = 6 := by exact s9 hd.1 hd.2
  rcases this with rfl | rfl | rfl
  · exact axis4
  · exact axis5
  · exact axis6

/-- on the first axis, to the left -/
theorem tM {d : Nat} (hd : 4 <= d /\ d <= 6) {x y : Re} (hx : x.1 < 0) (hy : y.1 = 0) : AngF d (bM (x, y) d) (val x) (val y) := by
  obtain ⟨h, -⟩ := aH (rH hd)
  obtain ⟨a1, a2, a3⟩ := eM hd (by show d + 20 <= 46; exact fq264 hd.2) h
  have F := a3 false
  have T := tab2 (P := d + 20) (by exact wg hd.1) (by exact v8 hd.2)
  have ht : bM (x, y) d = jh (sg false (eY (d + 20))) ((d + 20 : Nat) : Int) d := by
    have : aA y x ((d : Int) + 10) 496 = af (eY (d + 20) : Int) (-((d + 20 : Nat) : Int)) ((d : Int) + 10) 496 := by
      unfold aA cJ
      have z0 : decide (y.1 = 0) = true := decide_eq_true hy
      have z1 : decide (0 < x.1) = false := decide_eq_false (by exact fq452 hx)
      have z2 : decide (y.1 < 0) = false := decide_eq_false (by exact fq157 hy)
      rw [z0, z1, z2]
      simp only [cond_true, cond_false]
      have e : (d : Int) + 10 + 10 = ((d + 20 : Nat) : Int) := by push_cast; exact fq75
      rw [e, T.pi]
      congr 1
      exact fq134
    show af (aA y x ((d : Int) + 10) 496).1 (aA y x ((d : Int) + 10) 496).2 d 99 = _
    rw [this]; rfl
  rw [ht]
  have v0 : 0 < -val x := by have := dZ.mpr hx; exact gq10 this
  have F2 := F.scale v0
  have e1 : fx true 1 * (-val x) = val x := by
    show -((1 : Nat) : Rat) * (-val x) = val x
    have : ((1 : Nat) : Rat) = 1 := rfl
    rw [this]; exact gq30
  have e2 : fx false 0 * (-val x) = val y := by
    rw [bw.mpr hy]
    show ((0 : Nat) : Rat) * _ = 0
    have : ((0 : Nat) : Rat) = 0 := rfl
    rw [this]; exact gq32
  rw [e1, e2] at F2
  exact F2

/-- on the second axis -/
theorem axis_up {d : Nat} (hd : 4 <= d /\ d <= 6) {x y : Re} (hx : x.1 = 0) (hy : y.1 ≠ 0) : AngF d (bM (x, y) d) (val x) (val y) := by
  obtain ⟨-, h⟩ := aH (rH hd)
  obtain ⟨a1, a2, a3⟩ := eM hd (by show d + 20 <= 46; exact fq264 hd.2) h
  have T := tab2 (P := d + 20) (by exact wg hd.1) (by exact v8 hd.2)
  obtain ⟨n, hn⟩ : ∃ n, n = decide (y.1 < 0) := ⟨_, rfl⟩
  have F := a3 n
  have ht : bM (x, y) d = jh (sg n ((Nat.div (eY (Nat.add d 20)) 2 : Nat) : Int)) ((d + 20 : Nat) : Int) d := by
    have : aA y x ((d : Int) + 10) 496 = af (sg n ((Nat.div (eY (Nat.add d 20)) 2 : Nat) : Int)) (-((d + 20 : Nat) : Int)) ((d : Int) + 10) 496 := by
      unfold aA cJ
      have z0 : decide (y.1 = 0) = false := decide_eq_false hy
      have z1 : decide (x.1 = 0) = true := decide_eq_true hx
      rw [z0, z1, <- hn]
      simp only [cond_true, cond_false]
      have e : (d : Int) + 10 + 10 = ((d + 20 : Nat) : Int) := by push_cast; exact fq75
      rw [e, T.pi]
      have e2 : 1 * (eY (d + 20) : Int) / 2 = ((Nat.div (eY (Nat.add d 20)) 2 : Nat) : Int) := by
        show _ = ((eY (d + 20) / 2 : Nat) : Int); exact fq720
      rw [e2]
      rfl
    show af (aA y x ((d : Int) + 10) 496).1 (aA y x ((d : Int) + 10) 496).2 d 99 = _
    rw [this]; rfl
  rw [ht]
  have v0 : 0 < ab (val y) := by
    have := bj (val y)
    by_cases q : ab (val y) = 0
    · exfalso
      have h1 := cR (val y)
      have h2 := bB (val y)
      exact hy (bw.mp (by exact gq168 h2 h1 q))
    · exact gq36 this q
  have F2 := F.scale v0
  have e1 : fx false 0 * ab (val y) = val x := by
    rw [bw.mpr hx]
    show ((0 : Nat) : Rat) * _ = 0
    have : ((0 : Nat) : Rat) = 0 := rfl
    rw [this]; exact gq32
  have e2 : fx n 1 * ab (val y) = val y := by
    have o : ((1 : Nat) : Rat) = 1 := rfl
    cases n with
    | false =>
      have : ¬ y.1 < 0 := fun q => by rw [decide_eq_true q] at hn; cases hn
      show ((1 : Nat) : Rat) * _ = _
      rw [o, ba (ew.mpr (by lia -abstractProof))]; exact gq128
    | true =>
      have : y.1 < 0 := of_decide_eq_true hn.symm
      have h1 := dZ.mpr this
      show -((1 : Nat) : Rat) * _ = _
      rw [o, <- dA, ba (by exact gq144 h1)]; exact gq30
  rw [e1, e2] at F2
  exact F2
end

section
noncomputable def nD (p : Nat -> Bool) (n : Nat) : Bool := @Nat.rec (fun _ => Bool) true (fun i ih => @Bool.rec (fun _ => Bool) false ih (p i)) n
theorem d5 {p : Nat -> Bool} : ∀ {n : Nat}, nD p n = true -> ∀ i, i < n -> p i = true
  | 0, h, i, hi => by lia -abstractProof
  | n + 1, h, i, hi => by
    have h' : @Bool.rec (fun _ => Bool) false (nD p n) (p n) = true := h
    cases hp : p n with
    | false => rw [hp] at h'; cases h'
    | true =>
      rw [hp] at h'
      rcases Nat.lt_or_ge i n with q | q
      · exact d5 h' i q
      · rw [show i = n by lia -abstractProof]; exact hp

/-- a mantissa and an exponent (laid up by 2) of the law's decimals -/
noncomputable def inL (m o : Nat) : Bool := @Bool.rec (fun _ => Bool) (@Bool.rec (fun _ => Bool) true (Nat.ble m 3) (Nat.beq o 3)) false (Nat.beq (Nat.mod m 10) 0)
noncomputable def rN (m o : Nat) : Prop := m < 39 /\ o < 4 /\ m % 10 ≠ 0 /\ (o = 3 -> m <= 3)
theorem j5 {m o : Nat} (h : rN m o) : inL m o = true := by
  obtain ⟨h1, h2, h3, h4⟩ := h
  unfold inL
  have e1 : Nat.beq (Nat.mod m 10) 0 = false := by
    cases hb : Nat.beq (Nat.mod m 10) 0 with
    | false => rfl
    | true => exact absurd (fG hb) h3
  rw [e1]
  show @Bool.rec (fun _ => Bool) true (Nat.ble m 3) (Nat.beq o 3) = true
  cases hb : Nat.beq o 3 with
  | false => rfl
  | true => exact Nat.ble_eq_true_of_le (h4 (fG hb))

noncomputable def iG (d mx ox my oy : Nat) : Bool :=
  j3 d (Nat.add (Nat.mul (Nat.mul mx mx) (Nat.pow 10 (Nat.mul 2 (Nat.sub ox oy)))) (Nat.mul (Nat.mul my my) (Nat.pow 10 (Nat.mul 2 (Nat.sub oy ox))))) (Nat.mul 2 (@Bool.rec (fun _ => Nat) oy ox (Nat.ble ox oy)))
noncomputable def mZ (d ox mx : Nat) : Bool := @Bool.rec (fun _ => Bool) true (nD (fun oy => @Bool.rec (fun _ => Bool) true (nD (fun my => @Bool.rec (fun _ => Bool) true
  (@Bool.rec (fun _ => Bool) true (iG d mx ox my oy) (Nat.ble (Nat.add (Nat.mul 39 ox) mx) (Nat.add (Nat.mul 39 oy) my))) (inL my oy)) 39) (Nat.ble ox oy)) 4) (inL mx ox)
noncomputable def bD (d ox a n : Nat) : Bool := nD (fun i => mZ d ox (Nat.add a i)) n
noncomputable def j4 (d ox : Nat) : Bool := nD (fun mx => @Bool.rec (fun _ => Bool) true (j3 d (Nat.mul mx mx) (Nat.mul 2 ox)) (inL mx ox)) 39
noncomputable def nA (d ox oy mx : Nat) : Bool := @Bool.rec (fun _ => Bool) true (nD (fun my => @Bool.rec (fun _ => Bool) true (gR d mx ox my oy) (inL my oy)) 39) (inL mx ox)
noncomputable def aG (d ox oy a n : Nat) : Bool := nD (fun i => nA d ox oy (Nat.add a i)) n

theorem vu : bD 4 0 0 10 = true := by decide +kernel
theorem s8 : bD 4 0 10 10 = true := by decide +kernel
theorem s7 : bD 4 0 20 10 = true := by decide +kernel
theorem s6 : bD 4 0 30 9 = true := by decide +kernel
theorem lo_4_0 : j4 4 0 = true := by decide +kernel
theorem vt : bD 4 1 0 10 = true := by decide +kernel
theorem sZ : bD 4 1 10 10 = true := by decide +kernel
theorem sY : bD 4 1 20 10 = true := by decide +kernel
theorem sX : bD 4 1 30 9 = true := by decide +kernel
theorem lo_4_1 : j4 4 1 = true := by decide +kernel
theorem vr : bD 4 2 0 10 = true := by decide +kernel
theorem sW : bD 4 2 10 10 = true := by decide +kernel
theorem sV : bD 4 2 20 10 = true := by decide +kernel
theorem sU : bD 4 2 30 9 = true := by decide +kernel
theorem lo_4_2 : j4 4 2 = true := by decide +kernel
theorem vq : bD 4 3 0 4 = true := by decide +kernel
theorem lo_4_3 : j4 4 3 = true := by decide +kernel
theorem uj : aG 4 0 0 0 10 = true := by decide +kernel
theorem qL : aG 4 0 0 10 10 = true := by decide +kernel
theorem qK : aG 4 0 0 20 10 = true := by decide +kernel
theorem qJ : aG 4 0 0 30 9 = true := by decide +kernel
theorem uf : aG 4 1 0 0 10 = true := by decide +kernel
theorem qy : aG 4 1 0 10 10 = true := by decide +kernel
theorem qx : aG 4 1 0 20 10 = true := by decide +kernel
theorem qw : aG 4 1 0 30 9 = true := by decide +kernel
theorem ue : aG 4 2 0 0 10 = true := by decide +kernel
theorem qv : aG 4 2 0 10 10 = true := by decide +kernel
theorem qu : aG 4 2 0 20 10 = true := by decide +kernel
theorem qt : aG 4 2 0 30 9 = true := by decide +kernel
theorem ui : aG 4 0 1 0 10 = true := by decide +kernel
theorem qI : aG 4 0 1 10 10 = true := by decide +kernel
theorem qH : aG 4 0 1 20 10 = true := by decide +kernel
theorem qG : aG 4 0 1 30 9 = true := by decide +kernel
theorem uh : aG 4 0 2 0 10 = true := by decide +kernel
theorem qF : aG 4 0 2 10 10 = true := by decide +kernel
theorem qD : aG 4 0 2 20 10 = true := by decide +kernel
theorem qC : aG 4 0 2 30 9 = true := by decide +kernel
theorem ug : aG 4 0 3 0 10 = true := by decide +kernel
theorem qB : aG 4 0 3 10 10 = true := by decide +kernel
theorem qA : aG 4 0 3 20 10 = true := by decide +kernel
theorem qz : aG 4 0 3 30 9 = true := by decide +kernel
theorem ud : aG 4 3 0 0 4 = true := by decide +kernel
theorem vp : bD 5 0 0 10 = true := by decide +kernel
theorem sT : bD 5 0 10 10 = true := by decide +kernel
theorem sR : bD 5 0 20 10 = true := by decide +kernel
theorem sQ : bD 5 0 30 9 = true := by decide +kernel
theorem lo_5_0 : j4 5 0 = true := by decide +kernel
theorem vo : bD 5 1 0 10 = true := by decide +kernel
theorem sP : bD 5 1 10 10 = true := by decide +kernel
theorem sM : bD 5 1 20 10 = true := by decide +kernel
theorem sK : bD 5 1 30 9 = true := by decide +kernel
theorem lo_5_1 : j4 5 1 = true := by decide +kernel
theorem vm : bD 5 2 0 10 = true := by decide +kernel
theorem sJ : bD 5 2 10 10 = true := by decide +kernel
theorem sI : bD 5 2 20 10 = true := by decide +kernel
theorem sH : bD 5 2 30 9 = true := by decide +kernel
theorem lo_5_2 : j4 5 2 = true := by decide +kernel
theorem vl : bD 5 3 0 4 = true := by decide +kernel
theorem lo_5_3 : j4 5 3 = true := by decide +kernel
theorem uc : aG 5 0 0 0 10 = true := by decide +kernel
theorem qs : aG 5 0 0 10 10 = true := by decide +kernel
theorem qr : aG 5 0 0 20 10 = true := by decide +kernel
theorem qq : aG 5 0 0 30 9 = true := by decide +kernel
theorem t7 : aG 5 1 0 0 10 = true := by decide +kernel
theorem qf : aG 5 1 0 10 10 = true := by decide +kernel
theorem qd : aG 5 1 0 20 10 = true := by decide +kernel
theorem qc : aG 5 1 0 30 9 = true := by decide +kernel
theorem tZ : aG 5 2 0 0 10 = true := by decide +kernel
theorem qb : aG 5 2 0 10 10 = true := by decide +kernel
theorem qa : aG 5 2 0 20 10 = true := by decide +kernel
theorem pZ : aG 5 2 0 30 9 = true := by decide +kernel
theorem ua : aG 5 0 1 0 10 = true := by decide +kernel
theorem qp : aG 5 0 1 10 10 = true := by decide +kernel
theorem qo : aG 5 0 1 20 10 = true := by decide +kernel
theorem qm : aG 5 0 1 30 9 = true := by decide +kernel
theorem t9 : aG 5 0 2 0 10 = true := by decide +kernel
theorem ql : aG 5 0 2 10 10 = true := by decide +kernel
theorem qk : aG 5 0 2 20 10 = true := by decide +kernel
theorem qj : aG 5 0 2 30 9 = true := by decide +kernel
theorem t8 : aG 5 0 3 0 10 = true := by decide +kernel
theorem qi : aG 5 0 3 10 10 = true := by decide +kernel
theorem qh : aG 5 0 3 20 10 = true := by decide +kernel
theorem qg : aG 5 0 3 30 9 = true := by decide +kernel
theorem tX : aG 5 3 0 0 4 = true := by decide +kernel
theorem vk : bD 6 0 0 10 = true := by decide +kernel
theorem sG : bD 6 0 10 10 = true := by decide +kernel
theorem sF : bD 6 0 20 10 = true := by decide +kernel
theorem sE : bD 6 0 30 9 = true := by decide +kernel
theorem lo_6_0 : j4 6 0 = true := by decide +kernel
theorem vj : bD 6 1 0 10 = true := by decide +kernel
theorem sD : bD 6 1 10 10 = true := by decide +kernel
theorem sB : bD 6 1 20 10 = true := by decide +kernel
theorem sA : bD 6 1 30 9 = true := by decide +kernel
theorem lo_6_1 : j4 6 1 = true := by decide +kernel
theorem vg : bD 6 2 0 10 = true := by decide +kernel
theorem sy : bD 6 2 10 10 = true := by decide +kernel
theorem sw : bD 6 2 20 10 = true := by decide +kernel
theorem sv : bD 6 2 30 9 = true := by decide +kernel
theorem lo_6_2 : j4 6 2 = true := by decide +kernel
theorem vf : bD 6 3 0 4 = true := by decide +kernel
theorem lo_6_3 : j4 6 3 = true := by decide +kernel
theorem tW : aG 6 0 0 0 10 = true := by decide +kernel
theorem pY : aG 6 0 0 10 10 = true := by decide +kernel
theorem pX : aG 6 0 0 20 10 = true := by decide +kernel
theorem pW : aG 6 0 0 30 9 = true := by decide +kernel
theorem tR : aG 6 1 0 0 10 = true := by decide +kernel
theorem pM : aG 6 1 0 10 10 = true := by decide +kernel
theorem pL : aG 6 1 0 20 10 = true := by decide +kernel
theorem pK : aG 6 1 0 30 9 = true := by decide +kernel
theorem tQ : aG 6 2 0 0 10 = true := by decide +kernel
theorem pJ : aG 6 2 0 10 10 = true := by decide +kernel
theorem pI : aG 6 2 0 20 10 = true := by decide +kernel
theorem pH : aG 6 2 0 30 9 = true := by decide +kernel
theorem tV : aG 6 0 1 0 10 = true := by decide +kernel
theorem pV : aG 6 0 1 10 10 = true := by decide +kernel
theorem pU : aG 6 0 1 20 10 = true := by decide +kernel
theorem pT : aG 6 0 1 30 9 = true := by decide +kernel
theorem tU : aG 6 0 2 0 10 = true := by decide +kernel
theorem pS : aG 6 0 2 10 10 = true := by decide +kernel
theorem pR : aG 6 0 2 20 10 = true := by decide +kernel
theorem pQ : aG 6 0 2 30 9 = true := by decide +kernel
theorem tT : aG 6 0 3 0 10 = true := by decide +kernel
theorem pP : aG 6 0 3 10 10 = true := by decide +kernel
theorem pO : aG 6 0 3 20 10 = true := by decide +kernel
theorem pN : aG 6 0 3 30 9 = true := by decide +kernel
theorem tP : aG 6 3 0 0 4 = true := by decide +kernel
end

section
theorem row_of {d ox mx : Nat} (hd : 4 <= d /\ d <= 6) (h : rN mx ox) : mZ d ox mx = true := by
  obtain ⟨h1, h2, h3, h4⟩ := h
  have hb : ∀ a n, bD d ox a n = true -> a <= mx -> mx < a + n -> mZ d ox mx = true := fun a n b c e => by
    have := d5 b (mx - a) (by exact fq291 e c)
    rw [show Nat.add a (mx - a) = mx from by show a + (mx - a) = mx; exact fq287 c] at this
    exact this
  have cd : d = 4 \/ d = 5 \/ d = 6 := by exact s9 hd.1 hd.2
  have co : ox = 0 \/ ox = 1 \/ ox = 2 \/ ox = 3 := by exact wf h2
  have cm : mx < 10 \/ (10 <= mx /\ mx < 20) \/ (20 <= mx /\ mx < 30) \/ (30 <= mx) := by exact fq245

  rcases cd with rfl | rfl | rfl <;> rcases co with rfl | rfl | rfl | rfl
  · rcases cm with c | c | c | c
    · exact hb 0 10 vu (by exact iS) (by exact ka c)
    · exact hb 10 10 s8 (by exact kg c.1) (by exact j9 c.2)
    · exact hb 20 10 s7 (by exact ke c.1) (by exact j8 c.2)
    · exact hb 30 9 s6 (by exact kd c) (by exact eF h1)
  · rcases cm with c | c | c | c
    · exact hb 0 10 vt (by exact iS) (by exact ka c)
    · exact hb 10 10 sZ (by exact kg c.1) (by exact j9 c.2)
    · exact hb 20 10 sY (by exact ke c.1) (by exact j8 c.2)
    · exact hb 30 9 sX (by exact kd c) (by exact eF h1)
  · rcases cm with c | c | c | c
    · exact hb 0 10 vr (by exact iS) (by exact ka c)
    · exact hb 10 10 sW (by exact kg c.1) (by exact j9 c.2)
    · exact hb 20 10 sV (by exact ke c.1) (by exact j8 c.2)
    · exact hb 30 9 sU (by exact kd c) (by exact eF h1)
  · exact hb 0 4 vq (by exact iS) (by have := h4 rfl; exact td h4)
  · rcases cm with c | c | c | c
    · exact hb 0 10 vp (by exact iS) (by exact ka c)
    · exact hb 10 10 sT (by exact kg c.1) (by exact j9 c.2)
    · exact hb 20 10 sR (by exact ke c.1) (by exact j8 c.2)
    · exact hb 30 9 sQ (by exact kd c) (by exact eF h1)
  · rcases cm with c | c | c | c
    · exact hb 0 10 vo (by exact iS) (by exact ka c)
    · exact hb 10 10 sP (by exact kg c.1) (by exact j9 c.2)
    · exact hb 20 10 sM (by exact ke c.1) (by exact j8 c.2)
    · exact hb 30 9 sK (by exact kd c) (by exact eF h1)
  · rcases cm with c | c | c | c
    · exact hb 0 10 vm (by exact iS) (by exact ka c)
    · exact hb 10 10 sJ (by exact kg c.1) (by exact j9 c.2)
    · exact hb 20 10 sI (by exact ke c.1) (by exact j8 c.2)
    · exact hb 30 9 sH (by exact kd c) (by exact eF h1)
  · exact hb 0 4 vl (by exact iS) (by have := h4 rfl; exact td h4)
  · rcases cm with c | c | c | c
    · exact hb 0 10 vk (by exact iS) (by exact ka c)
    · exact hb 10 10 sG (by exact kg c.1) (by exact j9 c.2)
    · exact hb 20 10 sF (by exact ke c.1) (by exact j8 c.2)
    · exact hb 30 9 sE (by exact kd c) (by exact eF h1)
  · rcases cm with c | c | c | c
    · exact hb 0 10 vj (by exact iS) (by exact ka c)
    · exact hb 10 10 sD (by exact kg c.1) (by exact j9 c.2)
    · exact hb 20 10 sB (by exact ke c.1) (by exact j8 c.2)
    · exact hb 30 9 sA (by exact kd c) (by exact eF h1)
  · rcases cm with c | c | c | c
    · exact hb 0 10 vg (by exact iS) (by exact ka c)
    · exact hb 10 10 sy (by exact kg c.1) (by exact j9 c.2)
    · exact hb 20 10 sw (by exact ke c.1) (by exact j8 c.2)
    · exact hb 30 9 sv (by exact kd c) (by exact eF h1)
  · exact hb 0 4 vf (by exact iS) (by have := h4 rfl; exact td h4)

theorem log1_of {d ox : Nat} (hd : 4 <= d /\ d <= 6) (h : ox < 4) : j4 d ox = true := by
  have cd : d = 4 \/ d = 5 \/ d = 6 := by exact s9 hd.1 hd.2
  have co : ox = 0 \/ ox = 1 \/ ox = 2 \/ ox = 3 := by exact wf h
  rcases cd with rfl | rfl | rfl <;> rcases co with rfl | rfl | rfl | rfl
  · exact lo_4_0
  · exact lo_4_1
  · exact lo_4_2
  · exact lo_4_3
  · exact lo_5_0
  · exact lo_5_1
  · exact lo_5_2
  · exact lo_5_3
  · exact lo_6_0
  · exact lo_6_1
  · exact lo_6_2
  · exact lo_6_3

theorem arow_of {d ox oy mx : Nat} (hd : 4 <= d /\ d <= 6) (h : rN mx ox) (ho : (ox = 0 /\ oy <= 3) \/ (oy = 0 /\ ox <= 3)) : nA d ox oy mx = true := by
  obtain ⟨h1, h2, h3, h4⟩ := h
  have hb : ∀ a n, aG d ox oy a n = true -> a <= mx -> mx < a + n -> nA d ox oy mx = true := fun a n b c e => by
    have := d5 b (mx - a) (by exact fq291 e c)
    rw [show Nat.add a (mx - a) = mx from by show a + (mx - a) = mx; exact fq287 c] at this
    exact this
  have cd : d = 4 \/ d = 5 \/ d = 6 := by exact s9 hd.1 hd.2
  have co : (ox = 0 /\ oy = 0) \/ (ox = 1 /\ oy = 0) \/ (ox = 2 /\ oy = 0) \/ (ox = 0 /\ oy = 1) \/ (ox = 0 /\ oy = 2) \/ (ox = 0 /\ oy = 3) \/ (ox = 3 /\ oy = 0) := by exact fq828 ho
  have cm : mx < 10 \/ (10 <= mx /\ mx < 20) \/ (20 <= mx /\ mx < 30) \/ (30 <= mx) := by exact fq245
  rcases cd with rfl | rfl | rfl <;> rcases co with ⟨rfl, rfl⟩ | ⟨rfl, rfl⟩ | ⟨rfl, rfl⟩ | ⟨rfl, rfl⟩ | ⟨rfl, rfl⟩ | ⟨rfl, rfl⟩ | ⟨rfl, rfl⟩
  · rcases cm with c | c | c | c
    · exact hb 0 10 uj (by exact iS) (by exact ka c)
    · exact hb 10 10 qL (by exact kg c.1) (by exact j9 c.2)
    · exact hb 20 10 qK (by exact ke c.1) (by exact j8 c.2)
    · exact hb 30 9 qJ (by exact kd c) (by exact eF h1)
  · rcases cm with c | c | c | c
    · exact hb 0 10 uf (by exact iS) (by exact ka c)
    · exact hb 10 10 qy (by exact kg c.1) (by exact j9 c.2)
    · exact hb 20 10 qx (by exact ke c.1) (by exact j8 c.2)
    · exact hb 30 9 qw (by exact kd c) (by exact eF h1)
  · rcases cm with c | c | c | c
    · exact hb 0 10 ue (by exact iS) (by exact ka c)
    · exact hb 10 10 qv (by exact kg c.1) (by exact j9 c.2)
    · exact hb 20 10 qu (by exact ke c.1) (by exact j8 c.2)
    · exact hb 30 9 qt (by exact kd c) (by exact eF h1)
  · rcases cm with c | c | c | c
    · exact hb 0 10 ui (by exact iS) (by exact ka c)
    · exact hb 10 10 qI (by exact kg c.1) (by exact j9 c.2)
    · exact hb 20 10 qH (by exact ke c.1) (by exact j8 c.2)
    · exact hb 30 9 qG (by exact kd c) (by exact eF h1)
  · rcases cm with c | c | c | c
    · exact hb 0 10 uh (by exact iS) (by exact ka c)
    · exact hb 10 10 qF (by exact kg c.1) (by exact j9 c.2)
    · exact hb 20 10 qD (by exact ke c.1) (by exact j8 c.2)
    · exact hb 30 9 qC (by exact kd c) (by exact eF h1)
  · rcases cm with c | c | c | c
    · exact hb 0 10 ug (by exact iS) (by exact ka c)
    · exact hb 10 10 qB (by exact kg c.1) (by exact j9 c.2)
    · exact hb 20 10 qA (by exact ke c.1) (by exact j8 c.2)
    · exact hb 30 9 qz (by exact kd c) (by exact eF h1)
  · exact hb 0 4 ud (by exact iS) (by have := h4 rfl; exact td h4)
  · rcases cm with c | c | c | c
    · exact hb 0 10 uc (by exact iS) (by exact ka c)
    · exact hb 10 10 qs (by exact kg c.1) (by exact j9 c.2)
    · exact hb 20 10 qr (by exact ke c.1) (by exact j8 c.2)
    · exact hb 30 9 qq (by exact kd c) (by exact eF h1)
  · rcases cm with c | c | c | c
    · exact hb 0 10 t7 (by exact iS) (by exact ka c)
    · exact hb 10 10 qf (by exact kg c.1) (by exact j9 c.2)
    · exact hb 20 10 qd (by exact ke c.1) (by exact j8 c.2)
    · exact hb 30 9 qc (by exact kd c) (by exact eF h1)
  · rcases cm with c | c | c | c
    · exact hb 0 10 tZ (by exact iS) (by exact ka c)
    · exact hb 10 10 qb (by exact kg c.1) (by exact j9 c.2)
    · exact hb 20 10 qa (by exact ke c.1) (by exact j8 c.2)
    · exact hb 30 9 pZ (by exact kd c) (by exact eF h1)
  · rcases cm with c | c | c | c
    · exact hb 0 10 ua (by exact iS) (by exact ka c)
    · exact hb 10 10 qp (by exact kg c.1) (by exact j9 c.2)
    · exact hb 20 10 qo (by exact ke c.1) (by exact j8 c.2)
    · exact hb 30 9 qm (by exact kd c) (by exact eF h1)
  · rcases cm with c | c | c | c
    · exact hb 0 10 t9 (by exact iS) (by exact ka c)
    · exact hb 10 10 ql (by exact kg c.1) (by exact j9 c.2)
    · exact hb 20 10 qk (by exact ke c.1) (by exact j8 c.2)
    · exact hb 30 9 qj (by exact kd c) (by exact eF h1)
  · rcases cm with c | c | c | c
    · exact hb 0 10 t8 (by exact iS) (by exact ka c)
    · exact hb 10 10 qi (by exact kg c.1) (by exact j9 c.2)
    · exact hb 20 10 qh (by exact ke c.1) (by exact j8 c.2)
    · exact hb 30 9 qg (by exact kd c) (by exact eF h1)
  · exact hb 0 4 tX (by exact iS) (by have := h4 rfl; exact td h4)
  · rcases cm with c | c | c | c
    · exact hb 0 10 tW (by exact iS) (by exact ka c)
    · exact hb 10 10 pY (by exact kg c.1) (by exact j9 c.2)
    · exact hb 20 10 pX (by exact ke c.1) (by exact j8 c.2)
    · exact hb 30 9 pW (by exact kd c) (by exact eF h1)
  · rcases cm with c | c | c | c
    · exact hb 0 10 tR (by exact iS) (by exact ka c)
    · exact hb 10 10 pM (by exact kg c.1) (by exact j9 c.2)
    · exact hb 20 10 pL (by exact ke c.1) (by exact j8 c.2)
    · exact hb 30 9 pK (by exact kd c) (by exact eF h1)
  · rcases cm with c | c | c | c
    · exact hb 0 10 tQ (by exact iS) (by exact ka c)
    · exact hb 10 10 pJ (by exact kg c.1) (by exact j9 c.2)
    · exact hb 20 10 pI (by exact ke c.1) (by exact j8 c.2)
    · exact hb 30 9 pH (by exact kd c) (by exact eF h1)
  · rcases cm with c | c | c | c
    · exact hb 0 10 tV (by exact iS) (by exact ka c)
    · exact hb 10 10 pV (by exact kg c.1) (by exact j9 c.2)
    · exact hb 20 10 pU (by exact ke c.1) (by exact j8 c.2)
    · exact hb 30 9 pT (by exact kd c) (by exact eF h1)
  · rcases cm with c | c | c | c
    · exact hb 0 10 tU (by exact iS) (by exact ka c)
    · exact hb 10 10 pS (by exact kg c.1) (by exact j9 c.2)
    · exact hb 20 10 pR (by exact ke c.1) (by exact j8 c.2)
    · exact hb 30 9 pQ (by exact kd c) (by exact eF h1)
  · rcases cm with c | c | c | c
    · exact hb 0 10 tT (by exact iS) (by exact ka c)
    · exact hb 10 10 pP (by exact kg c.1) (by exact j9 c.2)
    · exact hb 20 10 pO (by exact ke c.1) (by exact j8 c.2)
    · exact hb 30 9 pN (by exact kd c) (by exact eF h1)
  · exact hb 0 4 tP (by exact iS) (by have := h4 rfl; exact td h4)

theorem ang_all {d mx ox my oy : Nat} (hd : 4 <= d /\ d <= 6) (hx : rN mx ox) (hy : rN my oy) : gR d mx ox my oy = true := by
  -- laid down to the least exponent
  have key : ∀ k : Nat, k <= ox -> k <= oy -> ((ox - k = 0 /\ oy - k <= 3) \/ (oy - k = 0 /\ ox - k <= 3)) -> gR d mx ox my oy = true := by
    intro k k1 k2 k3
    have hx' : rN mx (ox - k) := ⟨hx.1, by have := hx.2.1; exact fq281 this, hx.2.2.1, fun h => hx.2.2.2 (by have := hx.2.1; exact fq280 h this)⟩
    have hy' : rN my (oy - k) := ⟨hy.1, by have := hy.2.1; exact fq281 this, hy.2.2.1, fun h => hy.2.2.2 (by have := hy.2.1; exact fq280 h this)⟩
    have r := arow_of hd hx' k3
    unfold nA at r
    rw [j5 hx'] at r
    have r2 := d5 r my hy'.1
    rw [j5 hy'] at r2
    have r3 : gR d mx (ox - k) my (oy - k) = true := r2
    rw [<- nC d mx (ox - k) my (oy - k) k, show ox - k + k = ox by exact fq286 k1, show oy - k + k = oy by exact fq286 k2] at r3
    exact r3
  have a := hx.2.1
  have b := hy.2.1
  rcases Nat.le_total ox oy with q | q
  · exact key ox (by exact fq265) q (by exact fq865 b)
  · exact key oy q (by exact fq265) (by exact fq864 a)

theorem m5 (d mx ox my oy : Nat) : iG d mx ox my oy = iG d my oy mx ox := by
  unfold iG
  congr 1
  · exact Nat.add_comm _ _
  · congr 1
    cases h1 : Nat.ble ox oy <;> cases h2 : Nat.ble oy ox
    · have := fE h1; have := fE h2; exact fq875 ‹_› this
    · rfl
    · rfl
    · have := bx h1; have := bx h2
      show ox = oy; exact fq288 ‹_› this

theorem log_all {d mx ox my oy : Nat} (hd : 4 <= d /\ d <= 6) (hx : rN mx ox) (hy : rN my oy) : iG d mx ox my oy = true := by
  have key : ∀ {mx ox my oy : Nat}, rN mx ox -> rN my oy -> ox <= oy -> 39 * ox + mx <= 39 * oy + my -> iG d mx ox my oy = true := by
    intro mx ox my oy hx hy h1 h2
    have r := row_of hd hx
    unfold mZ at r
    rw [j5 hx] at r
    have r2 := d5 r oy hy.2.1
    rw [Nat.ble_eq_true_of_le h1] at r2
    have r3 := d5 r2 my hy.1
    rw [j5 hy] at r3
    have e : Nat.ble (Nat.add (Nat.mul 39 ox) mx) (Nat.add (Nat.mul 39 oy) my) = true := Nat.ble_eq_true_of_le h2
    rw [e] at r3
    exact r3
  have a := hx.1
  have b := hy.1
  rcases Nat.lt_or_ge (39 * oy + my) (39 * ox + mx) with q | q
  · rw [m5]
    exact key hy hx (by exact fq916 q a) (by exact fq282 q)
  · exact key hx hy (by exact fq917 q b) q

theorem rA {d mx ox : Nat} (hd : 4 <= d /\ d <= 6) (hx : rN mx ox) : j3 d (mx * mx) (2 * ox) = true := by
  have r := d5 (log1_of hd hx.2.1) mx hx.1
  rw [j5 hx] at r
  exact r
end

section
/-! ## the checks at one decimal m * 10 ^ (ox - 2), m > 0 -/
noncomputable def wx (P f1 k1 f2 k2 : Nat) : Bool :=
  d6 (Nat.ble f1 (Nat.pow 10 (Nat.add P 1))) (d6 (Nat.ble f2 (Nat.pow 10 (Nat.add P 1))) (d6 (Nat.ble k1 40) (d6 (Nat.ble k2 40) (d6 (Nat.ble 20 k1)
    ((fun a => (fun b => d6 (Nat.ble (Nat.mul a 10000000000) (Nat.mul b 10000000001)) (d6 (Nat.ble (Nat.mul b 10000000000) (Nat.add (Nat.mul a 10000000000) b))
      (Nat.ble (Nat.mul 1001 (Nat.pow 10 P)) (Nat.mul 1000 (Nat.mul f1 (Nat.pow 10 (Nat.sub k1 20))))) false) false) (Nat.pow 10 (Nat.add (Nat.mul 2 P) 40))) (Nat.mul (Nat.mul f1 f2) (Nat.pow 10 (Nat.add k1 k2)))) false) false) false) false) false
noncomputable def pz (d m ox : Nat) : Bool :=
  ndC 2 m fun c => (fun P => d6 (Nat.ble P 46) ((fun n => (fun t20 => d6 (Nat.ble n t20)
      (tF (Nat.pow 10 P) (cO P) (Nat.add t20 n) fun f1 k1 => tF (Nat.pow 10 P) (cO P) (Nat.sub t20 n) fun f2 k2 => wx P f1 k1 f2 k2) false)
      (Nat.mul 20 (cO P))) (Nat.mul m (Nat.pow 10 (Nat.sub (Nat.add ox P) 2)))) false)
    (Nat.add (Nat.add (Nat.mul 2 d) 30) (Nat.sub (Nat.add c ox) 2))

/-- both round alike -/
noncomputable def eqR (d P a b : Nat) : Bool :=
  d6 (Nat.ble (Nat.pow 10 P) (Nat.mul a 1000000)) (d6 (Nat.beq a b) true (nQ (Nat.add P 3) a (Nat.add d 10) fun q j => nQ (Nat.add P 3) b (Nat.add d 10) fun q' j' => d6 (Nat.beq q q') (Nat.beq j j') false)) false
noncomputable def eqS (d P sp sm tp tm : Nat) : Bool :=
  d6 (Nat.blt sm sp) (d6 (Nat.blt tm tp) (eqR d P (Nat.sub sp sm) (Nat.sub tp tm)) false) (d6 (Nat.blt sp sm) (d6 (Nat.blt tp tm) (eqR d P (Nat.sub sm sp) (Nat.sub tm tp)) false) false)
noncomputable def oX (d m ox : Nat) : Bool :=
  ndC 2 m fun c => (fun P => d6 (Nat.ble P 46) ((fun n => (fun p14 => d6 (Nat.ble n p14)
      (lW (Nat.pow 10 P) (eY P) (Nat.add p14 n) fun sp sm cp cm => d6 (iD (Nat.pow 10 P) sp sm cp cm) (lW (Nat.pow 10 P) (eY P) (Nat.sub p14 n) fun tp tm bp bm =>
        d6 (iD (Nat.pow 10 P) tp tm bp bm) (d6 (eqS d P sp sm tm tp) (eqS d P cp cm bp bm) false) false) false) false)
      (Nat.mul 14 (eY P))) (Nat.mul m (Nat.pow 10 (Nat.sub (Nat.add ox P) 2)))) false)
    (Nat.add (Nat.add (Nat.mul 2 d) 30) (Nat.sub (Nat.add c ox) 2))

theorem dD (x : Re) : ak (ah x) = ak x := by show nd (-x.1) + x.2 = nd x.1 + x.2; rw [fw]
theorem dy (x : Re) (D : Int) : ac (ah x) D = ac x D := by
  unfold ac
  rw [dD]
  show D + max D (nd (-x.1)) + 10 + _ = _
  rw [fw]

structure Exp1 (x : Re) (D : Int) : Prop where
  e : ExpF x D
  e' : ExpF (ah x) D
  p : 0 < ds x D
  p' : 0 < ds (ah x) D
  k : 0 <= dz x D
  b : aj (-22) <= (ds x D : Rat) * aj (dz x D - ac x D) /\ (ds x D : Rat) * aj (dz x D - ac x D) <= aj 21
  b' : aj (-22) <= (ds (ah x) D : Rat) * aj (dz (ah x) D - ac x D) /\ (ds (ah x) D : Rat) * aj (dz (ah x) D - ac x D) <= aj 21
  prod : ab ((ds x D : Rat) * aj (dz x D - ac x D) * ((ds (ah x) D : Rat) * aj (dz (ah x) D - ac x D)) - 1) <= aj (-10)
  grown : 1001 * 10 ^ (ac x D).toNat <= 1000 * az x D
  grown2 : az x D <= 10 ^ (ac x D + 21).toNat

theorem pv {P f1 k1 f2 k2 : Nat} (h : wx P f1 k1 f2 k2 = true) : f1 <= 10 ^ (P + 1) /\ f2 <= 10 ^ (P + 1) /\ k1 <= 40 /\ k2 <= 40 /\ 20 <= k1 /\ 1001 * 10 ^ P <= 1000 * (f1 * 10 ^ (k1 - 20)) /\ 0 < f1 /\ 0 < f2 /\
    ab (((f1 : Int) : Rat) * aj ((k1 : Int) - 20 - P) * (((f2 : Int) : Rat) * aj ((k2 : Int) - 20 - P)) - 1) <= aj (-10) := by
  obtain ⟨a1, h⟩ := aH h
  obtain ⟨a2, h⟩ := aH h
  obtain ⟨a3, h⟩ := aH h
  obtain ⟨a4, h⟩ := aH h
  obtain ⟨a5, h⟩ := aH h
  obtain ⟨a6, h⟩ := aH h
  obtain ⟨a7, h⟩ := aH h
  have a6 : f1 * f2 * 10 ^ (k1 + k2) * 10000000000 <= 10 ^ (2 * P + 40) * 10000000001 := bx a6
  have a7 : 10 ^ (2 * P + 40) * 10000000000 <= f1 * f2 * 10 ^ (k1 + k2) * 10000000000 + 10 ^ (2 * P + 40) := bx a7
  have bp : 0 < 10 ^ (2 * P + 40) := Nat.pow_pos (by decide)
  have ff : f1 * f2 * 10 ^ (k1 + k2) ≠ 0 := by intro z; rw [z] at a7; exact fq736 bp a7
  have f10 : 0 < f1 := by
    rcases Nat.eq_zero_or_pos f1 with z | z
    · exact absurd (by rw [z]; simp) ff
    · exact z
  have f20 : 0 < f2 := by
    rcases Nat.eq_zero_or_pos f2 with z | z
    · exact absurd (by rw [z]; simp) ff
    · exact z
  refine ⟨bx a1, bx a2, bx a3, bx a4, bx a5, bx h, f10, f20, ?_⟩
  have g1 : ((f1 : Int) : Rat) * aj ((k1 : Int) - 20 - P) * (((f2 : Int) : Rat) * aj ((k2 : Int) - 20 - P)) = ((f1 * f2 * 10 ^ (k1 + k2) : Nat) : Rat) * aj (-((2 * P + 40 : Nat) : Int)) := by
    have : aj ((k1 : Int) - 20 - P) * aj ((k2 : Int) - 20 - P) = ((10 ^ (k1 + k2) : Nat) : Rat) * aj (-((2 * P + 40 : Nat) : Int)) := by
      rw [<- c7, <- aM, <- aM]; exact congrArg aj (by exact fq899)
    rw [Rat.natCast_mul, Rat.natCast_mul, Rat.mul_assoc (((f1 : Nat) : Rat) * ((f2 : Nat) : Rat)), <- this]
    have c : (((f1 : Int)) : Rat) = ((f1 : Nat) : Rat) := rfl
    have c2 : (((f2 : Int)) : Rat) = ((f2 : Nat) : Rat) := rfl
    rw [c, c2]
    generalize aj ((k1 : Int) - 20 - P) = w
    generalize aj ((k2 : Int) - 20 - P) = w'
    generalize ((f1 : Nat) : Rat) = x
    generalize ((f2 : Nat) : Rat) = y
    exact gq20
  have g2 := bA (2 * P + 40)
  have g5 : aj (-10) = 1 / 10000000000 := by
    have h : aj (-10) * 10000000000 = 1 := bA 10
    exact gq42 h
  rw [g1, g5]
  have w0 := aq (-((2 * P + 40 : Nat) : Int))
  generalize aj (-((2 * P + 40 : Nat) : Int)) = w at *
  generalize f1 * f2 * 10 ^ (k1 + k2) = a at *
  generalize 10 ^ (2 * P + 40) = b at *
  have a6 : (a : Rat) * 10000000000 <= b * 10000000001 := by exact_mod_cast a6
  have a7 : (b : Rat) * 10000000000 <= a * 10000000000 + b := by exact_mod_cast a7
  have m1 := Rat.mul_le_mul_of_nonneg_right a6 (Rat.le_of_lt w0)
  have m2 := Rat.mul_le_mul_of_nonneg_right a7 (Rat.le_of_lt w0)
  generalize (a : Rat) = a at *
  generalize (b : Rat) = b at *
  clear g1 a6 a7
  have e1 : a * 10000000000 * w = 10000000000 * (a * w) := by exact gq179
  have e2 : b * 10000000001 * w = 10000000001 * (w * b) := by exact gq182
  have e3 : b * 10000000000 * w = 10000000000 * (w * b) := by exact gq180
  have e4 : (a * 10000000000 + b) * w = 10000000000 * (a * w) + w * b := by exact gq240
  rw [e1, e2, g2] at m1
  rw [e3, e4, g2] at m2
  generalize a * w = z at *
  clear e1 e2 e3 e4 g2
  exact gX (by exact gq108 m2) (by exact gq134 m1)

theorem nk {d m ox : Nat} (hd : 4 <= d /\ d <= 6) (ho : ox <= 3) (h : pz d m ox = true) : Exp1 ((m : Int), (ox : Int) - 2) ((d : Int) + 10) := by
  unfold pz at h
  obtain ⟨c, c1, hc, h, lo, hi, c2⟩ := d4 h
  have m0 : 0 < m := Nat.lt_of_lt_of_le (Nat.pow_pos (by decide)) lo
  simp only at h
  obtain ⟨P, hP⟩ : ∃ P, P = 2 * d + 30 + ((c + ox) - 2) := ⟨_, rfl⟩
  have e1 : Nat.add (Nat.add (Nat.mul 2 d) 30) (Nat.sub (Nat.add c ox) 2) = P := hP.symm
  rw [e1] at h
  obtain ⟨hP46, h⟩ := aH h
  have hP46 : P <= 46 := bx hP46
  have T := tab (P := P) (by exact kx hd.1 hP) hP46
  obtain ⟨hn, h⟩ := aH h
  obtain ⟨n, hn'⟩ : ∃ n, n = m * 10 ^ (ox + P - 2) := ⟨_, rfl⟩
  have e2 : Nat.mul m (Nat.pow 10 (Nat.sub (Nat.add ox P) 2)) = n := hn'.symm
  rw [e2] at h hn
  have hn : n <= 20 * cO P := bx hn
  have hpl : ac ((m : Int), (ox : Int) - 2) ((d : Int) + 10) = P := by
    unfold ac ak
    show (d : Int) + 10 + max ((d : Int) + 10) (nd (m : Int)) + 10 + max 0 (nd (m : Int) + ((ox : Int) - 2)) = P
    rw [hc]; exact fq292 hP c2
  have hpl' : ac (ah ((m : Int), (ox : Int) - 2)) ((d : Int) + 10) = P := by rw [dy, hpl]
  have hex : ((ox : Int) - 2 + P).toNat = ox + P - 2 := by exact fq271
  have f1 : cr ((m : Int), (ox : Int) - 2) (P : Int) = n := by
    rw [fB (by exact fq72 hP), hex, hn']; push_cast; rfl
  have f2 : cr (ah ((m : Int), (ox : Int) - 2)) (P : Int) = -(n : Int) := by
    show cr (-(m : Int), (ox : Int) - 2) (P : Int) = _
    rw [fB (by exact fq72 hP), hex, hn', Int.neg_mul]; push_cast; rfl
  obtain ⟨F1, K1, h, a1, a2⟩ := jc (P := P) (n := cr ((m : Int), (ox : Int) - 2) (P : Int)) rfl T.ten T.t0 (by rw [f1]; show (n : Int) + 20 * (cO P : Int) = ((20 * cO P + n : Nat) : Int); exact fq272) h
  obtain ⟨F2, K2, h, b1, b2⟩ := jc (P := P) (n := cr (ah ((m : Int), (ox : Int) - 2)) (P : Int)) rfl T.ten T.t0 (by rw [f2]; show -(n : Int) + 20 * (cO P : Int) = ((20 * cO P - n : Nat) : Int); exact fq285 hn) h
  obtain ⟨r1, r2, r3, r4, r5, r6, r7, r8, r9⟩ := pv h
  have hK1 : dz ((m : Int), (ox : Int) - 2) ((d : Int) + 10) = (K1 : Int) - 20 := by unfold dz; rw [hpl]; exact a1
  have hF1 : ds ((m : Int), (ox : Int) - 2) ((d : Int) + 10) = F1 := by unfold ds; rw [hK1, hpl]; exact a2
  have hK2 : dz (ah ((m : Int), (ox : Int) - 2)) ((d : Int) + 10) = (K2 : Int) - 20 := by unfold dz; rw [hpl']; exact b1
  have hF2 : ds (ah ((m : Int), (ox : Int) - 2)) ((d : Int) + 10) = F2 := by unfold ds; rw [hK2, hpl']; exact b2
  have big : ∀ F : Nat, F <= 10 ^ (P + 1) -> ((F : Int)).natAbs < 10 ^ 100 := fun F hF => Nat.lt_of_le_of_lt hF (Nat.pow_lt_pow_right (by decide) (by exact fq815 hP46))
  have habs : bL ((m : Int), (ox : Int) - 2) = ((m : Int), (ox : Int) - 2) := rfl
  have hG : az ((m : Int), (ox : Int) - 2) ((d : Int) + 10) = ((F1 * 10 ^ (K1 - 20) : Nat) : Int) := by
    unfold az
    rw [habs, hF1, hK1]
    have : ((K1 : Int) - 20).toNat = K1 - 20 := by exact fq723
    rw [this]; push_cast; rfl
  -- bounds of the values
  have ub : ∀ F K : Nat, F <= 10 ^ (P + 1) -> K <= 40 -> ((F : Int) : Rat) * aj ((K : Int) - 20 - P) <= aj 21 := by
    intro F K hF hK
    have x1 : ((F : Int) : Rat) <= aj ((P + 1 : Nat) : Int) := by rw [c7]; exact_mod_cast hF
    have x2 : aj ((K : Int) - 20 - P) <= aj (20 - P) := aX (by exact fq331 hK)
    have := cf x1 x2 (Rat.le_of_lt (aq _)) (Rat.le_of_lt (aq _))
    rw [<- aM] at this
    have e : ((P + 1 : Nat) : Int) + (20 - P) = 21 := by push_cast; exact fq378
    rw [e] at this; exact this
  have u1 := ub F1 K1 r1 r3
  have u2 := ub F2 K2 r2 r4
  have v1 : 0 < ((F1 : Int) : Rat) * aj ((K1 : Int) - 20 - P) := de.mpr (by exact iQ r7)
  have v2 : 0 < ((F2 : Int) : Rat) * aj ((K2 : Int) - 20 - P) := de.mpr (by exact iQ r8)
  have lb : ∀ {a b : Rat}, 0 < a -> 0 < b -> b <= aj 21 -> ab (a * b - 1) <= aj (-10) -> aj (-22) <= a := by
    intro a b a0 b0 b1 h
    have h1 := bB (a * b - 1)
    have h2 := Rat.mul_le_mul_of_nonneg_left b1 (Rat.le_of_lt a0)
    have h3 : aj (-10) <= 1 / 2 := by
      have : aj (-10) * 10000000000 = 1 := bA 10
      exact gq141 this
    have h4 : (1 / 2 : Rat) <= a * aj 21 := by exact gq302 h1 h2 h h3
    have h5 : aj (-22) * aj 21 = aj (-1) := by rw [<- aM]; congr 1
    have h6 : aj (-1) * 10 = 1 := bA 1
    refine gM (aq 21) ?_
    rw [h5]
    clear h1 h2 h h5
    exact gq204 h4 h6
  have lo1 := lb v1 v2 u2 r9
  have lo2 := lb v2 v1 u1 (by rw [Rat.mul_comm]; exact r9)
  refine ⟨⟨⟨P, hpl, by exact kx hd.1 hP, hP46⟩, by rw [hF1]; exact fX, by rw [hF1]; exact big F1 r1, by rw [hK1]; exact wb r3⟩, ⟨⟨P, hpl', by exact kx hd.1 hP, hP46⟩, by rw [hF2]; exact fX, by rw [hF2]; exact big F2 r2, by rw [hK2]; exact wb r4⟩,
    by rw [hF1]; exact iQ r7, by rw [hF2]; exact iQ r8, by rw [hK1]; exact fq762 r5, ?_, ?_, ?_, ?_, ?_⟩
  · rw [hF1, hK1, hpl]; exact ⟨lo1, u1⟩
  · rw [hF2, hK2, hpl]; exact ⟨lo2, u2⟩
  · rw [hF1, hF2, hK1, hK2, hpl]; exact r9
  · rw [hG, hpl]
    have : ((P : Int)).toNat = P := rfl
    rw [this]; exact_mod_cast r6
  · rw [hG, hpl]
    have : ((P : Int) + 21).toNat = P + 21 := by exact fq246
    rw [this]
    have e : F1 * 10 ^ (K1 - 20) <= 10 ^ (P + 21) := by
      rw [show P + 21 = (P + 1) + 20 by exact fq776, Nat.pow_add 10 (P + 1) 20]
      exact Nat.mul_le_mul r1 (Nat.pow_le_pow_right (by decide) (by exact fq812 r3))
    exact_mod_cast e
end

section
structure Wav1 (x : Re) (D : Int) : Prop where
  P : ∃ P : Nat, ac x D = P /\ 38 <= P /\ P <= 46
  norm : ab (wv x D 1 * wv x D 1 + wv x D 0 * wv x D 0 - 1) <= aj (-10)
  norm' : ab (wv (ah x) D 1 * wv (ah x) D 1 + wv (ah x) D 0 * wv (ah x) D 0 - 1) <= aj (-10)
  s : aj (-6) <= ab (wv x D 0)
  c : aj (-6) <= ab (wv x D 1)
  ps : af (bV (ah x) D 0) (-ac x D) D 496 = ah (af (bV x D 0) (-ac x D) D 496)
  pc : af (bV (ah x) D 1) (-ac x D) D 496 = af (bV x D 1) (-ac x D) D 496

theorem tI {d P a b : Nat} (hd : 1 <= d) (hP : P <= 46) (h : eqR d P a b = true) : 10 ^ P <= a * 1000000 /\ ∀ neg : Bool, af (sg neg b) (-(P : Int)) ((d : Int) + 10) 496 = af (sg neg a) (-(P : Int)) ((d : Int) + 10) 496 := by
  obtain ⟨h1, h⟩ := aH h
  refine ⟨bx h1, fun neg => ?_⟩
  rcases dF h with ⟨h2, -⟩ | ⟨h2, h3⟩
  · rw [fG h2]
  · obtain ⟨q, j, h4, q0, a0, hq⟩ := eB (show 1 <= d + 10 by exact ow) h3
    obtain ⟨q', j', h5, q0', b0, hq'⟩ := eB (show 1 <= d + 10 by exact ow) h4
    obtain ⟨e1, e2⟩ := aH h5
    have e1 := fG e1
    have e2 := fG e2
    subst e1 e2
    have r1 := gi (e := -(P : Int)) (top := 496) (show 1 <= d + 10 by exact ow) a0 (by exact fq70 hP) hq
    have r2 := gi (e := -(P : Int)) (top := 496) (show 1 <= d + 10 by exact ow) b0 (by exact fq70 hP) hq'
    rw [show (((d + 10 : Nat)) : Int) = (d : Int) + 10 by push_cast; rfl] at r1 r2
    rw [l5 _ _ _ _ (by exact lR), l5 _ _ _ _ (by exact lR), r1, r2]

/-- alike with the same sign: (sp - sm) and (tp - tm) -/
theorem mo {d P sp sm tp tm : Nat} (hd : 1 <= d) (hP : P <= 46) (h : eqS d P sp sm tp tm = true) {S T : Int} (hS : S = (sp : Int) - sm) (hT : T = (tp : Int) - tm) :
    af T (-(P : Int)) ((d : Int) + 10) 496 = af S (-(P : Int)) ((d : Int) + 10) 496 /\ aj (-6) <= ab ((S : Rat) * aj (-(P : Int))) := by
  have key : ∀ (a b : Nat) (neg : Bool), eqR d P a b = true -> S = sg neg a -> T = sg neg b -> af T (-(P : Int)) ((d : Int) + 10) 496 = af S (-(P : Int)) ((d : Int) + 10) 496 /\ aj (-6) <= ab ((S : Rat) * aj (-(P : Int))) := by
    intro a b neg h h1 h2
    obtain ⟨l, r⟩ := tI hd hP h
    refine ⟨by rw [h1, h2]; exact r neg, ?_⟩
    rw [ab_mp, h1, lI, ix]
    have g4 : aj (-(P : Int)) * ((10 ^ P : Nat) : Rat) = 1 := bA P
    have l' : ((10 ^ P : Nat) : Rat) <= (a : Rat) * 1000000 := by exact_mod_cast l
    have w0 := aq (-(P : Int))
    have m := Rat.mul_le_mul_of_nonneg_left l' (Rat.le_of_lt w0)
    rw [g4] at m
    have n6 : aj (-6) * 1000000 = 1 := bA 6
    have ea : (((((a : Int)).natAbs : Nat) : Int) : Rat) = (a : Rat) := rfl
    rw [ea]
    clear g4 l'
    exact gq276 m n6
  rcases dF h with ⟨h1, h2⟩ | ⟨h1, h2⟩
  · have h1 : sm + 1 <= sp := bx h1
    obtain ⟨h3, h4⟩ := aH h2
    have h3 : tm + 1 <= tp := bx h3
    refine key (sp - sm) (tp - tm) false h4 ?_ ?_
    · show S = ((sp - sm : Nat) : Int); exact fq125 hS h1
    · show T = ((tp - tm : Nat) : Int); exact fq125 hT h3
  · rcases dF h2 with ⟨h1, h2⟩ | ⟨h1, h2⟩
    · have h1 : sp + 1 <= sm := bx h1
      obtain ⟨h3, h4⟩ := aH h2
      have h3 : tp + 1 <= tm := bx h3
      refine key (sm - sp) (tm - tp) true h4 ?_ ?_
      · show S = -((sm - sp : Nat) : Int); exact fq124 hS h1
      · show T = -((tm - tp : Nat) : Int); exact fq124 hT h3
    · cases h2

theorem mD {d m ox : Nat} (hd : 4 <= d /\ d <= 6) (ho : ox <= 3) (h : oX d m ox = true) : Wav1 ((m : Int), (ox : Int) - 2) ((d : Int) + 10) := by
  unfold oX at h
  obtain ⟨c, c1, hc, h, lo, hi, c2⟩ := d4 h
  have m0 : 0 < m := Nat.lt_of_lt_of_le (Nat.pow_pos (by decide)) lo
  simp only at h
  obtain ⟨P, hP⟩ : ∃ P, P = 2 * d + 30 + ((c + ox) - 2) := ⟨_, rfl⟩
  have e1 : Nat.add (Nat.add (Nat.mul 2 d) 30) (Nat.sub (Nat.add c ox) 2) = P := hP.symm
  rw [e1] at h
  obtain ⟨hP46, h⟩ := aH h
  have hP46 : P <= 46 := bx hP46
  have T := tab (P := P) (by exact kx hd.1 hP) hP46
  obtain ⟨hn, h⟩ := aH h
  obtain ⟨n, hn'⟩ : ∃ n, n = m * 10 ^ (ox + P - 2) := ⟨_, rfl⟩
  have e2 : Nat.mul m (Nat.pow 10 (Nat.sub (Nat.add ox P) 2)) = n := hn'.symm
  rw [e2] at h hn
  have hn : n <= 14 * eY P := bx hn
  have hpl : ac ((m : Int), (ox : Int) - 2) ((d : Int) + 10) = P := by
    unfold ac ak
    show (d : Int) + 10 + max ((d : Int) + 10) (nd (m : Int)) + 10 + max 0 (nd (m : Int) + ((ox : Int) - 2)) = P
    rw [hc]; exact fq292 hP c2
  have hpl' : ac (ah ((m : Int), (ox : Int) - 2)) ((d : Int) + 10) = P := by rw [dy, hpl]
  have hex : ((ox : Int) - 2 + P).toNat = ox + P - 2 := by exact fq271
  have f1 : cr ((m : Int), (ox : Int) - 2) (P : Int) = n := by
    rw [fB (by exact fq72 hP), hex, hn']; push_cast; rfl
  have f2 : cr (ah ((m : Int), (ox : Int) - 2)) (P : Int) = -(n : Int) := by
    show cr (-(m : Int), (ox : Int) - 2) (P : Int) = _
    rw [fB (by exact fq72 hP), hex, hn', Int.neg_mul]; push_cast; rfl
  obtain ⟨sp, sm, cp, cm, h, a1, a2⟩ := fL (P := P) (n := cr ((m : Int), (ox : Int) - 2) (P : Int)) (j := 7) rfl T.pi T.p0 (by rw [f1]; show (n : Int) + 2 * 7 * (eY P : Int) = ((14 * eY P + n : Nat) : Int); exact fq838) h
  obtain ⟨n1, h⟩ := aH h
  obtain ⟨tp, tm, bp, bm, h, b1, b2⟩ := fL (P := P) (n := cr (ah ((m : Int), (ox : Int) - 2)) (P : Int)) (j := 7) rfl T.pi T.p0 (by rw [f2]; show -(n : Int) + 2 * 7 * (eY P : Int) = ((14 * eY P - n : Nat) : Int); exact fq881 hn) h
  obtain ⟨n2, h⟩ := aH h
  obtain ⟨q1, q2⟩ := aH h
  have w0 : bV ((m : Int), (ox : Int) - 2) ((d : Int) + 10) 0 = (sp : Int) - sm := by rw [ir, hpl]; exact a1
  have w1 : bV ((m : Int), (ox : Int) - 2) ((d : Int) + 10) 1 = (cp : Int) - cm := by rw [ir, hpl]; exact a2
  have x0 : bV (ah ((m : Int), (ox : Int) - 2)) ((d : Int) + 10) 0 = (tp : Int) - tm := by rw [ir, hpl']; exact b1
  have x1 : bV (ah ((m : Int), (ox : Int) - 2)) ((d : Int) + 10) 1 = (bp : Int) - bm := by rw [ir, hpl']; exact b2
  obtain ⟨s1, s2⟩ := mo (by exact pk hd.1) hP46 q1 w0 (T := -bV (ah ((m : Int), (ox : Int) - 2)) ((d : Int) + 10) 0) (by rw [x0]; exact fq92)
  obtain ⟨s3, s4⟩ := mo (by exact pk hd.1) hP46 q2 w1 x1
  refine ⟨⟨P, hpl, by exact kx hd.1 hP, hP46⟩, ?_, ?_, ?_, ?_, ?_, ?_⟩
  · unfold wv; rw [hpl]; exact k6 n1 w0 w1
  · unfold wv; rw [hpl']; exact k6 n2 x0 x1
  · unfold wv; rw [hpl]; exact s2
  · unfold wv; rw [hpl]; exact s4
  · rw [hpl, <- s1, bX _ _ _ (by exact lR)]
    generalize af (bV (ah ((m : Int), (ox : Int) - 2)) ((d : Int) + 10) 0) (-(P : Int)) ((d : Int) + 10) 496 = r
    show r = (-(-r.1), r.2)
    rw [Int.neg_neg]
  · rw [hpl]; exact s3
end

section
noncomputable def eE (d ox : Nat) : Bool := nD (fun m => @Bool.rec (fun _ => Bool) true (d6 (pz d m ox) (oX d m ox) false) (inL m ox)) 39
theorem one_4_0 : eE 4 0 = true := by decide +kernel
theorem one_4_1 : eE 4 1 = true := by decide +kernel
theorem one_4_2 : eE 4 2 = true := by decide +kernel
theorem one_4_3 : eE 4 3 = true := by decide +kernel
theorem one_5_0 : eE 5 0 = true := by decide +kernel
theorem one_5_1 : eE 5 1 = true := by decide +kernel
theorem one_5_2 : eE 5 2 = true := by decide +kernel
theorem one_5_3 : eE 5 3 = true := by decide +kernel
theorem one_6_0 : eE 6 0 = true := by decide +kernel
theorem one_6_1 : eE 6 1 = true := by decide +kernel
theorem one_6_2 : eE 6 2 = true := by decide +kernel
theorem one_6_3 : eE 6 3 = true := by decide +kernel
theorem one_of {d ox : Nat} (hd : 4 <= d /\ d <= 6) (h : ox < 4) : eE d ox = true := by
  have cd : d = 4 \/ d = 5 \/ d = 6 := by exact s9 hd.1 hd.2
  have co : ox = 0 \/ ox = 1 \/ ox = 2 \/ ox = 3 := by exact wf h
  rcases cd with rfl | rfl | rfl <;> rcases co with rfl | rfl | rfl | rfl
  · exact one_4_0
  · exact one_4_1
  · exact one_4_2
  · exact one_4_3
  · exact one_5_0
  · exact one_5_1
  · exact one_5_2
  · exact one_5_3
  · exact one_6_0
  · exact one_6_1
  · exact one_6_2
  · exact one_6_3
theorem one_all {d m ox : Nat} (hd : 4 <= d /\ d <= 6) (h : rN m ox) : Exp1 ((m : Int), (ox : Int) - 2) ((d : Int) + 10) /\ Wav1 ((m : Int), (ox : Int) - 2) ((d : Int) + 10) := by
  have r := d5 (one_of hd h.2.1) m h.1
  rw [j5 h] at r
  obtain ⟨a, b⟩ := aH r
  have := h.2.1
  exact ⟨nk hd (by exact fq259 this) a, mD hd (by exact fq259 this) b⟩
end

section
/-- decimals of a middling size -/
structure Nice (v : Re) : Prop where
  nd : nd v.1 <= 16
  lead : v.1 ≠ 0 -> -23 <= ak v /\ ak v <= 23

theorem Rd.nice {u : Rat} {D : Int} {r : Re} (R : Rd u D r) (hD : D <= 16) (h : u ≠ 0 -> aj (-23) <= ab u /\ ab u < aj 22) : Nice r := by
  refine ⟨by have := R.nd; exact fq215 hD this, fun hr => ?_⟩
  by_cases hu : u = 0
  · have := R.z hu
    rw [this] at hr; exact absurd rfl hr
  · obtain ⟨a, b⟩ := h hu
    have l := iH (R.lo _ a)
    have u1 := R.hi _ b
    have : ak r <= 23 := by
      have h1 : ab (val r) < aj 23 := by have := ig (show (22:Int) < 23 by decide); exact gq3 this u1
      exact fm hr h1
    exact fq359 l this

theorem Rd.sq {u : Rat} {D : Int} {r : Re} (R : Rd u D r) (hD : 14 <= D) : ab (val r * val r - u * u) <= 1 / 1000000000000 * (u * u) := by
  have h := R.prodRel (by exact fq149 hD) R
  rw [eq] at h
  have t := aX (show 1 - D <= -13 by exact fq79 hD)
  have n : aj (-13) * 10000000000000 = 1 := bA 13
  have u0 := cQ u
  have := Rat.mul_le_mul_of_nonneg_right (show 2 * aj (1 - D) <= 1 / 1000000000000 by exact gq54 n t) u0
  exact mn h this

theorem kM {x : Re} {D : Int} (hx : x.1 ≠ 0) (hl : -2 <= ak x) (hD : 14 <= D) : bC x D = false := by
  unfold bC
  rw [decide_eq_false hx, decide_eq_false (by exact fq527 hl hD)]; rfl
theorem small_false {x : Re} {D : Int} (hx : x.1 ≠ 0) (hl : -2 <= ak x) (hD : 14 <= D) : (decide (x.1 = 0) || decide (ak x < -D)) = false := kM hx hl hD

/-- the exponential's value, rounded -/
theorem pu {x : Re} {D : Int} (F : ExpF x D) (hp : 0 < ds x D) (hD : 14 <= D) (hx : x.1 ≠ 0) (hl : -12 <= ak x /\ ak x <= 4) : Rd ((ds x D : Rat) * aj (dz x D - ac x D)) D (aQ x D 496) := by
  obtain ⟨P, h1, h2, h3⟩ := F.P
  have hk := F.k
  have e : aQ x D 496 = af (ds x D) (dz x D - ac x D) D 496 := by
    unfold aQ
    have z3 : dY x 496 = false := decide_eq_false (by exact fq597 (show nd 496 = 3 by decide +kernel) hl.2)
    rw [decide_eq_false hx, decide_eq_false (by exact fq524 hl.1 hD), z3]; rfl
  rw [e]
  have := cG (m := ds x D) (by exact jb hp)
  exact gY (by exact im hD) (fun _ => by exact fq617 hk.1 this h1 h3)

theorem gA {a b : Rat} (h : ab (a * a + b * b - 1) <= aj (-10)) : ab a <= 2 /\ ab b <= 2 := by
  have n : aj (-10) * 10000000000 = 1 := bA 10
  have h1 := cR (a * a + b * b - 1)
  have a0 := cQ a
  have b0 := cQ b
  constructor
  · refine bW (by decide) ?_
    rw [eq]; exact gq320 h1 b0 h n
  · refine bW (by decide) ?_
    rw [eq]; exact gq319 h1 a0 h n

theorem uJ {x : Re} {D : Int} (hP : ∃ P : Nat, ac x D = P /\ 38 <= P /\ P <= 46) (hD : 14 <= D) (ht : bC x D = false) : Rd (wv x D 0) D (aw x D 496) := by
  obtain ⟨P, h1, h2, h3⟩ := hP
  have e : aw x D 496 = af (bV x D 0) (-ac x D) D 496 := by unfold aw; rw [ht]; rfl
  rw [e]
  exact gY (by exact im hD) (fun h => by have := cG h; exact fq185 this h1 h3)
theorem wA {x : Re} {D : Int} (hP : ∃ P : Nat, ac x D = P /\ 38 <= P /\ P <= 46) (hD : 14 <= D) (ht : bC x D = false) : Rd (wv x D 1) D (aN x D 496) := by
  obtain ⟨P, h1, h2, h3⟩ := hP
  have e : aN x D 496 = af (bV x D 1) (-ac x D) D 496 := by unfold aN; rw [ht]; rfl
  rw [e]
  exact gY (by exact im hD) (fun h => by have := cG h; exact fq185 this h1 h3)

/-- rounded sine and cosine -/
theorem sc_rd {a b : Rat} {D : Int} {s c : Re} (hD : 14 <= D) (h : ab (b * b + a * a - 1) <= aj (-10)) (S : Rd a D s) (C : Rd b D c) : ab (val c * val c + val s * val s - 1) <= aj (-9) := by
  have h1 := S.sq hD
  have h2 := C.sq hD
  have n : aj (-10) * 10000000000 = 1 := bA 10
  rw [jV]
  have h3 := cR (b * b + a * a - 1)
  have h4 := bB (b * b + a * a - 1)
  have a1 := cR (val s * val s - a * a)
  have a2 := bB (val s * val s - a * a)
  have b1 := cR (val c * val c - b * b)
  have b2 := bB (val c * val c - b * b)
  have a0 := cQ a
  have b0 := cQ b
  generalize a * a = aa at *
  generalize b * b = bb at *
  generalize val s * val s = ss at *
  generalize val c * val c = cc at *
  exact gX (by exact gq400 n h h4 h1 a2 h2 b2) (by exact gq401 n h h3 h1 a1 h2 b1)

theorem two_rd {u v : Rat} {D : Int} {a b : Re} (hD : 14 <= D) (h : ab (u * v - 1) <= aj (-10)) (A : Rd u D a) (B : Rd v D b) (u0 : 0 < u) (v0 : 0 < v) : ab (val a * val b - 1) <= aj (-9) := by
  have h1 := A.prodRel (by exact fq149 hD) B
  rw [bJ u0, bJ v0] at h1
  have n : aj (-10) * 10000000000 = 1 := bA 10
  have t := aX (show 1 - D <= -13 by exact fq79 hD)
  have n13 : aj (-13) * 10000000000000 = 1 := bA 13
  have uv := Rat.mul_pos u0 v0
  have h3 := cR (u * v - 1)
  have m := Rat.mul_le_mul_of_nonneg_right (show 2 * aj (1 - D) <= 1 / 1000000000000 by exact gq54 n13 t) (Rat.le_of_lt uv)
  have h4 := ab3 (val a * val b) (u * v) 1
  rw [jV]
  generalize u * v = w at *
  exact gq381 n h h1 h3 m h4
end

section
noncomputable def shV (x : Re) (D : Int) : Int := bif decide (x.1 < 0) then -((az x D - aD x D) * 5) else (az x D - aD x D) * 5

/-- cosh and sinh before rounding, at a decimal above 0 -/
structure Hyp1 (x : Re) (D : Int) : Prop where
  g : 0 < az x D
  c : 1 / 2 <= (((az x D + aD x D) * 5 : Int) : Rat) * aj (-ac x D - 1) /\ (((az x D + aD x D) * 5 : Int) : Rat) * aj (-ac x D - 1) < aj 22
  s : aj (-4) <= (((az x D - aD x D) * 5 : Int) : Rat) * aj (-ac x D - 1) /\ (((az x D - aD x D) * 5 : Int) : Rat) * aj (-ac x D - 1) < aj 22
  one : ab ((((az x D + aD x D) * 5 : Int) : Rat) * aj (-ac x D - 1) * ((((az x D + aD x D) * 5 : Int) : Rat) * aj (-ac x D - 1)) - (((az x D - aD x D) * 5 : Int) : Rat) * aj (-ac x D - 1) * ((((az x D - aD x D) * 5 : Int) : Rat) * aj (-ac x D - 1)) - 1) <= aj (-12)

theorem vI {x : Re} {D : Int} (h : Exp1 x D) (hx : bL x = x) : Hyp1 x D := by
  obtain ⟨P, p1, p2, p3⟩ := h.e.P
  have g1 := h.grown
  have g2 := h.grown2
  rw [p1] at g1 g2
  have eP : ((P : Int)).toNat = P := rfl
  rw [eP] at g1
  have eP2 : ((P : Int) + 21).toNat = P + 21 := by exact fq246
  rw [eP2] at g2
  have hfall : aD x D = 10 ^ (2 * (P : Int)).toNat / az x D := by unfold aD; rw [hx, p1]
  have e2P : (2 * (P : Int)).toNat = 2 * P := by exact fq724
  rw [e2P] at hfall
  obtain ⟨G, hG⟩ : ∃ G, az x D = G := ⟨_, rfl⟩
  rw [hG] at g1 g2 hfall
  have op : (0:Int) < 10 ^ P := Int.pow_pos (by decide)
  have G0 : 0 < G := by exact fq553 op g1
  -- H = 10^(2P) / G
  have d1 := Int.mul_ediv_add_emod (10 ^ (2 * P)) G
  have d2 := Int.emod_nonneg (10 ^ (2 * P)) (show G ≠ 0 by exact jb G0)
  have d3 := Int.emod_lt_of_pos (10 ^ (2 * P)) G0
  rw [<- hfall] at d1
  obtain ⟨H, hH⟩ : ∃ H, aD x D = H := ⟨_, rfl⟩
  rw [hH] at d1 hfall
  generalize ((10:Int) ^ (2 * P)) % G = R at *
  have sq : (10:Int) ^ (2 * P) = 10 ^ P * 10 ^ P := by rw [<- Int.pow_add]; congr 1; exact fq760
  rw [sq] at d1
  have H0 : 0 <= H := by
    rw [hfall]
    exact Int.ediv_nonneg (Int.le_of_lt (Int.pow_pos (by decide))) (by exact fq554 op g1)
  -- in the rationals
  have hw : aj (-(P : Int)) * (((10:Int) ^ P : Int) : Rat) = 1 := by
    have := bA P
    have e : (((10:Int) ^ P : Int) : Rat) = ((10 ^ P : Nat) : Rat) := by
      have h : ((10:Int) ^ P) = ((10 ^ P : Nat) : Int) := by simp
      rw [h]; rfl
    rw [e]; exact this
  have w0 := aq (-(P : Int))
  have w38 : aj (-(P : Int)) <= aj (-38) := aX (by exact fq764 p2)
  have ep : aj (-(P : Int) - 1) * 10 = aj (-(P : Int)) := n8 _
  have r1 : 1001 * (((10:Int) ^ P : Int) : Rat) <= 1000 * G := by exact_mod_cast g1
  have r2 : (G : Rat) * aj (-(P : Int)) <= aj 21 := by
    have : (G : Rat) <= (((10:Int) ^ (P + 21) : Int) : Rat) := by exact_mod_cast g2
    have e : (((10:Int) ^ (P + 21) : Int) : Rat) = aj ((P + 21 : Nat) : Int) := by
      rw [c7]
      have h : ((10:Int) ^ (P + 21)) = ((10 ^ (P + 21) : Nat) : Int) := by simp
      rw [h]; rfl
    rw [e] at this
    have m := Rat.mul_le_mul_of_nonneg_right this (Rat.le_of_lt w0)
    rw [<- aM] at m
    have e2 : ((P + 21 : Nat) : Int) + -(P : Int) = 21 := by exact fq715
    rw [e2] at m; exact m
  have r3 : (G : Rat) * H + R = (((10:Int) ^ P : Int) : Rat) * (((10:Int) ^ P : Int) : Rat) := by exact_mod_cast d1
  have r4 : (0:Rat) <= R := by exact_mod_cast d2
  have r5 : (R:Rat) <= G := by exact_mod_cast (Int.le_of_lt d3)
  have r6 : (0:Rat) <= H := by exact_mod_cast H0
  have eC : (((G + H) * 5 : Int) : Rat) * aj (-(P : Int) - 1) = ((G : Rat) * aj (-(P : Int)) + H * aj (-(P : Int))) / 2 := by
    rw [<- ep, Rat.intCast_mul, Rat.intCast_add]
    have : ((5 : Int) : Rat) = 5 := rfl
    rw [this]; exact gq241
  have eS : (((G - H) * 5 : Int) : Rat) * aj (-(P : Int) - 1) = ((G : Rat) * aj (-(P : Int)) - H * aj (-(P : Int))) / 2 := by
    rw [<- ep, Rat.intCast_mul, Rat.intCast_sub]
    have : ((5 : Int) : Rat) = 5 := rfl
    rw [this]; exact gq242
  have k1 : (1001 / 1000 : Rat) <= (G : Rat) * aj (-(P : Int)) := by
    have := Rat.mul_le_mul_of_nonneg_right r1 (Rat.le_of_lt w0)
    have e : 1001 * (((10:Int) ^ P : Int) : Rat) * aj (-(P : Int)) = 1001 * (aj (-(P : Int)) * (((10:Int) ^ P : Int) : Rat)) := by exact gq171
    rw [e, hw] at this
    exact gq170 this
  -- g h + r = 1, 0 <= r <= g w
  have k2 : (G : Rat) * aj (-(P : Int)) * (H * aj (-(P : Int))) + R * aj (-(P : Int)) * aj (-(P : Int)) = 1 := by
    have : ((G : Rat) * H + R) * (aj (-(P : Int)) * aj (-(P : Int))) = (((10:Int) ^ P : Int) : Rat) * (((10:Int) ^ P : Int) : Rat) * (aj (-(P : Int)) * aj (-(P : Int))) := by rw [r3]
    have e : (((10:Int) ^ P : Int) : Rat) * (((10:Int) ^ P : Int) : Rat) * (aj (-(P : Int)) * aj (-(P : Int))) = (aj (-(P : Int)) * (((10:Int) ^ P : Int) : Rat)) * (aj (-(P : Int)) * (((10:Int) ^ P : Int) : Rat)) := by exact gq48
    rw [e, hw] at this
    exact gq368 r3 hw
  have k3 : 0 <= (R : Rat) * aj (-(P : Int)) * aj (-(P : Int)) := fy (fy r4 (Rat.le_of_lt w0)) (Rat.le_of_lt w0)
  have k4 : (R : Rat) * aj (-(P : Int)) * aj (-(P : Int)) <= aj (-12) := by
    have m1 := Rat.mul_le_mul_of_nonneg_right (Rat.mul_le_mul_of_nonneg_right r5 (Rat.le_of_lt w0)) (Rat.le_of_lt w0)
    have m2 := cf r2 w38 (Rat.le_of_lt w0) (Rat.le_of_lt (aq _))
    rw [<- aM] at m2
    have m3 := aX (show (21:Int) + -38 <= -12 by decide)
    exact gq349 m1 m2 m3
  have k5 : 0 <= (H : Rat) * aj (-(P : Int)) := fy r6 (Rat.le_of_lt w0)
  have p12 : aj (-12) <= 1 / 1000000 := by
    have : aj (-12) * 1000000000000 = 1 := bA 12
    exact gq142 this
  have p22 : aj 22 = aj 21 * 10 := by rw [show (22:Int) = 21 + 1 by decide, bR]
  have p21 := kZ (show (0:Int) <= 21 by decide)
  have n4 : aj (-4) * 10000 = 1 := bA 4
  clear hw d1 d2 d3 r1 r3 r5 ep w38 sq hfall
  refine ⟨by rw [hG]; exact G0, ?_, ?_, ?_⟩
  all_goals rw [p1, hG, hH]
  all_goals (try rw [eC])
  all_goals (try rw [eS])
  all_goals (clear eC eS; generalize (R : Rat) * aj (-(P : Int)) * aj (-(P : Int)) = r at *; generalize (G : Rat) * aj (-(P : Int)) = g at *; generalize (H : Rat) * aj (-(P : Int)) = h at *)
  · have hg : h <= 1 := by
      have : (1001 / 1000 : Rat) * h <= g * h := Rat.mul_le_mul_of_nonneg_right k1 k5
      exact gq250 this k3 k2
    constructor <;> (first | exact gq199 k5 k1 | exact gq335 p21 p22 hg r2)
  · have hg : (1001 / 1000 : Rat) * h <= 1 := by
      have : (1001 / 1000 : Rat) * h <= g * h := Rat.mul_le_mul_of_nonneg_right k1 k5
      exact gq272 k3 k2 this
    constructor <;> (first | exact gq249 hg k1 n4 | exact gq331 k5 p21 p22 r2)
  · have e : (g + h) / 2 * ((g + h) / 2) - (g - h) / 2 * ((g - h) / 2) - 1 = -r := by
      have : (g + h) / 2 * ((g + h) / 2) - (g - h) / 2 * ((g - h) / 2) = g * h := by exact gq157
      rw [this]; exact gq228 k2
    rw [e, dA, ba k3]
    exact k4

/-- rounded cosh and sinh -/
theorem hyp_rd {c0 s0 : Rat} {D : Int} {c s : Re} (hD : 14 <= D) (h : ab (c0 * c0 - s0 * s0 - 1) <= aj (-12)) (hc : 1 / 2 <= c0) (C : Rd c0 D c) (S : Rd s0 D s) :
    ab (val c * val c - val s * val s - 1) <= aj (-9) * (val c * val c) := by
  have h1 := S.sq hD
  have h2 := C.sq hD
  have n : aj (-12) * 1000000000000 = 1 := bA 12
  rw [jV]
  have h3 := cR (c0 * c0 - s0 * s0 - 1)
  have h4 := bB (c0 * c0 - s0 * s0 - 1)
  have a1 := cR (val s * val s - s0 * s0)
  have a2 := bB (val s * val s - s0 * s0)
  have b1 := cR (val c * val c - c0 * c0)
  have b2 := bB (val c * val c - c0 * c0)
  have a0 := cQ s0
  have q := cf hc hc (by exact gq76) (by exact gq131 hc)
  generalize s0 * s0 = aa at *
  generalize c0 * c0 = bb at *
  generalize val s * val s = ss at *
  generalize val c * val c = cc at *
  exact gX (by exact gq402 n a0 h h4 h1 a1 h2 b2) (by exact gq403 n a0 h h3 h1 a2 h2 b1)
end

section
theorem bS (x : Re) : ah (ah x) = x := by
  show (-(-x.1), x.2) = x
  rw [Int.neg_neg]
theorem Nice.neg {v : Re} (h : Nice v) : Nice (ah v) := by
  refine ⟨by show Mine.nd (-v.1) <= 16; rw [fw]; exact h.nd, fun h0 => ?_⟩
  rw [dD]
  have h0 : -v.1 ≠ 0 := h0
  exact h.lead (by exact fq178 h0)

/-- the law's real functions at one of its decimals -/
structure R1 (x : Re) (D : Int) : Prop where
  eN : Nice (aQ x D 496)
  e0 : 0 < val (aQ x D 496)
  fN : Nice (aQ (ah x) D 496)
  f0 : 0 < val (aQ (ah x) D 496)
  ef : ab (val (aQ x D 496) * val (aQ (ah x) D 496) - 1) <= aj (-9)
  sN : Nice (aw x D 496)
  cN : Nice (aN x D 496)
  sc : ab (val (aN x D 496) * val (aN x D 496) + val (aw x D 496) * val (aw x D 496) - 1) <= aj (-9)
  ps : aw (ah x) D 496 = ah (aw x D 496)
  pc : aN (ah x) D 496 = aN x D 496
  hN : Nice (aP x D 496)
  gN : Nice (bf x D 496)
  hy : ab (val (bf x D 496) * val (bf x D 496) - val (aP x D 496) * val (aP x D 496) - 1) <= aj (-9) * (val (bf x D 496) * val (bf x D 496))
  ph : aP (ah x) D 496 = ah (aP x D 496)
  pg : bf (ah x) D 496 = bf x D 496
  z : x.1 = 0 -> (aw x D 496).1 = 0 /\ (aP x D 496).1 = 0

theorem R1.neg {x : Re} {D : Int} (h : R1 x D) : R1 (ah x) D := by
  refine ⟨h.fN, h.f0, ?_, ?_, ?_, ?_, ?_, ?_, ?_, ?_, ?_, ?_, ?_, ?_, ?_, ?_⟩
  · rw [bS]; exact h.eN
  · rw [bS]; exact h.e0
  · rw [bS, Rat.mul_comm]; exact h.ef
  · rw [h.ps]; exact h.sN.neg
  · rw [h.pc]; exact h.cN
  · rw [h.ps, h.pc, gC]
    have e : -val (aw x D 496) * -val (aw x D 496) = val (aw x D 496) * val (aw x D 496) := by exact gq31
    rw [e]; exact h.sc
  · rw [bS, h.ps, bS]
  · rw [bS, h.pc]
  · rw [h.ph]; exact h.hN.neg
  · rw [h.pg]; exact h.gN
  · rw [h.ph, h.pg, gC]
    have e : -val (aP x D 496) * -val (aP x D 496) = val (aP x D 496) * val (aP x D 496) := by exact gq31
    rw [e]; exact h.hy
  · rw [bS, h.ph, bS]
  · rw [bS, h.pg]
  · intro h0
    have h0 : -x.1 = 0 := h0
    obtain ⟨a, b⟩ := h.z (by exact fq371 h0)
    rw [h.ps, h.ph]
    refine ⟨?_, ?_⟩
    · show -(aw x D 496).1 = 0; exact fq58 a
    · show -(aP x D 496).1 = 0; exact fq58 b

theorem mf (e : Int) : Nice (0, e) := ⟨by show nd 0 <= 16; rw [bY]; decide, fun h => absurd rfl h⟩
theorem jx : Nice (1, 0) := by
  have : nd 1 = 1 := by decide +kernel
  refine ⟨by show nd 1 <= 16; rw [this]; decide, fun _ => ?_⟩
  show -23 <= nd 1 + 0 /\ nd 1 + 0 <= 23
  rw [this]; decide

theorem R1_zero {D : Int} (hD : 14 <= D) : R1 (0, 0) D := by
  have e1 : aQ (0, 0) D 496 = (1, 0) := rfl
  have e2 : aN (0, 0) D 496 = (1, 0) := rfl
  have e3 : bf (0, 0) D 496 = (1, 0) := rfl
  have e4 : aw (0, 0) D 496 = (0, 0) := by
    have : aw (0, 0) D 496 = af 0 0 D 496 := rfl
    rw [this, aL _ _ _ (by exact fq78 hD)]
  have e5 : aP (0, 0) D 496 = (0, 0) := by
    have : aP (0, 0) D 496 = af 0 0 D 496 := rfl
    rw [this, aL _ _ _ (by exact fq78 hD)]
  have t : ah (0, 0) = (0, 0) := rfl
  have v1 := fM
  have v0 := du 0
  have p9 := aq (-9)
  have z1 : (1 : Rat) * 1 - 1 = 0 := by exact gq23
  have z2 : (1 : Rat) * 1 + 0 * 0 - 1 = 0 := by exact gq21
  have z3 : (1 : Rat) * 1 - 0 * 0 - 1 = 0 := by exact gq72
  refine ⟨?_, ?_, ?_, ?_, ?_, ?_, ?_, ?_, ?_, ?_, ?_, ?_, ?_, ?_, ?_, ?_⟩
  · rw [e1]; exact jx
  · rw [e1, v1]; exact gq24
  · rw [t, e1]; exact jx
  · rw [t, e1, v1]; exact gq24
  · rw [t, e1, v1, z1, cC]; exact Rat.le_of_lt p9
  · rw [e4]; exact mf 0
  · rw [e2]; exact jx
  · rw [e2, e4, v1, v0, z2, cC]; exact Rat.le_of_lt p9
  · rw [t, e4]; rfl
  · rw [t]
  · rw [e5]; exact mf 0
  · rw [e3]; exact jx
  · rw [e3, e5, v1, v0, z3, cC]; exact gq118 p9
  · rw [t, e5]; rfl
  · rw [t]
  · intro _; rw [e4, e5]; exact ⟨rfl, rfl⟩

theorem dp (x : Re) : bL (ah x) = bL x := by
  show (((-x.1).natAbs : Int), x.2) = ((x.1.natAbs : Int), x.2)
  rw [Int.natAbs_neg]
theorem ib (x : Re) (D : Int) : bC (ah x) D = bC x D := by
  unfold bC
  rw [dD]
  congr 1
  show decide (-x.1 = 0) = decide (x.1 = 0)
  by_cases h : x.1 = 0
  · rw [decide_eq_true h, decide_eq_true (by exact fq58 h)]
  · rw [decide_eq_false h, decide_eq_false (by exact oB h)]

theorem nP {x : Re} {D : Int} (hD : 0 <= D) (h : x.1 ≠ 0) : aP (ah x) D 496 = ah (aP x D 496) := by
  unfold aP
  rw [ib]
  have g : az (ah x) D = az x D := by unfold az; rw [dp]
  have f : aD (ah x) D = aD x D := by unfold aD; rw [dp, g]
  rw [g, f, dp]
  cases bC x D with
  | true =>
    show af (-x.1) x.2 D 496 = ah (af x.1 x.2 D 496)
    exact bX _ _ _ hD
  | false =>
    simp only [cond_false]
    rw [<- bX _ _ _ hD]
    congr 1
    show (bif decide (-x.1 < 0) then _ else _) = _
    by_cases q : x.1 < 0
    · rw [decide_eq_true q, decide_eq_false (by exact fq84 q)]; simp
    · rw [decide_eq_false q, decide_eq_true (by exact fq91 q h)]; rfl
theorem oF {x : Re} {D : Int} : bf (ah x) D 496 = bf x D 496 := by
  unfold bf
  rw [ib]
  have g : az (ah x) D = az x D := by unfold az; rw [dp]
  have f : aD (ah x) D = aD x D := by unfold aD; rw [dp, g]
  rw [g, f, dp]

theorem R1_pos {x : Re} {D : Int} (hD : 14 <= D /\ D <= 16) (hx : 0 < x.1) (hl : -2 <= ak x /\ ak x <= 4) (E : Exp1 x D) (W : Wav1 x D) : R1 x D := by
  have hx0 : x.1 ≠ 0 := by exact jb hx
  have habs : bL x = x := by
    show ((x.1.natAbs : Int), x.2) = x
    rw [show (x.1.natAbs : Int) = x.1 by exact fq52 hx]
  have hx0' : (ah x).1 ≠ 0 := by show -x.1 ≠ 0; exact fq137 hx
  have ht := kM (D := D) hx0 hl.1 hD.1
  have ht' : bC (ah x) D = false := by rw [ib]; exact ht
  have H := vI E habs
  have Ee := pu E.e E.p hD.1 hx0 (by exact fq133 hl.1 hl.2)
  have Ef := pu E.e' E.p' hD.1 hx0' (by rw [dD]; exact fq133 hl.1 hl.2)
  rw [dy] at Ef
  have u0 : 0 < (ds x D : Rat) * aj (dz x D - ac x D) := de.mpr E.p
  have v0 : 0 < (ds (ah x) D : Rat) * aj (dz (ah x) D - ac x D) := de.mpr E.p'
  have S := uJ W.P hD.1 ht
  have C := wA W.P hD.1 ht
  have bd := gA W.norm
  have p22 : aj 21 < aj 22 := ig (by decide)
  have p22' : (2 : Rat) < aj 22 := by
    have := aX (show (1:Int) <= 22 by decide)
    rw [iC] at this
    exact gq133 this
  have p6 : aj (-23) <= aj (-6) := aX (by decide)
  have p22m : aj (-23) <= aj (-22) := aX (by decide)
  have p4 : aj (-23) <= aj (-4) := aX (by decide)
  have p1 : aj (-23) <= aj (-1) := aX (by decide)
  have n1 : aj (-1) * 10 = 1 := bA 1
  obtain ⟨P, q1, q2, q3⟩ := W.P
  have hsh : aP x D 496 = af ((az x D - aD x D) * 5) (-ac x D - 1) D 496 := by
    unfold aP
    rw [ht, habs]
    simp only [cond_false]
    rw [decide_eq_false (show ¬ x.1 < 0 by exact fq76 hx), cond_false]
  have hch : bf x D 496 = af ((az x D + aD x D) * 5) (-ac x D - 1) D 496 := by
    unfold bf
    rw [ht, habs]; rfl
  have Sh := gY (m := (az x D - aD x D) * 5) (e := -ac x D - 1) (d := D) (top := 496) (by exact im hD.1) (fun h => by have := cG h; exact fq184 this q1 q3)
  have Ch := gY (m := (az x D + aD x D) * 5) (e := -ac x D - 1) (d := D) (top := 496) (by exact im hD.1) (fun h => by have := cG h; exact fq184 this q1 q3)
  rw [<- hsh] at Sh
  rw [<- hch] at Ch
  have hc0 := H.c
  have hs0 := H.s
  have pc := aq (-4)
  refine ⟨Ee.nice hD.2 fun _ => ?_, cz.mpr (Ee.pos u0), Ef.nice hD.2 fun _ => ?_, cz.mpr (Ef.pos v0), two_rd hD.1 E.prod Ee Ef u0 v0, S.nice hD.2 fun _ => ?_, C.nice hD.2 fun _ => ?_, sc_rd hD.1 W.norm S C, ?_, ?_, Sh.nice hD.2 fun _ => ?_, Ch.nice hD.2 fun _ => ?_, hyp_rd hD.1 H.one hc0.1 Ch Sh, nP (by exact fq78 hD.1) hx0, oF, fun h => absurd h hx0⟩
  · rw [bJ u0]; have := E.b; constructor <;> (first | exact mn p22m this.1 | exact gq3 p22 this.2)
  · rw [bJ v0]; have := E.b'; constructor <;> (first | exact mn p22m this.1 | exact gq3 p22 this.2)
  · have := W.s; constructor <;> (first | exact mn p6 this | exact gq53 p22' bd.2)
  · have := W.c; constructor <;> (first | exact mn p6 this | exact gq53 p22' bd.1)
  · have e1 : aw (ah x) D 496 = af (bV (ah x) D 0) (-ac (ah x) D) D 496 := by unfold aw; rw [ht']; rfl
    have e2 : aw x D 496 = af (bV x D 0) (-ac x D) D 496 := by unfold aw; rw [ht]; rfl
    rw [e1, e2, dy]; exact W.ps
  · have e1 : aN (ah x) D 496 = af (bV (ah x) D 1) (-ac (ah x) D) D 496 := by unfold aN; rw [ht']; rfl
    have e2 : aN x D 496 = af (bV x D 1) (-ac x D) D 496 := by unfold aN; rw [ht]; rfl
    rw [e1, e2, dy]; exact W.pc
  · rw [bJ (show 0 < (((az x D - aD x D) * 5 : Int) : Rat) * aj (-ac x D - 1) by exact gq11 pc hs0.1)]
    constructor <;> (first | exact mn p4 hs0.1 | exact gq18 hs0.2)
  · rw [bJ (show 0 < (((az x D + aD x D) * 5 : Int) : Rat) * aj (-ac x D - 1) by exact gq39 hc0.1)]
    constructor <;> (first | exact gq275 hc0.1 n1 p1 | exact gq18 hc0.2)
end

section
/-- the exponential of the logarithm, one part: c * E is near x -/
theorem log_alg {x y E s c t M : Rat} (ht : 0 < t) (ht1 : t <= 1 / 1000) (ht2 : 1 / 100000 <= t) (hE : 0 < E) (hM : 0 < M) (hx : ab x <= M) (hy : ab y <= M)
    (hN : 0 < x * x + y * y) (h1 : ab (E * E - (x * x + y * y)) <= 4 * t * (x * x + y * y)) (h2 : ab (c * c + s * s - 1) <= 1 / 1000000000)
    (h3 : ab (s * x - c * y) <= 101 / 100 * t * (ab x + ab y)) (h4 : -(1 / 1000000000) * (ab x + ab y) <= c * x + s * y) :
    ab (E * c - x) <= 8 * (t * M) /\ ab (E * s - y) <= 8 * (t * M) /\ ab (E * c) <= 3 / 2 * M /\ ab (E * s) <= 3 / 2 * M := by
  obtain ⟨N, hNe⟩ : ∃ N, x * x + y * y = N := ⟨_, rfl⟩
  rw [hNe] at hN h1
  have ax := eq x
  have ay := eq y
  have x0 := bj x
  have y0 := bj y
  have EE0 := Rat.mul_pos hE hE
  have e1 := cR (E * E - N)
  have e2 := bB (E * E - N)
  have tN := Rat.mul_le_mul_of_nonneg_right ht1 (Rat.le_of_lt hN)
  have tN0 := Rat.mul_pos ht hN
  have r1 : 4 * t * N = 4 * (t * N) := by exact gq16
  rw [r1] at h1
  have NE : N <= 1005 / 1000 * (E * E) := by exact gq303 e2 hN h1 tN
  have EN : E * E <= 1004 / 1000 * N := by exact gq342 e1 h1 tN
  -- the sum of the sizes
  have q2 : (ab x + ab y) * (ab x + ab y) <= 2 * N := by
    have := oM x y
    have e : (ab x + ab y) * (ab x + ab y) = ab x * ab x + ab y * ab y + 2 * (ab x * ab y) := by exact gq186
    rw [e, ax, ay]; exact gq285 hNe this
  have mM := cf hx hx x0 (Rat.le_of_lt hM)
  have mM2 := cf hy hy y0 (Rat.le_of_lt hM)
  rw [ax] at mM
  rw [ay] at mM2
  have NM : N <= 2 * (M * M) := by exact gq339 hNe mM mM2
  have MM0 := Rat.mul_pos hM hM
  have EM : E <= 142 / 100 * M := bW (by exact gq114 hM) (by
    have e : (142 / 100 * M) * (142 / 100 * M) = 20164 / 10000 * (M * M) := by exact gq103
    rw [e]; exact gq393 h1 hN hNe e1 tN mM mM2)
  have qE : ab x + ab y <= 143 / 100 * E := bW (by exact gq115 hE) (by
    have e : (143 / 100 * E) * (143 / 100 * E) = 20449 / 10000 * (E * E) := by exact gq104
    rw [e]; exact gq364 e2 hN h1 tN q2)
  -- p and w
  obtain ⟨p, hp⟩ : ∃ p, c * x + s * y = p := ⟨_, rfl⟩
  obtain ⟨w, hw⟩ : ∃ w, s * x - c * y = w := ⟨_, rfl⟩
  rw [hp] at h4
  rw [hw] at h3
  obtain ⟨k, hk⟩ : ∃ k, c * c + s * s - 1 = k := ⟨_, rfl⟩
  rw [hk] at h2
  have idp : p * p + w * w = N + k * N := by
    rw [<- hp, <- hw, <- hk, <- hNe]; exact gq294
  have idx : x = c * p + s * w - x * k := by rw [<- hp, <- hw, <- hk]; exact gq345
  have idy : y = s * p - c * w - y * k := by rw [<- hp, <- hw, <- hk]; exact gq346
  -- w
  have wq : 101 / 100 * t * (ab x + ab y) = t * (101 / 100 * (ab x + ab y)) := by exact gq160
  rw [wq] at h3
  have wM : ab w <= 202 / 100 * (t * M) := by
    have := Rat.mul_le_mul_of_nonneg_left (show 101 / 100 * (ab x + ab y) <= 202 / 100 * M by exact gq289 hx hy) (Rat.le_of_lt ht)
    have e : t * (202 / 100 * M) = 202 / 100 * (t * M) := by exact gq216
    rw [e] at this; exact mn h3 this
  have ww : w * w <= t * (3 / 1000 * N) := by
    have a1 := bj w
    have := cf h3 h3 a1 (fy (Rat.le_of_lt ht) (by exact gq196 x0 y0))
    rw [eq] at this
    have e : t * (101 / 100 * (ab x + ab y)) * (t * (101 / 100 * (ab x + ab y))) = t * (10201 / 10000 * (t * ((ab x + ab y) * (ab x + ab y)))) := by exact gq175
    rw [e] at this
    have b1 := Rat.mul_le_mul_of_nonneg_left q2 (Rat.le_of_lt ht)
    have b2 : t * (2 * N) = 2 * (t * N) := by exact gq17
    rw [b2] at b1
    have b3 : 10201 / 10000 * (t * ((ab x + ab y) * (ab x + ab y))) <= 3 / 1000 * N := by exact gq268 hN tN b1
    have b4 := Rat.mul_le_mul_of_nonneg_left b3 (Rat.le_of_lt ht)
    exact mn this b4
  have ww0 := cQ w
  have kN : ab (k * N) <= 1 / 1000000000 * N := by
    rw [cU, bJ hN]
    exact Rat.mul_le_mul_of_nonneg_right h2 (Rat.le_of_lt hN)
  have k1 := cR (k * N)
  have k2 := bB (k * N)
  have t2N := Rat.mul_le_mul_of_nonneg_right ht2 (Rat.le_of_lt hN)
  have wt : t * (3 / 1000 * N) = 3 / 1000 * (t * N) := by exact gq217
  rw [wt] at ww
  -- p² is near E²
  have pE : ab (p * p - E * E) <= 401 / 100 * (t * N) := by
    have e : p * p - E * E = -(E * E - N) + k * N - w * w := by exact gq371 idp
    rw [e]
    exact gX (by exact gq395 h1 hN e1 ww kN k2 t2N) (by exact gq394 h1 hN e2 ww0 kN k1 t2N)
  -- hence p is near E
  have tE := Rat.mul_le_mul_of_nonneg_left NE (Rat.le_of_lt ht)
  have pEl : 99 / 100 * E <= p + E := by exact gq245 h4 hE qE
  have d1 : ab (p - E) * (99 / 100 * E) <= 401 / 100 * (t * N) := by
    have a0 := bj (p - E)
    have := Rat.mul_le_mul_of_nonneg_left pEl a0
    have e : ab (p - E) * (p + E) = ab (p * p - E * E) := by
      have e2 : p * p - E * E = (p - E) * (p + E) := by exact gq183
      rw [e2, cU, ba (show 0 <= p + E by exact gq246 h4 hE qE)]
    rw [e] at this
    exact mn this pE
  have d2 : ab (p - E) <= 408 / 100 * (t * E) := by
    refine gM hE ?_
    have e1 : t * (1005 / 1000 * (E * E)) = 1005 / 1000 * (t * E * E) := by exact gq213
    rw [e1] at tE
    have e2 : ab (p - E) * (99 / 100 * E) = 99 / 100 * (ab (p - E) * E) := by exact gq219
    rw [e2] at d1
    have e3 : 408 / 100 * (t * E) * E = 408 / 100 * (t * E * E) := by exact gq162
    rw [e3]
    have z := Rat.mul_pos (Rat.mul_pos ht hE) hE
    generalize t * E * E = z1 at *
    generalize ab (p - E) * E = z2 at *
    generalize t * N = z3 at *
    clear e1 e2 e3 pE idp idx idy ww kN k1 k2 t2N tN r1 h1 q2
    exact gq255 d1 z tE
  have d3 : ab (p - E) <= 58 / 10 * (t * M) := by
    have := Rat.mul_le_mul_of_nonneg_left EM (Rat.le_of_lt ht)
    have e : t * (142 / 100 * M) = 142 / 100 * (t * M) := by exact gq214
    rw [e] at this
    have tm := Rat.mul_pos ht hM
    exact gq269 tm this d2
  -- sizes of c, s
  have k3 := cR k
  have cc := cQ c
  have sscq := cQ s
  have cb : ab c <= 1001 / 1000 := bW (by exact gq26) (by rw [eq]; exact gq318 hk sscq k3 h2)
  have sb : ab s <= 1001 / 1000 := bW (by exact gq26) (by rw [eq]; exact gq317 hk cc k3 h2)
  have tM0 := Rat.mul_pos ht hM
  have tM2 := Rat.mul_le_mul_of_nonneg_right ht2 (Rat.le_of_lt hM)
  have fin : ∀ {a b u : Rat}, ab a <= 1001 / 1000 -> ab b <= 1001 / 1000 -> ab u <= M -> ab (a * (E - p) + b * w + u * k) <= 8 * (t * M) := by
    intro a b u ha hb hu
    have f1 := i8 ha (show ab (E - p) <= 58 / 10 * (t * M) by rw [wK]; exact d3)
    have f2 := i8 hb wM
    have f3 := i8 hu h2
    have g1 := dK (a * (E - p)) (b * w)
    have g2 := dK (a * (E - p) + b * w) (u * k)
    clear idx idy idp pE d1 d2 ww kN k1 k2 k3 h1 tE
    exact gq398 hE EM tM2 f1 f2 f3 g1 g2
  refine ⟨?_, ?_, ?_, ?_⟩
  · have := fin (a := c) (b := -s) (u := x) cb (by rw [dA]; exact sb) hx
    have e : c * (E - p) + -s * w + x * k = E * c - x := by exact gq392 idx
    rw [e] at this; exact this
  · have := fin (a := s) (b := c) (u := y) sb cb hy
    have e : s * (E - p) + c * w + y * k = E * s - y := by exact gq383 idy
    rw [e] at this; exact this
  · have := i8 (a := E) (b := c) (show ab E <= 142 / 100 * M by rw [bJ hE]; exact EM) cb
    exact gq60 hE EM this
  · have := i8 (a := E) (b := s) (show ab E <= 142 / 100 * M by rw [bJ hE]; exact EM) sb
    exact gq60 hE EM this
end

open PySem PySem.W PyProof.Rows PySem.Calls PySem.SeqAt

section
inductive PV where
  | none | bool (b : Bool) | int (i : Int) | str (s : Str) | tup (l : List PV) | lst (l : List PV) | fn (f : Str)

structure G where
  prog : Program
  w : World
  p : Program
  loose : List Str
  mean : ExcName -> Option Value
  mg : Str -> Option Value
  mb : Str -> Option Value
  hb : Heap
  T : Top p loose mean mg mb hb

noncomputable def GV (g : G) (f : Str) (v : Value) : Prop := g.mg f = some v \/ (g.mg f = none /\ g.mb f = some v)

mutual
noncomputable def ci (g : G) (h : Heap) (v : Value) : PV -> Prop
  | .none => v = .none
  | .bool b => v = .bool b
  | .int i => ∃ t, v = .int i t
  | .str x => ∃ t, v = .str x t
  | .tup l => ∃ a vs, v = .ref a /\ IsTup h a vs.toArray /\ a8 g h vs l
  | .lst l => ∃ a vs, v = .ref a /\ h.IsList a vs.toArray /\ a8 g h vs l
  | .fn f => GV g f v
noncomputable def a8 (g : G) (h : Heap) (vs : List Value) : List PV -> Prop
  | [] => vs = []
  | d :: l => ∃ v vs', vs = v :: vs' /\ ci g h v d /\ a8 g h vs' l
end

structure TupK (h h' : Heap) : Prop where
  t : ∀ a items, IsTup h a items -> IsTup h' a items
  l : ∀ a items, h.IsList a items -> h'.IsList a items

mutual
theorem ci.keep {g : G} {h h' : Heap} (hk : TupK h h') : ∀ (d : PV) {v : Value}, ci g h v d -> ci g h' v d
  | .none, _, r => r
  | .bool _, _, r => r
  | .int _, _, r => r
  | .str _, _, r => r
  | .tup l, _, r => by
    unfold ci at r |-
    obtain ⟨a, vs, e, t, rs⟩ := r
    exact ⟨a, vs, e, hk.t _ _ t, a8.keep hk l rs⟩
  | .lst l, _, r => by
    unfold ci at r |-
    obtain ⟨a, vs, e, t, rs⟩ := r
    exact ⟨a, vs, e, hk.l _ _ t, a8.keep hk l rs⟩
  | .fn _, _, r => r
theorem a8.keep {g : G} {h h' : Heap} (hk : TupK h h') : ∀ (l : List PV) {vs : List Value}, a8 g h vs l -> a8 g h' vs l
  | [], _, r => r
  | d :: l, _, r => by
    unfold a8 at r |-
    obtain ⟨v, vs', e, a, b⟩ := r
    exact ⟨v, vs', e, ci.keep hk d a, a8.keep hk l b⟩
end

theorem rP (h : Heap) : TupK h h := ⟨fun _ _ t => t, fun _ _ t => t⟩
theorem dE {h h' : Heap} (k : ∀ b o, h.get? b = some o -> h'.get? b = some o) : TupK h h' := ⟨fun _ _ t => t.keeps k, fun _ _ t => let ⟨o, e, r⟩ := t; ⟨o, k _ _ e, r⟩⟩
theorem oY {h : Heap} {L a : Addr} {m : Str -> Option Value} {items : Array Value} (hn : h.Ns L m) (t : IsTup h a items) : a ≠ L := by
  rintro rfl
  obtain ⟨o, es, ep, e, d, _⟩ := hn
  obtain ⟨o', e', _, n, d'⟩ := t
  rw [e] at e'; cases e'
  rw [d] at d'; cases d'
theorem lst_ne {h : Heap} {L a : Addr} {m : Str -> Option Value} {items : Array Value} (hn : h.Ns L m) (t : h.IsList a items) : a ≠ L := by
  rintro rfl
  obtain ⟨o, es, ep, e, d, _⟩ := hn
  obtain ⟨o', e', _, n, d'⟩ := t
  rw [e] at e'; cases e'
  rw [d] at d'; cases d'
theorem h9 {h h' : Heap} {L : Addr} {m : Str -> Option Value} (hn : h.Ns L m) (k : Heap.ExtBut L h h') : TupK h h' :=
  ⟨fun _ _ t => t.extBut k (oY hn t), fun a _ t => let ⟨o, e, r⟩ := t; ⟨o, k a o (lst_ne hn t) e, r⟩⟩

abbrev bI := List (Str × PV)

structure Cx where
  name : Str
  scope : Scope
  N : Nat

noncomputable def lK (g : G) (h : Heap) (m : Str -> Option Value) (env : bI) : Prop :=
  ∀ x v, env.lookup x = some v -> ∃ val, m x = some val /\ ci g h val v

/-- the frames that stand are known, and their objects stand -/
noncomputable def kq (g : G) (A : Around) (h : Heap) : Prop := ∃ outer, A.frames = some outer /\ h.FunFrames g.hb outer
theorem kq.of {g : G} {A : Around} {h h' : Heap} (f : kq g A h) (k : ∀ b o, h.get? b = some o -> (∀ vs, o.data ≠ .fields vs) -> ∃ o', h'.get? b = some o' /\ o'.data = o.data) : kq g A h' :=
  let ⟨l, e, x⟩ := f; ⟨l, e, Heap.FunFrames.of_keeps k x⟩
theorem kq.ext {g : G} {A : Around} {h h' : Heap} (f : kq g A h) (k : ∀ b o, h.get? b = some o -> h'.get? b = some o) : kq g A h' :=
  f.of fun b o e _ => ⟨o, k b o e, rfl⟩
theorem eK {h h' base : Heap} {L : Addr} {m : Str -> Option Value} (hn : h'.Ns L m) (k : ∀ b o, b ≠ L -> h.get? b = some o -> (∀ vs, o.data ≠ .fields vs) -> h'.get? b = some o) : ∀ {l : List Env}, h.FunFrames base l -> h'.FunFrames base l
  | [], _ => trivial
  | env :: rest, ⟨hk, ⟨M, o, hf, hb, ho, hd⟩, hr⟩ => by
    refine ⟨hk, ?_, eK hn k hr⟩
    by_cases e : M = L
    · obtain ⟨o', es, ep, e1, d, _⟩ := hn
      exact ⟨M, o', hf, hb, e ▸ e1, fun vs x => by rw [d] at x; cases x⟩
    · exact ⟨M, o, hf, hb, k M o e ho hd, hd⟩
theorem kq.but {g : G} {A : Around} {h h' : Heap} {L : Addr} {m : Str -> Option Value} (f : kq g A h) (hn : h'.Ns L m) (k : Heap.ExtBut L h h') : kq g A h' :=
  let ⟨l, e, x⟩ := f; ⟨l, e, eK hn (fun b o hb x _ => k b o hb x) x⟩

structure Ok (g : G) (C : Cx) (A : Around) (L : Addr) (h : Heap) (env : bI) : Prop where
  depth : A.depth + C.N < 900
  units : A.units + 10 * C.N < 9000
  hand : A.handled = none
  frm : kq g A h
  top : C.name = ("law" : Str) -> ∃ a cd, A.frames = some [envOf C.name C.scope L a cd]
  kind : C.scope.kind = .function
  fr : ∃ m, Fr g.hb L h m /\ lK g h m env

theorem lK.keep {g : G} {h h' : Heap} {m : Str -> Option Value} {env : bI} (r : lK g h m env) (k : TupK h h') : lK g h' m env :=
  fun x v e => let ⟨val, a, b⟩ := r x v e; ⟨val, a, ci.keep k v b⟩

theorem Fr.ext {h₀ h h' : Heap} {L : Addr} {m : Str -> Option Value} (F : Fr h₀ L h m) (k : ∀ b o, h.get? b = some o -> h'.get? b = some o) : Fr h₀ L h' m :=
  ⟨F.ns.keeps k, fun b o e => k b o (F.keep b o e), F.above⟩

theorem Ok.ext {g : G} {C : Cx} {A : Around} {L : Addr} {h h' : Heap} {env : bI} (o : Ok g C A L h env) (k : ∀ b o, h.get? b = some o -> h'.get? b = some o) : Ok g C A L h' env :=
  let ⟨m, F, r⟩ := o.fr
  ⟨o.depth, o.units, o.hand, o.frm.ext k, o.top, o.kind, m, Fr.ext F k, r.keep (dE k)⟩

noncomputable def SE (g : G) (C : Cx) (e : PySem.Expr) (env : bI) (Q : PV -> Prop) : Prop :=
  ∀ (A : Around) (L a : Addr) (cd : Value) (s : Shared) (P E : Value -> Shared -> Prop), Ok g C A L s.heap env ->
    (∀ v val h' tk', Q v -> ci g h' val v -> Ok g C A L h' env -> Heap.ExtBut L s.heap h' -> P val { s with heap := h', toks := tk' }) ->
    wpAny (model g.prog g.w) A (eval e (envOf C.name C.scope L a cd)) P (fun e' s' => E e' s') s

noncomputable def uo (g : G) (C : Cx) (es : List PySem.Expr) (env : bI) (Q : List PV -> Prop) : Prop :=
  ∀ (A : Around) (L a : Addr) (cd : Value) (pos : Pos) (s : Shared) (P : List Value -> Shared -> Prop) (E : Value -> Shared -> Prop), Ok g C A L s.heap env ->
    (∀ vs vals h' tk', Q vs -> a8 g h' vals vs -> Ok g C A L h' env -> Heap.ExtBut L s.heap h' -> P vals { s with heap := h', toks := tk' }) ->
    wpAny (model g.prog g.w) A (spliced (backTo pos (starEach es (envOf C.name C.scope L a cd)))) P E s

noncomputable def SB (g : G) (C : Cx) (e : PySem.Expr) (env : bI) (Q : Bool -> Prop) : Prop :=
  ∀ (A : Around) (L a : Addr) (cd : Value) (s : Shared) (P : Bool -> Shared -> Prop) (E : Value -> Shared -> Prop), Ok g C A L s.heap env ->
    (∀ b h' tk', Q b -> Ok g C A L h' env -> Heap.ExtBut L s.heap h' -> P b { s with heap := h', toks := tk' }) ->
    wpAny (model g.prog g.w) A (PySem.isTrue e (envOf C.name C.scope L a cd) (eval e (envOf C.name C.scope L a cd))) P E s

inductive Out where
  | next (env : bI)
  | ret (v : PV)

noncomputable def SS (g : G) (C : Cx) (st : Stmt) (env : bI) (K : Out -> Prop) : Prop :=
  ∀ (A : Around) (L a : Addr) (cd : Value) (s : Shared) (P : Flow -> Shared -> Prop) (E : Value -> Shared -> Prop), Ok g C A L s.heap env ->
    (∀ env' h' tk', K (.next env') -> Ok g C A L h' env' -> Heap.ExtBut L s.heap h' -> P .next { s with heap := h', toks := tk' }) ->
    (∀ v val h' tk', K (.ret v) -> ci g h' val v -> Ok g C A L h' [] -> Heap.ExtBut L s.heap h' -> P (.ret val) { s with heap := h', toks := tk' }) ->
    wpAny (model g.prog g.w) A (exec st (envOf C.name C.scope L a cd)) P E s

noncomputable def mu (g : G) (C : Cx) (sts : List Stmt) (env : bI) (K : Out -> Prop) : Prop :=
  ∀ (A : Around) (L a : Addr) (cd : Value) (s : Shared) (P : Flow -> Shared -> Prop) (E : Value -> Shared -> Prop), Ok g C A L s.heap env ->
    (∀ env' h' tk', K (.next env') -> Ok g C A L h' env' -> Heap.ExtBut L s.heap h' -> P .next { s with heap := h', toks := tk' }) ->
    (∀ v val h' tk', K (.ret v) -> ci g h' val v -> Ok g C A L h' [] -> Heap.ExtBut L s.heap h' -> P (.ret val) { s with heap := h', toks := tk' }) ->
    wpAny (model g.prog g.w) A (execs sts (envOf C.name C.scope L a cd)) P E s

section
variable {g : G} {C : Cx} {env : bI}

theorem SE.mono {e : PySem.Expr} {Q Q' : PV -> Prop} (h : SE g C e env Q) (hq : ∀ v, Q v -> Q' v) : SE g C e env Q' :=
  fun A L a cd s P E o k => h A L a cd s P E o fun v val h' tk' q => k v val h' tk' (hq v q)

/-- after e, value kept while more is run -/
theorem jv {A : Around} {L : Addr} {h h' : Heap} (o : Ok g C A L h env) (k : Heap.ExtBut L h h') : TupK h h' :=
  let ⟨_, F, _⟩ := o.fr; h9 F.ns k

theorem SE_int {i : Int} {k : Nat} {pos : Pos} {Q : PV -> Prop} (h : Q (.int i)) : SE g C (.Constant (.int i) k pos) env Q :=
  fun A L a cd s P E o kk => wpAny_Constant_int (kk _ _ s.heap _ h ⟨_, rfl⟩ o (Heap.ExtBut.refl _ _))
theorem SE_bool {b : Bool} {k : Nat} {pos : Pos} {Q : PV -> Prop} (h : Q (.bool b)) : SE g C (.Constant (.bool b) k pos) env Q :=
  fun A L a cd s P E o kk => wpAny_Constant_bool (kk _ _ s.heap s.toks h rfl o (Heap.ExtBut.refl _ _))
theorem SE_none {k : Nat} {pos : Pos} {Q : PV -> Prop} (h : Q .none) : SE g C (.Constant .none k pos) env Q :=
  fun A L a cd s P E o kk => wpAny_Constant_none (kk _ _ s.heap s.toks h rfl o (Heap.ExtBut.refl _ _))
theorem SE_str {x : Str} {k : Nat} {pos : Pos} {Q : PV -> Prop} (h : Q (.str x)) : SE g C (.Constant (.str x) k pos) env Q :=
  fun A L a cd s P E o kk => wpAny_Constant_str (kk _ _ s.heap _ h ⟨_, rfl⟩ o (Heap.ExtBut.refl _ _))

theorem fT {x : Str} {pos : Pos} {v : PV} {Q : PV -> Prop} (hl : C.scope.names.lookup x = some .local) (hv : env.lookup x = some v) (hd : (x == ("__debug__" : Str)) = false)
    (h : Q v) : SE g C (.Name x pos) env Q := fun A L a cd s P E o k => by
  obtain ⟨m, F, r⟩ := o.fr
  obtain ⟨val, e, rv⟩ := r x v hv
  exact ld F e (k v val s.heap s.toks h rv o (Heap.ExtBut.refl _ _)) o.kind hl hd

/-- a name of the frame, and of the globals -/
noncomputable def locB (C : Cx) (x : Str) : Bool := C.scope.names.lookup x == some .local && !(x == ("__debug__" : Str))
noncomputable def gloB (C : Cx) (x : Str) : Bool := C.scope.names.lookup x == some .globalImplicit && !(x == ("__debug__" : Str))
theorem SE_nm {x : Str} {pos : Pos} {v : PV} {Q : PV -> Prop} (hl : locB C x = true) (hv : env.lookup x = some v) (h : Q v) : SE g C (.Name x pos) env Q := by
  simp only [locB, Bool.and_eq_true, beq_iff_eq, Bool.not_eq_true'] at hl
  exact fT hl.1 hv hl.2 h

noncomputable def qP (g : G) (x : Str) (v : PV) : Prop := ∃ val, g.mg x = some val /\ ci g g.hb val v

theorem rM {x : Str} {pos : Pos} {v : PV} {Q : PV -> Prop} (hv : qP g x v) (hl : C.scope.names.lookup x = some .globalImplicit) (hd : (x == ("__debug__" : Str)) = false)
    (h : Q v) : SE g C (.Name x pos) env Q := fun A L a cd s P E o k => by
  obtain ⟨m, F, r⟩ := o.fr
  obtain ⟨val, e, rv⟩ := hv
  exact ld_global_at F g.T.g e (k v val s.heap s.toks h (ci.keep (dE F.keep) v rv) o (Heap.ExtBut.refl _ _)) o.kind hl hd
end

noncomputable def ar (a : Int) : Prop := a.natAbs < 2 ^ 8000

noncomputable def MulOk (a b : Int) : Prop := a.natAbs < 1152921504606846976 \/ b.natAbs < 1152921504606846976 \/ (ar a /\ ar b)

noncomputable def jG (op : Operator) (x y r : PV) : Prop :=
  match x, y with
  | .int a, .int b => (match op with
    | .Add => r = .int (a + b)
    | .Sub => r = .int (a - b)
    | .Mult => r = .int (a * b) /\ MulOk a b
    | .FloorDiv => r = .int (a / b) /\ 0 < b /\ ar b
    | .Mod => r = .int (a % b) /\ 0 < b
    | .Pow => r = .int (a ^ b.toNat) /\ 0 <= b /\ b <= 100000 /\ a.natAbs < 2 ^ 100
    | _ => False)
  | _, _ => False

theorem lh {n k : Nat} (h : n < 2 ^ k) (hk : 0 < k) : n.log2 < k := by
  by_cases hn : n = 0
  · subst hn; simpa using hk
  · exact (Nat.log2_lt hn).2 h

theorem mulOk {a b : Int} (ha : ar a) (hb : ar b) : IntMulOk a b :=
  .of_bits (Nat.le_trans (intBits_le ha) (Nat.le_of_ble_eq_true rfl)) (Nat.le_trans (intBits_le hb) (Nat.le_of_ble_eq_true rfl))

theorem uV {a b : Int} (h : MulOk a b) : IntMulOk a b := by
  rcases h with h | h | ⟨h1, h2⟩
  · exact .of_left (Nat.le_trans (intBits_le (k := 60) h) (by decide))
  · exact .of_right (Nat.le_trans (intBits_le (k := 60) h) (by decide))
  · exact mulOk h1 h2

theorem k8 {a b : Int} (hb : ar b) : Builtin.divisionGoesByPylong a b = false := by
  unfold Builtin.divisionGoesByPylong
  simp only
  have : ¬ ((if b == 0 then 0 else b.natAbs.log2 / 30 + 1) > 300) := by
    split
    · exact fq303
    · have := lh hb (by decide)
      exact fq798 this
  rw [decide_eq_false this]; rfl

theorem km {prog : Program} {w : World} {g : G} {h : Heap} {A : Around} {s : Shared} {op : Operator} {a b c : PV} {va vb : Value} {P E : Value -> Shared -> Prop}
    (hc : jG op a b c) (ra : ci g h va a) (rb : ci g h vb b) (k : ∀ val tk', (∀ h', ci g h' val c) -> P val { s with toks := tk' }) :
    wpAny (model prog w) A (binaryOp op va vb) P E s := by
  cases a <;> try (exact hc.elim)
  cases b <;> try (exact hc.elim)
  rename_i a b
  unfold ci at ra rb
  obtain ⟨t, rfl⟩ := ra
  obtain ⟨u, rfl⟩ := rb
  cases op <;> simp only [jG] at hc
  · subst hc; exact add_int (k _ _ fun _ => ⟨_, rfl⟩)
  · subst hc; exact sub_int (k _ _ fun _ => ⟨_, rfl⟩)
  · obtain ⟨rfl, h1⟩ := hc; exact PyProof.Rows.mul_int (k _ _ fun _ => ⟨_, rfl⟩) (uV h1)
  · obtain ⟨rfl, h1⟩ := hc
    refine mod_int (by exact jb h1) ?_
    rw [Int.fmod_eq_emod_of_nonneg _ (by exact jC h1)]
    exact (k _ _ fun _ => ⟨_, rfl⟩)
  · obtain ⟨rfl, h1, h2, h3⟩ := hc
    refine pow_int h1 ?_ (k _ _ fun _ => ⟨_, rfl⟩)
    have := intBits_le h3
    have h5 : (Builtin.Int.intBits a : Int) * b <= 100 * 100000 := Int.mul_le_mul (by exact fq260 this) h2 h1 (by exact fq117)
    exact fq163 h5
  · obtain ⟨rfl, h1, h2⟩ := hc
    refine floordiv_int (by exact jb h1) ?_ (.inl (k8 h2))
    rw [Int.fdiv_eq_ediv_of_nonneg _ (by exact jC h1)]
    exact (k _ _ fun _ => ⟨_, rfl⟩)

theorem ng {prog : Program} {w : World} {g : G} {h : Heap} {A : Around} {s : Shared} {op : Operator} {a b c : PV} {va vb : Value} {P E : Value -> Shared -> Prop}
    (hc : jG op a b c) (ra : ci g h va a) (rb : ci g h vb b) (k : ∀ val tk', (∀ h', ci g h' val c) -> P val { s with toks := tk' }) :
    wpAny (model prog w) A (inplaceOp op va vb) P E s := by
  cases a <;> try (exact hc.elim)
  cases b <;> try (exact hc.elim)
  rename_i a b
  unfold ci at ra rb
  obtain ⟨t, rfl⟩ := ra
  obtain ⟨u, rfl⟩ := rb
  cases op <;> simp only [jG] at hc
  · subst hc; exact iadd_int (k _ _ fun _ => ⟨_, rfl⟩)
  · subst hc; exact isub_int (k _ _ fun _ => ⟨_, rfl⟩)
  · obtain ⟨rfl, h1⟩ := hc; exact PyProof.Rows.imul_int (k _ _ fun _ => ⟨_, rfl⟩) (uV h1)
  · obtain ⟨rfl, h1⟩ := hc
    refine imod_int (by exact jb h1) ?_
    rw [Int.fmod_eq_emod_of_nonneg _ (by exact jC h1)]
    exact (k _ _ fun _ => ⟨_, rfl⟩)
  · obtain ⟨rfl, h1, h2, h3⟩ := hc
    refine ipow_int h1 ?_ (k _ _ fun _ => ⟨_, rfl⟩)
    have := intBits_le h3
    have h5 : (Builtin.Int.intBits a : Int) * b <= 100 * 100000 := Int.mul_le_mul (by exact fq260 this) h2 h1 (by exact fq117)
    exact fq163 h5
  · obtain ⟨rfl, h1, h2⟩ := hc
    refine ifloordiv_int (by exact jb h1) ?_ (.inl (k8 h2))
    rw [Int.fdiv_eq_ediv_of_nonneg _ (by exact jC h1)]
    exact (k _ _ fun _ => ⟨_, rfl⟩)

section
variable {g : G} {C : Cx} {env : bI}

abbrev lU (op : Operator) (a : PV) (Q : PV -> Prop) (b : PV) : Prop := ∃ c, jG op a b c /\ Q c
abbrev BinL (g : G) (C : Cx) (r : PySem.Expr) (env : bI) (op : Operator) (Q : PV -> Prop) (a : PV) : Prop := SE g C r env (lU op a Q)
theorem wV {l r : PySem.Expr} {op : Operator} {pos : Pos} {Q : PV -> Prop}
    (h : SE g C l env (BinL g C r env op Q)) : SE g C (.BinOp l op r pos) env Q := fun A L ad cd s P E o k =>
  wpAny_BinOp (h A L ad cd s _ E o fun a va h1 t1 ha ra o1 k1 => ha A L ad cd _ _ E o1 fun b vb h2 t2 ⟨c, hc, hq⟩ rb o2 k2 =>
    km hc (ci.keep (jv o1 k2) a ra) rb fun val tk' rc => k c val h2 tk' hq (rc _) o2 (k1.trans k2))

abbrev NegQ (Q : PV -> Prop) (a : PV) : Prop := ∃ i, a = .int i /\ Q (.int (-i))
theorem SE_neg {x : PySem.Expr} {pos : Pos} {Q : PV -> Prop} (h : SE g C x env (NegQ Q)) : SE g C (.UnaryOp .USub x pos) env Q := fun A L ad cd s P E o k =>
  wpAny_UnaryOp (h A L ad cd s _ E o fun a va h1 t1 ⟨i, e, hq⟩ ra o1 k1 => by
    subst e
    unfold ci at ra
    obtain ⟨t, rfl⟩ := ra
    exact PyProof.Rows.neg_int (k _ _ h1 _ hq ⟨_, rfl⟩ o1 k1))
end

mutual
noncomputable def qV : PV -> PyData
  | .none => .none
  | .bool b => .bool b
  | .int i => .int i
  | .str x => .str x
  | .tup l => .tuple (toDs l)
  | .lst l => .list (toDs l)
  | .fn f => .none
noncomputable def toDs : List PV -> List PyData
  | [] => []
  | d :: l => qV d :: toDs l
end
mutual
noncomputable def isD : PV -> Bool
  | .tup l => vE l
  | .lst l => vE l
  | .fn _ => false
  | _ => true
noncomputable def vE : List PV -> Bool
  | [] => true
  | d :: l => isD d && vE l
end
mutual
theorem kX {g : G} {h : Heap} : ∀ (d : PV) {v : Value}, isD d = true -> ci g h v d -> ∃ as, Reads h v (qV d) as
  | .none, _, _, r => by unfold ci at r; subst r; exact ⟨_, .none⟩
  | .bool _, _, _, r => by unfold ci at r; subst r; exact ⟨_, .bool _⟩
  | .int _, _, _, r => by unfold ci at r; obtain ⟨t, rfl⟩ := r; exact ⟨_, .int _ _⟩
  | .str _, _, _, r => by unfold ci at r; obtain ⟨t, rfl⟩ := r; exact ⟨_, .str _ _⟩
  | .tup l, _, i, r => by
    unfold ci at r; unfold isD at i
    obtain ⟨a, vs, rfl, ⟨o, e, c, n, d⟩, rs⟩ := r
    obtain ⟨as, x⟩ := jT l i rs
    exact ⟨as, .tuple e c d x⟩
  | .lst l, _, i, r => by
    unfold ci at r; unfold isD at i
    obtain ⟨a, vs, rfl, ⟨o, e, c, n, d⟩, rs⟩ := r
    obtain ⟨as, x⟩ := jT l i rs
    exact ⟨_, .list e c d x⟩
  | .fn _, _, i, _ => by cases i
theorem jT {g : G} {h : Heap} : ∀ (l : List PV) {vs : List Value}, vE l = true -> a8 g h vs l -> ∃ as, ReadsAll h vs (toDs l) as
  | [], _, _, r => by unfold a8 at r; subst r; exact ⟨_, .nil⟩
  | d :: l, _, i, r => by
    unfold a8 at r; unfold vE at i
    obtain ⟨v, vs', rfl, r1, r2⟩ := r
    have i' := Bool.and_eq_true_iff.mp i
    obtain ⟨as, x⟩ := kX d i'.1 r1
    obtain ⟨bs, y⟩ := jT l i'.2 r2
    exact ⟨_, .cons x y⟩
end

noncomputable def cmp (op : CmpOp) (x y : PV) (r : Bool) : Prop :=
  match x, y with
  | .int a, .int b => (match op with
    | .Eq => r = decide (a = b)
    | .NotEq => r = decide (a ≠ b)
    | .Lt => r = decide (a < b)
    | .LtE => r = decide (a <= b)
    | .Gt => r = decide (b < a)
    | .GtE => r = decide (b <= a)
    | _ => False)
  | .bool a, .bool b => (match op with
    | .Eq => r = (a == b)
    | .NotEq => r = (a != b)
    | _ => False)
  | x, y => (isD x && isD y && shaped (qV x) && shaped (qV y)) = true /\ (match op with
    | .Eq => r = PyData.eqv (qV x) (qV y)
    | .NotEq => r = !PyData.eqv (qV x) (qV y)
    | _ => False)

theorem rG (a b : Int) : (a != b) = decide (a ≠ b) := by by_cases h : a = b <;> simp [h]

theorem wD {prog : Program} {w : World} {g : G} {A : Around} {s : Shared} {op : CmpOp} {a b : PV} {c : Bool} {va vb : Value} {P E : Value -> Shared -> Prop}
    (hu : A.units + 64 < cLine) (hi : (isD a && isD b && shaped (qV a) && shaped (qV b)) = true)
    (hc : match op with | .Eq => c = PyData.eqv (qV a) (qV b) | .NotEq => c = !PyData.eqv (qV a) (qV b) | _ => False)
    (ra : ci g s.heap va a) (rb : ci g s.heap vb b) (k : P (.bool c) s) :
    wpAny (model prog w) A (compareOp op va vb) P E s := by
  simp only [Bool.and_eq_true] at hi
  obtain ⟨⟨⟨i1, i2⟩, i3⟩, i4⟩ := hi
  obtain ⟨as, ra⟩ := kX a i1 ra
  obtain ⟨bs, rb⟩ := kX b i2 rb
  cases op <;> simp only at hc
  · subst hc; exact compareEq_shaped ra rb i3 i4 hu k
  · subst hc; exact compareNe_shaped ra rb i3 i4 hu k

theorem gw {prog : Program} {w : World} {g : G} {A : Around} {s : Shared} {op : CmpOp} {a b : PV} {c : Bool} {va vb : Value} {P E : Value -> Shared -> Prop}
    (hu : A.units + 64 < cLine) (hc : cmp op a b c) (ra : ci g s.heap va a) (rb : ci g s.heap vb b) (k : P (.bool c) s) :
    wpAny (model prog w) A (compareOp op va vb) P E s := by
  unfold cmp at hc
  split at hc
  · unfold ci at ra rb
    obtain ⟨t, rfl⟩ := ra
    obtain ⟨u, rfl⟩ := rb
    split at hc
    · subst hc; exact eq_int k
    · subst hc; exact ne_int (by rw [rG]; exact k)
    · subst hc; exact lt_int k
    · subst hc; exact PyProof.Rows.le_int k
    · subst hc; exact gt_int k
    · subst hc; exact PyProof.Rows.ge_int k
    · exact hc.elim
  · unfold ci at ra rb
    subst ra rb
    split at hc
    · subst hc; exact eq_bool k
    · subst hc; exact ne_bool k
    · exact hc.elim
  · exact wD hu hc.1 hc.2 ra rb k

theorem qU {g : G} {C : Cx} {A : Around} {L : Addr} {h : Heap} {env : bI} (o : Ok g C A L h env) : A.units + 64 < cLine := by
  have := o.units; have := cLine_is; exact fq290 ‹_› this

section
variable {g : G} {C : Cx} {env : bI}

abbrev nI (op : CmpOp) (a : PV) (Q : Bool -> Prop) (b : PV) : Prop := ∃ c, cmp op a b c /\ Q c
abbrev CmpL (g : G) (C : Cx) (r : PySem.Expr) (env : bI) (op : CmpOp) (Q : Bool -> Prop) (a : PV) : Prop := SE g C r env (nI op a Q)
abbrev OfB (Q : PV -> Prop) (c : Bool) : Prop := Q (.bool c)
theorem SE_cmp {l r : PySem.Expr} {op : CmpOp} {pos : Pos} {Q : PV -> Prop}
    (h : SE g C l env (CmpL g C r env op (OfB Q))) (hm : behindInMarks op r = false) : SE g C (.Compare l [op] [r] pos) env Q := fun A L ad cd s P E o k =>
  wpAny_Compare1 (h A L ad cd s _ E o fun a va h1 t1 ha ra o1 k1 => ha A L ad cd _ _ E o1 fun b vb h2 t2 ⟨c, hc, hq⟩ rb o2 k2 =>
    gw (qU o) hc (ci.keep (jv o1 k2) a ra) rb (k (.bool c) (.bool c) h2 t2 hq rfl o2 (k1.trans k2))) hm

theorem SB_cmp {l r : PySem.Expr} {op : CmpOp} {pos : Pos} {Q : Bool -> Prop}
    (h : SE g C l env (CmpL g C r env op Q)) (hm : behindInMarks op r = false) : SB g C (.Compare l [op] [r] pos) env Q := fun A L ad cd s P E o k =>
  wpAny_isTrue_Compare1 (h A L ad cd s _ E o fun a va h1 t1 ha ra o1 k1 => ha A L ad cd _ _ E o1 fun b vb h2 t2 ⟨c, hc, hq⟩ rb o2 k2 =>
    gw (qU o) hc (ci.keep (jv o1 k2) a ra) rb (wpAny_truthy_bool (k c h2 t2 hq o2 (k1.trans k2)))) hm

abbrev NotQ (Q : Bool -> Prop) (b : Bool) : Prop := Q (!b)
theorem SB_not {x : PySem.Expr} {pos : Pos} {Q : Bool -> Prop} (h : SB g C x env (NotQ Q)) : SB g C (.UnaryOp .Not x pos) env Q := fun A L ad cd s P E o k =>
  wpAny_isTrue_Not (h A L ad cd s _ E o fun b h1 t1 hb o1 k1 => k (!b) h1 t1 hb o1 k1)

noncomputable def iT (g : G) (C : Cx) (op : BoolOp) (es : List PySem.Expr) (env : bI) (Q : Bool -> Prop) : Prop :=
  ∀ (A : Around) (L a : Addr) (cd : Value) (s : Shared) (P : Bool -> Shared -> Prop) (E : Value -> Shared -> Prop), Ok g C A L s.heap env ->
    (∀ b h' tk', Q b -> Ok g C A L h' env -> Heap.ExtBut L s.heap h' -> P b { s with heap := h', toks := tk' }) ->
    wpAny (model g.prog g.w) A (allTrue op es (envOf C.name C.scope L a cd)) P E s

theorem SB_bool {op : BoolOp} {es : List PySem.Expr} {pos : Pos} {Q : Bool -> Prop} (h : iT g C op es env Q) : SB g C (.BoolOp op es pos) env Q := fun A L ad cd s P E o k =>
  wpAny_isTrue_BoolOp (h A L ad cd s P E o k)
theorem jK {Q : Bool -> Prop} (h : Q true) : iT g C .And [] env Q := fun A L ad cd s P E o k => wpAny_allTrue_And_nil (k true s.heap s.toks h o (Heap.ExtBut.refl _ _))
theorem ko {Q : Bool -> Prop} (h : Q false) : iT g C .Or [] env Q := fun A L ad cd s P E o k => wpAny_allTrue_Or_nil (k false s.heap s.toks h o (Heap.ExtBut.refl _ _))

theorem oS {x : PySem.Expr} {rest : List PySem.Expr} {Q : Bool -> Prop} (h : SB g C x env fun b => (b = true -> iT g C .And rest env Q) /\ (b = false -> Q false)) : iT g C .And (x :: rest) env Q := fun A L ad cd s P E o k =>
  wpAny_allTrue_And_cons (h A L ad cd s _ E o fun b h1 t1 hb o1 k1 => by
    cases b with
    | true => exact hb.1 rfl A L ad cd _ P E o1 fun b h2 t2 q o2 k2 => k b h2 t2 q o2 (k1.trans k2)
    | false => exact k false h1 t1 (hb.2 rfl) o1 k1)
theorem nH {x : PySem.Expr} {rest : List PySem.Expr} {Q : Bool -> Prop} (h : SB g C x env fun b => (b = false -> iT g C .Or rest env Q) /\ (b = true -> Q true)) : iT g C .Or (x :: rest) env Q := fun A L ad cd s P E o k =>
  wpAny_allTrue_Or_cons (h A L ad cd s _ E o fun b h1 t1 hb o1 k1 => by
    cases b with
    | false => exact hb.1 rfl A L ad cd _ P E o1 fun b h2 t2 q o2 k2 => k b h2 t2 q o2 (k1.trans k2)
    | true => exact k true h1 t1 (hb.2 rfl) o1 k1)

noncomputable def lX : PV -> Bool -> Prop
  | .bool b, c => c = b
  | .int i, c => c = decide (i ≠ 0)
  | _, _ => False

theorem ia {prog : Program} {w : World} {g : G} {A : Around} {s : Shared} {a : PV} {c : Bool} {va : Value} {P : Bool -> Shared -> Prop} {E : Value -> Shared -> Prop}
    (hc : lX a c) (ra : ci g s.heap va a) (k : P c s) : wpAny (model prog w) A (truthy va) P E s := by
  cases a <;> try (exact hc.elim)
  · unfold ci at ra; subst ra; cases hc; exact wpAny_truthy_bool k
  · unfold ci at ra; obtain ⟨t, rfl⟩ := ra; cases hc
    exact truthy_int (by rw [rG]; exact k)

abbrev uk (Q : Bool -> Prop) (v : PV) : Prop := ∃ b, lX v b /\ Q b
theorem nG {e : PySem.Expr} {Q : Bool -> Prop} (hs : ∀ (en : Env) (whole : Sem Value), PySem.isTrue e en whole = do { let v <- whole; standAt e.pos; holding [v] (truthy v) })
    (h : SE g C e env fun v => ∃ b, lX v b /\ Q b) : SB g C e env Q := fun A L ad cd s P E o k =>
  wpAny_isTrue_value (h A L ad cd s _ E o fun v va h1 t1 ⟨b, hb, q⟩ rv o1 k1 => ia hb rv (k b h1 t1 q o1 k1)) (hs _ _)
theorem SB_name {x : Str} {pos : Pos} {Q : Bool -> Prop} (h : SE g C (.Name x pos) env (uk Q)) : SB g C (.Name x pos) env Q := nG (fun _ _ => rfl) h
theorem wX {c : Const} {n : Nat} {pos : Pos} {Q : Bool -> Prop} (h : SE g C (.Constant c n pos) env (uk Q)) : SB g C (.Constant c n pos) env Q := nG (fun _ _ => rfl) h
theorem SB_call {f : PySem.Expr} {as : List PySem.Expr} {ks : List Keyword} {pos : Pos} {Q : Bool -> Prop} (h : SE g C (.Call f as ks pos) env (uk Q)) : SB g C (.Call f as ks pos) env Q := nG (fun _ _ => rfl) h

theorem SE_if {t b e : PySem.Expr} {pos : Pos} {Q : PV -> Prop} (h : SB g C t env fun c => (c = true -> SE g C b env Q) /\ (c = false -> SE g C e env Q)) : SE g C (.IfExp t b e pos) env Q := fun A L ad cd s P E o k =>
  wpAny_IfExp (h A L ad cd s _ E o fun c h1 t1 hc o1 k1 => by
    cases c with
    | true => exact hc.1 rfl A L ad cd _ P E o1 fun v val h2 t2 q r o2 k2 => k v val h2 t2 q r o2 (k1.trans k2)
    | false => exact hc.2 rfl A L ad cd _ P E o1 fun v val h2 t2 q r o2 k2 => k v val h2 t2 q r o2 (k1.trans k2))

theorem wW {e₁ e₂ : PySem.Expr} {rest : List PySem.Expr} {pos : Pos} {Q : PV -> Prop}
    (h : SE g C e₁ env fun v => ∃ b, lX v b /\ (b = true -> SE g C (.BoolOp .And (e₂ :: rest) pos) env Q) /\ (b = false -> Q v)) : SE g C (.BoolOp .And (e₁ :: e₂ :: rest) pos) env Q := fun A L ad cd s P E o k =>
  BoolOp_and (h A L ad cd s _ E o fun v va h1 t1 ⟨b, hb, q1, q2⟩ rv o1 k1 => ia hb rv (by
    cases b with
    | true => exact q1 rfl A L ad cd _ P E o1 fun v val h2 t2 q r o2 k2 => k v val h2 t2 q r o2 (k1.trans k2)
    | false => exact k v va h1 t1 (q2 rfl) rv o1 k1))
theorem SE_or {e₁ e₂ : PySem.Expr} {rest : List PySem.Expr} {pos : Pos} {Q : PV -> Prop}
    (h : SE g C e₁ env fun v => ∃ b, lX v b /\ (b = false -> SE g C (.BoolOp .Or (e₂ :: rest) pos) env Q) /\ (b = true -> Q v)) : SE g C (.BoolOp .Or (e₁ :: e₂ :: rest) pos) env Q := fun A L ad cd s P E o k =>
  BoolOp_or (h A L ad cd s _ E o fun v va h1 t1 ⟨b, hb, q1, q2⟩ rv o1 k1 => ia hb rv (by
    cases b with
    | false => exact q1 rfl A L ad cd _ P E o1 fun v val h2 t2 q r o2 k2 => k v val h2 t2 q r o2 (k1.trans k2)
    | true => exact k v va h1 t1 (q2 rfl) rv o1 k1))
theorem wU {op : BoolOp} {e : PySem.Expr} {pos : Pos} {Q : PV -> Prop} (h : SE g C e env Q) : SE g C (.BoolOp op [e] pos) env Q := fun A L ad cd s P E o k =>
  BoolOp_one (h A L ad cd s P E o k)

theorem SEs_nil {Q : List PV -> Prop} (h : Q []) : uo g C [] env Q := fun A L ad cd pos s P E o k => spliced_none (k [] [] s.heap s.toks h rfl o (Heap.ExtBut.refl _ _))
theorem dQ {e : PySem.Expr} {rest : List PySem.Expr} {en : Env} (hs : isStarred e = false) : starEach (e :: rest) en = (false, eval e en) :: starEach rest en := by
  cases e <;> first | rfl | cases hs
abbrev ConR (v : PV) (Q : List PV -> Prop) (vs : List PV) : Prop := Q (v :: vs)
abbrev ConL (g : G) (C : Cx) (rest : List PySem.Expr) (env : bI) (Q : List PV -> Prop) (v : PV) : Prop := uo g C rest env (ConR v Q)
theorem wO {e : PySem.Expr} {rest : List PySem.Expr} {Q : List PV -> Prop} (hs : isStarred e = false) (h : SE g C e env (ConL g C rest env Q)) : uo g C (e :: rest) env Q := fun A L ad cd pos s P E o k => by
  rw [dQ hs]
  refine spliced_cons (h A L ad cd s _ E o fun v va h1 t1 hv rv o1 k1 => ?_)
  exact hv A L ad cd pos _ _ E o1 fun vs vals h2 t2 q r o2 k2 => k (v :: vs) (va :: vals) h2 t2 q ⟨_, _, rfl, ci.keep (jv o1 k2) v rv, r⟩ o2 (k1.trans k2)

theorem a8.length : ∀ {vs : List Value} {l : List PV} {h : Heap}, a8 g h vs l -> vs.length = l.length
  | _, [], _, r => by unfold a8 at r; subst r; rfl
  | _, d :: l, _, r => by
    unfold a8 at r
    obtain ⟨v, vs', rfl, _, r2⟩ := r
    simp [a8.length r2]

abbrev TupQ (Q : PV -> Prop) (vs : List PV) : Prop := vs.length <= 10 /\ Q (.tup vs)
theorem wQ {elts : List PySem.Expr} {n : Nat} {pos : Pos} {Q : PV -> Prop} (h : uo g C elts env (TupQ Q)) : SE g C (.Tuple elts n pos) env Q := fun A L ad cd s P E o k =>
  Tuple_ (h A L ad cd pos s _ E o fun vs vals h1 t1 ⟨hl, q⟩ r o1 k1 => by
    refine wpAny_newObj_type ?_ (by show vals.toArray.size <= sizeLine; rw [List.size_toArray, a8.length r, sizeLine_eq]; lia -abstractProof)
    have kp : ∀ b o', h1.get? b = some o' -> (h1.push { cls := .type "tuple", data := .seq vals.toArray }).get? b = some o' := fun b o' e => Heap.get?_push_of_some _ e
    exact k (.tup vs) _ _ t1 q ⟨_, vals, rfl, IsTup.new _ _, a8.keep (dE kp) vs r⟩ (o1.ext kp) (k1.trans fun b o' _ e => kp b o' e))

theorem jB {prog : Program} {w : World} {h : Heap} {A : Around} {s : Shared} {value slice : PySem.Expr} {l : List PV} {k : Int} {x : PV} {v i : Value} {P E : Value -> Shared -> Prop}
    (hs : ∀ o j, subscripted slice false o j = operate [o, j] (getItem o j))
    (rv : ci g s.heap v (.tup l)) (ri : ci g h i (.int k)) (h0 : 0 <= k) (hx : l[k.toNat]? = some x) (hl : l.length <= 10) (kk : ∀ val, ci g s.heap val x -> P val s) :
    wpAny (model prog w) A (subscriptTail value slice v i) P E s := by
  unfold ci at rv ri
  obtain ⟨a, vs, rfl, t, rs⟩ := rv
  obtain ⟨u, rfl⟩ := ri
  have hk : k.toNat < l.length := by
    rcases Nat.lt_or_ge k.toNat l.length with h | h
    · exact h
    · rw [List.getElem?_eq_none h] at hx; cases hx
  have hlen := a8.length rs
  have key : ∀ (l : List PV) (vs : List Value) (n : Nat), a8 g s.heap vs l -> l[n]? = some x -> ∃ val, vs[n]? = some val /\ ci g s.heap val x := by
    intro l
    induction l with
    | nil => intro vs n r h; cases h
    | cons d l ih =>
      intro vs n r h
      unfold a8 at r
      obtain ⟨v, vs', rfl, r1, r2⟩ := r
      cases n with
      | zero => cases h; exact ⟨v, rfl, r1⟩
      | succ n => exact ih vs' n r2 h
  obtain ⟨val, hv, rx⟩ := key l vs _ rs hx
  refine item_tupleT (j := k.toNat) t (by exact fq395 h0) (by exact fq311 hk hl) ?_ hv (kk val rx) (hs _ _)
  unfold seqIndex?
  simp only [hlen]
  (repeat' split) <;> first | rfl | lia -abstractProof | simp_all <;> lia -abstractProof

theorem rL {value slice : PySem.Expr} {pos : Pos} {Q : PV -> Prop} (hs : ∀ o j, subscripted slice false o j = operate [o, j] (getItem o j))
    (h : SE g C value env fun v => SE g C slice env fun i => ∃ l k x, v = .tup l /\ i = .int k /\ 0 <= k /\ l[k.toNat]? = some x /\ l.length <= 10 /\ Q x) : SE g C (.Subscript value slice pos) env Q := fun A L ad cd s P E o k =>
  Subscript_ (h A L ad cd s _ E o fun v va h1 t1 hv rv o1 k1 => hv A L ad cd _ _ E o1 fun i vi h2 t2 ⟨l, n, x, e1, e2, h0, hx, hl, q⟩ ri o2 k2 => by
    subst e1 e2
    exact jB hs (ci.keep (jv o1 k2) _ rv) ri h0 hx hl fun val rx => k x val h2 t2 q rx o2 (k1.trans k2))
abbrev SubR (v : PV) (Q : PV -> Prop) (i : PV) : Prop := ∃ l k x, v = .tup l /\ i = .int k /\ 0 <= k /\ l[k.toNat]? = some x /\ l.length <= 10 /\ Q x
abbrev SubL (g : G) (C : Cx) (e : PySem.Expr) (env : bI) (Q : PV -> Prop) (v : PV) : Prop := SE g C e env (SubR v Q)
theorem SE_subc {value : PySem.Expr} {c : Const} {n : Nat} {p pos : Pos} {Q : PV -> Prop}
    (h : SE g C value env (SubL g C (.Constant c n p) env Q)) : SE g C (.Subscript value (.Constant c n p) pos) env Q := rL (fun _ _ => rfl) h
theorem SE_subn {value : PySem.Expr} {y : Str} {p pos : Pos} {Q : PV -> Prop}
    (h : SE g C value env (SubL g C (.Name y p) env Q)) : SE g C (.Subscript value (.Name y p) pos) env Q := rL (fun _ _ => rfl) h
end
end

section
noncomputable def ej (g : G) (fv : Value) : Prop :=
  (∃ id, fv = .builtin id) \/ (∃ T, fv = .type T) \/ ∃ a o fd, fv = .ref a /\ g.hb.get? a = some o /\ o.data = .func fd

structure Ret (g : G) (N : Nat) (f : Str) (args : List PV) (r : PV) : Prop where
  run : ∃ fv, GV g f fv /\ ej g fv /\ ∀ (A : Around) (s : Shared) (vals : List Value) (P E : Value -> Shared -> Prop),
    A.depth + N < 900 -> A.units + 10 * N < 9000 -> A.handled = none -> kq g A s.heap -> (∀ b o, g.hb.get? b = some o -> s.heap.get? b = some o) -> g.hb.objs.size <= s.heap.objs.size -> a8 g s.heap vals args ->
    (∀ val h' tk', (∀ b o, s.heap.get? b = some o -> h'.get? b = some o) -> ci g h' val r -> P val { s with heap := h', toks := tk' }) ->
    wpAny (model g.prog g.w) A (call fv vals) P E s

theorem Ret.le {g : G} {N N' : Nat} {f : Str} {args : List PV} {r : PV} (h : Ret g N f args r) (hn : N <= N') : Ret g N' f args r :=
  let ⟨fv, a, b, c⟩ := h.run
  ⟨fv, a, b, fun A s vals P E h1 h2 => c A s vals P E (by exact vW h1 hn) (by exact vZ h2 hn)⟩

theorem GV.uniq {g : G} {f : Str} {v w : Value} (a : GV g f v) (b : GV g f w) : v = w := by
  rcases a with a | ⟨a, a'⟩ <;> rcases b with b | ⟨b, b'⟩
  · rw [a] at b; exact Option.some.inj b
  · rw [a] at b; cases b
  · rw [a] at b; cases b
  · rw [a'] at b'; exact Option.some.inj b'

noncomputable def noStar : List PySem.Expr -> Bool
  | [] => true
  | e :: r => !isStarred e && noStar r

theorem ki : ∀ (es : List PySem.Expr) (en : Env), noStar es = true -> ∀ x ∈ starEach es en, x.1 = false
  | [], _, _, x, hx => by cases hx
  | e :: r, en, h, x, hx => by
    simp only [noStar, Bool.and_eq_true, Bool.not_eq_true'] at h
    rw [dQ h.1] at hx
    rcases List.mem_cons.mp hx with rfl | hx
    · rfl
    · exact ki r en h.2 x hx

theorem tL {es : List PySem.Expr} {en : Env} {pos : Pos} (h : noStar es = true) : (backTo pos (starEach es en)).any (·.1) = false := by
  rw [List.any_eq_false]
  intro x hx
  unfold backTo at hx
  obtain ⟨y, hy, rfl⟩ := List.mem_map.mp hx
  have := ki es en h y hy
  simp [this]

theorem lE {g : G} {A : Around} {s : Shared} {E : Value -> Shared -> Prop} {pos : Pos} {fv : Value} {es : List PySem.Expr} {en : Env} {P : Value -> Shared -> Prop}
    (hc : ej g fv) (hn : noStar es = true) (hne : es ≠ [])
    (h : wpAny (model g.prog g.w) A (spliced (backTo pos (starEach es en))) (fun vs s₁ => (∀ b o, g.hb.get? b = some o -> s₁.heap.get? b = some o) /\ wpAny (model g.prog g.w) A (call fv vs) P E s₁) E s) :
    wpAny (model g.prog g.w) A (callWith pos fv [] (backTo pos (starEach es en)) []) P E s := by
  have hp := tL (en := en) (pos := pos) hn
  cases es with
  | nil => exact absurd rfl hne
  | cons e r =>
    have hs : isStarred e = false := by
      simp only [noStar, Bool.and_eq_true, Bool.not_eq_true'] at hn
      exact hn.1
    rw [dQ hs] at h hp |-
    rcases hc with ⟨id, rfl⟩ | ⟨T, rfl⟩ | ⟨a, o, fd, rfl, h1, h2⟩
    · exact Calls.callWith_builtin hp (Calls.evalArgs_plain (wpAny_mono h (fun _ _ q => q.2) fun _ _ q => q))
    · exact PyProof.Rows.callWith_type hp (Calls.evalArgs_plain (wpAny_mono h (fun _ _ q => q.2) fun _ _ q => q))
    · exact Calls.callWith_function (o := o) (fd := fd) (Calls.evalArgs_plain (wpAny_mono h (fun _ _ q => ⟨⟨q.1 _ _ h1, h2⟩, q.2⟩) fun _ _ q => q))

section
variable {g : G} {C : Cx} {env : bI}

theorem qO {x : Str} {pos : Pos} {Q : PV -> Prop} {val : Value} (hg : g.mg x = none) (hb : g.mb x = some val) (hl : C.scope.names.lookup x = some .globalImplicit) (hd : (x == ("__debug__" : Str)) = false)
    (h : Q (.fn x)) : SE g C (.Name x pos) env Q := fun A L a cd s P E o k => by
  obtain ⟨m, F, r⟩ := o.fr
  exact ld_builtin_at F g.T.g hg g.T.b hb (k (.fn x) val s.heap s.toks h (.inr ⟨hg, hb⟩) o (Heap.ExtBut.refl _ _)) o.kind hl hd

noncomputable def Cal (g : G) (f : Str) : Prop := ∃ fv, GV g f fv /\ ej g fv

abbrev mB (g : G) (n : Nat) (f : Str) (Q : PV -> Prop) (vs : List PV) : Prop := ∃ N r, Nat.ble N n = true /\ Ret g N f vs r /\ Q r
abbrev FnQ (g : G) (C : Cx) (es : List PySem.Expr) (env : bI) (Q : PV -> Prop) (fv : PV) : Prop := ∃ f, fv = .fn f /\ Cal g f /\ uo g C es env (mB g C.N f Q)
theorem fU {id : Str} {p pos : Pos} {es : List PySem.Expr} {Q : PV -> Prop} (hn : noStar es = true) (hne : es ≠ [])
    (h : SE g C (.Name id p) env (FnQ g C es env Q)) : SE g C (.Call (.Name id p) es [] pos) env Q := fun A L ad cd s P E o k => by
  refine wpAny_Call_NameR (h A L ad cd s _ E o fun fv fval h1 t1 ⟨f, e, ⟨fv0, g0, c0⟩, hv⟩ rf o1 k1 => ?_)
  subst e
  unfold ci at rf
  obtain rfl := rf.uniq g0
  refine lE c0 hn hne (hv A L ad cd pos _ _ E o1 fun vs vals h2 t2 ⟨N, r, hN, ⟨fv', ga, gb, gc⟩, q⟩ rs o2 k2 => ?_)
  have hN := Nat.le_of_ble_eq_true hN
  obtain rfl := g0.uniq ga
  obtain ⟨m, F, rr⟩ := o2.fr
  refine ⟨F.keep, gc A _ vals P E (by have := o2.depth; exact vW this hN) (by have := o2.units; exact vZ this hN) o2.hand o2.frm F.keep (Nat.le_of_lt (Nat.lt_of_le_of_lt F.above F.ns.lt)) rs fun val h3 t3 kp rv => ?_⟩
  exact k r val h3 t3 q rv (o2.ext kp) ((k1.trans k2).trans fun b o' _ e => kp b o' e)

noncomputable def upd : bI -> Str -> PV -> bI
  | [], x, v => [(x, v)]
  | (y, w) :: r, x, v => if x == y then (x, v) :: r else (y, w) :: upd r x v

theorem i9 (x : Str) (v : PV) (y : Str) : ∀ env : bI, (upd env x v).lookup y = if y = x then some v else env.lookup y
  | [] => by
    by_cases h : y = x
    · subst h; simp [upd]
    · have : (y == x) = false := beq_eq_false_iff_ne.mpr h
      simp [upd, h, this, List.lookup]
  | (z, w) :: r => by
    unfold upd
    by_cases hxz : x = z
    · subst hxz
      simp only [beq_self_eq_true, if_true]
      by_cases h : y = x
      · subst h; simp
      · have : (y == x) = false := beq_eq_false_iff_ne.mpr h
        simp [h, this, List.lookup]
    · have hb : (x == z) = false := beq_eq_false_iff_ne.mpr hxz
      simp only [hb, Bool.false_eq_true, if_false]
      have ih := i9 x v y r
      by_cases hyz : y = z
      · subst hyz
        have : ¬ y = x := fun e => hxz e.symm
        simp [this, List.lookup]
      · have hb2 : (y == z) = false := beq_eq_false_iff_ne.mpr hyz
        simp only [List.lookup, hb2, ih]

theorem lK.upd {h : Heap} {m : Str -> Option Value} {x : Str} {v : PV} {val : Value} (r : lK g h m env) (rv : ci g h val v) :
    lK g h (fun y => if y = x then some val else m y) (upd env x v) := fun y v' e => by
  rw [i9] at e
  by_cases hy : y = x
  · subst hy
    simp only [if_true] at e; cases e
    exact ⟨val, by simp, rv⟩
  · simp only [hy, if_false] at e |-
    exact r y v' e

/-- a store into a name of the frame -/
theorem jk {A : Around} {L ad : Addr} {cd : Value} {s : Shared} {x : Str} {v : PV} {val : Value} {P : Unit -> Shared -> Prop} {E : Value -> Shared -> Prop}
    (o : Ok g C A L s.heap env) (hl : C.scope.names.lookup x = some .local) (rv : ci g s.heap val v)
    (k : ∀ h' tk', Ok g C A L h' (upd env x v) -> Heap.ExtBut L s.heap h' -> P () { s with heap := h', toks := tk' }) :
    wpAny (model g.prog g.w) A (storeName (envOf C.name C.scope L ad cd) x val) P E s := by
  obtain ⟨m, F, r⟩ := o.fr
  refine wpAny_storeName_local hl F.ns (fun h' hn hs => ?_) ?_
  · have he : Heap.ExtBut L s.heap h' := fun b o hb e => (hs.2 b hb).trans e
    have kk := h9 F.ns he
    exact k h' _ ⟨o.depth, o.units, o.hand, o.frm.but hn he, o.top, o.kind, _, F.set hn hs, lK.upd (r.keep kk) (ci.keep kk v rv)⟩ he
  · show (C.scope.kind == .class || (C.scope.kind == .module && L != mainGlobals)) = false
    rw [o.kind]; rfl

abbrev oT (K : Out -> Prop) (env : bI) (x : Str) (v : PV) : Prop := K (.next (upd env x v))
theorem um {x : Str} {p pos : Pos} {e : PySem.Expr} {K : Out -> Prop} (hl : C.scope.names.lookup x = some .local)
    (h : SE g C e env (oT K env x))
    (hs : ∀ en : Env, swapsWith e (some (.Name x p)) pos.line en = pure false) : SS g C (.Assign [.Name x p] e pos) env K := fun A L ad cd s P E o kn kr =>
  wpAny_Assign_Name (h A L ad cd s _ E o fun v val h1 t1 q rv o1 k1 => jk o1 hl rv fun h2 t2 o2 k2 => kn _ h2 t2 q o2 (k1.trans k2)) (hs _)

theorem oh {A : Around} {L ad : Addr} {cd : Value} {s : Shared} {x : Str} {v : PV} {P E : Value -> Shared -> Prop}
    (o : Ok g C A L s.heap env) (hl : C.scope.names.lookup x = some .local) (hv : env.lookup x = some v) (k : ∀ val, ci g s.heap val v -> P val s) :
    wpAny (model g.prog g.w) A (loadName (envOf C.name C.scope L ad cd) x) P E s := by
  obtain ⟨m, F, r⟩ := o.fr
  obtain ⟨val, e, rv⟩ := r x v hv
  exact ldn F e (k val rv) o.kind hl

abbrev nJ (K : Out -> Prop) (env : bI) (x : Str) (op : Operator) (v b : PV) : Prop := ∃ c, jG op v b c /\ K (.next (upd env x c))
theorem SS_aug {x : Str} {p pos : Pos} {op : Operator} {e : PySem.Expr} {v : PV} {K : Out -> Prop} (hl : C.scope.names.lookup x = some .local) (hv : env.lookup x = some v)
    (h : SE g C e env (nJ K env x op v)) : SS g C (.AugAssign (.Name x p) op e pos) env K := fun A L ad cd s P E o kn kr =>
  wpAny_AugAssign_Name (oh o hl hv fun val rv => h A L ad cd s _ E o fun b vb h1 t1 ⟨c, hc, q⟩ rb o1 k1 =>
    ng hc (ci.keep (jv o k1) _ rv) rb fun val' tk' rc => jk o1 hl (rc _) fun h2 t2 o2 k2 => kn _ h2 t2 q o2 (k1.trans k2))

abbrev NxtQ (K : Out -> Prop) (env : bI) (_ : PV) : Prop := K (.next env)
theorem SS_expr {e : PySem.Expr} {pos : Pos} {K : Out -> Prop} (h : SE g C e env (NxtQ K env)) (hs : ∀ en : Env, swapsWith e none pos.line en = pure false) : SS g C (.Expr e pos) env K := fun A L ad cd s P E o kn kr =>
  wpAny_Expr_any (h A L ad cd s _ E o fun v val h1 t1 q rv o1 k1 => kn _ h1 t1 q o1 k1) (by
    show (C.scope.kind == .module && _) = false
    rw [o.kind]; rfl) (hs _)

theorem Ok.nil {A : Around} {L : Addr} {h : Heap} (o : Ok g C A L h env) : Ok g C A L h [] :=
  let ⟨m, F, _⟩ := o.fr; ⟨o.depth, o.units, o.hand, o.frm, o.top, o.kind, m, F, fun _ _ e => by cases e⟩

abbrev RetQ (K : Out -> Prop) (v : PV) : Prop := K (.ret v)
theorem wN {e : PySem.Expr} {pos : Pos} {K : Out -> Prop} (h : SE g C e env (RetQ K)) : SS g C (.Return (some e) pos) env K := fun A L ad cd s P E o kn kr =>
  wpAny_Return_some (h A L ad cd s _ E o fun v val h1 t1 q rv o1 k1 => kr v val h1 t1 q rv o1.nil k1)

theorem SSs_nil {K : Out -> Prop} (h : K (.next env)) : mu g C [] env K := fun A L ad cd s P E o kn kr => wpAny_execs_nil (kn env s.heap s.toks h o (Heap.ExtBut.refl _ _))
abbrev SeqQ (g : G) (C : Cx) (rest : List Stmt) (K : Out -> Prop) (o : Out) : Prop := match o with
  | .next env' => mu g C rest env' K
  | .ret v => K (.ret v)
theorem eX {st : Stmt} {rest : List Stmt} {K : Out -> Prop} (h : SS g C st env (SeqQ g C rest K)) : mu g C (st :: rest) env K := fun A L ad cd s P E o kn kr =>
  wpAny_execs_cons (h A L ad cd s _ E o
    (fun env' h1 t1 q o1 k1 => q A L ad cd _ P E o1 (fun e2 h2 t2 q2 o2 k2 => kn e2 h2 t2 q2 o2 (k1.trans k2)) fun v val h2 t2 q2 r2 o2 k2 => kr v val h2 t2 q2 r2 o2 (k1.trans k2))
    fun v val h1 t1 q rv o1 k1 => kr v val h1 t1 q rv o1 k1)

abbrev IfQ (g : G) (C : Cx) (b e : List Stmt) (env : bI) (K : Out -> Prop) (c : Bool) : Prop := (c = true -> mu g C b env K) /\ (c = false -> mu g C e env K)
theorem rI {t : PySem.Expr} {b e : List Stmt} {pos : Pos} {K : Out -> Prop} (h : SB g C t env (IfQ g C b e env K)) : SS g C (.If t b e pos) env K := fun A L ad cd s P E o kn kr =>
  wpAny_If (h A L ad cd s _ E o fun c h1 t1 q o1 k1 => by
    cases c with
    | true => exact q.1 rfl A L ad cd _ P E o1 (fun e2 h2 t2 q2 o2 k2 => kn e2 h2 t2 q2 o2 (k1.trans k2)) fun v val h2 t2 q2 r2 o2 k2 => kr v val h2 t2 q2 r2 o2 (k1.trans k2)
    | false => exact q.2 rfl A L ad cd _ P E o1 (fun e2 h2 t2 q2 o2 k2 => kn e2 h2 t2 q2 o2 (k1.trans k2)) fun v val h2 t2 q2 r2 o2 k2 => kr v val h2 t2 q2 r2 o2 (k1.trans k2))

noncomputable def gZ (a b : bI) : Prop := ∀ x v, a.lookup x = some v -> b.lookup x = some v
theorem kh {b : bI} : gZ [] b := fun x v e => by cases e
theorem fC {b r : bI} {k : Str} {v : PV} (h : b.lookup k = some v) (h2 : gZ r b) : gZ ((k, v) :: r) b := fun x w e => by
  rw [List.lookup_cons] at e
  split at e
  · rename_i q
    have : x = k := by simpa using q
    subst this; cases e; exact h
  · exact h2 x w e
theorem gZ.refl (a : bI) : gZ a a := fun _ _ e => e
theorem Ok.le {A : Around} {L : Addr} {h : Heap} {env' : bI} (o : Ok g C A L h env) (k : gZ env' env) : Ok g C A L h env' :=
  let ⟨m, F, r⟩ := o.fr; ⟨o.depth, o.units, o.hand, o.frm, o.top, o.kind, m, F, fun x v e => r x v (k x v e)⟩

theorem jJ {ι : Type} (mk : ι -> bI) (I : ι -> Prop) (μ : ι -> Nat) (i₀ : ι) {t : PySem.Expr} {b : List Stmt} {pos : Pos} {K : Out -> Prop}
    (h0 : gZ (mk i₀) env) (hI : I i₀)
    (h : ∀ i, I i -> SB g C t (mk i) fun c => (c = true -> mu g C b (mk i) fun
      | .next env' => ∃ j, gZ (mk j) env' /\ I j /\ μ j < μ i
      | .ret v => K (.ret v)) /\ (c = false -> K (.next (mk i)))) : SS g C (.While t b [] pos) env K := fun A L ad cd s P E o kn kr => by
  replace o := o.le h0
  refine wpAny_While (codeAny_whileLoop (fun n s' => ∃ i, I i /\ μ i = n /\ s' = { s with heap := s'.heap, toks := s'.toks } /\ Ok g C A L s'.heap (mk i) /\ Heap.ExtBut L s.heap s'.heap) (fun n s' hs => ?_) (μ i₀) ⟨i₀, hI, rfl, rfl, o, Heap.ExtBut.refl _ _⟩)
  obtain ⟨i, hi, hn, e, o1, k1⟩ := hs
  refine h i hi A L ad cd s' _ _ o1 fun c h2 t2 q o2 k2 => ?_
  cases c with
  | true =>
    refine q.1 rfl A L ad cd _ _ _ o2 (fun env' h3 t3 ⟨j, e3, hj, hlt⟩ o3 k3 => ?_) fun v val h3 t3 q3 r3 o3 k3 => ?_
    · exact ⟨μ j, by exact fq905 hlt hn, j, hj, rfl, by rw [e], o3.le e3, (k1.trans k2).trans k3⟩
    · rw [e]; exact kr v val h3 t3 q3 r3 o3 ((k1.trans k2).trans k3)
  | false =>
    refine wpAny_execs_nil ?_
    rw [e]; exact kn _ h2 t2 (q.2 rfl) o2 (k1.trans k2)
end
end

section
section
variable {g : G} {C : Cx} {env : bI}

/-- storing v by way of a target -/
noncomputable def SA (g : G) (C : Cx) (t : PySem.Expr) (v : PV) (env : bI) (K : bI -> Prop) : Prop :=
  ∀ (A : Around) (L a : Addr) (cd : Value) (s : Shared) (val : Value) (P : Unit -> Shared -> Prop) (E : Value -> Shared -> Prop), Ok g C A L s.heap env -> ci g s.heap val v ->
    (∀ env' h' tk', K env' -> Ok g C A L h' env' -> Heap.ExtBut L s.heap h' -> P () { s with heap := h', toks := tk' }) ->
    wpAny (model g.prog g.w) A (assign t (envOf C.name C.scope L a cd) val) P E s

theorem fV {x : Str} {pos : Pos} {v : PV} {K : bI -> Prop} (hl : C.scope.names.lookup x = some .local) (h : K (upd env x v)) : SA g C (.Name x pos) v env K := fun A L a cd s val P E o r k =>
  show wpAny (model g.prog g.w) A (do standAt pos; bindName (envOf C.name C.scope L a cd) x val) P E s from
  wpAny_bind (wpAny_standAt (wpAny_bindName (jk o hl r fun h' tk' o' k' => k _ h' tk' h o' k')))

/-- stores that are names' stores -/
noncomputable def fa (g : G) (en : Env) : List (Value -> Sem Unit) -> List Str -> Prop
  | [], [] => True
  | t :: ts, x :: xs => (∀ (A : Around) (P : Unit -> Shared -> Prop) (E : Value -> Shared -> Prop) (s : Shared) (v : Value), wpAny (model g.prog g.w) A (storeName en x v) P E s -> wpAny (model g.prog g.w) A (t v) P E s) /\ fa g en ts xs
  | _, _ => False

noncomputable def fR : List Str -> List PV -> bI -> bI
  | x :: xs, v :: vs, env => fR xs vs (upd env x v)
  | _, _, env => env

theorem jP {A : Around} {L ad : Addr} {cd : Value} {P : Unit -> Shared -> Prop} {E : Value -> Shared -> Prop} :
    ∀ (xs : List Str) (ts : List (Value -> Sem Unit)) (vs : List PV) (vals : List Value) (env : bI) (s : Shared), fa g (envOf C.name C.scope L ad cd) ts xs ->
    (xs.all fun x => C.scope.names.lookup x == some .local) = true -> xs.length = vs.length -> Ok g C A L s.heap env -> a8 g s.heap vals vs ->
    (∀ h' tk', Ok g C A L h' (fR xs vs env) -> Heap.ExtBut L s.heap h' -> P () { s with heap := h', toks := tk' }) ->
    wpAny (model g.prog g.w) A (assignInOrder ts vals) P E s
  | [], [], [], vals, env, s, _, _, _, o, r, k => by
    unfold a8 at r; subst r
    exact assignInOrder_nil (k s.heap s.toks o (Heap.ExtBut.refl _ _))
  | x :: xs, t :: ts, v :: vs, vals, env, s, hst, hl, hn, o, r, k => by
    unfold a8 at r
    obtain ⟨val, vals', rfl, r1, r2⟩ := r
    unfold fa at hst
    simp only [List.all_cons, Bool.and_eq_true, beq_iff_eq] at hl
    refine assignInOrder_cons (hst.1 A _ E s val (jk o hl.1 r1 fun h1 t1 o1 k1 => ?_))
    refine jP xs ts vs vals' (upd env x v) _ hst.2 hl.2 (by simpa using hn) o1 (a8.keep (jv o k1) vs r2) fun h2 t2 o2 k2 => ?_
    exact k h2 t2 o2 (k1.trans k2)
  | [], _ :: _, _, _, _, _, hst, _, _, _, _, _ => by unfold fa at hst; exact hst.elim
  | _ :: _, [], _, _, _, _, hst, _, _, _, _, _ => by unfold fa at hst; exact hst.elim
  | _ :: _, _ :: _, [], _, _, _, _, _, hn, _, _, _ => by cases hn
  | [], [], _ :: _, _, _, _, _, _, hn, _, _, _ => by cases hn

noncomputable def gJ : List PySem.Expr -> Option (List Str)
  | [] => some []
  | .Name x _ :: r => (gJ r).map (x :: ·)
  | _ => none

theorem no_some {α : Type} {x : α} {P : Prop} (h : none = some x) : P := nomatch h
theorem mW {e : PySem.Expr} {r : List PySem.Expr} {xs : List Str} (h : gJ (e :: r) = some xs) : ∃ x p ys, e = .Name x p /\ gJ r = some ys /\ xs = x :: ys := by
  cases e
  case Name x p =>
    obtain ⟨ys, hy, h⟩ := Option.map_eq_some_iff.mp (show (gJ r).map (x :: ·) = some xs from h)
    exact ⟨x, p, ys, rfl, hy, h.symm⟩
  all_goals exact no_some h
theorem ic {en : Env} : ∀ (ts : List PySem.Expr) (xs : List Str), gJ ts = some xs -> fa g en ((assignEach ts en).map (·.2)) xs /\ (assignEach ts en).findIdx? (·.1) = none /\ (assignEach ts en).length = xs.length
  | [], xs, h => by cases h; exact ⟨trivial, rfl, rfl⟩
  | e :: r, xs, h => by
    obtain ⟨x, p, ys, rfl, hy, rfl⟩ := mW h
    obtain ⟨a, b, c⟩ := ic r ys hy
    have e1 : assignEach (.Name x p :: r) en = (false, assign (.Name x p) en) :: assignEach r en := rfl
    rw [e1]
    refine ⟨⟨fun A P E s v h => ?_, a⟩, ?_, by simp [c]⟩
    · show wpAny _ A (do standAt p; bindName en x v) P E s
      exact wpAny_bind (wpAny_standAt (wpAny_bindName h))
    · simp [List.findIdx?_cons, b]

theorem lJ {ts : List PySem.Expr} {n : Nat} {pos : Pos} {xs : List Str} {l : List PV} {K : bI -> Prop} (hx : gJ ts = some xs) (hl : (xs.all fun x => C.scope.names.lookup x == some .local) = true) (hn : xs.length = l.length)
    (h : K (fR xs l env)) : SA g C (.Tuple ts n pos) (.tup l) env K := fun A L a cd s val P E o r k => by
  obtain ⟨h1, h2, h3⟩ := ic (g := g) (en := envOf C.name C.scope L a cd) ts xs hx
  unfold ci at r
  obtain ⟨b, vs, rfl, t, rs⟩ := r
  have e : assign (.Tuple ts n pos) (envOf C.name C.scope L a cd) (.ref b) = (do standAt pos; unpack (.ref b) (assignEach ts (envOf C.name C.scope L a cd))) := assign_Tuple _ _ _ _
  rw [e]
  refine wpAny_bind (wpAny_standAt (wpAny_unpack_tuple o.hand t (by rw [h3, hn, <- a8.length rs]; simp) h2 fun h' hk => ?_))
  have hk' : ∀ b o, s.heap.get? b = some o -> h'.get? b = some o := fun b o e => hk b o (Nat.ne_of_lt (Heap.lt_size e)) e
  refine jP xs _ l vs env { s with heap := h' } h1 hl hn (o.ext hk') (a8.keep (dE hk') l rs) fun h2 t2 o2 k2 => ?_
  exact k _ h2 t2 h o2 (fun b o hb e => k2 b o hb (hk' b o e))

abbrev NexQ (K : Out -> Prop) (env : bI) : Prop := K (.next env)
abbrev AsT (g : G) (C : Cx) (ts : List PySem.Expr) (n : Nat) (p : Pos) (env : bI) (K : Out -> Prop) (v : PV) : Prop := SA g C (.Tuple ts n p) v env (NexQ K)
theorem qN {ts : List PySem.Expr} {n : Nat} {p pos : Pos} {e : PySem.Expr} {K : Out -> Prop}
    (h : SE g C e env (AsT g C ts n p env K))
    (hs : ∀ en : Env, swapsWithSole [.Tuple ts n p] e pos.line en = pure false) (hw : ∀ L a cd, swappedStores [.Tuple ts n p] e (envOf C.name C.scope L a cd) = pure none) :
    SS g C (.Assign [.Tuple ts n p] e pos) env K := fun A L ad cd s P E o kn kr =>
  wpAny_Assign_stores (h A L ad cd s _ E o fun v val h1 t1 q rv o1 k1 =>
    show wpAny _ A (assign (.Tuple ts n p) (envOf C.name C.scope L ad cd) val) _ E _ from
    q A L ad cd _ val _ E o1 rv fun env' h2 t2 q2 o2 k2 => kn env' h2 t2 q2 o2 (k1.trans k2)) (hs _) (hw _ _ _)

theorem a8.reverse : ∀ {vs : List Value} {l : List PV} {h : Heap}, a8 g h vs l -> a8 g h vs.reverse l.reverse := by
  have app : ∀ (l l' : List PV) (vs vs' : List Value) (h : Heap), a8 g h vs l -> a8 g h vs' l' -> a8 g h (vs ++ vs') (l ++ l') := by
    intro l
    induction l with
    | nil => intro l' vs vs' h r r'; unfold a8 at r; subst r; exact r'
    | cons d l ih =>
      intro l' vs vs' h r r'
      unfold a8 at r
      obtain ⟨v, w, rfl, a, b⟩ := r
      exact ⟨v, w ++ vs', rfl, a, ih l' w vs' h b r'⟩
  intro vs l
  induction l generalizing vs with
  | nil => intro h r; unfold a8 at r; subst r; exact rfl
  | cons d l ih =>
    intro h r
    unfold a8 at r
    obtain ⟨v, w, rfl, a, b⟩ := r
    simp only [List.reverse_cons]
    exact app _ _ _ _ h (ih b) ⟨v, [], rfl, a, rfl⟩

abbrev SwQ (xs : List Str) (K : Out -> Prop) (env : bI) (v : PV) : Prop := ∃ l, v = .tup l /\ xs.length = l.length /\ K (.next (fR xs.reverse l.reverse env))
theorem oN {ts : List PySem.Expr} {n : Nat} {p pos : Pos} {e : PySem.Expr} {xs : List Str} {K : Out -> Prop}
    (h : SE g C e env (SwQ xs K env))
    (hl : (xs.reverse.all fun x => C.scope.names.lookup x == some .local) = true)
    (hs : ∀ en : Env, swapsWithSole [.Tuple ts n p] e pos.line en = pure false) (hw : ∀ L a cd, swappedStores [.Tuple ts n p] e (envOf C.name C.scope L a cd) = pure (some xs)) :
    SS g C (.Assign [.Tuple ts n p] e pos) env K := fun A L ad cd s P E o kn kr => by
  have e0 : exec (.Assign [.Tuple ts n p] e pos) (envOf C.name C.scope L ad cd) = (do
      standAt pos
      if <- swapsWithSole [.Tuple ts n p] e pos.line (envOf C.name C.scope L ad cd) then do
        evalThenUse e (envOf C.name C.scope L ad cd) fun v => assignAll v ((assignEach [.Tuple ts n p] (envOf C.name C.scope L ad cd)).map (·.2))
        pure .next
      else do
        let v <- eval e (envOf C.name C.scope L ad cd)
        assignStores (envOf C.name C.scope L ad cd) v (<- swappedStores [.Tuple ts n p] e (envOf C.name C.scope L ad cd)) ((assignEach [.Tuple ts n p] (envOf C.name C.scope L ad cd)).map (·.2))) := rfl
  rw [e0, hs, hw]
  refine wpAny_bind (wpAny_standAt (wpAny_bind (wpAny_pure ?_)))
  simp only [Bool.false_eq_true, if_false]
  refine wpAny_bind (h A L ad cd s _ E o fun v val h1 t1 ⟨l, e1, hn, q⟩ rv o1 k1 => ?_)
  subst e1
  unfold ci at rv
  obtain ⟨b, vs, rfl, t, rs⟩ := rv
  refine wpAny_bind (wpAny_pure ?_)
  unfold assignStores
  refine wpAny_bind (wpAny_rule ?_)
  have hsz : xs.length = vs.toArray.size := by rw [hn, <- a8.length rs]; simp
  rw [hsz]
  refine wpAny_bind (wpAny_unpackItems_tuple o1.hand t fun h' hk => ?_)
  have hk' : ∀ b o, h1.get? b = some o -> h'.get? b = some o := fun b o e => hk b o (Nat.ne_of_lt (Heap.lt_size e)) e
  refine wpAny_bind (jP (C := C) (ad := ad) (cd := cd) xs.reverse _ l.reverse vs.reverse env { s with heap := h', toks := t1 } ?_ hl (by simp [hn]) (o1.ext hk') (a8.reverse (a8.keep (dE hk') l rs)) fun h2 t2 o2 k2 => wpAny_pure ?_)
  · have gen : ∀ ys : List Str, fa g (envOf C.name C.scope L ad cd) (ys.map fun n => bindName (envOf C.name C.scope L ad cd) n) ys := by
      intro ys
      induction ys with
      | nil => trivial
      | cons y ys ih => exact ⟨fun A P E s v h => wpAny_bindName h, ih⟩
    exact gen _
  · exact kn _ h2 t2 q o2 (fun b o hb e => k2 b o hb (hk' b o (k1 b o hb e)))

noncomputable def jE (Step : PV -> bI -> (Out -> Prop) -> Prop) : List PV -> bI -> (Out -> Prop) -> Prop
  | [], env, K => K (.next env)
  | v :: r, env, K => Step v env fun | .next env' => jE Step r env' K | .ret v => K (.ret v)

noncomputable def kt (g : G) (C : Cx) (t : PySem.Expr) (body : List Stmt) (v : PV) (env : bI) (K : Out -> Prop) : Prop := SA g C t v env fun env1 => mu g C body env1 K

theorem TupK.butI {h h' : Heap} {I : Addr} {o : Obj} {vs : Array Value} (e : h.get? I = some o) (d : o.data = .fields vs) (k : ∀ b o, b ∉ [I] -> h.get? b = some o -> h'.get? b = some o) : TupK h h' := by
  constructor
  · rintro a items ⟨o', e', r, n, d'⟩
    refine ⟨o', k a o' (fun hm => ?_) e', r, n, d'⟩
    obtain rfl : a = I := by simpa using hm
    rw [e] at e'; cases e'
    rw [d] at d'; cases d'
  · rintro a items ⟨o', e', r, n, d'⟩
    refine ⟨o', k a o' (fun hm => ?_) e', r, n, d'⟩
    obtain rfl : a = I := by simpa using hm
    rw [e] at e'; cases e'
    rw [d] at d'; cases d'

/-- what stands at a turn of a for -/
structure WInv (g : G) (C : Cx) (A : Around) (L I : Addr) (n : Nat) (St : Nat -> Heap -> Prop) (F : List PV -> bI -> Prop) (items : List PV) (s s' : Shared) (k i : Nat) (env' : bI) : Prop where
  hk : k = n + 1 - i
  hi : i <= n
  e : s' = { s with heap := s'.heap, toks := s'.toks }
  hst : St i s'.heap
  htk : TupK s.heap s'.heap
  ho : Ok g C A L s'.heap env'
  hkp : ∀ b o, b ≠ L -> b ≠ I -> s.heap.get? b = some o -> s'.heap.get? b = some o
  hl : F (items.drop i) env'
theorem Ok.butI {A : Around} {L I : Addr} {h h' : Heap} {o : Obj} {vs : Array Value} (ok : Ok g C A L h env) (hI : ∀ b o, g.hb.get? b = some o -> b ≠ I) (hLI : L ≠ I) (e : h.get? I = some o) (d : o.data = .fields vs)
    (kb : ∀ b o, b ∉ [I] -> h.get? b = some o -> h'.get? b = some o) : Ok g C A L h' env := by
  obtain ⟨m, F, r⟩ := ok.fr
  refine ⟨ok.depth, ok.units, ok.hand, ok.frm.of (fun b ob e1 hd => ⟨ob, kb b ob (fun hm => by
      obtain rfl : b = I := by simpa using hm
      rw [e1] at e; cases e
      exact hd _ d) e1, rfl⟩), ok.top, ok.kind, m, ⟨?_, fun b o e => kb b o (by simpa using hI b o e) (F.keep b o e), F.above⟩, r.keep (TupK.butI e d kb)⟩
  obtain ⟨oL, es, ep, eL, q⟩ := F.ns
  exact ⟨oL, es, ep, kb L oL (by simpa using hLI) eL, q⟩
theorem drop_at {l : List PV} {i : Nat} {d : PV} (h : l[i]? = some d) : l.drop i = d :: l.drop (i + 1) := by
  obtain ⟨hlt, e⟩ := List.getElem?_eq_some_iff.mp h
  rw [List.drop_eq_getElem_cons hlt, e]
theorem TupK.trans {h h' h'' : Heap} (a : TupK h h') (b : TupK h' h'') : TupK h h'' := ⟨fun c it q => b.t _ _ (a.t _ _ q), fun c it q => b.l _ _ (a.l _ _ q)⟩
theorem oE {A : Around} {L ad I : Addr} {cd : Value} {s : Shared} {fp : List Addr} {n : Nat} {Pi : Nat -> Value -> Prop} {St : Nat -> Heap -> Prop} {t : PySem.Expr} {body : List Stmt} {items : List PV} {K : Out -> Prop}
    {P : Flow -> Shared -> Prop} {X : Value -> Shared -> Prop}
    (W : Walks g.prog g.w A I fp [I] n Pi St) (hI : g.hb.objs.size <= I) (hLI : L ≠ I) (hL : L ∉ fp) (o : Ok g C A L s.heap env)
    (hf : ∀ i h, St i h -> ∃ o vs, h.get? I = some o /\ o.data = .fields vs) (hn : items.length = n)
    (hP : ∀ i v h, i < n -> Pi i v -> TupK s.heap h -> ∃ d, items[i]? = some d /\ ci g h v d)
    (hgo : ∀ i (s' : Shared) v (Q' : Unit -> Shared -> Prop) (E : Value -> Shared -> Prop), St i s'.heap -> Q' () s' -> wpAny (model g.prog g.w) A (letOwnedTupleGo t (.ref I) v) Q' E s')
    (st : St 0 s.heap) (h : jE (kt g C t body) items env K)
    (kn : ∀ env' h' tk', K (.next env') -> Ok g C A L h' env' -> (∀ b o, b ≠ L -> b ≠ I -> s.heap.get? b = some o -> h'.get? b = some o) -> P .next { s with heap := h', toks := tk' })
    (kr : ∀ v val h' tk', K (.ret v) -> ci g h' val v -> Ok g C A L h' [] -> (∀ b o, b ≠ L -> b ≠ I -> s.heap.get? b = some o -> h'.get? b = some o) -> P (.ret val) { s with heap := h', toks := tk' }) :
    codeAny (model g.prog g.w) A (.forLoop t (.ref I) body [] (envOf C.name C.scope L ad cd)) (fun r s' => match r with | .ok f => P f s' | .error e => X e s') s := by
  have hbI : ∀ b o, g.hb.get? b = some o -> b ≠ I := fun b o e => Nat.ne_of_lt (Nat.lt_of_lt_of_le (Heap.lt_size e) hI)
  refine codeAny_forLoop_any (fun k s' => ∃ i env', WInv g C A L I n St (fun r e => jE (kt g C t body) r e K) items s s' k i env') (fun k s' hs => ?_) (n + 1)
    ⟨0, env, rfl, Nat.zero_le _, rfl, st, rP _, o, fun _ _ _ _ e => e, h⟩
  obtain ⟨i, env', w⟩ := hs
  obtain ⟨oi, vi, hoi, hdi⟩ := hf i _ w.hst
  have hl := w.hl
  by_cases hlt : i < n
  · refine W.item i _ _ _ hlt w.hst fun v h1 t1 hPi hst1 kb => ?_
    have tks := w.htk.trans (TupK.butI hoi hdi kb)
    obtain ⟨d, hdd, rd⟩ := hP i v h1 hlt hPi tks
    rw [drop_at hdd] at hl
    unfold jE at hl
    refine hgo (i + 1) _ v _ _ hst1 ?_
    have o1 := w.ho.butI hbI hLI hoi hdi kb
    have kp1 : ∀ h', Heap.ExtBut L h1 h' -> ∀ b o, b ≠ L -> b ≠ I -> s.heap.get? b = some o -> h'.get? b = some o := fun h' k' b o h1 h2 e => k' b o h1 (kb b o (by simpa using h2) (w.hkp b o h1 h2 e))
    refine hl A L ad cd _ v _ _ o1 rd fun env2 h2 t2 q2 o2 k2 => q2 A L ad cd _ _ _ o2 (fun env3 h3 t3 q3 o3 k3 => ?_) fun v3 val h3 t3 q3 r3 o3 k3 => ?_
    · exact ⟨n + 1 - (i + 1), fq906 hlt w.hk, i + 1, env3, rfl, hlt, by rw [w.e], W.frame _ _ _ hst1 fun b hb o e => (k2.trans k3) b o (fun hbl => hL (hbl ▸ hb)) e, tks.trans (jv o1 (k2.trans k3)), o3, kp1 h3 (k2.trans k3), q3⟩
    · rw [w.e]; exact kr v3 val h3 t3 q3 r3 o3 (kp1 h3 (k2.trans k3))
  · have hin : i = n := fq895 w.hi hlt
    subst hin
    refine W.done _ _ _ w.hst fun h1 t1 kb => wpAny_execs_nil ?_
    rw [List.drop_eq_nil_of_le (fq879 hn)] at hl
    unfold jE at hl
    rw [w.e]
    exact kn env' h1 t1 hl (w.ho.butI hbI hLI hoi hdi kb) fun b o h1 h2 e => kb b o (by simpa using h2) (w.hkp b o h1 h2 e)

theorem oj {A : Around} {E : Value -> Shared -> Prop} {target : PySem.Expr} {I : Addr} {x l st : Int} {v : Value} {Q' : Unit -> Shared -> Prop} {s' : Shared} (hit : IsRangeIter s'.heap I x l st) (h : Q' () s') :
    wpAny (model g.prog g.w) A (letOwnedTupleGo target (.ref I) v) Q' E s' := by
  unfold letOwnedTupleGo
  cases target <;> first
    | exact wpAny_pure h
    | (cases v <;> first
        | exact wpAny_pure h
        | (refine wpAny_bind (wpAny_load hit ?_)
           exact wpAny_pure h))

abbrev ForQ (g : G) (C : Cx) (t : PySem.Expr) (body : List Stmt) (env : bI) (K : Out -> Prop) (v : PV) : Prop := ∃ l, v = .tup l /\ jE (kt g C t body) l env K
theorem rJ {t it : PySem.Expr} {body : List Stmt} {pos : Pos} {K : Out -> Prop}
    (h : SE g C it env (ForQ g C t body env K)) (hs : ∀ en x, foldedSetIterable it en x = pure x) : SS g C (.For t it body [] pos) env K := fun A L ad cd s P E o kn kr =>
  wpAny_For (h A L ad cd s _ E o fun v val h1 t1 ⟨l, e1, q⟩ rv o1 k1 => by
    subst e1
    unfold ci at rv
    obtain ⟨b, vs, rfl, tt, rs⟩ := rv
    refine iter_tuple tt ?_
    obtain ⟨m, F, r⟩ := o1.fr
    have kp : ∀ b o', h1.get? b = some o' -> (h1.push { cls := .type "tuple_iterator", data := .fields #[.ref b, .int 0 0] }).get? b = some o' := fun b o' e => Heap.get?_push_of_some _ e
    have kp' : ∀ c o', h1.get? c = some o' -> (h1.push { cls := .type "tuple_iterator", data := .fields #[.ref b, .int 0 0] }).get? c = some o' := fun c o' e => Heap.get?_push_of_some _ e
    have hLI : L ≠ h1.objs.size := Nat.ne_of_lt F.ns.lt
    have hbL : b ≠ L := oY F.ns tt
    have hbI : b ≠ h1.objs.size := Nat.ne_of_lt tt.lt
    refine oE (X := fun e s' => cameBackBy (model g.prog g.w) A (envOf C.name C.scope L ad cd) E e s') (Walks.tuple o1.hand h1.objs.size b hbI vs.toArray) (Nat.le_of_lt (Nat.lt_of_le_of_lt F.above F.ns.lt)) hLI (by simp [hLI, Ne.symm hbL]) (o1.ext kp') ?_ ?_ ?_ ?_ ?_ q
      (fun env' h' tk' kk o' kb => kn env' h' tk' kk o' fun c o'' hc e => kb c o'' hc ?_ (kp' c o'' (k1 c o'' hc e)))
      (fun v val h' tk' kk rv o' kb => kr v val h' tk' kk rv o' fun c o'' hc e => kb c o'' hc ?_ (kp' c o'' (k1 c o'' hc e)))
    · rintro i h ⟨⟨o', e, _, d⟩, _⟩; exact ⟨o', _, e, d⟩
    · rw [<- a8.length rs]; simp
    · intro i v h hi hv tk
      have rs' := a8.keep ⟨fun a it x => tk.t a it (x.keeps kp'), fun a it x => tk.l a it (let ⟨o, e, r⟩ := x; ⟨o, kp' _ _ e, r⟩)⟩ l rs
      have key : ∀ (l : List PV) (vs : List Value) (n : Nat), a8 g h vs l -> vs[n]? = some v -> ∃ d, l[n]? = some d /\ ci g h v d := by
        intro l
        induction l with
        | nil => intro vs n r h; unfold a8 at r; subst r; cases h
        | cons d l ih =>
          intro vs n r h
          unfold a8 at r
          obtain ⟨v', vs', rfl, r1, r2⟩ := r
          cases n with
          | zero => cases h; exact ⟨d, rfl, r1⟩
          | succ n => exact ih vs' n r2 h
      exact key l vs i rs' (by simpa using hv)
    · rintro i s' v Q' E' ⟨hit, _⟩ hq; exact letGo_tupleiter hit hq
    · exact ⟨⟨_, Heap.get?_push_size _ rfl, rfl, rfl⟩, tt.push _⟩
    · exact Nat.ne_of_lt (Heap.lt_size (k1 c o'' hc e))
    · exact Nat.ne_of_lt (Heap.lt_size (k1 c o'' hc e))) (hs _)
end
end

section
section
variable {g : G} {C : Cx} {env : bI}

theorem tC {A : Around} {L ad I : Addr} {cd : Value} {s : Shared} {n : Nat} {t : PySem.Expr} {body : List Stmt} {K : Out -> Prop} {P : Flow -> Shared -> Prop} {X : Value -> Shared -> Prop}
    (hI : g.hb.objs.size <= I) (hLI : L ≠ I) (o : Ok g C A L s.heap env) (hit : IsRangeIter s.heap I 0 (n : Int) 1)
    (h : jE (kt g C t body) ((List.range n).map fun i : Nat => PV.int (i : Int)) env K)
    (kn : ∀ env' h' tk', K (.next env') -> Ok g C A L h' env' -> (∀ b o, b ≠ L -> b ≠ I -> s.heap.get? b = some o -> h'.get? b = some o) -> P .next { s with heap := h', toks := tk' })
    (kr : ∀ v val h' tk', K (.ret v) -> ci g h' val v -> Ok g C A L h' [] -> (∀ b o, b ≠ L -> b ≠ I -> s.heap.get? b = some o -> h'.get? b = some o) -> P (.ret val) { s with heap := h', toks := tk' }) :
    codeAny (model g.prog g.w) A (.forLoop t (.ref I) body [] (envOf C.name C.scope L ad cd)) (fun r s' => match r with | .ok f => P f s' | .error e => X e s') s := by
  refine oE (X := X) (Walks.range o.hand I 0 1 n) hI hLI (by simpa using hLI) o ?_ ?_ ?_ ?_ ?_ h kn kr
  · intro i h hi; exact ⟨_, _, hi, rfl⟩
  · simp
  · rintro i v h hi ⟨tt, rfl⟩ _
    refine ⟨.int i, by simp [hi], tt, by simp⟩
  · intro i s' v Q' E' hit hq; exact oj hit hq
  · show IsRangeIter _ _ _ _ _
    have e1 : (0 + ((0 : Nat) : Int) * 1) = 0 := by simp
    have e2 : ((n : Int) - ((0 : Nat) : Int)) = n := by simp
    rw [e1, e2]
    exact hit
abbrev RngQ (g : G) (C : Cx) (t : PySem.Expr) (body : List Stmt) (env : bI) (K : Out -> Prop) (v : PV) : Prop := ∃ n : Nat, v = .int n /\ n <= 1000 /\ jE (kt g C t body) ((List.range n).map fun i : Nat => PV.int (i : Int)) env K
theorem rK {t e : PySem.Expr} {p rp pos : Pos} {body : List Stmt} {K : Out -> Prop} (hg : g.mg "range" = none) (hb : g.mb "range" = some (.type "range"))
    (hl : C.scope.names.lookup ("range" : Str) = some .globalImplicit) (hst : isStarred e = false)
    (h : SE g C e env (RngQ g C t body env K))
    (hs : ∀ en x, foldedSetIterable (.Call (.Name "range" p) [e] [] rp) en x = pure x) : SS g C (.For t (.Call (.Name "range" p) [e] [] rp) body [] pos) env K := fun A L ad cd s P E o kn kr => by
  obtain ⟨m, F, r⟩ := o.fr
  refine wpAny_For (wpAny_Call_NameR (ld_builtin_at F g.T.g hg g.T.b hb ?_ o.kind hl (by decide))) (hs _)
  have hst' : starEach [e] (envOf C.name C.scope L ad cd) = [(false, eval e (envOf C.name C.scope L ad cd))] := dQ hst
  rw [hst']
  refine PyProof.Rows.callWith_type rfl (Calls.evalArgs_plain (Calls.spliced_cons (h A L ad cd s _ E o fun v val h1 t1 ⟨n, e1, hn, q⟩ rv o1 k1 => Calls.spliced_nil ?_)))
  subst e1
  unfold ci at rv
  obtain ⟨u, rfl⟩ := rv
  refine call_range_1 ?_
  refine wpAny_pyIter_range (Heap.get?_push_size _ rfl) (small_one (by decide) (by decide) (by exact fq719) (by exact fq805 hn)) ?_
  obtain ⟨m1, F1, r1⟩ := o1.fr
  have hsz : Builtin.Range.rangeSize 0 (n : Int) 1 = (n : Int) := by rw [rangeSize_one]; split <;> (first | exact fq154 | exact fq823 ‹_›)
  have kp : ∀ b o', h1.get? b = some o' -> ((h1.push { cls := .type "range", data := .fields #[.int 0 t1, .int n u, .int 1 (t1 + 1)] }).push { cls := .type "range_iterator", data := .fields #[rawInt 0, rawInt (Builtin.Range.rangeSize 0 (n : Int) 1), rawInt 1] }).get? b = some o' :=
    fun b o' e => Heap.get?_push_of_some _ (Heap.get?_push_of_some _ e)
  have hLI : L ≠ (h1.push { cls := .type "range", data := .fields #[.int 0 t1, .int n u, .int 1 (t1 + 1)] }).objs.size := by
    rw [Heap.size_push]; exact Nat.ne_of_lt (Nat.lt_succ_of_lt F1.ns.lt)
  have hs : h1.objs.size < (h1.push { cls := .type "range", data := .fields #[.int 0 t1, .int n u, .int 1 (t1 + 1)] }).objs.size := by rw [Heap.size_push]; exact Nat.lt_succ_self _
  refine tC (X := fun e s' => cameBackBy (model g.prog g.w) A (envOf C.name C.scope L ad cd) E e s') (Nat.le_trans (Nat.le_of_lt (Nat.lt_of_le_of_lt F1.above F1.ns.lt)) (Nat.le_of_lt hs)) hLI (o1.ext kp)
      (by rw [hsz]; exact Heap.get?_push_size _ rfl) q
      (fun env' h' tk' kk o' kb => kn env' h' tk' kk o' fun c o'' hc e => kb c o'' hc (Nat.ne_of_lt (Nat.lt_trans (Heap.lt_size (k1 c o'' hc e)) hs)) (kp c o'' (k1 c o'' hc e)))
      (fun v val h' tk' kk rv o' kb => kr v val h' tk' kk rv o' fun c o'' hc e => kb c o'' hc (Nat.ne_of_lt (Nat.lt_trans (Heap.lt_size (k1 c o'' hc e)) hs)) (kp c o'' (k1 c o'' hc e)))

theorem SS_try {body : List Stmt} {h₀ : ExceptHandler} {hs : List ExceptHandler} {pos : Pos} {K : Out -> Prop} (h : mu g C body env K) : SS g C (.Try body (h₀ :: hs) [] [] pos) env K := fun A L ad cd s P E o kn kr =>
  wpAny_Try_except (h A L ad cd s _ _ o (fun env' h1 t1 q o1 k1 => wpAny_execs_nil (kn env' h1 t1 q o1 k1)) fun v val h1 t1 q rv o1 k1 => kr v val h1 t1 q rv o1 k1)

/-- a def of the program -/
structure Def where
  name : Str
  params : Arguments
  body : List Stmt
  scope : Scope

noncomputable def Def.names (d : Def) : List Str := d.params.args.map (·.arg)

noncomputable def gz (g : G) (d : Def) : Prop :=
  ∃ a o pm code doc, g.mg d.name = some (.ref a) /\ g.hb.get? a = some o /\ o.data = .func (docDef d.name d.params d.body d.scope pm code doc) /\ g.hb.CodeRec code d.name

theorem gz.use {d : Def} (h : gz g d) : ∃ fv, g.mg d.name = some fv /\ ej g fv := by
  obtain ⟨a, o, pm, code, doc, h1, h2, h3, h4⟩ := h
  exact ⟨.ref a, h1, .inr (.inr ⟨a, o, _, rfl, h2, h3⟩)⟩
theorem gz.cal {d : Def} (h : gz g d) : Cal g d.name :=
  let ⟨fv, h1, h2⟩ := h.use; ⟨fv, .inl h1, h2⟩

theorem gz.gval {d : Def} (h : gz g d) : qP g d.name (.fn d.name) :=
  by obtain ⟨a, o, pm, code, doc, h1, h2, h3, h4⟩ := h; exact ⟨.ref a, h1, .inl h1⟩

theorem ee : ∀ (xs : List Str) (vs : List PV) (vals : List Value) (h : Heap), xs.Nodup -> xs.length = vs.length -> a8 g h vals vs ->
    lK g h (fun y => (xs.zip vals).reverse.lookup y) (xs.zip vs)
  | [], _, _, h, _, _, _ => fun x v e => by simp at e
  | x :: xs, [], _, h, _, hn, _ => by cases hn
  | x :: xs, v :: vs, vals, h, hd, hn, r => by
    unfold a8 at r
    obtain ⟨val, vals', rfl, r1, r2⟩ := r
    have ih := ee xs vs vals' h (List.nodup_cons.mp hd).2 (by simpa using hn) r2
    intro y w e
    simp only [List.zip_cons_cons, List.reverse_cons, List.lookup_append] at e |-
    by_cases hy : y = x
    · subst hy
      simp only [List.lookup_cons, beq_self_eq_true] at e
      cases e
      have hnone : ((xs.zip vals').reverse.lookup y) = none := by
        rw [List.lookup_eq_none_iff]
        intro p hp
        have hp' := List.mem_reverse.mp hp
        have : p.1 ∈ xs := (List.of_mem_zip hp').1
        rw [bne_iff_ne]
        intro e9
        exact (List.nodup_cons.mp hd).1 (e9 ▸ this)
      refine ⟨val, ?_, r1⟩
      simp [hnone, List.lookup]
    · have hb : (y == x) = false := beq_eq_false_iff_ne.mpr hy
      simp only [List.lookup, hb] at e
      obtain ⟨u, hu, ru⟩ := ih y w e
      exact ⟨u, by simp [hu], ru⟩

theorem kq.deeper {g : G} {A : Around} {h h' : Heap} {en : Env} {L : Addr} {m : Str -> Option Value} (f : kq g A h) (k : ∀ b o, h.get? b = some o -> h'.get? b = some o) (hL : g.hb.get? L = none) (hn : h'.Ns L m)
    (hk : en.scope.kind ≠ .module) (hf : en.frame = some L) : kq g (A.deeper en) h' :=
  let ⟨l, e, x⟩ := f.ext k; ⟨en :: l, Around.frames_deeper e, Heap.FunFrames.cons hk hf hn hL x⟩

abbrev EndK (r : PV) (o : Out) : Prop := match o with | .ret v => v = r | .next _ => r = .none
/-- the contract of a def out of its body -/
theorem Ret_of {d : Def} {n : Nat} {args : List PV} {r : PV} (D : gz g d)
    (hb : ∀ pm code doc vals, vals.length = args.length -> bindArgs (docDef d.name d.params d.body d.scope pm code doc) ⟨vals, []⟩ = pure (d.names.zip vals))
    (hn : d.names.length = args.length) (hd : d.names.Nodup) (hl : (d.names.all fun x => d.scope.names.lookup x == some .local) = true)
    (hk : d.scope.kind = .function) (hco : d.scope.isCoroutine = false) (hge : d.scope.isGenerator = false) (hce : ∀ x ∈ d.scope.names, x.2 ≠ .cell) (hlaw : d.name ≠ ("law" : Str))
    (h : mu g ⟨d.name, d.scope, n⟩ d.body (d.names.zip args) (EndK r)) : Ret g (n + 1) d.name args r := by
  obtain ⟨a, o, pm, code, doc, h1, h2, h3, h4⟩ := D
  refine ⟨.ref a, .inl h1, .inr (.inr ⟨a, o, _, rfl, h2, h3⟩), fun A s vals P E hdp hun hh hfr hkeep hsz rs k => wpAny_call ?_⟩
  have hlen := a8.length rs
  refine call_plain (by show A.depth < 1000; exact fq279 hdp) (hkeep _ _ h2) h3 (g.T.nolimit.keeps hkeep) (h4.keeps hkeep) (hb pm code doc vals hlen) ?_ ?_ hco hge hk hce
  · intro x hx
    have := List.all_eq_true.mp hl x.1 (List.of_mem_zip hx).1
    simpa using this
  · intro h₁ F
    have Fb : Fr g.hb s.heap.objs.size h₁ (fun x => (d.names.zip vals).reverse.lookup x) := ⟨F.ns, fun b o e => F.keep b o (hkeep b o e), hsz⟩
    have o1 : Ok g ⟨d.name, d.scope, n⟩ (A.deeper (envOf d.name d.scope s.heap.objs.size a code)) s.heap.objs.size h₁ (d.names.zip args) :=
      ⟨by show A.depth + 1 + n < 900; exact fq277 hdp, by show A.units + 3 + 10 * n < 9000; exact fq276 hun, hh, hfr.deeper (F.keep) (Heap.get?_none_of_le hsz) F.ns (by show d.scope.kind ≠ .module; rw [hk]; decide) rfl, fun e => absurd e hlaw, hk, _, Fb, ee d.names args vals h₁ hd hn (a8.keep (dE F.keep) args rs)⟩
    refine h _ _ a code _ _ _ o1 (fun env' h' tk' q o' k' => ?_) fun v val h' tk' q rv o' k' => ?_
    · subst q
      exact k .none h' _ (fun b o e => k' b o (Nat.ne_of_lt (Heap.lt_size e)) (F.keep b o e)) rfl
    · subst q
      exact k val h' _ (fun b o e => k' b o (Nat.ne_of_lt (Heap.lt_size e)) (F.keep b o e)) rv
end
end

section
section
variable {g : G}

structure Bi (g : G) : Prop where
  abs : g.mg "abs" = none /\ g.mb "abs" = some (.builtin "abs")
  max : g.mg "max" = none /\ g.mb "max" = some (.builtin "max")
  min : g.mg "min" = none /\ g.mb "min" = some (.builtin "min")
  divmod : g.mg "divmod" = none /\ g.mb "divmod" = some (.builtin "divmod")
  len : g.mg "len" = none /\ g.mb "len" = some (.builtin "len")
  str : g.mg "str" = none /\ g.mb "str" = some (.type "str")
  range : g.mg "range" = none /\ g.mb "range" = some (.type "range")

theorem nS {h : Heap} {vals : List Value} {d : PV} (r : a8 g h vals [d]) : ∃ v, vals = [v] /\ ci g h v d := by
  unfold a8 at r
  obtain ⟨v, vs', rfl, r1, r2⟩ := r
  unfold a8 at r2; subst r2
  exact ⟨v, rfl, r1⟩
theorem uN {h : Heap} {vals : List Value} {d e : PV} (r : a8 g h vals [d, e]) : ∃ v w, vals = [v, w] /\ ci g h v d /\ ci g h w e := by
  unfold a8 at r
  obtain ⟨v, vs', rfl, r1, r2⟩ := r
  obtain ⟨w, rfl, r3⟩ := nS r2
  exact ⟨v, w, rfl, r1, r3⟩

theorem cal_abs (B : Bi g) : Cal g "abs" := ⟨_, .inr B.abs, .inl ⟨_, rfl⟩⟩
theorem cal_max (B : Bi g) : Cal g "max" := ⟨_, .inr B.max, .inl ⟨_, rfl⟩⟩
theorem cal_min (B : Bi g) : Cal g "min" := ⟨_, .inr B.min, .inl ⟨_, rfl⟩⟩
theorem pC (B : Bi g) : Cal g "divmod" := ⟨_, .inr B.divmod, .inl ⟨_, rfl⟩⟩
theorem cal_len (B : Bi g) : Cal g "len" := ⟨_, .inr B.len, .inl ⟨_, rfl⟩⟩
theorem cal_str (B : Bi g) : Cal g "str" := ⟨_, .inr B.str, .inr (.inl ⟨_, rfl⟩)⟩

theorem dh (B : Bi g) (a : Int) : Ret g 0 "abs" [.int a] (.int (a.natAbs : Int)) :=
  ⟨_, .inr B.abs, .inl ⟨_, rfl⟩, fun A s vals P E _ _ _ _ _ _ r k => by
    obtain ⟨v, rfl, rv⟩ := nS r
    unfold ci at rv; obtain ⟨t, rfl⟩ := rv
    refine call_abs_int fun u tk => ?_
    have : (if a < 0 then -a else a) = (a.natAbs : Int) := by split <;> (first | exact fq449 ‹_› | exact fq181 ‹_›)
    rw [this]
    exact k _ s.heap tk (fun _ _ e => e) ⟨u, rfl⟩⟩

theorem dM (B : Bi g) (a b : Int) : Ret g 0 "max" [.int a, .int b] (.int (max a b)) :=
  ⟨_, .inr B.max, .inl ⟨_, rfl⟩, fun A s vals P E _ _ hh _ _ _ r k => by
    obtain ⟨v, w, rfl, rv, rw'⟩ := uN r
    unfold ci at rv rw'; obtain ⟨t, rfl⟩ := rv; obtain ⟨u, rfl⟩ := rw'
    refine max_two_ints hh fun h' tk hk => ?_
    by_cases c : b > a
    · rw [if_pos c]; exact k _ h' tk hk ⟨u, by rw [Int.max_def]; split <;> first | rfl | lia -abstractProof⟩
    · rw [if_neg c]; exact k _ h' tk hk ⟨t, by rw [Int.max_def]; split <;> first | (congr 1; exact fq611 ‹_› c) | rfl⟩⟩

theorem mO (B : Bi g) (a b : Int) : Ret g 0 "min" [.int a, .int b] (.int (min a b)) :=
  ⟨_, .inr B.min, .inl ⟨_, rfl⟩, fun A s vals P E _ _ hh _ _ _ r k => by
    obtain ⟨v, w, rfl, rv, rw'⟩ := uN r
    unfold ci at rv rw'; obtain ⟨t, rfl⟩ := rv; obtain ⟨u, rfl⟩ := rw'
    refine min_two_ints hh fun h' tk hk => ?_
    by_cases c : b < a
    · rw [if_pos c]; exact k _ h' tk hk ⟨u, by rw [Int.min_def]; split <;> first | (congr 1; exact fq592 c ‹_›) | rfl⟩
    · rw [if_neg c]; exact k _ h' tk hk ⟨t, by rw [Int.min_def]; split <;> first | (congr 1; exact fq615 c ‹_›) | rfl⟩⟩

theorem kV (B : Bi g) (a b : Int) (hb : 0 < b) (hs : ar b) : Ret g 0 "divmod" [.int a, .int b] (.tup [.int (a / b), .int (a % b)]) :=
  ⟨_, .inr B.divmod, .inl ⟨_, rfl⟩, fun A s vals P E _ _ hh _ _ _ r k => by
    obtain ⟨v, w, rfl, rv, rw'⟩ := uN r
    unfold ci at rv rw'; obtain ⟨t, rfl⟩ := rv; obtain ⟨u, rfl⟩ := rw'
    refine divmod_int (by exact jb hb) ?_ (.inl (k8 hs))
    refine k _ _ _ (fun _ _ e => Heap.get?_push_of_some _ e) ⟨_, [_, _], rfl, IsTup.new _ _, ?_⟩
    rw [Int.fdiv_eq_ediv_of_nonneg _ (by exact jC hb), Int.fmod_eq_emod_of_nonneg _ (by exact jC hb)]
    exact ⟨_, _, rfl, ⟨_, rfl⟩, _, _, rfl, ⟨_, rfl⟩, rfl⟩⟩

theorem kA (B : Bi g) (a : Int) (ha : a.natAbs < 2 ^ 1900) : Ret g 0 "str" [.int a] (.str (Str.ofString (toString a))) :=
  ⟨_, .inr B.str, .inr (.inl ⟨_, rfl⟩), fun A s vals P E _ _ hh _ _ _ r k => by
    obtain ⟨v, rfl, rv⟩ := nS r
    unfold ci at rv; obtain ⟨t, rfl⟩ := rv
    refine PySem.P.str_of_int ?_ (k _ s.heap _ (fun _ _ e => e) ⟨_, rfl⟩)
    have := lh ha (by decide); exact fq795 this⟩

theorem kB (B : Bi g) (x : Str) (hx : x.length < 2 ^ 20) : Ret g 0 "len" [.str x] (.int (x.length : Int)) :=
  ⟨_, .inr B.len, .inl ⟨_, rfl⟩, fun A s vals P E _ _ hh _ _ _ r k => by
    obtain ⟨v, rfl, rv⟩ := nS r
    unfold ci at rv; obtain ⟨t, rfl⟩ := rv
    exact SBL.len (by exact fq792 hx) (k _ s.heap _ (fun _ _ e => e) ⟨_, rfl⟩)⟩
end
end

section
noncomputable def rQ : List Stmt -> Nat -> Stmt
  | [], _ => .Pass ⟨0, 0, 0, 0⟩
  | s :: _, 0 => s
  | _ :: r, n + 1 => rQ r n

noncomputable def defOf : Stmt -> Def
  | .FunctionDef name args body _ _ _ scope _ _ _ => ⟨name, args, body, scope⟩
  | _ => ⟨"", ⟨[], [], none, [], [], none, []⟩, [], ⟨.function, [], false, false, []⟩⟩

noncomputable def au (i : Nat) : Def := defOf (rQ PySem.Challenge.pw_pf0129_01.main.body i)

noncomputable def me (d : Def) : Bool :=
  decide d.names.Nodup && (d.names.all fun x => d.scope.names.lookup x == some .local) && d.scope.kind == .function && !d.scope.isCoroutine && !d.scope.isGenerator && d.scope.names.all (fun x => x.2 != .cell) && d.name != ("law" : Str)

noncomputable def rO (d : Def) (n : Nat) : Prop := match n with
  | 1 => ∀ pm code doc a, bindArgs (docDef d.name d.params d.body d.scope pm code doc) ⟨[a], []⟩ = pure (d.names.zip [a])
  | 2 => ∀ pm code doc a b, bindArgs (docDef d.name d.params d.body d.scope pm code doc) ⟨[a, b], []⟩ = pure (d.names.zip [a, b])
  | 3 => ∀ pm code doc a b c, bindArgs (docDef d.name d.params d.body d.scope pm code doc) ⟨[a, b, c], []⟩ = pure (d.names.zip [a, b, c])
  | 4 => ∀ pm code doc a b c e, bindArgs (docDef d.name d.params d.body d.scope pm code doc) ⟨[a, b, c, e], []⟩ = pure (d.names.zip [a, b, c, e])
  | _ => False
theorem rO.all {d : Def} {n : Nat} (h : rO d n) (pm code doc : Value) (vals : List Value) (hv : vals.length = n) : bindArgs (docDef d.name d.params d.body d.scope pm code doc) ⟨vals, []⟩ = pure (d.names.zip vals) := by
  subst hv
  match vals, h with
  | [a], h => exact h pm code doc a
  | [a, b], h => exact h pm code doc a b
  | [a, b, c], h => exact h pm code doc a b c
  | [a, b, c, e], h => exact h pm code doc a b c e

theorem aS {g : G} {d : Def} {n : Nat} {args : List PV} {r : PV} (D : gz g d) (ok : me d = true)
    (hb : rO d args.length) (hn : d.names.length = args.length)
    (h : mu g ⟨d.name, d.scope, n⟩ d.body (d.names.zip args) (EndK r)) : Ret g (n + 1) d.name args r := by
  simp only [me, Bool.and_eq_true, decide_eq_true_eq, beq_iff_eq, bne_iff_ne, Bool.not_eq_true'] at ok
  obtain ⟨⟨⟨⟨⟨⟨h1, h2⟩, h3⟩, h4⟩, h5⟩, h6⟩, h7⟩ := ok
  refine Ret_of D hb.all hn h1 h2 h3 h4 h5 (fun x hx => ?_) h7 h
  have := List.all_eq_true.mp h6 x hx
  simpa using this

abbrev re (x : Re) : PV := .tup [.int x.1, .int x.2]
abbrev cx (z : Re × Re) : PV := .tup [re z.1, re z.2]

section
variable {g : G} {C : Cx} {env : bI}

abbrev IsB (p b : Bool) : Prop := b = p
abbrev IsV (p v : PV) : Prop := v = p
abbrev LoopK (m : bI) (o : Out) : Prop := match o with | .next e => gZ m e | .ret _ => False
abbrev LoopQ (g : G) (C : Cx) (b : List Stmt) (m m' : bI) (c d : Bool) : Prop := d = c /\ (c = true -> mu g C b m (LoopK m'))
theorem gU {σ : Type} (mk : σ -> bI) (c : σ -> Bool) (f : σ -> σ) (I : σ -> Prop) (μ : σ -> Nat) (fuel : Nat) (s₀ : σ) {t : PySem.Expr} {b : List Stmt} {pos : Pos} {K : Out -> Prop}
    (h0 : gZ (mk s₀) env) (hI : I s₀) (hμ : μ s₀ <= fuel) (hs : ∀ s, I s -> c s = true -> I (f s) /\ μ (f s) < μ s)
    (hb : ∀ s, I s -> SB g C t (mk s) (LoopQ g C b (mk s) (mk (f s)) (c s)))
    (hK : K (.next (mk (cV c f fuel s₀)))) : SS g C (.While t b [] pos) env K := by
  refine jJ (ι := σ) mk (fun s => I s /\ ∃ n, μ s <= n /\ cV c f n s = cV c f fuel s₀) μ s₀ h0 ⟨hI, fuel, hμ, rfl⟩ fun s ⟨hi, n, hn, e⟩ => ?_
  intro A L a cd s' P E o k
  refine hb s hi A L a cd s' P E o fun d h' tk' ⟨hd, q⟩ o' k' => k d h' tk' ⟨fun ht => ?_, fun hf => ?_⟩ o' k'
  · rw [ht] at hd
    have st := hs s hi hd.symm
    intro A L a cd s' P E o kn kr
    refine q hd.symm A L a cd s' P E o (fun env' h' tk' q o' k' => kn env' h' tk' ⟨f s, q, ⟨st.1, ?_⟩, st.2⟩ o' k') fun v val h' tk' q => q.elim
    cases n with
    | zero => exact absurd (Nat.lt_of_lt_of_le st.2 hn) (Nat.not_lt_zero _)
    | succ n => exact ⟨n, Nat.le_of_lt_succ (Nat.lt_of_lt_of_le st.2 hn), by rw [<- e, cg hd.symm]⟩
  · rw [hf] at hd
    rw [<- e, bZ hd.symm] at hK
    exact hK

theorem wY {x : PySem.Expr} {rest : List PySem.Expr} {p q : Bool} {Q : Bool -> Prop} (h1 : SB g C x env (IsB p)) (h2 : p = false -> iT g C .Or rest env (IsB q)) (h : Q (p || q)) : iT g C .Or (x :: rest) env Q := by
  refine nH fun A L a cd s P E o k => h1 A L a cd s P E o fun b h' tk' e => k b h' tk' ⟨fun hb => ?_, fun hb => ?_⟩
  · have hp : p = false := by rw [<- e]; exact hb
    intro A L a cd s P E o k
    exact h2 hp A L a cd s P E o fun b h' tk' e => k b h' tk' (by rw [e]; rw [hp] at h; exact h)
  · have hp : p = true := by rw [<- e]; exact hb
    rw [hp] at h; exact h
theorem uq {x : PySem.Expr} {rest : List PySem.Expr} {p q : Bool} {Q : Bool -> Prop} (h1 : SB g C x env (IsB p)) (h2 : p = true -> iT g C .And rest env (IsB q)) (h : Q (p && q)) : iT g C .And (x :: rest) env Q := by
  refine oS fun A L a cd s P E o k => h1 A L a cd s P E o fun b h' tk' e => k b h' tk' ⟨fun hb => ?_, fun hb => ?_⟩
  · have hp : p = true := by rw [<- e]; exact hb
    intro A L a cd s P E o k
    exact h2 hp A L a cd s P E o fun b h' tk' e => k b h' tk' (by rw [e]; rw [hp] at h; exact h)
  · have hp : p = false := by rw [<- e]; exact hb
    rw [hp] at h; exact h
theorem w5 {x : PySem.Expr} {Q : Bool -> Prop} (h : SB g C x env Q) : iT g C .Or [x] env Q := by
  refine nH fun A L a cd s P E o k => h A L a cd s P E o fun b h' tk' q => k b h' tk' ⟨fun hb => ?_, fun hb => ?_⟩
  · rw [hb] at q; exact ko q
  · rw [hb] at q; exact q
theorem ur {x : PySem.Expr} {Q : Bool -> Prop} (h : SB g C x env Q) : iT g C .And [x] env Q := by
  refine oS fun A L a cd s P E o k => h A L a cd s P E o fun b h' tk' q => k b h' tk' ⟨fun hb => ?_, fun hb => ?_⟩
  · rw [hb] at q; exact jK q
  · rw [hb] at q; exact q
theorem wS {t b e : PySem.Expr} {pos : Pos} {c : Bool} {i j : Int} {Q : PV -> Prop} (h1 : SB g C t env (IsB c)) (h2 : c = true -> SE g C b env (IsV (.int i))) (h3 : c = false -> SE g C e env (IsV (.int j)))
    (h : Q (.int (bif c then i else j))) : SE g C (.IfExp t b e pos) env Q := by
  refine SE_if fun A L a cd s P E o k => h1 A L a cd s P E o fun d h' tk' e => k d h' tk' ⟨fun hb => ?_, fun hb => ?_⟩
  · have hp : c = true := by rw [<- e]; exact hb
    exact (h2 hp).mono fun v hv => by rw [hv]; rw [hp] at h; exact h
  · have hp : c = false := by rw [<- e]; exact hb
    exact (h3 hp).mono fun v hv => by rw [hv]; rw [hp] at h; exact h
theorem nE {st : Stmt} {rest : List Stmt} {env1 : bI} {K : Out -> Prop} (h : SS g C st env fun o => o = .next env1) (h2 : mu g C rest env1 K) : mu g C (st :: rest) env K := by
  refine eX fun A L a cd s P E o kn kr => h A L a cd s P E o (fun env' h' tk' e => kn env' h' tk' ?_) fun v val h' tk' e => nomatch e
  obtain rfl := Out.next.inj e
  exact h2
theorem ul {st : Stmt} {rest : List Stmt} (env1 : bI) {K : Out -> Prop} (h : SS g C st env fun o => ∃ e, o = .next e /\ gZ env1 e) (h2 : mu g C rest env1 K) : mu g C (st :: rest) env K := by
  refine eX fun A L a cd s P E o kn kr => h A L a cd s P E o (fun env' h' tk' q => kn env' h' tk' ?_) fun v val h' tk' ⟨e, q, _⟩ => nomatch q
  obtain ⟨e, q, le⟩ := q
  obtain rfl := Out.next.inj q
  intro A L a cd s P E o kn kr
  exact h2 A L a cd s P E (o.le le) kn kr
theorem fA {t : PySem.Expr} {body : List Stmt} {v : PV} {rest : List PV} (env1 : bI) {K : Out -> Prop} (h : kt g C t body v env fun o => o = .next env1)
    (h2 : jE (kt g C t body) rest env1 K) : jE (kt g C t body) (v :: rest) env K := by
  intro A L a cd s val P E o r k
  refine h A L a cd s val P E o r fun env' h' tk' q o' k' => k env' h' tk' ?_ o' k'
  intro A L a cd s P E o kn kr
  refine q A L a cd s P E o (fun e h' tk' q => kn e h' tk' ?_) fun v val h' tk' q => nomatch q
  obtain rfl := Out.next.inj q
  exact h2
theorem lq {Step : PV -> bI -> (Out -> Prop) -> Prop} {K : Out -> Prop} (h : K (.next env)) : jE Step [] env K := h
theorem nF {ts : List PySem.Expr} {n : Nat} {p pos : Pos} {e : PySem.Expr} {xs : List Str} {K : Out -> Prop} (hx : gJ ts = some xs)
    (h : SE g C e env (SwQ xs K env))
    (hl : (xs.reverse.all fun x => C.scope.names.lookup x == some .local) = true)
    (hs : ∀ en : Env, swapsWithSole [.Tuple ts n p] e pos.line en = pure false) (hw : ∀ L a cd, swappedStores [.Tuple ts n p] e (envOf C.name C.scope L a cd) = pure (some xs)) :
    SS g C (.Assign [.Tuple ts n p] e pos) env K := oN h hl hs hw
theorem SE_andP {e₁ e₂ : PySem.Expr} {rest : List PySem.Expr} {pos : Pos} {p q : Bool} {Q : PV -> Prop}
    (h1 : SE g C e₁ env (IsV (.bool p))) (h2 : p = true -> SE g C (.BoolOp .And (e₂ :: rest) pos) env (IsV (.bool q))) (h : Q (.bool (p && q))) : SE g C (.BoolOp .And (e₁ :: e₂ :: rest) pos) env Q := by
  refine wW (h1.mono fun v hv => ⟨p, by rw [hv]; rfl, fun hp => ?_, fun hp => ?_⟩)
  · exact (h2 hp).mono fun v hv => by rw [hv]; rw [hp] at h; exact h
  · rw [hv, hp]; rw [hp] at h; exact h
theorem SE_orP {e₁ e₂ : PySem.Expr} {rest : List PySem.Expr} {pos : Pos} {p q : Bool} {Q : PV -> Prop}
    (h1 : SE g C e₁ env (IsV (.bool p))) (h2 : p = false -> SE g C (.BoolOp .Or (e₂ :: rest) pos) env (IsV (.bool q))) (h : Q (.bool (p || q))) : SE g C (.BoolOp .Or (e₁ :: e₂ :: rest) pos) env Q := by
  refine SE_or (h1.mono fun v hv => ⟨p, by rw [hv]; rfl, fun hp => ?_, fun hp => ?_⟩)
  · exact (h2 hp).mono fun v hv => by rw [hv]; rw [hp] at h; exact h
  · rw [hv, hp]; rw [hp] at h; exact h

theorem wT {d : Def} {id : Str} {p pos : Pos} {es : List PySem.Expr} {Q : PV -> Prop} (D : gz g d) (hid : id = d.name) (hl : C.scope.names.lookup id = some .globalImplicit) (hd : (id == ("__debug__" : Str)) = false)
    (hn : noStar es = true) (hne : es ≠ [])
    (h : uo g C es env (mB g C.N d.name Q)) : SE g C (.Call (.Name id p) es [] pos) env Q := by
  subst hid
  exact fU hn hne (rM D.gval hl hd ⟨_, rfl, D.cal, h⟩)

theorem gy {f id : Str} {val : Value} {p pos : Pos} {es : List PySem.Expr} {Q : PV -> Prop} (b : g.mg f = none /\ g.mb f = some val) (hc : Cal g f) (hid : id = f) (hl : C.scope.names.lookup id = some .globalImplicit) (hd : (id == ("__debug__" : Str)) = false)
    (hn : noStar es = true) (hne : es ≠ [])
    (h : uo g C es env (mB g C.N f Q)) : SE g C (.Call (.Name id p) es [] pos) env Q := by
  subst hid
  exact fU hn hne (qO b.1 b.2 hl hd ⟨_, rfl, hc, h⟩)
end

noncomputable def idxK : List Nat := [5, 6, 7, 8, 9, 10, 11, 12, 13, 16, 17, 18, 19, 20, 21, 22, 23, 24, 25, 26, 27, 28, 29, 30, 31, 32, 33, 34, 35, 37, 38, 39, 40, 41, 42, 43, 44, 46, 49, 50, 51, 52, 53, 54, 55, 56, 57, 58, 59, 62, 63, 64, 65, 66, 67, 68, 69, 70, 71, 72, 73]
noncomputable def vF (i : Nat) : Bool := idxK.contains i

structure HH (g : G) : Prop where
  B : Bi g
  D : ∀ i, vF i = true -> gz g (au i)
  ok : ∀ i, vF i = true -> me (au i) = true
  cN : qP g "NOUGHT" (re (0, 0))
  cS : qP g "SPARE" (.int 10)
  cM : qP g "MORE" (.int 10)
  cT : qP g "_law_top" (.int 99)

theorem small10 : (10 : Nat) ^ 2300 < 2 ^ 8000 := by decide +kernel
theorem kQ {a : Int} (n : Nat) (h : a.natAbs < 10 ^ n) (hn : n <= 2300) : ar a :=
  Nat.lt_of_lt_of_le h (Nat.le_trans (Nat.pow_le_pow_right (by decide) hn) (Nat.le_of_lt small10))
theorem cB {n : Nat} (hn : n < 2300) : ar (10 ^ n) := by
  refine kQ (n + 1) ?_ hn
  rw [Int.natAbs_pow]
  exact Nat.pow_lt_pow_right (by decide) (Nat.lt_succ_self n)
theorem cY {a b : Int} (h : a.natAbs <= b.natAbs) (hb : ar b) : ar a := Nat.lt_of_le_of_lt h hb
theorem rT {a : Int} (h : Nat.ble a.natAbs 1152921504606846975 = true) : ar a := kQ 20 (Nat.lt_of_le_of_lt (Nat.le_of_ble_eq_true h) (by decide)) (by decide)
theorem lit_ok {a : Int} (h : Nat.ble a.natAbs 1152921504606846975 = true) : a.natAbs < 1152921504606846976 := Nat.lt_succ_of_le (Nat.le_of_ble_eq_true h)
/-! ## what a step asks, with the rest left unwritten -/
section
variable {g : G} {C : Cx} {env : bI}
theorem ae {N n : Nat} {r : PV} {f : Str} {vs : List PV} {Q : PV -> Prop} (h2 : Ret g N f vs r) (h : Q r) (h1 : Nat.ble N n = true := by exact @rfl Bool true) : mB g n f Q vs := ⟨N, r, h1, h2, h⟩

noncomputable def rF (C : Cx) (id : Str) (es : List PySem.Expr) : Bool := gloB C id && noStar es && !es.isEmpty
noncomputable def defB (C : Cx) (i : Nat) (id : Str) (es : List PySem.Expr) : Bool := vF i && id == (au i).name && rF C id es
theorem oH {id : Str} {es : List PySem.Expr} (h : rF C id es = true) : C.scope.names.lookup id = some .globalImplicit /\ (id == ("__debug__" : Str)) = false /\ noStar es = true /\ es ≠ [] := by
  simp only [rF, gloB, Bool.and_eq_true, beq_iff_eq, Bool.not_eq_true'] at h
  exact ⟨h.1.1.1, h.1.1.2, h.1.2, fun e => by subst e; cases h.2⟩
theorem am {id : Str} {p pos : Pos} {es : List PySem.Expr} {Q : PV -> Prop} (i : Nat) (h : uo g C es env (mB g C.N id Q)) (hb : defB C i id es = true := by exact @rfl Bool true) (H : HH g := by assumption) : SE g C (.Call (.Name id p) es [] pos) env Q := by
  simp only [defB, Bool.and_eq_true, beq_iff_eq] at hb
  obtain ⟨h1, h2, h3, h4⟩ := oH hb.2
  exact wT (H.D i hb.1.1) hb.1.2 h1 h2 h3 h4 (hb.1.2 ▸ h)
noncomputable def biB (f : Str) : Bool := (["abs", "max", "min", "divmod", "len", "str"] : List Str).contains f
theorem bT {id : Str} {p pos : Pos} {es : List PySem.Expr} {Q : PV -> Prop} (h : uo g C es env (mB g C.N id Q)) (hb : (biB id && rF C id es) = true := by exact @rfl Bool true) (H : HH g := by assumption) : SE g C (.Call (.Name id p) es [] pos) env Q := by
  rw [Bool.and_eq_true] at hb
  obtain ⟨h1, h2, h3, h4⟩ := oH hb.2
  have B := H.B
  have hm : id ∈ (["abs", "max", "min", "divmod", "len", "str"] : List Str) := List.contains_iff_mem.mp hb.1
  simp only [List.mem_cons, List.not_mem_nil, or_false] at hm
  rcases hm with e | e | e | e | e | e
  · exact gy B.abs (cal_abs B) e h1 h2 h3 h4 (e ▸ h)
  · exact gy B.max (cal_max B) e h1 h2 h3 h4 (e ▸ h)
  · exact gy B.min (cal_min B) e h1 h2 h3 h4 (e ▸ h)
  · exact gy B.divmod (pC B) e h1 h2 h3 h4 (e ▸ h)
  · exact gy B.len (cal_len B) e h1 h2 h3 h4 (e ▸ h)
  · exact gy B.str (cal_str B) e h1 h2 h3 h4 (e ▸ h)
theorem ca {x : Str} {pos : Pos} {v : PV} {Q : PV -> Prop} (hv : qP g x v) (h : Q v) (hl : gloB C x = true := by exact @rfl Bool true) : SE g C (.Name x pos) env Q := by
  simp only [gloB, Bool.and_eq_true, beq_iff_eq, Bool.not_eq_true'] at hl
  exact rM hv hl.1 hl.2 h
end
section
variable {Q : PV -> Prop} {a b : Int}
theorem add_ok (h : Q (.int (a + b))) : lU .Add (.int a) Q (.int b) := ⟨_, rfl, h⟩
theorem sub_ok' (h : Q (.int (a - b))) : lU .Sub (.int a) Q (.int b) := ⟨_, rfl, h⟩
theorem rt (h1 : a.natAbs < 1152921504606846976) (h : Q (.int (a * b))) : lU .Mult (.int a) Q (.int b) := ⟨_, ⟨rfl, .inl h1⟩, h⟩
theorem rq (h1 : b.natAbs < 1152921504606846976) (h : Q (.int (a * b))) : lU .Mult (.int a) Q (.int b) := ⟨_, ⟨rfl, .inr (.inl h1)⟩, h⟩
theorem mul_ok3 (h1 : ar a) (h2 : ar b) (h : Q (.int (a * b))) : lU .Mult (.int a) Q (.int b) := ⟨_, ⟨rfl, .inr (.inr ⟨h1, h2⟩)⟩, h⟩
theorem div_ok (h1 : 0 < b) (h2 : ar b) (h : Q (.int (a / b))) : lU .FloorDiv (.int a) Q (.int b) := ⟨_, ⟨rfl, h1, h2⟩, h⟩
theorem mod_ok (h1 : 0 < b) (h : Q (.int (a % b))) : lU .Mod (.int a) Q (.int b) := ⟨_, ⟨rfl, h1⟩, h⟩
theorem pow_ok (h1 : 0 <= b) (h2 : b <= 100000) (h3 : a.natAbs < 2 ^ 100) (h : Q (.int (a ^ b.toNat))) : lU .Pow (.int a) Q (.int b) := ⟨_, ⟨rfl, h1, h2, h3⟩, h⟩
theorem neg_ok (h : Q (.int (-a))) : NegQ Q (.int a) := ⟨a, rfl, h⟩
end
section
variable {K : Out -> Prop} {env : bI} {x : Str} {a b : Int}
theorem aadd_ok (h : oT K env x (.int (a + b))) : nJ K env x .Add (.int a) (.int b) := ⟨_, rfl, h⟩
theorem asub_ok (h : oT K env x (.int (a - b))) : nJ K env x .Sub (.int a) (.int b) := ⟨_, rfl, h⟩
theorem wJ (h1 : a.natAbs < 1152921504606846976) (h : oT K env x (.int (a * b))) : nJ K env x .Mult (.int a) (.int b) := ⟨_, ⟨rfl, .inl h1⟩, h⟩
theorem wI (h1 : b.natAbs < 1152921504606846976) (h : oT K env x (.int (a * b))) : nJ K env x .Mult (.int a) (.int b) := ⟨_, ⟨rfl, .inr (.inl h1)⟩, h⟩
theorem wH (h1 : ar a) (h2 : ar b) (h : oT K env x (.int (a * b))) : nJ K env x .Mult (.int a) (.int b) := ⟨_, ⟨rfl, .inr (.inr ⟨h1, h2⟩)⟩, h⟩
theorem adiv_ok (h1 : 0 < b) (h2 : ar b) (h : oT K env x (.int (a / b))) : nJ K env x .FloorDiv (.int a) (.int b) := ⟨_, ⟨rfl, h1, h2⟩, h⟩
theorem amod_ok (h1 : 0 < b) (h : oT K env x (.int (a % b))) : nJ K env x .Mod (.int a) (.int b) := ⟨_, ⟨rfl, h1⟩, h⟩
end
section
variable {Q : Bool -> Prop}
theorem eq_ok {a b : Int} (h : Q (decide (a = b))) : nI .Eq (.int a) Q (.int b) := ⟨_, rfl, h⟩
theorem ne_ok {a b : Int} (h : Q (decide (a ≠ b))) : nI .NotEq (.int a) Q (.int b) := ⟨_, rfl, h⟩
theorem lt_ok {a b : Int} (h : Q (decide (a < b))) : nI .Lt (.int a) Q (.int b) := ⟨_, rfl, h⟩
theorem le_ok {a b : Int} (h : Q (decide (a <= b))) : nI .LtE (.int a) Q (.int b) := ⟨_, rfl, h⟩
theorem gt_ok {a b : Int} (h : Q (decide (b < a))) : nI .Gt (.int a) Q (.int b) := ⟨_, rfl, h⟩
theorem ge_ok {a b : Int} (h : Q (decide (b <= a))) : nI .GtE (.int a) Q (.int b) := ⟨_, rfl, h⟩
theorem cmp_ok {op : CmpOp} {a b : PV} {c : Bool} (h : cmp op a b c) (hq : Q c) : nI op a Q b := ⟨c, h, hq⟩
theorem tru_b {b : Bool} (hq : Q b) : uk Q (.bool b) := ⟨b, rfl, hq⟩
theorem tru_i {i : Int} (hq : Q (decide (i ≠ 0))) : uk Q (.int i) := ⟨_, rfl, hq⟩
theorem uA {v : PV} {b : Bool} (h : lX v b) (hq : Q b) : uk Q v := ⟨b, h, hq⟩
end
theorem sw_ok {xs : List Str} {K : Out -> Prop} {env : bI} {l : List PV} (h : K (.next (fR xs.reverse l.reverse env))) (hn : Nat.beq xs.length l.length = true := by exact @rfl Bool true) : SwQ xs K env (.tup l) := ⟨l, rfl, Nat.eq_of_beq_eq_true hn, h⟩
theorem tup_ok {Q : PV -> Prop} {vs : List PV} (h : Q (.tup vs)) (hn : Nat.ble vs.length 10 = true := by exact @rfl Bool true) : TupQ Q vs := ⟨Nat.le_of_ble_eq_true hn, h⟩
theorem sub_ok {l : List PV} {k : Int} {x : PV} {Q : PV -> Prop} (h1 : l[k.toNat]? = some x) (h : Q x) (h2 : (Nat.ble l.length 10 && decide (0 <= k)) = true := by exact @rfl Bool true) : SubR (.tup l) Q (.int k) := by
  rw [Bool.and_eq_true] at h2
  exact ⟨l, k, x, rfl, rfl, of_decide_eq_true h2.2, h1, Nat.le_of_ble_eq_true h2.1, h⟩
theorem int_ok {v : PV} {i : Int} {Q : Int -> Prop} (hv : v = .int i) (hq : Q i) : ∃ i, v = .int i /\ Q i := ⟨i, hv, hq⟩
theorem bin_ok {op : Operator} {a b c : PV} {Q : PV -> Prop} (h : jG op a b c) (hq : Q c) : ∃ c, jG op a b c /\ Q c := ⟨c, h, hq⟩
theorem len1 {α : Type} {l : List α} (h : l.length = 1) : ∃ a, l = [a] := match l, h with | [a], _ => ⟨a, rfl⟩
theorem len2 {α : Type} {l : List α} (h : l.length = 2) : ∃ a b, l = [a, b] := match l, h with | [a, b], _ => ⟨a, b, rfl⟩
theorem len3 {α : Type} {l : List α} (h : l.length = 3) : ∃ a b c, l = [a, b, c] := match l, h with | [a, b, c], _ => ⟨a, b, c, rfl⟩
theorem len4 {α : Type} {l : List α} (h : l.length = 4) : ∃ a b c d, l = [a, b, c, d] := match l, h with | [a, b, c, d], _ => ⟨a, b, c, d, rfl⟩
end

noncomputable def clsBody : Stmt -> List Stmt
  | .ClassDef _ _ _ body _ _ _ _ _ _ _ => body
  | _ => []
noncomputable def dI : Def := defOf (rQ (clsBody (rQ PySem.Challenge.pw_pf0129_01.main.body 1)) 0)

section
set_option maxHeartbeats 8000000
theorem saidK : OpenLaw.wellSaid PySem.Challenge.rw_pf0129_01 = true := by
  unfold OpenLaw.wellSaid
  repeat' (first | (with_reducible refine look_both ?_ ?_) | (unfold OpenRow.wellSaid) | (unfold OpenRow.partSaid) | (unfold OpenScript.wellSaid) | (unfold looksOpen))
  all_goals decide +kernel
end

section
set_option maxHeartbeats 8000000

/-! ## the head by hand: the top's state, statement by statement -/
structure BS where
  n : Nat
  toks : Nat
  modv : Value
  ents : List (Str × Nat × Value)
  tab : List Value
  objs : List Obj

noncomputable def u5 (sc : Scope) : List Str := (sc.names.filter fun x => x.2 == .local).map (·.1)
noncomputable def defOne (nm : Str) (pr : Arguments) (bd : List Stmt) (sc : Scope) (pos : Pos) (s : BS) : BS :=
  let b := s.n
  let t := s.toks
  let ls := u5 sc
  let v := ls.length
  let whole := nm != ("_law_mirrored" : Str)
  let v' := if whole then v else 0
  let c := if whole then b + 5 else b + 3
  let f := c + 1
  let code : Obj := { cls := .type "code", data := .fields #[.str nm t, .str nm (t + 1), .str "/claim/cut.py" (t + 2), .int (pos.line : Int) 0, .int (pr.args.length : Int) 0, .int 0 0, .int 0 0, .int 3 0, .ref b, .bool true, .int 181 0, .ref (b + 1), .none,
    if whole then .ref (b + 2) else .none, if whole then .ref (b + 3) else .none, if whole then .ref (b + 4) else .ref (b + 2), .int ((t + 3 + v' : Nat) : Int) 0, .int (pos.line : Int) 0, .str "/claim/cut.py" (t + 4 + v')] }
  let held : Obj := { cls := .none, data := .func { name := nm, qualname := nm, params := pr, body := .stmts bd, scope := sc, globals := 0, closure := [], defaults := .none, kwdefaults := .none } }
  let fn : Obj := { cls := .type "function", data := .func { name := nm, qualname := nm, params := pr, body := .stmts bd, scope := sc, globals := 3, closure := [], defaults := .none, kwdefaults := .none, pyModule := s.modv, code := .ref c } }
  let e : Obj := { cls := .type "tuple", data := .seq #[] }
  let k : Obj := { cls := .none, data := .fields #[] }
  let names : Obj := { cls := .type "tuple", data := .seq (ls.zipIdx.map fun x => Value.str x.1 (t + 3 + x.2)).toArray }
  { s with n := f + 1, toks := t + 6 + v', ents := s.ents ++ [(nm, t + 5 + v', .ref f)], tab := s.tab ++ [.int (pos.line : Int) 0, .int 0 0, .ref c], objs := s.objs ++ (if whole then [e, k, names, e, held, code, fn] else [e, k, held, code, fn]) }

noncomputable def addSt (s : BS) : Stmt -> BS
  | .FunctionDef nm pr bd _ _ _ sc _ _ pos => defOne nm pr bd sc pos s
  | .Assign [.Name _ _] (.Constant (.str x) _ _) _ => { s with modv := .str x s.toks, toks := s.toks + 2 }
  | .Assign [.Name x _] (.Constant (.int k) _ _) _ => { s with toks := s.toks + 2, ents := s.ents ++ [(x, s.toks + 1, .int k s.toks)] }
  | .Assign [.Name x _] _ _ => { s with n := s.n + 1, toks := s.toks + 3, ents := s.ents ++ [(x, s.toks + 2, .ref s.n)], objs := s.objs ++ [{ cls := .type "tuple", data := .seq #[.int 0 s.toks, .int 0 (s.toks + 1)] }] }
  | _ => s

noncomputable def od (P : Params) (s : BS) : Obj :=
  let l : List DictEntry := [{ hash := PyData.keyHash P "__name__", key := .str "__name__" 165, val := s.modv }, { hash := PyData.keyHash P "__doc__", key := .str "__doc__" 166, val := .none }, { hash := PyData.keyHash P "__package__", key := .str "__package__" 167, val := .none },
    { hash := PyData.keyHash P "__loader__", key := .str "__loader__" 168, val := .builtin "__main__.__loader__#opaque" }, { hash := PyData.keyHash P "__spec__", key := .str "__spec__" 169, val := .none }, { hash := PyData.keyHash P "__annotations__", key := .str "__annotations__" 170, val := .ref 6 },
    { hash := PyData.keyHash P "__builtins__", key := .str "__builtins__" 171, val := .ref 4 }, { hash := PyData.keyHash P "__file__", key := .str "__file__" 173, val := .str "/claim/cut.py" 172 }, { hash := PyData.keyHash P "__cached__", key := .str "__cached__" 174, val := .none }] ++
    s.ents.map fun x => { hash := PyData.keyHash P x.1, key := .str x.1 x.2.1, val := x.2.2 }
  { cls := .type "dict", data := .dict l.toArray (9 + s.ents.length) }

noncomputable def rE (g : Addr) (m c : Value) : FuncData := { name := "__init__", qualname := "F77Error.__init__", params := dI.params, body := .stmts dI.body, scope := dI.scope, globals := g, closure := [], defaults := .none, kwdefaults := .none, pyModule := m, code := c }
noncomputable def ob_2 (P : Params) : Obj := { cls := .none, data := .dict #[{ hash := PyData.keyHash P "type.__subclasses__.Exception.0", key := .str "type.__subclasses__.Exception.0" 214, val := .int 31 0 }, { hash := PyData.keyHash P "type.__subclasses__.Exception.n", key := .str "type.__subclasses__.Exception.n" 215, val := .int 1 0 }] 2 }
noncomputable def ob_11 (P : Params) : Obj := { cls := .type "tuple", data := .seq #[] }
noncomputable def ob_13 (P : Params) : Obj := { cls := .type "code", data := .fields #[.str "<module>" 182, .str "<module>" 183, .str "/claim/cut.py" 184, .int 1 0, .int 0 0, .int 0 0, .int 0 0, .int 0 0, .ref 11, .bool false, .int 181 0, .ref 12, .none, .none, .none, .none, .int 185 0, .int 1 0, .str "/claim/cut.py" 186] }
noncomputable def ob_14 (P : Params) : Obj := { cls := .type "frame", slots := #[some (.ref 13), some (.ref 3), some (.ref 3), none, some (.str "__main__" 164), none, some (.ref 0)] }
noncomputable def ob_15 (P : Params) : Obj := { cls := .type "tuple", data := .seq #[.type "Exception"] }
noncomputable def ob_16 (P : Params) : Obj := { cls := .type "builtin_function_or_method", data := .fields #[.builtin "type.__prepare__", .type "type"] }
noncomputable def ob_17 (P : Params) : Obj := { cls := .type "dict", data := .dict #[{ hash := PyData.keyHash P "__module__", key := .str "__module__" 196, val := .str "f77.errors" 187 }, { hash := PyData.keyHash P "__qualname__", key := .str "__qualname__" 198, val := .str "F77Error" 197 }, { hash := PyData.keyHash P "__firstlineno__", key := .str "__firstlineno__" 200, val := .int 2 199 }, { hash := PyData.keyHash P "__init__", key := .str "__init__" 208, val := .ref 28 }, { hash := PyData.keyHash P "__static_attributes__", key := .str "__static_attributes__" 210, val := .ref 29 }] 5 }
noncomputable def ob_18 (P : Params) : Obj := { cls := .type "tuple", data := .seq #[] }
noncomputable def ob_19 (P : Params) : Obj := { cls := .none, data := .fields #[.int 4 0, .int 4 0, .ref 27] }
noncomputable def ob_20 (P : Params) : Obj := { cls := .type "code", data := .fields #[.str "F77Error" 191, .str "F77Error" 192, .str "/claim/cut.py" 193, .int 2 0, .int 0 0, .int 0 0, .int 0 0, .int 0 0, .ref 18, .bool false, .int 181 0, .ref 19, .none, .none, .none, .none, .int 194 0, .int 2 0, .str "/claim/cut.py" 195] }
noncomputable def ob_21 (P : Params) : Obj := { cls := .type "frame", slots := #[some (.ref 20), some (.ref 3), some (.ref 17), none, some (.str "f77.errors" 187), none, some (.ref 0)] }
noncomputable def ob_22 (P : Params) : Obj := { cls := .type "tuple", data := .seq #[] }
noncomputable def ob_23 (P : Params) : Obj := { cls := .none, data := .fields #[] }
noncomputable def ob_24 (P : Params) : Obj := { cls := .type "tuple", data := .seq #[.str "self" 204, .str "text" 205] }
noncomputable def ob_25 (P : Params) : Obj := { cls := .type "tuple", data := .seq #[] }
noncomputable def ob_26 (P : Params) : Obj := { cls := .none, data := .func (rE 0 .none .none) }
noncomputable def ob_27 (P : Params) : Obj := { cls := .type "code", data := .fields #[.str "__init__" 201, .str "F77Error.__init__" 202, .str "/claim/cut.py" 203, .int 4 0, .int 2 0, .int 0 0, .int 0 0, .int 3 0, .ref 22, .bool true, .int 181 0, .ref 23, .none, .ref 24, .ref 25, .ref 26, .int 206 0, .int 4 0, .str "/claim/cut.py" 207] }
noncomputable def ob_28 (P : Params) : Obj := { cls := .type "function", data := .func (rE 3 (.str "f77.errors" 187) (.ref 27)) }
noncomputable def ob_29 (P : Params) : Obj := { cls := .type "tuple", data := .seq #[.str "text" 209] }
noncomputable def ob_30 (P : Params) : Obj := { cls := .type "dict", data := .dict #[{ hash := PyData.keyHash P "__module__", key := .str "__module__" 196, val := .str "f77.errors" 187 }, { hash := PyData.keyHash P "__firstlineno__", key := .str "__firstlineno__" 200, val := .int 2 199 }, { hash := PyData.keyHash P "__init__", key := .str "__init__" 208, val := .ref 28 }, { hash := PyData.keyHash P "__static_attributes__", key := .str "__static_attributes__" 210, val := .ref 29 }, { hash := PyData.keyHash P "__weakref__", key := .str "__weakref__" 212, val := .ref 32 }, { hash := PyData.keyHash P "__doc__", key := .str "__doc__" 213, val := .none }] 3 }
noncomputable def ob_31 (P : Params) : Obj := { cls := .type "type", data := .cls { name := "F77Error", bases := [.type "Exception"], mro := [.ref 31, .type "Exception", .type "BaseException", .type "object"], ns := 30, qualname := "F77Error", subclasses := [.ref 44] }, slots := #[some (.ref 15), none, some (.str "F77Error" 189), some (.str "F77Error" 197), some (.builtin "Exception.__new__"), some (.bool true)] }
noncomputable def ob_32 (P : Params) : Obj := { cls := .type "getset_descriptor", data := .fields #[.str "__weakref__" 211, .ref 31, .builtin "ExceptionGroup.__weakref__", .none] }
noncomputable def ob_33 (P : Params) : Obj := { cls := .type "super", data := .fields #[.ref 31, .ref 31, .ref 31] }
noncomputable def ob_34 (P : Params) : Obj := { cls := .type "builtin_function_or_method", data := .fields #[.builtin "object.__init_subclass__", .ref 31] }
noncomputable def ob_35 (P : Params) : Obj := { cls := .type "tuple", data := .seq #[.ref 31] }
noncomputable def ob_36 (P : Params) : Obj := { cls := .type "builtin_function_or_method", data := .fields #[.builtin "type.__prepare__", .type "type"] }
noncomputable def ob_37 (P : Params) : Obj := { cls := .type "dict", data := .dict #[{ hash := PyData.keyHash P "__module__", key := .str "__module__" 225, val := .str "f77.errors" 187 }, { hash := PyData.keyHash P "__qualname__", key := .str "__qualname__" 227, val := .str "RunFault" 226 }, { hash := PyData.keyHash P "__firstlineno__", key := .str "__firstlineno__" 229, val := .int 7 228 }, { hash := PyData.keyHash P "__static_attributes__", key := .str "__static_attributes__" 230, val := .ref 42 }] 4 }
noncomputable def ob_38 (P : Params) : Obj := { cls := .type "tuple", data := .seq #[] }
noncomputable def ob_39 (P : Params) : Obj := { cls := .none, data := .fields #[] }
noncomputable def ob_40 (P : Params) : Obj := { cls := .type "code", data := .fields #[.str "RunFault" 220, .str "RunFault" 221, .str "/claim/cut.py" 222, .int 7 0, .int 0 0, .int 0 0, .int 0 0, .int 0 0, .ref 38, .bool false, .int 181 0, .ref 39, .none, .none, .none, .none, .int 223 0, .int 7 0, .str "/claim/cut.py" 224] }
noncomputable def ob_41 (P : Params) : Obj := { cls := .type "frame", slots := #[some (.ref 40), some (.ref 3), some (.ref 37), none, some (.str "f77.errors" 187), none, some (.ref 0)] }
noncomputable def ob_42 (P : Params) : Obj := { cls := .type "tuple", data := .seq #[] }
noncomputable def ob_43 (P : Params) : Obj := { cls := .type "dict", data := .dict #[{ hash := PyData.keyHash P "__module__", key := .str "__module__" 225, val := .str "f77.errors" 187 }, { hash := PyData.keyHash P "__firstlineno__", key := .str "__firstlineno__" 229, val := .int 7 228 }, { hash := PyData.keyHash P "__static_attributes__", key := .str "__static_attributes__" 230, val := .ref 42 }, { hash := PyData.keyHash P "__doc__", key := .str "__doc__" 231, val := .none }] 2 }
noncomputable def ob_44 (P : Params) : Obj := { cls := .type "type", data := .cls { name := "RunFault", bases := [.ref 31], mro := [.ref 44, .ref 31, .type "Exception", .type "BaseException", .type "object"], ns := 43, qualname := "RunFault" }, slots := #[some (.ref 35), none, some (.str "RunFault" 218), some (.str "RunFault" 226), some (.builtin "Exception.__new__"), some (.bool true)] }
noncomputable def ob_45 (P : Params) : Obj := { cls := .type "super", data := .fields #[.ref 44, .ref 44, .ref 44] }
noncomputable def ob_46 (P : Params) : Obj := { cls := .type "builtin_function_or_method", data := .fields #[.builtin "object.__init_subclass__", .ref 44] }
noncomputable def tabOb (s : BS) : Obj := { cls := .none, data := .fields s.tab.toArray }
noncomputable def vJ (P : Params) (s : BS) : List Obj := [boot_o_0 P, boot_o_1 P, ob_2 P, od P s, boot_o_4 P, boot_o_5 P, boot_o_6 P, boot_o_7 P, boot_o_8 P, boot_o_9 P, boot_o_10 P, ob_11 P, tabOb s, ob_13 P, ob_14 P, ob_15 P, ob_16 P, ob_17 P, ob_18 P, ob_19 P, ob_20 P, ob_21 P, ob_22 P, ob_23 P, ob_24 P, ob_25 P, ob_26 P, ob_27 P, ob_28 P, ob_29 P, ob_30 P, ob_31 P, ob_32 P, ob_33 P, ob_34 P, ob_35 P, ob_36 P, ob_37 P, ob_38 P, ob_39 P, ob_40 P, ob_41 P, ob_42 P, ob_43 P, ob_44 P, ob_45 P, ob_46 P] ++ s.objs
noncomputable def j6 (s : BS) (P : Params) : Heap := ⟨⟨vJ P s⟩, {}⟩
noncomputable def pr : Program := PySem.Challenge.pw_pf0129_01
noncomputable def bs2 : BS := ⟨47, 234, .str "f77.errors" 187, [("F77Error", 217, .ref 31), ("RunFault", 233, .ref 44)], [.int 2 0, .int 0 0, .ref 20, .int 7 0, .int 0 0, .ref 40], []⟩
noncomputable def gQ (a n : Nat) : List Stmt := (pr.main.body.drop a).take n
noncomputable def oJ (s : BS) (a n : Nat) : BS := (gQ a n).foldl addSt s
end

section
set_option maxHeartbeats 8000000
noncomputable def heapA (P : Params) : Heap := ⟨⟨[boot_o_0 P, boot_o_1 P, boot_o_2 P, boot_o_3 P, boot_o_4 P, boot_o_5 P, boot_o_6 P, boot_o_7 P, boot_o_8 P, boot_o_9 P, boot_o_10 P, ob_11 P, tabOb ⟨0, 0, .none, [], [], []⟩, ob_13 P, ob_14 P]⟩, {}⟩
noncomputable def lw : Env := { scope := pr.main.scope, locals := mainNs, globals := mainNs, cells := [], code := .ref 13, frame := some 14 }
noncomputable def dJ : Code := .body (behindTheImports pr) lw
abbrev iP : Pos := ⟨0, 0, 0, 0⟩
abbrev je : Option Value := some (.ref 6)
noncomputable abbrev stA (w : World) (os : OsState) : Shared := ⟨heapA w.params, Array.mk [], boot_drawn, 187, os⟩
noncomputable abbrev g6 (s : BS) (w : World) (os : OsState) : Shared := ⟨j6 s w.params, Array.mk [], boot_drawn, s.toks, os⟩
theorem wE : behindTheImports pr = (gQ 0 3) ++ (gQ 3 9) ++ (gQ 12 9) ++ (gQ 21 9) ++ (gQ 30 9) ++ (gQ 39 9) ++ (gQ 48 9) ++ (gQ 57 9) ++ (gQ 66 9) ++ [] := by kernel_rfl
theorem pre_ok : ∀ (w : World) (os : OsState), topGo treeTable pr w 11 je 12 ⟨boot_heap w.params, Array.mk [], boot_drawn, boot_toks, os⟩ (topStub pr) = some (stA w os, ⟨denote treeTable dJ, dJ, iP, [topFrame iP]⟩) := fun w os => by kernel_rfl
theorem wF : ∀ (w : World) (os : OsState), segRun treeTable pr w 11 je 1 1 (stA w os) (blockOf (behindTheImports pr) lw dJ iP [topFrame iP]) = some (.next, stA w os, dJ, iP) := fun w os => by kernel_rfl

noncomputable def s_0 : BS := bs2
theorem run_0 : ∀ (w : World) (os : OsState), segRun treeTable pr w 11 je 1 451 (stA w os) (piecesOf (gQ 0 3) lw dJ iP [topFrame iP]) = some (.next, g6 s_0 w os, dJ, ⟨7, 0, 8, 8⟩) := fun w os => by kernel_rfl
noncomputable def s_1 : BS := oJ s_0 3 9
theorem run_1 : ∀ (w : World) (os : OsState), segRun treeTable pr w 11 je 1 240 (g6 s_0 w os) (piecesOf (gQ 3 9) lw dJ ⟨7, 0, 8, 8⟩ [topFrame iP]) = some (.next, g6 s_1 w os, dJ, ⟨55, 0, 56, 24⟩) := fun w os => by kernel_rfl
noncomputable def s_2 : BS := oJ s_1 12 9
theorem run_2 : ∀ (w : World) (os : OsState), segRun treeTable pr w 11 je 1 248 (g6 s_1 w os) (piecesOf (gQ 12 9) lw dJ ⟨55, 0, 56, 24⟩ [topFrame iP]) = some (.next, g6 s_2 w os, dJ, ⟨90, 0, 102, 73⟩) := fun w os => by kernel_rfl
noncomputable def s_3 : BS := oJ s_2 21 9
theorem run_3 : ∀ (w : World) (os : OsState), segRun treeTable pr w 11 je 1 299 (g6 s_2 w os) (piecesOf (gQ 21 9) lw dJ ⟨90, 0, 102, 73⟩ [topFrame iP]) = some (.next, g6 s_3 w os, dJ, ⟨166, 0, 168, 52⟩) := fun w os => by kernel_rfl
noncomputable def s_4 : BS := oJ s_3 30 9
theorem run_4 : ∀ (w : World) (os : OsState), segRun treeTable pr w 11 je 1 283 (g6 s_3 w os) (piecesOf (gQ 30 9) lw dJ ⟨166, 0, 168, 52⟩ [topFrame iP]) = some (.next, g6 s_4 w os, dJ, ⟨222, 0, 226, 67⟩) := fun w os => by kernel_rfl
noncomputable def s_5 : BS := oJ s_4 39 9
theorem run_5 : ∀ (w : World) (os : OsState), segRun treeTable pr w 11 je 1 254 (g6 s_4 w os) (piecesOf (gQ 39 9) lw dJ ⟨222, 0, 226, 67⟩ [topFrame iP]) = some (.next, g6 s_5 w os, dJ, ⟨271, 0, 271, 8⟩) := fun w os => by kernel_rfl
noncomputable def s_6 : BS := oJ s_5 48 9
theorem run_6 : ∀ (w : World) (os : OsState), segRun treeTable pr w 11 je 1 264 (g6 s_5 w os) (piecesOf (gQ 48 9) lw dJ ⟨271, 0, 271, 8⟩ [topFrame iP]) = some (.next, g6 s_6 w os, dJ, ⟨305, 0, 308, 95⟩) := fun w os => by kernel_rfl
noncomputable def s_7 : BS := oJ s_6 57 9
theorem run_7 : ∀ (w : World) (os : OsState), segRun treeTable pr w 11 je 1 242 (g6 s_6 w os) (piecesOf (gQ 57 9) lw dJ ⟨305, 0, 308, 95⟩ [topFrame iP]) = some (.next, g6 s_7 w os, dJ, ⟨335, 0, 336, 24⟩) := fun w os => by kernel_rfl
noncomputable def jL : BS := oJ s_7 66 9
theorem run_8 : ∀ (w : World) (os : OsState), segRun treeTable pr w 11 je 1 300 (g6 s_7 w os) (piecesOf (gQ 66 9) lw dJ ⟨335, 0, 336, 24⟩ [topFrame iP]) = some (.next, g6 jL w os, dJ, ⟨408, 0, 429, 86⟩) := fun w os => by kernel_rfl
theorem fin_ok : ∀ (w : World) (os : OsState), topRun treeTable pr w 11 je 2 (g6 jL w os) ⟨doneF .next, dJ, ⟨408, 0, 429, 86⟩, [topFrame iP]⟩ = some (g6 jL w os) := fun w os => by kernel_rfl
theorem run_all : ∀ (w : World) (os : OsState), topRun treeTable pr w 11 je (12 + (1 + (451 + (240 + (248 + (299 + (283 + (254 + (264 + (242 + (300 + 2))))))))))) ⟨boot_heap w.params, Array.mk [], boot_drawn, boot_toks, os⟩ (topStub pr) = some (g6 jL w os) := by
  intro w os
  refine go_top (pre_ok w os) ?_
  refine piece_block (wF w os) ?_
  rw [wE]
  simp only [List.append_assoc]
  refine piece_app (run_0 w os) ?_
  refine piece_app (run_1 w os) ?_
  refine piece_app (run_2 w os) ?_
  refine piece_app (run_3 w os) ?_
  refine piece_app (run_4 w os) ?_
  refine piece_app (run_5 w os) ?_
  refine piece_app (run_6 w os) ?_
  refine piece_app (run_7 w os) ?_
  refine piece_app (run_8 w os) ?_
  exact piece_nil (fin_ok w os)
end

section
set_option maxHeartbeats 8000000
noncomputable def keepK : List Nat := [1, 2, 4, 5, 6, 7, 8, 9, 10, 11, 12, 13, 15, 16, 17, 18, 19, 20, 21, 22, 23, 24, 25, 26, 27, 28, 29, 30, 31, 32, 33, 34, 35, 37, 38, 39, 40, 41, 42, 43, 44, 46, 48, 49, 50, 51, 52, 53, 54, 55, 56, 57, 58, 59, 61, 62, 63, 64, 65, 66, 67, 68, 69, 70, 71, 72, 73, 74]
noncomputable def hZ : Program := { pr with main := { pr.main with body := keepK.map (rQ pr.main.body) } }
noncomputable def hkK (P : Params) : Frag := [(3, od P jL), (27, ob_27 P), (28, ob_28 P), (30, ob_30 P), (31, ob_31 P), (43, ob_43 P), (44, ob_44 P), (47, { cls := .type "tuple", data := .seq #[.int 0 236, .int 0 237] })]
noncomputable def asK : List Addr := [3, 27, 28, 30, 31, 43, 44, 47]
noncomputable def HK : Hook := kHook hkK asK (fun _ => by kernel_rfl)
abbrev rowK : OpenRow := PySem.Challenge.rw_pf0129_01.row
noncomputable abbrev xtK : Shared -> Bool := fun s => xlAt hZ [] s && recOk (RowW.records rowK.toRowW) s
theorem open_ok : ∀ w : World, (fencedOpening treeTable pr w 5270).map (fun s => (s.heap, s.gens, s.drawn, s.toks)) = some (boot_heap w.params, Array.mk [], boot_drawn, boot_toks) :=
  boot_open (by kernel_rfl) rfl (fun s => by kernel_rfl)
theorem size_ok : ∀ w : World, ((boot_heap w.params).isNs mainGlobals && (Array.mk [] : Array GenState).size == 0, (boot_heap w.params).objs.size, (boot_heap w.params).nsMap mainGlobals "__annotations__") = (true, 11, je) := fun w => by kernel_rfl
theorem look_a : ∀ (w : World) (os : OsState), (staticsOk (importedModules pr.main.body) (boot_heap w.params) (j6 jL w.params) && namesBound pr (j6 jL w.params) && gensDone (g6 jL w os) && laidKept (boot_heap w.params) (j6 jL w.params)) = true := fun w os => by kernel_rfl
theorem look_y : ∀ (w : World) (os : OsState), Hook.obs HK (g6 jL w os) = Hook.val HK w := fun w os => by kernel_rfl
theorem look_1 : ∀ (w : World) (os : OsState), seen ((recsOf hZ).map (·.name)) (ownsOf hZ) [] { g6 jL w os with gens := #[] } = expectedOf hZ := fun w os => by kernel_rfl
theorem look_2 : ∀ (w : World), (j6 jL w.params).bltView = bltViewBooted := fun w => by kernel_rfl
theorem look_3 : ∀ (w : World) (os : OsState), ((g6 jL w os).heap.keysOk (looseW hZ []) ((recsOf hZ).map (·.name)) ((litsOf hZ).map (·.1)) ((clssOf hZ (looseW hZ [])).map (·.name)) && (g6 jL w os).heap.accountedOkI (importedModules pr.main.body) && (g6 jL w os).heap.isNs mainGlobals && (g6 jL w os).heap.isNs builtinsNs && tablesOk hZ (g6 jL w os).heap && xtK (g6 jL w os) && (if true then (g6 jL w os).gens.size == 0 else !leftWithCleanup (g6 jL w os).gens)) = true := fun w os => by kernel_rfl
theorem look_4 : ∀ (w : World) (os : OsState), (tabsOk hZ (g6 jL w os), pinSeenD hZ (drecsOf hZ) (g6 jL w os), plainSeenE hZ (looseW hZ []) (g6 jL w os), plainSeenD hZ [] (g6 jL w os), wideSeen hZ (g6 jL w os), clsSeenW hZ [] (g6 jL w os)) = (true, pinGoodD (drecsOf hZ), plainGoodE hZ (looseW hZ []), plainGoodD hZ [], wideGood hZ, clsGoodW hZ []) := fun w os => by kernel_rfl
end

section
set_option maxHeartbeats 8000000
theorem leftK : LeftO rowK.prog hZ [] xtK (Hook.obs HK) (Hook.val HK) 5270 := by
  refine LeftO.of_pieces (p := pr) (H₀ := boot_heap) (H₁ := j6 jL) (gs₀ := Array.mk []) (gs₁ := Array.mk []) (d₀ := boot_drawn) (d₁ := boot_drawn) (k₀ := boot_toks) (k₁ := jL.toks) (m₀ := 11) (ann := je) (M := (12 + (1 + (451 + (240 + (248 + (299 + (283 + (254 + (264 + (242 + (300 + 2))))))))))) ) open_ok size_ok run_all (by decide +kernel) (fun w => funext fun os => ?_)
  refine Prod.ext (look_a w os) (Prod.ext ?_ (look_y w os))
  unfold openSeen openGood
  exact Prod.ext (look_1 w os) (Prod.ext (look_2 w) (Prod.ext (look_3 w os) (look_4 w os)))
end

section
local macro_rules | `(tactic| walk_at "binds") => `(tactic| first
  | exact fun _ _ _ _ => by kernel_rfl
  | exact fun _ _ _ _ _ => by kernel_rfl
  | exact fun _ _ _ _ _ _ => by kernel_rfl
  | exact fun _ _ _ _ _ _ _ => by kernel_rfl)
local macro_rules | `(tactic| walk_at "le") => `(tactic| (first | exact gZ.refl _ | (repeat' (first | exact kh | refine fC (@rfl (Option PV) (some _)) ?_))))
local macro_rules | `(tactic| walk_at "stP") => `(tactic| first | with_reducible refine SE_if ?_ | walk_at "st")
local macro_rules | `(tactic| walk_at "stsP") => `(tactic| repeat' walk_at "stP")
local macro_rules | `(tactic| walk_at "goP") => `(tactic| (refine eX ?_; repeat' walk_at "stP"))
local macro_rules | `(tactic| walk_at "go") => `(tactic| (refine eX ?_; repeat' walk_at "st"))
local macro_rules | `(tactic| walk_at "sts") => `(tactic| repeat' walk_at "st")
local macro_rules | `(tactic| walk_at "pos") => `(tactic| first | with_reducible assumption | decide | lia -abstractProof | assumption)
local macro_rules | `(tactic| walk_at "small") => `(tactic| first | with_reducible assumption | exact rT (@rfl Bool true) | decide +kernel | assumption)
local macro_rules | `(tactic| walk_at "lit") => `(tactic| first | with_reducible assumption | exact lit_ok (@rfl Bool true))
local macro_rules | `(tactic| walk_at "st") => `(tactic| first
  | ((with_reducible refine (?_ : SE _ _ _ _ _)); first
      | ((with_reducible refine' SE_nm ?h1 ?h2 ?_); (case h1 => exact @rfl Bool true); (case h2 => exact @rfl (Option PV) (some _)))
      | with_reducible refine SE_int ?_
      | with_reducible refine SE_subc ?_
      | with_reducible refine wV ?_
      | with_reducible refine wQ ?_
      | with_reducible refine SE_neg ?_
      | with_reducible refine SE_subn ?_
      | ((with_reducible refine' SE_cmp ?_ ?h1); (case h1 => exact @rfl Bool false))
      | with_reducible refine' wS ?_ (fun h => ?_) (fun h => ?_) ?_
      | with_reducible refine SE_bool ?_
      | with_reducible refine SE_none ?_
      | with_reducible refine SE_str ?_
      | with_reducible refine' SE_andP ?_ (fun _ => ?_) ?_
      | with_reducible refine' SE_orP ?_ (fun _ => ?_) ?_
      | with_reducible refine wU ?_)
  | ((with_reducible refine' wO ?h1 ?_); (case h1 => exact @rfl Bool false))
  | with_reducible refine SEs_nil ?_
  | with_reducible refine eX ?_
  | with_reducible refine SSs_nil ?_
  | ((with_reducible refine (?_ : SS _ _ _ _ _)); first
      | ((with_reducible refine' um ?h1 ?_ ?h2); (case h1 => exact @rfl (Option NameKind) (some .local)); (case h2 => exact fun _ => @rfl (Sem Bool) (pure false)))
      | with_reducible refine wN ?_
      | with_reducible refine rI ?_
      | ((with_reducible refine' SS_aug ?h1 ?h2 ?_); (case h1 => exact @rfl (Option NameKind) (some .local)); (case h2 => exact @rfl (Option PV) (some _)))
      | ((with_reducible refine' qN ?_ ?h1 ?h2); (case h1 => exact fun _ => @rfl (Sem Bool) (pure false)); (case h2 => exact fun _ _ _ => @rfl (Sem (Option (List Str))) (pure none)))
      | ((with_reducible refine' nF ?hx ?_ ?h0 ?h1 ?h2); (case hx => rfl); (case h2 => exact fun _ _ _ => rfl); (case h0 => exact @rfl Bool true); (case h1 => exact fun _ => @rfl (Sem Bool) (pure false)))
      | ((with_reducible refine' SS_expr ?_ ?h1); (case h1 => exact fun _ => @rfl (Sem Bool) (pure false)))
      | with_reducible refine SS_try ?_)
  | ((with_reducible refine (?_ : lU _ _ _ _)); first
      | with_reducible refine add_ok ?_
      | with_reducible refine sub_ok' ?_
      | ((with_reducible refine' rt ?h1 ?_); (case h1 => walk_at "lit"))
      | ((with_reducible refine' rq ?h1 ?_); (case h1 => walk_at "lit"))
      | ((with_reducible refine' mul_ok3 ?h1 ?h2 ?_); (case h1 => walk_at "small"); (case h2 => walk_at "small"))
      | ((with_reducible refine' rt ?h1 ?_); (case h1 => first | assumption | lia -abstractProof))
      | ((with_reducible refine' rq ?h1 ?_); (case h1 => first | assumption | lia -abstractProof))
      | ((with_reducible refine' div_ok ?h1 ?h2 ?_); (case h1 => walk_at "pos"); (case h2 => walk_at "small"))
      | ((with_reducible refine' mod_ok ?h1 ?_); (case h1 => walk_at "pos"))
      | ((with_reducible refine' pow_ok ?h1 ?h2 ?h3 ?_); (case h1 => walk_at "pos"); (case h2 => walk_at "pos"); (case h3 => first | decide | assumption | lia -abstractProof)))
  | ((with_reducible refine (?_ : SB _ _ _ _ _)); first
      | ((with_reducible refine' SB_cmp ?_ ?h1); (case h1 => exact @rfl Bool false))
      | with_reducible refine SB_bool ?_
      | with_reducible refine SB_not ?_
      | with_reducible refine SB_name ?_
      | with_reducible refine SB_call ?_
      | with_reducible refine wX ?_)
  | ((with_reducible refine (?_ : iT _ _ _ _ _ _)); first
      | with_reducible refine ur ?_
      | with_reducible refine w5 ?_
      | with_reducible refine' uq ?_ (fun _ => ?_) ?_
      | with_reducible refine' wY ?_ (fun _ => ?_) ?_
      | with_reducible refine jK ?_
      | with_reducible refine ko ?_)
  | ((with_reducible refine (?_ : nI _ _ _ _)); first
      | with_reducible refine eq_ok ?_
      | with_reducible refine ne_ok ?_
      | with_reducible refine lt_ok ?_
      | with_reducible refine le_ok ?_
      | with_reducible refine gt_ok ?_
      | with_reducible refine ge_ok ?_
      | ((with_reducible refine' cmp_ok ?h1 ?_); (case h1 => rfl)))
  | ((with_reducible refine (?_ : nJ _ _ _ _ _ _)); first
      | with_reducible refine aadd_ok ?_
      | with_reducible refine asub_ok ?_
      | ((with_reducible refine' wJ ?h1 ?_); (case h1 => walk_at "lit"))
      | ((with_reducible refine' wI ?h1 ?_); (case h1 => walk_at "lit"))
      | ((with_reducible refine' wH ?h1 ?h2 ?_); (case h1 => walk_at "small"); (case h2 => walk_at "small"))
      | ((with_reducible refine' adiv_ok ?h1 ?h2 ?_); (case h1 => walk_at "pos"); (case h2 => walk_at "small"))
      | ((with_reducible refine' amod_ok ?h1 ?_); (case h1 => walk_at "pos")))
  | ((with_reducible refine' fV ?h1 ?_); (case h1 => exact @rfl (Option NameKind) (some .local)))
  | ((with_reducible refine' lJ ?h1 ?h2 ?h3 ?_); (case h1 => rfl); (case h2 => exact @rfl Bool true); (case h3 => rfl))
  | ((with_reducible refine' sub_ok ?h1 ?_ ?h2); (case h1 => exact @rfl (Option PV) (some _)); (case h2 => exact @rfl Bool true))
  | with_reducible refine tru_b ?_
  | with_reducible refine tru_i ?_
  | ((with_reducible refine' uA ?h1 ?_); (case h1 => rfl))
  | with_reducible refine neg_ok ?_
  | ((with_reducible refine' sw_ok ?_ ?h1); (case h1 => exact @rfl Bool true))
  | ((with_reducible refine' tup_ok ?_ ?h1); (case h1 => exact @rfl Bool true))
  | ((with_reducible refine' And.intro (Nat.le_of_ble_eq_true ?h1) ?_); (case h1 => exact @rfl Bool true))
  | ((with_reducible refine ⟨fun h => ?_, fun h => ?_⟩) <;> (try (replace h := of_decide_eq_true h)) <;> (try (replace h := of_decide_eq_false h)) <;> (try (cases h; done)))
  | ((with_reducible refine (?_ : ∃ i, _ = PV.int i /\ _)); (refine int_ok rfl ?_))
  | with_reducible rfl
  | fail "no step")

section
theorem ndF_eq : ∀ (f n : Nat), n <= f -> ∀ k, n <= k -> jW f n = jW k n := by
  intro f
  induction f with
  | zero => intro n hn k _; have : n = 0 := by exact wd hn
            subst this; cases k <;> simp [jW]
  | succ f ih =>
    intro n hn k hk
    cases k with
    | zero => have : n = 0 := by exact wd hk
              subst this; simp [jW]
    | succ k =>
      by_cases h : n = 0
      · subst h; simp [jW]
      · have hb : (n == 0) = false := by simpa using h
        simp only [jW, hb, cond_false]
        rw [ih (n / 10) (by exact v5 hn) k (by exact v5 hk)]
theorem k9 : g8 0 = 0 := rfl
theorem fQ {n : Nat} (h : 0 < n) : g8 n = g8 (n / 10) + 1 := by
  unfold g8
  cases n with
  | zero => exact fq840 h
  | succ n =>
    have hb : (n + 1 == 0) = false := rfl
    simp only [jW, hb, cond_false]
    rw [ndF_eq n ((n + 1) / 10) (by exact fq725) _ (Nat.le_refl _)]
theorem ro : ∀ (j n : Nat), 10 ^ j <= n -> g8 n = g8 (n / 10 ^ j) + j
  | 0, n, _ => by rw [Nat.pow_zero, Nat.div_one, Nat.add_zero]
  | j + 1, n, h => by
    have h1 : 10 ^ j <= n / 10 := (Nat.le_div_iff_mul_le (by decide)).mpr (by rw [<- Nat.pow_succ]; exact h)
    rw [fQ (Nat.lt_of_lt_of_le (Nat.pow_pos (by decide)) h), ro j (n / 10) h1, Nat.div_div_eq_div_mul, Nat.mul_comm 10, <- Nat.pow_succ, Nat.add_assoc]
theorem uT {n : Nat} (h : 1000000000 <= n) : g8 n = g8 (n / 1000000000) + 9 := ro 9 n h

theorem bH {g : G} (H : HH g) (n : Int) : Ret g 1 "count_digits" [.int n] (.int (nd n)) := by
  refine aS (d := au 5) (H.D 5 rfl) (H.ok 5 rfl) (by walk_at "binds") rfl ?_
  walk_at "go"
  refine bT ?_
  walk_at "sts"
  refine ae (dh H.B _) ?_
  walk_at "sts"
  refine jJ (ι := Nat × Nat) (fun s => [("n", .int s.1), ("count", .int s.2)]) (fun s => (g8 s.1 + s.2 : Nat) = g8 n.natAbs) (fun s => s.1) (n.natAbs, 0) (by walk_at "le") rfl ?_
  rintro ⟨a, c⟩ hi
  walk_at "sts"
  · rename_i h
    have h : (1000000000 : Int) <= a := h
    refine ⟨(a / 1000000000, c + 9), ?_, ?_, ?_⟩
    · walk_at "le"
    · have := uT (n := a) (by exact fq749 ‹_›)
      simp only at hi |-; exact fq921 hi this
    · simp only; exact fq750 ‹_›
  · refine jJ (ι := Nat × Nat) (fun s => [("n", .int s.1), ("count", .int s.2)]) (fun s => (g8 s.1 + s.2 : Nat) = g8 n.natAbs) (fun s => s.1) (a, c) (by walk_at "le") hi ?_
    rintro ⟨a, c⟩ hi
    walk_at "sts"
    · rename_i h
      have h : (0 : Int) < a := h
      refine ⟨(a / 10, c + 1), ?_, ?_, ?_⟩
      · walk_at "le"
      · have := fQ (n := a) (by exact fq251 ‹_›)
        simp only at hi |-; exact fq920 hi this
      · simp only; exact fq731 ‹_›
    · rename_i h
      have h : ¬ (0 : Int) < a := h
      have : a = 0 := by exact fq824 ‹_›
      subst this
      simp only [k9] at hi
      show PV.int _ = PV.int _
      unfold nd; rw [<- hi]; simp
end

section
theorem l8 {g : G} (H : HH g) (m e : Int) : Ret g 1 "strip_zeros" [.int m, .int e] (re (cA m e)) := by
  refine aS (d := au 6) (H.D 6 rfl) (H.ok 6 rfl) (by walk_at "binds") rfl ?_
  walk_at "go"
  · rename_i h
    refine ca (HH.cN ‹_›) ?_
    show re (0, 0) = re (cA m e)
    have h : m = 0 := h
    simp [cA, h]
  · rename_i h
    have h : ¬ m = 0 := h
    refine gU (σ := Re) (fun s => [("m", .int s.1), ("e", .int s.2)]) (fun s => decide (s.1 % 10 = 0)) (fun s => (s.1 / 10, s.2 + 1)) (fun s => s.1 ≠ 0) (fun s => s.1.natAbs) m.natAbs (m, e) (by walk_at "le") h (Nat.le_refl _) ?_ ?_ ?_
    · rintro ⟨a, b⟩ h1 h2
      simp only [decide_eq_true_eq] at h2 h1 |-
      exact fq444 h2 h1
    · rintro ⟨a, b⟩ h1
      walk_at "sts"
      refine ⟨rfl, fun h2 => ?_⟩
      walk_at "go"
      walk_at "le"
    · walk_at "sts"
      show re _ = re _
      simp [cA, h]

theorem jS {g : G} (H : HH g) (m e d : Int) (hd : nd m - d < 2300) : Ret g 2 "round_digits" [.int m, .int e, .int d] (re (ai m e d)) := by
  refine aS (d := au 7) (H.D 7 rfl) (H.ok 7 rfl) (by walk_at "binds") rfl ?_
  walk_at "go"
  refine am 5 ?_
  walk_at "sts"
  refine ⟨_, _, ?_, bH H _, ?_⟩
  · decide
  walk_at "sts"
  · rename_i h
    have h : 0 < nd m - d := h
    have hs : ar (10 ^ (nd m - d).toNat) := cB (by exact fq85 hd)
    have hr : ar ((m.natAbs : Int) % 10 ^ (nd m - d).toNat) := by
      have hp : (0 : Int) < 10 ^ (nd m - d).toNat := Int.pow_pos (by decide)
      have h1 := Int.emod_nonneg (m.natAbs : Int) (Int.ne_of_gt hp)
      have h2 := Int.emod_lt_of_pos (m.natAbs : Int) hp
      exact cY (by exact vN h1 h2) hs
    refine bT ?_
    walk_at "sts"
    refine bT ?_
    walk_at "sts"
    refine ae (dh H.B _) ?_
    walk_at "sts"
    refine ae (kV H.B _ _ (Int.pow_pos (by decide)) hs) ?_
    walk_at "sts"
    all_goals rename_i hc
    all_goals (refine am 6 ?_; walk_at "sts"; refine ae (l8 H _ _) ?_; walk_at "sts")
    all_goals (show re _ = re _; unfold ai; simp only [decide_eq_true h, cond_true, hc, cond_false])
  · rename_i h
    have h : ¬ 0 < nd m - d := h
    refine am 6 ?_
    walk_at "sts"
    refine ae (l8 H _ _) ?_
    walk_at "sts"
    show re _ = re _
    unfold ai
    simp only [decide_eq_false h, cond_false]

theorem a9 {g : G} (H : HH g) (m e d top : Int) (hd : nd m - d < 2300) (ht : (ai m e d).2 + nd (ai m e d).1 - 1 <= top) : Ret g 3 "round_real" [.int m, .int e, .int d, .int top] (re (af m e d top)) := by
  refine aS (d := au 8) (H.D 8 rfl) (H.ok 8 rfl) (by walk_at "binds") rfl ?_
  walk_at "go"
  refine am 7 ?_; walk_at "sts"; refine ae (jS H _ _ _ hd) ?_; walk_at "sts"
  refine am 5 ?_; walk_at "sts"; refine ae (bH H _) ?_; walk_at "sts"
  · rename_i h
    refine ca (HH.cN ‹_›) ?_
    show re _ = re _
    unfold af; simp only [h, cond_true]
  · rename_i h h2
    have h2 : top < (ai m e d).2 + nd (ai m e d).1 - 1 := h2
    lia -abstractProof
  · rename_i h h2
    show re _ = re _
    unfold af; simp only [h, cond_false]

theorem small_mul10 {a : Int} {n : Nat} : True := trivial

theorem iV {g : G} (H : HH g) (x y : Re) (hx : ar x.1) (hy : ar y.1) (h1 : x.2 - y.2 < 2300) (h2 : y.2 - x.2 < 2300) : Ret g 1 "exact_add" [re x, re y] (re (bE x y)) := by
  refine aS (d := au 9) (H.D 9 rfl) (H.ok 9 rfl) (by walk_at "binds") rfl ?_
  have p1 : 0 <= x.2 - min x.2 y.2 := by exact fq93
  have p2 : 0 <= y.2 - min x.2 y.2 := by exact fq94
  have q1 : x.2 - min x.2 y.2 <= 100000 := by exact fq209 h1
  have q2 : y.2 - min x.2 y.2 <= 100000 := by exact fq210 h2
  have s1 : ar (10 ^ (x.2 - min x.2 y.2).toNat) := cB (by exact fq207 h1)
  have s2 : ar (10 ^ (y.2 - min x.2 y.2).toNat) := cB (by exact fq208 h2)
  walk_at "go"
  · rename_i h
    show re _ = re _
    have h : x.1 = 0 := h
    unfold bE; simp only [decide_eq_true h, cond_true]
  · rename_i h h'
    show re _ = re _
    have h : ¬ x.1 = 0 := h
    have h' : y.1 = 0 := h'
    unfold bE; simp only [decide_eq_false h, cond_false, decide_eq_true h', cond_true]
  · rename_i h h'
    have h : ¬ x.1 = 0 := h
    have h' : ¬ y.1 = 0 := h'
    refine bT ?_; walk_at "sts"; refine ae (mO H.B _ _) ?_; walk_at "sts"
    show PV.tup _ = _
    unfold bE; simp only [decide_eq_false h, cond_false, decide_eq_false h']

theorem cK {g : G} (H : HH g) (x y : Re) (hx : ar x.1) (hy : ar y.1) : Ret g 1 "exact_mul" [re x, re y] (re (ao x y)) := by
  refine aS (d := au 10) (H.D 10 rfl) (H.ok 10 rfl) (by walk_at "binds") rfl ?_
  walk_at "go"
  rfl
theorem gG {g : G} (H : HH g) (x : Re) : Ret g 1 "real_neg" [re x] (re (cZ x)) := by
  refine aS (d := au 11) (H.D 11 rfl) (H.ok 11 rfl) (by walk_at "binds") rfl ?_
  walk_at "go"
  rfl
end

section
theorem mL {g : G} (H : HH g) (a b e d : Int) (h0 : b ≠ 0) (ha : ar a) (hb : ar b) (hs : d + 2 + nd b - nd a < 2300)
    (hk : ar ((a.natAbs : Int) * 10 ^ (max (d + 2 + nd b - nd a) 0).toNat)) : Ret g 2 "quotient" [.int a, .int b, .int e, .int d] (re (aO a b e d)) := by
  refine aS (d := au 12) (H.D 12 rfl) (H.ok 12 rfl) (by walk_at "binds") rfl ?_
  walk_at "go"
  refine bT ?_; walk_at "sts"
  refine am 5 ?_; walk_at "sts"; refine ae (bH H _) ?_; walk_at "sts"
  refine am 5 ?_; walk_at "sts"; refine ae (bH H _) ?_; walk_at "sts"
  refine ae (dM H.B _ _) ?_
  have p1 : 0 <= max (d + 2 + nd b - nd a) 0 := by exact fq393
  have p2 : max (d + 2 + nd b - nd a) 0 <= 100000 := by exact fq455 hs
  have p3 : ar (10 ^ (max (d + 2 + nd b - nd a) 0).toNat) := cB (by exact fq454 hs)
  have p4 : ar (a.natAbs : Int) := by unfold ar at *; simpa using ha
  have p5 : ar (b.natAbs : Int) := by unfold ar at *; simpa using hb
  have p6 : (0 : Int) < b.natAbs := by exact fq60 h0
  have p7 : ar ((a.natAbs : Int) * 10 ^ (max (d + 2 + nd b - nd a) 0).toNat / (b.natAbs : Int)) := by
    refine cY ?_ hk
    have hp : (0 : Int) <= (a.natAbs : Int) * 10 ^ (max (d + 2 + nd b - nd a) 0).toNat := Int.mul_nonneg (by exact fX) (Int.le_of_lt (Int.pow_pos (by decide)))
    generalize (a.natAbs : Int) * 10 ^ (max (d + 2 + nd b - nd a) 0).toNat = X at hp
    have h1 := Int.ediv_nonneg hp (Int.le_of_lt p6)
    have h2 := Int.ediv_le_self (b.natAbs : Int) hp
    exact nj h1 h2
  walk_at "sts"
  refine bT ?_; walk_at "sts"
  refine bT ?_; walk_at "sts"; refine ae (dh H.B _) ?_; walk_at "sts"
  refine bT ?_; walk_at "sts"; refine ae (dh H.B _) ?_; walk_at "sts"
  refine ae (kV H.B _ _ p6 p5) ?_; walk_at "sts"
  · rename_i h
    show PV.tup _ = _
    unfold aO; simp only [h, cond_true]
  · rename_i h
    show PV.tup _ = _
    unfold aO; simp only [h, cond_false]

theorem mK {g : G} (H : HH g) (x y : Re) (d top : Int) (h0 : y.1 ≠ 0) (ha : ar x.1) (hb : ar y.1) (hs : d + 2 + nd y.1 - nd x.1 < 2300)
    (hk : ar ((x.1.natAbs : Int) * 10 ^ (max (d + 2 + nd y.1 - nd x.1) 0).toNat)) (hd : nd (aO x.1 y.1 (x.2 - y.2) d).1 - d < 2300)
    (ht : (ai (aO x.1 y.1 (x.2 - y.2) d).1 (aO x.1 y.1 (x.2 - y.2) d).2 d).2 + nd (ai (aO x.1 y.1 (x.2 - y.2) d).1 (aO x.1 y.1 (x.2 - y.2) d).2 d).1 - 1 <= top) :
    Ret g 4 "real_div" [re x, re y, .int d, .int top] (re (cv x y d top)) := by
  refine aS (d := au 13) (H.D 13 rfl) (H.ok 13 rfl) (by walk_at "binds") rfl ?_
  walk_at "go"
  · rename_i h
    exact absurd h h0
  · refine am 12 ?_; walk_at "sts"; refine ae (mL H _ _ _ _ h0 ha hb hs hk) ?_; walk_at "sts"
    refine am 8 ?_; walk_at "sts"; refine ae (a9 H _ _ _ _ hd ht) ?_; walk_at "sts"
    rfl

theorem dl {g : G} (H : HH g) (x : Re) : Ret g 2 "lead_of" [re x] (.int (ak x)) := by
  refine aS (d := au 16) (H.D 16 rfl) (H.ok 16 rfl) (by walk_at "binds") rfl ?_
  walk_at "go"
  refine am 5 ?_; walk_at "sts"; refine ae (bH H _) ?_; walk_at "sts"
  rfl

theorem ft {g : G} (H : HH g) (x : Re) (d : Int) : Ret g 3 "places_for" [re x, .int d] (.int (ac x d)) := by
  refine aS (d := au 17) (H.D 17 rfl) (H.ok 17 rfl) (by walk_at "binds") rfl ?_
  walk_at "go"
  refine bT ?_; walk_at "sts"
  refine am 5 ?_; walk_at "sts"; refine ae (bH H _) ?_; walk_at "sts"
  refine ae (dM H.B _ _) ?_; walk_at "sts"
  refine ca (HH.cS ‹_›) ?_; walk_at "sts"
  refine bT ?_; walk_at "sts"
  refine am 16 ?_; walk_at "sts"; refine ae (dl H _) ?_; walk_at "sts"
  refine ae (dM H.B _ _) ?_; walk_at "sts"
  rfl

theorem l9 {g : G} (H : HH g) (x : Re) (p : Int) (hx : ar x.1) (h1 : x.2 + p < 2300) (h2 : -(x.2 + p) < 2300) : Ret g 1 "fixed" [re x, .int p] (.int (cr x p)) := by
  refine aS (d := au 18) (H.D 18 rfl) (H.ok 18 rfl) (by walk_at "binds") rfl ?_
  walk_at "go"
  · rename_i h
    have h : 0 <= x.2 + p := h
    have p2 : x.2 + p <= 100000 := by exact fq155 h1
    have p3 : ar (10 ^ (x.2 + p).toNat) := cB (by exact fq85 h1)
    walk_at "sts"
    show PV.int _ = _
    unfold cr; simp only [decide_eq_true h, cond_true]
  · rename_i h
    have h : ¬ 0 <= x.2 + p := h
    have q1 : 0 <= -(x.2 + p) := by exact fq492 ‹_›
    have q2 : -(x.2 + p) <= 100000 := by exact fq155 h2
    have p3 : ar (10 ^ (-(x.2 + p)).toNat) := cB (by exact fq85 h2)
    have p4 : (0 : Int) < 10 ^ (-(x.2 + p)).toNat := Int.pow_pos (by decide)
    refine bT ?_; walk_at "sts"; refine ae (dh H.B _) ?_; walk_at "sts"
    show PV.int _ = _
    unfold cr; simp only [decide_eq_false h, cond_false]
end

section
theorem l4 (a : Int) : 0 <= a * a := by
  rcases Int.le_total 0 a with h | h
  · exact Int.mul_nonneg h h
  · have := Int.mul_nonneg (show 0 <= -a by exact fq59 h) (show 0 <= -a by exact fq59 h)
    rwa [Int.neg_mul_neg] at this

theorem mV (n : Nat) : n < 10 ^ g8 n := by
  induction n using Nat.strongRecOn with
  | _ n ih =>
    by_cases h : n = 0
    · subst h; decide
    · rw [fQ (by exact fq71 h), Nat.pow_succ]
      have := ih (n / 10) (by exact fq827 h)
      exact fq862 this
theorem uU {n : Nat} (h : 0 < n) : 10 ^ (g8 n - 1) <= n := by
  induction n using Nat.strongRecOn with
  | _ n ih =>
    rw [fQ h, Nat.add_sub_cancel]
    by_cases h2 : n / 10 = 0
    · rw [h2, k9]; exact fq733 h
    · have h3 := ih (n / 10) (by exact fq737 h) (by exact fq71 h2)
      have h4 : g8 (n / 10) = g8 (n / 10) - 1 + 1 := by
        have := fQ (n := n / 10) (by exact fq71 h2); exact fq878 this
      rw [h4, Nat.pow_succ]; exact fq888 h3
theorem sj {n k : Nat} (h : n < 10 ^ k) : g8 n <= k := by
  by_cases h0 : n = 0
  · subst h0; simp [k9]
  · have h1 := uU (n := n) (by exact fq71 h0)
    have h2 : 10 ^ (g8 n - 1) < 10 ^ k := Nat.lt_of_le_of_lt h1 h
    have := (Nat.pow_lt_pow_iff_right (by decide)).mp h2
    exact fq859 this

theorem lj {n r : Nat} (h1 : r * r <= n) (h2 : n < (r + 1) * (r + 1)) : cW n = r := by
  have a := iJ n
  have b := iI n
  rcases Nat.lt_trichotomy (cW n) r with h | h | h
  · have := Nat.mul_le_mul (show cW n + 1 <= r from h) (show cW n + 1 <= r from h); exact fq73 b this h1
  · exact h
  · have := Nat.mul_le_mul (show r + 1 <= cW n from h) (show r + 1 <= cW n from h); exact fq73 h2 this a

/-- one step of Newton's lies not below the root -/
theorem mh {n h : Nat} (hh : 0 < h) : n < ((h + n / h) / 2 + 1) * ((h + n / h) / 2 + 1) := by
  have h1 : n < (n / h + 1) * h := by
    have := Nat.div_add_mod n h
    have := Nat.mod_lt n hh
    rw [Nat.add_mul, Nat.mul_comm]; exact fq922 ‹_› this
  generalize n / h = q at h1
  have h2 : h + q + 1 <= 2 * ((h + q) / 2 + 1) := by exact fq775
  generalize (h + q) / 2 + 1 = b at h2
  have h3 := Nat.mul_le_mul h2 h2
  have h4 : 4 * ((q + 1) * h) <= (h + q + 1) * (h + q + 1) := by
    have key : ∀ a b : Int, 4 * (a * b) <= (a + b) * (a + b) := fun a b => by
      have := l4 (a - b)
      have e : (a + b) * (a + b) - 4 * (a * b) = (a - b) * (a - b) := by grind -abstractProof
      lia -abstractProof
    have := key (q + 1) h
    have e2 : ((h : Int) + q + 1) * (h + q + 1) = (q + 1 + h) * (q + 1 + h) := by grind -abstractProof
    have : (4 * (((q : Int) + 1) * h)) <= (h + q + 1) * (h + q + 1) := by lia -abstractProof
    exact_mod_cast this
  have h5 : 2 * b * (2 * b) = 4 * (b * b) := by grind -abstractProof
  lia -abstractProof

theorem d8 {g : G} (H : HH g) (n : Int) (h0 : 0 <= n) (hn : nd n < 2300) : Ret g 2 "whole_root" [.int n] (.int (b7 n)) := by
  obtain ⟨N, rfl⟩ : ∃ N : Nat, n = N := ⟨n.toNat, by exact fq77 h0⟩
  have hnd : nd (N : Int) = g8 N := by unfold nd; simp
  rw [hnd] at hn
  refine aS (d := au 19) (H.D 19 rfl) (H.ok 19 rfl) (by walk_at "binds") rfl ?_
  have e1 : (0 : Int) <= (nd (N : Int) + 1) / 2 := by exact fq323 hnd
  have e2 : (nd (N : Int) + 1) / 2 <= 100000 := by exact fq588 hn hnd
  walk_at "go"
  · rename_i h
    have h : (N : Int) = 0 := h
    show PV.int _ = PV.int _
    have : N = 0 := by exact fq728 ‹_›
    subst this
    unfold b7
    rw [show ((0 : Nat) : Int).toNat = 0 from rfl, lj (n := 0) (r := 0) (by decide) (by decide)]
    rfl
  · rename_i h
    have h : ¬ (N : Int) = 0 := h
    refine am 5 ?_; walk_at "sts"; refine ae (bH H _) ?_; walk_at "sts"
    refine jJ (ι := Nat) (fun s => [("n", .int N), ("here", .int s)]) (fun s => 0 < s /\ N < (s + 1) * (s + 1) /\ s <= 10 ^ ((g8 N + 1) / 2)) (fun s => s) (10 ^ ((g8 N + 1) / 2)) ?_ ?_ ?_
    · refine fC rfl (fC ?_ kh)
      show some (PV.int _) = some (PV.int _)
      rw [hnd]
      have : ((g8 N : Int) + 1) / 2 = (((g8 N + 1) / 2 : Nat) : Int) := by exact fq717
      rw [this, Int.toNat_natCast]
      simp
    · refine ⟨Nat.pow_pos (by decide), ?_, Nat.le_refl _⟩
      have h1 := mV N
      have h2 : 10 ^ g8 N <= 10 ^ ((g8 N + 1) / 2) * 10 ^ ((g8 N + 1) / 2) := by
        rw [<- Nat.pow_add]; exact Nat.pow_le_pow_right (by decide) (by exact fq802)
      generalize 10 ^ ((g8 N + 1) / 2) = t at h2
      have : (t + 1) * (t + 1) = t * t + 2 * t + 1 := by grind -abstractProof
      lia -abstractProof
    · intro s ⟨hs0, hs1, hs2⟩
      have sm : ar (s : Int) := by
        refine kQ ((g8 N + 1) / 2 + 1) ?_ (by exact fq727 hn)
        have : 10 ^ ((g8 N + 1) / 2) < 10 ^ ((g8 N + 1) / 2 + 1) := Nat.pow_lt_pow_right (by decide) (Nat.lt_succ_self _)
        show ((s : Int).natAbs) < _
        lia -abstractProof
      have p0 : (0 : Int) < s := by exact iQ hs0
      walk_at "sts"
      · rename_i h3
        have h3 : (s : Int) <= ((s : Int) + (N : Int) / (s : Int)) / 2 := h3
        show PV.int _ = PV.int _
        unfold b7
        have h4 : s <= N / s := by
          have : (s : Int) <= ((N / s : Nat) : Int) := by
            have e : ((N / s : Nat) : Int) = (N : Int) / (s : Int) := by simp
            lia -abstractProof
          exact_mod_cast this
        have h5 : s * s <= N := by
          have := Nat.mul_le_mul_right s h4
          have := Nat.div_mul_le_self N s
          exact fq912 ‹_› this
        rw [Int.toNat_natCast, lj h5 hs1]
      · rename_i h3
        have h3 : ¬ (s : Int) <= ((s : Int) + (N : Int) / (s : Int)) / 2 := h3
        have e : ((s : Int) + (N : Int) / (s : Int)) / 2 = (((s + N / s) / 2 : Nat) : Int) := by simp
        refine ⟨(s + N / s) / 2, ?_, ⟨?_, mh hs0, ?_⟩, ?_⟩
        · refine fC rfl (fC ?_ kh)
          show some (PV.int _) = some (PV.int _)
          rw [e]
        · by_cases h6 : (s + N / s) / 2 = 0
          · have := mh (n := N) hs0
            rw [h6] at this
            have : N < 1 := by simpa using this
            lia -abstractProof
          · exact Nat.pos_of_ne_zero h6
        · rw [e] at h3; lia -abstractProof
        · rw [e] at h3; lia -abstractProof

theorem mi (n : Int) : 0 <= nd n := by unfold nd; exact fX

theorem mI {x : Re} {d : Int} (h : 0 <= x.1) : 0 <= gh x d := Int.mul_nonneg h (Int.le_of_lt (Int.pow_pos (by decide)))
theorem vD {n : Int} (h : 0 <= n) : b7 n * b7 n <= n := by
  obtain ⟨N, rfl⟩ : ∃ N : Nat, n = N := ⟨n.toNat, by exact fq77 h⟩
  unfold b7; rw [Int.toNat_natCast]; exact_mod_cast iJ N
theorem lk (n : Int) : 0 <= b7 n := by unfold b7; exact fX
theorem ot {n : Int} (h : 0 <= n) : b7 n <= n := by
  have h1 := vD h
  have h2 := lk n
  generalize b7 n = r at *
  by_cases h3 : r = 0
  · exact fq566 h h3
  · have := Int.mul_le_mul_of_nonneg_left (show 1 <= r by exact fq410 h2 h3) h2
    exact fq651 this h1

theorem lM {g : G} (H : HH g) (x : Re) (d top : Int) (h0 : 0 <= x.1) (hx : ar x.1) (hd : 0 <= d /\ d <= 100)
    (hsq : ar (gh x d)) (hq : nd (gh x d) < 2300) (hr : x.1 ≠ 0 -> nd (fJ x d) - d < 2300) (ht : x.1 ≠ 0 -> (ai (fJ x d) (gE x d) d).2 + nd (ai (fJ x d) (gE x d) d).1 - 1 <= top) :
    Ret g 4 "sqrt_real" [re x, .int d, .int top] (re (bv x d top)) := by
  refine aS (d := au 20) (H.D 20 rfl) (H.ok 20 rfl) (by walk_at "binds") rfl ?_
  have nn := mi x.1
  have s1 : ar (b7 (gh x d)) := cY (by have := ot (mI (d := d) h0); have := lk (gh x d); exact nj this ‹_›) hsq
  walk_at "go"
  · rename_i h
    have h : x.1 < 0 := h
    lia -abstractProof
  · rename_i h1 h
    have h : x.1 = 0 := h
    show PV.tup _ = _
    unfold bv; simp only [decide_eq_true h, cond_true]
  · rename_i h1 h
    have h : ¬ x.1 = 0 := h
    refine bT ?_; walk_at "sts"
    refine am 5 ?_; walk_at "sts"; refine ae (bH H _) ?_; walk_at "sts"
    refine ae (dM H.B _ _) ?_
    have p1 : 0 <= max 0 (2 * d + 2 - nd x.1) := by exact vT
    have p2 : max 0 (2 * d + 2 - nd x.1) <= 100000 := by exact fq571 nn hd.2
    have p3 : ar (10 ^ (max 0 (2 * d + 2 - nd x.1)).toNat) := cB (by exact fq569 nn hd.2)
    have p4 : 0 <= max 0 (2 * d + 2 - nd x.1) + 1 := by exact fq392
    have p5 : max 0 (2 * d + 2 - nd x.1) + 1 <= 100000 := by exact fq570 nn hd.2
    have p6 : ar (10 ^ (max 0 (2 * d + 2 - nd x.1) + 1).toNat) := cB (by exact fq568 nn hd.2)
    walk_at "sts"
    all_goals rename_i hc
    · have e1 : dc x d = max 0 (2 * d + 2 - nd x.1) + 1 := by unfold dc; rw [decide_eq_true hc]; rfl
      have e2 : x.1 * 10 ^ (max 0 (2 * d + 2 - nd x.1) + 1).toNat = gh x d := by unfold gh; rw [e1]
      rw [e2]
      refine am 19 ?_; walk_at "sts"; refine ae (d8 H _ (mI h0) hq) ?_; walk_at "sts"
      refine am 8 ?_; walk_at "sts"; refine ⟨3, re (af (fJ x d) (gE x d) d top), by decide, ?_, ?_⟩
      · have := a9 H (fJ x d) (gE x d) d top (hr h) (ht h)
        unfold fJ gE at this |-
        rw [e1] at this |-
        exact this
      · walk_at "sts"
        unfold bv; simp only [decide_eq_false h, cond_false]
    · have e1 : dc x d = max 0 (2 * d + 2 - nd x.1) := by unfold dc; rw [decide_eq_false hc]; rfl
      have e2 : x.1 * 10 ^ (max 0 (2 * d + 2 - nd x.1)).toNat = gh x d := by unfold gh; rw [e1]
      rw [e2]
      refine am 19 ?_; walk_at "sts"; refine ae (d8 H _ (mI h0) hq) ?_; walk_at "sts"
      refine am 8 ?_; walk_at "sts"; refine ⟨3, re (af (fJ x d) (gE x d) d top), by decide, ?_, ?_⟩
      · have := a9 H (fJ x d) (gE x d) d top (hr h) (ht h)
        unfold fJ gE at this |-
        rw [e1] at this |-
        exact this
      · walk_at "sts"
        unfold bv; simp only [decide_eq_false h, cond_false]
end

section
noncomputable def aC (a : Int) (n : Nat) : Prop := a.natAbs < 10 ^ n
theorem aC.mono {a : Int} {n m : Nat} (h : aC a n) (hm : n <= m) : aC a m := Nat.lt_of_lt_of_le h (Nat.pow_le_pow_right (by decide) hm)
theorem aC.add {a b : Int} {n : Nat} (h1 : aC a n) (h2 : aC b n) : aC (a + b) (n + 1) := by
  unfold aC at *
  rw [Nat.pow_succ]; exact fq499 h1 h2
theorem aC.sub {a b : Int} {n : Nat} (h1 : aC a n) (h2 : aC b n) : aC (a - b) (n + 1) := by
  unfold aC at *
  rw [Nat.pow_succ]; exact fq500 h1 h2
theorem aC.neg {a : Int} {n : Nat} (h1 : aC a n) : aC (-a) n := by
  unfold aC at *
  exact fq308 h1
theorem aC.mul {a b : Int} {n m : Nat} (h1 : aC a n) (h2 : aC b m) : aC (a * b) (n + m) := by
  unfold aC at *
  rw [Int.natAbs_mul, Nat.pow_add]
  exact Nat.mul_lt_mul_of_le_of_lt (Nat.le_of_lt h1) h2 (Nat.lt_of_le_of_lt (Nat.zero_le _) h1)
theorem aC.ediv {a b : Int} {n : Nat} (h1 : aC a n) : aC (a / b) n := Nat.lt_of_le_of_lt (Int.natAbs_ediv_le_natAbs a b) h1
theorem aC.pow (k : Nat) : aC (10 ^ k) (k + 1) := by
  unfold aC
  rw [Int.natAbs_pow]
  exact Nat.pow_lt_pow_right (by decide) (Nat.lt_succ_self k)
theorem aC.small {a : Int} {n : Nat} (h : aC a n) (hn : n <= 2300) : ar a := kQ n h hn
theorem aC.le {a b : Int} {n : Nat} (h : a.natAbs <= b.natAbs) (hb : aC b n) : aC a n := Nat.lt_of_le_of_lt h hb
theorem aC.natAbs {a : Int} {n : Nat} (h : aC a n) : aC (a.natAbs : Int) n := by unfold aC at *; simpa using h
theorem fP {a : Int} {n : Nat} (h : aC a n) : nd a <= n := by unfold nd; have := sj h; exact v4 this
theorem aC.nd (a : Int) : aC a (nd a).toNat := by unfold aC Mine.nd; simpa using mV a.natAbs
theorem ol {a : Int} {n : Nat} (h : aC a n) (hn : n <= 2900) : a.natAbs <= FU := by
  unfold aC FU at *
  exact Nat.le_trans (Nat.le_of_lt h) (Nat.pow_le_pow_right (by decide) (by exact fq807 hn))

theorem cn {g : G} (H : HH g) (v p t : Int) (hv : 2 <= v /\ v <= 1000) (hp : 0 <= p /\ p <= 2000) (ht : t = 1 \/ t = -1) :
    Ret g 1 "inverse_series" [.int v, .int p, .int t] (.int (df v p t)) := by
  refine aS (d := au 21) (H.D 21 rfl) (H.ok 21 rfl) (by walk_at "binds") rfl ?_
  have p1 : 0 <= p := hp.1
  have p2 : p <= 100000 := by exact fq474 hp.2
  have p3 : 0 < v := by exact fq430 hv.1
  have p4 : ar v := kQ 4 (by exact fq83 hv.1 hv.2) (by decide)
  have hX : (0 : Int) <= 10 ^ p.toNat / v := Int.ediv_nonneg (Int.le_of_lt (Int.pow_pos (by decide))) (by exact tj hv.1)
  have hT : aC (10 ^ p.toNat / v) (p.toNat + 1) := (aC.pow _).ediv
  have hvv : 4 <= v * v := by
    have := Int.mul_le_mul hv.1 hv.1 (by decide) (by exact tj hv.1)
    exact fq373 this
  have hvs : ar (v * v) := (aC.mul (n := 4) (m := 4) (by unfold aC; exact fq83 hv.1 hv.2) (by unfold aC; exact fq83 hv.1 hv.2)).small (by decide)
  walk_at "go"
  refine gU (σ := S4) (fun s => [("divisor", .int v), ("turn", .int t), ("term", .int s.a), ("total", .int s.b), ("sign", .int s.c), ("n", .int s.d)])
    (fun s => decide (0 < s.a)) (fun s => ⟨s.a / (v * v), s.b + s.c * (s.a / s.d), s.c * t, s.d + 2⟩)
    (fun s => 0 <= s.a /\ (s.c = 1 \/ s.c = -1) /\ 1 <= s.d /\ s.d + 2 * s.a <= 1 + 2 * (10 ^ p.toNat / v)) (fun s => s.a.toNat) FU ⟨10 ^ p.toNat / v, 0, 1, 1⟩ (by walk_at "le") ⟨hX, .inl rfl, Int.le_refl 1, Int.le_refl _⟩ ?_ ?_ ?_ ?_
  · have := ol hT (by exact fq472 hp.2)
    show (10 ^ p.toNat / v).toNat <= FU
    exact fq50 this
  · rintro ⟨a, b, c, d⟩ ⟨h1, h2, h3, h4⟩ hc
    simp only [decide_eq_true_eq] at hc h1 h2 h3 h4 |-
    have h5 : 0 <= a / (v * v) := Int.ediv_nonneg h1 (by exact jD hvv)
    have h6 : a / (v * v) < a := Int.ediv_lt_self_of_pos_of_ne_one hc (by exact fq442 hvv)
    refine ⟨⟨h5, ?_, by exact fq421 h3, by exact fq683 h4 h6⟩, by exact fq560 hc h6⟩
    rcases h2 with rfl | rfl <;> rcases ht with rfl | rfl <;> simp
  · rintro ⟨a, b, c, d⟩ ⟨h1, h2, h3, h4⟩
    simp only at h1 h2 h3 h4
    walk_at "sts"
    refine ⟨rfl, fun hc => ?_⟩
    have hc : 0 < a := by simpa using hc
    have q1 : 0 < d := by exact ky h3
    have q2 : ar d := by
      have : aC (1 + 2 * (10 ^ p.toNat / v)) (p.toNat + 3) := by
        have := aC.add (n := p.toNat + 2) (a := 1) (b := 2 * (10 ^ p.toNat / v)) ?_ ?_
        · exact this
        · have := aC.mono (a := 1) (n := 1) (m := p.toNat + 2) (by unfold aC; decide) (by exact fq68); exact this
        · have := aC.mul (a := 2) (n := 1) (by unfold aC; decide) hT
          exact this.mono (by exact ni)
      exact (aC.le (by lia -abstractProof) this).small (by exact fq473 hp.2)
    have q3 : c.natAbs < 1152921504606846976 := by exact fq74 h2
    have q4 : v.natAbs < 1152921504606846976 := by exact fq432 hv.1 hv.2
    have q5 : 0 < v * v := by exact fq438 hvv
    walk_at "go"
    walk_at "le"
  · walk_at "sts"
    rfl

theorem ie {g : G} (H : HH g) (p : Int) (hp : 0 <= p /\ p <= 1000) : Ret g 2 "log_of_ten" [.int p] (.int (aY p)) := by
  refine aS (d := au 22) (H.D 22 rfl) (H.ok 22 rfl) (by walk_at "binds") rfl ?_
  walk_at "go"
  refine am 21 ?_; walk_at "sts"; refine ae (cn H _ _ _ (by decide) (by exact tv hp.1 hp.2) (by decide)) ?_; walk_at "sts"
  refine am 21 ?_; walk_at "sts"; refine ae (cn H _ _ _ (by decide) (by exact tv hp.1 hp.2) (by decide)) ?_; walk_at "sts"
  refine am 21 ?_; walk_at "sts"; refine ae (cn H _ _ _ (by decide) (by exact tv hp.1 hp.2) (by decide)) ?_; walk_at "sts"
  rfl

theorem eJ {g : G} (H : HH g) (p : Int) (hp : 0 <= p /\ p <= 1000) : Ret g 2 "half_turn" [.int p] (.int (aI p)) := by
  refine aS (d := au 23) (H.D 23 rfl) (H.ok 23 rfl) (by walk_at "binds") rfl ?_
  walk_at "go"
  refine am 21 ?_; walk_at "sts"; refine ae (cn H _ _ _ (by decide) (by exact tv hp.1 hp.2) (by decide)) ?_; walk_at "sts"
  refine am 21 ?_; walk_at "sts"; refine ae (cn H _ _ _ (by decide) (by exact tv hp.1 hp.2) (by decide)) ?_; walk_at "sts"
  refine am 21 ?_; walk_at "sts"; refine ae (cn H _ _ _ (by decide) (by exact tv hp.1 hp.2) (by decide)) ?_; walk_at "sts"
  rfl
end

section
theorem divstep {t n D : Int} (hD : 0 < D) (h : 5 * (n.natAbs : Int) <= 3 * D) :
    (0 <= t * n -> 0 <= t * n / D /\ 5 * (t * n / D) <= 3 * t.natAbs) /\ (t * n < 0 -> t * n / D < 0 /\ 5 * (-(t * n / D) - 1) < 3 * t.natAbs) := by
  have h1 : t * n / D * D <= t * n := Int.ediv_mul_le _ (Int.ne_of_gt hD)
  have h2 : t * n < (t * n / D + 1) * D := Int.lt_ediv_add_one_mul_self _ hD
  have h3 : ((t * n).natAbs : Int) = t.natAbs * n.natAbs := by rw [Int.natAbs_mul]; simp
  have h4 : 5 * ((t.natAbs : Int) * n.natAbs) <= 3 * t.natAbs * D := by
    have := Int.mul_le_mul_of_nonneg_left h (show (0 : Int) <= t.natAbs by exact fX)
    have e1 : (t.natAbs : Int) * (5 * n.natAbs) = 5 * ((t.natAbs : Int) * n.natAbs) := by grind -abstractProof
    have e2 : (t.natAbs : Int) * (3 * D) = 3 * t.natAbs * D := by grind -abstractProof
    lia -abstractProof
  refine ⟨fun hp => ⟨Int.ediv_nonneg hp (Int.le_of_lt hD), ?_⟩, fun hn => ⟨Int.ediv_neg_of_neg_of_pos hn hD, ?_⟩⟩
  · refine Int.le_of_mul_le_mul_right ?_ hD
    have e : 5 * (t * n / D) * D = 5 * (t * n / D * D) := by grind -abstractProof
    lia -abstractProof
  · refine Int.lt_of_mul_lt_mul_right ?_ (Int.le_of_lt hD)
    have e : 5 * (-(t * n / D) - 1) * D = -5 * ((t * n / D + 1) * D) := by grind -abstractProof
    lia -abstractProof

theorem wr {x y t u : Int} (h : 5 * x <= 3 * y) (hy : 0 < y) (ht : t = 1 /\ 0 < x \/ t = 0 /\ x <= 0) (hu : 0 <= u) : 2 * x + t + 1 <= 2 * y + u /\ x <= y := by
  rcases ht with ⟨rfl, a⟩ | ⟨rfl, a⟩ <;> constructor <;> lia -abstractProof
theorem exp_k2 {x y : Int} (h : 5 * (x - 1) < 3 * y) (h0 : 0 < x) (hy : 0 < y) : 2 * x + 0 + 1 <= 2 * y + 1 /\ x <= y := by
  constructor <;> lia -abstractProof
theorem exp_key {b q B Q tb tq : Int} (hB : B = b \/ B = -b) (B0 : 0 <= B) (Q0 : 0 <= Q) (hQ : Q = q \/ Q = -q) (t1 : tb = 1 /\ 0 < b \/ tb = 0 /\ b <= 0) (t2 : tq = 1 /\ 0 < q \/ tq = 0 /\ q <= 0)
    (hq : (0 < b /\ 0 <= q /\ 5 * q <= 3 * B) \/ (0 < b /\ q < 0 /\ 5 * (-q - 1) < 3 * B) \/ (b < 0 /\ 0 <= q /\ 5 * q <= 3 * B)) : 2 * Q + tq + 1 <= 2 * B + tb /\ Q <= B := by
  have hb : b ≠ 0 -> 0 < B := by lia -abstractProof
  have ht : 0 <= tb := by lia -abstractProof
  rcases hq with ⟨a, c, d⟩ | ⟨a, c, d⟩ | ⟨a, c, d⟩
  · obtain rfl : Q = q := by lia -abstractProof
    exact wr d (hb (Int.ne_of_gt a)) t2 ht
  · obtain rfl : q = -Q := by lia -abstractProof
    obtain rfl : tq = 0 := by lia -abstractProof
    obtain rfl : tb = 1 := by lia -abstractProof
    exact exp_k2 (by lia -abstractProof) (by lia -abstractProof) (hb (Int.ne_of_gt a))
  · obtain rfl : Q = q := by lia -abstractProof
    exact wr d (hb (Int.ne_of_lt a)) t2 ht
theorem exp_fin {B Q tb tq c E : Int} (Q0 : 0 <= Q) (q0 : 0 <= tq) (h : 2 * Q + tq + 1 <= 2 * B + tb) (h4 : c + (2 * B + tb + 0) <= E) :
    c + 1 + (2 * Q + tq + 0) <= E /\ (2 * Q + tq + 0).toNat < (2 * B + tb + 0).toNat :=
  ⟨by lia -abstractProof, (Int.toNat_lt_toNat (by lia -abstractProof)).mpr (by lia -abstractProof)⟩
theorem uD (b : Int) : (if 0 < b then (1 : Int) else 0) = 1 /\ 0 < b \/ (if 0 < b then (1 : Int) else 0) = 0 /\ b <= 0 := by
  by_cases h : 0 < b
  · exact .inl ⟨if_pos h, h⟩
  · exact .inr ⟨if_neg h, Int.not_lt.mp h⟩
theorem wo {b q c E : Int} (h4 : c + (2 * b.natAbs + (if 0 < b then 1 else 0) + 0) <= E)
    (hq : (0 < b /\ 0 <= q /\ 5 * q <= 3 * b.natAbs) \/ (0 < b /\ q < 0 /\ 5 * (-q - 1) < 3 * b.natAbs) \/ (b < 0 /\ 0 <= q /\ 5 * q <= 3 * b.natAbs)) :
    c + 1 + (2 * q.natAbs + (if 0 < q then 1 else 0) + 0) <= E /\ (2 * (q.natAbs : Int) + (if 0 < q then 1 else 0) + 0).toNat < (2 * (b.natAbs : Int) + (if 0 < b then 1 else 0) + 0).toNat /\ (q.natAbs : Int) <= b.natAbs :=
  have k := exp_key (dg b) (Int.natCast_nonneg _) (Int.natCast_nonneg _) (dg q) (uD b) (uD q) hq
  have f := exp_fin (Int.natCast_nonneg _) (by split <;> decide) k.1 h4
  ⟨f.1, f.2, k.2⟩

theorem lP {g : G} (H : HH g) (n p : Int) (hp : 0 <= p /\ p <= 700) (hn : 5 * (n.natAbs : Int) <= 6 * 10 ^ p.toNat) :
    Ret g 1 "exp_fixed" [.int n, .int p] (.int (eV n p)) := by
  refine aS (d := au 24) (H.D 24 rfl) (H.ok 24 rfl) (by walk_at "binds") rfl ?_
  have p1 : 0 <= p := hp.1
  have p2 : p <= 100000 := by exact fq177 hp.2
  have hO : (1 : Int) <= 10 ^ p.toNat := Int.pow_pos (by decide)
  have hT := aC.pow p.toNat
  unfold eV
  generalize he : (10 : Int) ^ p.toNat = one at hO hT hn |-
  have tn : aC n (p.toNat + 2) := aC.le (b := 2 * one) (by exact fq319 hn) (aC.mul (a := 2) (n := 1) (by unfold aC; decide) hT |>.mono (by exact ni))
  have sn : ar n := tn.small (by exact fq176 hp.2)
  have so : ar one := hT.small (by exact fq175 hp.2)
  walk_at "go"
  rw [he]
  refine gU (σ := S3) (fun s => [("n", .int n), ("one", .int one), ("total", .int s.a), ("term", .int s.b), ("k", .int s.c)])
    (fun s => decide (s.b ≠ 0)) (fun s => ⟨s.a + s.b * n / (one * s.c), s.b * n / (one * s.c), s.c + 1⟩)
    (fun s => 1 <= s.c /\ ((s.c = 1 /\ s.b = one) \/ (2 <= s.c /\ (s.b.natAbs : Int) <= 2 * one)) /\ (0 <= n -> 0 <= s.b) /\
      s.c + (2 * s.b.natAbs + (if 0 < s.b then 1 else 0) + (if s.c = 1 then 4 * one + 10 else 0)) <= 7 * one + 20)
    (fun s => (2 * s.b.natAbs + (if 0 < s.b then 1 else 0) + (if s.c = 1 then 4 * one + 10 else 0)).toNat) FU ⟨one, one, 1⟩ (by walk_at "le")
    ⟨Int.le_refl 1, .inl ⟨rfl, rfl⟩, fun _ => by show 0 <= one; exact pt hO, by simp only [if_true]; split <;> (first | exact fq416 hO | exact fq415 hO)⟩ ?_ ?_ ?_ ?_
  · have t1 : aC (9 * one) (p.toNat + 2) := aC.mul (a := 9) (n := 1) (by unfold aC; decide) hT |>.mono (by exact ni)
    have t2 : aC (9 * one + 99) (p.toNat + 3) := aC.add t1 (aC.mono (n := 2) (by unfold aC; decide) (by exact fq256))
    have := ol t2 (by exact fq487 hp.2)
    simp only [if_true]
    split <;> (first | exact fq307 this | exact fq334 hO ‹_›)
  · rintro ⟨a, b, c⟩ ⟨h1, h2, h3, h4⟩ hc
    simp only [decide_eq_true_eq] at hc h1 h2 h3 h4 |-
    rcases h2 with ⟨rfl, rfl⟩ | ⟨h2, h5⟩
    · have e : b * n / (b * 1) = n := by rw [Int.mul_one]; exact Int.mul_ediv_cancel_left _ hc
      rw [e]
      simp only [if_true] at h4
      refine ⟨⟨by exact fq301, .inr ⟨by exact fq302, by exact fq318 hn⟩, fun h => h, ?_⟩, ?_⟩
      · rw [if_neg (show ¬ (1 + 1 : Int) = 1 by decide)]
        split at h4 <;> split <;> (first | exact fq317 hn | exact fq316 hn | lia -abstractProof)
      · rw [if_neg (show ¬ (1 + 1 : Int) = 1 by decide), if_pos rfl]
        split <;> split <;> (first | exact fq336 hn | exact fq335 hn | lia -abstractProof)
    · have hc1 : ¬ c = 1 := by exact fq435 h2
      have hc2 : ¬ c + 1 = 1 := by exact fq434 h2
      have hD : 2 * one <= one * c := by
        have := Int.mul_le_mul_of_nonneg_left h2 (show 0 <= one by exact pt hO)
        exact fq583 this
      obtain ⟨q1, q2⟩ := divstep (t := b) (n := n) (D := one * c) (by exact fq575 hO hD) (by exact fq650 hD hn)
      generalize b * n / (one * c) = q at q1 q2
      rw [if_neg hc1] at h4 |-
      rw [if_neg hc2]
      have sg : (0 < b /\ 0 <= n /\ 0 <= b * n) \/ (0 < b /\ n < 0 /\ b * n < 0) \/ (b < 0 /\ n < 0 /\ 0 <= b * n) := by
        rcases Int.lt_trichotomy b 0 with hb | hb | hb
        · right; right
          have hn0 : n < 0 := by
            rcases (show n < 0 \/ 0 <= n by exact fq128) with h | h
            · exact h
            · have := h3 h; exact fq518 h3 hb
          exact ⟨hb, hn0, Int.le_of_lt (Int.mul_pos_of_neg_of_neg hb hn0)⟩
        · exact fq659 hb hc
        · rcases (show n < 0 \/ 0 <= n by exact fq128) with h | h
          · exact .inr (.inl ⟨hb, h, Int.mul_neg_of_pos_of_neg hb h⟩)
          · exact .inl ⟨hb, h, Int.mul_nonneg (by exact jC hb) h⟩
      have hq : (0 < b /\ 0 <= q /\ 5 * q <= 3 * b.natAbs) \/ (0 < b /\ q < 0 /\ 5 * (-q - 1) < 3 * b.natAbs) \/ (b < 0 /\ 0 <= q /\ 5 * q <= 3 * b.natAbs) := by
        rcases sg with ⟨s1, s2, s3⟩ | ⟨s1, s2, s3⟩ | ⟨s1, s2, s3⟩
        · exact .inl ⟨s1, q1 s3⟩
        · exact .inr (.inl ⟨s1, q2 s3⟩)
        · exact .inr (.inr ⟨s1, q1 s3⟩)
      have hs : 0 <= n -> 0 <= q := fun hn0 => by
        rcases sg with ⟨s1, s2, s3⟩ | ⟨s1, s2, s3⟩ | ⟨s1, s2, s3⟩
        · exact (q1 s3).1
        · exact absurd hn0 (Int.not_le.mpr s2)
        · exact (q1 s3).1
      obtain ⟨g1, g2, g3⟩ := wo h4 hq
      exact ⟨⟨by exact fq81 h2, .inr ⟨by exact fq82 h2, Int.le_trans g3 h5⟩, hs, g1⟩, g2⟩
  · rintro ⟨a, b, c⟩ ⟨h1, h2, h3, h4⟩
    simp only at h1 h2 h3 h4
    walk_at "sts"
    refine ⟨rfl, fun hc => ?_⟩
    have tb : (b.natAbs : Int) <= 2 * one := by exact fq620 h2 hO
    have tb2 : aC b (p.toNat + 2) := aC.le (b := 2 * one) (by exact fq120 tb) (aC.mul (a := 2) (n := 1) (by unfold aC; decide) hT |>.mono (by exact ni))
    have sb : ar b := tb2.small (by exact fq176 hp.2)
    have tc : aC c (p.toNat + 3) := by
      have t1 : aC (9 * one) (p.toNat + 2) := aC.mul (a := 9) (n := 1) (by unfold aC; decide) hT |>.mono (by exact ni)
      have t2 : aC (9 * one + 99) (p.toNat + 3) := aC.add t1 (aC.mono (n := 2) (by unfold aC; decide) (by exact fq256))
      refine aC.le ?_ t2
      split at h4 <;> split at h4 <;> (first | exact fq577 hO ‹_› | exact fq504 h1 h4 | exact fq503 h1 h4)
    have sc : ar c := tc.small (by exact fq90 hp.2)
    have q1 : 0 < one * c := Int.mul_pos (by exact ky hO) (by exact ky h1)
    have q2 : ar (one * c) := (aC.mul hT tc).small (by exact fq174 hp.2)
    walk_at "go"
    walk_at "le"
  · walk_at "sts"
end

section
structure TenOk (P : Int) : Prop where
  pos : 0 < aY P
  le : 5 * aY P <= 12 * 10 ^ P.toNat

theorem TenOk.t10 {P : Int} (h : TenOk P) : aC (aY P) (P.toNat + 2) := by
  have hT := aC.pow P.toNat
  have t := aC.mul (a := 3) (n := 1) (by unfold aC; decide) hT
  have h1 := h.le
  have h2 := h.pos
  refine aC.le (b := 3 * 10 ^ P.toNat) ?_ (t.mono (by exact ni))
  exact fq555 h2 h1

theorem aC.cond {c : Bool} {a b : Int} {n : Nat} (h1 : aC a n) (h2 : aC b n) : aC (bif c then a else b) n := by cases c <;> assumption
theorem lY {x : Re} {p : Int} {a : Nat} (hx : aC x.1 a) (h : x.2 + p <= 800) : aC (cr x p) (a + 801) := by
  unfold cr
  exact aC.cond (aC.mul hx (aC.pow _) |>.mono (by exact fq329 h)) (aC.cond ((hx.natAbs.ediv).neg.mono (by exact fq266)) (hx.natAbs.ediv.mono (by exact fq266)))

theorem rX {n t : Int} (ht : 0 < t) : 2 * ((n - (2 * n + t) / (2 * t) * t).natAbs : Int) <= t := by
  have h1 := Int.emod_nonneg (2 * n + t) (show 2 * t ≠ 0 by exact fq138 ht)
  have h2 := Int.emod_lt_of_pos (2 * n + t) (show 0 < 2 * t by exact fq53 ht)
  have h3 := Int.mul_ediv_add_emod (2 * n + t) (2 * t)
  have e : 2 * t * ((2 * n + t) / (2 * t)) = 2 * ((2 * n + t) / (2 * t) * t) := by grind -abstractProof
  lia -abstractProof

theorem iU {g : G} (H : HH g) (x : Re) (d : Int) (hP : 0 <= ac x d /\ ac x d <= 400) (hT : TenOk (ac x d)) (hx : aC x.1 100) (h1 : -400 <= x.2 /\ x.2 <= 400) :
    Ret g 4 "exp_parts" [re x, .int d] (.tup [.int (ds x d), .int (dz x d), .int (ac x d)]) := by
  refine aS (d := au 25) (H.D 25 rfl) (H.ok 25 rfl) (by walk_at "binds") rfl ?_
  have tn : aC (cr x (ac x d)) 1000 := (lY hx (by exact fq217 h1.2 hP.2)).mono (by decide)
  have tt := hT.t10
  have q1 : 0 < 2 * aY (ac x d) := by have := hT.pos; exact fq53 this
  have tt2 : aC (2 * aY (ac x d)) ((ac x d).toNat + 3) := aC.mul (a := 2) (n := 1) (by unfold aC; decide) tt |>.mono (by exact fq254)
  have q2 : ar (2 * aY (ac x d)) := tt2.small (by exact fq170 hP.2)
  have tk : aC (dz x d) 1002 := by
    unfold dz
    refine aC.ediv (aC.add (n := 1001) (aC.mul (a := 2) (n := 1) (by unfold aC; decide) tn |>.mono (by exact fq118)) (tt.mono (by exact fq169 hP.2)))
  have sk : ar (dz x d) := tk.small (by exact fq119)
  have st : ar (aY (ac x d)) := tt.small (by exact fq88 hP.2)
  walk_at "go"
  refine am 17 ?_; walk_at "sts"; refine ae (ft H _ _) ?_; walk_at "sts"
  refine am 22 ?_; walk_at "sts"; refine ae (ie H _ (by exact fq54 hP.1 hP.2)) ?_; walk_at "sts"
  refine am 18 ?_; walk_at "sts"; refine ae (l9 H _ _ (hx.small (by decide)) (by exact fq216 h1.2 hP.2) (by exact fq536 h1.1 hP.1)) ?_; walk_at "sts"
  refine am 24 ?_; walk_at "sts"
  refine ae (lP H _ _ (by exact fq407 hP.1 hP.2) ?_) ?_
  · have hb := rX (n := cr x (ac x d)) hT.pos
    have hl := hT.le
    show 5 * ((cr x (ac x d) - (2 * cr x (ac x d) + aY (ac x d)) / (2 * aY (ac x d)) * aY (ac x d)).natAbs : Int) <= _
    exact fq649 hb hl
  walk_at "sts"
  rfl

theorem gj {g : G} (H : HH g) (x : Re) (top : Int) : Ret g 3 "is_too_great" [re x, .int top] (.bool (dY x top)) := by
  refine aS (d := au 26) (H.D 26 rfl) (H.ok 26 rfl) (by walk_at "binds") rfl ?_
  walk_at "go"
  refine am 16 ?_; walk_at "sts"; refine ae (dl H _) ?_; walk_at "sts"
  refine am 5 ?_; walk_at "sts"; refine ae (bH H _) ?_; walk_at "sts"
  rfl

theorem mR {g : G} (H : HH g) (x : Re) (d top : Int) (hP : 0 <= ac x d /\ ac x d <= 400) (hT : TenOk (ac x d)) (hx : aC x.1 100) (h1 : -400 <= x.2 /\ x.2 <= 400)
    (hg : ak x <= nd top + 1) (hr : nd (ds x d) - d < 2300) (ht : (ai (ds x d) (dz x d - ac x d) d).2 + nd (ai (ds x d) (dz x d - ac x d) d).1 - 1 <= top) :
    Ret g 5 "exp_real" [re x, .int d, .int top] (re (aQ x d top)) := by
  refine aS (d := au 27) (H.D 27 rfl) (H.ok 27 rfl) (by walk_at "binds") rfl ?_
  walk_at "go"
  any_goals (refine am 16 ?_; walk_at "sts"; refine ae (dl H _) ?_; walk_at "sts")
  · rename_i h
    show PV.tup _ = _
    unfold aQ; simp only [h, cond_true]
  · rename_i h
    refine am 26 ?_; walk_at "sts"; refine ae (gj H _ _) ?_; walk_at "sts"
    · lia -abstractProof
    · lia -abstractProof
    · refine am 25 ?_; walk_at "sts"; refine ae (iU H _ _ hP hT hx h1) ?_; walk_at "sts"
      refine am 8 ?_; walk_at "sts"; refine ae (a9 H _ _ _ _ hr ht) ?_; walk_at "sts"
      unfold aQ dY; simp only [h, decide_eq_false (show ¬ nd top + 1 < ak x by exact fq223 hg), cond_false]
end

section
theorem kl (m : Int) (h : 1 <= m) : 1 <= aV m := by
  have : 1 <= nd m := by
    unfold nd
    have := fQ (n := m.natAbs) (by exact fq144 h)
    exact fq283 this
  unfold aV
  cases decide (10 ^ (2 * nd m - 1).toNat < m * m) <;> simp only [cond_true, cond_false] <;> (first | exact fq418 this | exact fq419 this)

theorem lO {g : G} (H : HH g) (x : Re) (d : Int) (hP : 0 <= ac x d /\ ac x d <= 400) (hx : aC x.1 100) (hm : 1 <= x.1) :
    Ret g 4 "log_parts" [re x, .int d] (.tup [.int (x.2 + aV x.1 - 1), .int (mY x d), .int (ac x d)]) := by
  refine aS (d := au 28) (H.D 28 rfl) (H.ok 28 rfl) (by walk_at "binds") rfl ?_
  have sx : ar x.1 := hx.small (by decide)
  have nx := fP hx
  have n1 : 1 <= nd x.1 := by
    unfold nd
    have := fQ (n := x.1.natAbs) (by exact fq144 hm)
    exact fq283 this
  have lp := kl _ hm
  have ll : aV x.1 <= 101 := by
    unfold aV
    cases decide (10 ^ (2 * nd x.1 - 1).toNat < x.1 * x.1) <;> simp only [cond_true, cond_false] <;> (first | exact fq162 nx | exact fq161 nx)
  have q1 : 0 <= 2 * nd x.1 - 1 := by exact fq413 n1
  have q2 : 2 * nd x.1 - 1 <= 100000 := by exact fq461 nx
  have q3 : 0 <= aV x.1 - 1 := by exact fq145 lp
  have q4 : aV x.1 - 1 <= 100000 := by exact fq467 ll
  have q5 : 0 <= ac x d := hP.1
  have q6 : ac x d <= 100000 := by exact fq89 hP.2
  have hO : (1 : Int) <= 10 ^ (ac x d).toNat := Int.pow_pos (by decide)
  have hN : (1 : Int) <= 10 ^ (aV x.1 - 1).toNat := Int.pow_pos (by decide)
  have tO := aC.pow (ac x d).toNat
  have tN := aC.pow (aV x.1 - 1).toNat
  have sO : ar (10 ^ (ac x d).toNat) := tO.small (by exact fq87 hP.2)
  walk_at "go"
  refine am 17 ?_; walk_at "sts"; refine ae (ft H _ _) ?_
  refine eX ?_
  walk_at "st"
  refine am 5 ?_; walk_at "sts"; refine ae (bH H _) ?_
  refine ul [("x", re x), ("digits", .int d), ("m", .int x.1), ("e", .int x.2), ("places", .int (ac x d)), ("size", .int (aV x.1))] ?_ ?_
  · walk_at "sts"
    · rename_i h
      refine ⟨_, rfl, ?_⟩
      have e : aV x.1 = nd x.1 + 1 := by unfold aV; rw [decide_eq_true h]; rfl
      rw [e]; walk_at "le"
    · rename_i h
      refine ⟨_, rfl, ?_⟩
      have e : aV x.1 = nd x.1 := by unfold aV; rw [decide_eq_false h]; rfl
      rw [e]; walk_at "le"
  have q7 : 0 < x.1 + 10 ^ (aV x.1 - 1).toNat := by exact fq202 hm hN
  have q8 : ar (x.1 + 10 ^ (aV x.1 - 1).toNat) := (aC.add (hx.mono (m := 102) (by decide)) (tN.mono (by exact fq164 ll))).small (by decide)
  have q9 : ar ((x.1 - 10 ^ (aV x.1 - 1).toNat).natAbs : Int) := (aC.sub (hx.mono (m := 102) (by decide)) (tN.mono (by exact fq164 ll))).natAbs.small (by decide)
  have e0 : ((x.1 - 10 ^ (aV x.1 - 1).toNat).natAbs : Int) * 10 ^ (ac x d).toNat / (x.1 + 10 ^ (aV x.1 - 1).toNat) = cH x d := rfl
  have t0 : 0 <= cH x d := Int.ediv_nonneg (Int.mul_nonneg (by exact fX) (by lia -abstractProof)) (by exact fq574 hm hN)
  have t1 : cH x d < 10 ^ (ac x d).toNat := by
    refine Int.ediv_lt_of_lt_mul (by exact fq202 hm hN) ?_
    rw [Int.mul_comm]
    exact Int.mul_lt_mul_of_pos_left (by exact fq573 hm hN) (by exact ky hO)
  have t2 : ar (cH x d) := cY (by exact vN t0 t1) sO
  walk_at "go"
  refine bT ?_; walk_at "sts"; refine ae (dh H.B _) ?_; walk_at "sts"
  rw [e0]
  walk_at "sts"
  generalize hone : (10 : Int) ^ (ac x d).toNat = one at hO tO sO t1
  generalize htm : cH x d = tm at t0 t1 t2
  have s0 : 0 <= tm * tm / one := Int.ediv_nonneg (l4 _) (by exact pt hO)
  have s1 : tm * tm / one < one := by
    refine Int.ediv_lt_of_lt_mul (by exact ky hO) ?_
    rcases (show tm = 0 \/ 0 < tm by exact fq140 t0) with h | h
    · rw [h]; simp only [Int.zero_mul]; exact Int.mul_pos (by exact ky hO) (by exact ky hO)
    · exact Int.lt_trans (Int.mul_lt_mul_of_pos_left t1 h) (Int.mul_lt_mul_of_pos_right t1 (by exact ky hO))
  have s2 : ar (tm * tm / one) := cY (by exact vN s0 s1) sO
  generalize hsq : tm * tm / one = sq at s0 s1 s2
  have dn : ∀ a : Int, 0 < a -> 0 <= a * sq / one /\ a * sq / one < a := fun a ha => by
    refine ⟨Int.ediv_nonneg (Int.mul_nonneg (by exact jC ha) s0) (by exact pt hO), Int.ediv_lt_of_lt_mul (by exact ky hO) ?_⟩
    exact Int.mul_lt_mul_of_pos_left s1 ha
  refine gU (σ := S3) (fun s => [("m", .int x.1), ("e", .int x.2), ("places", .int (ac x d)), ("size", .int (aV x.1)), ("near", .int (10 ^ (aV x.1 - 1).toNat)), ("one", .int one), ("term", .int s.a), ("square", .int sq), ("total", .int s.b), ("n", .int s.c)])
    (fun s => decide (0 < s.a)) (fun s => ⟨s.a * sq / one, s.b + s.a / s.c, s.c + 2⟩)
    (fun s => 0 <= s.a /\ 1 <= s.c /\ s.c + 2 * s.a <= 1 + 2 * tm) (fun s => s.a.toNat) FU ⟨tm, 0, 1⟩ ?_ ⟨t0, Int.le_refl 1, Int.le_refl _⟩ ?_ ?_ ?_ ?_
  · subst hsq hone; walk_at "le"
  · have := ol (a := tm) (aC.le (by exact vN t0 t1) tO) (by exact fq168 hP.2)
    show tm.toNat <= FU
    exact fq50 this
  · rintro ⟨a, b, c⟩ ⟨h1, h2, h3⟩ hc
    simp only [decide_eq_true_eq] at hc h1 h2 h3 |-
    have := dn a hc
    exact fq679 this.1 h2 this.2 h3
  · rintro ⟨a, b, c⟩ ⟨h1, h2, h3⟩
    simp only at h1 h2 h3
    walk_at "sts"
    refine ⟨rfl, fun hc => ?_⟩
    have c1 : 0 < c := by exact ky h2
    have c2 : ar c := by
      have : aC (9 * one) ((ac x d).toNat + 2) := aC.mul (a := 9) (n := 1) (by unfold aC; decide) tO |>.mono (by exact ni)
      exact (aC.le (by lia -abstractProof) this).small (by exact fq88 hP.2)
    have a1 : ar a := cY (by exact fq680 h1 h2 h3 t1) sO
    have o1 : 0 < one := by exact ky hO
    walk_at "go"
    walk_at "le"
  · walk_at "sts"
    subst hsq htm hone
    rfl

theorem i6 {g : G} (H : HH g) (x : Re) (hm : 1 <= x.1) : Ret g 1 "check_positive" [re x] .none := by
  refine aS (d := au 29) (H.D 29 rfl) (H.ok 29 rfl) (by walk_at "binds") rfl ?_
  walk_at "go"
  · rename_i h
    have h : x.1 <= 0 := h
    lia -abstractProof

theorem mP {g : G} (H : HH g) (x : Re) (d top : Int) (hP : 0 <= ac x d /\ ac x d <= 400) (hT : TenOk (ac x d)) (hx : aC x.1 100) (hm : 1 <= x.1)  (he : -400 <= x.2 /\ x.2 <= 400)
    (hr : nd ((x.2 + aV x.1 - 1) * aY (ac x d) + mY x d) - d < 2300)
    (ht : (ai ((x.2 + aV x.1 - 1) * aY (ac x d) + mY x d) (-ac x d) d).2 + nd (ai ((x.2 + aV x.1 - 1) * aY (ac x d) + mY x d) (-ac x d) d).1 - 1 <= top) :
    Ret g 5 "log_real" [re x, .int d, .int top] (re (dB x d top)) := by
  refine aS (d := au 30) (H.D 30 rfl) (H.ok 30 rfl) (by walk_at "binds") rfl ?_
  have ll : aV x.1 <= 101 := by
    have nx := fP hx
    unfold aV
    cases decide (10 ^ (2 * nd x.1 - 1).toNat < x.1 * x.1) <;> simp only [cond_true, cond_false] <;> (first | exact fq162 nx | exact fq161 nx)
  have lp := kl _ hm
  have kb : (x.2 + aV x.1 - 1).natAbs < 1152921504606846976 := by exact fq538 he.1 lp he.2 ll
  walk_at "go"
  refine am 29 ?_; walk_at "sts"; refine ae (i6 H _ hm) ?_; walk_at "sts"
  refine am 28 ?_; walk_at "sts"; refine ae (lO H _ _ hP hx hm) ?_; walk_at "sts"
  refine am 8 ?_; walk_at "sts"
  refine am 22 ?_; walk_at "sts"; refine ae (ie H _ (by exact fq54 hP.1 hP.2)) ?_; walk_at "sts"
  refine ae (a9 H _ _ _ _ hr ht) ?_; walk_at "sts"
  rfl
end

section
theorem qR {a k sq one : Int} (o1 : 0 < one) (s0 : 0 <= sq) (s1 : sq <= one) (ha : 0 < a) (hk : 0 <= k) :
    0 < one * (k + 1) * (k + 2) /\ 0 <= a * sq / (one * (k + 1) * (k + 2)) /\ a * sq / (one * (k + 1) * (k + 2)) < a := by
  have h1 : 0 < one * (k + 1) := Int.mul_pos o1 (by exact fq397 hk)
  have h2 : 0 < one * (k + 1) * (k + 2) := Int.mul_pos h1 (by exact fq398 hk)
  have h3 : one < one * (k + 1) * (k + 2) := by
    have a1 : one <= one * (k + 1) := by
      have := Int.mul_le_mul_of_nonneg_left (show (1 : Int) <= k + 1 by exact fq401 hk) (show 0 <= one by exact jC o1)
      exact fq582 this
    have a2 : one * (k + 1) * 2 <= one * (k + 1) * (k + 2) := Int.mul_le_mul_of_nonneg_left (by exact fq402 hk) (by exact jC h1)
    exact fq640 h1 a2 a1
  refine ⟨h2, Int.ediv_nonneg (Int.mul_nonneg (by exact jC ha) s0) (by exact fq558 o1 h3), Int.ediv_lt_of_lt_mul h2 ?_⟩
  exact Int.mul_lt_mul_of_pos_left (by exact fq230 h3 s1) ha

theorem wave_sq {r one : Int} (o1 : 0 < one) (hr : (r.natAbs : Int) <= one) : 0 <= r * r / one /\ r * r / one <= one := by
  refine ⟨Int.ediv_nonneg (l4 _) (by exact jC o1), ?_⟩
  have : r * r <= one * one := by
    have h := Int.mul_le_mul hr hr (by exact fX) (by exact jC o1)
    have e : (r.natAbs : Int) * r.natAbs = r * r := by rw [<- Int.natCast_mul, Int.natAbs_mul_self]
    exact fq663 e h
  have h2 := Int.ediv_le_ediv o1 this
  rw [Int.mul_ediv_cancel _ (by exact jb o1)] at h2
  exact h2

theorem kU {g : G} (H : HH g) (r p f : Int) (hp : 0 <= p /\ p <= 700) (hr : (r.natAbs : Int) <= 10 ^ p.toNat) (hf : f = 0 \/ f = 1) :
    Ret g 1 "wave_fixed" [.int r, .int p, .int f] (.int (dw r p f)) := by
  refine aS (d := au 31) (H.D 31 rfl) (H.ok 31 rfl) (by walk_at "binds") rfl ?_
  have p1 : 0 <= p := hp.1
  have p2 : p <= 100000 := by exact fq177 hp.2
  have o1 : (0 : Int) < 10 ^ p.toNat := Int.pow_pos (by decide)
  have hT := aC.pow p.toNat
  have so : ar (10 ^ p.toNat) := hT.small (by exact fq175 hp.2)
  have sr : ar r := cY (by exact fq120 hr) so
  obtain ⟨s0, s1⟩ := wave_sq o1 hr
  have s2 : ar (r * r / 10 ^ p.toNat) := cY (by exact nj s0 s1) so
  walk_at "go"
  any_goals (refine bT ?_; walk_at "sts"; refine ae (dh H.B _) ?_; walk_at "sts")
  have z0 : 0 <= (bif decide (f = 1) then (r.natAbs : Int) else 10 ^ p.toNat) /\ (bif decide (f = 1) then (r.natAbs : Int) else 10 ^ p.toNat) <= 10 ^ p.toNat := by
    cases decide (f = 1) <;> simp only [cond_true, cond_false] <;> (first | exact fq314 hr | lia -abstractProof)
  have g0 : (bif decide (f = 1) && decide (r < 0) then (-1 : Int) else 1) = 1 \/ (bif decide (f = 1) && decide (r < 0) then (-1 : Int) else 1) = -1 := by
    cases decide (f = 1) && decide (r < 0) <;> simp
  unfold dw
  generalize hone : (10 : Int) ^ p.toNat = one at o1 hT so hr s0 s1 s2 z0 |-
  generalize hsq : r * r / one = sq at s0 s1 s2 |-
  generalize htm : (bif decide (f = 1) then (r.natAbs : Int) else one) = tm at z0 |-
  generalize hsg : (bif decide (f = 1) && decide (r < 0) then (-1 : Int) else 1) = sg at g0 |-
  refine gU (σ := S4) (fun s => [("r", .int r), ("places", .int p), ("first", .int f), ("one", .int one), ("square", .int sq), ("term", .int s.a), ("total", .int s.b), ("sign", .int s.c), ("k", .int s.d)])
    (fun s => decide (0 < s.a)) (fun s => ⟨s.a * sq / (one * (s.d + 1) * (s.d + 2)), s.b + s.c * s.a, -s.c, s.d + 2⟩)
    (fun s => 0 <= s.a /\ s.a <= one /\ (s.c = 1 \/ s.c = -1) /\ 0 <= s.d /\ s.d + 2 * s.a <= 1 + 2 * one) (fun s => s.a.toNat) FU ⟨tm, 0, sg, f⟩ ?_ ⟨z0.1, z0.2, g0, by show 0 <= f; exact fq348 hf, by show f + 2 * tm <= _; lia -abstractProof⟩ ?_ ?_ ?_ ?_
  · subst hsg htm hsq hone; walk_at "le"
  · have := ol (a := tm) (aC.le (by exact nj z0.1 z0.2) hT) (by exact fq486 hp.2)
    show tm.toNat <= FU
    exact fq50 this
  · rintro ⟨a, b, c, k⟩ ⟨h1, h2, h3, h4, h5⟩ hc
    simp only [decide_eq_true_eq] at hc h1 h2 h3 h4 h5 |-
    have := qR o1 s0 s1 hc h4
    exact fq699 h3 h4 this.2.1 h5 this.2.2
  · rintro ⟨a, b, c, k⟩ ⟨h1, h2, h3, h4, h5⟩
    simp only at h1 h2 h3 h4 h5
    walk_at "sts"
    refine ⟨rfl, fun hc => ?_⟩
    have hc : 0 < a := by simpa using hc
    have w := qR o1 s0 s1 hc h4
    have q1 : 0 < one * (k + 1) * (k + 2) := w.1
    have a1 : ar a := cY (by exact nj h1 h2) so
    have c1 : c.natAbs < 1152921504606846976 := by exact fq74 h3
    have tk : aC k (p.toNat + 2) := aC.le (b := 9 * one) (by lia -abstractProof) (aC.mul (a := 9) (n := 1) (by unfold aC; decide) hT |>.mono (by exact ni))
    have tk1 : aC (k + 1) (p.toNat + 3) := aC.add tk (aC.mono (n := 1) (by unfold aC; decide) (by exact fq68))
    have tk2 : aC (k + 2) (p.toNat + 3) := aC.add tk (aC.mono (n := 1) (by unfold aC; decide) (by exact fq68))
    have b1 : ar (k + 1) := tk1.small (by exact fq90 hp.2)
    have b2 : ar (k + 2) := tk2.small (by exact fq90 hp.2)
    have b3 : ar (one * (k + 1)) := (aC.mul hT tk1).small (by exact fq174 hp.2)
    have b4 : ar (one * (k + 1) * (k + 2)) := (aC.mul (aC.mul hT tk1) tk2).small (by exact fq485 hp.2)
    walk_at "go"
    walk_at "le"
  · walk_at "sts"
    subst hsg htm hsq hone
    rfl

structure PiOk (P : Int) : Prop where
  pos : 0 < aI P
  le : 5 * aI P <= 16 * 10 ^ P.toNat

theorem PiOk.t10 {P : Int} (h : PiOk P) : aC (aI P) (P.toNat + 2) := by
  have hT := aC.pow P.toNat
  have t := aC.mul (a := 4) (n := 1) (by unfold aC; decide) hT
  have h1 := h.le
  have h2 := h.pos
  refine aC.le (b := 4 * 10 ^ P.toNat) ?_ (t.mono (by exact ni))
  exact fq556 h2 h1

theorem nU {n t : Int} (ht : 0 < t) : 4 * (((2 * n - (4 * n + t) / (2 * t) * t) / 2).natAbs : Int) <= t + 4 := by
  have h1 := Int.emod_nonneg (4 * n + t) (show 2 * t ≠ 0 by exact fq138 ht)
  have h2 := Int.emod_lt_of_pos (4 * n + t) (show 0 < 2 * t by exact fq53 ht)
  have h3 := Int.mul_ediv_add_emod (4 * n + t) (2 * t)
  have e : 2 * t * ((4 * n + t) / (2 * t)) = 2 * ((4 * n + t) / (2 * t) * t) := by grind -abstractProof
  lia -abstractProof

theorem nR {g : G} (H : HH g) (x : Re) (d a : Int) (hP : 1 <= ac x d /\ ac x d <= 400) (hT : PiOk (ac x d)) (hx : aC x.1 100) (h1 : -400 <= x.2 /\ x.2 <= 400) :
    Ret g 4 "wave" [re x, .int d, .int a] (.tup [.int (bV x d a), .int (ac x d)]) := by
  refine aS (d := au 32) (H.D 32 rfl) (H.ok 32 rfl) (by walk_at "binds") rfl ?_
  have tn : aC (cr x (ac x d)) 1000 := (lY hx (by exact fq217 h1.2 hP.2)).mono (by decide)
  have tt := hT.t10
  have q1 : 0 < 2 * aI (ac x d) := by have := hT.pos; exact fq53 this
  have tt2 : aC (2 * aI (ac x d)) ((ac x d).toNat + 3) := aC.mul (a := 2) (n := 1) (by unfold aC; decide) tt |>.mono (by exact fq254)
  have q2 : ar (2 * aI (ac x d)) := tt2.small (by exact fq170 hP.2)
  have tk : aC (lV x d) 1002 := by
    unfold lV
    refine aC.ediv (aC.add (n := 1001) (aC.mul (a := 4) (n := 1) (by unfold aC; decide) tn |>.mono (by exact fq118)) (tt.mono (by exact fq169 hP.2)))
  have sk : ar (lV x d) := tk.small (by exact fq119)
  have st : ar (aI (ac x d)) := tt.small (by exact fq88 hP.2)
  have hO : (10 : Int) <= 10 ^ (ac x d).toNat := by
    have : (10 : Int) ^ 1 <= 10 ^ (ac x d).toNat := by
      exact_mod_cast Nat.pow_le_pow_right (n := 10) (by decide) (show 1 <= (ac x d).toNat by exact fq417 hP.1)
    simpa using this
  have hR : ((ux x d).natAbs : Int) <= 10 ^ (ac x d).toNat := by
    have hb := nU (n := cr x (ac x d)) hT.pos
    have hl := hT.le
    unfold ux lV
    exact fq646 hO hb hl
  walk_at "go"
  refine am 17 ?_; walk_at "sts"; refine ae (ft H _ _) ?_; walk_at "sts"
  refine am 18 ?_; walk_at "sts"; refine ae (l9 H _ _ (hx.small (by decide)) (by exact fq216 h1.2 hP.2) (by exact fq537 h1.1 hP.1)) ?_; walk_at "sts"
  refine am 23 ?_; walk_at "sts"; refine ae (eJ H _ (by exact fq423 hP.1 hP.2)) ?_; walk_at "sts"
  refine am 31 ?_; walk_at "sts"
  refine ae (kU H _ _ _ (by exact fq424 hP.1 hP.2) hR (by exact fq347)) ?_; walk_at "sts"
  rfl

theorem fO {g : G} (H : HH g) (x : Re) (d : Int) : Ret g 3 "is_tiny" [re x, .int d] (.bool (bC x d)) := by
  refine aS (d := au 33) (H.D 33 rfl) (H.ok 33 rfl) (by walk_at "binds") rfl ?_
  walk_at "go"
  any_goals (refine am 16 ?_; walk_at "sts"; refine ae (dl H _) ?_; walk_at "sts")
  rfl

structure WaveOk (x : Re) (d a top : Int) : Prop where
  hP : 1 <= ac x d /\ ac x d <= 400
  hT : PiOk (ac x d)
  hx : aC x.1 100
  he : -400 <= x.2 /\ x.2 <= 400
  hr : nd (bV x d a) - d < 2300
  ht : (ai (bV x d a) (-ac x d) d).2 + nd (ai (bV x d a) (-ac x d) d).1 - 1 <= top

theorem mJ {g : G} (H : HH g) (x : Re) (d top : Int) (hd : 1 <= d) (hW : bC x d = false -> WaveOk x d 0 top) (hx : aC x.1 100) (hu : (ai x.1 x.2 d).2 + nd (ai x.1 x.2 d).1 - 1 <= top) :
    Ret g 5 "sin_real" [re x, .int d, .int top] (re (aw x d top)) := by
  refine aS (d := au 34) (H.D 34 rfl) (H.ok 34 rfl) (by walk_at "binds") rfl ?_
  have n1 := fP hx
  unfold aw
  walk_at "go"
  refine am 33 ?_; walk_at "sts"; refine ae (fO H _ _) ?_
  refine ⟨_, rfl, fun h => ?_, fun h => ?_⟩
  · rw [h]
    walk_at "sts"
    refine am 8 ?_; walk_at "sts"; refine ae (a9 H _ _ _ _ (by exact fq203 hd n1) hu) ?_; walk_at "sts"
    rfl
  · rw [h]
    have W := hW h
    walk_at "sts"
    refine am 32 ?_; walk_at "sts"; refine ae (nR H _ _ _ W.hP W.hT W.hx W.he) ?_; walk_at "sts"
    refine am 8 ?_; walk_at "sts"; refine ae (a9 H _ _ _ _ W.hr W.ht) ?_; walk_at "sts"
    rfl

theorem gI {g : G} (H : HH g) (x : Re) (d top : Int) (hW : bC x d = false -> WaveOk x d 1 top) :
    Ret g 5 "cos_real" [re x, .int d, .int top] (re (aN x d top)) := by
  refine aS (d := au 35) (H.D 35 rfl) (H.ok 35 rfl) (by walk_at "binds") rfl ?_
  unfold aN
  walk_at "go"
  refine am 33 ?_; walk_at "sts"; refine ae (fO H _ _) ?_
  refine ⟨_, rfl, fun h => ?_, fun h => ?_⟩
  · rw [h]
    walk_at "sts"
    rfl
  · rw [h]
    have W := hW h
    walk_at "sts"
    refine am 32 ?_; walk_at "sts"; refine ae (nR H _ _ _ W.hP W.hT W.hx W.he) ?_; walk_at "sts"
    refine am 8 ?_; walk_at "sts"; refine ae (a9 H _ _ _ _ W.hr W.ht) ?_; walk_at "sts"
    rfl
end

section
theorem mq {one t : Int} {p : Nat} (hp : p <= 700) (hT : aC one (p + 1)) (o1 : 0 < one) (t0 : 0 <= t) (t1 : t <= one) :
    0 <= one * one + t * t /\ aC (one * one + t * t) (2 * p + 3) /\ one <= b7 (one * one + t * t) /\ ar (one + b7 (one * one + t * t)) /\ 0 <= bN one t /\ 2 * bN one t <= t := by
  have a0 : 0 <= one * one := l4 _
  have a1 : 0 <= t * t := l4 _
  have tt : aC t (p + 1) := aC.le (by exact nj t0 t1) hT
  have tS : aC (one * one + t * t) (2 * p + 3) := (aC.add (aC.mul hT hT) (aC.mul tt tt)).mono (by exact fq716)
  have r0 := lk (one * one + t * t)
  have r1 : one <= b7 (one * one + t * t) := by
    obtain ⟨N, hN⟩ : ∃ N : Nat, one * one + t * t = N := ⟨(one * one + t * t).toNat, by exact fq563 a0 a1⟩
    have h1 := iI N
    unfold b7
    rw [hN, Int.toNat_natCast]
    rcases Int.lt_or_le (cW N : Int) one with h | h
    · exfalso
      have h2 := Int.mul_le_mul (show (cW N : Int) + 1 <= one by exact fq96 h) (show (cW N : Int) + 1 <= one by exact fq96 h) (by exact fq253) (by exact jC o1)
      have h3 : ((N : Int)) < ((cW N : Int) + 1) * ((cW N : Int) + 1) := by exact_mod_cast h1
      lia -abstractProof
    · exact h
  have r2 : aC (b7 (one * one + t * t)) (2 * p + 3) := aC.le (by have := ot (n := one * one + t * t) (by exact fq199 a0 a1); exact nj r0 this) tS
  refine ⟨by exact fq199 a0 a1, tS, r1, (aC.add (hT.mono (m := 2 * p + 3) (by exact fq774)) r2).small (by exact fq820 hp), ?_, ?_⟩
  · exact Int.ediv_nonneg (Int.mul_nonneg t0 (by exact jC o1)) (by exact fq198 o1 r1)
  · unfold bN
    have h1 : t * one / (one + b7 (one * one + t * t)) * (one + b7 (one * one + t * t)) <= t * one := Int.ediv_mul_le _ (by exact fq551 o1 r0)
    have h0 : 0 <= t * one / (one + b7 (one * one + t * t)) := Int.ediv_nonneg (Int.mul_nonneg t0 (by exact jC o1)) (by exact fq198 o1 r1)
    generalize t * one / (one + b7 (one * one + t * t)) = q at h0 h1
    have h2 : q * (2 * one) <= q * (one + b7 (one * one + t * t)) := Int.mul_le_mul_of_nonneg_left (by exact fq610 r1) h0
    have h3 : 2 * q * one <= t * one := by
      have e : 2 * q * one = q * (2 * one) := by grind -abstractProof
      lia -abstractProof
    exact Int.le_of_mul_le_mul_right h3 o1

theorem iW {g : G} (H : HH g) (t p : Int) (hp : 0 <= p /\ p <= 400) (ht : 0 <= t /\ t <= 10 ^ p.toNat) :
    Ret g 3 "arc_fixed" [.int t, .int p] (.int (gx t p)) := by
  refine aS (d := au 37) (H.D 37 rfl) (H.ok 37 rfl) (by walk_at "binds") rfl ?_
  have p1 : 0 <= p := hp.1
  have p2 : p <= 100000 := by exact fq89 hp.2
  have o1 : (0 : Int) < 10 ^ p.toNat := Int.pow_pos (by decide)
  have hT := aC.pow p.toNat
  have so : ar (10 ^ p.toNat) := hT.small (by exact fq87 hp.2)
  have st : ar t := cY (by exact nj ht.1 ht.2) so
  unfold gx
  generalize hone : (10 : Int) ^ p.toNat = one at o1 hT so ht |-
  obtain ⟨a1, a2, a3, a4, a5, a6⟩ := mq (p := p.toNat) (by exact fq171 hp.2) hT o1 ht.1 ht.2
  obtain ⟨b1, b2, b3, b4, b5, b6⟩ := mq (p := p.toNat) (by exact fq171 hp.2) hT o1 a5 (by exact fq639 o1 a6 ht.2)
  have sh : ar (bN one t) := cY (by exact fq642 a5 a6 ht.2) so
  have su : ar (bN one (bN one t)) := cY (by exact fq241 b5 b6 a6 ht.2) so
  have d1 : 0 < one + b7 (one * one + t * t) := by exact fq197 o1 a3
  have d2 : 0 < one + b7 (one * one + bN one t * bN one t) := by exact fq197 o1 b3
  walk_at "go"
  rw [hone]
  refine rK H.B.range.1 H.B.range.2 rfl rfl ?_ (fun _ _ => rfl)
  walk_at "sts"
  refine ⟨2, rfl, by decide, ?_⟩
  show jE _ [.int 0, .int 1] _ _
  refine fV rfl ?_
  walk_at "go"
  refine am 19 ?_; walk_at "sts"; refine ae (d8 H _ a1 (by have := fP a2; exact fq212 this hp.2)) ?_; walk_at "sts"
  refine fV rfl ?_
  walk_at "go"
  rw [show t * one / (one + b7 (one * one + t * t)) = bN one t from rfl]
  refine am 19 ?_; walk_at "sts"; refine ae (d8 H _ b1 (by have := fP b2; exact fq212 this hp.2)) ?_; walk_at "sts"
  rw [show bN one t * one / (one + b7 (one * one + bN one t * bN one t)) = bN one (bN one t) from rfl]
  simp only [jE]
  walk_at "go"
  generalize hu : bN one (bN one t) = u at b5 b6 su |-
  have s0 : 0 <= u * u / one := Int.ediv_nonneg (l4 _) (by exact jC o1)
  have s1 : u * u / one < one := by
    refine Int.ediv_lt_of_lt_mul (by exact tB o1) ?_
    rcases (show u = 0 \/ 0 < u by exact fq140 b5) with h | h
    · rw [h]; simp only [Int.zero_mul]; exact Int.mul_pos (by exact tB o1) (by exact tB o1)
    · exact Int.lt_trans (Int.mul_lt_mul_of_pos_left (show u < one by exact fq240 o1 b6 a6 ht.2) h) (Int.mul_lt_mul_of_pos_right (show u < one by exact fq240 o1 b6 a6 ht.2) (by exact tB o1))
  have s2 : ar (u * u / one) := cY (by exact vN s0 s1) so
  generalize hsq : u * u / one = sq at s0 s1 s2 |-
  have dn : ∀ a : Int, 0 < a -> 0 <= a * sq / one /\ a * sq / one < a := fun a ha => by
    refine ⟨Int.ediv_nonneg (Int.mul_nonneg (by exact jC ha) s0) (by exact jC o1), Int.ediv_lt_of_lt_mul (by exact tB o1) ?_⟩
    exact Int.mul_lt_mul_of_pos_left s1 ha
  refine gU (σ := S4) (fun s => [("places", .int p), ("one", .int one), ("square", .int sq), ("t", .int s.a), ("total", .int s.b), ("sign", .int s.c), ("n", .int s.d)])
    (fun s => decide (0 < s.a)) (fun s => ⟨s.a * sq / one, s.b + s.c * (s.a / s.d), -s.c, s.d + 2⟩)
    (fun s => 0 <= s.a /\ s.a <= one /\ (s.c = 1 \/ s.c = -1) /\ 1 <= s.d /\ s.d + 2 * s.a <= 1 + 2 * one) (fun s => s.a.toNat) FU ⟨u, 0, 1, 1⟩ ?_ ⟨b5, by show u <= one; exact fq677 o1 b6 a6 ht.2, .inl rfl, Int.le_refl 1, by show 1 + 2 * u <= _; exact fq678 o1 a6 ht.2 b6⟩ ?_ ?_ ?_ ?_
  · subst hsq hu; walk_at "le"
  · have := ol (a := u) (aC.le (by exact fq241 b5 b6 a6 ht.2) hT) (by exact fq168 hp.2)
    show u.toNat <= FU
    exact fq50 this
  · rintro ⟨a, b, c, d⟩ ⟨h1, h2, h3, h4, h5⟩ hc
    simp only [decide_eq_true_eq] at hc h1 h2 h3 h4 h5 |-
    have := dn a hc
    exact fq700 h3 this.1 h4 this.2 h5
  · rintro ⟨a, b, c, d⟩ ⟨h1, h2, h3, h4, h5⟩
    simp only at h1 h2 h3 h4 h5
    walk_at "sts"
    refine ⟨rfl, fun hc => ?_⟩
    have a1 : ar a := cY (by exact nj h1 h2) so
    have c1 : c.natAbs < 1152921504606846976 := by exact fq74 h3
    have d1 : 0 < d := by exact ky h4
    have d2 : ar d := (aC.le (b := 9 * one) (by lia -abstractProof) (aC.mul (a := 9) (n := 1) (by unfold aC; decide) hT)).small (by exact fq480 hp.2)
    walk_at "go"
    walk_at "le"
  · walk_at "sts"
    subst hsq hu
    rfl

theorem ku {g : G} (H : HH g) (a b p : Int) (hp : 0 <= p /\ p <= 400) (ha : 0 < a) (hb : 0 < b) (ta : aC a 900) (tb : aC b 900) :
    Ret g 4 "ratio_angle" [.int a, .int b, .int p] (.int (dX a b p)) := by
  refine aS (d := au 38) (H.D 38 rfl) (H.ok 38 rfl) (by walk_at "binds") rfl ?_
  have p1 : 0 <= p := hp.1
  have p2 : p <= 100000 := by exact fq89 hp.2
  have o1 : (0 : Int) < 10 ^ p.toNat := Int.pow_pos (by decide)
  have hT := aC.pow p.toNat
  have so : ar (10 ^ p.toNat) := hT.small (by exact fq87 hp.2)
  have sa : ar a := ta.small (by decide)
  have sb : ar b := tb.small (by decide)
  have le : ∀ u v : Int, 0 < u -> 0 < v -> u <= v -> 0 <= u * 10 ^ p.toNat / v /\ u * 10 ^ p.toNat / v <= 10 ^ p.toNat := fun u v hu hv h => by
    refine ⟨Int.ediv_nonneg (Int.mul_nonneg (by exact jC hu) (by lia -abstractProof)) (by exact jC hv), ?_⟩
    have := Int.ediv_le_ediv hv (Int.mul_le_mul_of_nonneg_right h (show (0 : Int) <= 10 ^ p.toNat by lia -abstractProof))
    rw [Int.mul_ediv_cancel_left _ (by exact jb hv)] at this
    exact this
  unfold dX
  walk_at "go"
  · rename_i h
    have h : a <= b := h
    rw [decide_eq_true h]
    refine am 37 ?_; walk_at "sts"
    refine ae (iW H _ _ hp (le _ _ ha hb h)) ?_; walk_at "sts"
    rfl
  · rename_i h
    have h : ¬ a <= b := h
    rw [decide_eq_false h]
    refine am 23 ?_; walk_at "sts"; refine ae (eJ H _ (by exact fq54 hp.1 hp.2)) ?_; walk_at "sts"
    refine am 37 ?_; walk_at "sts"
    refine ae (iW H _ _ hp (le _ _ hb ha (by exact fq616 ‹_›))) ?_; walk_at "sts"
    rfl

theorem fs {g : G} (H : HH g) (y : Re) (q d top : Int) (hq : q = 1 \/ q = 2) (hd : 0 <= d /\ d <= 100)
    (hr : nd (bif decide (y.1 < 0) then -(q * aI (d + 10) / 2) else q * aI (d + 10) / 2) - d < 2300)
    (ht : (ai (bif decide (y.1 < 0) then -(q * aI (d + 10) / 2) else q * aI (d + 10) / 2) (-(d + 10)) d).2 + nd (ai (bif decide (y.1 < 0) then -(q * aI (d + 10) / 2) else q * aI (d + 10) / 2) (-(d + 10)) d).1 - 1 <= top) :
    Ret g 4 "straight_angle" [re y, .int q, .int d, .int top] (re (cJ y q d top)) := by
  refine aS (d := au 39) (H.D 39 rfl) (H.ok 39 rfl) (by walk_at "binds") rfl ?_
  have q1 : q.natAbs < 1152921504606846976 := by exact fq350 hq
  walk_at "go"
  refine ca (HH.cS ‹_›) ?_; walk_at "sts"
  refine am 23 ?_; walk_at "sts"; refine ae (eJ H _ (by exact fq406 hd.1 hd.2)) ?_; walk_at "sts"
  refine am 8 ?_; walk_at "sts"; refine ae (a9 H _ _ _ _ hr ht) ?_; walk_at "sts"
  rfl
end

section
structure AtanOk (y x : Re) (d top : Int) : Prop where
  nz : ¬ (y.1 = 0 /\ x.1 = 0)
  ty : aC y.1 60
  tx : aC x.1 60
  ey : -200 <= y.2 /\ y.2 <= 200
  ex : -200 <= x.2 /\ x.2 <= 200
  hd : 1 <= d /\ d <= 50
  l1 : y.1 ≠ 0 -> x.1 ≠ 0 -> ak y - ak x <= d + 2
  l2 : y.1 ≠ 0 -> x.1 ≠ 0 -> ak x - ak y <= d + 2
  hs : ∀ q : Int, q = 1 \/ q = 2 -> nd (bif decide (y.1 < 0) then -(q * aI (d + 10) / 2) else q * aI (d + 10) / 2) - d < 2300 /\
    (ai (bif decide (y.1 < 0) then -(q * aI (d + 10) / 2) else q * aI (d + 10) / 2) (-(d + 10)) d).2 + nd (ai (bif decide (y.1 < 0) then -(q * aI (d + 10) / 2) else q * aI (d + 10) / 2) (-(d + 10)) d).1 - 1 <= top
  ha : y.1 ≠ 0 -> x.1 ≠ 0 -> nd (bif decide (y.1 < 0) then -bn y x d else bn y x d) - d < 2300 /\
    (ai (bif decide (y.1 < 0) then -bn y x d else bn y x d) (-bF y x d) d).2 + nd (ai (bif decide (y.1 < 0) then -bn y x d else bn y x d) (-bF y x d) d).1 - 1 <= top

theorem kW {g : G} (H : HH g) (y x : Re) (d top : Int) (W : AtanOk y x d top) :
    Ret g 5 "atan2_real" [re y, re x, .int d, .int top] (re (aA y x d top)) := by
  refine aS (d := au 40) (H.D 40 rfl) (H.ok 40 rfl) (by walk_at "binds") rfl ?_
  have hd := W.hd
  have ey := W.ey
  have ex := W.ex
  have p1 : 0 <= y.2 - min y.2 x.2 := by exact fq93
  have p2 : 0 <= x.2 - min y.2 x.2 := by exact fq94
  have q1 : y.2 - min y.2 x.2 <= 100000 := by exact fq535 ex.1 ey.2
  have q2 : x.2 - min y.2 x.2 <= 100000 := by exact fq534 ey.1 ex.2
  have s1 : ar (10 ^ (y.2 - min y.2 x.2).toNat) := cB (by exact fq531 ex.1 ey.2)
  have s2 : ar (10 ^ (x.2 - min y.2 x.2).toNat) := cB (by exact fq530 ey.1 ex.2)
  have s3 : ar (y.1.natAbs : Int) := W.ty.natAbs.small (by decide)
  have s4 : ar (x.1.natAbs : Int) := W.tx.natAbs.small (by decide)
  walk_at "goP"
  · rename_i h
    simp only [Bool.and_eq_true, decide_eq_true_eq] at h
    exact absurd h W.nz
  · rename_i h0 h h2
    show PV.tup _ = _
    have h : y.1 = 0 := h
    have h2 : 0 < x.1 := h2
    unfold aA; simp only [decide_eq_true h, decide_eq_true h2, cond_true]
  · rename_i h0 h h2
    have h : y.1 = 0 := h
    have h2 : ¬ 0 < x.1 := h2
    refine am 39 ?_; walk_at "sts"; refine ae (fs H _ _ _ _ (.inr rfl) (by exact fq147 hd.1 hd.2) (W.hs 2 (.inr rfl)).1 (W.hs 2 (.inr rfl)).2) ?_; walk_at "sts"
    unfold aA; simp only [decide_eq_true h, decide_eq_false h2, cond_true, cond_false]
  any_goals (refine am 16 ?_; walk_at "sts"; refine ae (dl H _) ?_; walk_at "sts")
  any_goals (refine am 16 ?_; walk_at "sts"; refine ae (dl H _) ?_; walk_at "stsP")
  · rename_i hy hc
    have hx0 : x.1 = 0 := by
      rcases (show x.1 = 0 \/ x.1 ≠ 0 by exact fq349) with h | h
      · exact h
      · have := W.l1 hy h
        rw [decide_eq_false h, decide_eq_false (show ¬ d + 2 < ak y - ak x by exact fq223 this)] at hc
        cases hc
    refine am 39 ?_; walk_at "sts"; refine ae (fs H _ _ _ _ (.inl rfl) (by exact fq147 hd.1 hd.2) (W.hs 1 (.inl rfl)).1 (W.hs 1 (.inl rfl)).2) ?_; walk_at "sts"
    unfold aA; simp only [decide_eq_false hy, decide_eq_true hx0, cond_true, cond_false]
  · rename_i hy h3 h1 h2
    have hx0 : x.1 ≠ 0 := by intro h; rw [decide_eq_true h] at h3; cases h3
    have := W.l2 hy hx0
    have h1 : d + 2 < ak x - ak y := h1
    lia -abstractProof
  · rename_i hy h3 h1 h2
    have hx0 : x.1 ≠ 0 := by intro h; rw [decide_eq_true h] at h3; cases h3
    have := W.l2 hy hx0
    have h1 : d + 2 < ak x - ak y := h1
    lia -abstractProof
  · rename_i hy h3 h1
    have hx0 : x.1 ≠ 0 := by intro h; rw [decide_eq_true h] at h3; cases h3
    have hl := W.l2 hy hx0
    have hP : 0 <= bF y x d /\ bF y x d <= 400 := by unfold bF; exact fq576 hd.1 hd.2 h1
    have pa : 0 < (y.1.natAbs : Int) * 10 ^ (y.2 - min y.2 x.2).toNat := Int.mul_pos (by have : y.1 ≠ 0 := hy; exact fq60 hy) (Int.pow_pos (by decide))
    have pb : 0 < (x.1.natAbs : Int) * 10 ^ (x.2 - min y.2 x.2).toNat := Int.mul_pos (by lia -abstractProof) (Int.pow_pos (by decide))
    have ta : aC ((y.1.natAbs : Int) * 10 ^ (y.2 - min y.2 x.2).toNat) 900 := (aC.mul W.ty.natAbs (aC.pow _)).mono (by exact fq533 ex.1 ey.2)
    have tb : aC ((x.1.natAbs : Int) * 10 ^ (x.2 - min y.2 x.2).toNat) 900 := (aC.mul W.tx.natAbs (aC.pow _)).mono (by exact fq532 ey.1 ex.2)
    obtain ⟨r1, r2⟩ := W.ha hy hx0
    refine bT ?_; walk_at "sts"; refine ae (mO H.B _ _) ?_; walk_at "sts"
    refine bT ?_; walk_at "sts"; refine ae (dh H.B _) ?_; walk_at "sts"
    refine bT ?_; walk_at "sts"; refine ae (dh H.B _) ?_; walk_at "sts"
    refine ca (HH.cS ‹_›) ?_; walk_at "sts"
    refine bT ?_; walk_at "sts"
    refine am 16 ?_; walk_at "sts"; refine ae (dl H _) ?_; walk_at "sts"
    refine am 16 ?_; walk_at "sts"; refine ae (dl H _) ?_; walk_at "sts"
    refine ae (dM H.B _ _) ?_; walk_at "sts"
    rw [show 2 * d + 10 + max 0 (ak x - ak y) = bF y x d from rfl]
    refine am 38 ?_; walk_at "sts"; refine ae (ku H _ _ _ hP pa pb ta tb) ?_
    unfold aA; simp only [decide_eq_false hy, decide_eq_false hx0, cond_false]
    unfold bn at r1 r2 |-
    walk_at "go"
    · rename_i hx
      have hx : x.1 < 0 := hx
      simp only [decide_eq_true hx, cond_true] at r1 r2 |-
      refine am 23 ?_; walk_at "sts"; refine ae (eJ H _ (by exact fq54 hP.1 hP.2)) ?_; walk_at "sts"
      refine am 8 ?_; walk_at "sts"; refine ae (a9 H _ _ _ _ r1 r2) ?_; walk_at "sts"
    · rename_i hx
      have hx : ¬ x.1 < 0 := hx
      simp only [decide_eq_false hx, cond_false] at r1 r2 |-
      refine am 8 ?_; walk_at "sts"; refine ae (a9 H _ _ _ _ r1 r2) ?_; walk_at "sts"
end

section
structure PairOk (x : Re) (d : Int) : Prop where
  hP : 0 <= ac (bL x) d /\ ac (bL x) d <= 400
  hT : TenOk (ac (bL x) d)
  hx : aC x.1 100
  he : -400 <= x.2 /\ x.2 <= 400
  hk : 0 <= dz (bL x) d /\ dz (bL x) d <= 300
  hf : 0 < ds (bL x) d
  tf : aC (ds (bL x) d) 600

theorem jr {g : G} (H : HH g) (x : Re) (d : Int) (W : PairOk x d) :
    Ret g 5 "exp_pair" [re x, .int d] (.tup [.int (az x d), .int (aD x d), .int (ac (bL x) d)]) := by
  refine aS (d := au 41) (H.D 41 rfl) (H.ok 41 rfl) (by walk_at "binds") rfl ?_
  have hP := W.hP
  have hk := W.hk
  have k1 : 0 <= dz (bL x) d := hk.1
  have k2 : dz (bL x) d <= 100000 := by exact fq479 hk.2
  have q1 : 0 <= 2 * ac (bL x) d := by exact fq399 hP.1
  have q2 : 2 * ac (bL x) d <= 100000 := by exact fq481 hP.2
  have tg : aC (az x d) 901 := (aC.mul W.tf (aC.pow _)).mono (by exact fq478 hk.2)
  have sf : ar (ds (bL x) d) := W.tf.small (by decide)
  have sk : ar (10 ^ (dz (bL x) d).toNat) := cB (by exact fq477 hk.2)
  have sg : ar (az x d) := tg.small (by decide)
  have pg : 0 < az x d := Int.mul_pos W.hf (Int.pow_pos (by decide))
  walk_at "go"
  refine am 25 ?_; walk_at "sts"
  refine bT ?_; walk_at "sts"; refine ae (dh H.B _) ?_; walk_at "sts"
  refine ae (iU H (bL x) _ hP W.hT W.hx.natAbs W.he) ?_; walk_at "sts"
  rfl

theorem gW {g : G} (H : HH g) (x : Re) (top : Int) (hg : ak x <= nd top + 1) : Ret g 4 "check_great" [re x, .int top] .none := by
  refine aS (d := au 42) (H.D 42 rfl) (H.ok 42 rfl) (by walk_at "binds") rfl ?_
  walk_at "go"
  refine am 26 ?_; walk_at "sts"; refine ae (gj H _ _) ?_; walk_at "sts"
  · rename_i h
    have h : nd top + 1 < ak x := h
    lia -abstractProof

noncomputable def kR (x : Re) (d : Int) : Int := bif decide (x.1 < 0) then -((az x d - aD x d) * 5) else (az x d - aD x d) * 5

theorem lN {g : G} (H : HH g) (x : Re) (d top : Int) (hd : 1 <= d) (hx : aC x.1 100) (hu : bC x d = true -> (ai x.1 x.2 d).2 + nd (ai x.1 x.2 d).1 - 1 <= top)
    (hg : bC x d = false -> ak x <= nd top + 1) (W : bC x d = false -> PairOk x d)
    (hr : bC x d = false -> nd (kR x d) - d < 2300)
    (ht : bC x d = false -> (ai (kR x d) (-ac (bL x) d - 1) d).2 + nd (ai (kR x d) (-ac (bL x) d - 1) d).1 - 1 <= top) :
    Ret g 6 "sinh_real" [re x, .int d, .int top] (re (aP x d top)) := by
  refine aS (d := au 43) (H.D 43 rfl) (H.ok 43 rfl) (by walk_at "binds") rfl ?_
  have n1 := fP hx
  unfold aP
  walk_at "go"
  refine am 33 ?_; walk_at "sts"; refine ae (fO H _ _) ?_
  refine ⟨_, rfl, fun h => ?_, fun h => ?_⟩
  · rw [h]
    walk_at "sts"
    refine am 8 ?_; walk_at "sts"; refine ae (a9 H _ _ _ _ (by exact fq203 hd n1) (hu h)) ?_; walk_at "sts"
    rfl
  · rw [h]
    walk_at "sts"
    refine am 42 ?_; walk_at "sts"; refine ae (gW H _ _ (hg h)) ?_; walk_at "sts"
    refine am 41 ?_; walk_at "sts"; refine ae (jr H _ _ (W h)) ?_; walk_at "sts"
    refine am 8 ?_; walk_at "sts"; refine ae (a9 H (kR x d) _ _ _ (hr h) (ht h)) ?_; walk_at "sts"
    rfl

theorem lQ {g : G} (H : HH g) (x : Re) (d top : Int)
    (hg : bC x d = false -> ak x <= nd top + 1) (W : bC x d = false -> PairOk x d)
    (hr : bC x d = false -> nd ((az x d + aD x d) * 5) - d < 2300)
    (ht : bC x d = false -> (ai ((az x d + aD x d) * 5) (-ac (bL x) d - 1) d).2 + nd (ai ((az x d + aD x d) * 5) (-ac (bL x) d - 1) d).1 - 1 <= top) :
    Ret g 6 "cosh_real" [re x, .int d, .int top] (re (bf x d top)) := by
  refine aS (d := au 44) (H.D 44 rfl) (H.ok 44 rfl) (by walk_at "binds") rfl ?_
  unfold bf
  walk_at "go"
  refine am 33 ?_; walk_at "sts"; refine ae (fO H _ _) ?_
  refine ⟨_, rfl, fun h => ?_, fun h => ?_⟩
  · rw [h]
    walk_at "sts"
    rfl
  · rw [h]
    walk_at "sts"
    refine am 42 ?_; walk_at "sts"; refine ae (gW H _ _ (hg h)) ?_; walk_at "sts"
    refine am 41 ?_; walk_at "sts"; refine ae (jr H _ _ (W h)) ?_; walk_at "sts"
    refine am 8 ?_; walk_at "sts"; refine ae (a9 H _ _ _ _ (hr h) (ht h)) ?_; walk_at "sts"
    rfl

/-- what round_real asks -/
structure RdOk (m e d top : Int) : Prop where
  hr : nd m - d < 2300
  ht : (ai m e d).2 + nd (ai m e d).1 - 1 <= top

theorem b9 {g : G} (H : HH g) (z : Cc) (d top : Int) (h1 : RdOk z.1.1 z.1.2 d top) (h2 : RdOk z.2.1 z.2.2 d top) :
    Ret g 4 "round_parts" [cx z, .int d, .int top] (cx (cj z d top)) := by
  refine aS (d := au 46) (H.D 46 rfl) (H.ok 46 rfl) (by walk_at "binds") rfl ?_
  walk_at "go"
  refine am 8 ?_; walk_at "sts"; refine ae (a9 H _ _ _ _ h1.hr h1.ht) ?_; walk_at "sts"
  refine am 8 ?_; walk_at "sts"; refine ae (a9 H _ _ _ _ h2.hr h2.ht) ?_; walk_at "sts"
  rfl

theorem dL {g : G} (H : HH g) (top : Int) : Ret g 1 "wide_top" [.int top] (.int (ap top)) := by
  refine aS (d := au 49) (H.D 49 rfl) (H.ok 49 rfl) (by walk_at "binds") rfl ?_
  walk_at "go"
  rfl

structure NearE (x y : Re) : Prop where
  h1 : x.2 - y.2 < 500
  h2 : y.2 - x.2 < 500

theorem eZ {g : G} (H : HH g) (z : Cc) (t1 : aC z.1.1 100) (t2 : aC z.2.1 100) (hN : NearE z.1 z.2) : Ret g 2 "size_square" [cx z] (re (ag z)) := by
  refine aS (d := au 50) (H.D 50 rfl) (H.ok 50 rfl) (by walk_at "binds") rfl ?_
  have h1 := hN.h1
  have h2 := hN.h2
  walk_at "go"
  refine am 9 ?_; walk_at "sts"
  refine am 10 ?_; walk_at "sts"; refine ae (cK H _ _ (t1.small (by decide)) (t1.small (by decide))) ?_; walk_at "sts"
  refine am 10 ?_; walk_at "sts"; refine ae (cK H _ _ (t2.small (by decide)) (t2.small (by decide))) ?_; walk_at "sts"
  refine ae (iV H _ _ ((aC.mul t1 t1).small (by decide)) ((aC.mul t2 t2).small (by decide)) ?_ ?_) ?_
  · show z.1.2 + z.1.2 - (z.2.2 + z.2.2) < 2300; exact fq211 h1
  · show z.2.2 + z.2.2 - (z.1.2 + z.1.2) < 2300; exact fq211 h2
  walk_at "sts"
  rfl

theorem fW {g : G} (H : HH g) (z : Cc) : Ret g 1 "is_nought" [cx z] (.bool (bK z)) := by
  refine aS (d := au 51) (H.D 51 rfl) (H.ok 51 rfl) (by walk_at "binds") rfl ?_
  walk_at "go"
  rfl
theorem i5 {g : G} (H : HH g) (x : Re) : Ret g 1 "halved" [re x] (re (cE x)) := by
  refine aS (d := au 52) (H.D 52 rfl) (H.ok 52 rfl) (by walk_at "binds") rfl ?_
  walk_at "go"
  rfl
end

section
structure SqOk (x : Re) (d top : Int) : Prop where
  h0 : 0 <= x.1
  hx : ar x.1
  hd : 0 <= d /\ d <= 100
  hsq : ar (gh x d)
  hq : nd (gh x d) < 2300
  rd : x.1 ≠ 0 -> RdOk (fJ x d) (gE x d) d top
theorem SqOk.ret {x : Re} {d top : Int} (W : SqOk x d top) {g : G} (H : HH g) : Ret g 4 "sqrt_real" [re x, .int d, .int top] (re (bv x d top)) :=
  lM H x d top W.h0 W.hx W.hd W.hsq W.hq (fun h => (W.rd h).hr) fun h => (W.rd h).ht

structure ExpOk (x : Re) (d top : Int) : Prop where
  hP : 0 <= ac x d /\ ac x d <= 400
  hT : TenOk (ac x d)
  hx : aC x.1 100
  he : -400 <= x.2 /\ x.2 <= 400
  hg : ak x <= nd top + 1
  rd : RdOk (ds x d) (dz x d - ac x d) d top
theorem ExpOk.ret {x : Re} {d top : Int} (W : ExpOk x d top) {g : G} (H : HH g) : Ret g 5 "exp_real" [re x, .int d, .int top] (re (aQ x d top)) :=
  mR H x d top W.hP W.hT W.hx W.he W.hg W.rd.hr W.rd.ht

structure LogOk (x : Re) (d top : Int) : Prop where
  hP : 0 <= ac x d /\ ac x d <= 400
  hT : TenOk (ac x d)
  hx : aC x.1 100
  hm : 1 <= x.1
  he : -400 <= x.2 /\ x.2 <= 400
  rd : RdOk ((x.2 + aV x.1 - 1) * aY (ac x d) + mY x d) (-ac x d) d top
theorem LogOk.ret {x : Re} {d top : Int} (W : LogOk x d top) {g : G} (H : HH g) : Ret g 5 "log_real" [re x, .int d, .int top] (re (dB x d top)) :=
  mP H x d top W.hP W.hT W.hx W.hm W.he W.rd.hr W.rd.ht

structure SinOk (x : Re) (d top : Int) : Prop where
  hd : 1 <= d
  hW : bC x d = false -> WaveOk x d 0 top
  hx : aC x.1 100
  hu : (ai x.1 x.2 d).2 + nd (ai x.1 x.2 d).1 - 1 <= top
theorem SinOk.ret {x : Re} {d top : Int} (W : SinOk x d top) {g : G} (H : HH g) : Ret g 5 "sin_real" [re x, .int d, .int top] (re (aw x d top)) :=
  mJ H x d top W.hd W.hW W.hx W.hu

structure HypOk (x : Re) (d top : Int) : Prop where
  hd : 1 <= d
  hx : aC x.1 100
  hu : bC x d = true -> (ai x.1 x.2 d).2 + nd (ai x.1 x.2 d).1 - 1 <= top
  hg : bC x d = false -> ak x <= nd top + 1
  W : bC x d = false -> PairOk x d
  rs : bC x d = false -> RdOk (kR x d) (-ac (bL x) d - 1) d top
  rc : bC x d = false -> RdOk ((az x d + aD x d) * 5) (-ac (bL x) d - 1) d top
theorem HypOk.rets {x : Re} {d top : Int} (W : HypOk x d top) {g : G} (H : HH g) : Ret g 6 "sinh_real" [re x, .int d, .int top] (re (aP x d top)) :=
  lN H x d top W.hd W.hx W.hu W.hg W.W (fun h => (W.rs h).hr) fun h => (W.rs h).ht
theorem HypOk.retc {x : Re} {d top : Int} (W : HypOk x d top) {g : G} (H : HH g) : Ret g 6 "cosh_real" [re x, .int d, .int top] (re (bf x d top)) :=
  lQ H x d top W.hg W.W (fun h => (W.rc h).hr) fun h => (W.rc h).ht

structure ZOk (z : Cc) : Prop where
  t1 : aC z.1.1 100
  t2 : aC z.2.1 100
  hN : NearE z.1 z.2

theorem e8 {g : G} (H : HH g) (z : Cc) (d top : Int) (hz : ZOk z) (W : SqOk (ag z) d top) :
    Ret g 5 "complex_abs" [cx z, .int d, .int top] (re (aU z d top)) := by
  refine aS (d := au 53) (H.D 53 rfl) (H.ok 53 rfl) (by walk_at "binds") rfl ?_
  walk_at "go"
  refine am 20 ?_; walk_at "sts"
  refine am 50 ?_; walk_at "sts"; refine ae (eZ H _ hz.t1 hz.t2 hz.hN) ?_; walk_at "sts"
  refine ae (W.ret H) ?_; walk_at "sts"
  rfl

structure CSqrtOk (z : Cc) (d top : Int) : Prop where
  hz : ZOk z
  w1 : SqOk (ag z) (d + 10) (ap top)
  sx : ar (bv (ag z) (d + 10) (ap top)).1
  e1 : (bv (ag z) (d + 10) (ap top)).2 - z.1.2 < 2300
  e2 : z.1.2 - (bv (ag z) (d + 10) (ap top)).2 < 2300
  w2 : SqOk (cE (bE (bv (ag z) (d + 10) (ap top)) (bL z.1))) (d + 10) (ap top)
  g0 : (aJ z d top).1 ≠ 0
  gs : ar (aJ z d top).1
  gn : d + 10 + 2 + nd (aJ z d top).1 - nd (cE (bL z.2)).1 < 2300
  gk : ar (((cE (bL z.2)).1.natAbs : Int) * 10 ^ (max (d + 10 + 2 + nd (aJ z d top).1 - nd (cE (bL z.2)).1) 0).toNat)
  gr : RdOk (aO (cE (bL z.2)).1 (aJ z d top).1 ((cE (bL z.2)).2 - (aJ z d top).2) (d + 10)).1 (aO (cE (bL z.2)).1 (aJ z d top).1 ((cE (bL z.2)).2 - (aJ z d top).2) (d + 10)).2 (d + 10) (ap top)
  rg : RdOk (aJ z d top).1 (aJ z d top).2 d top
  rgn : RdOk (-(aJ z d top).1) (aJ z d top).2 d top
  rs : RdOk (bi z d top).1 (bi z d top).2 d top
  rsn : RdOk (-(bi z d top).1) (bi z d top).2 d top

theorem eD {g : G} (H : HH g) (z : Cc) (d top : Int) (W : bK z = false -> CSqrtOk z d top) :
    Ret g 6 "complex_sqrt" [cx z, .int d, .int top] (cx (aR z d top)) := by
  refine aS (d := au 54) (H.D 54 rfl) (H.ok 54 rfl) (by walk_at "binds") rfl ?_
  unfold aR
  walk_at "go"
  refine am 51 ?_; walk_at "sts"; refine ae (fW H _) ?_
  refine ⟨_, rfl, fun h => ?_, fun h => ?_⟩
  · rw [h]
    walk_at "sts"
    refine ca (HH.cN ‹_›) ?_; walk_at "sts"
    refine ca (HH.cN ‹_›) ?_; walk_at "sts"
    rfl
  · rw [h]
    have W := W h
    walk_at "sts"
    refine ca (HH.cM ‹_›) ?_; walk_at "sts"
    refine am 49 ?_; walk_at "sts"; refine ae (dL H _) ?_; walk_at "sts"
    refine am 20 ?_; walk_at "sts"
    refine am 50 ?_; walk_at "sts"; refine ae (eZ H _ W.hz.t1 W.hz.t2 W.hz.hN) ?_; walk_at "sts"
    refine ae (W.w1.ret H) ?_; walk_at "sts"
    refine am 52 ?_; walk_at "sts"
    refine am 9 ?_; walk_at "sts"
    refine bT ?_; walk_at "sts"; refine ae (dh H.B _) ?_; walk_at "sts"
    refine ae (iV H _ (bL z.1) W.sx (W.hz.t1.natAbs.small (by decide)) W.e1 W.e2) ?_; walk_at "sts"
    refine ae (i5 H _) ?_; walk_at "sts"
    refine am 20 ?_; walk_at "sts"
    refine ae (W.w2.ret H) ?_
    rw [show bv (cE (bE (bv (ag z) (d + 10) (ap top)) (bL z.1))) (d + 10) (ap top) = aJ z d top from rfl]
    walk_at "sts"
    refine am 13 ?_; walk_at "sts"
    refine am 52 ?_; walk_at "sts"
    refine bT ?_; walk_at "sts"; refine ae (dh H.B _) ?_; walk_at "sts"
    refine ae (i5 H (bL z.2)) ?_; walk_at "sts"
    refine ae (mK H _ _ _ _ W.g0 ((aC.mul W.hz.t2.natAbs (show aC 5 1 by unfold aC; decide)).small (by decide)) W.gs W.gn W.gk W.gr.hr W.gr.ht) ?_
    rw [show cv (cE (bL z.2)) (aJ z d top) (d + 10) (ap top) = bi z d top from rfl]
    walk_at "stsP"
    · rename_i hx hy
      have hx : z.1.1 < 0 := hx
      have hy : z.2.1 < 0 := hy
      refine am 11 ?_; walk_at "sts"; refine ae (gG H _) ?_; walk_at "sts"
      refine am 46 ?_; walk_at "sts"; refine ae (b9 H (bi z d top, cZ (aJ z d top)) _ _ W.rs W.rgn) ?_; walk_at "sts"
      simp only [decide_eq_true hx, decide_eq_true hy, cond_true, cond_false]
    · rename_i hx hy
      have hx : z.1.1 < 0 := hx
      have hy : ¬ z.2.1 < 0 := hy
      refine am 46 ?_; walk_at "sts"; refine ae (b9 H (bi z d top, aJ z d top) _ _ W.rs W.rg) ?_; walk_at "sts"
      simp only [decide_eq_true hx, decide_eq_false hy, cond_true, cond_false]
    · rename_i hx hy
      have hx : ¬ z.1.1 < 0 := hx
      have hy : z.2.1 < 0 := hy
      refine am 11 ?_; walk_at "sts"; refine ae (gG H _) ?_; walk_at "sts"
      refine am 46 ?_; walk_at "sts"; refine ae (b9 H (aJ z d top, cZ (bi z d top)) _ _ W.rg W.rsn) ?_; walk_at "sts"
      simp only [decide_eq_false hx, decide_eq_true hy, cond_true, cond_false]
    · rename_i hx hy
      have hx : ¬ z.1.1 < 0 := hx
      have hy : ¬ z.2.1 < 0 := hy
      refine am 46 ?_; walk_at "sts"; refine ae (b9 H (aJ z d top, bi z d top) _ _ W.rg W.rs) ?_; walk_at "sts"
      simp only [decide_eq_false hx, decide_eq_false hy, cond_true, cond_false]
end

section
structure CExpOk (z : Cc) (d top : Int) : Prop where
  we : ExpOk z.1 (d + 10) (ap top)
  ws : SinOk z.2 (d + 10) (ap top)
  wc : bC z.2 (d + 10) = false -> WaveOk z.2 (d + 10) 1 (ap top)
  se : ar (aQ z.1 (d + 10) (ap top)).1
  ss : ar (aw z.2 (d + 10) (ap top)).1
  sc : ar (aN z.2 (d + 10) (ap top)).1
  r1 : RdOk (ao (aQ z.1 (d + 10) (ap top)) (aN z.2 (d + 10) (ap top))).1 (ao (aQ z.1 (d + 10) (ap top)) (aN z.2 (d + 10) (ap top))).2 d top
  r2 : RdOk (ao (aQ z.1 (d + 10) (ap top)) (aw z.2 (d + 10) (ap top))).1 (ao (aQ z.1 (d + 10) (ap top)) (aw z.2 (d + 10) (ap top))).2 d top

theorem cD {g : G} (H : HH g) (z : Cc) (d top : Int) (W : CExpOk z d top) :
    Ret g 6 "complex_exp" [cx z, .int d, .int top] (cx (aT z d top)) := by
  refine aS (d := au 55) (H.D 55 rfl) (H.ok 55 rfl) (by walk_at "binds") rfl ?_
  walk_at "go"
  refine ca (HH.cM ‹_›) ?_; walk_at "sts"
  refine am 49 ?_; walk_at "sts"; refine ae (dL H _) ?_; walk_at "sts"
  refine am 27 ?_; walk_at "sts"; refine ae (W.we.ret H) ?_; walk_at "sts"
  refine am 10 ?_; walk_at "sts"
  refine am 35 ?_; walk_at "sts"; refine ae (gI H _ _ _ W.wc) ?_; walk_at "sts"
  refine ae (cK H _ _ W.se W.sc) ?_; walk_at "sts"
  refine am 10 ?_; walk_at "sts"
  refine am 34 ?_; walk_at "sts"; refine ae (W.ws.ret H) ?_; walk_at "sts"
  refine ae (cK H _ _ W.se W.ss) ?_; walk_at "sts"
  refine am 46 ?_; walk_at "sts"
  refine ae (b9 H (ao (aQ z.1 (d + 10) (ap top)) (aN z.2 (d + 10) (ap top)), ao (aQ z.1 (d + 10) (ap top)) (aw z.2 (d + 10) (ap top))) _ _ W.r1 W.r2) ?_
  walk_at "sts"
  rfl

structure CLogOk (z : Cc) (d top : Int) : Prop where
  hz : ZOk z
  nz : bK z = false
  wl : LogOk (ag z) (d + 10) (ap top)
  wa : AtanOk z.2 z.1 (d + 10) (ap top)
  r1 : RdOk (cE (dB (ag z) (d + 10) (ap top))).1 (cE (dB (ag z) (d + 10) (ap top))).2 d top
  r2 : RdOk (aA z.2 z.1 (d + 10) (ap top)).1 (aA z.2 z.1 (d + 10) (ap top)).2 d top

theorem mQ {g : G} (H : HH g) (z : Cc) (d top : Int) (hz : ZOk z) (nz : bK z = false) (wl : LogOk (ag z) d top) (wa : AtanOk z.2 z.1 d top) :
    Ret g 6 "log_both" [cx z, .int d, .int top] (cx (rB z d top)) := by
  refine aS (d := au 56) (H.D 56 rfl) (H.ok 56 rfl) (by walk_at "binds") rfl ?_
  walk_at "go"
  refine am 51 ?_; walk_at "sts"; refine ae (fW H _) ?_
  refine ⟨_, rfl, fun h => ?_, fun h => ?_⟩
  · rw [nz] at h; cases h
  · walk_at "sts"
    refine am 52 ?_; walk_at "sts"
    refine am 30 ?_; walk_at "sts"
    refine am 50 ?_; walk_at "sts"; refine ae (eZ H _ hz.t1 hz.t2 hz.hN) ?_; walk_at "sts"
    refine ae (wl.ret H) ?_; walk_at "sts"
    refine ae (i5 H _) ?_; walk_at "sts"
    refine am 40 ?_; walk_at "sts"; refine ae (kW H _ _ _ _ wa) ?_; walk_at "sts"
    rfl

theorem e7 {g : G} (H : HH g) (z : Cc) (d top : Int) (W : CLogOk z d top) :
    Ret g 7 "complex_log" [cx z, .int d, .int top] (cx (bk z d top)) := by
  refine aS (d := au 57) (H.D 57 rfl) (H.ok 57 rfl) (by walk_at "binds") rfl ?_
  walk_at "go"
  refine am 46 ?_; walk_at "sts"
  refine am 56 ?_; walk_at "sts"
  refine ca (HH.cM ‹_›) ?_; walk_at "sts"
  refine am 49 ?_; walk_at "sts"; refine ae (dL H _) ?_; walk_at "sts"
  refine ae (mQ H _ _ _ W.hz W.nz W.wl W.wa) ?_; walk_at "sts"
  refine ae (b9 H _ _ _ W.r1 W.r2) ?_; walk_at "sts"
  rfl

structure CTrigOk (z : Cc) (d top : Int) : Prop where
  ws : SinOk z.1 (d + 10) (ap top)
  wc : bC z.1 (d + 10) = false -> WaveOk z.1 (d + 10) 1 (ap top)
  wh : HypOk z.2 (d + 10) (ap top)
  ss : ar (aw z.1 (d + 10) (ap top)).1
  sc : ar (aN z.1 (d + 10) (ap top)).1
  hs : ar (aP z.2 (d + 10) (ap top)).1
  hc : ar (bf z.2 (d + 10) (ap top)).1
  r1 : RdOk (ao (aw z.1 (d + 10) (ap top)) (bf z.2 (d + 10) (ap top))).1 (ao (aw z.1 (d + 10) (ap top)) (bf z.2 (d + 10) (ap top))).2 d top
  r2 : RdOk (ao (aN z.1 (d + 10) (ap top)) (aP z.2 (d + 10) (ap top))).1 (ao (aN z.1 (d + 10) (ap top)) (aP z.2 (d + 10) (ap top))).2 d top
  r3 : RdOk (ao (aN z.1 (d + 10) (ap top)) (bf z.2 (d + 10) (ap top))).1 (ao (aN z.1 (d + 10) (ap top)) (bf z.2 (d + 10) (ap top))).2 d top
  r4 : RdOk (cZ (ao (aw z.1 (d + 10) (ap top)) (aP z.2 (d + 10) (ap top)))).1 (cZ (ao (aw z.1 (d + 10) (ap top)) (aP z.2 (d + 10) (ap top)))).2 d top

theorem dU {g : G} (H : HH g) (z : Cc) (d top : Int) (W : CTrigOk z d top) :
    Ret g 7 "complex_sin" [cx z, .int d, .int top] (cx (bO z d top)) := by
  refine aS (d := au 58) (H.D 58 rfl) (H.ok 58 rfl) (by walk_at "binds") rfl ?_
  walk_at "go"
  refine ca (HH.cM ‹_›) ?_; walk_at "sts"
  refine am 49 ?_; walk_at "sts"; refine ae (dL H _) ?_; walk_at "sts"
  refine am 10 ?_; walk_at "sts"
  refine am 34 ?_; walk_at "sts"; refine ae (W.ws.ret H) ?_; walk_at "sts"
  refine am 44 ?_; walk_at "sts"; refine ae (W.wh.retc H) ?_; walk_at "sts"
  refine ae (cK H _ _ W.ss W.hc) ?_; walk_at "sts"
  refine am 10 ?_; walk_at "sts"
  refine am 35 ?_; walk_at "sts"; refine ae (gI H _ _ _ W.wc) ?_; walk_at "sts"
  refine am 43 ?_; walk_at "sts"; refine ae (W.wh.rets H) ?_; walk_at "sts"
  refine ae (cK H _ _ W.sc W.hs) ?_; walk_at "sts"
  refine am 46 ?_; walk_at "sts"
  refine ae (b9 H (ao (aw z.1 (d + 10) (ap top)) (bf z.2 (d + 10) (ap top)), ao (aN z.1 (d + 10) (ap top)) (aP z.2 (d + 10) (ap top))) _ _ W.r1 W.r2) ?_; walk_at "sts"
  rfl

theorem dV {g : G} (H : HH g) (z : Cc) (d top : Int) (W : CTrigOk z d top) :
    Ret g 7 "complex_cos" [cx z, .int d, .int top] (cx (bP z d top)) := by
  refine aS (d := au 59) (H.D 59 rfl) (H.ok 59 rfl) (by walk_at "binds") rfl ?_
  walk_at "go"
  refine ca (HH.cM ‹_›) ?_; walk_at "sts"
  refine am 49 ?_; walk_at "sts"; refine ae (dL H _) ?_; walk_at "sts"
  refine am 10 ?_; walk_at "sts"
  refine am 35 ?_; walk_at "sts"; refine ae (gI H _ _ _ W.wc) ?_; walk_at "sts"
  refine am 44 ?_; walk_at "sts"; refine ae (W.wh.retc H) ?_; walk_at "sts"
  refine ae (cK H _ _ W.sc W.hc) ?_; walk_at "sts"
  refine am 10 ?_; walk_at "sts"
  refine am 34 ?_; walk_at "sts"; refine ae (W.ws.ret H) ?_; walk_at "sts"
  refine am 43 ?_; walk_at "sts"; refine ae (W.wh.rets H) ?_; walk_at "sts"
  refine ae (cK H _ _ W.ss W.hs) ?_; walk_at "sts"
  refine am 46 ?_; walk_at "sts"
  refine am 11 ?_; walk_at "sts"; refine ae (gG H _) ?_; walk_at "sts"
  refine ae (b9 H (ao (aN z.1 (d + 10) (ap top)) (bf z.2 (d + 10) (ap top)), cZ (ao (aw z.1 (d + 10) (ap top)) (aP z.2 (d + 10) (ap top)))) _ _ W.r3 W.r4) ?_; walk_at "sts"
  rfl
end

section
theorem uO {n : Nat} (h : 0 < n) : (Nat.repr n).length = g8 n := by
  have h1 : 1 <= g8 n := by rw [fQ h]; exact wi
  have a := (Nat.length_repr_le_iff (n := n) (k := g8 n) (by exact fq745 h1)).mpr (mV n)
  by_cases h2 : g8 n = 1
  · have h3 : n < 10 := by have := mV n; rw [h2] at this; exact fq791 this
    rw [h2]
    have : ∀ k : Fin 10, (Nat.repr k.val).length = 1 := by decide +kernel
    exact this ⟨n, h3⟩
  · rcases Nat.lt_or_ge (Nat.repr n).length (g8 n) with h4 | h4
    · have h5 := (Nat.length_repr_le_iff (n := n) (k := g8 n - 1) (by exact fq748 h1 h2)).mp (by exact fq874 h4)
      have := uU h
      exact fq923 h5 this
    · exact fq288 a h4

theorem mG {n : Int} (h : 0 < n) : ((Str.ofString (toString n)).length : Int) = nd n := by
  obtain ⟨N, rfl⟩ : ∃ N : Nat, n = N := ⟨n.toNat, by exact fq390 h⟩
  rw [PySem.ofString_length]
  have e : toString (N : Int) = Nat.repr N := rfl
  rw [e, uO (by exact fq251 h)]
  unfold nd; simp

theorem mF {a : Int} {n : Nat} (h : aC a n) (hn : n <= 500) : a.natAbs < 2 ^ 1900 :=
  Nat.lt_of_lt_of_le h (Nat.le_trans (Nat.pow_le_pow_right (by decide) hn) (by decide +kernel))

theorem cw {g : G} (H : HH g) (x y : Re) (hx : ar x.1) (hy : ar y.1) (h1 : x.2 - y.2 < 2300) (h2 : y.2 - x.2 < 2300) : Ret g 1 "_law_sum" [re x, re y] (re (bo x y)) := by
  refine aS (d := au 63) (H.D 63 rfl) (H.ok 63 rfl) (by walk_at "binds") rfl ?_
  have p1 : 0 <= x.2 - min x.2 y.2 := by exact fq93
  have p2 : 0 <= y.2 - min x.2 y.2 := by exact fq94
  have q1 : x.2 - min x.2 y.2 <= 100000 := by exact fq209 h1
  have q2 : y.2 - min x.2 y.2 <= 100000 := by exact fq210 h2
  have s1 : ar (10 ^ (x.2 - min x.2 y.2).toNat) := cB (by exact fq207 h1)
  have s2 : ar (10 ^ (y.2 - min x.2 y.2).toNat) := cB (by exact fq208 h2)
  walk_at "go"
  refine bT ?_; walk_at "sts"; refine ae (mO H.B _ _) ?_; walk_at "sts"
  rfl

theorem bG {g : G} (H : HH g) (x : Re) : Ret g 1 "_law_turned" [re x] (re (ah x)) := by
  refine aS (d := au 65) (H.D 65 rfl) (H.ok 65 rfl) (by walk_at "binds") rfl ?_
  walk_at "go"
  rfl

/-- decimals of the law's size -/
structure Bd (x : Re) : Prop where
  t : aC x.1 20
  e : -60 <= x.2 /\ x.2 <= 60
structure BdC (z : Cc) : Prop where
  a : Bd z.1
  b : Bd z.2

theorem dT {g : G} (H : HH g) (z w : Cc) (hz : BdC z) (hw : BdC w) : Ret g 2 "_law_product" [cx z, cx w] (cx (bq z w)) := by
  refine aS (d := au 64) (H.D 64 rfl) (H.ok 64 rfl) (by walk_at "binds") rfl ?_
  have e1 := hz.a.e
  have e2 := hz.b.e
  have e3 := hw.a.e
  have e4 := hw.b.e
  have s1 : ar z.1.1 := hz.a.t.small (by decide)
  have s2 : ar z.2.1 := hz.b.t.small (by decide)
  have s3 : ar w.1.1 := hw.a.t.small (by decide)
  have s4 : ar w.2.1 := hw.b.t.small (by decide)
  have s5 : ar (-z.2.1) := hz.b.t.neg.small (by decide)
  walk_at "go"
  refine am 63 ?_; walk_at "sts"
  refine ae (cw H (z.1.1 * w.1.1, z.1.2 + w.1.2) (-z.2.1 * w.2.1, z.2.2 + w.2.2) ((aC.mul hz.a.t hw.a.t).small (by decide)) ((aC.mul hz.b.t.neg hw.b.t).small (by decide)) (by show z.1.2 + w.1.2 - (z.2.2 + w.2.2) < 2300; exact fq65 e2.1 e4.1 e1.2 e3.2) (by show z.2.2 + w.2.2 - (z.1.2 + w.1.2) < 2300; exact fq65 e1.1 e3.1 e2.2 e4.2)) ?_
  walk_at "sts"
  refine am 63 ?_; walk_at "sts"
  refine ae (cw H (z.1.1 * w.2.1, z.1.2 + w.2.2) (z.2.1 * w.1.1, z.2.2 + w.1.2) ((aC.mul hz.a.t hw.b.t).small (by decide)) ((aC.mul hz.b.t hw.a.t).small (by decide)) (by show z.1.2 + w.2.2 - (z.2.2 + w.1.2) < 2300; exact fq65 e2.1 e3.1 e1.2 e4.2) (by show z.2.2 + w.1.2 - (z.1.2 + w.2.2) < 2300; exact fq65 e1.1 e4.1 e2.2 e3.2)) ?_
  walk_at "sts"
  rfl

theorem natAbs_pos {n : Int} (h : n ≠ 0) : (0 : Int) < n.natAbs := by exact fq60 h

theorem cu {g : G} (H : HH g) (z : Cc) (h1 : aC z.1.1 400) (h2 : aC z.2.1 400) : Ret g 1 "_law_lead" [cx z] (.int (aW z)) := by
  refine aS (d := au 66) (H.D 66 rfl) (H.ok 66 rfl) (by walk_at "binds") rfl ?_
  walk_at "go"
  refine rJ ?_ (fun _ _ => rfl)
  walk_at "sts"
  refine ⟨_, rfl, ?_⟩
  refine fA [("z", cx z), ("found", .int (cF z.1 (-999))), ("m", .int z.1.1), ("e", .int z.1.2)] ?_ (fA [("z", cx z), ("found", .int (aW z)), ("m", .int z.2.1), ("e", .int z.2.2)] ?_ (lq ?_))
  · refine lJ rfl rfl rfl ?_
    walk_at "go"
    · rename_i h
      have h : z.1.1 ≠ 0 := h
      refine bT ?_; walk_at "sts"
      refine bT ?_; walk_at "sts"
      refine bT ?_; walk_at "sts"
      refine bT ?_; walk_at "sts"; refine ae (dh H.B _) ?_; walk_at "sts"
      refine ae (kA H.B _ (mF h1.natAbs (by decide))) ?_; walk_at "sts"
      have e1 := mG (natAbs_pos h)
      have e2 : nd (z.1.1.natAbs : Int) = nd z.1.1 := by unfold nd; simp
      have e3 := fP h1
      refine ae (kB H.B _ (by exact fq182 e1 e2 e3)) ?_; walk_at "sts"
      refine ae (dM H.B _ _) ?_; walk_at "sts"
      rw [e1, e2]
      unfold cF; rw [decide_eq_true h]
      rfl
    · rename_i h
      have h : ¬ z.1.1 ≠ 0 := h
      unfold cF; rw [decide_eq_false h]
      rfl
  · unfold aW
    refine lJ rfl rfl rfl ?_
    walk_at "go"
    · rename_i h
      have h : z.2.1 ≠ 0 := h
      refine bT ?_; walk_at "sts"
      refine bT ?_; walk_at "sts"
      refine bT ?_; walk_at "sts"
      refine bT ?_; walk_at "sts"; refine ae (dh H.B _) ?_; walk_at "sts"
      refine ae (kA H.B _ (mF h2.natAbs (by decide))) ?_; walk_at "sts"
      have e1 := mG (natAbs_pos h)
      have e2 : nd (z.2.1.natAbs : Int) = nd z.2.1 := by unfold nd; simp
      have e3 := fP h2
      refine ae (kB H.B _ (by exact fq182 e1 e2 e3)) ?_; walk_at "sts"
      refine ae (dM H.B _ _) ?_; walk_at "sts"
      rw [e1, e2]
      rw [show cF z.2 (cF z.1 (-999)) = max (cF z.1 (-999)) (nd z.2.1 + z.2.2) from by rw [cF, decide_eq_true h]; rfl]
      rfl
    · rename_i h
      have h : ¬ z.2.1 ≠ 0 := h
      rw [show cF z.2 (cF z.1 (-999)) = cF z.1 (-999) from by rw [cF, decide_eq_false h]; rfl]
      rfl
  · walk_at "go"

/-- decimals that the law holds near to others -/
structure Bn (x : Re) : Prop where
  t : aC x.1 800
  e : -200 <= x.2 /\ x.2 <= 200
theorem Bd.n {x : Re} (h : Bd x) : Bn x := ⟨h.t.mono (by decide), by have := h.e; exact fq368 this.1 this.2⟩
theorem cP {x y : Re} {n k : Nat} (hx : aC x.1 n) (hy : aC y.1 n) (h1 : x.2 - y.2 <= k) (h2 : y.2 - x.2 <= k) : aC (bo x y).1 (n + k + 2) := by
  unfold bo
  exact aC.add ((aC.mul hx (aC.pow _)).mono (by exact fq513 h1)) ((aC.mul hy (aC.pow _)).mono (by exact fq514 h2))

theorem bU {g : G} (H : HH g) (z w : Cc) (lead : Int) (a : Bn z.1) (b : Bn z.2) (c : Bn w.1) (d : Bn w.2) (hl : -2050 <= lead /\ lead <= 500) (hn : fe z w lead) :
    Ret g 2 "_law_is_near" [cx z, cx w, .int lead] (.bool true) := by
  refine aS (d := au 67) (H.D 67 rfl) (H.ok 67 rfl) (by walk_at "binds") rfl ?_
  have ea := a.e
  have eb := b.e
  have ec := c.e
  have ed := d.e
  obtain ⟨n1, n2⟩ := hn
  unfold mw at n1 n2
  have t1 := cP (k := 400) a.t (show aC (ah w.1).1 800 from c.t.neg) (by show z.1.2 - w.1.2 <= _; exact te ec.1 ea.2) (by show w.1.2 - z.1.2 <= _; exact te ea.1 ec.2)
  have t2 := cP (k := 400) b.t (show aC (ah w.2).1 800 from d.t.neg) (by show z.2.2 - w.2.2 <= _; exact te ed.1 eb.2) (by show w.2.2 - z.2.2 <= _; exact te eb.1 ed.2)
  have m1 : (bo z.1 (ah w.1)).2 = min z.1.2 w.1.2 := rfl
  have m2 : (bo z.2 (ah w.2)).2 = min z.2.2 w.2.2 := rfl
  have pw : ∀ k : Int, 0 <= k -> k <= 2260 -> 0 <= k /\ k <= 100000 /\ ar (10 ^ k.toNat) := fun k h1 h2 => ⟨h1, by exact fq476 h2, cB (by exact fq475 h2)⟩
  obtain ⟨p1, p2, p3⟩ := pw (max 0 ((bo z.1 (ah w.1)).2 - lead)) (by exact vT) (by exact fq237 hl.1 m1 ea.2)
  obtain ⟨p4, p5, p6⟩ := pw (max 0 (lead - (bo z.1 (ah w.1)).2)) (by exact vT) (by exact fq236 ea.1 ec.1 m1 hl.2)
  obtain ⟨r1, r2, r3⟩ := pw (max 0 ((bo z.2 (ah w.2)).2 - lead)) (by exact vT) (by exact fq237 hl.1 m2 eb.2)
  obtain ⟨r4, r5, r6⟩ := pw (max 0 (lead - (bo z.2 (ah w.2)).2)) (by exact vT) (by exact fq236 eb.1 ed.1 m2 hl.2)
  have u1 : ar ((bo z.1 (ah w.1)).1.natAbs : Int) := t1.natAbs.small (by decide)
  have u2 : ar ((bo z.2 (ah w.2)).1.natAbs : Int) := t2.natAbs.small (by decide)
  walk_at "go"
  refine rK H.B.range.1 H.B.range.2 rfl rfl ?_ (fun _ _ => rfl)
  walk_at "sts"
  refine ⟨2, rfl, by decide, ?_⟩
  show jE _ [.int 0, .int 1] _ _
  refine fA [("z", cx z), ("w", cx w), ("lead", .int lead), ("part", .int 0), ("m", .int (bo z.1 (ah w.1)).1), ("e", .int (bo z.1 (ah w.1)).2)] ?_
    (fA [("z", cx z), ("w", cx w), ("lead", .int lead), ("part", .int 1), ("m", .int (bo z.2 (ah w.2)).1), ("e", .int (bo z.2 (ah w.2)).2)] ?_ (lq ?_))
  · refine fV rfl ?_
    walk_at "go"
    refine am 63 ?_; walk_at "sts"
    refine am 65 ?_; walk_at "sts"; refine ae (bG H w.1) ?_; walk_at "sts"
    refine ae (cw H z.1 (ah w.1) (a.t.small (by decide)) ((show aC (ah w.1).1 800 from c.t.neg).small (by decide)) (by show z.1.2 - w.1.2 < _; exact oA ec.1 ea.2) (by show w.1.2 - z.1.2 < _; exact oA ea.1 ec.2)) ?_; walk_at "sts"
    refine bT ?_; walk_at "sts"; refine ae (dh H.B _) ?_; walk_at "sts"
    refine bT ?_; walk_at "sts"; refine ae (dM H.B _ _) ?_; walk_at "sts"
    refine bT ?_; walk_at "sts"; refine ae (dM H.B _ _) ?_; walk_at "sts"
    · rename_i h
      exact absurd n1 (Int.not_le.mpr h)
    · rfl
  · refine fV rfl ?_
    walk_at "go"
    refine am 63 ?_; walk_at "sts"
    refine am 65 ?_; walk_at "sts"; refine ae (bG H w.2) ?_; walk_at "sts"
    refine ae (cw H z.2 (ah w.2) (b.t.small (by decide)) ((show aC (ah w.2).1 800 from d.t.neg).small (by decide)) (by show z.2.2 - w.2.2 < _; exact oA ed.1 eb.2) (by show w.2.2 - z.2.2 < _; exact oA eb.1 ed.2)) ?_; walk_at "sts"
    refine bT ?_; walk_at "sts"; refine ae (dh H.B _) ?_; walk_at "sts"
    refine bT ?_; walk_at "sts"; refine ae (dM H.B _ _) ?_; walk_at "sts"
    refine bT ?_; walk_at "sts"; refine ae (dM H.B _ _) ?_; walk_at "sts"
    · rename_i h
      exact absurd n2 (Int.not_le.mpr h)
    · rfl
  · walk_at "go"
end

section
noncomputable def aZ (z : Cc) : Re := bo (z.1.1 ^ 2, 2 * z.1.2) (z.2.1 ^ 2, 2 * z.2.2)
noncomputable def eW (a : Re) (d : Int) : Re := (1, a.2 + nd a.1 - d)
noncomputable def cI (a : Re) (d : Int) : Re := bo (2 * a.1, a.2) (-1, (eW a d).2)
noncomputable def b8 (a : Re) (d : Int) : Re := bo (2 * a.1, a.2) (eW a d)
noncomputable def iK (z : Cc) (a : Re) (d : Int) : Re := bo (4 * (aZ z).1, (aZ z).2) (-(cI a d).1 ^ 2, 2 * (cI a d).2)
noncomputable def iL (z : Cc) (a : Re) (d : Int) : Re := bo ((b8 a d).1 ^ 2, 2 * (b8 a d).2) (-4 * (aZ z).1, (aZ z).2)

structure DistOk (z : Cc) (d : Int) : Prop where
  hz : ZOk z
  z1 : aC z.1.1 20
  z2 : aC z.2.1 20
  e1 : -50 <= z.1.2 /\ z.1.2 <= 50
  e2 : -50 <= z.2.2 /\ z.2.2 <= 50
  hd : 1 <= d /\ d <= 10
  w : SqOk (ag z) d 99
  h : ((aZ z).1 = 0 /\ aU z d 99 = (0, 0)) \/ ((aZ z).1 ≠ 0 /\ 0 < (aU z d 99).1 /\ nd (aU z d 99).1 <= d /\ (-100 <= (aU z d 99).2 /\ (aU z d 99).2 <= 100) /\
    0 <= (iK z (aU z d 99) d).1 /\ 0 <= (iL z (aU z d 99) d).1)

theorem kz {a : Int} {n : Nat} (h : aC a n) (hn : n <= 30) : a.natAbs < 2 ^ 100 :=
  Nat.lt_of_lt_of_le h (Nat.le_trans (Nat.pow_le_pow_right (by decide) hn) (by decide))
theorem aC.sq {a : Int} {n : Nat} (h : aC a n) : aC (a ^ 2) (n + n) := by
  have : a ^ 2 = a * a := by rw [Int.pow_succ, Int.pow_succ, Int.pow_zero, Int.one_mul]
  rw [this]; exact aC.mul h h

theorem gH {g : G} (H : HH g) (z : Cc) (d : Int) (W : DistOk z d) : Ret g 6 "_law_distance_right" [cx z, .int d] (.bool true) := by
  refine aS (d := au 69) (H.D 69 rfl) (H.ok 69 rfl) (by walk_at "binds") rfl ?_
  have e1 := W.e1
  have e2 := W.e2
  have hd := W.hd
  have b1 := kz W.z1 (by decide)
  have b2 := kz W.z2 (by decide)
  walk_at "go"
  refine am 53 ?_; walk_at "sts"
  refine ca (HH.cT ‹_›) ?_; walk_at "sts"; refine ae (e8 H _ _ _ W.hz W.w) ?_; walk_at "sts"
  refine am 63 ?_; walk_at "sts"
  refine ae (cw H (z.1.1 ^ 2, 2 * z.1.2) (z.2.1 ^ 2, 2 * z.2.2) (W.z1.sq.small (by decide)) (W.z2.sq.small (by decide)) (by show 2 * z.1.2 - 2 * z.2.2 < 2300; exact fq194 e2.1 e1.2) (by show 2 * z.2.2 - 2 * z.1.2 < 2300; exact fq194 e1.1 e2.2)) ?_; walk_at "sts"
  rotate_left
  · rename_i h
    have hA : aU z d 99 = (0, 0) := by
      rcases W.h with ⟨_, h2⟩ | ⟨h1, h2, _⟩
      · exact h2
      · rw [decide_eq_false (show ¬ (aU z d 99).1 <= 0 by exact fq139 h2), Bool.or_false, decide_eq_true_eq] at h
        exact absurd h h1
    rw [hA]
    exact ⟨true, ⟨by decide +kernel, by decide +kernel⟩, rfl⟩
  · rename_i h
    have hA : (bo (z.1.1 ^ 2, 2 * z.1.2) (z.2.1 ^ 2, 2 * z.2.2)).1 = 0 := by
      rcases W.h with ⟨h1, _⟩ | ⟨h1, h2, _⟩
      · exact h1
      · rw [decide_eq_false (show ¬ (aU z d 99).1 <= 0 by exact fq139 h2), Bool.or_false, decide_eq_true_eq] at h
        exact h
    show PV.bool _ = PV.bool _
    rw [decide_eq_true hA]; rfl
  · rename_i h
    obtain ⟨h1, h2, h3, h4, h5, h6⟩ : (aZ z).1 ≠ 0 /\ 0 < (aU z d 99).1 /\ nd (aU z d 99).1 <= d /\ (-100 <= (aU z d 99).2 /\ (aU z d 99).2 <= 100) /\ 0 <= (iK z (aU z d 99) d).1 /\ 0 <= (iL z (aU z d 99) d).1 := by
      rcases W.h with ⟨h1, _⟩ | hh
      · have h1 : (bo (z.1.1 ^ 2, 2 * z.1.2) (z.2.1 ^ 2, 2 * z.2.2)).1 = 0 := h1
        rw [decide_eq_true h1] at h
        cases h
      · exact hh
    have ta : aC (aU z d 99).1 10 := by
      refine (aC.nd _).mono ?_
      have := mi (aU z d 99).1
      exact fq606 hd.2 h3
    have ea : ((Str.ofString (toString (aU z d 99).1)).length : Int) = nd (aU z d 99).1 := mG h2
    refine bT ?_; walk_at "sts"
    refine bT ?_; walk_at "sts"; refine ae (kA H.B _ (mF ta (by decide))) ?_; walk_at "sts"
    refine ae (kB H.B _ (by have := mi (aU z d 99).1; exact fq183 ea h3 hd.2)) ?_; rw [ea]; walk_at "sts"
    generalize aU z d 99 = a at h2 h3 h4 h5 h6 ta ea |-
    have na := mi a.1
    have tl : aC (cI a d).1 30 := by
      unfold cI eW
      refine (cP (n := 11) (k := 10) ?_ ?_ ?_ ?_).mono (by decide)
      · show aC (2 * a.1) 11
        exact (aC.mul (a := 2) (n := 1) (by unfold aC; decide) ta)
      · show aC (-1) 11
        unfold aC; decide
      · show a.2 - (a.2 + nd a.1 - d) <= _; exact fq226 ea hd.2
      · show a.2 + nd a.1 - d - a.2 <= _; exact fq234 h3
    have th : aC (b8 a d).1 30 := by
      unfold b8 eW
      refine (cP (n := 11) (k := 10) ?_ ?_ ?_ ?_).mono (by decide)
      · show aC (2 * a.1) 11
        exact (aC.mul (a := 2) (n := 1) (by unfold aC; decide) ta)
      · show aC 1 11
        unfold aC; decide
      · show a.2 - (a.2 + nd a.1 - d) <= _; exact fq226 ea hd.2
      · show a.2 + nd a.1 - d - a.2 <= _; exact fq234 h3
    have ts : aC (aZ z).1 242 := by
      unfold aZ
      exact cP (n := 40) (k := 200) (x := (z.1.1 ^ 2, 2 * z.1.2)) (y := (z.2.1 ^ 2, 2 * z.2.2)) W.z1.sq W.z2.sq (by show 2 * z.1.2 - 2 * z.2.2 <= _; exact fq195 e2.1 e1.2) (by show 2 * z.2.2 - 2 * z.1.2 <= _; exact fq195 e1.1 e2.2) 
    have es : -100 <= (aZ z).2 /\ (aZ z).2 <= 100 := by
      show -100 <= min (2 * z.1.2) (2 * z.2.2) /\ min (2 * z.1.2) (2 * z.2.2) <= 100
      exact fq539 e1.1 e2.1 e1.2
    have el : -110 <= (cI a d).2 /\ (cI a d).2 <= 110 := by
      show -110 <= min a.2 (a.2 + nd a.1 - d) /\ min a.2 (a.2 + nd a.1 - d) <= 110
      exact fq224 h4.1 ea h4.2 hd.2
    have eh : -110 <= (b8 a d).2 /\ (b8 a d).2 <= 110 := by
      show -110 <= min a.2 (a.2 + nd a.1 - d) /\ min a.2 (a.2 + nd a.1 - d) <= 110
      exact fq224 h4.1 ea h4.2 hd.2
    have bl := kz tl (by decide)
    have bh := kz th (by decide)
    refine am 63 ?_; walk_at "sts"
    refine ae (cw H (2 * a.1, a.2) (-1, (eW a d).2) ?_ ?_ ?_ ?_) ?_
    · exact (aC.mul (a := 2) (n := 1) (by unfold aC; decide) ta).small (by decide)
    · show Int.natAbs (-1) < 2 ^ 8000; decide +kernel
    · show a.2 - (a.2 + nd a.1 - d) < _; exact fq225 ea hd.2
    · show a.2 + nd a.1 - d - a.2 < _; exact fq233 h3
    rw [show bo (2 * a.1, a.2) (-1, (eW a d).2) = cI a d from rfl]
    walk_at "sts"
    refine am 63 ?_; walk_at "sts"
    refine ae (cw H (2 * a.1, a.2) (eW a d) ?_ ?_ ?_ ?_) ?_
    · exact (aC.mul (a := 2) (n := 1) (by unfold aC; decide) ta).small (by decide)
    · show Int.natAbs 1 < 2 ^ 8000; decide +kernel
    · show a.2 - (a.2 + nd a.1 - d) < _; exact fq225 ea hd.2
    · show a.2 + nd a.1 - d - a.2 < _; exact fq233 h3
    rw [show bo (2 * a.1, a.2) (eW a d) = b8 a d from rfl]
    walk_at "sts"
    refine am 63 ?_; walk_at "sts"
    refine ae (cw H (4 * (aZ z).1, (aZ z).2) (-(cI a d).1 ^ 2, 2 * (cI a d).2) ?_ ?_ ?_ ?_) ?_
    · exact (aC.mul (a := 4) (n := 1) (by unfold aC; decide) ts).small (by decide)
    · exact (aC.neg tl.sq).small (by decide)
    · show (aZ z).2 - 2 * (cI a d).2 < _; exact fq190 el.1 es.2
    · show 2 * (cI a d).2 - (aZ z).2 < _; exact fq189 es.1 el.2
    rw [show bo (4 * (aZ z).1, (aZ z).2) (-(cI a d).1 ^ 2, 2 * (cI a d).2) = iK z a d from rfl]
    walk_at "sts"
    refine am 63 ?_; walk_at "sts"
    refine ae (cw H ((b8 a d).1 ^ 2, 2 * (b8 a d).2) (-4 * (aZ z).1, (aZ z).2) ?_ ?_ ?_ ?_) ?_
    · exact th.sq.small (by decide)
    · exact (aC.mul (a := -4) (n := 1) (by unfold aC; decide) ts).small (by decide)
    · show 2 * (b8 a d).2 - (aZ z).2 < _; exact fq189 es.1 eh.2
    · show (aZ z).2 - 2 * (b8 a d).2 < _; exact fq190 eh.1 es.2
    rw [show bo ((b8 a d).1 ^ 2, 2 * (b8 a d).2) (-4 * (aZ z).1, (aZ z).2) = iL z a d from rfl]
    walk_at "sts"
    any_goals (refine bT ?_; walk_at "sts")
    any_goals (refine bT ?_; walk_at "sts"; refine ae (kA H.B _ (mF ta (by decide))) ?_; walk_at "sts")
    any_goals (refine ae (kB H.B _ (by exact fq183 ea h3 hd.2)) ?_; rw [ea]; walk_at "sts")
    show PV.bool _ = PV.bool _
    rw [decide_eq_true h5, decide_eq_true h6, decide_eq_true h3]; rfl
end

section
theorem dG {z : Cc} (a : Bd z.1) (b : Bd z.2) : -999 <= aW z /\ aW z <= 160 := by
  have n1 := fP a.t
  have n2 := fP b.t
  have m1 := mi z.1.1
  have m2 := mi z.2.1
  have e1 := a.e
  have e2 := b.e
  unfold aW cF
  cases decide (z.2.1 ≠ 0) <;> cases decide (z.1.1 ≠ 0) <;> simp only [cond_true, cond_false] <;> (first | exact fq294 | exact fq213 n1 e1.2 | exact fq213 n2 e2.2 | exact fq690 n1 n2 e1.2 e2.2)

theorem jt {z w : Cc} (hz : BdC z) (hw : BdC w) : Bn (bq z w).1 /\ Bn (bq z w).2 := by
  have e1 := hz.a.e
  have e2 := hz.b.e
  have e3 := hw.a.e
  have e4 := hw.b.e
  refine ⟨⟨?_, ?_⟩, ⟨?_, ?_⟩⟩
  · refine (cP (n := 40) (k := 240) (aC.mul hz.a.t hw.a.t) (aC.mul hz.b.t.neg hw.b.t) ?_ ?_).mono (by decide)
    · show z.1.2 + w.1.2 - (z.2.2 + w.2.2) <= _; exact oz e2.1 e4.1 e1.2 e3.2
    · show z.2.2 + w.2.2 - (z.1.2 + w.1.2) <= _; exact oz e1.1 e3.1 e2.2 e4.2
  · show -200 <= min (z.1.2 + w.1.2) (z.2.2 + w.2.2) /\ min (z.1.2 + w.1.2) (z.2.2 + w.2.2) <= 200; exact fq676 e1.1 e1.2 e2.1 e3.1 e3.2 e4.1
  · refine (cP (n := 40) (k := 240) (aC.mul hz.a.t hw.b.t) (aC.mul hz.b.t hw.a.t) ?_ ?_).mono (by decide)
    · show z.1.2 + w.2.2 - (z.2.2 + w.1.2) <= _; exact oz e2.1 e3.1 e1.2 e4.2
    · show z.2.2 + w.1.2 - (z.1.2 + w.2.2) <= _; exact oz e1.1 e4.1 e2.2 e3.2
  · show -200 <= min (z.1.2 + w.2.2) (z.2.2 + w.1.2) /\ min (z.1.2 + w.2.2) (z.2.2 + w.1.2) <= 200; exact fq675 e1.1 e2.1 e2.2 e3.1 e3.2 e4.1

structure RootOk (z : Cc) (d : Int) : Prop where
  w : bK z = false -> CSqrtOk z d 99
  hd : 1 <= d /\ d <= 10
  bz : BdC z
  br : BdC (aR z d 99)
  s1 : 0 <= (aR z d 99).1.1
  s2 : (aR z d 99).2.1 < 0 ↔ z.2.1 < 0
  s3 : z.1.1 < 0 -> z.2.1 = 0 -> (aR z d 99).1.1 = 0 /\ 0 < (aR z d 99).2.1
  near : fe (bq (aR z d 99) (aR z d 99)) z (2 * aW (aR z d 99) - d + 1)

theorem fu {g : G} (H : HH g) (z : Cc) (d : Int) (W : RootOk z d) : Ret g 7 "_law_root_right" [cx z, .int d] (.bool true) := by
  refine aS (d := au 70) (H.D 70 rfl) (H.ok 70 rfl) (by walk_at "binds") rfl ?_
  have hd := W.hd
  obtain ⟨w, -, bz, br, s1, s2, s3, near⟩ := W
  walk_at "go"
  refine am 54 ?_; walk_at "sts"
  refine ca (HH.cT ‹_›) ?_; walk_at "sts"; refine ae (eD H _ _ _ w) ?_
  generalize aR z d 99 = r at br s1 s2 s3 near |-
  have lr := dG br.a br.b
  obtain ⟨pa, pb⟩ := jt br br
  walk_at "sts"
  · rename_i h
    rw [decide_eq_false (show ¬ r.1.1 < 0 by exact fq409 s1), Bool.false_or] at h
    by_cases hz : z.2.1 < 0
    · rw [decide_eq_true hz, decide_eq_true (s2.mpr hz)] at h; cases h
    · rw [decide_eq_false hz, decide_eq_false (fun q => hz (s2.mp q))] at h; cases h
  · rename_i h0 h
    simp only [Bool.and_eq_true, Bool.or_eq_true, decide_eq_true_eq] at h
    obtain ⟨h1, h2, h3⟩ := h
    have := s3 h1 h2
    rcases h3 with h3 | h3
    · exact absurd this.1 h3
    · lia -abstractProof
  · refine am 67 ?_; walk_at "sts"
    refine am 64 ?_; walk_at "sts"; refine ae (dT H _ _ br br) ?_; walk_at "sts"
    refine am 66 ?_; walk_at "sts"; refine ae (cu H _ (br.a.t.mono (by decide)) (br.b.t.mono (by decide))) ?_; walk_at "sts"
    refine ae (bU H _ _ _ pa pb bz.a.n bz.b.n (by exact fq541 lr.1 hd.1 lr.2 hd.2) near) ?_; walk_at "sts"

noncomputable def fi (z : Cc) : Cc := (ah z.1, ah z.2)
noncomputable def sqSum (s c : Cc) : Cc := (bo (bq s s).1 (bq c c).1, bo (bq s s).2 (bq c c).2)

structure WavesOk (z : Cc) (d : Int) : Prop where
  w : CTrigOk z d 99
  w' : CTrigOk (fi z) d 99
  hd : 1 <= d /\ d <= 10
  bs : BdC (bO z d 99)
  bc : BdC (bP z d 99)
  bs' : BdC (bO (fi z) d 99)
  bc' : BdC (bP (fi z) d 99)
  n1 : fe (sqSum (bO z d 99) (bP z d 99)) ((1, 0), (0, 0)) (2 * max (aW (bO z d 99)) (aW (bP z d 99)) - d + 1)
  n2 : fe (bO (fi z) d 99) (fi (bO z d 99)) (aW (bO z d 99) - d)
  n3 : fe (bP (fi z) d 99) (bP z d 99) (aW (bP z d 99) - d)

theorem rm {z : Cc} (h : BdC z) : BdC (fi z) := ⟨⟨h.a.t.neg, h.a.e⟩, ⟨h.b.t.neg, h.b.e⟩⟩
theorem uF {x y : Re} (hx : aC x.1 282) (hy : aC y.1 282) (e1 : -200 <= x.2 /\ x.2 <= 200) (e2 : -200 <= y.2 /\ y.2 <= 200) : Bn (bo x y) := by
  refine ⟨(cP (k := 400) hx hy (by exact te e2.1 e1.2) (by exact te e1.1 e2.2)).mono (by decide), ?_⟩
  show -200 <= min x.2 y.2 /\ min x.2 y.2 <= 200; exact fq529 e1.1 e2.1 e1.2
theorem kY {z w : Cc} (hz : BdC z) (hw : BdC w) : aC (bq z w).1.1 282 /\ aC (bq z w).2.1 282 := by
  have e1 := hz.a.e
  have e2 := hz.b.e
  have e3 := hw.a.e
  have e4 := hw.b.e
  refine ⟨?_, ?_⟩
  · refine (cP (n := 40) (k := 240) (aC.mul hz.a.t hw.a.t) (aC.mul hz.b.t.neg hw.b.t) ?_ ?_).mono (by decide)
    · show z.1.2 + w.1.2 - (z.2.2 + w.2.2) <= _; exact oz e2.1 e4.1 e1.2 e3.2
    · show z.2.2 + w.2.2 - (z.1.2 + w.1.2) <= _; exact oz e1.1 e3.1 e2.2 e4.2
  · refine (cP (n := 40) (k := 240) (aC.mul hz.a.t hw.b.t) (aC.mul hz.b.t hw.a.t) ?_ ?_).mono (by decide)
    · show z.1.2 + w.2.2 - (z.2.2 + w.1.2) <= _; exact oz e2.1 e3.1 e1.2 e4.2
    · show z.2.2 + w.1.2 - (z.1.2 + w.2.2) <= _; exact oz e1.1 e4.1 e2.2 e3.2

theorem iO {g : G} (H : HH g) (z : Cc) (d : Int) (W : WavesOk z d) : Ret g 8 "_law_waves_right" [cx z, .int d] (.bool true) := by
  refine aS (d := au 72) (H.D 72 rfl) (H.ok 72 rfl) (by walk_at "binds") rfl ?_
  obtain ⟨w, w', hd, bs, bc, bs', bc', n1, n2, n3⟩ := W
  walk_at "go"
  refine am 58 ?_; walk_at "sts"
  refine ca (HH.cT ‹_›) ?_; walk_at "sts"; refine ae (dU H _ _ _ w) ?_; walk_at "sts"
  refine am 59 ?_; walk_at "sts"
  refine ca (HH.cT ‹_›) ?_; walk_at "sts"; refine ae (dV H _ _ _ w) ?_
  generalize bO z d 99 = s at bs n1 n2 |-
  generalize bP z d 99 = c at bc n1 n3 |-
  have ls := dG bs.a bs.b
  have lc := dG bc.a bc.b
  obtain ⟨p1, p2⟩ := jt bs bs
  obtain ⟨p3, p4⟩ := jt bc bc
  obtain ⟨q1, q2⟩ := kY bs bs
  obtain ⟨q3, q4⟩ := kY bc bc
  have e1 := p1.e
  have e2 := p2.e
  have e3 := p3.e
  have e4 := p4.e
  walk_at "sts"
  refine am 64 ?_; walk_at "sts"; refine ae (dT H _ _ bs bs) ?_; walk_at "sts"
  refine am 64 ?_; walk_at "sts"; refine ae (dT H _ _ bc bc) ?_; walk_at "sts"
  refine am 63 ?_; walk_at "sts"; refine ae (cw H (bq s s).1 (bq c c).1 (q1.small (by decide)) (q3.small (by decide)) (by exact oA e3.1 e1.2) (by exact oA e1.1 e3.2)) ?_; walk_at "sts"
  refine am 63 ?_; walk_at "sts"; refine ae (cw H (bq s s).2 (bq c c).2 (q2.small (by decide)) (q4.small (by decide)) (by exact oA e4.1 e2.2) (by exact oA e2.1 e4.2)) ?_; walk_at "sts"
  refine bT ?_; walk_at "sts"
  refine am 66 ?_; walk_at "sts"; refine ae (cu H _ (bs.a.t.mono (by decide)) (bs.b.t.mono (by decide))) ?_; walk_at "sts"
  refine am 66 ?_; walk_at "sts"; refine ae (cu H _ (bc.a.t.mono (by decide)) (bc.b.t.mono (by decide))) ?_; walk_at "sts"
  refine ae (dM H.B _ _) ?_; walk_at "sts"
  have o1 : Bn ((1, 0) : Re) := ⟨by unfold aC; decide +kernel, by decide⟩
  have o2 : Bn ((0, 0) : Re) := ⟨by unfold aC; decide +kernel, by decide⟩
  refine am 67 ?_; walk_at "sts"
  refine ae (bU H (sqSum s c) ((1, 0), (0, 0)) _ (uF q1 q3 (by exact fq51 e1.1 e1.2) (by exact fq51 e3.1 e3.2)) (uF q2 q4 (by exact fq51 e2.1 e2.2) (by exact fq51 e4.1 e4.2)) o1 o2 (by exact fq630 ls.1 hd.1 ls.2 hd.2 lc.2) n1) ?_
  walk_at "sts"
  refine am 65 ?_; walk_at "sts"; refine ae (bG H z.1) ?_; walk_at "sts"
  refine am 65 ?_; walk_at "sts"; refine ae (bG H z.2) ?_; walk_at "sts"
  refine am 65 ?_; walk_at "sts"; refine ae (bG H s.1) ?_; walk_at "sts"
  refine am 65 ?_; walk_at "sts"; refine ae (bG H s.2) ?_; walk_at "sts"
  refine am 67 ?_; walk_at "sts"
  refine am 58 ?_; walk_at "sts"
  refine ca (HH.cT ‹_›) ?_; walk_at "sts"; refine ae (dU H (fi z) _ _ w') ?_; walk_at "sts"
  refine am 66 ?_; walk_at "sts"; refine ae (cu H _ (bs.a.t.mono (by decide)) (bs.b.t.mono (by decide))) ?_; walk_at "sts"
  refine ae (bU H _ (fi s) _ bs'.a.n bs'.b.n (rm bs).a.n (rm bs).b.n (by exact vO ls.1 hd.1 ls.2 hd.2) n2) ?_
  walk_at "sts"
  refine am 67 ?_; walk_at "sts"
  refine am 59 ?_; walk_at "sts"
  refine ca (HH.cT ‹_›) ?_; walk_at "sts"; refine ae (dV H (fi z) _ _ w') ?_; walk_at "sts"
  refine am 66 ?_; walk_at "sts"; refine ae (cu H _ (bc.a.t.mono (by decide)) (bc.b.t.mono (by decide))) ?_; walk_at "sts"
  refine ae (bU H _ c _ bc'.a.n bc'.b.n bc.a.n bc.b.n (by exact vO lc.1 hd.1 lc.2 hd.2) n3) ?_
  walk_at "sts"
end

section
structure LogRightOk (z : Cc) (d : Int) : Prop where
  w : CLogOk z d 99
  hd : 1 <= d /\ d <= 10
  bz : BdC z
  bt : BdC (bk z d 99)
  s : 0 < (bk z d 99).2.1 ↔ (0 < z.2.1 \/ (z.2.1 = 0 /\ z.1.1 < 0))
  we : CExpOk (bk z d 99) d 99
  be : BdC (aT (bk z d 99) d 99)
  near : fe (aT (bk z d 99) d 99) z (aW z + max 1 (aW (bk z d 99)) - d + 1)

theorem jq {g : G} (H : HH g) (z : Cc) (d : Int) (W : LogRightOk z d) : Ret g 8 "_law_log_right" [cx z, .int d] (.bool true) := by
  refine aS (d := au 71) (H.D 71 rfl) (H.ok 71 rfl) (by walk_at "binds") rfl ?_
  obtain ⟨w, hd, bz, bt, hs, we, be, near⟩ := W
  have nz := w.nz
  walk_at "go"
  refine am 57 ?_; walk_at "sts"
  refine ca (HH.cT ‹_›) ?_; walk_at "sts"; refine ae (e7 H _ _ _ w) ?_
  generalize bk z d 99 = t at bt hs we be near |-
  have lt := dG bt.a bt.b
  have lz := dG bz.a bz.b
  walk_at "sts"
  · rename_i h
    unfold bK at nz
    rw [nz] at h; cases h
  · rename_i h0 h
    exfalso
    by_cases ht : 0 < t.2.1
    · have := hs.mp ht
      rw [decide_eq_true ht] at h
      simp at h
      exact fq622 hs h.2 ht h.1
    · have : ¬ (0 < z.2.1 \/ (z.2.1 = 0 /\ z.1.1 < 0)) := fun q => ht (hs.mpr q)
      rw [decide_eq_false ht] at h
      simp at h
      exact fq621 hs h ht
  · refine am 66 ?_; walk_at "sts"; refine ae (cu H _ (bz.a.t.mono (by decide)) (bz.b.t.mono (by decide))) ?_; walk_at "sts"
    refine bT ?_; walk_at "sts"
    refine am 66 ?_; walk_at "sts"; refine ae (cu H _ (bt.a.t.mono (by decide)) (bt.b.t.mono (by decide))) ?_; walk_at "sts"
    refine ae (dM H.B _ _) ?_; walk_at "sts"
    refine am 67 ?_; walk_at "sts"
    refine am 55 ?_; walk_at "sts"
    refine ca (HH.cT ‹_›) ?_; walk_at "sts"; refine ae (cD H t _ _ we) ?_; walk_at "sts"
    refine ae (bU H _ z _ be.a.n be.b.n bz.a.n bz.b.n (by exact fq631 lz.1 hd.1 lz.2 hd.2 lt.2) near) ?_; walk_at "sts"
end

section
section
variable {g : G} {C : Cx} {env : bI}

theorem oq {prog : Program} {w : World} {A : Around} {s : Shared} {value slice : PySem.Expr} {l : List PV} {x : PV} {v i : Value} {k : Int} {P E : Value -> Shared -> Prop} {h : Heap}
    (hs : ∀ o j, subscripted slice false o j = operate [o, j] (getItem o j))
    (rv : ci g s.heap v (.tup l)) (ri : ci g h i (.int k)) (h0 : 0 <= k) (hx : l[k.toNat]? = some x) (hl : l.length <= 10) (kk : ∀ val, ci g s.heap val x -> P val s) :
    wpAny (model prog w) A (subscriptTail value slice v i) P E s := jB hs rv ri h0 hx hl kk

/-- [one[1][0] for one in stays], where every stay's second part is a dO -/
theorem wR {x y : Str} {p1 p2 p3 p4 p5 px py pos : Pos} {k1 k2 : Nat} {scope : Scope} {l : List PV} {Q : PV -> Prop}
    (hl : C.scope.names.lookup y = some .local) (hv : env.lookup y = some (.tup l)) (hd : (y == ("__debug__" : Str)) = false) (hdx : (x == ("__debug__" : Str)) = false)
    (hfree : ∀ y ∈ scope.names, y.2 ≠ .free) (hcell : ∀ y ∈ scope.names, y.2 ≠ .cell) (hkind : scope.kind = .function)
    (hnames : ∀ y ∈ scope.names, y.2 = .local -> scope.names.lookup y.1 = some .local) (hx : scope.names.lookup x = some .local)
    (hlen : l.length <= 100) (hz : ∀ d ∈ l, ∃ a e, d = .tup [a, .tup [.int 0, e]])
    (h : Q (.lst (l.map fun _ => .int 0))) :
    SE g C (.ListComp (.Subscript (.Subscript (.Name x p1) (.Constant (.int 1) k1 p2) p3) (.Constant (.int 0) k2 p4) p5) [⟨.Name x px, .Name y py, [], 0⟩] scope pos) env Q := fun A L ad cd s P E o k => by
  refine wpAny_ListComp_walk (fun _ => true) (fun _ y => ∃ t, y = .int 0 t) hfree hcell hkind hnames hx ?_
  refine fT (g := g) (C := C) (env := env) (Q := fun v => v = .tup l) hl hv hd rfl A L ad cd s _ E o fun v val h1 t1 e rv o1 k1 => ?_
  subst e
  unfold ci at rv
  obtain ⟨b, vs, rfl, tt, rs⟩ := rv
  refine iter_tuple tt ?_
  obtain ⟨m, F, r⟩ := o1.fr
  have kp : ∀ c o', h1.get? c = some o' -> (h1.push { cls := .type "tuple_iterator", data := .fields #[.ref b, .int 0 0] }).get? c = some o' := fun c o' e => Heap.get?_push_of_some _ e
  have hbI : b ≠ h1.objs.size := Nat.ne_of_lt tt.lt
  have hlv := a8.length rs
  have key : ∀ (l : List PV) (vs : List Value) (n : Nat) (v : Value), a8 g h1 vs l -> vs[n]? = some v -> ∃ d, d ∈ l /\ ci g h1 v d := by
    intro l
    induction l with
    | nil => intro vs n v r h; unfold a8 at r; subst r; cases h
    | cons d l ih =>
      intro vs n v r h
      unfold a8 at r
      obtain ⟨v', vs', rfl, r1, r2⟩ := r
      cases n with
      | zero => cases h; exact ⟨d, .head _, r1⟩
      | succ n => obtain ⟨d', h1, h2⟩ := ih vs' n v r2 h; exact ⟨d', .tail _ h1, h2⟩
  refine ⟨_, _, _, _, _, _, rfl, Walks.tuple o1.hand h1.objs.size b hbI vs.toArray, ?_, ⟨⟨_, Heap.get?_push_size _ rfl, rfl, rfl⟩, tt.push _⟩, ?_, ⟨?_, ?_⟩, ?_⟩
  · show vs.toArray.size <= sizeLine
    rw [List.size_toArray, hlv, sizeLine_eq]; exact fq804 hlen
  · intro c hc
    show c < (h1.push _).objs.size
    rw [Heap.size_push]
    rcases List.mem_cons.mp hc with rfl | hc
    · exact Nat.lt_succ_self _
    · rw [List.mem_singleton.mp hc]; exact Nat.lt_succ_of_lt tt.lt
  · intro C' i v s₃ m₃ E' hP hns hm hk ht
    exact wpAny_pure ⟨rfl, ⟨_, _, rfl, fun b o e => e⟩⟩
  · intro C' i v s₃ m₃ E' hP _ hns hm hk ht
    obtain ⟨d, hd1, hd2⟩ := key l vs i v rs (by simpa using hP)
    obtain ⟨a0, e0, rfl⟩ := hz d hd1
    have tk : TupK h1 s₃.heap := dE fun c o' e => hk c o' (by simp; exact Nat.ne_of_lt (Heap.lt_size e)) (kp c o' e)
    have rd := ci.keep tk _ hd2
    refine Subscript_ (Subscript_ (wpAny_Name (wpAny_loadName_local hkind hx hns hm ?_) hdx))
    refine wpAny_Constant_int ?_
    refine oq (h := s₃.heap) (fun _ _ => rfl) rd ⟨_, rfl⟩ (by decide) rfl (by simp) fun val rv => ?_
    refine wpAny_Constant_int ?_
    refine oq (h := s₃.heap) (fun _ _ => rfl) rv ⟨_, rfl⟩ (by decide) rfl (by simp) fun val2 rv2 => ?_
    unfold ci at rv2
    obtain ⟨u, rfl⟩ := rv2
    exact ⟨⟨u, rfl⟩, ⟨_, _, rfl, fun b o e => e⟩⟩
  · intro D h' tk ys vs' hD hl' hpl hlen' hP' hF hk
    have hk' : ∀ c o', h1.get? c = some o' -> h'.get? c = some o' := fun c o' e => hk c o' (by simp; exact Nat.ne_of_lt (Heap.lt_size e)) (kp c o' e)
    have hlen2 : ys.toList.length = l.length := by
      have e1 := hF.length
      have e2 : vs'.filter (fun _ => true) = vs' := List.filter_eq_self.mpr fun _ _ => rfl
      rw [e2, hlen'] at e1
      rw [<- e1, List.size_toArray, hlv]
    have mk : ∀ (l : List PV) (a b : List Value), Paired (fun _ y => ∃ t, y = Value.int 0 t) a b -> b.length = l.length -> a8 g h' b (l.map fun _ => PV.int 0) := by
      intro l
      induction l with
      | nil => intro a b p hb; have : b = [] := List.eq_nil_of_length_eq_zero hb; subst this; unfold a8; rfl
      | cons d l ih =>
        intro a b p hb
        cases p with
        | nil => cases hb
        | @cons x1 y1 l1 l2 hF t =>
          show a8 g h' (y1 :: l2) (.int 0 :: l.map fun _ => PV.int 0)
          unfold a8
          exact ⟨y1, l2, rfl, hF, ih _ _ t (by simpa using hb)⟩
    exact k _ _ _ _ h ⟨D, ys.toList, rfl, hl', mk l _ _ hF hlen2⟩ (o1.ext hk') (k1.trans fun b o' _ e => hk' b o' e)

abbrev LstQ (Q : PV -> Prop) (vs : List PV) : Prop := vs.length <= 10 /\ Q (.lst vs)
theorem SE_list {elts : List PySem.Expr} {pos : Pos} {Q : PV -> Prop} (h : uo g C elts env (LstQ Q)) : SE g C (.List elts pos) env Q := fun A L ad cd s P E o k =>
  List_ (h A L ad cd pos s _ E o fun vs vals h1 t1 ⟨hl, q⟩ r o1 k1 => by
    refine wpAny_newList ?_ (by rw [a8.length r, sizeLine_eq]; lia -abstractProof)
    have kp : ∀ b o', h1.get? b = some o' -> (h1.push { cls := .type "list", data := .seq vals.toArray }).get? b = some o' := fun b o' e => Heap.get?_push_of_some _ e
    exact k (.lst vs) _ _ t1 q ⟨_, vals, rfl, ⟨_, Heap.get?_push_size _ rfl, rfl, _, rfl⟩, a8.keep (dE kp) vs r⟩ (o1.ext kp) (k1.trans fun b o' _ e => kp b o' e))
end

noncomputable def bu (z : Cc) : Cc := (z.1, ah z.2)
theorem gu {z : Cc} (h : BdC z) : BdC (bu z) := ⟨h.a, ⟨h.b.t.neg, h.b.e⟩⟩

theorem cmp_000 : cmp .Eq (.lst [.int 0, .int 0, .int 0]) (.lst [.int 0, .int 0, .int 0]) true := ⟨by decide +kernel, by show true = _; decide +kernel⟩

structure MirOk0 (z : Cc) (d : Int) : Prop where
  we : CExpOk z d 99
  wt : CTrigOk z d 99
  e0 : (aT z d 99).2.1 = 0
  s0 : (bO z d 99).2.1 = 0
  c0 : (bP z d 99).2.1 = 0

theorem jp {g : G} (H : HH g) (z : Cc) (d : Int) (h0 : z.2.1 = 0) (W : MirOk0 z d) : Ret g 8 "_law_mirrored" [cx z, .int d] (.bool true) := by
  refine aS (d := au 73) (H.D 73 rfl) (H.ok 73 rfl) (by walk_at "binds") rfl ?_
  obtain ⟨we, wt, e0, s0, c0⟩ := W
  walk_at "go"
  · refine am 55 ?_; walk_at "sts"
    refine ca (HH.cT ‹_›) ?_; walk_at "sts"; refine ae (cD H z _ _ we) ?_; walk_at "sts"
    refine am 58 ?_; walk_at "sts"
    refine ca (HH.cT ‹_›) ?_; walk_at "sts"; refine ae (dU H z _ _ wt) ?_; walk_at "sts"
    refine am 59 ?_; walk_at "sts"
    refine ca (HH.cT ‹_›) ?_; walk_at "sts"; refine ae (dV H z _ _ wt) ?_; walk_at "sts"
    generalize aT z d 99 = e at e0 |-
    generalize bO z d 99 = s at s0 |-
    generalize bP z d 99 = c at c0 |-
    refine wR (l := [cx e, cx s, cx c]) rfl rfl rfl rfl (by decide +kernel) (by decide +kernel) rfl (by decide +kernel) rfl (Nat.le_of_ble_eq_true rfl) ?_ ?_
    · intro d hd
      simp only [List.mem_cons, List.not_mem_nil, or_false] at hd
      rcases hd with rfl | rfl | rfl
      · exact ⟨_, _, by show cx e = _; rw [<- e0]⟩
      · exact ⟨_, _, by show cx s = _; rw [<- s0]⟩
      · exact ⟨_, _, by show cx c = _; rw [<- c0]⟩
    · refine SE_list ?_
      walk_at "sts"
      exact ⟨true, cmp_000, rfl⟩
  · rename_i h
    exact absurd h0 h

structure MirOk1 (z : Cc) (d : Int) : Prop where
  hd : 1 <= d /\ d <= 10
  w1 : CSqrtOk z d 99
  w1' : CSqrtOk (bu z) d 99
  b1 : BdC (aR z d 99)
  b1' : BdC (aR (bu z) d 99)
  n1 : fe (aR (bu z) d 99) (bu (aR z d 99)) (aW (aR z d 99) - d)
  w2 : CExpOk z d 99
  w2' : CExpOk (bu z) d 99
  b2 : BdC (aT z d 99)
  b2' : BdC (aT (bu z) d 99)
  n2 : fe (aT (bu z) d 99) (bu (aT z d 99)) (aW (aT z d 99) - d)
  w3 : CLogOk z d 99
  w3' : CLogOk (bu z) d 99
  b3 : BdC (bk z d 99)
  b3' : BdC (bk (bu z) d 99)
  n3 : fe (bk (bu z) d 99) (bu (bk z d 99)) (aW (bk z d 99) - d)
  wa : SqOk (ag z) d 99

theorem cmp_re (x : Re) : cmp .Eq (re x) (re x) true := by
  refine ⟨rfl, ?_⟩
  show true = (decide (x.1 = x.1) && (decide (x.2 = x.2) && true))
  simp

theorem jo {g : G} (H : HH g) (z : Cc) (d : Int) (h0 : z.2.1 ≠ 0) (W : MirOk1 z d) : Ret g 8 "_law_mirrored" [cx z, .int d] (.bool true) := by
  refine aS (d := au 73) (H.D 73 rfl) (H.ok 73 rfl) (by walk_at "binds") rfl ?_
  obtain ⟨hd, w1, w1', b1, b1', n1, w2, w2', b2, b2', n2, w3, w3', b3, b3', n3, wa⟩ := W
  have es : ag (bu z) = ag z := by
    unfold ag bu ah ao; simp [Int.neg_mul_neg]
  have wa' : SqOk (ag (bu z)) d 99 := by rw [es]; exact wa
  walk_at "go"
  · rename_i h
    exact absurd h h0
  refine am 65 ?_; walk_at "sts"; refine ae (bG H z.2) ?_; walk_at "sts"
  refine rJ ?_ (fun _ _ => rfl)
  walk_at "sts"
  repeat (first | (refine ca (H.D 54 rfl).gval ?_) | (refine ca (H.D 55 rfl).gval ?_) | (refine ca (H.D 57 rfl).gval ?_) | walk_at "st")
  refine ⟨_, rfl, ?_⟩
  refine fA [("z", cx z), ("digits", .int d), ("other", cx (bu z)), ("work", .fn (au 54).name), ("told", cx (aR z d 99)), ("due", cx (bu (aR z d 99)))] ?_ (fA [("z", cx z), ("digits", .int d), ("other", cx (bu z)), ("work", .fn (au 55).name), ("told", cx (aT z d 99)), ("due", cx (bu (aT z d 99)))] ?_ (fA [("z", cx z), ("digits", .int d), ("other", cx (bu z)), ("work", .fn (au 57).name), ("told", cx (bk z d 99)), ("due", cx (bu (bk z d 99)))] ?_ (lq ?_)))
  · refine fV rfl ?_
    walk_at "go"
    refine fU rfl (by simp) (fT rfl rfl rfl ⟨_, rfl, (H.D 54 rfl).cal, ?_⟩)
    walk_at "sts"
    refine ca (HH.cT ‹_›) ?_; walk_at "sts"; refine ae (eD H z d 99 (fun _ => w1)) ?_
    generalize aR z d 99 = T at b1 n1 |-
    generalize hT : aR (bu z) d 99 = T' at b1' n1
    have lt := dG b1.a b1.b
    walk_at "sts"
    refine am 65 ?_; walk_at "sts"; refine ae (bG H T.2) ?_; walk_at "sts"
    refine am 67 ?_; walk_at "sts"
    refine fU rfl (by simp) (fT rfl rfl rfl ⟨_, rfl, (H.D 54 rfl).cal, ?_⟩)
    walk_at "sts"
    refine ca (HH.cT ‹_›) ?_; walk_at "sts"; refine ae (eD H (bu z) d 99 (fun _ => w1')) ?_
    rw [hT]
    walk_at "sts"
    refine am 66 ?_; walk_at "sts"; refine ae (cu H _ (b1.a.t.mono (by decide)) (b1.b.t.mono (by decide))) ?_; walk_at "sts"
    refine ae (bU H T' (bu T) _ b1'.a.n b1'.b.n (gu b1).a.n (gu b1).b.n (by exact vO lt.1 hd.1 lt.2 hd.2) n1) ?_
    walk_at "sts"
    rfl
  · refine fV rfl ?_
    walk_at "go"
    refine fU rfl (by simp) (fT rfl rfl rfl ⟨_, rfl, (H.D 55 rfl).cal, ?_⟩)
    walk_at "sts"
    refine ca (HH.cT ‹_›) ?_; walk_at "sts"; refine ae (cD H z d 99 w2) ?_
    generalize aT z d 99 = T at b2 n2 |-
    generalize hT : aT (bu z) d 99 = T' at b2' n2
    have lt := dG b2.a b2.b
    walk_at "sts"
    refine am 65 ?_; walk_at "sts"; refine ae (bG H T.2) ?_; walk_at "sts"
    refine am 67 ?_; walk_at "sts"
    refine fU rfl (by simp) (fT rfl rfl rfl ⟨_, rfl, (H.D 55 rfl).cal, ?_⟩)
    walk_at "sts"
    refine ca (HH.cT ‹_›) ?_; walk_at "sts"; refine ae (cD H (bu z) d 99 w2') ?_
    rw [hT]
    walk_at "sts"
    refine am 66 ?_; walk_at "sts"; refine ae (cu H _ (b2.a.t.mono (by decide)) (b2.b.t.mono (by decide))) ?_; walk_at "sts"
    refine ae (bU H T' (bu T) _ b2'.a.n b2'.b.n (gu b2).a.n (gu b2).b.n (by exact vO lt.1 hd.1 lt.2 hd.2) n2) ?_
    walk_at "sts"
    rfl
  · refine fV rfl ?_
    walk_at "go"
    refine fU rfl (by simp) (fT rfl rfl rfl ⟨_, rfl, (H.D 57 rfl).cal, ?_⟩)
    walk_at "sts"
    refine ca (HH.cT ‹_›) ?_; walk_at "sts"; refine ae (e7 H z d 99 w3) ?_
    generalize bk z d 99 = T at b3 n3 |-
    generalize hT : bk (bu z) d 99 = T' at b3' n3
    have lt := dG b3.a b3.b
    walk_at "sts"
    refine am 65 ?_; walk_at "sts"; refine ae (bG H T.2) ?_; walk_at "sts"
    refine am 67 ?_; walk_at "sts"
    refine fU rfl (by simp) (fT rfl rfl rfl ⟨_, rfl, (H.D 57 rfl).cal, ?_⟩)
    walk_at "sts"
    refine ca (HH.cT ‹_›) ?_; walk_at "sts"; refine ae (e7 H (bu z) d 99 w3') ?_
    rw [hT]
    walk_at "sts"
    refine am 66 ?_; walk_at "sts"; refine ae (cu H _ (b3.a.t.mono (by decide)) (b3.b.t.mono (by decide))) ?_; walk_at "sts"
    refine ae (bU H T' (bu T) _ b3'.a.n b3'.b.n (gu b3).a.n (gu b3).b.n (by exact vO lt.1 hd.1 lt.2 hd.2) n3) ?_
    walk_at "sts"
    rfl
  walk_at "go"
  refine am 53 ?_; walk_at "sts"
  refine ca (HH.cT ‹_›) ?_; walk_at "sts"; refine ae (e8 H (bu z) d 99 w1'.hz wa') ?_; walk_at "sts"
  refine am 53 ?_; walk_at "sts"
  refine ca (HH.cT ‹_›) ?_; walk_at "sts"; refine ae (e8 H z d 99 w1.hz wa) ?_; walk_at "sts"
  have ea : aU (bu z) d 99 = aU z d 99 := by unfold aU; rw [es]
  rw [ea]
  exact ⟨true, cmp_re _, rfl⟩
end

section
structure BagK (B S : Addr) (ns : List Int) (k : Nat) (h : Heap) : Prop where
  b : ∃ t, h.IsList B #[.ref S, .int k t]
  s : ∃ vs : List Value, h.IsList S vs.toArray /\ IntsAre vs ns
  ne : B ≠ S
  small : k < 1000
  len : ns.length <= 20

theorem il {h h' base : Heap} {B : Addr} {items : Array Value} (hl : h'.IsList B items) (k : ∀ b o, b ≠ B -> h.get? b = some o -> h'.get? b = some o) : ∀ {l : List Env}, h.FunFrames base l -> h'.FunFrames base l
  | [], _ => trivial
  | env :: rest, ⟨hk, ⟨M, o, hf, hb, ho, hd⟩, hr⟩ => by
    refine ⟨hk, ?_, il hl k hr⟩
    by_cases e : M = B
    · obtain ⟨o', e1, _, n, d⟩ := hl
      exact ⟨M, o', hf, hb, e ▸ e1, fun vs x => by rw [d] at x; cases x⟩
    · exact ⟨M, o, hf, hb, k M o e ho, hd⟩
theorem kq.butB {g : G} {A : Around} {h h' : Heap} {B : Addr} {items : Array Value} (f : kq g A h) (hl : h'.IsList B items) (k : ∀ b o, b ≠ B -> h.get? b = some o -> h'.get? b = some o) : kq g A h' :=
  let ⟨l, e, x⟩ := f; ⟨l, e, il hl k x⟩

theorem ma {g : G} {h : Heap} : ∀ {vs : List Value} {ns : List Int}, IntsAre vs ns -> a8 g h vs (ns.map .int)
  | _, _, .nil => by show a8 g h [] []; unfold a8; rfl
  | _, _, .cons n u t => by
    show a8 g h (_ :: _) (_ :: _)
    unfold a8
    exact ⟨_, _, rfl, ⟨_, rfl⟩, ma t⟩

theorem isList_but {h h' : Heap} {L a : Addr} {items : Array Value} (k : Heap.ExtBut L h h') (hl : h.IsList a items) (ne : a ≠ L) : h'.IsList a items :=
  let ⟨o, e, r⟩ := hl; ⟨o, k a o ne e, r⟩

section
variable {g : G} {C : Cx} {env : bI}

theorem vB {prog : Program} {w : World} {h : Heap} {A : Around} {s : Shared} {value slice : PySem.Expr} {l : List PV} {k : Int} {x : PV} {v i : Value} {P E : Value -> Shared -> Prop}
    (hs : ∀ o j, subscripted slice false o j = operate [o, j] (getItem o j))
    (rv : ci g s.heap v (.lst l)) (ri : ci g h i (.int k)) (h0 : 0 <= k) (hx : l[k.toNat]? = some x) (hl : l.length <= 100) (kk : ∀ val, ci g s.heap val x -> P val s) :
    wpAny (model prog w) A (subscriptTail value slice v i) P E s := by
  unfold ci at rv ri
  obtain ⟨a, vs, rfl, t, rs⟩ := rv
  obtain ⟨u, rfl⟩ := ri
  have hk : k.toNat < l.length := by
    rcases Nat.lt_or_ge k.toNat l.length with h | h
    · exact h
    · rw [List.getElem?_eq_none h] at hx; cases hx
  have key : ∀ (l : List PV) (vs : List Value) (n : Nat), a8 g s.heap vs l -> l[n]? = some x -> ∃ val, vs[n]? = some val /\ ci g s.heap val x := by
    intro l
    induction l with
    | nil => intro vs n r h; cases h
    | cons d l ih =>
      intro vs n r h
      unfold a8 at r
      obtain ⟨v, vs', rfl, r1, r2⟩ := r
      cases n with
      | zero => cases h; exact ⟨v, rfl, r1⟩
      | succ n => exact ih vs' n r2 h
  obtain ⟨val, hv, rx⟩ := key l vs _ rs hx
  exact tail_any t.typeIs slot_list_getitem.lookup (wpAny_getItem_list t h0 (by exact fq312 hk hl) (by simpa using hv) (kk val rx)) (hs _ _)

theorem SE_subL {value slice : PySem.Expr} {pos : Pos} {Q : PV -> Prop} (hs : ∀ o j, subscripted slice false o j = operate [o, j] (getItem o j))
    (h : SE g C value env fun v => SE g C slice env fun i => ∃ l k x, v = .lst l /\ i = .int k /\ 0 <= k /\ l[k.toNat]? = some x /\ l.length <= 100 /\ Q x) : SE g C (.Subscript value slice pos) env Q := fun A L ad cd s P E o k =>
  Subscript_ (h A L ad cd s _ E o fun v va h1 t1 hv rv o1 k1 => hv A L ad cd _ _ E o1 fun i vi h2 t2 ⟨l, n, x, e1, e2, h0, hx, hl, q⟩ ri o2 k2 => by
    subst e1 e2
    exact vB hs (ci.keep (jv o1 k2) _ rv) ri h0 hx hl fun val rx => k x val h2 t2 q rx o2 (k1.trans k2))

theorem uM (B : Bi g) (l : List PV) (hx : l.length <= 100) : Ret g 0 "len" [.lst l] (.int (l.length : Int)) :=
  ⟨_, .inr B.len, .inl ⟨_, rfl⟩, fun A s vals P E _ _ hh _ _ _ r k => by
    obtain ⟨v, rfl, rv⟩ := nS r
    unfold ci at rv; obtain ⟨a, vs, rfl, t, rs⟩ := rv
    have hl := a8.length rs
    refine len_list t (by simp [hl]; exact fq803 hx) ?_
    have e : ((vs.toArray.size : Nat) : Int) = (l.length : Int) := by simp [hl]
    rw [e]
    exact k _ s.heap _ (fun _ _ e => e) ⟨_, rfl⟩⟩
end

noncomputable def rV : List Stmt := (au 62).body.drop 1
noncomputable def pick (ns : List Int) (k : Nat) : Int := bif decide (((k : Int) + 1) <= ns.length) then (ns[k]?).getD 0 else 5 * ((k : Int) + 1) + 6

local macro_rules | `(tactic| walk_at "st") => `(tactic| first
  | ((with_reducible refine' SE_subL ?h1 ?_); (case h1 => exact fun _ _ => rfl))
  | ((with_reducible show ∃ l k x, _ = PV.lst l /\ _); (refine ⟨_, _, _, rfl, rfl, by first | decide | lia -abstractProof, rfl, Nat.le_of_ble_eq_true rfl, ?_⟩)))

theorem o6 {g : G} (H : HH g) (ns : List Int) (k : Nat) (n : Int) (hk : k < 1000) (hn : ns.length <= 20) (h0 : 0 < n) (hs : ar n) :
    mu g ⟨(au 62).name, (au 62).scope, 3⟩ rV [("bag", .lst [.lst (ns.map .int), .int ((k : Int) + 1)]), ("sides", .int n)] fun | .ret v => v = .int (pick ns k % n) | .next _ => False := by
  refine eX (wN ?_)
  refine wV ?_
  refine wS (c := decide (((k : Int) + 1) <= ns.length)) (i := (ns[k]?).getD 0) (j := 5 * ((k : Int) + 1) + 6) ?_ ?_ ?_ ?_
  · walk_at "sts"
    refine bT ?_; walk_at "sts"
    refine ae (uM H.B _ (by simp; exact fq261 hn)) ?_
    refine ⟨_, rfl, ?_⟩
    simp
  · intro hc
    have hc := of_decide_eq_true hc
    walk_at "sts"
    have hlt : k < ns.length := by lia -abstractProof
    refine ⟨_, _, .int ns[k], rfl, rfl, by exact fq740, ?_, by simp; exact fq261 hn, ?_⟩
    · have e : ((k : Int) + 1 - 1).toNat = k := by exact fq721
      rw [e, List.getElem?_map, List.getElem?_eq_getElem hlt]; rfl
    · rw [List.getElem?_eq_getElem hlt]; rfl
  · intro hc
    walk_at "sts"
  · walk_at "sts"
    rfl

structure ShareC (g : G) (B S : Addr) (ns : List Int) : Prop where
  run : ∃ fv, g.mg "_law_share" = some fv /\ ej g fv /\ ∀ (A : Around) (s : Shared) (k : Nat) (val : Value) (n : Int) (P E : Value -> Shared -> Prop),
    A.depth + 5 < 900 -> A.units + 50 < 9000 -> A.handled = none -> kq g A s.heap -> (∀ b o, g.hb.get? b = some o -> s.heap.get? b = some o) -> g.hb.objs.size <= s.heap.objs.size ->
    BagK B S ns k s.heap -> k < 100 -> ci g s.heap val (.int n) -> 0 < n -> ar n ->
    (∀ (r : Int) t h' tk', 0 <= r -> r < n -> (∀ b o, b ≠ B -> s.heap.get? b = some o -> h'.get? b = some o) -> BagK B S ns (k + 1) h' -> P (.int r t) { s with heap := h', toks := tk' }) ->
    wpAny (model g.prog g.w) A (call fv [.ref B, val]) P E s

theorem aug_bag {g : G} {A : Around} {L a : Addr} {cd : Value} {s : Shared} {nm : Str} {sc : Scope} {h₀ : Heap} {m : Str -> Option Value} {B S : Addr} {k : Nat} {tb : Tok} {p1 p2 p3 p4 p5 : Pos} {k1 k2 : Nat} {Q : Flow -> Shared -> Prop} {E : Value -> Shared -> Prop}
    (hk : sc.kind = .function) (hl : sc.names.lookup ("bag" : Str) = some NameKind.local) (F : Fr h₀ L s.heap m) (hm : m ("bag" : Str) = some (.ref B)) (lb : s.heap.IsList B #[.ref S, .int k tb])
    (K : ∀ h₂ t tk, h₂.IsList B #[.ref S, .int ((k : Int) + 1) t] -> Heap.SameBut B s.heap h₂ -> Q .next { s with heap := h₂, toks := tk }) :
    wpAny (model g.prog g.w) A (exec (Stmt.AugAssign (PySem.Expr.Subscript (PySem.Expr.Name ("bag" : Str) p1) (PySem.Expr.Constant (Const.int 1) k1 p2) p3) Operator.Add (PySem.Expr.Constant (Const.int 1) k2 p4) p5) (envOf nm sc L a cd)) Q E s := by
  refine wpAny_AugAssign_SubscriptAny ?_ fun _ _ _ => rfl
  refine ld F hm ?_ hk hl
  refine wpAny_Constant_int ?_
  refine wpAny_getItem_list (x := .int k tb) lb (by decide) (by decide) rfl ?_
  refine wpAny_Constant_int ?_
  dsimp only
  generalize s.toks = tt
  refine iadd_int ?_
  exact wpAny_setItem_list lb (by decide) (by decide) (show (1 : Int) < ((2 : Nat) : Int) by decide) fun h₂ lb2 sb => K h₂ _ _ lb2 sb

theorem shareC {g : G} (H : HH g) {B S : Addr} {ns : List Int} (hB : g.hb.get? B = none) : ShareC g B S ns := by
  obtain ⟨a, o, pm, code, doc, h1, h2, h3, h4⟩ := H.D 62 rfl
  refine ⟨.ref a, h1, .inr (.inr ⟨a, o, _, rfl, h2, h3⟩), fun A s k val n P E hdp hun hh hfr hkeep hsz bag hk rn h0 hs K => wpAny_call ?_⟩
  unfold ci at rn
  obtain ⟨tn, rfl⟩ := rn
  refine call_plain (by show A.depth < 1000; exact fq784 hdp) (hkeep _ _ h2) h3 (g.T.nolimit.keeps hkeep) (h4.keeps hkeep) (binds := [("bag", .ref B), ("sides", .int n tn)]) rfl ?_ ?_ rfl rfl rfl (by decide +kernel)
  · intro x hx
    simp only [List.mem_cons, List.not_mem_nil, or_false] at hx
    rcases hx with rfl | rfl <;> rfl
  · intro h₁ F
    obtain ⟨tb, lb⟩ := bag.b
    obtain ⟨vs, ls, iv⟩ := bag.s
    have lb1 : h₁.IsList B #[.ref S, .int k tb] := let ⟨o, e, r⟩ := lb; ⟨o, F.keep B o e, r⟩
    have ls1 : h₁.IsList S vs.toArray := let ⟨o, e, r⟩ := ls; ⟨o, F.keep S o e, r⟩
    have hBL : B ≠ s.heap.objs.size := fun e => by obtain ⟨o, e1, _⟩ := lb; rw [e] at e1; exact absurd (Heap.lt_size e1) (Nat.lt_irrefl _)
    have hSL : S ≠ s.heap.objs.size := fun e => by obtain ⟨o, e1, _⟩ := ls; rw [e] at e1; exact absurd (Heap.lt_size e1) (Nat.lt_irrefl _)
    refine wpAny_execs_cons (aug_bag rfl rfl F rfl lb1 fun h₂ tc tk2 lb2 sb => ?_)
    have lb2 : h₂.IsList B #[.ref S, .int ((k : Int) + 1) tc] := lb2
    have k2 : ∀ b o, b ≠ B -> s.heap.get? b = some o -> h₂.get? b = some o := fun b o hb e => sb.extBut b o hb (F.keep b o e)
    have ls2 : h₂.IsList S vs.toArray := let ⟨o, e, r⟩ := ls1; ⟨o, sb.extBut S o (Ne.symm bag.ne) e, r⟩
    have F2 : Fr g.hb s.heap.objs.size h₂ (fun x => [(("bag" : Str), Value.ref B), (("sides" : Str), .int n tn)].reverse.lookup x) :=
      ⟨F.ns.sameBut sb (Ne.symm hBL), fun b o e => k2 b o (fun hb => by rw [hb, hB] at e; cases e) (hkeep b o e), hsz⟩
    have rb : ci g h₂ (.ref B) (.lst [.lst (ns.map .int), .int ((k : Int) + 1)]) := by
      unfold ci
      refine ⟨B, [.ref S, .int ((k : Int) + 1) tc], rfl, lb2, ?_⟩
      unfold a8
      refine ⟨_, _, rfl, ⟨S, vs, rfl, ls2, ma iv⟩, ?_⟩
      unfold a8
      refine ⟨_, _, rfl, ⟨_, rfl⟩, ?_⟩
      unfold a8
      rfl
    have o2 : Ok g ⟨(au 62).name, (au 62).scope, 3⟩ (A.deeper (envOf (au 62).name (au 62).scope s.heap.objs.size a code)) s.heap.objs.size h₂ [("bag", .lst [.lst (ns.map .int), .int ((k : Int) + 1)]), ("sides", .int n)] := by
      refine ⟨by show A.depth + 1 + 3 < 900; exact fq783 hdp, by show A.units + 3 + 10 * 3 < 9000; exact fq785 hun, hh, (hfr.deeper F.keep (Heap.get?_none_of_le hsz) F.ns (show (au 62).scope.kind ≠ .module by decide) rfl).butB lb2 (fun b o hb e => sb.extBut b o hb e), (fun e => absurd e (by decide)), rfl, _, F2, ?_⟩
      exact ee ["bag", "sides"] [.lst [.lst (ns.map .int), .int ((k : Int) + 1)], .int n] [.ref B, .int n tn] h₂ (by decide) rfl (by
        unfold a8
        refine ⟨_, _, rfl, rb, ?_⟩
        unfold a8
        refine ⟨_, _, rfl, ⟨_, rfl⟩, ?_⟩
        unfold a8
        rfl)
    refine o6 H ns k n (by exact fq794 hk) bag.len h0 hs _ _ a code _ _ _ o2 (fun env' h' tk' q o' k' => q.elim) fun v val h' tk' q rv o' k' => ?_
    subst q
    unfold ci at rv
    obtain ⟨tr, rfl⟩ := rv
    refine K (pick ns k % n) tr h' _ (Int.emod_nonneg _ (by exact jb h0)) (Int.emod_lt_of_pos _ h0) (fun b o hb e => k' b o (Nat.ne_of_lt (Heap.lt_size e)) (k2 b o hb e)) ⟨⟨tc, ?_⟩, ⟨vs, ?_, iv⟩, bag.ne, by exact fq793 hk, bag.len⟩
    · obtain ⟨o, e, r⟩ := lb2
      exact ⟨o, k' B o hBL e, by exact_mod_cast r⟩
    · obtain ⟨o, e, r⟩ := ls2
      exact ⟨o, k' S o hSL e, r⟩
end

section
mutual
noncomputable def noL : PV -> Bool
  | .lst _ => false
  | .tup l => g7 l
  | _ => true
noncomputable def g7 : List PV -> Bool
  | [] => true
  | d :: l => noL d && g7 l
end
mutual
theorem ci.keepN {g : G} {h h' : Heap} (hk : ∀ a items, IsTup h a items -> IsTup h' a items) : ∀ (d : PV) {v : Value}, noL d = true -> ci g h v d -> ci g h' v d
  | .none, _, _, r => r
  | .bool _, _, _, r => r
  | .int _, _, _, r => r
  | .str _, _, _, r => r
  | .tup l, _, n, r => by
    unfold noL at n
    unfold ci at r |-
    obtain ⟨a, vs, e, t, rs⟩ := r
    exact ⟨a, vs, e, hk _ _ t, a8.keepN hk l n rs⟩
  | .lst l, _, n, r => by unfold noL at n; cases n
  | .fn _, _, _, r => r
theorem a8.keepN {g : G} {h h' : Heap} (hk : ∀ a items, IsTup h a items -> IsTup h' a items) : ∀ (l : List PV) {vs : List Value}, g7 l = true -> a8 g h vs l -> a8 g h' vs l
  | [], _, _, r => r
  | d :: l, _, n, r => by
    unfold g7 at n
    have n' := Bool.and_eq_true_iff.mp n
    unfold a8 at r |-
    obtain ⟨v, vs', e, a, b⟩ := r
    exact ⟨v, vs', e, ci.keepN hk d n'.1 a, a8.keepN hk l n'.2 b⟩
end

theorem tup_neB {h : Heap} {B a : Addr} {items its : Array Value} (hl : h.IsList B its) (t : IsTup h a items) : a ≠ B := by
  rintro rfl
  obtain ⟨o, e, r, _⟩ := hl
  obtain ⟨o', e', r', _⟩ := t
  rw [e] at e'; cases e'
  rw [r] at r'
  exact absurd (Value.type.inj r') (by decide)

structure OkB (g : G) (C : Cx) (B S : Addr) (ns : List Int) (A : Around) (L : Addr) (h : Heap) (env : bI) (k : Nat) : Prop where
  depth : A.depth + C.N < 900
  units : A.units + 10 * C.N < 9000
  hand : A.handled = none
  frm : kq g A h
  top : C.name = ("law" : Str) -> ∃ a cd, A.frames = some [envOf C.name C.scope L a cd]
  kind : C.scope.kind = .function
  nl : ∀ x v, env.lookup x = some v -> noL v = true
  bag : BagK B S ns k h
  hB : g.hb.get? B = none
  fr : ∃ m, Fr g.hb L h m /\ lK g h m env /\ m ("bag" : Str) = some (.ref B)

noncomputable def iq (L B : Addr) (h h' : Heap) : Prop := ∀ b o, b ≠ L -> b ≠ B -> h.get? b = some o -> h'.get? b = some o
theorem iq.refl (L B : Addr) (h : Heap) : iq L B h h := fun _ _ _ _ e => e
theorem iq.trans {L B : Addr} {h h' h'' : Heap} (a : iq L B h h') (b : iq L B h' h'') : iq L B h h'' := fun c o x y e => b c o x y (a c o x y e)

section
variable {g : G} {C : Cx} {B S : Addr} {ns : List Int} {env : bI}

theorem OkB.tup {A : Around} {L : Addr} {h h' : Heap} {k : Nat} (o : OkB g C B S ns A L h env k) (e : iq L B h h') : ∀ a items, IsTup h a items -> IsTup h' a items := fun a items t => by
  obtain ⟨m, F, r, mb⟩ := o.fr
  obtain ⟨tb, lb⟩ := o.bag.b
  have h1 := oY F.ns t
  have h2 := tup_neB lb t
  obtain ⟨ob, e1, r1⟩ := t
  exact ⟨ob, e a ob h1 h2 e1, r1⟩

theorem OkB.keep {A : Around} {L : Addr} {h h' : Heap} {k : Nat} (o : OkB g C B S ns A L h env k) (e : iq L B h h') {d : PV} {v : Value} (n : noL d = true) (r : ci g h v d) : ci g h' v d :=
  ci.keepN (o.tup e) d n r

/-- after a call that keeps all but the bag -/
theorem OkB.step {A : Around} {L : Addr} {h h' : Heap} {k k' : Nat} (o : OkB g C B S ns A L h env k) (e : ∀ b o, b ≠ B -> h.get? b = some o -> h'.get? b = some o) (bg : BagK B S ns k' h') : OkB g C B S ns A L h' env k' := by
  obtain ⟨m, F, r, mb⟩ := o.fr
  obtain ⟨tb, lb⟩ := o.bag.b
  have hLB : L ≠ B := fun x => by
    obtain ⟨ob, es, ep, e1, d, _⟩ := F.ns
    obtain ⟨o', e', _, n, d'⟩ := lb
    rw [x, e'] at e1; cases e1
    rw [d] at d'; cases d'
  obtain ⟨tb', lb'⟩ := bg.b
  refine ⟨o.depth, o.units, o.hand, o.frm.butB lb' e, o.top, o.kind, o.nl, bg, o.hB, m, ⟨?_, ?_, F.above⟩, ?_, mb⟩
  · exact F.ns.at' fun ob x => e L ob hLB x
  · intro b ob x
    exact e b ob (fun y => by rw [y, o.hB] at x; cases x) (F.keep b ob x)
  · intro x v hx
    obtain ⟨val, e1, rv⟩ := r x v hx
    exact ⟨val, e1, o.keep (fun b ob _ hb x => e b ob hb x) (o.nl x v hx) rv⟩

theorem OkB.push {A : Around} {L : Addr} {h h' : Heap} {k : Nat} (o : OkB g C B S ns A L h env k) (e : ∀ b o, h.get? b = some o -> h'.get? b = some o) : OkB g C B S ns A L h' env k :=
  o.step (fun b o _ x => e b o x) ⟨let ⟨t, ob, x, r⟩ := o.bag.b; ⟨t, ob, e _ _ x, r⟩, let ⟨vs, ⟨ob, x, r⟩, i⟩ := o.bag.s; ⟨vs, ⟨ob, e _ _ x, r⟩, i⟩, o.bag.ne, o.bag.small, o.bag.len⟩

/-- the bag left alone from here -/
theorem OkB.ok {A : Around} {L : Addr} {h : Heap} {k : Nat} (o : OkB g C B S ns A L h env k) : Ok g C A L h env :=
  ⟨o.depth, o.units, o.hand, o.frm, o.top, o.kind, let ⟨m, F, r, _⟩ := o.fr; ⟨m, F, r⟩⟩

noncomputable def oQ (g : G) (C : Cx) (B S : Addr) (ns : List Int) (e : PySem.Expr) (env : bI) (k : Nat) (Q : PV -> Nat -> Prop) : Prop :=
  ∀ (A : Around) (L a : Addr) (cd : Value) (s : Shared) (P E : Value -> Shared -> Prop), OkB g C B S ns A L s.heap env k ->
    (∀ v val h' tk' k', Q v k' -> noL v = true -> ci g h' val v -> OkB g C B S ns A L h' env k' -> iq L B s.heap h' -> P val { s with heap := h', toks := tk' }) ->
    wpAny (model g.prog g.w) A (eval e (envOf C.name C.scope L a cd)) P (fun e' s' => E e' s') s

noncomputable def SEsb (g : G) (C : Cx) (B S : Addr) (ns : List Int) (es : List PySem.Expr) (env : bI) (k : Nat) (Q : List PV -> Nat -> Prop) : Prop :=
  ∀ (A : Around) (L a : Addr) (cd : Value) (pos : Pos) (s : Shared) (P : List Value -> Shared -> Prop) (E : Value -> Shared -> Prop), OkB g C B S ns A L s.heap env k ->
    (∀ vs vals h' tk' k', Q vs k' -> g7 vs = true -> a8 g h' vals vs -> OkB g C B S ns A L h' env k' -> iq L B s.heap h' -> P vals { s with heap := h', toks := tk' }) ->
    wpAny (model g.prog g.w) A (spliced (backTo pos (starEach es (envOf C.name C.scope L a cd)))) P E s

variable {k : Nat}
theorem iN {i : Int} {n : Nat} {pos : Pos} {Q : PV -> Nat -> Prop} (h : Q (.int i) k) : oQ g C B S ns (.Constant (.int i) n pos) env k Q :=
  fun A L a cd s P E o kk => wpAny_Constant_int (kk _ _ s.heap _ k h rfl ⟨_, rfl⟩ o (iq.refl _ _ _))

theorem kI {l r : PySem.Expr} {op : Operator} {pos : Pos} {Q : PV -> Nat -> Prop}
    (h : oQ g C B S ns l env k fun a k1 => oQ g C B S ns r env k1 fun b k2 => ∃ i, jG op a b (.int i) /\ Q (.int i) k2) : oQ g C B S ns (.BinOp l op r pos) env k Q := fun A L ad cd s P E o kk =>
  wpAny_BinOp (h A L ad cd s _ E o fun a va h1 t1 q1 ha na ra o1 x1 => ha A L ad cd _ _ E o1 fun b vb h2 t2 q2 ⟨c, hc, hq⟩ nb rb o2 x2 =>
    km hc (o1.keep x2 na ra) rb fun val tk' rc => kk (.int c) val h2 tk' q2 hq rfl (rc _) o2 (x1.trans x2))

theorem oO {Q : List PV -> Nat -> Prop} (h : Q [] k) : SEsb g C B S ns [] env k Q := fun A L ad cd pos s P E o kk => spliced_none (kk [] [] s.heap s.toks k h rfl rfl o (iq.refl _ _ _))
theorem iM {e : PySem.Expr} {rest : List PySem.Expr} {Q : List PV -> Nat -> Prop} (hs : isStarred e = false) (h : oQ g C B S ns e env k fun v k1 => SEsb g C B S ns rest env k1 fun vs k2 => Q (v :: vs) k2) : SEsb g C B S ns (e :: rest) env k Q := fun A L ad cd pos s P E o kk => by
  rw [dQ hs]
  refine spliced_cons (h A L ad cd s _ E o fun v va h1 t1 q1 hv nv rv o1 x1 => ?_)
  exact hv A L ad cd pos _ _ E o1 fun vs vals h2 t2 q2 q nvs r o2 x2 => kk (v :: vs) (va :: vals) h2 t2 q2 q (by unfold g7; rw [nv, nvs]; rfl) ⟨_, _, rfl, o1.keep x2 nv rv, r⟩ o2 (x1.trans x2)

theorem mv {elts : List PySem.Expr} {n : Nat} {pos : Pos} {Q : PV -> Nat -> Prop} (h : SEsb g C B S ns elts env k fun vs k1 => vs.length <= 10 /\ Q (.tup vs) k1) : oQ g C B S ns (.Tuple elts n pos) env k Q := fun A L ad cd s P E o kk =>
  Tuple_ (h A L ad cd pos s _ E o fun vs vals h1 t1 q1 ⟨hl, q⟩ nvs r o1 x1 => by
    refine wpAny_newObj_type ?_ (by show vals.toArray.size <= sizeLine; rw [List.size_toArray, a8.length r, sizeLine_eq]; lia -abstractProof)
    have kp : ∀ b o', h1.get? b = some o' -> (h1.push { cls := .type "tuple", data := .seq vals.toArray }).get? b = some o' := fun b o' e => Heap.get?_push_of_some _ e
    exact kk (.tup vs) _ _ t1 q1 q (by unfold noL; exact nvs) ⟨_, vals, rfl, IsTup.new _ _, a8.keep (dE kp) vs r⟩ (o1.push kp) (x1.trans fun b o' _ _ e => kp b o' e))

theorem fq (H : HH g) {p p1 p2 pos : Pos} {n : Int} {c : Nat} {Q : PV -> Nat -> Prop} (hN : 5 <= C.N)
    (hl : C.scope.names.lookup ("_law_share" : Str) = some .globalImplicit) (hb : C.scope.names.lookup ("bag" : Str) = some .local) (hk : k < 100) (h0 : 0 < n) (hn : ar n)
    (h : ∀ r, 0 <= r -> r < n -> Q (.int r) (k + 1)) : oQ g C B S ns (.Call (.Name ("_law_share" : Str) p) [.Name ("bag" : Str) p1, .Constant (.int n) c p2] [] pos) env k Q := fun A L ad cd s P E o kk => by
  obtain ⟨m, F, r, mb⟩ := o.fr
  obtain ⟨fv, g1, g2, run⟩ := (shareC (S := S) (ns := ns) H o.hB).run
  refine wpAny_Call_NameR (ld_global_at F g.T.g g1 ?_ o.kind hl (by decide))
  refine lE g2 rfl (by simp) ?_
  refine spliced_cons (ld F mb ?_ o.kind hb (by decide))
  refine spliced_cons (wpAny_Constant_int (k := c) (pos := p2) ?_)
  refine spliced_none ?_
  refine ⟨F.keep, run A _ k _ n P E (by have := o.depth; exact fq851 hN this) (by have := o.units; exact fq850 hN this) o.hand o.frm F.keep (Nat.le_of_lt (Nat.lt_of_le_of_lt F.above F.ns.lt)) o.bag hk ⟨_, rfl⟩ h0 hn fun r t h' tk' r0 r1 x bg => ?_⟩
  exact kk (.int r) _ h' tk' (k + 1) (h r r0 r1) rfl ⟨_, rfl⟩ (o.step x bg) fun b o' _ hb e => x b o' hb e

theorem wP {l r b e : PySem.Expr} {cpos pos : Pos} {Q : PV -> Nat -> Prop} (hm : behindInMarks .Eq r = false)
    (h : oQ g C B S ns l env k fun x k1 => oQ g C B S ns r env k1 fun y k2 => ∃ i j, x = .int i /\ y = .int j /\ (i = j -> oQ g C B S ns b env k2 Q) /\ (i ≠ j -> oQ g C B S ns e env k2 Q)) :
    oQ g C B S ns (.IfExp (.Compare l [.Eq] [r] cpos) b e pos) env k Q := fun A L ad cd s P E o kk =>
  wpAny_IfExp (wpAny_isTrue_Compare1 (h A L ad cd s _ E o fun x vx h1 t1 k1 hx nx rx o1 x1 => hx A L ad cd _ _ E o1 fun y vy h2 t2 k2 ⟨i, j, e1, e2, q1, q2⟩ ny ry o2 x2 => by
    subst e1 e2
    have hu : A.units + 64 < cLine := by have := o.units; have := cLine_is; exact fq290 ‹_› this
    refine gw (g := g) (a := .int i) (b := .int j) (c := decide (i = j)) hu rfl (o1.keep x2 nx rx) ry (wpAny_truthy_bool ?_)
    by_cases hij : i = j
    · rw [decide_eq_true hij]
      exact q1 hij A L ad cd _ P E o2 fun v val h3 t3 k3 q n rv o3 x3 => kk v val h3 t3 k3 q n rv o3 ((x1.trans x2).trans x3)
    · rw [decide_eq_false hij]
      exact q2 hij A L ad cd _ P E o2 fun v val h3 t3 k3 q n rv o3 x3 => kk v val h3 t3 k3 q n rv o3 ((x1.trans x2).trans x3)) hm)

theorem SEb_neg {x : PySem.Expr} {pos : Pos} {Q : PV -> Nat -> Prop} (h : oQ g C B S ns x env k fun a k1 => ∃ i, a = .int i /\ Q (.int (-i)) k1) : oQ g C B S ns (.UnaryOp .USub x pos) env k Q := fun A L ad cd s P E o kk =>
  wpAny_UnaryOp (h A L ad cd s _ E o fun a va h1 t1 k1 ⟨i, e, hq⟩ na ra o1 x1 => by
    subst e
    unfold ci at ra
    obtain ⟨t, rfl⟩ := ra
    exact PyProof.Rows.neg_int (kk _ _ h1 _ k1 hq rfl ⟨_, rfl⟩ o1 x1))

/-- a store beside the bag -/
theorem l3 {A : Around} {L ad : Addr} {cd : Value} {s : Shared} {x : Str} {v : PV} {val : Value} {P : Unit -> Shared -> Prop} {E : Value -> Shared -> Prop}
    (o : OkB g C B S ns A L s.heap env k) (hl : C.scope.names.lookup x = some .local) (hx : x ≠ ("bag" : Str)) (nv : noL v = true) (rv : ci g s.heap val v)
    (kk : ∀ h' tk', OkB g C B S ns A L h' (upd env x v) k -> iq L B s.heap h' -> P () { s with heap := h', toks := tk' }) :
    wpAny (model g.prog g.w) A (storeName (envOf C.name C.scope L ad cd) x val) P E s := by
  obtain ⟨m, F, r, mb⟩ := o.fr
  refine wpAny_storeName_local hl F.ns (fun h' hn hs => ?_) ?_
  · have he : Heap.ExtBut L s.heap h' := fun b o hb e => (hs.2 b hb).trans e
    have kp := h9 F.ns he
    obtain ⟨tb, lb⟩ := o.bag.b
    obtain ⟨vs, ls, iv⟩ := o.bag.s
    refine kk h' _ ⟨o.depth, o.units, o.hand, o.frm.but hn he, o.top, o.kind, fun y w e => ?_, ⟨⟨tb, kp.l _ _ lb⟩, ⟨vs, kp.l _ _ ls, iv⟩, o.bag.ne, o.bag.small, o.bag.len⟩, o.hB, _, F.set hn hs, lK.upd (r.keep kp) (ci.keep kp v rv), ?_⟩ fun b o h1 _ e => he b o h1 e
    · rw [i9] at e
      by_cases hy : y = x
      · rw [if_pos hy] at e; cases e; exact nv
      · rw [if_neg hy] at e; exact o.nl y w e
    · rw [if_neg (Ne.symm hx)]; exact mb
  · show (C.scope.kind == .class || (C.scope.kind == .module && L != mainGlobals)) = false
    rw [o.kind]; rfl

noncomputable def qM (g : G) (C : Cx) (B S : Addr) (ns : List Int) (sts : List Stmt) (env : bI) (k : Nat) (K : PV -> Nat -> Prop) : Prop :=
  ∀ (A : Around) (L a : Addr) (cd : Value) (s : Shared) (P : Flow -> Shared -> Prop) (E : Value -> Shared -> Prop), OkB g C B S ns A L s.heap env k ->
    (∀ v val h' tk' k', K v k' -> ci g h' val v -> BagK B S ns k' h' -> iq L B s.heap h' -> P (.ret val) { s with heap := h', toks := tk' }) ->
    wpAny (model g.prog g.w) A (execs sts (envOf C.name C.scope L a cd)) P E s

theorem fS {x : Str} {p pos : Pos} {e : PySem.Expr} {rest : List Stmt} {K : PV -> Nat -> Prop} (hl : C.scope.names.lookup x = some .local) (hx : x ≠ ("bag" : Str))
    (h : oQ g C B S ns e env k fun v k1 => qM g C B S ns rest (upd env x v) k1 K)
    (hs : ∀ en : Env, swapsWith e (some (.Name x p)) pos.line en = pure false) : qM g C B S ns (.Assign [.Name x p] e pos :: rest) env k K := fun A L ad cd s P E o kk =>
  wpAny_execs_cons (wpAny_Assign_Name (h A L ad cd s _ E o fun v val h1 t1 k1 q nv rv o1 x1 => l3 o1 hl hx nv rv fun h2 t2 o2 x2 =>
    q A L ad cd _ P E o2 fun v' val' h3 t3 k3 q3 r3 b3 x3 => kk v' val' h3 t3 k3 q3 r3 b3 ((x1.trans x2).trans x3)) (hs _))

theorem mt {rest : List Stmt} {K : PV -> Nat -> Prop} (h : mu g C rest env fun | .ret v => K v k | .next _ => False) : qM g C B S ns rest env k K := fun A L ad cd s P E o kk =>
  h A L ad cd s P E o.ok (fun env' h' tk' q o' k' => q.elim) fun v val h' tk' q rv o' k' => by
    obtain ⟨m, F, r, mb⟩ := o.fr
    have kp := h9 F.ns k'
    obtain ⟨tb, lb⟩ := o.bag.b
    obtain ⟨vs, ls, iv⟩ := o.bag.s
    exact kk v val h' tk' k q rv ⟨⟨tb, kp.l _ _ lb⟩, ⟨vs, kp.l _ _ ls, iv⟩, o.bag.ne, o.bag.small, o.bag.len⟩ fun b o h1 _ e => k' b o h1 e

theorem bindAll_nil' (vs : List PV) (env : bI) : fR [] vs env = env := by cases vs <;> rfl

theorem kP {A : Around} {L ad : Addr} {cd : Value} {P : Unit -> Shared -> Prop} {E : Value -> Shared -> Prop} :
    ∀ (xs : List Str) (ts : List (Value -> Sem Unit)) (vs : List PV) (vals : List Value) (env : bI) (s : Shared), fa g (envOf C.name C.scope L ad cd) ts xs ->
    (xs.all fun x => C.scope.names.lookup x == some .local && x != ("bag" : Str)) = true -> xs.length = vs.length -> OkB g C B S ns A L s.heap env k -> g7 vs = true -> a8 g s.heap vals vs ->
    (∀ h' tk', OkB g C B S ns A L h' (fR xs vs env) k -> iq L B s.heap h' -> P () { s with heap := h', toks := tk' }) ->
    wpAny (model g.prog g.w) A (assignInOrder ts vals) P E s
  | [], [], [], vals, env, s, _, _, _, o, _, r, kk => by
    unfold a8 at r; subst r
    exact assignInOrder_nil (kk s.heap s.toks o (iq.refl _ _ _))
  | x :: xs, t :: ts, v :: vs, vals, env, s, hst, hl, hn, o, nv, r, kk => by
    unfold a8 at r
    obtain ⟨val, vals', rfl, r1, r2⟩ := r
    unfold fa at hst
    unfold g7 at nv
    have nv' := Bool.and_eq_true_iff.mp nv
    simp only [List.all_cons, Bool.and_eq_true, beq_iff_eq, bne_iff_ne] at hl
    refine assignInOrder_cons (hst.1 A _ E s val (l3 o hl.1.1 hl.1.2 nv'.1 r1 fun h1 t1 o1 k1 => ?_))
    refine kP xs ts vs vals' (upd env x v) _ hst.2 (by simpa using hl.2) (by simpa using hn) o1 nv'.2 (a8.keepN (o.tup k1) vs nv'.2 r2) fun h2 t2 o2 k2 => ?_
    exact kk h2 t2 o2 (k1.trans k2)
  | [], _ :: _, _, _, _, _, hst, _, _, _, _, _, _ => by unfold fa at hst; exact hst.elim
  | _ :: _, [], _, _, _, _, hst, _, _, _, _, _, _ => by unfold fa at hst; exact hst.elim
  | _ :: _, _ :: _, [], _, _, _, _, _, hn, _, _, _, _ => by cases hn
  | [], [], _ :: _, _, _, _, _, _, hn, _, _, _, _ => by cases hn

theorem kj : ∀ (a b : List PV), g7 a = true -> g7 b = true -> g7 (a ++ b) = true
  | [], b, _, h => h
  | d :: a, b, h1, h2 => by
    unfold g7 at h1
    have := Bool.and_eq_true_iff.mp h1
    show g7 (d :: (a ++ b)) = true
    unfold g7
    rw [this.1, kj a b this.2 h2]; rfl
theorem jw : ∀ (a : List PV), g7 a = true -> g7 a.reverse = true
  | [], h => h
  | d :: a, h => by
    unfold g7 at h
    have := Bool.and_eq_true_iff.mp h
    rw [List.reverse_cons]
    refine kj _ _ (jw a this.2) ?_
    unfold g7; rw [this.1]; rfl

theorem SSsb_sw {ts : List PySem.Expr} {n : Nat} {p pos : Pos} {e : PySem.Expr} {xs : List Str} {rest : List Stmt} {K : PV -> Nat -> Prop}
    (h : oQ g C B S ns e env k fun v k1 => ∃ l, v = .tup l /\ xs.length = l.length /\ qM g C B S ns rest (fR xs.reverse l.reverse env) k1 K)
    (hl : (xs.reverse.all fun x => C.scope.names.lookup x == some .local && x != ("bag" : Str)) = true)
    (hs : ∀ en : Env, swapsWithSole [.Tuple ts n p] e pos.line en = pure false) (hw : ∀ L a cd, swappedStores [.Tuple ts n p] e (envOf C.name C.scope L a cd) = pure (some xs)) :
    qM g C B S ns (.Assign [.Tuple ts n p] e pos :: rest) env k K := fun A L ad cd s P E o kk => by
  refine wpAny_execs_cons ?_
  have e0 : exec (.Assign [.Tuple ts n p] e pos) (envOf C.name C.scope L ad cd) = (do
      standAt pos
      if <- swapsWithSole [.Tuple ts n p] e pos.line (envOf C.name C.scope L ad cd) then do
        evalThenUse e (envOf C.name C.scope L ad cd) fun v => assignAll v ((assignEach [.Tuple ts n p] (envOf C.name C.scope L ad cd)).map (·.2))
        pure .next
      else do
        let v <- eval e (envOf C.name C.scope L ad cd)
        assignStores (envOf C.name C.scope L ad cd) v (<- swappedStores [.Tuple ts n p] e (envOf C.name C.scope L ad cd)) ((assignEach [.Tuple ts n p] (envOf C.name C.scope L ad cd)).map (·.2))) := rfl
  rw [e0, hs, hw]
  refine wpAny_bind (wpAny_standAt (wpAny_bind (wpAny_pure ?_)))
  simp only [Bool.false_eq_true, if_false]
  refine wpAny_bind (h A L ad cd s _ E o fun v val h1 t1 k1 ⟨l, e1, hn, q⟩ nv rv o1 x1 => ?_)
  subst e1
  unfold ci at rv
  obtain ⟨b, vs, rfl, t, rs⟩ := rv
  unfold noL at nv
  refine wpAny_bind (wpAny_pure ?_)
  unfold assignStores
  refine wpAny_bind (wpAny_rule ?_)
  have hsz : xs.length = vs.toArray.size := by rw [hn, <- a8.length rs]; simp
  rw [hsz]
  refine wpAny_bind (wpAny_unpackItems_tuple o1.hand t fun h' hk => ?_)
  have hk' : ∀ b o, h1.get? b = some o -> h'.get? b = some o := fun b o e => hk b o (Nat.ne_of_lt (Heap.lt_size e)) e
  refine wpAny_bind (kP (C := C) (ad := ad) (cd := cd) xs.reverse _ l.reverse vs.reverse env { s with heap := h', toks := t1 } ?_ hl (by simp [hn]) (o1.push hk') (jw l nv) (a8.reverse (a8.keep (dE hk') l rs)) fun h2 t2 o2 k2 => wpAny_pure ?_)
  · have gen : ∀ ys : List Str, fa g (envOf C.name C.scope L ad cd) (ys.map fun n => bindName (envOf C.name C.scope L ad cd) n) ys := by
      intro ys
      induction ys with
      | nil => trivial
      | cons y ys ih => exact ⟨fun A P E s v h => wpAny_bindName h, ih⟩
    exact gen _
  · exact q A L ad cd _ P E o2 fun v' val' h5 t5 k5 q5 r5 b5 x5 => kk v' val' h5 t5 k5 q5 r5 b5 ((x1.trans (fun b o _ _ e => hk' b o e)).trans (iq.trans k2 x5))
end
end

section
noncomputable def fK (x : Re) : Prop := x = (0, 0) \/ (x.1 ≠ 0 /\ x.1.natAbs <= 38 /\ x.1 % 10 ≠ 0 /\ -2 <= x.2 /\ x.2 <= 1 /\ (x.2 = 1 -> x.1.natAbs <= 3))

noncomputable def n7 : List Stmt := (au 68).body.drop 2

local macro_rules | `(tactic| walk_at "stw") => `(tactic| first | walk_at "st")

noncomputable def prI (s : Int × Int) : Prop := (0 < s.1 /\ s.1 <= 38 /\ -2 <= s.2 /\ s.2 <= 0) \/ (0 < s.1 /\ s.1 <= 3 /\ -2 <= s.2 /\ s.2 <= 1)
theorem nZ (s : Int × Int) (hs : prI s) (hc : decide (s.1 % 10 = 0) = true) : prI (s.1 / 10, s.2 + 1) /\ (s.1 / 10).toNat < s.1.toNat := by
  have hc := of_decide_eq_true hc
  refine ⟨?_, ?_⟩
  · rcases hs with hs | hs
    · exact .inr (by show 0 < s.1 / 10 /\ s.1 / 10 <= 3 /\ -2 <= s.2 + 1 /\ s.2 + 1 <= 1; lia -abstractProof)
    · exfalso; lia -abstractProof
  · rcases hs with hs | hs <;> exact fq135 hs.1
theorem InP_of {sg : Int} {t : Int × Int} (hs : sg = 1 \/ sg = -1) (hI : prI t) (hc : ¬ t.1 % 10 = 0) : fK (sg * t.1, t.2) := by
  have hn : (sg * t.1).natAbs = t.1.natAbs := by rcases hs with rfl | rfl <;> simp
  have hm : ¬ (sg * t.1) % 10 = 0 := by
    rcases hs with rfl | rfl
    · rwa [Int.one_mul]
    · intro h; exact hc (Int.emod_eq_zero_of_dvd (Int.dvd_neg.mp (by rw [<- Int.neg_one_mul]; exact Int.dvd_of_emod_eq_zero h)))
  have h3 : t.1.natAbs <= 38 /\ -2 <= t.2 /\ t.2 <= 1 /\ (t.2 = 1 -> t.1.natAbs <= 3) := by
    rcases hI with ⟨a, b, c, d⟩ | ⟨a, b, c, d⟩
    · exact ⟨by lia -abstractProof, c, by lia -abstractProof, fun e => by rw [e] at d; exact absurd d (by decide)⟩
    · exact ⟨by lia -abstractProof, c, d, fun _ => by lia -abstractProof⟩
  refine .inr ⟨fun h => hm (by show (sg * t.1) % 10 = 0; rw [show sg * t.1 = 0 from h]; rfl), ?_, hm, h3.2.1, h3.2.2.1, fun e => ?_⟩
  · show (sg * t.1).natAbs <= 38; rw [hn]; exact h3.1
  · show (sg * t.1).natAbs <= 3; rw [hn]; exact h3.2.2.2 e
theorem md {g : G} (H : HH g) (m e sg : Int) (hm : 0 <= m /\ m <= 38) (he : -2 <= e /\ e <= 0) (hs : sg = 1 \/ sg = -1) :
    mu g ⟨(au 68).name, (au 68).scope, 6⟩ n7 [("e", .int e), ("m", .int m), ("sign", .int sg)] fun | .ret v => ∃ x : Re, fK x /\ v = re x | .next _ => False := by
  unfold n7
  refine eX ?_
  walk_at "sts"
  · exact ⟨(0, 0), .inl rfl, rfl⟩
  · rename_i h
    have h : m ≠ 0 := h
    refine gU (σ := Int × Int) (fun s => [("e", .int s.2), ("m", .int s.1), ("sign", .int sg)]) (fun s => decide (s.1 % 10 = 0)) (fun s => (s.1 / 10, s.2 + 1)) prI (fun s => s.1.toNat) 40 (m, e) ?_ (.inl (by exact fq191 he.1 hm.1 he.2 hm.2 ‹_›)) (by show m.toNat <= 40; exact fq167 hm.2) ?_ ?_ ?_
    · walk_at "le"
    · exact nZ
    · intro s hs
      walk_at "sts"
      refine ⟨rfl, fun _ => ?_⟩
      walk_at "go"
      walk_at "le"
    · obtain ⟨hI, hc⟩ := jY (c := fun s : Int × Int => decide (s.1 % 10 = 0)) (f := fun s => (s.1 / 10, s.2 + 1)) prI (fun s => s.1.toNat) nZ 40 (m, e) (.inl (by exact fq191 he.1 hm.1 he.2 hm.2 ‹_›)) (by show m.toNat <= 40; exact fq167 hm.2)
      generalize cV (fun s : Int × Int => decide (s.1 % 10 = 0)) (fun s => (s.1 / 10, s.2 + 1)) 40 (m, e) = t at hI hc |-
      have hc := of_decide_eq_false hc
      walk_at "go"
      exact ⟨(sg * t.1, t.2), InP_of hs hI hc, rfl⟩

theorem iw {n : Int} (h : n.natAbs < 100) : ar n := Nat.lt_trans h (by decide +kernel)

theorem si {g : G} (H : HH g) {B S : Addr} {ns : List Int} {k : Nat} (hk : k + 5 < 100) :
    qM g ⟨(au 68).name, (au 68).scope, 6⟩ B S ns (au 68).body [] k fun v k' => k' = k + 4 /\ ∃ x : Re, fK x /\ v = re x := by
  refine SSsb_sw (xs := ["m", "e"]) ?_ rfl (fun _ => rfl) (fun _ _ _ => rfl)
  refine mv (iM rfl (kI (kI (fq H (by decide) rfl rfl (by exact fq782 hk) (by decide) (iw (by decide)) fun r1 a1 b1 => iN ⟨_, ⟨rfl, .inr (.inl (by decide))⟩, fq H (by decide) rfl rfl (by exact fq781 hk) (by decide) (iw (by decide)) fun r2 a2 b2 => ⟨_, rfl, ?_⟩⟩))))
  refine iM rfl (kI (fq H (by decide) rfl rfl (by exact fq780 hk) (by decide) (iw (by decide)) fun r3 a3 b3 => iN ⟨_, rfl, oO ⟨Nat.le_of_ble_eq_true rfl, _, rfl, rfl, ?_⟩⟩))
  refine fS rfl (by decide) (wP rfl (fq H (by decide) rfl rfl (by exact fq779 hk) (by decide) (iw (by decide)) fun r4 a4 b4 => iN ⟨_, _, rfl, rfl, fun _ => iN ?_, fun _ => SEb_neg (iN ⟨_, rfl, ?_⟩)⟩)) (fun _ => rfl)
  all_goals
    refine mt ?_
    first
    | exact fun A L a cd s P E o kn kr => md H (r1 * 9 + r2) (r3 - 2) 1 (by exact fq200 a2 a1 b2 b1) (by exact fq141 a3 b3) (.inl rfl) A L a cd s P E o (fun env' h' tk' q o' k' => kn env' h' tk' q o' k') (fun v val h' tk' q rv o' k' => kr v val h' tk' ⟨by exact fq244, q⟩ rv o' k')
    | exact fun A L a cd s P E o kn kr => md H (r1 * 9 + r2) (r3 - 2) (-1) (by exact fq200 a2 a1 b2 b1) (by exact fq141 a3 b3) (.inr rfl) A L a cd s P E o (fun env' h' tk' q o' k' => kn env' h' tk' q o' k') (fun v val h' tk' q rv o' k' => kr v val h' tk' ⟨by exact fq244, q⟩ rv o' k')

structure PartC (g : G) (B S : Addr) (ns : List Int) : Prop where
  run : ∃ fv, g.mg "_law_part" = some fv /\ ej g fv /\ ∀ (A : Around) (s : Shared) (k : Nat) (P E : Value -> Shared -> Prop),
    A.depth + 8 < 900 -> A.units + 80 < 9000 -> A.handled = none -> kq g A s.heap -> (∀ b o, g.hb.get? b = some o -> s.heap.get? b = some o) -> g.hb.objs.size <= s.heap.objs.size ->
    BagK B S ns k s.heap -> k + 5 < 100 ->
    (∀ (x : Re) val h' tk', fK x -> ci g h' val (re x) -> (∀ b o, b ≠ B -> s.heap.get? b = some o -> h'.get? b = some o) -> BagK B S ns (k + 4) h' -> P val { s with heap := h', toks := tk' }) ->
    wpAny (model g.prog g.w) A (call fv [.ref B]) P E s

theorem partC {g : G} (H : HH g) {B S : Addr} {ns : List Int} (hB : g.hb.get? B = none) : PartC g B S ns := by
  obtain ⟨a, o, pm, code, doc, h1, h2, h3, h4⟩ := H.D 68 rfl
  refine ⟨.ref a, h1, .inr (.inr ⟨a, o, _, rfl, h2, h3⟩), fun A s k P E hdp hun hh hfr hkeep hsz bag hk K => wpAny_call ?_⟩
  refine call_plain (by show A.depth < 1000; exact fq788 hdp) (hkeep _ _ h2) h3 (g.T.nolimit.keeps hkeep) (h4.keeps hkeep) (binds := [("bag", .ref B)]) rfl ?_ ?_ rfl rfl rfl (by decide +kernel)
  · intro x hx
    simp only [List.mem_cons, List.not_mem_nil, or_false] at hx
    rcases hx with rfl; rfl
  · intro h₁ F
    obtain ⟨tb, lb⟩ := bag.b
    obtain ⟨vs, ls, iv⟩ := bag.s
    have lb1 : h₁.IsList B #[.ref S, .int k tb] := let ⟨o, e, r⟩ := lb; ⟨o, F.keep B o e, r⟩
    have ls1 : h₁.IsList S vs.toArray := let ⟨o, e, r⟩ := ls; ⟨o, F.keep S o e, r⟩
    have F2 : Fr g.hb s.heap.objs.size h₁ (fun x => [(("bag" : Str), Value.ref B)].reverse.lookup x) := ⟨F.ns, fun b o e => F.keep b o (hkeep b o e), hsz⟩
    have o1 : OkB g ⟨(au 68).name, (au 68).scope, 6⟩ B S ns (A.deeper (envOf (au 68).name (au 68).scope s.heap.objs.size a code)) s.heap.objs.size h₁ [] k :=
      ⟨by show A.depth + 1 + 6 < 900; exact fq787 hdp, by show A.units + 3 + 10 * 6 < 9000; exact fq789 hun, hh, hfr.deeper F.keep (Heap.get?_none_of_le hsz) F.ns (show (au 68).scope.kind ≠ .module by decide) rfl, (fun e => absurd e (by decide)), rfl, fun x v e => (by cases e), ⟨⟨tb, lb1⟩, ⟨vs, ls1, iv⟩, bag.ne, bag.small, bag.len⟩, hB, _, F2, fun x v e => (by cases e), rfl⟩
    refine si H hk _ _ a code _ _ _ o1 fun v val h' tk' k' ⟨ek, x, px, ev⟩ rv bg ex => ?_
    subst ek ev
    exact K x val h' _ px rv (fun b o hb e => ex b o (Nat.ne_of_lt (Heap.lt_size e)) hb (F.keep b o e)) bg

section
variable {g : G} {C : Cx} {B S : Addr} {ns : List Int} {env : bI} {k : Nat}
theorem oP (H : HH g) {p p1 pos : Pos} {Q : PV -> Nat -> Prop} (hN : 8 <= C.N)
    (hl : C.scope.names.lookup ("_law_part" : Str) = some .globalImplicit) (hb : C.scope.names.lookup ("bag" : Str) = some .local) (hk : k + 5 < 100)
    (h : ∀ x : Re, fK x -> Q (re x) (k + 4)) : oQ g C B S ns (.Call (.Name ("_law_part" : Str) p) [.Name ("bag" : Str) p1] [] pos) env k Q := fun A L ad cd s P E o kk => by
  obtain ⟨m, F, r, mb⟩ := o.fr
  obtain ⟨fv, g1, g2, run⟩ := (partC (S := S) (ns := ns) H o.hB).run
  refine wpAny_Call_NameR (ld_global_at F g.T.g g1 ?_ o.kind hl (by decide))
  refine lE g2 rfl (by simp) ?_
  refine spliced_cons (ld F mb ?_ o.kind hb (by decide))
  refine spliced_none ?_
  refine ⟨F.keep, run A _ k P E (by have := o.depth; exact fq853 hN this) (by have := o.units; exact fq852 hN this) o.hand o.frm F.keep (Nat.le_of_lt (Nat.lt_of_le_of_lt F.above F.ns.lt)) o.bag hk fun x val h' tk' px rv e bg => ?_⟩
  exact kk (re x) _ h' tk' (k + 4) (h x px) rfl rv (o.step e bg) fun b o' _ hb x => e b o' hb x
end
end

section
/-- a call out of the frame of law alone; the caller's frame object may change in its slots -/
structure RetT (g : G) (N : Nat) (f : Str) (args : List PV) (r : PV) : Prop where
  run : ∃ fv, GV g f fv /\ ej g fv /\ ∀ (A : Around) (s : Shared) (vals : List Value) (L : Addr) (env0 : Env) (P E : Value -> Shared -> Prop),
    A.depth + N < 900 -> A.units + 10 * N < 9000 -> A.handled = none -> kq g A s.heap -> A.frames = some [env0] -> env0.frame = some L -> (∀ b o, g.hb.get? b = some o -> s.heap.get? b = some o) -> g.hb.objs.size <= s.heap.objs.size -> a8 g s.heap vals args ->
    (∀ val h' tk', (∀ b o, b ≠ L -> s.heap.get? b = some o -> h'.get? b = some o) -> (∀ o, s.heap.get? L = some o -> ∃ o', h'.get? L = some o' /\ o'.data = o.data) -> ci g h' val r -> P val { s with heap := h', toks := tk' }) ->
    wpAny (model g.prog g.w) A (call fv vals) P E s

theorem Ret.t {g : G} {N : Nat} {f : Str} {args : List PV} {r : PV} (h : Ret g N f args r) : RetT g N f args r :=
  let ⟨fv, a, b, c⟩ := h.run
  ⟨fv, a, b, fun A s vals L env0 P E h1 h2 h3 h4 _ _ h5 h6 h7 k => c A s vals P E h1 h2 h3 h4 h5 h6 h7 fun val h' tk' kp rv => k val h' tk' (fun b o _ e => kp b o e) (fun o e => ⟨o, kp _ o e, rfl⟩) rv⟩

section
variable {g : G} {C : Cx} {env : bI}
abbrev CallTQ (g : G) (n : Nat) (f : Str) (Q : PV -> Prop) (vs : List PV) : Prop := ∃ N r, N <= n /\ RetT g N f vs r /\ Q r
theorem oR {d : Def} {id : Str} {p pos : Pos} {es : List PySem.Expr} {Q : PV -> Prop} (hlaw : C.name = ("law" : Str)) (D : gz g d) (hid : id = d.name) (hl : C.scope.names.lookup id = some .globalImplicit) (hd : (id == ("__debug__" : Str)) = false)
    (hn : noStar es = true) (hne : es ≠ [])
    (h : uo g C es env (CallTQ g C.N d.name Q)) : SE g C (.Call (.Name id p) es [] pos) env Q := fun A L ad cd s P E o k => by
  subst hid
  obtain ⟨m, F, rr⟩ := o.fr
  obtain ⟨a, o1, pm, code, doc, g1, g2, g3, g4⟩ := D
  refine wpAny_Call_NameR (ld_global_at F g.T.g g1 ?_ o.kind hl hd)
  refine lE (.inr (.inr ⟨a, o1, _, rfl, g2, g3⟩)) hn hne (h A L ad cd pos _ _ E o fun vs vals h2 t2 ⟨N, r, hN, ⟨fv', ga, gb, gc⟩, q⟩ rs o2 k2 => ?_)
  obtain rfl := GV.uniq (.inl g1) ga
  obtain ⟨m2, F2, rr2⟩ := o2.fr
  obtain ⟨a0, cd0, ef⟩ := o2.top hlaw
  refine ⟨F2.keep, gc A _ vals L _ P E (by have := o2.depth; exact vW this hN) (by have := o2.units; exact vZ this hN) o2.hand o2.frm ef rfl F2.keep (Nat.le_of_lt (Nat.lt_of_le_of_lt F2.above F2.ns.lt)) rs fun val h3 t3 kp kL rv => ?_⟩
  have ns3 : h3.Ns L m2 := by
    obtain ⟨oL, es, ep, e1, d, x⟩ := F2.ns
    obtain ⟨o', e', d'⟩ := kL oL e1
    exact ⟨o', es, ep, e', d'.trans d, x⟩
  have tk : TupK h2 h3 := h9 F2.ns kp
  refine k r val h3 t3 q rv ⟨o2.depth, o2.units, o2.hand, o2.frm.but ns3 kp, o2.top, o2.kind, m2, ⟨ns3, fun b o e => kp b o (fun x => ?_) (F2.keep b o e), F2.above⟩, rr2.keep tk⟩ (k2.trans kp)
  exact absurd (Heap.lt_size e) (Nat.not_lt.mpr (x ▸ F2.above))
end

structure LawOk (z : Cc) (d : Int) : Prop where
  hd : 1 <= d /\ d <= 10
  dist : DistOk z d
  root : RootOk z d
  log : bK z = false -> LogRightOk z d
  nz : bK z = true -> z = ((0, 0), (0, 0))
  e1 : CExpOk z d 99
  e2 : CExpOk (fi z) d 99
  b1 : BdC (aT z d 99)
  b2 : BdC (aT (fi z) d 99)
  near : fe (bq (aT z d 99) (aT (fi z) d 99)) ((1, 0), (0, 0)) (3 - d)
  waves : WavesOk z d
  m0 : z.2.1 = 0 -> MirOk0 z d
  m1 : z.2.1 ≠ 0 -> MirOk1 z d
  r0 : RootOk ((0, 0), (0, 0)) d
  t0 : CTrigOk ((0, 0), (0, 0)) d 9
  x0 : CExpOk ((0, 0), (0, 0)) d 9
  vs : bO ((0, 0), (0, 0)) d 9 = ((0, 0), (0, 0))
  vc : bP ((0, 0), (0, 0)) d 9 = ((1, 0), (0, 0))
  ve : aT ((0, 0), (0, 0)) d 9 = ((1, 0), (0, 0))

section
variable {g : G} {C : Cx} {env : bI}
theorem wZ {x : PySem.Expr} {rest : List PySem.Expr} {Q : Bool -> Prop} (h1 : SB g C x env fun b => b = false) (h2 : iT g C .Or rest env Q) : iT g C .Or (x :: rest) env Q := by
  refine nH fun A L a cd s P E o k => h1 A L a cd s P E o fun b h' tk' e => k b h' tk' ⟨fun hb => h2, fun hb => ?_⟩
  rw [e] at hb; cases hb
theorem SE_andT {e₁ e₂ : PySem.Expr} {rest : List PySem.Expr} {pos : Pos} {Q : PV -> Prop}
    (h1 : SE g C e₁ env fun v => v = .bool true) (h2 : SE g C (.BoolOp .And (e₂ :: rest) pos) env Q) : SE g C (.BoolOp .And (e₁ :: e₂ :: rest) pos) env Q := by
  refine wW (h1.mono fun v hv => ⟨true, by rw [hv]; rfl, fun _ => h2, fun h => by cases h⟩)
end
theorem wC (x : Cc) : cmp .NotEq (cx x) (cx x) false := by
  refine ⟨rfl, ?_⟩
  show false = !((decide (x.1.1 = x.1.1) && (decide (x.1.2 = x.1.2) && true)) && (((decide (x.2.1 = x.2.1) && (decide (x.2.2 = x.2.2) && true)) && true)))
  simp
theorem oG (x : Cc) : cmp .Eq (cx x) (cx x) true := by
  refine ⟨rfl, ?_⟩
  show true = ((decide (x.1.1 = x.1.1) && (decide (x.1.2 = x.1.2) && true)) && (((decide (x.2.1 = x.2.1) && (decide (x.2.2 = x.2.2) && true)) && true)))
  simp
local macro_rules | `(tactic| walk_at "st") => `(tactic| first
  | with_reducible refine wZ ?_ ?_
  | with_reducible refine SE_andT ?_ ?_)

noncomputable def rD : List Stmt := (au 74).body.drop 5

theorem li {g : G} (H : HH g) (z : Cc) (d w : Int) (W : LawOk z d) (L0 : RetT g 8 "_law_log_right" [cx ((0, 0), (0, 0)), .int d] (.bool true)) :
    mu g ⟨(au 74).name, (au 74).scope, 9⟩ rD [("digits", .int d), ("way", .int w), ("z", cx z)] fun | .ret v => v = .bool true | .next _ => False := by
  unfold rD
  have LR : RetT g 8 "_law_log_right" [cx z, .int d] (.bool true) := by
    cases h : bK z with
    | false => exact (jq H z d (W.log h)).t
    | true => rw [W.nz h]; exact L0
  have MR : Ret g 8 "_law_mirrored" [cx z, .int d] (.bool true) := by
    by_cases h : z.2.1 = 0
    · exact jp H z d h (W.m0 h)
    · exact jo H z d h (W.m1 h)
  have hd := W.hd
  walk_at "go"
  · refine am 69 ?_; walk_at "sts"
    refine ae (gH H z d W.dist) ?_; walk_at "sts"; rfl
  · refine am 70 ?_; walk_at "sts"
    refine ae (fu H z d W.root) ?_; walk_at "sts"; rfl
  · refine oR rfl (H.D 71 rfl) rfl rfl (by decide) rfl (by simp) ?_; walk_at "sts"
    refine ⟨_, _, by decide, LR, ?_⟩; walk_at "sts"; rfl
  refine am 65 ?_; walk_at "sts"; refine ae (bG H z.1) ?_; walk_at "sts"
  refine am 65 ?_; walk_at "sts"; refine ae (bG H z.2) ?_; walk_at "sts"
  refine am 55 ?_; walk_at "sts"
  refine ca (HH.cT ‹_›) ?_; walk_at "sts"; refine ae (cD H z _ _ W.e1) ?_; walk_at "sts"
  refine am 55 ?_; walk_at "sts"
  refine ca (HH.cT ‹_›) ?_; walk_at "sts"; refine ae (cD H (fi z) _ _ W.e2) ?_; walk_at "sts"
  have b1 := W.b1
  have b2 := W.b2
  have near := W.near
  generalize aT z d 99 = p at b1 near |-
  generalize aT (fi z) d 99 = q at b2 near |-
  have o1 : Bn ((1, 0) : Re) := ⟨by unfold aC; decide +kernel, by decide⟩
  have o2 : Bn ((0, 0) : Re) := ⟨by unfold aC; decide +kernel, by decide⟩
  refine am 67 ?_; walk_at "sts"
  refine am 64 ?_; walk_at "sts"; refine ae (dT H p q b1 b2) ?_; walk_at "sts"
  refine ae (bU H (bq p q) ((1, 0), (0, 0)) _ (jt b1 b2).1 (jt b1 b2).2 o1 o2 (by exact fq422 hd.1 hd.2) near) ?_
  walk_at "sts"
  · refine am 72 ?_; walk_at "sts"
    refine ae (iO H z d W.waves) ?_; walk_at "sts"; rfl
  · refine am 73 ?_; walk_at "sts"
    refine ae (MR) ?_; walk_at "sts"; rfl
  · refine oR rfl (H.D 71 rfl) rfl rfl (by decide) rfl (by simp) ?_; walk_at "sts"
    refine ⟨_, _, by decide, L0, ?_⟩; walk_at "sts"; rfl
  · refine am 70 ?_; walk_at "sts"
    refine ae (fu H ((0, 0), (0, 0)) d W.r0) ?_; walk_at "sts"; rfl
  · refine am 58 ?_; walk_at "sts"
    refine ae (dU H ((0, 0), (0, 0)) d 9 W.t0) ?_
    rw [W.vs]
    walk_at "sts"
    exact ⟨false, wC ((0, 0), (0, 0)), rfl⟩
  · refine am 55 ?_; walk_at "sts"
    refine ae (cD H ((0, 0), (0, 0)) d 9 W.x0) ?_
    rw [W.ve]
    walk_at "sts"
    exact ⟨true, oG ((1, 0), (0, 0)), rfl⟩
  · refine am 59 ?_; walk_at "sts"
    refine ae (dV H ((0, 0), (0, 0)) d 9 W.t0) ?_
    rw [W.vc]
    walk_at "sts"
    exact ⟨true, oG ((1, 0), (0, 0)), rfl⟩
end

section
noncomputable def rC : List Stmt := (au 74).body.drop 4

structure LAW : Prop where
  all : ∀ (z : Cc) (d : Int), fK z.1 -> fK z.2 -> 4 <= d -> d <= 6 -> LawOk z d

theorem vv {g : G} (H : HH g) (W : LAW) (L0 : ∀ d : Int, 4 <= d -> d <= 6 -> RetT g 8 "_law_log_right" [cx ((0, 0), (0, 0)), .int d] (.bool true)) (z : Cc) (d w : Int) (p1 : fK z.1) (p2 : fK z.2) (hd : 4 <= d /\ d <= 6) :
    mu g ⟨(au 74).name, (au 74).scope, 9⟩ rC [("digits", .int d), ("way", .int w), ("z", cx z)] fun | .ret v => v = .bool true | .next _ => False := by
  unfold rC
  have L0' := L0 d hd.1 hd.2
  have h0 : fK (0, 0) := .inl rfl
  by_cases h3 : w = 3
  · refine nE (env1 := [("digits", .int d), ("way", .int w), ("z", cx (z.1, (0, 0)))]) ?_ (li H (z.1, (0, 0)) d w (W.all _ d p1 h0 hd.1 hd.2) L0')
    refine rI ?_
    walk_at "sts"
    all_goals first | rfl | (exfalso; exact fq158 h3 ‹_›)
  · by_cases h4 : w = 4
    · refine nE (env1 := [("digits", .int d), ("way", .int w), ("z", cx ((0, 0), z.2))]) ?_ (li H ((0, 0), z.2) d w (W.all _ d h0 p2 hd.1 hd.2) L0')
      refine rI ?_
      walk_at "sts"
      all_goals first | rfl | (exfalso; (first | exact fq460 ‹_› h4 | exact fq159 h4 ‹_›))
    · refine nE (env1 := [("digits", .int d), ("way", .int w), ("z", cx z)]) ?_ (li H z d w (W.all _ d p1 p2 hd.1 hd.2) L0')
      refine rI ?_
      walk_at "sts"
      all_goals first | rfl | (exfalso; (first | exact fq158 ‹_› h3 | exact fq159 ‹_› h4))

theorem vw {g : G} (H : HH g) (W : LAW) (L0 : ∀ d : Int, 4 <= d -> d <= 6 -> RetT g 8 "_law_log_right" [cx ((0, 0), (0, 0)), .int d] (.bool true)) {B S : Addr} {ns : List Int} :
    qM g ⟨(au 74).name, (au 74).scope, 9⟩ B S ns ((au 74).body.drop 1) [] 0 fun v _ => v = .bool true := by
  refine fS rfl (by decide) (kI (iN (fq H (by decide) rfl rfl (by exact fq299) (by decide) (iw (by decide)) fun r1 a1 b1 => ⟨_, rfl, ?_⟩))) (fun _ => rfl)
  refine fS rfl (by decide) (fq H (by decide) rfl rfl (by exact fq297) (by decide) (iw (by decide)) fun r2 a2 b2 => ?_) (fun _ => rfl)
  refine fS rfl (by decide) (mv (iM rfl (oP H (by decide) rfl rfl (by exact fq296) fun x px => iM rfl (oP H (by decide) rfl rfl (by exact fq295) fun y py => oO ⟨Nat.le_of_ble_eq_true rfl, ?_⟩)))) (fun _ => rfl)
  refine mt ?_
  exact vv H W L0 (x, y) (4 + r1) r2 px py (by exact fq403 a1 b1)

theorem law_bag {g : G} {A : Around} {L a : Addr} {cd : Value} {s : Shared} {m : Str -> Option Value} {l : Addr} {vs : List Value} {ns : List Int} {nm : Str} {sc : Scope} {p1 p2 p3 p4 p5 p6 p7 p8 : Pos} {k1 k2 : Nat}
    {E : Value -> Shared -> Prop} {Q : Flow -> Shared -> Prop} (hk : sc.kind = .function) (hs : sc.names.lookup ("script" : Str) = some NameKind.local) (hb : sc.names.lookup ("bag" : Str) = some NameKind.local)
    (hfrm : kq g A s.heap) (F : Fr g.hb L s.heap m) (hm : m ("script" : Str) = some (.ref l)) (hl : s.heap.IsList l vs.toArray) (hi : IntsAre vs ns) (hn : ns.length <= 63)
    (K : ∀ (B S : Addr) h' tk' m', g.hb.get? B = none -> BagK B S (ns.take 20) 0 h' -> Fr g.hb L h' m' -> m' ("bag" : Str) = some (.ref B) -> kq g A h' -> Q .next { s with heap := h', toks := tk' }) :
    wpAny (model g.prog g.w) A (exec (Stmt.Assign [PySem.Expr.Name ("bag" : Str) p1] (PySem.Expr.List [PySem.Expr.Subscript (PySem.Expr.Name ("script" : Str) p2) (PySem.Expr.Slice none (some (PySem.Expr.Constant (Const.int 20) k1 p3)) none p4) p5, PySem.Expr.Constant (Const.int 0) k2 p6] p7) p8) (envOf nm sc L a cd)) Q E s := by
  refine wpAny_Assign_Name (List_ ?_) rfl
  refine spliced_cons (wpAny_Subscript_list_slice (ld F hm ?_ hk hs) fun _ _ => rfl)
  refine wpAny_evalPart_none ?_
  refine wpAny_evalPart_some (wpAny_Constant_int ?_)
  refine ⟨l, vs.toArray, none, some 20, rfl, hl, ?_, .none, .int _ _, ?_⟩
  · have := hi.length
    rw [List.size_toArray, sizeLine_eq]; exact fq880 this hn
  dsimp only
  generalize hH : (s.heap.push { cls := .type "slice", data := .fields #[.none, .int 20 s.toks, .none] }).push { cls := .type "list", data := .seq (slicePick vs.toArray none (some 20) none) } = h1
  refine spliced_cons (wpAny_Constant_int (env := envOf nm sc L a cd) (k := k2) (pos := p6) ?_)
  refine spliced_none ?_
  refine wpAny_newList ?_ (by rw [sizeLine_eq]; exact Nat.le_of_ble_eq_true rfl)
  dsimp only
  have kp1 : ∀ b o, s.heap.get? b = some o -> h1.get? b = some o := fun b o e => hH ▸ Heap.get?_push_of_some _ (Heap.get?_push_of_some _ e)
  have lS : h1.IsList (s.heap.objs.size + 1) (slicePick vs.toArray none (some 20) none) := by
    refine ⟨{ cls := .type "list", data := .seq (slicePick vs.toArray none (some 20) none) }, ?_, rfl, _, rfl⟩
    have := Heap.get?_push_size (s.heap.push { cls := .type "slice", data := .fields #[.none, .int 20 s.toks, .none] }) (o := { cls := .type "list", data := .seq (slicePick vs.toArray none (some 20) none) }) rfl
    rw [Heap.size_push, hH] at this
    exact this
  generalize hH2 : h1.push { cls := .type "list", data := .seq (List.toArray [Value.ref (s.heap.objs.size + 1), .int 0 (s.toks + 1)]) } = h2
  have kp2 : ∀ b o, s.heap.get? b = some o -> h2.get? b = some o := fun b o e => hH2 ▸ Heap.get?_push_of_some _ (kp1 b o e)
  have hsz : h1.objs.size = s.heap.objs.size + 2 := by rw [<- hH, Heap.size_push, Heap.size_push]
  have lB : h2.IsList h1.objs.size #[.ref (s.heap.objs.size + 1), .int 0 (s.toks + 1)] := ⟨_, hH2 ▸ Heap.get?_push_size _ rfl, rfl, _, rfl⟩
  have lS2 : h2.IsList (s.heap.objs.size + 1) (slicePick vs.toArray none (some 20) none) := let ⟨o, e, r⟩ := lS; ⟨o, hH2 ▸ Heap.get?_push_of_some _ e, r⟩
  refine wpAny_storeName_local hb (Fr.ext F kp2).ns (fun h3 hn3 hs3 => ?_) ?_
  · have hlt : L < s.heap.objs.size := F.ns.lt
    have hLB : L ≠ h1.objs.size := Nat.ne_of_lt (by rw [hsz]; exact Nat.lt_of_lt_of_le hlt (Nat.le_add_right _ _))
    have hLS : L ≠ s.heap.objs.size + 1 := Nat.ne_of_lt (Nat.lt_of_lt_of_le hlt (Nat.le_add_right _ _))
    have hfr := F.above
    have e3 := hs3.extBut
    refine K h1.objs.size (s.heap.objs.size + 1) h3 _ _ (Heap.get?_none_of_le (Nat.le_trans hfr (Nat.le_trans (Nat.le_of_lt hlt) (by rw [hsz]; exact Nat.le_add_right _ _)))) ⟨⟨_, let ⟨o, e, r⟩ := lB; ⟨o, e3 _ _ (Ne.symm hLB) e, r⟩⟩, ⟨(slicePick vs.toArray none (some 20) none).toList, ?_, kmk_upto hi (by decide)⟩, Nat.ne_of_gt (by rw [hsz]; exact Nat.lt_succ_self _), by decide, ?_⟩ ((Fr.ext F kp2).set hn3 hs3) ?_ ?_
    · rw [Array.toArray_toList]
      exact let ⟨o, e, r⟩ := lS2; ⟨o, e3 _ _ (Ne.symm hLS) e, r⟩
    · rw [List.length_take]; exact fq729
    · simp
    · exact kq.but (hfrm.ext kp2) hn3 e3
  · show (sc.kind == .class || (sc.kind == .module && L != mainGlobals)) = false
    rw [hk]; rfl
end

section
theorem law_run {g : G} (H : HH g) (W : LAW) (L0 : ∀ d : Int, 4 <= d -> d <= 6 -> RetT g 8 "_law_log_right" [cx ((0, 0), (0, 0)), .int d] (.bool true))
    {A : Around} {L a : Addr} {cd : Value} {s : Shared} {m : Str -> Option Value} {l : Addr} {vs : List Value} {ns : List Int} {P : Flow -> Shared -> Prop} {E : Value -> Shared -> Prop}
    (hd : A.depth + 9 < 900) (hu : A.units + 90 < 9000) (hh : A.handled = none) (hfr : kq g A s.heap) (htop : ∃ a cd, A.frames = some [envOf (au 74).name (au 74).scope L a cd])
    (F : Fr g.hb L s.heap m) (hm : m ("script" : Str) = some (.ref l)) (hl : s.heap.IsList l vs.toArray) (hi : IntsAre vs ns) (hn : ns.length <= 63)
    (K : ∀ h' tk', (∀ b o, g.hb.get? b = some o -> h'.get? b = some o) -> P (.ret (.bool true)) { s with heap := h', toks := tk' }) :
    wpAny (model g.prog g.w) A (execs (au 74).body (envOf (au 74).name (au 74).scope L a cd)) P E s := by
  refine wpAny_execs_cons (law_bag rfl rfl rfl hfr F hm hl hi hn fun B S h' tk' m' hB bg F' mb fr' => ?_)
  refine vw H W L0 A L a cd _ P E (B := B) (S := S) (ns := ns.take 20) ⟨hd, hu, hh, fr', (fun _ => htop), rfl, fun x v e => (by cases e), bg, hB, m', F', fun x v e => (by cases e), mb⟩ fun v val h2 tk2 k2 q rv _ xx => ?_
  subst q
  unfold ci at rv
  subst rv
  refine K h2 tk2 fun b o e => xx b o (fun x => ?_) (fun x => ?_) (F'.keep b o e)
  · exact absurd (Heap.lt_size e) (Nat.not_lt.mpr (x ▸ F'.above))
  · rw [x, hB] at e; cases e
end

section
open Builtin Builtin.ObjectAttr

/-! ## an exception class of the program's own, on another one, on Exception -/
abbrev bmE : List Value := [.type "Exception", .type "BaseException", .type "object"]

set_option genInjectivity false in
set_option genSizeOf false in
structure RX where
  (nm q : Str) (C2 N : Addr) (bs : List Value) (sn : List Str) (sub : List Value) (ab : Bool) (col : Option Bool) (dd : Option Addr) (k0 k1 k2 k3 k5 : Option Value)
  (c0 : Value) (dd2 : Option Addr) (cd2 : ClassData) (sl2 : Array (Option Value)) (mN m2 : Str -> Option Value) (fI : Addr) (oI : Obj) (qual : Str) (doc pm : Value) (an : Option Addr) (cdv ct : Value)

structure Two (h : Heap) (C : Addr) (x : RX) : Prop where
  c : h.get? C = some (excClassObj x.nm x.q C x.N x.bs (.ref x.C2 :: bmE) true x.sn x.sub x.ab x.col x.dd x.k0 x.k1 x.k2 x.k3 x.k5 "Exception.__new__")
  n : h.Ns x.N x.mN
  c2 : h.get? x.C2 = some { cls := x.c0, dict := x.dd2, data := .cls x.cd2, slots := x.sl2 }
  n2 : h.Ns x.cd2.ns x.m2

theorem Two.keeps {h h' : Heap} {C : Addr} {x : RX} (T : Two h C x) (k : ∀ b o, h.get? b = some o -> h'.get? b = some o) : Two h' C x :=
  ⟨k _ _ T.c, T.n.keeps k, k _ _ T.c2, T.n2.keeps k⟩

theorem gS {a : Addr} {l : List Value} {X : String} {b : Bool} (e : l.contains (.type X) = b) : (Value.ref a :: l).contains (.type X) = b :=
  (List.contains_cons ..).trans e

theorem tK (name : Str) : lookupAlong bmE name = typeLookup (.type "Exception") name :=
  (congrArg (· >>= fun l => lookupAlong l name) PySem.F.excBase_Exception.mroIs).symm

section
variable {M : Model} {A : Around} {E : Value -> Shared -> Prop} {s : Shared} {C e : Addr} {x : RX} {oe : Obj} {name : Str} {X : String} {b : Bool}

theorem fD {Q : Value -> Shared -> Prop} (he : s.heap.get? e = some oe) (hq : Q oe.cls s) : wpAny M A (typeOf (.ref e)) Q E s :=
  wpAny_bind (wpAny_load he (wpAny_pure hq))

theorem Two.under {Q : Bool -> Shared -> Prop} (T : Two s.heap C x) (hb : bmE.contains (.type X) = b) (hq : Q b s) : wpAny M A (isSubtype (.ref C) (.type X)) Q E s :=
  wpAny_isSubtype_exc T.c (Eq.mpr (congrArg (Q · s) (gS (gS hb))) hq)

theorem Two.isa {Q : Bool -> Shared -> Prop} (T : Two s.heap C x) (he : s.heap.get? e = some oe) (hc : oe.cls = .ref C) (hb : bmE.contains (.type X) = b) (hq : Q b s) :
    wpAny M A (isInstance (.ref e) (.type X)) Q E s :=
  wpAny_bind (fD he (hc ▸ T.under hb hq))

/-- the search along the chain, when the class itself does not hold the name -/
theorem Two.search {Q : Option Value -> Shared -> Prop} (T : Two s.heap C x) (h1 : x.mN name = none)
    (k : wpAny M A (match x.m2 name with | some v => pure (some v) | none => lookupAlong bmE name) Q E s) : wpAny M A (typeLookup (.ref C) name) Q E s := by
  refine wpAny_bind (wpAny_mroOf_exc T.c (?_ : wpAny M A (lookupAlong (.ref C :: .ref x.C2 :: bmE) name) Q E s))
  rw [lookupAlong_cons (.ref C), lookupAlong_cons (.ref x.C2)]
  exact wpAny_bind (wpAny_classOwn_exc T.c T.n (h1 ▸ wpAny_bind (wpAny_classOwn_cls T.c2 T.n2 k)))

theorem Two.found {Q : Option Value -> Shared -> Prop} {v : Value} (T : Two s.heap C x) (h1 : x.mN name = none) (h2 : x.m2 name = some v) (hq : Q (some v) s) :
    wpAny M A (typeLookup (.ref C) name) Q E s := T.search h1 (h2 ▸ wpAny_pure hq)

theorem Two.beyond {Q : Option Value -> Shared -> Prop} {y : Option Value} (T : Two s.heap C x) (h1 : x.mN name = none) (h2 : x.m2 name = none) (hB : typeLookup (.type "Exception") name = pure y)
    (hq : Q y s) : wpAny M A (typeLookup (.ref C) name) Q E s := by
  refine T.search h1 ?_
  rw [h2, tK, hB]
  exact wpAny_pure hq

/-! ## making one -/
/-- the object laid for the class, its argument tuple ahead of it -/
abbrev tupOf (l : List Value) : Obj := { cls := .type "tuple", data := .seq l.toArray }
abbrev gt (C t : Addr) : Obj := { cls := .ref C, data := .fields #[.ref t, .none, .none, .none, .bool false, .none] }
abbrev jX (h : Heap) (C : Addr) (l : List Value) : Heap := (h.push (tupOf l)).push (gt C h.objs.size)
end

section
variable {prog : Program} {w : World} {A : Around} {E : Value -> Shared -> Prop} {s : Shared} {C e : Addr} {x : RX} {oe : Obj} {rest : List Value}

/-- the walk over what looks at the class or at an object of it -/
local macro_rules | `(tactic| walk_at "own") => `(tactic| repeat (first | with_reducible refine wpAny_madeHere_exc PySem.F.excBase_Exception.canon (Two.c ‹_›) ?_ | with_reducible refine Two.under ‹_› ‹_› ?_ | with_reducible refine Two.isa ‹_› ‹_› ‹_› ‹_› ?_ | with_reducible refine wpAny_loadPart_at (Two.c ‹_›) ?_ | with_reducible refine wpAny_madeBy_exc (Two.c ‹_›) ?_ | wp_step))

theorem Two.check_new {M : Model} {Q : Unit -> Shared -> Prop} (T : Two s.heap C x) (hq : Q () s) : wpAny M A (checkBuiltinCall "Exception.__new__" ⟨.ref C :: rest, []⟩) Q E s :=
  wpAny_check_new_subU PySem.F.excBase_Exception (gS (a := x.C2) PySem.F.excBase_Exception.hasB) .base T.c hq

theorem Two.born {R : Result -> Shared -> Prop} (T : Two s.heap C x) (hl : rest.length <= sizeLine) (hq : R (.ok (.ret (.ref (s.heap.objs.size + 1)))) { s with heap := jX s.heap C rest }) :
    codeAny (model prog w) A (.builtin "Exception.__new__" ⟨.ref C :: rest, []⟩) R s := by
  obtain ⟨h, g, d, t, os⟩ := s
  have hC := T.c
  have isE : bmE.contains (.type "Exception") = true := by decide +kernel
  have isA : bmE.contains (.type "AttributeError") = false := by decide +kernel
  have isN : bmE.contains (.type "NameError") = false := by decide +kernel
  refine codeAny_builtinAt PySem.F.excBase_Exception.entry (PySem.wpAt_bind (PySem.wpAt_bind (PySem.wpAt_stack fun p below => PySem.wpAt_of_wpAny (wpAny_ite_true (decide_eq_true PySem.F.excBase_Exception.ends) (wpAny_pure (PySem.wpAt_of_wpAny ?_))))))
  rw [PySem.F.excBase_Exception.owner]
  walk_at "own"
  exact Heap.size_push .. ▸ hq

/-- its __init__, which stands in the class above -/
theorem Two.own_init {Q : Option Value -> Shared -> Prop} (T : Two s.heap C x) (h1 : x.mN "__init__" = none) (h2 : x.m2 "__init__" = some (.ref x.fI)) (hf : s.heap.get? x.fI = some x.oI) (hc : x.oI.cls = .type "function")
    (he : s.heap.get? e = some oe) (ho : oe.cls = .ref C) (k : wpAny (model prog w) A (call (.ref x.fI) (.ref e :: rest)) (fun v s' => Q (some v) s') E s) :
    wpAny (model prog w) A (callSpecial? (.ref e) "__init__" rest) Q E s := by
  refine wpAny_bind (wpAny_bind (fD he (ho ▸ T.found h1 h2 ?_)))
  refine wpAny_holding (wpAny_bind (wpAny_bind (fD hf ?_)))
  rw [hc]
  exact wpAny_ite_true rfl (wpAny_pure (wpAny_bind (wpAny_mono k (fun v s' q => wpAny_pure q) fun _ _ q => q)))

theorem gK (h : Heap) (C : Addr) (l : List Value) (b : Addr) (o : Obj) (hb : h.get? b = some o) : (jX h C l).get? b = some o :=
  Heap.get?_push_of_some _ (Heap.get?_push_of_some _ hb)
theorem mm (h : Heap) (C : Addr) (l : List Value) : (jX h C l).get? (h.objs.size + 1) = some (gt C h.objs.size) :=
  Heap.get?_push_at (Heap.size_push ..).symm rfl

theorem Two.made {Q : PySem.Fin -> Shared -> Prop} (T : Two s.heap C x) (h1 : x.mN "__init__" = none) (h2 : x.m2 "__init__" = some (.ref x.fI)) (hf : s.heap.get? x.fI = some x.oI) (hc : x.oI.cls = .type "function")
    (hl : rest.length <= sizeLine) (k : wpAny (model prog w) A (call (.ref x.fI) (.ref (s.heap.objs.size + 1) :: rest)) (fun v s' => v = .none /\ Q (.done (.ret (.ref (s.heap.objs.size + 1)))) s') E { s with heap := jX s.heap C rest }) :
    wpAny (model prog w) A (Builtin.«type.__call__» ⟨.ref C :: rest, []⟩) Q E s := by
  obtain ⟨h, g, d, t, os⟩ := s
  have hC := T.c
  have T₁ := T.keeps (gK h C rest)
  have e₁ := mm h C rest
  walk_at "own"
  refine codeAny_call_builtin_code (Code.quiet_builtin _ PySem.F.excBase_Exception.quiet) (T.check_new (T.born hl ?_))
  refine wpAny_bind (wpAny_bind (fD e₁ (wpAny_isSubtype_exc T₁.c ?_)))
  rw [if_neg (by simp)]
  refine wpAny_bind (wpAny_holding (Two.own_init (s := ⟨jX h C rest, g, d, t, os⟩) T₁ h1 h2 (gK _ _ _ _ _ hf) hc e₁ rfl (wpAny_mono k (fun v s' q => ?_) fun _ _ q => q)))
  obtain ⟨rfl, q⟩ := q
  exact wpAny_ite_false rfl (wpAny_pure q)

theorem Two.make {Q : Value -> Shared -> Prop} (T : Two s.heap C x) (h1 : x.mN "__init__" = none) (h2 : x.m2 "__init__" = some (.ref x.fI)) (hf : s.heap.get? x.fI = some x.oI) (hc : x.oI.cls = .type "function")
    (hl : rest.length <= sizeLine)
    (k : wpAny (model prog w) (A.under (.builtin "type.__call__" ⟨.ref C :: rest, []⟩)) (call (.ref x.fI) (.ref (s.heap.objs.size + 1) :: rest)) (fun v s' => v = .none /\ Q (.ref (s.heap.objs.size + 1)) s') E { s with heap := jX s.heap C rest }) :
    wpAny (model prog w) A (call (.ref C) rest) Q E s := by
  have hC := T.c
  have look := tc_lookup
  have bind := tc_bind (.ref C)
  have meta_ : s.TypeIs (.ref C) "type" := ⟨_, hC, rfl⟩
  refine wpAny_call (codeAny_of_tree (?_ : wpAny _ _ (callAny (.ref C) _) _ _ _))
  walk_at "own"
  all_goals first | assumption | exact ⟨rfl, codeAny_call_builtin_at (Code.quiet_builtin _ (by decide +kernel)) entry_typeCall (wpAny_check_type_call_sub hC (T.made h1 h2 hf hc hl k))⟩

/-! ## its attributes, and its base's own __init__ -/
/-- an object of the class, with nothing of its own yet -/
theorem Two.check_store {M : Model} {nm v : Value} {Q : Unit -> Shared -> Prop} (T : Two s.heap C x) (he : s.heap.get? e = some oe) (ho : oe.cls = .ref C) (hq : Q () s) :
    wpAny M A (checkBuiltinCall "object.__setattr__" ⟨[.ref e, nm, v], []⟩) Q E s := by
  have fits := PySem.F.store_Exception.args (.ref e) nm v
  unfold checkBuiltinCall
  rw [PySem.F.store_Exception.kind, PySem.F.store_Exception.split]
  unfold argsOk at fits
  refine wpAny_bind (T.isa he ho PySem.F.store_Exception.hasOwner (wpAny_ite_false rfl ?_))
  generalize Manifest.signature? "object.__setattr__" = o at fits |-
  cases o with
  | none => exact wpAny_pure hq
  | some sig => exact wpAny_of_eq fits hq

theorem nN {M : Model} {a : Addr} {name : Str} {tk : Tok} {v : Value} {Q : PySem.Fin -> Shared -> Prop} (hd : s.heap.Ns1 a fun _ => none)
    (hq : ∀ h', Heap.SameBut a s.heap h' -> Q (.done (.ret .none)) { s with heap := h', toks := s.toks + 1 }) : wpAny M A (storeInDict a (.str name tk) name v) Q E s := by
  refine wpAny_bind (wpAny_pure (wpAny_bind (wpAny_nsSet1 hd fun h' one same => ?_)))
  obtain ⟨o, es, n, ho, hes, hn⟩ := one.count (Within.cons name v Within.nil)
  have short : o.data.pastItsLine = none := hes ▸ pastItsLine_dict (Nat.le_trans hn (Nat.le_of_ble_eq_true rfl))
  exact wpAny_bind (wpAny_lookBehind ho short (wpAny_pure (hq h' same)))

/-- the heap in which object e has got an empty dict -/
abbrev nt (h : Heap) (e : Addr) : Heap := (h.push { cls := .type "dict", data := .dict #[] }).update e fun o => { o with dict := some h.objs.size }

theorem Two.lay {M : Model} {t0 : Addr} {Q : Option Addr -> Shared -> Prop} (T : Two s.heap C x) (he : s.heap.get? e = some (gt C t0)) (hq : Q (some s.heap.objs.size) { s with heap := nt s.heap e }) :
    wpAny M A (ownDictForStores (.ref e)) Q E s := by
  obtain ⟨h, g, d, t, os⟩ := s
  have hC := T.c
  have he₁ := Heap.get?_push_of_some { cls := .type "dict", data := .dict #[] } he
  unfold ownDictForStores
  walk_at "own"
  all_goals exact hq

theorem pA {h : Heap} {e : Addr} {o : Obj} (he : h.get? e = some o) (hd : ({ o with dict := some h.objs.size } : Obj).isFreed = false) : (nt h e).get? e = some { o with dict := some h.objs.size } :=
  Heap.get?_update_self _ (Heap.get?_push_of_some _ he) hd
theorem nq {h : Heap} {e b : Addr} {o : Obj} (hb : b ≠ e) (ho : h.get? b = some o) : (nt h e).get? b = some o :=
  (Heap.get?_update_ne _ _ _ _ hb).trans (Heap.get?_push_of_some _ ho)

theorem Two.not_refused {M : Model} {Q : Unit -> Shared -> Prop} (T : Two s.heap C x) (he : s.heap.get? e = some oe) (ho : oe.cls = .ref C) (hq : Q () s) : wpAny M A (refuseIfOverridden (.ref e) "__setattr__") Q E s := by
  rw [refuse_eq]
  refine wpAny_bind (fD he (ho ▸ wpAny_bind (wpAny_mroOf_exc T.c ?_)))
  rw [refuseLoop_ref, refuseLoop_ref]
  exact wpAny_of_eq (PySem.F.store_Exception.passes _) hq

/-- the store of the first attribute: it lays the object's dict -/
theorem Two.first_store {name : Str} {tk : Tok} {v : Value} {Q : PySem.Fin -> Shared -> Prop} (T : Two s.heap C x) (h1 : x.mN name = none) (h2 : x.m2 name = none) (hB : typeLookup (.type "Exception") name = pure none)
    {t0 : Addr} (he : s.heap.get? e = some (gt C t0))
    (hq : ∀ h' tk' dx, (∀ b o, b ≠ e -> s.heap.get? b = some o -> h'.get? b = some o) -> h'.get? e = some { gt C t0 with dict := some dx } -> Q (.done (.ret .none)) { s with heap := h', toks := tk' }) :
    wpAny (model prog w) A (Builtin.«object.__setattr__» ⟨[.ref e, .str name tk, v], []⟩) Q E s := by
  unfold Builtin.«object.__setattr__»
  iterate 2 wp_step
  refine T.not_refused he rfl ?_
  refine wpAny_bind (wpAny_pure (wpAny_bind (fD he ?_)))
  refine wpAny_bind (T.beyond h1 h2 hB ?_)
  refine wpAny_bind (wpAny_pure ?_)
  refine wpAny_bind (wpAny_pure (wpAny_bind (T.lay he ?_)))
  have here := Nat.ne_of_lt (Heap.lt_size he)
  refine nN (Heap.Ns1.of_empty ⟨_, #[], _, (Heap.get?_update_ne _ _ _ _ (Ne.symm here)).trans (Heap.get?_push_at rfl rfl), rfl, fun y hy => absurd hy (by simp), fun _ => rfl⟩) fun h' same => ?_
  refine hq h' _ _ (fun b o hb ho => ?_) ((same.2 e here).trans (pA he rfl))
  exact (same.2 b (Nat.ne_of_lt (Heap.lt_size ho))).trans (nq hb ho)

theorem Two.own_set {name : Str} {tk : Tok} {v : Value} {Q : Option Value -> Shared -> Prop} (T : Two s.heap C x) (s1 : x.mN "__setattr__" = none) (s2 : x.m2 "__setattr__" = none) (h1 : x.mN name = none) (h2 : x.m2 name = none)
    (hB : typeLookup (.type "Exception") name = pure none) {t0 : Addr} (he : s.heap.get? e = some (gt C t0))
    (hq : ∀ h' tk' dx, (∀ b o, b ≠ e -> s.heap.get? b = some o -> h'.get? b = some o) -> h'.get? e = some { gt C t0 with dict := some dx } -> Q (some .none) { s with heap := h', toks := tk' }) :
    wpAny (model prog w) A (callSpecial? (.ref e) "__setattr__" [.str name tk, v]) Q E s := by
  have slot := PySem.F.store_Exception.slot
  refine wpAny_bind (wpAny_bind (fD he (T.beyond s1 s2 slot.lookup ?_)))
  refine wpAny_holding (wpAny_bind (wpAny_of_eq (slot.bind _) (wpAny_bind (wpAny_call ?_))))
  exact codeAny_call_builtin slot.plain PySem.F.store_Exception.entry (T.check_store he rfl (T.first_store h1 h2 hB he fun h' tk' dx k at_ => wpAny_pure (hq h' tk' dx k at_)))

theorem Two.set_attr {name : Str} {v : Value} {Q : Unit -> Shared -> Prop} (T : Two s.heap C x) (s1 : x.mN "__setattr__" = none) (s2 : x.m2 "__setattr__" = none) (h1 : x.mN name = none) (h2 : x.m2 name = none)
    (hB : typeLookup (.type "Exception") name = pure none) {t0 : Addr} (he : s.heap.get? e = some (gt C t0))
    (hq : ∀ h' tk' dx, (∀ b o, b ≠ e -> s.heap.get? b = some o -> h'.get? b = some o) -> h'.get? e = some { gt C t0 with dict := some dx } -> Q () { s with heap := h', toks := tk' }) :
    wpAny (model prog w) A (setAttr (.ref e) name v) Q E s :=
  wpAny_bind (wpAny_bind (wpAny_fresh (wpAny_pure (wpAny_bind (Two.own_set (s := { s with toks := s.toks + 1 }) T s1 s2 h1 h2 hB he fun h' tk' dx k at_ => wpAny_pure (hq h' tk' dx k at_))))))

theorem Two.check_base {M : Model} {Q : Unit -> Shared -> Prop} {t0 : Addr} (T : Two s.heap C x) (he : s.heap.get? e = some (gt C t0)) (hq : Q () s) :
    wpAny M A (checkBuiltinCall "Exception.__init__" ⟨.ref e :: rest, []⟩) Q E s := by
  have F := PySem.F.excBase_Exception
  unfold checkBuiltinCall
  rw [F.initKind, F.initSplit, F.initRow]
  refine wpAny_bind (T.isa he rfl F.hasB (wpAny_ite_false rfl ?_))
  have noStar := F.noStar
  obtain ⟨h, g, d, t, os⟩ := s
  have hC := T.c
  walk_at "own"
  exact wpAny_onRaise (wpAny_of_eq (check_star_args ..) hq)

/-- Exception's own __init__ lays a new argument tuple -/
theorem Two.base_init {Q : Value -> Shared -> Prop} {t0 : Addr} (T : Two s.heap C x) (he : s.heap.get? e = some (gt C t0)) (hl : rest.length <= sizeLine)
    (hq : ∀ h', (∀ b o, b ≠ e -> s.heap.get? b = some o -> h'.get? b = some o) -> h'.get? e = some (gt C s.heap.objs.size) -> Q .none { s with heap := h' }) :
    wpAny (model prog w) A (call (.builtin "Exception.__init__") (.ref e :: rest)) Q E s := by
  refine wpAny_call (codeAny_call_builtin PySem.F.excBase_Exception.init.plain PySem.F.excBase_Exception.initEntry (T.check_base he ?_))
  obtain ⟨h, g, d, t, os⟩ := s
  unfold Builtin.«BaseException.__init__»
  walk_at "own"
  exact hq _ (fun b o hb ho => (Heap.get?_update_ne _ _ _ _ hb).trans (Heap.get?_push_of_some _ ho)) (Heap.get?_update_self _ (Heap.get?_push_of_some _ he) rfl)

theorem Two.keeper {M : Model} {Q : Keeper -> Shared -> Prop} (T : Two s.heap C x) (hq : Q .machine s) : wpAny M A (keeperOf (.ref C)) Q E s := wpAny_keeperOf_exc T.c hq

theorem Two.raises {M : Model} {env : Env} {y : Sem Value} {Q : Flow -> Shared -> Prop} (hh : A.handled = none)
    (k : wpAny M A y (fun v s₁ => ∃ e t dx sl, v = .ref e /\ Two s₁.heap C x /\ s₁.heap.get? e = some { gt C t with dict := dx, slots := sl } /\ E (.ref e) s₁) E s) : wpAny M A (raiseStmt env (some y) none) Q E s := by
  have isB : bmE.contains (.type "BaseException") = true := by decide +kernel
  refine wpAny_bind (wpAny_mono k (fun v s₁ a => ?_) fun _ _ q => q)
  rcases a with ⟨e, t, dx, sl, rfl, T, he, q⟩
  have hC := T.c
  walk_at "own"
  all_goals exact wpAny_raiseNew_none hh q
end
end

section
open Builtin Builtin.ObjectAttr

structure RFP (g : G) (C : Addr) (x : RX) : Prop where
  T : Two g.hb C x
  n1 : x.mN "__init__" = none
  n2 : x.mN "__setattr__" = none
  n3 : x.mN "text" = none
  n4 : x.m2 "__init__" = some (.ref x.fI)
  n5 : x.m2 "__setattr__" = none
  n6 : x.m2 "text" = none
  hf : g.hb.get? x.fI = some x.oI
  hfc : x.oI.cls = .type "function"
  hfd : x.oI.data = .func (fnOf "__init__" x.qual dI.params dI.body dI.scope .none .none x.doc x.pm x.an x.cdv x.ct)
  hcd : g.hb.CodeRec x.cdv x.qual
structure RF (g : G) (C : Addr) : Prop where
  cls : g.mg "RunFault" = some (.ref C)
  exc : g.mg "Exception" = none /\ g.mb "Exception" = some (.type "Exception")
  ini : ∃ x : RX, RFP g C x

theorem uX {prog : Program} {w : World} {A : Around} {E : Value -> Shared -> Prop} {s : Shared} {pl : Sem Bool} {Q : Value × List Value -> Shared -> Prop} {h₀ : Heap} {L : Addr} {m : Str -> Option Value} (F : Fr h₀ L s.heap m)
    (h : Q (.builtin "Exception.__init__", []) { s with toks := s.toks + 1 }) : wpAny (model prog w) A (getMethod (.type "Exception") "__init__" pl) Q E s :=
  method_type (K := []) F (fun _ _ e => by cases e) (by first | rfl | kernel_rfl) (by decide +kernel) (by first | rfl | kernel_rfl) (by decide +kernel) h

theorem vG {g : G} {C : Addr} {x : RX} (R : RF g C) (r : RFP g C x) {A : Around} {s : Shared} {e t0 : Addr} {text : Str} {tk : Tok} {P E : Value -> Shared -> Prop}
    (hdp : A.depth < 900) (hkeep : ∀ b o, g.hb.get? b = some o -> s.heap.get? b = some o) (hsz : g.hb.objs.size <= s.heap.objs.size) (hen : g.hb.get? e = none)
    (he : s.heap.get? e = some { cls := .ref C, data := .fields #[.ref t0, .none, .none, .none, .bool false, .none] })
    (K : ∀ h' tk', (∀ b o, b ≠ e -> s.heap.get? b = some o -> h'.get? b = some o) -> (∃ t dx sl, h'.get? e = some { cls := .ref C, dict := dx, data := .fields #[.ref t, .none, .none, .none, .bool false, .none], slots := sl }) -> P .none { s with heap := h', toks := tk' }) :
    wpAny (model g.prog g.w) A (call (.ref x.fI) [.ref e, .str text tk]) P E s := by
  refine wpAny_call (codeAny_call_def (fd := fnOf "__init__" x.qual dI.params dI.body dI.scope .none .none x.doc x.pm x.an x.cdv x.ct) (body := dI.body) (binds := [("self", .ref e), ("text", .str text tk)]) (by show A.depth < 1000; exact fq800 hdp) (hkeep _ _ r.hf) r.hfd (g.T.nolimit.keeps hkeep) (r.hcd.keeps hkeep) rfl (.of_eq rfl) (show ∀ x ∈ dI.scope.names, x.2 ≠ .cell by decide +kernel) ?_ (fun h₁ hns hk₁ => ?_) rfl rfl rfl)
  · intro x hx
    simp only [List.mem_cons, List.not_mem_nil, or_false] at hx
    rcases hx with rfl | rfl <;> rfl
  have F : Fr g.hb s.heap.objs.size h₁ (fun x => [(("self" : Str), Value.ref e), ("text", .str text tk)].reverse.lookup x) := ⟨hns, fun b o x => hk₁ b o (hkeep b o x), hsz⟩
  have he₁ := hk₁ _ _ he
  have hes : e ≠ s.heap.objs.size := Nat.ne_of_lt (Heap.lt_size he)
  show wpAny _ _ (execs dI.body (envOf x.qual dI.scope s.heap.objs.size x.fI x.cdv)) _ _ _
  refine wpAny_execs_cons (wpAny_Expr_any (methodCall_KW (pl := (do return (<- importBound (PySem.Expr.Name "Exception" ⟨5, 8, 5, 17⟩) (envOf x.qual dI.scope s.heap.objs.size x.fI x.cdv)).getD true)) (ld_builtin_at F g.T.g R.exc.1 g.T.b R.exc.2 (uX F ?_) rfl rfl (by decide))) rfl rfl)
  refine PyProof.Rows.callWith_builtin1 (spliced_cons (ld (h₀ := g.hb) F rfl ?_ rfl rfl (by decide)) )
  refine spliced_cons (ld (h₀ := g.hb) F rfl ?_ rfl rfl (by decide))
  refine spliced_none ?_
  refine (r.T.keeps F.keep).base_init he₁ (by rw [sizeLine_eq]; exact Nat.le_of_ble_eq_true rfl) fun h₂ hk₂ he₂ => ?_
  have F₂ : Fr g.hb s.heap.objs.size h₂ (fun x => [(("self" : Str), Value.ref e), ("text", .str text tk)].reverse.lookup x) := by
    refine ⟨?_, fun b o x => hk₂ b o (fun q => by rw [q, hen] at x; cases x) (F.keep b o x), F.above⟩
    obtain ⟨o, es, ep, x1, x2⟩ := F.ns
    exact ⟨o, es, ep, hk₂ _ _ (Ne.symm hes) x1, x2⟩
  refine wpAny_execs_cons (plainObj_wpAny_Assign_Attribute (ld (h₀ := g.hb) F₂ rfl (ld (h₀ := g.hb) F₂ rfl ?_ rfl rfl (by decide)) rfl rfl (by decide)) rfl)
  refine (r.T.keeps F₂.keep).set_attr r.n2 r.n5 r.n3 r.n6 (by first | rfl | kernel_rfl) he₂ fun h₃ tk₃ dx hk₃ he₃ => ?_
  refine wpAny_execs_nil ?_
  exact K h₃ tk₃ (fun b o hb x => hk₃ b o hb (hk₂ b o hb (hk₁ b o x))) ⟨h₁.objs.size, some dx, #[], he₃⟩
end

section
open Builtin Builtin.ObjectAttr

theorem rY {g : G} {C : Addr} (R : RF g C) {A : Around} {s : Shared} {L a : Addr} {cd : Value} {name : Str} {scope : Scope} {m : Str -> Option Value} {Q : Flow -> Shared -> Prop} {E : Value -> Shared -> Prop}
    {np p2 cpos pos : Pos} {n : Nat} {txt : Str}
    (F : Fr g.hb L s.heap m) (hdp : A.depth < 898) (hh : A.handled = none) (hk : scope.kind = .function) (hl : (envOf name scope L a cd).kindOf "RunFault" = some .globalImplicit)
    (hE : ∀ h' e tk' t dx sl, (∀ b o, s.heap.get? b = some o -> h'.get? b = some o) -> s.heap.get? e = none -> h'.get? e = some { cls := .ref C, dict := dx, data := .fields #[.ref t, .none, .none, .none, .bool false, .none], slots := sl } -> E (.ref e) { s with heap := h', toks := tk' }) :
    wpAny (model g.prog g.w) A (exec (.Raise (some (.Call (.Name "RunFault" np) [.Constant (.str txt) n p2] [] cpos)) none pos) (envOf name scope L a cd)) Q E s := by
  obtain ⟨x, r⟩ := R.ini
  rw [arm_exec_Raise]
  refine wpAny_bind (wpAny_standAt (Two.raises (C := C) (x := x) hh ?_))
  refine wpAny_bind (wpAny_mono (wpAny_Call_ofName (ld_global_at F g.T.g R.cls ?_ hk hl (by decide))) (fun v s₃ h₃ => wpAny_bind (wpAny_standAt (wpAny_pure h₃))) fun _ _ x => x)
  unfold callWith
  refine wpAny_bind (wpAny_holding (Calls.evalArgs_plain (spliced_cons (wpAny_Constant_str (k := n) (pos := p2) (spliced_none ?_)))))
  refine wpAny_bind (wpAny_standAt ?_)
  obtain ⟨hp, gg, dr, tk, os⟩ := s
  have T' := r.T.keeps F.keep
  refine wpAny_bind (Two.keeper T' ?_)
  refine wpAny_bind (Two.make (s := ⟨hp, gg, dr, tk + 1, os⟩) (rest := [.str txt tk]) T' r.n1 r.n4 (F.keep _ _ r.hf) r.hfc (Nat.le_of_ble_eq_true rfl : 1 <= sizeLine) ?_)
  have new : hp.get? (hp.objs.size + 1) = none := Heap.get?_none_of_le (Nat.le_succ _)
  have kept := gK hp C [.str txt tk]
  have hen : g.hb.get? (hp.objs.size + 1) = none := by
    cases q : g.hb.get? (hp.objs.size + 1) with
    | none => rfl
    | some o => have := F.keep _ _ q; rw [new] at this; cases this
  refine vG R r (by rw [depth_under_make]; exact fq799 hdp) (fun b o x => kept _ _ (F.keep b o x)) ?_ hen (mm ..) fun h₂ tk₂ hk₂ he₂ => ⟨rfl, ?_⟩
  · exact Nat.le_of_lt (Nat.lt_of_le_of_lt F.above (F.ns.keeps kept).lt)
  · obtain ⟨t2, dx, sl, he₂⟩ := he₂
    have kp : ∀ b o, hp.get? b = some o -> h₂.get? b = some o := fun b o x => hk₂ b o (fun y => by rw [y, new] at x; cases x) (kept b o x)
    refine wpAny_bind (wpAny_holding (wpAny_point (wpAny_pure ?_)))
    exact ⟨_, t2, dx, sl, rfl, T'.keeps kp, he₂, hE h₂ _ tk₂ t2 dx sl kp new he₂⟩
end

section
theorem wy {g : G} {d : Def} {n : Nat} {args : List PV} (D : gz g d) (ok : me d = true)
    (hb : rO d args.length) (hn : d.names.length = args.length) : ∃ fv, GV g d.name fv /\ ej g fv /\ ∀ (A : Around) (s : Shared) (vals : List Value) (outer : List Env) (P E : Value -> Shared -> Prop),
    A.depth + (n + 1) < 900 -> A.units + 10 * (n + 1) < 9000 -> A.handled = none -> A.frames = some outer -> s.heap.FunFrames g.hb outer -> (∀ b o, g.hb.get? b = some o -> s.heap.get? b = some o) -> g.hb.objs.size <= s.heap.objs.size -> a8 g s.heap vals args ->
    (∀ (a : Addr) (code : Value) (h₁ : Heap) (tk' : Nat), Ok g ⟨d.name, d.scope, n⟩ (A.deeper (envOf d.name d.scope s.heap.objs.size a code)) s.heap.objs.size h₁ (d.names.zip args) -> (∀ b o, s.heap.get? b = some o -> h₁.get? b = some o) ->
      h₁.FunFrames g.hb (envOf d.name d.scope s.heap.objs.size a code :: outer) ->
      wpAny (model g.prog g.w) (A.deeper (envOf d.name d.scope s.heap.objs.size a code)) (execs d.body (envOf d.name d.scope s.heap.objs.size a code)) (fun f s' => P (match f with | .ret v => v | _ => .none) s')
        (fun e s' => wpAny (model g.prog g.w) (A.deeper (envOf d.name d.scope s.heap.objs.size a code)) (leaving (envOf d.name d.scope s.heap.objs.size a code) e) (fun _ s'' => E e s'') (fun e' s'' => E e' s'') s') { s with heap := h₁, toks := tk' }) ->
    wpAny (model g.prog g.w) A (call fv vals) P E s := by
  simp only [me, Bool.and_eq_true, decide_eq_true_eq, beq_iff_eq, bne_iff_ne, Bool.not_eq_true'] at ok
  obtain ⟨⟨⟨⟨⟨⟨hd, hl⟩, hk⟩, hco⟩, hge⟩, h6⟩, hlaw⟩ := ok
  have hce : ∀ x ∈ d.scope.names, x.2 ≠ .cell := fun x hx => by
    have := List.all_eq_true.mp h6 x hx
    simpa using this
  obtain ⟨a, o, pm, code, doc, h1, h2, h3, h4⟩ := D
  refine ⟨.ref a, .inl h1, .inr (.inr ⟨a, o, _, rfl, h2, h3⟩), fun A s vals outer P E hdp hun hh hfr hff hkeep hsz rs k => wpAny_call ?_⟩
  have hlen := a8.length rs
  refine call_plain (by show A.depth < 1000; exact fq279 hdp) (hkeep _ _ h2) h3 (g.T.nolimit.keeps hkeep) (h4.keeps hkeep) (hb.all pm code doc vals hlen) ?_ ?_ hco hge hk hce
  · intro x hx
    have := List.all_eq_true.mp hl x.1 (List.of_mem_zip hx).1
    simpa using this
  · intro h₁ F
    have Fb : Fr g.hb s.heap.objs.size h₁ (fun x => (d.names.zip vals).reverse.lookup x) := ⟨F.ns, fun b o e => F.keep b o (hkeep b o e), hsz⟩
    have fr : kq g A s.heap := ⟨outer, hfr, hff⟩
    have o1 : Ok g ⟨d.name, d.scope, n⟩ (A.deeper (envOf d.name d.scope s.heap.objs.size a code)) s.heap.objs.size h₁ (d.names.zip args) :=
      ⟨by show A.depth + 1 + n < 900; exact fq277 hdp, by show A.units + 3 + 10 * n < 9000; exact fq276 hun, hh, fr.deeper (F.keep) (Heap.get?_none_of_le hsz) F.ns (by show d.scope.kind ≠ .module; rw [hk]; decide) rfl, fun e => absurd e hlaw, hk, _, Fb, ee d.names args vals h₁ hd hn (a8.keep (dE F.keep) args rs)⟩
    refine k a code h₁ _ o1 F.keep ?_
    exact Heap.FunFrames.cons (by show d.scope.kind ≠ .module; rw [hk]; decide) rfl F.ns (Heap.get?_none_of_le hsz) (Heap.FunFrames.of_keeps (fun b o e _ => ⟨o, F.keep b o e, rfl⟩) hff)

/-- a call that ends in the project's fault -/
structure RetE (g : G) (C : Addr) (N : Nat) (f : Str) (args : List PV) : Prop where
  run : ∃ fv, GV g f fv /\ ej g fv /\ ∀ (A : Around) (s : Shared) (vals : List Value) (outer : List Env) (P E : Value -> Shared -> Prop),
    A.depth + N < 900 -> A.units + 10 * N < 9000 -> A.handled = none -> A.frames = some outer -> s.heap.FunFrames g.hb outer -> (∀ b o, g.hb.get? b = some o -> s.heap.get? b = some o) -> g.hb.objs.size <= s.heap.objs.size -> a8 g s.heap vals args ->
    (∀ e a0 h' tk', Heap.FlyingW (hideAll s.heap (outer.filterMap (·.frame))) outer e (.ref C) a0 h' -> s.heap.UpToSlots h' -> E (.ref e) { s with heap := h', toks := tk' }) ->
    wpAny (model g.prog g.w) A (call fv vals) P E s

theorem frame_lt {base h : Heap} : ∀ {l : List Env}, h.FunFrames base l -> ∀ b ∈ l.filterMap (·.frame), ∃ o, h.get? b = some o /\ ∀ vs, o.data ≠ .fields vs := fun hl b hb => (hl.mem hb).2

/-- what stands below the frames' hiding, at the entry of a call -/
theorem kv {h : Heap} {as : List Addr} {b : Addr} (hb : h.objs.size <= b) : (hideAll h as).get? b = none := by
  cases q : (hideAll h as).get? b with
  | none => rfl
  | some o => exact absurd (Heap.lt_size (of_hideAll _ q)) (Nat.not_lt.mpr hb)

theorem j7 {base h h3 : Heap} {outer : List Env} {env : Env} {m : Str -> Option Value} (hff : h.FunFrames base outer) (kp : ∀ b o, h.get? b = some o -> h3.get? b = some o) (hk : env.scope.kind ≠ .module) (hf : env.frame = some h.objs.size) (hn : h3.Ns h.objs.size m) :
    h3.FunFrames (hideAll h (outer.filterMap (·.frame))) (env :: outer) :=
  Heap.FunFrames.cons hk hf hn (kv (Nat.le_refl _)) (Heap.FunFrames.of_keeps (fun b o e _ => ⟨o, kp b o e, rfl⟩) (funFrames_hide hff fun en he b hb => List.mem_filterMap.mpr ⟨en, he, hb⟩))

abbrev dO : Cc := ((0, 0), (0, 0))

theorem lL {g : G} {C : Addr} (H : HH g) (R : RF g C) (d top : Int) : RetE g C 4 "log_both" [cx dO, .int d, .int top] := by
  obtain ⟨fv, gv, cl, run⟩ := wy (n := 3) (args := [cx dO, .int d, .int top]) (d := au 56) (H.D 56 rfl) (H.ok 56 rfl) (by walk_at "binds") rfl
  refine ⟨fv, gv, cl, fun A s vals outer P E hdp hun hh hfr hff hkeep hsz rs k => run A s vals outer P E hdp hun hh hfr hff hkeep hsz rs fun a code h₁ tk₁ o1 kp ff => ?_⟩
  have test : SB g ⟨(au 56).name, (au 56).scope, 3⟩ (.Call (.Name "is_nought" ⟨306, 7, 306, 16⟩) [.Name "z" ⟨306, 17, 306, 18⟩] [] ⟨306, 7, 306, 19⟩) [("z", cx dO), ("digits", .int d), ("top", .int top)] fun b => b = true := by
    walk_at "st"
    refine am 51 ?_; walk_at "sts"; refine ae (fW H _) ?_
    exact ⟨true, rfl, rfl⟩
  refine wpAny_execs_cons (wpAny_If (test _ _ a code _ _ _ o1 fun b h₂ tk₂ hb o2 k2 => ?_))
  subst hb
  obtain ⟨m, F, rr⟩ := o2.fr
  refine wpAny_execs_cons (rY R F (by show A.depth + 1 < 898; exact fq778 hdp) o2.hand rfl rfl fun h₃ e tk₃ t dx sl kp₃ hne he => ?_)
  have kp2 : ∀ b o, s.heap.get? b = some o -> h₂.get? b = some o := fun b o x => k2 b o (Nat.ne_of_lt (Heap.lt_size x)) (kp b o x)
  have kps : ∀ b o, s.heap.get? b = some o -> h₃.get? b = some o := fun b o x => kp₃ b o (kp2 b o x)
  have hen : (hideAll s.heap (outer.filterMap (·.frame))).get? e = none := by
    cases q : (hideAll s.heap (outer.filterMap (·.frame))).get? e with
    | none => rfl
    | some o => have := kp2 _ _ (of_hideAll _ q); rw [hne] at this; cases this
  refine wpAny_leaving_firstW (base := hideAll s.heap (outer.filterMap (·.frame))) (a0 := .ref t) (Around.frames_deeper hfr) (j7 hff kps (show (au 56).scope.kind ≠ .module by decide +kernel) rfl (F.ns.keeps kp₃)) rfl he (fun b o x => kps b o (of_hideAll _ x)) hen rfl rfl rfl fun h₄ hL => ?_
  obtain ⟨k1, ⟨_, _, kf⟩, k3, k4⟩ := hL
  exact k e _ h₄ _ ⟨k1, hen, kf, k3⟩ ((Heap.UpToSlots.of_keeps kps).trans k4)
end

section
theorem jR {g : G} {C : Addr} (H : HH g) (R : RF g C) (d top : Int) : RetE g C 6 "complex_log" [cx dO, .int d, .int top] := by
  obtain ⟨fv, gv, cl, run⟩ := wy (n := 5) (args := [cx dO, .int d, .int top]) (d := au 57) (H.D 57 rfl) (H.ok 57 rfl) (by walk_at "binds") rfl
  refine ⟨fv, gv, cl, fun A s vals outer P E hdp hun hh hfr hff hkeep hsz rs k => run A s vals outer P E hdp hun hh hfr hff hkeep hsz rs fun a code h₁ tk₁ o1 kp ff => ?_⟩
  obtain ⟨fvb, gvb, clb, runb⟩ := (lL H R (d + 10) (ap top)).run
  obtain ⟨fb, b1, b2⟩ := (H.D 56 rfl).use
  obtain ⟨fr, r1, r2⟩ := (H.D 46 rfl).use
  obtain rfl := GV.uniq gvb (.inl b1)
  obtain ⟨m, F, rr⟩ := o1.fr
  have args : uo g ⟨(au 57).name, (au 57).scope, 5⟩ [.Name "z" ⟨310, 32, 310, 33⟩, .BinOp (.Name "digits" ⟨310, 35, 310, 41⟩) .Add (.Name "MORE" ⟨310, 44, 310, 48⟩) ⟨310, 35, 310, 48⟩, .Call (.Name "wide_top" ⟨310, 50, 310, 58⟩) [.Name "top" ⟨310, 59, 310, 62⟩] [] ⟨310, 50, 310, 63⟩]
      [("z", cx dO), ("digits", .int d), ("top", .int top)] fun vs => vs = [cx dO, .int (d + 10), .int (ap top)] := by
    walk_at "sts"
    refine ca (HH.cM ‹_›) ?_; walk_at "sts"
    refine am 49 ?_; walk_at "sts"; refine ae (dL H _) ?_; walk_at "sts"
  refine wpAny_execs_cons (wpAny_Return_some (wpAny_Call_ofName (ld_global_at F g.T.g r1 ?_ rfl rfl (by decide))))
  refine lE r2 rfl (by simp) (spliced_cons ?_)
  refine wpAny_Call_ofName (ld_global_at F g.T.g b1 ?_ rfl rfl (by decide))
  refine lE b2 rfl (by simp) (args _ _ a code _ _ _ _ o1 fun vs vals' h₂ tk₂ hv rs₂ o2 k2 => ?_)
  subst hv
  obtain ⟨m2, F2, rr2⟩ := o2.fr
  have kp2 : ∀ b o, s.heap.get? b = some o -> h₂.get? b = some o := fun b o x => k2 b o (Nat.ne_of_lt (Heap.lt_size x)) (kp b o x)
  have ff2 : h₂.FunFrames g.hb (envOf (au 57).name (au 57).scope s.heap.objs.size a code :: outer) := eK F2.ns (fun b o hb x _ => k2 b o hb x) ff
  refine ⟨F2.keep, runb _ _ vals' _ _ _ (by show A.depth + 1 + 4 < 900; exact fq786 hdp) (by show A.units + 3 + 10 * 4 < 9000; exact fq773 hun) hh (Around.frames_deeper hfr) ff2 F2.keep (Nat.le_of_lt (Nat.lt_of_le_of_lt F2.above F2.ns.lt)) rs₂ fun e a0 h₃ tk₃ fl sm => ?_⟩
  refine wpAny_leaves_onW (Around.frames_deeper hfr) rfl fl fun h₄ fl₄ sm₄ => ?_
  refine k e a0 h₄ _ (flyingW_base (fun b o x => ?_) fl₄) (((Heap.UpToSlots.of_keeps kp2).trans sm).trans sm₄)
  refine hideAll_get _ (kp2 b o (of_hideAll _ x)) fun hm => ?_
  rcases List.mem_cons.mp hm with rfl | hm
  · exact absurd (Heap.lt_size (of_hideAll _ x)) (Nat.lt_irrefl _)
  · rw [hideAll_none _ hm] at x; cases x
end

section
theorem oZ {h h' : Heap} (k : h.UpToSlots h') : TupK h h' :=
  ⟨fun a items ⟨o, e, c, n, d⟩ => let ⟨sl, x⟩ := k a o e (fun vs y => by rw [d] at y; cases y); ⟨_, x, c, n, d⟩,
   fun a items ⟨o, e, c, n, d⟩ => let ⟨sl, x⟩ := k a o e (fun vs y => by rw [d] at y; cases y); ⟨_, x, c, n, d⟩⟩

theorem qQ {g : G} {A : Around} {L1 a : Addr} {code : Value} {m : Str -> Option Value} {s : Shared} {P E : Value -> Shared -> Prop} {k : Int} {p1 p2 p3 p4 p5 : Pos} {n1 n2 : Nat} {vz : Value}
    (F : Fr g.hb L1 s.heap m) (hz : m "z" = some vz) (rz : ci g s.heap vz (cx dO)) (hk : k = 0 \/ k = 1)
    (h : ∀ val tk, ci g s.heap val (.int 0) -> P val { s with toks := tk }) :
    wpAny (model g.prog g.w) A (eval (.Subscript (.Subscript (.Name "z" p1) (.Constant (.int k) n1 p2) p3) (.Constant (.int 0) n2 p4) p5) (envOf (au 71).name (au 71).scope L1 a code)) P E s := by
  refine Subscript_ (Subscript_ (ld F hz (wpAny_Constant_int ?_) rfl rfl (by decide)))
  refine jB (g := g) (h := s.heap) (k := k) (x := re (0, 0)) (fun _ _ => rfl) rz ⟨_, rfl⟩ (by omega) (by rcases hk with rfl | rfl <;> rfl) (by decide) fun val rv => ?_
  refine wpAny_Constant_int ?_
  exact jB (g := g) (h := s.heap) (k := 0) (x := .int 0) (fun _ _ => rfl) rv ⟨_, rfl⟩ (by omega) rfl (by decide) fun val' rv' => h val' _ rv'

theorem RF.catch {g : G} {C : Addr} (R : RF g C) {M : Model} {A : Around} {E : Value -> Shared -> Prop} {h : Heap} {gs : Array GenState} {dr : Drawn} {t : Nat} {os : OsState} {e : Addr} {oe : Obj} {Q : Bool -> Shared -> Prop}
    (k : ∀ b o, g.hb.get? b = some o -> h.get? b = some o) (he : h.get? e = some oe) (hc : oe.cls = .ref C) (hq : Q true ⟨h, gs, dr, t, os⟩) : wpAny M A (excMatches (.ref e) (.ref C)) Q E ⟨h, gs, dr, t, os⟩ := by
  obtain ⟨x, r⟩ := R.ini
  exact wpAny_excMatches_sub_self (k _ _ r.T.c) he hc (gS (by decide +kernel)) hq

theorem kT {g : G} {C : Addr} (H : HH g) (R : RF g C) (d : Int) : RetT g 8 "_law_log_right" [cx dO, .int d] (.bool true) := by
  obtain ⟨fv, gv, cl, run⟩ := wy (n := 7) (args := [cx dO, .int d]) (d := au 71) (H.D 71 rfl) (H.ok 71 rfl) (by walk_at "binds") rfl
  refine ⟨fv, gv, cl, fun A s vals L env0 P E hdp hun hh ⟨outer, hfr, hff⟩ hf0 hL0 hkeep hsz rs k => ?_⟩
  obtain rfl : outer = [env0] := by rw [hf0] at hfr; injection hfr with h; exact h.symm
  refine run A s vals [env0] P E hdp hun hh hfr hff hkeep hsz rs fun a code h₁ tk₁ o1 kp ff => ?_
  obtain ⟨fvc, gvc, clc, runc⟩ := (jR H R d 99).run
  obtain ⟨fc, c1, c2⟩ := (H.D 57 rfl).use
  obtain rfl := GV.uniq gvc (.inl c1)
  obtain ⟨m, F, rr⟩ := o1.fr
  have args : uo g ⟨(au 71).name, (au 71).scope, 7⟩ [.Name "z" ⟨376, 27, 376, 28⟩, .Name "digits" ⟨376, 30, 376, 36⟩, .Name "_law_top" ⟨376, 38, 376, 46⟩]
      [("z", cx dO), ("digits", .int d)] fun vs => vs = [cx dO, .int d, .int 99] := by
    walk_at "sts"
    refine ca (HH.cT ‹_›) ?_; walk_at "sts"
  refine wpAny_execs_cons (wpAny_Try_except (wpAny_execs_cons (wpAny_Assign_Name (wpAny_Call_ofName (ld_global_at F g.T.g c1 ?_ rfl rfl (by decide))))))
  refine lE c2 rfl (by simp) (args _ _ a code _ _ _ _ o1 fun vs vals' h₂ tk₂ hv rs₂ o2 k2 => ?_)
  subst hv
  obtain ⟨m2, F2, rr2⟩ := o2.fr
  have kp2 : ∀ b o, s.heap.get? b = some o -> h₂.get? b = some o := fun b o x => k2 b o (Nat.ne_of_lt (Heap.lt_size x)) (kp b o x)
  have ff2 : h₂.FunFrames g.hb (envOf (au 71).name (au 71).scope s.heap.objs.size a code :: [env0]) := eK F2.ns (fun b o hb x _ => k2 b o hb x) ff
  refine ⟨F2.keep, runc _ _ vals' _ _ _ (by show A.depth + 1 + 6 < 900; omega) (by show A.units + 3 + 10 * 6 < 9000; omega) hh (Around.frames_deeper hfr) ff2 F2.keep (Nat.le_of_lt (Nat.lt_of_le_of_lt F2.above F2.ns.lt)) rs₂ fun e a0 h₃ tk₃ fl sm => ?_⟩
  refine wpAny_looks_onW (Around.frames_deeper hfr) rfl fl fun h₄ held₄ sm₄ => ?_
  refine wpAny_landsW held₄ fun h₅ fl₅ sm₅ => ?_
  have st : g.hb.StaysIn (hideAll h₂ ((envOf (au 71).name (au 71).scope s.heap.objs.size a code :: [env0]).filterMap (·.frame))) := fun b o x => hideAll_get _ (F2.keep b o x) fun hm => by
    rw [(ff2.mem hm).1] at x; cases x
  have hsm5 := (sm.trans sm₄).trans sm₅
  have F5 : Fr g.hb s.heap.objs.size h₅ m2 := F2.of_stays (fun b o x => fl₅.1 b o (st b o x)) hsm5
  obtain ⟨ob, hob, hobc⟩ := fl₅.there
  refine wpAny_handleBy_cons (codeAny_handlers_test (ld_global_at F5 g.T.g R.cls ?_ rfl rfl (by decide))) (by intro q; cases q)
  refine R.catch F5.keep hob hobc (codeAny_handlers_suite ?_)
  refine lands_againW fl₅ fun h₆ fl₆ sm₆ => ?_
  have F6 : Fr g.hb s.heap.objs.size h₆ m2 := F2.of_stays (fun b o x => fl₆.1 b o (st b o x)) (hsm5.trans sm₆)
  obtain ⟨vz, hz, rz⟩ := rr2 "z" (cx dO) rfl
  have rz6 := ci.keep (oZ (hsm5.trans sm₆)) _ rz
  have hU : (A.deeper (envOf (au 71).name (au 71).scope s.heap.objs.size a code)).units + 64 < cLine := by
    have := cLine_is
    show A.units + 3 + 64 < cLine
    omega
  refine wpAny_execs_cons (wpAny_Return_some (BoolOp_and (wpAny_Compare1 (qQ F6 hz rz6 (.inl rfl) fun v1 tk4 r1 => wpAny_Constant_int (gw (c := true) hU (show cmp .Eq (.int 0) (.int 0) true from rfl) r1 ⟨_, rfl⟩ (wpAny_truthy_bool ?_))) rfl)))
  rw [if_pos rfl]
  refine BoolOp_one (wpAny_Compare1 (qQ F6 hz rz6 (.inr rfl) fun v2 tk5 r2 => wpAny_Constant_int (gw (c := true) hU (show cmp .Eq (.int 0) (.int 0) true from rfl) r2 ⟨_, rfl⟩ ?_)) rfl)
  refine k (.bool true) h₆ _ (fun b o hb x => fl₆.1 b o (hideAll_get _ (kp2 b o x) fun hm => ?_)) (fun o x => ?_) rfl
  · rcases List.mem_cons.mp hm with rfl | hm
    · exact absurd (Heap.lt_size x) (Nat.lt_irrefl _)
    · obtain ⟨en, he, hf⟩ := List.mem_filterMap.mp hm
      rcases List.mem_singleton.mp he with rfl
      rw [hL0] at hf; injection hf with hf; exact hb hf.symm
  · obtain ⟨o', x', nf⟩ := (hff.mem (List.mem_filterMap.mpr ⟨env0, .head _, hL0⟩)).2
    rw [x] at x'; cases x'
    obtain ⟨sl, y⟩ := (Heap.UpToSlots.of_keeps kp2 |>.trans (hsm5.trans sm₆)) L o x nf
    exact ⟨_, y, rfl⟩
end

end

section
theorem fo {x : Re} (h : fK x) : x = (0, 0) \/ ∃ (m o : Nat) (n : Bool), rN m o /\ 0 < m /\ x = (sg n m, (o : Int) - 2) := by
  rcases h with h | ⟨h1, h2, h3, h4, h5, h6⟩
  · exact .inl h
  · refine .inr ⟨x.1.natAbs, (x.2 + 2).toNat, decide (x.1 < 0), ⟨by exact fq811 h2, by exact fq464 h5, by exact fq493 h3, fun q => h6 (by exact fq376 q)⟩, by exact fq495 h1, ?_⟩
    refine Prod.ext ?_ ?_
    · by_cases q : x.1 < 0
      · rw [decide_eq_true q]; show x.1 = -(x.1.natAbs : Int); exact fq451 q
      · rw [decide_eq_false q]; show x.1 = (x.1.natAbs : Int); exact fq181 q
    · show x.2 = ((x.2 + 2).toNat : Int) - 2; exact fq354 h4

theorem nd_two {m : Nat} (h : m < 39) : nd (m : Int) <= 2 := dj (k := 2) (by show m < 100; exact fq796 h)

theorem bQ {m : Int} {k : Nat} (h : nd m <= k) : aC m k := eO h

theorem oc {top : Int} (h : 100 <= top) : 3 <= nd top := by
  rcases Int.lt_or_le (nd top) 3 with q | q
  · have := eO (m := top) (k := 2) (by exact fq456 q)
    exact fq543 this h
  · exact q

theorem uC {P : Nat} (T : Tab P) : TenOk (P : Int) := by
  refine ⟨by rw [T.ten]; have := T.t0; exact iQ this, ?_⟩
  rw [T.ten]
  have : ((P : Int)).toNat = P := rfl
  rw [this]
  have := T.t1
  have h : ((5 * cO P : Nat) : Int) <= ((12 * 10 ^ P : Nat) : Int) := by exact_mod_cast this
  push_cast at h
  exact h
theorem piOk {P : Nat} (T : Tab P) : PiOk (P : Int) := by
  refine ⟨by rw [T.pi]; have := T.p0; exact iQ this, ?_⟩
  rw [T.pi]
  have : ((P : Int)).toNat = P := rfl
  rw [this]
  have := T.p1
  have h : ((5 * eY P : Nat) : Int) <= ((16 * 10 ^ P : Nat) : Int) := by exact_mod_cast this
  push_cast at h
  exact h

theorem jU {m e d top : Int} (hd : 1 <= d) (h1 : nd m <= 2000) (h2 : nd m + e <= top) (h3 : 0 <= top) : RdOk m e d top := ⟨by exact fq578 hd h1, i7 hd h2 h3⟩

theorem jF {x : Re} {D top : Int} (hD : 14 <= D /\ D <= 16) (F : ExpF x D) (hx : nd x.1 <= 100) (he : -400 <= x.2 /\ x.2 <= 400) (hl : ak x <= 4) (ht : 100 <= top) : ExpOk x D top := by
  obtain ⟨P, p1, p2, p3⟩ := F.P
  have T := tab p2 p3
  have n3 := oc ht
  have nf : nd (ds x D) <= 100 := dj F.fb
  have hk := F.k
  refine ⟨by rw [p1]; exact v9 p3, by rw [p1]; exact uC T, bQ hx, he, by exact fq206 n3 hl, ?_⟩
  rw [p1]
  exact jU (by exact im hD.1) (by exact fq466 nf) (by exact fq618 ht p2 nf hk.2) (by exact vR ht)

theorem wave_nd {x : Re} {D a : Int} {P : Nat} (hp : ac x D = P) (h : ab (wv x D a) <= 2) : nd (bV x D a) <= P + 1 := by
  unfold wv at h
  rw [hp] at h
  by_cases z : bV x D a = 0
  · rw [z, bY]; exact fq253
  · have l := dC (x := (bV x D a, -(P : Int))) z
    have h2 : ab (val (bV x D a, -(P : Int))) <= 2 := h
    have h3 : aj (ak (bV x D a, -(P : Int)) - 1) < aj 1 := by
      rw [iC]; exact gq231 h2 l
    have := dq.mp h3
    have e : ak (bV x D a, -(P : Int)) = nd (bV x D a) + -(P : Int) := rfl
    exact fq653 this e

theorem iu {x : Re} {D a top : Int} (hD : 1 <= D) (hP : ∃ P : Nat, ac x D = P /\ 38 <= P /\ P <= 46) (hw : ab (wv x D a) <= 2) (hx : nd x.1 <= 100) (he : -400 <= x.2 /\ x.2 <= 400) (ht : 10 <= top) : WaveOk x D a top := by
  obtain ⟨P, p1, p2, p3⟩ := hP
  have T := tab p2 p3
  have n := wave_nd p1 hw
  refine ⟨by rw [p1]; exact fq766 p2 p3, by rw [p1]; exact piOk T, bQ hx, he, by exact fq507 hD n p3, ?_⟩
  rw [p1]
  exact i7 hD (by exact fq647 ht n) (by exact fq148 ht)

theorem jn {x : Re} {D top : Int} (hD : 1 <= D) (hw : bC x D = false -> (∃ P : Nat, ac x D = P /\ 38 <= P /\ P <= 46) /\ ab (wv x D 0) <= 2) (hx : nd x.1 <= 100) (he : -400 <= x.2 /\ x.2 <= 400) (hl : nd x.1 + x.2 <= 10) (ht : 10 <= top) : SinOk x D top :=
  ⟨hD, fun h => iu hD (hw h).1 (hw h).2 hx he ht, bQ hx, i7 hD (by exact fq579 ht hl) (by exact fq148 ht)⟩

theorem tD {D : Int} (hD : 14 <= D /\ D <= 16) : ExpF (0, 0) D := by
  obtain ⟨P, hP, h1, h2⟩ : ∃ P : Nat, ac (0, 0) D = P /\ 38 <= P /\ P <= 46 := by
    refine ⟨(2 * D + 10).toNat, ?_, by exact fq428 hD.1, by exact fq469 hD.2⟩
    show D + max D (nd 0) + 10 + max 0 (nd 0 + 0) = _
    rw [bY]; exact fq427 hD.1
  have T := tab h1 h2
  have f0 : cr (0, 0) (P : Int) = 0 := by rw [fB (by exact fq742)]; simp
  have k0 : dz (0, 0) D = 0 := by
    unfold dz
    rw [hP, f0, T.ten]
    have := T.t0
    exact Int.ediv_eq_zero_of_lt (by exact fq741) (by exact fq735 this)
  have fF : ds (0, 0) D = 10 ^ P := by
    unfold ds
    rw [k0, hP, f0]
    have e : (0:Int) - 0 * aY (P : Int) = 0 := by exact fq384
    rw [e]
    unfold eV
    have eP : ((P : Int)).toNat = P := rfl
    rw [eP]
    have op : (0:Int) < 10 ^ P := Int.pow_pos (by decide)
    obtain ⟨F, hF⟩ : ∃ F, FU = F + 1 := ⟨10 ^ 3000 - 1, by unfold FU; rfl⟩
    rw [hF]
    have hc : gP ⟨(10:Int) ^ P, 10 ^ P, 1⟩ = true := decide_eq_true (by show (10:Int) ^ P ≠ 0; exact jb op)
    have st : ei 0 ((10:Int) ^ P) ⟨(10:Int) ^ P, 10 ^ P, 1⟩ = ⟨10 ^ P, 0, 2⟩ := by unfold ei; simp
    show (cV gP (ei 0 ((10:Int) ^ P)) (F + 1) ⟨(10:Int) ^ P, 10 ^ P, 1⟩).a = _
    rw [cg hc, st, bZ (by rfl)]
  refine ⟨⟨P, hP, h1, h2⟩, by rw [fF]; exact Int.le_of_lt (Int.pow_pos (by decide)), ?_, by rw [k0]; decide⟩
  rw [fF, Int.natAbs_pow]
  exact Nat.pow_lt_pow_right (by decide) (by exact fq817 h2)

/-- the walk's premises at one of the law's decimals -/
structure K1 (x : Re) (D top : Int) : Prop where
  e : ExpOk x D top
  s : SinOk x D top
  c : bC x D = false -> WaveOk x D 1 top
  h : HypOk x D top

theorem kJ {D top : Int} (hD : 14 <= D /\ D <= 16) (ht : 100 <= top) : K1 (0, 0) D top := by
  have tz : bC (0, 0) D = true := rfl
  have n0 : nd (0 : Int) = 0 := bY
  have l0 : ak (0, 0) = 0 := rfl
  have no : ∀ {p : Prop}, bC (0, 0) D = false -> p := fun h => by rw [tz] at h; cases h
  refine ⟨jF hD (tD hD) (by show nd (0:Int) <= 100; exact fq86 n0) (by decide) (by exact fq459 l0) ht, jn (by exact im hD.1) no (by show nd (0:Int) <= 100; exact fq86 n0) (by decide) (by show nd (0:Int) + 0 <= 10; exact fq458 n0) (by exact fq426 ht), no,
    ⟨by exact im hD.1, bQ (by show nd (0:Int) <= 100; exact fq86 n0), fun _ => i7 (by exact im hD.1) (by show nd (0:Int) + 0 <= top; exact fq580 ht n0) (by exact vR ht), no, no, no, no⟩⟩

theorem ou {x : Re} {D top : Int} (hD : 14 <= D /\ D <= 16) (hl : ak x <= 4) (hx : nd x.1 <= 100) (he : -400 <= x.2 /\ x.2 <= 400) (E : Exp1 (bL x) D) (ht : 100 <= top) : HypOk x D top := by
  obtain ⟨P, p1, p2, p3⟩ := E.e.P
  have T := tab p2 p3
  have n3 := oc ht
  have hx' : nd (bL x).1 <= 100 := by show nd (x.1.natAbs : Int) <= 100; rw [mj]; exact hx
  have idem : bL (bL x) = bL x := by
    show (((x.1.natAbs : Int).natAbs : Int), x.2) = ((x.1.natAbs : Int), x.2)
    simp
  have gg : az (bL x) D = az x D := by unfold az; rw [idem]
  have gf : aD (bL x) D = aD x D := by unfold aD; rw [idem, gg]
  have H := vI E idem
  have hc := H.c
  have hs := H.s
  rw [gg, gf] at hc hs
  have p22 : aj 22 < aj 23 := ig (by decide)
  have key : ∀ {m : Int}, 0 < (m : Rat) * aj (-ac (bL x) D - 1) -> (m : Rat) * aj (-ac (bL x) D - 1) < aj 22 -> nd m + (-ac (bL x) D - 1) <= 22 := by
    intro m h0 h1
    have m0 := de.mp h0
    have := fm (x := (m, -ac (bL x) D - 1)) (k := 22) (by show m ≠ 0; exact jb m0) (by
      show ab ((m : Rat) * aj (-ac (bL x) D - 1)) < aj 22
      rw [bJ h0]; exact h1)
    exact this
  have pp := aq (-4)
  have kc := key (by exact gq39 hc.1) hc.2
  have ks := key (by exact gq11 pp hs.1) hs.2
  rw [p1] at kc ks
  have nsv : nd (kR x D) = nd ((az x D - aD x D) * 5) := by
    unfold kR
    cases decide (x.1 < 0)
    · rfl
    · exact fw _
  have hk := E.k
  have hkk := E.e.k
  have fb := E.e.fb
  refine ⟨by exact im hD.1, bQ hx, fun _ => i7 (by exact im hD.1) (by have : ak x = nd x.1 + x.2 := rfl; exact fq648 ht this hl) (by exact vR ht), fun _ => by exact fq206 n3 hl, fun _ => ?_, fun _ => ?_, fun _ => ?_⟩
  · exact ⟨by rw [p1]; exact v9 p3, by rw [p1]; exact uC T, bQ hx, he, ⟨hk, by exact fq471 hkk.2⟩, E.p, Nat.lt_of_lt_of_le fb (Nat.pow_le_pow_right (by decide) (by decide))⟩
  · rw [p1]
    exact jU (by exact im hD.1) (by rw [nsv]; exact fq122 ks p3) (by rw [nsv]; exact fq205 ht ks) (by exact vR ht)
  · rw [p1]
    exact jU (by exact im hD.1) (by exact fq122 kc p3) (by exact fq205 ht kc) (by exact vR ht)

theorem K1_pos {x : Re} {D : Int} (hD : 14 <= D /\ D <= 16) (hx : nd x.1 <= 2) (he : -2 <= x.2 /\ x.2 <= 1) (hp : 0 < x.1) (E : Exp1 x D) (W : Wav1 x D) : K1 x D 496 /\ K1 (ah x) D 496 := by
  have habs : bL x = x := by
    show ((x.1.natAbs : Int), x.2) = x
    rw [show (x.1.natAbs : Int) = x.1 by exact fq52 hp]
  have lx : ak x = nd x.1 + x.2 := rfl
  have hx' : nd (ah x).1 <= 2 := by show nd (-x.1) <= 2; rw [fw]; exact hx
  have he' : -2 <= (ah x).2 /\ (ah x).2 <= 1 := he
  have lx' := dD x
  have b1 := gA W.norm
  have b2 := gA W.norm'
  have hP' : ∃ P : Nat, ac (ah x) D = P /\ 38 <= P /\ P <= 46 := by rw [dy]; exact W.P
  constructor
  · exact ⟨jF hD E.e (by exact oC hx) (by exact oD he.1 he.2) (by exact fq231 lx hx he.2) (by decide), jn (by exact im hD.1) (fun _ => ⟨W.P, b1.2⟩) (by exact oC hx) (by exact oD he.1 he.2) (by exact fq214 he.2 hx) (by decide), fun _ => iu (by exact im hD.1) W.P b1.1 (by exact oC hx) (by exact oD he.1 he.2) (by decide),
      ou hD (by exact fq231 lx hx he.2) (by exact oC hx) (by exact oD he.1 he.2) (by rw [habs]; exact E) (by decide)⟩
  · exact ⟨jF hD E.e' (by exact oC hx') (by exact oD he'.1 he'.2) (by exact fq242 lx hx he.2 lx') (by decide), jn (by exact im hD.1) (fun _ => ⟨hP', b2.2⟩) (by exact oC hx') (by exact oD he'.1 he'.2) (by show nd (ah x).1 + x.2 <= 10; exact fq214 he.2 hx') (by decide), fun _ => iu (by exact im hD.1) hP' b2.1 (by exact oC hx') (by exact oD he'.1 he'.2) (by decide),
      ou hD (by exact fq242 lx hx he.2 lx') (by exact oC hx') (by exact oD he'.1 he'.2) (by rw [dp, habs]; exact E) (by decide)⟩

theorem dt {x : Re} {d : Int} (hd : 4 <= d /\ d <= 6) (h : fK x) : R1 x (d + 10) /\ K1 x (d + 10) 496 := by
  rcases fo h with rfl | ⟨m, o, n, hm, m0, rfl⟩
  · exact ⟨R1_zero (by exact po hd.1), kJ (by exact pn hd.1 hd.2) (by decide)⟩
  · obtain ⟨dn, rfl⟩ : ∃ dn : Nat, d = dn := ⟨d.toNat, by exact fq152 hd.1⟩
    obtain ⟨E, W⟩ := one_all (d := dn) (by exact fq249 hd.2 hd.1) hm
    have n2 := nd_two hm.1
    have o4 := hm.2.1
    have lx : ak ((m : Int), (o : Int) - 2) = nd (m : Int) + ((o : Int) - 2) := rfl
    have n1 := cG (m := (m : Int)) (by exact lm m0)
    have R := R1_pos (D := (dn : Int) + 10) (by exact pn hd.1 hd.2) (show 0 < ((m : Int), (o : Int) - 2).1 from by show (0:Int) < m; exact iQ m0) (by exact fq505 n1 n2 lx o4) E W
    have K := K1_pos (D := (dn : Int) + 10) (by exact pn hd.1 hd.2) n2 (by show -2 <= (o : Int) - 2 /\ (o : Int) - 2 <= 1; exact fq797 o4) (show 0 < ((m : Int), (o : Int) - 2).1 from by show (0:Int) < m; exact iQ m0) E W
    cases n
    · exact ⟨R, K.1⟩
    · exact ⟨R.neg, K.2⟩
end

section
theorem gO {x : Re} (h : fK x) : fK (ah x) := by
  rcases h with h | ⟨h1, h2, h3, h4, h5, h6⟩
  · left; rw [h]; rfl
  · right
    refine ⟨by show -x.1 ≠ 0; exact oB h1, by show (-x.1).natAbs <= 38; exact fq375 h2, by show (-x.1) % 10 ≠ 0; exact fq179 h3, h4, h5, fun q => by show (-x.1).natAbs <= 3; have := h6 q; exact fq374 this⟩

theorem Nice.t {v : Re} (h : Nice v) : aC v.1 16 := bQ h.nd
theorem Nice.small {v : Re} (h : Nice v) : ar v.1 := h.t.small (by decide)

theorem bd_of {u : Rat} {d : Int} {r : Re} (hd : 4 <= d /\ d <= 6) (R : Rd u d r) (h : r.1 ≠ 0 -> -50 <= ak r /\ ak r <= 50) (hz : r.1 = 0 -> r = (0, 0)) : Bd r := by
  have n := R.nd
  refine ⟨bQ (by exact fq99 hd.2 n), ?_⟩
  by_cases q : r.1 = 0
  · rw [hz q]; decide
  · have := h q
    have e : ak r = Mine.nd r.1 + r.2 := rfl
    have := cG q
    exact fq706 hd.2 h n q e this

/-- a rounded product of two decimals of a middling size -/
structure ProdOk (v w : Re) (d : Int) (m e : Int) : Prop where
  rd : RdOk m e d 99
  bd : Bd (af m e d 99)

theorem nX {u : Rat} {m e d : Int} (hd : 4 <= d /\ d <= 6) (hn : nd m <= 2000) (h : m ≠ 0 -> -50 < nd m + e /\ nd m + e < 50) : RdOk m e d 99 /\ Bd (af m e d 99) := by
  by_cases q : m = 0
  · subst q
    rw [aL _ _ _ (by exact jD hd.1)]
    refine ⟨⟨by rw [bY]; exact fq150 hd.1, by rw [ck _ _ (by exact jD hd.1), bY]; decide⟩, ⟨by unfold aC; decide +kernel, by decide⟩⟩
  · have l := h q
    have S := iy (m := m) (e := e) (d := d) (top := 99) q (by exact iR hd.1) (by exact fq62 h q)
    refine ⟨jU (by exact iR hd.1) hn (by exact fq523 h q) (by decide), ?_⟩
    have R := gY (m := m) (e := e) (d := d) (top := 99) (by exact iR hd.1) (fun _ => by exact fq62 h q)
    refine bd_of hd R (fun _ => ?_) (fun z => absurd z S.nz)
    have := S.lead
    exact fq628 h this.1 this.2 q

theorem iA {v w : Re} {d : Int} (hd : 4 <= d /\ d <= 6) (hv : Nice v) (hw : Nice w) :
    RdOk (ao v w).1 (ao v w).2 d 99 /\ Bd (af (ao v w).1 (ao v w).2 d 99) /\ Rd (val v * val w) d (af (ao v w).1 (ao v w).2 d 99) := by
  have t := aC.mul hv.t hw.t
  have n : nd (ao v w).1 <= 32 := fP t
  have l : (ao v w).1 ≠ 0 -> -50 < nd (ao v w).1 + (ao v w).2 /\ nd (ao v w).1 + (ao v w).2 < 50 := by
    intro h
    have h1 : v.1 ≠ 0 := fun z => h (by show v.1 * w.1 = 0; rw [z, Int.zero_mul])
    have h2 : w.1 ≠ 0 := fun z => h (by show v.1 * w.1 = 0; rw [z, Int.mul_zero])
    have a1 := hv.lead h1
    have a2 := hw.lead h2
    have b1 := dC h1
    have b2 := dC h2
    have c1 := di v
    have c2 := di w
    have e : ab (val (ao v w)) = ab (val v) * ab (val w) := by rw [d7, cU]
    have m1 := cf b1 b2 (Rat.le_of_lt (aq _)) (bj _)
    rw [<- aM, <- e] at m1
    have l1 := iH m1
    have c1' := aX (show ak v <= 23 by exact fq165 a1.2)
    have c2' := aX (show ak w <= 23 by exact fq165 a2.2)
    have m2 := cf (show ab (val v) <= aj 23 by exact us c1 c1') (show ab (val w) <= aj 23 by exact us c2 c2') (bj _) (Rat.le_of_lt (aq _))
    rw [<- aM, <- e] at m2
    have l2 := fm (x := ao v w) (k := 47) h (by have := ig (show (23:Int) + 23 < 47 by decide); exact gq3 this m2)
    have : ak (ao v w) = nd (ao v w).1 + (ao v w).2 := rfl
    exact fq674 a1.1 a2.1 l1 this l2
  obtain ⟨a, b⟩ := nX (u := 0) hd (by exact fq166 n) l
  refine ⟨a, b, ?_⟩
  have R := gY (m := (ao v w).1) (e := (ao v w).2) (d := d) (top := 99) (by exact iR hd.1) (fun h => by have := l h; exact fq62 l h)
  have e : ((ao v w).1 : Rat) * aj (ao v w).2 = val v * val w := d7 v w
  rw [e] at R
  exact R

theorem fZ (v w : Re) : ao (ah v) w = (-(ao v w).1, (ao v w).2) := by
  show (-v.1 * w.1, v.2 + w.2) = (-(v.1 * w.1), v.2 + w.2)
  rw [Int.neg_mul]
theorem fY (v w : Re) : ao v (ah w) = (-(ao v w).1, (ao v w).2) := by
  show (v.1 * -w.1, v.2 + w.2) = (-(v.1 * w.1), v.2 + w.2)
  rw [Int.mul_neg]

theorem wide99 : ap 99 = 496 := rfl
theorem wide9 : ap 9 = 136 := rfl

/-! ## the exponential -/
structure CE (z : Cc) (d : Int) : Prop where
  ok : CExpOk z d 99
  bd : BdC (aT z d 99)
  r1 : Rd (val (aQ z.1 (d + 10) 496) * val (aN z.2 (d + 10) 496)) d (aT z d 99).1
  r2 : Rd (val (aQ z.1 (d + 10) 496) * val (aw z.2 (d + 10) 496)) d (aT z d 99).2

theorem ce_of {z : Cc} {d : Int} (hd : 4 <= d /\ d <= 6) (we : ExpOk z.1 (d + 10) 496) (ws : SinOk z.2 (d + 10) 496) (wc : bC z.2 (d + 10) = false -> WaveOk z.2 (d + 10) 1 496)
    (eN : Nice (aQ z.1 (d + 10) 496)) (sN : Nice (aw z.2 (d + 10) 496)) (cN : Nice (aN z.2 (d + 10) 496)) : CE z d := by
  obtain ⟨a1, a2, a3⟩ := iA hd eN cN
  obtain ⟨b1, b2, b3⟩ := iA hd eN sN
  exact ⟨⟨we, ws, wc, eN.small, sN.small, cN.small, a1, b1⟩, ⟨a2, b2⟩, a3, b3⟩

theorem jd {z : Cc} {d : Int} (hd : 4 <= d /\ d <= 6) (h1 : fK z.1) (h2 : fK z.2) : CE z d := by
  obtain ⟨r1, k1⟩ := dt hd h1
  obtain ⟨r2, k2⟩ := dt hd h2
  exact ce_of hd k1.e k2.s k2.c r1.eN r2.sN r2.cN

theorem exp_law {z : Cc} {d : Int} (hd : 4 <= d /\ d <= 6) (h1 : fK z.1) (h2 : fK z.2) : fe (bq (aT z d 99) (aT (fi z) d 99)) ((1, 0), (0, 0)) (3 - d) := by
  obtain ⟨r1, k1⟩ := dt hd h1
  obtain ⟨r2, k2⟩ := dt hd h2
  have A := jd hd h1 h2
  have B := jd (z := fi z) hd (gO h1) (gO h2)
  have q1 := B.r1
  have q2 := B.r2
  have e1 : (fi z).1 = ah z.1 := rfl
  have e2 : (fi z).2 = ah z.2 := rfl
  rw [e1, e2, r2.pc] at q1
  rw [e1, e2, r2.ps, gC] at q2
  exact wp hd A.r1 A.r2 q1 q2 r1.e0 r1.f0 r1.ef r2.sc

/-! ## the waves -/
structure CT (z : Cc) (d : Int) : Prop where
  ok : CTrigOk z d 99
  bs : BdC (bO z d 99)
  bc : BdC (bP z d 99)
  s1 : Rd (val (aw z.1 (d + 10) 496) * val (bf z.2 (d + 10) 496)) d (bO z d 99).1
  s2 : Rd (val (aN z.1 (d + 10) 496) * val (aP z.2 (d + 10) 496)) d (bO z d 99).2
  c1 : Rd (val (aN z.1 (d + 10) 496) * val (bf z.2 (d + 10) 496)) d (bP z d 99).1
  c2 : Rd (-(val (aw z.1 (d + 10) 496) * val (aP z.2 (d + 10) 496))) d (bP z d 99).2

theorem pB {z : Cc} {d : Int} (hd : 4 <= d /\ d <= 6) (h1 : fK z.1) (h2 : fK z.2) : CT z d := by
  obtain ⟨r1, k1⟩ := dt hd h1
  obtain ⟨r2, k2⟩ := dt hd h2
  obtain ⟨a1, a2, a3⟩ := iA hd r1.sN r2.gN
  obtain ⟨b1, b2, b3⟩ := iA hd r1.cN r2.hN
  obtain ⟨c1, c2, c3⟩ := iA hd r1.cN r2.gN
  obtain ⟨d1, d2, d3⟩ := iA hd r1.sN.neg r2.hN
  rw [fZ] at d1 d2 d3
  rw [gC] at d3
  have e : -val (aw z.1 (d + 10) 496) * val (aP z.2 (d + 10) 496) = -(val (aw z.1 (d + 10) 496) * val (aP z.2 (d + 10) 496)) := by exact gq15
  rw [e] at d3
  exact ⟨⟨k1.s, k1.c, k2.h, r1.sN.small, r1.cN.small, r2.hN.small, r2.gN.small, a1, b1, c1, d1⟩, ⟨a2, b2⟩, ⟨c2, d2⟩, a3, b3, c3, d3⟩

theorem gm (z : Cc) (k : Int) : fe z z k := by
  have h : ∀ x : Re, mw x x k := fun x => d9 (by
    have : val x - val x = 0 := by exact gq44
    rw [this, cC]; exact Rat.le_of_lt (aq k))
  exact ⟨h _, h _⟩

theorem sin_odd {z : Cc} {d : Int} (hd : 4 <= d /\ d <= 6) (h1 : fK z.1) (h2 : fK z.2) : bO (fi z) d 99 = fi (bO z d 99) := by
  obtain ⟨r1, k1⟩ := dt hd h1
  obtain ⟨r2, k2⟩ := dt hd h2
  show cj (ao (aw (ah z.1) (d + 10) 496) (bf (ah z.2) (d + 10) 496), ao (aN (ah z.1) (d + 10) 496) (aP (ah z.2) (d + 10) 496)) d 99 = _
  rw [r1.ps, r1.pc, r2.ph, r2.pg, fZ, fY]
  show (af (-_) _ d 99, af (-_) _ d 99) = _
  rw [bX _ _ _ (by exact jD hd.1), bX _ _ _ (by exact jD hd.1)]
  rfl
theorem wB {z : Cc} {d : Int} (hd : 4 <= d /\ d <= 6) (h1 : fK z.1) (h2 : fK z.2) : bP (fi z) d 99 = bP z d 99 := by
  obtain ⟨r1, k1⟩ := dt hd h1
  obtain ⟨r2, k2⟩ := dt hd h2
  show cj (ao (aN (ah z.1) (d + 10) 496) (bf (ah z.2) (d + 10) 496), cZ (ao (aw (ah z.1) (d + 10) 496) (aP (ah z.2) (d + 10) 496))) d 99 = _
  rw [r1.ps, r1.pc, r2.ph, r2.pg, fZ, fY]
  show (_, af (-(-(-_))) _ d 99) = _
  rw [Int.neg_neg]
  rfl

theorem ut {z : Cc} {d : Int} (hd : 4 <= d /\ d <= 6) (h1 : fK z.1) (h2 : fK z.2) : WavesOk z d := by
  obtain ⟨r1, k1⟩ := dt hd h1
  obtain ⟨r2, k2⟩ := dt hd h2
  have A := pB hd h1 h2
  have B := pB (z := fi z) hd (gO h1) (gO h2)
  refine ⟨A.ok, B.ok, by exact vP hd.1 hd.2, A.bs, A.bc, B.bs, B.bc, ?_, ?_, ?_⟩
  · refine oV hd A.s1 A.s2 A.c1 A.c2 r1.sc r2.hy ?_ ?_
    · show val (bo _ _) = _
      rw [cL, ge, ge]
    · show val (bo _ _) = _
      rw [cL, gd, gd]
  · rw [sin_odd hd h1 h2]; exact gm _ _
  · rw [wB hd h1 h2]; exact gm _ _

theorem mir0_ok {z : Cc} {d : Int} (hd : 4 <= d /\ d <= 6) (h1 : fK z.1) (h2 : fK z.2) (h0 : z.2.1 = 0) : MirOk0 z d := by
  obtain ⟨r1, k1⟩ := dt hd h1
  obtain ⟨r2, k2⟩ := dt hd h2
  obtain ⟨z1, z2⟩ := r2.z h0
  refine ⟨(jd hd h1 h2).ok, (pB hd h1 h2).ok, ?_, ?_, ?_⟩
  · show (af ((aQ z.1 (d + 10) 496).1 * (aw z.2 (d + 10) 496).1) _ d 99).1 = 0
    rw [z1, Int.mul_zero, aL _ _ _ (by exact jD hd.1)]
  · show (af ((aN z.1 (d + 10) 496).1 * (aP z.2 (d + 10) 496).1) _ d 99).1 = 0
    rw [z2, Int.mul_zero, aL _ _ _ (by exact jD hd.1)]
  · show (af (-((aw z.1 (d + 10) 496).1 * (aP z.2 (d + 10) 496).1)) _ d 99).1 = 0
    rw [z2, Int.mul_zero, Int.neg_zero, aL _ _ _ (by exact jD hd.1)]

theorem wu {z : Cc} {d : Int} (hd : 4 <= d /\ d <= 6) (h1 : fK z.1) (h2 : fK z.2) : aT (bu z) d 99 = bu (aT z d 99) := by
  obtain ⟨r2, k2⟩ := dt hd h2
  show cj (ao (aQ z.1 (d + 10) 496) (aN (ah z.2) (d + 10) 496), ao (aQ z.1 (d + 10) 496) (aw (ah z.2) (d + 10) 496)) d 99 = _
  rw [r2.ps, r2.pc, fY]
  show (_, af (-_) _ d 99) = _
  rw [bX _ _ _ (by exact jD hd.1)]
  rfl
end

section
/-- what is known of one of the law's decimals -/
structure PB (x : Re) : Prop where
  m : x.1.natAbs <= 38
  e : -2 <= x.2 /\ x.2 <= 1
  lo : x.1 ≠ 0 -> aj (-2) <= ab (val x)
  hi : ab (val x) < aj 2
  z : x.1 = 0 -> x = (0, 0)

theorem cX {x : Re} (h : fK x) : PB x := by
  rcases h with h | ⟨h1, h2, h3, h4, h5, h6⟩
  · subst h
    refine ⟨by decide, by decide, fun h => absurd rfl h, ?_, fun _ => rfl⟩
    rw [du, cC]; exact aq 2
  · have n1 := cG h1
    have n2 : nd x.1 <= 2 := dj (k := 2) (by show x.1.natAbs < 100; exact fq810 h2)
    have n3 : x.2 = 1 -> nd x.1 <= 1 := fun q => dj (k := 1) (by show x.1.natAbs < 10; have := h6 q; exact fq306 h6 q)
    have e : ak x = nd x.1 + x.2 := rfl
    refine ⟨h2, ⟨h4, h5⟩, fun _ => ?_, ?_, fun z => absurd z h1⟩
    · have := dC h1
      have := aX (show -2 <= ak x - 1 by exact fq629 h4 n1 e)
      exact mn this ‹_›
    · have := di x
      have hl : ak x <= 2 := by
        by_cases q : x.2 = 1
        · have := n3 q; exact fq626 n3 q e
        · exact fq661 e n2 h5 q
      have := aX hl
      exact gq19 ‹_› this

theorem jj {x y : Re} {n k : Nat} (hx : aC x.1 n) (hy : aC y.1 n) (h1 : x.2 - y.2 <= k) (h2 : y.2 - x.2 <= k) : aC (bE x y).1 (n + k + 2) := by
  unfold bE
  cases decide (x.1 = 0) with
  | true => exact hy.mono (by exact fq284)
  | false =>
    cases decide (y.1 = 0) with
    | true => exact hx.mono (by exact fq284)
    | false => exact cP hx hy h1 h2
theorem ly {x y : Re} {a b : Int} (hx : a <= x.2 /\ x.2 <= b) (hy : a <= y.2 /\ y.2 <= b) : a <= (bE x y).2 /\ (bE x y).2 <= b := by
  unfold bE
  cases decide (x.1 = 0) with
  | true => exact hy
  | false =>
    cases decide (y.1 = 0) with
    | true => exact hx
    | false => show a <= min x.2 y.2 /\ min x.2 y.2 <= b; exact fq696 hx.1 hy.1 hx.2

theorem rS {x : Re} {d : Int} (hd : 0 <= d) : 0 <= dc x d /\ dc x d <= 2 * d + 3 := by
  have := gq x.1
  unfold dc
  by_cases h : (x.2 - max 0 (2 * d + 2 - nd x.1)) % 2 = 1
  · rw [decide_eq_true h, cond_true]; exact fq561 hd this
  · rw [decide_eq_false h, cond_false]; exact fq562 hd this

theorem qX {x : Re} {d top : Int} (h0 : 0 <= x.1) (t : aC x.1 60) (e : -60 <= x.2 /\ x.2 <= 60) (hd : 2 <= d /\ d <= 20) (h : x.1 ≠ 0 -> aj (-40) <= val x /\ val x <= aj 40) (ht : 60 <= top) : SqOk x d top := by
  have m := rS (x := x) (d := d) (by exact tj hd.1)
  have ts : aC (gh x d) 120 := (aC.mul t (aC.pow (dc x d).toNat)).mono (by exact fq602 m.2 hd.2)
  refine ⟨h0, t.small (by decide), by exact fq433 hd.1 hd.2, ts.small (by decide), by have := fP ts; exact fq462 this, fun hx => ?_⟩
  obtain ⟨lo, hi⟩ := h hx
  have L := mH (x := x) (d := d) (by exact fq142 h0 hx) (by exact fq431 hd.1) lo hi
  have E : gE x d = (x.2 - dc x d) / 2 - 1 := rfl
  exact jU (by exact pq hd.1) (by exact fq703 e.1 L.2 E m.2 hd.2) (by exact fq581 ht L.2) (by exact fq443 ht)

/-- the square of the distance -/
structure SS2 (z : Cc) : Prop where
  v : val (ag z) = val z.1 * val z.1 + val z.2 * val z.2
  nn : 0 <= (ag z).1
  t : aC (ag z).1 12
  e : -4 <= (ag z).2 /\ (ag z).2 <= 2
  lo : ¬ (z.1.1 = 0 /\ z.2.1 = 0) -> aj (-4) <= val (ag z)
  hi : val (ag z) < aj 5

theorem nO {z : Cc} (h1 : PB z.1) (h2 : PB z.2) : SS2 z := by
  have v : val (ag z) = val z.1 * val z.1 + val z.2 * val z.2 := by
    show val (bE _ _) = _
    rw [jg, d7, d7]
  have a0 := cQ (val z.1)
  have b0 := cQ (val z.2)
  have tm : ∀ x : Re, PB x -> aC (ao x x).1 4 := fun x h => aC.mul (n := 2) (m := 2) (by unfold aC; have := h.m; exact pj this) (by unfold aC; have := h.m; exact pj this)
  have em : ∀ x : Re, PB x -> -4 <= (ao x x).2 /\ (ao x x).2 <= 2 := fun x h => by have := h.e; show -4 <= x.2 + x.2 /\ x.2 + x.2 <= 2; exact fq356 this.1 this.2
  have e1 := em z.1 h1
  have e2 := em z.2 h2
  have sqlo : ∀ x : Re, PB x -> x.1 ≠ 0 -> aj (-4) <= val x * val x := fun x h hx => by
    have := cf (h.lo hx) (h.lo hx) (Rat.le_of_lt (aq _)) (bj _)
    rw [<- aM, eq] at this
    exact this
  have sqhi : ∀ x : Re, PB x -> val x * val x <= aj 4 := fun x h => by
    have hh := Rat.le_of_lt h.hi
    have := cf hh hh (bj _) (Rat.le_of_lt (aq _))
    rw [<- aM, eq] at this
    exact this
  refine ⟨v, ew.mp (by rw [v]; exact gq7 a0 b0), (jj (n := 4) (k := 6) (tm _ h1) (tm _ h2) (by exact fq193 e2.1 e1.2) (by exact fq193 e1.1 e2.2)), ly e1 e2, fun h => ?_, ?_⟩
  · rw [v]
    by_cases q : z.1.1 = 0
    · have := sqlo z.2 h2 (fun r => h ⟨q, r⟩); exact gq274 a0 this
    · have := sqlo z.1 h1 q; exact gq61 b0 this
  · rw [v]
    have := sqhi z.1 h1
    have := sqhi z.2 h2
    have : aj 5 = aj 4 * 10 := by rw [show (5:Int) = 4 + 1 by decide, bR]
    have := aq 4
    exact gq327 this ‹_› ‹_› ‹_›

theorem oU {z : Cc} (h1 : PB z.1) (h2 : PB z.2) : ZOk z := by
  have a := h1.m
  have b := h2.m
  have e1 := h1.e
  have e2 := h2.e
  have t : ∀ x : Re, x.1.natAbs <= 38 -> aC x.1 100 := fun x h => aC.mono (n := 2) (by unfold aC; exact pj h) (by decide)
  exact ⟨t _ a, t _ b, ⟨by exact fq192 e2.1 e1.2, by exact fq192 e1.1 e2.2⟩⟩

theorem jQ {z : Cc} {d top : Int} (S : SS2 z) (hd : 2 <= d /\ d <= 20) (ht : 60 <= top) : SqOk (ag z) d top := by
  have e := S.e
  refine qX S.nn (S.t.mono (by decide)) (by exact fq365 e.1 e.2) hd (fun h => ⟨?_, ?_⟩) ht
  · have hz : ¬ (z.1.1 = 0 /\ z.2.1 = 0) := by
      rintro ⟨p, q⟩
      have v := S.v
      rw [bw.mpr p, bw.mpr q] at v
      have : val (ag z) = 0 := by exact gq147 v
      exact h (bw.mp this)
    have := S.lo hz
    have := aX (show (-40:Int) <= -4 by decide)
    exact mn this ‹_›
  · have := S.hi
    have := aX (show (5:Int) <= 40 by decide)
    exact us ‹_› this

theorem rh {x : Re} (h : PB x) : Bd x := ⟨aC.mono (n := 2) (by unfold aC; have := h.m; exact pj this) (by decide), by have := h.e; exact fq357 this.1 this.2⟩

/-! ## the distance -/
theorem dist_ok {z : Cc} {d : Int} (hd : 4 <= d /\ d <= 6) (h1 : PB z.1) (h2 : PB z.2) : DistOk z d := by
  have S := nO h1 h2
  have a := h1.m
  have b := h2.m
  have e1 := h1.e
  have e2 := h2.e
  have vd : val (aZ z) = val z.1 * val z.1 + val z.2 * val z.2 := by
    show val (bo _ _) = _
    rw [cL]
    have sq : ∀ x : Re, val (x.1 ^ 2, 2 * x.2) = val x * val x := fun x => by
      rw [<- d7]
      show val _ = val (x.1 * x.1, x.2 + x.2)
      have : x.1 ^ 2 = x.1 * x.1 := by rw [Int.pow_succ, Int.pow_succ, Int.pow_zero, Int.one_mul]
      rw [this, show 2 * x.2 = x.2 + x.2 by exact fq80]
    rw [sq, sq]
  refine ⟨oU h1 h2, aC.mono (n := 2) (by unfold aC; exact pj a) (by decide), aC.mono (n := 2) (by unfold aC; exact pj b) (by decide), by exact fq131 e1.1 e1.2, by exact fq131 e2.1 e2.2, by exact vP hd.1 hd.2, jQ S (by exact fq440 hd.1 hd.2) (by decide), ?_⟩
  by_cases hz : z.1.1 = 0 /\ z.2.1 = 0
  · left
    have v0 : val (aZ z) = 0 := by rw [vd, bw.mpr hz.1, bw.mpr hz.2]; exact gq22
    refine ⟨bw.mp v0, ?_⟩
    have s0 : (ag z).1 = 0 := bw.mp (by rw [S.v, bw.mpr hz.1, bw.mpr hz.2]; exact gq22)
    show bv (ag z) d 99 = (0, 0)
    unfold bv
    rw [decide_eq_true s0]; rfl
  · right
    have lo := S.lo hz
    have p4 := aq (-4)
    have N0 : 0 < val (ag z) := by exact gq11 p4 lo
    have m0 := cz.mp N0
    have lo' : aj (-40) <= val (ag z) := by have := aX (show (-40:Int) <= -4 by decide); exact mn this lo
    have hi' : val (ag z) <= aj 40 := by have := aX (show (5:Int) <= 40 by decide); have := S.hi; exact us this ‹_›
    have F := o5 (x := ag z) (d := d) m0 (by exact jD hd.1)
    obtain ⟨b1, b2, b3, -, -⟩ := F.bounds (by exact iR hd.1)
    have n0 : 0 < fJ (ag z) d := by exact fq63 b3 b1
    have L := mH m0 (by exact vQ hd.1) lo' hi' (d := d)
    have ea : aU z d 99 = ai (fJ (ag z) d) (gE (ag z) d) d := by
      show bv (ag z) d 99 = _
      unfold bv
      rw [decide_eq_false (by exact jb m0), cond_false, qZ (by exact jb n0) (by exact iR hd.1) (by exact fq358 L.1)]
    have R := gF (m := fJ (ag z) d) (by exact jb n0) (gE (ag z) d) (d := d) (by exact iR hd.1)
    have hn : d + 2 <= nd (fJ (ag z) d) := by
      rcases Int.lt_or_le (nd (fJ (ag z) d)) (d + 2) with q | q
      · exfalso
        have := eO (m := fJ (ag z) d) (k := (d + 1).toNat) (by exact fq590 q)
        have r0 := F.r0
        have e : (10 : Nat) ^ (d + 1).toNat = 10 ^ d.toNat * 10 := by rw [<- Nat.pow_succ]; congr 1; lia -abstractProof
        have : ((fJ (ag z) d).natAbs : Int) < ((10 ^ (d + 1).toNat : Nat) : Int) := by exact_mod_cast this
        rw [e] at this
        push_cast at this
        lia -abstractProof
      · exact q
    obtain ⟨k1, k2, k3⟩ := o8 F (by exact iR hd.1) hn
    rw [ea]
    have lead := R.lead
    have el : ak (ai (fJ (ag z) d) (gE (ag z) d) d) = nd (ai (fJ (ag z) d) (gE (ag z) d) d).1 + (ai (fJ (ag z) d) (gE (ag z) d) d).2 := rfl
    have rp : 0 < (ai (fJ (ag z) d) (gE (ag z) d) d).1 := R.sg.mpr n0
    have rn := R.nd
    have rnz := R.nz
    have hN : ((ag z).1 : Rat) * aj (ag z).2 = val (aZ z) := by rw [vd, <- S.v]; rfl
    rw [hN] at k1 k2
    generalize ai (fJ (ag z) d) (gE (ag z) d) d = r at *
    have np := cG rnz
    refine ⟨fun q => ?_, rp, rn, by exact fq707 hd.2 L.1 L.2 lead.1 lead.2 el rn np, ?_, ?_⟩
    · have := bw.mpr q
      rw [vd, <- S.v] at this
      exact gq191 p4 lo this
    all_goals
      (have u1 : aj (nd (fJ (ag z) d) + gE (ag z) d - d) <= aj (r.2 + nd r.1 - d) := aX (by exact fq704 el lead.1)
       have u2 : aj (r.2 + nd r.1 - d) <= val r := by
         have h1 := dC rnz
         rw [bJ (cz.mpr rp)] at h1
         have := aX (show r.2 + nd r.1 - d <= ak r - 1 by exact fq682 hd.1 el)
         exact mn this h1
       have v0 := cz.mpr rp
       have u0 := aq (r.2 + nd r.1 - d)
       have t0 := aq (nd (fJ (ag z) d) + gE (ag z) d - d))
    · have hlow : val (cI r d) = 2 * val r - aj (r.2 + nd r.1 - d) := by
        show val (bo (2 * r.1, r.2) (-1, r.2 + nd r.1 - d)) = _
        rw [cL]
        show ((2 * r.1 : Int) : Rat) * aj r.2 + ((-1 : Int) : Rat) * aj (r.2 + nd r.1 - d) = 2 * ((r.1 : Rat) * aj r.2) - _
        rw [Rat.intCast_mul]
        have c1 : ((2 : Int) : Rat) = 2 := rfl
        have c2 : ((-1 : Int) : Rat) = -1 := rfl
        rw [c1, c2]; exact gq237
      have hb : val (iK z r d) = 4 * val (aZ z) - val (cI r d) * val (cI r d) := by
        show val (bo (4 * (aZ z).1, (aZ z).2) (-(cI r d).1 ^ 2, 2 * (cI r d).2)) = _
        rw [cL]
        generalize cI r d = l
        generalize aZ z = s
        show ((4 * s.1 : Int) : Rat) * aj s.2 + ((-l.1 ^ 2 : Int) : Rat) * aj (2 * l.2) = 4 * ((s.1 : Rat) * aj s.2) - (l.1 : Rat) * aj l.2 * ((l.1 : Rat) * aj l.2)
        have : l.1 ^ 2 = l.1 * l.1 := by rw [Int.pow_succ, Int.pow_succ, Int.pow_zero, Int.one_mul]
        rw [this, show 2 * l.2 = l.2 + l.2 by exact fq80, aM, Rat.intCast_mul, Rat.intCast_neg, Rat.intCast_mul]
        have c1 : ((4 : Int) : Rat) = 4 := rfl
        rw [c1]; exact gq296
      refine ew.mp ?_
      rw [hb, hlow]
      have := cf (a := 2 * val r - aj (r.2 + nd r.1 - d)) (b := 2 * val r - aj (nd (fJ (ag z) d) + gE (ag z) d - d)) (c := 2 * val r - aj (r.2 + nd r.1 - d)) (d := 2 * val r - aj (nd (fJ (ag z) d) + gE (ag z) d - d)) (by exact gq65 u1) (by exact gq65 u1) (by exact gq193 v0 u2) (by exact gq232 k3)
      exact gq63 this k1
    · have hhigh : val (b8 r d) = 2 * val r + aj (r.2 + nd r.1 - d) := by
        show val (bo (2 * r.1, r.2) (1, r.2 + nd r.1 - d)) = _
        rw [cL]
        show ((2 * r.1 : Int) : Rat) * aj r.2 + ((1 : Int) : Rat) * aj (r.2 + nd r.1 - d) = 2 * ((r.1 : Rat) * aj r.2) + _
        rw [Rat.intCast_mul]
        have c1 : ((2 : Int) : Rat) = 2 := rfl
        have c2 : ((1 : Int) : Rat) = 1 := rfl
        rw [c1, c2]; exact gq239
      have hb : val (iL z r d) = val (b8 r d) * val (b8 r d) - 4 * val (aZ z) := by
        show val (bo ((b8 r d).1 ^ 2, 2 * (b8 r d).2) (-4 * (aZ z).1, (aZ z).2)) = _
        rw [cL]
        generalize b8 r d = l
        generalize aZ z = s
        show ((l.1 ^ 2 : Int) : Rat) * aj (2 * l.2) + ((-4 * s.1 : Int) : Rat) * aj s.2 = (l.1 : Rat) * aj l.2 * ((l.1 : Rat) * aj l.2) - 4 * ((s.1 : Rat) * aj s.2)
        have : l.1 ^ 2 = l.1 * l.1 := by rw [Int.pow_succ, Int.pow_succ, Int.pow_zero, Int.one_mul]
        rw [this, show 2 * l.2 = l.2 + l.2 by exact fq80, aM, Rat.intCast_mul, Rat.intCast_mul]
        have c1 : ((-4 : Int) : Rat) = -4 := rfl
        rw [c1]; exact gq297
      refine ew.mp ?_
      rw [hb, hhigh]
      have := cf (a := 2 * val r + aj (nd (fJ (ag z) d) + gE (ag z) d - d)) (b := 2 * val r + aj (r.2 + nd r.1 - d)) (c := 2 * val r + aj (nd (fJ (ag z) d) + gE (ag z) d - d)) (d := 2 * val r + aj (r.2 + nd r.1 - d)) (by exact gq64 u1) (by exact gq64 u1) (by exact gq188 v0 t0) (by exact gq267 t0 v0 u1)
      exact gq63 k2 this
end

section
theorem mS : aj (-4) = 1 / 10000 := by
  have h : aj (-4) * 10000 = 1 := bA 4
  exact gq137 h
theorem uQ : aj (-2) = 1 / 100 := by
  have h : aj (-2) * 100 = 1 := bA 2
  exact gq136 h
theorem o9 : aj (-3) = 1 / 1000 := by
  have h : aj (-3) * 1000 = 1 := bA 3
  exact gq41 h
theorem rj : aj 2 = 100 := by
  have : aj 2 = aj 0 * 10 * 10 := by rw [show (2:Int) = 0 + 1 + 1 by decide, bR, bR]
  rw [gl] at this; exact gq145 this
theorem uR : aj 3 = 1000 := by
  have : aj 3 = aj 2 * 10 := by rw [show (3:Int) = 2 + 1 by decide, bR]
  rw [rj] at this; exact gq148 this
theorem oa : aj 5 = 100000 := by
  have : aj 5 = aj 3 * 10 * 10 := by rw [show (5:Int) = 3 + 1 + 1 by decide, bR, bR]
  rw [uR] at this; exact gq146 this

theorem wm {D : Int} (hD : 14 <= D) : 3 * aj (1 - D) <= 1 / 1000000000 := by
  have h := aX (show 1 - D <= -13 by exact fq79 hD)
  have n : aj (-13) * 10000000000000 = 1 := bA 13
  exact gq225 n h

theorem dR {r : Re} {a b : Int} (h0 : r.1 ≠ 0) (h1 : aj a <= ab (val r)) (h2 : ab (val r) < aj b) : a < ak r /\ ak r <= b := ⟨iH h1, fm h0 h2⟩

/-- the parts of the root -/
structure Parts (z : Cc) (d : Int) : Prop where
  sPos : 0 < val (bv (ag z) (d + 10) 496)
  gPos : 0 < val (aJ z d 99)
  gN : nd (aJ z d 99).1 <= 16
  gL : -2 <= ak (aJ z d 99) /\ ak (aJ z d 99) <= 3
  sN : nd (bi z d 99).1 <= 16
  s0 : 0 <= val (bi z d 99)
  sz : z.2.1 = 0 -> bi z d 99 = (0, 0)
  sp : z.2.1 ≠ 0 -> 0 < val (bi z d 99) /\ -8 <= ak (bi z d 99) /\ ak (bi z d 99) <= 6
  ok : CSqrtOk z d 99
  a1 : ab (val (aJ z d 99) * val (aJ z d 99) - val (bi z d 99) * val (bi z d 99) - ab (val z.1)) <= 10 * (3 * aj (1 - (d + 10))) * (val (aJ z d 99) * val (aJ z d 99))
  a2 : ab (2 * (val (aJ z d 99) * val (bi z d 99)) - ab (val z.2)) <= 10 * (3 * aj (1 - (d + 10))) * (val (aJ z d 99) * val (aJ z d 99))

theorem uP {z : Cc} {d : Int} (hd : 4 <= d /\ d <= 6) (h1 : PB z.1) (h2 : PB z.2) (hz : ¬ (z.1.1 = 0 /\ z.2.1 = 0)) : Parts z d := by
  have SS := nO h1 h2
  have lo := SS.lo hz
  have hi := SS.hi
  rw [mS] at lo
  rw [oa] at hi
  have N0 : 0 < val (ag z) := by exact gq38 lo
  have m0 := cz.mp N0
  have t := wm (D := d + 10) (by exact po hd.1)
  have tp := aq (1 - (d + 10))
  have q40 : aj (-40) <= aj (-4) := aX (by decide)
  rw [mS] at q40
  have q40' : aj 5 <= aj 40 := aX (by decide)
  rw [oa] at q40'
  -- the distance
  have RS := jl (x := ag z) (d := d + 10) (top := 496) m0 (by exact fq57 hd.1) (by decide) (by exact gq203 lo q40) (by exact gq206 q40' hi)
  have eS : bv (ag z) (d + 10) (ap 99) = bv (ag z) (d + 10) 496 := rfl
  obtain ⟨S, hS⟩ : ∃ S, bv (ag z) (d + 10) 496 = S := ⟨_, rfl⟩
  rw [hS] at RS eS
  have Sp := RS.pos
  have Sn := RS.near
  have tN := Rat.mul_le_mul_of_nonneg_right t (Rat.le_of_lt N0)
  have SS1 := cR (val S * val S - val (ag z))
  have SS2' := bB (val S * val S - val (ag z))
  have Slo : 1 / 1000 <= val S := bW (Rat.le_of_lt Sp) (by exact gq305 SS2' lo Sn tN)
  have Shi : val S <= 999 := bW (by exact gq27) (by exact gq341 SS1 hi Sn tN)
  have S0 : S.1 ≠ 0 := by have := cz.mp Sp; exact jb this
  have Sl := dR (r := S) (a := -3) (b := 3) S0 (by rw [bJ Sp, o9]; exact Slo) (by rw [bJ Sp, uR]; exact gq46 Shi)
  have Snd := RS.nd
  have Snp := cG S0
  have eSl : ak S = nd S.1 + S.2 := rfl
  -- half of the sum
  have vX : val (bL z.1) = ab (val z.1) := nL z.1
  have X0 := bj (val z.1)
  have Xh := h1.hi
  rw [rj] at Xh
  obtain ⟨H, hH⟩ : ∃ H, cE (bE S (bL z.1)) = H := ⟨_, rfl⟩
  have vH : val H = (val S + ab (val z.1)) / 2 := by rw [<- hH, kK, jg, vX]
  have Hp : 0 < val H := by rw [vH]; exact gq197 X0 Slo
  have Hm := cz.mp Hp
  have eA : -2 <= (bL z.1).2 /\ (bL z.1).2 <= 1 := h1.e
  have tA : aC (bL z.1).1 16 := aC.mono (n := 2) (by unfold aC; show ((z.1.1.natAbs : Int)).natAbs < 10 ^ 2; have := h1.m; exact fq809 this) (by decide)
  have tH : aC H.1 60 := by
    rw [<- hH]
    show aC ((bE S (bL z.1)).1 * 5) 60
    have := jj (n := 16) (k := 25) (bQ (m := S.1) (k := 16) (by exact fq97 hd.2 Snd)) tA (by exact fq673 eA.1 Snp eSl Sl.2) (by exact fq702 Sl.1 eSl Snd hd.2 eA.2)
    exact (aC.mul this (show aC 5 1 by unfold aC; decide)).mono (by decide)
  have eH : -60 <= H.2 /\ H.2 <= 60 := by
    rw [<- hH]
    have := ly (x := S) (y := bL z.1) (a := -30) (b := 30) (by exact fq692 hd.2 Sl.1 Sl.2 Snd Snp eSl) (by exact fq355 eA.1 eA.2)
    show -60 <= (bE S (bL z.1)).2 - 1 /\ (bE S (bL z.1)).2 - 1 <= 60
    exact fq362 this.1 this.2
  have Hlo : 1 / 2000 <= val H := by rw [vH]; exact gq198 X0 Slo
  have Hhi : val H <= 550 := by rw [vH]; exact gq229 Xh Shi
  have H40 : aj (-40) <= val H /\ val H <= aj 40 := by constructor <;> (first | exact gq330 X0 Slo vH q40 | exact gq207 q40' Hhi)
  -- the greater part
  have RG := jl (x := H) (d := d + 10) (top := 496) Hm (by exact fq57 hd.1) (by decide) H40.1 H40.2
  have eG : aJ z d 99 = bv H (d + 10) 496 := by
    show bv (cE (bE (bv (ag z) (d + 10) (ap 99)) (bL z.1))) (d + 10) (ap 99) = _
    rw [eS, hH]; rfl
  obtain ⟨G, hG⟩ : ∃ G, bv H (d + 10) 496 = G := ⟨_, rfl⟩
  rw [hG] at RG eG
  have Gp := RG.pos
  have Gn := RG.near
  have tH' := Rat.mul_le_mul_of_nonneg_right t (Rat.le_of_lt Hp)
  have GG1 := cR (val G * val G - val H)
  have GG2 := bB (val G * val G - val H)
  have Glo : 1 / 100 <= val G := bW (Rat.le_of_lt Gp) (by exact gq379 Slo X0 vH Gn tH' GG2)
  have Ghi : val G <= 99 := bW (by exact gq78) (by exact gq386 Shi Xh vH Gn tH' GG1)
  have G0 : G.1 ≠ 0 := by have := cz.mp Gp; exact jb this
  have Gl := dR (r := G) (a := -2) (b := 2) G0 (by rw [bJ Gp, uQ]; exact Glo) (by rw [bJ Gp, rj]; exact gq154 Ghi)
  have Gnd := RG.nd
  have Gnp := cG G0
  have eGl : ak G = nd G.1 + G.2 := rfl
  -- the lesser part
  obtain ⟨Y, hY⟩ : ∃ Y, cE (bL z.2) = Y := ⟨_, rfl⟩
  have vY : val Y = ab (val z.2) / 2 := by rw [<- hY, kK, nL]
  have Y0 := bj (val z.2)
  have Yh := h2.hi
  rw [rj] at Yh
  have Y1 : Y.1 = (z.2.1.natAbs : Int) * 5 := by rw [<- hY]; rfl
  have Y2 : Y.2 = z.2.2 - 1 := by rw [<- hY]; rfl
  have ez := h2.e
  have mz := h2.m
  have eR : bi z d 99 = cv Y G (d + 10) 496 := by
    show cv (cE (bL z.2)) (aJ z d 99) (d + 10) (ap 99) = _
    rw [hY, eG]; rfl
  have nY : nd Y.1 <= 3 := dj (k := 3) (by rw [Y1]; show _ < 1000; exact fq808 mz)
  have nYn := gq Y.1
  -- the aO
  have quo : RdOk (aO Y.1 G.1 (Y.2 - G.2) (d + 10)).1 (aO Y.1 G.1 (Y.2 - G.2) (d + 10)).2 (d + 10) 496 /\ nd (cv Y G (d + 10) 496).1 <= 16 /\ 0 <= val (cv Y G (d + 10) 496) /\
      (z.2.1 = 0 -> cv Y G (d + 10) 496 = (0, 0)) /\ (z.2.1 ≠ 0 -> 0 < val (cv Y G (d + 10) 496) /\ -8 <= ak (cv Y G (d + 10) 496) /\ ak (cv Y G (d + 10) 496) <= 6) /\
      ab (val (cv Y G (d + 10) 496) * val G - ab (val z.2) / 2) <= 3 * aj (1 - (d + 10)) * (ab (val z.2) / 2) := by
    by_cases q : z.2.1 = 0
    · have y0 : Y.1 = 0 := by rw [Y1, q]; rfl
      have q0 : (aO Y.1 G.1 (Y.2 - G.2) (d + 10)).1 = 0 := by rw [y0]; exact rZ _ _ _
      have r0 : cv Y G (d + 10) 496 = (0, 0) := by
        show af (aO Y.1 G.1 (Y.2 - G.2) (d + 10)).1 _ (d + 10) 496 = _
        rw [q0, aL _ _ _ (by exact ti hd.1)]
      have v0 : val z.2 = 0 := bw.mpr q
      rw [r0, q0, v0, cC, du]
      refine ⟨⟨by rw [bY]; exact fq437 hd.1, by rw [ck _ _ (by exact ti hd.1), bY]; decide⟩, by show nd 0 <= 16; rw [bY]; decide, by exact gq74, fun _ => rfl, fun h => absurd q h, ?_⟩
      have : (0:Rat) * val G - 0 / 2 = 0 := by exact gq106
      rw [this, cC]
      exact gq123
    · have yp : 0 < Y.1 := by rw [Y1]; exact fq494 q
      have Vp := cz.mpr yp
      have ylo := h2.lo q
      rw [uQ] at ylo
      have q30 : aj (-30) <= aj (-4) := aX (by decide)
      rw [mS] at q30
      have q30' : aj 5 <= aj 30 := aX (by decide)
      rw [oa] at q30'
      have x1 : aj (-30) <= val Y := by rw [vY]; exact gq202 ylo q30
      have x2 : val Y <= aj 30 := by rw [vY]; exact gq205 q30' Yh
      have g1 : aj (-30) <= val G := by exact gq201 Glo q30
      have g2 : val G <= aj 30 := by exact gq208 q30' Ghi
      have gp := cz.mp Gp
      have DR := nT (x := Y) (y := G) (d := d + 10) (top := 496) yp gp (by exact fq57 hd.1) (by decide) x1 x2 g1 g2
      obtain ⟨l0, -, l1, l2⟩ := mc (x := Y) (y := G) (d := d + 10) yp gp (by exact fq57 hd.1) x1 x2 g1 g2
      have rp := DR.pos
      have rn := DR.near
      have rnd := DR.nd
      rw [vY] at rn
      generalize hr : cv Y G (d + 10) 496 = r at *
      have r0 : r.1 ≠ 0 := by have := cz.mp rp; exact jb this
      have ty := Rat.mul_le_mul_of_nonneg_right t (show 0 <= ab (val z.2) / 2 by exact gq37 ylo)
      have n1 := cR (val r * val G - ab (val z.2) / 2)
      have n2 := bB (val r * val G - ab (val z.2) / 2)
      have y12 := Rat.mul_le_mul_of_nonneg_right (show aj (1 - (d + 10)) <= 3 * aj (1 - (d + 10)) by exact gq120 tp) (show 0 <= ab (val z.2) / 2 by exact gq37 ylo)
      -- bounds of r
      have b1 : val r * (1 / 100) <= val r * val G := Rat.mul_le_mul_of_nonneg_left Glo (Rat.le_of_lt rp)
      have b2 : val r * val G <= val r * 99 := Rat.mul_le_mul_of_nonneg_left Ghi (Rat.le_of_lt rp)
      have p8 : aj (-9) <= val r := by rw [jV]; exact gq363 n2 ty ylo b2 rn
      have p6 : val r < aj 5 := by rw [oa]; exact gq365 ty Yh b1 n1 rn
      have rl := dR (r := r) (a := -9) (b := 5) r0 (by rw [bJ rp]; exact p8) (by rw [bJ rp]; exact p6)
      -- the exponent of the aO
      have qe : (aO Y.1 G.1 (Y.2 - G.2) (d + 10)).2 = Y.2 - G.2 - max (d + 10 + 2 + nd G.1 - nd Y.1) 0 - 1 := rfl
      refine ⟨jU (by exact fq56 hd.1) (by exact fq711 hd.2 Gl.2 Gnp eGl Y2 ez.1 nYn l2 qe) (by exact fq484 l2) (by decide), by exact fq98 hd.2 rnd, Rat.le_of_lt rp, fun h => absurd h q, fun _ => ⟨rp, by exact fq369 rl.1, by exact fq482 rl.2⟩, by exact mn rn y12⟩
  obtain ⟨c1, c2, c3, c4, c5, c6⟩ := quo
  have alg := uL (S := val S) (X := ab (val z.1)) (Y := ab (val z.2)) (G := val G) (s := val (cv Y G (d + 10) 496)) (t := 3 * aj (1 - (d + 10))) Sp X0 Y0 Gp c3 (by exact gq112 tp) (by exact gq152 t)
    (by rw [eq, eq, <- SS.v]; exact Sn) (by rw [<- vH]; exact Gn) c6
  have rsm : RdOk (cv Y G (d + 10) 496).1 (cv Y G (d + 10) 496).2 d 99 := by
    refine jU (by exact iR hd.1) (by exact fq470 c2) ?_ (by decide)
    by_cases q : z.2.1 = 0
    · rw [c4 q]; show nd 0 + 0 <= 99; rw [bY]; decide
    · have := (c5 q).2.2
      have e : ak (cv Y G (d + 10) 496) = nd (cv Y G (d + 10) 496).1 + (cv Y G (d + 10) 496).2 := rfl
      lia -abstractProof
  have negOk : ∀ {m e : Int}, RdOk m e d 99 -> RdOk (-m) e d 99 := by
    intro m e h
    refine ⟨by rw [fw]; exact h.hr, ?_⟩
    by_cases q : m = 0
    · have := h.ht
      subst q
      rw [Int.neg_zero]; exact this
    · rw [gV q]
      show _ + nd (-_) - 1 <= 99
      rw [fw]; exact h.ht
  have rgr : RdOk G.1 G.2 d 99 := jU (by exact iR hd.1) (by exact fq218 hd.2 Gnd) (by exact fq601 eGl Gl.2) (by decide)
  refine ⟨by rw [hS]; exact Sp, by rw [eG]; exact Gp, by rw [eG]; exact fq98 hd.2 Gnd, by rw [eG]; exact fq353 Gl.1 Gl.2, by rw [eR]; exact c2, by rw [eR]; exact c3, by rw [eR]; exact c4, by rw [eR]; exact c5, ?_, by rw [eG, eR]; exact alg.1, by rw [eG, eR]; exact alg.2⟩
  have e2 := h1.e
  refine ⟨oU h1 h2, jQ SS (by exact fq153 hd.1 hd.2) (by decide), ?_, ?_, ?_, ?_, ?_, ?_, ?_, ?_, ?_, ?_, ?_, ?_, ?_⟩
  · rw [eS]; exact (bQ (m := S.1) (k := 16) (by exact fq97 hd.2 Snd)).small (by decide)
  · rw [eS]; exact fq672 e2.1 Snp eSl Sl.2
  · rw [eS]; exact fq701 Sl.1 eSl Snd hd.2 e2.2
  · rw [eS, hH]; exact qX (by exact jC Hm) tH eH (by exact fq153 hd.1 hd.2) (fun _ => H40) (by decide)
  · rw [eG]; exact G0
  · rw [eG]; exact (bQ (m := G.1) (k := 16) (by exact fq97 hd.2 Gnd)).small (by decide)
  · rw [eG, hY]; exact fq643 nYn hd.2 Gnd
  · rw [eG, hY]
    have t1 : aC (Y.1.natAbs : Int) 3 := (bQ nY).natAbs
    exact (aC.mul t1 (aC.pow _)).small (by exact fq644 nYn hd.2 Gnd)
  · rw [eG, hY]; exact c1
  · rw [eG]; exact rgr
  · rw [eG]; exact negOk rgr
  · rw [eR]; exact rsm
  · rw [eR]; exact negOk rsm
end

section
theorem Rd.eqz {u : Rat} {d : Int} {r : Re} (R : Rd u d r) (h : r.1 = 0) : r = (0, 0) := by
  have h1 := R.pos
  have h2 := R.neg
  apply R.z
  by_cases a : 0 < u
  · have := h1 a; lia -abstractProof
  · by_cases b : u < 0
    · have := h2 b; lia -abstractProof
    · exact gq8 h1 h2 h

theorem Rd.bd {u : Rat} {d : Int} {r : Re} (hd : 4 <= d /\ d <= 6) (R : Rd u d r) (h : u ≠ 0 -> aj (-23) <= ab u /\ ab u < aj 22) : Bd r := by
  have N := R.nice (by exact fq483 hd.2) h
  exact bd_of hd R (fun q => by have := N.lead q; exact fq360 this.1 this.2) R.eqz

/-- rounding one of the parts -/
theorem kD {v : Re} {d : Int} (hd : 4 <= d /\ d <= 6) (h : v.1 ≠ 0 -> -20 <= ak v /\ ak v <= 20) : Rd (val v) d (af v.1 v.2 d 99) /\ Bd (af v.1 v.2 d 99) := by
  have e : ak v = nd v.1 + v.2 := rfl
  have R : Rd (val v) d (af v.1 v.2 d 99) := gY (m := v.1) (e := v.2) (by exact iR hd.1) (fun q => by have := h q; exact fq627 h e q)
  refine ⟨R, R.bd hd fun hu => ?_⟩
  have q : v.1 ≠ 0 := fun z => hu (bw.mpr z)
  have l := h q
  have a := dC q
  have b := di v
  have := aX (show -23 <= ak v - 1 by exact fq521 h q)
  have := aX (show ak v <= 22 by exact fq522 h q)
  constructor <;> (first | exact mn ‹_› a | exact gq19 b this)

theorem root_ok {z : Cc} {d : Int} (hd : 4 <= d /\ d <= 6) (h1 : PB z.1) (h2 : PB z.2) (hz : ¬ (z.1.1 = 0 /\ z.2.1 = 0)) : RootOk z d := by
  have P := uP hd h1 h2 hz
  obtain ⟨G, hG⟩ : ∃ G, aJ z d 99 = G := ⟨_, rfl⟩
  obtain ⟨s, hs⟩ : ∃ s, bi z d 99 = s := ⟨_, rfl⟩
  have gPos := P.gPos
  have gL := P.gL
  have s0 := P.s0
  have sz := P.sz
  have sp := P.sp
  have a1 := P.a1
  have a2 := P.a2
  rw [hG] at gPos gL a1 a2
  rw [hs] at s0 sz sp a1 a2
  have hn : bK z = false := by
    unfold bK
    by_cases q : z.1.1 = 0
    · rw [decide_eq_true q, decide_eq_false (fun r => hz ⟨q, r⟩)]; rfl
    · rw [decide_eq_false q]; rfl
  have G0 : 0 < G.1 := cz.mp gPos
  have sL : s.1 ≠ 0 -> -20 <= ak s /\ ak s <= 20 := fun q => by
    by_cases y : z.2.1 = 0
    · rw [sz y] at q; exact absurd rfl q
    · have := (sp y).2; lia -abstractProof
  have GL : G.1 ≠ 0 -> -20 <= ak G /\ ak G <= 20 := fun _ => by exact fq132 gL.1 gL.2
  have vn : ∀ x : Re, val (cZ x) = -val x := fun x => gC x
  have ln : ∀ x : Re, ak (cZ x) = ak x := fun x => dD x
  obtain ⟨RG, BG⟩ := kD hd GL
  obtain ⟨Rs, Bs⟩ := kD hd sL
  obtain ⟨RGn, BGn⟩ := kD (v := cZ G) hd (fun _ => by rw [ln]; exact fq132 gL.1 gL.2)
  obtain ⟨Rsn, Bsn⟩ := kD (v := cZ s) hd (fun q => by rw [ln]; exact sL (by have q : -s.1 ≠ 0 := q; exact fq178 q))
  rw [vn] at RGn Rsn
  -- the tolerance
  have t := wm (D := d + 10) (by exact po hd.1)
  have tp := aq (1 - (d + 10))
  have k7 : 10 * (3 * aj (1 - (d + 10))) <= aj (-7) := by
    have n : aj (-7) * 10000000 = 1 := bA 7
    exact gq223 n t
  have k0 : 0 <= 10 * (3 * aj (1 - (d + 10))) := by exact gq117 tp
  have GG := cQ (val G)
  have ssq := cQ (val s)
  have wid : ∀ x : Rat, ab x <= 10 * (3 * aj (1 - (d + 10))) * (val G * val G) -> ab x <= 10 * (3 * aj (1 - (d + 10))) * (val G * val G + val s * val s) := fun x h => by
    have := fy k0 ssq
    have e : 10 * (3 * aj (1 - (d + 10))) * (val G * val G + val s * val s) = 10 * (3 * aj (1 - (d + 10))) * (val G * val G) + 10 * (3 * aj (1 - (d + 10))) * (val s * val s) := by exact gq280
    rw [e]; exact gq61 this h
  have w1 := wid _ a1
  have w2 := wid _ a2
  generalize 10 * (3 * aj (1 - (d + 10))) = k at *
  have key : ∀ r : Cc, aR z d 99 = r -> BdC r -> 0 <= r.1.1 -> (r.2.1 < 0 ↔ z.2.1 < 0) -> (z.1.1 < 0 -> z.2.1 = 0 -> r.1.1 = 0 /\ 0 < r.2.1) -> fe (bq r r) z (2 * aW r - d + 1) -> RootOk z d := by
    intro r hr b c1 c2 c3 c4
    exact ⟨fun _ => P.ok, by exact vP hd.1 hd.2, ⟨rh h1, rh h2⟩, by rw [hr]; exact b, by rw [hr]; exact c1, by rw [hr]; exact c2, by rw [hr]; exact c3, by rw [hr]; exact c4⟩
  have un : aR z d 99 = cj (bif decide (z.1.1 < 0) then (s, bif decide (z.2.1 < 0) then cZ G else G) else (G, bif decide (z.2.1 < 0) then cZ s else s)) d 99 := by
    unfold aR
    rw [hn, cond_false, hG, hs]
  have Gpos := RG.pos gPos
  have Gneg := RGn.neg (by exact gq33 gPos : -val G < 0)
  have snn : 0 <= (af s.1 s.2 d 99).1 := by
    by_cases q : val s = 0
    · have := Rs.z q; rw [this]; decide
    · have := Rs.pos (by exact gq36 s0 q); exact jC this
  have e0 : ab (val z.1) = bif decide (z.1.1 < 0) then -val z.1 else val z.1 := by
    by_cases q : z.1.1 < 0
    · rw [decide_eq_true q, cond_true, <- dA, bJ (by have := dZ.mpr q; exact gq10 this)]
    · rw [decide_eq_false q, cond_false, ba (ew.mpr (by exact fq180 q))]
  have e1 : ab (val z.2) = bif decide (z.2.1 < 0) then -val z.2 else val z.2 := by
    by_cases q : z.2.1 < 0
    · rw [decide_eq_true q, cond_true, <- dA, bJ (by have := dZ.mpr q; exact gq10 this)]
    · rw [decide_eq_false q, cond_false, ba (ew.mpr (by exact fq180 q))]
  by_cases x : z.1.1 < 0
  · by_cases y : z.2.1 < 0
    · rw [decide_eq_true x, decide_eq_true y] at un
      rw [decide_eq_true x, cond_true] at e0
      rw [decide_eq_true y, cond_true] at e1
      refine key _ un ⟨Bs, BGn⟩ snn ⟨fun _ => y, fun _ => Gneg⟩ (fun _ q => by exact fq656 y q) (iz (x := 0) (y := 0) hd Rs RGn k7 k0 ?_ ?_)
      · rw [e0] at w1
        have e : val s * val s - -val G * -val G - val z.1 = -(val G * val G - val s * val s - -val z.1) := by exact gq262
        have e' : val s * val s + -val G * -val G = val G * val G + val s * val s := by exact gq56
        rw [e, dA, e']; exact w1
      · rw [e1] at w2
        have e : 2 * (val s * -val G) - val z.2 = -(2 * (val G * val s) - -val z.2) := by exact gq252
        have e' : val s * val s + -val G * -val G = val G * val G + val s * val s := by exact gq56
        rw [e, dA, e']; exact w2
    · rw [decide_eq_true x, decide_eq_false y] at un
      rw [decide_eq_true x, cond_true] at e0
      rw [decide_eq_false y, cond_false] at e1
      refine key _ un ⟨Bs, BG⟩ snn ⟨fun q => ?_, fun q => absurd q y⟩ (fun _ q => ⟨?_, Gpos⟩) (iz (x := 0) (y := 0) hd Rs RG k7 k0 ?_ ?_)
      · have q : (af G.1 G.2 d 99).1 < 0 := q
        exact fq557 Gpos q
      · show (af s.1 s.2 d 99).1 = 0
        rw [sz q, aL _ _ _ (by exact jD hd.1)]
      · rw [e0] at w1
        have e : val s * val s - val G * val G - val z.1 = -(val G * val G - val s * val s - -val z.1) := by exact gq265
        have e' : val s * val s + val G * val G = val G * val G + val s * val s := by exact gq59
        rw [e, dA, e']; exact w1
      · rw [e1] at w2
        have e : 2 * (val s * val G) - val z.2 = (2 * (val G * val s) - val z.2) := by exact gq253
        have e' : val s * val s + val G * val G = val G * val G + val s * val s := by exact gq59
        rw [e, e']; exact w2
  · by_cases y : z.2.1 < 0
    · rw [decide_eq_false x, decide_eq_true y] at un
      rw [decide_eq_false x, cond_false] at e0
      rw [decide_eq_true y, cond_true] at e1
      have sneg := Rsn.neg (by have := (sp (by exact fq453 y)).1; exact gq33 this : -val s < 0)
      refine key _ un ⟨BG, Bsn⟩ (by have := Gpos; show 0 <= (af G.1 G.2 d 99).1; exact jC Gpos) ⟨fun _ => y, fun _ => sneg⟩ (fun q => absurd q x) (iz (x := 0) (y := 0) hd RG Rsn k7 k0 ?_ ?_)
      · rw [e0] at w1
        have e : val G * val G - -val s * -val s - val z.1 = (val G * val G - val s * val s - val z.1) := by exact gq263
        have e' : val G * val G + -val s * -val s = val G * val G + val s * val s := by exact gq57
        rw [e, e']; exact w1
      · rw [e1] at w2
        have e : 2 * (val G * -val s) - val z.2 = -(2 * (val G * val s) - -val z.2) := by exact gq251
        have e' : val G * val G + -val s * -val s = val G * val G + val s * val s := by exact gq57
        rw [e, dA, e']; exact w2
    · rw [decide_eq_false x, decide_eq_false y] at un
      rw [decide_eq_false x, cond_false] at e0
      rw [decide_eq_false y, cond_false] at e1
      refine key _ un ⟨BG, Bs⟩ (by have := Gpos; show 0 <= (af G.1 G.2 d 99).1; exact jC Gpos) ⟨fun q => ?_, fun q => absurd q y⟩ (fun q => absurd q x) (iz (x := 0) (y := 0) hd RG Rs k7 k0 ?_ ?_)
      · have q : (af s.1 s.2 d 99).1 < 0 := q
        exact fq564 snn q
      · rw [e0] at w1; exact w1
      · rw [e1] at w2; exact w2

theorem l7 {d : Int} (hd : 4 <= d /\ d <= 6) : RootOk ((0, 0), (0, 0)) d := by
  have b0 : Bd ((0, 0) : Re) := ⟨by unfold aC; decide +kernel, by decide⟩
  have e : aR ((0, 0), (0, 0)) d 99 = ((0, 0), (0, 0)) := rfl
  refine ⟨fun h => (by cases h), by exact vP hd.1 hd.2, ⟨b0, b0⟩, by rw [e]; exact ⟨b0, b0⟩, by rw [e]; decide, by rw [e], fun h => absurd h (by decide), ?_⟩
  rw [e]
  have z : ∀ k : Int, ab (0 - 0) <= aj k := fun k => by
    have : (0:Rat) - 0 = 0 := by exact gq73
    rw [this, cC]; exact Rat.le_of_lt (aq k)
  have v0 := du 0
  refine ⟨d9 ?_, d9 ?_⟩
  · rw [ge]
    show ab (val (0, 0) * val (0, 0) - val (0, 0) * val (0, 0) - val (0, 0)) <= _
    rw [v0]
    have : (0:Rat) * 0 - 0 * 0 - 0 = 0 - 0 := by exact gq71
    rw [this]; exact z _
  · rw [gd]
    show ab (val (0, 0) * val (0, 0) + val (0, 0) * val (0, 0) - val (0, 0)) <= _
    rw [v0]
    have : (0:Rat) * 0 + 0 * 0 - 0 = 0 - 0 := by exact gq70
    rw [this]; exact z _

theorem kS {z : Cc} {d : Int} (hd : 4 <= d /\ d <= 6) (h1 : PB z.1) (h2 : PB z.2) : RootOk z d := by
  by_cases hz : z.1.1 = 0 /\ z.2.1 = 0
  · have e1 := h1.z hz.1
    have e2 := h2.z hz.2
    have : z = ((0, 0), (0, 0)) := Prod.ext e1 e2
    rw [this]; exact l7 hd
  · exact root_ok hd h1 h2 hz

theorem rR {z : Cc} {d : Int} (hd : 4 <= d /\ d <= 6) (hy : z.2.1 ≠ 0) : aR (bu z) d 99 = bu (aR z d 99) := by
  have es : ag (bu z) = ag z := by
    unfold ag bu ah ao; simp [Int.neg_mul_neg]
  have eg : aJ (bu z) d 99 = aJ z d 99 := by
    unfold aJ; rw [es]; rfl
  have er : bi (bu z) d 99 = bi z d 99 := by
    unfold bi
    rw [eg]
    have : bL (bu z).2 = bL z.2 := dp z.2
    rw [this]
  have hn : bK z = false := by unfold bK; rw [decide_eq_false hy, Bool.and_false]
  have hn' : bK (bu z) = false := by
    unfold bK
    have : (bu z).2.1 ≠ 0 := by show -z.2.1 ≠ 0; exact oB hy
    rw [decide_eq_false this, Bool.and_false]
  unfold aR
  rw [hn, hn', eg, er]
  simp only [cond_false]
  have hx : (bu z).1.1 = z.1.1 := rfl
  have hy' : (bu z).2.1 = -z.2.1 := rfl
  rw [hx, hy']
  have flip : ∀ v : Re, af (-v.1) v.2 d 99 = ah (af v.1 v.2 d 99) := fun v => bX _ _ _ (by exact jD hd.1)
  generalize aJ z d 99 = G
  generalize bi z d 99 = s
  by_cases y : z.2.1 < 0
  · rw [decide_eq_true y, decide_eq_false (show ¬ -z.2.1 < 0 by exact fq84 y)]
    cases decide (z.1.1 < 0)
    · show (af G.1 G.2 d 99, af s.1 s.2 d 99) = (af G.1 G.2 d 99, ah (af (-s.1) s.2 d 99))
      rw [flip, bS]
    · show (af s.1 s.2 d 99, af G.1 G.2 d 99) = (af s.1 s.2 d 99, ah (af (-G.1) G.2 d 99))
      rw [flip, bS]
  · rw [decide_eq_false y, decide_eq_true (show -z.2.1 < 0 by exact fq91 y hy)]
    cases decide (z.1.1 < 0)
    · show (af G.1 G.2 d 99, af (-s.1) s.2 d 99) = (af G.1 G.2 d 99, ah (af s.1 s.2 d 99))
      rw [flip]
    · show (af s.1 s.2 d 99, af (-G.1) G.2 d 99) = (af s.1 s.2 d 99, ah (af G.1 G.2 d 99))
      rw [flip]
end

section
theorem sg_sq (n : Bool) (m : Nat) : sg n (m : Int) * sg n (m : Int) = ((m * m : Nat) : Int) := by
  cases n
  · show (m : Int) * m = _; push_cast; rfl
  · show -(m : Int) * -(m : Int) = _; rw [Int.neg_mul_neg]; push_cast; rfl

/-- the check of the logarithm serves every number of the law -/
theorem og {z : Cc} {d : Nat} (hd : 4 <= d /\ d <= 6) (h1 : fK z.1) (h2 : fK z.2) (hz : ¬ (z.1.1 = 0 /\ z.2.1 = 0)) : LogF d (ag z) /\ nd (ag z).1 <= 12 /\ 0 < (ag z).1 := by
  have key : ∀ m eo : Nat, ag z = ((m : Int), (eo : Int) - 4) -> j3 d m eo = true -> LogF d (ag z) /\ nd (ag z).1 <= 12 /\ 0 < (ag z).1 := by
    intro m eo e h
    obtain ⟨a, b, c⟩ := m9 hd h
    rw [e]
    exact ⟨a, b, by show (0:Int) < m; exact iQ c⟩
  have one : ∀ (m o : Nat) (n : Bool), ao (sg n m, (o : Int) - 2) (sg n m, (o : Int) - 2) = (((m * m : Nat) : Int), ((2 * o : Nat) : Int) - 4) := by
    intro m o n
    show (sg n m * sg n m, (o : Int) - 2 + ((o : Int) - 2)) = _
    rw [sg_sq]
    refine Prod.ext rfl ?_
    show (o : Int) - 2 + ((o : Int) - 2) = ((2 * o : Nat) : Int) - 4
    exact fq718
  obtain ⟨x, y⟩ := z
  rcases fo h1 with ex | ⟨mx, ox, n1, hx, mx0, ex⟩
  · rcases fo h2 with ey | ⟨my, oy, n2, hy, my0, ey⟩
    · exfalso
      have ex : x = (0, 0) := ex
      have ey : y = (0, 0) := ey
      subst ex ey
      exact hz ⟨rfl, rfl⟩
    · have ex : x = (0, 0) := ex
      have ey : y = (sg n2 my, (oy : Int) - 2) := ey
      subst ex ey
      refine key (my * my) (2 * oy) ?_ (rA hd hy)
      show bE (ao (0, 0) (0, 0)) (ao _ _) = _
      rw [one]; rfl
  · rcases fo h2 with ey | ⟨my, oy, n2, hy, my0, ey⟩
    · have ey : y = (0, 0) := ey
      have ex : x = (sg n1 mx, (ox : Int) - 2) := ex
      subst ex ey
      refine key (mx * mx) (2 * ox) ?_ (rA hd hx)
      show bE (ao _ _) (ao (0, 0) (0, 0)) = _
      rw [one]
      unfold bE
      have : (((mx * mx : Nat) : Int), ((2 * ox : Nat) : Int) - 4).1 ≠ 0 := by
        show ((mx * mx : Nat) : Int) ≠ 0
        have := Nat.mul_pos mx0 mx0; exact lm this
      rw [decide_eq_false this, cond_false]; rfl
    · have ey : y = (sg n2 my, (oy : Int) - 2) := ey
      have ex : x = (sg n1 mx, (ox : Int) - 2) := ex
      subst ex ey
      have px := Nat.mul_pos mx0 mx0
      have py := Nat.mul_pos my0 my0
      refine key _ _ ?_ (log_all hd hx hy)
      show bE (ao _ _) (ao _ _) = _
      rw [one, one]
      unfold bE
      rw [decide_eq_false (show ¬ (((mx * mx : Nat) : Int), ((2 * ox : Nat) : Int) - 4).1 = 0 by show ¬ ((mx * mx : Nat) : Int) = 0; exact lm px), cond_false,
        decide_eq_false (show ¬ (((my * my : Nat) : Int), ((2 * oy : Nat) : Int) - 4).1 = 0 by show ¬ ((my * my : Nat) : Int) = 0; exact lm py), cond_false]
      have eo : ((Nat.mul 2 (@Bool.rec (fun _ => Nat) oy ox (Nat.ble ox oy)) : Nat) : Int) - 4 = min (((2 * ox : Nat) : Int) - 4) (((2 * oy : Nat) : Int) - 4) := by
        cases hb : Nat.ble ox oy with
        | true => have := bx hb; show ((2 * ox : Nat) : Int) - 4 = _; exact fq890 this
        | false => have := fE hb; show ((2 * oy : Nat) : Int) - 4 = _; exact fq870 this
      refine Prod.ext ?_ eo.symm
      have p1 : (((2 * ox : Nat) : Int) - 4 - min (((2 * ox : Nat) : Int) - 4) (((2 * oy : Nat) : Int) - 4)).toNat = 2 * (ox - oy) := by exact fq833
      have p2 : (((2 * oy : Nat) : Int) - 4 - min (((2 * ox : Nat) : Int) - 4) (((2 * oy : Nat) : Int) - 4)).toNat = 2 * (oy - ox) := by exact fq834
      show ((mx * mx : Nat) : Int) * 10 ^ (((2 * ox : Nat) : Int) - 4 - min (((2 * ox : Nat) : Int) - 4) (((2 * oy : Nat) : Int) - 4)).toNat + ((my * my : Nat) : Int) * 10 ^ (((2 * oy : Nat) : Int) - 4 - min (((2 * ox : Nat) : Int) - 4) (((2 * oy : Nat) : Int) - 4)).toNat = ((mx * mx * 10 ^ (2 * (ox - oy)) + my * my * 10 ^ (2 * (oy - ox)) : Nat) : Int)
      rw [p1, p2]; push_cast; rfl

theorem kC {x : Re} (h : PB x) (h0 : x.1 ≠ 0) : -1 <= ak x /\ ak x <= 2 := by
  have a := dR (r := x) (a := -2) (b := 2) h0 (h.lo h0) h.hi
  exact fq352 a.1 a.2

/-- the angle of a number of the law: told rightly, or dO -/
structure TF (z : Cc) (d : Int) : Prop where
  ang : (z.2.1 = 0 /\ 0 < z.1.1 /\ bM z d = (0, 0)) \/ AngF d (bM z d) (val z.1) (val z.2)
  s : 0 < (bM z d).1 ↔ (0 < z.2.1 \/ (z.2.1 = 0 /\ z.1.1 < 0))
  ok : AtanOk z.2 z.1 (d + 10) 496
  rd : RdOk (aA z.2 z.1 (d + 10) 496).1 (aA z.2 z.1 (d + 10) 496).2 d 99

/-- the sign of a twice rounded value -/
theorem jN {V P d : Int} (hd : 1 <= d) (hP : P <= 60) (h : V ≠ 0) : 0 < (jh V P d).1 ↔ 0 < V := by
  have n1 := cG h
  have S := iy (m := V) (e := -P) (d := d + 10) (top := 496) h (by exact fq420 hd) (by exact fq204 n1 hP)
  have l := S.lead
  have nz := S.nz
  have n2 := cG nz
  have S2 := iy (m := (af V (-P) (d + 10) 496).1) (e := (af V (-P) (d + 10) 496).2) (d := d) (top := 99) nz hd (by
    have : ak (af V (-P) (d + 10) 496) = nd (af V (-P) (d + 10) 496).1 + (af V (-P) (d + 10) 496).2 := rfl
    exact fq681 n1 l.1 hP this)
  exact S2.sg.trans S.sg

theorem mE {V P d : Int} (hd : 4 <= d /\ d <= 6) (hP : 0 <= P /\ P <= 60) (h : nd V <= P + 3) : RdOk (af V (-P) (d + 10) 496).1 (af V (-P) (d + 10) 496).2 d 99 := by
  by_cases q : V = 0
  · subst q
    rw [aL _ _ _ (by exact ti hd.1)]
    exact ⟨by show nd 0 - d < 2300; rw [bY]; exact fq150 hd.1, by show (ai 0 0 d).2 + nd (ai 0 0 d).1 - 1 <= 99; rw [ck _ _ (by exact jD hd.1), bY]; decide⟩
  · have n1 := cG q
    have S := iy (m := V) (e := -P) (d := d + 10) (top := 496) q (by exact fq56 hd.1) (by exact fq204 n1 hP.2)
    have l := S.lead
    have n := S.nd
    have : ak (af V (-P) (d + 10) 496) = nd (af V (-P) (d + 10) 496).1 + (af V (-P) (d + 10) 496).2 := rfl
    exact jU (by exact iR hd.1) (by exact fq218 hd.2 n) (by exact fq689 this l.2 h) (by decide)

theorem iE {m : Int} {k : Nat} (h : m.natAbs <= 10 ^ k) : nd m <= k + 1 := by
  have : m.natAbs < 10 ^ (k + 1) := Nat.lt_of_le_of_lt h (Nat.pow_lt_pow_right (by decide) (by exact fq801))
  have := dj this
  exact fq326 this

/-- the half turns at the angle's places -/
theorem nh {d : Nat} (hd : 4 <= d /\ d <= 6) {q : Int} (hq : q = 1 \/ q = 2) : 0 < q * aI ((d : Int) + 10 + 10) / 2 /\ nd (q * aI ((d : Int) + 10 + 10) / 2) <= (d : Int) + 22 := by
  have T := tab2 (P := d + 20) (by exact wg hd.1) (by exact v8 hd.2)
  have e : (d : Int) + 10 + 10 = ((d + 20 : Nat) : Int) := by push_cast; exact fq75
  rw [e, T.pi]
  have p0 := T.p0
  have p1 := T.p1
  have p2 : 2 <= eY (d + 20) := by
    have c : d = 4 \/ d = 5 \/ d = 6 := by exact s9 hd.1 hd.2
    rcases c with rfl | rfl | rfl <;> decide +kernel
  have big : eY (d + 20) <= 10 ^ (d + 21) := by
    rw [show d + 21 = (d + 20) + 1 by exact fq777, Nat.pow_succ]; exact fq849 p1
  have n := iE (m := (eY (d + 20) : Int)) (k := d + 21) (by simpa using big)
  rcases hq with rfl | rfl
  · refine ⟨by exact fq761 p2, ?_⟩
    have : (1 * (eY (d + 20) : Int) / 2).natAbs <= 10 ^ (d + 21) := by lia -abstractProof
    have := iE this
    exact fq123 this
  · have : 2 * (eY (d + 20) : Int) / 2 = eY (d + 20) := by exact fq134
    rw [this]
    exact ⟨by exact iQ p0, by exact fq123 n⟩

theorem ang_zz {z : Cc} {d : Nat} (hd : 4 <= d /\ d <= 6) (h1 : fK z.1) (h2 : fK z.2) (x0 : z.1.1 ≠ 0) (y0 : z.2.1 ≠ 0) : AngZ d z := by
  obtain ⟨x, y⟩ := z
  rcases fo h1 with ex | ⟨mx, ox, n1, hx, mx0, ex⟩
  · have ex : x = (0, 0) := ex
    subst ex
    exact absurd rfl x0
  · rcases fo h2 with ey | ⟨my, oy, n2, hy, my0, ey⟩
    · have ey : y = (0, 0) := ey
      subst ey
      exact absurd rfl y0
    · have ey : y = (sg n2 my, (oy : Int) - 2) := ey
      have ex : x = (sg n1 mx, (ox : Int) - 2) := ex
      subst ex ey
      exact nB hd (ang_all hd hx hy) n1 n2

theorem mU (c : Bool) (V : Int) : nd (bif c then -V else V) = nd V := by cases c; rfl; exact fw V

theorem uB {z : Cc} {d : Nat} (hd : 4 <= d /\ d <= 6) (h1 : fK z.1) (h2 : fK z.2) (hz : ¬ (z.1.1 = 0 /\ z.2.1 = 0)) : TF z d := by
  have p1 := cX h1
  have p2 := cX h2
  have m1 := p1.m
  have m2 := p2.m
  have e1 := p1.e
  have e2 := p2.e
  have t60 : ∀ x : Re, x.1.natAbs <= 38 -> aC x.1 60 := fun x h => aC.mono (n := 2) (by unfold aC; exact pj h) (by decide)
  have hs : ∀ q : Int, q = 1 \/ q = 2 -> nd (bif decide (z.2.1 < 0) then -(q * aI ((d : Int) + 10 + 10) / 2) else q * aI ((d : Int) + 10 + 10) / 2) - ((d : Int) + 10) < 2300 /\
      (ai (bif decide (z.2.1 < 0) then -(q * aI ((d : Int) + 10 + 10) / 2) else q * aI ((d : Int) + 10 + 10) / 2) (-((d : Int) + 10 + 10)) ((d : Int) + 10)).2 + nd (ai (bif decide (z.2.1 < 0) then -(q * aI ((d : Int) + 10 + 10) / 2) else q * aI ((d : Int) + 10 + 10) / 2) (-((d : Int) + 10 + 10)) ((d : Int) + 10)).1 - 1 <= 496 := by
    intro q hq
    have n := (nh hd hq).2
    have n' := mU (decide (z.2.1 < 0)) (q * aI ((d : Int) + 10 + 10) / 2)
    exact ⟨by exact fq666 n' n, i7 (by exact vM) (by exact fq665 n' n) (by decide)⟩
  have ok : (z.2.1 ≠ 0 -> z.1.1 ≠ 0 -> ∃ P : Nat, bF z.2 z.1 ((d : Int) + 10) = P /\ P <= 46 /\ nd (bn z.2 z.1 ((d : Int) + 10)) <= P + 2) -> AtanOk z.2 z.1 ((d : Int) + 10) 496 := by
    intro ha
    refine ⟨fun h => hz ⟨h.2, h.1⟩, t60 _ m2, t60 _ m1, by exact fq130 e2.1 e2.2, by exact fq130 e1.1 e1.2, by exact fq818 hd.2, fun a b => ?_, fun a b => ?_, hs, fun a b => ?_⟩
    · have := kC p1 b; have := kC p2 a; exact fq498 ‹_› this.2
    · have := kC p1 b; have := kC p2 a; exact fq497 ‹_› this.1
    · obtain ⟨P, q1, q2, q3⟩ := ha a b
      have n' := mU (decide (z.2.1 < 0)) (bn z.2 z.1 ((d : Int) + 10))
      rw [q1]
      exact ⟨by exact fq515 n' q3 q2, i7 (by exact vM) (by exact fq664 n' q3) (by decide)⟩
  by_cases x0 : z.1.1 = 0
  · have y0 : z.2.1 ≠ 0 := fun q => hz ⟨x0, q⟩
    have hn := nh hd (q := 1) (.inl rfl)
    have e : aA z.2 z.1 ((d : Int) + 10) 496 = af (bif decide (z.2.1 < 0) then -(1 * aI ((d : Int) + 10 + 10) / 2) else 1 * aI ((d : Int) + 10 + 10) / 2) (-((d : Int) + 10 + 10)) ((d : Int) + 10) 496 := by
      unfold aA cJ
      rw [decide_eq_false y0, decide_eq_true x0]; rfl
    have n' := mU (decide (z.2.1 < 0)) (1 * aI ((d : Int) + 10 + 10) / 2)
    refine ⟨.inr (axis_up (x := z.1) (y := z.2) hd x0 y0), ?_, ok fun _ b => absurd x0 b, by rw [e]; exact mE (by exact ov hd.1 hd.2) (by exact fq262 hd.2) (by exact fq667 n' hn.2)⟩
    show 0 < (af (aA z.2 z.1 ((d : Int) + 10) 496).1 (aA z.2 z.1 ((d : Int) + 10) 496).2 d 99).1 ↔ _
    rw [e]
    refine (jN (P := (d : Int) + 10 + 10) (by exact fq69 hd.1) (by exact fq263 hd.2) ?_).trans ?_
    · by_cases q : z.2.1 < 0
      · rw [decide_eq_true q, cond_true]; exact fq137 hn.1
      · rw [decide_eq_false q, cond_false]; exact jb hn.1
    · by_cases q : z.2.1 < 0
      · rw [decide_eq_true q, cond_true]
        exact ⟨fun h => by exact fq635 h hn.1, fun h => by exact fq227 h q⟩
      · rw [decide_eq_false q, cond_false]
        exact ⟨fun h => by exact fq595 x0 hz q, fun h => by exact tB hn.1⟩
  · by_cases y0 : z.2.1 = 0
    · by_cases xp : 0 < z.1.1
      · have e : aA z.2 z.1 ((d : Int) + 10) 496 = (0, 0) := by
          unfold aA
          rw [decide_eq_true y0, decide_eq_true xp]; rfl
        have t0 : bM z d = (0, 0) := by
          show af (aA z.2 z.1 ((d : Int) + 10) 496).1 _ d 99 = _
          rw [e, aL _ _ _ (by exact fX)]
        refine ⟨.inl ⟨y0, xp, t0⟩, ?_, ok fun a _ => absurd y0 a, ?_⟩
        · rw [t0]
          exact ⟨fun h => absurd h (by decide), fun h => by exact fq623 h xp y0⟩
        · rw [e]
          exact ⟨by show nd 0 - (d : Int) < 2300; rw [bY]; exact fq250, by show (ai 0 0 (d : Int)).2 + nd (ai 0 0 (d : Int)).1 - 1 <= 99; rw [ck _ _ (by exact fX), bY]; decide⟩
      · have xn : z.1.1 < 0 := by exact fq490 xp x0
        have hn := nh hd (q := 2) (.inr rfl)
        have e : aA z.2 z.1 ((d : Int) + 10) 496 = af (2 * aI ((d : Int) + 10 + 10) / 2) (-((d : Int) + 10 + 10)) ((d : Int) + 10) 496 := by
          unfold aA cJ
          rw [decide_eq_true y0, decide_eq_false xp, decide_eq_false (show ¬ z.2.1 < 0 by exact fq157 y0)]; rfl
        refine ⟨.inr (tM (x := z.1) (y := z.2) hd xn y0), ?_, ok fun a _ => absurd y0 a, by rw [e]; exact mE (by exact ov hd.1 hd.2) (by exact fq262 hd.2) (by exact fq609 hn.2)⟩
        show 0 < (af (aA z.2 z.1 ((d : Int) + 10) 496).1 (aA z.2 z.1 ((d : Int) + 10) 496).2 d 99).1 ↔ _
        rw [e]
        refine (jN (P := (d : Int) + 10 + 10) (by exact fq69 hd.1) (by exact fq263 hd.2) (by exact jb hn.1)).trans ?_
        exact ⟨fun _ => .inr ⟨y0, xn⟩, fun _ => hn.1⟩
    · have A := ang_zz hd h1 h2 x0 y0
      obtain ⟨P, q1, q2, q3, q4⟩ := A.P
      have nn := A.nn
      have n4 := iE q4
      have e : aA z.2 z.1 ((d : Int) + 10) 496 = af (bif decide (z.2.1 < 0) then -bn z.2 z.1 ((d : Int) + 10) else bn z.2 z.1 ((d : Int) + 10)) (-(P : Int)) ((d : Int) + 10) 496 := by
        unfold aA
        rw [decide_eq_false y0, decide_eq_false x0, q1]; rfl
      have n' := mU (decide (z.2.1 < 0)) (bn z.2 z.1 ((d : Int) + 10))
      have tz := A.f.tz
      have et : bM z d = jh (bif decide (z.2.1 < 0) then -bn z.2 z.1 ((d : Int) + 10) else bn z.2 z.1 ((d : Int) + 10)) (P : Int) d := by
        show af (aA z.2 z.1 ((d : Int) + 10) 496).1 (aA z.2 z.1 ((d : Int) + 10) 496).2 d 99 = _
        rw [e]; rfl
      have a0 : bn z.2 z.1 ((d : Int) + 10) ≠ 0 := by
        intro q
        rw [et, q] at tz
        apply tz
        have : (bif decide (z.2.1 < 0) then -(0:Int) else 0) = 0 := by cases decide (z.2.1 < 0) <;> rfl
        rw [this]
        show (af (af 0 (-(P : Int)) ((d : Int) + 10) 496).1 _ d 99).1 = 0
        rw [aL _ _ _ (by exact lR), aL _ _ _ (by exact fX)]
      refine ⟨.inr A.f, ?_, ok fun _ _ => ⟨P, q1, q3, by exact fq325 n4⟩, by rw [e]; exact mE (by exact ov hd.1 hd.2) (by exact fq813 q3) (by exact fq510 n' n4)⟩
      rw [et]
      refine (jN (by exact fq69 hd.1) (by exact fq814 q3) ?_).trans ?_
      · by_cases q : z.2.1 < 0
        · rw [decide_eq_true q, cond_true]; exact oB a0
        · rw [decide_eq_false q, cond_false]; exact fq496 a0
      · by_cases q : z.2.1 < 0
        · rw [decide_eq_true q, cond_true]
          exact ⟨fun h => by exact fq636 h nn, fun h => by exact fq227 h q⟩
        · rw [decide_eq_false q, cond_false]
          exact ⟨fun h => by exact fq614 q y0, fun h => by exact fq142 nn a0⟩
end

section
theorem nW {v w : Re} {d a b a' b' : Int} (hd : 4 <= d /\ d <= 6) (nv : nd v.1 <= 16) (nw : nd w.1 <= 16) (hv : v.1 ≠ 0 -> a <= ak v /\ ak v <= b) (hw : w.1 ≠ 0 -> a' <= ak w /\ ak w <= b') (h1 : -49 < a + a') (h2 : b + b' < 48) :
    RdOk (ao v w).1 (ao v w).2 d 99 /\ Bd (af (ao v w).1 (ao v w).2 d 99) /\ Rd (val v * val w) d (af (ao v w).1 (ao v w).2 d 99) := by
  have t := aC.mul (bQ nv) (bQ nw)
  have n : nd (ao v w).1 <= 32 := fP t
  have l : (ao v w).1 ≠ 0 -> -50 < nd (ao v w).1 + (ao v w).2 /\ nd (ao v w).1 + (ao v w).2 < 50 := by
    intro h
    have h1 : v.1 ≠ 0 := fun z => h (by show v.1 * w.1 = 0; rw [z, Int.zero_mul])
    have h2 : w.1 ≠ 0 := fun z => h (by show v.1 * w.1 = 0; rw [z, Int.mul_zero])
    have a1 := hv h1
    have a2 := hw h2
    have b1 := dC h1
    have b2 := dC h2
    have c1 := di v
    have c2 := di w
    have e : ab (val (ao v w)) = ab (val v) * ab (val w) := by rw [d7, cU]
    have m1 := cf b1 b2 (Rat.le_of_lt (aq _)) (bj _)
    rw [<- aM, <- e] at m1
    have l1 := iH m1
    have m2 := cf (Rat.le_of_lt c1) (Rat.le_of_lt c2) (bj _) (Rat.le_of_lt (aq _))
    rw [<- aM, <- e] at m2
    have l2 := fm (x := ao v w) (k := ak v + ak w + 1) h (by have := ig (show ak v + ak w < ak v + ak w + 1 by exact fq156); exact gq3 this m2)
    have : ak (ao v w) = nd (ao v w).1 + (ao v w).2 := rfl
    exact fq712 hv hw ‹_› ‹_› h1 h2 l1 l2 this
  obtain ⟨x, y⟩ := nX (u := 0) hd (by exact fq166 n) l
  refine ⟨x, y, ?_⟩
  have R := gY (m := (ao v w).1) (e := (ao v w).2) (d := d) (top := 99) (by exact iR hd.1) (fun h => by have := l h; exact fq62 l h)
  have e : ((ao v w).1 : Rat) * aj (ao v w).2 = val v * val w := d7 v w
  rw [e] at R
  exact R

/-- a rounded wave -/
theorem qS {x : Re} {D a : Int} {r : Re} (hP : ∃ P : Nat, ac x D = P /\ 38 <= P /\ P <= 46) (h : ab (wv x D a) <= 2) (R : Rd (wv x D a) D r) (hD : D <= 16) : nd r.1 <= 16 /\ (r.1 ≠ 0 -> -46 <= ak r /\ ak r <= 3) := by
  obtain ⟨P, p1, p2, p3⟩ := hP
  refine ⟨by have := R.nd; exact fq215 hD this, fun hr => ?_⟩
  have u0 : wv x D a ≠ 0 := fun q => by rw [R.z q] at hr; exact hr rfl
  have lo : aj (-46) <= ab (wv x D a) := by
    unfold wv at u0 |-
    rw [p1] at u0 |-
    have m0 : bV x D a ≠ 0 := fun q => u0 (by rw [q]; exact iF _)
    have l := dC (x := (bV x D a, -(P : Int))) m0
    have n := cG m0
    have e : ak (bV x D a, -(P : Int)) = nd (bV x D a) + -(P : Int) := rfl
    have := aX (show -46 <= ak (bV x D a, -(P : Int)) - 1 by exact fq506 n e p3)
    have e2 : val (bV x D a, -(P : Int)) = (bV x D a : Rat) * aj (-(P : Int)) := rfl
    rw [e2] at l
    exact mn this l
  have a1 := iH (R.lo _ lo)
  have hi := R.hi 1 (by rw [iC]; exact gq153 h)
  have a2 := fm (x := r) (k := 3) hr (by have := ig (show (1:Int) < 3 by decide); exact gq3 this hi)
  exact fq367 a1 a2

/-- what the sine and cosine of the told angle are -/
structure SCF (z : Cc) (d : Int) : Prop where
  ws : SinOk (bM z d) (d + 10) 496
  wc : bC (bM z d) (d + 10) = false -> WaveOk (bM z d) (d + 10) 1 496
  bd : Bd (bM z d)
  sb : nd (aw (bM z d) (d + 10) 496).1 <= 16 /\ ((aw (bM z d) (d + 10) 496).1 ≠ 0 -> -46 <= ak (aw (bM z d) (d + 10) 496) /\ ak (aw (bM z d) (d + 10) 496) <= 3)
  cb : nd (aN (bM z d) (d + 10) 496).1 <= 16 /\ ((aN (bM z d) (d + 10) 496).1 ≠ 0 -> -46 <= ak (aN (bM z d) (d + 10) 496) /\ ak (aN (bM z d) (d + 10) 496) <= 3)
  norm : ab (val (aN (bM z d) (d + 10) 496) * val (aN (bM z d) (d + 10) 496) + val (aw (bM z d) (d + 10) 496) * val (aw (bM z d) (d + 10) 496) - 1) <= 1 / 1000000000
  dir : ab (val (aw (bM z d) (d + 10) 496) * val z.1 - val (aN (bM z d) (d + 10) 496) * val z.2) <= 101 / 100 * aj (1 - d) * (ab (val z.1) + ab (val z.2))
  pos : -(1 / 1000000000) * (ab (val z.1) + ab (val z.2)) <= val (aN (bM z d) (d + 10) 496) * val z.1 + val (aw (bM z d) (d + 10) 496) * val z.2

theorem t_lo {d : Int} (hd : d <= 6) : 1 / 100000 <= aj (1 - d) := by
  have := aX (show -5 <= 1 - d by exact fq172 hd)
  have n : aj (-5) * 100000 = 1 := bA 5
  exact gq222 n this
theorem t_hi {d : Int} (hd : 4 <= d) : aj (1 - d) <= 1 / 1000 := by
  have := aX (show 1 - d <= -3 by exact fq151 hd)
  rw [o9] at this; exact this

theorem scf_of {z : Cc} {d : Int} (hd : 4 <= d /\ d <= 6) (h : (z.2.1 = 0 /\ 0 < z.1.1 /\ bM z d = (0, 0)) \/ AngF d (bM z d) (val z.1) (val z.2)) : SCF z d := by
  have tl := t_lo hd.2
  rcases h with ⟨y0, x0, t0⟩ | A
  · have K := kJ (D := d + 10) (top := 496) (by exact pn hd.1 hd.2) (by decide)
    have e2 : aN (0, 0) (d + 10) 496 = (1, 0) := rfl
    have e4 : aw (0, 0) (d + 10) 496 = (0, 0) := by
      have : aw (0, 0) (d + 10) 496 = af 0 0 (d + 10) 496 := rfl
      rw [this, aL _ _ _ (by exact ti hd.1)]
    have v0 : val z.2 = 0 := bw.mpr y0
    have vx : 0 < val z.1 := cz.mpr x0
    have n1 : nd (1 : Int) = 1 := by decide +kernel
    refine ⟨by rw [t0]; exact K.s, by rw [t0]; exact K.c, by rw [t0]; exact ⟨by unfold aC; decide +kernel, by decide⟩, ?_, ?_, ?_, ?_, ?_⟩
    · rw [t0, e4]; exact ⟨by show nd 0 <= 16; rw [bY]; decide, fun h => absurd rfl h⟩
    · rw [t0, e2]; exact ⟨by show nd 1 <= 16; rw [n1]; decide, fun _ => by show -46 <= nd 1 + 0 /\ nd 1 + 0 <= 3; rw [n1]; decide⟩
    · rw [t0, e2, e4, fM, du]
      have : (1:Rat) * 1 + 0 * 0 - 1 = 0 := by exact gq21
      rw [this, cC]; exact gq75
    · rw [t0, e2, e4, fM, du, v0]
      have : (0:Rat) * val z.1 - 1 * 0 = 0 := by exact gq107
      rw [this, cC]
      have a0 := bj (val z.1)
      have := fy (show (0:Rat) <= 101 / 100 * aj (1 - d) by exact gq130 tl) (show 0 <= ab (val z.1) + 0 by exact gq126 a0)
      exact this
    · rw [t0, e2, e4, fM, du, v0, cC]
      have a0 := bj (val z.1)
      exact gq189 vx a0
  · have b := gA A.norm
    have hl := A.lead
    have hn := A.nd
    have ht : bC (bM z d) (d + 10) = false := by
      unfold bC
      rw [decide_eq_false A.tz, decide_eq_false (by exact fq188 hl.1 hd.1)]; rfl
    have np := cG A.tz
    have el : ak (bM z d) = nd (bM z d).1 + (bM z d).2 := rfl
    have S := uJ A.P (by exact po hd.1 : 14 <= d + 10) ht
    have C := wA A.P (by exact po hd.1 : 14 <= d + 10) ht
    have nm := sc_rd (by exact po hd.1 : 14 <= d + 10) A.norm S C
    rw [jV] at nm
    have Sr := S.rel
    have Cr := C.rel
    have tt := aX (show 1 - (d + 10) <= -13 by exact fq439 hd.1)
    have n13 : aj (-13) * 10000000000000 = 1 := bA 13
    have s1 : ab (val (aw (bM z d) (d + 10) 496) - wv (bM z d) (d + 10) 0) <= 1 / 10000000000000 := by
      have := cf (show aj (1 - (d + 10)) <= 1 / 10000000000000 by exact gq55 n13 tt) b.2 (bj _) (by exact gq25)
      exact gq52 Sr this
    have c1 : ab (val (aN (bM z d) (d + 10) 496) - wv (bM z d) (d + 10) 1) <= 1 / 10000000000000 := by
      have := cf (show aj (1 - (d + 10)) <= 1 / 10000000000000 by exact gq55 n13 tt) b.1 (bj _) (by exact gq25)
      exact gq52 Cr this
    have dir := A.dir
    have pos := A.pos
    refine ⟨jn (by exact fq56 hd.1) (fun _ => ⟨A.P, b.2⟩) (by exact wk hd.2 hn) (by exact fq243 hd.2 hl.1 hl.2 hn np el) (by exact fq600 el hl.2) (by decide), fun _ => iu (by exact fq56 hd.1) A.P b.1 (by exact wk hd.2 hn) (by exact fq243 hd.2 hl.1 hl.2 hn np el) (by decide), ⟨bQ (by exact fq99 hd.2 hn), by exact fq691 hd.2 hl.1 hl.2 hn np el⟩, qS A.P b.2 S (by exact fq173 hd.2), qS A.P b.1 C (by exact fq173 hd.2), nm, ?_, ?_⟩
    all_goals
      (generalize val (aw (bM z d) (d + 10) 496) = s at *
       generalize val (aN (bM z d) (d + 10) 496) = c at *
       generalize wv (bM z d) (d + 10) 0 = s0 at *
       generalize wv (bM z d) (d + 10) 1 = c0 at *
       generalize val z.1 = x at *
       generalize val z.2 = y at *
       have ax := bj x
       have ay := bj y
       clear A S C nm Sr Cr tt n13 b)
    · have m1 := i8 s1 (show ab x <= ab x by exact gq4)
      have m2 := i8 c1 (show ab y <= ab y by exact gq4)
      have g1 := dK ((s - s0) * x) (-((c - c0) * y))
      have g2 := dK ((s - s0) * x + -((c - c0) * y)) (s0 * x - c0 * y)
      rw [dA] at g1
      have e : (s - s0) * x + -((c - c0) * y) + (s0 * x - c0 * y) = s * x - c * y := by exact gq374
      rw [e] at g2
      have tq := Rat.mul_le_mul_of_nonneg_right tl (show 0 <= ab x + ab y by exact gq7 ax ay)
      have e3 : 101 / 100 * aj (1 - d) * (ab x + ab y) = 101 / 100 * (aj (1 - d) * (ab x + ab y)) := by exact gq159
      rw [e3]
      generalize aj (1 - d) * (ab x + ab y) = q at *
      exact gq399 ax ay m1 m2 g1 g2 dir tq
    · have m1 := i8 c1 (show ab x <= ab x by exact gq4)
      have m2 := i8 s1 (show ab y <= ab y by exact gq4)
      have g1 := dK ((c - c0) * x) ((s - s0) * y)
      have g2 := bB ((c - c0) * x + (s - s0) * y)
      have e : c * x + s * y = ((c - c0) * x + (s - s0) * y) + (c0 * x + s0 * y) := by exact gq375
      rw [e]
      exact gq389 pos ax ay m1 m2 g1 g2

/-- what the exponential of the told logarithm is -/
structure LEF (z : Cc) (d : Int) : Prop where
  we : ExpOk (dP (ag z) d) (d + 10) 496
  bd : Bd (dP (ag z) d)
  e0 : 0 < val (aQ (dP (ag z) d) (d + 10) 496)
  en : nd (aQ (dP (ag z) d) (d + 10) 496).1 <= 16
  el : -2 <= ak (aQ (dP (ag z) d) (d + 10) 496) /\ ak (aQ (dP (ag z) d) (d + 10) 496) <= 4

theorem lef_of {z : Cc} {d : Int} (hd : 4 <= d /\ d <= 6) (F : LogF d (ag z)) (lo : aj (-4) <= val (ag z)) (hi : val (ag z) < aj 5) : LEF z d := by
  have th := t_hi hd.1
  have tl := t_lo hd.2
  rw [mS] at lo
  rw [oa] at hi
  have N0 : 0 < val (ag z) := by exact gq38 lo
  have nr := F.near
  have tN := Rat.mul_le_mul_of_nonneg_right th (Rat.le_of_lt N0)
  have r1 : 4 * aj (1 - d) * val (ag z) = 4 * (aj (1 - d) * val (ag z)) := by exact gq16
  rw [r1] at nr
  obtain ⟨t, ht⟩ : ∃ t, dP (ag z) d = t := ⟨_, rfl⟩
  rw [ht] at nr
  have E1 := cR (val (aQ t (d + 10) 496) * val (aQ t (d + 10) 496) - val (ag z))
  have E2 := bB (val (aQ t (d + 10) 496) * val (aQ t (d + 10) 496) - val (ag z))
  have fin : ExpOk t (d + 10) 496 -> Bd t -> 0 <= val (aQ t (d + 10) 496) -> nd (aQ t (d + 10) 496).1 <= 16 -> LEF z d := by
    intro k1 k2 k3 k4
    generalize hE : aQ t (d + 10) 496 = E at *
    have l1 : 1 / 1000 <= val E := bW k3 (by exact gq304 E2 lo nr tN)
    have l2 : val E <= 999 := bW (by exact gq27) (by exact gq340 E1 hi nr tN)
    have E0 : 0 < val E := by exact gq129 l1
    have En : E.1 ≠ 0 := by have := cz.mp E0; exact jb this
    have L := dR (r := E) (a := -3) (b := 3) En (by rw [bJ E0, o9]; exact l1) (by rw [bJ E0, uR]; exact gq46 l2)
    exact ⟨by rw [ht]; exact k1, by rw [ht]; exact k2, by rw [ht, hE]; exact E0, by rw [ht, hE]; exact k4, by rw [ht, hE]; exact fq361 L.1 L.2⟩
  have Ft := F.t
  rw [ht] at Ft
  rcases Ft with z0 | ⟨t0, tn, tl1, tl2⟩
  · subst z0
    have K := kJ (D := d + 10) (top := 496) (by exact pn hd.1 hd.2) (by decide)
    have e1 : aQ (0, 0) (d + 10) 496 = (1, 0) := rfl
    have n1 : nd (1 : Int) = 1 := by decide +kernel
    exact fin K.e ⟨by unfold aC; decide +kernel, by decide⟩ (by rw [e1, fM]; exact gq77) (by rw [e1]; show nd 1 <= 16; rw [n1]; decide)
  · have G := F.e (by rw [ht]; exact t0)
    rw [ht] at G
    have np := cG t0
    have el : ak t = nd t.1 + t.2 := rfl
    have ok := jF (D := d + 10) (top := 496) (by exact pn hd.1 hd.2) G (by exact wk hd.2 tn) (by exact fq693 hd.2 tn tl1 tl2 np el) (by exact fq465 tl2) (by decide)
    have fp : 0 < ds t (d + 10) := by
      rcases Int.lt_or_le 0 (ds t (d + 10)) with q | q
      · exact q
      · exfalso
        have q0 : ds t (d + 10) = 0 := by have := G.f0; exact fq405 this q
        have e : aQ t (d + 10) 496 = (0, 0) := by
          unfold aQ
          have z3 : dY t 496 = false := decide_eq_false (by exact fq596 (show nd 496 = 3 by decide +kernel) tl2)
          rw [decide_eq_false t0, decide_eq_false (show ¬ ak t < -(d + 10) by exact fq188 tl1 hd.1), z3, q0]
          show af 0 _ (d + 10) 496 = _
          rw [aL _ _ _ (by exact ti hd.1)]
        rw [e, du] at E2 nr
        clear E1
        exact gq243 E2 lo nr tN
    have R := pu G fp (by exact po hd.1 : 14 <= d + 10) t0 (by exact fq351 tl1 tl2)
    have u0 : 0 < (ds t (d + 10) : Rat) * aj (dz t (d + 10) - ac t (d + 10)) := de.mpr fp
    exact fin ok ⟨bQ (by exact fq99 hd.2 tn), by exact fq694 hd.2 tn tl1 tl2 np el⟩ (Rat.le_of_lt (cz.mpr (R.pos u0))) (by have := R.nd; exact fq98 hd.2 this)

theorem om {z : Cc} : ab (val z.1) <= aj (aW z) /\ ab (val z.2) <= aj (aW z) := by
  have p := aq (aW z)
  constructor
  · by_cases q : z.1.1 = 0
    · rw [bw.mpr q, cC]; exact Rat.le_of_lt p
    · have := di z.1
      have := aX (fk z q)
      exact us ‹_› this
  · by_cases q : z.2.1 = 0
    · rw [bw.mpr q, cC]; exact Rat.le_of_lt p
    · have := di z.2
      have := aX (fj z q)
      exact us ‹_› this

theorem clog_ok {z : Cc} {d : Nat} (hd : 4 <= d /\ d <= 6) (h1 : fK z.1) (h2 : fK z.2) (hz : ¬ (z.1.1 = 0 /\ z.2.1 = 0)) : CLogOk z d 99 := by
  obtain ⟨F, n12, s0⟩ := og hd h1 h2 hz
  have SS := nO (cX h1) (cX h2)
  have T := uB hd h1 h2 hz
  obtain ⟨P, p1, p2, p3, p4⟩ := F.P
  have hn : bK z = false := by
    unfold bK
    by_cases q : z.1.1 = 0
    · rw [decide_eq_true q, decide_eq_false (fun r => hz ⟨q, r⟩)]; rfl
    · rw [decide_eq_false q]; rfl
  have e := SS.e
  have nV := iE p4
  have Tb := tab p2 p3
  refine ⟨oU (cX h1) (cX h2), hn, ⟨?_, ?_, ?_, ?_, ?_, ?_⟩, T.ok, ?_, T.rd⟩
  · rw [p1]; exact v9 p3
  · rw [p1]; exact uC Tb
  · exact bQ (by exact fq468 n12)
  · exact fq136 s0
  · exact fq364 e.1 e.2
  · show RdOk (j0 (ag z) ((d : Int) + 10)) (-ac (ag z) ((d : Int) + 10)) ((d : Int) + 10) 496
    rw [p1]
    exact jU (by exact vM) (by exact fq328 nV p3) (by exact fq327 nV) (by decide)
  · show RdOk (cE (dB (ag z) ((d : Int) + 10) 496)).1 (cE (dB (ag z) ((d : Int) + 10) 496)).2 d 99
    have el : dB (ag z) ((d : Int) + 10) 496 = af (j0 (ag z) ((d : Int) + 10)) (-ac (ag z) ((d : Int) + 10)) ((d : Int) + 10) 496 := rfl
    rw [el, p1]
    by_cases q : j0 (ag z) ((d : Int) + 10) = 0
    · rw [q, aL _ _ _ (by exact lR)]
      show RdOk (0 * 5) (0 - 1) d 99
      rw [Int.zero_mul]
      exact ⟨by rw [bY]; exact fq250, by rw [ck _ _ (by exact fX), bY]; decide⟩
    · have n1 := cG q
      have S := iy (m := j0 (ag z) ((d : Int) + 10)) (e := -(P : Int)) (d := (d : Int) + 10) (top := 496) q (by exact vM) (by exact fq315 n1 p3)
      have l := S.lead
      have n := S.nd
      generalize af (j0 (ag z) ((d : Int) + 10)) (-(P : Int)) ((d : Int) + 10) 496 = r at *
      have er : ak r = nd r.1 + r.2 := rfl
      have n5 : nd (r.1 * 5) <= nd r.1 + 1 := by
        have nn := gq r.1
        have t := aC.mul (bQ (m := r.1) (k := (nd r.1).toNat) (by exact fq160)) (show aC 5 1 by unfold aC; decide)
        have := fP t
        exact fq567 nn this
      show RdOk (r.1 * 5) (r.2 - 1) d 99
      exact jU (by exact fq69 hd.1) (by exact fq511 n n5 hd.2) (by exact fq698 er l.2 nV n5) (by decide)

theorem uZ (z : Cc) (d : Int) : bk z d 99 = (dP (ag z) d, bM z d) := rfl

theorem jZ {z : Cc} {d : Nat} (hd : 4 <= d /\ d <= 6) (h1 : fK z.1) (h2 : fK z.2) (hz : ¬ (z.1.1 = 0 /\ z.2.1 = 0)) : LogRightOk z d := by
  obtain ⟨F, n12, s0⟩ := og hd h1 h2 hz
  have SS := nO (cX h1) (cX h2)
  have T := uB hd h1 h2 hz
  have L := lef_of (z := z) (d := d) (by exact ov hd.1 hd.2) F (SS.lo hz) SS.hi
  have C := scf_of (z := z) (d := d) (by exact ov hd.1 hd.2) T.ang
  obtain ⟨a1, a2, a3⟩ := nW (d := d) (a := -2) (b := 4) (a' := -46) (b' := 3) (by exact ov hd.1 hd.2) L.en C.cb.1 (fun _ => L.el) C.cb.2 (by decide) (by decide)
  obtain ⟨b1, b2, b3⟩ := nW (d := d) (a := -2) (b := 4) (a' := -46) (b' := 3) (by exact ov hd.1 hd.2) L.en C.sb.1 (fun _ => L.el) C.sb.2 (by decide) (by decide)
  have sm : ∀ {m : Int}, nd m <= 16 -> ar m := fun h => (bQ h).small (by decide)
  have ce : CExpOk (bk z d 99) d 99 := ⟨L.we, C.ws, C.wc, sm L.en, sm C.sb.1, sm C.cb.1, a1, b1⟩
  refine ⟨clog_ok hd h1 h2 hz, by exact fq258 hd.1 hd.2, ⟨rh (cX h1), rh (cX h2)⟩, ⟨L.bd, C.bd⟩, T.s, ce, ⟨a2, b2⟩, ?_⟩
  obtain ⟨x1, x2⟩ := om (z := z)
  have th := t_hi (d := d) (by exact fq257 hd.1)
  have tl := t_lo (d := d) (by exact fq819 hd.2)
  have tp := aq (1 - (d : Int))
  have N0 : 0 < val z.1 * val z.1 + val z.2 * val z.2 := by
    rw [<- SS.v]
    have := SS.lo hz
    have := aq (-4)
    exact gq11 this ‹_›
  have nr := F.near
  rw [SS.v] at nr
  obtain ⟨g1, g2, g3, g4⟩ := log_alg tp th tl L.e0 (aq (aW z)) x1 x2 N0 nr C.norm C.dir C.pos
  have tol : 10 * (aj (1 - (d : Int)) * aj (aW z)) <= aj (aW z + max 1 (aW (bk z d 99)) - d + 1) := by
    have e : 10 * (aj (1 - (d : Int)) * aj (aW z)) = aj (1 - (d : Int) + aW z + 1) := by rw [bR, aM]; exact gq132
    rw [e]
    exact aX (by exact fq624)
  have M0 := Rat.mul_pos tp (aq (aW z))
  have key : ∀ {u x : Rat} {r : Re}, Rd u d r -> ab (u - x) <= 8 * (aj (1 - (d : Int)) * aj (aW z)) -> ab u <= 3 / 2 * aj (aW z) -> ab (val r - x) <= aj (aW z + max 1 (aW (bk z d 99)) - d + 1) := by
    intro u x r R k1 k2
    have rel := R.rel
    have m := Rat.mul_le_mul_of_nonneg_left k2 (Rat.le_of_lt tp)
    have e : aj (1 - (d : Int)) * (3 / 2 * aj (aW z)) = 3 / 2 * (aj (1 - (d : Int)) * aj (aW z)) := by exact gq218
    rw [e] at m
    have t3 := ab3 (val r) u x
    exact gq380 tol M0 k1 rel m t3
  exact ⟨d9 (key a3 g1 g3), d9 (key b3 g2 g4)⟩
end

section
theorem oK {x y : Re} {D : Int} (hD : 0 <= D) (hy : y.1 ≠ 0) : aA (ah y) x D 496 = ah (aA y x D 496) := by
  have hy' : (ah y).1 ≠ 0 := by show -y.1 ≠ 0; exact oB hy
  have flip : ∀ V e : Int, af (bif decide ((ah y).1 < 0) then -V else V) e D 496 = ah (af (bif decide (y.1 < 0) then -V else V) e D 496) := by
    intro V e
    rw [<- bX _ _ _ hD]
    congr 1
    show (bif decide (-y.1 < 0) then -V else V) = _
    by_cases q : y.1 < 0
    · rw [decide_eq_true q, decide_eq_false (show ¬ -y.1 < 0 by exact fq84 q)]; simp
    · rw [decide_eq_false q, decide_eq_true (show -y.1 < 0 by exact fq91 q hy)]; rfl
  unfold aA
  rw [decide_eq_false hy, decide_eq_false hy']
  simp only [cond_false]
  have pl : bF (ah y) x D = bF y x D := by unfold bF; rw [dD]
  have an : bn (ah y) x D = bn y x D := by
    unfold bn
    rw [pl]
    have e1 : (ah y).2 = y.2 := rfl
    have e2 : (ah y).1.natAbs = y.1.natAbs := Int.natAbs_neg y.1
    rw [e1, e2]
  cases decide (x.1 = 0) with
  | true =>
    simp only [cond_true]
    unfold cJ
    simp only []
    exact flip _ _
  | false =>
    simp only [cond_false]
    rw [an, pl]
    exact flip _ _

theorem u3 {z : Cc} {d : Int} (hd : 4 <= d /\ d <= 6) (hy : z.2.1 ≠ 0) : bk (bu z) d 99 = bu (bk z d 99) := by
  have es : ag (bu z) = ag z := by
    unfold ag bu ah ao; simp [Int.neg_mul_neg]
  rw [uZ, uZ, es]
  have e2 : bM (bu z) d = ah (bM z d) := by
    show af (aA (ah z.2) z.1 (d + 10) 496).1 (aA (ah z.2) z.1 (d + 10) 496).2 d 99 = _
    rw [oK (by exact ti hd.1) hy]
    exact bX _ _ _ (by exact jD hd.1)
  rw [e2]
  rfl

theorem mir1_ok {z : Cc} {d : Nat} (hd : 4 <= d /\ d <= 6) (h1 : fK z.1) (h2 : fK z.2) (h0 : z.2.1 ≠ 0) : MirOk1 z d := by
  have hz : ¬ (z.1.1 = 0 /\ z.2.1 = 0) := fun q => h0 q.2
  have h2' : fK (bu z).2 := gO h2
  have h1' : fK (bu z).1 := h1
  have h0' : (bu z).2.1 ≠ 0 := by show -z.2.1 ≠ 0; exact oB h0
  have hz' : ¬ ((bu z).1.1 = 0 /\ (bu z).2.1 = 0) := fun q => h0' q.2
  have hn : bK z = false := by unfold bK; rw [decide_eq_false h0, Bool.and_false]
  have hn' : bK (bu z) = false := by unfold bK; rw [decide_eq_false h0', Bool.and_false]
  have hd' : 4 <= (d : Int) /\ (d : Int) <= 6 := by exact ov hd.1 hd.2
  have R := kS hd' (cX h1) (cX h2)
  have R' := kS (z := bu z) hd' (cX h1') (cX h2')
  have E := jd hd' h1 h2
  have E' := jd (z := bu z) hd' h1' h2'
  have L := jZ hd h1 h2 hz
  have L' := jZ (z := bu z) hd h1' h2' hz'
  refine ⟨by exact fq258 hd.1 hd.2, R.w hn, R'.w hn', R.br, R'.br, ?_, E.ok, E'.ok, E.bd, E'.bd, ?_, L.w, L'.w, L.bt, L'.bt, ?_, jQ (nO (cX h1) (cX h2)) (by exact fq770 hd.1 hd.2) (by decide)⟩
  · rw [rR hd' h0]; exact gm _ _
  · rw [wu hd' h1 h2]; exact gm _ _
  · rw [u3 hd' h0]; exact gm _ _

theorem rW {d : Int} (hd : 1 <= d) : af 1 0 d 9 = (1, 0) := by
  have n1 : nd 1 = 1 := by decide +kernel
  rw [qZ (by decide) hd (by rw [n1]; decide)]
  unfold ai
  simp only []
  rw [n1, decide_eq_false (by exact fq425 hd), cond_false]
  exact fg (k := 0) (by decide) (by decide) 0

theorem uI (D top : Int) (hD : 0 <= D) : aw (0, 0) D top = (0, 0) := by
  have : aw (0, 0) D top = af 0 0 D top := rfl
  rw [this, aL _ _ _ hD]
theorem rU (D top : Int) (hD : 0 <= D) : aP (0, 0) D top = (0, 0) := by
  have : aP (0, 0) D top = af 0 0 D top := rfl
  rw [this, aL _ _ _ hD]
theorem wz (D top : Int) : aN (0, 0) D top = (1, 0) := rfl
theorem tJ (D top : Int) : bf (0, 0) D top = (1, 0) := rfl
theorem wn (D top : Int) : aQ (0, 0) D top = (1, 0) := rfl

theorem law_all : LAW := by
  refine ⟨fun z d h1 h2 hd1 hd2 => ?_⟩
  obtain ⟨d, rfl⟩ : ∃ dn : Nat, d = dn := ⟨d.toNat, by exact fq152 hd1⟩
  have hd : 4 <= d /\ d <= 6 := by exact fq249 hd2 hd1
  have hd' : 4 <= (d : Int) /\ (d : Int) <= 6 := by exact fq441 hd1 hd2
  have E := jd hd' h1 h2
  have E' := jd (z := fi z) hd' (gO h1) (gO h2)
  -- at dO, with the narrow top
  have K := kJ (D := (d : Int) + 10) (top := 136) (by exact pn hd1 hd2) (by decide)
  have r1 := rW (d := (d : Int)) (by exact iR hd1)
  have r0 := aL 0 (d : Int) 9 (by exact fX)
  have n1 : nd 1 = 1 := by decide +kernel
  have s0 := uI ((d : Int) + 10) (ap 9) (by exact lR)
  have h0 := rU ((d : Int) + 10) (ap 9) (by exact lR)
  have c0 := wz ((d : Int) + 10) (ap 9)
  have g0 := tJ ((d : Int) + 10) (ap 9)
  have e0 := wn ((d : Int) + 10) (ap 9)
  have o1 : RdOk 1 0 (d : Int) 9 := jU (by exact iR hd1) (by rw [n1]; decide) (by rw [n1]; decide) (by decide)
  have o0 : RdOk 0 0 (d : Int) 9 := jU (by exact iR hd1) (by rw [bY]; decide) (by rw [bY]; decide) (by decide)
  have sm1 : ar 1 := by show (1 : Int).natAbs < 2 ^ 8000; decide +kernel
  have sm0 : ar 0 := by show (0 : Int).natAbs < 2 ^ 8000; decide +kernel
  refine ⟨by exact vP hd1 hd2, dist_ok hd' (cX h1) (cX h2), kS hd' (cX h1) (cX h2), fun hn => ?_, fun hn => ?_, E.ok, E'.ok, E.bd, E'.bd, exp_law hd' h1 h2, ut hd' h1 h2, mir0_ok hd' h1 h2, mir1_ok hd h1 h2, l7 hd', ?_, ?_, ?_, ?_, ?_⟩
  · refine jZ hd h1 h2 ?_
    rintro ⟨p, q⟩
    unfold bK at hn
    rw [decide_eq_true p, decide_eq_true q] at hn
    cases hn
  · unfold bK at hn
    simp only [Bool.and_eq_true, decide_eq_true_eq] at hn
    exact Prod.ext ((cX h1).z hn.1) ((cX h2).z hn.2)
  · refine ⟨K.s, K.c, K.h, ?_, ?_, ?_, ?_, ?_, ?_, ?_, ?_⟩
    · rw [s0]; exact sm0
    · rw [c0]; exact sm1
    · rw [h0]; exact sm0
    · rw [g0]; exact sm1
    · rw [s0, g0]; exact o0
    · rw [c0, h0]; exact o0
    · rw [c0, g0]; exact o1
    · rw [s0, h0]; exact o0
  · refine ⟨K.e, K.s, K.c, ?_, ?_, ?_, ?_, ?_⟩
    · rw [e0]; exact sm1
    · rw [s0]; exact sm0
    · rw [c0]; exact sm1
    · rw [e0, c0]; exact o1
    · rw [e0, s0]; exact o0
  · show cj (ao (aw (0, 0) ((d : Int) + 10) (ap 9)) (bf (0, 0) ((d : Int) + 10) (ap 9)), ao (aN (0, 0) ((d : Int) + 10) (ap 9)) (aP (0, 0) ((d : Int) + 10) (ap 9))) d 9 = _
    rw [s0, g0, c0, h0]
    show (af 0 0 (d : Int) 9, af 0 0 (d : Int) 9) = _
    rw [r0]
  · show cj (ao (aN (0, 0) ((d : Int) + 10) (ap 9)) (bf (0, 0) ((d : Int) + 10) (ap 9)), cZ (ao (aw (0, 0) ((d : Int) + 10) (ap 9)) (aP (0, 0) ((d : Int) + 10) (ap 9)))) d 9 = _
    rw [s0, g0, c0, h0]
    show (af 1 0 (d : Int) 9, af 0 0 (d : Int) 9) = _
    rw [r0, r1]
  · show cj (ao (aQ (0, 0) ((d : Int) + 10) (ap 9)) (aN (0, 0) ((d : Int) + 10) (ap 9)), ao (aQ (0, 0) ((d : Int) + 10) (ap 9)) (aw (0, 0) ((d : Int) + 10) (ap 9))) d 9 = _
    rw [e0, c0, s0]
    show (af 1 0 (d : Int) 9, af 0 0 (d : Int) 9) = _
    rw [r0, r1]
end

section
set_option maxHeartbeats 8000000

noncomputable abbrev gOf (prog : Program) (w : World) (loose : List Str) (mean : ExcName -> Option Value) (mg mb : Str -> Option Value) (h : Heap) (T : Top hZ loose mean mg mb h) : G := ⟨prog, w, hZ, loose, mean, mg, mb, h, T⟩

section
variable {prog : Program} {w : World} {loose : List Str} {mean : ExcName -> Option Value} {mg mb : Str -> Option Value} {h : Heap} {P : Params}
theorem bi_of (T : Top hZ loose mean mg mb h) (KX : (hkK P).In h) : Bi (gOf prog w loose mean mg mb h T) := by
  refine ⟨⟨mg_none_of KX T.g (by kernel_rfl), (T.builtins _ (by decide)).trans (by kernel_rfl)⟩, ⟨mg_none_of KX T.g (by kernel_rfl), (T.builtins _ (by decide)).trans (by kernel_rfl)⟩, ⟨mg_none_of KX T.g (by kernel_rfl), (T.builtins _ (by decide)).trans (by kernel_rfl)⟩, ⟨mg_none_of KX T.g (by kernel_rfl), (T.builtins _ (by decide)).trans (by kernel_rfl)⟩, ⟨mg_none_of KX T.g (by kernel_rfl), (T.builtins _ (by decide)).trans (by kernel_rfl)⟩, ⟨mg_none_of KX T.g (by kernel_rfl), (T.builtins _ (by decide)).trans (by kernel_rfl)⟩, ⟨mg_none_of KX T.g (by kernel_rfl), (T.builtins _ (by decide)).trans (by kernel_rfl)⟩⟩

noncomputable def recAt (i : Nat) : DefRec := ⟨(au i).name, (au i).params, (au i).body, (au i).scope, (rQ PySem.Challenge.pw_pf0129_01.main.body i).pos⟩
theorem recs_eq : (recsOf hZ).take 61 = idxK.map recAt := by kernel_rfl
theorem defs_of (T : Top hZ loose mean mg mb h) (i : Nat) (hi : i ∈ idxK) : gz (gOf prog w loose mean mg mb h T) (au i) :=
  T.fn (recAt i) (List.mem_of_mem_take (i := 61) (by rw [recs_eq]; exact List.mem_map_of_mem hi))
theorem ok_all : (idxK.all fun i => me (au i)) = true := by decide +kernel

theorem hh_of (T : Top hZ loose mean mg mb h) (KX : (hkK P).In h) : HH (gOf prog w loose mean mg mb h T) := by
  refine ⟨bi_of T KX, fun i hi => defs_of T i (List.contains_iff_mem.mp hi), fun i hi => List.all_eq_true.mp ok_all i (List.contains_iff_mem.mp hi), ?_, ?_, ?_, ?_⟩
  · exact ⟨.ref 47, mg_of KX T.g (by kernel_rfl), 47, [.int 0 236, .int 0 237], rfl, ⟨{ cls := .type "tuple", data := .seq #[.int 0 236, .int 0 237] }, KX 47 _ (by kernel_rfl), rfl, 0, rfl⟩, ⟨_, _, rfl, ⟨_, rfl⟩, _, _, rfl, ⟨_, rfl⟩, rfl⟩⟩
  · exact ⟨.int 10 331, mg_of KX T.g (by kernel_rfl), _, rfl⟩
  · exact ⟨.int 10 666, mg_of KX T.g (by kernel_rfl), _, rfl⟩
  · exact ⟨.int 99 783, mg_of KX T.g (by kernel_rfl), _, rfl⟩

theorem ns_get {K : Frag} {a : Addr} {c : Value} {d : Option Addr} {es : Array DictEntry} {n : Nat} {sl : Array (Option Value)} {x : Str} {v : Value} (X : K.In h) (hl : K.lookup a = some ⟨c, d, .dict es n, sl⟩) {m : Str -> Option Value} (hn : h.Ns a m) (e : nsFind es x = some v) : m x = some v := by
  obtain ⟨o, es', ep, ho, hd, _, hf⟩ := hn
  have := X _ _ hl
  rw [ho] at this
  cases this
  cases hd
  exact (hf x).symm.trans e

theorem ns30 (KX : (hkK P).In h) : h.Ns 30 (h.nsMap 30) := .of_isNs (isNs_of_in KX (by kernel_rfl))
theorem ns43 (KX : (hkK P).In h) : h.Ns 43 (h.nsMap 43) := .of_isNs (isNs_of_in KX (by kernel_rfl))

theorem rf_of (T : Top hZ loose mean mg mb h) (KX : (hkK P).In h) : RF (gOf prog w loose mean mg mb h T) 44 := by
  refine ⟨mg_of KX T.g (by kernel_rfl), ⟨mg_none_of KX T.g (by kernel_rfl), (T.builtins _ (by decide)).trans (by kernel_rfl)⟩, ?_⟩
  refine ⟨⟨"RunFault", "RunFault", 31, 43, [.ref 31], [], [], false, none, none, some (.ref 35), none, some (.str "RunFault" 218), some (.str "RunFault" 226), some (.bool true), .type "type", none,
    { name := "F77Error", bases := [.type "Exception"], mro := [.ref 31, .type "Exception", .type "BaseException", .type "object"], ns := 30, qualname := "F77Error", subclasses := [.ref 44] },
    #[some (.ref 15), none, some (.str "F77Error" 189), some (.str "F77Error" 197), some (.builtin "Exception.__new__"), some (.bool true)], h.nsMap 43, h.nsMap 30, 28,
    { cls := .type "function", data := .func (fnOf "__init__" "F77Error.__init__" dI.params dI.body dI.scope .none .none .none (.str "f77.errors" 187) none (.ref 27) .none) }, "F77Error.__init__", .none, .str "f77.errors" 187, none, .ref 27, .none⟩, ⟨⟨?_, ns43 KX, ?_, ns30 KX⟩, ns_none_of KX (ns43 KX) (by kernel_rfl), ns_none_of KX (ns43 KX) (by kernel_rfl), ns_none_of KX (ns43 KX) (by kernel_rfl), ns_get KX (a := 30) rfl (ns30 KX) (by kernel_rfl), ns_none_of KX (ns30 KX) (by kernel_rfl), ns_none_of KX (ns30 KX) (by kernel_rfl), KX 28 _ (by kernel_rfl), rfl, rfl, codeRec_of KX (by kernel_rfl)⟩⟩
  · exact KX 44 _ (by kernel_rfl)
  · exact KX 31 _ (by kernel_rfl)
end
end

section
set_option maxHeartbeats 8000000
local macro_rules | `(tactic| k_qdec) => `(tactic| decide +kernel)
theorem fin (W : LAW) : PySem.Challenge.rw_pf0129_01.Holds := by
  w_on
  refine holds_law saidK fun said => ?_
  refine holds_open (q := hZ) (loose := []) (Xt := xtK) (XP := XL hZ []) (Yf := Hook.obs HK) (Ya := Hook.val HK) (YP := Hook.says HK) (N := 5270) leftK (Hook.of HK) (Hook.keeps HK) (fun s e => xl_of s (Bool.and_eq_true_iff.mp e).1) XL.keeps (by rfl) (by rfl) (by rfl) (fun s e => recFacts_of (Bool.and_eq_true_iff.mp e).2) (by rfl) (by first | assumption | decide +kernel) (by decide +kernel) ⟨rfl, rfl, rfl, rfl, rfl, by decide +kernel⟩ ?hw ?hc
  case hw => w_witness2
  case hc =>
  k_go0
  have T' := ‹Top hZ _ _ _ _ _›
  have KX' := ‹Frag.In _ _›
  have F' := ‹Fr _ _ _ _›
  have L' := ‹Heap.IsList _ _ _›
  have I' := ‹IntsAre _ _›
  have hg' := ‹Shared.gens _ = #[]›
  have L2 : Heap.IsList _ _ _ := let ⟨o, e, r⟩ := L'; ⟨o, F'.keep _ _ e, r⟩
  refine law_run (g := gOf _ _ _ _ _ _ _ T') (hh_of T' KX') W (fun d _ _ => kT (hh_of T' KX') (rf_of T' KX') d) ?h1 ?h2 ?h3 ?h4 ?h5 F' rfl L2 I' ?h7 ?h8
  case h1 => exact Nat.le_of_ble_eq_true rfl
  case h2 => exact Nat.le_of_ble_eq_true rfl
  case h3 => rfl
  case h4 => exact ⟨_, rfl, Heap.FunFrames.cons (by intro h; cases h) rfl F'.ns (Heap.get?_none_of_le F'.above) trivial⟩
  case h5 => exact ⟨_, _, rfl⟩
  case h7 => lia -abstractProof
  case h8 =>
    intro h2 tk2 kp
    show GoodW _ _ _ _ _ (.ok (.ret (.bool true))) _
    refine ⟨.inl ⟨.bool true, .bool true, [], rfl, raisesW_false ?hn, .bool true, ?hp, unshared_nil⟩, kp, rfl, hg'⟩
    case hn => wrow_none_raised
    case hp => kc_post
end

end Mine

theorem PySem.Challenge.cw_pf0129_01_holds : PySem.Challenge.rw_pf0129_01.Holds :=
  Mine.fin Mine.law_all
