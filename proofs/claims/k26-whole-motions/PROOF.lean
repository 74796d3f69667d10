import PyProof.Rows.All
import Wide.All
import OpenK.AllK
import Wide.FinOn
import HandS.Defaults
import HandS.HeadHook4
import KE.KStateDown
import HandS.ForExc
import HandS.Head0
import HandS.Head1
import HandS.Head2
import HandS.Head3
import HandS.HeadEnd
import HandS.HeadHook1
import HandS.HeadHook2
import HandS.HeadHook3
import HandS.HeadWalk
import HandS.ForMost
import HandS.Flow
import HandS.Gcd
import HandS.Wide
import HandS.WideBits
import HandS.IsInst
import HandS.Style
import KE.KDictKeyed
import KE.KeyNested
import HandS.TupSets
import HandS.TupAny
import HandS.TupLe
import KE.SortData
import HandS.Zip
import KE.KDictZip
import HandS.SetKeys
import HandS.ExcValue
import KE.KDictWalk
import KE.KDictSum
import HandS.Lambda
import HandS.ExcOwn
import HandS.ExcIs
import HandS.EndTab
import PySem.Challenge.RW_screwshop_k26_whole_motions_that_lead_ba
set_option Elab.async false
set_option linter.all false
set_option autoImplicit false
set_option maxRecDepth 100000
set_option exponentiation.threshold 500000
set_option maxHeartbeats 1000000
namespace Sh
open PySem PySem.Spec PyProof.Rows L2
/-- the i-th statement of the program's top -/
def top (i : Nat) : Stmt := PySem.Challenge.pw_screwshop_k26_whole_motions_that_lead_ba.main.body.getD i (.Pass ⟨0, 0, 0, 0⟩)
end Sh
set_option maxHeartbeats 1000000
namespace Sh
open PySem PySem.Spec PyProof.Rows L2
namespace HD
def dd (x : Str) (i : Nat) : He.DefD := ⟨(x, none), x, x, defArgs (top i), defBody (top i), defScope (top i), [], []⟩
def fn : List He.DefD := [
  dd "part_of" 6,
  dd "part_plus" 7,
  dd "part_minus" 8,
  dd "part_less" 9,
  dd "part_times" 10,
  dd "part_over" 11,
  dd "part_size" 12,
  dd "is_below" 13,
  dd "at_most" 14,
  dd "is_whole" 15,
  dd "wholes_in" 16,
  dd "round_by" 17,
  dd "angle_of" 18,
  dd "common_part" 19,
  dd "tupled" 21,
  dd "is_number" 22,
  dd "is_tuple_of" 23,
  dd "is_fraction" 24,
  dd "is_angle" 25,
  dd "is_point" 26,
  dd "is_motion_shape" 27,
  dd "set_of" 28,
  dd "lead_line" 30,
  dd "line_moved" 31,
  dd "line_mirrored" 32,
  dd "band_moved" 34,
  dd "sort_of" 36,
  dd "by_sorts" 37,
  dd "slid" 38,
  dd "slides_for" 39,
  dd "goes_whole" 40,
  dd "undone_times" 41,
  dd "met_rules" 42,
  dd "place_by" 43,
  dd "rules_by" 44,
  dd "motion_by" 45,
  dd "one_of_each" 46,
  dd "found_motion" 47,
  dd "mirrored_band" 48,
  dd "alike_bands" 49,
  dd "told_motion" 50,
  dd "motion_between" 51,
  dd "is_motion_between" 52,
  dd "mirror_between" 53,
  dd "is_mirror_between" 54,
  dd "_law_box" 56,
  dd "_law_take" 57,
  dd "_law_cells" 58,
  dd "_law_of" 59,
  dd "_law_lists" 60,
  dd "_law_same" 61,
  dd "_law_is_number" 62,
  dd "_law_put" 63,
  dd "_law_common" 64,
  dd "_law_part" 65,
  dd "_law_sum" 66,
  dd "_law_minus" 67,
  dd "_law_less" 68,
  dd "_law_prod" 69,
  dd "_law_quot" 70,
  dd "_law_times" 71,
  dd "_law_size" 72,
  dd "_law_floor" 73,
  dd "_law_round" 74,
  dd "_law_angle" 75,
  dd "_law_is_part" 76,
  dd "_law_is_angle" 77,
  dd "_law_is_point" 78,
  dd "_law_fraction" 79,
  dd "_law_drawn_angle" 80,
  dd "_law_drawn_lead" 81,
  dd "_law_lead_line" 82,
  dd "_law_line" 83,
  dd "_law_moved_line" 84,
  dd "_law_mirrored_line" 85,
  dd "_law_motion" 86,
  dd "_law_band" 87,
  dd "_law_sort" 88,
  dd "_law_slid" 89,
  dd "_law_slides" 90,
  dd "_law_whole" 91,
  dd "_law_gcd_part" 92,
  dd "_law_fits" 93,
  dd "_law_joint" 94,
  dd "_law_choices" 95,
  dd "_law_any_motion" 96,
  dd "_law_moved_band" 97,
  dd "_law_mirrored_band" 98,
  dd "_law_no" 99,
  dd "_law_leads" 100,
  dd "_law_by_hand_right" 101,
  dd "_law_bent" 102,
  dd "_law_pair_right" 103,
  dd "_law_mirror_right" 104,
  dd "_law_right" 105,
  dd "law" 106]
def fa : List He.Fa := [
  .glo "part_of",
  .glo "part_plus",
  .glo "part_minus",
  .glo "part_less",
  .glo "part_times",
  .glo "part_over",
  .glo "part_size",
  .glo "is_below",
  .glo "at_most",
  .glo "is_whole",
  .glo "wholes_in",
  .glo "round_by",
  .glo "angle_of",
  .glo "common_part",
  .glo "tupled",
  .glo "is_number",
  .glo "is_tuple_of",
  .glo "is_fraction",
  .glo "is_angle",
  .glo "is_point",
  .glo "is_motion_shape",
  .glo "set_of",
  .glo "lead_line",
  .glo "line_moved",
  .glo "line_mirrored",
  .glo "band_moved",
  .glo "sort_of",
  .glo "by_sorts",
  .glo "slid",
  .glo "slides_for",
  .glo "goes_whole",
  .glo "undone_times",
  .glo "met_rules",
  .glo "place_by",
  .glo "rules_by",
  .glo "motion_by",
  .glo "one_of_each",
  .glo "found_motion",
  .glo "mirrored_band",
  .glo "alike_bands",
  .glo "told_motion",
  .glo "motion_between",
  .glo "is_motion_between",
  .glo "mirror_between",
  .glo "is_mirror_between",
  .glo "_law_box",
  .glo "_law_take",
  .glo "_law_cells",
  .glo "_law_of",
  .glo "_law_lists",
  .glo "_law_same",
  .glo "_law_is_number",
  .glo "_law_put",
  .glo "_law_common",
  .glo "_law_part",
  .glo "_law_sum",
  .glo "_law_minus",
  .glo "_law_less",
  .glo "_law_prod",
  .glo "_law_quot",
  .glo "_law_times",
  .glo "_law_size",
  .glo "_law_floor",
  .glo "_law_round",
  .glo "_law_angle",
  .glo "_law_is_part",
  .glo "_law_is_angle",
  .glo "_law_is_point",
  .glo "_law_fraction",
  .glo "_law_drawn_angle",
  .glo "_law_drawn_lead",
  .glo "_law_lead_line",
  .glo "_law_line",
  .glo "_law_moved_line",
  .glo "_law_mirrored_line",
  .glo "_law_motion",
  .glo "_law_band",
  .glo "_law_sort",
  .glo "_law_slid",
  .glo "_law_slides",
  .glo "_law_whole",
  .glo "_law_gcd_part",
  .glo "_law_fits",
  .glo "_law_joint",
  .glo "_law_choices",
  .glo "_law_any_motion",
  .glo "_law_moved_band",
  .glo "_law_mirrored_band",
  .glo "_law_no",
  .glo "_law_leads",
  .glo "_law_by_hand_right",
  .glo "_law_bent",
  .glo "_law_pair_right",
  .glo "_law_mirror_right",
  .glo "_law_right",
  .glo "law",
  .free "abs",
  .free "int",
  .free "len",
  .free "isinstance",
  .free "tuple",
  .free "list",
  .free "sorted",
  .free "set",
  .free "all",
  .free "zip",
  .free "enumerate",
  .free "range",
  .free "dict",
  .free "bool",
  .free "str",
  .free "ValueError",
  .exc "NoPaper",
  .glo "NoPaper",
  .exm "NoPaper" "NoPaper" true]
def exC (K : PySem.W.Frag) (C : Addr) : Bool := He.eqO (PySem.W.findIn K (.ref C) "__getattribute__") (some (some (.builtin "BaseException.__getattribute__"))) && (He.eqO (PySem.W.findIn K (.ref C) "__getattr__") (some none) && (PySem.W.hasDictIn K C && (He.eqO (PySem.W.findIn K (.ref C) "__class__") (some (some (.builtin "object.__class__"))) && (He.eqO (PySem.W.specialIn K (.builtin "object.__class__") "__get__") (some (some (.builtin "getset_descriptor.__get__"))) && (decide (PySem.W.takesIn K (.builtin "object.__class__") = some true) && (decide (PySem.W.mroIn K C (.type "object") = some true) && decide (PySem.W.kitOne K (.ref C) (.type "ValueError") = some true)))))))
def exT (K : PySem.W.Frag) : Bool := !decide ((He.cT K ("_law_pair_right", none)).2 = (He.cT K ("_law_mirror_right", none)).2)
def ex (K : PySem.W.Frag) : Bool := He.eqO (PySem.W.nsIn K mainGlobals "gcd") (some (some (.builtin "math.gcd"))) && (He.tupB K "NONE" [.int 0, .int 1] && (He.eqO (PySem.W.nsIn K mainGlobals "NONE") (some (some (.ref (He.ga K "NONE")))) && (He.tupB K "FULL" [.int 1, .int 1] && (He.eqO (PySem.W.nsIn K mainGlobals "FULL") (some (some (.ref (He.ga K "FULL")))) && (exC K (He.ga K "NoPaper") && exT K)))))
def tf : List He.Defn := [("_law_pair_right", none), ("_law_mirror_right", none)]
def names0 : List PySem.Str := ["NoPaper", "NONE", "FULL", "part_of", "part_plus", "part_minus", "part_less", "part_times", "part_over", "part_size", "is_below", "at_most", "is_whole", "wholes_in", "round_by", "angle_of", "common_part", "tupled", "is_number", "is_tuple_of"]
def names1 : List PySem.Str := ["is_fraction", "is_angle", "is_point", "is_motion_shape", "set_of", "lead_line", "line_moved", "line_mirrored", "band_moved", "sort_of", "by_sorts", "slid", "slides_for", "goes_whole", "undone_times", "met_rules", "place_by", "rules_by", "motion_by", "one_of_each"]
def names2 : List PySem.Str := ["found_motion", "mirrored_band", "alike_bands", "told_motion", "motion_between", "is_motion_between", "mirror_between", "is_mirror_between", "_law_box", "_law_take", "_law_cells", "_law_of", "_law_lists", "_law_same", "_law_is_number", "_law_put", "_law_common", "_law_part", "_law_sum", "_law_minus"]
def names3 : List PySem.Str := ["_law_less", "_law_prod", "_law_quot", "_law_times", "_law_size", "_law_floor", "_law_round", "_law_angle", "_law_is_part", "_law_is_angle", "_law_is_point", "_law_fraction", "_law_drawn_angle", "_law_drawn_lead", "_law_lead_line", "_law_line", "_law_moved_line", "_law_mirrored_line", "_law_motion", "_law_band"]
def names4 : List PySem.Str := ["_law_sort", "_law_slid", "_law_slides", "_law_whole", "_law_gcd_part", "_law_fits", "_law_joint", "_law_choices", "_law_any_motion", "_law_moved_band", "_law_mirrored_band", "_law_no", "_law_leads", "_law_by_hand_right", "_law_bent", "_law_pair_right", "_law_mirror_right", "_law_right"]
def names : List PySem.Str := names0 ++ names1 ++ names2 ++ names3 ++ names4
abbrev R : PySem.W.OpenRow := PySem.W.OpenLaw.row PySem.Challenge.rw_screwshop_k26_whole_motions_that_lead_ba
abbrev hk : PySem.W.Hook := He.hookX 2 fa fn [] tf ex
def ob (s : PySem.W.SharedT) : He.AlX := He.obsX 2 fa fn [] tf ex (HandSHeadRun.getT s)
theorem ob_eq (s : PySem.W.SharedT) : ob s = hk.obs s.abs := He.obsX_eq (HandSHeadRun.getT_eq s)
set_option maxHeartbeats 0 in
theorem run (w : World) : HandSHeadRun.RunEqI R (PySem.W.view R.prog [0, 106]) hk ob 6000 names w := by
  unfold HandSHeadRun.RunEqI
  kernel_rfl
end HD
end Sh
set_option maxHeartbeats 1000000
namespace Sh
open PySem PySem.Spec PyProof.Rows L2
end Sh
open PySem PySem.W PySem.Calls PyProof.Rows
set_option maxRecDepth 100000 in
set_option maxHeartbeats 0 in
/-- what the head asks beside its run; what is left is the walk -/
theorem Sh.HD.fin (call : PySem.W.WalkO (view (OpenLaw.row PySem.Challenge.rw_screwshop_k26_whole_motions_that_lead_ba).prog [0, 106]) Sh.HD.names (PySem.W.XL (view (OpenLaw.row PySem.Challenge.rw_screwshop_k26_whole_motions_that_lead_ba).prog [0, 106]) []) Sh.HD.hk.says (OpenLaw.row PySem.Challenge.rw_screwshop_k26_whole_motions_that_lead_ba).toRowW (HandSHeadRun.topDef (OpenLaw.row PySem.Challenge.rw_screwshop_k26_whole_motions_that_lead_ba).prog 106) [] fun f vs => PySem.call f vs) : PySem.Challenge.rw_screwshop_k26_whole_motions_that_lead_ba.Holds := by
  w_on; o_law
  refine HandSHeadRun.head_imp (r := OpenLaw.row PySem.Challenge.rw_screwshop_k26_whole_motions_that_lead_ba) (q := view (OpenLaw.row PySem.Challenge.rw_screwshop_k26_whole_motions_that_lead_ba).prog [0, 106]) (H := Sh.HD.hk) (ob := Sh.HD.ob) (M := 6000) (loose := Sh.HD.names) (d := HandSHeadRun.topDef (OpenLaw.row PySem.Challenge.rw_screwshop_k26_whole_motions_that_lead_ba).prog 106) (kwd := []) Sh.HD.ob_eq
    Sh.HD.run (by kernel_rfl) (by kernel_rfl) (by kernel_rfl) (by rfl) (by first | assumption | decide +kernel) (by decide +kernel) ⟨rfl, rfl, rfl, rfl, rfl, by decide +kernel⟩ ?hw call
  case hw => w_witness2
namespace Sh
/-! ## fractions -/
/-- how many binary places a fraction takes -/
def sz (q : Rat) : Nat := (max q.num.natAbs q.den).log2 + 1
theorem sz_num (q : Rat) : q.num.natAbs < 2 ^ sz q := Nat.lt_of_le_of_lt (Nat.le_max_left _ _) Nat.lt_log2_self
theorem sz_den (q : Rat) : q.den < 2 ^ sz q := Nat.lt_of_le_of_lt (Nat.le_max_right _ _) Nat.lt_log2_self
theorem sz_le {q : Rat} {n : Nat} (h1 : q.num.natAbs < 2 ^ n) (h2 : q.den < 2 ^ n) : sz q ≤ n := by
  have h : max q.num.natAbs q.den < 2 ^ n := Nat.max_lt.mpr ⟨h1, h2⟩
  have nz : max q.num.natAbs q.den ≠ 0 := by have := q.den_pos; omega
  exact (Nat.log2_lt nz).mpr h
theorem sz_pos (q : Rat) : 1 ≤ sz q := Nat.le_add_left _ _
theorem divInt_num_le (t b : Int) (hb : b ≠ 0) : (Rat.divInt t b).num.natAbs ≤ t.natAbs := by
  rw [Rat.num_divInt, Int.natAbs_ediv_of_dvd, Int.natAbs_mul]
  · have : b.sign.natAbs = 1 := by
      rcases Int.lt_trichotomy b 0 with h | h | h
      · rw [Int.sign_eq_neg_one_of_neg h]; rfl
      · exact absurd h hb
      · rw [Int.sign_eq_one_of_pos h]; rfl
    rw [this, Nat.one_mul]
    exact Nat.div_le_self _ _
  · exact Int.dvd_trans (Int.gcd_dvd_right ..) (Int.dvd_mul_left ..)
theorem divInt_den_le (t b : Int) (hb : b ≠ 0) : (Rat.divInt t b).den ≤ b.natAbs := by
  rw [Rat.den_divInt, if_neg hb]
  exact Nat.div_le_self _ _
theorem sz_divInt {t b : Int} {n : Nat} (hb : b ≠ 0) (h1 : t.natAbs < 2 ^ n) (h2 : b.natAbs < 2 ^ n) : sz (Rat.divInt t b) ≤ n := sz_le (Nat.lt_of_le_of_lt (divInt_num_le t b hb) h1) (Nat.lt_of_le_of_lt (divInt_den_le t b hb) h2)
theorem mul_pow {a b m n : Nat} (h1 : a < 2 ^ m) (h2 : b < 2 ^ n) : a * b < 2 ^ (m + n) := by
  rw [Nat.pow_add]
  rcases Nat.eq_zero_or_pos b with h | h
  · rw [h, Nat.mul_zero]; exact Nat.mul_pos (Nat.pow_pos (by decide)) (Nat.pow_pos (by decide))
  · exact Nat.lt_of_lt_of_le (Nat.mul_lt_mul_of_pos_right h1 h) (Nat.mul_le_mul_left _ (Nat.le_of_lt h2))
theorem den_ne (q : Rat) : (q.den : Int) ≠ 0 := by have := q.den_pos; omega
theorem mul_is (x y : Rat) : x * y = Rat.divInt (x.num * y.num) ((x.den : Int) * y.den) := by
  rw [← Rat.divInt_mul_divInt, Rat.num_divInt_den, Rat.num_divInt_den]
theorem add_is (x y : Rat) : x + y = Rat.divInt (x.num * y.den + y.num * x.den) ((x.den : Int) * y.den) := by
  rw [← Rat.divInt_add_divInt _ _ (den_ne x) (den_ne y), Rat.num_divInt_den, Rat.num_divInt_den]
theorem num_ne {y : Rat} (h : y ≠ 0) : y.num ≠ 0 := fun e => h (Rat.num_eq_zero.mp e)
theorem div_is (x y : Rat) (h : y ≠ 0) : x / y = Rat.divInt (x.num * y.den) ((x.den : Int) * y.num) := by
  rw [Rat.div_def, Rat.inv_def, ← Rat.divInt_mul_divInt, Rat.num_divInt_den]
theorem sz_mul (x y : Rat) : sz (x * y) ≤ sz x + sz y := by
  rw [mul_is]
  refine sz_divInt (Int.mul_ne_zero (den_ne x) (den_ne y)) ?_ ?_
  · rw [Int.natAbs_mul]; exact mul_pow (sz_num x) (sz_num y)
  · rw [Int.natAbs_mul]; exact mul_pow (sz_den x) (sz_den y)
theorem sz_div (x y : Rat) (h : y ≠ 0) : sz (x / y) ≤ sz x + sz y := by
  rw [div_is x y h]
  refine sz_divInt (Int.mul_ne_zero (den_ne x) (num_ne h)) ?_ ?_
  · rw [Int.natAbs_mul]; exact mul_pow (sz_num x) (sz_den y)
  · rw [Int.natAbs_mul]; exact mul_pow (sz_den x) (sz_num y)
theorem sz_add (x y : Rat) : sz (x + y) ≤ sz x + sz y + 1 := by
  rw [add_is]
  have e : (2 : Nat) ^ (sz x + sz y + 1) = 2 ^ (sz x + sz y) + 2 ^ (sz x + sz y) := by rw [Nat.pow_succ]; omega
  refine sz_divInt (Int.mul_ne_zero (den_ne x) (den_ne y)) ?_ ?_
  · have h1 : (x.num * (y.den : Int)).natAbs < 2 ^ (sz x + sz y) := by rw [Int.natAbs_mul]; exact mul_pow (sz_num x) (sz_den y)
    have h2 : (y.num * (x.den : Int)).natAbs < 2 ^ (sz x + sz y) := by rw [Int.natAbs_mul, Nat.add_comm (sz x)]; exact mul_pow (sz_num y) (sz_den x)
    have := Int.natAbs_add_le (x.num * (y.den : Int)) (y.num * (x.den : Int))
    omega
  · have h1 : ((x.den : Int) * (y.den : Int)).natAbs < 2 ^ (sz x + sz y) := by rw [Int.natAbs_mul]; exact mul_pow (sz_den x) (sz_den y)
    omega
theorem sz_neg (x : Rat) : sz (-x) = sz x := by
  unfold sz
  rw [Rat.neg_num, Rat.neg_den, Int.natAbs_neg]
theorem sz_sub (x y : Rat) : sz (x - y) ≤ sz x + sz y + 1 := by
  have := sz_add x (-y)
  rw [sz_neg, ← Rat.sub_eq_add_neg] at this
  exact this
/-- the fraction of a whole number -/
theorem sz_int {i : Int} {n : Nat} (h : i.natAbs < 2 ^ n) (hn : 1 ≤ n) : sz (i : Rat) ≤ n := by
  refine sz_le ?_ ?_
  · rw [Rat.num_intCast]; exact h
  · rw [Rat.den_intCast]; exact Nat.one_lt_two_pow (by omega)
/-! ### what part_of computes -/
theorem part_of_pos (t b : Int) (hb : 0 < b) : t.fdiv (Nat.gcd t.natAbs b.natAbs : Nat) = (Rat.divInt t b).num ∧ b.fdiv (Nat.gcd t.natAbs b.natAbs : Nat) = ((Rat.divInt t b).den : Int) := by
  have g : b.gcd t = Nat.gcd t.natAbs b.natAbs := by rw [Int.gcd, Nat.gcd_comm]
  rw [Rat.num_divInt, Rat.den_divInt, if_neg (by omega), g, Int.sign_eq_one_of_pos hb, Int.one_mul]
  refine ⟨Int.fdiv_eq_ediv_of_nonneg _ (Int.natCast_nonneg _), ?_⟩
  rw [Int.fdiv_eq_ediv_of_nonneg _ (Int.natCast_nonneg _), Int.natCast_ediv]
  congr 1
  omega
theorem divInt_neg_neg (t b : Int) : Rat.divInt (-t) (-b) = Rat.divInt t b := by
  rw [Rat.divInt_eq_div, Rat.divInt_eq_div, Rat.intCast_neg, Rat.intCast_neg]
  by_cases h : (b : Rat) = 0
  · rw [h]; simp [Rat.div_def]
  · grind
theorem fdiv_neg_neg (a b : Int) : (-a).fdiv (-b) = a.fdiv b := Int.neg_fdiv_neg a b
theorem part_of_neg (t b : Int) (hb : b < 0) : t.fdiv (-(Nat.gcd t.natAbs b.natAbs : Nat)) = (Rat.divInt t b).num ∧ b.fdiv (-(Nat.gcd t.natAbs b.natAbs : Nat)) = ((Rat.divInt t b).den : Int) := by
  have q := part_of_pos (-t) (-b) (by omega)
  rw [divInt_neg_neg, Int.natAbs_neg, Int.natAbs_neg] at q
  refine ⟨?_, ?_⟩
  · rw [← q.1, ← fdiv_neg_neg, Int.neg_neg]
  · rw [← q.2, ← fdiv_neg_neg, Int.neg_neg]
theorem gcd_ne (t : Int) {b : Int} (hb : b ≠ 0) : ((Nat.gcd t.natAbs b.natAbs : Nat) : Int) ≠ 0 := by
  have : 0 < Nat.gcd t.natAbs b.natAbs := Nat.gcd_pos_of_pos_right _ (by omega)
  omega
theorem gcd_le (t : Int) {b : Int} (hb : b ≠ 0) : Nat.gcd t.natAbs b.natAbs ≤ b.natAbs := Nat.le_of_dvd (by omega) (Nat.gcd_dvd_right _ _)
theorem one_den (x : Rat) : 1 ≤ (x.den : Int) := by have := x.den_pos; omega
end Sh
set_option maxHeartbeats 1000000
namespace Sh
open PySem PySem.Spec PyProof.Rows L2
/-! ## sets of nested keys -/
section
variable {P : Program} {w : World}
abbrev KI (P : Program) (w : World) (h : Heap) (p : Addr × NestedKey) : Prop := (nestedKind P w).is h p.2 p.1
abbrev hsh (w : World) (p : Addr × NestedKey) : Int := p.2.hash w
abbrev ent (w : World) (p : Addr × NestedKey) : Int × Value := (hsh w p, Value.ref p.1)
abbrev spot (m : Nat) (h : Int) (c : Nat) : SetTable.Probe := nth m (runAt m (SetTable.bits h % (m + 1)) (SetTable.bits h)) c
/-- of a key no part is of a class of the program's own -/
def NoCls (P : Program) (w : World) (n : Nat) (s : Shared) (v : Value) : Prop := ∀ (A : Around) (E : Value → Shared → Prop) (Q : Bool → Shared → Prop), Q false s → wpAny (model P w) A (ofAClassStatement n v) Q E s
/-- whether the hash is by value: either way -/
def HashSay (P : Program) (w : World) (n : Nat) (s : Shared) (v : Value) : Prop := ∀ (A : Around) (E : Value → Shared → Prop) (Q : Bool → Shared → Prop), (∀ b, Q b s) → wpAny (model P w) A (hashByValue n v) Q E s
theorem NoCls.tuple {n : Nat} {s : Shared} {a : Addr} {o : Obj} {vs : Array Value} {m : Nat} (ho : s.heap.get? a = some o) (hc : o.cls = .type "tuple") (hd : o.data = .seq vs m) (hq : ∀ v ∈ vs.toList, NoCls P w n s v) : NoCls P w (n + 1) s (.ref a) := fun A E Q z => by
  unfold ofAClassStatement
  refine wpAny_bind (wpAny_typeOf (T := "tuple") ⟨o, ho, hc⟩ ?_)
  dsimp only
  simp only [show (("tuple" : String) == "tuple") = true by decide, if_true, Bool.not_true, Bool.false_eq_true, if_false]
  try refine wpAny_bind (wpAny_pure ?_)
  try simp only [Bool.not_true, Bool.false_eq_true, if_false]
  refine (show wpAny _ _ (seqItems? (.ref a) >>= _) _ _ s from wpAny_bind (wpAny_seqItems ho hd ?_))
  dsimp only
  refine wpAny_bind (show wpAny _ _ (forIn vs _ _) _ _ s from ?_)
  rw [← Array.forIn_toList]
  refine wpAny_forIn_list _ (fun left r s' => s' = s ∧ r.1 = none ∧ ∀ v ∈ left, NoCls P w n s v) _ (fun v left r s' z' => ?_) (fun r s' z' => ?_) _ _ ⟨rfl, rfl, hq⟩
  · obtain ⟨rfl, _, al⟩ := z'
    refine wpAny_bind (al v List.mem_cons_self _ _ _ ?_)
    simp only [Bool.false_eq_true, if_false]
    exact wpAny_pure ⟨rfl, rfl, fun u hu => al u (List.mem_cons_of_mem _ hu)⟩
  · obtain ⟨r1, r2⟩ := r
    obtain ⟨rfl, e, _⟩ := z'
    dsimp only at e
    subst e
    exact wpAny_pure z
theorem HashSay.tuple {n : Nat} {s : Shared} {a : Addr} {o : Obj} {vs : Array Value} {m : Nat} (ho : s.heap.get? a = some o) (hc : o.cls = .type "tuple") (hd : o.data = .seq vs m) (hq : ∀ v ∈ vs.toList, HashSay P w n s v) : HashSay P w (n + 1) s (.ref a) := fun A E Q z => by
  unfold hashByValue
  refine wpAny_bind (wpAny_specialOf (T := "tuple") ⟨o, ho, hc⟩ F.slot_tuple_hash.lookup ?_)
  refine (show wpAny _ _ (seqItems? (.ref a) >>= _) _ _ s from wpAny_bind (wpAny_seqItems ho hd ?_))
  refine wpAny_bind (show wpAny _ _ (forIn vs _ _) _ _ s from ?_)
  rw [← Array.forIn_toList]
  refine wpAny_forIn_list _ (fun left r s' => s' = s ∧ ∀ v ∈ left, HashSay P w n s v) _ (fun v left r s' z' => ?_) (fun r s' z' => ?_) _ _ ⟨rfl, hq⟩
  · obtain ⟨rfl, al⟩ := z'
    refine wpAny_bind (al v List.mem_cons_self _ _ _ fun b => ?_)
    cases b with
    | true =>
      simp only [Bool.not_true, Bool.false_eq_true, if_false]
      exact wpAny_pure ⟨rfl, fun u hu => al u (List.mem_cons_of_mem _ hu)⟩
    | false =>
      simp only [Bool.not_false, if_true]
      exact wpAny_pure (wpAny_pure (z false))
  · obtain ⟨r1, r2⟩ := r
    obtain ⟨rfl, _⟩ := z'
    cases r1 with
    | none => exact wpAny_pure (z true)
    | some b => exact wpAny_pure (z b)
mutual
theorem noCls_key : ∀ (k : NestedKey) (v : Value) (n : Nat) (s : Shared), NestedIs s.heap k v → k.depth ≤ n → NoCls P w n s v ∧ HashSay P w n s v
  | .none, _, n, s, x, _ => by
    cases x
    refine ⟨fun A E Q z => ?_, fun A E Q z => ?_⟩
    · rw [show ofAClassStatement n .none = pure false by cases n <;> rfl]; exact wpAny_pure z
    · rw [show hashByValue n .none = pure true by cases n <;> rfl]; exact wpAny_pure (z true)
  | .num i, _, n, s, x, _ => by
    cases x with
    | int _ t =>
      refine ⟨fun A E Q z => ?_, fun A E Q z => ?_⟩
      · rw [show ofAClassStatement n (.int i t) = pure false by cases n <;> rfl]; exact wpAny_pure z
      · rw [show hashByValue n (.int i t) = pure true by cases n <;> rfl]; exact wpAny_pure (z true)
    | @bool b _ e =>
      refine ⟨fun A E Q z => ?_, fun A E Q z => ?_⟩
      · rw [show ofAClassStatement n (.bool b) = pure false by cases n <;> rfl]; exact wpAny_pure z
      · rw [show hashByValue n (.bool b) = pure true by cases n <;> rfl]; exact wpAny_pure (z true)
  | .text y, _, n, s, x, _ => by
    cases x with
    | text _ t =>
      refine ⟨fun A E Q z => ?_, fun A E Q z => ?_⟩
      · rw [show ofAClassStatement n (.str y t) = pure false by cases n <;> rfl]; exact wpAny_pure z
      · rw [show hashByValue n (.str y t) = pure false by cases n <;> rfl]; exact wpAny_pure (z false)
  | .tup ks, _, n, s, x, hn => by
    cases x with
    | tup hg hc hd hk =>
      simp only [NestedKey.depth] at hn
      cases n with
      | zero => omega
      | succ n =>
        have q := noCls_keys ks _ n s hk (by omega)
        exact ⟨.tuple hg hc hd fun v hv => (q v hv).1, .tuple hg hc hd fun v hv => (q v hv).2⟩
theorem noCls_keys : ∀ (ks : List NestedKey) (vs : List Value) (n : Nat) (s : Shared), NestedAll s.heap ks vs → NestedKey.depthAll ks ≤ n → ∀ v ∈ vs, NoCls P w n s v ∧ HashSay P w n s v
  | [], _, n, s, x, _, v, hv => by cases x; cases hv
  | k :: ks, _, n, s, x, hn, v, hv => by
    cases x with
    | cons x1 x2 =>
      simp only [NestedKey.depthAll] at hn
      rcases List.mem_cons.mp hv with e | hv
      · rw [e]; exact noCls_key k _ n s x1 (by omega)
      · exact noCls_keys ks _ n s x2 (by omega) v hv
end
variable {A : Around} {E : Value → Shared → Prop} {s : Shared} {a x : Addr} {k : NestedKey}
theorem unseen {b : Addr} {k : NestedKey} (hk : KI P w s.heap (b, k)) {Q : Bool → Shared → Prop} {ys : List Value} (hy : ∀ y ∈ ys, ∃ p, y = Value.ref p.1 ∧ KI P w s.heap p) (z : Q false s) : wpAny (model P w) A (searchCouldBeSeen (.ref b) ys) Q E s := by
  unfold searchCouldBeSeen
  refine wpAny_bind (wpAny_forIn_list _ (fun left r s' => s' = s ∧ r.1 = none ∧ ∀ y ∈ left, ∃ p, y = Value.ref p.1 ∧ KI P w s.heap p) _ (fun v left r s' z' => ?_) (fun r s' z' => ?_) _ _ ⟨rfl, rfl, hy⟩)
  · obtain ⟨rfl, _, al⟩ := z'
    have al' : ∀ y ∈ left, ∃ p, y = Value.ref p.1 ∧ KI P w s'.heap p := fun u hu => al u (List.mem_cons_of_mem _ hu)
    obtain ⟨p, rfl, hp⟩ := al v List.mem_cons_self
    dsimp only
    by_cases e : (b == p.1 || (carriedByValue (.ref b) && carriedByValue (.ref p.1))) = true
    · exact wp_if_pos e (wpAny_pure ⟨rfl, rfl, al'⟩)
    · refine wp_if_neg e (wpAny_bind ((nestedKind P w).quiet hk ?_))
      simp only [Bool.not_true, Bool.false_eq_true, if_false]
      refine wpAny_bind ((nestedKind P w).quiet hp ?_)
      simp only [Bool.not_true, Bool.false_eq_true, if_false]
      refine wpAny_bind ((noCls_key _ _ 8 s' hk.1 hk.2).1 _ _ _ ?_)
      simp only [Bool.false_eq_true, if_false]
      refine wpAny_bind ((noCls_key _ _ 8 s' hp.1 hp.2).1 _ _ _ ?_)
      simp only [Bool.false_eq_true, if_false]
      exact wpAny_pure ⟨rfl, rfl, al'⟩
  · obtain ⟨r1, r2⟩ := r
    obtain ⟨rfl, e, _⟩ := z'
    dsimp only at e
    subst e
    exact wpAny_pure z
/-- the set at a, whose keys are L's, in the table's order -/
structure NTab (P : Program) (w : World) (h : Heap) (a : Addr) (L : List (Addr × NestedKey)) (es : Array (Int × Value)) (ep : Nat) (t : SetTable) : Prop where
  at_ : ∃ o, h.get? a = some o ∧ o.ExactSet ∧ o.data = .set es ep t
  ents : es.toList = L.map (ent w)
  tab : TabOk t (L.map (hsh w))
  nd : (L.map Prod.snd).Nodup
  keys : ∀ p ∈ L, KI P w h p
  led : w.params.followText "set-order" = true ∨ t.led = true
  room : L.length * 5 < t.mask * 3
  few : L.length < 64
variable {L : List (Addr × NestedKey)} {es : Array (Int × Value)} {ep : Nat} {t : SetTable}
theorem ents_size (h : es.toList = L.map (ent w)) : es.size = L.length := by rw [← Array.length_toList, h, List.length_map]
theorem ents_at (h : es.toList = L.map (ent w)) {i : Nat} {p : Addr × NestedKey} (e : L[i]? = some p) : es[i]? = some (ent w p) := by rw [← Array.getElem?_toList, h, List.getElem?_map, e]; rfl
theorem fits_of {n : Nat} (d : t.dummies = #[]) (hp : t.place.size = n) (hm : n ≤ t.mask) : t.fits n = true := by
  simp [SetTable.fits, SetTable.fill, d, hp, hm]
theorem NTab.fits (R : NTab P w s.heap a L es ep t) : t.fits es.size = true := by
  have := R.room
  have e := R.tab.sz
  rw [List.length_map] at e
  rw [ents_size R.ents]
  exact fits_of R.tab.dm e (by omega)
theorem spot_dummy (m : Nat) : ∀ (c : Nat) (p : SetTable.Probe), p.dummy = none → (nth m p c).dummy = none
  | 0, _, h => h
  | c + 1, p, h => spot_dummy m c (adv m p) (by unfold adv; split <;> exact h)
/-- the search among nested keys, from the c-th step of the way on -/
theorem look_from (R : NTab P w s.heap a L es ep t) (hx : KI P w s.heap (x, k)) (hu : A.units + 8 < cLine) {K : Nat} (hK : K < 10 * SetTable.turns t.mask) (gap : way t.mask (k.hash w) K ∉ t.place.toList) (busy : ∀ c, c < K → way t.mask (k.hash w) c ∈ t.place.toList)
    {Q : SetFound → Shared → Prop} (yes : k ∈ L.map Prod.snd → Q (.there none) s) (no : k ∉ L.map Prod.snd → Q (.free (way t.mask (k.hash w) K) false) s) :
    ∀ (n c : Nat) (st : Option SetTable.Probe), K - c < n → c ≤ K → st.getD (t.probeStart (k.hash w)) = spot t.mask (k.hash w) c → (∀ (i : Nat) (p : Addr × NestedKey), L[i]? = some p → p.2 = k → ∃ d, c ≤ d ∧ d < K ∧ t.place.toList[i]? = some (way t.mask (k.hash w) d)) →
      wpAny (model P w) A (setSearchFrom a (.ref x) (k.hash w) true n st) Q E s := by
  intro n
  induction n with
  | zero => exact fun c st h => absurd h (Nat.not_lt_zero _)
  | succ n ih =>
    intro c st hn hc es0 ahead
    obtain ⟨o, ho, hex, hd⟩ := R.at_
    have jump : ∀ q, nth t.mask (spot t.mask (k.hash w) c) q = spot t.mask (k.hash w) (c + q) := fun q => (nth_add t.mask c _ q).symm
    have wq : ∀ q, (nth t.mask (spot t.mask (k.hash w) c) q).j = way t.mask (k.hash w) (c + q) := fun q => by rw [jump]
    have hat : ∀ (i : Nat) (p : Addr × NestedKey), L[i]? = some p → (es[i]?.map (·.1)).getD 0 = p.2.hash w := fun i p e => by rw [ents_at R.ents e]; rfl
    have hKc : c + (K - c) = K := Nat.add_sub_cancel' hc
    have told := go_spec t R.tab.ris R.tab.dm (fun i => (es[i]?.map (·.1)).getD 0) (k.hash w) (10 * SetTable.turns t.mask) (K - c) (spot t.mask (k.hash w) c) (spot_dummy _ _ _ rfl) (by omega) (fun q hq => by rw [wq]; exact busy _ (by omega)) (by rw [wq, hKc]; exact gap)
    rw [← es0] at told
    rw [setSearchFrom_succ]
    refine wpAny_bind (wpAny_setState_of ho hd R.fits ?_)
    dsimp only
    have ng : ¬ t.gaveWay = true := by unfold SetTable.gaveWay; rw [mask_odd R.tab.mok]; decide
    refine wp_if_neg ng ?_
    try refine wpAny_bind (wpAny_pure ?_)
    rw [es0] at told
    rcases told with ⟨q, i, hq, hi, hh, before, met⟩ | ⟨never, met⟩
    · rw [← es0] at met
      have met' : t.probe (fun i => (es[i]?.map (·.1)).getD 0) (k.hash w) (st.getD (t.probeStart (k.hash w))) = some (.candidate (way t.mask (k.hash w) (c + q)) i (spot t.mask (k.hash w) (c + (q + 1)))) := by
        rw [← wq, ← jump, ← es0]
        exact met
      rw [met']
      dsimp only
      rw [wq] at hi
      have hil : i < L.length := by
        have h1 := (List.getElem?_eq_some_iff.mp hi).1
        have h2 := R.tab.sz
        rw [List.length_map] at h2
        rw [Array.length_toList] at h1
        omega
      obtain ⟨p, hp⟩ : ∃ p, L[i]? = some p := ⟨_, List.getElem?_eq_getElem hil⟩
      have pL : p ∈ L := List.mem_of_getElem? hp
      have rest : wpAny (model P w) A (searchRest a (.ref x) (k.hash w) true n es t (way t.mask (k.hash w) (c + q)) i (spot t.mask (k.hash w) (c + (q + 1)))) Q E s := by
        have live : t.slot (way t.mask (k.hash w) (c + q)) = .live i := slot_live R.tab.ris hi
        unfold searchRest
        rw [ents_at R.ents hp]
        dsimp only
        refine wpAny_bind (wpAny_holding ((nestedKind P w).eqBool hu (R.keys p pL) hx ?_))
        refine wpAny_bind (wpAny_setState_of ho hd R.fits ?_)
        dsimp only
        by_cases e : p.2 = k
        · refine wp_if_pos (by simp [e]) (wpAny_pure (yes ?_))
          rw [← e]
          exact List.mem_map_of_mem pL
        · refine wp_if_neg (by simp [e]) ?_
          try refine wpAny_bind (wpAny_pure ?_)
          rw [sameMem]
          dsimp only
          simp only [if_true, live, ents_at R.ents hp]
          refine wpAny_bind (wpAny_isSame_ref_self (wpAny_bind (wpAny_pure ?_)))
          simp only [if_true]
          refine wp_if_neg (by simp [e]) (ih (c + (q + 1)) _ (by omega) (by omega) rfl fun i2 p2 h2 k2 => ?_)
          obtain ⟨d, d1, d2, d3⟩ := ahead i2 p2 h2 k2
          refine ⟨d, ?_, d2, d3⟩
          have ne1 : ¬ d < c + q := fun z => before (d - c) i2 (by omega) (by rw [wq, Nat.add_sub_cancel' d1]; exact d3) ((hat i2 p2 h2).trans (by rw [k2]))
          have ne2 : d ≠ c + q := fun z => by
            have l2 := slot_live R.tab.ris d3
            rw [z, live] at l2
            injection l2 with l2
            rw [← l2, hp] at h2
            injection h2 with h2
            exact e (by rw [h2]; exact k2)
          omega
      by_cases l : t.led = true
      · refine wp_if_neg (by simp [l]) ?_
        try refine wpAny_bind (wpAny_pure ?_)
        exact rest
      · refine wp_if_pos (by simp [l]) (wpAny_bind (unseen hx (fun y hy => ?_) ?_))
        · obtain ⟨e, he, rfl⟩ := List.mem_map.mp hy
          have he' : e ∈ es.toList := by
            have q := he
            simp only [Array.mem_toList_iff, Array.mem_filter] at q
            exact Array.mem_toList_iff.mpr q.1
          rw [R.ents] at he'
          obtain ⟨p2, h2, rfl⟩ := List.mem_map.mp he'
          exact ⟨p2, rfl, R.keys p2 h2⟩
        · refine wp_if_neg (by decide) ?_
          try refine wpAny_bind (wpAny_pure ?_)
          exact rest
    · have met' : t.probe (fun i => (es[i]?.map (·.1)).getD 0) (k.hash w) (st.getD (t.probeStart (k.hash w))) = some (.empty (way t.mask (k.hash w) K) none) := by
        rw [es0, show way t.mask (k.hash w) K = (nth t.mask (spot t.mask (k.hash w) c) (K - c)).j by rw [wq, hKc]]
        exact met
      rw [met']
      dsimp only
      refine wpAny_pure (no fun hm => ?_)
      obtain ⟨p, pL, e⟩ := List.mem_map.mp hm
      obtain ⟨i, hi⟩ := List.getElem?_of_mem pL
      obtain ⟨d, d1, d2, d3⟩ := ahead i p hi e
      exact never (d - c) i (by omega) (by rw [wq, Nat.add_sub_cancel' d1]; exact d3) ((hat i p hi).trans (by rw [e]))
theorem look (R : NTab P w s.heap a L es ep t) (hx : KI P w s.heap (x, k)) (hu : A.units + 8 < cLine) {Q : SetFound → Shared → Prop} (yes : k ∈ L.map Prod.snd → Q (.there none) s)
    (no : ∀ K, k ∉ L.map Prod.snd → way t.mask (k.hash w) K ∉ t.place.toList → (∀ c, c < K → way t.mask (k.hash w) c ∈ t.place.toList) → Q (.free (way t.mask (k.hash w) K) false) s) : wpAny (model P w) A (setSearch a (.ref x) (k.hash w) true) Q E s := by
  have rm := R.room
  obtain ⟨K, b1, b2, b3⟩ := R.tab.first (by rw [List.length_map]; omega) (k.hash w)
  have small : 10 * SetTable.turns t.mask ≤ 1420 := by
    unfold SetTable.turns
    rcases R.tab.mok with e | e | e <;> omega
  unfold setSearch
  refine look_from R hx hu b1 b2 b3 yes (fun z => no K z b2 b3) 100000 0 none (by omega) (Nat.zero_le _) rfl fun i p hi e => ?_
  have il : i < t.place.toList.length := by
    have h1 := (List.getElem?_eq_some_iff.mp hi).1
    have h2 := R.tab.sz
    rw [List.length_map] at h2
    rw [Array.length_toList]
    omega
  obtain ⟨c, c1, c2⟩ := R.tab.before b2 (show (L.map (hsh w))[i]? = some (k.hash w) by rw [List.getElem?_map, hi, ← e]; rfl) (List.getElem?_eq_getElem il)
  exact ⟨c, Nat.zero_le _, c1, by rw [c2]; exact List.getElem?_eq_getElem il⟩
end
end Sh
set_option maxHeartbeats 4000000
namespace Sh
open PySem PySem.Spec PyProof.Rows L2
section
variable {P : Program} {w : World} {A : Around} {E : Value → Shared → Prop} {s : Shared} {a x : Addr} {k : NestedKey} {L : List (Addr × NestedKey)} {es : Array (Int × Value)} {ep : Nat} {t : SetTable}
/-- a key's tuples are not the set -/
theorem KI.but {h h' : Heap} {p : Addr × NestedKey} {o : Obj} (r : KI P w h p) (ho : h.get? a = some o) (hd : o.data = .set es ep t) (sb : Heap.SameBut a h h') : KI P w h' p := by
  refine ⟨NestedIs.at (fun b ob vs n hb hc => (sb.2 b fun e => ?_).trans hb) _ _ r.1, r.2⟩
  rw [e, ho] at hb
  cases hb
  rw [hd] at hc
  cases hc
theorem KI.keep {h h' : Heap} {p : Addr × NestedKey} (r : KI P w h p) (kp : ∀ b o, h.get? b = some o → h'.get? b = some o) : KI P w h' p := ⟨NestedIs.at (fun b ob _ _ hb _ => kp b ob hb) _ _ r.1, r.2⟩
/-- the entries taken in another order -/
theorem reorder (he : es.toList = L.map (ent w)) (order : Array Nat) (pm : order.toList.Perm (List.range L.length)) :
    ∃ L' : List (Addr × NestedKey), (order.filterMap (es[·]?)).toList = L'.map (ent w) ∧ L'.Perm L ∧ L'.map (hsh w) = order.toList.map fun i => (es.map (·.1)).getD i 0 := by
  refine ⟨order.toList.filterMap (L[·]?), ?_, ?_, ?_⟩
  · rw [Array.toList_filterMap, List.map_filterMap]
    refine congrArg (fun f => List.filterMap f order.toList) (funext fun i => ?_)
    rw [← Array.getElem?_toList, he, List.getElem?_map]
  · have all : (List.range L.length).filterMap (L[·]?) = L := by
      have up : ∀ n, n ≤ L.length → (List.range n).filterMap (L[·]?) = L.take n := fun n => by
        induction n with
        | zero => exact fun _ => rfl
        | succ n ih =>
          intro hn
          rw [List.range_succ, List.filterMap_append, ih (by omega), List.take_add_one]
          simp [List.filterMap_cons, List.getElem?_eq_getElem (show n < L.length from hn)]
      rw [up _ (Nat.le_refl _), List.take_length]
    have q := pm.filterMap (L[·]?)
    rw [all] at q
    exact q
  · have key : ∀ l : List Nat, (∀ i ∈ l, i < L.length) → (l.filterMap (L[·]?)).map (hsh w) = l.map fun i => (es.map (·.1)).getD i 0 := fun l => by
      induction l with
      | nil => exact fun _ => rfl
      | cons i l ih =>
        intro hl
        have hi := hl i List.mem_cons_self
        have e1 : (es.map (·.1)).getD i 0 = hsh w L[i] := by
          have q := ents_at he (List.getElem?_eq_getElem hi)
          simp [Array.getD_eq_getD_getElem?, q, ent]
        rw [List.filterMap_cons_some (List.getElem?_eq_getElem hi), List.map_cons, List.map_cons, ih fun j hj => hl j (List.mem_cons_of_mem _ hj), e1]
    exact key _ fun i hi => List.mem_range.mp (pm.mem_iff.mp hi)
/-- the table laid anew -/
theorem relayed {o : Obj} (ho : s.heap.get? a = some o) (hex : o.ExactSet) (hd : o.data = .set es ep t) (he : es.toList = L.map (ent w)) (hp : t.place.size = es.size) (hdm : t.dummies = #[]) (hm : es.size ≤ t.mask) (nd : (L.map Prod.snd).Nodup) (ks : ∀ p ∈ L, KI P w s.heap p)
    (ld : w.params.followText "set-order" = true ∨ t.led = true) (few : L.length < 64) {want m : Nat} (h1 : SetTable.sizeAbove want - 1 = m) (h2 : MaskOk m) (h3 : SetTable.sizeAbove want ≤ 128) (h4 : L.length * 5 < m * 3) {Q : Unit → Shared → Prop}
    (q : ∀ h' L' es' ep' t', Heap.SameBut a s.heap h' → NTab P w h' a L' es' ep' t' → L'.Perm L → Q () { s with heap := h' }) : wpAny (model P w) A (setRelay a want) Q E s := by
  have n1 := ents_size he
  obtain ⟨t', order, rel, pm, T, m1, l1, _, _⟩ := relaid_ok t (hs := es.map (·.1)) (wanted := want) h1 h2 (by rw [Array.size_map, n1]; omega)
  rw [Array.size_map, n1] at pm
  obtain ⟨L', r1, r2, r3⟩ := reorder he order pm
  rw [← r3] at T
  have n2 : (order.filterMap (es[·]?)).size = es.size := by rw [ents_size r1, r2.length_eq, n1]
  rw [setRelay_eq]
  refine wpAny_bind (wpAny_setState_of ho hd (fits_of hdm hp hm) ?_)
  dsimp only
  refine wp_if_neg (by rw [sizeLine_eq]; omega) ?_
  try refine wpAny_bind (wpAny_pure ?_)
  rw [rel]
  dsimp only
  refine wpAny_bind (wp_if_neg (by rw [n2]; simp) ?_)
  try refine wpAny_bind (wpAny_pure ?_)
  refine wpAny_pure ?_
  dsimp only
  refine wpAny_storeSet_of ho hd ?_ (by rw [n2, n1, sizeLine_eq]; omega)
  have sb : Heap.SameBut a s.heap (s.heap.update a (Obj.putSet (order.filterMap (es[·]?)) t')) := Heap.SameBut.update ..
  exact q _ L' _ (ep + 1) t' sb { at_ := ⟨_, store_at ho hd, ⟨hex.1, hex.2.1, hex.2.2⟩, rfl⟩, ents := r1, tab := T, nd := (r2.map Prod.snd).nodup_iff.mpr nd, keys := fun p z => (ks p (r2.mem_iff.mp z)).but ho hd sb, led := by rw [l1]; exact ld, room := by rw [r2.length_eq, m1]; exact h4, few := by rw [r2.length_eq]; exact few } r2
/-- one key more -/
theorem put_key (R : NTab P w s.heap a L es ep t) (hx : KI P w s.heap (x, k)) (hu : A.units + 8 < cLine) (few : L.length + 1 < 64) {Q : Bool → Shared → Prop}
    (q : ∀ b h' L' es' ep' t', Heap.SameBut a s.heap h' → NTab P w h' a L' es' ep' t' → (k ∈ L.map Prod.snd ∧ L' = L ∨ k ∉ L.map Prod.snd ∧ L'.Perm ((x, k) :: L)) → Q b { s with heap := h' }) : wpAny (model P w) A (setAddHashed a (.ref x) (k.hash w)) Q E s := by
  obtain ⟨o, ho, hex, hd⟩ := R.at_
  have n0 := ents_size R.ents
  have rm := R.room
  unfold setAddHashed
  refine wpAny_holding ?_
  rw [show (100000 : Nat) = 99999 + 1 from rfl, setAddHashedIn_succ]
  refine wpAny_bind (wpAny_setState_of ho hd R.fits ?_)
  dsimp only
  refine wp_if_neg (by simp [byScan, Value.scannable]) ?_
  try refine wpAny_bind (wpAny_pure ?_)
  refine wpAny_bind (look R hx hu (fun z => ?_) fun K z g1 g2 => ?_)
  · dsimp only
    exact wpAny_pure (q false s.heap L es ep t (Heap.SameBut.refl a s.heap) R (.inl ⟨z, rfl⟩))
  dsimp only
  refine wpAny_bind (wpAny_setState_of ho hd R.fits ?_)
  dsimp only
  obtain ⟨u1, u2, u3, u4, u5, -, -, -, u9⟩ := R.tab.put g1 g2
  generalize t.put (way t.mask (k.hash w) K) = pt at u1 u3 u4 u5 u9 ⊢
  obtain ⟨t1, i1⟩ := pt
  dsimp only at u1 u3 u4 u5 u9 ⊢
  subst u1
  generalize SetTable.below t.place (way t.mask (k.hash w) K) = i at u2 u3 ⊢
  have pm : (L.take i ++ (x, k) :: L.drop i).Perm ((x, k) :: L) := by
    have z : (L.take i ++ (x, k) :: L.drop i).Perm ((x, k) :: (L.take i ++ L.drop i)) := List.perm_middle
    rw [List.take_append_drop] at z
    exact z
  have he : (SetTable.insertAt es i (k.hash w, Value.ref x)).toList = (L.take i ++ (x, k) :: L.drop i).map (ent w) := by
    rw [SetTable.toList_insertAt, R.ents, List.map_append, List.map_cons, List.map_take, List.map_drop]
  have hh : (L.map (hsh w)).take i ++ k.hash w :: (L.map (hsh w)).drop i = (L.take i ++ (x, k) :: L.drop i).map (hsh w) := by
    rw [List.map_append, List.map_cons, List.map_take, List.map_drop]
  rw [hh] at u3
  generalize SetTable.insertAt es i (k.hash w, Value.ref x) = es1 at he ⊢
  generalize L.take i ++ (x, k) :: L.drop i = L1 at pm he u3
  have n1 : L1.length = L.length + 1 := pm.length_eq
  have n2 := ents_size he
  have nd1 : (L1.map Prod.snd).Nodup := (pm.map Prod.snd).nodup_iff.mpr (List.nodup_cons.mpr ⟨z, R.nd⟩)
  -- the rest, for a table that is t1 but for the mark 'plain'
  have rest : ∀ t2 : SetTable, t2.place = t1.place → t2.dummies = t1.dummies → t2.mask = t1.mask → t2.led = t1.led → wpAny (model P w) A (do
      storeSet a es1 t2
      if !false && t2.tooFull then setRelay a (SetTable.grown (es.size + 1))
      return true) Q E s := fun t2 v1 v2 v3 v4 => by
    have T2 : TabOk t2 (L1.map (hsh w)) := by
      refine ⟨by rw [v1]; exact u3.ris, by rw [v2]; exact u3.dm, by rw [v1]; exact u3.sz, by rw [v3]; exact u3.mok, by rw [v1, v3]; exact u3.bd, ?_⟩
      rw [v1, v3]
      exact u3.reach
    have sb : Heap.SameBut a s.heap (s.heap.update a (Obj.putSet es1 t2)) := Heap.SameBut.update ..
    have ks1 : ∀ p ∈ L1, KI P w (s.heap.update a (Obj.putSet es1 t2)) p := fun p hp => by
      rcases List.mem_cons.mp (pm.mem_iff.mp hp) with rfl | hp
      · exact hx.but ho hd sb
      · exact (R.keys p hp).but ho hd sb
    have ld : w.params.followText "set-order" = true ∨ t2.led = true := by rw [v4, u5]; exact R.led
    have fl : t2.tooFull = decide ((L.length + 1) * 5 ≥ t.mask * 3) := by
      have e9 : t1.fill = L.length + 1 := by rw [u9, List.length_map]
      unfold SetTable.fill at e9
      unfold SetTable.tooFull SetTable.fill
      rw [v1, v2, v3, e9, u4]
    refine wpAny_bind (wpAny_storeSet_of ho hd ?_ (by rw [n2, n1, sizeLine_eq]; omega))
    by_cases hf : t2.tooFull = true
    · have hf' := hf
      rw [fl, decide_eq_true_eq] at hf'
      have ways : (t.mask = 7 ∧ L.length = 4) ∨ (t.mask = 31 ∧ L.length = 18) := by
        rcases R.tab.mok with e | e | e <;> rw [e] at hf' rm <;> omega
      have go : ∀ m, SetTable.sizeAbove (SetTable.grown (L.length + 1)) - 1 = m → MaskOk m → SetTable.sizeAbove (SetTable.grown (L.length + 1)) ≤ 128 → (L.length + 1) * 5 < m * 3 →
          wpAny (model P w) A (setRelay a (SetTable.grown (L.length + 1))) (fun _ s' => wpAny (model P w) A (pure true) Q E s') E { s with heap := s.heap.update a (Obj.putSet es1 t2) } := fun m c1 c2 c3 c4 => by
        refine relayed (s := { s with heap := s.heap.update a (Obj.putSet es1 t2) }) (store_at ho hd) ⟨hex.1, hex.2.1, hex.2.2⟩ rfl he (by rw [n2, n1, v1, u3.sz, List.length_map, n1]) T2.dm (by rw [n2, n1, v3, u4]; rcases ways with ⟨e, e2⟩ | ⟨e, e2⟩ <;> omega) nd1 ks1 ld (by rw [n1]; exact few) c1 c2 c3 (by rw [n1]; exact c4) ?_
        exact fun h2 L2 es2 ep2 t3 sb2 R2 pm2 => wpAny_pure (q true h2 L2 es2 ep2 t3 (sb.trans sb2) R2 (.inr ⟨z, pm2.trans pm⟩))
      rw [n0]
      first
        | (refine wpAny_bind ?_; refine wp_if_pos (by simp [hf]) ?_)
        | (refine wp_if_pos (by simp [hf]) ?_; refine wpAny_bind ?_)
      rcases ways with ⟨_, e⟩ | ⟨_, e⟩
      · exact go 31 (by rw [e, size_20]) (.inr (.inl rfl)) (by rw [e, size_20]; decide) (by omega)
      · exact go 127 (by rw [e, size_76]) (.inr (.inr rfl)) (by rw [e, size_76]; decide) (by omega)
    · have hf' := hf
      rw [fl, decide_eq_true_eq] at hf'
      first
        | refine wp_if_neg (by simp [hf]) ?_
        | (refine wpAny_bind ?_; refine wp_if_neg (by simp [hf]) ?_; refine wpAny_pure ?_)
      exact wpAny_pure (q true _ L1 es1 (ep + 1) t2 sb { at_ := ⟨_, store_at ho hd, ⟨hex.1, hex.2.1, hex.2.2⟩, rfl⟩, ents := he, tab := T2, nd := nd1, keys := ks1, led := ld, room := by rw [n1, v3, u4]; omega, few := by rw [n1]; exact few } (.inr ⟨z, pm⟩))
  by_cases pl : t1.plain = true
  · have said : wpAny (model P w) A (hashByValue 8 (.ref x)) (fun b s' => s' = s) E s := (noCls_key k _ 8 s hx.1 hx.2).2 _ _ _ fun b => rfl
    first
      | (refine wpAny_bind ?_; refine wp_if_pos pl ?_; refine wpAny_mono said (fun b s' e => ?_) fun _ _ h => h)
      | (refine wp_if_pos pl (wpAny_bind ?_); refine wpAny_mono said (fun b s' e => ?_) fun _ _ h => h)
    subst e
    cases b with
    | true => exact rest t1 rfl rfl rfl rfl
    | false => exact rest { t1 with plain := false } rfl rfl rfl rfl
  · first
      | (refine wpAny_bind ?_; refine wp_if_neg pl ?_; refine wpAny_pure ?_)
      | (refine wp_if_neg pl (wpAny_bind ?_); refine wpAny_pure ?_)
    exact rest t1 rfl rfl rfl rfl
end
end Sh
set_option maxHeartbeats 4000000
namespace Sh
open PySem PySem.Spec PyProof.Rows L2
abbrev newSet (w : World) : Obj := { cls := .type "set", dict := none, data := .set #[] 0 (.fresh 0 0 (!w.params.followText "set-order")) }
section
variable {P : Program} {w : World} {A : Around} {E : Value → Shared → Prop} {s : Shared}
/-- what the set holds of the first n keys -/
structure Took (ks : List (Addr × NestedKey)) (n : Nat) (L : List (Addr × NestedKey)) : Prop where
  inn : ∀ p ∈ L, p ∈ ks
  all : ∀ i p, i < n → ks[i]? = some p → p.2 ∈ L.map Prod.snd
  len : L.length ≤ n
theorem NTab.keep {h h' : Heap} {a : Addr} {L : List (Addr × NestedKey)} {es : Array (Int × Value)} {ep : Nat} {t : SetTable} (R : NTab P w h a L es ep t) (kp : ∀ o, h.get? a = some o → h'.get? a = some o) (ks : ∀ p ∈ L, KI P w h' p) : NTab P w h' a L es ep t :=
  let ⟨o, ho, r⟩ := R.at_
  { at_ := ⟨o, kp o ho, r⟩, ents := R.ents, tab := R.tab, nd := R.nd, keys := ks, led := R.led, room := R.room, few := R.few }
theorem ntab_new {h : Heap} {a : Addr} (ho : h.get? a = some (newSet w)) : NTab P w h a [] #[] 0 (.fresh 0 0 (!w.params.followText "set-order")) where
  at_ := ⟨_, ho, ⟨rfl, rfl, rfl⟩, rfl⟩
  ents := rfl
  tab := ⟨List.Pairwise.nil, rfl, rfl, .inl rfl, fun _ z => (nomatch z), fun i _ _ z => (by simp at z)⟩
  nd := .nil
  keys := fun _ z => (nomatch z)
  led := by
    show _ ∨ (!w.params.followText "set-order") = true
    cases w.params.followText "set-order" <;> simp
  room := by
    show 0 * 5 < 7 * 3
    decide
  few := by
    show 0 < 64
    decide
/-- the loop that fills the set from the list's iterator -/
theorem filled {I S : Addr} {fp wr : List Addr} {G : Array GenState → Array GenState → Prop} {n : Nat} {Pv : Nat → Value → Prop} {St : Nat → Shared → Prop} {R : Result → Shared → Prop} (W : WalksS P w A.in1 I fp wr G n Pv St) (hS : S ∉ fp)
    (ks : List (Addr × NestedKey)) (hn : n = ks.length) (few : ks.length < 64) (hv : ∀ i v, Pv i v → ∃ p, ks[i]? = some p ∧ v = .ref p.1) (h0 : Heap) (hk : ∀ p ∈ ks, KI P w h0 p) (nS : h0.get? S = none) (nw : ∀ b ∈ wr, h0.get? b = none) (hu : A.in1.units + 8 < cLine) :
    ∀ (m i : Nat) (s : Shared), n - i = m → i ≤ n → St i s → (∀ b o, h0.get? b = some o → s.heap.get? b = some o) → (∃ L es ep t, NTab P w s.heap S L es ep t ∧ Took ks i L) →
      (∀ s' L es ep t, Moved (S :: wr) G s s' → NTab P w s'.heap S L es ep t → Took ks n L → (∀ b o, h0.get? b = some o → s'.heap.get? b = some o) → R (.ok (.ret .none)) s') →
      codeAny (model P w) A (.builtin "set.update.loop" ⟨[.ref S, .ref I], []⟩) R s := by
  have old : ∀ {s s' : Shared}, Moved wr G s s' → (∀ b o, h0.get? b = some o → s.heap.get? b = some o) → ∀ b o, h0.get? b = some o → s'.heap.get? b = some o := fun mv kp b o e => mv.heap b o (fun z => by rw [nw b z] at e; cases e) (kp b o e)
  have mon : ∀ {s s' : Shared}, Moved wr G s s' → Moved (S :: wr) G s s' := fun mv => mv.mono fun b z => List.mem_cons_of_mem _ z
  have apart : S ∉ wr := fun z => hS (W.sub _ z)
  intro m
  induction m with
  | zero =>
    rintro i s hm hi st kp ⟨L, es, ep, t, T, g⟩ fin
    obtain rfl : i = n := by omega
    refine codeAny_builtin F.entry_set_update_loop ?_
    rw [Around.under_plainId F.plain_set_update_loop _]
    refine (show wpAny _ A.in1 (pyNext (.ref I) >>= _) _ _ s from wpAny_bind (W.done s _ _ st fun s' mv => ?_))
    have kp' := old mv kp
    exact (show wpAny _ A.in1 (ret Value.none) _ _ s' from wpAny_pure (fin s' L es ep t (mon mv) (T.keep (fun o e => mv.heap S o apart e) fun p z => (hk p (g.inn p z)).keep kp') g kp'))
  | succ m ih =>
    rintro i s hm hi st kp ⟨L, es, ep, t, T, g⟩ fin
    have lt : i < n := by omega
    refine codeAny_builtin F.entry_set_update_loop ?_
    rw [Around.under_plainId F.plain_set_update_loop _]
    refine (show wpAny _ A.in1 (pyNext (.ref I) >>= _) _ _ s from wpAny_bind (W.item i s _ _ lt st fun v s' pv st' mv => ?_))
    obtain ⟨⟨x, k⟩, hp, rfl⟩ := hv i v pv
    have kp' := old mv kp
    have T' : NTab P w s'.heap S L es ep t := T.keep (fun o e => mv.heap S o apart e) fun p z => (hk p (g.inn p z)).keep kp'
    have pin : (x, k) ∈ ks := List.mem_of_getElem? hp
    have hx : KI P w s'.heap (x, k) := (hk _ pin).keep kp'
    refine (show wpAny _ A.in1 (holding [Value.ref x] (setAdd S (.ref x)) >>= _) _ _ s' from wpAny_bind (wpAny_holding ?_))
    unfold setAdd
    refine wpAny_holding (wpAny_bind ((nestedKind P w).pyHash hu hx ?_))
    refine put_key (s := { s' with toks := s'.toks + k.draws }) T' hx hu (by have := g.len; omega) fun b h' L' es' ep' t' sb T2 why => ?_
    have g2 : Took ks (i + 1) L' := by
      rcases why with ⟨c, rfl⟩ | ⟨c, pm⟩
      · refine ⟨g.inn, fun j p hj e => ?_, Nat.le_succ_of_le g.len⟩
        rcases Nat.lt_succ_iff_lt_or_eq.mp hj with hj | rfl
        · exact g.all j p hj e
        · rw [hp] at e; cases e; exact c
      · refine ⟨fun p z => ?_, fun j p hj e => ?_, by rw [pm.length_eq]; exact Nat.succ_le_succ g.len⟩
        · rcases List.mem_cons.mp (pm.mem_iff.mp z) with rfl | z
          · exact pin
          · exact g.inn p z
        · rw [(pm.map Prod.snd).mem_iff]
          rcases Nat.lt_succ_iff_lt_or_eq.mp hj with hj | rfl
          · exact List.mem_cons_of_mem _ (g.all j p hj e)
          · rw [hp] at e; cases e; exact List.mem_cons_self
    have kp2 : ∀ b o, h0.get? b = some o → h'.get? b = some o := fun b o e => (sb.2 b fun z => by rw [z, nS] at e; cases e).trans (kp' b o e)
    refine wpAny_pure ⟨plainId_quiet F.plain_set_update_loop _, ih (i + 1) _ (by omega) lt (W.frame _ s' _ _ st' (Nat.le_add_right _ _) fun b z o e => (sb.2 b fun y => hS (y ▸ z)).trans e) kp2 ⟨L', es', ep', t', T2, g2⟩ fun s2 L2 es2 ep2 t2 mv2 T3 g3 kp3 => ?_⟩
    exact fin s2 L2 es2 ep2 t2 (Moved.trans W.gtrans ((mon mv).then_heap (Nat.le_add_right _ _) fun b o z e => (sb.2 b fun y => z (by rw [y]; exact List.mem_cons_self)).trans e) mv2) T3 g3 kp3
/-- set(xs): the new set at S -/
theorem set_made {l : Addr} {items : Array Value} (ks : List (Addr × NestedKey)) {Q : Value → Shared → Prop} (hh : A.handled = none) (hl : s.heap.IsList l items) (hi : items.toList = ks.map fun p => Value.ref p.1) (hk : ∀ p ∈ ks, KI P w s.heap p) (few : ks.length < 64) (hu : A.units + 16 < cLine)
    (q : ∀ h' tk L es ep t, NTab P w h' s.heap.objs.size L es ep t → Took ks ks.length L → (∀ b o, s.heap.get? b = some o → h'.get? b = some o) → Q (.ref s.heap.objs.size) { s with heap := h', toks := tk }) : wpAny (model P w) A (call (.type "set") [.ref l]) Q E s := by
  have isz : items.size = ks.length := by rw [← Array.length_toList, hi, List.length_map]
  obtain ⟨c, tl, hmro⟩ := F.called_set.mro
  have hmade := F.called_set.made
  have hsub := F.called_set.sub
  refine wpAny_call (codeAny_of_tree (show wpAny _ _ (callAny (.type "set") _) _ _ _ from wpAny_pure ⟨Code.quiet_builtin _ (by decide +kernel), codeAny_builtin F.entry_type_call ?_⟩))
  rw [Around.under_plain (weight_type_call_type "set" [.ref l] []) rfl]
  have h1 := F.called_set.notType
  have h2 := F.called_set.canCreate
  have hct := F.typeCall_set_1 (.ref l)
  repeat (any_goals (first | assumption | wp_step))
  refine codeAny_mono (code_set_led1 (.ref l) (E := E) (Q₁ := fun obj s1 => obj = .ref s.heap.objs.size ∧ s1 = { s with heap := s.heap.push (newSet w) }) ⟨rfl, rfl⟩) fun r s1 hr => ?_
  cases r with
  | error e => exact hr
  | ok fl =>
  cases fl with
  | next => exact hr.elim
  | brk => exact hr.elim
  | cont => exact hr.elim
  | ret obj =>
  obtain ⟨rfl, rfl⟩ := hr
  have hS : (s.heap.push (newSet w)).get? s.heap.objs.size = some (newSet w) := Heap.get?_push_size _ rfl
  have hT : Shared.TypeIs { s with heap := s.heap.push (newSet w) } (.ref s.heap.objs.size) "set" := ⟨_, hS, rfl⟩
  have hli := F.called_set.init.lookup
  have hbi := F.called_set.init.bind (.ref s.heap.objs.size)
  repeat (any_goals (first | assumption | wp_step))
  refine codeAny_mono (codeAny_call_builtin (R := wants (fun r s2 => r = .none ∧ ∃ h' tk L es ep t, s2 = { s with heap := h', toks := tk } ∧ NTab P w h' s.heap.objs.size L es ep t ∧ Took ks ks.length L ∧ ∀ b o, s.heap.get? b = some o → h'.get? b = some o) E) F.called_set.init.plain F.entry_set_init (check_set_init_1 hT ?_)) fun r2 s2 hr2 => ?_
  · obtain ⟨⟨ocls, odict, odata, oslots⟩, hol, hcl, nl, hdl⟩ := hl
    simp only at hcl hdl
    subst hcl; subst hdl
    have lS : l < s.heap.objs.size := Heap.lt_size hol
    have hol' : (s.heap.push (newSet w)).get? l = some { cls := .type "list", dict := odict, data := .seq items nl, slots := oslots } := Heap.get?_push_of_some _ hol
    have hsls := F.sub_list_set
    have hslf := F.sub_list_frozenset
    have hne : (Value.type "list" == Value.type "dict") = false := by decide
    have hl1 : (s.heap.push (newSet w)).IsList l items := ⟨_, hol', rfl, nl, rfl⟩
    unfold Builtin.«set.__init__» noKeywords Builtin.Frozenset.updateFrom
    generalize hPI : pyIter = PI
    wp_walk
    subst hPI
    refine wpAny_pyIter_list hl1 (wpAny_bind (wpAny_runValue ?_))
    have sz : (s.heap.push (newSet w)).objs.size = s.heap.objs.size + 1 := Heap.size_push ..
    have far : ∀ b, s.heap.objs.size ≤ b → s.heap.get? b = none := fun b hb => by
      cases z : s.heap.get? b with
      | none => rfl
      | some o => exact absurd (Nat.lt_of_lt_of_le (Heap.lt_size z) hb) (Nat.lt_irrefl _)
    have hval : ∀ (i : Nat) (v : Value), items[i]? = some v → ∃ p, ks[i]? = some p ∧ v = .ref p.1 := fun i v hv => by
      rw [← Array.getElem?_toList, hi, List.getElem?_map] at hv
      cases z : ks[i]? with
      | none => rw [z] at hv; cases hv
      | some p => rw [z] at hv; cases hv; exact ⟨p, rfl, rfl⟩
    refine filled ((Walks.list (by simp [hh]) (s.heap.push (newSet w)).objs.size l (Nat.ne_of_lt (by rw [sz]; exact Nat.lt_succ_of_lt lS)) items).toS) (S := s.heap.objs.size) (by
      rw [List.mem_cons, List.mem_singleton]
      rintro (z | z)
      · exact absurd z (Nat.ne_of_lt (by rw [sz]; exact Nat.lt_succ_self _))
      · exact absurd z (Nat.ne_of_gt lS)) ks isz few hval s.heap hk (far _ (Nat.le_refl _)) (fun b z => far b (by rw [List.mem_singleton.mp z, sz]; exact Nat.le_succ _))
      (by simp only [Around.in1_units]; omega) (items.size - 0) 0 _ (by omega) (Nat.zero_le _) ⟨⟨_, Heap.get?_push_size _ rfl, rfl, rfl⟩, hl1.push _⟩ (fun b o e => Heap.get?_push_of_some _ (Heap.get?_push_of_some _ e))
      ⟨[], #[], 0, _, ntab_new (Heap.get?_push_of_some _ hS), ⟨fun _ z => (nomatch z), fun _ _ z => absurd z (Nat.not_lt_zero _), Nat.le_refl _⟩⟩ ?_
    intro s' L es ep t mv T g kp
    obtain ⟨h', g2, d', tk', os'⟩ := s'
    obtain rfl : g2 = s.gens := mv.gens
    obtain rfl : d' = s.drawn := mv.drawn
    obtain rfl : os' = s.os := mv.os
    rw [isz] at g
    exact (show wpAny _ _ _ _ _ _ from wpAny_pure (show wpAny _ _ (ret Value.none) _ _ _ from wpAny_pure ⟨rfl, h', tk', L, es, ep, t, rfl, T, g, kp⟩))
  · cases r2 with
    | error e => exact hr2
    | ok fl2 =>
    cases fl2 with
    | next => exact hr2.elim
    | brk => exact hr2.elim
    | cont => exact hr2.elim
    | ret r =>
    obtain ⟨rfl, h', tk, L, es, ep, t, rfl, T, g, kp⟩ := hr2
    repeat (any_goals (first | assumption | wp_step))
    exact q _ _ _ _ _ _ T g kp
end
end Sh
namespace Sh
open PySem PySem.Spec PyProof.Rows L2
/-! ## what a value stands for -/
mutual
inductive RD (K : PySem.W.Frag) (F : Hp) : V → PyData → Prop
  | non : RD K F .non .none
  | bl (b : Bool) : RD K F (.bl b) (.bool b)
  | int (i : Int) : RD K F (.int i) (.int i)
  | str (x : Str) : RD K F (.str x) (.str x)
  | lst {a : Addr} {xs : List V} {ds : List PyData} : F a = some (.lst xs) → RDs K F xs ds → RD K F (.ref a) (.list ds)
  | tup {a : Addr} {xs : List V} {ds : List PyData} : F a = some (.tup xs) → RDs K F xs ds → RD K F (.ref a) (.tuple ds)
  | ktup {a : Addr} {xs : List V} {ds : List PyData} (o : Obj) (its : Array Value) (n : Nat) : K.lookup a = some o → o.cls = .type "tuple" → o.data = .seq its n → its.size ≤ sizeLine → Vals xs its.toList → RDs K F xs ds → RD K F (.ref a) (.tuple ds)
inductive RDs (K : PySem.W.Frag) (F : Hp) : List V → List PyData → Prop
  | nil : RDs K F [] []
  | cons {v : V} {vs : List V} {d : PyData} {ds : List PyData} : RD K F v d → RDs K F vs ds → RDs K F (v :: vs) (d :: ds)
end
section
variable {K : PySem.W.Frag} {F F' : Hp}
mutual
theorem RD.mono (e : Same F F') : ∀ {v : V} {d : PyData}, RD K F v d → RD K F' v d
  | _, _, .non => .non
  | _, _, .bl b => .bl b
  | _, _, .int i => .int i
  | _, _, .str x => .str x
  | _, _, .lst h r => .lst (e _ _ h) (RDs.mono e r)
  | _, _, .tup h r => .tup (e _ _ h) (RDs.mono e r)
  | _, _, .ktup o its n h1 h2 h3 h4 h5 r => .ktup o its n h1 h2 h3 h4 h5 (RDs.mono e r)
theorem RDs.mono (e : Same F F') : ∀ {vs : List V} {ds : List PyData}, RDs K F vs ds → RDs K F' vs ds
  | _, _, .nil => .nil
  | _, _, .cons r t => .cons (RD.mono e r) (RDs.mono e t)
end
mutual
theorem RD.dp : ∀ {v : V} {d : PyData}, RD K F v d → Dp K F v d
  | _, _, .non => .non
  | _, _, .bl b => .bl b
  | _, _, .int i => .int i
  | _, _, .str x => .str x
  | _, _, .lst h r => .lst (SqL.of h) (RDs.dp r)
  | _, _, .tup h r => .tup (SqT.of h) (RDs.dp r)
  | _, _, .ktup o its n h1 h2 h3 h4 h5 r => .tup (.inr ⟨o, its, n, h1, h2, h3, h4, h5⟩) (RDs.dp r)
theorem RDs.dp : ∀ {vs : List V} {ds : List PyData}, RDs K F vs ds → DpAll K F vs ds
  | _, _, .nil => .nil
  | _, _, .cons r t => .cons (RD.dp r) (RDs.dp t)
end
theorem RDs.length : ∀ {vs : List V} {ds : List PyData}, RDs K F vs ds → vs.length = ds.length
  | _, _, .nil => rfl
  | _, _, .cons _ t => congrArg (· + 1) (RDs.length t)
theorem RDs.append : ∀ {vs ws : List V} {ds es : List PyData}, RDs K F vs ds → RDs K F ws es → RDs K F (vs ++ ws) (ds ++ es)
  | _, _, _, _, .nil, s => s
  | _, _, _, _, .cons r t, s => .cons r (RDs.append t s)
theorem RDs.get : ∀ {vs : List V} {ds : List PyData} {i : Nat} {d : PyData}, RDs K F vs ds → ds[i]? = some d → ∃ v, vs[i]? = some v ∧ RD K F v d
  | _, _, 0, _, .cons r _, h => by cases h; exact ⟨_, rfl, r⟩
  | _, _, i + 1, d, .cons _ t, h => RDs.get (i := i) t (by simpa using h)
  | _, _, _, _, .nil, h => by simp at h
theorem RDs.set {v : V} {d : PyData} (r : RD K F v d) : ∀ {vs : List V} {ds : List PyData} (i : Nat), RDs K F vs ds → RDs K F (vs.set i v) (ds.set i d)
  | _, _, _, .nil => .nil
  | _, _, 0, .cons _ t => .cons r t
  | _, _, i + 1, .cons q t => .cons q (RDs.set r i t)
theorem RDs.take : ∀ {vs : List V} {ds : List PyData} (n : Nat), RDs K F vs ds → RDs K F (vs.take n) (ds.take n)
  | _, _, 0, _ => .nil
  | _, _, _ + 1, .nil => .nil
  | _, _, n + 1, .cons r t => .cons r (RDs.take n t)
theorem RDs.drop : ∀ {vs : List V} {ds : List PyData} (n : Nat), RDs K F vs ds → RDs K F (vs.drop n) (ds.drop n)
  | _, _, 0, r => r
  | _, _, _ + 1, .nil => .nil
  | _, _, n + 1, .cons _ t => RDs.drop n t
theorem RD.tupI {v : V} {ds : List PyData} (h : RD K F v (.tuple ds)) : ∃ a xs, v = .ref a ∧ SqT K F a xs ∧ RDs K F xs ds := by
  cases h with
  | tup h r => exact ⟨_, _, rfl, SqT.of h, r⟩
  | ktup o its n h1 h2 h3 h4 h5 r => exact ⟨_, _, rfl, .inr ⟨o, its, n, h1, h2, h3, h4, h5⟩, r⟩
theorem RD.lstI {v : V} {ds : List PyData} (h : RD K F v (.list ds)) : ∃ a xs, v = .ref a ∧ F a = some (.lst xs) ∧ RDs K F xs ds := by
  cases h with
  | lst h r => exact ⟨_, _, rfl, h, r⟩
theorem RD.intI {v : V} {i : Int} (h : RD K F v (.int i)) : v = .int i := by cases h; rfl
theorem RD.blI {v : V} {i : Bool} (h : RD K F v (.bool i)) : v = .bl i := by cases h; rfl
theorem RD.strI {v : V} {i : Str} (h : RD K F v (.str i)) : v = .str i := by cases h; rfl
theorem RD.nonI {v : V} (h : RD K F v .none) : v = .non := by cases h; rfl
theorem sql_sub {H : Hp} (e : Same F H) {a : Addr} {xs : List V} (h : SqL K F a xs) : SqL K H a xs := by
  rcases h with (h | ⟨o, h⟩) | h
  · exact .inl (.inl (e _ _ h))
  · exact .inl (.inr ⟨o, e _ _ h⟩)
  · exact .inr h
theorem RDs.ints : ∀ ns : List Int, RDs K F (ns.map V.int) (ns.map PyData.int)
  | [] => .nil
  | i :: ns => .cons (.int i) (RDs.ints ns)
theorem sqt_sub {H : Hp} (e : Same F H) {a : Addr} {xs : List V} (h : SqT K F a xs) : SqT K H a xs := by
  rcases h with (h | ⟨o, h⟩) | h
  · exact .inl (.inl (e _ _ h))
  · exact .inl (.inr ⟨o, e _ _ h⟩)
  · exact .inr h
end
/-! ## dicts -/
mutual
def toNK : PyData → Option NestedKey
  | .none => some .none
  | .bool b => some (.num (if b then 1 else 0))
  | .int i => some (.num i)
  | .str x => some (.text x)
  | .tuple xs => (toNKs xs).map .tup
  | _ => none
def toNKs : List PyData → Option (List NestedKey)
  | [] => some []
  | x :: xs => match toNK x, toNKs xs with
    | some k, some ks => some (k :: ks)
    | _, _ => none
end
/-- an entry: its key as a datum, its key, the key's tuple, its value as a datum, the value -/
structure DEnt where
  kd : PyData
  nk : NestedKey
  ka : Addr
  vd : PyData
  vv : Value
def dRow (x : DEnt) : NestedKey × Addr × Value := (x.nk, x.ka, x.vv)
/-- at a stands a dict of these entries -/
def dO (P : Program) (w : World) (a : Addr) (xs : List (NestedKey × Addr × Value)) : HO := .ext fun h => ∃ o es ep, h.get? a = some o ∧ o.ExactDict ∧ o.data = .dict es ep ∧ es.toList = xs.map (entryOfKey (nestedKind P w))
/-- this very object -/
def pinO (a : Addr) (o : Obj) : HO := .ext fun h => h.get? a = some o
/-- the object of a dict of these entries -/
def dEs (P : Program) (w : World) (o : Obj) (xs : List (NestedKey × Addr × Value)) : Prop := ∃ es ep, o.ExactDict ∧ o.data = .dict es ep ∧ es.toList = xs.map (entryOfKey (nestedKind P w))
/-- a set's element: as a datum, its key, its tuple -/
structure SEnt where
  sd : PyData
  nk : NestedKey
  ka : Addr
def sRow (x : SEnt) : Addr × NestedKey := (x.ka, x.nk)
/-- at a stands a set of these elements, in the table's order -/
def sO (w : World) (a : Addr) (L : List (Addr × NestedKey)) : HO := .ext fun h => ∃ es ep t, (∃ o, h.get? a = some o ∧ o.ExactSet ∧ o.data = .set es ep t) ∧ es.toList = L.map (ent w) ∧ TabOk t (L.map (hsh w)) ∧ (L.map Prod.snd).Nodup ∧ (w.params.followText "set-order" = true ∨ t.led = true) ∧ L.length * 5 < t.mask * 3 ∧ L.length < 64
/-- what the elements say -/
def SEnts (K : PySem.W.Frag) (F : Hp) (xs : List SEnt) : Prop := ∀ x ∈ xs, toNK x.sd = some x.nk ∧ x.nk.depth ≤ 8 ∧ RD K F (.ref x.ka) x.sd
/-- what the entries say -/
structure DEnts (K : PySem.W.Frag) (F : Hp) (xs : List DEnt) : Prop where
  key : ∀ x ∈ xs, toNK x.kd = some x.nk ∧ x.nk.depth ≤ 8 ∧ RD K F (.ref x.ka) x.kd
  val : ∀ x ∈ xs, ∃ v, RelV v x.vv ∧ RD K F v x.vd
  nd : (xs.map (·.nk)).Nodup
  len : xs.length ≤ 100000
def kvsOf (xs : List DEnt) : List (PyData × PyData) := xs.map fun x => (x.kd, x.vd)
/-- a value of the walk: a datum; a list that may still change, at its place; a dict that no longer changes -/
inductive W where
  | d (x : PyData)
  | box (a : Addr)
  | dct (kvs : List (PyData × PyData))
  | st (ds : List PyData)
  | scr (ns : List Int)
/-- what may still change: a list; a dict; a dict of lists that may still change -/
inductive MO where
  | l (xs : List PyData)
  | m (kvs : List (PyData × PyData))
  | g (kvs : List (PyData × Addr))
abbrev MM := Addr → Option MO
def mset (M : MM) (a : Addr) (o : MO) : MM := fun b => if b = a then some o else M b
def mdel (M : MM) (a : Addr) : MM := fun b => if b = a then none else M b
/-- the program's part that all is said over -/
structure Bs where
  P : Program
  w : World
  K : PySem.W.Frag
def RW (B : Bs) (F : Hp) (v : V) : W → Prop
  | .d x => RD B.K F v x
  | .box a => v = .ref a
  | .dct kvs => ∃ a o xs, v = .ref a ∧ (a == sysModules) = false ∧ F a = some (pinO a o) ∧ dEs B.P B.w o (xs.map dRow) ∧ DEnts B.K F xs ∧ kvsOf xs = kvs
  | .st ds => ∃ a xs, v = .ref a ∧ F a = some (sO B.w a (xs.map sRow)) ∧ SEnts B.K F xs ∧ xs.map (·.sd) = ds
  | .scr ns => ∃ a, v = .ref a ∧ SqL B.K F a (ns.map V.int)
def RM (B : Bs) (F H : Hp) (a : Addr) : MO → Prop
  | .l xs => ∃ vs, H a = some (.lst vs) ∧ RDs B.K F vs xs
  | .m kvs => ∃ xs, (a == sysModules) = false ∧ H a = some (dO B.P B.w a (xs.map dRow)) ∧ DEnts B.K F xs ∧ kvsOf xs = kvs
  | .g kvs => ∃ xs : List DEnt, (a == sysModules) = false ∧ H a = some (dO B.P B.w a (xs.map dRow)) ∧ (∀ x ∈ xs, toNK x.kd = some x.nk ∧ x.nk.depth ≤ 8 ∧ RD B.K F (.ref x.ka) x.kd) ∧ (xs.map (·.nk)).Nodup ∧ xs.length ≤ 100000 ∧
      xs.map (fun x => (x.kd, x.vv)) = kvs.map fun p => (p.1, Value.ref p.2)
/-- what may change stands apart from what no longer does -/
def MOk (B : Bs) (F : Hp) (M : MM) (H : Hp) : Prop := ∀ a o, M a = some o → F a = none ∧ RM B F H a o
end Sh
namespace Sh
open PySem PySem.Spec PyProof.Rows L2
theorem RW.mono {B : Bs} {F F' : Hp} (e : Same F F') {v : V} {w : W} (h : RW B F v w) : RW B F' v w := by
  cases w with
  | d x => exact RD.mono e h
  | box a => exact h
  | dct kvs =>
    obtain ⟨a, o, xs, h1, h2, h3, h6, h4, h5⟩ := h
    exact ⟨a, o, xs, h1, h2, e _ _ h3, h6, ⟨fun x hx => ⟨(h4.key x hx).1, (h4.key x hx).2.1, (h4.key x hx).2.2.mono e⟩, fun x hx => let ⟨v, a, b⟩ := h4.val x hx; ⟨v, a, b.mono e⟩, h4.nd, h4.len⟩, h5⟩
  | scr ns =>
    obtain ⟨a, h1, h2⟩ := h
    exact ⟨a, h1, sql_sub e h2⟩
  | st ds =>
    obtain ⟨a, xs, h1, h2, h3, h4⟩ := h
    exact ⟨a, xs, h1, e _ _ h2, fun x hx => ⟨(h3 x hx).1, (h3 x hx).2.1, (h3 x hx).2.2.mono e⟩, h4⟩
theorem DEnts.mono {K : PySem.W.Frag} {F F' : Hp} (e : Same F F') {xs : List DEnt} (h : DEnts K F xs) : DEnts K F' xs :=
  ⟨fun x hx => ⟨(h.key x hx).1, (h.key x hx).2.1, (h.key x hx).2.2.mono e⟩, fun x hx => let ⟨v, a, b⟩ := h.val x hx; ⟨v, a, b.mono e⟩, h.nd, h.len⟩
theorem RM.keep {B : Bs} {F F' H H' : Hp} {a : Addr} {o : MO} (e : Same F F') (k : ∀ u, H a = some u → H' a = some u) (h : RM B F H a o) : RM B F' H' a o := by
  cases o with
  | l xs =>
    obtain ⟨vs, h1, h2⟩ := h
    exact ⟨vs, k _ h1, h2.mono e⟩
  | m kvs =>
    obtain ⟨xs, h1, h2, h3, h4⟩ := h
    exact ⟨xs, h1, k _ h2, h3.mono e, h4⟩
  | g kvs =>
    obtain ⟨xs, h1, h2, h3, h4, h5, h6⟩ := h
    exact ⟨xs, h1, k _ h2, fun x hx => ⟨(h3 x hx).1, (h3 x hx).2.1, (h3 x hx).2.2.mono e⟩, h4, h5, h6⟩
/-- from one state of what is known to a later one -/
structure Pst (B : Bs) (F H : Hp) (M : MM) (F' H' : Hp) (M' : MM) : Prop where
  fz : Same F F'
  sub : Same F' H'
  mok : MOk B F' M' H'
  kp : ∀ b u, H b = some u → M b = none → H' b = some u ∧ M' b = none
  fk : ∀ b u, H b = some u → F b = none → M b = none → F' b = none
theorem Pst.refl {B : Bs} {F H : Hp} {M : MM} (s : Same F H) (m : MOk B F M H) : Pst B F H M F H M := ⟨Same.refl F, s, m, fun _ _ a b => ⟨a, b⟩, fun _ _ _ f _ => f⟩
theorem Pst.trans {B : Bs} {F H F1 H1 F2 H2 : Hp} {M M1 M2 : MM} (a : Pst B F H M F1 H1 M1) (b : Pst B F1 H1 M1 F2 H2 M2) : Pst B F H M F2 H2 M2 :=
  ⟨a.fz.trans b.fz, b.sub, b.mok, fun c u q n => let ⟨x, y⟩ := a.kp c u q n; b.kp c u x y, fun c u q f n => let ⟨x, y⟩ := a.kp c u q n; b.fk c u x (a.fk c u q f n) y⟩
/-- a new object that no longer changes -/
theorem Pst.new {B : Bs} {F H : Hp} {M : MM} {p : Addr} {o : HO} (s : Same F H) (m : MOk B F M H) (hp : H p = none) (hm : M p = none := by first | assumption | rfl) : Pst B F H M (upd F p o) (upd H p o) M := by
  have fp : F p = none := s.free hp
  refine ⟨fun b u q => by rw [upd_ne (ne_of_none q fp)]; exact q, fun b u q => ?_, fun a x q => ?_, fun b u q n => ⟨by rw [upd_ne (ne_of_none q hp)]; exact q, n⟩, fun b u q f _ => by rw [upd_ne (ne_of_none q hp)]; exact f⟩
  · by_cases hb : b = p
    · subst hb
      rw [upd_same] at q
      cases q
      exact upd_same
    · rw [upd_ne hb] at q ⊢
      exact s b u q
  · obtain ⟨h1, h2⟩ := m a x q
    have ne : a ≠ p := by
      rintro rfl
      rw [hm] at q
      cases q
    refine ⟨by rw [upd_ne ne]; exact h1, h2.keep (fun b u q => by rw [upd_ne (ne_of_none q fp)]; exact q) fun u q => by rw [upd_ne ne]; exact q⟩
/-- what M knows is tracked -/
theorem MOk.there {B : Bs} {F H : Hp} {M : MM} (m : MOk B F M H) {a : Addr} {o : MO} (h : M a = some o) : ∃ u, H a = some u := by
  obtain ⟨_, h2⟩ := m a o h
  cases o with
  | l xs => obtain ⟨vs, h1, _⟩ := h2; exact ⟨_, h1⟩
  | m kvs => obtain ⟨xs, _, h1, _⟩ := h2; exact ⟨_, h1⟩
  | g kvs => obtain ⟨xs, _, h1, _⟩ := h2; exact ⟨_, h1⟩
theorem MOk.free {B : Bs} {F H : Hp} {M : MM} (m : MOk B F M H) {a : Addr} (h : H a = none) : M a = none := by
  cases q : M a with
  | none => rfl
  | some o =>
    obtain ⟨u, hu⟩ := m.there q
    rw [h] at hu
    cases hu
abbrev En := List (Option W)
/-- the names of a frame -/
structure EOk (B : Bs) (F : Hp) (σ : L2.St) (δ : En) : Prop where
  len : δ.length = σ.length
  at_ : ∀ (i : Nat) (w : W), δ[i]? = some (some w) → ∃ v, σ[i]? = some (some v) ∧ RW B F v w
theorem EOk.mono {B : Bs} {F F' : Hp} {σ : L2.St} {δ : En} (e : Same F F') (h : EOk B F σ δ) : EOk B F' σ δ := ⟨h.len, fun i w q => let ⟨v, a, b⟩ := h.at_ i w q; ⟨v, a, b.mono e⟩⟩
theorem EOk.set {B : Bs} {F : Hp} {σ : L2.St} {δ : En} (h : EOk B F σ δ) {i : Nat} {v : V} {w : W} (r : RW B F v w) : EOk B F (σ.set i (some v)) (δ.set i (some w)) := by
  refine ⟨by rw [List.length_set, List.length_set]; exact h.len, fun j x q => ?_⟩
  by_cases hj : i = j
  · subst hj
    by_cases hl : i < δ.length
    · rw [List.getElem?_set_self hl] at q
      cases q
      exact ⟨v, by rw [List.getElem?_set_self (by rw [← h.len]; exact hl)], r⟩
    · rw [List.getElem?_eq_none (by rw [List.length_set]; omega)] at q
      cases q
  · rw [List.getElem?_set_ne hj] at q ⊢
    exact h.at_ j x q
/-- forgetting names -/
def wipeD (δ : En) : List Nat → En
  | [] => δ
  | v :: vs => (wipeD δ vs).set v none
theorem EOk.wipe {B : Bs} {F : Hp} {σ : L2.St} {δ : En} (h : EOk B F σ δ) : ∀ vs : List Nat, EOk B F (L2.wipe σ vs) (wipeD δ vs)
  | [] => h
  | v :: vs => by
    have ih := h.wipe vs
    unfold L2.wipe wipeD
    refine ⟨by rw [List.length_set, List.length_set]; exact ih.len, fun j x q => ?_⟩
    by_cases hj : v = j
    · subst hj
      by_cases hl : v < (wipeD δ vs).length
      · rw [List.getElem?_set_self hl] at q
        cases q
      · rw [List.getElem?_eq_none (by rw [List.length_set]; omega)] at q
        cases q
    · rw [List.getElem?_set_ne hj] at q ⊢
      exact ih.at_ j x q
/-- a state, as the walk knows it -/
structure SOk (B : Bs) (F : Hp) (M : MM) (σ : L2.St) (H : Hp) (δ : En) : Prop where
  sub : Same F H
  mok : MOk B F M H
  env : EOk B F σ δ
theorem SOk.after {B : Bs} {F H F' H' : Hp} {M M' : MM} {σ : L2.St} {δ : En} (s : SOk B F M σ H δ) (p : Pst B F H M F' H' M') : SOk B F' M' σ H' δ := ⟨p.sub, p.mok, s.env.mono p.fz⟩
theorem SOk.refl {B : Bs} {F H : Hp} {M : MM} {σ : L2.St} {δ : En} (s : SOk B F M σ H δ) : Pst B F H M F H M := Pst.refl s.sub s.mok
/-! ## readings lifted -/
abbrev WK := W → MM → Prop
abbrev RdE := En → MM → WK → Prop
abbrev RdT := En → MM → (Bool → MM → Prop) → Prop
abbrev RdA := En → MM → (List W → MM → Prop) → Prop
inductive RWs (B : Bs) (F : Hp) : List V → List W → Prop
  | nil : RWs B F [] []
  | cons {v : V} {vs : List V} {w : W} {ws : List W} : RW B F v w → RWs B F vs ws → RWs B F (v :: vs) (w :: ws)
theorem RWs.mono {B : Bs} {F F' : Hp} (e : Same F F') : ∀ {vs : List V} {ws : List W}, RWs B F vs ws → RWs B F' vs ws
  | _, _, .nil => .nil
  | _, _, .cons r t => .cons (RW.mono e r) (RWs.mono e t)
theorem RWs.length {B : Bs} {F : Hp} : ∀ {vs : List V} {ws : List W}, RWs B F vs ws → vs.length = ws.length
  | _, _, .nil => rfl
  | _, _, .cons _ t => congrArg (· + 1) (RWs.length t)
/-- what a value must do that stands for w behind M' -/
def KW (B : Bs) (F H : Hp) (M : MM) (QD : WK) (Q : VK) : Prop := ∀ (v : V) (w : W) (F' H' : Hp) (M' : MM), Pst B F H M F' H' M' → RW B F' v w → QD w M' → Q v H'
def KA (B : Bs) (F H : Hp) (M : MM) (QD : List W → MM → Prop) (Q : List V → Hp → Prop) : Prop := ∀ (vs : List V) (ws : List W) (F' H' : Hp) (M' : MM), Pst B F H M F' H' M' → RWs B F' vs ws → QD ws M' → Q vs H'
def KT (B : Bs) (F H : Hp) (M : MM) (QD : Bool → MM → Prop) (Q : Bool → Hp → Prop) : Prop := ∀ (b : Bool) (F' H' : Hp) (M' : MM), Pst B F H M F' H' M' → QD b M' → Q b H'
def liE (B : Bs) (R : RdE) : TE := fun σ H Q => ∃ F M δ QD, SOk B F M σ H δ ∧ R δ M QD ∧ KW B F H M QD Q
def liT (B : Bs) (R : RdT) : TT := fun σ H Q => ∃ F M δ QD, SOk B F M σ H δ ∧ R δ M QD ∧ KT B F H M QD Q
def liA (B : Bs) (R : RdA) : TA := fun σ H Q => ∃ F M δ QD, SOk B F M σ H δ ∧ R δ M QD ∧ KA B F H M QD Q
theorem PE.imp {X : Cx} {e : Expr} {t t' : TE} (h : PE X e t) (i : ∀ σ H Q, t' σ H Q → t σ H Q) : PE X e t' := ⟨fun pins s σ H Q I q => h.run pins s σ H Q I (i _ _ _ q)⟩
theorem PT.imp {X : Cx} {e : Expr} {t t' : TT} (h : PT X e t) (i : ∀ σ H Q, t' σ H Q → t σ H Q) : PT X e t' := ⟨fun pins s σ H Q I q => h.run pins s σ H Q I (i _ _ _ q)⟩
theorem PW.imp {X : Cx} {e : Expr} {t t' : TT} (h : PW X e t) (i : ∀ σ H Q, t' σ H Q → t σ H Q) : PW X e t' := ⟨fun wh pins s σ H Q I q => h.run wh pins s σ H Q I (i _ _ _ q)⟩
theorem PA.imp {X : Cx} {e : List Expr} {t t' : TA} (h : PA X e t) (i : ∀ σ H Q, t' σ H Q → t σ H Q) : PA X e t' := ⟨fun pos pins s σ H Q I q => h.run pos pins s σ H Q I (i _ _ _ q)⟩
theorem PS.imp {X : Cx} {e : Stmt} {t t' : TS} (h : PS X e t) (i : ∀ D σ H, t' D σ H → t D σ H) : PS X e t' := ⟨fun pins s σ H D I q => h.run pins s σ H D I (i _ _ _ q)⟩
theorem PSs.imp {X : Cx} {e : List Stmt} {t t' : TS} (h : PSs X e t) (i : ∀ D σ H, t' D σ H → t D σ H) : PSs X e t' := ⟨fun pins s σ H D I q => h.run pins s σ H D I (i _ _ _ q)⟩
/-- a value that is handed on as it is -/
theorem KW.go {B : Bs} {F H : Hp} {M : MM} {QD : WK} {Q : VK} (k : KW B F H M QD Q) {F' H' : Hp} {M' : MM} (p : Pst B F H M F' H' M') : KW B F' H' M' QD Q := fun v w F2 H2 M2 p2 r q => k v w F2 H2 M2 (p.trans p2) r q
section
variable {B : Bs} {X : Cx}
/-! ### two places, one place, many places: from the rule's reading to the walk's -/
abbrev O2 := W → W → MM → WK → Prop
abbrev O1 := W → MM → WK → Prop
abbrev ON := List W → MM → WK → Prop
def Br2 (B : Bs) (r : R2) (o : O2) : Prop := ∀ (F H : Hp) (M : MM) (x y : V) (w z : W) (QD : WK) (Q : VK), Same F H → MOk B F M H → RW B F x w → RW B F y z → o w z M QD → KW B F H M QD Q → r x y H Q
def Br1 (B : Bs) (r : V → Hp → VK → Prop) (o : O1) : Prop := ∀ (F H : Hp) (M : MM) (x : V) (w : W) (QD : WK) (Q : VK), Same F H → MOk B F M H → RW B F x w → o w M QD → KW B F H M QD Q → r x H Q
def BrN (B : Bs) (r : List V → Hp → VK → Prop) (o : ON) : Prop := ∀ (F H : Hp) (M : MM) (xs : List V) (ws : List W) (QD : WK) (Q : VK), Same F H → MOk B F M H → RWs B F xs ws → o ws M QD → KW B F H M QD Q → r xs H Q
def rd2 (ra rb : RdE) (o : O2) : RdE := fun δ M Q => ra δ M fun w M1 => rb δ M1 fun z M2 => o w z M2 Q
def rd1 (ra : RdE) (o : O1) : RdE := fun δ M Q => ra δ M fun w M1 => o w M1 Q
def rdN (ra : RdA) (o : ON) : RdE := fun δ M Q => ra δ M fun ws M1 => o ws M1 Q
theorem li_2 {ra rb : RdE} {r : R2} {o : O2} (b : Br2 B r o) : ∀ σ H Q, liE B (rd2 ra rb o) σ H Q → tOp r (liE B ra) (liE B rb) σ H Q := by
  rintro σ H Q ⟨F, M, δ, QD, s, h, k⟩
  refine ⟨F, M, δ, _, s, h, fun v w F1 H1 M1 p1 r1 h1 => ?_⟩
  refine ⟨F1, M1, δ, _, s.after p1, h1, fun u z F2 H2 M2 p2 r2 h2 => ?_⟩
  exact b F2 H2 M2 v u w z QD Q p2.sub p2.mok (r1.mono p2.fz) r2 h2 (k.go (p1.trans p2))
theorem li_1 {ra : RdE} {r : V → Hp → VK → Prop} {o : O1} (b : Br1 B r o) : ∀ σ H Q, liE B (rd1 ra o) σ H Q → tUn r (liE B ra) σ H Q := by
  rintro σ H Q ⟨F, M, δ, QD, s, h, k⟩
  refine ⟨F, M, δ, _, s, h, fun v w F1 H1 M1 p1 r1 h1 => ?_⟩
  exact b F1 H1 M1 v w QD Q p1.sub p1.mok r1 h1 (k.go p1)
theorem li_N {ra : RdA} {r : List V → Hp → VK → Prop} {o : ON} (b : BrN B r o) : ∀ σ H Q, liE B (rdN ra o) σ H Q → tCB r (liA B ra) σ H Q := by
  rintro σ H Q ⟨F, M, δ, QD, s, h, k⟩
  refine ⟨F, M, δ, _, s, h, fun v w F1 H1 M1 p1 r1 h1 => ?_⟩
  exact b F1 H1 M1 v w QD Q p1.sub p1.mok r1 h1 (k.go p1)
/-! ### argument lists -/
def rdNil : RdA := fun _ M Q => Q [] M
def rdCons (ra : RdE) (rr : RdA) : RdA := fun δ M Q => ra δ M fun w M1 => rr δ M1 fun ws M2 => Q (w :: ws) M2
theorem la_nil : PA X [] (liA B rdNil) := PA.imp pa_nil fun σ H Q ⟨F, M, δ, QD, s, h, k⟩ => k [] [] F H M s.refl .nil h
theorem la_cons {e : Expr} {es : List Expr} {ra : RdE} {rr : RdA} (ha : PE X e (liE B ra)) (hr : PA X es (liA B rr)) (hs : starEach (e :: es) X.env = (false, eval e X.env) :: starEach es X.env) : PA X (e :: es) (liA B (rdCons ra rr)) := by
  refine PA.imp (pa_cons ha hr hs) ?_
  rintro σ H Q ⟨F, M, δ, QD, s, h, k⟩
  refine ⟨F, M, δ, _, s, h, fun v w F1 H1 M1 p1 r1 h1 => ?_⟩
  refine ⟨F1, M1, δ, _, s.after p1, h1, fun vs ws F2 H2 M2 p2 r2 h2 => ?_⟩
  exact k (v :: vs) (w :: ws) F2 H2 M2 (p1.trans p2) (.cons (r1.mono p2.fz) r2) h2
/-! ### names, constants -/
def rdVar (i : Nat) : RdE := fun δ M Q => ∃ w, δ[i]? = some (some w) ∧ Q w M
theorem le_var {i : Nat} : ∀ σ H Q, liE B (rdVar i) σ H Q → tVar i σ H Q := by
  rintro σ H Q ⟨F, M, δ, QD, s, ⟨w, e, h⟩, k⟩
  obtain ⟨v, e1, r⟩ := s.env.at_ i w e
  exact ⟨v, e1, k v w F H M s.refl r h⟩
def rdC (x : PyData) : RdE := fun _ M Q => Q (.d x) M
theorem le_c {v : V} {x : PyData} (hr : ∀ F, RD B.K F v x) : ∀ σ H Q, liE B (rdC x) σ H Q → tC v σ H Q := by
  rintro σ H Q ⟨F, M, δ, QD, s, h, k⟩
  exact k v (.d x) F H M s.refl (hr F) h
/-! ### tests -/
def rdIf (rc : RdT) (ra rb : RdE) : RdE := fun δ M Q => rc δ M fun b M1 => if b = true then ra δ M1 Q else rb δ M1 Q
theorem le_if {rc : RdT} {ra rb : RdE} : ∀ σ H Q, liE B (rdIf rc ra rb) σ H Q → tIf (liT B rc) (liE B ra) (liE B rb) σ H Q := by
  rintro σ H Q ⟨F, M, δ, QD, s, h, k⟩
  refine ⟨F, M, δ, _, s, h, fun b F1 H1 M1 p1 h1 => ?_⟩
  cases b with
  | true => exact ⟨F1, M1, δ, QD, s.after p1, h1, k.go p1⟩
  | false => exact ⟨F1, M1, δ, QD, s.after p1, h1, k.go p1⟩
def rdB (ra : RdE) : RdT := fun δ M Q => ra δ M fun w M1 => ∃ b, w = .d (.bool b) ∧ Q b M1
theorem lt_B {ra : RdE} : ∀ σ H Q, liT B (rdB ra) σ H Q → tB (liE B ra) σ H Q := by
  rintro σ H Q ⟨F, M, δ, QD, s, h, k⟩
  refine ⟨F, M, δ, _, s, h, fun v w F1 H1 M1 p1 r1 ⟨b, e, h1⟩ => ?_⟩
  subst e
  exact ⟨b, RD.blI r1, k b F1 H1 M1 p1 h1⟩
theorem lt_Test {ra : RdE} : ∀ σ H Q, liT B (rdB ra) σ H Q → tTest (liE B ra) σ H Q := lt_B
def rdAndT (ra rb : RdT) : RdT := fun δ M Q => ra δ M fun b M1 => if b = true then rb δ M1 Q else Q false M1
def rdOrT (ra rb : RdT) : RdT := fun δ M Q => ra δ M fun b M1 => if b = true then Q true M1 else rb δ M1 Q
def rdNotT (ra : RdT) : RdT := fun δ M Q => ra δ M fun b M1 => Q (!b) M1
theorem KT.go {F H : Hp} {M : MM} {QD : Bool → MM → Prop} {Q : Bool → Hp → Prop} (k : KT B F H M QD Q) {F' H' : Hp} {M' : MM} (p : Pst B F H M F' H' M') : KT B F' H' M' QD Q := fun b F2 H2 M2 p2 q => k b F2 H2 M2 (p.trans p2) q
theorem lt_and {ra rb : RdT} : ∀ σ H Q, liT B (rdAndT ra rb) σ H Q → tAnd (liT B ra) (liT B rb) σ H Q := by
  rintro σ H Q ⟨F, M, δ, QD, s, h, k⟩
  refine ⟨F, M, δ, _, s, h, fun b F1 H1 M1 p1 h1 => ?_⟩
  cases b with
  | true => exact ⟨F1, M1, δ, QD, s.after p1, h1, k.go p1⟩
  | false => exact k false F1 H1 M1 p1 h1
theorem lt_or {ra rb : RdT} : ∀ σ H Q, liT B (rdOrT ra rb) σ H Q → tOr (liT B ra) (liT B rb) σ H Q := by
  rintro σ H Q ⟨F, M, δ, QD, s, h, k⟩
  refine ⟨F, M, δ, _, s, h, fun b F1 H1 M1 p1 h1 => ?_⟩
  cases b with
  | true => exact k true F1 H1 M1 p1 h1
  | false => exact ⟨F1, M1, δ, QD, s.after p1, h1, k.go p1⟩
theorem lt_not {ra : RdT} : ∀ σ H Q, liT B (rdNotT ra) σ H Q → tNot (liT B ra) σ H Q := by
  rintro σ H Q ⟨F, M, δ, QD, s, h, k⟩
  exact ⟨F, M, δ, _, s, h, fun b F1 H1 M1 p1 h1 => k (!b) F1 H1 M1 p1 h1⟩
def rdAndV (ra rb : RdE) : RdE := fun δ M Q => ra δ M fun w M1 => ∃ b, w = .d (.bool b) ∧ if b = true then rb δ M1 Q else Q (.d (.bool false)) M1
def rdOrV (ra rb : RdE) : RdE := fun δ M Q => ra δ M fun w M1 => ∃ b, w = .d (.bool b) ∧ if b = true then Q (.d (.bool true)) M1 else rb δ M1 Q
def rdNotV (ra : RdE) : RdE := fun δ M Q => ra δ M fun w M1 => ∃ b, w = .d (.bool b) ∧ Q (.d (.bool (!b))) M1
theorem le_andV {ra rb : RdE} : ∀ σ H Q, liE B (rdAndV ra rb) σ H Q → tAndV (liE B ra) (liE B rb) σ H Q := by
  rintro σ H Q ⟨F, M, δ, QD, s, h, k⟩
  refine ⟨F, M, δ, _, s, h, fun v w F1 H1 M1 p1 r1 ⟨b, e, h1⟩ => ⟨b, by subst e; exact RD.blI r1, ?_⟩⟩
  subst e
  cases b with
  | true => exact ⟨F1, M1, δ, QD, s.after p1, h1, k.go p1⟩
  | false => exact k (.bl false) (.d (.bool false)) F1 H1 M1 p1 (RD.bl false) h1
theorem le_orV {ra rb : RdE} : ∀ σ H Q, liE B (rdOrV ra rb) σ H Q → tOrV (liE B ra) (liE B rb) σ H Q := by
  rintro σ H Q ⟨F, M, δ, QD, s, h, k⟩
  refine ⟨F, M, δ, _, s, h, fun v w F1 H1 M1 p1 r1 ⟨b, e, h1⟩ => ⟨b, by subst e; exact RD.blI r1, ?_⟩⟩
  subst e
  cases b with
  | true => exact k (.bl true) (.d (.bool true)) F1 H1 M1 p1 (RD.bl true) h1
  | false => exact ⟨F1, M1, δ, QD, s.after p1, h1, k.go p1⟩
theorem le_notV {ra : RdE} : ∀ σ H Q, liE B (rdNotV ra) σ H Q → tNotV (liE B ra) σ H Q := by
  rintro σ H Q ⟨F, M, δ, QD, s, h, k⟩
  refine ⟨F, M, δ, _, s, h, fun v w F1 H1 M1 p1 r1 ⟨b, e, h1⟩ => ⟨b, by subst e; exact RD.blI r1, ?_⟩⟩
  subst e
  exact k (.bl (!b)) (.d (.bool (!b))) F1 H1 M1 p1 (RD.bl _) h1
/-! ### tuples, lists -/
/-- all of them data -/
def datas : List W → Option (List PyData)
  | [] => some []
  | .d x :: r => (datas r).map (x :: ·)
  | _ :: _ => none
theorem RWs.datas {F : Hp} : ∀ {vs : List V} {ws : List W} {ds : List PyData}, RWs B F vs ws → datas ws = some ds → RDs B.K F vs ds
  | _, _, ds, .nil, h => by cases h; exact .nil
  | _, _, ds, .cons (w := w) r t, h => by
    cases w with
    | d x =>
      unfold Sh.datas at h
      cases q : Sh.datas _ with
      | none => rw [q] at h; cases h
      | some ys =>
        rw [q] at h
        cases h
        exact .cons r (RWs.datas t q)
    | box a => cases h
    | dct k => cases h
    | st k => cases h
    | scr k => cases h
def rdTup (ra : RdA) (n : Nat) : RdE := fun δ M Q => ra δ M fun ws M1 => ∃ ds, datas ws = some ds ∧ ds.length ≤ 100000 ∧ Q (.d (.tuple ds)) M1
def rdLst (ra : RdA) (n : Nat) : RdE := fun δ M Q => ra δ M fun ws M1 => ∃ ds, datas ws = some ds ∧ ds.length ≤ 100000 ∧ Q (.d (.list ds)) M1
/-- a list of one's own -/
def rdBox (ra : RdA) (n : Nat) : RdE := fun δ M Q => ra δ M fun ws M1 => ∃ ds, datas ws = some ds ∧ ds.length ≤ 100000 ∧ ∀ a, M1 a = none → Q (.box a) (mset M1 a (.l ds))
theorem small5 {n : Nat} (h : n ≤ 100000) : n ≤ sizeLine := Nat.le_trans h (by decide)
theorem le_tup {ra : RdA} {n : Nat} : ∀ σ H Q, liE B (rdTup ra n) σ H Q → tTup (liA B ra) σ H Q := by
  rintro σ H Q ⟨F, M, δ, QD, s, h, k⟩
  refine ⟨F, M, δ, _, s, h, fun vs ws F1 H1 M1 p1 r1 ⟨ds, e, hl, h1⟩ => ?_⟩
  have rd := RWs.datas r1 e
  refine ⟨small5 (by rw [rd.length]; exact hl), fun p hp => ?_⟩
  have p2 := Pst.new (o := .tup vs) p1.sub p1.mok hp (p1.mok.free hp)
  exact k (.ref p) (.d (.tuple ds)) _ _ M1 (p1.trans p2) (RD.tup upd_same (rd.mono p2.fz)) h1
theorem le_lst {ra : RdA} {n : Nat} : ∀ σ H Q, liE B (rdLst ra n) σ H Q → tLst (liA B ra) σ H Q := by
  rintro σ H Q ⟨F, M, δ, QD, s, h, k⟩
  refine ⟨F, M, δ, _, s, h, fun vs ws F1 H1 M1 p1 r1 ⟨ds, e, hl, h1⟩ => ?_⟩
  have rd := RWs.datas r1 e
  refine ⟨small5 (by rw [rd.length]; exact hl), fun p hp => ?_⟩
  have p2 := Pst.new (o := .lst vs) p1.sub p1.mok hp (p1.mok.free hp)
  exact k (.ref p) (.d (.list ds)) _ _ M1 (p1.trans p2) (RD.lst upd_same (rd.mono p2.fz)) h1
/-- a new object that may change -/
theorem Pst.newM {F H : Hp} {M : MM} {p : Addr} {o : HO} {x : MO} (s : Same F H) (m : MOk B F M H) (hp : H p = none) (r : RM B F (upd H p o) p x) : Pst B F H M F (upd H p o) (mset M p x) := by
  have fp : F p = none := s.free hp
  have mp := m.free hp
  refine ⟨Same.refl F, fun b u q => by rw [upd_ne (ne_of_none q fp)]; exact s b u q, fun a y q => ?_, fun b u q n => ?_, fun _ _ _ f _ => f⟩
  · by_cases ha : a = p
    · subst ha
      have e : x = y := by
        unfold mset at q
        rw [if_pos rfl] at q
        exact Option.some.inj q
      subst e
      exact ⟨fp, r⟩
    · have q' : M a = some y := by
        unfold mset at q
        rw [if_neg ha] at q
        exact q
      obtain ⟨h1, h2⟩ := m a y q'
      exact ⟨h1, h2.keep (Same.refl F) fun u q => by rw [upd_ne ha]; exact q⟩
  · have ne := ne_of_none q hp
    refine ⟨by rw [upd_ne ne]; exact q, ?_⟩
    unfold mset
    rw [if_neg ne]
    exact n
theorem le_box {ra : RdA} {n : Nat} : ∀ σ H Q, liE B (rdBox ra n) σ H Q → tLst (liA B ra) σ H Q := by
  rintro σ H Q ⟨F, M, δ, QD, s, h, k⟩
  refine ⟨F, M, δ, _, s, h, fun vs ws F1 H1 M1 p1 r1 ⟨ds, e, hl, h1⟩ => ?_⟩
  have rd := RWs.datas r1 e
  refine ⟨small5 (by rw [rd.length]; exact hl), fun p hp => ?_⟩
  have p2 := Pst.newM (B := B) (o := .lst vs) (x := .l ds) p1.sub p1.mok hp ⟨vs, upd_same, rd⟩
  exact k (.ref p) (.box p) _ _ _ (p1.trans p2) rfl (h1 p (p1.mok.free hp))
/-- a list of one's own that is to change no more -/
def rdFrz (i : Nat) : RdE := fun δ M Q => ∃ a xs, δ[i]? = some (some (.box a)) ∧ M a = some (.l xs) ∧ Q (.d (.list xs)) (mdel M a)
theorem Pst.frz {F H : Hp} {M : MM} {a : Addr} {xs : List PyData} {vs : List V} (s : Same F H) (m : MOk B F M H) (ha : M a = some (.l xs)) (hv : H a = some (.lst vs)) : Pst B F H M (upd F a (.lst vs)) H (mdel M a) := by
  have fa : F a = none := (m a _ ha).1
  refine ⟨fun b u q => by rw [upd_ne (ne_of_none q fa)]; exact q, fun b u q => ?_, fun b y q => ?_, fun b u q n => ⟨q, ?_⟩, fun b u q f n => ?_⟩
  · by_cases hb : b = a
    · subst hb
      rw [upd_same] at q
      cases q
      exact hv
    · rw [upd_ne hb] at q
      exact s b u q
  · unfold mdel at q
    by_cases hb : b = a
    · rw [if_pos hb] at q
      cases q
    · rw [if_neg hb] at q
      obtain ⟨h1, h2⟩ := m b y q
      exact ⟨by rw [upd_ne hb]; exact h1, h2.keep (fun c u q => by rw [upd_ne (ne_of_none q fa)]; exact q) fun _ q => q⟩
  · unfold mdel
    split
    · rfl
    · exact n
  · rw [upd_ne (by rintro rfl; rw [ha] at n; cases n)]
    exact f
theorem le_frz {i : Nat} : ∀ σ H Q, liE B (rdFrz i) σ H Q → tVar i σ H Q := by
  rintro σ H Q ⟨F, M, δ, QD, s, ⟨a, xs, e, ha, h⟩, k⟩
  obtain ⟨v, e1, r⟩ := s.env.at_ i _ e
  obtain ⟨_, vs, hv, rd⟩ := s.mok a _ ha
  have p := Pst.frz s.sub s.mok ha hv
  refine ⟨v, e1, ?_⟩
  rw [show v = .ref a from r]
  exact k (.ref a) (.d (.list xs)) _ H _ p (RD.lst upd_same (rd.mono p.fz)) h
end
end Sh
namespace Sh
open PySem PySem.Spec PyProof.Rows L2
section
variable {B : Bs} {F H : Hp} {M : MM} {QD : WK} {Q : VK}
theorem KW.now (s : Same F H) (m : MOk B F M H) (k : KW B F H M QD Q) {v : V} {w : W} (r : RW B F v w) (q : QD w M) : Q v H := k v w F H M (Pst.refl s m) r q
theorem KW.dat (s : Same F H) (m : MOk B F M H) (k : KW B F H M QD Q) {v : V} {x : PyData} (r : RD B.K F v x) (q : QD (.d x) M) : Q v H := k v (.d x) F H M (Pst.refl s m) r q
theorem KW.int (s : Same F H) (m : MOk B F M H) (k : KW B F H M QD Q) {i : Int} (q : QD (.d (.int i)) M) : Q (.int i) H := k (.int i) (.d (.int i)) F H M (Pst.refl s m) (RD.int i) q
theorem KW.bl (s : Same F H) (m : MOk B F M H) (k : KW B F H M QD Q) {i : Bool} (q : QD (.d (.bool i)) M) : Q (.bl i) H := k (.bl i) (.d (.bool i)) F H M (Pst.refl s m) (RD.bl i) q
theorem KW.tup (s : Same F H) (m : MOk B F M H) (k : KW B F H M QD Q) {vs : List V} {ds : List PyData} (rd : RDs B.K F vs ds) (q : QD (.d (.tuple ds)) M) : ∀ p, H p = none → Q (.ref p) (upd H p (.tup vs)) := fun p hp =>
  have p2 := Pst.new (o := .tup vs) s m hp (m.free hp)
  k (.ref p) (.d (.tuple ds)) _ _ M p2 (RD.tup upd_same (rd.mono p2.fz)) q
theorem KW.lst (s : Same F H) (m : MOk B F M H) (k : KW B F H M QD Q) {vs : List V} {ds : List PyData} (rd : RDs B.K F vs ds) (q : QD (.d (.list ds)) M) : ∀ p, H p = none → Q (.ref p) (upd H p (.lst vs)) := fun p hp =>
  have p2 := Pst.new (o := .lst vs) s m hp (m.free hp)
  k (.ref p) (.d (.list ds)) _ _ M p2 (RD.lst upd_same (rd.mono p2.fz)) q
theorem KW.box (s : Same F H) (m : MOk B F M H) (k : KW B F H M QD Q) {vs : List V} {ds : List PyData} (rd : RDs B.K F vs ds) (q : ∀ a, M a = none → QD (.box a) (mset M a (.l ds))) : ∀ p, H p = none → Q (.ref p) (upd H p (.lst vs)) := fun p hp =>
  have p2 := Pst.newM (B := B) (o := .lst vs) (x := .l ds) s m hp ⟨vs, upd_same, rd⟩
  k (.ref p) (.box p) _ _ _ p2 rfl (q p (m.free hp))
end
/-! ## arithmetic -/
def MulOk (i j : Int) : Prop := ∃ a b : Nat, i.natAbs < 2 ^ a ∧ j.natAbs < 2 ^ b ∧ a + b ≤ 100000000
theorem MulOk.x {i j : Int} (h : MulOk i j) : CMulX i j := by
  obtain ⟨a, b, h1, h2, h3⟩ := h
  exact mulx_ok h1 h2 (by omega)
def DivOk (j : Int) : Prop := j ≠ 0 ∧ ∃ b : Nat, j.natAbs < 2 ^ b ∧ b ≤ 9000
inductive BO where
  | add | sub | mul | fdiv | mod | pow
def BO.py : BO → Operator
  | .add => .Add
  | .sub => .Sub
  | .mul => .Mult
  | .fdiv => .FloorDiv
  | .mod => .Mod
  | .pow => .Pow
def bo : BO → O2
  | .add, .d (.int i), .d (.int j), M, Q => Q (.d (.int (i + j))) M
  | .add, .d (.tuple xs), .d (.tuple ys), M, Q => xs.length + ys.length ≤ 100000 ∧ Q (.d (.tuple (xs ++ ys))) M
  | .add, .d (.list xs), .d (.list ys), M, Q => xs.length + ys.length ≤ 100000 ∧ Q (.d (.list (xs ++ ys))) M
  | .sub, .d (.int i), .d (.int j), M, Q => Q (.d (.int (i - j))) M
  | .mul, .d (.int i), .d (.int j), M, Q => MulOk i j ∧ Q (.d (.int (i * j))) M
  | .fdiv, .d (.int i), .d (.int j), M, Q => DivOk j ∧ Q (.d (.int (i.fdiv j))) M
  | .mod, .d (.int i), .d (.int j), M, Q => j ≠ 0 ∧ Q (.d (.int (i.fmod j))) M
  | .pow, .d (.int i), .d (.int j), M, Q => (0 ≤ j ∧ j ≤ 1000 ∧ i.natAbs < 2 ^ 64) ∧ Q (.d (.int (i ^ j.toNat))) M
  | _, _, _, _, _ => False
def CDivX (_ j : Int) : Prop := DivOk j
section
variable {X : Cx}
theorem op_fdivX : OpR X (binaryOp .FloorDiv) (rI CDivX fun i j => .int (i.fdiv j)) := opI fun i j _ _ _ _ _ hc q => by
  obtain ⟨h0, b, h1, h2⟩ := hc
  have h3 : j.natAbs < 2 ^ (b + 1) := Nat.lt_trans h1 (Nat.pow_lt_pow_right (by decide) (Nat.lt_succ_self b))
  refine floordiv_int h0 q (.inl (PyProof.noPylong_of_log2 ?_))
  have h4 : j.natAbs.log2 < b + 1 := PySem.Flt.log2_lt_of (Nat.succ_pos b) h3
  by_cases hb : b = 9000
  · have h5 : j.natAbs.log2 < b := PySem.Flt.log2_lt_of (by omega) h1
    omega
  · omega
def boR (K : PySem.W.Frag) : BO → R2
  | .add => fun x y H Q => rI0 (fun i j => .int (i + j)) x y H Q ∨ (rCatA K x y H Q ∨ rCat x y H Q)
  | .sub => rI0 fun i j => .int (i - j)
  | .mul => rI CMulX fun i j => .int (i * j)
  | .fdiv => rI CDivX fun i j => .int (i.fdiv j)
  | .mod => rI (fun _ j => j ≠ 0) fun i j => .int (i.fmod j)
  | .pow => rI CPow fun i j => .int (i ^ j.toNat)
theorem op_bo : ∀ o : BO, OpR X (binaryOp o.py) (boR X.K o)
  | .add => op_add.or (op_catA.or op_cat)
  | .sub => op_sub
  | .mul => op_mulX
  | .fdiv => op_fdivX
  | .mod => op_modN
  | .pow => op_pow
end
/-- the ways in which a two-place operation on data may go -/
theorem bo_cases {o : BO} {w z : W} {M : MM} {Q : WK} (h : bo o w z M Q) : (∃ i j, w = .d (.int i) ∧ z = .d (.int j)) ∨ (∃ xs ys, o = .add ∧ w = .d (.tuple xs) ∧ z = .d (.tuple ys)) ∨ ∃ xs ys, o = .add ∧ w = .d (.list xs) ∧ z = .d (.list ys) := by
  unfold bo at h
  split at h <;> first
    | exact .inl ⟨_, _, rfl, rfl⟩
    | exact .inr (.inl ⟨_, _, rfl, rfl, rfl⟩)
    | exact .inr (.inr ⟨_, _, rfl, rfl, rfl⟩)
    | exact h.elim
theorem br_bo {B : Bs} (o : BO) : Br2 B (boR B.K o) (bo o) := by
  intro F H M x y w z QD Q s m rx ry h k
  rcases bo_cases h with ⟨i, j, rfl, rfl⟩ | ⟨xs, ys, rfl, rfl, rfl⟩ | ⟨xs, ys, rfl, rfl, rfl⟩
  · have ex := RD.intI rx
    have ey := RD.intI ry
    subst ex ey
    cases o with
    | add => exact .inl ⟨i, j, rfl, rfl, k.int s m h⟩
    | sub => exact ⟨i, j, rfl, rfl, k.int s m h⟩
    | mul => exact ⟨i, j, rfl, rfl, h.1.x, k.int s m h.2⟩
    | fdiv => exact ⟨i, j, rfl, rfl, h.1, k.int s m h.2⟩
    | mod => exact ⟨i, j, rfl, rfl, h.1, k.int s m h.2⟩
    | pow => exact ⟨i, j, rfl, rfl, ⟨h.1.1, by have := h.1.2.1; omega, h.1.2.2⟩, k.int s m h.2⟩
  · obtain ⟨a, vs, rfl, sa, ra⟩ := RD.tupI rx
    obtain ⟨b, us, rfl, sb, rb⟩ := RD.tupI ry
    obtain ⟨hl, q⟩ := h
    refine .inr (.inl ⟨a, b, vs, us, rfl, rfl, (sqt_sub s sa), (sqt_sub s sb), by rw [ra.length, rb.length]; exact small5 hl, fun e => ?_, fun _ e => ?_, fun _ _ => k.tup s m (ra.append rb) q⟩)
    · subst e
      cases ra
      exact k.now s m ry q
    · subst e
      cases rb
      rw [List.append_nil] at q
      exact k.now s m rx q
  · obtain ⟨a, vs, rfl, sa, ra⟩ := RD.lstI rx
    obtain ⟨b, us, rfl, sb, rb⟩ := RD.lstI ry
    obtain ⟨hl, q⟩ := h
    exact .inr (.inr ⟨a, b, vs, us, rfl, rfl, s _ _ sa, s _ _ sb, by rw [ra.length, rb.length]; exact small5 hl, k.lst s m (ra.append rb) q⟩)
/-! ## how deep a datum is -/
def lev : Nat → PyData → Prop
  | _, .none => True
  | _, .bool _ => True
  | _, .int _ => True
  | _, .str x => x.cps.all (· < 0x110000) = true
  | 0, _ => False
  | n + 1, .tuple xs => ∀ x ∈ xs, lev n x
  | n + 1, .list xs => ∀ x ∈ xs, lev n x
  | _, .dict _ => False
theorem lev_mono : ∀ {n m : Nat} {d : PyData}, n ≤ m → lev n d → lev m d
  | n, m, .none, _, _ => by cases m <;> trivial
  | n, m, .bool _, _, _ => by cases m <;> trivial
  | n, m, .int _, _, _ => by cases m <;> trivial
  | n, m, .str x, _, h => by cases n <;> cases m <;> exact h
  | 0, _, .tuple _, _, h => h.elim
  | 0, _, .list _, _, h => h.elim
  | n + 1, 0, .tuple _, h, _ => absurd h (by omega)
  | n + 1, 0, .list _, h, _ => absurd h (by omega)
  | n + 1, m + 1, .tuple xs, e, h => fun x hx => lev_mono (Nat.le_of_succ_le_succ e) (h x hx)
  | n + 1, m + 1, .list xs, e, h => fun x hx => lev_mono (Nat.le_of_succ_le_succ e) (h x hx)
  | 0, _, .dict _, _, h => h.elim
  | n + 1, _, .dict _, _, h => h.elim
theorem canLayAll_of : ∀ {xs : List PyData}, (∀ x ∈ xs, x.canLay0 = true) → PyData.canLayAll0 xs = true
  | [], _ => rfl
  | x :: xs, h => by
    show (x.canLay0 && PyData.canLayAll0 xs) = true
    rw [h x List.mem_cons_self, canLayAll_of fun y hy => h y (List.mem_cons_of_mem _ hy)]
    rfl
theorem depthAll_of : ∀ {xs : List PyData} {n : Nat}, (∀ x ∈ xs, x.depth ≤ n) → PyData.depthAll xs ≤ n
  | [], _, _ => by simp [PyData.depthAll]
  | x :: xs, n, h => by
    have h1 := h x List.mem_cons_self
    have h2 := depthAll_of (xs := xs) fun y hy => h y (List.mem_cons_of_mem _ hy)
    simp only [PyData.depthAll]
    omega
theorem lev_can : ∀ {n : Nat} {d : PyData}, lev n d → d.canLay0 = true ∧ d.depth ≤ n + 1
  | n, .none, _ => ⟨rfl, by simp [PyData.depth]⟩
  | n, .bool _, _ => ⟨rfl, by simp [PyData.depth]⟩
  | n, .int _, _ => ⟨rfl, by simp [PyData.depth]⟩
  | n, .str x, h => ⟨by cases n <;> exact h, by simp [PyData.depth]⟩
  | 0, .tuple _, h => h.elim
  | 0, .list _, h => h.elim
  | n + 1, .tuple xs, h => by
    refine ⟨?_, ?_⟩
    · simp only [PyData.canLay0]
      exact canLayAll_of fun x hx => (lev_can (h x hx)).1
    · have := depthAll_of (xs := xs) (n := n + 1) fun x hx => (lev_can (h x hx)).2
      simp only [PyData.depth]
      omega
  | n + 1, .list xs, h => by
    refine ⟨?_, ?_⟩
    · simp only [PyData.canLay0]
      exact canLayAll_of fun x hx => (lev_can (h x hx)).1
    · have := depthAll_of (xs := xs) (n := n + 1) fun x hx => (lev_can (h x hx)).2
      simp only [PyData.depth]
      omega
  | 0, .dict _, h => h.elim
  | n + 1, .dict _, h => h.elim
theorem lev_shaped {n : Nat} {d : PyData} (h : lev n d) (hn : n ≤ 60) : SeqAt.shaped d = true := by
  obtain ⟨h1, h2⟩ := lev_can h
  unfold SeqAt.shaped
  rw [h1, decide_eq_true (show d.depth ≤ 64 by omega)]
  rfl
/-! ## comparisons -/
inductive CO where
  | eq | ne | lt | le | gt | ge | isN | notN | isB
def CO.py : CO → CmpOp
  | .eq => .Eq
  | .ne => .NotEq
  | .lt => .Lt
  | .le => .LtE
  | .gt => .Gt
  | .ge => .GtE
  | .isN => .Is
  | .notN => .IsNot
  | .isB => .Is
def isNone : W → Bool
  | .d .none => true
  | _ => false
def co : CO → W → W → (Bool → Prop) → Prop
  | .eq, .d a, .d b, Q => (lev 30 a ∧ lev 30 b) ∧ Q (PyData.eqv a b)
  | .ne, .d a, .d b, Q => (lev 30 a ∧ lev 30 b) ∧ Q (!PyData.eqv a b)
  | .lt, .d (.int i), .d (.int j), Q => Q (decide (i < j))
  | .le, .d (.int i), .d (.int j), Q => Q (decide (i ≤ j))
  | .gt, .d (.int i), .d (.int j), Q => Q (decide (j < i))
  | .ge, .d (.int i), .d (.int j), Q => Q (decide (j ≤ i))
  | .isN, w, .d .none, Q => Q (isNone w)
  | .notN, w, .d .none, Q => Q (!isNone w)
  | .isB, .d (.bool a), .d (.bool b), Q => Q (decide (a = b))
  | _, _, _, _ => False
def coO (o : CO) : O2 := fun w z M Q => co o w z fun b => Q (.d (.bool b)) M
def coR (K : PySem.W.Frag) : CO → R2
  | .eq => rEqD K
  | .ne => rNeD K
  | .lt => rI0 fun i j => .bl (decide (i < j))
  | .le => rI0 fun i j => .bl (decide (i ≤ j))
  | .gt => rI0 fun i j => .bl (decide (j < i))
  | .ge => rI0 fun i j => .bl (decide (j ≤ i))
  | .isN => fun x y H Q => y = .non ∧ Q (.bl (decide (x = .non))) H
  | .notN => fun x y H Q => y = .non ∧ Q (.bl (!decide (x = .non))) H
  | .isB => rIsB
theorem op_co {X : Cx} (hu : X.A.units + 64 < cLine) : ∀ o : CO, OpR X (compareOp o.py) (coR X.K o)
  | .eq => op_eqD hu
  | .ne => op_neD hu
  | .lt => op_lt
  | .le => op_le
  | .gt => op_gt
  | .ge => op_ge
  | .isN => op_isN
  | .notN => op_notN
  | .isB => op_isBl
theorem RW.isNone {B : Bs} {F : Hp} {v : V} {w : W} (r : RW B F v w) : decide (v = .non) = Sh.isNone w := by
  cases w with
  | d x =>
    cases x with
    | none => rw [RD.nonI r]; rfl
    | bool b => rw [RD.blI r]; rfl
    | int i => rw [RD.intI r]; rfl
    | str i => rw [RD.strI r]; rfl
    | list xs => obtain ⟨a, vs, rfl, _⟩ := RD.lstI r; rfl
    | tuple xs => obtain ⟨a, vs, rfl, _⟩ := RD.tupI r; rfl
    | dict kvs => cases r
  | box a => rw [show v = .ref a from r]; rfl
  | dct kvs => obtain ⟨a, o, xs, rfl, _⟩ := r; rfl
  | st ds => obtain ⟨a, xs, rfl, _⟩ := r; rfl
  | scr ns => obtain ⟨a, rfl, _⟩ := r; rfl
theorem br_co {B : Bs} (o : CO) : Br2 B (coR B.K o) (coO o) := by
  intro F H M x y w z QD Q s m rx ry h k
  have fin : ∀ b : Bool, QD (.d (.bool b)) M → Q (.bl b) H := fun b q => k.bl s m q
  unfold coO co at h
  split at h
  · exact ⟨_, _, (RD.mono s rx).dp, (RD.mono s ry).dp, lev_shaped h.1.1 (by decide), lev_shaped h.1.2 (by decide), fin _ h.2⟩
  · exact ⟨_, _, (RD.mono s rx).dp, (RD.mono s ry).dp, lev_shaped h.1.1 (by decide), lev_shaped h.1.2 (by decide), fin _ h.2⟩
  · exact ⟨_, _, RD.intI rx, RD.intI ry, fin _ h⟩
  · exact ⟨_, _, RD.intI rx, RD.intI ry, fin _ h⟩
  · exact ⟨_, _, RD.intI rx, RD.intI ry, fin _ h⟩
  · exact ⟨_, _, RD.intI rx, RD.intI ry, fin _ h⟩
  · refine ⟨RD.nonI ry, ?_⟩
    rw [rx.isNone]
    exact fin _ h
  · refine ⟨RD.nonI ry, ?_⟩
    rw [rx.isNone]
    exact fin _ h
  · exact ⟨_, _, RD.blI rx, RD.blI ry, fin _ h⟩
  · exact h.elim
/-- a, b, c in a chain -/
def rdChn (ra rb rc : RdE) (o o' : CO) : RdE := fun δ M Q => ra δ M fun w M1 => rb δ M1 fun z M2 => co o w z fun b => if b = true then rc δ M2 fun u M3 => co o' z u fun b' => Q (.d (.bool b')) M3 else Q (.d (.bool false)) M2
theorem le_chn {B : Bs} {ra rb rc : RdE} {o o' : CO} : ∀ σ H Q, liE B (rdChn ra rb rc o o') σ H Q → tChain (coR B.K o) (coR B.K o') (liE B ra) (liE B rb) (liE B rc) σ H Q := by
  rintro σ H Q ⟨F, M, δ, QD, s, h, k⟩
  refine ⟨F, M, δ, _, s, h, fun v w F1 H1 M1 p1 r1 h1 => ?_⟩
  refine ⟨F1, M1, δ, _, s.after p1, h1, fun u z F2 H2 M2 p2 r2 h2 => ?_⟩
  refine br_co o F2 H2 M2 v u w z (fun x M3 => ∃ b, x = .d (.bool b) ∧ M3 = M2 ∧ if b = true then rc δ M2 fun u M3 => co o' z u fun b' => QD (.d (.bool b')) M3 else QD (.d (.bool false)) M2) _ p2.sub p2.mok (r1.mono p2.fz) r2 ?_ ?_
  · have mono : ∀ (o : CO) (w z : W) (Q Q' : Bool → Prop), (∀ b, Q b → Q' b) → co o w z Q → co o w z Q' := by
      intro o w z Q Q' i h
      unfold co at h ⊢
      split at h <;> first | exact ⟨h.1, i _ h.2⟩ | exact i _ h | exact h.elim
    exact mono o w z _ _ (fun b q => ⟨b, rfl, rfl, q⟩) h2
  · rintro x y F3 H3 M3 p3 r3 ⟨b, rfl, rfl, q⟩
    refine ⟨b, RD.blI r3, ?_⟩
    cases b with
    | true =>
      refine ⟨F3, M3, δ, _, (s.after (p1.trans p2)).after p3, q, fun a c F4 H4 M4 p4 r4 h4 => ?_⟩
      exact br_co o' F4 H4 M4 u a z c QD Q p4.sub p4.mok ((r2.mono p3.fz).mono p4.fz) r4 h4 (k.go (((p1.trans p2).trans p3).trans p4))
    | false => exact k (.bl false) (.d (.bool false)) _ _ _ ((p1.trans p2).trans p3) (RD.bl false) q
/-! ## one place -/
def negO : O1 := fun w M Q => match w with
  | .d (.int i) => Q (.d (.int (-i))) M
  | _ => False
theorem br_neg {B : Bs} : Br1 B (rU fun i => .int (-i)) negO := by
  intro F H M x w QD Q s m rx h k
  unfold negO at h
  split at h
  · exact ⟨_, RD.intI rx, k.int s m h⟩
  · exact h.elim
/-! ## subscripts -/
def ixO : O2 := fun w z M Q => match w, z with
  | .d (.tuple xs), .d (.int i) => ∃ x, atI xs i = some x ∧ Q (.d x) M
  | .d (.list xs), .d (.int i) => ∃ x, atI xs i = some x ∧ Q (.d x) M
  | .box a, .d (.int i) => ∃ xs x, M a = some (.l xs) ∧ atI xs i = some x ∧ Q (.d x) M
  | _, _ => False
theorem RDs.atI {K : PySem.W.Frag} {F : Hp} {vs : List V} {ds : List PyData} (r : RDs K F vs ds) {i : Int} {d : PyData} (h : L2.atI ds i = some d) : ∃ v, L2.atI vs i = some v ∧ RD K F v d := by
  unfold L2.atI at h ⊢
  rw [r.length]
  cases e : ixN ds.length i with
  | none => rw [e] at h; cases h
  | some j =>
    rw [e] at h
    exact RDs.get r h
theorem br_ix {B : Bs} : Br2 B (rIx B.K) ixO := by
  intro F H M x y w z QD Q s m rx ry h k
  unfold ixO at h
  split at h
  · obtain ⟨d, e, q⟩ := h
    obtain ⟨a, vs, rfl, sa, ra⟩ := RD.tupI rx
    obtain ⟨v, e2, r⟩ := ra.atI e
    exact .inr (.inl ⟨a, vs, _, v, rfl, RD.intI ry, (sqt_sub s sa), e2, k.dat s m r q⟩)
  · obtain ⟨d, e, q⟩ := h
    obtain ⟨a, vs, rfl, sa, ra⟩ := RD.lstI rx
    obtain ⟨v, e2, r⟩ := ra.atI e
    exact .inl ⟨a, vs, _, v, rfl, RD.intI ry, SqL.of (s _ _ sa), e2, k.dat s m r q⟩
  · obtain ⟨xs, d, ha, e, q⟩ := h
    obtain ⟨_, vs, hv, ra⟩ := m _ _ ha
    obtain ⟨v, e2, r⟩ := ra.atI e
    exact .inl ⟨_, vs, _, v, rx, RD.intI ry, SqL.of hv, e2, k.dat s m r q⟩
  · exact h.elim
/-! ## slices -/
def cutD (xs : List PyData) (lo hi : Option Int) : List PyData := (xs.drop (HT.sIx xs.length 0 lo)).take (HT.sIx xs.length xs.length hi - HT.sIx xs.length 0 lo)
def slO : W → Option Int → Option Int → MM → WK → Prop := fun w lo hi M Q => match w with
  | .d (.tuple xs) => Q (.d (.tuple (cutD xs lo hi))) M
  | .d (.list xs) => Q (.d (.list (cutD xs lo hi))) M
  | .scr ns => Q (.d (.list (cutD (ns.map .int) lo hi))) M
  | _ => False
theorem RDs.cut {K : PySem.W.Frag} {F : Hp} {vs : List V} {ds : List PyData} (r : RDs K F vs ds) (lo hi : Option Int) : RDs K F (cutV vs lo hi) (cutD ds lo hi) := by
  unfold cutV cutD
  rw [r.length]
  exact (r.drop _).take _
abbrev RdO := En → MM → (Option Int → MM → Prop) → Prop
def KO (B : Bs) (F H : Hp) (M : MM) (QD : Option Int → MM → Prop) (Q : Option Int → Hp → Prop) : Prop := ∀ (o : Option Int) (F' H' : Hp) (M' : MM), Pst B F H M F' H' M' → QD o M' → Q o H'
def liO (B : Bs) (R : RdO) : TO := fun σ H Q => ∃ F M δ QD, SOk B F M σ H δ ∧ R δ M QD ∧ KO B F H M QD Q
def rdONone : RdO := fun _ M Q => Q none M
def rdOSome (ra : RdE) : RdO := fun δ M Q => ra δ M fun w M1 => ∃ i, w = .d (.int i) ∧ Q (some i) M1
theorem PO.imp {X : Cx} {e : Option Expr} {t t' : TO} (h : PO X e t) (i : ∀ σ H Q, t' σ H Q → t σ H Q) : PO X e t' := ⟨fun pins s σ H Q I q => h.run pins s σ H Q I (i _ _ _ q)⟩
theorem lo_none {B : Bs} {X : Cx} : PO X none (liO B rdONone) := PO.imp po_none fun σ H Q ⟨F, M, δ, QD, s, h, k⟩ => k none F H M s.refl h
theorem lo_some {B : Bs} {X : Cx} {e : Expr} {ra : RdE} (ha : PE X e (liE B ra)) : PO X (some e) (liO B (rdOSome ra)) := by
  refine PO.imp (po_some ha) ?_
  rintro σ H Q ⟨F, M, δ, QD, s, h, k⟩
  refine ⟨F, M, δ, _, s, h, fun v w F1 H1 M1 p1 r1 ⟨i, e, h1⟩ => ⟨i, ?_, k _ F1 H1 M1 p1 h1⟩⟩
  subst e
  exact RD.intI r1
def rdSl (ra : RdE) (rl rh : RdO) : RdE := fun δ M Q => ra δ M fun w M1 => rl δ M1 fun l M2 => rh δ M2 fun h M3 => slO w l h M3 Q
def rSlB (K : PySem.W.Frag) : V → Option Int → Option Int → Hp → VK → Prop := fun x lo hi H Q => rSlA K x lo hi H Q ∨ rSlL K x lo hi H Q
theorem sl_both {X : Cx} : SlR X (rSlB X.K) := sl_tupA.or sl_list
theorem le_sl {B : Bs} {ra : RdE} {rl rh : RdO} : ∀ σ H Q, liE B (rdSl ra rl rh) σ H Q → tSl (rSlB B.K) (liE B ra) (liO B rl) (liO B rh) σ H Q := by
  rintro σ H Q ⟨F, M, δ, QD, s, h, k⟩
  refine ⟨F, M, δ, _, s, h, fun v w F1 H1 M1 p1 r1 h1 => ?_⟩
  refine ⟨F1, M1, δ, _, s.after p1, h1, fun l F2 H2 M2 p2 h2 => ?_⟩
  refine ⟨F2, M2, δ, _, s.after (p1.trans p2), h2, fun u F3 H3 M3 p3 h3 => ?_⟩
  have r3 := (r1.mono p2.fz).mono p3.fz
  have k3 := k.go ((p1.trans p2).trans p3)
  unfold slO at h3
  split at h3
  · rename_i xs
    obtain ⟨a, vs, rfl, sa, ra⟩ := RD.tupI r3
    refine .inl ⟨a, vs, rfl, (sqt_sub p3.sub sa), fun e => ?_, fun _ => k3.tup p3.sub p3.mok (ra.cut l u) h3⟩
    have e2 : cutD xs l u = xs := by
      unfold cutD
      rw [ra.length] at e
      rw [e.1, e.2, List.drop_zero, Nat.sub_zero, List.take_length]
    rw [e2] at h3
    exact k3.now p3.sub p3.mok r3 h3
  · obtain ⟨a, vs, rfl, sa, ra⟩ := RD.lstI r3
    exact .inr ⟨a, vs, rfl, SqL.of (p3.sub _ _ sa), k3.lst p3.sub p3.mok (ra.cut l u) h3⟩
  · rename_i ns
    obtain ⟨a, rfl, sa⟩ := r3
    exact .inr ⟨a, _, rfl, sql_sub p3.sub sa, k3.lst p3.sub p3.mok ((RDs.ints ns).cut l u) h3⟩
  · exact h3.elim
end Sh
namespace Sh
open PySem PySem.Spec PyProof.Rows L2
/-! ## sorted(a list of data) -/
def sortD (ds : List PyData) : List PyData := ds.mergeSort (PySem.W.dataLe false id)
def SortOk (ds : List PyData) : Prop := PySem.W.AllAlike ds ∧ PySem.W.Sortable ds ∧ ∀ d ∈ ds, lev 30 d
def RV (K : PySem.W.Frag) (F : Hp) (u : Value) (d : PyData) : Prop := ∃ x, RelV x u ∧ RD K F x d
theorem each_of {K : PySem.W.Frag} {F : Hp} : ∀ {xs : List V} {us : List Value} {ds : List PyData}, Vals xs us → RDs K F xs ds → PySem.W.EachIs (RV K F) us ds
  | _, _, _, .nil, .nil => .nil
  | _, _, _, .cons r t, .cons q u => .cons ⟨_, r, q⟩ (each_of t u)
theorem of_each {K : PySem.W.Frag} {F : Hp} : ∀ {us : List Value} {ds : List PyData}, PySem.W.EachIs (RV K F) us ds → ∃ xs, Vals xs us ∧ RDs K F xs ds
  | _, _, .nil => ⟨[], .nil, .nil⟩
  | _, _, .cons h t => by
    obtain ⟨x, r, q⟩ := h
    obtain ⟨xs, r2, q2⟩ := of_each t
    exact ⟨x :: xs, .cons r r2, .cons q q2⟩
theorem each_reads {X : Cx} {pins : List (Addr × Obj)} {σ : L2.St} {H : Hp} {s : Shared} (I : Inv X pins σ H s) {us : List Value} {ds : List PyData} (e : PySem.W.EachIs (RV X.K H) us ds) : PySem.W.EachIs (fun v b => ∃ as, Reads s.heap v (id b) as) us ds :=
  e.mono fun u d ⟨x, r, q⟩ => Dp.reads I d x u q.dp r
theorem map_id_eq {ds : List PyData} : ds.map (id : PyData → PyData) = ds := List.map_id ds
theorem sortD_len (ds : List PyData) : (sortD ds).length = ds.length := List.length_mergeSort _
section
variable {X : Cx}
/-- the sort of a list object that has just been made, or of one that stands -/
def rSortD (K : PySem.W.Frag) : List V → Hp → VK → Prop := fun vs H Q => ∃ a xs ds F, vs = [.ref a] ∧ SqL K H a xs ∧ Same F H ∧ RDs K F xs ds ∧ SortOk ds ∧ ∀ p ys, H p = none → RDs K F ys (sortD ds) → Q (.ref p) (upd H p (.lst ys))
theorem cr_sortD (hu : X.A.units + 64 < cLine) : CallR X (.builtin "sorted") (rSortD X.K) := by
  intro pins s σ H vs us Q I r h
  obtain ⟨a, xs, ds, F, rfl, hs, sub, hd, ⟨al, so, lv⟩, q⟩ := h
  obtain ⟨its, rv, hl, hz⟩ := I.list hs
  have ev : us = [Value.ref a] := Vals.ref1 r
  subst ev
  have e := each_of rv hd
  have hlen : ds.length ≤ sizeLine := by rw [← hd.length]; exact hz
  refine PySem.W.sorted_data (enc := id) (bs := ds) (R := RV X.K F) hl.isList e (each_reads I (e.mono fun _ _ ⟨x, r, q⟩ => ⟨x, r, q.mono sub⟩)) (by rw [map_id_eq]; exact al) (by rw [map_id_eq]; exact so) hlen (fun b hb => ?_) fun out ho eo => ?_
  · have := (lev_can (lv b hb)).2
    show X.A.units + 2 + b.depth < cLine
    omega
  · obtain ⟨ys, r1, r2⟩ := of_each eo
    obtain ⟨c, hc⟩ := sortedAll_at s.heap its out.toArray
    have kp : ∀ b u, s.heap.get? b = some u → (sortedAll s.heap its out.toArray).get? b = some u := fun b u => sortedAll_old
    refine ⟨.ref (s.heap.objs.size + 1), upd H (s.heap.objs.size + 1) (.lst ys), I.laid (t' := s.toks) kp (Nat.le_succ _) ⟨?_, out, c, r1, hc⟩, rfl, q _ ys (I.hok.fresh (Nat.le_succ _)) r2⟩
    rw [r2.length, List.length_mergeSort]
    exact hlen
end
/-! ## calls of built-ins -/
inductive BN where
  | len | abs | int | gcd | tuple | list | all | sorted
def allB : List PyData → Option Bool
  | [] => some true
  | .bool b :: r => (allB r).map (b && ·)
  | _ :: _ => none
def bn : BN → ON
  | .len, [.d (.tuple xs)], M, Q => Q (.d (.int (xs.length : Int))) M
  | .len, [.d (.list xs)], M, Q => Q (.d (.int (xs.length : Int))) M
  | .abs, [.d (.int i)], M, Q => Q (.d (.int (i.natAbs : Int))) M
  | .int, [.d (.int i)], M, Q => Q (.d (.int i)) M
  | .int, [.d (.bool b)], M, Q => Q (.d (.int (if b then 1 else 0))) M
  | .gcd, [.d (.int a), .d (.int b)], M, Q => Q (.d (.int ((Nat.gcd a.natAbs b.natAbs : Nat) : Int))) M
  | .tuple, [.d (.list xs)], M, Q => Q (.d (.tuple xs)) M
  | .tuple, [.d (.tuple xs)], M, Q => Q (.d (.tuple xs)) M
  | .list, [.d (.tuple xs)], M, Q => Q (.d (.list xs)) M
  | .list, [.d (.list xs)], M, Q => Q (.d (.list xs)) M
  | .all, [.d (.list xs)], M, Q => ∃ b, allB xs = some b ∧ Q (.d (.bool b)) M
  | .sorted, [.d (.list xs)], M, Q => SortOk xs ∧ Q (.d (.list (sortD xs))) M
  | _, _, _, _ => False
def BN.name : BN → Str
  | .len => "len"
  | .abs => "abs"
  | .int => "int"
  | .gcd => "gcd"
  | .tuple => "tuple"
  | .list => "list"
  | .all => "all"
  | .sorted => "sorted"
def BN.val : BN → Value
  | .len => .builtin "len"
  | .abs => .builtin "abs"
  | .int => .type "int"
  | .gcd => .builtin "math.gcd"
  | .tuple => .type "tuple"
  | .list => .type "list"
  | .all => .builtin "all"
  | .sorted => .builtin "sorted"
def bnR (K : PySem.W.Frag) : BN → List V → Hp → VK → Prop
  | .len => fun xs H Q => ∃ x n, xs = [x] ∧ LenV K x H n ∧ Q (.int n) H
  | .abs => fun xs H Q => ∃ i, xs = [.int i] ∧ Q (.int (if i < 0 then -i else i)) H
  | .int => fun xs H Q => (∃ i, xs = [.int i] ∧ Q (.int i) H) ∨ ∃ k, xs = [.bl k] ∧ Q (.int (if k then 1 else 0)) H
  | .gcd => rGcd
  | .tuple => fun xs H Q => ∃ p ys, xs = [.ref p] ∧ ((SqL K H p ys ∧ ∀ l, H l = none → Q (.ref l) (upd H l (.tup ys))) ∨ (SqT K H p ys ∧ Q (.ref p) H))
  | .list => fun xs H Q => ∃ p ys, xs = [.ref p] ∧ (SqL K H p ys ∨ SqT K H p ys) ∧ ∀ l, H l = none → Q (.ref l) (upd H l (.lst ys))
  | .all => rAll K
  | .sorted => rSortD K
theorem cr_bn {X : Cx} (hc : X.calm = true) (hu : X.A.units + 64 < cLine) : ∀ b : BN, CallR X b.val (bnR X.K b)
  | .len => call_len
  | .abs => call_abs
  | .int => call_int1
  | .gcd => cr_gcd
  | .tuple => call_tuple_of
  | .list => call_list_of
  | .all => cr_all hc
  | .sorted => cr_sortD hu
theorem RWs.one {B : Bs} {F : Hp} {vs : List V} {w : W} (h : RWs B F vs [w]) : ∃ v, vs = [v] ∧ RW B F v w := by
  cases h with
  | cons r t =>
    cases t
    exact ⟨_, rfl, r⟩
theorem RWs.two {B : Bs} {F : Hp} {vs : List V} {w z : W} (h : RWs B F vs [w, z]) : ∃ v u, vs = [v, u] ∧ RW B F v w ∧ RW B F u z := by
  cases h with
  | cons r t =>
    cases t with
    | cons r2 t =>
      cases t
      exact ⟨_, _, rfl, r, r2⟩
theorem allB_is {K : PySem.W.Frag} {F : Hp} : ∀ {vs : List V} {xs : List PyData} {b : Bool}, RDs K F vs xs → allB xs = some b → ∃ bs : List Bool, vs = bs.map V.bl ∧ bs.all id = b
  | _, _, b, .nil, h => by cases h; exact ⟨[], rfl, rfl⟩
  | _, _, b, .cons (d := d) r t, h => by
    cases d with
    | bool c =>
      unfold allB at h
      cases e : allB _ with
      | none => rw [e] at h; cases h
      | some b' =>
        rw [e] at h
        cases h
        obtain ⟨bs, h1, h2⟩ := allB_is t e
        exact ⟨c :: bs, by rw [RD.blI r, h1]; rfl, by rw [List.all_cons, h2]; rfl⟩
    | _ => cases h
theorem abs_eq (i : Int) : (if i < 0 then -i else i) = (i.natAbs : Int) := by split <;> omega
theorem br_bn {B : Bs} (b : BN) : BrN B (bnR B.K b) (bn b) := by
  intro F H M xs ws QD Q s m rs h k
  unfold bn at h
  split at h
  · obtain ⟨v, rfl, r⟩ := rs.one
    obtain ⟨a, vs, rfl, sa, ra⟩ := RD.tupI r
    exact ⟨_, _, rfl, .inr ⟨vs, sqt_sub s sa, rfl⟩, k.int s m (by rw [ra.length]; exact h)⟩
  · obtain ⟨v, rfl, r⟩ := rs.one
    obtain ⟨a, vs, rfl, sa, ra⟩ := RD.lstI r
    exact ⟨_, _, rfl, .inl ⟨vs, SqL.of (s _ _ sa), rfl⟩, k.int s m (by rw [ra.length]; exact h)⟩
  · obtain ⟨v, rfl, r⟩ := rs.one
    refine ⟨_, by rw [RD.intI r], k.int s m ?_⟩
    rw [abs_eq]
    exact h
  · obtain ⟨v, rfl, r⟩ := rs.one
    exact .inl ⟨_, by rw [RD.intI r], k.int s m h⟩
  · obtain ⟨v, rfl, r⟩ := rs.one
    exact .inr ⟨_, by rw [RD.blI r], k.int s m h⟩
  · obtain ⟨v, u, rfl, r, r2⟩ := rs.two
    exact ⟨_, _, by rw [RD.intI r, RD.intI r2], k.int s m h⟩
  · obtain ⟨v, rfl, r⟩ := rs.one
    obtain ⟨a, vs, rfl, sa, ra⟩ := RD.lstI r
    exact ⟨a, vs, rfl, .inl ⟨SqL.of (s _ _ sa), k.tup s m ra h⟩⟩
  · obtain ⟨v, rfl, r⟩ := rs.one
    obtain ⟨a, vs, rfl, sa, ra⟩ := RD.tupI r
    exact ⟨a, vs, rfl, .inr ⟨sqt_sub s sa, k.dat s m r h⟩⟩
  · obtain ⟨v, rfl, r⟩ := rs.one
    obtain ⟨a, vs, rfl, sa, ra⟩ := RD.tupI r
    exact ⟨a, vs, rfl, .inr (sqt_sub s sa), k.lst s m ra h⟩
  · obtain ⟨v, rfl, r⟩ := rs.one
    obtain ⟨a, vs, rfl, sa, ra⟩ := RD.lstI r
    exact ⟨a, vs, rfl, .inl (SqL.of (s _ _ sa)), k.lst s m ra h⟩
  · obtain ⟨v, rfl, r⟩ := rs.one
    obtain ⟨a, vs, rfl, sa, ra⟩ := RD.lstI r
    obtain ⟨b, e, q⟩ := h
    obtain ⟨bs, h1, h2⟩ := allB_is ra e
    subst h1
    exact ⟨a, bs, rfl, SqL.of (s _ _ sa), k.bl s m (by rw [h2]; exact q)⟩
  · obtain ⟨v, rfl, r⟩ := rs.one
    obtain ⟨a, vs, rfl, sa, ra⟩ := RD.lstI r
    exact ⟨a, vs, _, F, rfl, SqL.of (s _ _ sa), s, ra, h.1, fun p ys hp hy => k.lst s m hy h.2 p hp⟩
  · exact h.elim
end Sh
namespace Sh
open PySem PySem.Spec PyProof.Rows L2
/-! ## isinstance -/
inductive CT where
  | int | bool | str | list | tuple
def CT.nm : CT → String
  | .int => "int"
  | .bool => "bool"
  | .str => "str"
  | .list => "list"
  | .tuple => "tuple"
def CT.py : CT → Str
  | .int => "int"
  | .bool => "bool"
  | .str => "str"
  | .list => "list"
  | .tuple => "tuple"
def isC : CT → PyData → Bool
  | .int, .int _ => true
  | .int, .bool _ => true
  | .bool, .bool _ => true
  | .str, .str _ => true
  | .list, .list _ => true
  | .tuple, .tuple _ => true
  | _, _ => false
def tyN : PyData → String
  | .none => "NoneType"
  | .bool _ => "bool"
  | .int _ => "int"
  | .str _ => "str"
  | .list _ => "list"
  | .tuple _ => "tuple"
  | .dict _ => "dict"
def isN : CT → String → Bool
  | .int, t => t == "int" || t == "bool"
  | c, t => t == c.nm
theorem RD.tyx {K : PySem.W.Frag} {F H : Hp} (s : Same F H) {v : V} {d : PyData} (r : RD K F v d) : TyX K H v (.type (tyN d)) := by
  cases r with
  | non => exact .base .non
  | bl b => exact .base (.bl b)
  | int i => exact .base (.int i)
  | str x => exact .base (.str x)
  | lst h _ => exact .base (.lst (s _ _ h))
  | tup h _ => exact .base (.tup (s _ _ h))
  | ktup o its n h1 h2 _ _ _ _ => exact .kTuple h1 h2
theorem isC_kit {K : PySem.W.Frag} {F : Hp} {v : V} {d : PyData} (r : RD K F v d) (c : CT) : PySem.W.kitOne K (.type (tyN d)) (.type c.nm) = some (isC c d) := by
  have tab : ∀ t ∈ ["NoneType", "bool", "int", "str", "list", "tuple"], ∀ c : CT, kitB t c.nm = some (isN c t) := by
    intro t ht c
    have all : (["NoneType", "bool", "int", "str", "list", "tuple"].all fun t => [CT.int, .bool, .str, .list, .tuple].all fun c => decide (kitB t c.nm = some (isN c t))) = true := by decide +kernel
    have h1 := List.all_eq_true.mp all t ht
    have hc : c ∈ [CT.int, .bool, .str, .list, .tuple] := by cases c <;> simp
    exact of_decide_eq_true (List.all_eq_true.mp h1 c hc)
  have e : isC c d = isN c (tyN d) := by cases r <;> cases c <;> rfl
  rw [e]
  exact kit_ty (tab _ (by cases r <;> simp [tyN]) c)
def rdIsi (ra : RdE) (c : CT) : RdE := fun δ M Q => ra δ M fun w M1 => ∃ d, w = .d d ∧ Q (.d (.bool (isC c d))) M1
def rdIsi2 (ra : RdE) (c c' : CT) : RdE := fun δ M Q => ra δ M fun w M1 => ∃ d, w = .d d ∧ Q (.d (.bool (isC c d || isC c' d))) M1
section
variable {B : Bs}
theorem le_isi {ra : RdE} {c : CT} : ∀ σ H Q, liE B (rdIsi ra c) σ H Q → tCB (rIsi B.K) (tCons (liE B ra) (tCons (tC (.ty c.nm)) tNil)) σ H Q := by
  rintro σ H Q ⟨F, M, δ, QD, s, h, k⟩
  refine ⟨F, M, δ, _, s, h, fun v w F1 H1 M1 p1 r1 ⟨d, e, h1⟩ => ?_⟩
  subst e
  refine ⟨v, .ty c.nm, .type (tyN d), .type c.nm, isC c d, rfl, .ty _, RD.tyx p1.sub r1, isC_kit r1 c, ?_⟩
  exact k (.bl _) (.d (.bool _)) F1 H1 M1 p1 (RD.bl _) h1
theorem le_isi2 {ra : RdE} {c c' : CT} : ∀ σ H Q, liE B (rdIsi2 ra c c') σ H Q → tCB (rIsiT B.K) (tCons (liE B ra) (tCons (tTup (tCons (tC (.ty c.nm)) (tCons (tC (.ty c'.nm)) tNil))) tNil)) σ H Q := by
  rintro σ H Q ⟨F, M, δ, QD, s, h, k⟩
  refine ⟨F, M, δ, _, s, h, fun v w F1 H1 M1 p1 r1 ⟨d, e, h1⟩ => ?_⟩
  subst e
  refine ⟨by show 2 ≤ sizeLine; decide, fun p hp => ?_⟩
  have p2 := Pst.new (o := .tup [.ty c.nm, .ty c'.nm]) p1.sub p1.mok hp (p1.mok.free hp)
  have r2 := RD.mono p2.fz r1
  refine ⟨v, p, [.ty c.nm, .ty c'.nm], .type (tyN d), [.type c.nm, .type c'.nm], isC c d || isC c' d, rfl, upd_same, .cons (.ty _) (.cons (.ty _) .nil), RD.tyx p2.sub r2, ?_, ?_⟩
  · have e1 := isC_kit r1 c
    have e2 := isC_kit r1 c'
    cases hb : isC c d with
    | true =>
      rw [hb] at e1
      exact kitAny_cons e1 (fun z => nomatch z) fun _ => rfl
    | false =>
      rw [hb] at e1
      refine kitAny_cons e1 (fun _ => ?_) fun z => nomatch z
      cases hb2 : isC c' d with
      | true =>
        rw [hb2] at e2
        exact kitAny_cons e2 (fun z => nomatch z) fun _ => rfl
      | false =>
        rw [hb2] at e2
        exact kitAny_cons e2 (fun _ => kitAny_nil) fun z => nomatch z
  · exact k (.bl _) (.d (.bool _)) _ _ M1 (p1.trans p2) (RD.bl _) h1
end
/-! ## calls of defs -/
/-- what a def promises, over data -/
structure DSp where
  n : Nat
  run : List W → MM → WK → Prop
def lifS (B : Bs) (sp : DSp) : Sp := fun vs H Q _ => ∃ F M ws QD, Same F H ∧ MOk B F M H ∧ RWs B F vs ws ∧ ws.length = sp.n ∧ sp.run ws M QD ∧ KW B F H M QD Q
def rdCall (ra : RdA) (sp : DSp) : RdE := fun δ M Q => ra δ M fun ws M1 => ws.length = sp.n ∧ sp.run ws M1 Q
theorem le_call {B : Bs} {ra : RdA} {sp : DSp} : ∀ σ H Q, liE B (rdCall ra sp) σ H Q → tCall (lifS B sp) [] E0 (liA B ra) σ H Q := by
  rintro σ H Q ⟨F, M, δ, QD, s, h, k⟩
  refine ⟨F, M, δ, _, s, h, fun v w F1 H1 M1 p1 r1 ⟨hn, h1⟩ => ?_⟩
  show lifS B sp (v ++ []) H1 Q E0
  rw [List.append_nil]
  exact ⟨F1, M1, w, QD, p1.sub, p1.mok, r1, hn, h1, k.go p1⟩
/-! ## what is walked -/
def Walks (B : Bs) (J : It) (ws : List W) (F0 : Hp) : Prop := ∀ (i : Nat) (F H : Hp) (M : MM), Same F0 F → Same F H → MOk B F M H →
  (i < ws.length → J.go i H) ∧ (∀ w, ws[i]? = some w → ∀ x H', J.yld i H x H' → ∃ F', Pst B F H M F' H' M ∧ RW B F' x w) ∧ (i = ws.length → J.stop i H)
abbrev RdI := En → MM → (List W → MM → Prop) → Prop
def liI (B : Bs) (R : RdI) : TI := fun σ H R' => ∃ F M δ QD, SOk B F M σ H δ ∧ R δ M QD ∧ ∀ J ws F' H' M', Pst B F H M F' H' M' → Walks B J ws F' → QD ws M' → R' J H'
theorem PI.imp {X : Cx} {tg e : Expr} {t t' : TI} (h : PI X tg e t) (i : ∀ σ H Q, t' σ H Q → t σ H Q) : PI X tg e t' := ⟨fun pins s σ H Q I q => h.run pins s σ H Q I (i _ _ _ q)⟩
theorem list_inj_F {B : Bs} {F F' H : Hp} {a : Addr} {vs : List V} (h : F a = some (.lst vs)) (s1 : Same F F') (s2 : Same F' H) : SqL B.K H a vs := SqL.of (s2 _ _ (s1 _ _ h))
theorem walks_lst {B : Bs} {F : Hp} {a : Addr} {vs : List V} {ds : List PyData} (h : F a = some (.lst vs)) (r : RDs B.K F vs ds) : Walks B (Itl B.K a) (ds.map .d) F := by
  intro i F1 H M s1 s2 m
  have hq : SqL B.K H a vs := list_inj_F h s1 s2
  rw [List.length_map, ← r.length]
  refine ⟨fun hi => ⟨vs, vs[i], hq, by simp [hi]⟩, fun w hw x H' y => ?_, fun hi => ⟨vs, hq, by omega⟩⟩
  rw [List.getElem?_map] at hw
  cases e : ds[i]? with
  | none => rw [e] at hw; cases hw
  | some d =>
    rw [e] at hw
    cases hw
    obtain ⟨v, hv, rd⟩ := r.get e
    obtain ⟨rfl, y⟩ := y
    have e2 := y vs hq
    rw [hv] at e2
    cases e2
    exact ⟨F1, Pst.refl s2 m, rd.mono s1⟩
theorem walks_tup {B : Bs} {F : Hp} {a : Addr} {vs : List V} {ds : List PyData} (h : SqT B.K F a vs) (r : RDs B.K F vs ds) : Walks B (Itt B.K a) (ds.map .d) F := by
  intro i F1 H M s1 s2 m
  have hq : SqT B.K H a vs := sqt_sub s2 (sqt_sub s1 h)
  rw [List.length_map, ← r.length]
  refine ⟨fun hi => ⟨vs, vs[i], hq, by simp [hi]⟩, fun w hw x H' y => ?_, fun hi => ⟨vs, hq, by omega⟩⟩
  rw [List.getElem?_map] at hw
  cases e : ds[i]? with
  | none => rw [e] at hw; cases hw
  | some d =>
    rw [e] at hw
    cases hw
    obtain ⟨v, hv, rd⟩ := r.get e
    obtain ⟨rfl, y⟩ := y
    have e2 := y vs hq
    rw [hv] at e2
    cases e2
    exact ⟨F1, Pst.refl s2 m, rd.mono s1⟩
/-- the items of a list, of a tuple -/
def seqOf : W → Option (List PyData)
  | .d (.list xs) => some xs
  | .d (.tuple xs) => some xs
  | _ => none
def rdSeqI (ra : RdE) : RdI := fun δ M Q => ra δ M fun w M1 => ∃ ds, seqOf w = some ds ∧ Q (ds.map .d) M1
section
variable {X : Cx} {tg : Expr}
/-- a list or a tuple, whichever comes -/
def iSeq (K : PySem.W.Frag) (tl : TE) : TI := fun σ H R => tl σ H fun x H1 => ∃ a, x = .ref a ∧ (((∃ xs, SqL K H1 a xs) ∧ R (Itl K a) H1) ∨ ((∃ xs, SqT K H1 a xs) ∧ R (Itt K a) H1))
theorem pi_seq {l : Expr} {tl : TE} (hl : PE X l tl) : PI X tg l (iSeq X.K tl) := by
  refine ⟨fun pins s σ H R I h => ?_⟩
  refine thn (hl.run pins s σ H _ I h) fun v s1 hv => ?_
  obtain ⟨x, H1, I1, r1, a, ex, hor⟩ := hv
  subst ex
  obtain rfl : v = Value.ref a := r1
  have fresh : ∀ b ∈ [s1.heap.objs.size], FpOk X pins H1 b := by
    intro b hb
    rw [List.mem_singleton.mp hb]
    exact I1.fpOk (Nat.le_refl _) (I1.hok.fresh (Nat.le_refl _))
  have keepI : ∀ (o : Obj), Inv X pins σ H1 { s1 with heap := s1.heap.push o, toks := s1.toks } := fun o => I1.kept fun b u q => Heap.get?_push_of_some _ q
  rcases hor with ⟨⟨xs, hq⟩, q⟩ | ⟨⟨xs, hq⟩, q⟩
  · obtain ⟨its, rv, pl, hz⟩ := I1.list hq
    exact wpAny_pyIter_list pl.isList ⟨s1.heap.objs.size, [s1.heap.objs.size], _, Itl X.K a, H1, rfl, keepI _, turn_list a _, ⟨_, Heap.get?_push_size _ rfl, rfl, rfl⟩, fresh, q⟩
  · obtain ⟨its, rv, pl, hz⟩ := I1.tuple hq
    exact wpAny_pyIter_tuple (show s1.heap.IsTuple a its.toArray from pl) ⟨s1.heap.objs.size, [s1.heap.objs.size], _, Itt X.K a, H1, rfl, keepI _, turn_tuple a _, ⟨_, Heap.get?_push_size _ rfl, rfl, rfl⟩, fresh, q⟩
end
theorem li_seq {B : Bs} {ra : RdE} : ∀ σ H Q, liI B (rdSeqI ra) σ H Q → iSeq B.K (liE B ra) σ H Q := by
  rintro σ H Q ⟨F, M, δ, QD, s, h, k⟩
  refine ⟨F, M, δ, _, s, h, fun v w F1 H1 M1 p1 r1 ⟨ds, e, h1⟩ => ?_⟩
  unfold seqOf at e
  split at e
  · cases e
    obtain ⟨a, vs, rfl, sa, rr⟩ := RD.lstI r1
    exact ⟨a, rfl, .inl ⟨⟨vs, SqL.of (p1.sub _ _ sa)⟩, k _ _ F1 H1 M1 p1 (walks_lst sa rr) h1⟩⟩
  · cases e
    obtain ⟨a, vs, rfl, sa, rr⟩ := RD.tupI r1
    exact ⟨a, rfl, .inr ⟨⟨vs, sqt_sub p1.sub sa⟩, k _ _ F1 H1 M1 p1 (walks_tup sa rr) h1⟩⟩
  · cases e
/-! ## targets -/
inductive Tg where
  | nm (i : Nat)
  | tp (ts : List Tg)
mutual
def bindD : Tg → W → En → Option En
  | .nm i, w, δ => some (δ.set i (some w))
  | .tp ts, .d (.tuple ds), δ => bindDs ts ds δ
  | .tp _, _, _ => none
def bindDs : List Tg → List PyData → En → Option En
  | [], [], δ => some δ
  | t :: ts, d :: ds, δ => match bindD t (.d d) δ with
    | some δ' => bindDs ts ds δ'
    | none => none
  | _, _, _ => none
end
mutual
def Tg.slots : Tg → List Nat
  | .nm i => [i]
  | .tp ts => Tg.slotss ts
def Tg.slotss : List Tg → List Nat
  | [] => []
  | t :: ts => t.slots ++ Tg.slotss ts
end
mutual
def tgV (K : PySem.W.Frag) : Tg → TG
  | .nm i => gName i
  | .tp ts => gTup K ts.length (tgsV K ts)
def tgsV (K : PySem.W.Frag) : List Tg → TGs
  | [] => gNil
  | t :: ts => gCons (tgV K t) (tgsV K ts)
end
theorem wipe_set {σ : L2.St} {i : Nat} {v : Option V} : ∀ {vs : List Nat}, i ∈ vs → L2.wipe (σ.set i v) vs = L2.wipe σ vs
  | j :: vs, h => by
    unfold L2.wipe
    by_cases hi : i ∈ vs
    · rw [wipe_set hi]
    · have e : i = j := by
        rcases List.mem_cons.mp h with e | e
        · exact e
        · exact absurd e hi
      subst e
      have out : ∀ (us : List Nat) (τ : L2.St), i ∉ us → L2.wipe (τ.set i v) us = (L2.wipe τ us).set i v := by
        intro us
        induction us with
        | nil => intro τ _; rfl
        | cons u us ih =>
          intro τ hu
          unfold L2.wipe
          rw [ih τ fun z => hu (List.mem_cons_of_mem _ z), List.set_comm _ _ fun e => hu (by rw [e]; exact List.mem_cons_self)]
      rw [out vs σ hi, List.set_set]
theorem RDs.nilI {K : PySem.W.Frag} {F : Hp} {vs : List V} (r : RDs K F vs []) : vs = [] := by cases r; rfl
mutual
theorem tg_ok {B : Bs} {F H : Hp} (sub : Same F H) (vs : List Nat) : ∀ (t : Tg) (v : V) (w : W) (σ : L2.St) (δ δ' : En) (Q : L2.St → Hp → Prop), RW B F v w → EOk B F σ δ → bindD t w δ = some δ' → (∀ σ', EOk B F σ' δ' → ((∀ i ∈ t.slots, i ∈ vs) → L2.wipe σ' vs = L2.wipe σ vs) → Q σ' H) → tgV B.K t v σ H Q
  | .nm i, v, w, σ, δ, δ', Q, r, e, h, k => by
    unfold bindD at h
    cases h
    unfold tgV
    exact k _ (e.set r) fun hs => wipe_set (hs i (by unfold Tg.slots; exact List.mem_singleton.mpr rfl))
  | .tp ts, v, w, σ, δ, δ', Q, r, e, h, k => by
    obtain ⟨ds, rfl, h⟩ : ∃ ds, w = .d (.tuple ds) ∧ bindDs ts ds δ = some δ' := by
      cases w with
      | d x =>
        cases x with
        | tuple ds => exact ⟨ds, rfl, by unfold bindD at h; exact h⟩
        | _ => simp [bindD] at h
      | box a => simp [bindD] at h
      | dct k => simp [bindD] at h
      | st k => simp [bindD] at h
      | scr k => simp [bindD] at h
    · obtain ⟨a, xs, rfl, sa, rr⟩ := RD.tupI r
      unfold tgV
      have hl : xs.length = ts.length := by
        rw [rr.length]
        clear k rr r
        have gen : ∀ (ts : List Tg) (ds : List PyData) (δ : En), bindDs ts ds δ = some δ' → ds.length = ts.length := by
          intro ts
          induction ts with
          | nil =>
            intro ds δ h
            cases ds with
            | nil => rfl
            | cons d ds => simp [bindDs] at h
          | cons t ts ih =>
            intro ds δ h
            cases ds with
            | nil => simp [bindDs] at h
            | cons d ds =>
              unfold bindDs at h
              split at h
              · rw [List.length_cons, List.length_cons, ih ds _ h]
              · cases h
        exact gen _ _ _ h
      exact ⟨a, xs, rfl, sqt_sub sub sa, hl, tgs_ok sub vs ts xs _ σ δ δ' Q rr e h fun σ' e' hw => k σ' e' fun hs => hw (by unfold Tg.slots at hs; exact hs)⟩
theorem tgs_ok {B : Bs} {F H : Hp} (sub : Same F H) (vs : List Nat) : ∀ (ts : List Tg) (xs : List V) (ds : List PyData) (σ : L2.St) (δ δ' : En) (Q : L2.St → Hp → Prop), RDs B.K F xs ds → EOk B F σ δ → bindDs ts ds δ = some δ' → (∀ σ', EOk B F σ' δ' → ((∀ i ∈ Tg.slotss ts, i ∈ vs) → L2.wipe σ' vs = L2.wipe σ vs) → Q σ' H) → tgsV B.K ts xs σ H Q
  | [], xs, ds, σ, δ, δ', Q, r, e, h, k => by
    cases ds with
    | nil =>
      unfold bindDs at h
      cases h
      unfold tgsV
      exact ⟨r.nilI, k σ e fun _ => rfl⟩
    | cons d ds => simp [bindDs] at h
  | t :: ts, xs, ds, σ, δ, δ', Q, r, e, h, k => by
    cases r with
    | nil => simp [bindDs] at h
    | @cons v us d es r1 r2 =>
      unfold bindDs at h
      split at h
      · rename_i δ1 h1
        unfold tgsV
        refine ⟨v, us, rfl, tg_ok (B := B) sub vs t v (.d d) σ δ δ1 _ r1 e h1 fun σ1 e1 w1 => ?_⟩
        exact tgs_ok sub vs ts us es σ1 δ1 δ' Q r2 e1 h fun σ2 e2 w2 => k σ2 e2 fun hs => by
          unfold Tg.slotss at hs
          rw [w2 fun i hi => hs i (List.mem_append_right _ hi), w1 fun i hi => hs i (List.mem_append_left _ hi)]
      · cases h
end
/-! ## comprehensions -/
def lcGo (tg : Tg) (rt : RdT) (re : RdE) (δ0 : En) : List W → List PyData → MM → WK → Prop
  | [], acc, M, Q => Q (.d (.list acc)) M
  | w :: ws, acc, M, Q => ∃ δ', bindD tg w δ0 = some δ' ∧ rt δ' M fun b M1 => if b = true then re δ' M1 fun z M2 => ∃ x, z = .d x ∧ lcGo tg rt re δ0 ws (acc ++ [x]) M2 Q else lcGo tg rt re δ0 ws acc M1 Q
def rdLc (ri : RdI) (tg : Tg) (rt : RdT) (re : RdE) (vs : List Nat) : RdE := fun δ M Q => ri δ M fun ws M1 => ws.length ≤ 100000 ∧ lcGo tg rt re (wipeD δ vs) ws [] M1 Q
/-- something tracked that is not known changes -/
theorem Pst.at {B : Bs} {F H F' H' : Hp} {M M' : MM} {D : Addr} {o : HO} (p : Pst B F H M F' H' M') (hD : H D = none) (fD : F' D = none) (mD : M' D = none) : Pst B F H M F' (upd H' D o) M' := by
  have ne : ∀ {b u}, F' b = some u → b ≠ D := fun q => ne_of_none q fD
  refine ⟨p.fz, fun b u q => by rw [upd_ne (ne q)]; exact p.sub b u q, fun a x q => ?_, fun b u q n => ?_, p.fk⟩
  · obtain ⟨h1, h2⟩ := p.mok a x q
    refine ⟨h1, h2.keep (Same.refl F') fun u q2 => by rw [upd_ne]; exact q2; rintro rfl; rw [mD] at q; cases q⟩
  · obtain ⟨x, y⟩ := p.kp b u q n
    exact ⟨by rw [upd_ne (ne_of_none q hD)]; exact x, y⟩
theorem le_lc {B : Bs} {ri : RdI} {tg : Tg} {rt : RdT} {re : RdE} {vs : List Nat} (hs : ∀ i ∈ tg.slots, i ∈ vs) : ∀ σ H Q, liE B (rdLc ri tg rt re vs) σ H Q → tLc (liI B ri) (tgV B.K tg) (liT B rt) (liE B re) vs σ H Q := by
  rintro σ H Q ⟨F, M, δ, QD, s, h, k⟩
  refine ⟨F, M, δ, _, s, h, fun J ws F1 H1 M1 p1 wk ⟨hl, h1⟩ D hD => ?_⟩
  have s1 := s.after p1
  have f1D : F1 D = none := p1.sub.free hD
  have m1D : M1 D = none := p1.mok.free hD
  -- what holds ahead of turn i
  refine ⟨fun i m H2 => m = ws.length - i ∧ i ≤ ws.length ∧ ∃ F2 M2 acc accV, Pst B F1 H1 M1 F2 H2 M2 ∧ H2 D = some (.lst accV) ∧ F2 D = none ∧ M2 D = none ∧ RDs B.K F2 accV acc ∧ acc.length ≤ i ∧ lcGo tg rt re (wipeD δ vs) (ws.drop i) acc M2 QD, ⟨ws.length, by simp, Nat.zero_le _, F1, M1, [], [], Pst.at (Pst.refl p1.sub p1.mok) hD f1D m1D, upd_same, f1D, m1D, .nil, Nat.zero_le _, by simpa using h1⟩, ?_⟩
  rintro i m H2 ⟨rfl, hi, F2, M2, acc, accV, p2, hD2, fD2, mD2, ra, la, g⟩
  obtain ⟨w1, w2, w3⟩ := wk i F2 H2 M2 p2.fz p2.sub p2.mok
  by_cases hlt : i < ws.length
  · refine .inr ⟨w1 hlt, fun H3 => ∃ F2 M2 acc accV, Pst B F1 H1 M1 F2 H3 M2 ∧ H3 D = some (.lst accV) ∧ F2 D = none ∧ M2 D = none ∧ RDs B.K F2 accV acc ∧ acc.length ≤ i + 1 ∧ lcGo tg rt re (wipeD δ vs) (ws.drop (i + 1)) acc M2 QD, fun H3 q => ⟨ws.length - (i + 1), by omega, rfl, hlt, q⟩, fun x H3 y => ?_⟩
    obtain ⟨F3, p3, rx⟩ := w2 ws[i] (by simp [hlt]) x H3 y
    rw [List.drop_eq_getElem_cons hlt] at g
    obtain ⟨δ', hb, g⟩ := g
    have s3 := (s1.after p2).after p3
    have ev : EOk B F3 (L2.wipe σ vs) (wipeD δ vs) := s3.env.wipe vs
    have q23 := p2.trans p3
    have keep : ∀ {F4 H4 M4}, Pst B F2 H2 M2 F4 H4 M4 → H4 D = some (.lst accV) ∧ M4 D = none ∧ F4 D = none := fun p4 => ⟨(p4.kp _ _ hD2 mD2).1, (p4.kp _ _ hD2 mD2).2, p4.fk _ _ hD2 fD2 mD2⟩
    refine tg_ok (B := B) p3.sub vs tg x ws[i] (L2.wipe σ vs) (wipeD δ vs) δ' _ rx ev hb fun σ' e' hw => ?_
    have ww : L2.wipe (L2.wipe σ vs) vs = L2.wipe σ vs := by
      have idem : ∀ (us ts : List Nat) (τ : L2.St), (∀ i ∈ us, i ∈ ts) → L2.wipe (L2.wipe τ us) ts = L2.wipe τ ts := by
        intro us
        induction us with
        | nil => intro ts τ _; rfl
        | cons u us ih =>
          intro ts τ hu
          show L2.wipe ((L2.wipe τ us).set u none) ts = _
          rw [wipe_set (hu u List.mem_cons_self), ih ts τ fun i hi => hu i (List.mem_cons_of_mem _ hi)]
      exact idem vs vs σ fun _ h => h
    refine ⟨(hw hs).trans ww, ⟨F3, M2, δ', _, ⟨p3.sub, p3.mok, e'⟩, g, fun b F4 H4 M4 p4 g4 => ?_⟩⟩
    cases b with
    | false =>
      rw [if_neg Bool.false_ne_true]
      rw [if_neg Bool.false_ne_true] at g4
      have p34 := p3.trans p4
      obtain ⟨a1, a2, a3⟩ := keep p34
      exact ⟨F4, M4, acc, accV, p2.trans p34, a1, a3, a2, ra.mono p34.fz, Nat.le_succ_of_le la, g4⟩
    | true =>
      rw [if_pos rfl]
      rw [if_pos rfl] at g4
      refine ⟨F4, M4, δ', _, ⟨p4.sub, p4.mok, e'.mono p4.fz⟩, g4, fun y z F5 H5 M5 p5 r5 g5 => ?_⟩
      obtain ⟨dx, rfl, g5⟩ := g5
      have p35 := (p3.trans p4).trans p5
      obtain ⟨a1, a2, a3⟩ := keep p35
      have ra5 := ra.mono p35.fz
      refine ⟨accV, a1, ?_, F5, M5, acc ++ [dx], accV ++ [y], Pst.at (p2.trans p35) hD a3 a2, upd_same, a3, a2, ra5.append (.cons r5 .nil), ?_, g5⟩
      · rw [ra.length]
        exact Nat.lt_of_le_of_lt (by omega) (show 100000 < sizeLine by decide)
      · rw [List.length_append]
        exact Nat.succ_le_succ la
  · have e : i = ws.length := by omega
    subst e
    refine .inl ⟨w3 rfl, ?_⟩
    rw [List.drop_length] at g
    have sub2 : Same F2 (fun b => if b = D then none else H2 b) := fun b u q => by
      show (if b = D then none else H2 b) = some u
      rw [if_neg (ne_of_none q fD2)]
      exact p2.sub b u q
    -- the new list is known from now on
    have pf : Pst B F1 H1 M1 (upd F2 D (.lst accV)) H2 M2 := by
      refine ⟨fun b u q => by rw [upd_ne (ne_of_none (p2.fz b u q) fD2)]; exact p2.fz b u q, fun b u q => ?_, fun a x q => ?_, p2.kp, fun b u q f n => ?_⟩
      · by_cases hb : b = D
        · subst hb
          rw [upd_same] at q
          cases q
          exact hD2
        · rw [upd_ne hb] at q
          exact p2.sub b u q
      · obtain ⟨h1, h2⟩ := p2.mok a x q
        have ne : a ≠ D := by
          rintro rfl
          rw [mD2] at q
          cases q
        exact ⟨by rw [upd_ne ne]; exact h1, h2.keep (fun b u q => by rw [upd_ne (ne_of_none q fD2)]; exact q) fun _ q => q⟩
      · rw [upd_ne (ne_of_none q hD)]
        exact p2.fk b u q f n
    exact k (.ref D) (.d (.list acc)) _ H2 M2 (p1.trans pf) (RD.lst upd_same (ra.mono fun b u q => by rw [upd_ne (ne_of_none q fD2)]; exact q)) g
end Sh
namespace Sh
open PySem PySem.Spec PyProof.Rows L2
/-! ## statements -/
structure EndsD where
  nx : En → MM → Prop
  rt : WK
  bk : En → MM → Prop := fun _ _ => False
  ct : En → MM → Prop := fun _ _ => False
abbrev RdS := EndsD → En → MM → Prop
structure KS (B : Bs) (F H : Hp) (M : MM) (DD : EndsD) (D : Ends) : Prop where
  nx : ∀ σ' δ' F' H' M', Pst B F H M F' H' M' → EOk B F' σ' δ' → DD.nx δ' M' → D.nx σ' H'
  rt : KW B F H M DD.rt D.rt
  bk : ∀ σ' δ' F' H' M', Pst B F H M F' H' M' → EOk B F' σ' δ' → DD.bk δ' M' → D.bk σ' H'
  ct : ∀ σ' δ' F' H' M', Pst B F H M F' H' M' → EOk B F' σ' δ' → DD.ct δ' M' → D.ct σ' H'
theorem KS.go {B : Bs} {F H : Hp} {M : MM} {DD : EndsD} {D : Ends} (k : KS B F H M DD D) {F' H' : Hp} {M' : MM} (p : Pst B F H M F' H' M') : KS B F' H' M' DD D :=
  ⟨fun σ δ F2 H2 M2 p2 e q => k.nx σ δ F2 H2 M2 (p.trans p2) e q, k.rt.go p, fun σ δ F2 H2 M2 p2 e q => k.bk σ δ F2 H2 M2 (p.trans p2) e q, fun σ δ F2 H2 M2 p2 e q => k.ct σ δ F2 H2 M2 (p.trans p2) e q⟩
def liS (B : Bs) (R : RdS) : TS := fun D σ H => ∃ F M δ DD, SOk B F M σ H δ ∧ R DD δ M ∧ KS B F H M DD D
section
variable {B : Bs} {X : Cx}
def rdNext : RdS := fun DD δ M => DD.nx δ M
def rdSeq (r1 r2 : RdS) : RdS := fun DD δ M => r1 { DD with nx := r2 DD } δ M
theorem ls_nil : PSs X [] (liS B rdNext) := PSs.imp pss_nil fun D σ H ⟨F, M, δ, DD, s, h, k⟩ => k.nx σ δ F H M s.refl s.env h
theorem ls_cons {st : Stmt} {rest : List Stmt} {r1 r2 : RdS} (h1 : PS X st (liS B r1)) (h2 : PSs X rest (liS B r2)) : PSs X (st :: rest) (liS B (rdSeq r1 r2)) := by
  refine PSs.imp (pss_cons h1 h2) ?_
  rintro D σ H ⟨F, M, δ, DD, s, h, k⟩
  exact ⟨F, M, δ, { DD with nx := r2 DD }, s, h, ⟨fun σ' δ' F' H' M' p e q => ⟨F', M', δ', DD, ⟨p.sub, p.mok, e⟩, q, k.go p⟩, k.rt, k.bk, k.ct⟩⟩
def rdRet (ra : RdE) : RdS := fun DD δ M => ra δ M DD.rt
theorem ls_ret {ra : RdE} : ∀ D σ H, liS B (rdRet ra) D σ H → tRet (liE B ra) D σ H := by
  rintro D σ H ⟨F, M, δ, DD, s, h, k⟩
  exact ⟨F, M, δ, DD.rt, s, h, k.rt⟩
def rdIfS (rc : RdT) (r1 r2 : RdS) : RdS := fun DD δ M => rc δ M fun b M1 => if b = true then r1 DD δ M1 else r2 DD δ M1
theorem ls_if {rc : RdT} {r1 r2 : RdS} : ∀ D σ H, liS B (rdIfS rc r1 r2) D σ H → tIfS (liT B rc) (liS B r1) (liS B r2) D σ H := by
  rintro D σ H ⟨F, M, δ, DD, s, h, k⟩
  refine ⟨F, M, δ, _, s, h, fun b F1 H1 M1 p1 h1 => ?_⟩
  cases b with
  | true => exact ⟨F1, M1, δ, DD, s.after p1, h1, k.go p1⟩
  | false => exact ⟨F1, M1, δ, DD, s.after p1, h1, k.go p1⟩
def rdAsg (ra : RdE) (tg : Tg) : RdS := fun DD δ M => ra δ M fun w M1 => ∃ δ', bindD tg w δ = some δ' ∧ DD.nx δ' M1
theorem ls_asg {ra : RdE} {tg : Tg} : ∀ D σ H, liS B (rdAsg ra tg) D σ H → tAsg (liE B ra) (tgV B.K tg) D σ H := by
  rintro D σ H ⟨F, M, δ, DD, s, h, k⟩
  refine ⟨F, M, δ, _, s, h, fun v w F1 H1 M1 p1 r1 ⟨δ', e, h1⟩ => ?_⟩
  exact tg_ok (B := B) p1.sub [] tg v w σ δ δ' _ r1 (s.after p1).env e fun σ' e' _ => k.nx σ' δ' F1 H1 M1 p1 e' h1
/-- a, b = x, y without a tuple -/
def rdPar (i j : Nat) (ra : RdA) : RdS := fun DD δ M => ra δ M fun ws M1 => ∃ w z, ws = [w, z] ∧ DD.nx ((δ.set i (some w)).set j (some z)) M1
theorem ls_par {i j : Nat} {ra : RdA} : ∀ D σ H, liS B (rdPar i j ra) D σ H → tPar i j (liA B ra) D σ H := by
  rintro D σ H ⟨F, M, δ, DD, s, h, k⟩
  refine ⟨F, M, δ, _, s, h, fun vs ws F1 H1 M1 p1 r1 ⟨w, z, e, h1⟩ => ?_⟩
  subst e
  obtain ⟨v, u, rfl, rv, ru⟩ := r1.two
  exact ⟨v, u, rfl, k.nx _ _ F1 H1 M1 p1 (((s.after p1).env.set rv).set ru) h1⟩
/-- for -/
def forGo (tg : Tg) (rb : RdS) (DD : EndsD) : List W → En → MM → Prop
  | [], δ, M => DD.nx δ M
  | w :: ws, δ, M => ∃ δ', bindD tg w δ = some δ' ∧ rb { DD with nx := forGo tg rb DD ws, ct := forGo tg rb DD ws, bk := DD.nx } δ' M
def rdFor (ri : RdI) (tg : Tg) (rb : RdS) : RdS := fun DD δ M => ri δ M fun ws M1 => forGo tg rb DD ws δ M1
theorem ls_for {ri : RdI} {tg : Tg} {rb : RdS} : ∀ D σ H, liS B (rdFor ri tg rb) D σ H → tFor (liI B ri) (tgV B.K tg) (liS B rb) D σ H := by
  rintro D σ H ⟨F, M, δ, DD, s, h, k⟩
  refine ⟨F, M, δ, _, s, h, fun J ws F1 H1 M1 p1 wk h1 => ?_⟩
  have s1 := s.after p1
  refine ⟨fun i m σ2 H2 => m = ws.length - i ∧ i ≤ ws.length ∧ ∃ F2 M2 δ2, Pst B F1 H1 M1 F2 H2 M2 ∧ EOk B F2 σ2 δ2 ∧ forGo tg rb DD (ws.drop i) δ2 M2, ⟨ws.length, by simp, Nat.zero_le _, F1, M1, δ, Pst.refl p1.sub p1.mok, s1.env, by simpa using h1⟩, ?_⟩
  rintro i m σ2 H2 ⟨rfl, hi, F2, M2, δ2, p2, e2, g⟩
  obtain ⟨w1, w2, w3⟩ := wk i F2 H2 M2 p2.fz p2.sub p2.mok
  by_cases hlt : i < ws.length
  · refine .inr ⟨w1 hlt, fun σ3 H3 => ∃ F2 M2 δ2, Pst B F1 H1 M1 F2 H3 M2 ∧ EOk B F2 σ3 δ2 ∧ forGo tg rb DD (ws.drop (i + 1)) δ2 M2, fun σ3 H3 q => ⟨ws.length - (i + 1), by omega, rfl, hlt, q⟩, fun x H3 y => ?_⟩
    obtain ⟨F3, p3, rx⟩ := w2 ws[i] (by simp [hlt]) x H3 y
    rw [List.drop_eq_getElem_cons hlt] at g
    obtain ⟨δ', hb, g⟩ := g
    refine tg_ok (B := B) p3.sub [] tg x ws[i] σ2 δ2 δ' _ rx (e2.mono p3.fz) hb fun σ' e' _ => ?_
    have p23 := p2.trans p3
    refine ⟨F3, M2, δ', _, ⟨p3.sub, p3.mok, e'⟩, g, ⟨fun σ4 δ4 F4 H4 M4 p4 e4 q4 => ⟨F4, M4, δ4, p23.trans p4, e4, q4⟩, (k.rt.go p1).go p23, fun σ4 δ4 F4 H4 M4 p4 e4 q4 => k.nx σ4 δ4 F4 H4 M4 (p1.trans (p23.trans p4)) e4 q4, fun σ4 δ4 F4 H4 M4 p4 e4 q4 => ⟨F4, M4, δ4, p23.trans p4, e4, q4⟩⟩⟩
  · have e : i = ws.length := by omega
    subst e
    rw [List.drop_length] at g
    exact .inl ⟨w3 rfl, k.nx σ2 δ2 F2 H2 M2 (p1.trans p2) e2 g⟩
/-- while, by an invariant and a measure -/
def rdWhile (rc : RdT) (rb : RdS) : RdS := fun DD δ M => ∃ I : Nat → En → MM → Prop, (∃ m, I m δ M) ∧ ∀ m δ M, I m δ M → rc δ M fun b M1 => if b = true then rb { DD with nx := fun δ' M' => ∃ m', m' < m ∧ I m' δ' M', ct := fun δ' M' => ∃ m', m' < m ∧ I m' δ' M', bk := DD.nx } δ M1 else DD.nx δ M1
theorem ls_while {rc : RdT} {rb : RdS} : ∀ D σ H, liS B (rdWhile rc rb) D σ H → tWhile (liT B rc) (liS B rb) D σ H := by
  rintro D σ H ⟨F, M, δ, DD, s, ⟨I, ⟨m0, h0⟩, turn⟩, k⟩
  refine ⟨fun m σ2 H2 => ∃ F2 M2 δ2, Pst B F H M F2 H2 M2 ∧ EOk B F2 σ2 δ2 ∧ I m δ2 M2, ⟨m0, F, M, δ, s.refl, s.env, h0⟩, ?_⟩
  rintro m σ2 H2 ⟨F2, M2, δ2, p2, e2, h2⟩
  refine ⟨F2, M2, δ2, _, ⟨p2.sub, p2.mok, e2⟩, turn m δ2 M2 h2, fun b F3 H3 M3 p3 q3 => ?_⟩
  have p23 := p2.trans p3
  cases b with
  | true =>
    refine ⟨fun σ4 H4 => ∃ m', m' < m ∧ ∃ F2 M2 δ2, Pst B F H M F2 H4 M2 ∧ EOk B F2 σ4 δ2 ∧ I m' δ2 M2, fun σ4 H4 q => q, ⟨F3, M3, δ2, _, ⟨p3.sub, p3.mok, e2.mono p3.fz⟩, q3, ?_⟩⟩
    exact ⟨fun σ4 δ4 F4 H4 M4 p4 e4 ⟨m', hm, q4⟩ => ⟨m', hm, F4, M4, δ4, p23.trans p4, e4, q4⟩, k.rt.go p23, fun σ4 δ4 F4 H4 M4 p4 e4 q4 => k.nx σ4 δ4 F4 H4 M4 (p23.trans p4) e4 q4, fun σ4 δ4 F4 H4 M4 p4 e4 ⟨m', hm, q4⟩ => ⟨m', hm, F4, M4, δ4, p23.trans p4, e4, q4⟩⟩
  | false => exact k.nx σ2 δ2 F3 H3 M3 p23 (e2.mono p3.fz) q3
/-! ### lists of one's own change -/
theorem Pst.put {F H : Hp} {M : MM} {a : Addr} {o : MO} {ho : HO} (s : Same F H) (m : MOk B F M H) (ha : ∃ x, M a = some x) (r : RM B F (upd H a ho) a o) : Pst B F H M F (upd H a ho) (mset M a o) := by
  obtain ⟨x, hx⟩ := ha
  have fa := (m a x hx).1
  refine ⟨Same.refl F, fun b u q => by rw [upd_ne (ne_of_none q fa)]; exact s b u q, fun b y q => ?_, fun b u q n => ?_, fun _ _ _ f _ => f⟩
  · by_cases hb : b = a
    · subst hb
      unfold mset at q
      rw [if_pos rfl] at q
      cases q
      exact ⟨fa, r⟩
    · unfold mset at q
      rw [if_neg hb] at q
      obtain ⟨h1, h2⟩ := m b y q
      exact ⟨h1, h2.keep (Same.refl F) fun u q => by rw [upd_ne hb]; exact q⟩
  · have ne : b ≠ a := by
      rintro rfl
      rw [hx] at n
      cases n
    refine ⟨by rw [upd_ne ne]; exact q, ?_⟩
    unfold mset
    rw [if_neg ne]
    exact n
/-- x.append(e), x.extend(e) -/
def rdApp (ro ra : RdE) : RdS := fun DD δ M => ro δ M fun b M1 => ∃ a ys, b = .box a ∧ M1 a = some (.l ys) ∧ ra δ M1 fun w M2 => ∃ x xs, w = .d x ∧ M2 a = some (.l xs) ∧ xs.length < 100000 ∧ DD.nx δ (mset M2 a (.l (xs ++ [x])))
def rdExt (ro ra : RdE) : RdS := fun DD δ M => ro δ M fun b M1 => ∃ a ys, b = .box a ∧ M1 a = some (.l ys) ∧ ra δ M1 fun w M2 => ∃ zs xs, w = .d (.list zs) ∧ M2 a = some (.l xs) ∧ xs.length + zs.length ≤ 100000 ∧ DD.nx δ (mset M2 a (.l (xs ++ zs)))
theorem ls_app {ro ra : RdE} : ∀ D σ H, liS B (rdApp ro ra) D σ H → tDrop (tBM B.K "list" rAppend (liE B ro) (tCons (liE B ra) tNil)) D σ H := by
  rintro D σ H ⟨F, M, δ, DD, s, h, k⟩
  refine ⟨F, M, δ, _, s, h, fun v b F1 H1 M1 p1 r1 ⟨a, ys, e, hy, h1⟩ => ?_⟩
  subst e
  have ev : v = .ref a := r1
  subst ev
  obtain ⟨_, v0, hv0, _⟩ := p1.mok a _ hy
  refine ⟨.inl ⟨rfl, v0, SqL.of hv0⟩, F1, M1, δ, _, s.after p1, h1, fun u w F2 H2 M2 p2 r2 ⟨x, xs, ew, hm, hl, q⟩ => ?_⟩
  subst ew
  obtain ⟨_, vs, hv, rd⟩ := p2.mok a _ hm
  refine ⟨a, vs, u, rfl, rfl, hv, Nat.lt_trans (by rw [rd.length]; exact hl) (by decide), ?_⟩
  have p3 := Pst.put (B := B) (o := .l (xs ++ [x])) (ho := .lst (vs ++ [u])) p2.sub p2.mok ⟨_, hm⟩ ⟨vs ++ [u], upd_same, rd.append (.cons r2 .nil)⟩
  have p := (p1.trans p2).trans p3
  exact k.nx σ δ _ _ _ p (s.after p).env q
theorem ls_ext {ro ra : RdE} : ∀ D σ H, liS B (rdExt ro ra) D σ H → tDrop (tBM B.K "list" rExtend (liE B ro) (tCons (liE B ra) tNil)) D σ H := by
  rintro D σ H ⟨F, M, δ, DD, s, h, k⟩
  refine ⟨F, M, δ, _, s, h, fun v b F1 H1 M1 p1 r1 ⟨a, ys, e, hy, h1⟩ => ?_⟩
  subst e
  have ev : v = .ref a := r1
  subst ev
  obtain ⟨_, v0, hv0, _⟩ := p1.mok a _ hy
  refine ⟨.inl ⟨rfl, v0, SqL.of hv0⟩, F1, M1, δ, _, s.after p1, h1, fun u w F2 H2 M2 p2 r2 ⟨zs, xs, ew, hm, hl, q⟩ => ?_⟩
  subst ew
  obtain ⟨_, vs, hv, rd⟩ := p2.mok a _ hm
  obtain ⟨b, us, rfl, hb, rb⟩ := RD.lstI r2
  refine ⟨a, b, vs, us, rfl, rfl, hv, p2.sub _ _ hb, by rw [rd.length, rb.length]; exact small5 hl, ?_⟩
  have p3 := Pst.put (B := B) (o := .l (xs ++ zs)) (ho := .lst (vs ++ us)) p2.sub p2.mok ⟨_, hm⟩ ⟨vs ++ us, upd_same, rd.append rb⟩
  have p := (p1.trans p2).trans p3
  exact k.nx σ δ _ _ _ p (s.after p).env q
/-- x[i] = e of a list of one's own -/
def rdSet (ra ro ri : RdE) : RdS := fun DD δ M => ra δ M fun w M1 => ro δ M1 fun b M2 => ri δ M2 fun z M3 => ∃ x a i j xs, w = .d x ∧ b = .box a ∧ z = .d (.int i) ∧ M3 a = some (.l xs) ∧ ixN xs.length i = some j ∧ DD.nx δ (mset M3 a (.l (xs.set j x)))
theorem ls_set {ra ro ri : RdE} : ∀ D σ H, liS B (rdSet ra ro ri) D σ H → tAsg (liE B ra) (gSub (liE B ro) (liE B ri) rSetL) D σ H := by
  rintro D σ H ⟨F, M, δ, DD, s, h, k⟩
  refine ⟨F, M, δ, _, s, h, fun v w F1 H1 M1 p1 r1 h1 => ?_⟩
  refine ⟨F1, M1, δ, _, s.after p1, h1, fun o b F2 H2 M2 p2 r2 h2 => ?_⟩
  refine ⟨F2, M2, δ, _, s.after (p1.trans p2), h2, fun i z F3 H3 M3 p3 r3 ⟨x, a, n, j, xs, e1, e2, e3, hm, hj, q⟩ => ?_⟩
  subst e1 e2 e3
  obtain ⟨_, vs, hv, rd⟩ := p3.mok a _ hm
  have r1' : RD B.K F3 v x := RD.mono p3.fz (RD.mono p2.fz r1)
  refine ⟨a, vs, n, j, r2, RD.intI r3, hv, by rw [rd.length]; exact hj, ?_⟩
  have p4 := Pst.put (B := B) (o := .l (xs.set j x)) (ho := .lst (vs.set j v)) p3.sub p3.mok ⟨_, hm⟩ ⟨vs.set j v, upd_same, RDs.set r1' j rd⟩
  have p := ((p1.trans p2).trans p3).trans p4
  exact k.nx σ δ _ _ _ p (s.after p).env q
end
end Sh
set_option maxHeartbeats 4000000
namespace Sh
open PySem PySem.Spec PyProof.Rows L2
/-! ## zip of a list and a tuple -/
/-- an iterator at i over the list or the tuple at l, k items on -/
def Sq (h : Heap) (i l : Addr) (k : Nat) (xs : Array Value) : Prop := (h.IsListIter i l k ∧ h.IsList l xs) ∨ (h.IsTupleIter i l k ∧ h.IsTuple l xs)
theorem Sq.at {h h' : Heap} {i l : Addr} {k : Nat} {xs : Array Value} (r : Sq h i l k xs) (ki : ∀ o, h.get? i = some o → h'.get? i = some o) (kl : ∀ o, h.get? l = some o → h'.get? l = some o) : Sq h' i l k xs := by
  rcases r with ⟨a, b⟩ | ⟨a, b⟩
  · exact .inl ⟨a.at ki, b.at kl⟩
  · exact .inr ⟨a.at ki, b.at kl⟩
theorem Sq.lt {h : Heap} {i l : Addr} {k : Nat} {xs : Array Value} (r : Sq h i l k xs) : i < h.objs.size ∧ l < h.objs.size := by
  rcases r with ⟨⟨_, a, _⟩, ⟨_, b, _⟩⟩ | ⟨⟨_, a, _⟩, ⟨_, b, _⟩⟩ <;> exact ⟨Heap.lt_size a, Heap.lt_size b⟩
section
variable {prog : Program} {w : World} {A : Around} {E : Value → Shared → Prop} {s : Shared}
theorem nextSq {i l : Addr} {k : Nat} {xs : Array Value} {x : Value} {Q : Value → Shared → Prop} (r : Sq s.heap i l k xs) (ne : l ≠ i) (hx : xs[k]? = some x) (q : ∀ h', Sq h' i l (k + 1) xs → Heap.SameBut i s.heap h' → Q x { s with heap := h' }) :
    wpAny (model prog w) A (Builtin.SmallTypes.nextOf (.ref i)) Q E s := by
  rcases r with ⟨a, b⟩ | ⟨a, b⟩
  · exact wpAny_nextOf_list_item a b hx fun h' a' sb => q h' (.inl ⟨a', b.extBut sb.extBut ne⟩) sb
  · exact RZ.nextOf_tuple_item a b hx fun h' a' sb => q h' (.inr ⟨a', b.extBut sb.extBut ne⟩) sb
theorem nextSq_end {i l : Addr} {k : Nat} {xs : Array Value} {Q : Value → Shared → Prop} (hh : A.handled = none) (r : Sq s.heap i l k xs) (hx : xs[k]? = none) (q : ∀ h' e, Heap.ExtBut i s.heap h' → (∃ o, h'.get? e = some o ∧ o.cls = .type "StopIteration") → E (.ref e) { s with heap := h' }) :
    wpAny (model prog w) A (Builtin.SmallTypes.nextOf (.ref i)) Q E s := by
  rcases r with ⟨a, b⟩ | ⟨a, b⟩
  · exact wpAny_nextOf_list_end hh a b hx q
  · exact RZ.nextOf_tuple_end hh a b hx q
/-- the two iterators of a zip, and what they walk, apart from the zip's own objects -/
structure Two (h : Heap) (z TI i1 i2 l1 l2 : Addr) (k : Nat) (xs ys : Array Value) : Prop where
  pr : IsPair h TI (.ref i1) (.ref i2)
  one : Sq h i1 l1 k xs
  two : Sq h i2 l2 k ys
theorem Two.at {h h' : Heap} {z TI TO i1 i2 l1 l2 : Addr} {k : Nat} {xs ys : Array Value} (D : ZipApart z TI TO i1 i2 l1 l2) (r : Two h z TI i1 i2 l1 l2 k xs ys) (kp : ∀ c o, c ≠ z → c ≠ TO → h.get? c = some o → h'.get? c = some o) : Two h' z TI i1 i2 l1 l2 k xs ys :=
  ⟨kp _ _ D.TIz D.TITO r.pr, r.one.at (fun o => kp _ o D.i1z D.TOi1.symm) fun o => kp _ o D.l1z D.l1TO, r.two.at (fun o => kp _ o D.i2z D.TOi2.symm) fun o => kp _ o D.l2z D.l2TO⟩
/-- the next pair of a zip that has handed out none -/
theorem zipFirst {z TI TO i1 i2 l1 l2 : Addr} {k : Nat} {xs ys : Array Value} {x y a b : Value} {Q : Option Value → Shared → Prop} (D : ZipApart z TI TO i1 i2 l1 l2) (hz : IsZip s.heap z TI TO .none) (hT : IsPair s.heap TO a b) (r : Two s.heap z TI i1 i2 l1 l2 k xs ys) (hx : xs[k]? = some x) (hy : ys[k]? = some y)
    (q : ∀ h', IsZip h' z TI TO (rawInt s.heap.objs.size) → IsPair h' TO x y → Two h' z TI i1 i2 l1 l2 (k + 1) xs ys → IsPair h' s.heap.objs.size x y → (∀ c o, c ≠ z → c ≠ TO → c ≠ i1 → c ≠ i2 → s.heap.get? c = some o → h'.get? c = some o) → Q (some (.ref s.heap.objs.size)) { s with heap := h' }) :
    wpAny (model prog w) A (pyNext (.ref z)) Q E s := by
  have told : ∀ E' : Value → Shared → Prop, wpAny (model prog w) A.in1 (Builtin.«zip.__next__» ⟨[.ref z], []⟩) (fun fin s' => ∃ v, fin = .done (.ret v) ∧ Q (some v) s') E' s := by
    intro E'
    refine (show wpAny _ _ (field (.ref z) 2 >>= _) _ _ _ from wpAny_bind (wpAny_field hz rfl (x := .bool false) rfl ?_))
    refine (show wpAny _ _ (field (.ref z) 3 >>= _) _ _ _ from wpAny_bind (wpAny_field hz rfl (x := .ref TI) rfl (wpAny_bind (wpAny_seqItems r.pr rfl ?_))))
    refine (show wpAny _ _ (Builtin.SmallTypes.ownedTupleIsFree (.ref z) >>= _) _ _ _ from wpAny_bind ?_)
    unfold Builtin.SmallTypes.ownedTupleIsFree
    refine wpAny_bind (wpAny_field hz rfl (x := .none) rfl (wpAny_pure ?_))
    simp only [if_true]
    refine wpAny_bind (wpAny_rule (wpAny_bind (wpAny_field hz rfl (x := .ref TO) rfl (wpAny_bind (wpAny_setField_rec hz (by simp) fun g1 z1 b1 => wpAny_bind ?_)))))
    replace z1 : IsZip g1 z TI TO .ellipsis := z1
    simp only [List.zipIdx_cons, List.zipIdx_nil, List.forIn_cons, List.forIn_nil]
    have r1 : Two g1 z TI i1 i2 l1 l2 k xs ys := r.at D fun c o c1 _ e => b1.extBut _ _ c1 e
    have T1 : IsPair g1 TO a b := b1.extBut _ _ D.TOz hT
    refine wpAny_bind (wpAny_bind (wpAny_onRaise (show wpAny _ _ (Builtin.SmallTypes.nextOf (.ref i1) >>= _) _ _ _ from wpAny_bind (nextSq r1.one D.l1i1 hx fun g2 o2 b2 => wpAny_pure ?_))))
    have T2 : IsPair g2 TO a b := b2.extBut _ _ D.TOi1 T1
    refine wpAny_bind (wpAny_seqItems T2 rfl (wpAny_bind (wpAny_updateSeq_pair T2 fun g3 T3 b3 => wpAny_bind (wpAny_letGo (wpAny_pure ?_)))))
    replace T3 : IsPair g3 TO x b := T3
    have kp3 : ∀ c o, c ≠ z → c ≠ TO → c ≠ i1 → s.heap.get? c = some o → g3.get? c = some o := fun c o c1 c2 c3 e => b3.extBut _ _ c2 (b2.extBut _ _ c3 (b1.extBut _ _ c1 e))
    have s3 : Sq g3 i2 l2 k ys := r.two.at (fun o => kp3 _ o D.i2z D.TOi2.symm D.i12.symm) fun o => kp3 _ o D.l2z D.l2TO D.l2i1
    refine wpAny_bind (wpAny_bind (wpAny_onRaise (show wpAny _ _ (Builtin.SmallTypes.nextOf (.ref i2) >>= _) _ _ _ from wpAny_bind (nextSq s3 D.l2i2 hy fun g4 o4 b4 => wpAny_pure ?_))))
    have T4 : IsPair g4 TO x b := b4.extBut _ _ D.TOi2 T3
    refine wpAny_bind (wpAny_seqItems T4 rfl (wpAny_bind (wpAny_updateSeq_pair T4 fun g5 T5 b5 => wpAny_bind (wpAny_letGo (wpAny_pure (wpAny_pure ?_))))))
    replace T5 : IsPair g5 TO x y := T5
    have kp5 : ∀ c o, c ≠ z → c ≠ TO → c ≠ i1 → c ≠ i2 → s.heap.get? c = some o → g5.get? c = some o := fun c o c1 c2 c3 c4 e => b5.extBut _ _ c2 (b4.extBut _ _ c4 (kp3 c o c1 c2 c3 e))
    have z5 : IsZip g5 z TI TO .ellipsis := b5.extBut _ _ D.TOz.symm (b4.extBut _ _ D.i2z.symm (b3.extBut _ _ D.TOz.symm (b2.extBut _ _ D.i1z.symm z1)))
    have sz5 : g5.objs.size = s.heap.objs.size := by rw [b5.1, b4.1, b3.1, b2.1, b1.1]
    have r5 : Two g5 z TI i1 i2 l1 l2 (k + 1) xs ys := by
      refine ⟨kp5 _ _ D.TIz D.TITO D.TIi1 D.TIi2 r.pr, o2.at (fun o e => ?_) fun o e => ?_, o4.at (fun o e => b5.extBut _ _ D.TOi2.symm e) fun o e => b5.extBut _ _ D.l2TO e⟩
      · exact b5.extBut _ _ D.TOi1.symm (b4.extBut _ _ D.i12 (b3.extBut _ _ D.TOi1.symm e))
      · exact b5.extBut _ _ D.l1TO (b4.extBut _ _ D.l1i2 (b3.extBut _ _ D.l1TO e))
    refine wpAny_bind (wpAny_seqItems T5 rfl (wpAny_bind (wpAny_newTuple ?_)))
    refine (show wpAny _ _ (Builtin.SmallTypes.ownedTupleHandOut (.ref z) (.ref g5.objs.size) >>= _) _ _ _ from wpAny_bind ?_)
    unfold Builtin.SmallTypes.ownedTupleHandOut
    have z6 : IsZip (g5.push { cls := .type "tuple", data := .seq #[x, y] }) z TI TO .ellipsis := Heap.get?_push_of_some _ z5
    refine wpAny_bind (wpAny_setField_rec z6 (by simp) fun g7 z7 b7 => ?_)
    replace z7 : IsZip g7 z TI TO (rawInt g5.objs.size) := z7
    refine wpAny_setField_rec z7 (by simp) fun g8 z8 b8 => ?_
    replace z8 : IsZip g8 z TI TO (rawInt g5.objs.size) := z8
    have up : ∀ c o, c ≠ z → g5.get? c = some o → g8.get? c = some o := fun c o c1 e => b8.extBut _ _ c1 (b7.extBut _ _ c1 (Heap.get?_push_of_some _ e))
    have zl : g5.objs.size ≠ z := Nat.ne_of_gt (Heap.lt_size z5)
    have p8 : IsPair g8 g5.objs.size x y := b8.extBut _ _ zl (b7.extBut _ _ zl (Heap.get?_push_size _ rfl))
    rw [sz5] at z8 p8
    refine wpAny_pure ⟨_, rfl, ?_⟩
    show Q (some (.ref g5.objs.size)) _
    rw [sz5]
    exact q g8 z8 (up _ _ D.TOz T5) (r5.at D fun c o c1 _ e => up c o c1 e) p8 fun c o c1 c2 c3 c4 e => up c o c1 (kp5 c o c1 c2 c3 c4 e)
  have ty : s.TypeIs (.ref z) "zip" := ⟨_, hz, rfl⟩
  unfold pyNext
  exact wpAny_bind (wpAny_attempt (wpAny_callSpecial?_slot (name := Str.ofString "__next__") ty F.slot_zip_next (wpAny_call_entry F.slot_zip_next ty F.entry_zip_next (wpAny_mono (told _) (fun fin s' ⟨v, e, h⟩ => ⟨v, e, wpAny_pure h⟩) fun _ _ h => h) (F.args_zip_next_1 _))))
/-- a zip that has handed out none, at its end -/
theorem zipFirst_end {z TI TO i1 i2 l1 l2 : Addr} {k : Nat} {xs ys : Array Value} {a b : Value} {Q : Option Value → Shared → Prop} (hh : A.handled = none) (D : ZipApart z TI TO i1 i2 l1 l2) (hz : IsZip s.heap z TI TO .none) (hT : IsPair s.heap TO a b) (r : Two s.heap z TI i1 i2 l1 l2 k xs ys) (hx : xs[k]? = none ∨ ys[k]? = none)
    (q : ∀ h', (∀ c o, c ≠ z → c ≠ TO → c ≠ i1 → c ≠ i2 → s.heap.get? c = some o → h'.get? c = some o) → Q none { s with heap := h' }) : wpAny (model prog w) A (pyNext (.ref z)) Q E s := by
  have told : ∀ (P : Fin → Shared → Prop) (E' : Value → Shared → Prop), (∀ h' e, (∀ c o, c ≠ z → c ≠ TO → c ≠ i1 → c ≠ i2 → s.heap.get? c = some o → h'.get? c = some o) → (∃ o, h'.get? e = some o ∧ o.cls = .type "StopIteration") → E' (.ref e) { s with heap := h' }) →
      wpAny (model prog w) A.in1 (Builtin.«zip.__next__» ⟨[.ref z], []⟩) P E' s := by
    intro P E' fin
    refine (show wpAny _ _ (field (.ref z) 2 >>= _) _ _ _ from wpAny_bind (wpAny_field hz rfl (x := .bool false) rfl ?_))
    refine (show wpAny _ _ (field (.ref z) 3 >>= _) _ _ _ from wpAny_bind (wpAny_field hz rfl (x := .ref TI) rfl (wpAny_bind (wpAny_seqItems r.pr rfl ?_))))
    refine (show wpAny _ _ (Builtin.SmallTypes.ownedTupleIsFree (.ref z) >>= _) _ _ _ from wpAny_bind ?_)
    unfold Builtin.SmallTypes.ownedTupleIsFree
    refine wpAny_bind (wpAny_field hz rfl (x := .none) rfl (wpAny_pure ?_))
    simp only [if_true]
    refine wpAny_bind (wpAny_rule (wpAny_bind (wpAny_field hz rfl (x := .ref TO) rfl (wpAny_bind (wpAny_setField_rec hz (by simp) fun g1 z1 b1 => wpAny_bind ?_)))))
    replace z1 : IsZip g1 z TI TO .ellipsis := z1
    simp only [List.zipIdx_cons, List.zipIdx_nil, List.forIn_cons, List.forIn_nil]
    have r1 : Two g1 z TI i1 i2 l1 l2 k xs ys := r.at D fun c o c1 _ e => b1.extBut _ _ c1 e
    have T1 : IsPair g1 TO a b := b1.extBut _ _ D.TOz hT
    refine wpAny_bind (wpAny_bind (wpAny_onRaise (show wpAny _ _ (Builtin.SmallTypes.nextOf (.ref i1) >>= _) _ _ _ from ?_)))
    have last : ∀ (g g' : Heap) (e : Addr) (i : Addr), i ≠ z → (i = i1 ∨ i = i2) → IsZip g z TI TO .ellipsis → (∀ c o, c ≠ z → c ≠ TO → c ≠ i1 → c ≠ i2 → s.heap.get? c = some o → g.get? c = some o) → Heap.ExtBut i g g' → (∃ o, g'.get? e = some o ∧ o.cls = .type "StopIteration") →
        wpAny (model prog w) A.in1 (setField (.ref z) 0 .none) (fun _ s' => E' (.ref e) s') E' { s with heap := g' } := fun g g' e i iz ic zg kp eb ⟨oe, he, ce⟩ => by
      have zg' : IsZip g' z TI TO .ellipsis := eb _ _ iz.symm zg
      have ez : e ≠ z := fun y => by subst y; rw [zg'] at he; cases he; simp at ce
      refine wpAny_setField_rec zg' (by simp) fun g2 _ b2 => fin g2 e (fun c o c1 c2 c3 c4 y => b2.extBut _ _ c1 (eb _ _ (fun u => ?_) (kp c o c1 c2 c3 c4 y))) ⟨oe, b2.extBut _ _ ez he, ce⟩
      rcases ic with v | v
      · exact c3 (u.trans v)
      · exact c4 (u.trans v)
    cases ex : xs[k]? with
    | none => exact wpAny_bind (nextSq_end hh r1.one ex fun g2 e b2 he => last g1 g2 e i1 D.i1z (.inl rfl) z1 (fun c o c1 _ _ _ y => b1.extBut _ _ c1 y) b2 he)
    | some x =>
      have ey : ys[k]? = none := by
        rcases hx with y | y
        · rw [ex] at y; cases y
        · exact y
      refine wpAny_bind (nextSq r1.one D.l1i1 ex fun g2 o2 b2 => wpAny_pure ?_)
      have T2 : IsPair g2 TO a b := b2.extBut _ _ D.TOi1 T1
      refine wpAny_bind (wpAny_seqItems T2 rfl (wpAny_bind (wpAny_updateSeq_pair T2 fun g3 T3 b3 => wpAny_bind (wpAny_letGo (wpAny_pure ?_)))))
      have kp3 : ∀ c o, c ≠ z → c ≠ TO → c ≠ i1 → s.heap.get? c = some o → g3.get? c = some o := fun c o c1 c2 c3 e => b3.extBut _ _ c2 (b2.extBut _ _ c3 (b1.extBut _ _ c1 e))
      have s3 : Sq g3 i2 l2 k ys := r.two.at (fun o => kp3 _ o D.i2z D.TOi2.symm D.i12.symm) fun o => kp3 _ o D.l2z D.l2TO D.l2i1
      have z3 : IsZip g3 z TI TO .ellipsis := b3.extBut _ _ D.TOz.symm (b2.extBut _ _ D.i1z.symm z1)
      exact wpAny_bind (wpAny_bind (wpAny_onRaise (show wpAny _ _ (Builtin.SmallTypes.nextOf (.ref i2) >>= _) _ _ _ from wpAny_bind (nextSq_end hh s3 ey fun g4 e b4 he => last g3 g4 e i2 D.i2z (.inr rfl) z3 (fun c o c1 c2 c3 _ y => kp3 c o c1 c2 c3 y) b4 he))))
  have ty : s.TypeIs (.ref z) "zip" := ⟨_, hz, rfl⟩
  unfold pyNext
  refine wpAny_bind (wpAny_attempt (wpAny_callSpecial?_slot (name := Str.ofString "__next__") ty F.slot_zip_next (wpAny_call_entry F.slot_zip_next ty F.entry_zip_next (told _ _ fun h' e kp ⟨o, ho, hc⟩ => ?_) (F.args_zip_next_1 _))))
  exact wpAny_bind (wpAny_isInstance (T := "StopIteration") (b := true) ⟨o, ho, hc⟩ isSubtype_stop (wpAny_pure (q _ kp)))
/-- the next pair of a zip whose first pair is still held -/
theorem zipThen {z TI TO T i1 i2 l1 l2 : Addr} {f : Bool} {oT : Obj} {k : Nat} {xs ys : Array Value} {x y : Value} {Q : Option Value → Shared → Prop} (D : ZipApart z TI TO i1 i2 l1 l2) (hz : IsZipHeld s.heap z TI TO T f) (hT : s.heap.get? T = some oT) (r : Two s.heap z TI i1 i2 l1 l2 k xs ys) (hx : xs[k]? = some x) (hy : ys[k]? = some y)
    (q : ∀ h', IsZipHeld h' z TI TO T true → Two h' z TI i1 i2 l1 l2 (k + 1) xs ys → IsPair h' s.heap.objs.size x y → (∀ c o, c ≠ z → c ≠ i1 → c ≠ i2 → s.heap.get? c = some o → h'.get? c = some o) → Q (some (.ref s.heap.objs.size)) { s with heap := h' }) : wpAny (model prog w) A (pyNext (.ref z)) Q E s := by
  have told : ∀ E' : Value → Shared → Prop, wpAny (model prog w) A.in1 (Builtin.«zip.__next__» ⟨[.ref z], []⟩) (fun fin s' => ∃ v, fin = .done (.ret v) ∧ Q (some v) s') E' s := by
    intro E'
    refine (show wpAny _ _ (field (.ref z) 2 >>= _) _ _ _ from wpAny_bind (wpAny_field hz rfl (x := .bool false) rfl ?_))
    refine (show wpAny _ _ (field (.ref z) 3 >>= _) _ _ _ from wpAny_bind (wpAny_field hz rfl (x := .ref TI) rfl (wpAny_bind (wpAny_seqItems r.pr rfl ?_))))
    refine (show wpAny _ _ (Builtin.SmallTypes.ownedTupleIsFree (.ref z) >>= _) _ _ _ from wpAny_bind (wpAny_tupleHeld_zip hz hT fun g1 z1 b1 => ?_))
    simp only [Bool.false_eq_true, if_false]
    refine wpAny_bind ?_
    rw [← Array.forIn_toList]
    simp only [List.forIn_cons, List.forIn_nil]
    have r1 : Two g1 z TI i1 i2 l1 l2 k xs ys := r.at D fun c o c1 _ e => b1.extBut _ _ c1 e
    refine wpAny_bind (wpAny_bind (wpAny_holding (show wpAny _ _ (Builtin.SmallTypes.nextOf (.ref i1) >>= _) _ _ _ from wpAny_bind (nextSq (s := { s with heap := g1 }) r1.one D.l1i1 hx fun g2 o2 b2 => wpAny_pure (wpAny_pure ?_)))))
    have s2 : Sq g2 i2 l2 k ys := r1.two.at (fun o e => b2.extBut _ _ D.i12.symm e) fun o e => b2.extBut _ _ D.l2i1 e
    refine wpAny_bind (wpAny_bind (wpAny_holding (show wpAny _ _ (Builtin.SmallTypes.nextOf (.ref i2) >>= _) _ _ _ from wpAny_bind (nextSq (s := { s with heap := g2 }) s2 D.l2i2 hy fun g3 o3 b3 => wpAny_pure (wpAny_pure (wpAny_pure ?_))))))
    refine (show wpAny _ _ (newTuple [x, y] >>= _) _ _ _ from wpAny_bind (wpAny_newTuple (wpAny_pure ⟨_, rfl, ?_⟩)))
    show Q (some (.ref g3.objs.size)) _
    have sz3 : g3.objs.size = s.heap.objs.size := by rw [b3.1, b2.1, b1.1]
    have z3 : IsZipHeld g3 z TI TO T true := b3.extBut _ _ D.i2z.symm (b2.extBut _ _ D.i1z.symm z1)
    have kp3 : ∀ c o, c ≠ z → c ≠ i1 → c ≠ i2 → s.heap.get? c = some o → g3.get? c = some o := fun c o c1 c2 c3 e => b3.extBut _ _ c3 (b2.extBut _ _ c2 (b1.extBut _ _ c1 e))
    have p3 : IsPair (g3.push { cls := .type "tuple", data := .seq #[x, y] }) g3.objs.size x y := Heap.get?_push_size _ rfl
    have r3 : Two g3 z TI i1 i2 l1 l2 (k + 1) xs ys := ⟨kp3 _ _ D.TIz D.TIi1 D.TIi2 r.pr, o2.at (fun o e => b3.extBut _ _ D.i12 e) fun o e => b3.extBut _ _ D.l1i2 e, o3⟩
    rw [sz3] at p3 ⊢
    exact q _ (Heap.get?_push_of_some _ z3) (r3.at D fun c o _ _ e => Heap.get?_push_of_some _ e) p3 fun c o c1 c2 c3 e => Heap.get?_push_of_some _ (kp3 c o c1 c2 c3 e)
  have ty : s.TypeIs (.ref z) "zip" := ⟨_, hz, rfl⟩
  unfold pyNext
  exact wpAny_bind (wpAny_attempt (wpAny_callSpecial?_slot (name := Str.ofString "__next__") ty F.slot_zip_next (wpAny_call_entry F.slot_zip_next ty F.entry_zip_next (wpAny_mono (told _) (fun fin s' ⟨v, e, h⟩ => ⟨v, e, wpAny_pure h⟩) fun _ _ h => h) (F.args_zip_next_1 _))))
/-- the end of a zip whose first pair is still held -/
theorem zipThen_end {z TI TO T i1 i2 l1 l2 : Addr} {f : Bool} {oT : Obj} {k : Nat} {xs ys : Array Value} {Q : Option Value → Shared → Prop} (hh : A.handled = none) (D : ZipApart z TI TO i1 i2 l1 l2) (hz : IsZipHeld s.heap z TI TO T f) (hT : s.heap.get? T = some oT) (r : Two s.heap z TI i1 i2 l1 l2 k xs ys) (hx : xs[k]? = none ∨ ys[k]? = none)
    (q : ∀ h', (∀ c o, c ≠ z → c ≠ i1 → c ≠ i2 → s.heap.get? c = some o → h'.get? c = some o) → Q none { s with heap := h' }) : wpAny (model prog w) A (pyNext (.ref z)) Q E s := by
  have told : ∀ (P : Fin → Shared → Prop) (E' : Value → Shared → Prop), (∀ h' e, (∀ c o, c ≠ z → c ≠ i1 → c ≠ i2 → s.heap.get? c = some o → h'.get? c = some o) → (∃ o, h'.get? e = some o ∧ o.cls = .type "StopIteration") → E' (.ref e) { s with heap := h' }) →
      wpAny (model prog w) A.in1 (Builtin.«zip.__next__» ⟨[.ref z], []⟩) P E' s := by
    intro P E' fin
    refine (show wpAny _ _ (field (.ref z) 2 >>= _) _ _ _ from wpAny_bind (wpAny_field hz rfl (x := .bool false) rfl ?_))
    refine (show wpAny _ _ (field (.ref z) 3 >>= _) _ _ _ from wpAny_bind (wpAny_field hz rfl (x := .ref TI) rfl (wpAny_bind (wpAny_seqItems r.pr rfl ?_))))
    refine (show wpAny _ _ (Builtin.SmallTypes.ownedTupleIsFree (.ref z) >>= _) _ _ _ from wpAny_bind (wpAny_tupleHeld_zip hz hT fun g1 z1 b1 => ?_))
    simp only [Bool.false_eq_true, if_false]
    refine wpAny_bind ?_
    rw [← Array.forIn_toList]
    simp only [List.forIn_cons, List.forIn_nil]
    have r1 : Two g1 z TI i1 i2 l1 l2 k xs ys := r.at D fun c o c1 _ e => b1.extBut _ _ c1 e
    refine wpAny_bind (wpAny_bind (wpAny_holding (show wpAny _ _ (Builtin.SmallTypes.nextOf (.ref i1) >>= _) _ _ _ from ?_)))
    cases ex : xs[k]? with
    | none => exact wpAny_bind (nextSq_end (s := { s with heap := g1 }) hh r1.one ex fun g2 e b2 he => fin g2 e (fun c o c1 c2 _ y => b2 _ _ c2 (b1.extBut _ _ c1 y)) he)
    | some x =>
      have ey : ys[k]? = none := by
        rcases hx with y | y
        · rw [ex] at y; cases y
        · exact y
      refine wpAny_bind (nextSq (s := { s with heap := g1 }) r1.one D.l1i1 ex fun g2 o2 b2 => wpAny_pure (wpAny_pure ?_))
      have s2 : Sq g2 i2 l2 k ys := r1.two.at (fun o e => b2.extBut _ _ D.i12.symm e) fun o e => b2.extBut _ _ D.l2i1 e
      exact wpAny_bind (wpAny_bind (wpAny_holding (show wpAny _ _ (Builtin.SmallTypes.nextOf (.ref i2) >>= _) _ _ _ from wpAny_bind (nextSq_end (s := { s with heap := g2 }) hh s2 ey fun g3 e b3 he => fin g3 e (fun c o c1 c2 c3 y => b3 _ _ c3 (b2.extBut _ _ c2 (b1.extBut _ _ c1 y))) he))))
  have ty : s.TypeIs (.ref z) "zip" := ⟨_, hz, rfl⟩
  unfold pyNext
  refine wpAny_bind (wpAny_attempt (wpAny_callSpecial?_slot (name := Str.ofString "__next__") ty F.slot_zip_next (wpAny_call_entry F.slot_zip_next ty F.entry_zip_next (told _ _ fun h' e kp ⟨o, ho, hc⟩ => ?_) (F.args_zip_next_1 _))))
  exact wpAny_bind (wpAny_isInstance (T := "StopIteration") (b := true) ⟨o, ho, hc⟩ isSubtype_stop (wpAny_pure (q _ kp)))
end
/-! the call -/
abbrev zq1 (h : Heap) (l : Addr) : Heap := h.push { cls := .type "list_iterator", data := .fields #[.ref l, .int 0 0] }
abbrev zq2 (h : Heap) (l m : Addr) : Heap := (zq1 h l).push { cls := .type "tuple_iterator", data := .fields #[.ref m, .int 0 0] }
abbrev zq3 (h : Heap) (l m : Addr) : Heap := (zq2 h l m).push { cls := .type "tuple", data := .seq #[.ref h.objs.size, .ref (zq1 h l).objs.size] }
abbrev zq4 (h : Heap) (l m : Addr) : Heap := (zq3 h l m).push { cls := .type "tuple", data := .seq #[.none, .none] }
abbrev zq5 (h : Heap) (l m : Addr) : Heap := (zq4 h l m).push { cls := .type "zip", data := .fields #[.none, .bool false, .bool false, .ref (zq2 h l m).objs.size, .ref (zq3 h l m).objs.size] }
theorem zq_new (l m : Addr) (xs ys : Array Value) : Meets (Builtin.«zip.__new__» ⟨[.type "zip", .ref l, .ref m], []⟩) (fun _ R s => s.heap.IsList l xs ∧ s.heap.IsTuple m ys ∧ R (.ok (.ret (.ref (zq4 s.heap l m).objs.size))) { s with heap := zq5 s.heap l m }) :=
  .of_wp fun prog w A R s ⟨a, b, c⟩ => by
    obtain ⟨hp, g, d, tk, os⟩ := s
    have hsub := sub_zip
    have L1 : Heap.IsList (Shared.heap ⟨hp, g, d, tk, os⟩) l xs := a
    have L2 : Heap.IsTuple (Shared.heap ⟨hp.push { cls := .type "list_iterator", data := .fields #[.ref l, .int 0 0] }, g, d, tk, os⟩) m ys := Heap.IsTuple.push b _
    wp_walk using wpAny_pyIter_list L1, wpAny_pyIter_tuple L2
    exact ⟨_, rfl, c⟩
theorem call_zq {prog : Program} {w : World} {A : Around} {E : Value → Shared → Prop} {s : Shared} {l m : Addr} {xs ys : Array Value} {Q : Value → Shared → Prop} (a : s.heap.IsList l xs) (b : s.heap.IsTuple m ys)
    (q : ∀ h', IsZip h' (s.heap.objs.size + 4) (s.heap.objs.size + 2) (s.heap.objs.size + 3) .none → IsPair h' (s.heap.objs.size + 3) .none .none → Two h' (s.heap.objs.size + 4) (s.heap.objs.size + 2) s.heap.objs.size (s.heap.objs.size + 1) l m 0 xs ys → (∀ c o, s.heap.get? c = some o → h'.get? c = some o) → Q (.ref (s.heap.objs.size + 4)) { s with heap := h' }) :
    wpAny (model prog w) A (call (.type "zip") [.ref l, .ref m]) Q E s := by
  have n1 : (zq1 s.heap l).objs.size = s.heap.objs.size + 1 := Heap.size_push ..
  have n2 : (zq2 s.heap l m).objs.size = s.heap.objs.size + 2 := by rw [Heap.size_push, n1]
  have n3 : (zq3 s.heap l m).objs.size = s.heap.objs.size + 3 := by rw [Heap.size_push, n2]
  have n4 : (zq4 s.heap l m).objs.size = s.heap.objs.size + 4 := by rw [Heap.size_push, n3]
  have k2 : ∀ c o, (zq1 s.heap l).get? c = some o → (zq5 s.heap l m).get? c = some o := fun c o e => Heap.get?_push_of_some _ (Heap.get?_push_of_some _ (Heap.get?_push_of_some _ (Heap.get?_push_of_some _ e)))
  have kp : ∀ c o, s.heap.get? c = some o → (zq5 s.heap l m).get? c = some o := fun c o e => k2 c o (Heap.get?_push_of_some _ e)
  refine callType_new F.called_zip (by decide) (F.typeCall_zip_2 _ _) (F.newCall_zip_2 _ _) (fun obj => F.args_object_init_3 obj _ _) F.entry_zip_new (zq_new l m xs ys) ⟨a, b, ?_⟩
  have g5 : (zq5 s.heap l m).get? (zq4 s.heap l m).objs.size = some _ := Heap.get?_push_size _ rfl
  have g4 : (zq5 s.heap l m).get? (zq3 s.heap l m).objs.size = some _ := Heap.get?_push_of_some _ (Heap.get?_push_size _ rfl)
  have g3 : (zq5 s.heap l m).get? (zq2 s.heap l m).objs.size = some _ := Heap.get?_push_of_some _ (Heap.get?_push_of_some _ (Heap.get?_push_size _ rfl))
  have g2 : (zq5 s.heap l m).get? (zq1 s.heap l).objs.size = some _ := Heap.get?_push_of_some _ (Heap.get?_push_of_some _ (Heap.get?_push_of_some _ (Heap.get?_push_size _ rfl)))
  have g1 : (zq5 s.heap l m).get? s.heap.objs.size = some _ := k2 _ _ (Heap.get?_push_size _ rfl)
  show _ ∧ _
  rw [n2, n3, n4] at g5
  rw [n1, n2] at g3
  rw [n3] at g4
  rw [n1] at g2
  rw [n4]
  exact ⟨⟨_, g5, rfl⟩, q _ g5 g4 ⟨g3, .inl ⟨⟨_, g1, rfl, rfl⟩, a.at fun o e => kp _ o e⟩, .inr ⟨⟨_, g2, rfl, rfl⟩, b.at fun o e => kp _ o e⟩⟩ kp⟩
end Sh
set_option maxHeartbeats 4000000
namespace Sh
open PySem PySem.Spec PyProof.Rows L2
/-! ## walking zip(list, tuple) -/
def Itx (K : PySem.W.Frag) (a b : Addr) : It :=
  ⟨fun i H => ∃ (xs ys : List V) (x y : V), SqL K H a xs ∧ SqT K H b ys ∧ xs[i]? = some x ∧ ys[i]? = some y,
    fun i H v H' => ∃ T x y, v = .ref T ∧ H T = none ∧ H' = upd H T (.tup [x, y]) ∧ (∀ xs, SqL K H a xs → xs[i]? = some x) ∧ ∀ ys, SqT K H b ys → ys[i]? = some y,
    fun i H => ∃ xs ys : List V, SqL K H a xs ∧ SqT K H b ys ∧ (xs.length ≤ i ∨ ys.length ≤ i)⟩
/-- a zip's turn, nothing handed out -/
def ZSt (z TI TO i1 i2 a b : Addr) (i : Nat) (h : Heap) : Prop := IsZip h z TI TO .none ∧ IsPair h TI (.ref i1) (.ref i2) ∧ (∃ x y, IsPair h TO x y) ∧ h.IsListIter i1 a i ∧ h.IsTupleIter i2 b i
theorem five {z TI TO i1 i2 c : Addr} (h : c ∈ [z, TI, TO, i1, i2]) : c = z ∨ c = TI ∨ c = TO ∨ c = i1 ∨ c = i2 := by simpa using h
theorem ZSt.obj {z TI TO i1 i2 a b : Addr} {i : Nat} {h : Heap} (r : ZSt z TI TO i1 i2 a b i h) {c : Addr} (hc : c ∈ [z, TI, TO, i1, i2]) : ∃ o, h.get? c = some o ∧ ∀ v, o.data ≠ .cell v := by
  obtain ⟨h1, h2, ⟨x, y, h3⟩, ⟨o4, h4, _, d4⟩, ⟨o5, h5, _, d5⟩⟩ := r
  rcases five hc with rfl | rfl | rfl | rfl | rfl
  · exact ⟨_, h1, fun v q => nomatch q⟩
  · exact ⟨_, h2, fun v q => nomatch q⟩
  · exact ⟨_, h3, fun v q => nomatch q⟩
  · exact ⟨o4, h4, fun v q => by rw [d4] at q; cases q⟩
  · exact ⟨o5, h5, fun v q => by rw [d5] at q; cases q⟩
theorem ZSt.two {z TI TO i1 i2 a b : Addr} {i : Nat} {h : Heap} {xs ys : Array Value} (r : ZSt z TI TO i1 i2 a b i h) (p : h.IsList a xs) (q : h.IsTuple b ys) : Two h z TI i1 i2 a b i xs ys := ⟨r.2.1, .inl ⟨r.2.2.2.1, p⟩, .inr ⟨r.2.2.2.2, q⟩⟩
theorem two_list {h : Heap} {i l : Addr} {k : Nat} {xs : Array Value} (r : Sq h i l k xs) (c : h.IsList l xs) : h.IsListIter i l k := by
  rcases r with ⟨a, _⟩ | ⟨_, o, h1, h2, _⟩
  · exact a
  · obtain ⟨o', k1, k2, _⟩ := c
    rw [h1] at k1
    cases k1
    rw [h2] at k2
    exact absurd k2 (by decide)
theorem two_tup {h : Heap} {i l : Addr} {k : Nat} {xs : Array Value} (r : Sq h i l k xs) (c : h.IsTuple l xs) : h.IsTupleIter i l k := by
  rcases r with ⟨_, o, h1, h2, _⟩ | ⟨a, _⟩
  · obtain ⟨o', k1, k2, _⟩ := c
    rw [h1] at k1
    cases k1
    rw [h2] at k2
    exact absurd k2 (by decide)
  · exact a
theorem turn_zx {P : Program} {w : World} {K : PySem.W.Frag} {elts : List Expr} {kk : Nat} {tpos : Pos} {a b z TI TO i1 i2 : Addr} (D : ZipApart z TI TO i1 i2 a b) : Turn P w K (.Tuple elts kk tpos) (Itx K a b) [z, TI, TO, i1, i2] z (ZSt z TI TO i1 i2 a b) where
  mem := by simp
  obj := fun i h st c hc => st.obj hc
  keep := fun i h h' st k => by
    obtain ⟨h1, h2, ⟨x, y, h3⟩, h4, h5⟩ := st
    exact ⟨k z (by simp) _ h1, k TI (by simp) _ h2, ⟨x, y, k TO (by simp) _ h3⟩, h4.at fun o q => k i1 (by simp) o q, h5.at fun o q => k i2 (by simp) o q⟩
  item := by
    intro X hP hw hK hc i pins s σ H E I hf st hg
    subst hP hw hK
    obtain ⟨xs, ys, x, y, sx, sy, gx, gy⟩ := hg
    obtain ⟨us, ru, pu, _⟩ := I.list sx
    obtain ⟨vs, rv, pv, _⟩ := I.tuple sy
    obtain ⟨u, hu, eu⟩ := ru.get gx
    obtain ⟨v, hv, ev⟩ := rv.get gy
    have zl : z < s.heap.objs.size := Heap.lt_size st.1
    obtain ⟨x0, y0, hTO⟩ := st.2.2.1
    refine zipFirst D st.1 hTO (st.two pu.isList pv) (x := u) (y := v) (by simpa using hu) (by simpa using hv) fun g zg tg rg pg kg => ?_
    refine ⟨_, rfl, wpAny_letOwnedTupleGo_zip (s := { s with heap := g }) zg fun g2 z2 b2 => ?_⟩
    have p2 : g2.get? s.heap.objs.size = some { cls := .type "tuple", data := .seq #[u, v] } := (b2.2 _ (Nat.ne_of_gt zl)).trans pg
    have new : ObjOk X.prog X.w (upd H s.heap.objs.size (.tup [x, y])) g2 s.heap.objs.size (.tup [x, y]) := ⟨by show 2 ≤ sizeLine; decide, [u, v], .cons eu (.cons ev .nil), ⟨_, p2, rfl, _, rfl⟩⟩
    have kp : ∀ c o, c ∉ [z, TI, TO, i1, i2] → s.heap.get? c = some o → g2.get? c = some o := fun c o hb q => by
      simp only [List.mem_cons, List.not_mem_nil, or_false, not_or] at hb
      exact (b2.2 c hb.1).trans (kg c o hb.1 hb.2.2.1 hb.2.2.2.1 hb.2.2.2.2 q)
    have I1 : Inv X pins σ (upd H s.heap.objs.size (.tup [x, y])) { s with heap := g2 } := I.turnedNew (t' := s.toks) (ch := [z, TI, TO, i1, i2]) kp hf (Nat.le_refl _) new
    have la : g.IsList a us.toArray := pu.isList.at fun o e => kg a o D.l1z D.l1TO D.l1i1 D.l1i2 e
    have lb : g.IsTuple b vs.toArray := Heap.IsTuple.at pv fun o e => kg b o D.l2z D.l2TO D.l2i1 D.l2i2 e
    refine ⟨.ref s.heap.objs.size, _, I1, rfl, ⟨_, x, y, rfl, I.hok.fresh (Nat.le_refl _), rfl, fun l hl => by rw [I.list_inj hl sx]; exact gx, fun l hl => by rw [I.tuple_inj hl sy]; exact gy⟩, ⟨z2, (b2.2 _ D.TIz).trans rg.pr, ⟨u, v, (b2.2 _ D.TOz).trans tg⟩, (two_list rg.one la).at fun o q => (b2.2 _ D.i1z).trans q, (two_tup rg.two lb).at fun o q => (b2.2 _ D.i2z).trans q⟩, fun c hcm => ?_⟩
    obtain ⟨o, ho, _⟩ := st.obj hcm
    rw [upd_ne (Nat.ne_of_lt (Heap.lt_size ho))]
    exact (hf c hcm).1
  done := by
    intro X hP hw hK hc i pins s σ H E I hf st hg
    subst hP hw hK
    obtain ⟨xs, ys, sx, sy, fin⟩ := hg
    obtain ⟨us, ru, pu, _⟩ := I.list sx
    obtain ⟨vs, rv, pv, _⟩ := I.tuple sy
    obtain ⟨x0, y0, hTO⟩ := st.2.2.1
    have n1 := ru.length
    have n2 := rv.length
    have none : us.toArray[i]? = none ∨ vs.toArray[i]? = none := by
      rcases fin with q | q
      · exact .inl (by simp; omega)
      · exact .inr (by simp; omega)
    refine zipFirst_end (I.ok.hd hc) D st.1 hTO (st.two pu.isList pv) none fun h' hk => ⟨rfl, I.turnedL (t' := s.toks) (ch := [z, TI, TO, i1, i2]) (fun c o hb q => ?_) hf⟩
    simp only [List.mem_cons, List.not_mem_nil, or_false, not_or] at hb
    exact hk c o hb.1 hb.2.2.1 hb.2.2.2.1 hb.2.2.2.2 q
  self := fun A i s Q E st h => wpAny_pyIter_zip st.1 h
/-- zip of two lists, of two tuples, of a list and a tuple -/
def iZips (K : PySem.W.Frag) (ta : TA) : TI := fun σ H R => ta σ H fun vs H1 => ∃ a b xs ys, vs = [.ref a, .ref b] ∧ SqL K H1 a xs ∧ ((SqL K H1 b ys ∧ R (Itz K a b) H1) ∨ (SqT K H1 b ys ∧ R (Itx K a b) H1))
theorem pi_zips {X : Cx} {e e2 : Expr} {ta : TA} {p pos tpos : Pos} {elts : List Expr} {kk : Nat} (hg : Gl X "zip") (hm : X.mg "zip" = none) (ha : PA X [e, e2] ta) (h1 : starEach [e, e2] X.env = (false, eval e X.env) :: starEach [e2] X.env := by rfl) (h2 : (backTo pos (starEach [e2] X.env)).any (·.1) = false := by rfl) :
    PI X (.Tuple elts kk tpos) (.Call (.Name "zip" p) [e, e2] [] pos) (iZips X.K ta) := by
  refine ⟨fun pins s σ H R I h => Call_ (ld_blt I hg hm PyProof.Rows.boot_zip (PyProof.Rows.callWith_type1 (thn (ha.run pos pins s σ H _ I h) fun us s1 ⟨vs, H1, I1, r1, q1⟩ => ?_) h1 h2))⟩
  obtain ⟨a, b, xs, ys, rfl, sx, q1⟩ := q1
  obtain rfl : us = [Value.ref a, Value.ref b] := by
    cases r1 with
    | cons r rr =>
      cases rr with
      | cons r' rr =>
        cases rr
        cases r
        cases r'
        rfl
  have fresh5 : ∀ c, c ∈ [s1.heap.objs.size + 4, s1.heap.objs.size + 2, s1.heap.objs.size + 3, s1.heap.objs.size, s1.heap.objs.size + 1] → FpOk X pins H1 c := fun c hcm => by
    have le : s1.heap.objs.size ≤ c := by
      rcases five hcm with z | z | z | z | z <;> rw [z]
      · exact Nat.le_add_right _ _
      · exact Nat.le_add_right _ _
      · exact Nat.le_add_right _ _
      · exact Nat.le_refl _
      · exact Nat.le_add_right _ _
    exact I1.fpOk le (I1.hok.fresh le)
  obtain ⟨us, ru, pu, _⟩ := I1.list sx
  rcases q1 with ⟨sy, q⟩ | ⟨sy, q⟩
  · obtain ⟨vs, rv, pv, _⟩ := I1.list sy
    refine call_zip_2 pu.isList pv.isList fun h' hz hTI hTO g1 g2 _ hk => wpAny_pyIter_zip hz ?_
    exact ⟨s1.heap.objs.size + 4, _, _, _, H1, rfl, I1.kept (t' := s1.toks) hk, turn_zip (PySem.W.ktu_apart s1.heap.objs.size a b pu.lt pv.lt), ⟨hz, hTI, ⟨_, _, hTO⟩, g1, g2⟩, fresh5, q⟩
  · obtain ⟨vs, rv, pv, _⟩ := I1.tuple sy
    have lb : b < s1.heap.objs.size := let ⟨_, e, _⟩ := pv; Heap.lt_size e
    have pv' : s1.heap.IsTuple b vs.toArray := pv
    refine call_zq pu.isList pv' fun h' hz hTO tw hk => wpAny_pyIter_zip hz ?_
    have la : h'.IsList a us.toArray := pu.isList.at fun o e => hk a o e
    have lt : h'.IsTuple b vs.toArray := Heap.IsTuple.at pv' fun o e => hk b o e
    exact ⟨s1.heap.objs.size + 4, _, _, _, H1, rfl, I1.kept (t' := s1.toks) hk, turn_zx (PySem.W.ktu_apart s1.heap.objs.size a b pu.lt lb), ⟨hz, tw.pr, ⟨_, _, hTO⟩, two_list tw.one la, two_tup tw.two lt⟩, fresh5, q⟩
/-! ## dict(zip(list, tuple)) -/
section
variable {prog : Program} {w : World}
theorem pairs_zx (z TI TO i1 i2 a b : Addr) (D : ZipApart z TI TO i1 i2 a b) (xs ys : Array Value) :
    PairArg prog w "zip" z [z, TI, TO, i1, i2, a, b] [z, TO, i1, i2] (min xs.size ys.size) (fun i k v => xs[i]? = some k ∧ ys[i]? = some v) (fun h => IsZip h z TI TO .none ∧ (∃ c d, IsPair h TO c d) ∧ Two h z TI i1 i2 a b 0 xs ys) where
  type := fun s ok => ⟨_, ok.1, rfl⟩
  notDict := by decide
  keep := fun h h' ok hk => by
    obtain ⟨h1, ⟨c, d, h2⟩, h3⟩ := ok
    exact ⟨hk _ _ h1, ⟨c, d, hk _ _ h2⟩, h3.at D fun c o _ _ e => hk c o e⟩
  there := fun h ok c hc => by
    obtain ⟨h1, ⟨x, y, h2⟩, h3⟩ := ok
    have lt : ∀ d, d < h.objs.size → d ∉ ([] : List Addr) → True := fun _ _ _ => trivial
    simp only [List.mem_cons, List.not_mem_nil, or_false] at hc
    obtain ⟨p1, p2⟩ : (∃ o, h.get? i1 = some o) ∧ ∃ o, h.get? a = some o := by
      rcases h3.one with ⟨⟨_, u, _⟩, ⟨_, v, _⟩⟩ | ⟨⟨_, u, _⟩, ⟨_, v, _⟩⟩ <;> exact ⟨⟨_, u⟩, ⟨_, v⟩⟩
    obtain ⟨p3, p4⟩ : (∃ o, h.get? i2 = some o) ∧ ∃ o, h.get? b = some o := by
      rcases h3.two with ⟨⟨_, u, _⟩, ⟨_, v, _⟩⟩ | ⟨⟨_, u, _⟩, ⟨_, v, _⟩⟩ <;> exact ⟨⟨_, u⟩, ⟨_, v⟩⟩
    rcases hc with rfl | rfl | rfl | rfl | rfl | rfl | rfl
    · exact ⟨_, h1⟩
    · exact ⟨_, h3.pr⟩
    · exact ⟨_, h2⟩
    · exact p1
    · exact p3
    · exact p2
    · exact p4
  sub := fun c hc => by simp at hc ⊢; rcases hc with rfl | rfl | rfl | rfl <;> simp
  noKeys := fun A s Q E hA ok h => getAttrOr_miss_zip ok.1 rfl rfl rfl zip_no_keys (by decide +kernel) hA h
  iter := fun A s d Q E hA ok hd hdf h => by
    obtain ⟨hz, ⟨c0, d0, hTO⟩, tw⟩ := ok
    simp only [List.mem_cons, List.not_mem_nil, or_false, not_or] at hdf
    obtain ⟨dz, dTI, dTO, di1, di2, da, db⟩ := hdf
    refine wpAny_pyIter_zip hz (h z [z, TO, i1, i2] (fun i h => Two h z TI i1 i2 a b i xs ys ∧ ((IsZip h z TI TO .none ∧ ∃ c d, IsPair h TO c d) ∨ ∃ T f oT, IsZipHeld h z TI TO T f ∧ h.get? T = some oT ∧ T ≠ z ∧ T ≠ i1 ∧ T ≠ i2 ∧ T ≠ d)) s.heap s.toks ?_ ⟨tw, .inl ⟨hz, c0, d0, hTO⟩⟩ (fun _ _ e => e) fun b hb => .inl hb)
    refine { off := fun hm => ?_, frame := fun i h1 h2 st hk => ?_, item := fun i s1 Q1 E1 hi st hds hQ => ?_, done := fun s1 Q1 E1 st hQ => ?_ }
    · simp only [List.mem_cons, List.not_mem_nil, or_false] at hm
      rcases hm with e | e | e | e
      · exact dz e
      · exact dTO e
      · exact di1 e
      · exact di2 e
    · obtain ⟨tw, hz⟩ := st
      have k : ∀ c o, d ≠ c → h1.get? c = some o → h2.get? c = some o := fun c o n e => hk c o (Ne.symm n) e
      refine ⟨⟨k _ _ dTI tw.pr, tw.one.at (fun o => k _ o di1) fun o => k _ o da, tw.two.at (fun o => k _ o di2) fun o => k _ o db⟩, ?_⟩
      rcases hz with ⟨hz, c, e, hTO⟩ | ⟨T, f, oT, hz, hT, r1, r2, r3, r4⟩
      · exact .inl ⟨k _ _ dz hz, c, e, k _ _ dTO hTO⟩
      · exact .inr ⟨T, f, oT, k _ _ dz hz, k _ _ (Ne.symm r4) hT, r1, r2, r3, r4⟩
    · obtain ⟨tw, hz⟩ := st
      have ex : xs[i]? = some xs[i] := Array.getElem?_eq_getElem (Nat.lt_of_lt_of_le hi (Nat.min_le_left ..))
      have ey : ys[i]? = some ys[i] := Array.getElem?_eq_getElem (Nat.lt_of_lt_of_le hi (Nat.min_le_right ..))
      have ne : ∀ {c : Addr}, c < s1.heap.objs.size → s1.heap.objs.size ≠ c := fun e => Nat.ne_of_gt e
      rcases hz with ⟨hz, c, e, hTO⟩ | ⟨T, f, oT, hz, hT, r1, r2, r3, r4⟩
      · refine zipFirst D hz hTO tw ex ey fun g z1 _ t1 p1 k1 => hQ s1.heap.objs.size _ _ g s1.toks ⟨ex, ey⟩ (.inl ⟨_, p1, rfl, _, rfl⟩) ⟨t1, .inr ⟨s1.heap.objs.size, false, _, z1, p1, ne (Heap.lt_size hz), ne tw.one.lt.1, ne tw.two.lt.1, Nat.ne_of_gt hds⟩⟩ fun c o hc e => ?_
        simp only [List.mem_cons, List.not_mem_nil, or_false, not_or] at hc
        exact k1 c o hc.1 hc.2.1 hc.2.2.1 hc.2.2.2 e
      · refine zipThen D hz hT tw ex ey fun g z1 t1 p1 k1 => hQ s1.heap.objs.size _ _ g s1.toks ⟨ex, ey⟩ (.inl ⟨_, p1, rfl, _, rfl⟩) ⟨t1, .inr ⟨T, true, oT, z1, k1 _ _ r1 r2 r3 hT, r1, r2, r3, r4⟩⟩ fun c o hc e => ?_
        simp only [List.mem_cons, List.not_mem_nil, or_false, not_or] at hc
        exact k1 c o hc.1 hc.2.2.1 hc.2.2.2 e
    · obtain ⟨tw, hz⟩ := st
      have out : xs[min xs.size ys.size]? = none ∨ ys[min xs.size ys.size]? = none := by
        rcases Nat.le_total xs.size ys.size with e | e
        · exact .inl (Array.getElem?_eq_none (by rw [Nat.min_eq_left e]; exact Nat.le_refl _))
        · exact .inr (Array.getElem?_eq_none (by rw [Nat.min_eq_right e]; exact Nat.le_refl _))
      rcases hz with ⟨hz, c, e, hTO⟩ | ⟨T, f, oT, hz, hT, r1, r2, r3, r4⟩
      · refine zipFirst_end hA D hz hTO tw out fun g k1 => hQ g s1.toks fun c o hc e => ?_
        simp only [List.mem_cons, List.not_mem_nil, or_false, not_or] at hc
        exact k1 c o hc.1 hc.2.1 hc.2.2.1 hc.2.2.2 e
      · refine zipThen_end hA D hz hT tw out fun g k1 => hQ g s1.toks fun c o hc e => ?_
        simp only [List.mem_cons, List.not_mem_nil, or_false, not_or] at hc
        exact k1 c o hc.1 hc.2.2.1 hc.2.2.2 e
end
end Sh
set_option maxHeartbeats 4000000
namespace Sh
open PySem PySem.Spec PyProof.Rows L2
/-! ## dicts, by values -/
section
variable {X : Cx} {pins : List (Addr × Obj)} {σ : L2.St} {H : Hp} {s : Shared}
mutual
/-- a datum with a key is the key, in the heap -/
theorem RD.nk (I : Inv X pins σ H s) {F : Hp} (sub : Same F H) : ∀ (d : PyData) (v : V) (u : Value) (k : NestedKey), RD X.K F v d → RelV v u → toNK d = some k → NestedIs s.heap k u
  | .none, _, u, k, r, e, h => by
    cases r
    cases e
    cases h
    exact .none
  | .bool b, _, u, k, r, e, h => by
    cases r
    cases e
    cases h
    exact .bool rfl
  | .int i, _, u, k, r, e, h => by
    cases r
    obtain ⟨t, rfl⟩ := e
    cases h
    exact .int _ _
  | .str x, _, u, k, r, e, h => by
    cases r
    obtain ⟨t, rfl⟩ := e
    cases h
    exact .text _ _
  | .tuple ds, _, u, k, r, e, h => by
    obtain ⟨a, xs, rfl, sa, ra⟩ := RD.tupI r
    cases e
    unfold toNK at h
    cases q : toNKs ds with
    | none => rw [q] at h; cases h
    | some ks =>
      rw [q] at h
      cases h
      obtain ⟨its, rv, ⟨o, ho, hc, n, hd⟩, _⟩ := I.tuple (sqt_sub sub sa)
      exact .tup ho hc hd (by simpa using RDs.nk I sub ds xs its ks ra rv q)
  | .list ds, _, u, k, r, e, h => by cases h
  | .dict ds, _, u, k, r, e, h => by cases h
theorem RDs.nk (I : Inv X pins σ H s) {F : Hp} (sub : Same F H) : ∀ (ds : List PyData) (vs : List V) (us : List Value) (ks : List NestedKey), RDs X.K F vs ds → Vals vs us → toNKs ds = some ks → NestedAll s.heap ks us
  | [], _, us, ks, r, e, h => by
    cases r
    cases e
    cases h
    exact .nil
  | d :: ds, _, us, ks, r, e, h => by
    cases r with
    | cons r1 r2 =>
      cases e with
      | cons e1 e2 =>
        unfold toNKs at h
        split at h
        · rename_i k1 ks1 h1 h2
          cases h
          exact .cons (RD.nk I sub d _ _ _ r1 e1 h1) (RDs.nk I sub ds _ _ _ r2 e2 h2)
        · cases h
end
theorem RD.key (I : Inv X pins σ H s) {F : Hp} (sub : Same F H) {d : PyData} {a : Addr} {k : NestedKey} (r : RD X.K F (.ref a) d) (h : toNK d = some k) (dp : k.depth ≤ 8) : KI X.prog X.w s.heap (a, k) := ⟨RD.nk I sub d _ _ k r rfl h, dp⟩
/-- looking a key up -/
def dfind {α : Type} (kvs : List (PyData × α)) (kd : PyData) : Option α := (kvs.find? fun p => decide (toNK p.1 = toNK kd)).map (·.2)
theorem find_ents {K : PySem.W.Frag} {F : Hp} {kd : PyData} {k : NestedKey} (hk : toNK kd = some k) : ∀ {xs : List DEnt}, (∀ x ∈ xs, toNK x.kd = some x.nk ∧ x.nk.depth ≤ 8 ∧ RD K F (.ref x.ka) x.kd) → (atKey (xs.map dRow) k = none ∧ xs.find? (fun x => decide (toNK x.kd = toNK kd)) = none) ∨ ∃ e, e ∈ xs ∧ atKey (xs.map dRow) k = some (e.ka, e.vv) ∧ xs.find? (fun x => decide (toNK x.kd = toNK kd)) = some e
  | [], _ => .inl ⟨rfl, rfl⟩
  | x :: xs, h => by
    have hx := (h x List.mem_cons_self).1
    by_cases e : x.nk = k
    · refine .inr ⟨x, List.mem_cons_self, ?_, ?_⟩
      · unfold atKey
        rw [List.map_cons, List.find?_cons_of_pos (by show decide (x.nk = k) = true; exact decide_eq_true e)]
        rfl
      · rw [List.find?_cons_of_pos (by rw [hx, hk, e]; exact decide_eq_true rfl)]
    · have n1 : atKey ((x :: xs).map dRow) k = atKey (xs.map dRow) k := by
        unfold atKey
        rw [List.map_cons, List.find?_cons_of_neg (by show ¬ decide (x.nk = k) = true; rw [decide_eq_false e]; decide)]
      have n2 : (x :: xs).find? (fun x => decide (toNK x.kd = toNK kd)) = xs.find? (fun x => decide (toNK x.kd = toNK kd)) := by
        rw [List.find?_cons_of_neg]
        rw [hx, hk]
        intro z
        exact e (Option.some.inj (of_decide_eq_true z))
      rw [n1, n2]
      rcases find_ents hk (xs := xs) fun y hy => h y (List.mem_cons_of_mem _ hy) with q | ⟨y, hy, q⟩
      · exact .inl q
      · exact .inr ⟨y, List.mem_cons_of_mem _ hy, q⟩
theorem dfind_ents {xs : List DEnt} {kd : PyData} : dfind (kvsOf xs) kd = (xs.find? fun x => decide (toNK x.kd = toNK kd)).map (·.vd) := by
  unfold dfind kvsOf
  rw [List.find?_map, Option.map_map]
  rfl
/-- the dict itself, in the heap -/
theorem dict_at (I : Inv X pins σ H s) {F : Hp} (sub : Same F H) {a : Addr} {o : Obj} {xs : List DEnt} (ho : s.heap.get? a = some o) (he : dEs X.prog X.w o (xs.map dRow)) (hk : ∀ x ∈ xs, toNK x.kd = some x.nk ∧ x.nk.depth ≤ 8 ∧ RD X.K F (.ref x.ka) x.kd) (nd : (xs.map (·.nk)).Nodup) :
    s.heap.DictOfH (nestedKind X.prog X.w) a (xs.map dRow) := by
  obtain ⟨es, ep, h1, h2, h3⟩ := he
  refine ⟨o, es, ep, ho, h1, h2, h3, fun x hx => ?_, by rw [List.map_map]; exact nd⟩
  obtain ⟨e, hm, rfl⟩ := List.mem_map.mp hx
  obtain ⟨k1, k2, k3⟩ := hk e hm
  exact RD.key I sub k3 k1 k2
theorem pin_at (I : Inv X pins σ H s) {a : Addr} {o : Obj} (h : H a = some (pinO a o)) : s.heap.get? a = some o := (I.hok a _ h).1
theorem dO_at (I : Inv X pins σ H s) {a : Addr} {xs : List (NestedKey × Addr × Value)} (h : H a = some (dO X.prog X.w a xs)) : ∃ o, s.heap.get? a = some o ∧ dEs X.prog X.w o xs := by
  obtain ⟨o, es, ep, h1, h2, h3, h4⟩ := (I.hok a _ h).1
  exact ⟨o, h1, es, ep, h2, h3, h4⟩
theorem pinO_ok {P : Program} {w : World} {H : Hp} {h : Heap} {a : Addr} {o : Obj} (e : h.get? a = some o) : ObjOk P w H h a (pinO a o) := ⟨e, ⟨o, e⟩, fun h1 h2 p k => k o p⟩
theorem dO_ok {P : Program} {w : World} {H : Hp} {h : Heap} {a : Addr} {xs : List (NestedKey × Addr × Value)} (e : h.DictOfH (nestedKind P w) a xs) : ObjOk P w H h a (dO P w a xs) := by
  obtain ⟨o, es, ep, h1, h2, h3, h4, _, _⟩ := e
  exact ⟨⟨o, es, ep, h1, h2, h3, h4⟩, ⟨o, h1⟩, fun h1 h2 ⟨o, es, ep, p1, p2⟩ k => ⟨o, es, ep, k o p1, p2⟩⟩
end
/-! ### d[k] -/
/-- what a pinned dict answers -/
def DAns (B : Bs) (H : Hp) (x y : V) (R : Option (V × Value) → Prop) : Prop := ∃ a o F xs b kd k, x = .ref a ∧ y = .ref b ∧ (a == sysModules) = false ∧ H a = some (pinO a o) ∧ Same F H ∧ dEs B.P B.w o (xs.map dRow) ∧ DEnts B.K F xs ∧ RD B.K F (.ref b) kd ∧ toNK kd = some k ∧ k.depth ≤ 8 ∧
  (xs.find? (fun x => decide (toNK x.kd = toNK kd)) = none → R none) ∧ ∀ e v, xs.find? (fun x => decide (toNK x.kd = toNK kd)) = some e → RelV v e.vv → RD B.K F v e.vd → R (some (v, e.vv))
def rIxO (B : Bs) : R2 := fun x y H Q => DAns B H x y fun o => ∃ v u, o = some (v, u) ∧ Q v H
theorem ix_dct {X : Cx} {B : Bs} (hu : X.A.units + 64 < cLine) (eP : X.prog = B.P) (ew : X.w = B.w) (eK : X.K = B.K) : IxR X (rIxO B) := by
  intro value slice pins s σ H x y v u Q I rx ry q hs
  obtain ⟨P, w, K⟩ := B
  subst eP ew eK
  obtain ⟨a, o, F, xs, b, kd, k, rfl, rfl, ns, ha, sub, he, de, rk, hk, dp, q1, q2⟩ := q
  cases rx
  cases ry
  have ho := pin_at I ha
  have hd := dict_at I sub ho he de.key de.nd
  unfold subscriptTail
  refine wpAny_bind ?_
  rw [getitemInPython_of_ne hd.typeIs.not_modules]
  refine wpAny_bind (wpAny_specialOf hd.typeIs PySem.F.slot_dict_getitem.lookup ?_)
  have fin : wpAny (model X.prog X.w) X.A (subscripted slice false (.ref a) (.ref b)) (fun r s3 => wpAny (model X.prog X.w) X.A (letTemporaryGo value (.ref a) r >>= fun _ => pure r) (EP X pins σ Q) X.xe s3) X.xe s := by
    rw [hs]
    refine wpAny_operating ?_
    rcases find_ents hk de.key with ⟨n1, n2⟩ | ⟨e, hm, n1, n2⟩
    · obtain ⟨v, u, z, _⟩ := q1 n2
      cases z
    · obtain ⟨v, rv, rd⟩ := de.val e hm
      obtain ⟨v', u', z, qq⟩ := q2 e v n2 rv rd
      cases z
      refine wpAny_getItem_heap (knd := nestedKind X.prog X.w) (show X.A.in1.units + 8 < cLine by simp only [Around.in1_units]; omega) (RD.key I sub rk hk dp) hd n1 ?_
      exact wpAny_bind (wpAny_letTemporaryGo (wpAny_pure ⟨v, H, I.tok _, rv, qq⟩))
  first
    | exact wpAny_pure (wpAny_bind fin)
    | exact wpAny_bind (wpAny_pure (wpAny_bind fin))
    | exact wpAny_bind fin
/-! ### d.get(k), d.get(k, x) -/
theorem dict_ty {X : Cx} {pins : List (Addr × Obj)} {σ : L2.St} {H : Hp} {s : Shared} (I : Inv X pins σ H s) {a : Addr} {o : Obj} {es : List (NestedKey × Addr × Value)} (ho : s.heap.get? a = some o) (he : dEs X.prog X.w o es) :
    s.TypeIs (.ref a) "dict" ∧ ∀ b, Value.ref a = .ref b → ∃ ob, s.heap.get? b = some ob ∧ ob.dict = none := by
  obtain ⟨_, _, h1, _, _⟩ := he
  exact ⟨⟨o, ho, h1.1⟩, fun b e => by cases e; exact ⟨o, ho, h1.2.1⟩⟩
def IsDO (B : Bs) (H : Hp) (a : Addr) : Prop := (∃ o xs, H a = some (pinO a o) ∧ dEs B.P B.w o xs) ∨ ∃ xs, H a = some (dO B.P B.w a xs)
theorem isDO_at {X : Cx} {B : Bs} (eP : X.prog = B.P) (ew : X.w = B.w) {pins : List (Addr × Obj)} {σ : L2.St} {H : Hp} {s : Shared} (I : Inv X pins σ H s) {a : Addr} (h : IsDO B H a) : s.TypeIs (.ref a) "dict" ∧ ∀ b, Value.ref a = .ref b → ∃ ob, s.heap.get? b = some ob ∧ ob.dict = none := by
  obtain ⟨P, w, K⟩ := B
  subst eP ew
  rcases h with ⟨o, xs, h1, h2⟩ | ⟨xs, h1⟩
  · exact dict_ty I (pin_at I h1) h2
  · obtain ⟨o, h2, h3⟩ := dO_at I h1
    exact dict_ty I h2 h3
def tGetO (B : Bs) (td ty : TE) : TE := fun σ H Q => td σ H fun x H1 => ∃ a, x = .ref a ∧ IsDO B H1 a ∧ ty σ H1 fun y H2 => DAns B H2 x y fun o => Q ((o.map (·.1)).getD .non) H2
def tGetO2 (B : Bs) (td ty tz : TE) : TE := fun σ H Q => td σ H fun x H1 => ∃ a, x = .ref a ∧ IsDO B H1 a ∧ ty σ H1 fun y H2 => tz σ H2 fun z H3 => DAns B H3 x y fun o => Q ((o.map (·.1)).getD z) H3
section
variable {X : Cx} {B : Bs} {o e f : Expr} {apos cpos : Pos} {td ty tx : TE}
theorem pe_getO (hu : X.A.units + 64 < cLine) (eP : X.prog = B.P) (ew : X.w = B.w) (eK : X.K = B.K) (ho : PE X o td) (he : PE X e ty) (m : M1 X o "get" apos e cpos) : PE X (.Call (.Attribute o "get" apos) [e] [] cpos) (tGetO B td ty) := by
  refine ⟨fun pins s σ H Q I h => wpAny_Call_method m.base m.few m.line PySem.F.plainAttrs_dict PySem.F.slot_dict_get PySem.F.type_dict_get (thn (ho.run pins s σ H _ I h) fun u s1 ⟨x, H1, I1, rx, a, ex, d, q1⟩ => ?_)⟩
  subst ex
  obtain rfl : u = Value.ref a := rx
  obtain ⟨t1, t2⟩ := isDO_at eP ew I1 d
  refine ⟨t1, t2, ?_⟩
  rw [m.trees]
  refine Calls.callWith_builtin rfl (Calls.evalArgs_plain (Calls.spliced_cons (thn (he.run pins s1 σ H1 _ I1 q1) fun iv s2 ⟨y, H2, I2, ry, q2⟩ => Calls.spliced_nil ?_)))
  obtain ⟨P, w, K⟩ := B
  subst eP ew eK
  obtain ⟨a', o, F, xs, b, kd, k, e1, rfl, ns, ha, sub, he, de, rk, hk, dp, q3, q4⟩ := q2
  cases e1
  cases ry
  have hd := dict_at I2 sub (pin_at I2 ha) he de.key de.nd
  refine call_meetsIn PySem.F.slot_dict_get hd.typeIs PySem.F.entry_dict_get (PySem.F.args_dict_get_2 _ _) (meetsH_dict_get (nestedKind X.prog X.w) a b ns) ⟨show X.A.in1.units + 8 < cLine by simp only [Around.in1_units]; omega, k, _, RD.key I2 sub rk hk dp, hd, ?_⟩
  rcases find_ents hk de.key with ⟨n1, n2⟩ | ⟨e, hm, n1, n2⟩
  · rw [n1]
    exact ⟨.non, H2, I2.tok _, rfl, q3 n2⟩
  · rw [n1]
    obtain ⟨v, rv, rd⟩ := de.val e hm
    exact ⟨v, H2, I2.tok _, rv, q4 e v n2 rv rd⟩
theorem pe_getO2 (hu : X.A.units + 64 < cLine) (eP : X.prog = B.P) (ew : X.w = B.w) (eK : X.K = B.K) (ho : PE X o td) (he : PE X e ty) (hf : PE X f tx) (m : M2 X o "get" apos e f cpos) : PE X (.Call (.Attribute o "get" apos) [e, f] [] cpos) (tGetO2 B td ty tx) := by
  refine ⟨fun pins s σ H Q I h => wpAny_Call_method m.base m.few m.line PySem.F.plainAttrs_dict PySem.F.slot_dict_get PySem.F.type_dict_get (thn (ho.run pins s σ H _ I h) fun u s1 ⟨x, H1, I1, rx, a, ex, d, q1⟩ => ?_)⟩
  subst ex
  obtain rfl : u = Value.ref a := rx
  obtain ⟨t1, t2⟩ := isDO_at eP ew I1 d
  refine ⟨t1, t2, ?_⟩
  rw [m.trees]
  refine Calls.callWith_builtin rfl (Calls.evalArgs_plain (Calls.spliced_cons (thn (he.run pins s1 σ H1 _ I1 q1) fun iv s2 ⟨y, H2, I2, ry, q2⟩ => Calls.spliced_cons (thn (hf.run pins s2 σ H2 _ I2 q2) fun fv s3 ⟨z, H3, I3, rz, q3⟩ => Calls.spliced_nil ?_))))
  obtain ⟨P, w, K⟩ := B
  subst eP ew eK
  obtain ⟨a', o, F, xs, b, kd, k, e1, rfl, ns, ha, sub, he, de, rk, hk, dp, q4, q5⟩ := q3
  cases e1
  cases ry
  have hd := dict_at I3 sub (pin_at I3 ha) he de.key de.nd
  refine call_meetsIn PySem.F.slot_dict_get hd.typeIs PySem.F.entry_dict_get (PySem.F.args_dict_get_3 _ _ _) (meetsH_dict_get_default (nestedKind X.prog X.w) a b ns fv) ⟨show X.A.in1.units + 8 < cLine by simp only [Around.in1_units]; omega, k, _, RD.key I3 sub rk hk dp, hd, ?_⟩
  rcases find_ents hk de.key with ⟨n1, n2⟩ | ⟨e, hm, n1, n2⟩
  · rw [n1]
    exact ⟨z, H3, I3.tok _, rz, q4 n2⟩
  · rw [n1]
    obtain ⟨v, rv, rd⟩ := de.val e hm
    exact ⟨v, H3, I3.tok _, rv, q5 e v n2 rv rd⟩
/-! ### {} -/
def tNewO (B : Bs) : TE := fun _ H Q => ∀ p, H p = none → (p == sysModules) = false → Q (.ref p) (upd H p (dO B.P B.w p []))
theorem pe_newO {pos : Pos} (eP : X.prog = B.P) (ew : X.w = B.w) : PE X (.Dict [] [] pos) (tNewO B) := ⟨fun pins s σ H Q I h => by
  obtain ⟨P, w, K⟩ := B
  subst eP ew
  refine wpAny_Dict_empty ⟨.ref s.heap.objs.size, _, I.laid (a := s.heap.objs.size) (o := dO X.prog X.w s.heap.objs.size []) (t' := s.toks) (fun _ _ q => Heap.get?_push_of_some _ q) (Nat.le_refl _) (dO_ok (Heap.DictOfH.new s.heap)), rfl, h _ (I.hok.fresh (Nat.le_refl _)) (beq_eq_false_iff_ne.mpr (Ne.symm (Nat.ne_of_lt I.big)))⟩⟩
end
end Sh
set_option maxHeartbeats 4000000
namespace Sh
open PySem PySem.Spec PyProof.Rows L2
/-- the entries' keys are tuples that stand -/
def KeysOk (K : PySem.W.Frag) (F : Hp) (xs : List DEnt) : Prop := (∀ x ∈ xs, toNK x.kd = some x.nk ∧ x.nk.depth ≤ 8 ∧ RD K F (.ref x.ka) x.kd) ∧ (xs.map (·.nk)).Nodup ∧ xs.length < 100000
/-! ### d[k] = v -/
def sPutO (B : Bs) (td ty tv : TE) : TS := fun D σ H => tv σ H fun v H1 => td σ H1 fun x H2 => ty σ H2 fun y H3 => ∃ a b F xs kd k, x = .ref a ∧ y = .ref b ∧ (a == sysModules) = false ∧ H3 a = some (dO B.P B.w a (xs.map dRow)) ∧ Same F H3 ∧ KeysOk B.K F xs ∧ RD B.K F (.ref b) kd ∧ toNK kd = some k ∧ k.depth ≤ 8 ∧
  ∀ u, RelV v u → D.nx σ (upd H3 a (dO B.P B.w a (storedH (xs.map dRow) k b u)))
section
variable {X : Cx} {B : Bs} {o i e f value : Expr} {pos pos' apos cpos : Pos} {td ty tv tx : TE}
theorem rows_len {xs : List DEnt} (h : xs.length < 100000) : (xs.map dRow).length ≤ sizeLine := by
  rw [List.length_map]
  exact Nat.le_trans (Nat.le_of_lt h) (by decide)
theorem ps_putO (hu : X.A.units + 64 < cLine) (eP : X.prog = B.P) (ew : X.w = B.w) (eK : X.K = B.K) (ho : PE X o td) (hi : PE X i ty) (hv : PE X value tv) (hs : swapsWith value (some (.Subscript o i pos')) pos.line X.env = pure false) : PS X (.Assign [.Subscript o i pos'] value pos) (sPutO B td ty tv) := by
  refine ⟨fun pins s σ H D I h => wpAny_Assign_Subscript (thn (hv.run pins s σ H _ I h) fun r s1 ⟨v, H1, I1, rv, q1⟩ => thn (ho.run pins s1 σ H1 _ I1 q1) fun u s2 ⟨x, H2, I2, rx, q2⟩ => thn (hi.run pins s2 σ H2 _ I2 q2) fun iv s3 ⟨y, H3, I3, ry, q3⟩ => ?_) hs⟩
  obtain ⟨P, w, K⟩ := B
  subst eP ew eK
  obtain ⟨a, b, F, xs, kd, k, rfl, rfl, ns, ha, sub, ⟨ke, nd, hl⟩, rk, hk, dp, q⟩ := q3
  cases rx
  cases ry
  obtain ⟨od, hod, he⟩ := dO_at I3 ha
  have hd := dict_at I3 sub hod he ke nd
  refine wpAny_setItem_heap (knd := nestedKind X.prog X.w) (hsz := rows_len hl) (show X.A.in1.units + 8 < cLine by simp only [Around.in1_units]; omega) (RD.key I3 sub rk hk dp) hd fun h' hd' sb => ?_
  have ex : ∃ q, h'.get? a = some q := let ⟨q, _, _, z, _⟩ := hd'; ⟨q, z⟩
  exact ⟨σ, _, d_write (t' := s3.toks + k.draws) I3 (by rw [ha]; exact True.intro) sb ex (dO_ok hd'), q _ rv⟩
/-! ### d.setdefault(k, x) -/
def tSdO (B : Bs) (td ty tx : TE) : TE := fun σ H Q => td σ H fun x H1 => ∃ a, x = .ref a ∧ IsDO B H1 a ∧ ty σ H1 fun y H2 => tx σ H2 fun z H3 => ∃ b F xs kd k, y = .ref b ∧ (a == sysModules) = false ∧ H3 a = some (dO B.P B.w a (xs.map dRow)) ∧ Same F H3 ∧ KeysOk B.K F xs ∧ RD B.K F (.ref b) kd ∧ toNK kd = some k ∧ k.depth ≤ 8 ∧
  (xs.find? (fun x => decide (toNK x.kd = toNK kd)) = none → ∀ u, RelV z u → Q z (upd H3 a (dO B.P B.w a (xs.map dRow ++ [(k, b, u)])))) ∧ ∀ e, xs.find? (fun x => decide (toNK x.kd = toNK kd)) = some e → ∃ v, RelV v e.vv ∧ Q v H3
theorem pe_sdO (hu : X.A.units + 64 < cLine) (eP : X.prog = B.P) (ew : X.w = B.w) (eK : X.K = B.K) (ho : PE X o td) (he : PE X e ty) (hf : PE X f tx) (m : M2 X o "setdefault" apos e f cpos) : PE X (.Call (.Attribute o "setdefault" apos) [e, f] [] cpos) (tSdO B td ty tx) := by
  refine ⟨fun pins s σ H Q I h => wpAny_Call_method m.base m.few m.line PySem.F.plainAttrs_dict PySem.F.slot_dict_setdefault PySem.F.type_dict_setdefault (thn (ho.run pins s σ H _ I h) fun u s1 ⟨x, H1, I1, rx, a, ex, d, q1⟩ => ?_)⟩
  subst ex
  obtain rfl : u = Value.ref a := rx
  obtain ⟨t1, t2⟩ := isDO_at eP ew I1 d
  refine ⟨t1, t2, ?_⟩
  rw [m.trees]
  refine Calls.callWith_builtin rfl (Calls.evalArgs_plain (Calls.spliced_cons (thn (he.run pins s1 σ H1 _ I1 q1) fun iv s2 ⟨y, H2, I2, ry, q2⟩ => Calls.spliced_cons (thn (hf.run pins s2 σ H2 _ I2 q2) fun fv s3 ⟨z, H3, I3, rz, q3⟩ => Calls.spliced_nil ?_))))
  obtain ⟨P, w, K⟩ := B
  subst eP ew eK
  obtain ⟨b, F, xs, kd, k, rfl, ns, ha, sub, ⟨ke, nd, hl⟩, rk, hk, dp, q4, q5⟩ := q3
  cases ry
  obtain ⟨od, hod, hes⟩ := dO_at I3 ha
  have hd := dict_at I3 sub hod hes ke nd
  refine call_setdefault_heap (knd := nestedKind X.prog X.w) (hsz := rows_len hl) (show X.A.in1.units + 8 < cLine by simp only [Around.in1_units]; omega) (RD.key I3 sub rk hk dp) ns hd (fun p hp => ?_) fun hn h' hd' sb => ?_
  · rcases find_ents hk ke with ⟨n1, n2⟩ | ⟨e, hm, n1, n2⟩
    · rw [n1] at hp; cases hp
    · rw [n1] at hp
      cases hp
      obtain ⟨v, rv, qq⟩ := q5 e n2
      exact ⟨v, H3, I3.tok _, rv, qq⟩
  · rcases find_ents hk ke with ⟨n1, n2⟩ | ⟨e, hm, n1, n2⟩
    · rw [storedH_new n1] at hd'
      have ex : ∃ q, h'.get? a = some q := let ⟨q, _, _, y, _⟩ := hd'; ⟨q, y⟩
      exact ⟨z, _, d_write (t' := s3.toks + k.draws) I3 (by rw [ha]; exact True.intro) sb ex (dO_ok hd'), rz, q4 n2 _ rz⟩
    · rw [n1] at hn; cases hn
/-! ### dict(zip(a, b)) -/
theorem stored_all {K : Type} [DecidableEq K] : ∀ (ps acc : List (K × Addr × Value)), ((acc ++ ps).map (·.1)).Nodup → storedAllH acc ps = acc ++ ps
  | [], acc, _ => (List.append_nil acc).symm
  | p :: ps, acc, h => by
    have none : atKey acc p.1 = none := by
      unfold atKey
      rw [List.find?_eq_none.mpr]
      · rfl
      · intro x hx z
        have e := of_decide_eq_true z
        rw [List.map_append, List.map_cons] at h
        have := (List.nodup_append.mp h).2.2 x.1 (List.mem_map_of_mem hx) p.1 List.mem_cons_self
        exact this e
    show storedAllH (storedH acc p.1 p.2.1 p.2.2) ps = _
    rw [storedH_new none, stored_all ps _ (by rw [List.append_assoc]; exact h), List.append_assoc]
    rfl
/-- the entries of dict(zip(..)) -/
inductive ZipEnts (K : PySem.W.Frag) (F : Hp) : List V → List V → List DEnt → Prop
  | nil : ZipEnts K F [] [] []
  | cons {a : Addr} {y : V} {u : Value} {xs ys : List V} {es : List DEnt} {kd vd : PyData} {k : NestedKey} : toNK kd = some k → k.depth ≤ 8 → RD K F (.ref a) kd → RD K F y vd → RelV y u → ZipEnts K F xs ys es → ZipEnts K F (.ref a :: xs) (y :: ys) (⟨kd, k, a, vd, u⟩ :: es)
def tDZip (B : Bs) (ta : TA) : TE := fun σ H Q => ta σ H fun vs H1 => ∃ l m xs ys, vs = [.ref l, .ref m] ∧ SqL B.K H1 l xs ∧ SqT B.K H1 m ys ∧ ∃ F, Same F H1 ∧ xs.length ≤ 100000 ∧ ∀ us, Vals ys us → ∃ es, ZipEnts B.K F xs ys es ∧ es.map (·.vv) = us ∧ (es.map (·.nk)).Nodup ∧
  ∀ p o, H1 p = none → (p == sysModules) = false → dEs B.P B.w o (es.map dRow) → Q (.ref p) (upd H1 p (pinO p o))
theorem ZipEnts.at {K : PySem.W.Frag} {F : Hp} : ∀ {xs ys : List V} {es : List DEnt}, ZipEnts K F xs ys es → xs.length = es.length ∧ ys.length = es.length ∧ (∀ us, Vals xs us → us = es.map fun e => Value.ref e.ka) ∧ ∀ e ∈ es, toNK e.kd = some e.nk ∧ e.nk.depth ≤ 8 ∧ RD K F (.ref e.ka) e.kd
  | _, _, _, .nil => ⟨rfl, rfl, fun us h => by cases h; rfl, fun _ h => nomatch h⟩
  | _, _, _, .cons h1 h2 h3 h4 h5 t => by
    obtain ⟨a, b, c, d⟩ := t.at
    refine ⟨congrArg (· + 1) a, congrArg (· + 1) b, fun us h => ?_, fun e he => ?_⟩
    · cases h with
      | cons r rr =>
        cases r
        rw [c _ rr]
        rfl
    · rcases List.mem_cons.mp he with rfl | he
      · exact ⟨h1, h2, h3⟩
      · exact d e he
theorem pe_dzip {e1 e2 : Expr} {ta : TA} {p p' : Pos} (hc : X.calm = true) (hu : X.A.units + 64 < cLine) (eP : X.prog = B.P) (ew : X.w = B.w) (eK : X.K = B.K) (hg : Gl X "dict") (hm : X.mg "dict" = none) (hg' : Gl X "zip") (hm' : X.mg "zip" = none) (ha : PA X [e1, e2] ta)
    (h1 : starEach [e1, e2] X.env = (false, eval e1 X.env) :: starEach [e2] X.env := by rfl) (h2 : (backTo cpos (starEach [e2] X.env)).any (·.1) = false := by rfl)
    (h3 : starEach [Expr.Call (.Name "zip" p') [e1, e2] [] cpos] X.env = [(false, eval (.Call (.Name "zip" p') [e1, e2] [] cpos) X.env)] := by rfl) :
    PE X (.Call (.Name "dict" p) [.Call (.Name "zip" p') [e1, e2] [] cpos] [] pos) (tDZip B ta) := by
  refine ⟨fun pins s σ H Q I h => ?_⟩
  obtain ⟨P, w, K⟩ := B
  subst eP ew eK
  -- the zip
  have zipped : wpAny (model X.prog X.w) X.A (eval (.Call (.Name "zip" p') [e1, e2] [] cpos) X.env) (fun v s' => ∃ (s1 : Shared) (H1 : Hp) (l m : Addr) (xs ys : List V) (us vs : List Value) (z TI TO i1 i2 : Addr) (h' : Heap), Inv X pins σ H1 s1 ∧ v = .ref z ∧ s' = { s1 with heap := h' } ∧ (∀ b o, s1.heap.get? b = some o → h'.get? b = some o) ∧
      Vals xs us ∧ Vals ys vs ∧ ZipApart z TI TO i1 i2 l m ∧ IsZip h' z TI TO .none ∧ (∃ c d, IsPair h' TO c d) ∧ Two h' z TI i1 i2 l m 0 us.toArray vs.toArray ∧ (∀ c ∈ [z, TO, i1, i2], s1.heap.objs.size ≤ c) ∧
      ∃ F, Same F H1 ∧ xs.length ≤ 100000 ∧ ∀ us, Vals ys us → ∃ es, ZipEnts X.K F xs ys es ∧ es.map (·.vv) = us ∧ (es.map (·.nk)).Nodup ∧ ∀ p o, H1 p = none → (p == sysModules) = false → dEs X.prog X.w o (es.map dRow) → Q (.ref p) (upd H1 p (pinO p o))) X.xe s := by
    refine Call_ (ld_blt I hg' hm' PyProof.Rows.boot_zip (PyProof.Rows.callWith_type1 (thn (ha.run cpos pins s σ H _ I h) fun us s1 ⟨vs, H1, I1, r1, q1⟩ => ?_) h1 h2))
    obtain ⟨l, m, xs, ys, rfl, sl, sm, F, sub, n1, q2⟩ := q1
    obtain rfl : us = [Value.ref l, Value.ref m] := by
      cases r1 with
      | cons r rr =>
        cases rr with
        | cons r' rr =>
          cases rr
          cases r
          cases r'
          rfl
    obtain ⟨us, ru, pu, _⟩ := I1.list sl
    obtain ⟨vs, rv, pv, _⟩ := I1.tuple sm
    have lm : m < s1.heap.objs.size := let ⟨_, e, _⟩ := pv; Heap.lt_size e
    refine call_zq pu.isList (show s1.heap.IsTuple m vs.toArray from pv) fun h' hz hTO tw hk => ?_
    refine ⟨s1, H1, l, m, xs, ys, us, vs, _, _, _, _, _, h', I1, rfl, rfl, hk, ru, rv, PySem.W.ktu_apart s1.heap.objs.size l m pu.lt lm, hz, ⟨_, _, hTO⟩, tw, fun c hc => ?_, F, sub, n1, q2⟩
    simp only [List.mem_cons, List.not_mem_nil, or_false] at hc
    rcases hc with e | e | e | e <;> rw [e]
    · exact Nat.le_add_right _ _
    · exact Nat.le_add_right _ _
    · exact Nat.le_refl _
    · exact Nat.le_add_right _ _
  refine Call_ (ld_blt I hg hm PyProof.Rows.boot_dict (PyProof.Rows.callWith_type1 ?_ h3 rfl))
  rw [h3]
  refine Calls.spliced_cons (thn zipped fun v s' hv => Calls.spliced_nil ?_)
  obtain ⟨s1, H1, l, m, xs, ys, us, vs, z, TI, TO, i1, i2, h', I1, rfl, rfl, hk, ru, rv, D, hz, hTO, tw, far, F, sub, n1, q2⟩ := hv
  obtain ⟨es, ze, ev, nd, q3⟩ := q2 vs rv
  obtain ⟨a1, a2, a3, a4⟩ := ze.at
  have eu := a3 us ru
  have keys : ∀ e ∈ es, KI X.prog X.w s1.heap (e.ka, e.nk) := fun e he => let ⟨b1, b2, b3⟩ := a4 e he; RD.key I1 sub b3 b1 b2
  have uz : us.length = es.length := by rw [eu, List.length_map]
  have vz : vs.length = es.length := by rw [← ev, List.length_map]
  refine call_dict_pairsH (knd := nestedKind X.prog X.w) (ps := es.map dRow) (s := { s1 with heap := h' }) (pairs_zx z TI TO i1 i2 l m D us.toArray vs.toArray) (I1.ok.hd hc) (show X.A.in1.in1.units + 8 < cLine by simp only [Around.in1_units]; omega) ⟨hz, hTO, tw⟩ ⟨?_, fun i key v ⟨k1, k2⟩ => ?_⟩ (fun g kg x hx => ?_) ?_ fun g tk dg kg => ?_
  · simp only [List.size_toArray, uz, vz, List.length_map, Nat.min_self]
  · have e1 : us[i]? = some key := by simpa using k1
    have e2 : vs[i]? = some v := by simpa using k2
    rw [eu, List.getElem?_map] at e1
    rw [← ev, List.getElem?_map] at e2
    cases y : es[i]? with
    | none => rw [y] at e1; cases e1
    | some e =>
      rw [y] at e1 e2
      cases e1
      cases e2
      exact ⟨e.nk, e.ka, by rw [List.getElem?_map, y]; rfl, rfl⟩
  · obtain ⟨e, he, rfl⟩ := List.mem_map.mp hx
    have lt : ∀ b o, s1.heap.get? b = some o → b < s1.heap.objs.size := fun b o e => Heap.lt_size e
    refine KI.keep (keys e he) fun b o hb => kg b o (Nat.ne_of_lt (Heap.lt_size (hk b o hb))) (fun y => ?_) (hk b o hb)
    exact absurd (lt b o hb) (Nat.not_lt_of_le (far b y))
  · simp only [List.size_toArray, uz, vz, Nat.min_self]
    rw [← a1]
    exact Nat.le_trans n1 (by decide)
  · rw [stored_all _ [] (by rw [List.nil_append, List.map_map]; exact nd), List.nil_append] at dg
    obtain ⟨o, dd, dp, g1, g2, g3, g4, _, _⟩ := dg
    have le : s1.heap.objs.size ≤ h'.objs.size := by
      cases hs : s1.heap.objs.size with
      | zero => exact Nat.zero_le _
      | succ n =>
        have zz := far z List.mem_cons_self
        rw [hs] at zz
        exact Nat.le_trans zz (Nat.le_of_lt (Heap.lt_size hz))
    have kp : ∀ b u, s1.heap.get? b = some u → g.get? b = some u := fun b u hb => kg b u (fun y => absurd (Heap.lt_size hb) (Nat.not_lt_of_le (far b y))) (hk b u hb)
    refine ⟨.ref h'.objs.size, _, I1.laid (t' := tk) kp le (pinO_ok g1), rfl, q3 _ o (I1.hok.fresh le) (beq_eq_false_iff_ne.mpr (Ne.symm (Nat.ne_of_lt (Nat.lt_of_lt_of_le I1.big le)))) ⟨dd, dp, g2, g3, g4⟩⟩
end
end Sh
set_option maxHeartbeats 4000000
namespace Sh
open PySem PySem.Spec PyProof.Rows L2
/-! ## a pinned dict's keys, walked -/
def Itko (a : Addr) (o : Obj) (ks : List V) : It := ⟨fun i H => H a = some (pinO a o) ∧ i < ks.length, fun i H v H' => H' = H ∧ ks[i]? = some v, fun i H => H a = some (pinO a o) ∧ ks.length ≤ i⟩
theorem raw_at {P : Program} {w : World} {h : Heap} {a : Addr} {o : Obj} {es : Array DictEntry} {ep : Nat} (ho : h.get? a = some o) (hc : o.ExactDict) (hd : o.data = .dict es ep) : h.DictRaw a es ep := ⟨o, ho, hc, hd⟩
theorem keys_rows {P : Program} {w : World} {es : Array DictEntry} {rows : List (NestedKey × Addr × Value)} (h : es.toList = rows.map (entryOfKey (nestedKind P w))) {i : Nat} (hi : i < es.size) : ∃ r, rows[i]? = some r ∧ es[i].key = .ref r.2.1 := by
  have e : es.toList[i]? = some es[i] := by rw [Array.getElem?_toList]; exact Array.getElem?_eq_getElem hi
  rw [h, List.getElem?_map] at e
  cases q : rows[i]? with
  | none => rw [q] at e; cases e
  | some r =>
    rw [q] at e
    exact ⟨r, rfl, by rw [← Option.some.inj e]; rfl⟩
theorem turn_ko {P : Program} {w : World} {K : PySem.W.Frag} {tg : Expr} {a : Addr} {o : Obj} {rows : List (NestedKey × Addr × Value)} {es : Array DictEntry} {ep : Nat} (it : Addr) (hc : o.ExactDict) (hd : o.data = .dict es ep) (he : es.toList = rows.map (entryOfKey (nestedKind P w))) :
    Turn P w K tg (Itko a o (rows.map fun r => V.ref r.2.1)) [it] it (fun i h => h.IsKeyIter it a i es.size ep) where
  mem := by simp
  obj := fun i h st b hb => by
    obtain rfl : b = it := by simpa using hb
    obtain ⟨oi, e, c, dd⟩ := st
    exact ⟨oi, e, fun v z => by rw [dd] at z; cases z⟩
  keep := fun i h h' st k => st.at fun oi e => k it (by simp) oi e
  item := by
    intro X hP hw hK hcalm i pins s σ H E I hf st hg
    subst hP hw hK
    obtain ⟨ha, hi⟩ := hg
    obtain ⟨f0, f1, f2, f3, f4, f5⟩ := hf it (by simp)
    have hz : es.size = rows.length := by rw [← Array.length_toList, he, List.length_map]
    rw [List.length_map] at hi
    obtain ⟨r, hr, hk⟩ := keys_rows he (i := i) (by omega)
    refine wpAny_pyNext_keys_item_raw st (raw_at (P := X.prog) (w := X.w) (pin_at I ha) hc hd) (by omega) fun h' st' sb => ?_
    obtain ⟨oi, e, c, dd⟩ := id st'
    refine ⟨_, rfl, go_of (s := { s with heap := h' }) e c dd (by decide) ⟨.ref r.2.1, H, I.turned (t' := s.toks) (fun b ob hb e => (sb.2 b hb).trans e) f0 f1 f3 f4 f5, hk, ⟨rfl, by rw [List.getElem?_map, hr]; rfl⟩, st', fun b hb => (hf b hb).1⟩⟩
  done := by
    intro X hP hw hK hcalm i pins s σ H E I hf st hg
    subst hP hw hK
    obtain ⟨ha, hi⟩ := hg
    obtain ⟨f0, f1, f2, f3, f4, f5⟩ := hf it (by simp)
    have hz : es.size = rows.length := by rw [← Array.length_toList, he, List.length_map]
    rw [List.length_map] at hi
    exact wpAny_pyNext_keys_end_raw (I.ok.hd hcalm) st (raw_at (P := X.prog) (w := X.w) (pin_at I ha) hc hd) (by omega) fun h' eb => ⟨rfl, I.turned (t' := s.toks) (fun b ob hb e => eb b ob hb e) f0 f1 f3 f4 f5⟩
  self := fun A i s Q E st h => wpAny_pyIter_keyiter st h
def iKeysO (B : Bs) (td : TE) : TI := fun σ H R => td σ H fun x H1 => ∃ a o rows, x = .ref a ∧ (a == sysModules) = false ∧ H1 a = some (pinO a o) ∧ dEs B.P B.w o rows ∧ R (Itko a o (rows.map fun r => V.ref r.2.1)) H1
theorem pi_keysO {X : Cx} {B : Bs} {tg e : Expr} {td : TE} (eP : X.prog = B.P) (ew : X.w = B.w) (he : PE X e td) : PI X tg e (iKeysO B td) := by
  refine ⟨fun pins s σ H R I h => thn (he.run pins s σ H _ I h) fun u s1 ⟨x, H1, I1, rx, a, o, rows, ex, ns, ha, ⟨es, ep, h1, h2, h3⟩, q⟩ => ?_⟩
  subst ex
  obtain rfl : u = Value.ref a := rx
  obtain ⟨P, w, K⟩ := B
  subst eP ew
  exact wpAny_pyIter_dict_raw ns (raw_at (P := X.prog) (w := X.w) (pin_at I1 ha) h1 h2) (pi_one (tk := s1.toks) I1 _ (turn_ko _ h1 h2 h3) ⟨_, Heap.get?_push_size _ rfl, rfl, rfl⟩ q)
/-! ## sorted(d) -/
theorem src_raw {P : Program} {w : World} {a : Addr} {es : Array DictEntry} {ep : Nat} (ns : (a == sysModules) = false) : PySem.W.KdlSrc P w "dict" a a es.size (fun i v => ∃ hi : i < es.size, v = es[i].key) (fun h => h.DictRaw a es ep) where
  type := fun _ hm => hm.typeIs
  there := fun _ ⟨_, ho, _⟩ => ⟨Heap.lt_size ho, Heap.lt_size ho⟩
  keep := fun _ _ hm hk => hm.at fun o e => hk a (.inl rfl) o e
  notList := by decide
  notTuple := by decide
  hint := fun _ _ _ _ hm hq => PySem.W.kdl_hint_dict hm.typeIs hq
  iter := fun A s hh hm => ⟨_, _, (fun _ _ hq => wpAny_pyIter_dict_raw ns hm hq), Walks.rawKeys hh _ a (let ⟨_, ho, _⟩ := hm; Nat.ne_of_lt (Heap.lt_size ho)) es ep, ⟨⟨_, Heap.get?_push_size _ rfl, rfl, rfl⟩, hm.at fun o e => Heap.get?_push_of_some _ e⟩⟩
mutual
/-- what a datum reads off stands -/
theorem reads_lt {h : Heap} : ∀ (d : PyData) (v : Value) (as : List Addr), PySem.W.alike d d = true → Reads h v d as → ∀ a ∈ as, a < h.objs.size
  | .none, _, _, _, r, a, ha => by cases r; cases ha
  | .bool _, _, _, _, r, a, ha => by cases r; cases ha
  | .int _, _, _, _, r, a, ha => by cases r; cases ha
  | .str _, _, _, _, r, a, ha => by cases r; cases ha
  | .list xs, _, _, al, r, a, ha => by
    cases r with
    | list h1 h2 h3 h4 =>
      rcases List.mem_cons.mp ha with rfl | ha
      · exact Heap.lt_size h1
      · exact readsAll_lt xs _ _ (by simpa [PySem.W.alike] using al) h4 a ha
  | .tuple xs, _, _, al, r, a, ha => by
    cases r with
    | tuple h1 h2 h3 h4 => exact readsAll_lt xs _ _ (by simpa [PySem.W.alike] using al) h4 a ha
  | .dict ks, _, _, al, _, _, _ => absurd al (by simp [PySem.W.alike])
theorem readsAll_lt {h : Heap} : ∀ (ds : List PyData) (vs : List Value) (as : List Addr), PySem.W.alikeAll ds ds = true → ReadsAll h vs ds as → ∀ a ∈ as, a < h.objs.size
  | [], _, _, _, r, a, ha => by cases r; cases ha
  | d :: ds, _, _, al, r, a, ha => by
    cases r with
    | cons h1 h2 =>
      have q := PySem.W.alike_all_cons al
      rcases List.mem_append.mp ha with z | z
      · exact reads_lt d _ _ q.1 h1 a z
      · exact readsAll_lt ds _ _ q.2 h2 a z
end
theorem each_in {R : Value → PyData → Prop} : ∀ {us : List Value} {ds : List PyData}, PySem.W.EachIs R us ds → PySem.W.EachIs (fun v d => R v d ∧ d ∈ ds) us ds
  | _, _, .nil => .nil
  | _, _, .cons h t => .cons ⟨h, List.mem_cons_self⟩ ((each_in t).mono fun _ _ q => ⟨q.1, List.mem_cons_of_mem _ q.2⟩)
/-- a new list of these values, sorted -/
theorem sort_new {X : Cx} {pins : List (Addr × Obj)} {σ : L2.St} {H F : Hp} {s : Shared} (hu : X.A.units + 64 < cLine) (I : Inv X pins σ H s) (sub : Same F H) {us : List Value} {vs : List V} {ds : List PyData} (rv : Vals vs us) (rd : RDs X.K F vs ds) (so : SortOk ds) {Q : VK} (hl : us.length ≤ sizeLine)
    (q : ∀ p ys, H p = none → RDs X.K F ys (sortD ds) → Q (.ref p) (upd H p (.lst ys))) :
    wpAny (model X.prog X.w) X.A.in1 (newList us >>= fun l => holding [l] (call (.builtin "list.sort") (l :: [])) >>= fun _ => ret l) (fun fin s' => ∃ v, fin = Fin.done (.ret v) ∧ EP X pins σ Q v s') X.xe s := by
  obtain ⟨al, st, lv⟩ := so
  have e := each_of rv rd
  have hd : us.length = ds.length := by rw [← rd.length, rv.length]
  refine wpAny_bind (wpAny_newList ?_ hl)
  have ho : (s.heap.push (seqObj "list" us.toArray 0)).get? s.heap.objs.size = some (seqObj "list" us.toArray 0) := Heap.get?_push_size _ rfl
  have I1 : Inv X pins σ H { s with heap := s.heap.push (seqObj "list" us.toArray 0) } := I.kept (t' := s.toks) fun b o q => Heap.get?_push_of_some _ q
  -- no item reads off the new list
  have off : PySem.W.EachIs (fun v b => ∃ as, Reads (s.heap.push (seqObj "list" us.toArray 0)) v (id b) as ∧ s.heap.objs.size ∉ as) us ds := (each_in e).mono fun u d ⟨⟨x, r, y⟩, hm⟩ => by
    obtain ⟨as, rr⟩ := Dp.reads I d x u (y.mono sub).dp r
    exact ⟨as, PyProof.Rows.Reads.keeps (fun _ _ z => Heap.get?_push_of_some _ z) rr, fun z => Nat.lt_irrefl _ (reads_lt d _ _ (al d hm d hm) rr _ z)⟩
  refine wpAny_bind (wpAny_holding (PySem.W.list_sort_data (s := { s with heap := s.heap.push (seqObj "list" us.toArray 0) }) (enc := id) (bs := ds) (R := RV X.K F) (vs := us) ho e off (by rw [map_id_eq]; exact al) (by rw [map_id_eq]; exact st) (by rw [← hd]; exact hl) (fun b hb => ?_) fun out hz eo => ?_))
  · have := (lev_can (lv b hb)).2
    show X.A.in1.units + 1 + b.depth < cLine
    simp only [Around.in1_units]
    omega
  · obtain ⟨ys, r1, r2⟩ := of_each eo
    obtain ⟨c, hc⟩ := sortedHeap_at (vs := us) (out := out.toArray) ho
    refine wpAny_pure ⟨_, rfl, .ref s.heap.objs.size, _, I.laid (a := s.heap.objs.size) (o := .lst ys) (t' := s.toks) (fun b u z => ?_) (Nat.le_refl _) ⟨?_, out, c, r1, hc⟩, rfl, q _ ys (I.hok.fresh (Nat.le_refl _)) r2⟩
    · have lt := Heap.lt_size z
      rw [sortedHeap_old (Nat.ne_of_lt lt) (by rw [size_push']; exact Nat.lt_succ_of_lt lt)]
      exact Heap.get?_push_of_some _ z
    · rw [r2.length, List.length_mergeSort, ← hd]
      exact hl
/-- sorted(d) -/
def rSortO (B : Bs) : List V → Hp → VK → Prop := fun vs H Q => ∃ a o xs F, vs = [.ref a] ∧ (a == sysModules) = false ∧ H a = some (pinO a o) ∧ dEs B.P B.w o (xs.map dRow) ∧ Same F H ∧ DEnts B.K F xs ∧ SortOk (xs.map (·.kd)) ∧ ∀ p ys, H p = none → RDs B.K F ys (sortD (xs.map (·.kd))) → Q (.ref p) (upd H p (.lst ys))
theorem items_eq {us : List Value} {acc : Array Value} {n : Nat} {Pv : Nat → Value → Prop} (h : ItemsOf Pv acc n) (hl : us.length = n) (hP : ∀ j v, Pv j v → us[j]? = some v) : acc.toList = us := by
  refine List.ext_getElem? fun i => ?_
  by_cases hi : i < n
  · have hi' : i < acc.size := by rw [h.1]; exact hi
    rw [hP i _ (h.2 i _ (Array.getElem?_eq_getElem hi')), Array.getElem?_toList]
    exact Array.getElem?_eq_getElem hi'
  · rw [List.getElem?_eq_none (by rw [Array.length_toList, h.1]; omega), List.getElem?_eq_none (by omega)]
theorem rds_map {K : PySem.W.Frag} {F : Hp} {α : Type} (f : α → V) (g : α → PyData) : ∀ {xs : List α}, (∀ x ∈ xs, RD K F (f x) (g x)) → RDs K F (xs.map f) (xs.map g)
  | [], _ => .nil
  | x :: xs, h => .cons (h x List.mem_cons_self) (rds_map f g fun y hy => h y (List.mem_cons_of_mem _ hy))
theorem refs_vals {α : Type} (f : α → Addr) : ∀ xs : List α, Vals (xs.map fun x => V.ref (f x)) (xs.map fun x => Value.ref (f x))
  | [] => .nil
  | _ :: xs => .cons rfl (refs_vals f xs)
theorem cr_sortO {X : Cx} {B : Bs} (hc : X.calm = true) (hu : X.A.units + 64 < cLine) (eP : X.prog = B.P) (ew : X.w = B.w) (eK : X.K = B.K) : CallR X (.builtin "sorted") (rSortO B) := by
  intro pins s σ H vs us Q I r h
  obtain ⟨P, w, K⟩ := B
  subst eP ew eK
  obtain ⟨a, o, xs, F, rfl, ns, ha, ⟨es, ep, h1, h2, h3⟩, sub, de, so, q⟩ := h
  rw [Vals.ref1 r]
  have hz : es.size = xs.length := by rw [← Array.length_toList, h3, List.length_map, List.length_map]
  have small : xs.length ≤ sizeLine := Nat.le_trans de.len (by decide)
  refine Calls.call_function_entry kind_sorted plain_sorted entry_sorted (args_sorted1 _) ?_
  unfold Builtin.«sorted»
  refine wpAny_bind (m := checkCount "sorted" 1 1 _) (wpAny_pure ?_)
  refine wpAny_bind (PySem.W.kdu_collect (A := X.A.in1) (src_raw (P := X.prog) (w := X.w) ns) (I.ok.hd hc) (raw_at (P := X.prog) (w := X.w) (pin_at I ha) h1 h2) (by rw [hz]; exact small) fun h' tk acc kp hacc => ?_)
  have eacc : acc.toList = xs.map fun x => Value.ref x.ka := items_eq hacc (by rw [List.length_map, hz]) fun j v ⟨hj, e⟩ => by
    obtain ⟨r, hr, hk⟩ := keys_rows h3 hj
    rw [List.getElem?_map] at hr
    rw [e, hk, List.getElem?_map]
    cases y : xs[j]? with
    | none => rw [y] at hr; cases hr
    | some x => rw [y] at hr; cases hr; rfl
  rw [eacc]
  have I1 : Inv X pins σ H { s with heap := h', toks := tk } := I.kept kp
  exact sort_new hu I1 sub (refs_vals (fun x => x.ka) xs) (rds_map _ _ fun x hx => (de.key x hx).2.2) so (by rw [List.length_map]; exact small) q
/-! ## sets -/
theorem set_at {X : Cx} {pins : List (Addr × Obj)} {σ : L2.St} {H F : Hp} {s : Shared} (I : Inv X pins σ H s) (sub : Same F H) {a : Addr} {xs : List SEnt} (ha : H a = some (sO X.w a (xs.map sRow))) (hk : SEnts X.K F xs) : ∃ es ep t, NTab X.prog X.w s.heap a (xs.map sRow) es ep t := by
  obtain ⟨es, ep, t, h1, h2, h3, h4, h5, h6, h7⟩ := (I.hok a _ ha).1
  refine ⟨es, ep, t, h1, h2, h3, h4, fun p hp => ?_, h5, h6, h7⟩
  obtain ⟨x, hx, rfl⟩ := List.mem_map.mp hp
  obtain ⟨k1, k2, k3⟩ := hk x hx
  exact RD.key I sub k3 k1 k2
theorem sO_ok {P : Program} {w : World} {H : Hp} {h : Heap} {a : Addr} {L : List (Addr × NestedKey)} {es : Array (Int × Value)} {ep : Nat} {t : SetTable} (R : NTab P w h a L es ep t) : ObjOk P w H h a (sO w a L) := by
  obtain ⟨o, ho, h1⟩ := R.at_
  exact ⟨⟨es, ep, t, ⟨o, ho, h1⟩, R.ents, R.tab, R.nd, R.led, R.room, R.few⟩, ⟨o, ho⟩, fun h1 h2 ⟨es, ep, t, ⟨o, p1, p2⟩, p3⟩ k => ⟨es, ep, t, ⟨o, k o p1, p2⟩, p3⟩⟩
/-- set(xs), xs a list of tuples -/
def rSetO (B : Bs) : List V → Hp → VK → Prop := fun vs H Q => ∃ a xs F, vs = [.ref a] ∧ SqL B.K H a (xs.map fun x => V.ref x.ka) ∧ Same F H ∧ SEnts B.K F xs ∧ xs.length < 64 ∧
  ∀ (p : Addr) (ys : List SEnt), H p = none → (∀ y ∈ ys, y ∈ xs) → (∀ x ∈ xs, x.nk ∈ ys.map (·.nk)) → (ys.map (·.nk)).Nodup → Q (.ref p) (upd H p (sO B.w p (ys.map sRow)))
theorem lift_rows {xs : List SEnt} : ∀ {L : List (Addr × NestedKey)}, (∀ p ∈ L, p ∈ xs.map sRow) → ∃ ys : List SEnt, L = ys.map sRow ∧ ∀ y ∈ ys, y ∈ xs
  | [], _ => ⟨[], rfl, fun _ h => nomatch h⟩
  | p :: L, h => by
    obtain ⟨x, hx, rfl⟩ := List.mem_map.mp (h p List.mem_cons_self)
    obtain ⟨ys, rfl, hy⟩ := lift_rows (xs := xs) (L := L) fun q hq => h q (List.mem_cons_of_mem _ hq)
    refine ⟨x :: ys, rfl, fun y hm => ?_⟩
    rcases List.mem_cons.mp hm with rfl | hm
    · exact hx
    · exact hy y hm
theorem cr_setO {X : Cx} {B : Bs} (hc : X.calm = true) (hu : X.A.units + 64 < cLine) (eP : X.prog = B.P) (ew : X.w = B.w) (eK : X.K = B.K) : CallR X (.type "set") (rSetO B) := by
  intro pins s σ H vs us Q I r h
  obtain ⟨P, w, K⟩ := B
  subst eP ew eK
  obtain ⟨a, xs, F, rfl, sa, sub, hk, few, q⟩ := h
  rw [Vals.ref1 r]
  obtain ⟨its, rv, pl, _⟩ := I.list sa
  have ei : its = xs.map fun x => Value.ref x.ka := by
    have gen : ∀ (xs : List SEnt) (its : List Value), Vals (xs.map fun x => V.ref x.ka) its → its = xs.map fun x => Value.ref x.ka := fun xs => by
      induction xs with
      | nil => intro its h; cases h; rfl
      | cons x xs ih =>
        intro its h
        cases h with
        | cons r t =>
          cases r
          rw [ih _ t]
          rfl
    exact gen xs its rv
  refine set_made (P := X.prog) (w := X.w) (xs.map sRow) (I.ok.hd hc) pl.isList (by simp [ei, List.map_map, Function.comp_def, sRow]) (fun p hp => ?_) (by rw [List.length_map]; exact few) (by omega) fun h' tk L es ep t T g kp => ?_
  · obtain ⟨x, hx, rfl⟩ := List.mem_map.mp hp
    obtain ⟨k1, k2, k3⟩ := hk x hx
    exact RD.key I sub k3 k1 k2
  · obtain ⟨ys, rfl, hy⟩ := lift_rows g.inn
    refine ⟨.ref s.heap.objs.size, _, I.laid (a := s.heap.objs.size) (t' := tk) kp (Nat.le_refl _) (sO_ok T), rfl, q _ ys (I.hok.fresh (Nat.le_refl _)) hy (fun x hx => ?_) ?_⟩
    · obtain ⟨i, hi⟩ := List.getElem?_of_mem hx
      have li : i < xs.length := (List.getElem?_eq_some_iff.mp hi).1
      have z := g.all i (sRow x) (by rw [List.length_map]; exact li) (by rw [List.getElem?_map, hi]; rfl)
      rw [List.map_map] at z
      exact z
    · have z := T.nd
      rw [List.map_map] at z
      exact z
/-- sorted(set) -/
def rSortS (B : Bs) : List V → Hp → VK → Prop := fun vs H Q => ∃ a xs F, vs = [.ref a] ∧ H a = some (sO B.w a (xs.map sRow)) ∧ Same F H ∧ SEnts B.K F xs ∧ SortOk (xs.map (·.sd)) ∧ ∀ (p : Addr) (ys : List V) (zs : List SEnt), H p = none → zs.Perm xs → RDs B.K F ys (sortD (zs.map (·.sd))) → Q (.ref p) (upd H p (.lst ys))
theorem perm_lift {α β : Type} (f : α → β) : ∀ {l : List β} {xs : List α}, l.Perm (xs.map f) → ∃ zs : List α, zs.Perm xs ∧ zs.map f = l
  | [], xs, h => by
    have e := h.length_eq
    rw [List.length_map] at e
    obtain rfl : xs = [] := List.length_eq_zero_iff.mp e.symm
    exact ⟨[], .nil, rfl⟩
  | b :: l, xs, h => by
    have hb : b ∈ xs.map f := h.mem_iff.mp List.mem_cons_self
    obtain ⟨x, hx, rfl⟩ := List.mem_map.mp hb
    obtain ⟨p, q, rfl⟩ := List.append_of_mem hx
    have h2 : (f x :: l).Perm (f x :: (p ++ q).map f) := by
      refine h.trans ?_
      rw [List.map_append, List.map_cons, List.map_append]
      exact List.perm_middle
    obtain ⟨zs, z1, z2⟩ := perm_lift f (h2.cons_inv)
    exact ⟨x :: zs, (z1.cons x).trans List.perm_middle.symm, by rw [List.map_cons, z2]⟩
theorem cr_sortS {X : Cx} {B : Bs} (hc : X.calm = true) (hu : X.A.units + 64 < cLine) (eP : X.prog = B.P) (ew : X.w = B.w) (eK : X.K = B.K) : CallR X (.builtin "sorted") (rSortS B) := by
  intro pins s σ H vs us Q I r h
  obtain ⟨P, w, K⟩ := B
  subst eP ew eK
  obtain ⟨a, xs, F, rfl, ha, sub, hk, so, q⟩ := h
  rw [Vals.ref1 r]
  obtain ⟨es, ep, t, R⟩ := set_at I sub ha hk
  obtain ⟨o, ho, hex, hd⟩ := R.at_
  have few := R.few
  rw [List.length_map] at few
  have hz : es.size = xs.length := by rw [ents_size R.ents, List.length_map]
  refine Calls.call_function_entry kind_sorted plain_sorted entry_sorted (args_sorted1 _) ?_
  unfold Builtin.«sorted»
  refine wpAny_bind (m := checkCount "sorted" 1 1 _) (wpAny_pure ?_)
  refine wpAny_bind (collect_set (A := X.A.in1) (I.ok.hd hc) ⟨o, ho, hex.1, hd⟩ R.fits (by rw [hz]; unfold scanBound; omega) R.tab.ris R.led fun s1 out kp hs g1 o1 pm => ?_)
  have e1 : es.toList.map (·.2) = xs.map fun x => Value.ref x.ka := by
    rw [R.ents, List.map_map, List.map_map]
    rfl
  rw [e1] at pm
  obtain ⟨zs, z1, rfl⟩ := perm_lift _ pm
  have I1 : Inv X pins σ H s1 := by
    have := I.call (g' := s1.gens) (d' := s1.drawn) (t' := s1.toks) (ch := []) (Un.kept kp) (I.hok.kept kp) (by rw [g1]; exact I.bare) (fun _ z => nomatch z)
    have e : s1 = { s with heap := s1.heap, gens := s1.gens, drawn := s1.drawn, toks := s1.toks } := by
      cases s1
      cases s
      cases o1
      rfl
    rw [e]
    exact this
  have so' : SortOk (zs.map (·.sd)) := by
    obtain ⟨s1, s2, s3⟩ := so
    have sub : ∀ d, d ∈ zs.map (·.sd) → d ∈ xs.map (·.sd) := fun d h => (z1.map _).mem_iff.mp h
    exact ⟨fun d hd d' hd' => s1 d (sub d hd) d' (sub d' hd'), s2.imp (fun f d hd => f d (sub d hd)) fun f d hd => f d (sub d hd), fun d hd => s3 d (sub d hd)⟩
  exact sort_new hu I1 sub (refs_vals (fun x => x.ka) zs) (rds_map _ _ fun x hx => (hk x (z1.mem_iff.mp hx)).2.2) so' (by rw [List.length_map, z1.length_eq, sizeLine_eq]; omega) fun p ys hp hy => q p ys zs hp z1 hy
end Sh
set_option maxHeartbeats 4000000
namespace Sh
open PySem PySem.Spec PyProof.Rows L2
/-! ## sets and dicts over data -/
def KeyD (d : PyData) : Prop := ∃ k ds, d = .tuple ds ∧ toNK d = some k ∧ k.depth ≤ 8
theorem dfind_map {α β : Type} (g : α → β) (kd : PyData) (kvs : List (PyData × α)) : dfind (kvs.map fun p => (p.1, g p.2)) kd = (dfind kvs kd).map g := by
  unfold dfind
  rw [List.find?_map, Option.map_map, Option.map_map]
  rfl
theorem dfind_f {α : Type} (f : DEnt → α) (kd : PyData) (xs : List DEnt) : dfind (xs.map fun x => (x.kd, f x)) kd = (xs.find? fun x => decide (toNK x.kd = toNK kd)).map f := by
  unfold dfind
  rw [List.find?_map, Option.map_map]
  rfl
inductive BX where
  | set | sorted
def BX.val : BX → Value
  | .set => .type "set"
  | .sorted => .builtin "sorted"
def BX.name : BX → Str
  | .set => "set"
  | .sorted => "sorted"
def bx : BX → ON
  | .set, [.d (.list xs)], M, Q => xs.length < 64 ∧ (∀ d ∈ xs, KeyD d) ∧ ∀ ys : List PyData, (∀ y ∈ ys, y ∈ xs) → (∀ x ∈ xs, toNK x ∈ ys.map toNK) → (ys.map toNK).Nodup → Q (.st ys) M
  | .sorted, [.st ds], M, Q => SortOk ds ∧ ∀ zs : List PyData, zs.Perm ds → Q (.d (.list (sortD zs))) M
  | .sorted, [.dct kvs], M, Q => SortOk (kvs.map (·.1)) ∧ Q (.d (.list (sortD (kvs.map (·.1))))) M
  | _, _, _, _ => False
def bxR (B : Bs) : BX → List V → Hp → VK → Prop
  | .set => rSetO B
  | .sorted => fun xs H Q => rSortS B xs H Q ∨ rSortO B xs H Q
theorem cr_bx {X : Cx} {B : Bs} (hc : X.calm = true) (hu : X.A.units + 64 < cLine) (eP : X.prog = B.P) (ew : X.w = B.w) (eK : X.K = B.K) : ∀ b : BX, CallR X b.val (bxR B b)
  | .set => cr_setO hc hu eP ew eK
  | .sorted => fun pins s σ H vs us Q I r h => h.elim (fun h => cr_sortS hc hu eP ew eK pins s σ H vs us Q I r h) fun h => cr_sortO hc hu eP ew eK pins s σ H vs us Q I r h
theorem sents_of {K : PySem.W.Frag} {F : Hp} : ∀ {vs : List V} {xs : List PyData}, RDs K F vs xs → (∀ d ∈ xs, KeyD d) → ∃ es : List SEnt, vs = es.map (fun x => V.ref x.ka) ∧ es.map (·.sd) = xs ∧ SEnts K F es
  | _, _, .nil, _ => ⟨[], rfl, rfl, fun _ h => nomatch h⟩
  | _, _, .cons (d := d) r t, h => by
    obtain ⟨es, rfl, rfl, he⟩ := sents_of t fun y hy => h y (List.mem_cons_of_mem _ hy)
    obtain ⟨k, ds, rfl, hk, dp⟩ := h d List.mem_cons_self
    obtain ⟨a, ys, rfl, _, _⟩ := RD.tupI r
    refine ⟨⟨_, k, a⟩ :: es, rfl, rfl, fun x hx => ?_⟩
    rcases List.mem_cons.mp hx with rfl | hx
    · exact ⟨hk, dp, r⟩
    · exact he x hx
theorem nks_of {K : PySem.W.Frag} {F : Hp} {es : List SEnt} (h : SEnts K F es) : es.map (fun x => toNK x.sd) = es.map fun x => some x.nk := List.map_congr_left fun x hx => (h x hx).1
theorem nodup_some {α : Type} : ∀ {l : List α}, l.Nodup → (l.map some).Nodup := fun h => List.pairwise_map.mpr (h.imp fun ne e => ne (Option.some.inj e))
theorem br_bx {B : Bs} (b : BX) : BrN B (bxR B b) (bx b) := by
  intro F H M xs ws QD Q s m rs h k
  unfold bx at h
  split at h
  · obtain ⟨v, rfl, r⟩ := rs.one
    obtain ⟨a, vs, rfl, sa, ra⟩ := RD.lstI r
    obtain ⟨n, hk, q⟩ := h
    obtain ⟨es, rfl, rfl, he⟩ := sents_of ra hk
    refine ⟨a, es, F, rfl, SqL.of (s _ _ sa), s, he, by rw [List.length_map] at n; exact n, fun p ys hp h1 h2 h3 => ?_⟩
    have hy : SEnts B.K F ys := fun y hy => he y (h1 y hy)
    have p2 := Pst.new (B := B) (o := sO B.w p (ys.map sRow)) s m hp (m.free hp)
    refine k (.ref p) (.st (ys.map (·.sd))) _ _ M p2 ⟨p, ys, rfl, upd_same, fun x hx => ⟨(hy x hx).1, (hy x hx).2.1, (hy x hx).2.2.mono p2.fz⟩, rfl⟩ (q _ (fun y hm => ?_) (fun x hm => ?_) ?_)
    · obtain ⟨e, he, rfl⟩ := List.mem_map.mp hm
      exact List.mem_map_of_mem (h1 e he)
    · obtain ⟨e, hm2, rfl⟩ := List.mem_map.mp hm
      rw [List.map_map, show (toNK ∘ fun x : SEnt => x.sd) = fun x => toNK x.sd from rfl, nks_of hy, (he e hm2).1]
      obtain ⟨y, hy, ey⟩ := List.mem_map.mp (h2 e hm2)
      exact List.mem_map.mpr ⟨y, hy, by rw [ey]⟩
    · rw [List.map_map, show (toNK ∘ fun x : SEnt => x.sd) = fun x => toNK x.sd from rfl, nks_of hy, show (fun x : SEnt => some x.nk) = some ∘ fun x => x.nk from rfl, ← List.map_map]
      exact nodup_some h3
  · obtain ⟨v, rfl, a, es, rfl, ha, he, rfl⟩ := rs.one
    obtain ⟨so, q⟩ := h
    exact .inl ⟨a, es, F, rfl, s _ _ ha, s, he, so, fun p ys zs hp pm hy => k.lst s m hy (q _ (pm.map _)) p hp⟩
  · obtain ⟨v, rfl, a, o, xs, rfl, ns, ha, he, de, rfl⟩ := rs.one
    obtain ⟨so, q⟩ := h
    have e : (kvsOf xs).map (·.1) = xs.map (·.kd) := by
      unfold kvsOf
      rw [List.map_map]
      rfl
    rw [e] at so q
    exact .inr ⟨a, o, xs, F, rfl, ns, s _ _ ha, he, s, de, so, fun p ys hp hy => k.lst s m hy q p hp⟩
  · exact h.elim
/-! ## d[k], d.get -/
theorem ans_of {B : Bs} {F H : Hp} {M : MM} (s : Same F H) {v u : V} {kvs : List (PyData × PyData)} {kd : PyData} (r : RW B F v (.dct kvs)) (ru : RD B.K F u kd) (hk : KeyD kd) {R : Option (V × Value) → Prop} (h1 : dfind kvs kd = none → R none) (h2 : ∀ d v u, dfind kvs kd = some d → RelV v u → RD B.K F v d → R (some (v, u))) : DAns B H v u R := by
  obtain ⟨a, o, xs, rfl, ns, ha, he, de, rfl⟩ := r
  obtain ⟨k, ds, rfl, hk, dp⟩ := hk
  obtain ⟨b, ys, rfl, _, _⟩ := RD.tupI ru
  refine ⟨a, o, F, xs, b, _, k, rfl, rfl, ns, s _ _ ha, s, he, de, ru, hk, dp, fun z => h1 (by rw [dfind_ents, z]; rfl), fun e v z rv rd => h2 e.vd v e.vv (by rw [dfind_ents, z]; rfl) rv rd⟩
def ixX : O2 := fun w z M Q => match w with
  | .dct kvs => ∃ kd v, z = .d kd ∧ KeyD kd ∧ dfind kvs kd = some v ∧ Q (.d v) M
  | _ => ixO w z M Q
theorem br_ixX {B : Bs} : Br2 B (fun x y H Q => rIx B.K x y H Q ∨ rIxO B x y H Q) ixX := by
  intro F H M x y w z QD Q s m rx ry h k
  unfold ixX at h
  split at h
  · obtain ⟨kd, v, rfl, hk, hv, q⟩ := h
    refine .inr (ans_of (M := M) s rx ry hk (fun e => by rw [hv] at e; cases e) fun d v' u e rv rd => ⟨v', u, rfl, ?_⟩)
    rw [hv] at e
    cases e
    exact k.dat s m rd q
  · exact .inl (br_ix F H M x y w z QD Q s m rx ry h k)
def rdGet (ra rb : RdE) : RdE := fun δ M Q => ra δ M fun w M1 => ∃ kvs, w = .dct kvs ∧ rb δ M1 fun z M2 => ∃ kd, z = .d kd ∧ KeyD kd ∧ Q (.d ((dfind kvs kd).getD .none)) M2
def rdGet2 (ra rb rc : RdE) : RdE := fun δ M Q => ra δ M fun w M1 => ∃ kvs, w = .dct kvs ∧ rb δ M1 fun z M2 => ∃ kd, z = .d kd ∧ rc δ M2 fun u M3 => ∃ x, u = .d x ∧ KeyD kd ∧ Q (.d ((dfind kvs kd).getD x)) M3
theorem dct_is {B : Bs} {F H : Hp} (s : Same F H) {v : V} {kvs : List (PyData × PyData)} (r : RW B F v (.dct kvs)) : ∃ a, v = .ref a ∧ IsDO B H a := by
  obtain ⟨a, o, xs, rfl, _, ha, he, _⟩ := r
  exact ⟨a, rfl, .inl ⟨o, _, s _ _ ha, he⟩⟩
theorem le_get {B : Bs} {ra rb : RdE} : ∀ σ H Q, liE B (rdGet ra rb) σ H Q → tGetO B (liE B ra) (liE B rb) σ H Q := by
  rintro σ H Q ⟨F, M, δ, QD, s, h, k⟩
  refine ⟨F, M, δ, _, s, h, fun v w F1 H1 M1 p1 r1 ⟨kvs, e, h1⟩ => ?_⟩
  subst e
  obtain ⟨a, rfl, da⟩ := dct_is p1.sub r1
  refine ⟨a, rfl, da, F1, M1, δ, _, s.after p1, h1, fun u z F2 H2 M2 p2 r2 ⟨kd, e, hk, q⟩ => ?_⟩
  subst e
  refine ans_of (M := M2) p2.sub (RW.mono p2.fz r1) r2 hk (fun e => ?_) fun d v' u e rv rd => ?_
  · rw [e] at q
    exact k .non (.d .none) F2 H2 M2 (p1.trans p2) RD.non q
  · rw [e] at q
    exact k v' (.d d) F2 H2 M2 (p1.trans p2) rd q
theorem le_get2 {B : Bs} {ra rb rc : RdE} : ∀ σ H Q, liE B (rdGet2 ra rb rc) σ H Q → tGetO2 B (liE B ra) (liE B rb) (liE B rc) σ H Q := by
  rintro σ H Q ⟨F, M, δ, QD, s, h, k⟩
  refine ⟨F, M, δ, _, s, h, fun v w F1 H1 M1 p1 r1 ⟨kvs, e, h1⟩ => ?_⟩
  subst e
  obtain ⟨a, rfl, da⟩ := dct_is p1.sub r1
  refine ⟨a, rfl, da, F1, M1, δ, _, s.after p1, h1, fun u z F2 H2 M2 p2 r2 ⟨kd, e, h2⟩ => ?_⟩
  subst e
  refine ⟨F2, M2, δ, _, s.after (p1.trans p2), h2, fun t y F3 H3 M3 p3 r3 ⟨x, e, hk, q⟩ => ?_⟩
  subst e
  refine ans_of (M := M3) p3.sub (RW.mono p3.fz (RW.mono p2.fz r1)) (RD.mono p3.fz r2) hk (fun e => ?_) fun d v' u e rv rd => ?_
  · rw [e] at q
    exact k t (.d x) F3 H3 M3 ((p1.trans p2).trans p3) r3 q
  · rw [e] at q
    exact k v' (.d d) F3 H3 M3 ((p1.trans p2).trans p3) rd q
/-! ## {} -/
def rdNew (g : Bool) : RdE := fun δ M Q => ∀ a, M a = none → Q (.box a) (mset M a (if g then .g [] else .m []))
theorem le_new {B : Bs} {g : Bool} : ∀ σ H Q, liE B (rdNew g) σ H Q → tNewO B σ H Q := by
  rintro σ H Q ⟨F, M, δ, QD, s, h, k⟩ p hp ns
  refine k (.ref p) (.box p) F _ _ (Pst.newM s.sub s.mok hp ?_) rfl (h p (s.mok.free hp))
  cases g with
  | true => exact ⟨[], ns, upd_same, (fun _ z => nomatch z), .nil, Nat.zero_le _, rfl⟩
  | false => exact ⟨[], ns, upd_same, ⟨(fun _ z => nomatch z), (fun _ z => nomatch z), .nil, Nat.zero_le _⟩, rfl⟩
/-! ## dict(zip(a, b)) -/
def rdDz (ra : RdA) : RdE := fun δ M Q => ra δ M fun ws M1 => ∃ xs ys, ws = [.d (.list xs), .d (.tuple ys)] ∧ xs.length = ys.length ∧ (∀ d ∈ xs, KeyD d) ∧ (xs.map toNK).Nodup ∧ xs.length ≤ 100000 ∧ Q (.dct (xs.zip ys)) M1
theorem zents_of {K : PySem.W.Frag} {F : Hp} : ∀ {vs ws : List V} {us : List Value} {xs ys : List PyData}, RDs K F vs xs → RDs K F ws ys → Vals ws us → xs.length = ys.length → (∀ d ∈ xs, KeyD d) → (xs.map toNK).Nodup → ∃ es : List DEnt, ZipEnts K F vs ws es ∧ es.map (·.vv) = us ∧ (es.map (·.nk)).Nodup ∧ es.map (fun e => some e.nk) = xs.map toNK ∧ kvsOf es = xs.zip ys ∧ (∀ x ∈ es, toNK x.kd = some x.nk ∧ x.nk.depth ≤ 8 ∧ RD K F (.ref x.ka) x.kd) ∧ (∀ x ∈ es, ∃ v, RelV v x.vv ∧ RD K F v x.vd) ∧ es.length = xs.length
  | _, _, _, _, _, .nil, .nil, r, _, _, _ => by
    cases r
    exact ⟨[], .nil, rfl, .nil, rfl, rfl, (fun _ h => nomatch h), (fun _ h => nomatch h), rfl⟩
  | _, _, _, _, _, .cons (d := d) r1 t1, .cons (d := d2) r2 t2, r, hl, hk, nd => by
    cases r with
    | cons r3 t3 =>
      rw [List.map_cons, List.nodup_cons] at nd
      obtain ⟨es, e1, e2, e3, e4, e5, e6, e7, e8⟩ := zents_of t1 t2 t3 (by simpa using hl) (fun y hy => hk y (List.mem_cons_of_mem _ hy)) nd.2
      obtain ⟨k, ds, rfl, hk, dp⟩ := hk d List.mem_cons_self
      obtain ⟨a, ys, rfl, _, _⟩ := RD.tupI r1
      refine ⟨⟨_, k, a, d2, _⟩ :: es, .cons hk dp r1 r2 r3 e1, by rw [List.map_cons, e2], ?_, by rw [List.map_cons, List.map_cons, e4, hk], ?_, fun x hx => ?_, fun x hx => ?_, by rw [List.length_cons, List.length_cons, e8]⟩
      · rw [List.map_cons, List.nodup_cons]
        refine ⟨fun z => nd.1 ?_, e3⟩
        obtain ⟨e, he, ee⟩ := List.mem_map.mp z
        rw [hk, ← e4]
        exact List.mem_map.mpr ⟨e, he, by rw [ee]⟩
      · unfold kvsOf at e5 ⊢
        rw [List.map_cons, List.zip_cons_cons, e5]
      · rcases List.mem_cons.mp hx with rfl | hx
        · exact ⟨hk, dp, r1⟩
        · exact e6 x hx
      · rcases List.mem_cons.mp hx with rfl | hx
        · exact ⟨_, r3, r2⟩
        · exact e7 x hx
  | _, _, _, _, _, .nil, .cons _ _, _, hl, _, _ => by cases hl
  | _, _, _, _, _, .cons _ _, .nil, _, hl, _, _ => by cases hl
theorem le_dz {B : Bs} {ra : RdA} : ∀ σ H Q, liE B (rdDz ra) σ H Q → tDZip B (liA B ra) σ H Q := by
  rintro σ H Q ⟨F, M, δ, QD, s, h, k⟩
  refine ⟨F, M, δ, _, s, h, fun vs ws F1 H1 M1 p1 r1 ⟨xs, ys, e, hl, hk, nd, n, q⟩ => ?_⟩
  subst e
  obtain ⟨v, u, rfl, rv, ru⟩ := r1.two
  obtain ⟨l, us, rfl, sl, rl⟩ := RD.lstI rv
  obtain ⟨m, ts, rfl, sm, rt⟩ := RD.tupI ru
  refine ⟨l, m, us, ts, rfl, SqL.of (p1.sub _ _ sl), sqt_sub p1.sub sm, F1, p1.sub, by rw [rl.length]; exact n, fun zs hz => ?_⟩
  obtain ⟨es, e1, e2, e3, e4, e5, e6, e7, e8⟩ := zents_of rl rt hz hl hk nd
  refine ⟨es, e1, e2, e3, fun p o hp ns he => ?_⟩
  have p2 := Pst.new (B := B) (o := pinO p o) p1.sub p1.mok hp (p1.mok.free hp)
  refine k (.ref p) (.dct (xs.zip ys)) _ _ M1 (p1.trans p2) ⟨p, o, es, rfl, ns, upd_same, he, ⟨fun x hx => ⟨(e6 x hx).1, (e6 x hx).2.1, (e6 x hx).2.2.mono p2.fz⟩, fun x hx => let ⟨v, a, b⟩ := e7 x hx; ⟨v, a, b.mono p2.fz⟩, e3, by rw [e8]; exact n⟩, e5⟩ q
end Sh
set_option maxHeartbeats 4000000
namespace Sh
open PySem PySem.Spec PyProof.Rows L2
/-! ## d.setdefault(k, []) -/
def rdSd (ro rk : RdE) : RdE := fun δ M Q => ro δ M fun w M1 => ∃ a kvs0, w = .box a ∧ M1 a = some (.g kvs0) ∧ rk δ M1 fun z M2 => ∃ kvs kd, M2 a = some (.g kvs) ∧ z = .d kd ∧ KeyD kd ∧ kvs.length < 90000 ∧
  ∀ l, M2 l = none → (∀ b, dfind kvs kd = some b → Q (.box b) (mset M2 l (.l []))) ∧ (dfind kvs kd = none → Q (.box l) (mset (mset M2 l (.l [])) a (.g (kvs ++ [(kd, l)]))))
theorem g_find {xs : List DEnt} {kvs : List (PyData × Addr)} (h : xs.map (fun x => (x.kd, x.vv)) = kvs.map fun p => (p.1, Value.ref p.2)) (kd : PyData) : (xs.find? fun x => decide (toNK x.kd = toNK kd)).map (·.vv) = (dfind kvs kd).map Value.ref := by
  rw [← dfind_f, h, dfind_map]
theorem find_none {xs : List DEnt} {kd : PyData} (h : xs.find? (fun x => decide (toNK x.kd = toNK kd)) = none) : ∀ x ∈ xs, toNK x.kd ≠ toNK kd := fun x hx e => by
  have := List.find?_eq_none.mp h x hx
  exact this (decide_eq_true e)
theorem nodup_snoc {α : Type} {l : List α} {x : α} (h : l.Nodup) (hx : x ∉ l) : (l ++ [x]).Nodup := by
  refine List.nodup_append.mpr ⟨h, List.nodup_cons.mpr ⟨List.not_mem_nil, .nil⟩, fun a ha b hb => ?_⟩
  rw [List.mem_singleton.mp hb]
  exact fun e => hx (e ▸ ha)
theorem le_sd {B : Bs} {ro rk : RdE} : ∀ σ H Q, liE B (rdSd ro rk) σ H Q → tSdO B (liE B ro) (liE B rk) (tLst tNil) σ H Q := by
  rintro σ H Q ⟨F, M, δ, QD, s, h, k⟩
  refine ⟨F, M, δ, _, s, h, fun v w F1 H1 M1 p1 r1 ⟨a, kvs0, e, hm, h1⟩ => ?_⟩
  subst e
  obtain rfl : v = .ref a := r1
  obtain ⟨_, xs0, ns, hd0, _⟩ := p1.mok a _ hm
  refine ⟨a, rfl, .inr ⟨_, hd0⟩, F1, M1, δ, _, s.after p1, h1, fun u z F2 H2 M2 p2 r2 ⟨kvs, kd, hm2, e, hk, hl, q⟩ => ?_⟩
  subst e
  refine ⟨by show 0 ≤ sizeLine; exact Nat.zero_le _, fun l hl0 => ?_⟩
  obtain ⟨k0, ds, rfl, hk, dp⟩ := hk
  obtain ⟨b, ys, rfl, _, _⟩ := RD.tupI r2
  obtain ⟨fa, xs, _, hd, ke, nd, hz, ev⟩ := p2.mok a _ hm2
  have ml := p2.mok.free hl0
  have ne : a ≠ l := fun e => by rw [e, hl0] at hd; cases hd
  have p3 := Pst.newM (B := B) (x := .l []) p2.sub p2.mok hl0 ⟨[], upd_same, .nil⟩
  have hlen : xs.length = kvs.length := by
    have := congrArg List.length ev
    rwa [List.length_map, List.length_map] at this
  obtain ⟨q1, q2⟩ := q l ml
  have gf := g_find ev (PyData.tuple ds)
  refine ⟨b, F2, xs, _, k0, rfl, ns, by rw [upd_ne ne]; exact hd, p3.sub, ⟨ke, nd, by omega⟩, r2, hk, dp, fun hn u ru => ?_, fun e he => ?_⟩
  · cases ru
    rw [hn] at gf
    have dn : dfind kvs (.tuple ds) = none := by
      cases y : dfind kvs (.tuple ds) with
      | none => rfl
      | some c => rw [y] at gf; cases gf
    have out := find_none hn
    have p4 := Pst.put (B := B) (F := F2) (a := a) (o := .g (kvs ++ [(.tuple ds, l)])) (ho := dO B.P B.w a (xs.map dRow ++ [(k0, b, .ref l)])) p3.sub p3.mok ⟨.g kvs, by unfold mset; rw [if_neg ne]; exact hm2⟩ (by
      refine ⟨xs ++ [⟨.tuple ds, k0, b, .none, .ref l⟩], ns, by rw [upd_same, List.map_append]; rfl, fun x hx => ?_, ?_, by rw [List.length_append]; simp; omega, by rw [List.map_append, List.map_append, ev]; rfl⟩
      · rcases List.mem_append.mp hx with hx | hx
        · exact ke x hx
        · rw [List.mem_singleton.mp hx]
          exact ⟨hk, dp, r2⟩
      · rw [List.map_append]
        refine nodup_snoc nd fun z => ?_
        obtain ⟨x, hx, ex⟩ := List.mem_map.mp z
        exact out x hx (by rw [(ke x hx).1, hk, ex]))
    exact k (.ref l) (.box l) _ _ _ (((p1.trans p2).trans p3).trans p4) rfl (q2 dn)
  · rw [he] at gf
    cases y : dfind kvs (.tuple ds) with
    | none => rw [y] at gf; cases gf
    | some c =>
      rw [y] at gf
      have ec : e.vv = Value.ref c := Option.some.inj gf
      exact ⟨.ref c, ec, k (.ref c) (.box c) _ _ _ ((p1.trans p2).trans p3) rfl (q1 c y)⟩
/-! ## d[k] = v -/
def dput (kvs : List (PyData × PyData)) (kd x : PyData) : List (PyData × PyData) := if (dfind kvs kd).isSome then kvs.map (fun p => if toNK p.1 = toNK kd then (p.1, x) else p) else kvs ++ [(kd, x)]
def rdPut (re ro rk : RdE) : RdS := fun DD δ M => re δ M fun v M1 => ∃ x, v = .d x ∧ ro δ M1 fun w M2 => ∃ a, w = .box a ∧ rk δ M2 fun z M3 => ∃ kvs kd, M3 a = some (.m kvs) ∧ z = .d kd ∧ KeyD kd ∧ kvs.length < 90000 ∧ DD.nx δ (mset M3 a (.m (dput kvs kd x)))
theorem ls_putO {B : Bs} {re ro rk : RdE} : ∀ D σ H, liS B (rdPut re ro rk) D σ H → sPutO B (liE B ro) (liE B rk) (liE B re) D σ H := by
  rintro D σ H ⟨F, M, δ, DD, s, h, k⟩
  refine ⟨F, M, δ, _, s, h, fun v z F1 H1 M1 p1 r1 ⟨x, e, h1⟩ => ?_⟩
  subst e
  refine ⟨F1, M1, δ, _, s.after p1, h1, fun o w F2 H2 M2 p2 r2 ⟨a, e, h2⟩ => ?_⟩
  subst e
  obtain rfl : o = .ref a := r2
  refine ⟨F2, M2, δ, _, s.after (p1.trans p2), h2, fun y z F3 H3 M3 p3 r3 ⟨kvs, kd, hm, e, hk, hl, q⟩ => ?_⟩
  subst e
  obtain ⟨k0, ds, rfl, hk, dp⟩ := hk
  obtain ⟨b, ys, rfl, _, _⟩ := RD.tupI r3
  obtain ⟨fa, xs, ns, hd, de, ev⟩ := p3.mok a _ hm
  have hlen : xs.length = kvs.length := by rw [← ev]; unfold kvsOf; rw [List.length_map]
  have rx : RD B.K F3 v x := RD.mono p3.fz (RD.mono p2.fz r1)
  refine ⟨a, b, F3, xs, _, k0, rfl, rfl, ns, hd, p3.sub, ⟨de.key, de.nd, by omega⟩, r3, hk, dp, fun u ru => ?_⟩
  have p123 := (p1.trans p2).trans p3
  -- the entries
  obtain ⟨xs', e1, e2, e3⟩ : ∃ xs' : List DEnt, xs'.map dRow = storedH (xs.map dRow) k0 b u ∧ kvsOf xs' = dput kvs (.tuple ds) x ∧ DEnts B.K F3 xs' := by
    have dd : dfind kvs (.tuple ds) = (xs.find? fun x => decide (toNK x.kd = toNK (.tuple ds))).map (·.vd) := by rw [← ev, dfind_ents]
    rcases find_ents hk de.key with ⟨n1, n2⟩ | ⟨e, hmem, n1, n2⟩
    · refine ⟨xs ++ [⟨.tuple ds, k0, b, x, u⟩], by rw [storedH_new n1, List.map_append]; rfl, ?_, ⟨fun y hy => ?_, fun y hy => ?_, ?_, by rw [List.length_append]; simp; omega⟩⟩
      · unfold dput
        rw [dd, n2, if_neg (by simp), ← ev]
        unfold kvsOf
        rw [List.map_append]
        rfl
      · rcases List.mem_append.mp hy with hy | hy
        · exact de.key y hy
        · rw [List.mem_singleton.mp hy]
          exact ⟨hk, dp, r3⟩
      · rcases List.mem_append.mp hy with hy | hy
        · exact de.val y hy
        · rw [List.mem_singleton.mp hy]
          exact ⟨v, ru, rx⟩
      · rw [List.map_append]
        refine nodup_snoc de.nd fun z => ?_
        obtain ⟨y, hy, ey⟩ := List.mem_map.mp z
        exact find_none n2 y hy (by rw [(de.key y hy).1, hk, ey])
    · refine ⟨xs.map fun y => if y.nk = k0 then { y with vd := x, vv := u } else y, ?_, ?_, ⟨fun y hy => ?_, fun y hy => ?_, ?_, by rw [List.length_map]; exact de.len⟩⟩
      · unfold storedH
        rw [n1, if_pos (show (some (e.ka, e.vv)).isSome = true from rfl), List.map_map, List.map_map]
        refine List.map_congr_left fun y _ => ?_
        show dRow (if y.nk = k0 then _ else y) = putAt k0 u (dRow y)
        unfold putAt dRow
        by_cases c : y.nk = k0
        · rw [if_pos c, if_pos c]
        · rw [if_neg c, if_neg c]
      · unfold dput
        rw [dd, n2, if_pos (show (Option.map (fun x : DEnt => x.vd) (some e)).isSome = true from rfl), ← ev]
        unfold kvsOf
        rw [List.map_map, List.map_map]
        refine List.map_congr_left fun y hy => ?_
        have ky := (de.key y hy).1
        show ((if y.nk = k0 then _ else y : DEnt).kd, (if y.nk = k0 then _ else y : DEnt).vd) = if toNK y.kd = toNK (.tuple ds) then (y.kd, x) else (y.kd, y.vd)
        by_cases c : y.nk = k0
        · rw [if_pos c, if_pos (by rw [ky, hk, c])]
        · rw [if_neg c, if_neg (by rw [ky, hk]; exact fun z => c (Option.some.inj z))]
      · obtain ⟨z, hz, rfl⟩ := List.mem_map.mp hy
        have kz := de.key z hz
        by_cases c : z.nk = k0
        · rw [if_pos c]; exact kz
        · rw [if_neg c]; exact kz
      · obtain ⟨z, hz, rfl⟩ := List.mem_map.mp hy
        by_cases c : z.nk = k0
        · rw [if_pos c]; exact ⟨v, ru, rx⟩
        · rw [if_neg c]; exact de.val z hz
      · rw [List.map_map]
        have : (xs.map ((fun y : DEnt => y.nk) ∘ fun y => if y.nk = k0 then { y with vd := x, vv := u } else y)) = xs.map (·.nk) := List.map_congr_left fun y _ => by
          show (if y.nk = k0 then _ else y : DEnt).nk = y.nk
          by_cases c : y.nk = k0
          · rw [if_pos c]
          · rw [if_neg c]
        rw [this]
        exact de.nd
  have p4 := Pst.put (B := B) (F := F3) (a := a) (o := .m (dput kvs (.tuple ds) x)) (ho := dO B.P B.w a (storedH (xs.map dRow) k0 b u)) p3.sub p3.mok ⟨_, hm⟩ ⟨xs', ns, by rw [upd_same, e1], e3, e2⟩
  have p := p123.trans p4
  exact k.nx σ δ _ _ _ p (s.after p).env q
/-! ## a ghost step: what changed will not change any more -/
def mdels (M : MM) (as : List Addr) : MM := fun b => if b ∈ as then none else M b
def rdGho (i : Nat) (r : RdS) : RdS := fun DD δ M => ∃ a, δ[i]? = some (some (.box a)) ∧ ((∃ xs, M a = some (.l xs) ∧ r DD (δ.set i (some (.d (.list xs)))) (mdel M a)) ∨ (∃ kvs, M a = some (.m kvs) ∧ r DD (δ.set i (some (.dct kvs))) (mdel M a)) ∨
  ∃ (kvs : List (PyData × Addr)) (zs : List (List PyData)), M a = some (.g kvs) ∧ kvs.length = zs.length ∧ (∀ (j : Nat) (p : PyData × Addr) (z : List PyData), kvs[j]? = some p → zs[j]? = some z → M p.2 = some (.l z)) ∧ r DD (δ.set i (some (.dct ((kvs.map (·.1)).zip (zs.map .list))))) (mdels M (a :: kvs.map (·.2))))
/-- tracked lists no longer change -/
theorem Pst.frzs {B : Bs} {F H : Hp} {M : MM} (as : List Addr) (s : Same F H) (m : MOk B F M H) (hd : ∀ b, b ∈ as → ∃ o, M b = some o) : Pst B F H M (fun b => if b ∈ as then H b else F b) H (mdels M as) := by
  have sub : Same F (fun b => if b ∈ as then H b else F b) := fun b u q => by
    by_cases hb : b ∈ as
    · obtain ⟨o, ho⟩ := hd b hb
      have := (m b o ho).1
      rw [q] at this
      cases this
    · show (if b ∈ as then H b else F b) = some u
      rw [if_neg hb]
      exact q
  refine ⟨sub, fun b u q => ?_, fun b o q => ?_, fun b u q n => ⟨q, ?_⟩, fun b u q f n => ?_⟩
  · have q' : (if b ∈ as then H b else F b) = some u := q
    by_cases hb : b ∈ as
    · rw [if_pos hb] at q'; exact q'
    · rw [if_neg hb] at q'; exact s b u q'
  · have q' : (if b ∈ as then none else M b) = some o := q
    by_cases hb : b ∈ as
    · rw [if_pos hb] at q'; cases q'
    · rw [if_neg hb] at q'
      obtain ⟨h1, h2⟩ := m b o q'
      refine ⟨?_, h2.keep sub fun u q => q⟩
      show (if b ∈ as then H b else F b) = none
      rw [if_neg hb]
      exact h1
  · show (if b ∈ as then none else M b) = none
    by_cases hb : b ∈ as
    · rw [if_pos hb]
    · rw [if_neg hb]; exact n
  · show (if b ∈ as then H b else F b) = none
    by_cases hb : b ∈ as
    · obtain ⟨o, ho⟩ := hd b hb
      rw [n] at ho
      cases ho
    · rw [if_neg hb]; exact f
/-- a tracked dict, pinned -/
theorem Pst.pin {B : Bs} {F H : Hp} {M : MM} {a : Addr} {o : Obj} (s : Same F H) (m : MOk B F M H) (ha : ∃ x, M a = some x) : Pst B F H M (upd F a (pinO a o)) (upd H a (pinO a o)) (mdel M a) := by
  obtain ⟨x, hx⟩ := ha
  have fa := (m a x hx).1
  have sub : Same F (upd F a (pinO a o)) := fun b u q => by rw [upd_ne (ne_of_none q fa)]; exact q
  refine ⟨sub, fun b u q => ?_, fun b y q => ?_, fun b u q n => ?_, fun b u q f n => ?_⟩
  · by_cases hb : b = a
    · subst hb
      rw [upd_same] at q ⊢
      exact q
    · rw [upd_ne hb] at q ⊢
      exact s b u q
  · have q' : (if b = a then none else M b) = some y := q
    by_cases hb : b = a
    · rw [if_pos hb] at q'; cases q'
    · rw [if_neg hb] at q'
      obtain ⟨h1, h2⟩ := m b y q'
      exact ⟨by rw [upd_ne hb]; exact h1, h2.keep sub fun u q => by rw [upd_ne hb]; exact q⟩
  · have ne : b ≠ a := fun e => by rw [e, hx] at n; cases n
    refine ⟨by rw [upd_ne ne]; exact q, ?_⟩
    show (if b = a then none else M b) = none
    rw [if_neg ne]
    exact n
  · have ne : b ≠ a := fun e => by rw [e, hx] at n; cases n
    rw [upd_ne ne]
    exact f
theorem ls_gho {X : Cx} {B : Bs} {l : List Stmt} {r : RdS} {i : Nat} (eP : X.prog = B.P) (ew : X.w = B.w) (h : PSs X l (liS B r)) : PSs X l (liS B (rdGho i r)) := by
  refine ⟨fun pins s σ H D I q => ?_⟩
  obtain ⟨F, M, δ, DD, so, ⟨a, ha, q⟩, k⟩ := q
  obtain ⟨P, w, K⟩ := B
  subst eP ew
  obtain ⟨v, hv, rv⟩ := so.env.at_ i _ ha
  obtain rfl : v = .ref a := rv
  -- the frame's state with the name read anew
  have envs : ∀ {F' : Hp} {w' : W}, Same F F' → RW ⟨X.prog, X.w, K⟩ F' (.ref a) w' → EOk ⟨X.prog, X.w, K⟩ F' σ (δ.set i (some w')) := fun {F' w'} sF r => by
    have e := (so.env.mono sF).set (i := i) r
    have es : σ.set i (some (V.ref a)) = σ := by
      refine List.ext_getElem? fun j => ?_
      by_cases hj : i = j
      · subst hj
        rw [List.getElem?_set_self (List.getElem?_eq_some_iff.mp hv).1, hv]
      · rw [List.getElem?_set_ne hj]
    rw [es] at e
    exact e
  rcases q with ⟨xs, hm, q⟩ | ⟨kvs, hm, q⟩ | ⟨kvs, zs, hm, hl, hz, q⟩
  · obtain ⟨fa, vs, hH, rd⟩ := so.mok a _ hm
    have p := Pst.frzs (B := ⟨X.prog, X.w, K⟩) [a] so.sub so.mok fun b hb => ⟨.l xs, by rw [List.mem_singleton.mp hb]; exact hm⟩
    have em : mdels M [a] = mdel M a := funext fun b => by
      show (if b ∈ [a] then none else M b) = if b = a then none else M b
      simp only [List.mem_singleton]
    rw [em] at p
    exact h.run pins s σ H D I ⟨_, _, _, DD, ⟨p.sub, p.mok, envs (w' := .d (.list xs)) p.fz (RD.lst (xs := vs) (by rw [if_pos (List.mem_singleton.mpr rfl)]; exact hH) (rd.mono p.fz))⟩, q, k.go p⟩
  · obtain ⟨fa, xs, ns, hH, de, ev⟩ := so.mok a _ hm
    obtain ⟨o, ho, he⟩ := dO_at I hH
    have p := Pst.pin (B := ⟨X.prog, X.w, K⟩) (o := o) so.sub so.mok ⟨_, hm⟩
    have I2 : Inv X pins σ (upd H a (pinO a o)) s := I.write (t' := s.toks) (h' := s.heap) (by rw [hH]; exact True.intro) (.inl rfl) (fun _ _ _ z => z) ⟨_, ho⟩ (pinO_ok ho)
    exact h.run pins s σ _ D I2 ⟨_, _, _, DD, ⟨p.sub, p.mok, envs (w' := .dct kvs) p.fz ⟨a, o, xs, rfl, ns, upd_same, he, de.mono p.fz, ev⟩⟩, q, k.go p⟩
  · obtain ⟨fa, xs, ns, hH, ke, nd, n, ev⟩ := so.mok a _ hm
    obtain ⟨o, ho, he⟩ := dO_at I hH
    have hlen : xs.length = kvs.length := by
      have := congrArg List.length ev
      rwa [List.length_map, List.length_map] at this
    -- the dict itself, then the lists
    have p1 := Pst.pin (B := ⟨X.prog, X.w, K⟩) (o := o) so.sub so.mok ⟨_, hm⟩
    have there : ∀ b, b ∈ kvs.map (·.2) → ∃ z, M b = some (.l z) := fun b hb => by
      obtain ⟨p, hp, rfl⟩ := List.mem_map.mp hb
      obtain ⟨j, hj⟩ := List.getElem?_of_mem hp
      have lj : j < zs.length := by rw [← hl]; exact (List.getElem?_eq_some_iff.mp hj).1
      exact ⟨_, hz j p _ hj (List.getElem?_eq_getElem lj)⟩
    have nea : ∀ b, b ∈ kvs.map (·.2) → b ≠ a := fun b hb e => by
      obtain ⟨z, hz⟩ := there b hb
      rw [e, hm] at hz
      cases hz
    have p2 := Pst.frzs (B := ⟨X.prog, X.w, K⟩) (kvs.map (·.2)) p1.sub p1.mok fun b hb => by
      obtain ⟨z, hz⟩ := there b hb
      refine ⟨MO.l z, ?_⟩
      show (if b = a then none else M b) = _
      rw [if_neg (nea b hb)]
      exact hz
    have p := p1.trans p2
    have em : mdels (mdel M a) (kvs.map (·.2)) = mdels M (a :: kvs.map (·.2)) := funext fun b => by
      show (if b ∈ kvs.map (·.2) then none else if b = a then none else M b) = if b ∈ a :: kvs.map (·.2) then none else M b
      by_cases h1 : b ∈ kvs.map (·.2)
      · rw [if_pos h1, if_pos (List.mem_cons_of_mem _ h1)]
      · by_cases h2 : b = a
        · rw [if_neg h1, if_pos h2, if_pos (by rw [h2]; exact List.mem_cons_self)]
        · rw [if_neg h1, if_neg h2, if_neg]
          rintro z
          rcases List.mem_cons.mp z with z | z
          · exact h2 z
          · exact h1 z
    rw [em] at p
    have I2 : Inv X pins σ (upd H a (pinO a o)) s := I.write (t' := s.toks) (h' := s.heap) (by rw [hH]; exact True.intro) (.inl rfl) (fun _ _ _ z => z) ⟨_, ho⟩ (pinO_ok ho)
    -- the entries, with the lists for values
    obtain ⟨es, des⟩ : ∃ es : List DEnt, es = (xs.zip zs).map fun q => { q.1 with vd := .list q.2 } := ⟨_, rfl⟩
    have eK : es.map (fun x => (x.nk, x.ka, x.vv)) = xs.map (fun x => (x.nk, x.ka, x.vv)) := by
      rw [des, List.map_map]
      have : xs.map (fun x => (x.nk, x.ka, x.vv)) = ((xs.zip zs).map Prod.fst).map fun x => (x.nk, x.ka, x.vv) := by rw [List.map_fst_zip (by omega)]
      rw [this, List.map_map]
      rfl
    have at_ : ∀ e ∈ es, ∃ (j : Nat) (x : DEnt) (z : List PyData), xs[j]? = some x ∧ zs[j]? = some z ∧ e = { x with vd := .list z } := fun e he => by
      rw [des] at he
      obtain ⟨⟨x, z⟩, hq, rfl⟩ := List.mem_map.mp he
      obtain ⟨j, hj⟩ := List.getElem?_of_mem hq
      rw [List.getElem?_zip_eq_some] at hj
      exact ⟨j, x, z, hj.1, hj.2, rfl⟩
    have rows : es.map dRow = xs.map dRow := eK
    have kk : kvsOf es = (kvs.map (·.1)).zip (zs.map .list) := by
      have e1 : xs.map (·.kd) = kvs.map (·.1) := by
        have := congrArg (List.map Prod.fst) ev
        rw [List.map_map, List.map_map] at this
        exact this
      rw [← e1, List.zip_map]
      unfold kvsOf
      rw [des, List.map_map]
      rfl
    refine h.run pins s σ _ D I2 ⟨_, _, _, DD, ⟨p.sub, p.mok, envs (w' := .dct ((kvs.map (·.1)).zip (zs.map .list))) p.fz ⟨a, o, es, rfl, ns, ?_, by rw [rows]; exact he, ⟨fun e hee => ?_, fun e hee => ?_, ?_, ?_⟩, kk⟩⟩, q, k.go p⟩
    · show (if a ∈ kvs.map (·.2) then _ else upd F a (pinO a o) a) = _
      rw [if_neg fun z => nea a z rfl, upd_same]
    · obtain ⟨j, x, z, hx, _, rfl⟩ := at_ e hee
      have := ke x (List.mem_of_getElem? hx)
      exact ⟨this.1, this.2.1, this.2.2.mono p.fz⟩
    · obtain ⟨j, x, z, hx, hzj, rfl⟩ := at_ e hee
      have ej : (xs.map fun x => (x.kd, x.vv))[j]? = some (x.kd, x.vv) := by rw [List.getElem?_map, hx]; rfl
      rw [ev, List.getElem?_map] at ej
      cases y : kvs[j]? with
      | none => rw [y] at ej; cases ej
      | some pr =>
        rw [y] at ej
        have ev2 : Value.ref pr.2 = x.vv := (Prod.mk.inj (Option.some.inj ej)).2
        have mz := hz j pr z y hzj
        obtain ⟨_, vs, hvs, rd⟩ := so.mok pr.2 _ mz
        refine ⟨.ref pr.2, ev2.symm, RD.lst (xs := vs) ?_ (rd.mono p.fz)⟩
        show (if pr.2 ∈ kvs.map (·.2) then upd H a (pinO a o) pr.2 else _) = _
        have hp : pr.2 ∈ kvs.map (·.2) := List.mem_map_of_mem (List.mem_of_getElem? y)
        rw [if_pos hp, upd_ne (nea _ hp)]
        exact hvs
    · have : es.map (·.nk) = xs.map (·.nk) := by
        have := congrArg (List.map Prod.fst) eK
        rw [List.map_map, List.map_map] at this
        exact this
      rw [this]
      exact nd
    · have : es.length = xs.length := by
        have := congrArg List.length eK
        rwa [List.length_map, List.length_map] at this
      rw [this]
      exact n
end Sh
set_option maxHeartbeats 4000000
namespace Sh
open PySem PySem.Spec PyProof.Rows L2
/-! ## zip, enumerate, range, keys -/
def pairD (x y : PyData) : W := .d (.tuple [x, y])
theorem zip_at {α β : Type} {xs : List α} {ys : List β} {i : Nat} {p : α × β} (h : (xs.zip ys)[i]? = some p) : xs[i]? = some p.1 ∧ ys[i]? = some p.2 := by
  rw [List.getElem?_zip_eq_some] at h
  exact h
/-- a new pair -/
theorem pair_new {B : Bs} {F H : Hp} {M : MM} {T : Addr} {v u : V} {x y : PyData} (s : Same F H) (m : MOk B F M H) (hT : H T = none) (rv : RD B.K F v x) (ru : RD B.K F u y) : Pst B F H M (upd F T (.tup [v, u])) (upd H T (.tup [v, u])) M ∧ RW B (upd F T (.tup [v, u])) (.ref T) (pairD x y) := by
  have p := Pst.new (B := B) (o := .tup [v, u]) s m hT (m.free hT)
  exact ⟨p, RD.tup upd_same (.cons (rv.mono p.fz) (.cons (ru.mono p.fz) .nil))⟩
theorem walks_zip {B : Bs} {F : Hp} {a b : Addr} {vs us : List V} {xs ys : List PyData} (h1 : F a = some (.lst vs)) (r1 : RDs B.K F vs xs) (h2 : F b = some (.lst us)) (r2 : RDs B.K F us ys) : Walks B (Itz B.K a b) ((xs.zip ys).map fun p => pairD p.1 p.2) F := by
  intro i F1 H M s1 s2 m
  have q1 : SqL B.K H a vs := list_inj_F h1 s1 s2
  have q2 : SqL B.K H b us := list_inj_F h2 s1 s2
  rw [List.length_map, List.length_zip, ← r1.length, ← r2.length]
  refine ⟨fun hi => ⟨vs, us, vs[i], us[i], q1, q2, by simp, by simp⟩, fun w hw x H' y => ?_, fun hi => ⟨vs, us, q1, q2, by omega⟩⟩
  rw [List.getElem?_map] at hw
  cases e : (xs.zip ys)[i]? with
  | none => rw [e] at hw; cases hw
  | some p =>
    rw [e] at hw
    cases hw
    obtain ⟨e1, e2⟩ := zip_at e
    obtain ⟨v, hv, rv⟩ := r1.get e1
    obtain ⟨u, hu, ru⟩ := r2.get e2
    obtain ⟨T, x0, y0, rfl, hT, rfl, g1, g2⟩ := y
    have f1 := g1 vs q1
    have f2 := g2 us q2
    rw [hv] at f1
    rw [hu] at f2
    cases f1
    cases f2
    obtain ⟨p, r⟩ := pair_new (B := B) s2 m hT (rv.mono s1) (ru.mono s1)
    exact ⟨_, p, r⟩
theorem walks_zipx {B : Bs} {F : Hp} {a b : Addr} {vs us : List V} {xs ys : List PyData} (h1 : F a = some (.lst vs)) (r1 : RDs B.K F vs xs) (h2 : SqT B.K F b us) (r2 : RDs B.K F us ys) : Walks B (Itx B.K a b) ((xs.zip ys).map fun p => pairD p.1 p.2) F := by
  intro i F1 H M s1 s2 m
  have q1 : SqL B.K H a vs := list_inj_F h1 s1 s2
  have q2 : SqT B.K H b us := sqt_sub s2 (sqt_sub s1 h2)
  rw [List.length_map, List.length_zip, ← r1.length, ← r2.length]
  refine ⟨fun hi => ⟨vs, us, vs[i], us[i], q1, q2, by simp, by simp⟩, fun w hw x H' y => ?_, fun hi => ⟨vs, us, q1, q2, by omega⟩⟩
  rw [List.getElem?_map] at hw
  cases e : (xs.zip ys)[i]? with
  | none => rw [e] at hw; cases hw
  | some p =>
    rw [e] at hw
    cases hw
    obtain ⟨e1, e2⟩ := zip_at e
    obtain ⟨v, hv, rv⟩ := r1.get e1
    obtain ⟨u, hu, ru⟩ := r2.get e2
    obtain ⟨T, x0, y0, rfl, hT, rfl, g1, g2⟩ := y
    have f1 := g1 vs q1
    have f2 := g2 us q2
    rw [hv] at f1
    rw [hu] at f2
    cases f1
    cases f2
    obtain ⟨p, r⟩ := pair_new (B := B) s2 m hT (rv.mono s1) (ru.mono s1)
    exact ⟨_, p, r⟩
def enumD (xs : List PyData) : List W := xs.zipIdx.map fun p => pairD (.int (p.2 : Nat)) p.1
theorem walks_enum {B : Bs} {F : Hp} {a : Addr} {vs : List V} {xs : List PyData} (h1 : F a = some (.lst vs)) (r1 : RDs B.K F vs xs) : Walks B (Ite B.K a) (enumD xs) F := by
  intro i F1 H M s1 s2 m
  have q1 : SqL B.K H a vs := list_inj_F h1 s1 s2
  unfold enumD
  rw [List.length_map, List.length_zipIdx, ← r1.length]
  refine ⟨fun hi => ⟨vs, vs[i], q1, by simp⟩, fun w hw x H' y => ?_, fun hi => ⟨vs, q1, by omega⟩⟩
  rw [List.getElem?_map, List.getElem?_zipIdx] at hw
  cases e : xs[i]? with
  | none => rw [e] at hw; cases hw
  | some d =>
    rw [e] at hw
    cases hw
    obtain ⟨v, hv, rv⟩ := r1.get e
    obtain ⟨T, x0, rfl, hT, rfl, g1⟩ := y
    have f1 := g1 vs q1
    rw [hv] at f1
    cases f1
    obtain ⟨p, r⟩ := pair_new (B := B) (v := .int (i : Nat)) (x := .int (i : Nat)) s2 m hT (.int _) (rv.mono s1)
    refine ⟨_, p, ?_⟩
    show RW B _ _ (pairD (.int ((0 + i : Nat) : Int)) d)
    rw [Nat.zero_add]
    exact r
def rngD (n : Int) : List W := (List.range n.toNat).map fun i => .d (.int (i : Nat))
theorem walks_rng {B : Bs} {F : Hp} {n : Int} : Walks B (Itr 0 n.toNat) (rngD n) F := by
  intro i F1 H M s1 s2 m
  unfold rngD
  rw [List.length_map, List.length_range]
  refine ⟨fun hi => hi, fun w hw x H' y => ?_, fun hi => ?_⟩
  · rw [List.getElem?_map] at hw
    cases e : (List.range n.toNat)[i]? with
    | none => rw [e] at hw; cases hw
    | some j =>
      rw [e] at hw
      cases hw
      obtain rfl : j = i := by
        have := (List.getElem?_eq_some_iff.mp e).2
        rw [List.getElem_range] at this
        exact this.symm
      obtain ⟨rfl, rfl⟩ := y
      refine ⟨F1, Pst.refl s2 m, ?_⟩
      show RD B.K F1 (.int ((0 : Int) + (j : Nat))) (.int (j : Nat))
      rw [Int.zero_add]
      exact .int _
  · show n.toNat ≤ i
    omega
theorem walks_keys {B : Bs} {F : Hp} {a : Addr} {o : Obj} {xs : List DEnt} (h : F a = some (pinO a o)) (de : DEnts B.K F xs) : Walks B (Itko a o ((xs.map dRow).map fun r => V.ref r.2.1)) (xs.map fun x => .d x.kd) F := by
  intro i F1 H M s1 s2 m
  rw [List.length_map]
  refine ⟨fun hi => ⟨s2 _ _ (s1 _ _ h), by rw [List.length_map, List.length_map]; exact hi⟩, fun w hw x H' y => ?_, fun hi => ⟨s2 _ _ (s1 _ _ h), by rw [List.length_map, List.length_map]; omega⟩⟩
  obtain ⟨rfl, hx⟩ := y
  rw [List.getElem?_map] at hw
  rw [List.getElem?_map, List.getElem?_map] at hx
  cases e : xs[i]? with
  | none => rw [e] at hw; cases hw
  | some d =>
    rw [e] at hw hx
    cases hw
    cases hx
    exact ⟨F1, Pst.refl s2 m, (de.key d (List.mem_of_getElem? e)).2.2.mono s1⟩
/-- zip of two -/
def rdZipI (ra : RdA) : RdI := fun δ M Q => ra δ M fun ws M1 => ∃ xs ys w, ws = [.d (.list xs), w] ∧ seqOf w = some ys ∧ Q ((xs.zip ys).map fun p => pairD p.1 p.2) M1
def rdEnumI (ra : RdA) : RdI := fun δ M Q => ra δ M fun ws M1 => ∃ xs, ws = [.d (.list xs)] ∧ Q (enumD xs) M1
def rdRngI (ra : RdA) : RdI := fun δ M Q => ra δ M fun ws M1 => ∃ n, ws = [.d (.int n)] ∧ (-(2 ^ 62) ≤ n ∧ n < 2 ^ 62) ∧ Q (rngD n) M1
def rdKeysI (ra : RdE) : RdI := fun δ M Q => ra δ M fun w M1 => ∃ kvs, w = .dct kvs ∧ Q (kvs.map fun p => .d p.1) M1
theorem li_zip {B : Bs} {ra : RdA} : ∀ σ H Q, liI B (rdZipI ra) σ H Q → iZips B.K (liA B ra) σ H Q := by
  rintro σ H Q ⟨F, M, δ, QD, s, h, k⟩
  refine ⟨F, M, δ, _, s, h, fun vs ws F1 H1 M1 p1 r1 ⟨xs, ys, w, e, ew, q⟩ => ?_⟩
  subst e
  obtain ⟨v, u, rfl, rv, ru⟩ := r1.two
  obtain ⟨a, us, rfl, sa, ra⟩ := RD.lstI rv
  unfold seqOf at ew
  split at ew
  · cases ew
    obtain ⟨b, ts, rfl, sb, rb⟩ := RD.lstI ru
    exact ⟨a, b, us, ts, rfl, SqL.of (p1.sub _ _ sa), .inl ⟨SqL.of (p1.sub _ _ sb), k _ _ F1 H1 M1 p1 (walks_zip sa ra sb rb) q⟩⟩
  · cases ew
    obtain ⟨b, ts, rfl, sb, rb⟩ := RD.tupI ru
    exact ⟨a, b, us, ts, rfl, SqL.of (p1.sub _ _ sa), .inr ⟨sqt_sub p1.sub sb, k _ _ F1 H1 M1 p1 (walks_zipx sa ra sb rb) q⟩⟩
  · cases ew
theorem li_enum {B : Bs} {ra : RdA} : ∀ σ H Q, liI B (rdEnumI ra) σ H Q → iEnum B.K (liA B ra) σ H Q := by
  rintro σ H Q ⟨F, M, δ, QD, s, h, k⟩
  refine ⟨F, M, δ, _, s, h, fun vs ws F1 H1 M1 p1 r1 ⟨xs, e, q⟩ => ?_⟩
  subst e
  obtain ⟨v, rfl, rv⟩ := r1.one
  obtain ⟨a, us, rfl, sa, ra⟩ := RD.lstI rv
  exact ⟨a, us, rfl, SqL.of (p1.sub _ _ sa), k _ _ F1 H1 M1 p1 (walks_enum sa ra) q⟩
theorem li_rng {B : Bs} {ra : RdA} : ∀ σ H Q, liI B (rdRngI ra) σ H Q → iRng1 (liA B ra) σ H Q := by
  rintro σ H Q ⟨F, M, δ, QD, s, h, k⟩
  refine ⟨F, M, δ, _, s, h, fun vs ws F1 H1 M1 p1 r1 ⟨n, e, ⟨b1, b2⟩, q⟩ => ?_⟩
  subst e
  obtain ⟨v, rfl, rv⟩ := r1.one
  rw [RD.intI rv]
  exact ⟨n, rfl, b1, b2, k _ _ F1 H1 M1 p1 walks_rng q⟩
theorem li_keys {B : Bs} {ra : RdE} : ∀ σ H Q, liI B (rdKeysI ra) σ H Q → iKeysO B (liE B ra) σ H Q := by
  rintro σ H Q ⟨F, M, δ, QD, s, h, k⟩
  refine ⟨F, M, δ, _, s, h, fun v w F1 H1 M1 p1 r1 ⟨kvs, e, q⟩ => ?_⟩
  subst e
  obtain ⟨a, o, xs, rfl, ns, ha, he, de, rfl⟩ := r1
  refine ⟨a, o, xs.map dRow, rfl, ns, p1.sub _ _ ha, he, k _ _ F1 H1 M1 p1 (walks_keys ha de) ?_⟩
  unfold kvsOf at q
  rw [List.map_map] at q
  exact q
end Sh
namespace Sh
open PySem PySem.Spec PyProof.Rows L2
/-! ## the walked language -/
mutual
inductive Ex where
  | var (i : Nat)
  | lit (c : PyData)
  | glob (b : Bool)
  | bin (o : BO) (a b : Ex)
  | cmp (o : CO) (a b : Ex)
  | chn (o o' : CO) (a b c : Ex)
  | neg (a : Ex)
  | and_ (es : As) | or_ (es : As) | not_ (a : Ex)
  | ife (c : Te) (a b : Ex)
  | ix (a b : Ex)
  | sl (a : Ex) (lo hi : Oe)
  | tup (es : As) | lst (es : As) | box (es : As)
  | frz (i : Nat)
  | call (f : Nat) (es : As)
  | blt (b : BN) (es : As)
  | isi (a : Ex) (c : CT) | isi2 (a : Ex) (c c' : CT)
  | lc (e : Ex) (tg : Tg) (it : It') (c : Te) (vs : List Nat)
  | blx (b : BX) (es : As)
  | get (a x : Ex) | get2 (a x y : Ex)
  | new (m : Bool)
  | sd (o x : Ex)
  | dz (es : As)
  | cat (a b : Ex)
  | lor (a : Ex) (es : As)
  | call0 (f : Nat)
inductive Te where
  | yes
  | val (a : Ex)
  | cmp (o : CO) (a b : Ex)
  | and_ (ts : Ts) | or_ (ts : Ts) | not_ (t : Te)
inductive Ts where
  | nil | cons (t : Te) (r : Ts)
inductive As where
  | nil | cons (a : Ex) (r : As)
inductive Oe where
  | no | ye (a : Ex)
inductive It' where
  | seq (a : Ex)
  | zip (es : As) | enum (es : As) | rng (es : As) | keys (a : Ex)
end
inductive Sm where
  | asg (tg : Tg) (e : Ex)
  | par (i j : Nat) (a b : Ex)
  | par2 (i j : Nat) (a b : Ex)
  | ret (e : Ex)
  | ife (c : Te) (a b : List Sm)
  | for_ (tg : Tg) (it : It') (b : List Sm)
  | whl (c : Te) (b : List Sm)
  | app (o e : Ex) | ext (o e : Ex)
  | set (o i e : Ex)
  | put (o i e : Ex)
  | gho (i : Nat)
/-- a list of one's own, of two -/
def catO : O2 := fun w z M Q => ∃ xs ys, w = .d (.list xs) ∧ z = .d (.list ys) ∧ xs.length + ys.length ≤ 100000 ∧ ∀ a, M a = none → Q (.box a) (mset M a (.l (xs ++ ys)))
theorem br_cat {B : Bs} : Br2 B (boR B.K .add) catO := by
  intro F H M x y w z QD Q s m rx ry h k
  obtain ⟨xs, ys, rfl, rfl, hl, q⟩ := h
  obtain ⟨a, vs, rfl, sa, ra⟩ := RD.lstI rx
  obtain ⟨b, us, rfl, sb, rb⟩ := RD.lstI ry
  exact .inr (.inr ⟨a, b, vs, us, rfl, rfl, s _ _ sa, s _ _ sb, by rw [ra.length, rb.length]; exact small5 hl, k.box s m (ra.append rb) q⟩)
/-- list(a) or [..] -/
def rdLor (ra : RdE) (rA : RdA) : RdE := fun δ M Q => ra δ M fun w M1 => ∃ xs, seqOf w = some xs ∧ xs.length ≤ 100000 ∧ ∀ a, M1 a = none → if xs.isEmpty = false then Q (.box a) (mset M1 a (.l xs)) else rA δ (mset M1 a (.l [])) fun ws M2 => ∃ ds, datas ws = some ds ∧ ds.length ≤ 100000 ∧ ∀ b, M2 b = none → Q (.box b) (mset M2 b (.l ds))
def rLst (K : PySem.W.Frag) : List V → Hp → VK → Prop := fun xs H Q => ∃ p ys, xs = [.ref p] ∧ (SqL K H p ys ∨ SqT K H p ys) ∧ ∀ l, H l = none → Q (.ref l) (upd H l (.lst ys))
theorem le_lor {B : Bs} {ra : RdE} {rA : RdA} : ∀ σ H Q, liE B (rdLor ra rA) σ H Q → tOrT B.K (tCB (rLst B.K) (tCons (liE B ra) tNil)) (tLst (liA B rA)) σ H Q := by
  rintro σ H Q ⟨F, M, δ, QD, s, h, k⟩
  refine ⟨F, M, δ, _, s, h, fun v w F1 H1 M1 p1 r1 ⟨xs, e, hl, h1⟩ => ?_⟩
  obtain ⟨p, vs, rfl, hs, rd⟩ : ∃ p vs, v = .ref p ∧ (SqL B.K H1 p vs ∨ SqT B.K H1 p vs) ∧ RDs B.K F1 vs xs := by
    unfold seqOf at e
    split at e
    · cases e
      obtain ⟨a, vs, rfl, sa, rr⟩ := RD.lstI r1
      exact ⟨a, vs, rfl, .inl (SqL.of (p1.sub _ _ sa)), rr⟩
    · cases e
      obtain ⟨a, vs, rfl, sa, rr⟩ := RD.tupI r1
      exact ⟨a, vs, rfl, .inr (sqt_sub p1.sub sa), rr⟩
    · cases e
  refine ⟨p, vs, rfl, hs, fun l hl0 => ?_⟩
  have q := h1 l (p1.mok.free hl0)
  have p2 := Pst.newM (B := B) (x := .l xs) p1.sub p1.mok hl0 ⟨vs, upd_same, rd⟩
  refine ⟨!vs.isEmpty, .inl ⟨vs, SqL.of upd_same, rfl⟩, ?_⟩
  cases rd with
  | nil =>
    have q' : rA δ (mset M1 l (.l [])) _ := q
    exact ⟨_, _, δ, _, s.after (p1.trans p2), q', fun us ws F2 H2 M2 p3 r3 ⟨ds, e, hl, q⟩ => by
      have rd := RWs.datas r3 e
      refine ⟨small5 (by rw [rd.length]; exact hl), fun p hp => ?_⟩
      have p4 := Pst.newM (B := B) (x := .l ds) p3.sub p3.mok hp ⟨us, upd_same, rd⟩
      exact k (.ref p) (.box p) _ _ _ (((p1.trans p2).trans p3).trans p4) rfl (q p (p3.mok.free hp))⟩
  | cons r t => exact k (.ref l) (.box l) _ _ _ (p1.trans p2) rfl q
theorem ls_par2 {B : Bs} {i j : Nat} {ra : RdA} : ∀ D σ H, liS B (rdPar i j ra) D σ H → tAsg (tTup (liA B ra)) (gTup B.K 2 (gCons (gName i) (gCons (gName j) gNil))) D σ H := by
  rintro D σ H ⟨F, M, δ, DD, s, h, k⟩
  refine ⟨F, M, δ, _, s, h, fun vs ws F1 H1 M1 p1 r1 ⟨w, z, e, h1⟩ => ?_⟩
  subst e
  obtain ⟨v, u, rfl, rv, ru⟩ := r1.two
  refine ⟨by show 2 ≤ sizeLine; decide, fun p hp => ?_⟩
  have p2 := Pst.new (B := B) (o := .tup [v, u]) p1.sub p1.mok hp (p1.mok.free hp)
  exact ⟨p, [v, u], rfl, SqT.of upd_same, rfl, v, [u], rfl, u, [], rfl, rfl, k.nx _ _ _ _ M1 (p1.trans p2) (((s.after (p1.trans p2)).env.set (rv.mono p2.fz)).set (ru.mono p2.fz)) h1⟩
def rdGho0 (i : Nat) : RdS := fun DD δ M => ∃ a, δ[i]? = some (some (.box a)) ∧ ((∃ xs, M a = some (.l xs) ∧ DD.nx (δ.set i (some (.d (.list xs)))) (mdel M a)) ∨ (∃ kvs, M a = some (.m kvs) ∧ DD.nx (δ.set i (some (.dct kvs))) (mdel M a)) ∨
  ∃ (kvs : List (PyData × Addr)) (zs : List (List PyData)), M a = some (.g kvs) ∧ kvs.length = zs.length ∧ (∀ (j : Nat) (p : PyData × Addr) (z : List PyData), kvs[j]? = some p → zs[j]? = some z → M p.2 = some (.l z)) ∧ DD.nx (δ.set i (some (.dct ((kvs.map (·.1)).zip (zs.map .list))))) (mdels M (a :: kvs.map (·.2))))
/-! ## what it does -/
abbrev Fns := List (Str × DSp)
mutual
def ev (G : Fns) : Ex → RdE
  | .var i => rdVar i
  | .lit c => rdC c
  | .glob b => rdC (.tuple [.int (cond b 1 0), .int 1])
  | .bin o a b => rd2 (ev G a) (ev G b) (bo o)
  | .cmp o a b => rd2 (ev G a) (ev G b) (coO o)
  | .chn o o' a b c => rdChn (ev G a) (ev G b) (ev G c) o o'
  | .neg a => rd1 (ev G a) negO
  | .and_ es => evAnd G es
  | .or_ es => evOr G es
  | .not_ a => rdNotV (ev G a)
  | .ife c a b => rdIf (evT G c) (ev G a) (ev G b)
  | .ix a b => rd2 (ev G a) (ev G b) ixX
  | .sl a lo hi => rdSl (ev G a) (evO G lo) (evO G hi)
  | .tup es => rdTup (evA G es) 0
  | .lst es => rdLst (evA G es) 0
  | .box es => rdBox (evA G es) 0
  | .frz i => rdFrz i
  | .call f es => fun δ M Q => ∃ p, G[f]? = some p ∧ rdCall (evA G es) p.2 δ M Q
  | .blt b es => rdN (evA G es) (bn b)
  | .isi a c => rdIsi (ev G a) c
  | .isi2 a c c' => rdIsi2 (ev G a) c c'
  | .lc e tg it c vs => rdLc (evI G it) tg (evT G c) (ev G e) vs
  | .blx b es => rdN (evA G es) (bx b)
  | .get a x => rdGet (ev G a) (ev G x)
  | .get2 a x y => rdGet2 (ev G a) (ev G x) (ev G y)
  | .new m => rdNew m
  | .sd o x => rdSd (ev G o) (ev G x)
  | .dz es => rdDz (evA G es)
  | .cat a b => rd2 (ev G a) (ev G b) catO
  | .lor a es => rdLor (ev G a) (evA G es)
  | .call0 f => fun δ M Q => ∃ p, G[f]? = some p ∧ rdCall rdNil p.2 δ M Q
def evT (G : Fns) : Te → RdT
  | .yes => fun _ M Q => Q true M
  | .val a => rdB (ev G a)
  | .cmp o a b => rdB (rd2 (ev G a) (ev G b) (coO o))
  | .and_ ts => evTs G true ts
  | .or_ ts => evTs G false ts
  | .not_ t => rdNotT (evT G t)
def evTs (G : Fns) (b : Bool) : Ts → RdT
  | .nil => fun _ _ _ => False
  | .cons t .nil => evT G t
  | .cons t r => if b then rdAndT (evT G t) (evTs G b r) else rdOrT (evT G t) (evTs G b r)
def evA (G : Fns) : As → RdA
  | .nil => rdNil
  | .cons a r => rdCons (ev G a) (evA G r)
def evAnd (G : Fns) : As → RdE
  | .nil => fun _ _ _ => False
  | .cons a .nil => ev G a
  | .cons a r => rdAndV (ev G a) (evAnd G r)
def evOr (G : Fns) : As → RdE
  | .nil => fun _ _ _ => False
  | .cons a .nil => ev G a
  | .cons a r => rdOrV (ev G a) (evOr G r)
def evO (G : Fns) : Oe → RdO
  | .no => rdONone
  | .ye a => rdOSome (ev G a)
def evI (G : Fns) : It' → RdI
  | .seq a => rdSeqI (ev G a)
  | .zip es => rdZipI (evA G es)
  | .enum es => rdEnumI (evA G es)
  | .rng es => rdRngI (evA G es)
  | .keys a => rdKeysI (ev G a)
end
mutual
def evS (G : Fns) : Sm → RdS
  | .asg tg e => rdAsg (ev G e) tg
  | .par i j a b => rdPar i j (rdCons (ev G a) (rdCons (ev G b) rdNil))
  | .par2 i j a b => rdPar i j (rdCons (ev G a) (rdCons (ev G b) rdNil))
  | .ret e => rdRet (ev G e)
  | .ife c a b => rdIfS (evT G c) (evSs G a) (evSs G b)
  | .for_ tg it b => rdFor (evI G it) tg (evSs G b)
  | .whl c b => rdWhile (evT G c) (evSs G b)
  | .app o e => rdApp (ev G o) (ev G e)
  | .ext o e => rdExt (ev G o) (ev G e)
  | .set o i e => rdSet (ev G e) (ev G o) (ev G i)
  | .put o i e => rdPut (ev G e) (ev G o) (ev G i)
  | .gho i => rdGho0 i
def evSs (G : Fns) : List Sm → RdS
  | [] => rdNext
  | s :: r => rdSeq (evS G s) (evSs G r)
end
/-! ## is it the text -/
structure Pl where
  N : List Str
  sc : Scope
  tp : Bool
def okVis (p : Pl) (x : Str) : Bool := match p.sc.names.lookup x with
  | some .local => true
  | some .cell => true
  | some .free => true
  | _ => false
def okSto (p : Pl) (x : Str) : Bool := match p.sc.names.lookup x with
  | some .local => true
  | some .cell => p.tp
  | _ => false
def okGl (p : Pl) (x : Str) : Bool := decide (p.sc.names.lookup x = some .globalImplicit)
def okNm (x : Str) : Bool := !(x == ("__debug__" : Str)) && !(x == ("__classdict__" : Str))
def okVar (p : Pl) (i : Nat) (x : Str) : Bool := decide (p.N[i]? = some x) && (okVis p x && okNm x)
def okLit : PyData → Const → Bool
  | .none, .none => true
  | .bool a, .bool b => a == b
  | .int a, .int b => a == b
  | .str a, .str b => a == b
  | _, _ => false
def noStar : Expr → Bool
  | .Starred .. => false
  | _ => true
def plainT : Expr → Bool
  | .Name .. => true
  | .Call .. => true
  | .Subscript .. => true
  | _ => false
def isNm : Expr → Bool
  | .Name .. => true
  | _ => false
def noSlice : Expr → Bool
  | .Slice .. => false
  | .Tuple .. => false
  | _ => true
def noLc : Expr → Bool
  | .ListComp .. => false
  | .SetComp .. => false
  | .DictComp .. => false
  | _ => true
def noSet : Expr → Bool
  | .Set .. => false
  | _ => true
def okTg (p : Pl) : Tg → Expr → Bool
  | .nm i, e => (match e with
    | .Name x _ => decide (p.N[i]? = some x) && okSto p x
    | _ => false)
  | .tp ts, e => (match e with
    | .Tuple es _ _ => go ts es
    | _ => false)
where go : List Tg → List Expr → Bool
  | [], [] => true
  | t :: ts, e :: es => noStar e && (okTg p t e && go ts es)
  | _, _ => false
def isTup : Expr → Bool
  | .Tuple .. => true
  | _ => false
/-- a name or a call: what a method is asked of -/
def isNmC : Expr → Bool
  | .Name .. => true
  | .Call (.Attribute ..) .. => true
  | _ => false
/-- the block of a comprehension -/
def Pl.blk (p : Pl) (scope : Scope) : Pl := ⟨p.N, L2.relS scope p.sc, false⟩
def ownOf (N : List Str) (vs : List Nat) : List (Str × Nat) := vs.map fun i => (N.getD i "", i)
def allIn (a b : List Nat) : Bool := a.all fun i => b.contains i
mutual
def isE (G : Fns) (p : Pl) : Ex → Expr → Bool
  | .var i, e => (match e with
    | .Name x _ => okVar p i x
    | _ => false)
  | .lit c, e => (match e with
    | .Constant k _ _ => okLit c k
    | _ => false)
  | .glob b, e => (match e with
    | .Name y _ => decide (y = cond b "FULL" "NONE") && okGl p y
    | _ => false)
  | .bin o a b, e => (match e with
    | .BinOp l op r _ => decide (op = o.py) && (isE G p a l && isE G p b r)
    | _ => false)
  | .cmp o a b, e => (match e with
    | .Compare l [op] [r] _ => decide (op = o.py) && (isE G p a l && isE G p b r)
    | _ => false)
  | .chn o o' a b c, e => (match e with
    | .Compare l [op, op'] [m, r] _ => decide (op = o.py) && (decide (op' = o'.py) && (isE G p a l && (isE G p b m && isE G p c r)))
    | _ => false)
  | .neg a, e => (match e with
    | .UnaryOp op l _ => decide (op = .USub) && isE G p a l
    | _ => false)
  | .and_ es, e => (match e with
    | .BoolOp op ls _ => decide (op = .And) && isA G p es ls
    | _ => false)
  | .or_ es, e => (match e with
    | .BoolOp op ls _ => decide (op = .Or) && isA G p es ls
    | _ => false)
  | .not_ a, e => (match e with
    | .UnaryOp op l _ => decide (op = .Not) && isE G p a l
    | _ => false)
  | .ife c a b, e => (match e with
    | .IfExp t l r _ => isT G p c t && (isE G p a l && isE G p b r)
    | _ => false)
  | .ix a b, e => (match e with
    | .Subscript l r _ => noSlice r && (isE G p a l && isE G p b r)
    | _ => false)
  | .sl a lo hi, e => (match e with
    | .Subscript l (.Slice x y none _) _ => isE G p a l && (isO G p lo x && isO G p hi y)
    | _ => false)
  | .tup es, e => (match e with
    | .Tuple ls _ _ => isA G p es ls
    | _ => false)
  | .lst es, e => (match e with
    | .List ls _ => isA G p es ls
    | _ => false)
  | .box es, e => (match e with
    | .List ls _ => isA G p es ls
    | _ => false)
  | .frz i, e => (match e with
    | .Name x _ => okVar p i x
    | _ => false)
  | .call f es, e => (match e with
    | .Call (.Name x _) (l :: ls) [] _ => (match G[f]? with
      | some q => decide (q.1 = x)
      | none => false) && (okGl p x && (okNm x && isA G p es (l :: ls)))
    | _ => false)
  | .blt b es, e => (match e with
    | .Call (.Name x _) (l :: ls) [] _ => decide (b.name = x) && (okGl p x && isA G p es (l :: ls))
    | _ => false)
  | .isi a c, e => (match e with
    | .Call (.Name x _) [l, .Name y _] [] _ => decide (x = "isinstance") && (decide (y = c.py) && (okGl p x && (okGl p y && (noStar l && isE G p a l))))
    | _ => false)
  | .isi2 a c c', e => (match e with
    | .Call (.Name x _) [l, .Tuple [.Name y _, .Name z _] _ _] [] _ => decide (x = "isinstance") && (decide (y = c.py) && (decide (z = c'.py) && (okGl p x && (okGl p y && (okGl p z && (noStar l && isE G p a l))))))
    | _ => false)
  | .lc e' tg it c vs, e => (match e with
    | .ListComp elt [⟨t, i, cs, k⟩] scope _ => decide (k = 0) && (L2.blkC p.N p.sc scope (ownOf p.N vs) && (allIn tg.slots vs && (noSet i && (isI G p it t i && (okTg (p.blk scope) tg t && ((match cs with
        | [] => (match c with
          | .yes => true
          | _ => false)
        | [x] => isT G (p.blk scope) c x
        | _ => false) && isE G (p.blk scope) e' elt))))))
    | _ => false)
  | .blx b es, e => (match e with
    | .Call (.Name x _) (l :: ls) [] _ => decide (b.name = x) && (okGl p x && isA G p es (l :: ls))
    | _ => false)
  | .get a x, e => (match e with
    | .Call (.Attribute l m apos) [v] [] cpos => decide (m = "get") && ((apos.endLine == cpos.line) && (noStar v && (isNm l && (isE G p a l && isE G p x v))))
    | _ => false)
  | .get2 a x y, e => (match e with
    | .Call (.Attribute l m apos) [v, u] [] cpos => decide (m = "get") && ((apos.endLine == cpos.line) && (noStar v && (noStar u && (isNm l && (isE G p a l && (isE G p x v && isE G p y u))))))
    | _ => false)
  | .new _, e => (match e with
    | .Dict [] [] _ => true
    | _ => false)
  | .sd o x, e => (match e with
    | .Call (.Attribute l m apos) [v, .List [] _] [] cpos => decide (m = "setdefault") && ((apos.endLine == cpos.line) && (noStar v && (isNm l && (isE G p o l && isE G p x v))))
    | _ => false)
  | .dz es, e => (match e with
    | .Call (.Name x _) [.Call (.Name y _) [l, r] [] _] [] _ => decide (x = "dict") && (decide (y = "zip") && (okGl p x && (okGl p y && isA G p es [l, r])))
    | _ => false)
  | .cat a b, e => (match e with
    | .BinOp l op r _ => decide (op = .Add) && (isE G p a l && isE G p b r)
    | _ => false)
  | .lor a es, e => (match e with
    | .BoolOp op [.Call (.Name x _) [l] [] _, .List ls _] _ => decide (op = .Or) && (decide (x = "list") && (okGl p x && (noStar l && (isE G p a l && isA G p es ls))))
    | _ => false)
  | .call0 f, e => (match e with
    | .Call (.Name x _) [] [] _ => (match G[f]? with
      | some q => decide (q.1 = x)
      | none => false) && (okGl p x && okNm x)
    | _ => false)
def isT (G : Fns) (p : Pl) : Te → Expr → Bool
  | .yes, _ => false
  | .val a, e => plainT e && isE G p a e
  | .cmp o a b, e => (match e with
    | .Compare l [op] [r] _ => decide (op = o.py) && (isE G p a l && isE G p b r)
    | _ => false)
  | .and_ ts, e => (match e with
    | .BoolOp op ls _ => decide (op = .And) && isTs G p ts ls
    | _ => false)
  | .or_ ts, e => (match e with
    | .BoolOp op ls _ => decide (op = .Or) && isTs G p ts ls
    | _ => false)
  | .not_ t, e => (match e with
    | .UnaryOp op l _ => decide (op = .Not) && isT G p t l
    | _ => false)
def isTs (G : Fns) (p : Pl) : Ts → List Expr → Bool
  | .nil, l => (match l with
    | [] => true
    | _ => false)
  | .cons t r, l => (match l with
    | e :: es => isT G p t e && isTs G p r es
    | _ => false)
def isA (G : Fns) (p : Pl) : As → List Expr → Bool
  | .nil, l => (match l with
    | [] => true
    | _ => false)
  | .cons a r, l => (match l with
    | e :: es => noStar e && (isE G p a e && isA G p r es)
    | _ => false)
def isO (G : Fns) (p : Pl) : Oe → Option Expr → Bool
  | .no, o => (match o with
    | none => true
    | _ => false)
  | .ye a, o => (match o with
    | some e => isE G p a e
    | _ => false)
def isI (G : Fns) (p : Pl) : It' → Expr → Expr → Bool
  | .seq a, _, e => isE G p a e
  | .zip es, t, e => (match e with
    | .Call (.Name x _) [l, r] [] _ => decide (x = "zip") && (isTup t && (okGl p x && isA G p es [l, r]))
    | _ => false)
  | .enum es, t, e => (match e with
    | .Call (.Name x _) [l] [] _ => decide (x = "enumerate") && (isTup t && (okGl p x && isA G p es [l]))
    | _ => false)
  | .rng es, _, e => (match e with
    | .Call (.Name x _) [l] [] _ => decide (x = "range") && (okGl p x && isA G p es [l])
    | _ => false)
  | .keys a, _, e => isE G p a e
end
/-- a, b = x, y is stored without a tuple -/
def swaps (p : Pl) (ts vs : List Expr) : Bool := match ts, vs with
  | [.Name x px, .Name y py], [a, b] => decide (p.sc.names.lookup x = some .local) && (decide (p.sc.names.lookup y = some .local) && (!decide (x = y) && ((py.line == px.line) && (noStar a && (noStar b && (!(foldedForSure 8 a && foldedForSure 8 b) && !(constantsAlone 8 a && constantsAlone 8 b)))))))
  | _, _ => false
/-- it is stored by way of the tuple -/
def noSwaps (p : Pl) (tg e : Expr) : Bool := match tg, e with
  | .Tuple ts _ _, .Tuple vs _ _ => !(ts.length == 2 || ts.length == 3) || (vs.length != ts.length || (vs.all noStar && (vs.all (foldedForSure 8) || ts.any fun t => match t with
    | .Name x _ => !decide (p.sc.names.lookup x = some .local)
    | _ => true)))
  | .List .., .Tuple .. => false
  | _, _ => true
mutual
def isS (G : Fns) (p : Pl) : Sm → Stmt → Bool
  | .asg tg e, s => (match s with
    | .Assign [t] v pos => okTg p tg t && (isE G p e v && (noSwaps p t v && (match v with
      | .ListComp elt gs scope q => (match t with
        | .Name y py => (match p.sc.names.lookup y with
          | some .cell => true
          | some .local => py.line == q.line && !(scope.names.any fun (n, k) => n == y && (k == .local || k == .cell))
          | _ => false)
        | _ => false)
      | _ => noLc v)))
    | _ => false)
  | .par i j a b, s => (match s with
    | .Assign [.Tuple [.Name x px, .Name y py] k tp] (.Tuple [l, r] k' vp) _ => swaps p [.Name x px, .Name y py] [l, r] && (decide (p.N[i]? = some x) && (decide (p.N[j]? = some y) && (!decide (i = j) && (isE G p a l && isE G p b r))))
    | _ => false)
  | .par2 i j a b, s => (match s with
    | .Assign [.Tuple [.Name x px, .Name y py] k tp] (.Tuple [l, r] k' vp) _ => okTg p (.tp [.nm i, .nm j]) (.Tuple [.Name x px, .Name y py] k tp) && (noSwaps p (.Tuple [.Name x px, .Name y py] k tp) (.Tuple [l, r] k' vp) && (noStar l && (noStar r && (isE G p a l && isE G p b r))))
    | _ => false)
  | .ret e, s => (match s with
    | .Return (some v) _ => isE G p e v
    | _ => false)
  | .ife c a b, s => (match s with
    | .If t x y _ => isT G p c t && (isSs G p a x && isSs G p b y)
    | _ => false)
  | .for_ tg it b, s => (match s with
    | .For t i x [] _ => okTg p tg t && (noSet i && (isI G p it t i && isSs G p b x))
    | _ => false)
  | .whl c b, s => (match s with
    | .While t x [] _ => isT G p c t && isSs G p b x
    | _ => false)
  | .app o e, s => (match s with
    | .Expr (.Call (.Attribute l m apos) [v] [] cpos) _ => decide (m = "append") && ((apos.endLine == cpos.line) && (noStar v && (isNmC l && (isE G p o l && isE G p e v))))
    | _ => false)
  | .ext o e, s => (match s with
    | .Expr (.Call (.Attribute l m apos) [v] [] cpos) _ => decide (m = "extend") && ((apos.endLine == cpos.line) && (noStar v && (isNm l && (isE G p o l && isE G p e v))))
    | _ => false)
  | .set o i e, s => (match s with
    | .Assign [.Subscript l x _] v _ => noSlice x && (noLc v && (isE G p e v && (isE G p o l && isE G p i x)))
    | _ => false)
  | .put o i e, s => (match s with
    | .Assign [.Subscript l x _] v _ => noSlice x && (noLc v && (isE G p e v && (isE G p o l && isE G p i x)))
    | _ => false)
  | .gho _, _ => false
def isSs (G : Fns) (p : Pl) : List Sm → List Stmt → Bool
  | [], l => (match l with
    | [] => true
    | _ => false)
  | s :: r, l => (match s with
    | .gho _ => isSs G p r l
    | s => (match l with
      | t :: ts => isS G p s t && isSs G p r ts
      | _ => false))
end
end Sh
namespace Sh
open PySem PySem.Spec PyProof.Rows L2
/-! ## what stands around a def -/
structure Gb where
  P : Program
  w : World
  K : PySem.W.Frag
  mg : Str → Option Value
  base : Heap
abbrev Gb.B (g : Gb) : Bs := ⟨g.P, g.w, g.K⟩
/-- a def that keeps what it promises -/
structure FOk (g : Gb) (k : Nat) (x : Str) (sp : DSp) : Prop where
  ok : ∃ f fd ps, FnOk g.P g.w g.K g.mg g.base CX0 k f fd ps (lifS g.B sp) ∧ g.mg x = some (.ref f) ∧ PySem.W.keepIn g.K (.ref f) = true ∧ Binds g.K fd ps []
def blts : List Str := ["len", "abs", "int", "tuple", "list", "all", "sorted", "isinstance", "bool", "str", "set", "zip", "enumerate", "range", "dict"]
structure GOk (g : Gb) : Prop where
  free : ∀ x ∈ blts, g.mg x = none
  gcd : g.mg "gcd" = some (.builtin "math.gcd")
  zero : ∃ a, g.mg "NONE" = some (.ref a) ∧ ∀ F, RD g.K F (.ref a) (.tuple [.int 0, .int 1])
  one : ∃ a, g.mg "FULL" = some (.ref a) ∧ ∀ F, RD g.K F (.ref a) (.tuple [.int 1, .int 1])
structure FsOk (g : Gb) (k : Nat) (G : Fns) : Prop where
  ok : ∀ q ∈ G, FOk g k q.1 q.2
structure Good (g : Gb) (k : Nat) (G : Fns) (p : Pl) (X : Cx) : Prop where
  gk : GOk g
  fs : FsOk g k G
  calm : X.calm = true
  nd : X.N.Nodup
  N : X.N = p.N
  sc : X.env.scope = p.sc
  kind : p.sc.kind = .function
  fn : p.tp = true → ∀ x, X.fn x = true
  P : X.prog = g.P
  w : X.w = g.w
  K : X.K = g.K
  mg : X.mg = g.mg
  base : X.base = g.base
  room : Room k X.A
  xe : X.xe = fun _ _ => False
/-! ## small facts of the text -/
theorem plainIx_of : ∀ {e : Expr}, noSlice e = true → PlainIx e := by
  intro e h
  cases e <;> first | (intro o i; rfl) | cases h
theorem star_of : ∀ {e : Expr} {es : List Expr} {env : Env}, noStar e = true → starEach (e :: es) env = (false, eval e env) :: starEach es env := by
  intro e es env h
  cases e <;> first | rfl | cases h
theorem back_of {pos : Pos} {env : Env} : ∀ {es : List Expr}, es.all noStar = true → (backTo pos (starEach es env)).any (·.1) = false
  | [], _ => rfl
  | e :: es, h => by
    rw [List.all_cons, Bool.and_eq_true] at h
    rw [star_of h.1]
    show (false || (backTo pos (starEach es env)).any (·.1)) = false
    rw [back_of h.2]
    rfl
theorem plainT_of {e : Expr} {env : Env} (h : plainT e = true) : ∀ whole, isTrue e env whole = (do let v ← whole; standAt e.pos; holding [v] (truthy v)) := by
  intro whole
  cases e <;> first | rfl | cases h
theorem noSet_of {e : Expr} {env : Env} (h : noSet e = true) : ∀ x, foldedSetIterable e env x = pure x := by
  intro x
  cases e <;> first | rfl | cases h
theorem noLc_of {e : Expr} {t : Option Expr} {n : Nat} {env : Env} (h : noLc e = true) : swapsWith e t n env = pure false := by
  cases e <;> first | rfl | cases h
theorem ba {a b : Bool} (h : (a && b) = true) : a = true ∧ b = true := Bool.and_eq_true_iff.mp h
theorem okVis_of {p : Pl} {x : Str} (h : okVis p x = true) : Vis p.sc x := by
  unfold okVis at h
  split at h <;> first
    | exact .inl (by assumption)
    | exact .inr (.inl (by assumption))
    | exact .inr (.inr (by assumption))
    | cases h
theorem okNm_of {x : Str} (h : okNm x = true) : (x == ("__debug__" : Str)) = false ∧ (x == ("__classdict__" : Str)) = false := by
  obtain ⟨a, b⟩ := ba h
  exact ⟨by simpa using a, by simpa using b⟩
theorem okSto_of {g : Gb} {k : Nat} {G : Fns} {p : Pl} {X : Cx} (gd : Good g k G p X) {x : Str} (h : okSto p x = true) : Loc X.env.scope x ∧ (X.fn x = true ∨ X.env.scope.names.lookup x = some .local) := by
  rw [gd.sc]
  unfold okSto at h
  split at h
  · exact ⟨.inl (by assumption), .inr (by assumption)⟩
  · exact ⟨.inr (by assumption), .inl (gd.fn h x)⟩
  · cases h
theorem okGl_of {g : Gb} {k : Nat} {G : Fns} {p : Pl} {X : Cx} (gd : Good g k G p X) {x : Str} (h : okGl p x = true) : Gl X x := by
  show X.env.scope.names.lookup x = _
  rw [gd.sc]
  exact of_decide_eq_true h
section
variable {g : Gb} {k : Nat} {G : Fns} {p : Pl} {X : Cx}
theorem Good.bk (gd : Good g k G p X) : X.K = g.B.K := gd.K
theorem Good.hu (gd : Good g k G p X) : X.A.units + 64 < cLine := gd.room.units
theorem pe_at {x : Str} {i : Nat} {pos : Pos} (gd : Good g k G p X) (h : okVar p i x = true) : PE X (.Name x pos) (tVar i) := by
  obtain ⟨h1, h2⟩ := ba h
  obtain ⟨h3, h4⟩ := ba h2
  obtain ⟨n1, n2⟩ := okNm_of h4
  exact pe_var (by rw [gd.N]; exact of_decide_eq_true h1) (by rw [gd.sc]; exact okVis_of h3) n1 n2
mutual
theorem pg_of (gd : Good g k G p X) : ∀ (t : Tg) (e : Expr), okTg p t e = true → PG X e (tgV g.K t)
  | .nm i, e, h => by
    unfold okTg at h
    split at h
    · obtain ⟨h1, h2⟩ := ba h
      obtain ⟨l, f⟩ := okSto_of gd h2
      unfold tgV
      exact pg_name gd.nd (by rw [gd.N]; exact of_decide_eq_true h1) l f
    · cases h
  | .tp ts, e, h => by
    unfold okTg at h
    split at h
    · rename_i es kk pos
      obtain ⟨h1, h2, h3, h4⟩ := pgs_of gd ts es h
      unfold tgV
      rw [← gd.K, ← h4]
      rw [gd.K]
      have q := pg_tup (pos := pos) (k := kk) (n := es.length) gd.calm h1 (by rw [h2]) h3
      rw [gd.K] at q
      exact q
    · cases h
theorem pgs_of (gd : Good g k G p X) : ∀ (ts : List Tg) (es : List Expr), okTg.go p ts es = true → PGs X es (tgsV g.K ts) ∧ (assignEach es X.env).length = es.length ∧ (assignEach es X.env).findIdx? (·.1) = none ∧ es.length = ts.length
  | [], es, h => by
    cases es with
    | nil =>
      unfold tgsV
      exact ⟨pgs_nil, rfl, rfl, rfl⟩
    | cons e es => simp [okTg.go] at h
  | t :: ts, es, h => by
    cases es with
    | nil => simp [okTg.go] at h
    | cons e es =>
      unfold okTg.go at h
      obtain ⟨h1, h2⟩ := ba h
      obtain ⟨h3, h4⟩ := ba h2
      obtain ⟨q1, q2, q3, q4⟩ := pgs_of gd ts es h4
      have es1 : assignEach (e :: es) X.env = (false, assign e X.env) :: assignEach es X.env := by
        cases e <;> first | rfl | cases h1
      unfold tgsV
      refine ⟨pgs_cons (pg_of gd t e h3) q1 (by rw [es1]; rfl), by rw [es1, List.length_cons, q2, List.length_cons], ?_, by rw [List.length_cons, q4, List.length_cons]⟩
      rw [es1, List.findIdx?_cons]
      rw [q3]
      rfl
end
end
end Sh
set_option maxHeartbeats 1000000
namespace Sh
open PySem PySem.Spec PyProof.Rows L2
section
variable {g : Gb} {k : Nat} {G : Fns}
theorem all_star {p : Pl} : ∀ {a : As} {es : List Expr}, isA G p a es = true → es.all noStar = true
  | .nil, es, h => by
    unfold isA at h
    split at h
    · rfl
    · cases h
  | .cons a r, es, h => by
    unfold isA at h
    split at h
    · obtain ⟨h1, h2⟩ := ba h
      obtain ⟨_, h3⟩ := ba h2
      rw [List.all_cons, h1, all_star h3]
      rfl
    · cases h
theorem blk_good {p : Pl} {X : Cx} (gd : Good g k G p X) (scope : Scope) (ks : scope.kind = .function) (s : Shared) (H : Hp) (C : Addr) (cl : List (Str × Addr)) (fp : List Addr) : Good g k G (p.blk scope) (X.blk s H scope (compEnvC scope cl C X.env) fp) where
  gk := gd.gk
  fs := gd.fs
  calm := gd.calm
  nd := gd.nd
  N := gd.N
  sc := by
    show relabel scope X.env = L2.relS scope p.sc
    rw [← gd.sc]
    rfl
  kind := ks
  fn := fun h => nomatch h
  P := gd.P
  w := gd.w
  K := gd.K
  mg := gd.mg
  base := gd.base
  room := gd.room
  xe := rfl
theorem bnk {x : Str} (h : x ∈ blts) (gd : GOk g) : g.mg x = none := gd.free x h
theorem bn_name (b : BN) (hb : b ≠ .gcd) : b.name ∈ blts := by cases b <;> first | exact absurd rfl hb | (simp [BN.name, blts])
theorem ct_name (c : CT) : c.py ∈ blts := by cases c <;> simp [CT.py, blts]
theorem ct_boot (c : CT) : bootBuiltins c.py = some (.type c.nm) := by cases c <;> decide +kernel
theorem pe_ct {p : Pl} {X : Cx} {pos : Pos} (gd : Good g k G p X) (c : CT) (h : okGl p c.py = true) : PE X (.Name c.py pos) (tC (.ty c.nm)) :=
  pe_bltn (okGl_of gd h) (by rw [gd.mg]; exact bnk (ct_name c) gd.gk) (ct_boot c) rfl (by cases c <;> decide) (by cases c <;> decide)
theorem own_map (N : List Str) (vs : List Nat) : (ownOf N vs).map (·.2) = vs := by
  unfold ownOf
  rw [List.map_map]
  exact List.map_id' vs
theorem allIn_of {a b : List Nat} (h : allIn a b = true) : ∀ i ∈ a, i ∈ b := fun i hi => by
  have := List.all_eq_true.mp h i hi
  simpa using this
theorem isNm_base {o : Expr} {m : Str} {env : Env} (h : isNm o = true) : attributeBase o m env (eval o env) = eval o env := by
  cases o <;> first | rfl | cases h
theorem isNmC_base {o : Expr} {m : Str} {env : Env} (h : isNmC o = true) : attributeBase o m env (eval o env) = eval o env := by
  cases o with
  | Name => rfl
  | Call f as ks p => cases f <;> first | rfl | cases h
  | _ => cases h
theorem meth_few {e : Expr} {env : Env} {cpos : Pos} (h : noStar e = true) : ((backTo cpos (starEach [e] env)).all (fun x => !x.1) && (backToKw cpos (keywordEach [] env)).all (fun x => x.1.isSome)
      && decide ([e].length + ([] : List Keyword).length + (if ([] : List Keyword).isEmpty then 0 else 1) < 30)) = true := by
  rw [star_of h]
  rfl
theorem meth_tree {e : Expr} {env : Env} {cpos : Pos} (h : noStar e = true) : backTo cpos (starEach [e] env) = [(false, eval e env)] := by
  rw [star_of h]
  rfl
theorem meth_few2 {e f : Expr} {env : Env} {cpos : Pos} (h : noStar e = true) (h' : noStar f = true) : ((backTo cpos (starEach [e, f] env)).all (fun x => !x.1) && (backToKw cpos (keywordEach [] env)).all (fun x => x.1.isSome)
      && decide ([e, f].length + ([] : List Keyword).length + (if ([] : List Keyword).isEmpty then 0 else 1) < 30)) = true := by
  rw [star_of h, star_of h']
  rfl
theorem meth_tree2 {e f : Expr} {env : Env} {cpos : Pos} (h : noStar e = true) (h' : noStar f = true) : backTo cpos (starEach [e, f] env) = [(false, eval e env), (false, eval f env)] := by
  rw [star_of h, star_of h']
  rfl
theorem co_mark (o : CO) (e : Expr) : behindInMarks o.py e = false := nobehind e (by cases o <;> decide) (by cases o <;> decide)
mutual
theorem ok_E : ∀ (a : Ex) (p : Pl) (X : Cx) (e : Expr), Good g k G p X → isE G p a e = true → PE X e (liE g.B (ev G a))
  | .var i, p, X, e, gd, h => by
    unfold isE at h
    split at h
    · unfold ev
      exact PE.imp (pe_at gd h) le_var
    · cases h
  | .lit c, p, X, e, gd, h => by
    unfold isE at h
    split at h
    · unfold ev
      unfold okLit at h
      split at h
      · exact PE.imp pe_non (le_c fun F => .non)
      · rw [eq_of_beq h]
        exact PE.imp pe_bl (le_c fun F => .bl _)
      · rw [eq_of_beq h]
        exact PE.imp pe_int (le_c fun F => .int _)
      · rw [eq_of_beq h]
        exact PE.imp pe_str (le_c fun F => .str _)
      · cases h
    · cases h
  | .glob b, p, X, e, gd, h => by
    unfold isE at h
    split at h
    · obtain ⟨h1, h2⟩ := ba h
      unfold ev
      rw [of_decide_eq_true h1] at h2 ⊢
      cases b with
      | false =>
        obtain ⟨a, m, r⟩ := gd.gk.zero
        exact PE.imp (pe_glob (v := .ref a) (okGl_of gd h2) (by rw [gd.mg]; exact m) rfl (by decide)) (le_c r)
      | true =>
        obtain ⟨a, m, r⟩ := gd.gk.one
        exact PE.imp (pe_glob (v := .ref a) (okGl_of gd h2) (by rw [gd.mg]; exact m) rfl (by decide)) (le_c r)
    · cases h
  | .bin o a b, p, X, e, gd, h => by
    unfold isE at h
    split at h
    · obtain ⟨h1, h2⟩ := ba h
      obtain ⟨h3, h4⟩ := ba h2
      rw [of_decide_eq_true h1]
      unfold ev
      have q := fun pos => pe_op (pos := pos) (op_bo (X := X) o) (ok_E a p X _ gd h3) (ok_E b p X _ gd h4)
      rw [gd.K] at q
      exact PE.imp (q _) (li_2 (br_bo o))
    · cases h
  | .cmp o a b, p, X, e, gd, h => by
    unfold isE at h
    split at h
    · obtain ⟨h1, h2⟩ := ba h
      obtain ⟨h3, h4⟩ := ba h2
      rw [of_decide_eq_true h1]
      unfold ev
      have q := fun pos => pe_cmpR (pos := pos) (op_co gd.hu o) (ok_E a p X _ gd h3) (ok_E b p X _ gd h4) (co_mark o _)
      rw [gd.K] at q
      exact PE.imp (q _) (li_2 (br_co o))
    · cases h
  | .chn o o' a b c, p, X, e, gd, h => by
    unfold isE at h
    split at h
    · obtain ⟨h1, h2⟩ := ba h
      obtain ⟨h1', h2⟩ := ba h2
      obtain ⟨h3, h2⟩ := ba h2
      obtain ⟨h4, h5⟩ := ba h2
      rw [of_decide_eq_true h1, of_decide_eq_true h1']
      unfold ev
      have q := fun pos => pe_chain (pos := pos) (op_co gd.hu o) (op_co gd.hu o') (ok_E a p X _ gd h3) (ok_E b p X _ gd h4) (ok_E c p X _ gd h5) (co_mark o' _)
      rw [gd.K] at q
      exact PE.imp (q _) le_chn
    · cases h
  | .neg a, p, X, e, gd, h => by
    unfold isE at h
    split at h
    · obtain ⟨h1, h2⟩ := ba h
      rw [of_decide_eq_true h1]
      unfold ev
      exact PE.imp (pe_un un_neg (ok_E a p X _ gd h2)) (li_1 br_neg)
    · cases h
  | .and_ es, p, X, e, gd, h => by
    unfold isE at h
    split at h
    · obtain ⟨h1, h2⟩ := ba h
      rw [of_decide_eq_true h1]
      unfold ev
      exact ok_And es p X _ _ gd h2
    · cases h
  | .or_ es, p, X, e, gd, h => by
    unfold isE at h
    split at h
    · obtain ⟨h1, h2⟩ := ba h
      rw [of_decide_eq_true h1]
      unfold ev
      exact ok_Or es p X _ _ gd h2
    · cases h
  | .not_ a, p, X, e, gd, h => by
    unfold isE at h
    split at h
    · obtain ⟨h1, h2⟩ := ba h
      rw [of_decide_eq_true h1]
      unfold ev
      exact PE.imp (pe_not (ok_E a p X _ gd h2)) le_notV
    · cases h
  | .ife c a b, p, X, e, gd, h => by
    unfold isE at h
    split at h
    · obtain ⟨h1, h2⟩ := ba h
      obtain ⟨h3, h4⟩ := ba h2
      unfold ev
      exact PE.imp (pe_ifExp (ok_T c p X _ gd h1) (ok_E a p X _ gd h3) (ok_E b p X _ gd h4)) le_if
    · cases h
  | .ix a b, p, X, e, gd, h => by
    unfold isE at h
    split at h
    · obtain ⟨h1, h2⟩ := ba h
      obtain ⟨h3, h4⟩ := ba h2
      unfold ev
      have q := fun pos => pe_ix (pos := pos) ((ix_seq (X := X)).or (ix_dct (B := g.B) gd.hu gd.P gd.w gd.K)) (ok_E a p X _ gd h3) (ok_E b p X _ gd h4) (plainIx_of h1)
      rw [gd.K] at q
      exact PE.imp (q _) (li_2 br_ixX)
    · cases h
  | .sl a lo hi, p, X, e, gd, h => by
    unfold isE at h
    split at h
    · obtain ⟨h1, h2⟩ := ba h
      obtain ⟨h3, h4⟩ := ba h2
      unfold ev
      have q := fun pos p2 => pe_slice (pos := pos) (p2 := p2) (sl_both (X := X)) (ok_E a p X _ gd h1) (ok_O lo p X _ gd h3) (ok_O hi p X _ gd h4)
      rw [gd.K] at q
      exact PE.imp (q _ _) le_sl
    · cases h
  | .tup es, p, X, e, gd, h => by
    unfold isE at h
    split at h
    · unfold ev
      exact PE.imp (pe_tup (ok_A es p X _ gd h)) le_tup
    · cases h
  | .lst es, p, X, e, gd, h => by
    unfold isE at h
    split at h
    · unfold ev
      exact PE.imp (pe_lst (ok_A es p X _ gd h)) le_lst
    · cases h
  | .box es, p, X, e, gd, h => by
    unfold isE at h
    split at h
    · unfold ev
      exact PE.imp (pe_lst (ok_A es p X _ gd h)) le_box
    · cases h
  | .frz i, p, X, e, gd, h => by
    unfold isE at h
    split at h
    · unfold ev
      exact PE.imp (pe_at gd h) le_frz
    · cases h
  | .call f es, p, X, e, gd, h => by
    unfold isE at h
    split at h
    · obtain ⟨h1, h2⟩ := ba h
      obtain ⟨h3, h4⟩ := ba h2
      obtain ⟨h5, h6⟩ := ba h4
      cases e : G[f]? with
      | none => rw [e] at h1; cases h1
      | some q =>
        rw [e] at h1
        obtain ⟨f', fd, ps, F, m, kp, b⟩ := (gd.fs.ok q (List.mem_of_getElem? e)).ok
        rw [of_decide_eq_true h1] at m
        rw [← gd.P, ← gd.w, ← gd.K, ← gd.mg, ← gd.base] at F
        rw [← gd.mg] at m
        rw [← gd.K] at kp b
        have st := all_star h6
        rw [List.all_cons, Bool.and_eq_true] at st
        have pa := ok_A es p X _ gd h6
        have r := fun pos pos' => pe_call (p := pos) (pos := pos') F gd.room (okGl_of gd h3) m kp b (.nil : Vals [] []) pass0 pa (okNm_of h5).1 (star_of st.1) (back_of st.2)
        refine PE.imp (r _ _) ?_
        unfold ev
        rintro σ H Q ⟨F1, M1, δ, QD, s, ⟨q', e', hq⟩, kk⟩
        rw [e] at e'
        cases e'
        exact le_call σ H Q ⟨F1, M1, δ, QD, s, hq, kk⟩
    · cases h
  | .blt b es, p, X, e, gd, h => by
    unfold isE at h
    split at h
    · obtain ⟨h1, h2⟩ := ba h
      obtain ⟨h3, h4⟩ := ba h2
      have st := all_star h4
      rw [List.all_cons, Bool.and_eq_true] at st
      have pa := ok_A es p X _ gd h4
      have hx := of_decide_eq_true h1
      subst hx
      have hg := okGl_of gd h3
      unfold ev
      have cr := cr_bn gd.calm gd.hu b
      rw [gd.K] at cr
      refine PE.imp ?_ (li_N (br_bn b))
      cases b with
      | gcd => exact pe_callBfun cr hg (by rw [gd.mg]; exact gd.gk.gcd) pa (by decide) (star_of st.1) (back_of st.2)
      | int => exact pe_callTy cr hg (by rw [gd.mg]; exact bnk (bn_name _ (fun z => nomatch z)) gd.gk) (by decide +kernel) pa (by decide) (by decide) (star_of st.1) (back_of st.2)
      | tuple => exact pe_callTy cr hg (by rw [gd.mg]; exact bnk (bn_name _ (fun z => nomatch z)) gd.gk) (by decide +kernel) pa (by decide) (by decide) (star_of st.1) (back_of st.2)
      | list => exact pe_callTy cr hg (by rw [gd.mg]; exact bnk (bn_name _ (fun z => nomatch z)) gd.gk) (by decide +kernel) pa (by decide) (by decide) (star_of st.1) (back_of st.2)
      | len => exact pe_callB cr hg (by rw [gd.mg]; exact bnk (bn_name _ (fun z => nomatch z)) gd.gk) (by decide +kernel) pa (by decide) (by decide) (star_of st.1) (back_of st.2)
      | abs => exact pe_callB cr hg (by rw [gd.mg]; exact bnk (bn_name _ (fun z => nomatch z)) gd.gk) (by decide +kernel) pa (by decide) (by decide) (star_of st.1) (back_of st.2)
      | all => exact pe_callB cr hg (by rw [gd.mg]; exact bnk (bn_name _ (fun z => nomatch z)) gd.gk) (by decide +kernel) pa (by decide) (by decide) (star_of st.1) (back_of st.2)
      | sorted => exact pe_callB cr hg (by rw [gd.mg]; exact bnk (bn_name _ (fun z => nomatch z)) gd.gk) (by decide +kernel) pa (by decide) (by decide) (star_of st.1) (back_of st.2)
    · cases h
  | .isi a c, p, X, e, gd, h => by
    unfold isE at h
    split at h
    · obtain ⟨h1, h2⟩ := ba h
      obtain ⟨h3, h4⟩ := ba h2
      obtain ⟨h5, h6⟩ := ba h4
      obtain ⟨h7, h8⟩ := ba h6
      obtain ⟨s1, h9⟩ := ba h8
      rw [of_decide_eq_true h1] at h5 ⊢
      rw [of_decide_eq_true h3] at h7 ⊢
      unfold ev
      have q := fun pos pos' pos'' => pe_callB (p := pos) (pos := pos') (call_isi (X := X)) (okGl_of gd h5) (by rw [gd.mg]; exact bnk (by decide) gd.gk) (by decide +kernel) (pa_cons (ok_E a p X _ gd h9) (pa_cons (pe_ct (pos := pos'') gd c h7) pa_nil (star_of rfl)) (star_of s1)) (by decide) (by decide) (star_of s1) (back_of rfl)
      rw [gd.K] at q
      exact PE.imp (q _ _ _) le_isi
    · cases h
  | .isi2 a c c', p, X, e, gd, h => by
    unfold isE at h
    split at h
    · obtain ⟨h1, h2⟩ := ba h
      obtain ⟨h3, h4⟩ := ba h2
      obtain ⟨h3', h4⟩ := ba h4
      obtain ⟨h5, h6⟩ := ba h4
      obtain ⟨h7, h8⟩ := ba h6
      obtain ⟨h7', h8⟩ := ba h8
      obtain ⟨s1, h9⟩ := ba h8
      rw [of_decide_eq_true h1] at h5 ⊢
      rw [of_decide_eq_true h3] at h7 ⊢
      rw [of_decide_eq_true h3'] at h7' ⊢
      unfold ev
      have q := fun pos pos' pos'' pos3 kk pos4 => pe_callB (p := pos) (pos := pos') (call_isiT (X := X)) (okGl_of gd h5) (by rw [gd.mg]; exact bnk (by decide) gd.gk) (by decide +kernel) (pa_cons (ok_E a p X _ gd h9) (pa_cons (pe_tup (pos := pos4) (x1 := kk) (pa_cons (pe_ct (pos := pos'') gd c h7) (pa_cons (pe_ct (pos := pos3) gd c' h7') pa_nil (star_of rfl)) (star_of rfl))) pa_nil (star_of rfl)) (star_of s1)) (by decide) (by decide) (star_of s1) (back_of rfl)
      rw [gd.K] at q
      exact PE.imp (q _ _ _ _ _ _) le_isi2
    · cases h
  | .lc e' tg it c vs, p, X, e, gd, h => by
    unfold isE at h
    split at h
    · rename_i elt t i cs kk scope pos
      obtain ⟨h0, h⟩ := ba h
      obtain ⟨h1, h⟩ := ba h
      obtain ⟨h2, h⟩ := ba h
      obtain ⟨h3, h⟩ := ba h
      obtain ⟨h4, h⟩ := ba h
      obtain ⟨h5, h⟩ := ba h
      obtain ⟨h6, h7⟩ := ba h
      have ek := of_decide_eq_true h0
      subst ek
      have bo := blkOk_by h1
      have gb := fun s H C cl fp => blk_good gd scope bo.kind s H C cl fp
      have ok : BlkOk X.N X.env.scope scope (ownOf p.N vs) := by rw [gd.N, gd.sc]; exact bo
      unfold ev
      have q := pe_lc (pos := pos) (ifs := cs) (tt := liT g.B (evT G c)) (te := liE g.B (ev G e')) gd.calm gd.nd (ok_I it p X t i gd h4) ok (fun s H C cl fp => pg_of (gb s H C cl fp) tg t h5) (fun s H C cl fp => ?_) (fun s H C cl fp => ok_E e' _ _ _ (gb s H C cl fp) h7) (noSet_of h3)
      · rw [own_map] at q
        exact PE.imp q (le_lc (allIn_of h2))
      · split at h6
        · split at h6
          · refine ⟨fun pins s σ H Q I hq => pts_nil.run pins s σ H Q I ?_⟩
            obtain ⟨F, M, δ, QD, so, hh, kk⟩ := hq
            exact kk true F H M so.refl hh
          · cases h6
        · exact pts_one (ok_T c _ _ _ (gb s H C cl fp) h6)
        · cases h6
    · cases h
  | .blx b es, p, X, e, gd, h => by
    unfold isE at h
    split at h
    · obtain ⟨h1, h2⟩ := ba h
      obtain ⟨h3, h4⟩ := ba h2
      have st := all_star h4
      rw [List.all_cons, Bool.and_eq_true] at st
      have pa := ok_A es p X _ gd h4
      have hx := of_decide_eq_true h1
      subst hx
      have hg := okGl_of gd h3
      unfold ev
      have cr := cr_bx (B := g.B) gd.calm gd.hu gd.P gd.w gd.K b
      refine PE.imp ?_ (li_N (br_bx b))
      cases b with
      | set => exact pe_callTy cr hg (by rw [gd.mg]; exact bnk (by simp [BX.name, blts]) gd.gk) (by decide +kernel) pa (by decide) (by decide) (star_of st.1) (back_of st.2)
      | sorted => exact pe_callB cr hg (by rw [gd.mg]; exact bnk (by simp [BX.name, blts]) gd.gk) (by decide +kernel) pa (by decide) (by decide) (star_of st.1) (back_of st.2)
    · cases h
  | .get a x, p, X, e, gd, h => by
    unfold isE at h
    split at h
    · obtain ⟨h1, h⟩ := ba h
      obtain ⟨h2, h⟩ := ba h
      obtain ⟨h3, h⟩ := ba h
      obtain ⟨h4, h⟩ := ba h
      obtain ⟨h5, h6⟩ := ba h
      have em := of_decide_eq_true h1
      subst em
      unfold ev
      exact PE.imp (pe_getO (B := g.B) gd.hu gd.P gd.w gd.K (ok_E a p X _ gd h5) (ok_E x p X _ gd h6) ⟨isNm_base h4, meth_few h3, h2, meth_tree h3⟩) le_get
    · cases h
  | .get2 a x y, p, X, e, gd, h => by
    unfold isE at h
    split at h
    · obtain ⟨h1, h⟩ := ba h
      obtain ⟨h2, h⟩ := ba h
      obtain ⟨h3, h⟩ := ba h
      obtain ⟨h3', h⟩ := ba h
      obtain ⟨h4, h⟩ := ba h
      obtain ⟨h5, h⟩ := ba h
      obtain ⟨h6, h7⟩ := ba h
      have em := of_decide_eq_true h1
      subst em
      unfold ev
      exact PE.imp (pe_getO2 (B := g.B) gd.hu gd.P gd.w gd.K (ok_E a p X _ gd h5) (ok_E x p X _ gd h6) (ok_E y p X _ gd h7) ⟨isNm_base h4, meth_few2 h3 h3', h2, meth_tree2 h3 h3'⟩) le_get2
    · cases h
  | .new m, p, X, e, gd, h => by
    unfold isE at h
    split at h
    · unfold ev
      exact PE.imp (pe_newO (B := g.B) gd.P gd.w) le_new
    · cases h
  | .sd o x, p, X, e, gd, h => by
    unfold isE at h
    split at h
    · obtain ⟨h1, h⟩ := ba h
      obtain ⟨h2, h⟩ := ba h
      obtain ⟨h3, h⟩ := ba h
      obtain ⟨h4, h⟩ := ba h
      obtain ⟨h5, h6⟩ := ba h
      have em := of_decide_eq_true h1
      subst em
      unfold ev
      exact PE.imp (pe_sdO (B := g.B) gd.hu gd.P gd.w gd.K (ok_E o p X _ gd h5) (ok_E x p X _ gd h6) (pe_lst pa_nil) ⟨isNm_base h4, meth_few2 h3 rfl, h2, meth_tree2 h3 rfl⟩) le_sd
    · cases h
  | .dz es, p, X, e, gd, h => by
    unfold isE at h
    split at h
    · obtain ⟨h1, h⟩ := ba h
      obtain ⟨h2, h⟩ := ba h
      obtain ⟨h3, h⟩ := ba h
      obtain ⟨h4, h5⟩ := ba h
      have ex := of_decide_eq_true h1
      have ey := of_decide_eq_true h2
      subst ex ey
      have st := all_star h5
      rw [List.all_cons, Bool.and_eq_true] at st
      unfold ev
      exact PE.imp (pe_dzip (B := g.B) gd.calm gd.hu gd.P gd.w gd.K (okGl_of gd h3) (by rw [gd.mg]; exact bnk (by simp [blts]) gd.gk) (okGl_of gd h4) (by rw [gd.mg]; exact bnk (by simp [blts]) gd.gk) (ok_A es p X _ gd h5) (star_of st.1) (back_of st.2)) le_dz
    · cases h
  | .cat a b, p, X, e, gd, h => by
    unfold isE at h
    split at h
    · obtain ⟨h1, h2⟩ := ba h
      obtain ⟨h3, h4⟩ := ba h2
      rw [of_decide_eq_true h1]
      unfold ev
      have q := fun pos => pe_op (pos := pos) (op_bo (X := X) .add) (ok_E a p X _ gd h3) (ok_E b p X _ gd h4)
      rw [gd.K] at q
      exact PE.imp (q _) (li_2 br_cat)
    · cases h
  | .lor a es, p, X, e, gd, h => by
    unfold isE at h
    split at h
    · obtain ⟨h1, h⟩ := ba h
      obtain ⟨h2, h⟩ := ba h
      obtain ⟨h3, h⟩ := ba h
      obtain ⟨h4, h⟩ := ba h
      obtain ⟨h5, h6⟩ := ba h
      have ex := of_decide_eq_true h2
      subst ex
      rw [of_decide_eq_true h1]
      unfold ev
      have q := fun pos p1 p2 p3 => pe_orT (pos := pos) (pe_callTy (p := p1) (pos := p2) (call_list_of (X := X)) (okGl_of gd h3) (by rw [gd.mg]; exact bnk (by simp [blts]) gd.gk) (by decide +kernel) (pa_cons (ok_E a p X _ gd h5) pa_nil (star_of h4)) (by decide) (by decide) (star_of h4) rfl) (pe_one (pe_lst (pos := p3) (ok_A es p X _ gd h6)))
      rw [gd.K] at q
      exact PE.imp (q _ _ _ _) le_lor
    · cases h
  | .call0 f, p, X, e, gd, h => by
    unfold isE at h
    split at h
    · obtain ⟨h1, h2⟩ := ba h
      obtain ⟨h3, h5⟩ := ba h2
      cases e : G[f]? with
      | none => rw [e] at h1; cases h1
      | some q =>
        rw [e] at h1
        obtain ⟨f', fd, ps, F, m, kp, b⟩ := (gd.fs.ok q (List.mem_of_getElem? e)).ok
        rw [of_decide_eq_true h1] at m
        rw [← gd.P, ← gd.w, ← gd.K, ← gd.mg, ← gd.base] at F
        rw [← gd.mg] at m
        rw [← gd.K] at kp b
        have r := fun pos pos' => pe_call0 (p := pos) (pos := pos') F gd.room (okGl_of gd h3) m kp b (.nil : Vals [] []) pass0 (okNm_of h5).1
        refine PE.imp (r _ _) ?_
        unfold ev
        rintro σ H Q ⟨F1, M1, δ, QD, s, ⟨q', e', hq⟩, kk⟩
        rw [e] at e'
        cases e'
        exact ⟨F1, M1, [], QD, s.sub, s.mok, .nil, hq.1, hq.2, kk⟩
    · cases h
theorem ok_T : ∀ (t : Te) (p : Pl) (X : Cx) (e : Expr), Good g k G p X → isT G p t e = true → PT X e (liT g.B (evT G t))
  | .yes, p, X, e, gd, h => by
    unfold isT at h
    cases h
  | .val a, p, X, e, gd, h => by
    unfold isT at h
    obtain ⟨h1, h2⟩ := ba h
    unfold evT
    exact PT.imp (pt_val (ok_E a p X e gd h2) (plainT_of h1)) lt_B
  | .cmp o a b, p, X, e, gd, h => by
    unfold isT at h
    split at h
    · obtain ⟨h1, h2⟩ := ba h
      obtain ⟨h3, h4⟩ := ba h2
      rw [of_decide_eq_true h1]
      unfold evT
      have q := fun pos => pt_cmpR (pos := pos) (op_co gd.hu o) (ok_E a p X _ gd h3) (ok_E b p X _ gd h4) (co_mark o _)
      rw [gd.K] at q
      refine PT.imp (q _) ?_
      rintro σ H Q ⟨F, M, δ, QD, s, hh, kk⟩
      have z := lt_Test (B := g.B) (ra := rd2 (ev G a) (ev G b) (coO o)) σ H Q ⟨F, M, δ, QD, s, hh, kk⟩
      exact li_2 (br_co o) σ H _ z
    · cases h
  | .and_ ts, p, X, e, gd, h => by
    unfold isT at h
    split at h
    · obtain ⟨h1, h2⟩ := ba h
      rw [of_decide_eq_true h1]
      unfold evT
      exact (ok_TA ts p X _ _ gd h2).pt
    · cases h
  | .or_ ts, p, X, e, gd, h => by
    unfold isT at h
    split at h
    · obtain ⟨h1, h2⟩ := ba h
      rw [of_decide_eq_true h1]
      unfold evT
      exact (ok_TO ts p X _ _ gd h2).pt
    · cases h
  | .not_ t, p, X, e, gd, h => by
    unfold isT at h
    split at h
    · obtain ⟨h1, h2⟩ := ba h
      rw [of_decide_eq_true h1]
      unfold evT
      exact PT.imp (pt_not (ok_T t p X _ gd h2)) lt_not
    · cases h
theorem ok_TA : ∀ (ts : Ts) (p : Pl) (X : Cx) (es : List Expr) (pos : Pos), Good g k G p X → isTs G p ts es = true → PW X (.BoolOp .And es pos) (liT g.B (evTs G true ts))
  | .nil, p, X, es, pos, gd, h => by
    unfold evTs
    refine ⟨fun wh pins s σ H Q I hq => ?_⟩
    obtain ⟨_, _, _, _, _, hh, _⟩ := hq
    exact hh.elim
  | .cons t .nil, p, X, es, pos, gd, h => by
    unfold isTs at h
    split at h
    · obtain ⟨h1, h2⟩ := ba h
      unfold isTs at h2
      split at h2
      · unfold evTs
        exact pw_and1 (ok_T t p X _ gd h1)
      · cases h2
    · cases h
  | .cons t (.cons u r), p, X, es, pos, gd, h => by
    unfold isTs at h
    split at h
    · obtain ⟨h1, h2⟩ := ba h
      have ih := ok_TA (.cons u r) p X _ pos gd h2
      unfold isTs at h2
      split at h2
      · unfold evTs
        exact PW.imp (pw_and (ok_T t p X _ gd h1) ih) lt_and
      · cases h2
    · cases h
theorem ok_TO : ∀ (ts : Ts) (p : Pl) (X : Cx) (es : List Expr) (pos : Pos), Good g k G p X → isTs G p ts es = true → PW X (.BoolOp .Or es pos) (liT g.B (evTs G false ts))
  | .nil, p, X, es, pos, gd, h => by
    unfold evTs
    refine ⟨fun wh pins s σ H Q I hq => ?_⟩
    obtain ⟨_, _, _, _, _, hh, _⟩ := hq
    exact hh.elim
  | .cons t .nil, p, X, es, pos, gd, h => by
    unfold isTs at h
    split at h
    · obtain ⟨h1, h2⟩ := ba h
      unfold isTs at h2
      split at h2
      · unfold evTs
        exact pw_or1 (ok_T t p X _ gd h1)
      · cases h2
    · cases h
  | .cons t (.cons u r), p, X, es, pos, gd, h => by
    unfold isTs at h
    split at h
    · obtain ⟨h1, h2⟩ := ba h
      have ih := ok_TO (.cons u r) p X _ pos gd h2
      unfold isTs at h2
      split at h2
      · unfold evTs
        exact PW.imp (pw_or (ok_T t p X _ gd h1) ih) lt_or
      · cases h2
    · cases h
theorem ok_And : ∀ (a : As) (p : Pl) (X : Cx) (es : List Expr) (pos : Pos), Good g k G p X → isA G p a es = true → PE X (.BoolOp .And es pos) (liE g.B (evAnd G a))
  | .nil, p, X, es, pos, gd, h => by
    unfold evAnd
    refine ⟨fun pins s σ H Q I hq => ?_⟩
    obtain ⟨_, _, _, _, _, hh, _⟩ := hq
    exact hh.elim
  | .cons t .nil, p, X, es, pos, gd, h => by
    unfold isA at h
    split at h
    · obtain ⟨_, h⟩ := ba h
      obtain ⟨h1, h2⟩ := ba h
      unfold isA at h2
      split at h2
      · unfold evAnd
        exact pe_one (ok_E t p X _ gd h1)
      · cases h2
    · cases h
  | .cons t (.cons u r), p, X, es, pos, gd, h => by
    unfold isA at h
    split at h
    · obtain ⟨_, h⟩ := ba h
      obtain ⟨h1, h2⟩ := ba h
      have ih := ok_And (.cons u r) p X _ pos gd h2
      unfold isA at h2
      split at h2
      · unfold evAnd
        exact PE.imp (pe_and (ok_E t p X _ gd h1) ih) le_andV
      · cases h2
    · cases h
theorem ok_Or : ∀ (a : As) (p : Pl) (X : Cx) (es : List Expr) (pos : Pos), Good g k G p X → isA G p a es = true → PE X (.BoolOp .Or es pos) (liE g.B (evOr G a))
  | .nil, p, X, es, pos, gd, h => by
    unfold evOr
    refine ⟨fun pins s σ H Q I hq => ?_⟩
    obtain ⟨_, _, _, _, _, hh, _⟩ := hq
    exact hh.elim
  | .cons t .nil, p, X, es, pos, gd, h => by
    unfold isA at h
    split at h
    · obtain ⟨_, h⟩ := ba h
      obtain ⟨h1, h2⟩ := ba h
      unfold isA at h2
      split at h2
      · unfold evOr
        exact pe_one (ok_E t p X _ gd h1)
      · cases h2
    · cases h
  | .cons t (.cons u r), p, X, es, pos, gd, h => by
    unfold isA at h
    split at h
    · obtain ⟨_, h⟩ := ba h
      obtain ⟨h1, h2⟩ := ba h
      have ih := ok_Or (.cons u r) p X _ pos gd h2
      unfold isA at h2
      split at h2
      · unfold evOr
        exact PE.imp (pe_or (ok_E t p X _ gd h1) ih) le_orV
      · cases h2
    · cases h
theorem ok_A : ∀ (a : As) (p : Pl) (X : Cx) (es : List Expr), Good g k G p X → isA G p a es = true → PA X es (liA g.B (evA G a))
  | .nil, p, X, es, gd, h => by
    unfold isA at h
    split at h
    · unfold evA
      exact la_nil
    · cases h
  | .cons a r, p, X, es, gd, h => by
    unfold isA at h
    split at h
    · obtain ⟨h0, h⟩ := ba h
      obtain ⟨h1, h2⟩ := ba h
      unfold evA
      exact la_cons (ok_E a p X _ gd h1) (ok_A r p X _ gd h2) (star_of h0)
    · cases h
theorem ok_O : ∀ (a : Oe) (p : Pl) (X : Cx) (e : Option Expr), Good g k G p X → isO G p a e = true → PO X e (liO g.B (evO G a))
  | .no, p, X, e, gd, h => by
    unfold isO at h
    split at h
    · unfold evO
      exact lo_none
    · cases h
  | .ye a, p, X, e, gd, h => by
    unfold isO at h
    split at h
    · unfold evO
      exact lo_some (ok_E a p X _ gd h)
    · cases h
theorem ok_I : ∀ (a : It') (p : Pl) (X : Cx) (tg e : Expr), Good g k G p X → isI G p a tg e = true → PI X tg e (liI g.B (evI G a))
  | .seq a, p, X, tg, e, gd, h => by
    unfold isI at h
    unfold evI
    have q := pi_seq (X := X) (tg := tg) (ok_E a p X e gd h)
    rw [gd.K] at q
    exact PI.imp q li_seq
  | .zip es, p, X, tg, e, gd, h => by
    unfold isI at h
    split at h
    · obtain ⟨h1, h⟩ := ba h
      obtain ⟨h2, h⟩ := ba h
      obtain ⟨h3, h4⟩ := ba h
      have ex := of_decide_eq_true h1
      subst ex
      have st := all_star h4
      rw [List.all_cons, Bool.and_eq_true] at st
      unfold evI
      cases tg with
      | Tuple elts kk tpos =>
        have q := fun pos q2 => pi_zips (X := X) (elts := elts) (kk := kk) (tpos := tpos) (pos := pos) (p := q2) (okGl_of gd h3) (by rw [gd.mg]; exact bnk (by simp [blts]) gd.gk) (ok_A es p X _ gd h4) (star_of st.1) (back_of st.2)
        rw [gd.K] at q
        exact PI.imp (q _ _) li_zip
      | _ => cases h2
    · cases h
  | .enum es, p, X, tg, e, gd, h => by
    unfold isI at h
    split at h
    · obtain ⟨h1, h⟩ := ba h
      obtain ⟨h2, h⟩ := ba h
      obtain ⟨h3, h4⟩ := ba h
      have ex := of_decide_eq_true h1
      subst ex
      have st := all_star h4
      rw [List.all_cons, Bool.and_eq_true] at st
      unfold evI
      cases tg with
      | Tuple elts kk tpos =>
        have q := fun pos q2 => pi_enum (X := X) (elts := elts) (kk := kk) (tpos := tpos) (pos := pos) (p := q2) (okGl_of gd h3) (by rw [gd.mg]; exact bnk (by simp [blts]) gd.gk) (ok_A es p X _ gd h4) (star_of st.1)
        rw [gd.K] at q
        exact PI.imp (q _ _) li_enum
      | _ => cases h2
    · cases h
  | .rng es, p, X, tg, e, gd, h => by
    unfold isI at h
    split at h
    · obtain ⟨h1, h⟩ := ba h
      obtain ⟨h3, h4⟩ := ba h
      have ex := of_decide_eq_true h1
      subst ex
      have st := all_star h4
      rw [List.all_cons, Bool.and_eq_true] at st
      unfold evI
      exact PI.imp (pi_range1 (okGl_of gd h3) (by rw [gd.mg]; exact bnk (by simp [blts]) gd.gk) (ok_A es p X _ gd h4) (star_of st.1)) li_rng
    · cases h
  | .keys a, p, X, tg, e, gd, h => by
    unfold isI at h
    unfold evI
    exact PI.imp (pi_keysO (B := g.B) gd.P gd.w (ok_E a p X e gd h)) li_keys
end
end
end Sh
set_option maxHeartbeats 1000000
namespace Sh
open PySem PySem.Spec PyProof.Rows L2
section
variable {g : Gb} {k : Nat} {G : Fns} {p : Pl} {X : Cx}
theorem Good.bkind (gd : Good g k G p X) : X.env.blockKind = .function := by
  unfold Env.blockKind
  rw [gd.sc, gd.kind]
  rfl
theorem filterMap_lt {α β : Type} {f : α → Option β} : ∀ {l : List α}, (∃ x ∈ l, f x = none) → (l.filterMap f).length < l.length
  | [], ⟨_, h, _⟩ => by cases h
  | a :: l, ⟨x, hx, e⟩ => by
    rw [List.filterMap_cons]
    cases q : f a with
    | none => exact Nat.lt_succ_of_le (List.length_filterMap_le f l)
    | some b =>
      rcases List.mem_cons.mp hx with rfl | hx
      · rw [e] at q
        cases q
      · exact Nat.succ_lt_succ (filterMap_lt ⟨x, hx, e⟩)
theorem swapNone (gd : Good g k G p X) {t v : Expr} (h : noSwaps p t v = true) : swappedStores [t] v X.env = pure none := by
  unfold noSwaps at h
  split at h
  · rename_i ts k1 p1 vs k2 p2
    unfold swappedStores
    simp only [gd.bkind]
    by_cases hA : (!(ts.length == 2 || ts.length == 3) || vs.length != ts.length) = true
    · rw [if_pos (by rw [hA]; rfl)]
    · have hA2 : (!(ts.length == 2 || ts.length == 3) || vs.length != ts.length) = false := by
        cases q : (!(ts.length == 2 || ts.length == 3) || vs.length != ts.length) with
        | true => exact absurd q hA
        | false => rfl
      rw [← Bool.or_assoc, hA2, Bool.false_or] at h
      obtain ⟨hs, hc⟩ := ba h
      rw [if_neg (by rw [hA2]; decide)]
      split
      · rfl
      · rcases Bool.or_eq_true_iff.mp hc with hf | ha
        · split <;> first | rfl | (rw [if_pos hf]; rfl)
        · rw [if_pos]
          · refine Bool.or_eq_true_iff.mpr (.inl ?_)
            refine bne_iff_ne.mpr (Nat.ne_of_lt (filterMap_lt ?_))
            obtain ⟨x, hx, q⟩ := List.any_eq_true.mp ha
            refine ⟨x, hx, ?_⟩
            cases x <;> first | rfl | skip
            rename_i id pos
            have e : ¬ p.sc.names.lookup id = some .local := by simpa using q
            refine if_neg ?_
            intro z
            obtain ⟨z1, _⟩ := ba z
            have z2 : X.env.kindOf id = some .local := eq_of_beq z1
            rw [show X.env.kindOf id = X.env.scope.names.lookup id from rfl, gd.sc] at z2
            exact e z2
  · cases h
  · rename_i h1 h2
    cases t <;> first
      | rfl
      | (cases v <;> first | rfl | exact (h1 _ _ _ _ _ _ rfl rfl).elim | exact (h2 _ _ _ _ _ rfl rfl).elim)
theorem swapSome (gd : Good g k G p X) {x y : Str} {px py : Pos} {a b : Expr} {k1 k2 : Nat} {p1 p2 : Pos} (h : swaps p [.Name x px, .Name y py] [a, b] = true) :
    swappedStores [.Tuple [.Name x px, .Name y py] k1 p1] (.Tuple [a, b] k2 p2) X.env = pure (some [x, y]) := by
  obtain ⟨h1, h⟩ := ba h
  obtain ⟨h2, h⟩ := ba h
  obtain ⟨h3, h⟩ := ba h
  obtain ⟨h4, h⟩ := ba h
  obtain ⟨h5, h⟩ := ba h
  obtain ⟨h6, h⟩ := ba h
  obtain ⟨h7, h8⟩ := ba h
  have k1 : X.env.kindOf x = some .local := by
    show X.env.scope.names.lookup x = _
    rw [gd.sc]
    exact of_decide_eq_true h1
  have k2 : X.env.kindOf y = some .local := by
    show X.env.scope.names.lookup y = _
    rw [gd.sc]
    exact of_decide_eq_true h2
  have ne : x ≠ y := by simpa using h3
  have na : ∀ e : Expr, noStar e = true → (match e with | .Starred .. => true | _ => false) = false := by
    intro e h
    cases e <;> first | rfl | cases h
  have nb : ∀ {b : Bool}, (!b) = true → b = false := by
    intro b h
    cases b <;> first | rfl | cases h
  have f1 : (foldedForSure 8 a && foldedForSure 8 b) = false := nb h7
  have f2 : (constantsAlone 8 a && constantsAlone 8 b) = false := nb h8
  unfold swappedStores
  simp only [gd.bkind, List.length_cons, List.length_nil, List.any_cons, List.any_nil, List.head?_cons, Option.map_some, Option.getD_some, List.filterMap_cons, List.filterMap_nil, Expr.pos, k1, k2, List.all_cons, List.all_nil, Bool.and_true]
  rw [if_neg (by decide), if_neg (by
    intro z
    rcases Bool.or_eq_true_iff.mp z with z | z
    · exact Bool.false_ne_true ((na a h5).symm.trans z)
    · rcases Bool.or_eq_true_iff.mp z with z | z
      · exact Bool.false_ne_true ((na b h6).symm.trans z)
      · cases z)]
  have e1 : (some NameKind.local == some NameKind.local && px.line == px.line) = true := by simp
  have e2 : (some NameKind.local == some NameKind.local && py.line == px.line) = true := by rw [h4]; rfl
  simp only [e1, e2, if_true]
  have ed : ([x, y] : List Str).eraseDups.length = 2 := by
    rw [List.eraseDups_cons, List.filter_cons, if_pos (by simpa using fun e : y = x => ne e.symm), List.filter_nil, List.eraseDups_cons, List.filter_nil, List.eraseDups_nil]
    rfl
  rw [if_neg (by rw [ed]; exact Bool.false_ne_true), f1, if_neg (by decide), f2, if_neg (by decide)]
theorem noLc_sole {e t : Expr} {n : Nat} {env : Env} (h : noLc e = true) : swapsWithSole [t] e n env = pure false := by
  cases e <;> first | rfl | cases h
theorem sub_asg {o i : Expr} {pos : Pos} {env : Env} (h : noSlice i = true) : ∀ v, assign (.Subscript o i pos) env v = (do
      let ov ← holding [v] (eval o env)
      let iv ← holding [v, ov] (eval i env)
      standAt pos
      holding [v, ov, iv] (setItem ov iv v)
      release [v, ov, iv] []) := by
  intro v
  cases i <;> first | rfl | cases h
mutual
theorem ok_S : ∀ (a : Sm) (p : Pl) (X : Cx) (s : Stmt), Good g k G p X → isS G p a s = true → PS X s (liS g.B (evS G a))
  | .asg tg e, p, X, s, gd, h => by
    unfold isS at h
    split at h
    · rename_i t v pos
      obtain ⟨h1, h⟩ := ba h
      obtain ⟨h2, h⟩ := ba h
      obtain ⟨h3, h⟩ := ba h
      unfold evS
      have pe := ok_E e p X v gd h2
      have pg := pg_of gd tg t h1
      have one : (assignEach [t] X.env).map (·.2) = [assign t X.env] := by
        cases t <;> first | rfl | (cases tg <;> simp [okTg] at h1)
      split at h
      · rename_i elt gs scope q _ _ _
        split at h
        · rename_i y py _ _ _
          split at h
          · rename_i hl
            refine PS.imp (ps_asg pe pg ?_ (swapNone gd h3) one) ls_asg
            have ky : X.env.kindOf y = some .cell := by
              show X.env.scope.names.lookup y = _
              rw [gd.sc]
              exact hl
            show swapsWith (.ListComp elt gs scope q) (some (.Name y py)) pos.line X.env = pure false
            unfold swapsWith
            simp only [ky, gd.bkind]
            rfl
          · rename_i hl
            obtain ⟨h4, h5⟩ := ba h
            have lk : X.env.scope.names.lookup y = some .local := by
              rw [gd.sc]
              exact hl
            have nb : (scope.names.any fun (n, k) => n == y && (k == .local || k == .cell)) = false := by
              cases hb : (scope.names.any fun (n, k) => n == y && (k == .local || k == .cell)) with
              | false => rfl
              | true => rw [hb] at h5; cases h5
            have hsw := sw_true (elt := elt) (gs := gs) (scope := scope) (pos := q) (py := py) (y := y) (l := pos.line) (env := X.env) (by rw [gd.sc]; exact gd.kind) lk h4 nb
            -- the comprehension is stored within its own frame
            cases e with
            | lc e' tg' it c vs =>
              unfold isE at h2
              split at h2
              · rename_i elt2 t' i cs kk scope2 pos' heq
                cases heq
                obtain ⟨g0, gx⟩ := ba h2
                obtain ⟨g1, gx⟩ := ba gx
                obtain ⟨g2, gx⟩ := ba gx
                obtain ⟨g3, gx⟩ := ba gx
                obtain ⟨g4, gx⟩ := ba gx
                obtain ⟨g5, gx⟩ := ba gx
                obtain ⟨g6, g7⟩ := ba gx
                have ek := of_decide_eq_true g0
                subst ek
                have bo := blkOk_by g1
                have gb := fun s H C cl fp => blk_good gd scope bo.kind s H C cl fp
                have ok : BlkOk X.N X.env.scope scope (ownOf p.N vs) := by rw [gd.N, gd.sc]; exact bo
                cases tg with
                | tp ts => simp [okTg] at h1
                | nm j =>
                  unfold okTg at h1
                  obtain ⟨n1, n2⟩ := ba h1
                  have q := ps_setLc (spos := pos) (ifs := cs) (tt := liT g.B (evT G c)) (te := liE g.B (ev G e')) gd.calm gd.nd (by rw [gd.N]; exact of_decide_eq_true n1) lk hsw (ok_I it p X t' i gd g4) ok (fun s H C cl fp => pg_of (gb s H C cl fp) tg' t' g5) (fun s H C cl fp => ?_) (fun s H C cl fp => ok_E e' _ _ _ (gb s H C cl fp) g7) (noSet_of g3)
                  · rw [own_map] at q
                    refine PS.imp q ?_
                    rintro D σ H hh
                    have z := ls_asg (B := g.B) (ra := ev G (.lc e' tg' it c vs)) (tg := .nm j) D σ H hh
                    unfold ev at z
                    unfold tgV at z
                    exact le_lc (allIn_of g2) σ H _ z
                  · split at g6
                    · split at g6
                      · refine ⟨fun pins s σ H Q I hq => pts_nil.run pins s σ H Q I ?_⟩
                        obtain ⟨F, M, δ, QD, so, hh, kk⟩ := hq
                        exact kk true F H M so.refl hh
                      · cases g6
                    · exact pts_one (ok_T c _ _ _ (gb s H C cl fp) g6)
                    · cases g6
              · cases h2
            | _ => simp [isE] at h2
          · cases h
        · cases h
      · exact PS.imp (ps_asg pe pg (noLc_of h) (swapNone gd h3) one) ls_asg
    · cases h
  | .par i j a b, p, X, s, gd, h => by
    unfold isS at h
    split at h
    · obtain ⟨h1, h⟩ := ba h
      obtain ⟨h2, h⟩ := ba h
      obtain ⟨h3, h⟩ := ba h
      obtain ⟨h4, h⟩ := ba h
      obtain ⟨h5, h6⟩ := ba h
      have sw := h1
      obtain ⟨s1, z⟩ := ba h1
      obtain ⟨s2, z⟩ := ba z
      obtain ⟨s3, z⟩ := ba z
      obtain ⟨s4, z⟩ := ba z
      obtain ⟨s5, z⟩ := ba z
      obtain ⟨s6, z⟩ := ba z
      have pa : PA X _ (liA g.B (rdCons (ev G a) (rdCons (ev G b) rdNil))) := la_cons (ok_E a p X _ gd h5) (la_cons (ok_E b p X _ gd h6) la_nil (star_of s6)) (star_of s5)
      unfold evS
      have q := fun kt k2 pt pt2 pos px py => ps_par (kt := kt) (k2 := k2) (pt := pt) (pt2 := pt2) (pos := pos) (px := px) (py := py) gd.calm gd.nd (by rw [gd.N]; exact of_decide_eq_true h2) (by rw [gd.N]; exact of_decide_eq_true h3) (by simpa using h4) (by rw [gd.sc]; exact of_decide_eq_true s1) (by rw [gd.sc]; exact of_decide_eq_true s2) pa
      exact PS.imp (q _ _ _ _ _ _ _ (swapSome gd sw)) ls_par
    · cases h
  | .par2 i j a b, p, X, s, gd, h => by
    unfold isS at h
    split at h
    · obtain ⟨h1, h⟩ := ba h
      obtain ⟨h2, h⟩ := ba h
      obtain ⟨h3, h⟩ := ba h
      obtain ⟨h4, h⟩ := ba h
      obtain ⟨h5, h6⟩ := ba h
      have pa : PA X _ (liA g.B (rdCons (ev G a) (rdCons (ev G b) rdNil))) := la_cons (ok_E a p X _ gd h5) (la_cons (ok_E b p X _ gd h6) la_nil (star_of h4)) (star_of h3)
      have pg := pg_of gd (.tp [.nm i, .nm j]) _ h1
      unfold evS
      refine PS.imp (ps_asg (pe_tup pa) pg rfl (swapNone gd h2) rfl) ?_
      exact ls_par2
    · cases h
  | .ret e, p, X, s, gd, h => by
    unfold isS at h
    split at h
    · unfold evS
      exact PS.imp (ps_ret (ok_E e p X _ gd h)) ls_ret
    · cases h
  | .ife c a b, p, X, s, gd, h => by
    unfold isS at h
    split at h
    · obtain ⟨h1, h⟩ := ba h
      obtain ⟨h2, h3⟩ := ba h
      unfold evS
      exact PS.imp (ps_if (ok_T c p X _ gd h1) (ok_Ss a p X _ gd h2) (ok_Ss b p X _ gd h3)) ls_if
    · cases h
  | .for_ tg it b, p, X, s, gd, h => by
    unfold isS at h
    split at h
    · obtain ⟨h1, h⟩ := ba h
      obtain ⟨h2, h⟩ := ba h
      obtain ⟨h3, h4⟩ := ba h
      unfold evS
      exact PS.imp (ps_for (by rw [gd.xe]; exact PassesOwn.never) gd.calm (ok_I it p X _ _ gd h3) (pg_of gd tg _ h1) (ok_Ss b p X _ gd h4) (noSet_of h2)) ls_for
    · cases h
  | .whl c b, p, X, s, gd, h => by
    unfold isS at h
    split at h
    · obtain ⟨h1, h2⟩ := ba h
      unfold evS
      exact PS.imp (ps_while (by rw [gd.xe]; exact PassesOwn.never) (ok_T c p X _ gd h1) (ok_Ss b p X _ gd h2)) ls_while
    · cases h
  | .app o e, p, X, s, gd, h => by
    unfold isS at h
    split at h
    · obtain ⟨h1, h⟩ := ba h
      obtain ⟨h2, h⟩ := ba h
      obtain ⟨h3, h⟩ := ba h
      obtain ⟨h4, h⟩ := ba h
      obtain ⟨h5, h6⟩ := ba h
      have em := of_decide_eq_true h1
      subst em
      unfold evS
      have q := pe_bm PySem.F.plainAttrs_list PySem.F.slot_list_append PySem.F.type_list_append (mt_append (X := X)) (ok_E o p X _ gd h5) (pa_cons (ok_E e p X _ gd h6) pa_nil (star_of h3)) (isNmC_base h4) (meth_few h3) h2 (star_of h3) (back_of rfl)
      rw [gd.K] at q
      exact PS.imp (ps_expr q) ls_app
    · cases h
  | .ext o e, p, X, s, gd, h => by
    unfold isS at h
    split at h
    · obtain ⟨h1, h⟩ := ba h
      obtain ⟨h2, h⟩ := ba h
      obtain ⟨h3, h⟩ := ba h
      obtain ⟨h4, h⟩ := ba h
      obtain ⟨h5, h6⟩ := ba h
      have em := of_decide_eq_true h1
      subst em
      unfold evS
      have q := pe_bm PySem.F.plainAttrs_list PySem.F.slot_list_extend PySem.F.type_list_extend (mt_extend (X := X)) (ok_E o p X _ gd h5) (pa_cons (ok_E e p X _ gd h6) pa_nil (star_of h3)) (isNm_base h4) (meth_few h3) h2 (star_of h3) (back_of rfl)
      rw [gd.K] at q
      exact PS.imp (ps_expr q) ls_ext
    · cases h
  | .set o i e, p, X, s, gd, h => by
    unfold isS at h
    split at h
    · obtain ⟨h1, h⟩ := ba h
      obtain ⟨h2, h⟩ := ba h
      obtain ⟨h3, h⟩ := ba h
      obtain ⟨h4, h5⟩ := ba h
      unfold evS
      exact PS.imp (ps_asg (ok_E e p X _ gd h3) (pg_sub (ok_E o p X _ gd h4) (ok_E i p X _ gd h5) set_list (sub_asg h1)) (noLc_sole h2) rfl rfl) ls_set
    · cases h
  | .put o i e, p, X, s, gd, h => by
    unfold isS at h
    split at h
    · obtain ⟨h1, h⟩ := ba h
      obtain ⟨h2, h⟩ := ba h
      obtain ⟨h3, h⟩ := ba h
      obtain ⟨h4, h5⟩ := ba h
      unfold evS
      exact PS.imp (ps_putO (B := g.B) gd.hu gd.P gd.w gd.K (ok_E o p X _ gd h4) (ok_E i p X _ gd h5) (ok_E e p X _ gd h3) (noLc_of h2)) ls_putO
    · cases h
  | .gho i, p, X, s, gd, h => by
    unfold isS at h
    cases h
theorem ok_Ss : ∀ (a : List Sm) (p : Pl) (X : Cx) (s : List Stmt), Good g k G p X → isSs G p a s = true → PSs X s (liS g.B (evSs G a))
  | [], p, X, s, gd, h => by
    unfold isSs at h
    split at h
    · unfold evSs
      exact ls_nil
    · cases h
  | a :: r, p, X, s, gd, h => by
    unfold isSs at h
    split at h
    · unfold evSs evS
      exact ls_gho gd.P gd.w (ok_Ss r p X s gd h)
    · split at h
      · obtain ⟨h1, h2⟩ := ba h
        unfold evSs
        exact ls_cons (ok_S a p X _ gd h1) (ok_Ss r p X _ gd h2)
      · cases h
end
end
end Sh
set_option maxHeartbeats 1000000
namespace Sh
open PySem PySem.Spec PyProof.Rows L2
/-- the def x stands at the i-th place of the top -/
structure At (g : Gb) (x : Str) (i : Nat) : Prop where
  ex : ∃ f fd, FunD g.K x x (defArgs (top i)) (defBody (top i)) (defScope (top i)) [] [] f fd ∧ g.mg x = some (.ref f)
def startD (N : List Str) (ws : List W) : En := ws.map some ++ List.replicate (N.length - ws.length) none
theorem RWs.at_ {B : Bs} {F : Hp} : ∀ {vs : List V} {ws : List W} {i : Nat} {w : W}, RWs B F vs ws → ws[i]? = some w → ∃ v, vs[i]? = some v ∧ RW B F v w
  | _, _, 0, _, .cons r _, h => by cases h; exact ⟨_, rfl, r⟩
  | _, _, i + 1, w, .cons _ t, h => RWs.at_ (i := i) t (by simpa using h)
  | _, _, _, _, .nil, h => by simp at h
theorem start_ok {B : Bs} {F : Hp} {N : List Str} {vs : List V} {ws : List W} (r : RWs B F vs ws) : EOk B F (L2.start N vs) (startD N ws) := by
  have hl := r.length
  refine ⟨by unfold L2.start startD; simp [hl], fun i w h => ?_⟩
  unfold startD at h
  rw [List.getElem?_append] at h
  split at h
  · rename_i hi
    rw [List.length_map] at hi
    rw [List.getElem?_map] at h
    cases e : ws[i]? with
    | none => rw [e] at h; cases h
    | some z =>
      rw [e] at h
      cases h
      obtain ⟨v, hv, rv⟩ := r.at_ e
      refine ⟨v, ?_, rv⟩
      unfold L2.start
      rw [List.getElem?_append_left (by rw [List.length_map, hl]; exact hi), List.getElem?_map, hv]
      rfl
  · rw [List.getElem?_replicate] at h
    split at h <;> cases h
/-- how many levels a def may need -/
theorem FOk.mono {g : Gb} {j k : Nat} {x : Str} {sp : DSp} (h : FOk g j x sp) (hl : j ≤ k) : FOk g k x sp := by
  obtain ⟨f, fd, ps, F, m, kp, b⟩ := h.ok
  exact ⟨f, fd, ps, F.mono hl, m, kp, b⟩
/-- a def that is never called so -/
theorem FOk.dead {g : Gb} {x : Str} {i : Nat} {sp : DSp} (a : At g x i) (ps : List Str) (bd : ∀ (kV doc pm : Value) (an : Option Addr) (cdv ct : Value) (us : List Value), us.length = ps.length → bindArgs (PySem.W.fnOf x x (defArgs (top i)) (defBody (top i)) (defScope (top i)) .none kV doc pm an cdv ct) ⟨us, []⟩ = pure (ps.zip us))
    (no : ∀ ws M Q, ¬ sp.run ws M Q) : FOk g 0 x sp := by
  obtain ⟨f, fd, F, m⟩ := a.ex
  exact ⟨f, fd, ps, ⟨fun vs H Q E h => let ⟨_, _, _, _, _, _, _, _, q, _⟩ := h; (no _ _ _ q).elim, fun A outer s H args us vs Q E _ _ _ _ h => let ⟨_, _, _, _, _, _, _, _, q, _⟩ := h; (no _ _ _ q).elim⟩, m, F.kp, F.bindsN bd⟩
/-- THE RULE: a def whose text is the walked one keeps what the walk shows -/
theorem FOk.of {g : Gb} {k : Nat} {G : Fns} {x : Str} {i : Nat} {N ps : List Str} {sp : DSp} (body : List Sm) (a : At g x i) (gk : GOk g) (fs : FsOk g k G) (S : FnScope N ps (defScope (top i)))
    (bd : ∀ (kV doc pm : Value) (an : Option Addr) (cdv ct : Value) (us : List Value), us.length = ps.length → bindArgs (PySem.W.fnOf x x (defArgs (top i)) (defBody (top i)) (defScope (top i)) .none kV doc pm an cdv ct) ⟨us, []⟩ = pure (ps.zip us))
    (hn : sp.n = ps.length) (ht : isSs G ⟨N, defScope (top i), true⟩ body (defBody (top i)) = true)
    (law : ∀ (ws : List W) (M : MM) (Q : WK), sp.run ws M Q → evSs G body { nx := fun _ M' => Q (.d .none) M', rt := Q } (startD N ws) M) : FOk g (k + 1) x sp := by
  obtain ⟨f, fd, F, m⟩ := a.ex
  refine ⟨f, fd, ps, F.ok S (fun vs H Q E h => ?_) (fun cdv A outer s H vs Q E hr h => ?_), m, F.kp, F.bindsN bd⟩
  · obtain ⟨F0, M, ws, QD, _, _, r, hl, _⟩ := h
    rw [r.length, hl, hn]
  · obtain ⟨F0, M, ws, QD, sub, mok, r, hl, hs, kk⟩ := h
    refine ⟨liS g.B (evSs G body), PSs.nox (ok_Ss (g := g) (k := k) body ⟨N, defScope (top i), true⟩ _ _ ?_ ht), ?_⟩
    · exact { gk := gk, fs := fs, calm := rfl, nd := S.nd, N := rfl, sc := rfl, kind := S.kind, fn := fun _ _ => rfl, P := rfl, w := rfl, K := rfl, mg := rfl, base := rfl, room := hr, xe := rfl }
    · refine ⟨F0, M, startD N ws, { nx := fun _ M' => QD (.d .none) M', rt := QD }, ⟨sub, mok, start_ok r⟩, law ws M QD hs, ?_⟩
      exact ⟨fun σ' δ' F' H' M' p e q => kk .non (.d .none) F' H' M' p RD.non q, kk, fun _ _ _ _ _ _ _ q => q.elim, fun _ _ _ _ _ _ _ q => q.elim⟩
end Sh
set_option maxHeartbeats 1000000
namespace Sh
open PySem PySem.Spec PyProof.Rows L2
/-! ## one step of a walk -/
def rdFn (G : Fns) (f : Nat) (ra : RdA) : RdE := fun δ M Q => ∃ p, G[f]? = some p ∧ rdCall ra p.2 δ M Q
theorem ev_call (G : Fns) (f : Nat) (es : As) : ev G (.call f es) = rdFn G f (evA G es) := by unfold ev rdFn; rfl
section
variable {δ δ' : En} {M : MM} {Q : WK} {QB : Bool → MM → Prop} {QA : List W → MM → Prop} {QO : Option Int → MM → Prop} {ra rb rc : RdE} {rA : RdA} {rt ru : RdT} {w z : W} {i : Nat} {r1 r2 : RdS} {DD : EndsD} {tg : Tg}
theorem sVar (h : δ[i]? = some (some w)) (q : Q w M) : rdVar i δ M Q := ⟨w, h, q⟩
theorem sC {x : PyData} (q : Q (.d x) M) : rdC x δ M Q := q
theorem s2 {o : O2} (q : ra δ M fun w M1 => rb δ M1 fun z M2 => o w z M2 Q) : rd2 ra rb o δ M Q := q
theorem s1 {o : O1} (q : ra δ M fun w M1 => o w M1 Q) : rd1 ra o δ M Q := q
theorem sN {o : ON} (q : rA δ M fun ws M1 => o ws M1 Q) : rdN rA o δ M Q := q
theorem sNil (q : QA [] M) : rdNil δ M QA := q
theorem sCons (q : ra δ M fun w M1 => rA δ M1 fun ws M2 => QA (w :: ws) M2) : rdCons ra rA δ M QA := q
theorem sTup {n : Nat} (q : rA δ M fun ws M1 => ∃ ds, datas ws = some ds ∧ ds.length ≤ 100000 ∧ Q (.d (.tuple ds)) M1) : rdTup rA n δ M Q := q
theorem sLst {n : Nat} (q : rA δ M fun ws M1 => ∃ ds, datas ws = some ds ∧ ds.length ≤ 100000 ∧ Q (.d (.list ds)) M1) : rdLst rA n δ M Q := q
theorem sBox {n : Nat} (q : rA δ M fun ws M1 => ∃ ds, datas ws = some ds ∧ ds.length ≤ 100000 ∧ ∀ a, M1 a = none → Q (.box a) (mset M1 a (.l ds))) : rdBox rA n δ M Q := q
theorem sB (q : ra δ M fun w M1 => ∃ b, w = .d (.bool b) ∧ QB b M1) : rdB ra δ M QB := q
theorem sAsg (q : ra δ M fun w M1 => ∃ δ', bindD tg w δ = some δ' ∧ DD.nx δ' M1) : rdAsg ra tg DD δ M := q
theorem sRet (q : ra δ M DD.rt) : rdRet ra DD δ M := q
theorem sSeq (q : r1 { DD with nx := r2 DD } δ M) : rdSeq r1 r2 DD δ M := q
theorem sNext (q : DD.nx δ M) : rdNext DD δ M := q
theorem sIfS (q : rt δ M fun b M1 => if b = true then r1 DD δ M1 else r2 DD δ M1) : rdIfS rt r1 r2 DD δ M := q
theorem sIf (q : rt δ M fun b M1 => if b = true then ra δ M1 Q else rb δ M1 Q) : rdIf rt ra rb δ M Q := q
theorem sAndT (q : rt δ M fun b M1 => if b = true then ru δ M1 QB else QB false M1) : rdAndT rt ru δ M QB := q
theorem sOrT (q : rt δ M fun b M1 => if b = true then QB true M1 else ru δ M1 QB) : rdOrT rt ru δ M QB := q
theorem sNotT (q : rt δ M fun b M1 => QB (!b) M1) : rdNotT rt δ M QB := q
theorem sAndV (q : ra δ M fun w M1 => ∃ b, w = .d (.bool b) ∧ if b = true then rb δ M1 Q else Q (.d (.bool false)) M1) : rdAndV ra rb δ M Q := q
theorem sOrV (q : ra δ M fun w M1 => ∃ b, w = .d (.bool b) ∧ if b = true then Q (.d (.bool true)) M1 else rb δ M1 Q) : rdOrV ra rb δ M Q := q
theorem sNotV (q : ra δ M fun w M1 => ∃ b, w = .d (.bool b) ∧ Q (.d (.bool (!b))) M1) : rdNotV ra δ M Q := q
theorem sPar {j : Nat} (q : rA δ M fun ws M1 => ∃ w z, ws = [w, z] ∧ DD.nx ((δ.set i (some w)).set j (some z)) M1) : rdPar i j rA DD δ M := q
theorem sFn {G : Fns} {f : Nat} {p : Str × DSp} (h : G[f]? = some p) (q : rA δ M fun ws M1 => ws.length = p.2.n ∧ p.2.run ws M1 Q) : rdFn G f rA δ M Q := ⟨p, h, q⟩
theorem sFnE {G : Fns} {f : Nat} {p : Str × DSp} (h : G[f]? = some p) (q : rA δ M fun ws M1 => ws.length = p.2.n ∧ p.2.run ws M1 Q) : ∃ p, G[f]? = some p ∧ rdCall rA p.2 δ M Q := ⟨p, h, q⟩
theorem sIsi {c : CT} (q : ra δ M fun w M1 => ∃ d, w = .d d ∧ Q (.d (.bool (isC c d))) M1) : rdIsi ra c δ M Q := q
theorem sIsi2 {c c' : CT} (q : ra δ M fun w M1 => ∃ d, w = .d d ∧ Q (.d (.bool (isC c d || isC c' d))) M1) : rdIsi2 ra c c' δ M Q := q
theorem sSl {rl rh : RdO} (q : ra δ M fun w M1 => rl δ M1 fun l M2 => rh δ M2 fun h M3 => slO w l h M3 Q) : rdSl ra rl rh δ M Q := q
theorem sONone (q : QO none M) : rdONone δ M QO := q
theorem sOSome (q : ra δ M fun w M1 => ∃ i, w = .d (.int i) ∧ QO (some i) M1) : rdOSome ra δ M QO := q
theorem sChn {o o' : CO} (q : ra δ M fun w M1 => rb δ M1 fun z M2 => co o w z fun b => if b = true then rc δ M2 fun u M3 => co o' z u fun b' => Q (.d (.bool b')) M3 else Q (.d (.bool false)) M2) : rdChn ra rb rc o o' δ M Q := q
theorem sFrz {a : Addr} {xs : List PyData} (h : δ[i]? = some (some (.box a))) (hm : M a = some (.l xs)) (q : Q (.d (.list xs)) (mdel M a)) : rdFrz i δ M Q := ⟨a, xs, h, hm, q⟩
theorem sYes (q : QB true M) : (fun (_ : En) M (Q : Bool → MM → Prop) => Q true M) δ M QB := q
/-! operations on data -/
variable {a b : Int} {xs ys : List PyData} {x y : PyData}
theorem oAdd (q : Q (.d (.int (a + b))) M) : bo .add (.d (.int a)) (.d (.int b)) M Q := q
theorem oSub (q : Q (.d (.int (a - b))) M) : bo .sub (.d (.int a)) (.d (.int b)) M Q := q
theorem oMul (h : MulOk a b) (q : Q (.d (.int (a * b))) M) : bo .mul (.d (.int a)) (.d (.int b)) M Q := ⟨h, q⟩
theorem oDiv (h : DivOk b) (q : Q (.d (.int (a.fdiv b))) M) : bo .fdiv (.d (.int a)) (.d (.int b)) M Q := ⟨h, q⟩
theorem oMod (h : b ≠ 0) (q : Q (.d (.int (a.fmod b))) M) : bo .mod (.d (.int a)) (.d (.int b)) M Q := ⟨h, q⟩
theorem oCatT (h : xs.length + ys.length ≤ 100000) (q : Q (.d (.tuple (xs ++ ys))) M) : bo .add (.d (.tuple xs)) (.d (.tuple ys)) M Q := ⟨h, q⟩
theorem oCatL (h : xs.length + ys.length ≤ 100000) (q : Q (.d (.list (xs ++ ys))) M) : bo .add (.d (.list xs)) (.d (.list ys)) M Q := ⟨h, q⟩
theorem oNeg (q : Q (.d (.int (-a))) M) : negO (.d (.int a)) M Q := q
theorem oCmp {o : CO} (q : co o w z fun b => Q (.d (.bool b)) M) : coO o w z M Q := q
variable {P : Bool → Prop}
theorem cLt (q : P (decide (a < b))) : co .lt (.d (.int a)) (.d (.int b)) P := q
theorem cLe (q : P (decide (a ≤ b))) : co .le (.d (.int a)) (.d (.int b)) P := q
theorem cGt (q : P (decide (b < a))) : co .gt (.d (.int a)) (.d (.int b)) P := q
theorem cGe (q : P (decide (b ≤ a))) : co .ge (.d (.int a)) (.d (.int b)) P := q
theorem cIsN {o : CO} (q : P (isNone w)) : co .isN w (.d .none) P := q
theorem cNotN (q : P (!isNone w)) : co .notN w (.d .none) P := q
theorem cIsB {u v : Bool} (q : P (decide (u = v))) : co .isB (.d (.bool u)) (.d (.bool v)) P := q
theorem cEq (h : lev 30 x ∧ lev 30 y) (q : P (PyData.eqv x y)) : co .eq (.d x) (.d y) P := ⟨h, q⟩
theorem cNe (h : lev 30 x ∧ lev 30 y) (q : P (!PyData.eqv x y)) : co .ne (.d x) (.d y) P := ⟨h, q⟩
theorem cEqI (q : P (decide (a = b))) : co .eq (.d (.int a)) (.d (.int b)) P := ⟨⟨trivial, trivial⟩, by
  show P (a == b)
  rw [Bool.beq_eq_decide_eq]
  exact q⟩
theorem cNeI (q : P (!decide (a = b))) : co .ne (.d (.int a)) (.d (.int b)) P := ⟨⟨trivial, trivial⟩, by
  show P (!(a == b))
  rw [Bool.beq_eq_decide_eq]
  exact q⟩
theorem cEqS {s t : Str} (h : s.cps.all (· < 0x110000) = true ∧ t.cps.all (· < 0x110000) = true) (q : P (decide (s = t))) : co .eq (.d (.str s)) (.d (.str t)) P := ⟨h, by
  show P (s == t)
  rw [Bool.beq_eq_decide_eq]
  exact q⟩
theorem cNeS {s t : Str} (h : s.cps.all (· < 0x110000) = true ∧ t.cps.all (· < 0x110000) = true) (q : P (!decide (s = t))) : co .ne (.d (.str s)) (.d (.str t)) P := ⟨h, by
  show P (!(s == t))
  rw [Bool.beq_eq_decide_eq]
  exact q⟩
theorem oIxT (h : atI xs a = some x) (q : Q (.d x) M) : ixX (.d (.tuple xs)) (.d (.int a)) M Q := ⟨x, h, q⟩
theorem oIxL (h : atI xs a = some x) (q : Q (.d x) M) : ixX (.d (.list xs)) (.d (.int a)) M Q := ⟨x, h, q⟩
theorem oSlT {lo hi : Option Int} (q : Q (.d (.tuple (cutD xs lo hi))) M) : slO (.d (.tuple xs)) lo hi M Q := q
theorem oSlL {lo hi : Option Int} (q : Q (.d (.list (cutD xs lo hi))) M) : slO (.d (.list xs)) lo hi M Q := q
theorem oLenT (q : Q (.d (.int (xs.length : Int))) M) : bn .len [.d (.tuple xs)] M Q := q
theorem oLenL (q : Q (.d (.int (xs.length : Int))) M) : bn .len [.d (.list xs)] M Q := q
theorem oAbs (q : Q (.d (.int (a.natAbs : Int))) M) : bn .abs [.d (.int a)] M Q := q
theorem oInt (q : Q (.d (.int a)) M) : bn .int [.d (.int a)] M Q := q
theorem oIntB {u : Bool} (q : Q (.d (.int (if u then 1 else 0))) M) : bn .int [.d (.bool u)] M Q := q
theorem oGcd (q : Q (.d (.int ((Nat.gcd a.natAbs b.natAbs : Nat) : Int))) M) : bn .gcd [.d (.int a), .d (.int b)] M Q := q
theorem oTupL (q : Q (.d (.tuple xs)) M) : bn .tuple [.d (.list xs)] M Q := q
theorem oTupT (q : Q (.d (.tuple xs)) M) : bn .tuple [.d (.tuple xs)] M Q := q
theorem oLstT (q : Q (.d (.list xs)) M) : bn .list [.d (.tuple xs)] M Q := q
theorem oLstL (q : Q (.d (.list xs)) M) : bn .list [.d (.list xs)] M Q := q
theorem oAll {u : Bool} (h : allB xs = some u) (q : Q (.d (.bool u)) M) : bn .all [.d (.list xs)] M Q := ⟨u, h, q⟩
theorem oSorted (h : SortOk xs) (q : Q (.d (.list (sortD xs))) M) : bn .sorted [.d (.list xs)] M Q := ⟨h, q⟩
/-! what stands between -/
theorem xDat {ds : List PyData} {ws : List W} {P : List PyData → Prop} (h : datas ws = some ds) (hl : ds.length ≤ 100000) (q : P ds) : ∃ ds, datas ws = some ds ∧ ds.length ≤ 100000 ∧ P ds := ⟨ds, h, hl, q⟩
theorem xBool {u : Bool} (q : P u) : ∃ b, W.d (.bool u) = .d (.bool b) ∧ P b := ⟨u, rfl, q⟩
theorem xInt {P : Int → Prop} (q : P a) : ∃ b, W.d (.int a) = .d (.int b) ∧ P b := ⟨a, rfl, q⟩
theorem xD {P : PyData → Prop} (q : P x) : ∃ d, W.d x = .d d ∧ P d := ⟨x, rfl, q⟩
theorem xTwo {P : W → W → Prop} (q : P w z) : ∃ a b, [w, z] = [a, b] ∧ P a b := ⟨w, z, rfl, q⟩
theorem xBind {P : En → Prop} (h : bindD tg w δ = some δ') (q : P δ') : ∃ δ', bindD tg w δ = some δ' ∧ P δ' := ⟨δ', h, q⟩
theorem xT {A B : Prop} (q : A) : if true = true then A else B := by rw [if_pos rfl]; exact q
theorem xF {A B : Prop} (q : B) : if false = true then A else B := by rw [if_neg Bool.false_ne_true]; exact q
theorem xIf {c : Prop} [Decidable c] {A B : Prop} (h1 : c → A) (h2 : ¬ c → B) : if decide c = true then A else B := by
  by_cases h : c
  · rw [if_pos (decide_eq_true h)]; exact h1 h
  · rw [if_neg (by rw [decide_eq_false h]; exact Bool.false_ne_true)]; exact h2 h
theorem xIfN {c : Prop} [Decidable c] {A B : Prop} (h1 : ¬ c → A) (h2 : c → B) : if (!decide c) = true then A else B := by
  by_cases h : c
  · rw [if_neg (by rw [decide_eq_true h]; decide)]; exact h2 h
  · rw [if_pos (by rw [decide_eq_false h]; rfl)]; exact h1 h
theorem xIfB {u : Bool} {A B : Prop} (h1 : u = true → A) (h2 : u = false → B) : if u = true then A else B := by
  cases u with
  | true => exact xT (h1 rfl)
  | false => exact xF (h2 rfl)
end
end Sh
set_option maxHeartbeats 1000000
namespace Sh
open PySem PySem.Spec PyProof.Rows L2
/-! ## fractions, walked -/
abbrev fr (q : Rat) : PyData := .tuple [.int q.num, .int (q.den : Int)]
def rabs (q : Rat) : Rat := if q.num < 0 then -q else q
theorem rabs_num (q : Rat) : (rabs q).num = (q.num.natAbs : Int) := by
  unfold rabs
  split
  · rw [Rat.neg_num]; omega
  · omega
theorem rabs_den (q : Rat) : (rabs q).den = q.den := by
  unfold rabs
  split
  · rw [Rat.neg_den]
  · rfl
theorem sz_abs (q : Rat) : sz (rabs q) = sz q := by
  unfold sz
  rw [rabs_num, rabs_den, Int.natAbs_natCast]
theorem rabs_ne {q : Rat} (h : q ≠ 0) : rabs q ≠ 0 := by
  unfold rabs
  split
  · intro e; exact h (by grind)
  · exact h
theorem mulOk {a b : Int} {m n : Nat} (h1 : a.natAbs < 2 ^ m) (h2 : b.natAbs < 2 ^ n) (h : m + n ≤ 100000000) : MulOk a b := ⟨m, n, h1, h2, h⟩
theorem divOk {b : Int} {n : Nat} (h0 : b ≠ 0) (h : b.natAbs < 2 ^ n) (hn : n ≤ 9000) : DivOk b := ⟨h0, n, h, hn⟩
theorem nat_bits (n : Nat) : ((n : Int)).natAbs < 2 ^ (n.log2 + 1) := by rw [Int.natAbs_natCast]; exact Nat.lt_log2_self
theorem lt_of_pow {a m n : Nat} (h : a < 2 ^ m) (hn : m ≤ n) : a < 2 ^ n := Nat.lt_of_lt_of_le h (Nat.pow_le_pow_right (by decide) hn)
/-- part_of's promise -/
def spPart : DSp := ⟨2, fun ws M Q => ∃ t b : Int, ws = [.d (.int t), .d (.int b)] ∧ b ≠ 0 ∧ b.natAbs < 2 ^ 9000 ∧ t.natAbs < 2 ^ 400000 ∧ Q (.d (fr (Rat.divInt t b))) M⟩
abbrev sp_part_of : DSp := spPart
theorem fdOk {t b : Int} (h0 : b ≠ 0) (h1 : b.natAbs < 2 ^ 9000) : DivOk ((Nat.gcd t.natAbs b.natAbs : Nat) : Int) := divOk (gcd_ne t h0) (n := 9000) (by rw [Int.natAbs_natCast]; exact Nat.lt_of_le_of_lt (gcd_le t h0) h1) (by decide)
theorem fdOkN {t b : Int} (h0 : b ≠ 0) (h1 : b.natAbs < 2 ^ 9000) : DivOk (-((Nat.gcd t.natAbs b.natAbs : Nat) : Int)) := divOk (by have := gcd_ne t h0; omega) (n := 9000) (by rw [Int.natAbs_neg, Int.natAbs_natCast]; exact Nat.lt_of_le_of_lt (gcd_le t h0) h1) (by decide)
/-- functions of fractions -/
abbrev spQ1 (f : Rat → Rat) : DSp := ⟨1, fun ws M Q => ∃ x, ws = [.d (fr x)] ∧ Q (.d (fr (f x))) M⟩
abbrev spQ2 (pre : Rat → Rat → Prop) (f : Rat → Rat → Rat) : DSp := ⟨2, fun ws M Q => ∃ x y, ws = [.d (fr x), .d (fr y)] ∧ pre x y ∧ Q (.d (fr (f x y))) M⟩
abbrev spQ2v (pre : Rat → Rat → Prop) (f : Rat → Rat → PyData) : DSp := ⟨2, fun ws M Q => ∃ x y, ws = [.d (fr x), .d (fr y)] ∧ pre x y ∧ Q (.d (f x y)) M⟩
abbrev spQ1v (f : Rat → PyData) : DSp := ⟨1, fun ws M Q => ∃ x, ws = [.d (fr x)] ∧ Q (.d (f x)) M⟩
abbrev Fit (x y : Rat) : Prop := sz x + sz y ≤ 9000
abbrev FitD (x y : Rat) : Prop := y ≠ 0 ∧ sz x + sz y ≤ 9000
section
variable {x y : Rat} {M : MM} {Q : WK} {pre : Rat → Rat → Prop} {f : Rat → Rat → Rat} {f1 : Rat → Rat} {v : Rat → Rat → PyData} {v1 : Rat → PyData} {t b : Int}
theorem cQ1 (q : Q (.d (fr (f1 x))) M) : [W.d (fr x)].length = (spQ1 f1).n ∧ (spQ1 f1).run [.d (fr x)] M Q := ⟨rfl, x, rfl, q⟩
theorem cQ2 (h : pre x y) (q : Q (.d (fr (f x y))) M) : [W.d (fr x), .d (fr y)].length = (spQ2 pre f).n ∧ (spQ2 pre f).run [.d (fr x), .d (fr y)] M Q := ⟨rfl, x, y, rfl, h, q⟩
theorem cQ1v (q : Q (.d (v1 x)) M) : [W.d (fr x)].length = (spQ1v v1).n ∧ (spQ1v v1).run [.d (fr x)] M Q := ⟨rfl, x, rfl, q⟩
theorem cQ2v (h : pre x y) (q : Q (.d (v x y)) M) : [W.d (fr x), .d (fr y)].length = (spQ2v pre v).n ∧ (spQ2v pre v).run [.d (fr x), .d (fr y)] M Q := ⟨rfl, x, y, rfl, h, q⟩
theorem cPart (h0 : b ≠ 0) (h1 : b.natAbs < 2 ^ 9000) (h2 : t.natAbs < 2 ^ 400000) (q : Q (.d (fr (Rat.divInt t b))) M) : [W.d (.int t), .d (.int b)].length = spPart.n ∧ spPart.run [.d (.int t), .d (.int b)] M Q := ⟨rfl, t, b, rfl, h0, h1, h2, q⟩
end
abbrev rnd (x y : Rat) : Rat := x - ((x / rabs y).floor : Rat) * rabs y
abbrev ang (x : Rat) : Rat := Rat.divInt (x.num.fmod x.den) x.den
abbrev cmn (x y : Rat) : Rat := Rat.divInt (Nat.gcd (x.num * y.den).natAbs (y.num * x.den).natAbs : Nat) ((x.den : Int) * y.den)
abbrev sp_part_plus : DSp := spQ2 Fit (· + ·)
abbrev sp_part_minus : DSp := spQ1 (- ·)
abbrev sp_part_less : DSp := spQ2 Fit (· - ·)
abbrev sp_part_times : DSp := spQ2 Fit (· * ·)
abbrev sp_part_over : DSp := spQ2 FitD (· / ·)
abbrev sp_part_size : DSp := spQ1 rabs
abbrev sp_is_below : DSp := spQ2v Fit fun x y => .bool (decide (x < y))
abbrev sp_at_most : DSp := spQ2v Fit fun x y => .bool (decide (x ≤ y))
abbrev sp_is_whole : DSp := spQ1v fun x => .bool (decide (x.den = 1))
abbrev sp_wholes_in : DSp := spQ2v FitD fun x y => .int (x / rabs y).floor
abbrev sp_round_by : DSp := spQ2 (fun x y => y ≠ 0 ∧ 2 * sz x + 2 * sz y + 2 ≤ 9000) rnd
abbrev sp_angle_of : DSp := spQ1 ang
abbrev sp_common_part : DSp := spQ2 Fit cmn
theorem addNum {x y : Rat} (h : sz x + sz y ≤ 9000) : (x.num * (y.den : Int) + y.num * (x.den : Int)).natAbs < 2 ^ 400000 := by
  have h1 : (x.num * (y.den : Int)).natAbs < 2 ^ (sz x + sz y) := by rw [Int.natAbs_mul]; exact mul_pow (sz_num x) (sz_den y)
  have h2 : (y.num * (x.den : Int)).natAbs < 2 ^ (sz x + sz y) := by rw [Int.natAbs_mul, Nat.add_comm (sz x)]; exact mul_pow (sz_num y) (sz_den x)
  have := Int.natAbs_add_le (x.num * (y.den : Int)) (y.num * (x.den : Int))
  refine lt_of_pow (m := sz x + sz y + 1) ?_ (by omega)
  rw [Nat.pow_succ]
  omega
theorem mulBits {a b : Int} {m n k : Nat} (h1 : a.natAbs < 2 ^ m) (h2 : b.natAbs < 2 ^ n) (h : m + n ≤ k) : (a * b).natAbs < 2 ^ k := by
  rw [Int.natAbs_mul]
  exact lt_of_pow (mul_pow h1 h2) h
theorem denOk (x y : Rat) (h : sz x + sz y ≤ 100000000) : MulOk (x.den : Int) (y.den : Int) := mulOk (sz_den x) (sz_den y) h
theorem ndOk (x y : Rat) (h : sz x + sz y ≤ 100000000) : MulOk x.num (y.den : Int) := mulOk (sz_num x) (sz_den y) h
theorem dnOk (x y : Rat) (h : sz x + sz y ≤ 100000000) : MulOk (x.den : Int) y.num := mulOk (sz_den x) (sz_num y) h
theorem nnOk (x y : Rat) (h : sz x + sz y ≤ 100000000) : MulOk x.num y.num := mulOk (sz_num x) (sz_num y) h
theorem denNe (x y : Rat) : (x.den : Int) * (y.den : Int) ≠ 0 := Int.mul_ne_zero (den_ne x) (den_ne y)
theorem denBits {x y : Rat} (h : sz x + sz y ≤ 9000) : ((x.den : Int) * (y.den : Int)).natAbs < 2 ^ 9000 := mulBits (sz_den x) (sz_den y) h
theorem fr_eq {p q : Rat} (h : p = q) : fr p = fr q := by rw [h]
theorem neg_fr (x : Rat) : PyData.tuple [.int (-x.num), .int (x.den : Int)] = fr (-x) := by
  show _ = PyData.tuple [.int (-x).num, .int ((-x).den : Int)]
  rw [Rat.neg_num, Rat.neg_den]
theorem abs_fr (x : Rat) : PyData.tuple [.int (x.num.natAbs : Int), .int (x.den : Int)] = fr (rabs x) := by
  show _ = PyData.tuple [.int (rabs x).num, .int ((rabs x).den : Int)]
  rw [rabs_num, rabs_den]
theorem lt_dec (x y : Rat) : decide (x.num * (y.den : Int) < y.num * (x.den : Int)) = decide (x < y) := decide_eq_decide.mpr (Rat.lt_iff x y).symm
theorem le_dec (x y : Rat) : decide (x.num * (y.den : Int) ≤ y.num * (x.den : Int)) = decide (x ≤ y) := decide_eq_decide.mpr (Rat.le_iff x y).symm
theorem one_dec (x : Rat) : decide ((x.den : Int) = 1) = decide (x.den = 1) := decide_eq_decide.mpr ⟨fun h => by omega, fun h => by omega⟩
theorem floor_is (x : Rat) : x.num.fdiv (x.den : Int) = x.floor := by
  rw [Rat.floor_def, Int.fdiv_eq_ediv_of_nonneg _ (Int.natCast_nonneg _)]
theorem floor_sz (x : Rat) : x.floor.natAbs ≤ x.num.natAbs := by
  rw [Rat.floor_def]
  have h := one_den x
  rcases Int.lt_or_le x.num 0 with hn | hn
  · have h1 : x.num / (x.den : Int) < 0 := Int.ediv_neg_of_neg_of_pos hn (by omega)
    have h2 : x.num ≤ x.num / (x.den : Int) := by
      refine Int.le_ediv_of_mul_le (by omega) ?_
      have e : x.num * ((x.den : Int) - 1) ≤ 0 := Int.mul_nonpos_of_nonpos_of_nonneg (by omega) (by omega)
      rw [Int.mul_sub, Int.mul_one] at e
      omega
    omega
  · have h1 : 0 ≤ x.num / (x.den : Int) := Int.ediv_nonneg hn (by omega)
    have h2 : x.num / (x.den : Int) ≤ x.num := Int.ediv_le_self _ hn
    omega
theorem int_fr (i : Int) : PyData.tuple [.int i, .int 1] = fr (i : Rat) := by
  show _ = PyData.tuple [.int (i : Rat).num, .int ((i : Rat).den : Int)]
  rw [Rat.num_intCast, Rat.den_intCast]
  rfl
local macro_rules | `(tactic| one_item) => `(tactic| first
  | (with_reducible refine sSeq ?_) | (with_reducible refine sAsg ?_) | (with_reducible refine s2 ?_)
  | ((with_reducible refine' sVar ?k1 ?_); (case k1 => rfl))
  | (with_reducible refine sC ?_) | (with_reducible refine sCons ?_) | (with_reducible refine sNil ?_) | (with_reducible refine sN ?_) | (with_reducible refine s1 ?_)
  | ((with_reducible refine' xBind ?k1 ?_); (case k1 => rfl))
  | ((with_reducible refine' sFnE ?k1 ?_); (case k1 => rfl))
  | (with_reducible refine sIfS ?_) | (with_reducible refine sIf ?_) | (with_reducible refine sB ?_) | (with_reducible refine oCmp ?_) | (with_reducible refine xBool ?_) | (with_reducible refine sRet ?_) | (with_reducible refine sTup ?_) | (with_reducible refine sLst ?_)
  | ((with_reducible refine' xDat ?k1 ?k2 ?_); (case k1 => rfl); (case k2 => (exact Nat.le_of_ble_eq_true rfl)))
  | ((with_reducible refine' oIxT ?k1 ?_); (case k1 => rfl)) | ((with_reducible refine' oIxL ?k1 ?_); (case k1 => rfl))
  | (with_reducible refine oAdd ?_) | (with_reducible refine oSub ?_) | (with_reducible refine oNeg ?_) | (with_reducible refine oGcd ?_) | (with_reducible refine oAbs ?_) | (with_reducible refine oInt ?_)
  | (with_reducible refine oLenT ?_) | (with_reducible refine oLenL ?_) | (with_reducible refine oSlT ?_) | (with_reducible refine oSlL ?_) | (with_reducible refine oTupL ?_) | (with_reducible refine oTupT ?_)
  | (with_reducible refine cLt ?_) | (with_reducible refine cLe ?_) | (with_reducible refine cGt ?_) | (with_reducible refine cGe ?_) | (with_reducible refine cIsN ?_) | (with_reducible refine cNotN ?_) | (with_reducible refine cIsB ?_) | (with_reducible refine cEqI ?_) | (with_reducible refine cNeI ?_)
  | (with_reducible refine sNotT ?_) | (with_reducible refine sAndT ?_) | (with_reducible refine sOrT ?_) | (with_reducible refine sNotV ?_) | (with_reducible refine sAndV ?_) | (with_reducible refine sOrV ?_)
  | (with_reducible refine sSl ?_) | (with_reducible refine sONone ?_) | (with_reducible refine sOSome ?_) | (with_reducible refine xInt ?_) | (with_reducible refine sChn ?_) | (with_reducible refine sPar ?_) | (with_reducible refine xTwo ?_) | (with_reducible refine sIsi ?_) | (with_reducible refine sIsi2 ?_) | (with_reducible refine xD ?_)
  | (with_reducible refine sNext ?_)
  | (with_reducible refine xT ?_) | (with_reducible refine xF ?_))
local macro_rules | `(tactic| fin_places) => `(tactic| (repeat one_item))
def b_part_of : List Sm := [(.asg (.nm 2) (.blt .gcd (.cons (.var 0) (.cons (.var 1) .nil)))), (.ife (.cmp .lt (.var 1) (.lit (.int 0))) [(.asg (.nm 2) (.neg (.var 2)))] []), (.ret (.tup (.cons (.bin .fdiv (.var 0) (.var 2)) (.cons (.bin .fdiv (.var 1) (.var 2)) .nil))))]
theorem fn_part_of {g : Gb} (gk : GOk g) (a : At g "part_of" 6) : FOk g 1 "part_of" sp_part_of := by
  refine FOk.of (k := 0) (G := []) (N := ["top", "bottom", "common"]) (ps := ["top", "bottom"]) b_part_of a gk ⟨fun _ h => nomatch h⟩ ⟨rfl, rfl, rfl, by decide +kernel, rfl, by decide +kernel, by decide +kernel⟩ (fun _ _ _ _ _ _ us hl => match us, hl with | [_, _], _ => rfl) rfl (by decide +kernel) ?_
  intro ws M Q h
  simp only [b_part_of, evSs, evS, ev, evA, evT, evTs, evAnd, evOr, evO, evI, Bool.false_eq_true, reduceIte]
  obtain ⟨t, b, rfl, h0, h1, h2, hq⟩ := h
  fin_places
  refine xIf (fun hb => ?_) (fun hb => ?_)
  · fin_places
    refine oDiv (fdOkN h0 h1) ?_
    fin_places
    refine oDiv (fdOkN h0 h1) ?_
    fin_places
    obtain ⟨e1, e2⟩ := part_of_neg t b hb
    rw [e1, e2]
    fin_places
    try exact hq
  · fin_places
    refine oDiv (fdOk h0 h1) ?_
    fin_places
    refine oDiv (fdOk h0 h1) ?_
    fin_places
    obtain ⟨e1, e2⟩ := part_of_pos t b (by omega)
    rw [e1, e2]
    fin_places
    try exact hq
def b_part_plus : List Sm := [(.ret (.call 0 (.cons (.bin .add (.bin .mul (.ix (.var 0) (.lit (.int 0))) (.ix (.var 1) (.lit (.int 1)))) (.bin .mul (.ix (.var 1) (.lit (.int 0))) (.ix (.var 0) (.lit (.int 1))))) (.cons (.bin .mul (.ix (.var 0) (.lit (.int 1))) (.ix (.var 1) (.lit (.int 1)))) .nil))))]
theorem fn_part_plus {g : Gb} (gk : GOk g) (a : At g "part_plus" 7) (f_part_of : FOk g 1 "part_of" sp_part_of) : FOk g 2 "part_plus" sp_part_plus := by
  refine FOk.of (k := 1) (G := [("part_of", sp_part_of)]) (N := ["one", "other"]) (ps := ["one", "other"]) b_part_plus a gk ⟨List.forall_mem_cons.mpr ⟨f_part_of.mono (by decide), fun _ h => nomatch h⟩⟩ ⟨rfl, rfl, rfl, by decide +kernel, rfl, by decide +kernel, by decide +kernel⟩ (fun _ _ _ _ _ _ us hl => match us, hl with | [_, _], _ => rfl) rfl (by decide +kernel) ?_
  intro ws M Q h
  simp only [b_part_plus, evSs, evS, ev, evA, evT, evTs, evAnd, evOr, evO, evI, Bool.false_eq_true, reduceIte]
  obtain ⟨x, y, rfl, hf, hq⟩ := h
  fin_places
  refine oMul (ndOk x y (by omega)) ?_
  fin_places
  refine oMul (ndOk y x (by omega)) ?_
  fin_places
  refine oMul (denOk x y (by omega)) ?_
  fin_places
  refine cPart (denNe x y) (denBits hf) (addNum hf) ?_
  rw [← add_is]
  exact hq
def b_part_minus : List Sm := [(.ret (.tup (.cons (.neg (.ix (.var 0) (.lit (.int 0)))) (.cons (.ix (.var 0) (.lit (.int 1))) .nil))))]
theorem fn_part_minus {g : Gb} (gk : GOk g) (a : At g "part_minus" 8) : FOk g 1 "part_minus" sp_part_minus := by
  refine FOk.of (k := 0) (G := []) (N := ["one"]) (ps := ["one"]) b_part_minus a gk ⟨fun _ h => nomatch h⟩ ⟨rfl, rfl, rfl, by decide +kernel, rfl, by decide +kernel, by decide +kernel⟩ (fun _ _ _ _ _ _ us hl => match us, hl with | [_], _ => rfl) rfl (by decide +kernel) ?_
  intro ws M Q h
  simp only [b_part_minus, evSs, evS, ev, evA, evT, evTs, evAnd, evOr, evO, evI, Bool.false_eq_true, reduceIte]
  obtain ⟨x, rfl, hq⟩ := h
  fin_places
  try rw [neg_fr]
  try exact hq
def b_part_less : List Sm := [(.ret (.call 0 (.cons (.var 0) (.cons (.call 1 (.cons (.var 1) .nil)) .nil))))]
theorem fn_part_less {g : Gb} (gk : GOk g) (a : At g "part_less" 9) (f_part_plus : FOk g 2 "part_plus" sp_part_plus) (f_part_minus : FOk g 1 "part_minus" sp_part_minus) : FOk g 3 "part_less" sp_part_less := by
  refine FOk.of (k := 2) (G := [("part_plus", sp_part_plus), ("part_minus", sp_part_minus)]) (N := ["one", "other"]) (ps := ["one", "other"]) b_part_less a gk ⟨List.forall_mem_cons.mpr ⟨f_part_plus.mono (by decide), List.forall_mem_cons.mpr ⟨f_part_minus.mono (by decide), fun _ h => nomatch h⟩⟩⟩ ⟨rfl, rfl, rfl, by decide +kernel, rfl, by decide +kernel, by decide +kernel⟩ (fun _ _ _ _ _ _ us hl => match us, hl with | [_, _], _ => rfl) rfl (by decide +kernel) ?_
  intro ws M Q h
  simp only [b_part_less, evSs, evS, ev, evA, evT, evTs, evAnd, evOr, evO, evI, Bool.false_eq_true, reduceIte]
  obtain ⟨x, y, rfl, hf, hq⟩ := h
  fin_places
  refine cQ1 ?_
  fin_places
  refine cQ2 (by rw [Fit, sz_neg]; exact hf) ?_
  rw [← Rat.sub_eq_add_neg]
  exact hq
def b_part_times : List Sm := [(.ret (.call 0 (.cons (.bin .mul (.ix (.var 0) (.lit (.int 0))) (.ix (.var 1) (.lit (.int 0)))) (.cons (.bin .mul (.ix (.var 0) (.lit (.int 1))) (.ix (.var 1) (.lit (.int 1)))) .nil))))]
theorem fn_part_times {g : Gb} (gk : GOk g) (a : At g "part_times" 10) (f_part_of : FOk g 1 "part_of" sp_part_of) : FOk g 2 "part_times" sp_part_times := by
  refine FOk.of (k := 1) (G := [("part_of", sp_part_of)]) (N := ["one", "other"]) (ps := ["one", "other"]) b_part_times a gk ⟨List.forall_mem_cons.mpr ⟨f_part_of.mono (by decide), fun _ h => nomatch h⟩⟩ ⟨rfl, rfl, rfl, by decide +kernel, rfl, by decide +kernel, by decide +kernel⟩ (fun _ _ _ _ _ _ us hl => match us, hl with | [_, _], _ => rfl) rfl (by decide +kernel) ?_
  intro ws M Q h
  simp only [b_part_times, evSs, evS, ev, evA, evT, evTs, evAnd, evOr, evO, evI, Bool.false_eq_true, reduceIte]
  obtain ⟨x, y, rfl, hf, hq⟩ := h
  fin_places
  refine oMul (nnOk x y (by omega)) ?_
  fin_places
  refine oMul (denOk x y (by omega)) ?_
  fin_places
  refine cPart (denNe x y) (denBits hf) (mulBits (sz_num x) (sz_num y) (by omega)) ?_
  rw [← mul_is]
  exact hq
def b_part_over : List Sm := [(.ret (.call 0 (.cons (.bin .mul (.ix (.var 0) (.lit (.int 0))) (.ix (.var 1) (.lit (.int 1)))) (.cons (.bin .mul (.ix (.var 0) (.lit (.int 1))) (.ix (.var 1) (.lit (.int 0)))) .nil))))]
theorem fn_part_over {g : Gb} (gk : GOk g) (a : At g "part_over" 11) (f_part_of : FOk g 1 "part_of" sp_part_of) : FOk g 2 "part_over" sp_part_over := by
  refine FOk.of (k := 1) (G := [("part_of", sp_part_of)]) (N := ["one", "other"]) (ps := ["one", "other"]) b_part_over a gk ⟨List.forall_mem_cons.mpr ⟨f_part_of.mono (by decide), fun _ h => nomatch h⟩⟩ ⟨rfl, rfl, rfl, by decide +kernel, rfl, by decide +kernel, by decide +kernel⟩ (fun _ _ _ _ _ _ us hl => match us, hl with | [_, _], _ => rfl) rfl (by decide +kernel) ?_
  intro ws M Q h
  simp only [b_part_over, evSs, evS, ev, evA, evT, evTs, evAnd, evOr, evO, evI, Bool.false_eq_true, reduceIte]
  obtain ⟨x, y, rfl, ⟨h0, hf⟩, hq⟩ := h
  fin_places
  refine oMul (ndOk x y (by omega)) ?_
  fin_places
  refine oMul (dnOk x y (by omega)) ?_
  fin_places
  refine cPart (Int.mul_ne_zero (den_ne x) (num_ne h0)) (mulBits (sz_den x) (sz_num y) hf) (mulBits (sz_num x) (sz_den y) (by omega)) ?_
  rw [← div_is x y h0]
  exact hq
def b_part_size : List Sm := [(.ret (.tup (.cons (.blt .abs (.cons (.ix (.var 0) (.lit (.int 0))) .nil)) (.cons (.ix (.var 0) (.lit (.int 1))) .nil))))]
theorem fn_part_size {g : Gb} (gk : GOk g) (a : At g "part_size" 12) : FOk g 1 "part_size" sp_part_size := by
  refine FOk.of (k := 0) (G := []) (N := ["one"]) (ps := ["one"]) b_part_size a gk ⟨fun _ h => nomatch h⟩ ⟨rfl, rfl, rfl, by decide +kernel, rfl, by decide +kernel, by decide +kernel⟩ (fun _ _ _ _ _ _ us hl => match us, hl with | [_], _ => rfl) rfl (by decide +kernel) ?_
  intro ws M Q h
  simp only [b_part_size, evSs, evS, ev, evA, evT, evTs, evAnd, evOr, evO, evI, Bool.false_eq_true, reduceIte]
  obtain ⟨x, rfl, hq⟩ := h
  fin_places
  try rw [abs_fr]
  try exact hq
def b_is_below : List Sm := [(.ret (.cmp .lt (.bin .mul (.ix (.var 0) (.lit (.int 0))) (.ix (.var 1) (.lit (.int 1)))) (.bin .mul (.ix (.var 1) (.lit (.int 0))) (.ix (.var 0) (.lit (.int 1))))))]
theorem fn_is_below {g : Gb} (gk : GOk g) (a : At g "is_below" 13) : FOk g 1 "is_below" sp_is_below := by
  refine FOk.of (k := 0) (G := []) (N := ["one", "other"]) (ps := ["one", "other"]) b_is_below a gk ⟨fun _ h => nomatch h⟩ ⟨rfl, rfl, rfl, by decide +kernel, rfl, by decide +kernel, by decide +kernel⟩ (fun _ _ _ _ _ _ us hl => match us, hl with | [_, _], _ => rfl) rfl (by decide +kernel) ?_
  intro ws M Q h
  simp only [b_is_below, evSs, evS, ev, evA, evT, evTs, evAnd, evOr, evO, evI, Bool.false_eq_true, reduceIte]
  obtain ⟨x, y, rfl, hf, hq⟩ := h
  fin_places
  refine oMul (ndOk x y (by omega)) ?_
  fin_places
  refine oMul (ndOk y x (by omega)) ?_
  fin_places
  try rw [lt_dec]
  try exact hq
def b_at_most : List Sm := [(.ret (.cmp .le (.bin .mul (.ix (.var 0) (.lit (.int 0))) (.ix (.var 1) (.lit (.int 1)))) (.bin .mul (.ix (.var 1) (.lit (.int 0))) (.ix (.var 0) (.lit (.int 1))))))]
theorem fn_at_most {g : Gb} (gk : GOk g) (a : At g "at_most" 14) : FOk g 1 "at_most" sp_at_most := by
  refine FOk.of (k := 0) (G := []) (N := ["one", "other"]) (ps := ["one", "other"]) b_at_most a gk ⟨fun _ h => nomatch h⟩ ⟨rfl, rfl, rfl, by decide +kernel, rfl, by decide +kernel, by decide +kernel⟩ (fun _ _ _ _ _ _ us hl => match us, hl with | [_, _], _ => rfl) rfl (by decide +kernel) ?_
  intro ws M Q h
  simp only [b_at_most, evSs, evS, ev, evA, evT, evTs, evAnd, evOr, evO, evI, Bool.false_eq_true, reduceIte]
  obtain ⟨x, y, rfl, hf, hq⟩ := h
  fin_places
  refine oMul (ndOk x y (by omega)) ?_
  fin_places
  refine oMul (ndOk y x (by omega)) ?_
  fin_places
  try rw [le_dec]
  try exact hq
def b_is_whole : List Sm := [(.ret (.cmp .eq (.ix (.var 0) (.lit (.int 1))) (.lit (.int 1))))]
theorem fn_is_whole {g : Gb} (gk : GOk g) (a : At g "is_whole" 15) : FOk g 1 "is_whole" sp_is_whole := by
  refine FOk.of (k := 0) (G := []) (N := ["one"]) (ps := ["one"]) b_is_whole a gk ⟨fun _ h => nomatch h⟩ ⟨rfl, rfl, rfl, by decide +kernel, rfl, by decide +kernel, by decide +kernel⟩ (fun _ _ _ _ _ _ us hl => match us, hl with | [_], _ => rfl) rfl (by decide +kernel) ?_
  intro ws M Q h
  simp only [b_is_whole, evSs, evS, ev, evA, evT, evTs, evAnd, evOr, evO, evI, Bool.false_eq_true, reduceIte]
  obtain ⟨x, rfl, hq⟩ := h
  fin_places
  try rw [one_dec]
  try exact hq
def b_wholes_in : List Sm := [(.asg (.nm 2) (.call 0 (.cons (.var 0) (.cons (.call 1 (.cons (.var 1) .nil)) .nil)))), (.ret (.bin .fdiv (.ix (.var 2) (.lit (.int 0))) (.ix (.var 2) (.lit (.int 1)))))]
theorem fn_wholes_in {g : Gb} (gk : GOk g) (a : At g "wholes_in" 16) (f_part_over : FOk g 2 "part_over" sp_part_over) (f_part_size : FOk g 1 "part_size" sp_part_size) : FOk g 3 "wholes_in" sp_wholes_in := by
  refine FOk.of (k := 2) (G := [("part_over", sp_part_over), ("part_size", sp_part_size)]) (N := ["one", "other", "far"]) (ps := ["one", "other"]) b_wholes_in a gk ⟨List.forall_mem_cons.mpr ⟨f_part_over.mono (by decide), List.forall_mem_cons.mpr ⟨f_part_size.mono (by decide), fun _ h => nomatch h⟩⟩⟩ ⟨rfl, rfl, rfl, by decide +kernel, rfl, by decide +kernel, by decide +kernel⟩ (fun _ _ _ _ _ _ us hl => match us, hl with | [_, _], _ => rfl) rfl (by decide +kernel) ?_
  intro ws M Q h
  simp only [b_wholes_in, evSs, evS, ev, evA, evT, evTs, evAnd, evOr, evO, evI, Bool.false_eq_true, reduceIte]
  obtain ⟨x, y, rfl, ⟨h0, hf⟩, hq⟩ := h
  fin_places
  refine cQ1 ?_
  fin_places
  refine cQ2 ⟨rabs_ne h0, by rw [sz_abs]; exact hf⟩ ?_
  fin_places
  refine oDiv (divOk (den_ne _) (n := 9000) ?_ (by decide)) ?_
  · have := sz_div x (rabs y) (rabs_ne h0)
    rw [sz_abs] at this
    exact lt_of_pow (sz_den _) (by omega)
  · rw [floor_is]
    exact hq
theorem fmod_ang (x : Rat) : ((x.num.fmod (x.den : Int)).natAbs < 2 ^ sz x) := by
  have h := one_den x
  have h1 := Int.fmod_nonneg_of_pos x.num (show (0 : Int) < x.den by omega)
  have h2 := Int.fmod_lt_of_pos x.num (show (0 : Int) < x.den by omega)
  have := sz_den x
  omega
/-- reducing the numerator keeps lowest terms -/
theorem ang_fr (x : Rat) : PyData.tuple [.int (x.num.fmod (x.den : Int)), .int (x.den : Int)] = fr (ang x) := by
  have hd := one_den x
  have g : (x.den : Int).gcd (x.num.fmod (x.den : Int)) = 1 := by
    have e : x.num.fmod (x.den : Int) = x.num + (-(x.num / (x.den : Int))) * (x.den : Int) := by
      rw [Int.fmod_eq_emod_of_nonneg _ (Int.natCast_nonneg _), Int.emod_def, Int.neg_mul, Int.mul_comm, Int.sub_eq_add_neg]
    rw [e, Int.gcd_add_mul_right_right, Int.gcd, Nat.gcd_comm, Int.natAbs_natCast]
    exact x.reduced
  show _ = PyData.tuple [.int (ang x).num, .int ((ang x).den : Int)]
  rw [Rat.num_divInt, Rat.den_divInt, if_neg (by omega), g, Int.sign_eq_one_of_pos (by omega), Int.one_mul, Int.natAbs_natCast, Nat.div_one]
  simp
theorem gcd_bits {a b : Int} {n : Nat} (h1 : a.natAbs < 2 ^ n) (h2 : b.natAbs < 2 ^ n) : (((Nat.gcd a.natAbs b.natAbs : Nat) : Int)).natAbs < 2 ^ n := by
  rw [Int.natAbs_natCast]
  rcases Nat.eq_zero_or_pos a.natAbs with h | h
  · rw [h, Nat.gcd_zero_left]; exact h2
  · exact Nat.lt_of_le_of_lt (Nat.le_of_dvd h (Nat.gcd_dvd_left _ _)) h1
def b_round_by : List Sm := [(.ret (.call 0 (.cons (.var 0) (.cons (.call 1 (.cons (.tup (.cons (.call 2 (.cons (.var 0) (.cons (.var 1) .nil))) (.cons (.lit (.int 1)) .nil))) (.cons (.call 3 (.cons (.var 1) .nil)) .nil))) .nil))))]
theorem fn_round_by {g : Gb} (gk : GOk g) (a : At g "round_by" 17) (f_part_less : FOk g 3 "part_less" sp_part_less) (f_part_times : FOk g 2 "part_times" sp_part_times) (f_wholes_in : FOk g 3 "wholes_in" sp_wholes_in) (f_part_size : FOk g 1 "part_size" sp_part_size) : FOk g 4 "round_by" sp_round_by := by
  refine FOk.of (k := 3) (G := [("part_less", sp_part_less), ("part_times", sp_part_times), ("wholes_in", sp_wholes_in), ("part_size", sp_part_size)]) (N := ["one", "other"]) (ps := ["one", "other"]) b_round_by a gk ⟨List.forall_mem_cons.mpr ⟨f_part_less.mono (by decide), List.forall_mem_cons.mpr ⟨f_part_times.mono (by decide), List.forall_mem_cons.mpr ⟨f_wholes_in.mono (by decide), List.forall_mem_cons.mpr ⟨f_part_size.mono (by decide), fun _ h => nomatch h⟩⟩⟩⟩⟩ ⟨rfl, rfl, rfl, by decide +kernel, rfl, by decide +kernel, by decide +kernel⟩ (fun _ _ _ _ _ _ us hl => match us, hl with | [_, _], _ => rfl) rfl (by decide +kernel) ?_
  intro ws M Q h
  simp only [b_round_by, evSs, evS, ev, evA, evT, evTs, evAnd, evOr, evO, evI, Bool.false_eq_true, reduceIte]
  obtain ⟨x, y, rfl, ⟨h0, hf⟩, hq⟩ := h
  have e1 := sz_div x (rabs y) (rabs_ne h0)
  rw [sz_abs] at e1
  have e2 : sz (((x / rabs y).floor : Int) : Rat) ≤ sz x + sz y := sz_int (lt_of_pow (Nat.lt_of_le_of_lt (floor_sz _) (sz_num _)) e1) (by have := sz_pos x; omega)
  have e3 := sz_mul (((x / rabs y).floor : Int) : Rat) (rabs y)
  rw [sz_abs] at e3
  have e4 := sz_abs y
  fin_places
  refine cQ2v ⟨h0, by omega⟩ ?_
  fin_places
  try rw [int_fr]
  refine cQ1 ?_
  fin_places
  refine cQ2 (f := (· * ·)) (x := (((x / rabs y).floor : Int) : Rat)) (show _ ≤ _ by omega) ?_
  fin_places
  refine cQ2 (f := (· - ·)) (show _ ≤ _ by omega) ?_
  exact hq
def b_angle_of : List Sm := [(.ret (.tup (.cons (.bin .mod (.ix (.var 0) (.lit (.int 0))) (.ix (.var 0) (.lit (.int 1)))) (.cons (.ix (.var 0) (.lit (.int 1))) .nil))))]
theorem fn_angle_of {g : Gb} (gk : GOk g) (a : At g "angle_of" 18) : FOk g 1 "angle_of" sp_angle_of := by
  refine FOk.of (k := 0) (G := []) (N := ["one"]) (ps := ["one"]) b_angle_of a gk ⟨fun _ h => nomatch h⟩ ⟨rfl, rfl, rfl, by decide +kernel, rfl, by decide +kernel, by decide +kernel⟩ (fun _ _ _ _ _ _ us hl => match us, hl with | [_], _ => rfl) rfl (by decide +kernel) ?_
  intro ws M Q h
  simp only [b_angle_of, evSs, evS, ev, evA, evT, evTs, evAnd, evOr, evO, evI, Bool.false_eq_true, reduceIte]
  obtain ⟨x, rfl, hq⟩ := h
  fin_places
  refine oMod (den_ne x) ?_
  fin_places
  try rw [ang_fr]
  try exact hq
def b_common_part : List Sm := [(.ret (.call 0 (.cons (.blt .gcd (.cons (.bin .mul (.ix (.var 0) (.lit (.int 0))) (.ix (.var 1) (.lit (.int 1)))) (.cons (.bin .mul (.ix (.var 1) (.lit (.int 0))) (.ix (.var 0) (.lit (.int 1)))) .nil))) (.cons (.bin .mul (.ix (.var 0) (.lit (.int 1))) (.ix (.var 1) (.lit (.int 1)))) .nil))))]
theorem fn_common_part {g : Gb} (gk : GOk g) (a : At g "common_part" 19) (f_part_of : FOk g 1 "part_of" sp_part_of) : FOk g 2 "common_part" sp_common_part := by
  refine FOk.of (k := 1) (G := [("part_of", sp_part_of)]) (N := ["one", "other"]) (ps := ["one", "other"]) b_common_part a gk ⟨List.forall_mem_cons.mpr ⟨f_part_of.mono (by decide), fun _ h => nomatch h⟩⟩ ⟨rfl, rfl, rfl, by decide +kernel, rfl, by decide +kernel, by decide +kernel⟩ (fun _ _ _ _ _ _ us hl => match us, hl with | [_, _], _ => rfl) rfl (by decide +kernel) ?_
  intro ws M Q h
  simp only [b_common_part, evSs, evS, ev, evA, evT, evTs, evAnd, evOr, evO, evI, Bool.false_eq_true, reduceIte]
  obtain ⟨x, y, rfl, hf, hq⟩ := h
  fin_places
  refine oMul (ndOk x y (by omega)) ?_
  fin_places
  refine oMul (ndOk y x (by omega)) ?_
  fin_places
  refine oMul (denOk x y (by omega)) ?_
  fin_places
  refine cPart (denNe x y) (denBits hf) ?_ ?_
  · exact gcd_bits (mulBits (sz_num x) (sz_den y) (by omega)) (mulBits (sz_num y) (sz_den x) (by omega))
  · exact hq
end Sh
set_option maxHeartbeats 1000000
namespace Sh
open PySem PySem.Spec PyProof.Rows L2
/-! ## the law's own fractions, walked -/
theorem mset_same {M : MM} {a : Addr} {o : MO} : mset M a o a = some o := if_pos rfl
theorem mset_ne {M : MM} {a b : Addr} {o : MO} (h : b ≠ a) : mset M a o b = M b := if_neg h
theorem mset_mset {M : MM} {a : Addr} {o p : MO} : mset (mset M a o) a p = mset M a p := funext fun b => by
  unfold mset
  by_cases h : b = a
  · rw [if_pos h, if_pos h]
  · rw [if_neg h, if_neg h, if_neg h]
theorem oIxB {M : MM} {Q : WK} {a : Addr} {xs : List PyData} {i : Int} {x : PyData} (h : M a = some (.l xs)) (h2 : atI xs i = some x) (q : Q (.d x) M) : ixX (.box a) (.d (.int i)) M Q := ⟨xs, x, h, h2, q⟩
theorem sSet {δ : En} {M : MM} {DD : EndsD} {ra ro ri : RdE} (q : ra δ M fun w M1 => ro δ M1 fun b M2 => ri δ M2 fun z M3 => ∃ x a i j xs, w = .d x ∧ b = .box a ∧ z = .d (.int i) ∧ M3 a = some (.l xs) ∧ ixN xs.length i = some j ∧ DD.nx δ (mset M3 a (.l (xs.set j x)))) : rdSet ra ro ri DD δ M := q
theorem xSet {M : MM} {P : MM → Prop} {a : Addr} {xs : List PyData} {x : PyData} {i : Int} {j : Nat} (h : M a = some (.l xs)) (h2 : ixN xs.length i = some j) (q : P (mset M a (.l (xs.set j x)))) : ∃ x' a' i' j xs', W.d x = .d x' ∧ W.box a = .box a' ∧ W.d (.int i) = .d (.int i') ∧ M a' = some (.l xs') ∧ ixN xs'.length i' = some j ∧ P (mset M a' (.l (xs'.set j x'))) := ⟨x, a, i, j, xs, rfl, rfl, rfl, h, h2, q⟩
local macro_rules | `(tactic| one_item) => `(tactic| first
  | (with_reducible refine sSeq ?_) | (with_reducible refine sAsg ?_) | (with_reducible refine s2 ?_)
  | ((with_reducible refine' sVar ?k1 ?_); (case k1 => rfl))
  | (with_reducible refine sC ?_) | (with_reducible refine sCons ?_) | (with_reducible refine sNil ?_) | (with_reducible refine sN ?_) | (with_reducible refine s1 ?_)
  | ((with_reducible refine' xBind ?k1 ?_); (case k1 => rfl))
  | ((with_reducible refine' sFnE ?k1 ?_); (case k1 => rfl))
  | (with_reducible refine sIfS ?_) | (with_reducible refine sIf ?_) | (with_reducible refine sB ?_) | (with_reducible refine oCmp ?_) | (with_reducible refine xBool ?_) | (with_reducible refine sRet ?_) | (with_reducible refine sTup ?_) | (with_reducible refine sLst ?_)
  | ((with_reducible refine' xDat ?k1 ?k2 ?_); (case k1 => rfl); (case k2 => (exact Nat.le_of_ble_eq_true rfl)))
  | ((with_reducible refine' oIxT ?k1 ?_); (case k1 => rfl)) | ((with_reducible refine' oIxL ?k1 ?_); (case k1 => rfl))
  | (with_reducible refine oAdd ?_) | (with_reducible refine oSub ?_) | (with_reducible refine oNeg ?_) | (with_reducible refine oGcd ?_) | (with_reducible refine oAbs ?_) | (with_reducible refine oInt ?_)
  | (with_reducible refine oLenT ?_) | (with_reducible refine oLenL ?_) | (with_reducible refine oSlT ?_) | (with_reducible refine oSlL ?_) | (with_reducible refine oTupL ?_) | (with_reducible refine oTupT ?_)
  | (with_reducible refine cLt ?_) | (with_reducible refine cLe ?_) | (with_reducible refine cGt ?_) | (with_reducible refine cGe ?_) | (with_reducible refine cIsN ?_) | (with_reducible refine cNotN ?_) | (with_reducible refine cIsB ?_) | (with_reducible refine cEqI ?_) | (with_reducible refine cNeI ?_)
  | (with_reducible refine sNotT ?_) | (with_reducible refine sAndT ?_) | (with_reducible refine sOrT ?_) | (with_reducible refine sNotV ?_) | (with_reducible refine sAndV ?_) | (with_reducible refine sOrV ?_)
  | (with_reducible refine sSl ?_) | (with_reducible refine sONone ?_) | (with_reducible refine sOSome ?_) | (with_reducible refine xInt ?_) | (with_reducible refine sChn ?_) | (with_reducible refine sPar ?_) | (with_reducible refine xTwo ?_) | (with_reducible refine sIsi ?_) | (with_reducible refine sIsi2 ?_) | (with_reducible refine xD ?_)
  | (with_reducible refine sNext ?_)
  | (with_reducible refine xT ?_) | (with_reducible refine xF ?_))
local macro_rules | `(tactic| fin_places) => `(tactic| (repeat one_item))
abbrev sp__law_common : DSp := ⟨2, fun ws M Q => ∃ a b : Int, ws = [.d (.int a), .d (.int b)] ∧ Q (.d (.int (Nat.gcd a.natAbs b.natAbs : Nat))) M⟩
theorem cCommon {a b : Int} {M : MM} {Q : WK} (q : Q (.d (.int (Nat.gcd a.natAbs b.natAbs : Nat))) M) : [W.d (.int a), .d (.int b)].length = sp__law_common.n ∧ sp__law_common.run [.d (.int a), .d (.int b)] M Q := ⟨rfl, a, b, rfl, q⟩
def b__law_common : List Sm := [(.par 0 1 (.blt .abs (.cons (.var 0) .nil)) (.blt .abs (.cons (.var 1) .nil))), (.whl (.cmp .gt (.var 1) (.lit (.int 0))) [(.par 0 1 (.var 1) (.bin .mod (.var 0) (.var 1)))]), (.ret (.var 0))]
theorem fn__law_common {g : Gb} (gk : GOk g) (a : At g "_law_common" 64) : FOk g 1 "_law_common" sp__law_common := by
  refine FOk.of (k := 0) (G := []) (N := ["_law_one_so", "_law_other_so"]) (ps := ["_law_one_so", "_law_other_so"]) b__law_common a gk ⟨fun _ h => nomatch h⟩ ⟨rfl, rfl, rfl, by decide +kernel, rfl, by decide +kernel, by decide +kernel⟩ (fun _ _ _ _ _ _ us hl => match us, hl with | [_, _], _ => rfl) rfl (by decide +kernel) ?_
  intro ws M Q h
  simp only [b__law_common, evSs, evS, ev, evA, evT, evTs, evAnd, evOr, evO, evI, Bool.false_eq_true, reduceIte]
  obtain ⟨a, b, rfl, hq⟩ := h
  fin_places
  refine ⟨fun m δ' M' => ∃ x y : Nat, δ' = [some (.d (.int (x : Int))), some (.d (.int (y : Int)))] ∧ M' = M ∧ m = y ∧ Nat.gcd x y = Nat.gcd a.natAbs b.natAbs, ⟨b.natAbs, a.natAbs, b.natAbs, rfl, rfl, rfl, rfl⟩, ?_⟩
  rintro m δ' M' ⟨x, y, rfl, rfl, rfl, hg⟩
  fin_places
  refine xIf (fun hy => ?_) (fun hy => ?_)
  · fin_places
    refine oMod (by omega) ?_
    fin_places
    refine ⟨x % m, Nat.mod_lt _ (by omega), m, x % m, ?_, rfl, rfl, ?_⟩
    · show [some (W.d (.int (m : Int))), some (W.d (.int ((x : Int).fmod (m : Int))))] = _
      rw [Int.fmod_eq_emod_of_nonneg _ (Int.natCast_nonneg _)]
      rfl
    · rw [← hg, Nat.gcd_comm m, ← Nat.gcd_rec, Nat.gcd_comm]
  · obtain rfl : m = 0 := by omega
    rw [Nat.gcd_zero_right] at hg
    fin_places
    try rw [hg]
    try exact hq
abbrev sp__law_part : DSp := spPart
def b__law_part : List Sm := [(.asg (.nm 2) (.call 0 (.cons (.var 0) (.cons (.var 1) .nil)))), (.ife (.cmp .lt (.var 1) (.lit (.int 0))) [(.asg (.nm 2) (.neg (.var 2)))] []), (.ret (.tup (.cons (.bin .fdiv (.var 0) (.var 2)) (.cons (.bin .fdiv (.var 1) (.var 2)) .nil))))]
theorem fn__law_part {g : Gb} (gk : GOk g) (a : At g "_law_part" 65) (f__law_common : FOk g 1 "_law_common" sp__law_common) : FOk g 2 "_law_part" sp__law_part := by
  refine FOk.of (k := 1) (G := [("_law_common", sp__law_common)]) (N := ["_law_top_so", "_law_bottom_so", "_law_own"]) (ps := ["_law_top_so", "_law_bottom_so"]) b__law_part a gk ⟨List.forall_mem_cons.mpr ⟨f__law_common.mono (by decide), fun _ h => nomatch h⟩⟩ ⟨rfl, rfl, rfl, by decide +kernel, rfl, by decide +kernel, by decide +kernel⟩ (fun _ _ _ _ _ _ us hl => match us, hl with | [_, _], _ => rfl) rfl (by decide +kernel) ?_
  intro ws M Q h
  simp only [b__law_part, evSs, evS, ev, evA, evT, evTs, evAnd, evOr, evO, evI, Bool.false_eq_true, reduceIte]
  obtain ⟨t, b, rfl, h0, h1, h2, hq⟩ := h
  fin_places
  refine cCommon ?_
  fin_places
  refine xIf (fun hb => ?_) (fun hb => ?_)
  · fin_places
    refine oDiv (fdOkN h0 h1) ?_
    fin_places
    refine oDiv (fdOkN h0 h1) ?_
    obtain ⟨e1, e2⟩ := part_of_neg t b hb
    rw [e1, e2]
    fin_places
    try exact hq
  · fin_places
    refine oDiv (fdOk h0 h1) ?_
    fin_places
    refine oDiv (fdOk h0 h1) ?_
    obtain ⟨e1, e2⟩ := part_of_pos t b (by omega)
    rw [e1, e2]
    fin_places
    try exact hq
abbrev sp__law_sum : DSp := spQ2 Fit (· + ·)
abbrev sp__law_minus : DSp := spQ1 (- ·)
abbrev sp__law_less : DSp := spQ2 Fit (· - ·)
abbrev sp__law_prod : DSp := spQ2 Fit (· * ·)
abbrev sp__law_quot : DSp := spQ2 FitD (· / ·)
abbrev sp__law_size : DSp := spQ1 rabs
abbrev sp__law_floor : DSp := ⟨1, fun ws M Q => ∃ x, ws = [.d (fr x)] ∧ sz x ≤ 9000 ∧ Q (.d (.int x.floor)) M⟩
abbrev sp__law_times : DSp := ⟨2, fun ws M Q => ∃ x n, ws = [.d (fr x), .d (.int n)] ∧ sz x + sz (n : Rat) ≤ 9000 ∧ Q (.d (fr (x * (n : Rat)))) M⟩
abbrev sp__law_round : DSp := spQ2 (fun x y => y ≠ 0 ∧ 2 * sz x + 2 * sz y + 2 ≤ 9000) rnd
abbrev sp__law_angle : DSp := spQ1 ang
abbrev sp__law_whole : DSp := spQ2v FitD fun x y => .bool (decide ((x / y).den = 1))
abbrev sp_goes_whole : DSp := spQ2v FitD fun x y => .bool (decide ((x / y).den = 1))
abbrev sp__law_gcd_part : DSp := spQ2 Fit cmn
theorem cFloor {x : Rat} {M : MM} {Q : WK} (h : sz x ≤ 9000) (q : Q (.d (.int x.floor)) M) : [W.d (fr x)].length = sp__law_floor.n ∧ sp__law_floor.run [.d (fr x)] M Q := ⟨rfl, x, rfl, h, q⟩
theorem cTimes {x : Rat} {n : Int} {M : MM} {Q : WK} (h : sz x + sz (n : Rat) ≤ 9000) (q : Q (.d (fr (x * (n : Rat)))) M) : [W.d (fr x), .d (.int n)].length = sp__law_times.n ∧ sp__law_times.run [.d (fr x), .d (.int n)] M Q := ⟨rfl, x, n, rfl, h, q⟩
def b__law_sum : List Sm := [(.ret (.call 0 (.cons (.bin .add (.bin .mul (.ix (.var 0) (.lit (.int 0))) (.ix (.var 1) (.lit (.int 1)))) (.bin .mul (.ix (.var 1) (.lit (.int 0))) (.ix (.var 0) (.lit (.int 1))))) (.cons (.bin .mul (.ix (.var 0) (.lit (.int 1))) (.ix (.var 1) (.lit (.int 1)))) .nil))))]
theorem fn__law_sum {g : Gb} (gk : GOk g) (a : At g "_law_sum" 66) (f__law_part : FOk g 2 "_law_part" sp__law_part) : FOk g 3 "_law_sum" sp__law_sum := by
  refine FOk.of (k := 2) (G := [("_law_part", sp__law_part)]) (N := ["_law_one_so", "_law_other_so"]) (ps := ["_law_one_so", "_law_other_so"]) b__law_sum a gk ⟨List.forall_mem_cons.mpr ⟨f__law_part.mono (by decide), fun _ h => nomatch h⟩⟩ ⟨rfl, rfl, rfl, by decide +kernel, rfl, by decide +kernel, by decide +kernel⟩ (fun _ _ _ _ _ _ us hl => match us, hl with | [_, _], _ => rfl) rfl (by decide +kernel) ?_
  intro ws M Q h
  simp only [b__law_sum, evSs, evS, ev, evA, evT, evTs, evAnd, evOr, evO, evI, Bool.false_eq_true, reduceIte]
  obtain ⟨x, y, rfl, hf, hq⟩ := h
  fin_places
  refine oMul (ndOk x y (by omega)) ?_
  fin_places
  refine oMul (ndOk y x (by omega)) ?_
  fin_places
  refine oMul (denOk x y (by omega)) ?_
  fin_places
  refine cPart (denNe x y) (denBits hf) (addNum hf) ?_
  rw [← add_is]
  exact hq
def b__law_minus : List Sm := [(.ret (.tup (.cons (.neg (.ix (.var 0) (.lit (.int 0)))) (.cons (.ix (.var 0) (.lit (.int 1))) .nil))))]
theorem fn__law_minus {g : Gb} (gk : GOk g) (a : At g "_law_minus" 67) : FOk g 1 "_law_minus" sp__law_minus := by
  refine FOk.of (k := 0) (G := []) (N := ["_law_one_so"]) (ps := ["_law_one_so"]) b__law_minus a gk ⟨fun _ h => nomatch h⟩ ⟨rfl, rfl, rfl, by decide +kernel, rfl, by decide +kernel, by decide +kernel⟩ (fun _ _ _ _ _ _ us hl => match us, hl with | [_], _ => rfl) rfl (by decide +kernel) ?_
  intro ws M Q h
  simp only [b__law_minus, evSs, evS, ev, evA, evT, evTs, evAnd, evOr, evO, evI, Bool.false_eq_true, reduceIte]
  obtain ⟨x, rfl, hq⟩ := h
  fin_places
  try rw [neg_fr]
  try exact hq
def b__law_less : List Sm := [(.ret (.call 0 (.cons (.var 0) (.cons (.call 1 (.cons (.var 1) .nil)) .nil))))]
theorem fn__law_less {g : Gb} (gk : GOk g) (a : At g "_law_less" 68) (f__law_sum : FOk g 3 "_law_sum" sp__law_sum) (f__law_minus : FOk g 1 "_law_minus" sp__law_minus) : FOk g 4 "_law_less" sp__law_less := by
  refine FOk.of (k := 3) (G := [("_law_sum", sp__law_sum), ("_law_minus", sp__law_minus)]) (N := ["_law_one_so", "_law_other_so"]) (ps := ["_law_one_so", "_law_other_so"]) b__law_less a gk ⟨List.forall_mem_cons.mpr ⟨f__law_sum.mono (by decide), List.forall_mem_cons.mpr ⟨f__law_minus.mono (by decide), fun _ h => nomatch h⟩⟩⟩ ⟨rfl, rfl, rfl, by decide +kernel, rfl, by decide +kernel, by decide +kernel⟩ (fun _ _ _ _ _ _ us hl => match us, hl with | [_, _], _ => rfl) rfl (by decide +kernel) ?_
  intro ws M Q h
  simp only [b__law_less, evSs, evS, ev, evA, evT, evTs, evAnd, evOr, evO, evI, Bool.false_eq_true, reduceIte]
  obtain ⟨x, y, rfl, hf, hq⟩ := h
  fin_places
  refine cQ1 ?_
  fin_places
  refine cQ2 (by rw [Fit, sz_neg]; exact hf) ?_
  rw [← Rat.sub_eq_add_neg]
  exact hq
def b__law_prod : List Sm := [(.ret (.call 0 (.cons (.bin .mul (.ix (.var 0) (.lit (.int 0))) (.ix (.var 1) (.lit (.int 0)))) (.cons (.bin .mul (.ix (.var 0) (.lit (.int 1))) (.ix (.var 1) (.lit (.int 1)))) .nil))))]
theorem fn__law_prod {g : Gb} (gk : GOk g) (a : At g "_law_prod" 69) (f__law_part : FOk g 2 "_law_part" sp__law_part) : FOk g 3 "_law_prod" sp__law_prod := by
  refine FOk.of (k := 2) (G := [("_law_part", sp__law_part)]) (N := ["_law_one_so", "_law_other_so"]) (ps := ["_law_one_so", "_law_other_so"]) b__law_prod a gk ⟨List.forall_mem_cons.mpr ⟨f__law_part.mono (by decide), fun _ h => nomatch h⟩⟩ ⟨rfl, rfl, rfl, by decide +kernel, rfl, by decide +kernel, by decide +kernel⟩ (fun _ _ _ _ _ _ us hl => match us, hl with | [_, _], _ => rfl) rfl (by decide +kernel) ?_
  intro ws M Q h
  simp only [b__law_prod, evSs, evS, ev, evA, evT, evTs, evAnd, evOr, evO, evI, Bool.false_eq_true, reduceIte]
  obtain ⟨x, y, rfl, hf, hq⟩ := h
  fin_places
  refine oMul (nnOk x y (by omega)) ?_
  fin_places
  refine oMul (denOk x y (by omega)) ?_
  fin_places
  refine cPart (denNe x y) (denBits hf) (mulBits (sz_num x) (sz_num y) (by omega)) ?_
  rw [← mul_is]
  exact hq
def b__law_quot : List Sm := [(.ret (.call 0 (.cons (.bin .mul (.ix (.var 0) (.lit (.int 0))) (.ix (.var 1) (.lit (.int 1)))) (.cons (.bin .mul (.ix (.var 0) (.lit (.int 1))) (.ix (.var 1) (.lit (.int 0)))) .nil))))]
theorem fn__law_quot {g : Gb} (gk : GOk g) (a : At g "_law_quot" 70) (f__law_part : FOk g 2 "_law_part" sp__law_part) : FOk g 3 "_law_quot" sp__law_quot := by
  refine FOk.of (k := 2) (G := [("_law_part", sp__law_part)]) (N := ["_law_one_so", "_law_other_so"]) (ps := ["_law_one_so", "_law_other_so"]) b__law_quot a gk ⟨List.forall_mem_cons.mpr ⟨f__law_part.mono (by decide), fun _ h => nomatch h⟩⟩ ⟨rfl, rfl, rfl, by decide +kernel, rfl, by decide +kernel, by decide +kernel⟩ (fun _ _ _ _ _ _ us hl => match us, hl with | [_, _], _ => rfl) rfl (by decide +kernel) ?_
  intro ws M Q h
  simp only [b__law_quot, evSs, evS, ev, evA, evT, evTs, evAnd, evOr, evO, evI, Bool.false_eq_true, reduceIte]
  obtain ⟨x, y, rfl, ⟨h0, hf⟩, hq⟩ := h
  fin_places
  refine oMul (ndOk x y (by omega)) ?_
  fin_places
  refine oMul (dnOk x y (by omega)) ?_
  fin_places
  refine cPart (Int.mul_ne_zero (den_ne x) (num_ne h0)) (mulBits (sz_den x) (sz_num y) hf) (mulBits (sz_num x) (sz_den y) (by omega)) ?_
  rw [← div_is x y h0]
  exact hq
def b__law_times : List Sm := [(.ret (.call 0 (.cons (.bin .mul (.ix (.var 0) (.lit (.int 0))) (.var 1)) (.cons (.ix (.var 0) (.lit (.int 1))) .nil))))]
theorem fn__law_times {g : Gb} (gk : GOk g) (a : At g "_law_times" 71) (f__law_part : FOk g 2 "_law_part" sp__law_part) : FOk g 3 "_law_times" sp__law_times := by
  refine FOk.of (k := 2) (G := [("_law_part", sp__law_part)]) (N := ["_law_one_so", "_law_number_so"]) (ps := ["_law_one_so", "_law_number_so"]) b__law_times a gk ⟨List.forall_mem_cons.mpr ⟨f__law_part.mono (by decide), fun _ h => nomatch h⟩⟩ ⟨rfl, rfl, rfl, by decide +kernel, rfl, by decide +kernel, by decide +kernel⟩ (fun _ _ _ _ _ _ us hl => match us, hl with | [_, _], _ => rfl) rfl (by decide +kernel) ?_
  intro ws M Q h
  simp only [b__law_times, evSs, evS, ev, evA, evT, evTs, evAnd, evOr, evO, evI, Bool.false_eq_true, reduceIte]
  obtain ⟨x, n, rfl, hf, hq⟩ := h
  have hn := sz_num (n : Rat)
  rw [Rat.num_intCast] at hn
  fin_places
  refine oMul (mulOk (sz_num x) hn (by omega)) ?_
  fin_places
  refine cPart (den_ne x) (lt_of_pow (sz_den x) (by omega)) (mulBits (sz_num x) hn (by omega)) ?_
  have e := mul_is x (n : Rat)
  rw [Rat.num_intCast, Rat.den_intCast] at e
  have e2 : ((x.den : Int) * ((1 : Nat) : Int)) = x.den := by omega
  rw [e2] at e
  rw [← e]
  exact hq
def b__law_size : List Sm := [(.ret (.tup (.cons (.blt .abs (.cons (.ix (.var 0) (.lit (.int 0))) .nil)) (.cons (.ix (.var 0) (.lit (.int 1))) .nil))))]
theorem fn__law_size {g : Gb} (gk : GOk g) (a : At g "_law_size" 72) : FOk g 1 "_law_size" sp__law_size := by
  refine FOk.of (k := 0) (G := []) (N := ["_law_one_so"]) (ps := ["_law_one_so"]) b__law_size a gk ⟨fun _ h => nomatch h⟩ ⟨rfl, rfl, rfl, by decide +kernel, rfl, by decide +kernel, by decide +kernel⟩ (fun _ _ _ _ _ _ us hl => match us, hl with | [_], _ => rfl) rfl (by decide +kernel) ?_
  intro ws M Q h
  simp only [b__law_size, evSs, evS, ev, evA, evT, evTs, evAnd, evOr, evO, evI, Bool.false_eq_true, reduceIte]
  obtain ⟨x, rfl, hq⟩ := h
  fin_places
  try rw [abs_fr]
  try exact hq
def b__law_floor : List Sm := [(.ret (.bin .fdiv (.ix (.var 0) (.lit (.int 0))) (.ix (.var 0) (.lit (.int 1)))))]
theorem fn__law_floor {g : Gb} (gk : GOk g) (a : At g "_law_floor" 73) : FOk g 1 "_law_floor" sp__law_floor := by
  refine FOk.of (k := 0) (G := []) (N := ["_law_one_so"]) (ps := ["_law_one_so"]) b__law_floor a gk ⟨fun _ h => nomatch h⟩ ⟨rfl, rfl, rfl, by decide +kernel, rfl, by decide +kernel, by decide +kernel⟩ (fun _ _ _ _ _ _ us hl => match us, hl with | [_], _ => rfl) rfl (by decide +kernel) ?_
  intro ws M Q h
  simp only [b__law_floor, evSs, evS, ev, evA, evT, evTs, evAnd, evOr, evO, evI, Bool.false_eq_true, reduceIte]
  obtain ⟨x, rfl, hs, hq⟩ := h
  fin_places
  refine oDiv (divOk (den_ne _) (sz_den x) hs) ?_
  rw [floor_is]
  exact hq
def b__law_round : List Sm := [(.asg (.nm 2) (.call 0 (.cons (.call 1 (.cons (.var 0) (.cons (.call 2 (.cons (.var 1) .nil)) .nil))) .nil))), (.ret (.call 3 (.cons (.var 0) (.cons (.call 4 (.cons (.call 2 (.cons (.var 1) .nil)) (.cons (.var 2) .nil))) .nil))))]
theorem fn__law_round {g : Gb} (gk : GOk g) (a : At g "_law_round" 74) (f__law_floor : FOk g 1 "_law_floor" sp__law_floor) (f__law_quot : FOk g 3 "_law_quot" sp__law_quot) (f__law_size : FOk g 1 "_law_size" sp__law_size) (f__law_less : FOk g 4 "_law_less" sp__law_less) (f__law_times : FOk g 3 "_law_times" sp__law_times) : FOk g 5 "_law_round" sp__law_round := by
  refine FOk.of (k := 4) (G := [("_law_floor", sp__law_floor), ("_law_quot", sp__law_quot), ("_law_size", sp__law_size), ("_law_less", sp__law_less), ("_law_times", sp__law_times)]) (N := ["_law_one_so", "_law_other_so", "_law_many_so"]) (ps := ["_law_one_so", "_law_other_so"]) b__law_round a gk ⟨List.forall_mem_cons.mpr ⟨f__law_floor.mono (by decide), List.forall_mem_cons.mpr ⟨f__law_quot.mono (by decide), List.forall_mem_cons.mpr ⟨f__law_size.mono (by decide), List.forall_mem_cons.mpr ⟨f__law_less.mono (by decide), List.forall_mem_cons.mpr ⟨f__law_times.mono (by decide), fun _ h => nomatch h⟩⟩⟩⟩⟩⟩ ⟨rfl, rfl, rfl, by decide +kernel, rfl, by decide +kernel, by decide +kernel⟩ (fun _ _ _ _ _ _ us hl => match us, hl with | [_, _], _ => rfl) rfl (by decide +kernel) ?_
  intro ws M Q h
  simp only [b__law_round, evSs, evS, ev, evA, evT, evTs, evAnd, evOr, evO, evI, Bool.false_eq_true, reduceIte]
  obtain ⟨x, y, rfl, ⟨h0, hf⟩, hq⟩ := h
  have e1 := sz_div x (rabs y) (rabs_ne h0)
  rw [sz_abs] at e1
  have e2 : sz (((x / rabs y).floor : Int) : Rat) ≤ sz x + sz y := sz_int (lt_of_pow (Nat.lt_of_le_of_lt (floor_sz _) (sz_num _)) e1) (by have := sz_pos x; omega)
  have e3 := sz_mul (((x / rabs y).floor : Int) : Rat) (rabs y)
  rw [sz_abs] at e3
  have e4 := sz_abs y
  fin_places
  refine cQ1 ?_
  fin_places
  refine cQ2 (f := (· / ·)) ⟨rabs_ne h0, by omega⟩ ?_
  fin_places
  refine cFloor (by omega) ?_
  fin_places
  refine cQ1 ?_
  fin_places
  refine cTimes (by omega) ?_
  fin_places
  try rw [Rat.mul_comm]
  refine cQ2 (f := (· - ·)) (show _ ≤ _ by omega) ?_
  exact hq
def b__law_angle : List Sm := [(.ret (.tup (.cons (.bin .mod (.ix (.var 0) (.lit (.int 0))) (.ix (.var 0) (.lit (.int 1)))) (.cons (.ix (.var 0) (.lit (.int 1))) .nil))))]
theorem fn__law_angle {g : Gb} (gk : GOk g) (a : At g "_law_angle" 75) : FOk g 1 "_law_angle" sp__law_angle := by
  refine FOk.of (k := 0) (G := []) (N := ["_law_one_so"]) (ps := ["_law_one_so"]) b__law_angle a gk ⟨fun _ h => nomatch h⟩ ⟨rfl, rfl, rfl, by decide +kernel, rfl, by decide +kernel, by decide +kernel⟩ (fun _ _ _ _ _ _ us hl => match us, hl with | [_], _ => rfl) rfl (by decide +kernel) ?_
  intro ws M Q h
  simp only [b__law_angle, evSs, evS, ev, evA, evT, evTs, evAnd, evOr, evO, evI, Bool.false_eq_true, reduceIte]
  obtain ⟨x, rfl, hq⟩ := h
  fin_places
  refine oMod (den_ne x) ?_
  fin_places
  try rw [ang_fr]
  try exact hq
def b__law_whole : List Sm := [(.ret (.cmp .eq (.ix (.call 0 (.cons (.var 0) (.cons (.var 1) .nil))) (.lit (.int 1))) (.lit (.int 1))))]
theorem fn__law_whole {g : Gb} (gk : GOk g) (a : At g "_law_whole" 91) (f__law_quot : FOk g 3 "_law_quot" sp__law_quot) : FOk g 4 "_law_whole" sp__law_whole := by
  refine FOk.of (k := 3) (G := [("_law_quot", sp__law_quot)]) (N := ["_law_one_so", "_law_other_so"]) (ps := ["_law_one_so", "_law_other_so"]) b__law_whole a gk ⟨List.forall_mem_cons.mpr ⟨f__law_quot.mono (by decide), fun _ h => nomatch h⟩⟩ ⟨rfl, rfl, rfl, by decide +kernel, rfl, by decide +kernel, by decide +kernel⟩ (fun _ _ _ _ _ _ us hl => match us, hl with | [_, _], _ => rfl) rfl (by decide +kernel) ?_
  intro ws M Q h
  simp only [b__law_whole, evSs, evS, ev, evA, evT, evTs, evAnd, evOr, evO, evI, Bool.false_eq_true, reduceIte]
  obtain ⟨x, y, rfl, hf, hq⟩ := h
  fin_places
  refine cQ2 (f := (· / ·)) hf ?_
  fin_places
  try rw [one_dec]
  try exact hq
def b_goes_whole : List Sm := [(.ret (.call 0 (.cons (.call 1 (.cons (.var 0) (.cons (.var 1) .nil))) .nil)))]
theorem fn_goes_whole {g : Gb} (gk : GOk g) (a : At g "goes_whole" 40) (f_is_whole : FOk g 1 "is_whole" sp_is_whole) (f_part_over : FOk g 2 "part_over" sp_part_over) : FOk g 3 "goes_whole" sp_goes_whole := by
  refine FOk.of (k := 2) (G := [("is_whole", sp_is_whole), ("part_over", sp_part_over)]) (N := ["one", "other"]) (ps := ["one", "other"]) b_goes_whole a gk ⟨List.forall_mem_cons.mpr ⟨f_is_whole.mono (by decide), List.forall_mem_cons.mpr ⟨f_part_over.mono (by decide), fun _ h => nomatch h⟩⟩⟩ ⟨rfl, rfl, rfl, by decide +kernel, rfl, by decide +kernel, by decide +kernel⟩ (fun _ _ _ _ _ _ us hl => match us, hl with | [_, _], _ => rfl) rfl (by decide +kernel) ?_
  intro ws M Q h
  simp only [b_goes_whole, evSs, evS, ev, evA, evT, evTs, evAnd, evOr, evO, evI, Bool.false_eq_true, reduceIte]
  obtain ⟨x, y, rfl, hf, hq⟩ := h
  fin_places
  refine cQ2 (f := (· / ·)) hf ?_
  fin_places
  refine cQ1v ?_
  try exact hq
def b__law_gcd_part : List Sm := [(.ret (.call 0 (.cons (.call 1 (.cons (.bin .mul (.ix (.var 0) (.lit (.int 0))) (.ix (.var 1) (.lit (.int 1)))) (.cons (.bin .mul (.ix (.var 1) (.lit (.int 0))) (.ix (.var 0) (.lit (.int 1)))) .nil))) (.cons (.bin .mul (.ix (.var 0) (.lit (.int 1))) (.ix (.var 1) (.lit (.int 1)))) .nil))))]
theorem fn__law_gcd_part {g : Gb} (gk : GOk g) (a : At g "_law_gcd_part" 92) (f__law_part : FOk g 2 "_law_part" sp__law_part) (f__law_common : FOk g 1 "_law_common" sp__law_common) : FOk g 3 "_law_gcd_part" sp__law_gcd_part := by
  refine FOk.of (k := 2) (G := [("_law_part", sp__law_part), ("_law_common", sp__law_common)]) (N := ["_law_one_so", "_law_other_so"]) (ps := ["_law_one_so", "_law_other_so"]) b__law_gcd_part a gk ⟨List.forall_mem_cons.mpr ⟨f__law_part.mono (by decide), List.forall_mem_cons.mpr ⟨f__law_common.mono (by decide), fun _ h => nomatch h⟩⟩⟩ ⟨rfl, rfl, rfl, by decide +kernel, rfl, by decide +kernel, by decide +kernel⟩ (fun _ _ _ _ _ _ us hl => match us, hl with | [_, _], _ => rfl) rfl (by decide +kernel) ?_
  intro ws M Q h
  simp only [b__law_gcd_part, evSs, evS, ev, evA, evT, evTs, evAnd, evOr, evO, evI, Bool.false_eq_true, reduceIte]
  obtain ⟨x, y, rfl, hf, hq⟩ := h
  fin_places
  refine oMul (ndOk x y (by omega)) ?_
  fin_places
  refine oMul (ndOk y x (by omega)) ?_
  fin_places
  refine cCommon ?_
  fin_places
  refine oMul (denOk x y (by omega)) ?_
  fin_places
  refine cPart (denNe x y) (denBits hf) ?_ ?_
  · exact gcd_bits (mulBits (sz_num x) (sz_den y) (by omega)) (mulBits (sz_num y) (sz_den x) (by omega))
  · exact hq
end Sh
set_option maxHeartbeats 1000000
namespace Sh
open PySem PySem.Spec PyProof.Rows L2
/-! ## the draws, walked -/
def Tin (k : Nat) (a : Addr) (M : MM) : Prop := ∃ x y z : Int, M a = some (.l [.int x, .int y, .int z]) ∧ 0 ≤ x ∧ 0 ≤ y ∧ y < 2 ^ 70 ∧ 0 ≤ z ∧ z ≤ (k : Int)
def Keep (a : Addr) (M M' : MM) : Prop := ∀ c, c ≠ a → M' c = M c
theorem Keep.refl {a : Addr} {M : MM} : Keep a M M := fun _ _ => rfl
theorem Keep.trans {a : Addr} {M M1 M2 : MM} (h : Keep a M M1) (h' : Keep a M1 M2) : Keep a M M2 := fun c n => (h' c n).trans (h c n)
theorem Tin.mono {k j : Nat} {a : Addr} {M : MM} (h : Tin k a M) (e : k ≤ j) : Tin j a M := by
  obtain ⟨x, y, z, h1, h2, h4, h5, h6, h7⟩ := h
  exact ⟨x, y, z, h1, h2, h4, h5, h6, by omega⟩
abbrev sp__law_take : DSp := ⟨2, fun ws M Q => ∃ a below k, ws = [.box a, .d (.int below)] ∧ 0 < below ∧ below < 2 ^ 60 ∧ Tin k a M ∧ k < 1000000 ∧ ∀ n M', 0 ≤ n → n < below → Tin (k + 1) a M' → Keep a M M' → Q (.d (.int n)) M'⟩
theorem cTake {a : Addr} {below : Int} {k : Nat} {M : MM} {Q : WK} (h1 : 0 < below) (h2 : below < 2 ^ 60) (h3 : Tin k a M) (h4 : k < 1000000) (q : ∀ n M', 0 ≤ n → n < below → Tin (k + 1) a M' → Keep a M M' → Q (.d (.int n)) M') : [W.box a, .d (.int below)].length = sp__law_take.n ∧ sp__law_take.run [.box a, .d (.int below)] M Q := ⟨rfl, a, below, k, rfl, h1, h2, h3, h4, q⟩
theorem bits {a : Int} {n : Nat} (h0 : 0 ≤ a) (h : a < 2 ^ n) : a.natAbs < 2 ^ n := by
  have e : ((2 : Int) ^ n) = ((2 ^ n : Nat) : Int) := by rw [Int.natCast_pow]; rfl
  rw [e] at h
  omega
theorem fdivE {a b : Int} (h : 0 ≤ b) : a.fdiv b = a / b := Int.fdiv_eq_ediv_of_nonneg _ h
theorem fmodE {a b : Int} (h : 0 ≤ b) : a.fmod b = a % b := Int.fmod_eq_emod_of_nonneg _ h
local macro_rules | `(tactic| one_item) => `(tactic| first
  | (with_reducible refine sSeq ?_) | (with_reducible refine sAsg ?_) | (with_reducible refine s2 ?_)
  | ((with_reducible refine' sVar ?k1 ?_); (case k1 => rfl))
  | (with_reducible refine sC ?_) | (with_reducible refine sCons ?_) | (with_reducible refine sNil ?_) | (with_reducible refine sN ?_) | (with_reducible refine s1 ?_)
  | ((with_reducible refine' xBind ?k1 ?_); (case k1 => rfl))
  | ((with_reducible refine' sFnE ?k1 ?_); (case k1 => rfl))
  | (with_reducible refine sIfS ?_) | (with_reducible refine sIf ?_) | (with_reducible refine sB ?_) | (with_reducible refine oCmp ?_) | (with_reducible refine xBool ?_) | (with_reducible refine sRet ?_) | (with_reducible refine sTup ?_) | (with_reducible refine sLst ?_)
  | ((with_reducible refine' xDat ?k1 ?k2 ?_); (case k1 => rfl); (case k2 => (exact Nat.le_of_ble_eq_true rfl)))
  | ((with_reducible refine' oIxT ?k1 ?_); (case k1 => rfl)) | ((with_reducible refine' oIxL ?k1 ?_); (case k1 => rfl))
  | (with_reducible refine oAdd ?_) | (with_reducible refine oSub ?_) | (with_reducible refine oNeg ?_) | (with_reducible refine oGcd ?_) | (with_reducible refine oAbs ?_) | (with_reducible refine oInt ?_)
  | (with_reducible refine oLenT ?_) | (with_reducible refine oLenL ?_) | (with_reducible refine oSlT ?_) | (with_reducible refine oSlL ?_) | (with_reducible refine oTupL ?_) | (with_reducible refine oTupT ?_)
  | (with_reducible refine cLt ?_) | (with_reducible refine cLe ?_) | (with_reducible refine cGt ?_) | (with_reducible refine cGe ?_) | (with_reducible refine cIsN ?_) | (with_reducible refine cNotN ?_) | (with_reducible refine cIsB ?_) | (with_reducible refine cEqI ?_) | (with_reducible refine cNeI ?_)
  | (with_reducible refine sNotT ?_) | (with_reducible refine sAndT ?_) | (with_reducible refine sOrT ?_) | (with_reducible refine sNotV ?_) | (with_reducible refine sAndV ?_) | (with_reducible refine sOrV ?_)
  | (with_reducible refine sSl ?_) | (with_reducible refine sONone ?_) | (with_reducible refine sOSome ?_) | (with_reducible refine xInt ?_) | (with_reducible refine sChn ?_) | (with_reducible refine sPar ?_) | (with_reducible refine xTwo ?_) | (with_reducible refine sIsi ?_) | (with_reducible refine sIsi2 ?_) | (with_reducible refine xD ?_)
  | (with_reducible refine sNext ?_)
  | (with_reducible refine xT ?_) | (with_reducible refine xF ?_))
local macro_rules | `(tactic| fin_places) => `(tactic| (repeat one_item))
def b__law_take : List Sm := [(.ife (.cmp .gt (.ix (.var 0) (.lit (.int 0))) (.lit (.int 0))) [(.asg (.nm 2) (.bin .mod (.blt .int (.cons (.ix (.var 0) (.lit (.int 0))) .nil)) (.var 1))), (.set (.var 0) (.lit (.int 0)) (.bin .fdiv (.ix (.var 0) (.lit (.int 0))) (.var 1))), (.ret (.var 2))] []), (.set (.var 0) (.lit (.int 2)) (.bin .add (.ix (.var 0) (.lit (.int 2))) (.lit (.int 1)))), (.asg (.nm 3) (.bin .mod (.blt .int (.cons (.bin .mul (.bin .add (.ix (.var 0) (.lit (.int 1))) (.bin .mul (.lit (.int 48271)) (.ix (.var 0) (.lit (.int 2))))) (.bin .add (.lit (.int 39373)) (.ix (.var 0) (.lit (.int 2))))) .nil)) (.lit (.int 2147483647)))), (.asg (.nm 4) (.bin .add (.bin .mod (.blt .int (.cons (.var 3) .nil)) (.lit (.int 40009))) (.lit (.int 7)))), (.asg (.nm 5) (.bin .mod (.blt .int (.cons (.bin .mul (.bin .add (.bin .add (.var 3) (.ix (.var 0) (.lit (.int 2)))) (.bin .fdiv (.ix (.var 0) (.lit (.int 1))) (.lit (.int 1000003)))) (.var 4)) .nil)) (.lit (.int 2147483629)))), (.ret (.bin .mod (.blt .int (.cons (.bin .fdiv (.bin .mod (.blt .int (.cons (.bin .add (.bin .mul (.var 5) (.lit (.int 48271))) (.var 3)) .nil)) (.lit (.int 2147483587))) (.lit (.int 64))) .nil)) (.var 1)))]
theorem fn__law_take {g : Gb} (gk : GOk g) (a : At g "_law_take" 57) : FOk g 1 "_law_take" sp__law_take := by
  refine FOk.of (k := 0) (G := []) (N := ["_law_tin", "_law_below_so", "_law_drawn", "_law_once_so", "_law_wide_so", "_law_twice_so"]) (ps := ["_law_tin", "_law_below_so"]) b__law_take a gk ⟨fun _ h => nomatch h⟩ ⟨rfl, rfl, rfl, by decide +kernel, rfl, by decide +kernel, by decide +kernel⟩ (fun _ _ _ _ _ _ us hl => match us, hl with | [_, _], _ => rfl) rfl (by decide +kernel) ?_
  intro ws M Q h
  simp only [b__law_take, evSs, evS, ev, evA, evT, evTs, evAnd, evOr, evO, evI, Bool.false_eq_true, reduceIte]
  obtain ⟨a, below, k, rfl, hb0, hb1, ⟨x, y, z, hM, hx0, hy0, hy1, hz0, hz1⟩, hk, hq⟩ := h
  have bb : below.natAbs < 2 ^ 60 := bits (by omega) hb1
  fin_places
  refine oIxB hM rfl ?_
  fin_places
  refine xIf (fun hx => ?_) (fun hx => ?_)
  · fin_places
    refine oIxB hM rfl ?_
    fin_places
    refine oMod (by omega) ?_
    fin_places
    refine sSet ?_
    fin_places
    refine oIxB hM rfl ?_
    fin_places
    refine oDiv (divOk (by omega) bb (by decide)) ?_
    fin_places
    refine xSet hM rfl ?_
    fin_places
    rw [fmodE (by omega), fdivE (by omega)]
    refine hq _ _ (Int.emod_nonneg _ (by omega)) (Int.emod_lt_of_pos _ hb0) ⟨_, y, z, mset_same, Int.ediv_nonneg hx0 (by omega), hy0, hy1, hz0, by omega⟩ fun c hc => mset_ne hc
  · fin_places
    refine sSet ?_
    fin_places
    refine oIxB hM rfl ?_
    fin_places
    refine xSet hM rfl ?_
    fin_places
    refine oIxB mset_same rfl ?_
    fin_places
    refine oIxB mset_same rfl ?_
    fin_places
    have z21 : z + 1 < 2 ^ 21 := by omega
    refine oMul (mulOk (m := 16) (n := 21) (by decide) (bits (by omega) z21) (by decide)) ?_
    fin_places
    refine oIxB mset_same rfl ?_
    fin_places
    refine oMul (mulOk (m := 72) (n := 22) (bits (by omega) (by omega)) (bits (by omega) (by omega)) (by decide)) ?_
    fin_places
    refine oMod (by decide) ?_
    fin_places
    refine oMod (by decide) ?_
    fin_places
    refine oIxB mset_same rfl ?_
    fin_places
    refine oIxB mset_same rfl ?_
    fin_places
    refine oDiv (divOk (by decide) (n := 20) (by decide) (by decide)) ?_
    fin_places
    rw [fmodE (b := 2147483647) (by decide), fmodE (b := 40009) (by decide), fdivE (b := 1000003) (by decide)]
    generalize e1 : (y + 48271 * (z + 1)) * (39373 + (z + 1)) % 2147483647 = u
    have u0 : 0 ≤ u := by rw [← e1]; exact Int.emod_nonneg _ (by decide)
    have u1 : u < 2147483647 := by rw [← e1]; exact Int.emod_lt_of_pos _ (by decide)
    refine oMul (mulOk (m := 72) (n := 17) (bits (by omega) (by omega)) (bits (by omega) (by omega)) (by decide)) ?_
    fin_places
    refine oMod (by decide) ?_
    fin_places
    rw [fmodE (b := 2147483629) (by decide)]
    generalize e2 : (u + (z + 1) + y / 1000003) * (u % 40009 + 7) % 2147483629 = t
    have t0 : 0 ≤ t := by rw [← e2]; exact Int.emod_nonneg _ (by decide)
    have t1 : t < 2147483629 := by rw [← e2]; exact Int.emod_lt_of_pos _ (by decide)
    refine oMul (mulOk (m := 32) (n := 16) (bits (by omega) (by omega)) (by decide) (by decide)) ?_
    fin_places
    refine oMod (by decide) ?_
    fin_places
    refine oDiv (divOk (by decide) (n := 7) (by decide) (by decide)) ?_
    fin_places
    refine oMod (by omega) ?_
    rw [fmodE (by omega)]
    refine hq _ _ (Int.emod_nonneg _ (by omega)) (Int.emod_lt_of_pos _ hb0) ⟨x, y, z + 1, mset_same, hx0, hy0, hy1, by omega, by omega⟩ fun c hc => mset_ne hc
abbrev sp__law_of : DSp := ⟨2, fun ws M Q => ∃ a xs k, ws = [.box a, .d (.list xs)] ∧ 0 < xs.length ∧ xs.length ≤ 100000 ∧ Tin k a M ∧ k < 1000000 ∧ ∀ x M', x ∈ xs → Tin (k + 1) a M' → Keep a M M' → Q (.d x) M'⟩
theorem cOf {a : Addr} {xs : List PyData} {k : Nat} {M : MM} {Q : WK} (h1 : 0 < xs.length) (h2 : xs.length ≤ 100000) (h3 : Tin k a M) (h4 : k < 1000000) (q : ∀ x M', x ∈ xs → Tin (k + 1) a M' → Keep a M M' → Q (.d x) M') : [W.box a, .d (.list xs)].length = sp__law_of.n ∧ sp__law_of.run [.box a, .d (.list xs)] M Q := ⟨rfl, a, xs, k, rfl, h1, h2, h3, h4, q⟩
theorem at_in {xs : List PyData} {n : Int} (h0 : 0 ≤ n) (h1 : n < xs.length) : ∃ x, atI xs n = some x ∧ x ∈ xs := by
  obtain ⟨j, rfl⟩ := Int.eq_ofNat_of_zero_le h0
  have hj : j < xs.length := by omega
  refine ⟨xs[j], ?_, List.getElem_mem hj⟩
  unfold atI ixN
  have e : (¬ ((j : Int) < 0)) := by omega
  simp [e, hj]
def b__law_of : List Sm := [(.ret (.ix (.var 1) (.call 0 (.cons (.var 0) (.cons (.blt .len (.cons (.var 1) .nil)) .nil)))))]
theorem fn__law_of {g : Gb} (gk : GOk g) (a : At g "_law_of" 59) (f__law_take : FOk g 1 "_law_take" sp__law_take) : FOk g 2 "_law_of" sp__law_of := by
  refine FOk.of (k := 1) (G := [("_law_take", sp__law_take)]) (N := ["_law_tin", "_law_goods_so"]) (ps := ["_law_tin", "_law_goods_so"]) b__law_of a gk ⟨List.forall_mem_cons.mpr ⟨f__law_take.mono (by decide), fun _ h => nomatch h⟩⟩ ⟨rfl, rfl, rfl, by decide +kernel, rfl, by decide +kernel, by decide +kernel⟩ (fun _ _ _ _ _ _ us hl => match us, hl with | [_, _], _ => rfl) rfl (by decide +kernel) ?_
  intro ws M Q h
  simp only [b__law_of, evSs, evS, ev, evA, evT, evTs, evAnd, evOr, evO, evI, Bool.false_eq_true, reduceIte]
  obtain ⟨a, xs, k, rfl, h1, h2, ht, hk, hq⟩ := h
  fin_places
  refine cTake (k := k) (by omega) (by omega) ht hk ?_
  intro n M' h0 hn ht' kp
  obtain ⟨x, e, hx⟩ := at_in h0 hn
  refine oIxL e ?_
  exact hq x M' hx ht' kp
end Sh
set_option maxHeartbeats 1000000
namespace Sh
open PySem PySem.Spec PyProof.Rows L2
/-! ## comprehensions, typed -/
theorem lc_typed {α : Type} {tg : Tg} {rt : RdT} {re : RdE} {δ0 : En} {M : MM} {Q : WK} (enc : α → W) (f : α → PyData) (c : α → Bool) (env : α → En) : ∀ (ts : List α) (acc : List PyData), (∀ t ∈ ts, bindD tg (enc t) δ0 = some (env t)) → (∀ t ∈ ts, ∀ Qb : Bool → MM → Prop, Qb (c t) M → rt (env t) M Qb) → (∀ t ∈ ts, c t = true → ∀ Q' : WK, Q' (.d (f t)) M → re (env t) M Q') →
    Q (.d (.list (acc ++ (ts.filter c).map f))) M → lcGo tg rt re δ0 (ts.map enc) acc M Q
  | [], acc, _, _, _, q => by
    rw [List.filter_nil, List.map_nil, List.append_nil] at q
    exact q
  | t :: ts, acc, h1, h2, h3, q => by
    refine ⟨env t, h1 t List.mem_cons_self, h2 t List.mem_cons_self _ ?_⟩
    have sub : ∀ u ∈ ts, u ∈ t :: ts := fun u hu => List.mem_cons_of_mem _ hu
    cases hc : c t with
    | true =>
      rw [if_pos rfl]
      refine h3 t List.mem_cons_self hc _ ⟨f t, rfl, lc_typed enc f c env ts _ (fun u hu => h1 u (sub u hu)) (fun u hu => h2 u (sub u hu)) (fun u hu => h3 u (sub u hu)) ?_⟩
      rw [List.filter_cons_of_pos hc, List.map_cons] at q
      rw [List.append_assoc]
      exact q
    | false =>
      rw [if_neg Bool.false_ne_true]
      refine lc_typed enc f c env ts _ (fun u hu => h1 u (sub u hu)) (fun u hu => h2 u (sub u hu)) (fun u hu => h3 u (sub u hu)) ?_
      rw [List.filter_cons_of_neg (by rw [hc]; decide)] at q
      exact q
/-- all of them, mapped -/
theorem lc_map {α : Type} {tg : Tg} {re : RdE} {δ0 : En} {M : MM} {Q : WK} (enc : α → W) (f : α → PyData) (env : α → En) (ts : List α) (h1 : ∀ t ∈ ts, bindD tg (enc t) δ0 = some (env t)) (h3 : ∀ t ∈ ts, ∀ Q' : WK, Q' (.d (f t)) M → re (env t) M Q') (q : Q (.d (.list (ts.map f))) M) :
    lcGo tg (fun _ M (Qb : Bool → MM → Prop) => Qb true M) re δ0 (ts.map enc) [] M Q := by
  refine lc_typed enc f (fun _ => true) env ts [] h1 (fun _ _ _ h => h) (fun t ht _ => h3 t ht) ?_
  rw [List.filter_eq_self.mpr fun _ _ => rfl, List.nil_append]
  exact q
section
variable {δ : En} {M : MM} {Q : WK} {ri : RdI} {tg : Tg} {rt : RdT} {re ra : RdE} {vs : List Nat} {QI : List W → MM → Prop} {rA : RdA}
theorem sLc (q : ri δ M fun ws M1 => ws.length ≤ 100000 ∧ lcGo tg rt re (wipeD δ vs) ws [] M1 Q) : rdLc ri tg rt re vs δ M Q := q
theorem sSeqI (q : ra δ M fun w M1 => ∃ ds, seqOf w = some ds ∧ QI (ds.map .d) M1) : rdSeqI ra δ M QI := q
theorem xSeqL {xs : List PyData} {P : List PyData → Prop} (q : P xs) : ∃ ds, seqOf (.d (.list xs)) = some ds ∧ P ds := ⟨xs, rfl, q⟩
theorem xSeqT {xs : List PyData} {P : List PyData → Prop} (q : P xs) : ∃ ds, seqOf (.d (.tuple xs)) = some ds ∧ P ds := ⟨xs, rfl, q⟩
end
/-! ## tupled, _law_lists -/
mutual
def tupD : PyData → PyData
  | .list xs => .tuple (tupDs xs)
  | .tuple xs => .tuple (tupDs xs)
  | .none => .none
  | .bool b => .bool b
  | .int i => .int i
  | .str s => .str s
  | .dict k => .dict k
def tupDs : List PyData → List PyData
  | [] => []
  | x :: xs => tupD x :: tupDs xs
def lstD : PyData → PyData
  | .list xs => .list (lstDs xs)
  | .tuple xs => .list (lstDs xs)
  | .none => .none
  | .bool b => .bool b
  | .int i => .int i
  | .str s => .str s
  | .dict k => .dict k
def lstDs : List PyData → List PyData
  | [] => []
  | x :: xs => lstD x :: lstDs xs
end
theorem tupDs_map : ∀ xs : List PyData, tupDs xs = xs.map tupD
  | [] => rfl
  | x :: xs => by rw [tupDs, tupDs_map xs]; rfl
theorem lstDs_map : ∀ xs : List PyData, lstDs xs = xs.map lstD
  | [] => rfl
  | x :: xs => by rw [lstDs, lstDs_map xs]; rfl
/-- at most n levels of lists and tuples -/
def dep : Nat → PyData → Prop
  | 0, _ => False
  | n + 1, .list xs => xs.length ≤ 100000 ∧ ∀ x ∈ xs, dep n x
  | n + 1, .tuple xs => xs.length ≤ 100000 ∧ ∀ x ∈ xs, dep n x
  | _ + 1, .dict _ => False
  | _ + 1, _ => True
def spTup (n : Nat) : DSp := ⟨1, fun ws M Q => ∃ d, ws = [.d d] ∧ dep n d ∧ Q (.d (tupD d)) M⟩
def spLst (n : Nat) : DSp := ⟨1, fun ws M Q => ∃ d, ws = [.d d] ∧ dep n d ∧ Q (.d (lstD d)) M⟩
theorem cTup {n : Nat} {d : PyData} {M : MM} {Q : WK} (h : dep n d) (q : Q (.d (tupD d)) M) : [W.d d].length = (spTup n).n ∧ (spTup n).run [.d d] M Q := ⟨rfl, d, rfl, h, q⟩
theorem cLst {n : Nat} {d : PyData} {M : MM} {Q : WK} (h : dep n d) (q : Q (.d (lstD d)) M) : [W.d d].length = (spLst n).n ∧ (spLst n).run [.d d] M Q := ⟨rfl, d, rfl, h, q⟩
/-- not a list, not a tuple -/
def flat : PyData → Prop
  | .list _ => False
  | .tuple _ => False
  | .dict _ => False
  | _ => True
theorem dep_cases {n : Nat} {d : PyData} (h : dep (n + 1) d) : (flat d ∧ isC .list d = false ∧ isC .tuple d = false ∧ tupD d = d ∧ lstD d = d) ∨ ∃ xs, (d = .list xs ∨ d = .tuple xs) ∧ xs.length ≤ 100000 ∧ ∀ x ∈ xs, dep n x := by
  cases d with
  | list xs => exact .inr ⟨xs, .inl rfl, h⟩
  | tuple xs => exact .inr ⟨xs, .inr rfl, h⟩
  | dict k => exact h.elim
  | _ => exact .inl ⟨trivial, rfl, rfl, rfl, rfl⟩
local macro_rules | `(tactic| one_item) => `(tactic| first
  | (with_reducible refine sSeq ?_) | (with_reducible refine sAsg ?_) | (with_reducible refine s2 ?_)
  | ((with_reducible refine' sVar ?k1 ?_); (case k1 => rfl))
  | (with_reducible refine sC ?_) | (with_reducible refine sCons ?_) | (with_reducible refine sNil ?_) | (with_reducible refine sN ?_) | (with_reducible refine s1 ?_)
  | ((with_reducible refine' xBind ?k1 ?_); (case k1 => rfl))
  | ((with_reducible refine' sFnE ?k1 ?_); (case k1 => rfl))
  | (with_reducible refine sIfS ?_) | (with_reducible refine sIf ?_) | (with_reducible refine sB ?_) | (with_reducible refine oCmp ?_) | (with_reducible refine xBool ?_) | (with_reducible refine sRet ?_) | (with_reducible refine sTup ?_) | (with_reducible refine sLst ?_)
  | ((with_reducible refine' xDat ?k1 ?k2 ?_); (case k1 => rfl); (case k2 => (exact Nat.le_of_ble_eq_true rfl)))
  | ((with_reducible refine' oIxT ?k1 ?_); (case k1 => rfl)) | ((with_reducible refine' oIxL ?k1 ?_); (case k1 => rfl))
  | (with_reducible refine oAdd ?_) | (with_reducible refine oSub ?_) | (with_reducible refine oNeg ?_) | (with_reducible refine oGcd ?_) | (with_reducible refine oAbs ?_) | (with_reducible refine oInt ?_)
  | (with_reducible refine oLenT ?_) | (with_reducible refine oLenL ?_) | (with_reducible refine oSlT ?_) | (with_reducible refine oSlL ?_) | (with_reducible refine oTupL ?_) | (with_reducible refine oTupT ?_)
  | (with_reducible refine cLt ?_) | (with_reducible refine cLe ?_) | (with_reducible refine cGt ?_) | (with_reducible refine cGe ?_) | (with_reducible refine cIsN ?_) | (with_reducible refine cNotN ?_) | (with_reducible refine cIsB ?_) | (with_reducible refine cEqI ?_) | (with_reducible refine cNeI ?_)
  | (with_reducible refine sNotT ?_) | (with_reducible refine sAndT ?_) | (with_reducible refine sOrT ?_) | (with_reducible refine sNotV ?_) | (with_reducible refine sAndV ?_) | (with_reducible refine sOrV ?_)
  | (with_reducible refine sSl ?_) | (with_reducible refine sONone ?_) | (with_reducible refine sOSome ?_) | (with_reducible refine xInt ?_) | (with_reducible refine sChn ?_) | (with_reducible refine sPar ?_) | (with_reducible refine xTwo ?_) | (with_reducible refine sIsi ?_) | (with_reducible refine sIsi2 ?_) | (with_reducible refine xD ?_)
  | (with_reducible refine sNext ?_)
  | (with_reducible refine xT ?_) | (with_reducible refine xF ?_))
local macro_rules | `(tactic| fin_places) => `(tactic| (repeat one_item))
def b_tupled : List Sm := [(.ret (.ife (.val (.isi2 (.var 0) .list .tuple)) (.blt .tuple (.cons (.lc (.call 0 (.cons (.var 1) .nil)) (.nm 1) (.seq (.var 0)) .yes [1]) .nil)) (.var 0)))]
theorem fn_tupled {g : Gb} (gk : GOk g) (a : At g "tupled" 21) : ∀ n, FOk g n "tupled" (spTup n) := by
  intro n
  induction n with
  | zero => exact FOk.dead a ["thing"] (fun _ _ _ _ _ _ us hl => match us, hl with | [_], _ => rfl) fun ws M Q ⟨d, _, h, _⟩ => by cases d <;> exact h
  | succ n ih =>
    refine FOk.of (k := n) (G := [("tupled", spTup n)]) (N := ["thing", "part"]) (ps := ["thing"]) b_tupled a gk ⟨List.forall_mem_cons.mpr ⟨ih, fun _ h => nomatch h⟩⟩ ⟨rfl, rfl, rfl, by decide +kernel, rfl, by decide +kernel, by decide +kernel⟩ (fun _ _ _ _ _ _ us hl => match us, hl with | [_], _ => rfl) rfl (by kernel_rfl) ?_
    intro ws M Q h
    simp only [b_tupled, evSs, evS, ev, evA, evT, evTs, evAnd, evOr, evO, evI]
    obtain ⟨d, rfl, hd, hq⟩ := h
    fin_places
    rcases dep_cases hd with ⟨_, e1, e2, e3, _⟩ | ⟨xs, ex, hl, hx⟩
    · rw [e3] at hq
      rw [e1, e2, Bool.or_self]
      fin_places
      try exact hq
    · have tr : (isC .list d || isC .tuple d) = true := by rcases ex with rfl | rfl <;> rfl
      rw [tr]
      fin_places
      refine sLc (sSeqI ?_)
      fin_places
      refine ⟨xs, by rcases ex with rfl | rfl <;> rfl, by rw [List.length_map]; exact hl, ?_⟩
      refine lc_map (fun x => .d x) tupD (fun x => _) xs (fun t _ => rfl) (fun t ht Q' q => ?_) ?_
      · fin_places
        exact cTup (hx t ht) q
      · fin_places
        have e : tupD d = .tuple (xs.map tupD) := by rw [← tupDs_map]; rcases ex with rfl | rfl <;> rfl
        rw [e] at hq
        try exact hq
def b__law_lists : List Sm := [(.ret (.ife (.val (.isi2 (.var 0) .list .tuple)) (.lc (.call 0 (.cons (.var 1) .nil)) (.nm 1) (.seq (.var 0)) .yes [1]) (.var 0)))]
theorem fn__law_lists {g : Gb} (gk : GOk g) (a : At g "_law_lists" 60) : ∀ n, FOk g n "_law_lists" (spLst n) := by
  intro n
  induction n with
  | zero => exact FOk.dead a ["_law_matter"] (fun _ _ _ _ _ _ us hl => match us, hl with | [_], _ => rfl) fun ws M Q ⟨d, _, h, _⟩ => by cases d <;> exact h
  | succ n ih =>
    refine FOk.of (k := n) (G := [("_law_lists", spLst n)]) (N := ["_law_matter", "_law_bit"]) (ps := ["_law_matter"]) b__law_lists a gk ⟨List.forall_mem_cons.mpr ⟨ih, fun _ h => nomatch h⟩⟩ ⟨rfl, rfl, rfl, by decide +kernel, rfl, by decide +kernel, by decide +kernel⟩ (fun _ _ _ _ _ _ us hl => match us, hl with | [_], _ => rfl) rfl (by kernel_rfl) ?_
    intro ws M Q h
    simp only [b__law_lists, evSs, evS, ev, evA, evT, evTs, evAnd, evOr, evO, evI]
    obtain ⟨d, rfl, hd, hq⟩ := h
    fin_places
    rcases dep_cases hd with ⟨_, e1, e2, _, e3⟩ | ⟨xs, ex, hl, hx⟩
    · rw [e3] at hq
      rw [e1, e2, Bool.or_self]
      fin_places
      try exact hq
    · have tr : (isC .list d || isC .tuple d) = true := by rcases ex with rfl | rfl <;> rfl
      rw [tr]
      fin_places
      refine sLc (sSeqI ?_)
      fin_places
      refine ⟨xs, by rcases ex with rfl | rfl <;> rfl, by rw [List.length_map]; exact hl, ?_⟩
      refine lc_map (fun x => .d x) lstD (fun x => _) xs (fun t _ => rfl) (fun t ht Q' q => ?_) ?_
      · fin_places
        exact cLst (hx t ht) q
      · have e : lstD d = .list (xs.map lstD) := by rw [← lstDs_map]; rcases ex with rfl | rfl <;> rfl
        rw [e] at hq
        try exact hq
end Sh
set_option maxHeartbeats 1000000
namespace Sh
open PySem PySem.Spec PyProof.Rows L2
/-! ## data without truth values -/
mutual
def nob : PyData → Prop
  | .bool _ => False
  | .dict _ => False
  | .list xs => nobs xs
  | .tuple xs => nobs xs
  | _ => True
def nobs : List PyData → Prop
  | [] => True
  | x :: xs => nob x ∧ nobs xs
end
theorem nobs_of : ∀ {xs : List PyData}, (∀ x ∈ xs, nob x) → nobs xs
  | [], _ => trivial
  | x :: xs, h => ⟨h x List.mem_cons_self, nobs_of fun y hy => h y (List.mem_cons_of_mem _ hy)⟩
mutual
theorem eqv_eq : ∀ (x y : PyData), nob x → nob y → PyData.eqv x y = true → x = y
  | .none, y, _, _, h => by cases y <;> first | rfl | (simp [PyData.eqv] at h)
  | .bool b, _, hx, _, _ => by unfold nob at hx; exact hx.elim
  | .dict b, _, hx, _, _ => by unfold nob at hx; exact hx.elim
  | .int i, y, _, hy, h => by
    cases y with
    | int j => simp [PyData.eqv] at h; rw [h]
    | bool b => unfold nob at hy; exact hy.elim
    | _ => simp [PyData.eqv] at h
  | .str s, y, _, _, h => by
    cases y with
    | str t => simp [PyData.eqv] at h; rw [h]
    | _ => simp [PyData.eqv] at h
  | .list xs, y, hx, hy, h => by
    cases y with
    | list ys =>
      unfold nob at hx hy
      rw [PyData.eqv] at h
      rw [eqvs_eq xs ys hx hy h]
    | _ => simp [PyData.eqv] at h
  | .tuple xs, y, hx, hy, h => by
    cases y with
    | tuple ys =>
      unfold nob at hx hy
      rw [PyData.eqv] at h
      rw [eqvs_eq xs ys hx hy h]
    | _ => simp [PyData.eqv] at h
theorem eqvs_eq : ∀ (xs ys : List PyData), nobs xs → nobs ys → PyData.eqvAll xs ys = true → xs = ys
  | [], [], _, _, _ => rfl
  | [], _ :: _, _, _, h => by simp [PyData.eqvAll] at h
  | _ :: _, [], _, _, h => by simp [PyData.eqvAll] at h
  | x :: xs, y :: ys, hx, hy, h => by
    rw [PyData.eqvAll, Bool.and_eq_true] at h
    rw [eqv_eq x y hx.1 hy.1 h.1, eqvs_eq xs ys hx.2 hy.2 h.2]
end
mutual
theorem eqv_self : ∀ x : PyData, nob x → PyData.eqv x x = true
  | .none, _ => by simp [PyData.eqv]
  | .bool b, hx => by unfold nob at hx; exact hx.elim
  | .dict b, hx => by unfold nob at hx; exact hx.elim
  | .int i, _ => by simp [PyData.eqv]
  | .str s, _ => by simp [PyData.eqv]
  | .list xs, hx => by unfold nob at hx; rw [PyData.eqv]; exact eqvs_self xs hx
  | .tuple xs, hx => by unfold nob at hx; rw [PyData.eqv]; exact eqvs_self xs hx
theorem eqvs_self : ∀ xs : List PyData, nobs xs → PyData.eqvAll xs xs = true
  | [], _ => by simp [PyData.eqvAll]
  | x :: xs, hx => by rw [PyData.eqvAll, eqv_self x hx.1, eqvs_self xs hx.2]; rfl
end
theorem eqv_iff {x y : PyData} (hx : nob x) (hy : nob y) : (PyData.eqv x y = true) ↔ x = y := ⟨eqv_eq x y hx hy, fun e => by rw [e]; exact eqv_self y hy⟩
/-! ### the order -/
theorem toks_inj {x y : PyData} (al : PySem.W.alike x y = true) (e : PySem.W.keyToks x = PySem.W.keyToks y) : PyData.eqv x y = true := by
  cases h : PyData.eqv x y with
  | true => rfl
  | false =>
    have q := (PySem.W.toks_eqv x y al).2 h [] [Sum.inl 0]
    rw [e, PySem.W.lex_pre, lex_irrefl] at q
    exact absurd q (by decide)
abbrev leD (x y : PyData) : Bool := PySem.W.dataLe false id x y
theorem leD_is (x y : PyData) : leD x y = !PySem.W.dataLt y x := rfl
theorem leD_total (x y : PyData) : (leD x y || leD y x) = true := by
  rw [leD_is, leD_is]
  cases h : PySem.W.dataLt y x with
  | false => rfl
  | true =>
    cases h2 : PySem.W.dataLt x y with
    | false => rfl
    | true =>
      have := lex_trans _ _ _ h h2
      rw [lex_irrefl] at this
      cases this
theorem leD_trans (x y z : PyData) (h1 : leD x y = true) (h2 : leD y z = true) : leD x z = true := by
  rw [leD_is] at h1 h2 ⊢
  cases h : PySem.W.dataLt z x with
  | false => rfl
  | true =>
    rcases lex_negTrans _ (PySem.W.keyToks y) _ h with q | q
    · rw [show PySem.W.dataLt z y = true from q] at h2; cases h2
    · rw [show PySem.W.dataLt y x = true from q] at h1; cases h1
theorem leD_anti {x y : PyData} (al : PySem.W.alike x y = true) (hx : nob x) (hy : nob y) (h1 : leD x y = true) (h2 : leD y x = true) : x = y := by
  rw [leD_is] at h1 h2
  refine eqv_eq x y hx hy (toks_inj al (lex_total (O := itemOrd) (PySem.W.keyToks x) (PySem.W.keyToks y) ?_ ?_))
  · cases h : PyProof.Rows.lexLt itemOrd (PySem.W.keyToks x) (PySem.W.keyToks y) with
    | false => rfl
    | true => rw [show PySem.W.dataLt x y = true from h] at h2; cases h2
  · cases h : PyProof.Rows.lexLt itemOrd (PySem.W.keyToks y) (PySem.W.keyToks x) with
    | false => rfl
    | true => rw [show PySem.W.dataLt y x = true from h] at h1; cases h1
/-- a kind of data that can be sorted -/
structure Kd (α : Type) where
  enc : α → PyData
  inj : ∀ x y, enc x = enc y → x = y
  nob : ∀ x, nob (enc x)
  al : ∀ x y, PySem.W.alike (enc x) (enc y) = true
  tup : ∀ x, ∃ y r, enc x = .tuple (y :: r)
  lev : ∀ x, lev 30 (enc x)
section
variable {α : Type} (κ : Kd α)
def Kd.le (x y : α) : Bool := leD (κ.enc x) (κ.enc y)
def Kd.Srt (L : List α) : Prop := L.Pairwise fun x y => κ.le x y = true
theorem Kd.anti {x y : α} (h1 : κ.le x y = true) (h2 : κ.le y x = true) : x = y := κ.inj _ _ (leD_anti (κ.al x y) (κ.nob x) (κ.nob y) h1 h2)
theorem Kd.sortOk (L : List α) : SortOk (L.map κ.enc) := by
  refine ⟨PySem.W.AllAlike.of κ.al, PySem.W.Sortable.tuples κ.tup, fun d hd => ?_⟩
  obtain ⟨x, _, rfl⟩ := List.mem_map.mp hd
  exact κ.lev x
/-- what sorting gives -/
theorem Kd.sorted (L : List α) : ∃ L' : List α, L'.Perm L ∧ κ.Srt L' ∧ sortD (L.map κ.enc) = L'.map κ.enc := by
  have pm : (sortD (L.map κ.enc)).Perm (L.map κ.enc) := List.mergeSort_perm _ _
  obtain ⟨L', p, e⟩ := perm_lift κ.enc pm
  refine ⟨L', p, ?_, e.symm⟩
  have pw : (sortD (L.map κ.enc)).Pairwise fun x y => leD x y = true := List.pairwise_mergeSort leD_trans leD_total _
  rw [← e, List.pairwise_map] at pw
  exact pw
theorem Kd.uniq : ∀ {A B : List α}, κ.Srt A → κ.Srt B → A.Perm B → A = B
  | [], B, _, _, p => (List.Perm.nil_eq p)
  | a :: A, [], _, _, p => by cases p.length_eq
  | a :: A, b :: B, ha, hb, p => by
    have ha' := List.pairwise_cons.mp ha
    have hb' := List.pairwise_cons.mp hb
    have e : a = b := by
      have h1 : a ∈ b :: B := p.mem_iff.mp List.mem_cons_self
      have h2 : b ∈ a :: A := p.mem_iff.mpr List.mem_cons_self
      rcases List.mem_cons.mp h1 with h1 | h1
      · exact h1
      · rcases List.mem_cons.mp h2 with h2 | h2
        · exact h2.symm
        · exact κ.anti (ha'.1 b h2) (hb'.1 a h1)
    subst e
    rw [Kd.uniq ha'.2 hb'.2 p.cons_inv]
theorem Kd.uniq_mem {A B : List α} (ha : κ.Srt A) (hb : κ.Srt B) (na : A.Nodup) (nb : B.Nodup) (h : ∀ x, x ∈ A ↔ x ∈ B) : A = B := κ.uniq ha hb ((List.perm_ext_iff_of_nodup na nb).mpr h)
theorem Kd.map_inj {A B : List α} (h : A.map κ.enc = B.map κ.enc) : A = B := by
  induction A generalizing B with
  | nil => cases B with
    | nil => rfl
    | cons b B => cases h
  | cons a A ih => cases B with
    | nil => cases h
    | cons b B =>
      rw [List.map_cons, List.map_cons, List.cons.injEq] at h
      rw [κ.inj _ _ h.1, ih h.2]
theorem Kd.nobs (L : List α) : nobs (L.map κ.enc) := nobs_of fun d hd => by
  obtain ⟨x, _, rfl⟩ := List.mem_map.mp hd
  exact κ.nob x
/-- == of two lists, of two tuples of such data -/
theorem Kd.eqvs [DecidableEq α] (A B : List α) : PyData.eqvAll (A.map κ.enc) (B.map κ.enc) = decide (A = B) := by
  rw [Bool.eq_iff_iff, decide_eq_true_eq]
  refine ⟨fun h => κ.map_inj (eqvs_eq _ _ (κ.nobs A) (κ.nobs B) h), fun h => ?_⟩
  rw [h]
  exact eqvs_self _ (κ.nobs B)
end
end Sh
set_option maxHeartbeats 1000000
namespace Sh
open PySem PySem.Spec PyProof.Rows L2
/-! ## lines, sorts, bands -/
inductive Ln where
  | ring (q : Rat)
  | flute (q : Rat)
  | lead (l p : Rat)
  deriving DecidableEq
inductive So where
  | ring
  | flute
  | lead (l : Rat)
  deriving DecidableEq
abbrev Pr := Ln × Int
abbrev sR : PyData := .str "ring"
abbrev sF : PyData := .str "flute"
abbrev sL : PyData := .str "lead"
def Ln.d : Ln → PyData
  | .ring q => .tuple [sR, fr q]
  | .flute q => .tuple [sF, fr q]
  | .lead l p => .tuple [sL, fr l, fr p]
def So.d : So → PyData
  | .ring => .tuple [sR]
  | .flute => .tuple [sF]
  | .lead l => .tuple [sL, fr l]
abbrev Pr.d (x : Pr) : PyData := .tuple [x.1.d, .int x.2]
theorem fr_inj {x y : Rat} (h : fr x = fr y) : x = y := by
  have e : [PyData.int x.num, .int (x.den : Int)] = [.int y.num, .int (y.den : Int)] := PyData.tuple.inj h
  simp only [List.cons.injEq, PyData.int.injEq, and_true] at e
  exact Rat.ext e.1 (by omega)
theorem tup_inj {xs ys : List PyData} (h : PyData.tuple xs = .tuple ys) : xs = ys := PyData.tuple.inj h
theorem ne_RF : sR ≠ sF := fun h => absurd (PyData.str.inj h) (by decide +kernel)
theorem ne_RL : sR ≠ sL := fun h => absurd (PyData.str.inj h) (by decide +kernel)
theorem ne_FL : sF ≠ sL := fun h => absurd (PyData.str.inj h) (by decide +kernel)
theorem Ln.inj : ∀ x y : Ln, x.d = y.d → x = y
  | .ring q, .ring r, h => by
    have e := tup_inj h
    simp only [List.cons.injEq, and_true, true_and] at e
    rw [fr_inj e]
  | .flute q, .flute r, h => by
    have e := tup_inj h
    simp only [List.cons.injEq, and_true, true_and] at e
    rw [fr_inj e]
  | .lead l p, .lead m r, h => by
    have e := tup_inj h
    simp only [List.cons.injEq, and_true, true_and] at e
    rw [fr_inj e.1, fr_inj e.2]
  | .ring q, .flute r, h => absurd (List.cons.inj (tup_inj h)).1 ne_RF
  | .ring q, .lead l p, h => absurd (List.cons.inj (tup_inj h)).1 ne_RL
  | .flute q, .ring r, h => absurd (List.cons.inj (tup_inj h)).1 ne_RF.symm
  | .flute q, .lead l p, h => absurd (List.cons.inj (tup_inj h)).1 ne_FL
  | .lead l p, .ring r, h => absurd (List.cons.inj (tup_inj h)).1 ne_RL.symm
  | .lead l p, .flute r, h => absurd (List.cons.inj (tup_inj h)).1 ne_FL.symm
theorem So.inj : ∀ x y : So, x.d = y.d → x = y
  | .ring, .ring, h => rfl
  | .flute, .flute, h => rfl
  | .lead l, .lead m, h => by
    have e := tup_inj h
    simp only [List.cons.injEq, and_true, true_and] at e
    rw [fr_inj e]
  | .ring, .flute, h => absurd (List.cons.inj (tup_inj h)).1 ne_RF
  | .ring, .lead l, h => absurd (List.cons.inj (tup_inj h)).1 ne_RL
  | .flute, .ring, h => absurd (List.cons.inj (tup_inj h)).1 ne_RF.symm
  | .flute, .lead l, h => absurd (List.cons.inj (tup_inj h)).1 ne_FL
  | .lead l, .ring, h => absurd (List.cons.inj (tup_inj h)).1 ne_RL.symm
  | .lead l, .flute, h => absurd (List.cons.inj (tup_inj h)).1 ne_FL.symm
theorem Pr.inj (x y : Pr) (h : Pr.d x = Pr.d y) : x = y := by
  have e := tup_inj h
  simp only [List.cons.injEq, and_true, PyData.int.injEq] at e
  exact Prod.ext (Ln.inj _ _ e.1) e.2
theorem fr_nob (q : Rat) : nob (fr q) := ⟨trivial, trivial, trivial⟩
theorem Ln.nob : ∀ x : Ln, nob x.d
  | .ring q => ⟨trivial, fr_nob q, trivial⟩
  | .flute q => ⟨trivial, fr_nob q, trivial⟩
  | .lead l p => ⟨trivial, fr_nob l, fr_nob p, trivial⟩
theorem So.nob : ∀ x : So, nob x.d
  | .ring => ⟨trivial, trivial⟩
  | .flute => ⟨trivial, trivial⟩
  | .lead l => ⟨trivial, fr_nob l, trivial⟩
theorem Pr.nob (x : Pr) : Sh.nob (Pr.d x) := ⟨x.1.nob, trivial, trivial⟩
theorem fr_al (p q : Rat) : PySem.W.alike (fr p) (fr q) = true := by simp [PySem.W.alike, PySem.W.alikeAll]
theorem Ln.al (x y : Ln) : PySem.W.alike x.d y.d = true := by
  cases x <;> cases y <;> simp [Ln.d, PySem.W.alike, PySem.W.alikeAll]
theorem So.al (x y : So) : PySem.W.alike x.d y.d = true := by
  cases x <;> cases y <;> simp [So.d, PySem.W.alike, PySem.W.alikeAll]
theorem Pr.al (x y : Pr) : PySem.W.alike (Pr.d x) (Pr.d y) = true := by
  show PySem.W.alike (.tuple [x.1.d, .int x.2]) (.tuple [y.1.d, .int y.2]) = true
  simp [PySem.W.alike, PySem.W.alikeAll, Ln.al]
theorem fr_lev (n : Nat) (q : Rat) : lev (n + 1) (fr q) := fun x hx => by
  simp only [List.mem_cons, List.not_mem_nil, or_false] at hx
  rcases hx with rfl | rfl <;> cases n <;> trivial
theorem sR_lev (n : Nat) : lev n sR := by cases n <;> (show _ = true; decide +kernel)
theorem sF_lev (n : Nat) : lev n sF := by cases n <;> (show _ = true; decide +kernel)
theorem sL_lev (n : Nat) : lev n sL := by cases n <;> (show _ = true; decide +kernel)
theorem Ln.lev' (n : Nat) : ∀ x : Ln, lev (n + 2) x.d
  | .ring q => fun y hy => by
    simp only [List.mem_cons, List.not_mem_nil, or_false] at hy
    rcases hy with rfl | rfl
    · exact sR_lev _
    · exact fr_lev n q
  | .flute q => fun y hy => by
    simp only [List.mem_cons, List.not_mem_nil, or_false] at hy
    rcases hy with rfl | rfl
    · exact sF_lev _
    · exact fr_lev n q
  | .lead l p => fun y hy => by
    simp only [List.mem_cons, List.not_mem_nil, or_false] at hy
    rcases hy with rfl | rfl | rfl
    · exact sL_lev _
    · exact fr_lev n l
    · exact fr_lev n p
theorem So.lev' (n : Nat) : ∀ x : So, lev (n + 2) x.d
  | .ring => fun y hy => by rw [List.mem_singleton.mp hy]; exact sR_lev _
  | .flute => fun y hy => by rw [List.mem_singleton.mp hy]; exact sF_lev _
  | .lead l => fun y hy => by
    simp only [List.mem_cons, List.not_mem_nil, or_false] at hy
    rcases hy with rfl | rfl
    · exact sL_lev _
    · exact fr_lev n l
theorem Pr.lev' (n : Nat) (x : Pr) : lev (n + 3) (Pr.d x) := fun y hy => by
  simp only [List.mem_cons, List.not_mem_nil, or_false] at hy
  rcases hy with rfl | rfl
  · exact Ln.lev' n x.1
  · trivial
def kSo : Kd So := ⟨So.d, So.inj, So.nob, So.al, fun x => by cases x <;> exact ⟨_, _, rfl⟩, So.lev' 28⟩
def kPr : Kd Pr := ⟨Pr.d, Pr.inj, Pr.nob, Pr.al, fun x => ⟨_, _, rfl⟩, Pr.lev' 27⟩
/-! ### as keys -/
def frK (q : Rat) : NestedKey := .tup [.num q.num, .num (q.den : Int)]
theorem fr_key (q : Rat) : toNK (fr q) = some (frK q) := rfl
theorem Ln.key (x : Ln) : KeyD x.d := by
  cases x with
  | ring q => exact ⟨.tup [.text "ring", frK q], _, rfl, rfl, by simp [NestedKey.depth, NestedKey.depthAll, frK]⟩
  | flute q => exact ⟨.tup [.text "flute", frK q], _, rfl, rfl, by simp [NestedKey.depth, NestedKey.depthAll, frK]⟩
  | lead l p => exact ⟨.tup [.text "lead", frK l, frK p], _, rfl, rfl, by simp [NestedKey.depth, NestedKey.depthAll, frK]⟩
theorem So.key (x : So) : KeyD x.d := by
  cases x with
  | ring => exact ⟨.tup [.text "ring"], _, rfl, rfl, by simp [NestedKey.depth, NestedKey.depthAll]⟩
  | flute => exact ⟨.tup [.text "flute"], _, rfl, rfl, by simp [NestedKey.depth, NestedKey.depthAll]⟩
  | lead l => exact ⟨.tup [.text "lead", frK l], _, rfl, rfl, by simp [NestedKey.depth, NestedKey.depthAll, frK]⟩
theorem Pr.key (x : Pr) : KeyD (Pr.d x) := by
  obtain ⟨l, n⟩ := x
  cases l with
  | ring q => exact ⟨.tup [.tup [.text "ring", frK q], .num n], _, rfl, rfl, by simp [NestedKey.depth, NestedKey.depthAll, frK]⟩
  | flute q => exact ⟨.tup [.tup [.text "flute", frK q], .num n], _, rfl, rfl, by simp [NestedKey.depth, NestedKey.depthAll, frK]⟩
  | lead l p => exact ⟨.tup [.tup [.text "lead", frK l, frK p], .num n], _, rfl, rfl, by simp [NestedKey.depth, NestedKey.depthAll, frK]⟩
mutual
theorem nk_inj : ∀ (x y : PyData) (k : NestedKey), nob x → nob y → toNK x = some k → toNK y = some k → x = y
  | .none, y, k, _, hy, h1, h2 => by
    cases h1
    cases y with
    | none => rfl
    | bool b => unfold nob at hy; exact hy.elim
    | tuple ys => unfold toNK at h2; cases q : toNKs ys <;> (rw [q] at h2; cases h2)
    | _ => cases h2
  | .bool b, y, k, hx, _, _, _ => by unfold nob at hx; exact hx.elim
  | .int i, y, k, _, hy, h1, h2 => by
    cases h1
    cases y with
    | int j => cases h2; rfl
    | bool b => unfold nob at hy; exact hy.elim
    | tuple ys => unfold toNK at h2; cases q : toNKs ys <;> (rw [q] at h2; cases h2)
    | _ => cases h2
  | .str i, y, k, _, hy, h1, h2 => by
    cases h1
    cases y with
    | str j => cases h2; rfl
    | bool b => unfold nob at hy; exact hy.elim
    | tuple ys => unfold toNK at h2; cases q : toNKs ys <;> (rw [q] at h2; cases h2)
    | _ => cases h2
  | .list xs, y, k, _, _, h1, _ => by cases h1
  | .dict xs, y, k, _, _, h1, _ => by cases h1
  | .tuple xs, y, k, hx, hy, h1, h2 => by
    unfold toNK at h1
    cases q : toNKs xs with
    | none => rw [q] at h1; cases h1
    | some ks =>
      rw [q] at h1
      cases h1
      cases y with
      | tuple ys =>
        unfold toNK at h2
        cases q2 : toNKs ys with
        | none => rw [q2] at h2; cases h2
        | some ks2 =>
          rw [q2] at h2
          cases h2
          unfold nob at hx hy
          rw [nks_inj xs ys ks hx hy q q2]
      | bool b => unfold nob at hy; exact hy.elim
      | _ => cases h2
theorem nks_inj : ∀ (xs ys : List PyData) (ks : List NestedKey), nobs xs → nobs ys → toNKs xs = some ks → toNKs ys = some ks → xs = ys
  | [], ys, ks, _, _, h1, h2 => by
    cases h1
    cases ys with
    | nil => rfl
    | cons y ys => unfold toNKs at h2; split at h2 <;> cases h2
  | x :: xs, ys, ks, hx, hy, h1, h2 => by
    unfold toNKs at h1
    split at h1
    · rename_i k0 ks0 e1 e2
      cases h1
      cases ys with
      | nil => cases h2
      | cons y ys =>
        unfold toNKs at h2
        split at h2
        · rename_i k1 ks1 e3 e4
          cases h2
          rw [nk_inj x y _ hx.1 hy.1 e1 e3, nks_inj xs ys _ hx.2 hy.2 e2 e4]
        · cases h2
    · cases h1
end
/-- the same key, the same datum -/
theorem key_inj {x y : PyData} (hx : nob x) (hy : nob y) (kx : KeyD x) (h : toNK x = toNK y) : x = y := by
  obtain ⟨k, _, _, e, _⟩ := kx
  exact nk_inj x y k hx hy e (by rw [← h]; exact e)
theorem Kd.keys_nodup {α : Type} (κ : Kd α) (hk : ∀ x, KeyD (κ.enc x)) {L : List α} (h : ((L.map κ.enc).map toNK).Nodup) : L.Nodup := by
  rw [List.map_map] at h
  exact List.Pairwise.of_map _ (fun a b ne e => ne (by rw [e])) h
theorem Kd.nodup_keys {α : Type} (κ : Kd α) (hk : ∀ x, KeyD (κ.enc x)) {L : List α} (h : L.Nodup) : ((L.map κ.enc).map toNK).Nodup := by
  rw [List.map_map]
  refine List.pairwise_map.mpr (h.imp fun ne e => ne (κ.inj _ _ (key_inj (κ.nob _) (κ.nob _) (hk _) e)))
/-! ### how deep -/
theorem fr_dep (n : Nat) (q : Rat) : dep (n + 2) (fr q) := ⟨by show 2 ≤ 100000; decide, fun x hx => by
  simp only [List.mem_cons, List.not_mem_nil, or_false] at hx
  rcases hx with rfl | rfl <;> trivial⟩
theorem Ln.dep (n : Nat) (x : Ln) : dep (n + 3) x.d := by
  cases x with
  | ring q => exact ⟨by show 2 ≤ 100000; decide, fun y hy => by
      simp only [List.mem_cons, List.not_mem_nil, or_false] at hy
      rcases hy with rfl | rfl
      · trivial
      · exact fr_dep n q⟩
  | flute q => exact ⟨by show 2 ≤ 100000; decide, fun y hy => by
      simp only [List.mem_cons, List.not_mem_nil, or_false] at hy
      rcases hy with rfl | rfl
      · trivial
      · exact fr_dep n q⟩
  | lead l p => exact ⟨by show 3 ≤ 100000; decide, fun y hy => by
      simp only [List.mem_cons, List.not_mem_nil, or_false] at hy
      rcases hy with rfl | rfl | rfl
      · trivial
      · exact fr_dep n l
      · exact fr_dep n p⟩
theorem Pr.dep (n : Nat) (x : Pr) : Sh.dep (n + 4) (Pr.d x) := ⟨by show 2 ≤ 100000; decide, fun y hy => by
  simp only [List.mem_cons, List.not_mem_nil, or_false] at hy
  rcases hy with rfl | rfl
  · exact Ln.dep n x.1
  · trivial⟩
/-- a band -/
abbrev bD (L : List Pr) : PyData := .tuple (L.map Pr.d)
theorem bD_dep (n : Nat) (L : List Pr) (h : L.length ≤ 100000) : dep (n + 5) (bD L) := ⟨by rw [List.length_map]; exact h, fun y hy => by
  obtain ⟨x, _, rfl⟩ := List.mem_map.mp hy
  exact Pr.dep n x⟩
theorem fr_tup (q : Rat) : tupD (fr q) = fr q := rfl
theorem Ln.tup (x : Ln) : tupD x.d = x.d := by cases x <;> rfl
theorem Pr.tup (x : Pr) : tupD (Pr.d x) = Pr.d x := by
  show PyData.tuple [tupD x.1.d, .int x.2] = _
  rw [Ln.tup]
theorem bD_tup (L : List Pr) : tupD (bD L) = bD L := by
  show PyData.tuple (tupDs (L.map Pr.d)) = _
  rw [tupDs_map, List.map_map]
  exact congrArg PyData.tuple (List.map_congr_left fun x _ => Pr.tup x)
mutual
theorem tup_lst : ∀ d : PyData, tupD (lstD d) = tupD d
  | .list xs => by rw [lstD, tupD, tupD, tups_lst xs]
  | .tuple xs => by rw [lstD, tupD, tupD, tups_lst xs]
  | .none => rfl
  | .bool _ => rfl
  | .int _ => rfl
  | .str _ => rfl
  | .dict _ => rfl
theorem tups_lst : ∀ ds : List PyData, tupDs (lstDs ds) = tupDs ds
  | [] => rfl
  | d :: ds => by rw [lstDs, tupDs, tupDs, tup_lst d, tups_lst ds]
end
theorem dep_lst : ∀ (n : Nat) (d : PyData), dep n d → dep n (lstD d)
  | 0, d, h => by cases d <;> exact h.elim
  | n + 1, .list xs, h => by
    rw [lstD, lstDs_map]
    refine ⟨by rw [List.length_map]; exact h.1, fun y hy => ?_⟩
    obtain ⟨x, hx, rfl⟩ := List.mem_map.mp hy
    exact dep_lst n x (h.2 x hx)
  | n + 1, .tuple xs, h => by
    rw [lstD, lstDs_map]
    refine ⟨by rw [List.length_map]; exact h.1, fun y hy => ?_⟩
    obtain ⟨x, hx, rfl⟩ := List.mem_map.mp hy
    exact dep_lst n x (h.2 x hx)
  | n + 1, .none, h => h
  | n + 1, .bool _, h => h
  | n + 1, .int _, h => h
  | n + 1, .str _, h => h
  | n + 1, .dict _, h => h
end Sh
set_option maxHeartbeats 1000000
namespace Sh
open PySem PySem.Spec PyProof.Rows L2
/-! ## shapes, lines, walked -/
abbrev mo (z t : Rat) : PyData := .tuple [fr z, fr t]
abbrev isAn (q : Rat) : Bool := decide (0 ≤ q ∧ q < 1)
theorem z_fr : fr 0 = .tuple [.int 0, .int 1] := rfl
theorem o_fr : fr 1 = .tuple [.int 1, .int 1] := rfl
theorem sz_0 : sz 0 = 1 := by decide +kernel
theorem sz_1 : sz 1 = 1 := by decide +kernel
local macro_rules | `(tactic| one_item) => `(tactic| first
  | (with_reducible refine sSeq ?_) | (with_reducible refine sAsg ?_) | (with_reducible refine s2 ?_)
  | ((with_reducible refine' sVar ?k1 ?_); (case k1 => rfl))
  | (with_reducible refine sC ?_) | (with_reducible refine sCons ?_) | (with_reducible refine sNil ?_) | (with_reducible refine sN ?_) | (with_reducible refine s1 ?_)
  | ((with_reducible refine' xBind ?k1 ?_); (case k1 => rfl))
  | ((with_reducible refine' sFnE ?k1 ?_); (case k1 => rfl))
  | (with_reducible refine sIfS ?_) | (with_reducible refine sIf ?_) | (with_reducible refine sB ?_) | (with_reducible refine oCmp ?_) | (with_reducible refine xBool ?_) | (with_reducible refine sRet ?_) | (with_reducible refine sTup ?_) | (with_reducible refine sLst ?_)
  | ((with_reducible refine' xDat ?k1 ?k2 ?_); (case k1 => rfl); (case k2 => (exact Nat.le_of_ble_eq_true rfl)))
  | ((with_reducible refine' oIxT ?k1 ?_); (case k1 => rfl)) | ((with_reducible refine' oIxL ?k1 ?_); (case k1 => rfl))
  | (with_reducible refine oAdd ?_) | (with_reducible refine oSub ?_) | (with_reducible refine oNeg ?_) | (with_reducible refine oGcd ?_) | (with_reducible refine oAbs ?_) | (with_reducible refine oInt ?_)
  | (with_reducible refine oLenT ?_) | (with_reducible refine oLenL ?_) | (with_reducible refine oSlT ?_) | (with_reducible refine oSlL ?_) | (with_reducible refine oTupL ?_) | (with_reducible refine oTupT ?_)
  | (with_reducible refine cLt ?_) | (with_reducible refine cLe ?_) | (with_reducible refine cGt ?_) | (with_reducible refine cGe ?_) | (with_reducible refine cIsN ?_) | (with_reducible refine cNotN ?_) | (with_reducible refine cIsB ?_) | (with_reducible refine cEqI ?_) | (with_reducible refine cNeI ?_)
  | (with_reducible refine sNotT ?_) | (with_reducible refine sAndT ?_) | (with_reducible refine sOrT ?_) | (with_reducible refine sNotV ?_) | (with_reducible refine sAndV ?_) | (with_reducible refine sOrV ?_)
  | (with_reducible refine sSl ?_) | (with_reducible refine sONone ?_) | (with_reducible refine sOSome ?_) | (with_reducible refine xInt ?_) | (with_reducible refine sChn ?_) | (with_reducible refine sPar ?_) | (with_reducible refine xTwo ?_) | (with_reducible refine sIsi ?_) | (with_reducible refine sIsi2 ?_) | (with_reducible refine xD ?_)
  | (with_reducible refine sNext ?_)
  | (with_reducible refine xT ?_) | (with_reducible refine xF ?_))
local macro_rules | `(tactic| fin_places) => `(tactic| (repeat one_item))
abbrev sp_is_number : DSp := ⟨1, fun ws M Q => ∃ i, ws = [.d (.int i)] ∧ Q (.d (.bool true)) M⟩
abbrev sp__law_is_number : DSp := ⟨1, fun ws M Q => ∃ i, ws = [.d (.int i)] ∧ Q (.d (.bool true)) M⟩
abbrev sp_is_tuple_of : DSp := ⟨2, fun ws M Q => ∃ d n, ws = [.d d, .d (.int n)] ∧ ((∃ xs, d = .tuple xs ∧ Q (.d (.bool (decide ((xs.length : Int) = n)))) M) ∨ (isC .tuple d = false ∧ Q (.d (.bool false)) M))⟩
abbrev spYes : DSp := ⟨1, fun ws M Q => ∃ q, ws = [.d (fr q)] ∧ Q (.d (.bool true)) M⟩
abbrev sp_is_fraction : DSp := spYes
abbrev sp__law_is_part : DSp := spYes
abbrev spAng : DSp := ⟨1, fun ws M Q => ∃ q, ws = [.d (fr q)] ∧ sz q ≤ 8000 ∧ Q (.d (.bool (isAn q))) M⟩
abbrev sp_is_angle : DSp := spAng
abbrev sp__law_is_angle : DSp := spAng
abbrev spPt : DSp := ⟨1, fun ws M Q => ∃ d, ws = [.d d] ∧ ((∃ z t, d = mo z t ∧ sz t ≤ 8000 ∧ Q (.d (.bool (isAn t))) M) ∨ (isC .tuple d = false ∧ Q (.d (.bool false)) M))⟩
abbrev sp_is_point : DSp := spPt
abbrev sp_is_motion_shape : DSp := spPt
abbrev sp__law_is_point : DSp := spPt
section
variable {M : MM} {Q : WK} {i n : Int} {xs : List PyData} {d : PyData} {q z t : Rat}
theorem cNum (q : Q (.d (.bool true)) M) : [W.d (.int i)].length = sp_is_number.n ∧ sp_is_number.run [.d (.int i)] M Q := ⟨rfl, i, rfl, q⟩
theorem cTupOf (q : Q (.d (.bool (decide ((xs.length : Int) = n)))) M) : [W.d (.tuple xs), .d (.int n)].length = sp_is_tuple_of.n ∧ sp_is_tuple_of.run [.d (.tuple xs), .d (.int n)] M Q := ⟨rfl, _, n, rfl, .inl ⟨xs, rfl, q⟩⟩
theorem cTupNo (h : isC .tuple d = false) (q : Q (.d (.bool false)) M) : [W.d d, .d (.int n)].length = sp_is_tuple_of.n ∧ sp_is_tuple_of.run [.d d, .d (.int n)] M Q := ⟨rfl, _, n, rfl, .inr ⟨h, q⟩⟩
theorem cYes (h : Q (.d (.bool true)) M) : [W.d (fr q)].length = spYes.n ∧ spYes.run [.d (fr q)] M Q := ⟨rfl, q, rfl, h⟩
theorem cAng (hs : sz q ≤ 8000) (h : Q (.d (.bool (isAn q))) M) : [W.d (fr q)].length = spAng.n ∧ spAng.run [.d (fr q)] M Q := ⟨rfl, q, rfl, hs, h⟩
theorem cPt (hs : sz t ≤ 8000) (h : Q (.d (.bool (isAn t))) M) : [W.d (mo z t)].length = spPt.n ∧ spPt.run [.d (mo z t)] M Q := ⟨rfl, _, rfl, .inl ⟨z, t, rfl, hs, h⟩⟩
theorem cPtNo (hd : isC .tuple d = false) (h : Q (.d (.bool false)) M) : [W.d d].length = spPt.n ∧ spPt.run [.d d] M Q := ⟨rfl, _, rfl, .inr ⟨hd, h⟩⟩
end
theorem gcd_fr (q : Rat) : ((Nat.gcd q.num.natAbs (q.den : Int).natAbs : Nat) : Int) = 1 := by
  rw [Int.natAbs_natCast]
  have := q.reduced
  unfold Nat.Coprime at this
  rw [this]
  rfl
def b_is_number : List Sm := [(.ret (.and_ (.cons (.isi (.var 0) .int) (.cons (.not_ (.isi (.var 0) .bool)) .nil))))]
theorem fn_is_number {g : Gb} (gk : GOk g) (a : At g "is_number" 22) : FOk g 1 "is_number" sp_is_number := by
  refine FOk.of (k := 0) (G := []) (N := ["thing"]) (ps := ["thing"]) b_is_number a gk ⟨fun _ h => nomatch h⟩ ⟨rfl, rfl, rfl, by decide +kernel, rfl, by decide +kernel, by decide +kernel⟩ (fun _ _ _ _ _ _ us hl => match us, hl with | [_], _ => rfl) rfl (by decide +kernel) ?_
  intro ws M Q h
  simp only [b_is_number, evSs, evS, ev, evA, evT, evTs, evAnd, evOr, evO, evI, Bool.false_eq_true, reduceIte]
  obtain ⟨i, rfl, hq⟩ := h
  fin_places
  rw [show isC .int (.int i) = true from rfl]
  fin_places
  rw [show isC .bool (.int i) = false from rfl]
  fin_places
  try exact hq
def b__law_is_number : List Sm := [(.ret (.and_ (.cons (.isi (.var 0) .int) (.cons (.not_ (.isi (.var 0) .bool)) .nil))))]
theorem fn__law_is_number {g : Gb} (gk : GOk g) (a : At g "_law_is_number" 62) : FOk g 1 "_law_is_number" sp__law_is_number := by
  refine FOk.of (k := 0) (G := []) (N := ["_law_own"]) (ps := ["_law_own"]) b__law_is_number a gk ⟨fun _ h => nomatch h⟩ ⟨rfl, rfl, rfl, by decide +kernel, rfl, by decide +kernel, by decide +kernel⟩ (fun _ _ _ _ _ _ us hl => match us, hl with | [_], _ => rfl) rfl (by decide +kernel) ?_
  intro ws M Q h
  simp only [b__law_is_number, evSs, evS, ev, evA, evT, evTs, evAnd, evOr, evO, evI, Bool.false_eq_true, reduceIte]
  obtain ⟨i, rfl, hq⟩ := h
  fin_places
  rw [show isC .int (.int i) = true from rfl]
  fin_places
  rw [show isC .bool (.int i) = false from rfl]
  fin_places
  try exact hq
def b_is_tuple_of : List Sm := [(.ret (.and_ (.cons (.isi (.var 0) .tuple) (.cons (.cmp .eq (.blt .len (.cons (.var 0) .nil)) (.var 1)) .nil))))]
theorem fn_is_tuple_of {g : Gb} (gk : GOk g) (a : At g "is_tuple_of" 23) : FOk g 1 "is_tuple_of" sp_is_tuple_of := by
  refine FOk.of (k := 0) (G := []) (N := ["thing", "size"]) (ps := ["thing", "size"]) b_is_tuple_of a gk ⟨fun _ h => nomatch h⟩ ⟨rfl, rfl, rfl, by decide +kernel, rfl, by decide +kernel, by decide +kernel⟩ (fun _ _ _ _ _ _ us hl => match us, hl with | [_, _], _ => rfl) rfl (by decide +kernel) ?_
  intro ws M Q h
  simp only [b_is_tuple_of, evSs, evS, ev, evA, evT, evTs, evAnd, evOr, evO, evI, Bool.false_eq_true, reduceIte]
  obtain ⟨d, n, rfl, ⟨xs, rfl, hq⟩ | ⟨hd, hq⟩⟩ := h
  · fin_places
    rw [show isC .tuple (.tuple xs) = true from rfl]
    fin_places
    try exact hq
  · fin_places
    try rw [hd]
    fin_places
    try exact hq
def b_is_fraction : List Sm := [(.ife (.or_ (.cons (.not_ (.val (.call 0 (.cons (.var 0) (.cons (.lit (.int 2)) .nil))))) (.cons (.not_ (.val (.call 1 (.cons (.ix (.var 0) (.lit (.int 0))) .nil)))) (.cons (.not_ (.val (.call 1 (.cons (.ix (.var 0) (.lit (.int 1))) .nil)))) .nil)))) [(.ret (.lit (.bool false)))] []), (.ret (.and_ (.cons (.cmp .ge (.ix (.var 0) (.lit (.int 1))) (.lit (.int 1))) (.cons (.cmp .eq (.blt .gcd (.cons (.ix (.var 0) (.lit (.int 0))) (.cons (.ix (.var 0) (.lit (.int 1))) .nil))) (.lit (.int 1))) .nil))))]
theorem fn_is_fraction {g : Gb} (gk : GOk g) (a : At g "is_fraction" 24) (f_is_tuple_of : FOk g 1 "is_tuple_of" sp_is_tuple_of) (f_is_number : FOk g 1 "is_number" sp_is_number) : FOk g 2 "is_fraction" sp_is_fraction := by
  refine FOk.of (k := 1) (G := [("is_tuple_of", sp_is_tuple_of), ("is_number", sp_is_number)]) (N := ["thing"]) (ps := ["thing"]) b_is_fraction a gk ⟨List.forall_mem_cons.mpr ⟨f_is_tuple_of.mono (by decide), List.forall_mem_cons.mpr ⟨f_is_number.mono (by decide), fun _ h => nomatch h⟩⟩⟩ ⟨rfl, rfl, rfl, by decide +kernel, rfl, by decide +kernel, by decide +kernel⟩ (fun _ _ _ _ _ _ us hl => match us, hl with | [_], _ => rfl) rfl (by decide +kernel) ?_
  intro ws M Q h
  simp only [b_is_fraction, evSs, evS, ev, evA, evT, evTs, evAnd, evOr, evO, evI, Bool.false_eq_true, reduceIte]
  obtain ⟨q, rfl, hq⟩ := h
  fin_places
  refine cTupOf ?_
  fin_places
  rw [show decide (((([PyData.int q.num, .int (q.den : Int)] : List PyData).length : Nat) : Int) = 2) = true from rfl, Bool.not_true]
  fin_places
  refine cNum ?_
  fin_places
  rw [Bool.not_true]
  fin_places
  refine cNum ?_
  fin_places
  rw [Bool.not_true]
  fin_places
  rw [decide_eq_true (one_den q)]
  fin_places
  rw [gcd_fr]
  try exact hq
def b__law_is_part : List Sm := [(.ife (.or_ (.cons (.not_ (.val (.isi (.var 0) .tuple))) (.cons (.cmp .ne (.blt .len (.cons (.var 0) .nil)) (.lit (.int 2))) (.cons (.not_ (.val (.call 0 (.cons (.ix (.var 0) (.lit (.int 0))) .nil)))) (.cons (.not_ (.val (.call 0 (.cons (.ix (.var 0) (.lit (.int 1))) .nil)))) .nil))))) [(.ret (.lit (.bool false)))] []), (.ret (.and_ (.cons (.cmp .ge (.ix (.var 0) (.lit (.int 1))) (.lit (.int 1))) (.cons (.cmp .eq (.call 1 (.cons (.ix (.var 0) (.lit (.int 0))) (.cons (.ix (.var 0) (.lit (.int 1))) .nil))) (.lit (.int 1))) .nil))))]
theorem fn__law_is_part {g : Gb} (gk : GOk g) (a : At g "_law_is_part" 76) (f__law_is_number : FOk g 1 "_law_is_number" sp__law_is_number) (f__law_common : FOk g 1 "_law_common" sp__law_common) : FOk g 2 "_law_is_part" sp__law_is_part := by
  refine FOk.of (k := 1) (G := [("_law_is_number", sp__law_is_number), ("_law_common", sp__law_common)]) (N := ["_law_own"]) (ps := ["_law_own"]) b__law_is_part a gk ⟨List.forall_mem_cons.mpr ⟨f__law_is_number.mono (by decide), List.forall_mem_cons.mpr ⟨f__law_common.mono (by decide), fun _ h => nomatch h⟩⟩⟩ ⟨rfl, rfl, rfl, by decide +kernel, rfl, by decide +kernel, by decide +kernel⟩ (fun _ _ _ _ _ _ us hl => match us, hl with | [_], _ => rfl) rfl (by decide +kernel) ?_
  intro ws M Q h
  simp only [b__law_is_part, evSs, evS, ev, evA, evT, evTs, evAnd, evOr, evO, evI, Bool.false_eq_true, reduceIte]
  obtain ⟨q, rfl, hq⟩ := h
  fin_places
  rw [show isC .tuple (fr q) = true from rfl, Bool.not_true]
  fin_places
  rw [show decide (((([PyData.int q.num, .int (q.den : Int)] : List PyData).length : Nat) : Int) = 2) = true from rfl, Bool.not_true]
  fin_places
  refine cNum ?_
  fin_places
  rw [Bool.not_true]
  fin_places
  refine cNum ?_
  fin_places
  rw [Bool.not_true]
  fin_places
  rw [decide_eq_true (one_den q)]
  fin_places
  refine cCommon ?_
  fin_places
  rw [gcd_fr]
  try exact hq
def b_is_angle : List Sm := [(.ret (.and_ (.cons (.call 0 (.cons (.var 0) .nil)) (.cons (.call 1 (.cons (.glob false) (.cons (.var 0) .nil))) (.cons (.call 2 (.cons (.var 0) (.cons (.glob true) .nil))) .nil)))))]
theorem fn_is_angle {g : Gb} (gk : GOk g) (a : At g "is_angle" 25) (f_is_fraction : FOk g 2 "is_fraction" sp_is_fraction) (f_at_most : FOk g 1 "at_most" sp_at_most) (f_is_below : FOk g 1 "is_below" sp_is_below) : FOk g 3 "is_angle" sp_is_angle := by
  refine FOk.of (k := 2) (G := [("is_fraction", sp_is_fraction), ("at_most", sp_at_most), ("is_below", sp_is_below)]) (N := ["thing"]) (ps := ["thing"]) b_is_angle a gk ⟨List.forall_mem_cons.mpr ⟨f_is_fraction.mono (by decide), List.forall_mem_cons.mpr ⟨f_at_most.mono (by decide), List.forall_mem_cons.mpr ⟨f_is_below.mono (by decide), fun _ h => nomatch h⟩⟩⟩⟩ ⟨rfl, rfl, rfl, by decide +kernel, rfl, by decide +kernel, by decide +kernel⟩ (fun _ _ _ _ _ _ us hl => match us, hl with | [_], _ => rfl) rfl (by decide +kernel) ?_
  intro ws M Q h
  simp only [b_is_angle, evSs, evS, ev, evA, evT, evTs, evAnd, evOr, evO, evI, Bool.false_eq_true, reduceIte]
  obtain ⟨q, rfl, hs, hq⟩ := h
  fin_places
  refine cYes ?_
  fin_places
  refine cQ2v (x := 0) (y := q) (by rw [Fit, sz_0]; omega) ?_
  fin_places
  refine xIf (fun h0 => ?_) (fun h0 => ?_)
  · fin_places
    refine cQ2v (x := q) (y := 1) (by rw [Fit, sz_1]; omega) ?_
    have e : isAn q = decide (q < 1) := decide_eq_decide.mpr ⟨fun h => h.2, fun h => ⟨h0, h⟩⟩
    try rw [e] at hq
    try exact hq
  · have e : isAn q = false := decide_eq_false fun h => h0 h.1
    try rw [e] at hq
    try exact hq
def b__law_is_angle : List Sm := [(.ret (.and_ (.cons (.call 0 (.cons (.var 0) .nil)) (.cons (.chn .le .lt (.lit (.int 0)) (.ix (.var 0) (.lit (.int 0))) (.ix (.var 0) (.lit (.int 1)))) .nil))))]
theorem fn__law_is_angle {g : Gb} (gk : GOk g) (a : At g "_law_is_angle" 77) (f__law_is_part : FOk g 2 "_law_is_part" sp__law_is_part) : FOk g 3 "_law_is_angle" sp__law_is_angle := by
  refine FOk.of (k := 2) (G := [("_law_is_part", sp__law_is_part)]) (N := ["_law_own"]) (ps := ["_law_own"]) b__law_is_angle a gk ⟨List.forall_mem_cons.mpr ⟨f__law_is_part.mono (by decide), fun _ h => nomatch h⟩⟩ ⟨rfl, rfl, rfl, by decide +kernel, rfl, by decide +kernel, by decide +kernel⟩ (fun _ _ _ _ _ _ us hl => match us, hl with | [_], _ => rfl) rfl (by decide +kernel) ?_
  intro ws M Q h
  simp only [b__law_is_angle, evSs, evS, ev, evA, evT, evTs, evAnd, evOr, evO, evI, Bool.false_eq_true, reduceIte]
  obtain ⟨q, rfl, hs, hq⟩ := h
  fin_places
  refine cYes ?_
  fin_places
  have h1 : (0 ≤ q.num) ↔ 0 ≤ q := by
    rw [Rat.le_iff]
    show _ ↔ (0 : Int) * _ ≤ q.num * 1
    omega
  have h2 : (q.num < (q.den : Int)) ↔ q < 1 := by
    rw [Rat.lt_iff]
    show _ ↔ q.num * 1 < 1 * (q.den : Int)
    omega
  refine xIf (fun h0 => ?_) (fun h0 => ?_)
  · have e : isAn q = decide (q.num < (q.den : Int)) := decide_eq_decide.mpr ⟨fun h => h2.mpr h.2, fun h => ⟨h1.mp h0, h2.mp h⟩⟩
    rw [e] at hq
    fin_places
    try exact hq
  · have e : isAn q = false := decide_eq_false fun h => h0 (h1.mpr h.1)
    try rw [e] at hq
    try exact hq
def b_is_point : List Sm := [(.ret (.and_ (.cons (.call 0 (.cons (.var 0) (.cons (.lit (.int 2)) .nil))) (.cons (.call 1 (.cons (.ix (.var 0) (.lit (.int 0))) .nil)) (.cons (.call 2 (.cons (.ix (.var 0) (.lit (.int 1))) .nil)) .nil)))))]
theorem fn_is_point {g : Gb} (gk : GOk g) (a : At g "is_point" 26) (f_is_tuple_of : FOk g 1 "is_tuple_of" sp_is_tuple_of) (f_is_fraction : FOk g 2 "is_fraction" sp_is_fraction) (f_is_angle : FOk g 3 "is_angle" sp_is_angle) : FOk g 4 "is_point" sp_is_point := by
  refine FOk.of (k := 3) (G := [("is_tuple_of", sp_is_tuple_of), ("is_fraction", sp_is_fraction), ("is_angle", sp_is_angle)]) (N := ["thing"]) (ps := ["thing"]) b_is_point a gk ⟨List.forall_mem_cons.mpr ⟨f_is_tuple_of.mono (by decide), List.forall_mem_cons.mpr ⟨f_is_fraction.mono (by decide), List.forall_mem_cons.mpr ⟨f_is_angle.mono (by decide), fun _ h => nomatch h⟩⟩⟩⟩ ⟨rfl, rfl, rfl, by decide +kernel, rfl, by decide +kernel, by decide +kernel⟩ (fun _ _ _ _ _ _ us hl => match us, hl with | [_], _ => rfl) rfl (by decide +kernel) ?_
  intro ws M Q h
  simp only [b_is_point, evSs, evS, ev, evA, evT, evTs, evAnd, evOr, evO, evI, Bool.false_eq_true, reduceIte]
  obtain ⟨d, rfl, ⟨z, t, rfl, hs, hq⟩ | ⟨hd, hq⟩⟩ := h
  · fin_places
    refine cTupOf ?_
    fin_places
    rw [show decide (((([fr z, fr t] : List PyData).length : Nat) : Int) = 2) = true from rfl]
    fin_places
    refine cYes ?_
    fin_places
    refine cAng hs ?_
    try exact hq
  · fin_places
    refine cTupNo hd ?_
    fin_places
    try exact hq
def b_is_motion_shape : List Sm := [(.ret (.call 0 (.cons (.var 0) .nil)))]
theorem fn_is_motion_shape {g : Gb} (gk : GOk g) (a : At g "is_motion_shape" 27) (f_is_point : FOk g 4 "is_point" sp_is_point) : FOk g 5 "is_motion_shape" sp_is_motion_shape := by
  refine FOk.of (k := 4) (G := [("is_point", sp_is_point)]) (N := ["thing"]) (ps := ["thing"]) b_is_motion_shape a gk ⟨List.forall_mem_cons.mpr ⟨f_is_point.mono (by decide), fun _ h => nomatch h⟩⟩ ⟨rfl, rfl, rfl, by decide +kernel, rfl, by decide +kernel, by decide +kernel⟩ (fun _ _ _ _ _ _ us hl => match us, hl with | [_], _ => rfl) rfl (by decide +kernel) ?_
  intro ws M Q h
  simp only [b_is_motion_shape, evSs, evS, ev, evA, evT, evTs, evAnd, evOr, evO, evI, Bool.false_eq_true, reduceIte]
  obtain ⟨d, rfl, ⟨z, t, rfl, hs, hq⟩ | ⟨hd, hq⟩⟩ := h
  · fin_places
    exact cPt hs hq
  · fin_places
    try exact cPtNo hd hq
def b__law_is_point : List Sm := [(.ret (.and_ (.cons (.isi (.var 0) .tuple) (.cons (.cmp .eq (.blt .len (.cons (.var 0) .nil)) (.lit (.int 2))) (.cons (.call 0 (.cons (.ix (.var 0) (.lit (.int 0))) .nil)) (.cons (.call 1 (.cons (.ix (.var 0) (.lit (.int 1))) .nil)) .nil))))))]
theorem fn__law_is_point {g : Gb} (gk : GOk g) (a : At g "_law_is_point" 78) (f__law_is_part : FOk g 2 "_law_is_part" sp__law_is_part) (f__law_is_angle : FOk g 3 "_law_is_angle" sp__law_is_angle) : FOk g 4 "_law_is_point" sp__law_is_point := by
  refine FOk.of (k := 3) (G := [("_law_is_part", sp__law_is_part), ("_law_is_angle", sp__law_is_angle)]) (N := ["_law_own"]) (ps := ["_law_own"]) b__law_is_point a gk ⟨List.forall_mem_cons.mpr ⟨f__law_is_part.mono (by decide), List.forall_mem_cons.mpr ⟨f__law_is_angle.mono (by decide), fun _ h => nomatch h⟩⟩⟩ ⟨rfl, rfl, rfl, by decide +kernel, rfl, by decide +kernel, by decide +kernel⟩ (fun _ _ _ _ _ _ us hl => match us, hl with | [_], _ => rfl) rfl (by decide +kernel) ?_
  intro ws M Q h
  simp only [b__law_is_point, evSs, evS, ev, evA, evT, evTs, evAnd, evOr, evO, evI, Bool.false_eq_true, reduceIte]
  obtain ⟨d, rfl, ⟨z, t, rfl, hs, hq⟩ | ⟨hd, hq⟩⟩ := h
  · fin_places
    rw [show isC .tuple (mo z t) = true from rfl]
    fin_places
    rw [show decide (((([fr z, fr t] : List PyData).length : Nat) : Int) = 2) = true from rfl]
    fin_places
    refine cYes ?_
    fin_places
    refine cAng hs ?_
    try exact hq
  · fin_places
    try rw [hd]
    fin_places
    try exact hq
end Sh
set_option maxHeartbeats 1000000
namespace Sh
open PySem PySem.Spec PyProof.Rows L2
/-! ## lines, walked -/
theorem tRR : decide ((Str.ofString "ring") = (Str.ofString "ring")) = true := by decide +kernel
theorem tRF : decide ((Str.ofString "ring") = (Str.ofString "flute")) = false := by decide +kernel
theorem tRL : decide ((Str.ofString "ring") = (Str.ofString "lead")) = false := by decide +kernel
theorem tFR : decide ((Str.ofString "flute") = (Str.ofString "ring")) = false := by decide +kernel
theorem tFF : decide ((Str.ofString "flute") = (Str.ofString "flute")) = true := by decide +kernel
theorem tFL : decide ((Str.ofString "flute") = (Str.ofString "lead")) = false := by decide +kernel
theorem tLR : decide ((Str.ofString "lead") = (Str.ofString "ring")) = false := by decide +kernel
theorem tLF : decide ((Str.ofString "lead") = (Str.ofString "flute")) = false := by decide +kernel
theorem tLL : decide ((Str.ofString "lead") = (Str.ofString "lead")) = true := by decide +kernel
theorem sFnR {G : Fns} {f : Nat} {ra : RdA} {δ : En} {M : MM} {Q : WK} (q : ∃ p, G[f]? = some p ∧ rdCall ra p.2 δ M Q) : rdFn G f ra δ M Q := q
def mvL (z t : Rat) : Ln → Ln
  | .ring q => .ring (q + z)
  | .flute q => .flute (ang (q + t))
  | .lead l p => .lead l (rnd ((p + z) - l * t) l)
def mirL : Ln → Ln
  | .ring q => .ring q
  | .flute q => .flute (ang (-q))
  | .lead l p => .lead (-l) p
def slL (s : Rat) : Ln → Ln
  | .ring q => .ring (q + s)
  | .flute q => .flute (ang (q + s))
  | .lead l p => .lead l (rnd (p + s) l)
def srt : Ln → So
  | .ring _ => .ring
  | .flute _ => .flute
  | .lead l _ => .lead l
def plc : Ln → Rat
  | .ring q => q
  | .flute q => q
  | .lead _ p => p
def Ln.fits (b : Nat) : Ln → Prop
  | .ring q => sz q ≤ b
  | .flute q => sz q ≤ b
  | .lead l p => l ≠ 0 ∧ sz l ≤ 3 ∧ sz p ≤ b
abbrev sp_lead_line : DSp := ⟨2, fun ws M Q => ∃ l p, ws = [.d (fr l), .d (fr p)] ∧ (l ≠ 0 ∧ 2 * sz p + 2 * sz l + 2 ≤ 9000) ∧ Q (.d (Ln.lead l (rnd p l)).d) M⟩
abbrev sp__law_lead_line : DSp := ⟨3, fun ws M Q => ∃ l p a, ws = [.d (fr l), .d (fr p), .d (fr a)] ∧ l ≠ 0 ∧ sz l ≤ 3 ∧ sz p ≤ 1000 ∧ sz a ≤ 1000 ∧ Q (.d (Ln.lead l (rnd (p - l * a) l)).d) M⟩
abbrev spMv : DSp := ⟨2, fun ws M Q => ∃ x z t, ws = [.d (Ln.d x), .d (mo z t)] ∧ Ln.fits 400 x ∧ sz z ≤ 1600 ∧ sz t ≤ 1600 ∧ Q (.d (mvL z t x).d) M⟩
abbrev sp_line_moved : DSp := spMv
abbrev sp__law_moved_line : DSp := spMv
abbrev spMi : DSp := ⟨1, fun ws M Q => ∃ x, ws = [.d (Ln.d x)] ∧ Q (.d (mirL x).d) M⟩
abbrev sp_line_mirrored : DSp := spMi
abbrev sp__law_mirrored_line : DSp := spMi
abbrev spSl : DSp := ⟨2, fun ws M Q => ∃ x s, ws = [.d (Ln.d x), .d (fr s)] ∧ Ln.fits 400 x ∧ sz s ≤ 1600 ∧ Q (.d (slL s x).d) M⟩
abbrev sp_slid : DSp := spSl
abbrev sp__law_slid : DSp := spSl
abbrev spSo : DSp := ⟨1, fun ws M Q => ∃ x, ws = [.d (Ln.d x)] ∧ Q (.d (srt x).d) M⟩
abbrev sp_sort_of : DSp := spSo
abbrev sp__law_sort : DSp := spSo
abbrev sp_tupled : DSp := spTup 7
abbrev sp__law_lists : DSp := spLst 7
section
variable {M : MM} {Q : WK} {x : Ln} {l p a z t s : Rat}
theorem cLeadLine (h : l ≠ 0 ∧ 2 * sz p + 2 * sz l + 2 ≤ 9000) (q : Q (.d (Ln.lead l (rnd p l)).d) M) : [W.d (fr l), .d (fr p)].length = sp_lead_line.n ∧ sp_lead_line.run [.d (fr l), .d (fr p)] M Q := ⟨rfl, l, p, rfl, h, q⟩
theorem cLawLead (h0 : l ≠ 0) (h1 : sz l ≤ 3) (h2 : sz p ≤ 1000) (h3 : sz a ≤ 1000) (q : Q (.d (Ln.lead l (rnd (p - l * a) l)).d) M) : [W.d (fr l), .d (fr p), .d (fr a)].length = sp__law_lead_line.n ∧ sp__law_lead_line.run [.d (fr l), .d (fr p), .d (fr a)] M Q := ⟨rfl, l, p, a, rfl, h0, h1, h2, h3, q⟩
theorem cMv (h : Ln.fits 400 x) (hz : sz z ≤ 1600) (ht : sz t ≤ 1600) (q : Q (.d (mvL z t x).d) M) : [W.d x.d, .d (mo z t)].length = spMv.n ∧ spMv.run [.d x.d, .d (mo z t)] M Q := ⟨rfl, x, z, t, rfl, h, hz, ht, q⟩
theorem cMi (q : Q (.d (mirL x).d) M) : [W.d x.d].length = spMi.n ∧ spMi.run [.d x.d] M Q := ⟨rfl, x, rfl, q⟩
theorem cSl (h : Ln.fits 400 x) (hz : sz s ≤ 1600) (q : Q (.d (slL s x).d) M) : [W.d x.d, .d (fr s)].length = spSl.n ∧ spSl.run [.d x.d, .d (fr s)] M Q := ⟨rfl, x, s, rfl, h, hz, q⟩
theorem cSo (q : Q (.d (srt x).d) M) : [W.d x.d].length = spSo.n ∧ spSo.run [.d x.d] M Q := ⟨rfl, x, rfl, q⟩
end
local macro_rules | `(tactic| one_item) => `(tactic| first
  | ((with_reducible refine' cEqS ?k1 ?_); (case k1 => exact ⟨by decide +kernel, by decide +kernel⟩); (try simp only [tRR, tRF, tRL, tFR, tFF, tFL, tLR, tLF, tLL, decide_true, decide_false, Bool.not_true, Bool.not_false]))
  | ((with_reducible refine' cNeS ?k1 ?_); (case k1 => exact ⟨by decide +kernel, by decide +kernel⟩); (try simp only [tRR, tRF, tRL, tFR, tFF, tFL, tLR, tLF, tLL, decide_true, decide_false, Bool.not_true, Bool.not_false]))
  | (with_reducible refine sFnR ?_)
  | (with_reducible refine sSeq ?_) | (with_reducible refine sAsg ?_) | (with_reducible refine s2 ?_)
  | ((with_reducible refine' sVar ?k1 ?_); (case k1 => rfl))
  | (with_reducible refine sC ?_) | (with_reducible refine sCons ?_) | (with_reducible refine sNil ?_) | (with_reducible refine sN ?_) | (with_reducible refine s1 ?_)
  | ((with_reducible refine' xBind ?k1 ?_); (case k1 => rfl))
  | ((with_reducible refine' sFnE ?k1 ?_); (case k1 => rfl))
  | (with_reducible refine sIfS ?_) | (with_reducible refine sIf ?_) | (with_reducible refine sB ?_) | (with_reducible refine oCmp ?_) | (with_reducible refine xBool ?_) | (with_reducible refine sRet ?_) | (with_reducible refine sTup ?_) | (with_reducible refine sLst ?_)
  | ((with_reducible refine' xDat ?k1 ?k2 ?_); (case k1 => rfl); (case k2 => (exact Nat.le_of_ble_eq_true rfl)))
  | ((with_reducible refine' oIxT ?k1 ?_); (case k1 => rfl)) | ((with_reducible refine' oIxL ?k1 ?_); (case k1 => rfl))
  | (with_reducible refine oAdd ?_) | (with_reducible refine oSub ?_) | (with_reducible refine oNeg ?_) | (with_reducible refine oGcd ?_) | (with_reducible refine oAbs ?_) | (with_reducible refine oInt ?_)
  | (with_reducible refine oLenT ?_) | (with_reducible refine oLenL ?_) | (with_reducible refine oSlT ?_) | (with_reducible refine oSlL ?_) | (with_reducible refine oTupL ?_) | (with_reducible refine oTupT ?_)
  | (with_reducible refine cLt ?_) | (with_reducible refine cLe ?_) | (with_reducible refine cGt ?_) | (with_reducible refine cGe ?_) | (with_reducible refine cIsN ?_) | (with_reducible refine cNotN ?_) | (with_reducible refine cIsB ?_) | (with_reducible refine cEqI ?_) | (with_reducible refine cNeI ?_)
  | (with_reducible refine sNotT ?_) | (with_reducible refine sAndT ?_) | (with_reducible refine sOrT ?_) | (with_reducible refine sNotV ?_) | (with_reducible refine sAndV ?_) | (with_reducible refine sOrV ?_)
  | (with_reducible refine sSl ?_) | (with_reducible refine sONone ?_) | (with_reducible refine sOSome ?_) | (with_reducible refine xInt ?_) | (with_reducible refine sChn ?_) | (with_reducible refine sPar ?_) | (with_reducible refine xTwo ?_) | (with_reducible refine sIsi ?_) | (with_reducible refine sIsi2 ?_) | (with_reducible refine xD ?_)
  | (with_reducible refine sNext ?_)
  | (with_reducible refine xT ?_) | (with_reducible refine xF ?_))
local macro_rules | `(tactic| fin_places) => `(tactic| (repeat one_item))
def b_lead_line : List Sm := [(.ret (.tup (.cons (.lit (.str "lead")) (.cons (.var 0) (.cons (.call 0 (.cons (.var 1) (.cons (.var 0) .nil))) .nil)))))]
theorem fn_lead_line {g : Gb} (gk : GOk g) (a : At g "lead_line" 30) (f_round_by : FOk g 4 "round_by" sp_round_by) : FOk g 5 "lead_line" sp_lead_line := by
  refine FOk.of (k := 4) (G := [("round_by", sp_round_by)]) (N := ["lead", "phase"]) (ps := ["lead", "phase"]) b_lead_line a gk ⟨List.forall_mem_cons.mpr ⟨f_round_by.mono (by decide), fun _ h => nomatch h⟩⟩ ⟨rfl, rfl, rfl, by decide +kernel, rfl, by decide +kernel, by decide +kernel⟩ (fun _ _ _ _ _ _ us hl => match us, hl with | [_, _], _ => rfl) rfl (by decide +kernel) ?_
  intro ws M Q h
  simp only [b_lead_line, evSs, evS, ev, evA, evT, evTs, evAnd, evOr, evO, evI, Bool.false_eq_true, reduceIte]
  obtain ⟨l, p, rfl, h0, hq⟩ := h
  fin_places
  refine cQ2 ⟨h0.1, h0.2⟩ ?_
  fin_places
  try exact hq
def b__law_lead_line : List Sm := [(.ret (.tup (.cons (.lit (.str "lead")) (.cons (.var 0) (.cons (.call 0 (.cons (.call 1 (.cons (.var 1) (.cons (.call 2 (.cons (.var 0) (.cons (.var 2) .nil))) .nil))) (.cons (.var 0) .nil))) .nil)))))]
theorem fn__law_lead_line {g : Gb} (gk : GOk g) (a : At g "_law_lead_line" 82) (f__law_round : FOk g 5 "_law_round" sp__law_round) (f__law_less : FOk g 4 "_law_less" sp__law_less) (f__law_prod : FOk g 3 "_law_prod" sp__law_prod) : FOk g 6 "_law_lead_line" sp__law_lead_line := by
  refine FOk.of (k := 5) (G := [("_law_round", sp__law_round), ("_law_less", sp__law_less), ("_law_prod", sp__law_prod)]) (N := ["_law_lead_so", "_law_place_so", "_law_angle_so"]) (ps := ["_law_lead_so", "_law_place_so", "_law_angle_so"]) b__law_lead_line a gk ⟨List.forall_mem_cons.mpr ⟨f__law_round.mono (by decide), List.forall_mem_cons.mpr ⟨f__law_less.mono (by decide), List.forall_mem_cons.mpr ⟨f__law_prod.mono (by decide), fun _ h => nomatch h⟩⟩⟩⟩ ⟨rfl, rfl, rfl, by decide +kernel, rfl, by decide +kernel, by decide +kernel⟩ (fun _ _ _ _ _ _ us hl => match us, hl with | [_, _, _], _ => rfl) rfl (by decide +kernel) ?_
  intro ws M Q h
  simp only [b__law_lead_line, evSs, evS, ev, evA, evT, evTs, evAnd, evOr, evO, evI, Bool.false_eq_true, reduceIte]
  obtain ⟨l, p, a, rfl, h0, h1, h2, h3, hq⟩ := h
  have e1 := sz_mul l a
  have e2 := sz_sub p (l * a)
  fin_places
  refine cQ2 (f := (· * ·)) (show _ ≤ _ by omega) ?_
  fin_places
  refine cQ2 (f := (· - ·)) (show _ ≤ _ by omega) ?_
  fin_places
  refine cQ2 (f := rnd) ⟨h0, by omega⟩ ?_
  fin_places
  try exact hq
def b_line_mirrored : List Sm := [(.asg (.nm 1) (.call 0 (.cons (.var 0) .nil))), (.ife (.cmp .eq (.ix (.var 1) (.lit (.int 0))) (.lit (.str "ring"))) [(.ret (.var 1))] []), (.ife (.cmp .eq (.ix (.var 1) (.lit (.int 0))) (.lit (.str "flute"))) [(.ret (.tup (.cons (.lit (.str "flute")) (.cons (.call 1 (.cons (.call 2 (.cons (.ix (.var 1) (.lit (.int 1))) .nil)) .nil)) .nil))))] []), (.ret (.tup (.cons (.lit (.str "lead")) (.cons (.call 2 (.cons (.ix (.var 1) (.lit (.int 1))) .nil)) (.cons (.ix (.var 1) (.lit (.int 2))) .nil)))))]
theorem fn_line_mirrored {g : Gb} (gk : GOk g) (a : At g "line_mirrored" 32) (f_tupled : FOk g 8 "tupled" sp_tupled) (f_angle_of : FOk g 1 "angle_of" sp_angle_of) (f_part_minus : FOk g 1 "part_minus" sp_part_minus) : FOk g 9 "line_mirrored" sp_line_mirrored := by
  refine FOk.of (k := 8) (G := [("tupled", sp_tupled), ("angle_of", sp_angle_of), ("part_minus", sp_part_minus)]) (N := ["line", "own"]) (ps := ["line"]) b_line_mirrored a gk ⟨List.forall_mem_cons.mpr ⟨f_tupled.mono (by decide), List.forall_mem_cons.mpr ⟨f_angle_of.mono (by decide), List.forall_mem_cons.mpr ⟨f_part_minus.mono (by decide), fun _ h => nomatch h⟩⟩⟩⟩ ⟨rfl, rfl, rfl, by decide +kernel, rfl, by decide +kernel, by decide +kernel⟩ (fun _ _ _ _ _ _ us hl => match us, hl with | [_], _ => rfl) rfl (by decide +kernel) ?_
  intro ws M Q h
  simp only [b_line_mirrored, evSs, evS, ev, evA, evT, evTs, evAnd, evOr, evO, evI, Bool.false_eq_true, reduceIte]
  obtain ⟨x, rfl, hq⟩ := h
  fin_places
  refine cTup (Ln.dep 4 x) ?_
  rw [Ln.tup]
  fin_places
  cases x with
  | ring q =>
    simp only [Ln.d]
    fin_places
    try exact hq
  | flute q =>
    simp only [Ln.d]
    fin_places
    refine cQ1 ?_
    fin_places
    refine cQ1 ?_
    fin_places
    try exact hq
  | lead l p =>
    simp only [Ln.d]
    fin_places
    refine cQ1 ?_
    fin_places
    try exact hq
def b__law_mirrored_line : List Sm := [(.ife (.cmp .eq (.ix (.var 0) (.lit (.int 0))) (.lit (.str "ring"))) [(.ret (.var 0))] []), (.ife (.cmp .eq (.ix (.var 0) (.lit (.int 0))) (.lit (.str "flute"))) [(.ret (.tup (.cons (.lit (.str "flute")) (.cons (.call 0 (.cons (.call 1 (.cons (.ix (.var 0) (.lit (.int 1))) .nil)) .nil)) .nil))))] []), (.ret (.tup (.cons (.lit (.str "lead")) (.cons (.call 1 (.cons (.ix (.var 0) (.lit (.int 1))) .nil)) (.cons (.ix (.var 0) (.lit (.int 2))) .nil)))))]
theorem fn__law_mirrored_line {g : Gb} (gk : GOk g) (a : At g "_law_mirrored_line" 85) (f__law_angle : FOk g 1 "_law_angle" sp__law_angle) (f__law_minus : FOk g 1 "_law_minus" sp__law_minus) : FOk g 2 "_law_mirrored_line" sp__law_mirrored_line := by
  refine FOk.of (k := 1) (G := [("_law_angle", sp__law_angle), ("_law_minus", sp__law_minus)]) (N := ["_law_line_so"]) (ps := ["_law_line_so"]) b__law_mirrored_line a gk ⟨List.forall_mem_cons.mpr ⟨f__law_angle.mono (by decide), List.forall_mem_cons.mpr ⟨f__law_minus.mono (by decide), fun _ h => nomatch h⟩⟩⟩ ⟨rfl, rfl, rfl, by decide +kernel, rfl, by decide +kernel, by decide +kernel⟩ (fun _ _ _ _ _ _ us hl => match us, hl with | [_], _ => rfl) rfl (by decide +kernel) ?_
  intro ws M Q h
  simp only [b__law_mirrored_line, evSs, evS, ev, evA, evT, evTs, evAnd, evOr, evO, evI, Bool.false_eq_true, reduceIte]
  obtain ⟨x, rfl, hq⟩ := h
  cases x with
  | ring q =>
    simp only [Ln.d]
    fin_places
    try exact hq
  | flute q =>
    simp only [Ln.d]
    fin_places
    refine cQ1 ?_
    fin_places
    refine cQ1 ?_
    fin_places
    try exact hq
  | lead l p =>
    simp only [Ln.d]
    fin_places
    refine cQ1 ?_
    fin_places
    try exact hq
def b_sort_of : List Sm := [(.ret (.ife (.cmp .eq (.ix (.var 0) (.lit (.int 0))) (.lit (.str "lead"))) (.sl (.var 0) .no (.ye (.lit (.int 2)))) (.sl (.var 0) .no (.ye (.lit (.int 1))))))]
theorem fn_sort_of {g : Gb} (gk : GOk g) (a : At g "sort_of" 36) : FOk g 1 "sort_of" sp_sort_of := by
  refine FOk.of (k := 0) (G := []) (N := ["line"]) (ps := ["line"]) b_sort_of a gk ⟨fun _ h => nomatch h⟩ ⟨rfl, rfl, rfl, by decide +kernel, rfl, by decide +kernel, by decide +kernel⟩ (fun _ _ _ _ _ _ us hl => match us, hl with | [_], _ => rfl) rfl (by decide +kernel) ?_
  intro ws M Q h
  simp only [b_sort_of, evSs, evS, ev, evA, evT, evTs, evAnd, evOr, evO, evI, Bool.false_eq_true, reduceIte]
  obtain ⟨x, rfl, hq⟩ := h
  cases x with
  | ring q =>
    simp only [Ln.d]
    fin_places
    try exact hq
  | flute q =>
    simp only [Ln.d]
    fin_places
    try exact hq
  | lead l p =>
    simp only [Ln.d]
    fin_places
    try exact hq
def b__law_sort : List Sm := [(.ret (.ife (.cmp .eq (.ix (.var 0) (.lit (.int 0))) (.lit (.str "lead"))) (.sl (.var 0) .no (.ye (.lit (.int 2)))) (.sl (.var 0) .no (.ye (.lit (.int 1))))))]
theorem fn__law_sort {g : Gb} (gk : GOk g) (a : At g "_law_sort" 88) : FOk g 1 "_law_sort" sp__law_sort := by
  refine FOk.of (k := 0) (G := []) (N := ["_law_line_so"]) (ps := ["_law_line_so"]) b__law_sort a gk ⟨fun _ h => nomatch h⟩ ⟨rfl, rfl, rfl, by decide +kernel, rfl, by decide +kernel, by decide +kernel⟩ (fun _ _ _ _ _ _ us hl => match us, hl with | [_], _ => rfl) rfl (by decide +kernel) ?_
  intro ws M Q h
  simp only [b__law_sort, evSs, evS, ev, evA, evT, evTs, evAnd, evOr, evO, evI, Bool.false_eq_true, reduceIte]
  obtain ⟨x, rfl, hq⟩ := h
  cases x with
  | ring q =>
    simp only [Ln.d]
    fin_places
    try exact hq
  | flute q =>
    simp only [Ln.d]
    fin_places
    try exact hq
  | lead l p =>
    simp only [Ln.d]
    fin_places
    try exact hq
def b_line_moved : List Sm := [(.asg (.tp [(.nm 2), (.tp [(.nm 3), (.nm 4)])]) (.tup (.cons (.call 0 (.cons (.var 0) .nil)) (.cons (.call 0 (.cons (.var 1) .nil)) .nil)))), (.ife (.cmp .eq (.ix (.var 2) (.lit (.int 0))) (.lit (.str "ring"))) [(.ret (.tup (.cons (.lit (.str "ring")) (.cons (.call 1 (.cons (.ix (.var 2) (.lit (.int 1))) (.cons (.var 3) .nil))) .nil))))] []), (.ife (.cmp .eq (.ix (.var 2) (.lit (.int 0))) (.lit (.str "flute"))) [(.ret (.tup (.cons (.lit (.str "flute")) (.cons (.call 2 (.cons (.call 1 (.cons (.ix (.var 2) (.lit (.int 1))) (.cons (.var 4) .nil))) .nil)) .nil))))] []), (.ret (.call 3 (.cons (.ix (.var 2) (.lit (.int 1))) (.cons (.call 4 (.cons (.call 1 (.cons (.ix (.var 2) (.lit (.int 2))) (.cons (.var 3) .nil))) (.cons (.call 5 (.cons (.ix (.var 2) (.lit (.int 1))) (.cons (.var 4) .nil))) .nil))) .nil))))]
theorem fn_line_moved {g : Gb} (gk : GOk g) (a : At g "line_moved" 31) (f_tupled : FOk g 8 "tupled" sp_tupled) (f_part_plus : FOk g 2 "part_plus" sp_part_plus) (f_angle_of : FOk g 1 "angle_of" sp_angle_of) (f_lead_line : FOk g 5 "lead_line" sp_lead_line) (f_part_less : FOk g 3 "part_less" sp_part_less) (f_part_times : FOk g 2 "part_times" sp_part_times) : FOk g 9 "line_moved" sp_line_moved := by
  refine FOk.of (k := 8) (G := [("tupled", sp_tupled), ("part_plus", sp_part_plus), ("angle_of", sp_angle_of), ("lead_line", sp_lead_line), ("part_less", sp_part_less), ("part_times", sp_part_times)]) (N := ["line", "motion", "own", "shift", "turn"]) (ps := ["line", "motion"]) b_line_moved a gk ⟨List.forall_mem_cons.mpr ⟨f_tupled.mono (by decide), List.forall_mem_cons.mpr ⟨f_part_plus.mono (by decide), List.forall_mem_cons.mpr ⟨f_angle_of.mono (by decide), List.forall_mem_cons.mpr ⟨f_lead_line.mono (by decide), List.forall_mem_cons.mpr ⟨f_part_less.mono (by decide), List.forall_mem_cons.mpr ⟨f_part_times.mono (by decide), fun _ h => nomatch h⟩⟩⟩⟩⟩⟩⟩ ⟨rfl, rfl, rfl, by decide +kernel, rfl, by decide +kernel, by decide +kernel⟩ (fun _ _ _ _ _ _ us hl => match us, hl with | [_, _], _ => rfl) rfl (by decide +kernel) ?_
  intro ws M Q h
  simp only [b_line_moved, evSs, evS, ev, evA, evT, evTs, evAnd, evOr, evO, evI, Bool.false_eq_true, reduceIte]
  obtain ⟨x, z, t, rfl, hf, hz, ht, hq⟩ := h
  fin_places
  refine cTup (Ln.dep 4 x) ?_
  rw [Ln.tup]
  fin_places
  refine cTup (d := mo z t) (n := 7) ⟨by show 2 ≤ 100000; decide, fun y hy => by
    simp only [List.mem_cons, List.not_mem_nil, or_false] at hy
    rcases hy with rfl | rfl
    · exact fr_dep 4 z
    · exact fr_dep 4 t⟩ ?_
  rw [show tupD (mo z t) = mo z t from rfl]
  fin_places
  cases x with
  | ring q =>
    simp only [Ln.d]
    have hf' : sz q ≤ 400 := hf
    fin_places
    refine cQ2 (f := (· + ·)) (show _ ≤ _ by omega) ?_
    fin_places
    try exact hq
  | flute q =>
    simp only [Ln.d]
    have hf' : sz q ≤ 400 := hf
    fin_places
    refine cQ2 (f := (· + ·)) (show _ ≤ _ by omega) ?_
    fin_places
    refine cQ1 ?_
    fin_places
    try exact hq
  | lead l p =>
    simp only [Ln.d]
    obtain ⟨h0, h1, h2⟩ : l ≠ 0 ∧ sz l ≤ 3 ∧ sz p ≤ 400 := hf
    have e1 := sz_add p z
    have e2 := sz_mul l t
    have e3 := sz_sub (p + z) (l * t)
    fin_places
    refine cQ2 (f := (· + ·)) (show _ ≤ _ by omega) ?_
    fin_places
    refine cQ2 (f := (· * ·)) (show _ ≤ _ by omega) ?_
    fin_places
    refine cQ2 (f := (· - ·)) (show _ ≤ _ by omega) ?_
    fin_places
    refine cLeadLine ⟨h0, by omega⟩ ?_
    try exact hq
def b__law_moved_line : List Sm := [(.ife (.cmp .eq (.ix (.var 0) (.lit (.int 0))) (.lit (.str "ring"))) [(.ret (.tup (.cons (.lit (.str "ring")) (.cons (.call 0 (.cons (.ix (.var 0) (.lit (.int 1))) (.cons (.ix (.var 1) (.lit (.int 0))) .nil))) .nil))))] []), (.ife (.cmp .eq (.ix (.var 0) (.lit (.int 0))) (.lit (.str "flute"))) [(.ret (.tup (.cons (.lit (.str "flute")) (.cons (.call 1 (.cons (.call 0 (.cons (.ix (.var 0) (.lit (.int 1))) (.cons (.ix (.var 1) (.lit (.int 1))) .nil))) .nil)) .nil))))] []), (.asg (.nm 2) (.call 2 (.cons (.call 0 (.cons (.ix (.var 0) (.lit (.int 2))) (.cons (.ix (.var 1) (.lit (.int 0))) .nil))) (.cons (.call 3 (.cons (.ix (.var 0) (.lit (.int 1))) (.cons (.ix (.var 1) (.lit (.int 1))) .nil))) .nil)))), (.ret (.tup (.cons (.lit (.str "lead")) (.cons (.ix (.var 0) (.lit (.int 1))) (.cons (.call 4 (.cons (.var 2) (.cons (.ix (.var 0) (.lit (.int 1))) .nil))) .nil)))))]
theorem fn__law_moved_line {g : Gb} (gk : GOk g) (a : At g "_law_moved_line" 84) (f__law_sum : FOk g 3 "_law_sum" sp__law_sum) (f__law_angle : FOk g 1 "_law_angle" sp__law_angle) (f__law_less : FOk g 4 "_law_less" sp__law_less) (f__law_prod : FOk g 3 "_law_prod" sp__law_prod) (f__law_round : FOk g 5 "_law_round" sp__law_round) : FOk g 6 "_law_moved_line" sp__law_moved_line := by
  refine FOk.of (k := 5) (G := [("_law_sum", sp__law_sum), ("_law_angle", sp__law_angle), ("_law_less", sp__law_less), ("_law_prod", sp__law_prod), ("_law_round", sp__law_round)]) (N := ["_law_line_so", "_law_motion_so", "_law_own"]) (ps := ["_law_line_so", "_law_motion_so"]) b__law_moved_line a gk ⟨List.forall_mem_cons.mpr ⟨f__law_sum.mono (by decide), List.forall_mem_cons.mpr ⟨f__law_angle.mono (by decide), List.forall_mem_cons.mpr ⟨f__law_less.mono (by decide), List.forall_mem_cons.mpr ⟨f__law_prod.mono (by decide), List.forall_mem_cons.mpr ⟨f__law_round.mono (by decide), fun _ h => nomatch h⟩⟩⟩⟩⟩⟩ ⟨rfl, rfl, rfl, by decide +kernel, rfl, by decide +kernel, by decide +kernel⟩ (fun _ _ _ _ _ _ us hl => match us, hl with | [_, _], _ => rfl) rfl (by decide +kernel) ?_
  intro ws M Q h
  simp only [b__law_moved_line, evSs, evS, ev, evA, evT, evTs, evAnd, evOr, evO, evI, Bool.false_eq_true, reduceIte]
  obtain ⟨x, z, t, rfl, hf, hz, ht, hq⟩ := h
  cases x with
  | ring q =>
    simp only [Ln.d]
    have hf' : sz q ≤ 400 := hf
    fin_places
    refine cQ2 (f := (· + ·)) (show _ ≤ _ by omega) ?_
    fin_places
    try exact hq
  | flute q =>
    simp only [Ln.d]
    have hf' : sz q ≤ 400 := hf
    fin_places
    refine cQ2 (f := (· + ·)) (show _ ≤ _ by omega) ?_
    fin_places
    refine cQ1 ?_
    fin_places
    try exact hq
  | lead l p =>
    simp only [Ln.d]
    obtain ⟨h0, h1, h2⟩ : l ≠ 0 ∧ sz l ≤ 3 ∧ sz p ≤ 400 := hf
    have e1 := sz_add p z
    have e2 := sz_mul l t
    have e3 := sz_sub (p + z) (l * t)
    fin_places
    refine cQ2 (f := (· + ·)) (show _ ≤ _ by omega) ?_
    fin_places
    refine cQ2 (f := (· * ·)) (show _ ≤ _ by omega) ?_
    fin_places
    refine cQ2 (f := (· - ·)) (show _ ≤ _ by omega) ?_
    fin_places
    refine cQ2 (f := rnd) ⟨h0, by omega⟩ ?_
    fin_places
    try exact hq
def b_slid : List Sm := [(.asg (.nm 2) (.call 0 (.cons (.ix (.var 0) (.neg (.lit (.int 1)))) (.cons (.var 1) .nil)))), (.ife (.cmp .eq (.ix (.var 0) (.lit (.int 0))) (.lit (.str "ring"))) [(.ret (.bin .add (.sl (.var 0) .no (.ye (.lit (.int 1)))) (.tup (.cons (.var 2) .nil))))] []), (.ret (.ife (.cmp .eq (.ix (.var 0) (.lit (.int 0))) (.lit (.str "flute"))) (.bin .add (.sl (.var 0) .no (.ye (.lit (.int 1)))) (.tup (.cons (.call 1 (.cons (.var 2) .nil)) .nil))) (.bin .add (.sl (.var 0) .no (.ye (.lit (.int 2)))) (.tup (.cons (.call 2 (.cons (.var 2) (.cons (.ix (.var 0) (.lit (.int 1))) .nil))) .nil)))))]
theorem fn_slid {g : Gb} (gk : GOk g) (a : At g "slid" 38) (f_part_plus : FOk g 2 "part_plus" sp_part_plus) (f_angle_of : FOk g 1 "angle_of" sp_angle_of) (f_round_by : FOk g 4 "round_by" sp_round_by) : FOk g 5 "slid" sp_slid := by
  refine FOk.of (k := 4) (G := [("part_plus", sp_part_plus), ("angle_of", sp_angle_of), ("round_by", sp_round_by)]) (N := ["line", "part", "later"]) (ps := ["line", "part"]) b_slid a gk ⟨List.forall_mem_cons.mpr ⟨f_part_plus.mono (by decide), List.forall_mem_cons.mpr ⟨f_angle_of.mono (by decide), List.forall_mem_cons.mpr ⟨f_round_by.mono (by decide), fun _ h => nomatch h⟩⟩⟩⟩ ⟨rfl, rfl, rfl, by decide +kernel, rfl, by decide +kernel, by decide +kernel⟩ (fun _ _ _ _ _ _ us hl => match us, hl with | [_, _], _ => rfl) rfl (by decide +kernel) ?_
  intro ws M Q h
  simp only [b_slid, evSs, evS, ev, evA, evT, evTs, evAnd, evOr, evO, evI, Bool.false_eq_true, reduceIte]
  obtain ⟨x, s, rfl, hf, hs, hq⟩ := h
  cases x with
  | ring q =>
    simp only [Ln.d]
    have hf' : sz q ≤ 400 := hf
    fin_places
    refine cQ2 (f := (· + ·)) (show _ ≤ _ by omega) ?_
    fin_places
    refine oCatT (by show 2 ≤ 100000; decide) ?_
    try exact hq
  | flute q =>
    simp only [Ln.d]
    have hf' : sz q ≤ 400 := hf
    fin_places
    refine cQ2 (f := (· + ·)) (show _ ≤ _ by omega) ?_
    fin_places
    refine cQ1 ?_
    fin_places
    refine oCatT (by show 2 ≤ 100000; decide) ?_
    try exact hq
  | lead l p =>
    simp only [Ln.d]
    obtain ⟨h0, h1, h2⟩ : l ≠ 0 ∧ sz l ≤ 3 ∧ sz p ≤ 400 := hf
    have e1 := sz_add p s
    fin_places
    refine cQ2 (f := (· + ·)) (show _ ≤ _ by omega) ?_
    fin_places
    refine cQ2 (f := rnd) ⟨h0, by omega⟩ ?_
    fin_places
    refine oCatT (by show 3 ≤ 100000; decide) ?_
    try exact hq
def b__law_slid : List Sm := [(.asg (.nm 2) (.call 0 (.cons (.ix (.var 0) (.neg (.lit (.int 1)))) (.cons (.var 1) .nil)))), (.ife (.cmp .eq (.ix (.var 0) (.lit (.int 0))) (.lit (.str "ring"))) [(.ret (.tup (.cons (.lit (.str "ring")) (.cons (.var 2) .nil))))] []), (.ret (.ife (.cmp .eq (.ix (.var 0) (.lit (.int 0))) (.lit (.str "flute"))) (.tup (.cons (.lit (.str "flute")) (.cons (.call 1 (.cons (.var 2) .nil)) .nil))) (.bin .add (.sl (.var 0) .no (.ye (.lit (.int 2)))) (.tup (.cons (.call 2 (.cons (.var 2) (.cons (.ix (.var 0) (.lit (.int 1))) .nil))) .nil)))))]
theorem fn__law_slid {g : Gb} (gk : GOk g) (a : At g "_law_slid" 89) (f__law_sum : FOk g 3 "_law_sum" sp__law_sum) (f__law_angle : FOk g 1 "_law_angle" sp__law_angle) (f__law_round : FOk g 5 "_law_round" sp__law_round) : FOk g 6 "_law_slid" sp__law_slid := by
  refine FOk.of (k := 5) (G := [("_law_sum", sp__law_sum), ("_law_angle", sp__law_angle), ("_law_round", sp__law_round)]) (N := ["_law_line_so", "_law_part_so", "_law_own"]) (ps := ["_law_line_so", "_law_part_so"]) b__law_slid a gk ⟨List.forall_mem_cons.mpr ⟨f__law_sum.mono (by decide), List.forall_mem_cons.mpr ⟨f__law_angle.mono (by decide), List.forall_mem_cons.mpr ⟨f__law_round.mono (by decide), fun _ h => nomatch h⟩⟩⟩⟩ ⟨rfl, rfl, rfl, by decide +kernel, rfl, by decide +kernel, by decide +kernel⟩ (fun _ _ _ _ _ _ us hl => match us, hl with | [_, _], _ => rfl) rfl (by decide +kernel) ?_
  intro ws M Q h
  simp only [b__law_slid, evSs, evS, ev, evA, evT, evTs, evAnd, evOr, evO, evI, Bool.false_eq_true, reduceIte]
  obtain ⟨x, s, rfl, hf, hs, hq⟩ := h
  cases x with
  | ring q =>
    simp only [Ln.d]
    have hf' : sz q ≤ 400 := hf
    fin_places
    refine cQ2 (f := (· + ·)) (show _ ≤ _ by omega) ?_
    fin_places
    try exact hq
  | flute q =>
    simp only [Ln.d]
    have hf' : sz q ≤ 400 := hf
    fin_places
    refine cQ2 (f := (· + ·)) (show _ ≤ _ by omega) ?_
    fin_places
    refine cQ1 ?_
    fin_places
    try exact hq
  | lead l p =>
    simp only [Ln.d]
    obtain ⟨h0, h1, h2⟩ : l ≠ 0 ∧ sz l ≤ 3 ∧ sz p ≤ 400 := hf
    have e1 := sz_add p s
    fin_places
    refine cQ2 (f := (· + ·)) (show _ ≤ _ by omega) ?_
    fin_places
    refine cQ2 (f := rnd) ⟨h0, by omega⟩ ?_
    fin_places
    refine oCatT (by show 3 ≤ 100000; decide) ?_
    try exact hq
end Sh
set_option maxHeartbeats 1000000
namespace Sh
open PySem PySem.Spec PyProof.Rows L2
/-! ## bands, walked -/
def mvP (z t : Rat) (x : Pr) : Pr := (mvL z t x.1, x.2)
def mirP (x : Pr) : Pr := (mirL x.1, x.2)
def slP (s : Rat) (x : Pr) : Pr := (slL s x.1, x.2)
def SetOf (L L' : List Pr) : Prop := kPr.Srt L' ∧ L'.Nodup ∧ ∀ x, x ∈ L' ↔ x ∈ L
abbrev sp_set_of : DSp := ⟨1, fun ws M Q => ∃ L : List Pr, ws = [.d (.list (L.map Pr.d))] ∧ L.length < 64 ∧ ∀ L', SetOf L L' → Q (.d (bD L')) M⟩
theorem cSetOf {M : MM} {Q : WK} {L : List Pr} (h : L.length < 64) (q : ∀ L', SetOf L L' → Q (.d (bD L')) M) : [W.d (.list (L.map Pr.d))].length = sp_set_of.n ∧ sp_set_of.run [.d (.list (L.map Pr.d))] M Q := ⟨rfl, L, rfl, h, q⟩
theorem lift_in {α : Type} (f : α → PyData) {L : List α} : ∀ {ys : List PyData}, (∀ y ∈ ys, y ∈ L.map f) → ∃ A : List α, ys = A.map f ∧ ∀ a ∈ A, a ∈ L
  | [], _ => ⟨[], rfl, fun _ h => nomatch h⟩
  | y :: ys, h => by
    obtain ⟨x, hx, rfl⟩ := List.mem_map.mp (h y List.mem_cons_self)
    obtain ⟨A, rfl, hA⟩ := lift_in f (L := L) (ys := ys) fun z hz => h z (List.mem_cons_of_mem _ hz)
    refine ⟨x :: A, rfl, fun a ha => ?_⟩
    rcases List.mem_cons.mp ha with rfl | ha
    · exact hx
    · exact hA a ha
/-- sorted(set(xs)) -/
theorem sort_set {α : Type} (κ : Kd α) (hk : ∀ x, KeyD (κ.enc x)) {M : MM} {Q : WK} {L : List α} (h : L.length < 64) (q : ∀ L' : List α, κ.Srt L' → L'.Nodup → (∀ x, x ∈ L' ↔ x ∈ L) → Q (.d (.list (L'.map κ.enc))) M) :
    bx .set [.d (.list (L.map κ.enc))] M fun w M1 => bx .sorted [w] M1 Q := by
  refine ⟨by rw [List.length_map]; exact h, fun d hd => ?_, fun ys h1 h2 h3 => ?_⟩
  · obtain ⟨x, _, rfl⟩ := List.mem_map.mp hd
    exact hk x
  · obtain ⟨A, rfl, hA⟩ := lift_in κ.enc h1
    refine ⟨κ.sortOk A, fun zs pm => ?_⟩
    obtain ⟨B, pB, rfl⟩ := perm_lift κ.enc pm
    obtain ⟨C, pC, sC, eC⟩ := κ.sorted B
    rw [eC]
    have pA : C.Perm A := pC.trans pB
    refine q C sC (pA.nodup_iff.mpr (κ.keys_nodup hk h3)) fun x => ⟨fun hx => hA x (pA.mem_iff.mp hx), fun hx => pA.mem_iff.mpr ?_⟩
    have z := h2 (κ.enc x) (List.mem_map_of_mem hx)
    rw [List.map_map] at z
    obtain ⟨a, ha, ea⟩ := List.mem_map.mp z
    have : a = x := κ.inj _ _ (key_inj (κ.nob _) (κ.nob _) (hk _) ea)
    rw [← this]
    exact ha
local macro_rules | `(tactic| one_item) => `(tactic| first
  | ((with_reducible refine' cEqS ?k1 ?_); (case k1 => exact ⟨by decide +kernel, by decide +kernel⟩); (try simp only [tRR, tRF, tRL, tFR, tFF, tFL, tLR, tLF, tLL, decide_true, decide_false, Bool.not_true, Bool.not_false]))
  | ((with_reducible refine' cNeS ?k1 ?_); (case k1 => exact ⟨by decide +kernel, by decide +kernel⟩); (try simp only [tRR, tRF, tRL, tFR, tFF, tFL, tLR, tLF, tLL, decide_true, decide_false, Bool.not_true, Bool.not_false]))
  | (with_reducible refine sFnR ?_)
  | (with_reducible refine sSeq ?_) | (with_reducible refine sAsg ?_) | (with_reducible refine s2 ?_)
  | ((with_reducible refine' sVar ?k1 ?_); (case k1 => rfl))
  | (with_reducible refine sC ?_) | (with_reducible refine sCons ?_) | (with_reducible refine sNil ?_) | (with_reducible refine sN ?_) | (with_reducible refine s1 ?_)
  | ((with_reducible refine' xBind ?k1 ?_); (case k1 => rfl))
  | ((with_reducible refine' sFnE ?k1 ?_); (case k1 => rfl))
  | (with_reducible refine sIfS ?_) | (with_reducible refine sIf ?_) | (with_reducible refine sB ?_) | (with_reducible refine oCmp ?_) | (with_reducible refine xBool ?_) | (with_reducible refine sRet ?_) | (with_reducible refine sTup ?_) | (with_reducible refine sLst ?_)
  | ((with_reducible refine' xDat ?k1 ?k2 ?_); (case k1 => rfl); (case k2 => (exact Nat.le_of_ble_eq_true rfl)))
  | ((with_reducible refine' oIxT ?k1 ?_); (case k1 => rfl)) | ((with_reducible refine' oIxL ?k1 ?_); (case k1 => rfl))
  | (with_reducible refine oAdd ?_) | (with_reducible refine oSub ?_) | (with_reducible refine oNeg ?_) | (with_reducible refine oGcd ?_) | (with_reducible refine oAbs ?_) | (with_reducible refine oInt ?_)
  | (with_reducible refine oLenT ?_) | (with_reducible refine oLenL ?_) | (with_reducible refine oSlT ?_) | (with_reducible refine oSlL ?_) | (with_reducible refine oTupL ?_) | (with_reducible refine oTupT ?_)
  | (with_reducible refine cLt ?_) | (with_reducible refine cLe ?_) | (with_reducible refine cGt ?_) | (with_reducible refine cGe ?_) | (with_reducible refine cIsN ?_) | (with_reducible refine cNotN ?_) | (with_reducible refine cIsB ?_) | (with_reducible refine cEqI ?_) | (with_reducible refine cNeI ?_)
  | (with_reducible refine sNotT ?_) | (with_reducible refine sAndT ?_) | (with_reducible refine sOrT ?_) | (with_reducible refine sNotV ?_) | (with_reducible refine sAndV ?_) | (with_reducible refine sOrV ?_)
  | (with_reducible refine sSl ?_) | (with_reducible refine sONone ?_) | (with_reducible refine sOSome ?_) | (with_reducible refine xInt ?_) | (with_reducible refine sChn ?_) | (with_reducible refine sPar ?_) | (with_reducible refine xTwo ?_) | (with_reducible refine sIsi ?_) | (with_reducible refine sIsi2 ?_) | (with_reducible refine xD ?_)
  | (with_reducible refine sNext ?_)
  | (with_reducible refine xT ?_) | (with_reducible refine xF ?_))
local macro_rules | `(tactic| fin_places) => `(tactic| (repeat one_item))
def b_set_of : List Sm := [(.ret (.blt .tuple (.cons (.blx .sorted (.cons (.blx .set (.cons (.var 0) .nil)) .nil)) .nil)))]
theorem fn_set_of {g : Gb} (gk : GOk g) (a : At g "set_of" 28) : FOk g 1 "set_of" sp_set_of := by
  refine FOk.of (k := 0) (G := []) (N := ["things"]) (ps := ["things"]) b_set_of a gk ⟨fun _ h => nomatch h⟩ ⟨rfl, rfl, rfl, by decide +kernel, rfl, by decide +kernel, by decide +kernel⟩ (fun _ _ _ _ _ _ us hl => match us, hl with | [_], _ => rfl) rfl (by decide +kernel) ?_
  intro ws M Q h
  simp only [b_set_of, evSs, evS, ev, evA, evT, evTs, evAnd, evOr, evO, evI, Bool.false_eq_true, reduceIte]
  obtain ⟨L, rfl, hl, hq⟩ := h
  fin_places
  refine sort_set kPr Pr.key hl fun L' h1 h2 h3 => ?_
  fin_places
  exact hq L' ⟨h1, h2, h3⟩
/-- a comprehension over a band's pairs -/
theorem lc_band {i j : Nat} {re : RdE} {δ0 : En} {M : MM} {Q : WK} (f : Pr → PyData) (L : List Pr) (h3 : ∀ x ∈ L, ∀ Q' : WK, Q' (.d (f x)) M → re ((δ0.set i (some (.d x.1.d))).set j (some (.d (.int x.2)))) M Q') (q : Q (.d (.list (L.map f))) M) :
    lcGo (.tp [.nm i, .nm j]) (fun _ M (Qb : Bool → MM → Prop) => Qb true M) re δ0 ((L.map Pr.d).map .d) [] M Q := by
  rw [List.map_map]
  exact lc_map (fun x : Pr => .d (Pr.d x)) f _ L (fun x _ => rfl) h3 q
abbrev spMvB : DSp := ⟨2, fun ws M Q => ∃ L z t, ws = [.d (bD L), .d (mo z t)] ∧ L.length < 64 ∧ (∀ x ∈ L, Ln.fits 400 x.1) ∧ sz z ≤ 1600 ∧ sz t ≤ 1600 ∧ ∀ L', SetOf (L.map (mvP z t)) L' → Q (.d (bD L')) M⟩
abbrev sp_band_moved : DSp := spMvB
abbrev sp_mirrored_band : DSp := ⟨1, fun ws M Q => ∃ L, ws = [.d (bD L)] ∧ L.length < 64 ∧ ∀ L', SetOf (L.map mirP) L' → Q (.d (bD L')) M⟩
abbrev sp__law_mirrored_band : DSp := ⟨1, fun ws M Q => ∃ L, ws = [.d (bD L)] ∧ L.length < 64 ∧ ∀ L', L'.Perm (L.map mirP) → kPr.Srt L' → Q (.d (bD L')) M⟩
abbrev sp__law_moved_band : DSp := ⟨2, fun ws M Q => ∃ L z t, ws = [.d (bD L), .d (mo z t)] ∧ L.length < 64 ∧ (∀ x ∈ L, Ln.fits 400 x.1) ∧ sz z ≤ 1600 ∧ sz t ≤ 1600 ∧ ∀ L', L'.Perm (L.map (mvP z t)) → kPr.Srt L' → Q (.d (bD L')) M⟩
theorem mo_dep (n : Nat) (z t : Rat) : dep (n + 3) (mo z t) := ⟨by show 2 ≤ 100000; decide, fun y hy => by
  simp only [List.mem_cons, List.not_mem_nil, or_false] at hy
  rcases hy with rfl | rfl
  · exact fr_dep n z
  · exact fr_dep n t⟩
theorem mo_tup (z t : Rat) : tupD (mo z t) = mo z t := rfl
theorem small {L : List Pr} (h : L.length < 64) : ((L.map Pr.d).map W.d).length ≤ 100000 := by rw [List.length_map, List.length_map]; omega
def b_band_moved : List Sm := [(.asg (.nm 2) (.call 0 (.cons (.var 1) .nil))), (.ret (.call 1 (.cons (.lc (.tup (.cons (.call 2 (.cons (.var 3) (.cons (.var 2) .nil))) (.cons (.var 4) .nil))) (.tp [(.nm 3), (.nm 4)]) (.seq (.call 0 (.cons (.var 0) .nil))) .yes [3, 4]) .nil)))]
theorem fn_band_moved {g : Gb} (gk : GOk g) (a : At g "band_moved" 34) (f_tupled : FOk g 8 "tupled" sp_tupled) (f_set_of : FOk g 1 "set_of" sp_set_of) (f_line_moved : FOk g 9 "line_moved" sp_line_moved) : FOk g 10 "band_moved" sp_band_moved := by
  refine FOk.of (k := 9) (G := [("tupled", sp_tupled), ("set_of", sp_set_of), ("line_moved", sp_line_moved)]) (N := ["band", "motion", "own", "line", "depth"]) (ps := ["band", "motion"]) b_band_moved a gk ⟨List.forall_mem_cons.mpr ⟨f_tupled.mono (by decide), List.forall_mem_cons.mpr ⟨f_set_of.mono (by decide), List.forall_mem_cons.mpr ⟨f_line_moved.mono (by decide), fun _ h => nomatch h⟩⟩⟩⟩ ⟨rfl, rfl, rfl, by decide +kernel, rfl, by decide +kernel, by decide +kernel⟩ (fun _ _ _ _ _ _ us hl => match us, hl with | [_, _], _ => rfl) rfl (by decide +kernel) ?_
  intro ws M Q h
  simp only [b_band_moved, evSs, evS, ev, evA, evT, evTs, evAnd, evOr, evO, evI, Bool.false_eq_true, reduceIte]
  obtain ⟨L, z, t, rfl, hl, hf, hz, ht, hq⟩ := h
  fin_places
  refine cTup (mo_dep 4 z t) ?_
  rw [mo_tup]
  fin_places
  refine sLc (sSeqI ?_)
  fin_places
  refine cTup (bD_dep 2 L (by omega)) ?_
  rw [bD_tup]
  refine xSeqT ⟨small hl, ?_⟩
  refine lc_band (fun x => Pr.d (mvP z t x)) L (fun x hx Q' q => ?_) ?_
  · fin_places
    refine cMv (hf x hx) hz ht ?_
    fin_places
    try exact q
  · fin_places
    have e : L.map (fun x => Pr.d (mvP z t x)) = (L.map (mvP z t)).map Pr.d := by rw [List.map_map]; rfl
    rw [e]
    exact cSetOf (by rw [List.length_map]; exact hl) hq
def b_mirrored_band : List Sm := [(.ret (.call 0 (.cons (.lc (.tup (.cons (.call 1 (.cons (.var 1) .nil)) (.cons (.var 2) .nil))) (.tp [(.nm 1), (.nm 2)]) (.seq (.var 0)) .yes [1, 2]) .nil)))]
theorem fn_mirrored_band {g : Gb} (gk : GOk g) (a : At g "mirrored_band" 48) (f_set_of : FOk g 1 "set_of" sp_set_of) (f_line_mirrored : FOk g 9 "line_mirrored" sp_line_mirrored) : FOk g 10 "mirrored_band" sp_mirrored_band := by
  refine FOk.of (k := 9) (G := [("set_of", sp_set_of), ("line_mirrored", sp_line_mirrored)]) (N := ["band", "line", "depth"]) (ps := ["band"]) b_mirrored_band a gk ⟨List.forall_mem_cons.mpr ⟨f_set_of.mono (by decide), List.forall_mem_cons.mpr ⟨f_line_mirrored.mono (by decide), fun _ h => nomatch h⟩⟩⟩ ⟨rfl, rfl, rfl, by decide +kernel, rfl, by decide +kernel, by decide +kernel⟩ (fun _ _ _ _ _ _ us hl => match us, hl with | [_], _ => rfl) rfl (by decide +kernel) ?_
  intro ws M Q h
  simp only [b_mirrored_band, evSs, evS, ev, evA, evT, evTs, evAnd, evOr, evO, evI, Bool.false_eq_true, reduceIte]
  obtain ⟨L, rfl, hl, hq⟩ := h
  fin_places
  refine sLc (sSeqI ?_)
  fin_places
  refine xSeqT ⟨small hl, ?_⟩
  refine lc_band (fun x => Pr.d (mirP x)) L (fun x hx Q' q => ?_) ?_
  · fin_places
    refine cMi ?_
    fin_places
    try exact q
  · fin_places
    have e : L.map (fun x => Pr.d (mirP x)) = (L.map mirP).map Pr.d := by rw [List.map_map]; rfl
    rw [e]
    exact cSetOf (by rw [List.length_map]; exact hl) hq
def b__law_moved_band : List Sm := [(.ret (.blt .tuple (.cons (.blt .sorted (.cons (.lc (.tup (.cons (.call 0 (.cons (.var 2) (.cons (.var 1) .nil))) (.cons (.var 3) .nil))) (.tp [(.nm 2), (.nm 3)]) (.seq (.var 0)) .yes [2, 3]) .nil)) .nil)))]
theorem fn__law_moved_band {g : Gb} (gk : GOk g) (a : At g "_law_moved_band" 97) (f__law_moved_line : FOk g 6 "_law_moved_line" sp__law_moved_line) : FOk g 7 "_law_moved_band" sp__law_moved_band := by
  refine FOk.of (k := 6) (G := [("_law_moved_line", sp__law_moved_line)]) (N := ["_law_band_so", "_law_motion_so", "_law_line_so", "_law_depth_so"]) (ps := ["_law_band_so", "_law_motion_so"]) b__law_moved_band a gk ⟨List.forall_mem_cons.mpr ⟨f__law_moved_line.mono (by decide), fun _ h => nomatch h⟩⟩ ⟨rfl, rfl, rfl, by decide +kernel, rfl, by decide +kernel, by decide +kernel⟩ (fun _ _ _ _ _ _ us hl => match us, hl with | [_, _], _ => rfl) rfl (by decide +kernel) ?_
  intro ws M Q h
  simp only [b__law_moved_band, evSs, evS, ev, evA, evT, evTs, evAnd, evOr, evO, evI, Bool.false_eq_true, reduceIte]
  obtain ⟨L, z, t, rfl, hl, hf, hz, ht, hq⟩ := h
  fin_places
  refine sLc (sSeqI ?_)
  fin_places
  refine xSeqT ⟨small hl, ?_⟩
  refine lc_band (fun x => Pr.d (mvP z t x)) L (fun x hx Q' q => ?_) ?_
  · fin_places
    refine cMv (hf x hx) hz ht ?_
    fin_places
    try exact q
  · have e : L.map (fun x => Pr.d (mvP z t x)) = (L.map (mvP z t)).map Pr.d := by rw [List.map_map]; rfl
    rw [e]
    obtain ⟨L', p1, p2, p3⟩ := kPr.sorted (L.map (mvP z t))
    fin_places
    refine oSorted (kPr.sortOk _) ?_
    fin_places
    have p3' : sortD ((L.map (mvP z t)).map Pr.d) = L'.map Pr.d := p3
    rw [p3']
    exact hq L' p1 p2
def b__law_mirrored_band : List Sm := [(.ret (.blt .tuple (.cons (.blt .sorted (.cons (.lc (.tup (.cons (.call 0 (.cons (.var 1) .nil)) (.cons (.var 2) .nil))) (.tp [(.nm 1), (.nm 2)]) (.seq (.var 0)) .yes [1, 2]) .nil)) .nil)))]
theorem fn__law_mirrored_band {g : Gb} (gk : GOk g) (a : At g "_law_mirrored_band" 98) (f__law_mirrored_line : FOk g 2 "_law_mirrored_line" sp__law_mirrored_line) : FOk g 3 "_law_mirrored_band" sp__law_mirrored_band := by
  refine FOk.of (k := 2) (G := [("_law_mirrored_line", sp__law_mirrored_line)]) (N := ["_law_band_so", "_law_line_so", "_law_depth_so"]) (ps := ["_law_band_so"]) b__law_mirrored_band a gk ⟨List.forall_mem_cons.mpr ⟨f__law_mirrored_line.mono (by decide), fun _ h => nomatch h⟩⟩ ⟨rfl, rfl, rfl, by decide +kernel, rfl, by decide +kernel, by decide +kernel⟩ (fun _ _ _ _ _ _ us hl => match us, hl with | [_], _ => rfl) rfl (by decide +kernel) ?_
  intro ws M Q h
  simp only [b__law_mirrored_band, evSs, evS, ev, evA, evT, evTs, evAnd, evOr, evO, evI, Bool.false_eq_true, reduceIte]
  obtain ⟨L, rfl, hl, hq⟩ := h
  fin_places
  refine sLc (sSeqI ?_)
  fin_places
  refine xSeqT ⟨small hl, ?_⟩
  refine lc_band (fun x => Pr.d (mirP x)) L (fun x hx Q' q => ?_) ?_
  · fin_places
    refine cMi ?_
    fin_places
    try exact q
  · have e : L.map (fun x => Pr.d (mirP x)) = (L.map mirP).map Pr.d := by rw [List.map_map]; rfl
    rw [e]
    obtain ⟨L', p1, p2, p3⟩ := kPr.sorted (L.map mirP)
    fin_places
    refine oSorted (kPr.sortOk _) ?_
    fin_places
    have p3' : sortD ((L.map mirP).map Pr.d) = L'.map Pr.d := p3
    rw [p3']
    exact hq L' p1 p2
end Sh
set_option maxHeartbeats 1000000
namespace Sh
open PySem PySem.Spec PyProof.Rows L2
/-! ## slides, choices, walked -/
section
variable {δ : En} {M : MM} {DD : EndsD} {ra ro : RdE} {ri : RdI} {tg : Tg} {rb : RdS}
theorem sApp (q : ro δ M fun b M1 => ∃ a ys, b = .box a ∧ M1 a = some (.l ys) ∧ ra δ M1 fun w M2 => ∃ x xs, w = .d x ∧ M2 a = some (.l xs) ∧ xs.length < 100000 ∧ DD.nx δ (mset M2 a (.l (xs ++ [x])))) : rdApp ro ra DD δ M := q
theorem sExt (q : ro δ M fun b M1 => ∃ a ys, b = .box a ∧ M1 a = some (.l ys) ∧ ra δ M1 fun w M2 => ∃ zs xs, w = .d (.list zs) ∧ M2 a = some (.l xs) ∧ xs.length + zs.length ≤ 100000 ∧ DD.nx δ (mset M2 a (.l (xs ++ zs)))) : rdExt ro ra DD δ M := q
theorem sFor (q : ri δ M fun ws M1 => forGo tg rb DD ws δ M1) : rdFor ri tg rb DD δ M := q
theorem sGho {i : Nat} {a : Addr} {xs : List PyData} (h : δ[i]? = some (some (.box a))) (hm : M a = some (.l xs)) (q : DD.nx (δ.set i (some (.d (.list xs)))) (mdel M a)) : rdGho0 i DD δ M := ⟨a, h, .inl ⟨xs, hm, q⟩⟩
end
/-- a for loop by an invariant over what is left -/
theorem for_inv {α : Type} {tg : Tg} {rb : RdS} {DD : EndsD} (enc : α → W) (I : List α → En → MM → Prop)
    (step : ∀ (t : α) (rest : List α) (δ : En) (M : MM) (K : En → MM → Prop), I (t :: rest) δ M → (∀ δ' M', I rest δ' M' → K δ' M') → ∃ δ', bindD tg (enc t) δ = some δ' ∧ rb { DD with nx := K, ct := K, bk := DD.nx } δ' M)
    (fin : ∀ δ M, I [] δ M → DD.nx δ M) : ∀ (R : List α) (δ : En) (M : MM), I R δ M → forGo tg rb DD (R.map enc) δ M
  | [], δ, M, h => fin δ M h
  | t :: R, δ, M, h => step t R δ M _ h fun δ' M' h' => for_inv enc I step fin R δ' M' h'
theorem at_head {α : Type} (x : α) (xs : List α) : atI (x :: xs) 0 = some x := by
  unfold atI ixN
  rw [if_pos (by decide), if_pos (by rw [List.length_cons]; omega)]
  rfl
theorem mdel_mset {M : MM} {a : Addr} {o : MO} (h : M a = none) : mdel (mset M a o) a = M := funext fun b => by
  unfold mdel mset
  by_cases e : b = a
  · rw [if_pos e, e, h]
  · rw [if_neg e, if_neg e]
def sameB (A B : List Pr) : Bool := (A.all fun x => B.contains x) && B.all fun x => A.contains x
theorem sameB_iff {A B : List Pr} : sameB A B = true ↔ ∀ x, x ∈ A ↔ x ∈ B := by
  unfold sameB
  rw [Bool.and_eq_true, List.all_eq_true, List.all_eq_true]
  simp only [List.contains_iff_mem]
  exact ⟨fun h x => ⟨h.1 x, h.2 x⟩, fun h => ⟨fun x hx => (h x).mp hx, fun x hx => (h x).mpr hx⟩⟩
/-- the parts by which A is slid on B -/
def slC (f : Pr) (A B : List Pr) (y : Pr) : Bool := decide (y.2 = f.2) && sameB (A.map (slP (plc y.1 - plc f.1))) B
def slp (f y : Pr) : Rat := plc y.1 - plc f.1
def slides (f : Pr) (A B : List Pr) : List Rat := (B.filter (slC f A B)).map (slp f)
theorem at_last (x : Ln) : ∃ ds, x.d = .tuple ds ∧ atI ds (-1) = some (fr (plc x)) := by
  cases x <;> exact ⟨_, rfl, rfl⟩
theorem plc_sz {b : Nat} {x : Ln} (h : x.fits b) : sz (plc x) ≤ b := by
  cases x with
  | ring q => exact h
  | flute q => exact h
  | lead l p => exact h.2.2
theorem Ln.fits.mono {b c : Nat} {x : Ln} (h : x.fits b) (e : b ≤ c) : x.fits c := by
  cases x with
  | ring q => exact Nat.le_trans h e
  | flute q => exact Nat.le_trans h e
  | lead l p => exact ⟨h.1, h.2.1, Nat.le_trans h.2.2 e⟩
abbrev spSlides : DSp := ⟨2, fun ws M Q => ∃ f A B, ws = [.d (.list ((f :: A).map Pr.d)), .d (.list (B.map Pr.d))] ∧ A.length < 60 ∧ B.length < 60 ∧ (∀ x ∈ f :: A, Ln.fits 400 x.1) ∧ (∀ x ∈ B, Ln.fits 400 x.1) ∧ Q (.d (.list ((slides f (f :: A) B).map fr))) M⟩
abbrev sp_slides_for : DSp := spSlides
theorem lev_bd (L : List Pr) : lev 30 (bD L) := fun y hy => by
  obtain ⟨x, _, rfl⟩ := List.mem_map.mp hy
  exact Pr.lev' 26 x
theorem eqv_bd (A B : List Pr) : PyData.eqv (bD A) (bD B) = decide (A = B) := by
  have e := kPr.eqvs A B
  have : PyData.eqv (bD A) (bD B) = PyData.eqvAll (A.map Pr.d) (B.map Pr.d) := by rw [PyData.eqv]
  rw [this]
  exact e
theorem same_set {A B A' B' : List Pr} (hA : SetOf A A') (hB : SetOf B B') : decide (A' = B') = sameB A B := by
  rw [Bool.eq_iff_iff, decide_eq_true_eq, sameB_iff]
  exact ⟨fun e x => by rw [← hA.2.2, ← hB.2.2, e], fun h => kPr.uniq_mem hA.1 hB.1 hA.2.1 hB.2.1 fun x => by rw [hA.2.2, hB.2.2, h]⟩
local macro_rules | `(tactic| one_item) => `(tactic| first
  | ((with_reducible refine' cEqS ?k1 ?_); (case k1 => exact ⟨by decide +kernel, by decide +kernel⟩); (try simp only [tRR, tRF, tRL, tFR, tFF, tFL, tLR, tLF, tLL, decide_true, decide_false, Bool.not_true, Bool.not_false]))
  | ((with_reducible refine' cNeS ?k1 ?_); (case k1 => exact ⟨by decide +kernel, by decide +kernel⟩); (try simp only [tRR, tRF, tRL, tFR, tFF, tFL, tLR, tLF, tLL, decide_true, decide_false, Bool.not_true, Bool.not_false]))
  | (with_reducible refine sFnR ?_)
  | (with_reducible refine sSeq ?_) | (with_reducible refine sAsg ?_) | (with_reducible refine s2 ?_)
  | ((with_reducible refine' sVar ?k1 ?_); (case k1 => rfl))
  | (with_reducible refine sC ?_) | (with_reducible refine sCons ?_) | (with_reducible refine sNil ?_) | (with_reducible refine sN ?_) | (with_reducible refine s1 ?_)
  | ((with_reducible refine' xBind ?k1 ?_); (case k1 => rfl))
  | ((with_reducible refine' sFnE ?k1 ?_); (case k1 => rfl))
  | (with_reducible refine sIfS ?_) | (with_reducible refine sIf ?_) | (with_reducible refine sB ?_) | (with_reducible refine oCmp ?_) | (with_reducible refine xBool ?_) | (with_reducible refine sRet ?_) | (with_reducible refine sTup ?_) | (with_reducible refine sLst ?_)
  | ((with_reducible refine' xDat ?k1 ?k2 ?_); (case k1 => rfl); (case k2 => (exact Nat.le_of_ble_eq_true rfl)))
  | ((with_reducible refine' oIxT ?k1 ?_); (case k1 => rfl)) | ((with_reducible refine' oIxL ?k1 ?_); (case k1 => rfl))
  | (with_reducible refine oAdd ?_) | (with_reducible refine oSub ?_) | (with_reducible refine oNeg ?_) | (with_reducible refine oGcd ?_) | (with_reducible refine oAbs ?_) | (with_reducible refine oInt ?_)
  | (with_reducible refine oLenT ?_) | (with_reducible refine oLenL ?_) | (with_reducible refine oSlT ?_) | (with_reducible refine oSlL ?_) | (with_reducible refine oTupL ?_) | (with_reducible refine oTupT ?_)
  | (with_reducible refine cLt ?_) | (with_reducible refine cLe ?_) | (with_reducible refine cGt ?_) | (with_reducible refine cGe ?_) | (with_reducible refine cIsN ?_) | (with_reducible refine cNotN ?_) | (with_reducible refine cIsB ?_) | (with_reducible refine cEqI ?_) | (with_reducible refine cNeI ?_)
  | (with_reducible refine sNotT ?_) | (with_reducible refine sAndT ?_) | (with_reducible refine sOrT ?_) | (with_reducible refine sNotV ?_) | (with_reducible refine sAndV ?_) | (with_reducible refine sOrV ?_)
  | (with_reducible refine sSl ?_) | (with_reducible refine sONone ?_) | (with_reducible refine sOSome ?_) | (with_reducible refine xInt ?_) | (with_reducible refine sChn ?_) | (with_reducible refine sPar ?_) | (with_reducible refine xTwo ?_) | (with_reducible refine sIsi ?_) | (with_reducible refine sIsi2 ?_) | (with_reducible refine xD ?_)
  | (with_reducible refine sNext ?_)
  | (with_reducible refine xT ?_) | (with_reducible refine xF ?_))
local macro_rules | `(tactic| fin_places) => `(tactic| (repeat one_item))
def b_slides_for : List Sm := [(.asg (.tp [(.nm 2), (.nm 3)]) (.ix (.var 0) (.lit (.int 0)))), (.asg (.nm 4) (.box .nil)), (.for_ (.tp [(.nm 5), (.nm 6)]) (.seq (.var 1)) [(.asg (.nm 7) (.call 0 (.cons (.ix (.var 5) (.neg (.lit (.int 1)))) (.cons (.ix (.var 2) (.neg (.lit (.int 1)))) .nil)))), (.ife (.and_ (.cons (.cmp .eq (.var 6) (.var 3)) (.cons (.cmp .eq (.call 1 (.cons (.lc (.tup (.cons (.call 2 (.cons (.var 8) (.cons (.var 7) .nil))) (.cons (.var 9) .nil))) (.tp [(.nm 8), (.nm 9)]) (.seq (.var 0)) .yes [8, 9]) .nil)) (.call 1 (.cons (.var 1) .nil))) .nil))) [(.app (.var 4) (.var 7))] [])]), (.gho 4), (.ret (.var 4))]
theorem fn_slides_for {g : Gb} (gk : GOk g) (a : At g "slides_for" 39) (f_part_less : FOk g 3 "part_less" sp_part_less) (f_set_of : FOk g 1 "set_of" sp_set_of) (f_slid : FOk g 5 "slid" sp_slid) : FOk g 6 "slides_for" sp_slides_for := by
  refine FOk.of (k := 5) (G := [("part_less", sp_part_less), ("set_of", sp_set_of), ("slid", sp_slid)]) (N := ["near", "far", "first", "depth", "found", "line", "deep", "part", "own", "its"]) (ps := ["near", "far"]) b_slides_for a gk ⟨List.forall_mem_cons.mpr ⟨f_part_less.mono (by decide), List.forall_mem_cons.mpr ⟨f_set_of.mono (by decide), List.forall_mem_cons.mpr ⟨f_slid.mono (by decide), fun _ h => nomatch h⟩⟩⟩⟩ ⟨rfl, rfl, rfl, by decide +kernel, rfl, by decide +kernel, by decide +kernel⟩ (fun _ _ _ _ _ _ us hl => match us, hl with | [_, _], _ => rfl) rfl (by decide +kernel) ?_
  intro ws M Q h
  simp only [b_slides_for, evSs, evS, ev, evA, evT, evTs, evAnd, evOr, evO, evI, Bool.false_eq_true, reduceIte]
  obtain ⟨f, A, B, rfl, hA, hB, fA, fB, hq⟩ := h
  fin_places
  refine oIxL (x := Pr.d f) (at_head _ _) ?_
  fin_places
  refine sBox ?_
  fin_places
  intro a ha
  fin_places
  refine sFor (sSeqI ?_)
  fin_places
  refine xSeqL ?_
  rw [List.map_map]
  refine for_inv (fun y : Pr => W.d (Pr.d y)) (fun R δ' M' => ∃ C x5 x6 x7 x8 x9, B = C ++ R ∧ M' = mset M a (.l (((C.filter (slC f (f :: A) B)).map (slp f)).map fr)) ∧
    δ' = [some (.d (.list ((f :: A).map Pr.d))), some (.d (.list (B.map Pr.d))), some (.d f.1.d), some (.d (.int f.2)), some (.box a), x5, x6, x7, x8, x9]) ?_ ?_ B _ _ ⟨[], none, none, none, none, none, rfl, rfl, rfl⟩
  · rintro y R δ' M' K ⟨C, x5, x6, x7, x8, x9, eB, rfl, rfl⟩ hK
    have hy : y ∈ B := by rw [eB]; exact List.mem_append_right _ List.mem_cons_self
    have s1 := plc_sz (fB y hy)
    have s2 := plc_sz (fA f List.mem_cons_self)
    have s3 := sz_sub (plc y.1) (plc f.1)
    refine ⟨_, rfl, ?_⟩
    obtain ⟨dy, ey, ay⟩ := at_last y.1
    obtain ⟨df, ef, af⟩ := at_last f.1
    fin_places
    rw [ey]
    refine oIxT ay ?_
    rw [← ey]
    fin_places
    rw [ef]
    refine oIxT af ?_
    rw [← ef]
    fin_places
    refine cQ2 (f := (· - ·)) (show _ ≤ _ by omega) ?_
    fin_places
    have hC : ∀ b : Bool, slC f (f :: A) B y = b → K [some (.d (.list ((f :: A).map Pr.d))), some (.d (.list (B.map Pr.d))), some (.d f.1.d), some (.d (.int f.2)), some (.box a), some (.d y.1.d), some (.d (.int y.2)), some (.d (fr (plc y.1 - plc f.1))), x8, x9]
        (mset M a (.l ((((C.filter (slC f (f :: A) B)).map (slp f)).map fr) ++ (if b = true then [fr (plc y.1 - plc f.1)] else [])))) := fun b hb => by
      refine hK _ _ ⟨C ++ [y], _, _, _, _, _, by rw [List.append_assoc]; exact eB, ?_, rfl⟩
      rw [List.filter_append, List.map_append, List.map_append]
      cases b with
      | true => rw [List.filter_cons_of_pos hb, if_pos rfl]; rfl
      | false => rw [List.filter_cons_of_neg (by rw [hb]; decide), if_neg Bool.false_ne_true]; rfl
    refine xIf (fun hd => ?_) (fun hd => ?_)
    · have hd' : decide (y.2 = f.2) = true := decide_eq_true hd
      fin_places
      refine sLc (sSeqI ?_)
      fin_places
      refine xSeqL ⟨small (by rw [List.length_cons]; omega), ?_⟩
      refine lc_band (fun x => Pr.d (slP (plc y.1 - plc f.1) x)) (f :: A) (fun x hx Q' q => ?_) ?_
      · fin_places
        refine cSl (fA x hx) (by omega) ?_
        fin_places
        try exact q
      · fin_places
        have e : (f :: A).map (fun x => Pr.d (slP (plc y.1 - plc f.1) x)) = ((f :: A).map (slP (plc y.1 - plc f.1))).map Pr.d := by rw [List.map_map]; rfl
        rw [e]
        refine cSetOf (by rw [List.length_map, List.length_cons]; omega) fun LA hA' => ?_
        fin_places
        refine cSetOf (by omega) fun LB hB' => ?_
        refine cEq ⟨lev_bd _, lev_bd _⟩ ?_
        rw [eqv_bd, same_set hA' hB']
        cases hs : sameB ((f :: A).map (slP (plc y.1 - plc f.1))) B with
        | true =>
          fin_places
          refine sApp ?_
          fin_places
          refine ⟨a, _, rfl, mset_same, ?_⟩
          fin_places
          have q := hC true (by unfold slC; rw [hd', hs]; rfl)
          rw [if_pos rfl] at q
          refine ⟨_, _, rfl, mset_same, ?_, ?_⟩
          · rw [List.length_map, List.length_map]
            have h1 := List.length_filter_le (slC f (f :: A) B) C
            have h2 := congrArg List.length eB
            rw [List.length_append] at h2
            omega
          · rw [mset_mset]
            exact q
        | false =>
          fin_places
          have q := hC false (by unfold slC; rw [hs, Bool.and_false])
          rw [if_neg Bool.false_ne_true, List.append_nil] at q
          exact q
    · have q := hC false (by unfold slC; rw [decide_eq_false hd, Bool.false_and])
      rw [if_neg Bool.false_ne_true, List.append_nil] at q
      fin_places
      try exact q
  · rintro δ' M' ⟨C, x5, x6, x7, x8, x9, eB, rfl, rfl⟩
    rw [List.append_nil] at eB
    subst eB
    fin_places
    refine sGho rfl mset_same ?_
    rw [mdel_mset ha]
    fin_places
    try exact hq
end Sh
set_option maxHeartbeats 1000000
namespace Sh
open PySem PySem.Spec PyProof.Rows L2
/-! ## the law's slides; choices, walked -/
def slD (f : Pr) (A B : List Pr) (y : Pr) : Bool := (A.map (slP (plc y.1 - plc f.1))).isPerm B
def slidesL (f : Pr) (A B : List Pr) : List Rat := (B.filter (slD f A B)).map (slp f)
abbrev spSlidesL : DSp := ⟨2, fun ws M Q => ∃ f A B, ws = [.d (.list ((f :: A).map Pr.d)), .d (.list (B.map Pr.d))] ∧ A.length < 60 ∧ B.length < 60 ∧ (∀ x ∈ f :: A, Ln.fits 400 x.1) ∧ (∀ x ∈ B, Ln.fits 400 x.1) ∧ Q (.d (.list ((slidesL f (f :: A) B).map fr))) M⟩
abbrev sp__law_slides : DSp := spSlidesL
theorem lev_ld (L : List Pr) : lev 30 (.list (L.map Pr.d)) := fun y hy => by
  obtain ⟨x, _, rfl⟩ := List.mem_map.mp hy
  exact Pr.lev' 26 x
theorem eqv_ld (A B : List Pr) : PyData.eqv (.list (A.map Pr.d)) (.list (B.map Pr.d)) = decide (A = B) := by
  have e := kPr.eqvs A B
  have : PyData.eqv (.list (A.map Pr.d)) (.list (B.map Pr.d)) = PyData.eqvAll (A.map Pr.d) (B.map Pr.d) := by rw [PyData.eqv]
  rw [this]
  exact e
theorem perm_dec {A B A' B' : List Pr} (pA : A'.Perm A) (sA : kPr.Srt A') (pB : B'.Perm B) (sB : kPr.Srt B') : decide (A' = B') = A.isPerm B := by
  rw [Bool.eq_iff_iff, decide_eq_true_eq, List.isPerm_iff]
  exact ⟨fun e => pA.symm.trans (e ▸ pB), fun h => kPr.uniq sA sB (pA.trans (h.trans pB.symm))⟩
local macro_rules | `(tactic| one_item) => `(tactic| first
  | ((with_reducible refine' cEqS ?k1 ?_); (case k1 => exact ⟨by decide +kernel, by decide +kernel⟩); (try simp only [tRR, tRF, tRL, tFR, tFF, tFL, tLR, tLF, tLL, decide_true, decide_false, Bool.not_true, Bool.not_false]))
  | ((with_reducible refine' cNeS ?k1 ?_); (case k1 => exact ⟨by decide +kernel, by decide +kernel⟩); (try simp only [tRR, tRF, tRL, tFR, tFF, tFL, tLR, tLF, tLL, decide_true, decide_false, Bool.not_true, Bool.not_false]))
  | (with_reducible refine sFnR ?_)
  | (with_reducible refine sSeq ?_) | (with_reducible refine sAsg ?_) | (with_reducible refine s2 ?_)
  | ((with_reducible refine' sVar ?k1 ?_); (case k1 => rfl))
  | (with_reducible refine sC ?_) | (with_reducible refine sCons ?_) | (with_reducible refine sNil ?_) | (with_reducible refine sN ?_) | (with_reducible refine s1 ?_)
  | ((with_reducible refine' xBind ?k1 ?_); (case k1 => rfl))
  | ((with_reducible refine' sFnE ?k1 ?_); (case k1 => rfl))
  | (with_reducible refine sIfS ?_) | (with_reducible refine sIf ?_) | (with_reducible refine sB ?_) | (with_reducible refine oCmp ?_) | (with_reducible refine xBool ?_) | (with_reducible refine sRet ?_) | (with_reducible refine sTup ?_) | (with_reducible refine sLst ?_)
  | ((with_reducible refine' xDat ?k1 ?k2 ?_); (case k1 => rfl); (case k2 => (exact Nat.le_of_ble_eq_true rfl)))
  | ((with_reducible refine' oIxT ?k1 ?_); (case k1 => rfl)) | ((with_reducible refine' oIxL ?k1 ?_); (case k1 => rfl))
  | (with_reducible refine oAdd ?_) | (with_reducible refine oSub ?_) | (with_reducible refine oNeg ?_) | (with_reducible refine oGcd ?_) | (with_reducible refine oAbs ?_) | (with_reducible refine oInt ?_)
  | (with_reducible refine oLenT ?_) | (with_reducible refine oLenL ?_) | (with_reducible refine oSlT ?_) | (with_reducible refine oSlL ?_) | (with_reducible refine oTupL ?_) | (with_reducible refine oTupT ?_)
  | (with_reducible refine cLt ?_) | (with_reducible refine cLe ?_) | (with_reducible refine cGt ?_) | (with_reducible refine cGe ?_) | (with_reducible refine cIsN ?_) | (with_reducible refine cNotN ?_) | (with_reducible refine cIsB ?_) | (with_reducible refine cEqI ?_) | (with_reducible refine cNeI ?_)
  | (with_reducible refine sNotT ?_) | (with_reducible refine sAndT ?_) | (with_reducible refine sOrT ?_) | (with_reducible refine sNotV ?_) | (with_reducible refine sAndV ?_) | (with_reducible refine sOrV ?_)
  | (with_reducible refine sSl ?_) | (with_reducible refine sONone ?_) | (with_reducible refine sOSome ?_) | (with_reducible refine xInt ?_) | (with_reducible refine sChn ?_) | (with_reducible refine sPar ?_) | (with_reducible refine xTwo ?_) | (with_reducible refine sIsi ?_) | (with_reducible refine sIsi2 ?_) | (with_reducible refine xD ?_)
  | (with_reducible refine sNext ?_)
  | (with_reducible refine xT ?_) | (with_reducible refine xF ?_))
local macro_rules | `(tactic| fin_places) => `(tactic| (repeat one_item))
def b__law_slides : List Sm := [(.asg (.nm 2) (.box .nil)), (.for_ (.tp [(.nm 3), (.nm 4)]) (.seq (.var 1)) [(.asg (.nm 5) (.call 0 (.cons (.ix (.var 3) (.neg (.lit (.int 1)))) (.cons (.ix (.ix (.ix (.var 0) (.lit (.int 0))) (.lit (.int 0))) (.neg (.lit (.int 1)))) .nil)))), (.ife (.cmp .eq (.blt .sorted (.cons (.lc (.tup (.cons (.call 1 (.cons (.ix (.var 6) (.lit (.int 0))) (.cons (.var 5) .nil))) (.cons (.ix (.var 6) (.lit (.int 1))) .nil))) (.nm 6) (.seq (.var 0)) .yes [6]) .nil)) (.blt .sorted (.cons (.var 1) .nil))) [(.app (.var 2) (.var 5))] [])]), (.gho 2), (.ret (.var 2))]
theorem fn__law_slides {g : Gb} (gk : GOk g) (a : At g "_law_slides" 90) (f__law_less : FOk g 4 "_law_less" sp__law_less) (f__law_slid : FOk g 6 "_law_slid" sp__law_slid) : FOk g 7 "_law_slides" sp__law_slides := by
  refine FOk.of (k := 6) (G := [("_law_less", sp__law_less), ("_law_slid", sp__law_slid)]) (N := ["_law_near_so", "_law_far_so", "_law_found", "_law_line_so", "_law_depth_so", "_law_own", "_law_its"]) (ps := ["_law_near_so", "_law_far_so"]) b__law_slides a gk ⟨List.forall_mem_cons.mpr ⟨f__law_less.mono (by decide), List.forall_mem_cons.mpr ⟨f__law_slid.mono (by decide), fun _ h => nomatch h⟩⟩⟩ ⟨rfl, rfl, rfl, by decide +kernel, rfl, by decide +kernel, by decide +kernel⟩ (fun _ _ _ _ _ _ us hl => match us, hl with | [_, _], _ => rfl) rfl (by decide +kernel) ?_
  intro ws M Q h
  simp only [b__law_slides, evSs, evS, ev, evA, evT, evTs, evAnd, evOr, evO, evI, Bool.false_eq_true, reduceIte]
  obtain ⟨f, A, B, rfl, hA, hB, fA, fB, hq⟩ := h
  fin_places
  refine sBox ?_
  fin_places
  intro a ha
  fin_places
  refine sFor (sSeqI ?_)
  fin_places
  refine xSeqL ?_
  rw [List.map_map]
  refine for_inv (fun y : Pr => W.d (Pr.d y)) (fun R δ' M' => ∃ C x5 x6 x7 x8, B = C ++ R ∧ M' = mset M a (.l (((C.filter (slD f (f :: A) B)).map (slp f)).map fr)) ∧
    δ' = [some (.d (.list ((f :: A).map Pr.d))), some (.d (.list (B.map Pr.d))), some (.box a), x5, x6, x7, x8]) ?_ ?_ B _ _ ⟨[], none, none, none, none, rfl, rfl, rfl⟩
  · rintro y R δ' M' K ⟨C, x5, x6, x7, x8, eB, rfl, rfl⟩ hK
    have hy : y ∈ B := by rw [eB]; exact List.mem_append_right _ List.mem_cons_self
    have s1 := plc_sz (fB y hy)
    have s2 := plc_sz (fA f List.mem_cons_self)
    have s3 := sz_sub (plc y.1) (plc f.1)
    refine ⟨_, rfl, ?_⟩
    obtain ⟨dy, ey, ay⟩ := at_last y.1
    obtain ⟨df, ef, af⟩ := at_last f.1
    fin_places
    rw [ey]
    refine oIxT ay ?_
    rw [← ey]
    fin_places
    refine oIxL (x := Pr.d f) (at_head _ _) ?_
    fin_places
    rw [ef]
    refine oIxT af ?_
    fin_places
    refine cQ2 (f := (· - ·)) (show _ ≤ _ by omega) ?_
    fin_places
    have hC : ∀ b : Bool, slD f (f :: A) B y = b → K [some (.d (.list ((f :: A).map Pr.d))), some (.d (.list (B.map Pr.d))), some (.box a), some (.d y.1.d), some (.d (.int y.2)), some (.d (fr (plc y.1 - plc f.1))), x8]
        (mset M a (.l ((((C.filter (slD f (f :: A) B)).map (slp f)).map fr) ++ (if b = true then [fr (plc y.1 - plc f.1)] else [])))) := fun b hb => by
      refine hK _ _ ⟨C ++ [y], _, _, _, _, by rw [List.append_assoc]; exact eB, ?_, rfl⟩
      rw [List.filter_append, List.map_append, List.map_append]
      cases b with
      | true => rw [List.filter_cons_of_pos hb, if_pos rfl]; rfl
      | false => rw [List.filter_cons_of_neg (by rw [hb]; decide), if_neg Bool.false_ne_true]; rfl
    refine sLc (sSeqI ?_)
    fin_places
    refine xSeqL ⟨small (by rw [List.length_cons]; omega), ?_⟩
    rw [List.map_map]
    refine lc_map (fun x : Pr => W.d (Pr.d x)) (fun x => Pr.d (slP (plc y.1 - plc f.1) x)) _ (f :: A) (fun x _ => rfl) (fun x hx Q' q => ?_) ?_
    · fin_places
      refine cSl (fA x hx) (by omega) ?_
      fin_places
      try exact q
    · fin_places
      have e : (f :: A).map (fun x => Pr.d (slP (plc y.1 - plc f.1) x)) = ((f :: A).map (slP (plc y.1 - plc f.1))).map Pr.d := by rw [List.map_map]; rfl
      rw [e]
      obtain ⟨LA, pA, sA, eA⟩ := kPr.sorted ((f :: A).map (slP (plc y.1 - plc f.1)))
      obtain ⟨LB, pB, sB, eB2⟩ := kPr.sorted B
      have eA' : sortD (((f :: A).map (slP (plc y.1 - plc f.1))).map Pr.d) = LA.map Pr.d := eA
      have eB' : sortD (B.map Pr.d) = LB.map Pr.d := eB2
      refine oSorted (kPr.sortOk _) ?_
      rw [eA']
      fin_places
      refine oSorted (kPr.sortOk _) ?_
      rw [eB']
      fin_places
      refine cEq ⟨lev_ld _, lev_ld _⟩ ?_
      rw [eqv_ld, perm_dec pA sA pB sB]
      cases hs : ((f :: A).map (slP (plc y.1 - plc f.1))).isPerm B with
      | true =>
        fin_places
        refine sApp ?_
        fin_places
        refine ⟨a, _, rfl, mset_same, ?_⟩
        fin_places
        have q := hC true hs
        rw [if_pos rfl] at q
        refine ⟨_, _, rfl, mset_same, ?_, ?_⟩
        · rw [List.length_map, List.length_map]
          have h1 := List.length_filter_le (slD f (f :: A) B) C
          have h2 := congrArg List.length eB
          rw [List.length_append] at h2
          omega
        · rw [mset_mset]
          exact q
      | false =>
        fin_places
        have q := hC false hs
        rw [if_neg Bool.false_ne_true, List.append_nil] at q
        exact q
  · rintro δ' M' ⟨C, x5, x6, x7, x8, eB, rfl, rfl⟩
    rw [List.append_nil] at eB
    subst eB
    fin_places
    refine sGho rfl mset_same ?_
    rw [mdel_mset ha]
    fin_places
    try exact hq
/-! ### choices -/
abbrev rowD (r : List Rat) : PyData := .tuple (r.map fr)
abbrev lotD (l : List Rat) : PyData := .list (l.map fr)
def stepC (rows : List (List Rat)) (lot : List Rat) : List (List Rat) := rows.flatMap fun r => lot.map fun p => r ++ [p]
def chs (lots : List (List Rat)) : List (List Rat) := lots.foldl stepC [[]]
theorem stepC_len (rows : List (List Rat)) (lot : List Rat) : (stepC rows lot).length = rows.length * lot.length := by
  induction rows with
  | nil => simp [stepC]
  | cons r rows ih =>
    have : stepC (r :: rows) lot = lot.map (fun p => r ++ [p]) ++ stepC rows lot := rfl
    rw [this, List.length_append, ih, List.length_map, List.length_cons, Nat.succ_mul]
    omega
theorem foldC_bound : ∀ (lots : List (List Rat)) (rows : List (List Rat)) (n : Nat), (∀ l ∈ lots, l.length ≤ 6) → rows.length ≤ n → (lots.foldl stepC rows).length ≤ n * 6 ^ lots.length
  | [], rows, n, _, h => by simpa using h
  | l :: lots, rows, n, hl, h => by
    have h1 : (stepC rows l).length ≤ n * 6 := by
      rw [stepC_len]
      exact Nat.mul_le_mul h (hl l List.mem_cons_self)
    have := foldC_bound lots (stepC rows l) (n * 6) (fun x hx => hl x (List.mem_cons_of_mem _ hx)) h1
    rw [List.foldl_cons, List.length_cons, Nat.pow_succ]
    refine Nat.le_trans this (Nat.le_of_eq ?_)
    rw [Nat.mul_assoc, Nat.mul_comm 6]
abbrev spChs : DSp := ⟨1, fun ws M Q => ∃ lots : List (List Rat), ws = [.d (.list (lots.map lotD))] ∧ lots.length ≤ 6 ∧ (∀ l ∈ lots, l.length ≤ 6) ∧ Q (.d (.list ((chs lots).map rowD))) M⟩
abbrev sp_one_of_each : DSp := spChs
abbrev sp__law_choices : DSp := spChs
theorem pow6 {k : Nat} (h : k ≤ 6) : 1 * 6 ^ k ≤ 46656 := by
  rw [Nat.one_mul]
  exact Nat.pow_le_pow_right (by decide) h
end Sh
set_option maxHeartbeats 1000000
namespace Sh
open PySem PySem.Spec PyProof.Rows L2
/-! ## choices, walked -/
theorem stepC_snoc (C : List (List Rat)) (r : List Rat) (lot : List Rat) : stepC (C ++ [r]) lot = stepC C lot ++ lot.map fun p => r ++ [p] := by
  unfold stepC
  rw [List.flatMap_append]
  simp
theorem fold_snoc (C : List (List Rat)) (lot : List Rat) (rows : List (List Rat)) : (C ++ [lot]).foldl stepC rows = stepC (C.foldl stepC rows) lot := by
  rw [List.foldl_append]
  rfl
structure ChI (lots C R : List (List Rat)) (rows : List (List Rat)) : Prop where
  eq : lots = C ++ R
  rw_ : rows = C.foldl stepC [[]]
  len : ∀ r : List Rat, r ∈ rows → r.length ≤ C.length
theorem ChI.bound {lots C R rows : List (List Rat)} (h : ChI lots C R rows) (h6 : lots.length ≤ 6) (hl : ∀ l ∈ lots, l.length ≤ 6) : rows.length ≤ 46656 := by
  have e := h.eq
  have h1 : C.length ≤ 6 := by rw [e, List.length_append] at h6; omega
  rw [h.rw_]
  exact Nat.le_trans (foldC_bound C [[]] 1 (fun l hc => hl l (by rw [e]; exact List.mem_append_left _ hc)) (Nat.le_refl _)) (pow6 h1)
theorem ChI.next {lots C R rows : List (List Rat)} {lot : List Rat} (h : ChI lots C (lot :: R) rows) : ChI lots (C ++ [lot]) R (stepC rows lot) := by
  refine ⟨by rw [List.append_assoc]; exact h.eq, by rw [fold_snoc, h.rw_], fun r hr => ?_⟩
  obtain ⟨r0, h0, hr⟩ := List.mem_flatMap.mp hr
  obtain ⟨p, _, rfl⟩ := List.mem_map.mp hr
  rw [List.length_append, List.length_append]
  have := h.len r0 h0
  simp
  exact this
theorem ChI.part {lots C R rows C2 R2 : List (List Rat)} {lot r : List Rat} (h : ChI lots C (lot :: R) rows) (h6 : lots.length ≤ 6) (hl : ∀ l ∈ lots, l.length ≤ 6) (e : rows = C2 ++ r :: R2) : (stepC C2 lot).length + lot.length ≤ 46656 := by
  have b := h.next.bound h6 hl
  rw [stepC_len, e, List.length_append, List.length_cons] at b
  rw [stepC_len]
  have : (C2.length + (R2.length + 1)) * lot.length = C2.length * lot.length + R2.length * lot.length + lot.length := by rw [Nat.add_mul, Nat.add_mul, Nat.one_mul]; omega
  omega
theorem row_cat (r : List Rat) (p : Rat) : (r.map fr) ++ [fr p] = (r ++ [p]).map fr := by rw [List.map_append]; rfl
local macro_rules | `(tactic| one_item) => `(tactic| first
  | ((with_reducible refine' cEqS ?k1 ?_); (case k1 => exact ⟨by decide +kernel, by decide +kernel⟩); (try simp only [tRR, tRF, tRL, tFR, tFF, tFL, tLR, tLF, tLL, decide_true, decide_false, Bool.not_true, Bool.not_false]))
  | ((with_reducible refine' cNeS ?k1 ?_); (case k1 => exact ⟨by decide +kernel, by decide +kernel⟩); (try simp only [tRR, tRF, tRL, tFR, tFF, tFL, tLR, tLF, tLL, decide_true, decide_false, Bool.not_true, Bool.not_false]))
  | (with_reducible refine sFnR ?_)
  | (with_reducible refine sSeq ?_) | (with_reducible refine sAsg ?_) | (with_reducible refine s2 ?_)
  | ((with_reducible refine' sVar ?k1 ?_); (case k1 => rfl))
  | (with_reducible refine sC ?_) | (with_reducible refine sCons ?_) | (with_reducible refine sNil ?_) | (with_reducible refine sN ?_) | (with_reducible refine s1 ?_)
  | ((with_reducible refine' xBind ?k1 ?_); (case k1 => rfl))
  | ((with_reducible refine' sFnE ?k1 ?_); (case k1 => rfl))
  | (with_reducible refine sIfS ?_) | (with_reducible refine sIf ?_) | (with_reducible refine sB ?_) | (with_reducible refine oCmp ?_) | (with_reducible refine xBool ?_) | (with_reducible refine sRet ?_) | (with_reducible refine sTup ?_) | (with_reducible refine sLst ?_)
  | ((with_reducible refine' xDat ?k1 ?k2 ?_); (case k1 => rfl); (case k2 => (exact Nat.le_of_ble_eq_true rfl)))
  | ((with_reducible refine' oIxT ?k1 ?_); (case k1 => rfl)) | ((with_reducible refine' oIxL ?k1 ?_); (case k1 => rfl))
  | (with_reducible refine oAdd ?_) | (with_reducible refine oSub ?_) | (with_reducible refine oNeg ?_) | (with_reducible refine oGcd ?_) | (with_reducible refine oAbs ?_) | (with_reducible refine oInt ?_)
  | (with_reducible refine oLenT ?_) | (with_reducible refine oLenL ?_) | (with_reducible refine oSlT ?_) | (with_reducible refine oSlL ?_) | (with_reducible refine oTupL ?_) | (with_reducible refine oTupT ?_)
  | (with_reducible refine cLt ?_) | (with_reducible refine cLe ?_) | (with_reducible refine cGt ?_) | (with_reducible refine cGe ?_) | (with_reducible refine cIsN ?_) | (with_reducible refine cNotN ?_) | (with_reducible refine cIsB ?_) | (with_reducible refine cEqI ?_) | (with_reducible refine cNeI ?_)
  | (with_reducible refine sNotT ?_) | (with_reducible refine sAndT ?_) | (with_reducible refine sOrT ?_) | (with_reducible refine sNotV ?_) | (with_reducible refine sAndV ?_) | (with_reducible refine sOrV ?_)
  | (with_reducible refine sSl ?_) | (with_reducible refine sONone ?_) | (with_reducible refine sOSome ?_) | (with_reducible refine xInt ?_) | (with_reducible refine sChn ?_) | (with_reducible refine sPar ?_) | (with_reducible refine xTwo ?_) | (with_reducible refine sIsi ?_) | (with_reducible refine sIsi2 ?_) | (with_reducible refine xD ?_)
  | (with_reducible refine sNext ?_)
  | (with_reducible refine xT ?_) | (with_reducible refine xF ?_))
local macro_rules | `(tactic| fin_places) => `(tactic| (repeat one_item))
def b_one_of_each : List Sm := [(.asg (.nm 1) (.lst (.cons (.tup .nil) .nil))), (.for_ (.nm 2) (.seq (.var 0)) [(.asg (.nm 3) (.box .nil)), (.for_ (.nm 4) (.seq (.var 1)) [(.ext (.var 3) (.lc (.bin .add (.var 4) (.tup (.cons (.var 5) .nil))) (.nm 5) (.seq (.var 2)) .yes [5]))]), (.gho 3), (.asg (.nm 1) (.var 3))]), (.ret (.var 1))]
theorem fn_one_of_each {g : Gb} (gk : GOk g) (a : At g "one_of_each" 46) : FOk g 1 "one_of_each" sp_one_of_each := by
  refine FOk.of (k := 0) (G := []) (N := ["lots", "found", "lot", "longer", "row", "part"]) (ps := ["lots"]) b_one_of_each a gk ⟨fun _ h => nomatch h⟩ ⟨rfl, rfl, rfl, by decide +kernel, rfl, by decide +kernel, by decide +kernel⟩ (fun _ _ _ _ _ _ us hl => match us, hl with | [_], _ => rfl) rfl (by decide +kernel) ?_
  intro ws M Q h
  simp only [b_one_of_each, evSs, evS, ev, evA, evT, evTs, evAnd, evOr, evO, evI, Bool.false_eq_true, reduceIte]
  obtain ⟨lots, rfl, h6, hl, hq⟩ := h
  fin_places
  refine sFor (sSeqI ?_)
  fin_places
  refine xSeqL ?_
  rw [List.map_map]
  refine for_inv (fun l : List Rat => W.d (lotD l)) (fun R δ' M' => ∃ C rows x2 x3 x4 x5, ChI lots C R rows ∧ M' = M ∧ δ' = [some (.d (.list (lots.map lotD))), some (.d (.list (rows.map rowD))), x2, x3, x4, x5]) ?_ ?_ lots _ _ ⟨[], [[]], none, none, none, none, ⟨rfl, rfl, fun r hr => by rw [List.mem_singleton.mp hr]; exact Nat.le_refl _⟩, rfl, rfl⟩
  · rintro lot R δ' M' K ⟨C, rows, x2, x3, x4, x5, ci, rfl, rfl⟩ hK
    refine ⟨_, rfl, ?_⟩
    have hlot : lot.length ≤ 6 := hl lot (by rw [ci.eq]; exact List.mem_append_right _ List.mem_cons_self)
    fin_places
    refine sBox ?_
    fin_places
    intro a ha
    fin_places
    refine sFor (sSeqI ?_)
    fin_places
    refine xSeqL ?_
    rw [List.map_map]
    refine for_inv (fun r : List Rat => W.d (rowD r)) (fun R2 δ' M2 => ∃ C2 y4 y5, rows = C2 ++ R2 ∧ M2 = mset M' a (.l ((stepC C2 lot).map rowD)) ∧ δ' = [some (.d (.list (lots.map lotD))), some (.d (.list (rows.map rowD))), some (.d (lotD lot)), some (.box a), y4, y5]) ?_ ?_ rows _ _ ⟨[], x4, x5, rfl, rfl, rfl⟩
    · rintro r R2 δ' M2 K2 ⟨C2, y4, y5, e2, rfl, rfl⟩ hK2
      refine ⟨_, rfl, ?_⟩
      have hr : r.length ≤ C.length := ci.len r (by rw [e2]; exact List.mem_append_right _ List.mem_cons_self)
      have hc : C.length ≤ 6 := by have := ci.eq; rw [this, List.length_append] at h6; omega
      have bd := ci.part h6 hl e2
      fin_places
      refine sExt ?_
      fin_places
      refine ⟨a, _, rfl, mset_same, ?_⟩
      refine sLc (sSeqI ?_)
      fin_places
      refine xSeqL ⟨by rw [List.length_map, List.length_map]; omega, ?_⟩
      rw [List.map_map]
      refine lc_map (fun p : Rat => W.d (fr p)) (fun p => rowD (r ++ [p])) _ lot (fun x _ => rfl) (fun p hp Q' q => ?_) ?_
      · fin_places
        refine oCatT (by rw [List.length_map]; simp; omega) ?_
        rw [row_cat]
        exact q
      · refine ⟨_, _, rfl, mset_same, by rw [List.length_map, List.length_map]; omega, ?_⟩
        rw [mset_mset]
        refine hK2 _ _ ⟨C2 ++ [r], _, _, by rw [List.append_assoc]; exact e2, ?_, rfl⟩
        rw [stepC_snoc, List.map_append, List.map_map]
        rfl
    · rintro δ' M2 ⟨C2, y4, y5, e2, rfl, rfl⟩
      rw [List.append_nil] at e2
      subst e2
      fin_places
      refine sGho rfl mset_same ?_
      rw [mdel_mset ha]
      fin_places
      exact hK _ _ ⟨C ++ [lot], stepC rows lot, _, _, _, _, ci.next, rfl, rfl⟩
  · rintro δ' M' ⟨C, rows, x2, x3, x4, x5, ci, rfl, rfl⟩
    have e : rows = chs lots := by
      have e1 := ci.eq
      rw [List.append_nil] at e1
      rw [ci.rw_, ← e1]
      rfl
    rw [← e] at hq
    fin_places
    try exact hq
def b__law_choices : List Sm := [(.asg (.nm 1) (.lst (.cons (.tup .nil) .nil))), (.for_ (.nm 2) (.seq (.var 0)) [(.asg (.nm 3) (.lst .nil)), (.for_ (.nm 4) (.seq (.var 1)) [(.asg (.nm 3) (.bin .add (.var 3) (.lc (.bin .add (.var 4) (.tup (.cons (.var 5) .nil))) (.nm 5) (.seq (.var 2)) .yes [5])))]), (.asg (.nm 1) (.var 3))]), (.ret (.var 1))]
theorem fn__law_choices {g : Gb} (gk : GOk g) (a : At g "_law_choices" 95) : FOk g 1 "_law_choices" sp__law_choices := by
  refine FOk.of (k := 0) (G := []) (N := ["_law_lots_so", "_law_found", "_law_own", "_law_longer_so", "_law_row_so", "_law_its"]) (ps := ["_law_lots_so"]) b__law_choices a gk ⟨fun _ h => nomatch h⟩ ⟨rfl, rfl, rfl, by decide +kernel, rfl, by decide +kernel, by decide +kernel⟩ (fun _ _ _ _ _ _ us hl => match us, hl with | [_], _ => rfl) rfl (by decide +kernel) ?_
  intro ws M Q h
  simp only [b__law_choices, evSs, evS, ev, evA, evT, evTs, evAnd, evOr, evO, evI, Bool.false_eq_true, reduceIte]
  obtain ⟨lots, rfl, h6, hl, hq⟩ := h
  fin_places
  refine sFor (sSeqI ?_)
  fin_places
  refine xSeqL ?_
  rw [List.map_map]
  refine for_inv (fun l : List Rat => W.d (lotD l)) (fun R δ' M' => ∃ C rows x2 x3 x4 x5, ChI lots C R rows ∧ M' = M ∧ δ' = [some (.d (.list (lots.map lotD))), some (.d (.list (rows.map rowD))), x2, x3, x4, x5]) ?_ ?_ lots _ _ ⟨[], [[]], none, none, none, none, ⟨rfl, rfl, fun r hr => by rw [List.mem_singleton.mp hr]; exact Nat.le_refl _⟩, rfl, rfl⟩
  · rintro lot R δ' M' K ⟨C, rows, x2, x3, x4, x5, ci, rfl, rfl⟩ hK
    refine ⟨_, rfl, ?_⟩
    have hlot : lot.length ≤ 6 := hl lot (by rw [ci.eq]; exact List.mem_append_right _ List.mem_cons_self)
    fin_places
    refine sFor (sSeqI ?_)
    fin_places
    refine xSeqL ?_
    rw [List.map_map]
    refine for_inv (fun r : List Rat => W.d (rowD r)) (fun R2 δ' M2 => ∃ C2 y4 y5, rows = C2 ++ R2 ∧ M2 = M' ∧ δ' = [some (.d (.list (lots.map lotD))), some (.d (.list (rows.map rowD))), some (.d (lotD lot)), some (.d (.list ((stepC C2 lot).map rowD))), y4, y5]) ?_ ?_ rows _ _ ⟨[], x4, x5, rfl, rfl, rfl⟩
    · rintro r R2 δ' M2 K2 ⟨C2, y4, y5, e2, rfl, rfl⟩ hK2
      refine ⟨_, rfl, ?_⟩
      have hr : r.length ≤ C.length := ci.len r (by rw [e2]; exact List.mem_append_right _ List.mem_cons_self)
      have hc : C.length ≤ 6 := by have := ci.eq; rw [this, List.length_append] at h6; omega
      have bd := ci.part h6 hl e2
      fin_places
      refine sLc (sSeqI ?_)
      fin_places
      refine xSeqL ⟨by rw [List.length_map, List.length_map]; omega, ?_⟩
      rw [List.map_map]
      refine lc_map (fun p : Rat => W.d (fr p)) (fun p => rowD (r ++ [p])) _ lot (fun x _ => rfl) (fun p hp Q' q => ?_) ?_
      · fin_places
        refine oCatT (by rw [List.length_map]; simp; omega) ?_
        rw [row_cat]
        exact q
      · refine oCatL (by rw [List.length_map, List.length_map]; omega) ?_
        fin_places
        refine hK2 _ _ ⟨C2 ++ [r], some (.d (rowD r)), y5, by rw [List.append_assoc]; exact e2, rfl, ?_⟩
        rw [stepC_snoc, List.map_append, List.map_map]
        rfl
    · rintro δ' M2 ⟨C2, y4, y5, e2, rfl, rfl⟩
      rw [List.append_nil] at e2
      subst e2
      fin_places
      exact hK _ _ ⟨C ++ [lot], stepC rows lot, _, _, _, _, ci.next, rfl, rfl⟩
  · rintro δ' M' ⟨C, rows, x2, x3, x4, x5, ci, rfl, rfl⟩
    have e : rows = chs lots := by
      have e1 := ci.eq
      rw [List.append_nil] at e1
      rw [ci.rw_, ← e1]
      rfl
    rw [← e] at hq
    fin_places
    try exact hq
end Sh
set_option maxHeartbeats 1000000
namespace Sh
open PySem PySem.Spec PyProof.Rows L2
/-! ## the inverse, walked -/
structure UI (num size near far one two : Int) : Prop where
  n0 : 0 ≤ near
  f0 : 0 < far
  fs : far ≤ size
  ns : near ≤ size
  one_ : ∃ k, num * one = near + k * size
  two_ : ∃ k, num * two = far + k * size
  g : Nat.gcd near.natAbs far.natAbs = 1
  b : one.natAbs * far.natAbs + two.natAbs * near.natAbs ≤ size.natAbs
  w : far = size ∨ 1 < far
abbrev sp_undone_times : DSp := ⟨2, fun ws M Q => ∃ num size : Int, ws = [.d (.int num), .d (.int size)] ∧ 0 < size ∧ size < 2 ^ 4000 ∧ Nat.gcd num.natAbs size.natAbs = 1 ∧ ∀ b, 0 ≤ b → b < size → (∃ k, num * b = 1 + k * size) → Q (.d (.int b)) M⟩
theorem cUndone {num size : Int} {M : MM} {Q : WK} (h0 : 0 < size) (h1 : size < 2 ^ 4000) (hg : Nat.gcd num.natAbs size.natAbs = 1) (q : ∀ b, 0 ≤ b → b < size → (∃ k, num * b = 1 + k * size) → Q (.d (.int b)) M) : [W.d (.int num), .d (.int size)].length = sp_undone_times.n ∧ sp_undone_times.run [.d (.int num), .d (.int size)] M Q := ⟨rfl, num, size, rfl, h0, h1, hg, q⟩
theorem gcd_mod (a : Int) {m : Int} (hm : 0 < m) : Nat.gcd (a.fmod m).natAbs m.natAbs = Nat.gcd a.natAbs m.natAbs := by
  have e : a.fmod m = a + (-(a / m)) * m := by
    rw [Int.fmod_eq_emod_of_nonneg _ (by omega), Int.emod_def, Int.neg_mul, Int.mul_comm, Int.sub_eq_add_neg]
  have h : m.gcd (a.fmod m) = m.gcd a := by rw [e, Int.gcd_add_mul_right_right]
  unfold Int.gcd at h
  rw [Nat.gcd_comm, h, Nat.gcd_comm]
theorem UI.start {num size : Int} (h0 : 0 < size) (hg : Nat.gcd num.natAbs size.natAbs = 1) : UI num size (num.fmod size) size 1 0 where
  n0 := Int.fmod_nonneg_of_pos _ h0
  f0 := h0
  fs := Int.le_refl _
  ns := Int.le_of_lt (Int.fmod_lt_of_pos _ h0)
  one_ := ⟨num / size, by
    rw [Int.mul_one, Int.fmod_eq_emod_of_nonneg _ (by omega), Int.emod_def, Int.mul_comm size]
    omega⟩
  two_ := ⟨-1, by omega⟩
  g := by rw [gcd_mod num h0]; exact hg
  b := by simp
  w := .inl rfl
theorem UI.next {num size near far one two : Int} (u : UI num size near far one two) (h : 1 < near) : UI num size (far.fmod near) near (two - far.fdiv near * one) one where
  n0 := Int.fmod_nonneg_of_pos _ (by omega)
  f0 := by omega
  fs := u.ns
  ns := by have := Int.fmod_lt_of_pos far (show 0 < near by omega); have := u.ns; omega
  one_ := by
    obtain ⟨k1, e1⟩ := u.one_
    obtain ⟨k2, e2⟩ := u.two_
    refine ⟨k2 - far.fdiv near * k1, ?_⟩
    have e : far.fmod near = far - near * far.fdiv near := by
      rw [Int.fmod_eq_emod_of_nonneg _ (by omega), Int.emod_def, Int.fdiv_eq_ediv_of_nonneg _ (by omega)]
    rw [e]
    have : num * (two - far.fdiv near * one) = num * two - far.fdiv near * (num * one) := by
      rw [Int.mul_sub, Int.mul_left_comm]
    rw [this, e1, e2]
    grind
  two_ := u.one_
  g := by rw [gcd_mod far (by omega), Nat.gcd_comm]; exact u.g
  b := by
    have hb := u.b
    have h1 := u.f0
    have e1 : far.fdiv near = far / near := Int.fdiv_eq_ediv_of_nonneg _ (by omega)
    have e2 : far.fmod near = far % near := Int.fmod_eq_emod_of_nonneg _ (by omega)
    obtain ⟨n, rfl⟩ := Int.eq_ofNat_of_zero_le u.n0
    obtain ⟨f, rfl⟩ := Int.eq_ofNat_of_zero_le (Int.le_of_lt h1)
    have e3 : (((f : Int)).fmod (n : Int)).natAbs = f % n := by rw [e2, ← Int.natCast_emod, Int.natAbs_natCast]
    have e4 : (((f : Int)).fdiv (n : Int)) = ((f / n : Nat) : Int) := by rw [e1, Int.natCast_ediv]
    rw [e3, e4]
    simp only [Int.natAbs_natCast] at hb ⊢
    have t : (two - ((f / n : Nat) : Int) * one).natAbs ≤ two.natAbs + (f / n) * one.natAbs := by
      have := Int.natAbs_sub_le two (((f / n : Nat) : Int) * one)
      rw [Int.natAbs_mul, Int.natAbs_natCast] at this
      exact this
    have d : n * (f / n) + f % n = f := Nat.div_add_mod f n
    have p1 : (two - ((f / n : Nat) : Int) * one).natAbs * n ≤ (two.natAbs + (f / n) * one.natAbs) * n := Nat.mul_le_mul_right _ t
    have p2 : (two.natAbs + (f / n) * one.natAbs) * n + one.natAbs * (f % n) = one.natAbs * f + two.natAbs * n := by
      have : one.natAbs * f = one.natAbs * (n * (f / n)) + one.natAbs * (f % n) := by rw [← Nat.mul_add, d]
      rw [this, Nat.add_mul]
      have : (f / n) * one.natAbs * n = one.natAbs * (n * (f / n)) := by rw [Nat.mul_comm (f / n), Nat.mul_assoc, Nat.mul_comm (f / n)]
      rw [this]
      omega
    omega
  w := .inr h
theorem UI.fin {num size near far one two : Int} (u : UI num size near far one two) (h : ¬ 1 < near) (h0 : 0 < size) : ∃ k, num * (one.fmod size) = 1 + k * size := by
  have e : one.fmod size = one - size * (one / size) := by rw [Int.fmod_eq_emod_of_nonneg _ (by omega), Int.emod_def]
  have n0 := u.n0
  rcases (show near = 1 ∨ near = 0 by omega) with rfl | rfl
  · obtain ⟨k, hk⟩ := u.one_
    refine ⟨k - num * (one / size), ?_⟩
    rw [e, Int.mul_sub, hk]
    grind
  · have g := u.g
    simp at g
    have f0 := u.f0
    have : size = 1 := by
      rcases u.w with w | w <;> omega
    subst this
    exact ⟨num * (one.fmod 1) - 1, by omega⟩
theorem ilt_pow {a : Int} {n : Nat} (h0 : 0 ≤ a) (h : a < 2 ^ n) : a.natAbs < 2 ^ n := bits h0 h
local macro_rules | `(tactic| one_item) => `(tactic| first
  | ((with_reducible refine' cEqS ?k1 ?_); (case k1 => exact ⟨by decide +kernel, by decide +kernel⟩); (try simp only [tRR, tRF, tRL, tFR, tFF, tFL, tLR, tLF, tLL, decide_true, decide_false, Bool.not_true, Bool.not_false]))
  | ((with_reducible refine' cNeS ?k1 ?_); (case k1 => exact ⟨by decide +kernel, by decide +kernel⟩); (try simp only [tRR, tRF, tRL, tFR, tFF, tFL, tLR, tLF, tLL, decide_true, decide_false, Bool.not_true, Bool.not_false]))
  | (with_reducible refine sFnR ?_)
  | (with_reducible refine sSeq ?_) | (with_reducible refine sAsg ?_) | (with_reducible refine s2 ?_)
  | ((with_reducible refine' sVar ?k1 ?_); (case k1 => rfl))
  | (with_reducible refine sC ?_) | (with_reducible refine sCons ?_) | (with_reducible refine sNil ?_) | (with_reducible refine sN ?_) | (with_reducible refine s1 ?_)
  | ((with_reducible refine' xBind ?k1 ?_); (case k1 => rfl))
  | ((with_reducible refine' sFnE ?k1 ?_); (case k1 => rfl))
  | (with_reducible refine sIfS ?_) | (with_reducible refine sIf ?_) | (with_reducible refine sB ?_) | (with_reducible refine oCmp ?_) | (with_reducible refine xBool ?_) | (with_reducible refine sRet ?_) | (with_reducible refine sTup ?_) | (with_reducible refine sLst ?_)
  | ((with_reducible refine' xDat ?k1 ?k2 ?_); (case k1 => rfl); (case k2 => (exact Nat.le_of_ble_eq_true rfl)))
  | ((with_reducible refine' oIxT ?k1 ?_); (case k1 => rfl)) | ((with_reducible refine' oIxL ?k1 ?_); (case k1 => rfl))
  | (with_reducible refine oAdd ?_) | (with_reducible refine oSub ?_) | (with_reducible refine oNeg ?_) | (with_reducible refine oGcd ?_) | (with_reducible refine oAbs ?_) | (with_reducible refine oInt ?_)
  | (with_reducible refine oLenT ?_) | (with_reducible refine oLenL ?_) | (with_reducible refine oSlT ?_) | (with_reducible refine oSlL ?_) | (with_reducible refine oTupL ?_) | (with_reducible refine oTupT ?_)
  | (with_reducible refine cLt ?_) | (with_reducible refine cLe ?_) | (with_reducible refine cGt ?_) | (with_reducible refine cGe ?_) | (with_reducible refine cIsN ?_) | (with_reducible refine cNotN ?_) | (with_reducible refine cIsB ?_) | (with_reducible refine cEqI ?_) | (with_reducible refine cNeI ?_)
  | (with_reducible refine sNotT ?_) | (with_reducible refine sAndT ?_) | (with_reducible refine sOrT ?_) | (with_reducible refine sNotV ?_) | (with_reducible refine sAndV ?_) | (with_reducible refine sOrV ?_)
  | (with_reducible refine sSl ?_) | (with_reducible refine sONone ?_) | (with_reducible refine sOSome ?_) | (with_reducible refine xInt ?_) | (with_reducible refine sChn ?_) | (with_reducible refine sPar ?_) | (with_reducible refine xTwo ?_) | (with_reducible refine sIsi ?_) | (with_reducible refine sIsi2 ?_) | (with_reducible refine xD ?_)
  | (with_reducible refine sNext ?_)
  | (with_reducible refine xT ?_) | (with_reducible refine xF ?_))
local macro_rules | `(tactic| fin_places) => `(tactic| (repeat one_item))
def b_undone_times : List Sm := [(.asg (.tp [(.nm 2), (.nm 3), (.nm 4), (.nm 5)]) (.tup (.cons (.bin .mod (.var 0) (.var 1)) (.cons (.var 1) (.cons (.lit (.int 1)) (.cons (.lit (.int 0)) .nil)))))), (.whl (.cmp .gt (.var 2) (.lit (.int 1))) [(.asg (.tp [(.nm 2), (.nm 3), (.nm 4), (.nm 5)]) (.tup (.cons (.bin .mod (.var 3) (.var 2)) (.cons (.var 2) (.cons (.bin .sub (.var 5) (.bin .mul (.bin .fdiv (.var 3) (.var 2)) (.var 4))) (.cons (.var 4) .nil))))))]), (.ret (.bin .mod (.var 4) (.var 1)))]
theorem fn_undone_times {g : Gb} (gk : GOk g) (a : At g "undone_times" 41) : FOk g 1 "undone_times" sp_undone_times := by
  refine FOk.of (k := 0) (G := []) (N := ["number", "size", "near", "far", "one", "two"]) (ps := ["number", "size"]) b_undone_times a gk ⟨fun _ h => nomatch h⟩ ⟨rfl, rfl, rfl, by decide +kernel, rfl, by decide +kernel, by decide +kernel⟩ (fun _ _ _ _ _ _ us hl => match us, hl with | [_, _], _ => rfl) rfl (by decide +kernel) ?_
  intro ws M Q h
  simp only [b_undone_times, evSs, evS, ev, evA, evT, evTs, evAnd, evOr, evO, evI, Bool.false_eq_true, reduceIte]
  obtain ⟨num, size, rfl, h0, h1, hg, hq⟩ := h
  have sb : size.natAbs < 2 ^ 4000 := bits (by omega) h1
  fin_places
  refine oMod (by omega) ?_
  fin_places
  refine ⟨fun m δ' M' => ∃ near far one two, UI num size near far one two ∧ M' = M ∧ m = near.natAbs ∧ δ' = [some (.d (.int num)), some (.d (.int size)), some (.d (.int near)), some (.d (.int far)), some (.d (.int one)), some (.d (.int two))], ⟨_, _, _, _, _, UI.start h0 hg, rfl, rfl, rfl⟩, ?_⟩
  rintro m δ' M' ⟨near, far, one, two, u, rfl, rfl, rfl⟩
  have f0 := u.f0
  have n0 := u.n0
  have ns := u.ns
  have fs := u.fs
  have nb : near.natAbs < 2 ^ 4000 := by omega
  have fb : far.natAbs < 2 ^ 4000 := by omega
  have ob : one.natAbs < 2 ^ 4000 := by
    have := u.b
    have h2 : one.natAbs * 1 ≤ one.natAbs * far.natAbs := Nat.mul_le_mul_left _ (by omega)
    omega
  fin_places
  refine xIf (fun hn => ?_) (fun hn => ?_)
  · fin_places
    refine oMod (by omega) ?_
    fin_places
    refine oDiv (divOk (by omega) nb (by decide)) ?_
    fin_places
    refine oMul (mulOk (m := 4000) ?_ ob (by decide)) ?_
    · rw [Int.fdiv_eq_ediv_of_nonneg _ (by omega)]
      have := Int.ediv_le_self near.natAbs (show 0 ≤ far by omega)
      have h3 : 0 ≤ far / near := Int.ediv_nonneg (by omega) (by omega)
      have h4 : far / near ≤ far := Int.ediv_le_self _ (by omega)
      omega
    · fin_places
      refine ⟨_, ?_, _, _, _, _, u.next hn, rfl, rfl, rfl⟩
      have := Int.fmod_lt_of_pos far (show 0 < near by omega)
      have := Int.fmod_nonneg_of_pos far (show 0 < near by omega)
      omega
  · fin_places
    refine oMod (by omega) ?_
    exact hq _ (Int.fmod_nonneg_of_pos _ h0) (Int.fmod_lt_of_pos _ h0) (u.fin hn h0)
end Sh
set_option maxHeartbeats 1000000
namespace Sh
open PySem PySem.Spec PyProof.Rows L2
/-! ## multiples of fractions -/
theorem bez : ∀ (a b : Nat), ∃ i j : Int, ((Nat.gcd a b : Nat) : Int) = i * a + j * b
  | 0, b => ⟨0, 1, by rw [Nat.gcd_zero_left]; omega⟩
  | a + 1, b => by
    obtain ⟨i, j, h⟩ := bez (b % (a + 1)) (a + 1)
    refine ⟨j - i * ((b / (a + 1) : Nat) : Int), i, ?_⟩
    rw [Nat.gcd_rec, h]
    have e : ((b % (a + 1) : Nat) : Int) = (b : Int) - ((a + 1 : Nat) : Int) * ((b / (a + 1) : Nat) : Int) := by
      have := Nat.div_add_mod b (a + 1)
      have h2 : ((a + 1) * (b / (a + 1)) + b % (a + 1) : Nat) = (b : Int) := by rw [this]
      rw [← h2]
      rw [Int.natCast_add, Int.natCast_mul]
      omega
    rw [e]
    grind
  termination_by a b => a
  decreasing_by exact Nat.mod_lt _ (Nat.succ_pos _)
theorem bezI (a b : Int) : ∃ i j : Int, ((Nat.gcd a.natAbs b.natAbs : Nat) : Int) = i * a + j * b := by
  obtain ⟨i, j, h⟩ := bez a.natAbs b.natAbs
  have sgn : ∀ c : Int, ∃ s : Int, (c.natAbs : Int) = s * c := fun c => by
    rcases Int.natAbs_eq c with e | e
    · exact ⟨1, by omega⟩
    · exact ⟨-1, by omega⟩
  obtain ⟨s, hs⟩ := sgn a
  obtain ⟨t, ht⟩ := sgn b
  exact ⟨i * s, j * t, by rw [h, hs, ht, Int.mul_assoc, Int.mul_assoc]⟩
theorem cop_of {S O i j : Int} (h : i * S + j * O = 1) : Nat.gcd S.natAbs O.natAbs = 1 := by
  have d1 : ((Nat.gcd S.natAbs O.natAbs : Nat) : Int) ∣ S := Int.ofNat_dvd_left.mpr (Nat.gcd_dvd_left _ _)
  have d2 : ((Nat.gcd S.natAbs O.natAbs : Nat) : Int) ∣ O := Int.ofNat_dvd_left.mpr (Nat.gcd_dvd_right _ _)
  have d : ((Nat.gcd S.natAbs O.natAbs : Nat) : Int) ∣ 1 := by
    rw [← h]
    exact Int.dvd_add (Int.dvd_trans d1 (Int.dvd_mul_left ..)) (Int.dvd_trans d2 (Int.dvd_mul_left ..))
  have := Int.natAbs_dvd_natAbs.mpr d
  rw [Int.natAbs_natCast] at this
  exact Nat.eq_one_of_dvd_one this
/-- x is a whole multiple of s -/
def Mult (s x : Rat) : Prop := ∃ k : Int, x = (k : Rat) * s
theorem Mult.zero (s : Rat) : Mult s 0 := ⟨0, by rw [show ((0 : Int) : Rat) = 0 from rfl]; grind⟩
theorem Mult.self (s : Rat) : Mult s s := ⟨1, by rw [show ((1 : Int) : Rat) = 1 from rfl]; grind⟩
theorem Mult.add {s x y : Rat} (h : Mult s x) (h' : Mult s y) : Mult s (x + y) := by
  obtain ⟨k, rfl⟩ := h
  obtain ⟨j, rfl⟩ := h'
  exact ⟨k + j, by rw [Rat.intCast_add]; grind⟩
theorem Mult.neg {s x : Rat} (h : Mult s x) : Mult s (-x) := by
  obtain ⟨k, rfl⟩ := h
  exact ⟨-k, by rw [Rat.intCast_neg]; grind⟩
theorem Mult.sub {s x y : Rat} (h : Mult s x) (h' : Mult s y) : Mult s (x - y) := by
  rw [Rat.sub_eq_add_neg]
  exact h.add h'.neg
theorem Mult.mul {s x : Rat} (h : Mult s x) (k : Int) : Mult s ((k : Rat) * x) := by
  obtain ⟨j, rfl⟩ := h
  exact ⟨k * j, by rw [Rat.intCast_mul]; grind⟩
theorem Mult.trans {s x y : Rat} (h : Mult s x) (h' : Mult x y) : Mult s y := by
  obtain ⟨k, rfl⟩ := h'
  exact h.mul k
theorem Mult.symm {s x y : Rat} (h : Mult s (x - y)) : Mult s (y - x) := by
  have := h.neg
  rw [show -(x - y) = y - x by grind] at this
  exact this
theorem whole_iff {x s : Rat} (hs : s ≠ 0) : (x / s).den = 1 ↔ Mult s x := by
  constructor
  · intro h
    have e : x / s = ((x / s).num : Rat) := Rat.ext rfl h
    refine ⟨(x / s).num, ?_⟩
    rw [← e]
    grind
  · rintro ⟨k, rfl⟩
    have e : (k : Rat) * s / s = (k : Rat) := by grind
    rw [e, Rat.den_intCast]
/-! ### the common part -/
theorem as_div (x : Rat) : x = (x.num : Rat) / ((x.den : Int) : Rat) := by
  rw [← Rat.divInt_eq_div, Rat.num_divInt_den]
theorem cmn_mult (x y : Rat) : Mult (cmn x y) x ∧ Mult (cmn x y) y ∧ ∃ i j : Int, cmn x y = (i : Rat) * x + (j : Rat) * y := by
  have hx : ((x.den : Int) : Rat) ≠ 0 := fun e => den_ne x (by exact_mod_cast e)
  have hy : ((y.den : Int) : Rat) ≠ 0 := fun e => den_ne y (by exact_mod_cast e)
  have ex := as_div x
  have ey := as_div y
  have c : cmn x y = ((Nat.gcd (x.num * y.den).natAbs (y.num * x.den).natAbs : Nat) : Int) / ((x.den : Int) : Rat) / ((y.den : Int) : Rat) := by
    show Rat.divInt _ _ = _
    rw [Rat.divInt_eq_div, Rat.intCast_mul]
    grind
  obtain ⟨i, j, hb⟩ := bezI (x.num * y.den) (y.num * x.den)
  have d1 : ((Nat.gcd (x.num * y.den).natAbs (y.num * x.den).natAbs : Nat) : Int) ∣ x.num * y.den := Int.ofNat_dvd_left.mpr (Nat.gcd_dvd_left _ _)
  have d2 : ((Nat.gcd (x.num * y.den).natAbs (y.num * x.den).natAbs : Nat) : Int) ∣ y.num * x.den := Int.ofNat_dvd_left.mpr (Nat.gcd_dvd_right _ _)
  rw [c]
  generalize ((Nat.gcd (x.num * y.den).natAbs (y.num * x.den).natAbs : Nat) : Int) = G at *
  obtain ⟨k, hk⟩ := d1
  obtain ⟨l, hl⟩ := d2
  have hk' : (x.num : Rat) * ((y.den : Int) : Rat) = (G : Rat) * (k : Rat) := by rw [← Rat.intCast_mul, ← Rat.intCast_mul, hk]
  have hl' : (y.num : Rat) * ((x.den : Int) : Rat) = (G : Rat) * (l : Rat) := by rw [← Rat.intCast_mul, ← Rat.intCast_mul, hl]
  have hb' : (G : Rat) = (i : Rat) * ((x.num : Rat) * ((y.den : Int) : Rat)) + (j : Rat) * ((y.num : Rat) * ((x.den : Int) : Rat)) := by rw [hb, Rat.intCast_add, Rat.intCast_mul, Rat.intCast_mul, Rat.intCast_mul, Rat.intCast_mul]
  refine ⟨⟨k, ?_⟩, ⟨l, ?_⟩, i, j, ?_⟩
  · rw [ex]
    grind
  · rw [ey]
    grind
  · rw [hb']
    generalize (x.num : Rat) = X at *
    generalize (y.num : Rat) = Y at *
    generalize ((x.den : Int) : Rat) = D at *
    generalize ((y.den : Int) : Rat) = E at *
    rw [ex, ey]
    grind
theorem cmn_ne {x y : Rat} (h : x ≠ 0) : cmn x y ≠ 0 := by
  intro e
  obtain ⟨k, hk⟩ := (cmn_mult x y).1
  rw [e] at hk
  exact h (by rw [hk]; grind)
theorem cmn_iff {x y z : Rat} : Mult (cmn x y) z ↔ ∃ i j : Int, z = (i : Rat) * x + (j : Rat) * y := by
  obtain ⟨h1, h2, i, j, h3⟩ := cmn_mult x y
  constructor
  · rintro ⟨k, rfl⟩
    exact ⟨k * i, k * j, by rw [h3, Rat.intCast_mul, Rat.intCast_mul]; grind⟩
  · rintro ⟨i, j, rfl⟩
    exact (h1.mul i).add (h2.mul j)
end Sh
set_option maxHeartbeats 1000000
namespace Sh
open PySem PySem.Spec PyProof.Rows L2
/-! ## merging two rules, plain -/
theorem sz_cmn (x y : Rat) : sz (cmn x y) ≤ sz x + sz y := by
  refine sz_divInt (denNe x y) (gcd_bits (mulBits (sz_num x) (sz_den y) (Nat.le_refl _)) ?_) (mulBits (sz_den x) (sz_den y) (Nat.le_refl _))
  exact mulBits (sz_num y) (sz_den x) (by omega)
structure Merge (n s f o : Rat) (T Z S : Int) : Prop where
  zpos : 0 < Z
  cop : Nat.gcd S.natAbs Z.natAbs = 1
  /-- s = S g, o = ±Z g, f - n = T g -/
  out : ∀ b : Int, (∃ k, S * b = 1 + k * Z) → Mult s ((n + s * (((T * b).fmod Z : Int) : Rat)) - n) ∧ Mult o ((n + s * (((T * b).fmod Z : Int) : Rat)) - f)
  m0 : s * (Z : Rat) ≠ 0
  ms : Mult s (s * (Z : Rat))
  mo : Mult o (s * (Z : Rat))
  all : ∀ x, Mult s x → Mult o x → Mult (s * (Z : Rat)) x
theorem cast_ne {k : Int} (h : k ≠ 0) : (k : Rat) ≠ 0 := fun e => h (by exact_mod_cast e)
theorem merge {n s f o : Rat} (hs : s ≠ 0) (ho : o ≠ 0) (h : Mult (cmn s o) (f - n)) : Merge n s f o (((f - n) / cmn s o).num) ((rabs (o / cmn s o)).num) ((s / cmn s o).num) := by
  have g0 : cmn s o ≠ 0 := cmn_ne hs
  obtain ⟨h1, h2, i, j, h3⟩ := cmn_mult s o
  generalize cmn s o = g at *
  have num_of : ∀ {k : Int} {x : Rat}, x = (k : Rat) * g → (x / g).num = k := fun {k x} e => by
    have : x / g = (k : Rat) := by rw [e]; grind
    rw [this, Rat.num_intCast]
  obtain ⟨T, hT⟩ := h
  obtain ⟨S, hS⟩ := h1
  obtain ⟨O, hO⟩ := h2
  have O0 : O ≠ 0 := fun e => ho (by rw [hO, e, show ((0 : Int) : Rat) = 0 from rfl]; grind)
  have S0 : S ≠ 0 := fun e => hs (by rw [hS, e, show ((0 : Int) : Rat) = 0 from rfl]; grind)
  rw [num_of hT, num_of hS, rabs_num, num_of hO]
  have bezO : i * S + j * O = 1 := by
    have e : ((i * S + j * O : Int) : Rat) * g = 1 * g := by
      rw [Rat.intCast_add, Rat.intCast_mul, Rat.intCast_mul]
      have : (1 : Rat) * g = (i : Rat) * s + (j : Rat) * o := by rw [← h3]; grind
      rw [this, hS, hO]
      grind
    have e2 : ((i * S + j * O : Int) : Rat) = 1 := by grind
    exact_mod_cast e2
  obtain ⟨u, hu, hu2⟩ : ∃ u : Int, O = u * (O.natAbs : Int) ∧ (O.natAbs : Int) = u * O := by
    rcases Int.natAbs_eq O with e | e
    · exact ⟨1, by omega, by omega⟩
    · exact ⟨-1, by omega, by omega⟩
  have Zp : (0 : Int) < (O.natAbs : Int) := by omega
  have cop : Nat.gcd S.natAbs ((O.natAbs : Int)).natAbs = 1 := by
    rw [Int.natAbs_natCast]
    exact cop_of bezO
  generalize (O.natAbs : Int) = Z at *
  have Z0 : (Z : Rat) ≠ 0 := cast_ne (by omega)
  have oZ : o = (u : Rat) * ((Z : Rat) * g) := by rw [hO, hu, Rat.intCast_mul]; grind
  refine ⟨Zp, cop, fun b hb => ?_, ?_, ?_, ?_, fun x hx hy => ?_⟩
  · refine ⟨⟨(T * b).fmod Z, by grind⟩, ?_⟩
    obtain ⟨k, hk⟩ := hb
    have e1 : (T * b).fmod Z = T * b - Z * (T * b / Z) := by rw [Int.fmod_eq_emod_of_nonneg _ (by omega), Int.emod_def]
    -- S K - T is a multiple of Z
    have e2 : S * (T * b).fmod Z - T = Z * (T * k - S * (T * b / Z)) := by
      rw [e1]
      have : S * (T * b) = T * (S * b) := by rw [Int.mul_left_comm]
      rw [Int.mul_sub, this, hk]
      grind
    have e3 : (n + s * (((T * b).fmod Z : Int) : Rat)) - f = ((S * (T * b).fmod Z - T : Int) : Rat) * g := by
      rw [Rat.intCast_sub, Rat.intCast_mul]
      have : f = n + (T : Rat) * g := by rw [← hT]; grind
      rw [this, hS]
      grind
    refine ⟨u * (T * k - S * (T * b / Z)), ?_⟩
    rw [e3, e2, hO]
    rw [Rat.intCast_mul, Rat.intCast_mul, hu2, Rat.intCast_mul]
    grind
  · intro e
    rcases (by grind : s = 0 ∨ (Z : Rat) = 0) with e | e
    · exact hs e
    · exact Z0 e
  · exact ⟨Z, by grind⟩
  · refine ⟨u * S, ?_⟩
    rw [hS, hO, hu2, Rat.intCast_mul, Rat.intCast_mul]
    grind
  · obtain ⟨a, rfl⟩ := hx
    obtain ⟨c, hc⟩ := hy
    -- a S = c O, so O divides a
    have e : a * S = c * O := by
      have : ((a * S : Int) : Rat) * g = ((c * O : Int) : Rat) * g := by
        rw [Rat.intCast_mul, Rat.intCast_mul]
        have q := hc
        rw [hS, hO] at q
        grind
      have e2 : ((a * S : Int) : Rat) = ((c * O : Int) : Rat) := by grind
      exact_mod_cast e2
    have e2 : a = (i * c + j * a) * O := by
      have : a = a * (i * S + j * O) := by rw [bezO, Int.mul_one]
      calc a = a * (i * S + j * O) := this
        _ = i * (a * S) + j * a * O := by grind
        _ = i * (c * O) + j * a * O := by rw [e]
        _ = (i * c + j * a) * O := by grind
    refine ⟨(i * c + j * a) * u, ?_⟩
    have e3 : a = ((i * c + j * a) * u) * Z := by
      calc a = (i * c + j * a) * O := e2
        _ = (i * c + j * a) * (u * Z) := by rw [← hu]
        _ = _ := by grind
    have e4 : (a : Rat) = (((i * c + j * a) * u : Int) : Rat) * (Z : Rat) := by
      rw [← Rat.intCast_mul]
      exact congrArg _ e3
    rw [e4]
    grind
end Sh
set_option maxHeartbeats 1000000
namespace Sh
open PySem PySem.Spec PyProof.Rows L2
/-! ## rules, walked -/
abbrev ruD (p m : Rat) : PyData := .tuple [fr p, fr m]
structure MetR (n s f o p m : Rat) : Prop where
  ps : Mult s (p - n)
  po : Mult o (p - f)
  m0 : m ≠ 0
  ms : Mult s m
  mo : Mult o m
  all : ∀ x, Mult s x → Mult o x → Mult m x
  zm : sz m ≤ 2 * sz s + 16
  zp : sz p ≤ sz n + 3 * sz s + 24
abbrev sp_met_rules : DSp := ⟨2, fun ws M Q => ∃ n s f o, ws = [.d (ruD n s), .d (ruD f o)] ∧ s ≠ 0 ∧ o ≠ 0 ∧ sz n ≤ 2000 ∧ sz f ≤ 2000 ∧ sz s ≤ 500 ∧ sz o ≤ 8 ∧ (¬ Mult (cmn s o) (f - n) → Q (.d .none) M) ∧ (∀ p m, MetR n s f o p m → Q (.d (ruD p m)) M)⟩
theorem cMet {n s f o : Rat} {M : MM} {Q : WK} (h1 : s ≠ 0) (h2 : o ≠ 0) (h3 : sz n ≤ 2000) (h4 : sz f ≤ 2000) (h5 : sz s ≤ 500) (h6 : sz o ≤ 8) (q1 : ¬ Mult (cmn s o) (f - n) → Q (.d .none) M) (q2 : ∀ p m, MetR n s f o p m → Q (.d (ruD p m)) M) : [W.d (ruD n s), .d (ruD f o)].length = sp_met_rules.n ∧ sp_met_rules.run [.d (ruD n s), .d (ruD f o)] M Q := ⟨rfl, n, s, f, o, rfl, h1, h2, h3, h4, h5, h6, q1, q2⟩
theorem pow_int {a : Int} {n : Nat} (h0 : 0 < a) (h : a.natAbs < 2 ^ n) : a < 2 ^ n := by
  have e : ((2 : Int) ^ n) = ((2 ^ n : Nat) : Int) := by rw [Int.natCast_pow]; rfl
  rw [e]
  omega
local macro_rules | `(tactic| one_item) => `(tactic| first
  | ((with_reducible refine' cEqS ?k1 ?_); (case k1 => exact ⟨by decide +kernel, by decide +kernel⟩); (try simp only [tRR, tRF, tRL, tFR, tFF, tFL, tLR, tLF, tLL, decide_true, decide_false, Bool.not_true, Bool.not_false]))
  | ((with_reducible refine' cNeS ?k1 ?_); (case k1 => exact ⟨by decide +kernel, by decide +kernel⟩); (try simp only [tRR, tRF, tRL, tFR, tFF, tFL, tLR, tLF, tLL, decide_true, decide_false, Bool.not_true, Bool.not_false]))
  | (with_reducible refine sFnR ?_)
  | (with_reducible refine sSeq ?_) | (with_reducible refine sAsg ?_) | (with_reducible refine s2 ?_)
  | ((with_reducible refine' sVar ?k1 ?_); (case k1 => rfl))
  | (with_reducible refine sC ?_) | (with_reducible refine sCons ?_) | (with_reducible refine sNil ?_) | (with_reducible refine sN ?_) | (with_reducible refine s1 ?_)
  | ((with_reducible refine' xBind ?k1 ?_); (case k1 => rfl))
  | ((with_reducible refine' sFnE ?k1 ?_); (case k1 => rfl))
  | (with_reducible refine sIfS ?_) | (with_reducible refine sIf ?_) | (with_reducible refine sB ?_) | (with_reducible refine oCmp ?_) | (with_reducible refine xBool ?_) | (with_reducible refine sRet ?_) | (with_reducible refine sTup ?_) | (with_reducible refine sLst ?_)
  | ((with_reducible refine' xDat ?k1 ?k2 ?_); (case k1 => rfl); (case k2 => (exact Nat.le_of_ble_eq_true rfl)))
  | ((with_reducible refine' oIxT ?k1 ?_); (case k1 => rfl)) | ((with_reducible refine' oIxL ?k1 ?_); (case k1 => rfl))
  | (with_reducible refine oAdd ?_) | (with_reducible refine oSub ?_) | (with_reducible refine oNeg ?_) | (with_reducible refine oGcd ?_) | (with_reducible refine oAbs ?_) | (with_reducible refine oInt ?_)
  | (with_reducible refine oLenT ?_) | (with_reducible refine oLenL ?_) | (with_reducible refine oSlT ?_) | (with_reducible refine oSlL ?_) | (with_reducible refine oTupL ?_) | (with_reducible refine oTupT ?_)
  | (with_reducible refine cLt ?_) | (with_reducible refine cLe ?_) | (with_reducible refine cGt ?_) | (with_reducible refine cGe ?_) | (with_reducible refine cIsN ?_) | (with_reducible refine cNotN ?_) | (with_reducible refine cIsB ?_) | (with_reducible refine cEqI ?_) | (with_reducible refine cNeI ?_)
  | (with_reducible refine sNotT ?_) | (with_reducible refine sAndT ?_) | (with_reducible refine sOrT ?_) | (with_reducible refine sNotV ?_) | (with_reducible refine sAndV ?_) | (with_reducible refine sOrV ?_)
  | (with_reducible refine sSl ?_) | (with_reducible refine sONone ?_) | (with_reducible refine sOSome ?_) | (with_reducible refine xInt ?_) | (with_reducible refine sChn ?_) | (with_reducible refine sPar ?_) | (with_reducible refine xTwo ?_) | (with_reducible refine sIsi ?_) | (with_reducible refine sIsi2 ?_) | (with_reducible refine xD ?_)
  | (with_reducible refine sNext ?_)
  | (with_reducible refine xT ?_) | (with_reducible refine xF ?_))
local macro_rules | `(tactic| fin_places) => `(tactic| (repeat one_item))
def b_met_rules : List Sm := [(.asg (.tp [(.tp [(.nm 2), (.nm 3)]), (.tp [(.nm 4), (.nm 5)])]) (.tup (.cons (.var 0) (.cons (.var 1) .nil)))), (.asg (.nm 6) (.call 0 (.cons (.var 3) (.cons (.var 5) .nil)))), (.ife (.not_ (.val (.call 1 (.cons (.call 2 (.cons (.var 4) (.cons (.var 2) .nil))) (.cons (.var 6) .nil))))) [(.ret (.lit .none))] []), (.par 7 8 (.ix (.call 3 (.cons (.call 2 (.cons (.var 4) (.cons (.var 2) .nil))) (.cons (.var 6) .nil))) (.lit (.int 0))) (.ix (.call 4 (.cons (.call 3 (.cons (.var 5) (.cons (.var 6) .nil))) .nil)) (.lit (.int 0)))), (.asg (.nm 9) (.call 5 (.cons (.ix (.call 3 (.cons (.var 3) (.cons (.var 6) .nil))) (.lit (.int 0))) (.cons (.var 8) .nil)))), (.asg (.nm 10) (.call 6 (.cons (.var 2) (.cons (.call 7 (.cons (.var 3) (.cons (.tup (.cons (.bin .mod (.bin .mul (.var 7) (.var 9)) (.var 8)) (.cons (.lit (.int 1)) .nil))) .nil))) .nil)))), (.ret (.tup (.cons (.var 10) (.cons (.call 7 (.cons (.var 3) (.cons (.tup (.cons (.var 8) (.cons (.lit (.int 1)) .nil))) .nil))) .nil))))]
theorem fn_met_rules {g : Gb} (gk : GOk g) (a : At g "met_rules" 42) (f_common_part : FOk g 2 "common_part" sp_common_part) (f_goes_whole : FOk g 3 "goes_whole" sp_goes_whole) (f_part_less : FOk g 3 "part_less" sp_part_less) (f_part_over : FOk g 2 "part_over" sp_part_over) (f_part_size : FOk g 1 "part_size" sp_part_size) (f_undone_times : FOk g 1 "undone_times" sp_undone_times) (f_part_plus : FOk g 2 "part_plus" sp_part_plus) (f_part_times : FOk g 2 "part_times" sp_part_times) : FOk g 4 "met_rules" sp_met_rules := by
  refine FOk.of (k := 3) (G := [("common_part", sp_common_part), ("goes_whole", sp_goes_whole), ("part_less", sp_part_less), ("part_over", sp_part_over), ("part_size", sp_part_size), ("undone_times", sp_undone_times), ("part_plus", sp_part_plus), ("part_times", sp_part_times)]) (N := ["one", "other", "near", "step", "far", "other_step", "shared", "times", "size", "back", "place"]) (ps := ["one", "other"]) b_met_rules a gk ⟨List.forall_mem_cons.mpr ⟨f_common_part.mono (by decide), List.forall_mem_cons.mpr ⟨f_goes_whole.mono (by decide), List.forall_mem_cons.mpr ⟨f_part_less.mono (by decide), List.forall_mem_cons.mpr ⟨f_part_over.mono (by decide), List.forall_mem_cons.mpr ⟨f_part_size.mono (by decide), List.forall_mem_cons.mpr ⟨f_undone_times.mono (by decide), List.forall_mem_cons.mpr ⟨f_part_plus.mono (by decide), List.forall_mem_cons.mpr ⟨f_part_times.mono (by decide), fun _ h => nomatch h⟩⟩⟩⟩⟩⟩⟩⟩⟩ ⟨rfl, rfl, rfl, by decide +kernel, rfl, by decide +kernel, by decide +kernel⟩ (fun _ _ _ _ _ _ us hl => match us, hl with | [_, _], _ => rfl) rfl (by decide +kernel) ?_
  intro ws M Q h
  simp only [b_met_rules, evSs, evS, ev, evA, evT, evTs, evAnd, evOr, evO, evI, Bool.false_eq_true, reduceIte]
  obtain ⟨n, s, f, o, rfl, hs, ho, h3, h4, h5, h6, q1, q2⟩ := h
  have g0 : cmn s o ≠ 0 := cmn_ne hs
  have zg := sz_cmn s o
  have zd := sz_sub f n
  have zt := sz_div (f - n) _ g0
  have zO := sz_div o _ g0
  have zS := sz_div s _ g0
  fin_places
  refine cQ2 (f := cmn) (show _ ≤ _ by omega) ?_
  fin_places
  refine cQ2 (f := (· - ·)) (show _ ≤ _ by omega) ?_
  fin_places
  refine cQ2v ⟨g0, by omega⟩ ?_
  fin_places
  refine xIfN (fun hn => ?_) (fun hn => ?_)
  · fin_places
    exact q1 (fun hm => hn ((whole_iff g0).mpr hm))
  have mg := merge hs ho ((whole_iff g0).mp hn)
  have bT := sz_num ((f - n) / cmn s o)
  have bZ := sz_num (rabs (o / cmn s o))
  rw [sz_abs] at bZ
  fin_places
  refine cQ2 (f := (· - ·)) (show _ ≤ _ by omega) ?_
  fin_places
  refine cQ2 (f := (· / ·)) ⟨g0, by omega⟩ ?_
  fin_places
  refine cQ2 (f := (· / ·)) ⟨g0, by omega⟩ ?_
  fin_places
  refine cQ1 (f1 := rabs) ?_
  fin_places
  refine cQ2 (f := (· / ·)) ⟨g0, by omega⟩ ?_
  fin_places
  have zp := mg.zpos
  have bZ2 : (rabs (o / cmn s o)).num.natAbs < 2 ^ 516 := lt_of_pow bZ (by omega)
  have bZ3 : (rabs (o / cmn s o)).num.natAbs < 2 ^ 4000 := lt_of_pow bZ (by omega)
  have sZ : sz (((rabs (o / cmn s o)).num : Int) : Rat) ≤ sz s + 16 := by
    refine Nat.le_trans (sz_int bZ (sz_pos _)) (by omega)
  have bT2 : ((f - n) / cmn s o).num.natAbs < 2 ^ 4600 := lt_of_pow bT (by omega)
  generalize ((f - n) / cmn s o).num = T at *
  generalize (s / cmn s o).num = S at *
  generalize (rabs (o / cmn s o)).num = Z at *
  refine cUndone zp (pow_int zp bZ3) mg.cop (fun b b0 b1 hb => ?_)
  have bb : b.natAbs < 2 ^ 516 := by omega
  fin_places
  refine oMul (mulOk bT2 bb (by decide)) ?_
  fin_places
  refine oMod (by omega) ?_
  fin_places
  have k0 := Int.fmod_nonneg_of_pos (T * b) zp
  have k1 := Int.fmod_lt_of_pos (T * b) zp
  have sK : sz (((T * b).fmod Z : Int) : Rat) ≤ sz s + 16 := by
    refine Nat.le_trans (sz_int (n := sz (o / cmn s o)) (by omega) (sz_pos _)) (by omega)
  have w := mg.out b hb
  generalize (T * b).fmod Z = K at *
  have z1 := sz_mul s (K : Rat)
  have z2 := sz_mul s (Z : Rat)
  have z3 := sz_add n (s * (K : Rat))
  refine cQ2 (f := (· * ·)) (x := s) (y := (K : Rat)) (show _ ≤ _ by omega) ?_
  fin_places
  refine cQ2 (f := (· + ·)) (show _ ≤ _ by omega) ?_
  fin_places
  refine cQ2 (f := (· * ·)) (x := s) (y := (Z : Rat)) (show _ ≤ _ by omega) ?_
  fin_places
  try exact q2 _ _ ⟨w.1, w.2, mg.m0, mg.ms, mg.mo, mg.all, by omega, by omega⟩
end Sh
set_option maxHeartbeats 1000000
namespace Sh
open PySem PySem.Spec PyProof.Rows L2
theorem xNT {w : W} {A B : Prop} (e : isNone w = true) (q : A) : if isNone w = true then A else B := by rw [if_pos e]; exact q
theorem xNNT {w : W} {A B : Prop} (e : isNone w = false) (q : A) : if (!isNone w) = true then A else B := by rw [if_pos (by rw [e]; rfl)]; exact q
theorem xNNF {w : W} {A B : Prop} (e : isNone w = true) (q : B) : if (!isNone w) = true then A else B := by rw [if_neg (by rw [e]; exact Bool.false_ne_true)]; exact q
theorem xNF {w : W} {A B : Prop} (e : isNone w = false) (q : B) : if isNone w = true then A else B := by rw [if_neg (by rw [e]; exact Bool.false_ne_true)]; exact q
/-! ## the place by rules, walked -/
def Solves (R : List (Rat × Rat)) (z : Rat) : Prop := ∀ c ∈ R, Mult c.2 (z - c.1)
structure PR (C : List (Rat × Rat)) (p m : Rat) : Prop where
  m0 : m ≠ 0
  sol : Solves C p
  per : ∀ c ∈ C, Mult c.2 m
  all : ∀ x, (∀ c ∈ C, Mult c.2 x) → Mult m x
theorem PR.one (n : Rat) {s : Rat} (h : s ≠ 0) : PR [(n, s)] n s where
  m0 := h
  sol := fun c hc => by
    rw [List.mem_singleton.mp hc]
    exact ⟨0, by grind⟩
  per := fun c hc => by
    rw [List.mem_singleton.mp hc]
    exact ⟨1, by grind⟩
  all := fun x hx => hx _ (List.mem_singleton.mpr rfl)
theorem Mult.of_eq {s x y : Rat} (e : x = y) (h : Mult s x) : Mult s y := e ▸ h
theorem PR.next {C : List (Rat × Rat)} {p m f o q k : Rat} (h : PR C p m) (w : MetR p m f o q k) : PR (C ++ [(f, o)]) q k where
  m0 := w.m0
  sol := fun c hc => by
    rcases List.mem_append.mp hc with hc | hc
    · exact ((h.per c hc).trans w.ps).add (h.sol c hc) |>.of_eq (by grind)
    · rw [List.mem_singleton.mp hc]; exact w.po
  per := fun c hc => by
    rcases List.mem_append.mp hc with hc | hc
    · exact (h.per c hc).trans w.ms
    · rw [List.mem_singleton.mp hc]; exact w.mo
  all := fun x hx => w.all x (h.all x fun c hc => hx c (List.mem_append_left _ hc)) (hx (f, o) (List.mem_append_right _ (List.mem_singleton.mpr rfl)))
theorem PR.none {C : List (Rat × Rat)} {p m f o z : Rat} (h : PR C p m) (w : ¬ Mult (cmn m o) (f - p)) (hz : Solves C z) (ho : Mult o (z - f)) : False := by
  refine w (cmn_iff.mpr ?_)
  obtain ⟨i, hi⟩ := h.all (z - p) fun c hc => ((hz c hc).sub (h.sol c hc)).of_eq (by grind)
  obtain ⟨j, hj⟩ := ho
  refine ⟨i, -j, ?_⟩
  rw [Rat.intCast_neg]
  grind
def szA : Nat → Nat
  | 0 => 8
  | k + 1 => 2 * szA k + 16
def szB : Nat → Nat
  | 0 => 200
  | k + 1 => szB k + 3 * szA k + 24
theorem szAB : ∀ k, k ≤ 4 → szA k ≤ 368 ∧ szB k ≤ 1184 := by decide
abbrev sp_place_by : DSp := ⟨1, fun ws M Q => ∃ R : List (Rat × Rat), ws = [.d (.list (R.map fun c => ruD c.1 c.2))] ∧ R.length ≤ 5 ∧ (∀ c ∈ R, c.2 ≠ 0 ∧ sz c.1 ≤ 200 ∧ sz c.2 ≤ 8) ∧ (R = [] → Q (.d (fr 0)) M) ∧ (R ≠ [] → ∀ z, Solves R z → sz z ≤ 1184 → Q (.d (fr z)) M) ∧ ((∀ z, ¬ Solves R z) → Q (.d .none) M)⟩
theorem cPlace {R : List (Rat × Rat)} {M : MM} {Q : WK} (h1 : R.length ≤ 5) (h2 : ∀ c ∈ R, c.2 ≠ 0 ∧ sz c.1 ≤ 200 ∧ sz c.2 ≤ 8) (q0 : R = [] → Q (.d (fr 0)) M) (q1 : R ≠ [] → ∀ z, Solves R z → sz z ≤ 1184 → Q (.d (fr z)) M) (q2 : (∀ z, ¬ Solves R z) → Q (.d .none) M) : [W.d (.list (R.map fun c => ruD c.1 c.2))].length = sp_place_by.n ∧ sp_place_by.run [.d (.list (R.map fun c => ruD c.1 c.2))] M Q := ⟨rfl, R, rfl, h1, h2, q0, q1, q2⟩
local macro_rules | `(tactic| one_item) => `(tactic| first
  | ((with_reducible refine' cEqS ?k1 ?_); (case k1 => exact ⟨by decide +kernel, by decide +kernel⟩); (try simp only [tRR, tRF, tRL, tFR, tFF, tFL, tLR, tLF, tLL, decide_true, decide_false, Bool.not_true, Bool.not_false]))
  | ((with_reducible refine' cNeS ?k1 ?_); (case k1 => exact ⟨by decide +kernel, by decide +kernel⟩); (try simp only [tRR, tRF, tRL, tFR, tFF, tFL, tLR, tLF, tLL, decide_true, decide_false, Bool.not_true, Bool.not_false]))
  | (with_reducible refine sFnR ?_)
  | (with_reducible refine xTrue ?_)
  | (with_reducible refine xFalse ?_)
  | ((with_reducible refine' xNT ?k1 ?_); (case k1 => rfl))
  | ((with_reducible refine' xNF ?k1 ?_); (case k1 => rfl))
  | ((with_reducible refine' xNNT ?k1 ?_); (case k1 => rfl))
  | ((with_reducible refine' xNNF ?k1 ?_); (case k1 => rfl))
  | (with_reducible refine sSeq ?_) | (with_reducible refine sAsg ?_) | (with_reducible refine s2 ?_)
  | ((with_reducible refine' sVar ?k1 ?_); (case k1 => rfl))
  | (with_reducible refine sC ?_) | (with_reducible refine sCons ?_) | (with_reducible refine sNil ?_) | (with_reducible refine sN ?_) | (with_reducible refine s1 ?_)
  | ((with_reducible refine' xBind ?k1 ?_); (case k1 => rfl))
  | ((with_reducible refine' sFnE ?k1 ?_); (case k1 => rfl))
  | (with_reducible refine sIfS ?_) | (with_reducible refine sIf ?_) | (with_reducible refine sB ?_) | (with_reducible refine oCmp ?_) | (with_reducible refine xBool ?_) | (with_reducible refine sRet ?_) | (with_reducible refine sTup ?_) | (with_reducible refine sLst ?_)
  | ((with_reducible refine' xDat ?k1 ?k2 ?_); (case k1 => rfl); (case k2 => (exact Nat.le_of_ble_eq_true rfl)))
  | ((with_reducible refine' oIxT ?k1 ?_); (case k1 => rfl)) | ((with_reducible refine' oIxL ?k1 ?_); (case k1 => rfl))
  | (with_reducible refine oAdd ?_) | (with_reducible refine oSub ?_) | (with_reducible refine oNeg ?_) | (with_reducible refine oGcd ?_) | (with_reducible refine oAbs ?_) | (with_reducible refine oInt ?_)
  | (with_reducible refine oLenT ?_) | (with_reducible refine oLenL ?_) | (with_reducible refine oSlT ?_) | (with_reducible refine oSlL ?_) | (with_reducible refine oTupL ?_) | (with_reducible refine oTupT ?_)
  | (with_reducible refine cLt ?_) | (with_reducible refine cLe ?_) | (with_reducible refine cGt ?_) | (with_reducible refine cGe ?_) | (with_reducible refine cIsN (o := .isN) ?_) | (with_reducible refine cNotN ?_) | (with_reducible refine cIsB ?_) | (with_reducible refine cEqI ?_) | (with_reducible refine cNeI ?_)
  | (with_reducible refine sNotT ?_) | (with_reducible refine sAndT ?_) | (with_reducible refine sOrT ?_) | (with_reducible refine sNotV ?_) | (with_reducible refine sAndV ?_) | (with_reducible refine sOrV ?_)
  | (with_reducible refine sSl ?_) | (with_reducible refine sONone ?_) | (with_reducible refine sOSome ?_) | (with_reducible refine xInt ?_) | (with_reducible refine sChn ?_) | (with_reducible refine sPar ?_) | (with_reducible refine xTwo ?_) | (with_reducible refine sIsi ?_) | (with_reducible refine sIsi2 ?_) | (with_reducible refine xD ?_)
  | (with_reducible refine sNext ?_)
  | (with_reducible refine xT ?_) | (with_reducible refine xF ?_))
local macro_rules | `(tactic| fin_places) => `(tactic| (repeat one_item))
def b_place_by : List Sm := [(.asg (.nm 1) (.tup (.cons (.glob false) (.cons (.lit .none) .nil)))), (.for_ (.tp [(.nm 2), (.nm 3)]) (.seq (.var 0)) [(.asg (.nm 1) (.ife (.cmp .isN (.ix (.var 1) (.lit (.int 1))) (.lit .none)) (.tup (.cons (.var 2) (.cons (.var 3) .nil))) (.call 0 (.cons (.var 1) (.cons (.tup (.cons (.var 2) (.cons (.var 3) .nil))) .nil))))), (.ife (.cmp .isN (.var 1) (.lit .none)) [(.ret (.lit .none))] [])]), (.ret (.ix (.var 1) (.lit (.int 0))))]
theorem fn_place_by {g : Gb} (gk : GOk g) (a : At g "place_by" 43) (f_met_rules : FOk g 4 "met_rules" sp_met_rules) : FOk g 5 "place_by" sp_place_by := by
  refine FOk.of (k := 4) (G := [("met_rules", sp_met_rules)]) (N := ["rules", "found", "place", "step"]) (ps := ["rules"]) b_place_by a gk ⟨List.forall_mem_cons.mpr ⟨f_met_rules.mono (by decide), fun _ h => nomatch h⟩⟩ ⟨rfl, rfl, rfl, by decide +kernel, rfl, by decide +kernel, by decide +kernel⟩ (fun _ _ _ _ _ _ us hl => match us, hl with | [_], _ => rfl) rfl (by decide +kernel) ?_
  intro ws M Q h
  simp only [b_place_by, evSs, evS, ev, evA, evT, evTs, evAnd, evOr, evO, evI, Bool.false_eq_true, reduceIte]
  obtain ⟨R, rfl, h1, h2, q0, q1, q2⟩ := h
  fin_places
  refine sFor (sSeqI ?_)
  fin_places
  refine xSeqL ?_
  rw [List.map_map]
  refine for_inv (fun c : Rat × Rat => W.d (ruD c.1 c.2)) (fun T δ' M' => ∃ C d x2 x3, R = C ++ T ∧ M' = M ∧ δ' = [some (.d (.list (R.map fun c => ruD c.1 c.2))), some (.d d), x2, x3] ∧ ((C = [] ∧ d = .tuple [fr 0, .none]) ∨ (∃ k p m, C.length = k + 1 ∧ PR C p m ∧ sz m ≤ szA k ∧ sz p ≤ szB k ∧ d = ruD p m))) ?_ ?_ R _ _ ⟨[], _, none, none, rfl, rfl, rfl, .inl ⟨rfl, rfl⟩⟩
  · rintro ⟨f, o⟩ T δ' M' K ⟨C, d, x2, x3, eR, rfl, rfl, hd⟩ hK
    have hc := h2 (f, o) (by rw [eR]; exact List.mem_append_right _ List.mem_cons_self)
    refine ⟨_, rfl, ?_⟩
    fin_places
    rcases hd with ⟨rfl, rfl⟩ | ⟨k, p, m, hk, pr, zm, zp, rfl⟩
    · fin_places
      exact hK _ _ ⟨[(f, o)], _, _, _, eR, rfl, rfl, .inr ⟨0, f, o, rfl, PR.one f hc.1, hc.2.2, hc.2.1, rfl⟩⟩
    · have hl : k ≤ 3 := by
        have := congrArg List.length eR
        rw [List.length_append, List.length_cons] at this
        omega
      have ab := szAB k (by omega)
      fin_places
      refine cMet pr.m0 hc.1 (by omega) (Nat.le_trans hc.2.1 (by decide)) (by omega) hc.2.2 (fun hn => ?_) (fun q n w => ?_)
      · fin_places
        try exact q2 (fun z hz => pr.none hn (fun c h => hz c (by rw [eR]; exact List.mem_append_left _ h)) (hz (f, o) (by rw [eR]; exact List.mem_append_right _ List.mem_cons_self)))
      · fin_places
        refine hK _ _ ⟨C ++ [(f, o)], _, _, _, by rw [List.append_assoc]; exact eR, rfl, rfl, .inr ⟨k + 1, q, n, ?_, pr.next w, ?_, ?_, rfl⟩⟩
        · rw [List.length_append, hk]; rfl
        · have := w.zm
          show _ ≤ 2 * szA k + 16
          omega
        · have := w.zp
          show _ ≤ szB k + 3 * szA k + 24
          omega
  · rintro δ' M' ⟨C, d, x2, x3, eR, rfl, rfl, hd⟩
    rw [List.append_nil] at eR
    subst eR
    rcases hd with ⟨rfl, rfl⟩ | ⟨k, p, m, hk, pr, zm, zp, rfl⟩
    · fin_places
      try exact q0 rfl
    · fin_places
      try exact q1 (by intro e; rw [e] at hk; cases hk) p pr.sol (Nat.le_trans zp (szAB k (by omega)).2)
end Sh
set_option maxHeartbeats 1000000
namespace Sh
open PySem PySem.Spec PyProof.Rows L2
/-! ## the rules by sorts, walked -/
theorem sz_inv {x : Rat} (h : x ≠ 0) : sz (1 / x) ≤ sz x := by
  have e : 1 / x = Rat.divInt x.den x.num := by
    rw [Rat.div_def, Rat.one_mul, Rat.inv_def]
  rw [e]
  exact sz_divInt (fun e => h (Rat.num_eq_zero.mp e)) (by rw [Int.natAbs_natCast]; exact sz_den x) (sz_num x)
def stepQ (f l : Rat) : Rat := 1 / (1 / l - 1 / f)
def rulesW : Option Rat → List (Rat × Rat) → List (Rat × Rat)
  | some a, L => L.map fun c => (c.2 + c.1 * a, c.1)
  | none, [] => []
  | none, f :: L => L.map fun c => ((c.2 / c.1 - f.2 / f.1) * stepQ f.1 c.1, stepQ f.1 c.1)
structure LeadsOk (L : List (Rat × Rat)) : Prop where
  len : L.length ≤ 5
  n0 : ∀ c ∈ L, c.1 ≠ 0
  z1 : ∀ c ∈ L, sz c.1 ≤ 3
  z2 : ∀ c ∈ L, sz c.2 ≤ 90
  dis : L.Pairwise fun c d => c.1 ≠ d.1
abbrev oD : Option Rat → PyData
  | some a => fr a
  | none => .none
abbrev sp_rules_by : DSp := ⟨2, fun ws M Q => ∃ (o : Option Rat) (L : List (Rat × Rat)), ws = [.d (oD o), .d (.list (L.map fun c => ruD c.1 c.2))] ∧ LeadsOk L ∧ (∀ a, o = some a → sz a ≤ 90) ∧ Q (.d (.list ((rulesW o L).map fun c => ruD c.1 c.2))) M⟩
theorem cRules {o : Option Rat} {L : List (Rat × Rat)} {M : MM} {Q : WK} (h : LeadsOk L) (ha : ∀ a, o = some a → sz a ≤ 90) (q : Q (.d (.list ((rulesW o L).map fun c => ruD c.1 c.2))) M) : [W.d (oD o), .d (.list (L.map fun c => ruD c.1 c.2))].length = sp_rules_by.n ∧ sp_rules_by.run [.d (oD o), .d (.list (L.map fun c => ruD c.1 c.2))] M Q := ⟨rfl, o, L, rfl, h, ha, q⟩
theorem inv_ne {f l : Rat} (hf : f ≠ 0) (hl : l ≠ 0) (h : f ≠ l) : 1 / l - 1 / f ≠ 0 := fun e => h (by grind)
theorem cut1 (x : PyData) (xs : List PyData) : cutD (x :: xs) (some 1) none = xs := by
  unfold cutD
  have e : HT.sIx (x :: xs).length 0 (some 1) = 1 := by
    unfold HT.sIx
    simp
    try omega
  rw [e]
  have e2 : HT.sIx (x :: xs).length (x :: xs).length none = (x :: xs).length := by
    unfold HT.sIx
    simp
  rw [e2]
  simp
local macro_rules | `(tactic| one_item) => `(tactic| first
  | ((with_reducible refine' cEqS ?k1 ?_); (case k1 => exact ⟨by decide +kernel, by decide +kernel⟩); (try simp only [tRR, tRF, tRL, tFR, tFF, tFL, tLR, tLF, tLL, decide_true, decide_false, Bool.not_true, Bool.not_false]))
  | ((with_reducible refine' cNeS ?k1 ?_); (case k1 => exact ⟨by decide +kernel, by decide +kernel⟩); (try simp only [tRR, tRF, tRL, tFR, tFF, tFL, tLR, tLF, tLL, decide_true, decide_false, Bool.not_true, Bool.not_false]))
  | (with_reducible refine sFnR ?_)
  | (with_reducible refine xTrue ?_)
  | (with_reducible refine xFalse ?_)
  | ((with_reducible refine' xNT ?k1 ?_); (case k1 => rfl))
  | ((with_reducible refine' xNF ?k1 ?_); (case k1 => rfl))
  | ((with_reducible refine' xNNT ?k1 ?_); (case k1 => rfl))
  | ((with_reducible refine' xNNF ?k1 ?_); (case k1 => rfl))
  | (with_reducible refine sSeq ?_) | (with_reducible refine sAsg ?_) | (with_reducible refine s2 ?_)
  | ((with_reducible refine' sVar ?k1 ?_); (case k1 => rfl))
  | (with_reducible refine sC ?_) | (with_reducible refine sCons ?_) | (with_reducible refine sNil ?_) | (with_reducible refine sN ?_) | (with_reducible refine s1 ?_)
  | ((with_reducible refine' xBind ?k1 ?_); (case k1 => rfl))
  | ((with_reducible refine' sFnE ?k1 ?_); (case k1 => rfl))
  | (with_reducible refine sIfS ?_) | (with_reducible refine sIf ?_) | (with_reducible refine sB ?_) | (with_reducible refine oCmp ?_) | (with_reducible refine xBool ?_) | (with_reducible refine sRet ?_) | (with_reducible refine sTup ?_) | (with_reducible refine sLst ?_)
  | ((with_reducible refine' xDat ?k1 ?k2 ?_); (case k1 => rfl); (case k2 => (exact Nat.le_of_ble_eq_true rfl)))
  | ((with_reducible refine' oIxT ?k1 ?_); (case k1 => rfl)) | ((with_reducible refine' oIxL ?k1 ?_); (case k1 => rfl))
  | (with_reducible refine oAdd ?_) | (with_reducible refine oSub ?_) | (with_reducible refine oNeg ?_) | (with_reducible refine oGcd ?_) | (with_reducible refine oAbs ?_) | (with_reducible refine oInt ?_)
  | (with_reducible refine oLenT ?_) | (with_reducible refine oLenL ?_) | (with_reducible refine oSlT ?_) | (with_reducible refine oSlL ?_) | (with_reducible refine oTupL ?_) | (with_reducible refine oTupT ?_)
  | (with_reducible refine cLt ?_) | (with_reducible refine cLe ?_) | (with_reducible refine cGt ?_) | (with_reducible refine cGe ?_) | (with_reducible refine cIsN (o := .isN) ?_) | (with_reducible refine cNotN ?_) | (with_reducible refine cIsB ?_) | (with_reducible refine cEqI ?_) | (with_reducible refine cNeI ?_)
  | (with_reducible refine sNotT ?_) | (with_reducible refine sAndT ?_) | (with_reducible refine sOrT ?_) | (with_reducible refine sNotV ?_) | (with_reducible refine sAndV ?_) | (with_reducible refine sOrV ?_)
  | (with_reducible refine sSl ?_) | (with_reducible refine sONone ?_) | (with_reducible refine sOSome ?_) | (with_reducible refine xInt ?_) | (with_reducible refine sChn ?_) | (with_reducible refine sPar ?_) | (with_reducible refine xTwo ?_) | (with_reducible refine sIsi ?_) | (with_reducible refine sIsi2 ?_) | (with_reducible refine xD ?_)
  | (with_reducible refine sNext ?_)
  | (with_reducible refine xT ?_) | (with_reducible refine xF ?_))
local macro_rules | `(tactic| fin_places) => `(tactic| (repeat one_item))
def b_rules_by : List Sm := [(.ife (.cmp .notN (.var 0) (.lit .none)) [(.ret (.lc (.tup (.cons (.call 0 (.cons (.var 3) (.cons (.call 1 (.cons (.var 2) (.cons (.var 0) .nil))) .nil))) (.cons (.var 2) .nil))) (.tp [(.nm 2), (.nm 3)]) (.seq (.var 1)) .yes [2, 3]))] []), (.asg (.nm 4) (.box .nil)), (.for_ (.tp [(.nm 2), (.nm 3)]) (.seq (.sl (.var 1) (.ye (.lit (.int 1))) .no)) [(.asg (.tp [(.nm 5), (.nm 6)]) (.ix (.var 1) (.lit (.int 0)))), (.asg (.nm 7) (.call 2 (.cons (.glob true) (.cons (.call 3 (.cons (.call 2 (.cons (.glob true) (.cons (.var 2) .nil))) (.cons (.call 2 (.cons (.glob true) (.cons (.var 5) .nil))) .nil))) .nil)))), (.app (.var 4) (.tup (.cons (.call 1 (.cons (.call 3 (.cons (.call 2 (.cons (.var 3) (.cons (.var 2) .nil))) (.cons (.call 2 (.cons (.var 6) (.cons (.var 5) .nil))) .nil))) (.cons (.var 7) .nil))) (.cons (.var 7) .nil))))]), (.gho 4), (.ret (.var 4))]
theorem fn_rules_by {g : Gb} (gk : GOk g) (a : At g "rules_by" 44) (f_part_plus : FOk g 2 "part_plus" sp_part_plus) (f_part_times : FOk g 2 "part_times" sp_part_times) (f_part_over : FOk g 2 "part_over" sp_part_over) (f_part_less : FOk g 3 "part_less" sp_part_less) : FOk g 4 "rules_by" sp_rules_by := by
  refine FOk.of (k := 3) (G := [("part_plus", sp_part_plus), ("part_times", sp_part_times), ("part_over", sp_part_over), ("part_less", sp_part_less)]) (N := ["angle", "leads", "lead", "part", "found", "first", "near", "step"]) (ps := ["angle", "leads"]) b_rules_by a gk ⟨List.forall_mem_cons.mpr ⟨f_part_plus.mono (by decide), List.forall_mem_cons.mpr ⟨f_part_times.mono (by decide), List.forall_mem_cons.mpr ⟨f_part_over.mono (by decide), List.forall_mem_cons.mpr ⟨f_part_less.mono (by decide), fun _ h => nomatch h⟩⟩⟩⟩⟩ ⟨rfl, rfl, rfl, by decide +kernel, rfl, by decide +kernel, by decide +kernel⟩ (fun _ _ _ _ _ _ us hl => match us, hl with | [_, _], _ => rfl) rfl (by decide +kernel) ?_
  intro ws M Q h
  simp only [b_rules_by, evSs, evS, ev, evA, evT, evTs, evAnd, evOr, evO, evI, Bool.false_eq_true, reduceIte]
  obtain ⟨o, L, rfl, hL, ha, hq⟩ := h
  cases o with
  | some a =>
    have za := ha a rfl
    fin_places
    refine sLc (sSeqI ?_)
    fin_places
    refine xSeqL ⟨by rw [List.length_map, List.length_map]; have := hL.len; omega, ?_⟩
    rw [List.map_map]
    refine lc_map (fun c : Rat × Rat => W.d (ruD c.1 c.2)) (fun c => ruD (c.2 + c.1 * a) c.1) _ L (fun c _ => rfl) (fun c hc Q' q => ?_) ?_
    · have z1 := hL.z1 c hc
      have z2 := hL.z2 c hc
      have z3 := sz_mul c.1 a
      fin_places
      refine cQ2 (f := (· * ·)) (show _ ≤ _ by omega) ?_
      fin_places
      refine cQ2 (f := (· + ·)) (show _ ≤ _ by omega) ?_
      fin_places
      try exact q
    · fin_places
      rw [rulesW, List.map_map] at hq
      try exact hq
  | none =>
    fin_places
    refine sBox ?_
    fin_places
    intro a ha
    fin_places
    refine sFor (sSeqI ?_)
    fin_places
    refine xSeqL ?_
    cases L with
    | nil =>
      rw [show cutD (([] : List (Rat × Rat)).map fun c => ruD c.1 c.2) (some 1) none = [] from by decide +kernel]
      refine for_inv (α := Empty) (fun e => nomatch e) (fun _ δ' M' => δ' = [some (.d .none), some (.d (.list [])), none, none, some (.box a), none, none, none] ∧ M' = mset M a (.l [])) (fun y => nomatch y) ?_ [] _ _ ⟨rfl, rfl⟩
      · rintro δ' M' ⟨rfl, rfl⟩
        fin_places
        refine sGho rfl mset_same ?_
        rw [mdel_mset ha]
        fin_places
        try exact hq
    | cons f T =>
      rw [show cutD ((f :: T).map fun c => ruD c.1 c.2) (some 1) none = T.map fun c => ruD c.1 c.2 from cut1 _ _]
      have f0 := hL.n0 f List.mem_cons_self
      have zf := hL.z1 f List.mem_cons_self
      have zg := hL.z2 f List.mem_cons_self
      rw [List.map_map]
      refine for_inv (fun c : Rat × Rat => W.d (ruD c.1 c.2)) (fun R δ' M' => ∃ C x2 x3 x5 x6 x7, T = C ++ R ∧ δ' = [some (.d .none), some (.d (.list ((f :: T).map fun c => ruD c.1 c.2))), x2, x3, some (.box a), x5, x6, x7] ∧ M' = mset M a (.l ((C.map fun c => ((c.2 / c.1 - f.2 / f.1) * stepQ f.1 c.1, stepQ f.1 c.1)).map fun c => ruD c.1 c.2))) ?_ ?_ T _ _ ⟨[], none, none, none, none, none, rfl, rfl, rfl⟩
      · rintro c R δ' M' K ⟨C, x2, x3, x5, x6, x7, eT, rfl, rfl⟩ hK
        have hc : c ∈ T := by rw [eT]; exact List.mem_append_right _ List.mem_cons_self
        have c0 := hL.n0 c (List.mem_cons_of_mem _ hc)
        have zc := hL.z1 c (List.mem_cons_of_mem _ hc)
        have zd := hL.z2 c (List.mem_cons_of_mem _ hc)
        have ne : f.1 ≠ c.1 := (List.pairwise_cons.mp hL.dis).1 c hc
        have i0 := inv_ne f0 c0 ne
        have z1 := sz_inv f0
        have z2 := sz_inv c0
        have z3 := sz_sub (1 / c.1) (1 / f.1)
        have z4 := sz_inv i0
        have z5 := sz_div c.2 _ c0
        have z6 := sz_div f.2 _ f0
        have z7 := sz_sub (c.2 / c.1) (f.2 / f.1)
        refine ⟨_, rfl, ?_⟩
        fin_places
        refine oIxL (x := ruD f.1 f.2) (at_head _ _) ?_
        fin_places
        refine cQ2 (f := (· / ·)) (x := 1) ⟨c0, by rw [sz_1]; omega⟩ ?_
        fin_places
        refine cQ2 (f := (· / ·)) (x := 1) ⟨f0, by rw [sz_1]; omega⟩ ?_
        fin_places
        refine cQ2 (f := (· - ·)) (show _ ≤ _ by omega) ?_
        fin_places
        refine cQ2 (f := (· / ·)) (x := 1) ⟨i0, by rw [sz_1]; omega⟩ ?_
        fin_places
        refine sApp ?_
        fin_places
        refine ⟨a, _, rfl, mset_same, ?_⟩
        fin_places
        refine cQ2 (f := (· / ·)) ⟨c0, by omega⟩ ?_
        fin_places
        refine cQ2 (f := (· / ·)) ⟨f0, by omega⟩ ?_
        fin_places
        refine cQ2 (f := (· - ·)) (show _ ≤ _ by omega) ?_
        fin_places
        refine cQ2 (f := (· * ·)) (show _ ≤ _ by omega) ?_
        fin_places
        refine ⟨_, _, rfl, mset_same, ?_, ?_⟩
        · rw [List.length_map, List.length_map]
          have h2 := congrArg List.length eT
          rw [List.length_append] at h2
          have := hL.len
          rw [List.length_cons] at this
          omega
        · rw [mset_mset]
          fin_places
          refine hK _ _ ⟨C ++ [c], _, _, _, _, _, by rw [List.append_assoc]; exact eT, rfl, ?_⟩
          rw [List.map_append, List.map_append]
          rfl
      · rintro δ' M' ⟨C, x2, x3, x5, x6, x7, eT, rfl, rfl⟩
        rw [List.append_nil] at eT
        subst eT
        fin_places
        refine sGho rfl mset_same ?_
        rw [mdel_mset ha]
        fin_places
        try exact hq
end Sh
set_option maxHeartbeats 1000000
namespace Sh
open PySem PySem.Spec PyProof.Rows L2
/-! ## a motion by sorts, walked -/
abbrev SA := List (So × Rat)
def slook (A : SA) (x : So) : Option Rat := (A.find? fun p => decide (p.1 = x)).map (·.2)
def leadsOf : SA → List (Rat × Rat)
  | [] => []
  | (.lead l, p) :: A => (l, p) :: leadsOf A
  | (_, _) :: A => leadsOf A
theorem So.nk (x y : So) : toNK x.d = toNK y.d ↔ x = y := by
  constructor
  · intro h
    obtain ⟨k, ds, _, hk, _⟩ := So.key y
    exact So.inj x y (nk_inj x.d y.d k (So.nob x) (So.nob y) (h.trans hk) hk)
  · intro h
    rw [h]
theorem zipA (A : SA) : (A.map fun p => p.1.d).zip (A.map fun p => fr p.2) = A.map fun p => (p.1.d, fr p.2) := by
  induction A with
  | nil => rfl
  | cons a A ih => rw [List.map_cons, List.map_cons, List.map_cons, List.zip_cons_cons, ih]
theorem dfind_so {α : Type} (f : Rat → α) (A : SA) (x : So) : dfind (A.map fun p => (p.1.d, f p.2)) x.d = (slook A x).map f := by
  unfold dfind slook
  rw [List.find?_map, Option.map_map, Option.map_map]
  have e : ((fun p : PyData × α => decide (toNK p.1 = toNK x.d)) ∘ fun p : So × Rat => (p.1.d, f p.2)) = fun p : So × Rat => decide (p.1 = x) := funext fun p => by
    show decide (toNK p.1.d = toNK x.d) = _
    rw [Bool.eq_iff_iff, decide_eq_true_eq, decide_eq_true_eq]
    exact So.nk _ _
  rw [e]
  rfl
def isLd (p : So × Rat) : Bool := match p.1 with | .lead _ => true | _ => false
def ldD (p : So × Rat) : PyData := match p.1 with | .lead l => ruD l p.2 | _ => .none
theorem leads_filter : ∀ A : SA, (A.filter isLd).map ldD = (leadsOf A).map fun c => ruD c.1 c.2
  | [] => rfl
  | (.lead l, p) :: A => by
    rw [List.filter_cons_of_pos rfl, List.map_cons, leads_filter A]
    rfl
  | (.ring, p) :: A => by
    rw [List.filter_cons_of_neg Bool.false_ne_true, leads_filter A]
    rfl
  | (.flute, p) :: A => by
    rw [List.filter_cons_of_neg Bool.false_ne_true, leads_filter A]
    rfl
theorem leads_mem : ∀ (A : SA) (l p : Rat), (l, p) ∈ leadsOf A ↔ (So.lead l, p) ∈ A
  | [], l, p => by simp [leadsOf]
  | (.lead m, q) :: A, l, p => by simp [leadsOf, leads_mem A l p]
  | (.ring, q) :: A, l, p => by simp [leadsOf, leads_mem A l p]
  | (.flute, q) :: A, l, p => by simp [leadsOf, leads_mem A l p]
theorem leads_len : ∀ A : SA, (leadsOf A).length ≤ A.length
  | [] => Nat.le_refl _
  | (.lead m, q) :: A => Nat.succ_le_succ (leads_len A)
  | (.ring, q) :: A => Nat.le_succ_of_le (leads_len A)
  | (.flute, q) :: A => Nat.le_succ_of_le (leads_len A)
theorem leads_dis : ∀ A : SA, (A.map (·.1)).Nodup → (leadsOf A).Pairwise fun c d => c.1 ≠ d.1
  | [], _ => .nil
  | (.lead m, q) :: A, h => by
    have h := List.nodup_cons.mp h
    refine List.pairwise_cons.mpr ⟨fun ⟨l, p⟩ hc e => h.1 ?_, leads_dis A h.2⟩
    have : m = l := e
    subst this
    exact List.mem_map.mpr ⟨_, (leads_mem A m p).mp hc, rfl⟩
  | (.ring, q) :: A, h => leads_dis A (List.nodup_cons.mp h).2
  | (.flute, q) :: A, h => leads_dis A (List.nodup_cons.mp h).2
structure SAok (A : SA) : Prop where
  len : A.length ≤ 5
  nd : (A.map (·.1)).Nodup
  n0 : ∀ l p, (So.lead l, p) ∈ A → l ≠ 0 ∧ sz l ≤ 3
  z : ∀ c ∈ A, sz c.2 ≤ 90
theorem SAok.leads {A : SA} (h : SAok A) : LeadsOk (leadsOf A) where
  len := Nat.le_trans (leads_len A) h.len
  n0 := fun c hc => (h.n0 c.1 c.2 ((leads_mem A _ _).mp hc)).1
  z1 := fun c hc => (h.n0 c.1 c.2 ((leads_mem A _ _).mp hc)).2
  z2 := fun c hc => h.z _ ((leads_mem A _ _).mp hc)
  dis := leads_dis A h.nd
theorem slook_mem {A : SA} {x : So} {p : Rat} (h : slook A x = some p) : (x, p) ∈ A := by
  unfold slook at h
  obtain ⟨c, hc, rfl⟩ := Option.map_eq_some_iff.mp h
  have h1 := List.find?_some hc
  have h2 := List.mem_of_find?_eq_some hc
  rw [← of_decide_eq_true h1]
  exact h2
/-- what a place must fulfil, and what is answered -/
def MoOk (A : SA) (z : Rat) : Prop := (∀ p, slook A .ring = some p → z = p) ∧ Solves (rulesW (slook A .flute) (leadsOf A)) z
def moA (A : SA) (z : Rat) : Rat := match slook A .flute, leadsOf A with
  | some a, _ => a
  | none, [] => 0
  | none, f :: _ => (z - f.2) / f.1
structure MoR (A : SA) (z t : Rat) : Prop where
  ok : MoOk A z
  zz : sz z ≤ 1184
  zr : slook A .ring = none → rulesW (slook A .flute) (leadsOf A) = [] → z = 0
  t : t = ang (moA A z)
abbrev sp_motion_by : DSp := ⟨2, fun ws M Q => ∃ A : SA, ws = [.d (.list (A.map fun p => p.1.d)), .d (.tuple (A.map fun p => fr p.2))] ∧ SAok A ∧ (∀ z t, MoR A z t → Q (.d (mo z t)) M) ∧ ((∀ z, ¬ MoOk A z) → Q (.d .none) M)⟩
theorem cMotion {A : SA} {M : MM} {Q : WK} (h : SAok A) (q1 : ∀ z t, MoR A z t → Q (.d (mo z t)) M) (q2 : (∀ z, ¬ MoOk A z) → Q (.d .none) M) : [W.d (.list (A.map fun p => p.1.d)), .d (.tuple (A.map fun p => fr p.2))].length = sp_motion_by.n ∧ sp_motion_by.run [.d (.list (A.map fun p => p.1.d)), .d (.tuple (A.map fun p => fr p.2))] M Q := ⟨rfl, A, rfl, h, q1, q2⟩
theorem one_div_ne {x : Rat} (h : x ≠ 0) : 1 / x ≠ 0 := fun e => by
  have : (1 / x) * x = 1 := by grind
  rw [e] at this
  grind
theorem rules_ok {o : Option Rat} {L : List (Rat × Rat)} (h : LeadsOk L) (ha : ∀ a, o = some a → sz a ≤ 90) : (rulesW o L).length ≤ 5 ∧ ∀ c ∈ rulesW o L, c.2 ≠ 0 ∧ sz c.1 ≤ 200 ∧ sz c.2 ≤ 8 := by
  match o, L, h with
  | some a, L, h =>
    have za := ha a rfl
    refine ⟨by rw [rulesW, List.length_map]; exact h.len, fun c hc => ?_⟩
    obtain ⟨d, hd, rfl⟩ := List.mem_map.mp hc
    have h1 := h.z1 d hd
    have h2 := h.z2 d hd
    have h3 := sz_mul d.1 a
    have h4 := sz_add d.2 (d.1 * a)
    exact ⟨h.n0 d hd, by show sz (d.2 + d.1 * a) ≤ 200; omega, by show sz d.1 ≤ 8; omega⟩
  | none, [], h => exact ⟨by decide, fun c hc => nomatch hc⟩
  | none, f :: T, h =>
    refine ⟨by rw [rulesW, List.length_map]; have := h.len; rw [List.length_cons] at this; omega, fun c hc => ?_⟩
    obtain ⟨d, hd, rfl⟩ := List.mem_map.mp hc
    have f0 := h.n0 f List.mem_cons_self
    have zf := h.z1 f List.mem_cons_self
    have zg := h.z2 f List.mem_cons_self
    have c0 := h.n0 d (List.mem_cons_of_mem _ hd)
    have zc := h.z1 d (List.mem_cons_of_mem _ hd)
    have zd := h.z2 d (List.mem_cons_of_mem _ hd)
    have ne : f.1 ≠ d.1 := (List.pairwise_cons.mp h.dis).1 d hd
    have i0 := inv_ne f0 c0 ne
    have z1 := sz_inv f0
    have z2 := sz_inv c0
    have z3 := sz_sub (1 / d.1) (1 / f.1)
    have z4 : sz (stepQ f.1 d.1) ≤ _ := sz_inv i0
    have z5 := sz_div d.2 _ c0
    have z6 := sz_div f.2 _ f0
    have z7 := sz_sub (d.2 / d.1) (f.2 / f.1)
    have z8 := sz_mul (d.2 / d.1 - f.2 / f.1) (stepQ f.1 d.1)
    exact ⟨one_div_ne i0, by show sz ((d.2 / d.1 - f.2 / f.1) * stepQ f.1 d.1) ≤ 200; omega, by show sz (stepQ f.1 d.1) ≤ 8; omega⟩
theorem sDz {ra : RdA} {δ : En} {M : MM} {Q : WK} (q : ra δ M fun ws M1 => ∃ xs ys, ws = [.d (.list xs), .d (.tuple ys)] ∧ xs.length = ys.length ∧ (∀ d ∈ xs, KeyD d) ∧ (xs.map toNK).Nodup ∧ xs.length ≤ 100000 ∧ Q (.dct (xs.zip ys)) M1) : rdDz ra δ M Q := q
theorem sGet2 {ra rb rc : RdE} {δ : En} {M : MM} {Q : WK} (q : ra δ M fun w M1 => ∃ kvs, w = .dct kvs ∧ rb δ M1 fun z M2 => ∃ kd, z = .d kd ∧ rc δ M2 fun u M3 => ∃ x, u = .d x ∧ KeyD kd ∧ Q (.d ((dfind kvs kd).getD x)) M3) : rdGet2 ra rb rc δ M Q := q
theorem sZip {ra : RdA} {δ : En} {M : MM} {QI : List W → MM → Prop} (q : ra δ M fun ws M1 => ∃ xs ys w, ws = [.d (.list xs), w] ∧ seqOf w = some ys ∧ QI ((xs.zip ys).map fun p => pairD p.1 p.2) M1) : rdZipI ra δ M QI := q
theorem so_nodup {L : List So} (h : L.Nodup) : ((L.map So.d).map toNK).Nodup := by
  rw [List.map_map]
  refine List.nodup_iff_pairwise_ne.mpr (List.pairwise_map.mpr (List.Pairwise.imp (fun {a b} hab e => hab ((So.nk a b).mp e)) h))
theorem getD_oD (o : Option Rat) : (o.map fr).getD .none = oD o := by cases o <;> rfl
theorem allB_map {α : Type} (f : α → Bool) : ∀ L : List α, allB (L.map fun c => .bool (f c)) = some (L.all f)
  | [] => rfl
  | a :: L => by
    rw [List.map_cons, allB, allB_map f L]
    rfl
theorem at_one {α : Type} (x y : α) (xs : List α) : atI (x :: y :: xs) 1 = some y := by
  unfold atI ixN
  rw [if_pos (by decide), if_pos (by rw [List.length_cons, List.length_cons]; omega)]
  rfl
local macro_rules | `(tactic| one_item) => `(tactic| first
  | ((with_reducible refine' cEqS ?k1 ?_); (case k1 => exact ⟨by decide +kernel, by decide +kernel⟩); (try simp only [tRR, tRF, tRL, tFR, tFF, tFL, tLR, tLF, tLL, decide_true, decide_false, Bool.not_true, Bool.not_false]))
  | ((with_reducible refine' cNeS ?k1 ?_); (case k1 => exact ⟨by decide +kernel, by decide +kernel⟩); (try simp only [tRR, tRF, tRL, tFR, tFF, tFL, tLR, tLF, tLL, decide_true, decide_false, Bool.not_true, Bool.not_false]))
  | (with_reducible refine sFnR ?_)
  | (with_reducible refine xTrue ?_)
  | (with_reducible refine xFalse ?_)
  | ((with_reducible refine' xNT ?k1 ?_); (case k1 => rfl))
  | ((with_reducible refine' xNF ?k1 ?_); (case k1 => rfl))
  | ((with_reducible refine' xNNT ?k1 ?_); (case k1 => rfl))
  | ((with_reducible refine' xNNF ?k1 ?_); (case k1 => rfl))
  | (with_reducible refine sSeq ?_) | (with_reducible refine sAsg ?_) | (with_reducible refine s2 ?_)
  | ((with_reducible refine' sVar ?k1 ?_); (case k1 => rfl))
  | (with_reducible refine sC ?_) | (with_reducible refine sCons ?_) | (with_reducible refine sNil ?_) | (with_reducible refine sN ?_) | (with_reducible refine s1 ?_)
  | ((with_reducible refine' xBind ?k1 ?_); (case k1 => rfl))
  | ((with_reducible refine' sFnE ?k1 ?_); (case k1 => rfl))
  | (with_reducible refine sIfS ?_) | (with_reducible refine sIf ?_) | (with_reducible refine sB ?_) | (with_reducible refine oCmp ?_) | (with_reducible refine xBool ?_) | (with_reducible refine sRet ?_) | (with_reducible refine sTup ?_) | (with_reducible refine sLst ?_)
  | ((with_reducible refine' xDat ?k1 ?k2 ?_); (case k1 => rfl); (case k2 => (exact Nat.le_of_ble_eq_true rfl)))
  | ((with_reducible refine' oIxT ?k1 ?_); (case k1 => rfl)) | ((with_reducible refine' oIxL ?k1 ?_); (case k1 => rfl))
  | (with_reducible refine oAdd ?_) | (with_reducible refine oSub ?_) | (with_reducible refine oNeg ?_) | (with_reducible refine oGcd ?_) | (with_reducible refine oAbs ?_) | (with_reducible refine oInt ?_)
  | (with_reducible refine oLenT ?_) | (with_reducible refine oLenL ?_) | (with_reducible refine oSlT ?_) | (with_reducible refine oSlL ?_) | (with_reducible refine oTupL ?_) | (with_reducible refine oTupT ?_)
  | (with_reducible refine cLt ?_) | (with_reducible refine cLe ?_) | (with_reducible refine cGt ?_) | (with_reducible refine cGe ?_) | (with_reducible refine cIsN (o := .isN) ?_) | (with_reducible refine cNotN ?_) | (with_reducible refine cIsB ?_) | (with_reducible refine cEqI ?_) | (with_reducible refine cNeI ?_)
  | (with_reducible refine sNotT ?_) | (with_reducible refine sAndT ?_) | (with_reducible refine sOrT ?_) | (with_reducible refine sNotV ?_) | (with_reducible refine sAndV ?_) | (with_reducible refine sOrV ?_)
  | (with_reducible refine sSl ?_) | (with_reducible refine sONone ?_) | (with_reducible refine sOSome ?_) | (with_reducible refine xInt ?_) | (with_reducible refine sChn ?_) | (with_reducible refine sPar ?_) | (with_reducible refine xTwo ?_) | (with_reducible refine sIsi ?_) | (with_reducible refine sIsi2 ?_) | (with_reducible refine xD ?_)
  | (with_reducible refine sNext ?_)
  | (with_reducible refine xT ?_) | (with_reducible refine xF ?_))
local macro_rules | `(tactic| fin_places) => `(tactic| (repeat one_item))
def b_motion_by : List Sm := [(.asg (.nm 2) (.dz (.cons (.var 0) (.cons (.var 1) .nil)))), (.asg (.tp [(.nm 3), (.nm 4)]) (.tup (.cons (.get2 (.var 2) (.tup (.cons (.lit (.str "ring")) .nil)) (.lit .none)) (.cons (.get2 (.var 2) (.tup (.cons (.lit (.str "flute")) .nil)) (.lit .none)) .nil)))), (.asg (.nm 5) (.lc (.tup (.cons (.ix (.var 6) (.lit (.int 1))) (.cons (.var 7) .nil))) (.tp [(.nm 6), (.nm 7)]) (.zip (.cons (.var 0) (.cons (.var 1) .nil))) (.cmp .eq (.ix (.var 6) (.lit (.int 0))) (.lit (.str "lead"))) [6, 7])), (.asg (.nm 8) (.call 0 (.cons (.var 4) (.cons (.var 5) .nil)))), (.ife (.cmp .isN (.var 3) (.lit .none)) [(.asg (.nm 3) (.call 1 (.cons (.var 8) .nil))), (.ife (.cmp .isN (.var 3) (.lit .none)) [(.ret (.lit .none))] [])] [(.ife (.not_ (.val (.blt .all (.cons (.lc (.call 2 (.cons (.call 3 (.cons (.var 3) (.cons (.var 9) .nil))) (.cons (.var 10) .nil))) (.tp [(.nm 9), (.nm 10)]) (.seq (.var 8)) .yes [9, 10]) .nil)))) [(.ret (.lit .none))] [])]), (.ife (.cmp .isN (.var 4) (.lit .none)) [(.asg (.nm 4) (.ife (.cmp .gt (.blt .len (.cons (.var 5) .nil)) (.lit (.int 0))) (.call 4 (.cons (.call 3 (.cons (.var 3) (.cons (.ix (.ix (.var 5) (.lit (.int 0))) (.lit (.int 1))) .nil))) (.cons (.ix (.ix (.var 5) (.lit (.int 0))) (.lit (.int 0))) .nil))) (.glob false)))] []), (.ret (.tup (.cons (.var 3) (.cons (.call 5 (.cons (.var 4) .nil)) .nil))))]
theorem fn_motion_by {g : Gb} (gk : GOk g) (a : At g "motion_by" 45) (f_rules_by : FOk g 4 "rules_by" sp_rules_by) (f_place_by : FOk g 5 "place_by" sp_place_by) (f_goes_whole : FOk g 3 "goes_whole" sp_goes_whole) (f_part_less : FOk g 3 "part_less" sp_part_less) (f_part_over : FOk g 2 "part_over" sp_part_over) (f_angle_of : FOk g 1 "angle_of" sp_angle_of) : FOk g 6 "motion_by" sp_motion_by := by
  refine FOk.of (k := 5) (G := [("rules_by", sp_rules_by), ("place_by", sp_place_by), ("goes_whole", sp_goes_whole), ("part_less", sp_part_less), ("part_over", sp_part_over), ("angle_of", sp_angle_of)]) (N := ["sorts", "parts", "told", "place", "angle", "leads", "sort", "part", "rules", "near", "step"]) (ps := ["sorts", "parts"]) b_motion_by a gk ⟨List.forall_mem_cons.mpr ⟨f_rules_by.mono (by decide), List.forall_mem_cons.mpr ⟨f_place_by.mono (by decide), List.forall_mem_cons.mpr ⟨f_goes_whole.mono (by decide), List.forall_mem_cons.mpr ⟨f_part_less.mono (by decide), List.forall_mem_cons.mpr ⟨f_part_over.mono (by decide), List.forall_mem_cons.mpr ⟨f_angle_of.mono (by decide), fun _ h => nomatch h⟩⟩⟩⟩⟩⟩⟩ ⟨rfl, rfl, rfl, by decide +kernel, rfl, by decide +kernel, by decide +kernel⟩ (fun _ _ _ _ _ _ us hl => match us, hl with | [_, _], _ => rfl) rfl (by decide +kernel) ?_
  intro ws M Q h
  simp only [b_motion_by, evSs, evS, ev, evA, evT, evTs, evAnd, evOr, evO, evI, Bool.false_eq_true, reduceIte]
  obtain ⟨A, rfl, hA, q1, q2⟩ := h
  have hL := hA.leads
  have hfl : ∀ a, slook A .flute = some a → sz a ≤ 90 := fun a e => hA.z _ (slook_mem e)
  have hrg : ∀ a, slook A .ring = some a → sz a ≤ 90 := fun a e => hA.z _ (slook_mem e)
  have rok := rules_ok hL hfl
  fin_places
  refine sDz ?_
  fin_places
  refine ⟨_, _, rfl, by rw [List.length_map, List.length_map], fun d hd => ?_, ?_, ?_, ?_⟩
  · obtain ⟨p, _, rfl⟩ := List.mem_map.mp hd
    exact So.key p.1
  · have e : (A.map fun p => p.1.d) = (A.map (·.1)).map So.d := by rw [List.map_map]; rfl
    rw [e]
    exact so_nodup hA.nd
  · rw [List.length_map]; have := hA.len; omega
  rw [zipA]
  fin_places
  refine sGet2 ?_
  fin_places
  refine ⟨_, rfl, ?_⟩
  fin_places
  refine ⟨So.key .ring, ?_⟩
  rw [show (dfind (A.map fun p => (p.1.d, fr p.2)) (PyData.tuple [PyData.str (Str.ofString "ring")])).getD PyData.none = oD (slook A .ring) from by rw [← getD_oD, ← dfind_so]; rfl]
  fin_places
  refine sGet2 ?_
  fin_places
  refine ⟨_, rfl, ?_⟩
  fin_places
  refine ⟨So.key .flute, ?_⟩
  rw [show (dfind (A.map fun p => (p.1.d, fr p.2)) (PyData.tuple [PyData.str (Str.ofString "flute")])).getD PyData.none = oD (slook A .flute) from by rw [← getD_oD, ← dfind_so]; rfl]
  fin_places
  refine sLc (sZip ?_)
  fin_places
  refine ⟨_, _, _, rfl, rfl, by rw [List.length_map, List.length_zip, List.length_map, List.length_map]; have := hA.len; omega, ?_⟩
  rw [zipA, List.map_map]
  refine lc_typed (fun p : So × Rat => pairD p.1.d (fr p.2)) ldD isLd _ A [] (fun c _ => rfl) (fun c hc Q' q => ?_) (fun c hc hi Q' q => ?_) ?_
  · rcases c with ⟨_ | _ | l, p⟩
    · fin_places
      refine oIxT (xs := [sR]) (at_head _ _) ?_
      fin_places
      try exact q
    · fin_places
      refine oIxT (xs := [sF]) (at_head _ _) ?_
      fin_places
      try exact q
    · fin_places
      refine oIxT (xs := [sL, fr l]) (at_head _ _) ?_
      fin_places
      try exact q
  · rcases c with ⟨_ | _ | l, p⟩
    · cases hi
    · cases hi
    · fin_places
      refine oIxT (xs := [sL, fr l]) (x := fr l) (at_one _ _ _) ?_
      fin_places
      try exact q
  rw [List.nil_append, leads_filter]
  fin_places
  refine cRules hL hfl ?_
  fin_places
  -- the end, once a place is found
  have dn : ∀ z, sz z ≤ 1184 → MoOk A z → (slook A .ring = none → rulesW (slook A .flute) (leadsOf A) = [] → z = 0) → Q (.d (mo z (ang (moA A z)))) M := fun z h1 h2 h3 => q1 z _ ⟨h2, h1, h3, rfl⟩
  have moE : ∀ a, slook A .flute = some a → ∀ z, moA A z = a := fun a e z => by unfold moA; rw [e]
  cases hr : slook A .ring with
  | none =>
    fin_places
    have fine : ∀ z, sz z ≤ 1184 → Solves (rulesW (slook A .flute) (leadsOf A)) z → (rulesW (slook A .flute) (leadsOf A) = [] → z = 0) → Q (.d (mo z (ang (moA A z)))) M := fun z h1 h2 h3 => dn z h1 ⟨fun p e => (nomatch (hr.symm.trans e)), h2⟩ fun _ => h3
    refine cPlace rok.1 rok.2 (fun he => ?_) (fun he z hz zz => ?_) (fun hn => ?_)
    · obtain ⟨z, rfl⟩ : ∃ z : Rat, z = 0 := ⟨0, rfl⟩
      have zz : sz 0 ≤ 1184 := by rw [sz_0]; decide
      have hq := fine 0 zz (by rw [he]; exact fun c hc => nomatch hc) (fun _ => rfl)
      fin_places
      cases hf : slook A .flute with
      | some a =>
        rw [moE a hf] at hq
        fin_places
        refine cQ1 (f1 := ang) ?_
        fin_places
        try exact hq
      | none =>
        cases hl : leadsOf A with
        | nil =>
          have e : moA A 0 = 0 := by unfold moA; rw [hf, hl]
          rw [e] at hq
          fin_places
          refine xIf (fun h => absurd h (by decide)) (fun _ => ?_)
          fin_places
          refine cQ1 (f1 := ang) (x := 0) ?_
          fin_places
          try exact hq
        | cons f T =>
          have e : moA A 0 = (0 - f.2) / f.1 := by unfold moA; rw [hf, hl]
          have hf1 := hL.z1 f (by rw [hl]; exact List.mem_cons_self)
          have hf2 := hL.z2 f (by rw [hl]; exact List.mem_cons_self)
          have hf0 := hL.n0 f (by rw [hl]; exact List.mem_cons_self)
          have zs := sz_sub 0 f.2
          rw [e] at hq
          fin_places
          refine xIf (fun _ => ?_) (fun h => absurd (by rw [List.map_cons, List.length_cons]; omega) h)
          fin_places
          refine oIxL (x := ruD f.1 f.2) (at_head _ _) ?_
          fin_places
          refine cQ2 (f := (· - ·)) (show _ ≤ _ by omega) ?_
          fin_places
          refine oIxL (x := ruD f.1 f.2) (at_head _ _) ?_
          fin_places
          refine cQ2 (f := (· / ·)) ⟨hf0, by omega⟩ ?_
          fin_places
          refine cQ1 (f1 := ang) ?_
          fin_places
          try exact hq
    · have hq := fine z zz hz (fun e => absurd e he)
      fin_places
      cases hf : slook A .flute with
      | some a =>
        rw [moE a hf] at hq
        fin_places
        refine cQ1 (f1 := ang) ?_
        fin_places
        try exact hq
      | none =>
        cases hl : leadsOf A with
        | nil =>
          have e : moA A z = 0 := by unfold moA; rw [hf, hl]
          rw [e] at hq
          fin_places
          refine xIf (fun h => absurd h (by decide)) (fun _ => ?_)
          fin_places
          refine cQ1 (f1 := ang) (x := 0) ?_
          fin_places
          try exact hq
        | cons f T =>
          have e : moA A z = (z - f.2) / f.1 := by unfold moA; rw [hf, hl]
          have hf1 := hL.z1 f (by rw [hl]; exact List.mem_cons_self)
          have hf2 := hL.z2 f (by rw [hl]; exact List.mem_cons_self)
          have hf0 := hL.n0 f (by rw [hl]; exact List.mem_cons_self)
          have zs := sz_sub z f.2
          rw [e] at hq
          fin_places
          refine xIf (fun _ => ?_) (fun h => absurd (by rw [List.map_cons, List.length_cons]; omega) h)
          fin_places
          refine oIxL (x := ruD f.1 f.2) (at_head _ _) ?_
          fin_places
          refine cQ2 (f := (· - ·)) (show _ ≤ _ by omega) ?_
          fin_places
          refine oIxL (x := ruD f.1 f.2) (at_head _ _) ?_
          fin_places
          refine cQ2 (f := (· / ·)) ⟨hf0, by omega⟩ ?_
          fin_places
          refine cQ1 (f1 := ang) ?_
          fin_places
          try exact hq
    · fin_places
      try exact q2 fun z hz => hn z hz.2
  | some z =>
    have zr := hrg z hr
    have zz : sz z ≤ 1184 := by omega
    fin_places
    refine sLc (sSeqI ?_)
    fin_places
    refine xSeqL ⟨by rw [List.length_map, List.length_map]; have := rok.1; omega, ?_⟩
    rw [List.map_map]
    refine lc_map (fun c : Rat × Rat => W.d (ruD c.1 c.2)) (fun c => .bool (decide (((z - c.1) / c.2).den = 1))) _ (rulesW (slook A .flute) (leadsOf A)) (fun c _ => rfl) (fun c hc Q' q => ?_) ?_
    · obtain ⟨h1, h2, h3⟩ := rok.2 c hc
      have zs := sz_sub z c.1
      fin_places
      refine cQ2 (f := (· - ·)) (show _ ≤ _ by omega) ?_
      fin_places
      refine cQ2v ⟨h1, by omega⟩ ?_
      fin_places
      try exact q
    fin_places
    refine oAll (allB_map _ _) ?_
    fin_places
    cases hs : (rulesW (slook A .flute) (leadsOf A)).all fun c => decide (((z - c.1) / c.2).den = 1) with
    | false =>
      try rw [Bool.not_false]
      fin_places
      refine q2 fun y hy => ?_
      obtain rfl := hy.1 z hr
      have : ((rulesW (slook A .flute) (leadsOf A)).all fun c => decide (((y - c.1) / c.2).den = 1)) = true := List.all_eq_true.mpr fun c hc => decide_eq_true ((whole_iff (rok.2 c hc).1).mpr (hy.2 c hc))
      rw [this] at hs
      cases hs
    | true =>
      have hq := dn z zz ⟨fun p e => Option.some.inj (hr.symm.trans e), fun c hc => (whole_iff (rok.2 c hc).1).mp (of_decide_eq_true (List.all_eq_true.mp hs c hc))⟩ (fun e => nomatch (hr.symm.trans e))
      rw [Bool.not_true]
      fin_places
      cases hf : slook A .flute with
      | some a =>
        rw [moE a hf] at hq
        fin_places
        refine cQ1 (f1 := ang) ?_
        fin_places
        try exact hq
      | none =>
        cases hl : leadsOf A with
        | nil =>
          have e : moA A z = 0 := by unfold moA; rw [hf, hl]
          rw [e] at hq
          fin_places
          refine xIf (fun h => absurd h (by decide)) (fun _ => ?_)
          fin_places
          refine cQ1 (f1 := ang) (x := 0) ?_
          fin_places
          try exact hq
        | cons f T =>
          have e : moA A z = (z - f.2) / f.1 := by unfold moA; rw [hf, hl]
          have hf1 := hL.z1 f (by rw [hl]; exact List.mem_cons_self)
          have hf2 := hL.z2 f (by rw [hl]; exact List.mem_cons_self)
          have hf0 := hL.n0 f (by rw [hl]; exact List.mem_cons_self)
          have zs := sz_sub z f.2
          rw [e] at hq
          fin_places
          refine xIf (fun _ => ?_) (fun h => absurd (by rw [List.map_cons, List.length_cons]; omega) h)
          fin_places
          refine oIxL (x := ruD f.1 f.2) (at_head _ _) ?_
          fin_places
          refine cQ2 (f := (· - ·)) (show _ ≤ _ by omega) ?_
          fin_places
          refine oIxL (x := ruD f.1 f.2) (at_head _ _) ?_
          fin_places
          refine cQ2 (f := (· / ·)) ⟨hf0, by omega⟩ ?_
          fin_places
          refine cQ1 (f1 := ang) ?_
          fin_places
          try exact hq
end Sh
set_option maxHeartbeats 1000000
namespace Sh
open PySem PySem.Spec PyProof.Rows L2
/-! ## groups by sort, walked -/
theorem dfind_key {α β : Type} (k : α → So) (f : α → β) (A : List α) (x : So) : dfind (A.map fun p => ((k p).d, f p)) x.d = (A.find? fun p => decide (k p = x)).map f := by
  unfold dfind
  rw [List.find?_map, Option.map_map]
  have e : ((fun p : PyData × β => decide (toNK p.1 = toNK x.d)) ∘ fun p : α => ((k p).d, f p)) = fun p : α => decide (k p = x) := funext fun p => by
    show decide (toNK (k p).d = toNK x.d) = _
    rw [Bool.eq_iff_iff, decide_eq_true_eq, decide_eq_true_eq]
    exact So.nk _ _
  rw [e]
  rfl
abbrev Gr := List (So × List Pr)
def ofS (s : So) (B : List Pr) : List Pr := B.filter fun x => decide (srt x.1 = s)
structure GOf (B : List Pr) (G : Gr) : Prop where
  nd : (G.map (·.1)).Nodup
  eq : ∀ g ∈ G, g.2 = ofS g.1 B ∧ g.2 ≠ []
  all : ∀ x ∈ B, srt x.1 ∈ G.map (·.1)
def Ext (M M' : MM) : Prop := ∀ c o, M c = some o → M' c = some o
theorem Ext.refl (M : MM) : Ext M M := fun _ _ h => h
theorem Ext.trans {M1 M2 M3 : MM} (h1 : Ext M1 M2) (h2 : Ext M2 M3) : Ext M1 M3 := fun c o h => h2 c o (h1 c o h)
theorem Ext.none {M M' : MM} (h : Ext M M') {c : Addr} (hc : M' c = none) : M c = none := by
  cases e : M c with
  | none => rfl
  | some o => rw [h c o e] at hc; cases hc
theorem Ext.set {M M' : MM} (h : Ext M M') {c : Addr} (hc : M c = Option.none) (o : MO) : Ext M (mset M' c o) := fun d u hd => by
  unfold mset
  by_cases e : d = c
  · subst e; rw [hc] at hd; cases hd
  · rw [if_neg e]; exact h d u hd
theorem Ext.dels {M M' : MM} (h : Ext M M') {as : List Addr} (hc : ∀ c ∈ as, M c = Option.none) : Ext M (mdels M' as) := fun d u hd => by
  unfold mdels
  by_cases e : d ∈ as
  · rw [hc d e] at hd; cases hd
  · rw [if_neg e]; exact h d u hd
abbrev GT := List (So × Addr × List Pr)
structure GI (M0 : MM) (a : Addr) (C : List Pr) (T : GT) (M : MM) : Prop where
  g : GOf C (T.map fun t => (t.1, t.2.2))
  at_ : M a = some (.g (T.map fun t => (t.1.d, t.2.1)))
  each : ∀ t ∈ T, M t.2.1 = some (.l (t.2.2.map Pr.d))
  nd : (T.map (·.2.1)).Nodup
  out : ∀ t ∈ T, t.2.1 ≠ a
  ext : Ext M0 M
  f0 : M0 a = none
  f1 : ∀ t ∈ T, M0 t.2.1 = none
def putG (s : So) (y : Pr) (T : GT) : GT := T.map fun t => if t.1 = s then (t.1, t.2.1, t.2.2 ++ [y]) else t
theorem ofS_snoc (s : So) (C : List Pr) (y : Pr) : ofS s (C ++ [y]) = ofS s C ++ if srt y.1 = s then [y] else [] := by
  unfold ofS
  rw [List.filter_append]
  by_cases e : srt y.1 = s
  · rw [if_pos e]; congr 1; simp [List.filter, e]
  · rw [if_neg e]; congr 1; simp [List.filter, e]
theorem GOf.put {C : List Pr} {T : GT} (h : GOf C (T.map fun t => (t.1, t.2.2))) (y : Pr) (hs : srt y.1 ∈ T.map (·.1)) : GOf (C ++ [y]) ((putG (srt y.1) y T).map fun t => (t.1, t.2.2)) := by
  have k1 : ((putG (srt y.1) y T).map fun t => (t.1, t.2.2)).map (·.1) = T.map (·.1) := by
    unfold putG
    rw [List.map_map, List.map_map]
    refine List.map_congr_left fun t _ => ?_
    show (if t.1 = srt y.1 then (t.1, t.2.1, t.2.2 ++ [y]) else t).1 = t.1
    split <;> rfl
  have k0 : (T.map fun t => (t.1, t.2.2)).map (·.1) = T.map (·.1) := by rw [List.map_map]; rfl
  refine ⟨by rw [k1, ← k0]; exact h.nd, fun g hg => ?_, fun x hx => ?_⟩
  · obtain ⟨u, hu, rfl⟩ := List.mem_map.mp hg
    obtain ⟨t, ht, rfl⟩ := List.mem_map.mp hu
    obtain ⟨e1, e2⟩ := h.eq _ (List.mem_map_of_mem ht)
    have e1 : t.2.2 = ofS t.1 C := e1
    by_cases e : t.1 = srt y.1
    · rw [if_pos e]
      refine ⟨?_, by simp⟩
      show t.2.2 ++ [y] = ofS t.1 (C ++ [y])
      rw [ofS_snoc, if_pos e.symm, e1]
    · rw [if_neg e]
      refine ⟨?_, e2⟩
      show t.2.2 = ofS t.1 (C ++ [y])
      rw [ofS_snoc, if_neg (fun z => e z.symm), List.append_nil, e1]
  · rw [k1]
    rcases List.mem_append.mp hx with hx | hx
    · rw [← k0]; exact h.all x hx
    · rw [List.mem_singleton.mp hx]; exact hs
theorem ofS_none {s : So} {C : List Pr} (h : ∀ x ∈ C, srt x.1 ≠ s) : ofS s C = [] := by
  unfold ofS
  exact List.filter_eq_nil_iff.mpr fun x hx e => h x hx (of_decide_eq_true e)
theorem GOf.new {C : List Pr} {T : GT} (h : GOf C (T.map fun t => (t.1, t.2.2))) (y : Pr) (l : Addr) (hs : srt y.1 ∉ T.map (·.1)) : GOf (C ++ [y]) ((T ++ [(srt y.1, l, [y])]).map fun t => (t.1, t.2.2)) := by
  have k0 : (T.map fun t => (t.1, t.2.2)).map (·.1) = T.map (·.1) := by rw [List.map_map]; rfl
  have nn : ∀ x ∈ C, srt x.1 ≠ srt y.1 := fun x hx e => hs (by rw [← e, ← k0]; exact h.all x hx)
  refine ⟨?_, fun g hg => ?_, fun x hx => ?_⟩
  · rw [List.map_append, List.map_append, k0]
    exact nodup_snoc (by rw [← k0]; exact h.nd) hs
  · rw [List.map_append] at hg
    rcases List.mem_append.mp hg with hg | hg
    · obtain ⟨t, ht, rfl⟩ := List.mem_map.mp hg
      obtain ⟨e1, e2⟩ := h.eq _ (List.mem_map_of_mem ht)
      have e : t.1 ≠ srt y.1 := fun e => hs (by rw [← e]; exact List.mem_map_of_mem ht)
      refine ⟨?_, e2⟩
      show t.2.2 = ofS t.1 (C ++ [y])
      rw [ofS_snoc, if_neg (fun z => e z.symm), List.append_nil]
      exact e1
    · rw [List.mem_singleton.mp hg]
      refine ⟨?_, by simp⟩
      show [y] = ofS (srt y.1) (C ++ [y])
      rw [ofS_snoc, if_pos rfl, ofS_none nn]
      rfl
  · rw [List.map_append, List.map_append, k0]
    rcases List.mem_append.mp hx with hx | hx
    · exact List.mem_append_left _ (by rw [← k0]; exact h.all x hx)
    · rw [List.mem_singleton.mp hx]
      exact List.mem_append_right _ (List.mem_singleton.mpr rfl)
theorem map_inj_of_nodup {α β : Type} {f : α → β} : ∀ {L : List α}, (L.map f).Nodup → ∀ {x y}, x ∈ L → y ∈ L → f x = f y → x = y
  | a :: L, h, x, y, hx, hy, e => by
    have h := List.nodup_cons.mp h
    have hx := List.mem_cons.mp hx
    have hy := List.mem_cons.mp hy
    rcases hx with hx | hx
    · rcases hy with hy | hy
      · rw [hx, hy]
      · exact absurd (by rw [← hx, e]; exact List.mem_map_of_mem hy) h.1
    · rcases hy with hy | hy
      · exact absurd (by rw [← hy, ← e]; exact List.mem_map_of_mem hx) h.1
      · exact map_inj_of_nodup h.2 hx hy e
abbrev grD (G : Gr) : W := .dct (G.map fun p => (p.1.d, .list (p.2.map Pr.d)))
abbrev sp_by_sorts : DSp := ⟨1, fun ws M Q => ∃ B : List Pr, ws = [.d (bD B)] ∧ B.length < 64 ∧ ∀ G M', GOf B G → G.length ≤ B.length → Ext M M' → Q (grD G) M'⟩
theorem cBySorts {B : List Pr} {M : MM} {Q : WK} (h : B.length < 64) (q : ∀ G M', GOf B G → G.length ≤ B.length → Ext M M' → Q (grD G) M') : [W.d (bD B)].length = sp_by_sorts.n ∧ sp_by_sorts.run [.d (bD B)] M Q := ⟨rfl, B, rfl, h, q⟩
theorem sSd {ro rk : RdE} {δ : En} {M : MM} {Q : WK} (q : ro δ M fun w M1 => ∃ a kvs0, w = .box a ∧ M1 a = some (.g kvs0) ∧ rk δ M1 fun z M2 => ∃ kvs kd, M2 a = some (.g kvs) ∧ z = .d kd ∧ KeyD kd ∧ kvs.length < 90000 ∧
  ∀ l, M2 l = none → (∀ b, dfind kvs kd = some b → Q (.box b) (mset M2 l (.l []))) ∧ (dfind kvs kd = none → Q (.box l) (mset (mset M2 l (.l [])) a (.g (kvs ++ [(kd, l)]))))) : rdSd ro rk δ M Q := q
/-- the group stands -/
theorem GI.put {M0 M : MM} {a : Addr} {C : List Pr} {T : GT} (h : GI M0 a C T M) (y : Pr) (l : Addr) (hl : M l = none) {t : So × Addr × List Pr} (ht : t ∈ T) (hs : t.1 = srt y.1) : GI M0 a (C ++ [y]) (putG (srt y.1) y T) (mset (mset M l (.l [])) t.2.1 (.l (t.2.2.map Pr.d ++ [Pr.d y]))) := by
  have hne : ∀ u ∈ T, u.2.1 ≠ l := fun u hu e => by have := h.each u hu; rw [e, hl] at this; cases this
  have ha : a ≠ l := fun e => by have := h.at_; rw [e, hl] at this; cases this
  have kn : (T.map (·.1)).Nodup := by
    have := h.g.nd
    rw [List.map_map] at this
    exact this
  have ad : ∀ u ∈ T, u.2.1 = t.2.1 → u = t := fun u hu e => map_inj_of_nodup h.nd hu ht e
  have so : ∀ u ∈ T, u.1 = t.1 → u = t := fun u hu e => map_inj_of_nodup kn hu ht e
  refine ⟨h.g.put y (by rw [← hs]; exact List.mem_map_of_mem ht), ?_, fun v hv => ?_, ?_, fun v hv => ?_, ?_, h.f0, fun v hv => ?_⟩
  · rw [mset_ne (h.out t ht).symm, mset_ne ha, h.at_]
    unfold putG
    rw [List.map_map]
    congr 2
    refine List.map_congr_left fun u _ => ?_
    show (u.1.d, u.2.1) = ((if u.1 = srt y.1 then (u.1, u.2.1, u.2.2 ++ [y]) else u).1.d, (if u.1 = srt y.1 then (u.1, u.2.1, u.2.2 ++ [y]) else u).2.1)
    split <;> rfl
  · obtain ⟨u, hu, rfl⟩ := List.mem_map.mp hv
    by_cases e : u.1 = srt y.1
    · have := so u hu (e.trans hs.symm)
      subst this
      rw [if_pos e]
      show mset _ u.2.1 _ u.2.1 = _
      rw [mset_same, List.map_append]
      rfl
    · rw [if_neg e]
      rw [mset_ne (fun z => e (by rw [ad u hu z]; exact hs)), mset_ne (hne u hu)]
      exact h.each u hu
  · have : (putG (srt y.1) y T).map (·.2.1) = T.map (·.2.1) := by
      unfold putG
      rw [List.map_map]
      refine List.map_congr_left fun u _ => ?_
      show (if u.1 = srt y.1 then (u.1, u.2.1, u.2.2 ++ [y]) else u).2.1 = u.2.1
      split <;> rfl
    rw [this]
    exact h.nd
  · obtain ⟨u, hu, rfl⟩ := List.mem_map.mp hv
    have : (if u.1 = srt y.1 then (u.1, u.2.1, u.2.2 ++ [y]) else u).2.1 = u.2.1 := by split <;> rfl
    rw [this]
    exact h.out u hu
  · exact (h.ext.set (h.ext.none hl) _).set (h.f1 t ht) _
  · obtain ⟨u, hu, rfl⟩ := List.mem_map.mp hv
    have : (if u.1 = srt y.1 then (u.1, u.2.1, u.2.2 ++ [y]) else u).2.1 = u.2.1 := by split <;> rfl
    rw [this]
    exact h.f1 u hu
theorem GI.new {M0 M : MM} {a : Addr} {C : List Pr} {T : GT} (h : GI M0 a C T M) (y : Pr) (l : Addr) (hl : M l = none) (hs : srt y.1 ∉ T.map (·.1)) : GI M0 a (C ++ [y]) (T ++ [(srt y.1, l, [y])]) (mset (mset (mset M l (.l [])) a (.g ((T.map fun t => (t.1.d, t.2.1)) ++ [((srt y.1).d, l)]))) l (.l ([] ++ [Pr.d y]))) := by
  have hne : ∀ u ∈ T, u.2.1 ≠ l := fun u hu e => by have := h.each u hu; rw [e, hl] at this; cases this
  have ha : a ≠ l := fun e => by have := h.at_; rw [e, hl] at this; cases this
  refine ⟨h.g.new y l hs, ?_, fun v hv => ?_, ?_, fun v hv => ?_, ?_, h.f0, fun v hv => ?_⟩
  · rw [mset_ne ha, mset_same, List.map_append]
    rfl
  · rcases List.mem_append.mp hv with hv | hv
    · rw [mset_ne (hne v hv), mset_ne (h.out v hv), mset_ne (hne v hv)]
      exact h.each v hv
    · rw [List.mem_singleton.mp hv]
      exact mset_same
  · rw [List.map_append]
    refine nodup_snoc h.nd fun z => ?_
    obtain ⟨u, hu, e⟩ := List.mem_map.mp z
    exact hne u hu e
  · rcases List.mem_append.mp hv with hv | hv
    · exact h.out v hv
    · rw [List.mem_singleton.mp hv]; exact ha.symm
  · have l0 := h.ext.none hl
    exact ((h.ext.set l0 _).set h.f0 _).set l0 _
  · rcases List.mem_append.mp hv with hv | hv
    · exact h.f1 v hv
    · rw [List.mem_singleton.mp hv]; exact h.ext.none hl
local macro_rules | `(tactic| one_item) => `(tactic| first
  | ((with_reducible refine' cEqS ?k1 ?_); (case k1 => exact ⟨by decide +kernel, by decide +kernel⟩); (try simp only [tRR, tRF, tRL, tFR, tFF, tFL, tLR, tLF, tLL, decide_true, decide_false, Bool.not_true, Bool.not_false]))
  | ((with_reducible refine' cNeS ?k1 ?_); (case k1 => exact ⟨by decide +kernel, by decide +kernel⟩); (try simp only [tRR, tRF, tRL, tFR, tFF, tFL, tLR, tLF, tLL, decide_true, decide_false, Bool.not_true, Bool.not_false]))
  | (with_reducible refine sFnR ?_)
  | (with_reducible refine xTrue ?_)
  | (with_reducible refine xFalse ?_)
  | ((with_reducible refine' xNT ?k1 ?_); (case k1 => rfl))
  | ((with_reducible refine' xNF ?k1 ?_); (case k1 => rfl))
  | ((with_reducible refine' xNNT ?k1 ?_); (case k1 => rfl))
  | ((with_reducible refine' xNNF ?k1 ?_); (case k1 => rfl))
  | (with_reducible refine sSeq ?_) | (with_reducible refine sAsg ?_) | (with_reducible refine s2 ?_)
  | ((with_reducible refine' sVar ?k1 ?_); (case k1 => rfl))
  | (with_reducible refine sC ?_) | (with_reducible refine sCons ?_) | (with_reducible refine sNil ?_) | (with_reducible refine sN ?_) | (with_reducible refine s1 ?_)
  | ((with_reducible refine' xBind ?k1 ?_); (case k1 => rfl))
  | ((with_reducible refine' sFnE ?k1 ?_); (case k1 => rfl))
  | (with_reducible refine sIfS ?_) | (with_reducible refine sIf ?_) | (with_reducible refine sB ?_) | (with_reducible refine oCmp ?_) | (with_reducible refine xBool ?_) | (with_reducible refine sRet ?_) | (with_reducible refine sTup ?_) | (with_reducible refine sLst ?_)
  | ((with_reducible refine' xDat ?k1 ?k2 ?_); (case k1 => rfl); (case k2 => (exact Nat.le_of_ble_eq_true rfl)))
  | ((with_reducible refine' oIxT ?k1 ?_); (case k1 => rfl)) | ((with_reducible refine' oIxL ?k1 ?_); (case k1 => rfl))
  | (with_reducible refine oAdd ?_) | (with_reducible refine oSub ?_) | (with_reducible refine oNeg ?_) | (with_reducible refine oGcd ?_) | (with_reducible refine oAbs ?_) | (with_reducible refine oInt ?_)
  | (with_reducible refine oLenT ?_) | (with_reducible refine oLenL ?_) | (with_reducible refine oSlT ?_) | (with_reducible refine oSlL ?_) | (with_reducible refine oTupL ?_) | (with_reducible refine oTupT ?_)
  | (with_reducible refine cLt ?_) | (with_reducible refine cLe ?_) | (with_reducible refine cGt ?_) | (with_reducible refine cGe ?_) | (with_reducible refine cIsN (o := .isN) ?_) | (with_reducible refine cNotN ?_) | (with_reducible refine cIsB ?_) | (with_reducible refine cEqI ?_) | (with_reducible refine cNeI ?_)
  | (with_reducible refine sNotT ?_) | (with_reducible refine sAndT ?_) | (with_reducible refine sOrT ?_) | (with_reducible refine sNotV ?_) | (with_reducible refine sAndV ?_) | (with_reducible refine sOrV ?_)
  | (with_reducible refine sSl ?_) | (with_reducible refine sONone ?_) | (with_reducible refine sOSome ?_) | (with_reducible refine xInt ?_) | (with_reducible refine sChn ?_) | (with_reducible refine sPar ?_) | (with_reducible refine xTwo ?_) | (with_reducible refine sIsi ?_) | (with_reducible refine sIsi2 ?_) | (with_reducible refine xD ?_)
  | (with_reducible refine sNext ?_)
  | (with_reducible refine xT ?_) | (with_reducible refine xF ?_))
local macro_rules | `(tactic| fin_places) => `(tactic| (repeat one_item))
def b_by_sorts : List Sm := [(.asg (.nm 1) (.new true)), (.for_ (.nm 2) (.seq (.var 0)) [(.app (.sd (.var 1) (.call 0 (.cons (.ix (.var 2) (.lit (.int 0))) .nil))) (.var 2))]), (.gho 1), (.ret (.var 1))]
theorem fn_by_sorts {g : Gb} (gk : GOk g) (a : At g "by_sorts" 37) (f_sort_of : FOk g 1 "sort_of" sp_sort_of) : FOk g 2 "by_sorts" sp_by_sorts := by
  refine FOk.of (k := 1) (G := [("sort_of", sp_sort_of)]) (N := ["band", "found", "pair"]) (ps := ["band"]) b_by_sorts a gk ⟨List.forall_mem_cons.mpr ⟨f_sort_of.mono (by decide), fun _ h => nomatch h⟩⟩ ⟨rfl, rfl, rfl, by decide +kernel, rfl, by decide +kernel, by decide +kernel⟩ (fun _ _ _ _ _ _ us hl => match us, hl with | [_], _ => rfl) rfl (by decide +kernel) ?_
  intro ws M Q h
  simp only [b_by_sorts, evSs, evS, ev, evA, evT, evTs, evAnd, evOr, evO, evI, Bool.false_eq_true, reduceIte]
  obtain ⟨B, rfl, hl, hq⟩ := h
  fin_places
  intro a ha
  fin_places
  refine sFor (sSeqI ?_)
  fin_places
  refine xSeqT ?_
  rw [List.map_map]
  refine for_inv (fun y : Pr => W.d (Pr.d y)) (fun R δ' M' => ∃ C T x2, B = C ++ R ∧ T.length ≤ C.length ∧ GI M a C T M' ∧ δ' = [some (.d (bD B)), some (.box a), x2]) ?_ ?_ B _ _ ⟨[], [], none, rfl, Nat.le_refl _, ?_, rfl⟩
  · rintro y R δ' M' K ⟨C, T, x2, eB, tl, gi, rfl⟩ hK
    refine ⟨_, rfl, ?_⟩
    fin_places
    refine sApp (sSd ?_)
    fin_places
    refine ⟨a, _, rfl, gi.at_, ?_⟩
    fin_places
    refine cSo ?_
    fin_places
    refine ⟨_, _, gi.at_, rfl, So.key _, ?_, fun l hl0 => ?_⟩
    · rw [List.length_map]
      have := congrArg List.length eB
      rw [List.length_append] at this
      omega
    rw [dfind_key (fun t : So × Addr × List Pr => t.1) (fun t => t.2.1)]
    constructor
    · intro b hb
      obtain ⟨t, ht, rfl⟩ := Option.map_eq_some_iff.mp hb
      have hs := List.find?_some ht
      have hs : t.1 = srt y.1 := of_decide_eq_true hs
      have ht := List.mem_of_find?_eq_some ht
      have ne : t.2.1 ≠ l := fun e => by have := gi.each t ht; rw [e, hl0] at this; cases this
      have at1 : mset M' l (.l []) t.2.1 = some (.l (t.2.2.map Pr.d)) := by rw [mset_ne ne]; exact gi.each t ht
      refine ⟨t.2.1, _, rfl, at1, ?_⟩
      fin_places
      refine ⟨_, _, rfl, at1, ?_, ?_⟩
      · have e1 := (gi.g.eq _ (List.mem_map_of_mem ht)).1
        have e1 : t.2.2 = ofS t.1 C := e1
        have h1 := List.length_filter_le (fun x : Pr => decide (srt x.1 = t.1)) C
        have h2 := congrArg List.length eB
        rw [List.length_append] at h2
        rw [List.length_map, e1]
        unfold ofS
        omega
      · fin_places
        refine hK _ _ ⟨C ++ [y], _, _, by rw [List.append_assoc]; exact eB, ?_, gi.put y l hl0 ht hs, rfl⟩
        unfold putG
        rw [List.length_map, List.length_append]
        omega
    · intro hn
      have hs : srt y.1 ∉ T.map (·.1) := fun h => by
        obtain ⟨t, ht, e⟩ := List.mem_map.mp h
        exact List.find?_eq_none.mp (Option.map_eq_none_iff.mp hn) t ht (decide_eq_true e)
      have ha : l ≠ a := fun e => by have := gi.at_; rw [← e, hl0] at this; cases this
      have at1 : mset (mset M' l (.l [])) a (.g ((T.map fun t => (t.1.d, t.2.1)) ++ [((srt y.1).d, l)])) l = some (.l []) := by rw [mset_ne ha]; exact mset_same
      refine ⟨l, _, rfl, at1, ?_⟩
      fin_places
      refine ⟨_, _, rfl, at1, by decide, ?_⟩
      fin_places
      refine hK _ _ ⟨C ++ [y], _, _, by rw [List.append_assoc]; exact eB, ?_, gi.new y l hl0 hs, rfl⟩
      rw [List.length_append, List.length_append]
      exact Nat.succ_le_succ tl
  · rintro δ' M' ⟨C, T, x2, eB, tl, gi, rfl⟩
    rw [List.append_nil] at eB
    subst eB
    fin_places
    refine ⟨a, rfl, .inr (.inr ⟨_, T.map fun t => t.2.2.map Pr.d, gi.at_, by rw [List.length_map, List.length_map], fun j p z hp hz => ?_, ?_⟩)⟩
    · rw [List.getElem?_map] at hp hz
      obtain ⟨t, ht, rfl⟩ := Option.map_eq_some_iff.mp hp
      obtain ⟨u, hu, rfl⟩ := Option.map_eq_some_iff.mp hz
      rw [ht] at hu
      cases hu
      exact gi.each t (List.mem_of_getElem? ht)
    · have e : ((T.map fun t => (t.1.d, t.2.1)).map (·.1)).zip ((T.map fun t => t.2.2.map Pr.d).map PyData.list) = (T.map fun t => (t.1, t.2.2)).map fun p => (p.1.d, PyData.list (p.2.map Pr.d)) := by
        rw [List.map_map, List.map_map, List.map_map, List.zip_map']
        rfl
      rw [e]
      fin_places
      refine hq _ _ gi.g (by rw [List.length_map]; exact tl) (gi.ext.dels fun c hc => ?_)
      rcases List.mem_cons.mp hc with rfl | hc
      · exact ha
      · rw [List.map_map] at hc
        obtain ⟨t, ht, rfl⟩ := List.mem_map.mp hc
        exact gi.f1 t ht
  · exact ⟨⟨.nil, fun g hg => (nomatch hg), fun x hx => (nomatch hx)⟩, mset_same, fun t ht => (nomatch ht), .nil, fun t ht => (nomatch ht), (Ext.refl M).set ha _, ha, fun t ht => (nomatch ht)⟩
end Sh
set_option maxHeartbeats 1000000
namespace Sh
open PySem PySem.Spec PyProof.Rows L2
/-! ## the motion found, walked -/
def slG (A B : List Pr) : List Rat := match A with
  | [] => []
  | f :: T => slides f (f :: T) B
structure BdOk (b : Nat) (B : List Pr) : Prop where
  len : B.length ≤ 5
  fits : ∀ x ∈ B, Ln.fits b x.1
def hasS (B : List Pr) (s : So) : Prop := ∃ x ∈ B, srt x.1 = s
structure Pick (B O : List Pr) (A : SA) : Prop where
  nd : (A.map (·.1)).Nodup
  st : kSo.Srt (A.map (·.1))
  keys : ∀ s, s ∈ A.map (·.1) ↔ hasS B s
  mem : ∀ c ∈ A, c.2 ∈ slG (ofS c.1 B) (ofS c.1 O)
def SameS (B O : List Pr) : Prop := ∀ s, hasS B s ↔ hasS O s
def NoMo (B O : List Pr) : Prop := SameS B O → ∀ A, Pick B O A → ∀ z, ¬ MoOk A z
abbrev sp_found_motion : DSp := ⟨2, fun ws M Q => ∃ B O : List Pr, ws = [.d (bD B), .d (bD O)] ∧ BdOk 16 B ∧ BdOk 64 O ∧ (∀ z t A M', SameS B O → Pick B O A → MoR A z t → Ext M M' → Q (.d (mo z t)) M') ∧ (∀ M', NoMo B O → Ext M M' → Q (.d .none) M')⟩
theorem cFound {B O : List Pr} {M : MM} {Q : WK} (h1 : BdOk 16 B) (h2 : BdOk 64 O) (q1 : ∀ z t A M', SameS B O → Pick B O A → MoR A z t → Ext M M' → Q (.d (mo z t)) M') (q2 : ∀ M', NoMo B O → Ext M M' → Q (.d .none) M') : [W.d (bD B), .d (bD O)].length = sp_found_motion.n ∧ sp_found_motion.run [.d (bD B), .d (bD O)] M Q := ⟨rfl, B, O, rfl, h1, h2, q1, q2⟩
theorem foldC_mem (lot : So → List Rat) : ∀ (S : List So) (rows : List (List Rat)) (r : List Rat), r ∈ (S.map lot).foldl stepC rows ↔ ∃ r0 ∈ rows, ∃ A : SA, A.map (·.1) = S ∧ r = r0 ++ A.map (·.2) ∧ ∀ c ∈ A, c.2 ∈ lot c.1
  | [], rows, r => by
    constructor
    · intro h
      exact ⟨r, h, [], rfl, by simp, fun c hc => nomatch hc⟩
    · rintro ⟨r0, h0, A, hA, rfl, _⟩
      have hA := List.map_eq_nil_iff.mp hA
      subst hA
      simpa using h0
  | s :: S, rows, r => by
    rw [List.map_cons, List.foldl_cons, foldC_mem lot S]
    constructor
    · rintro ⟨r1, h1, A, hA, rfl, hc⟩
      obtain ⟨r0, h0, h1⟩ := List.mem_flatMap.mp h1
      obtain ⟨p, hp, rfl⟩ := List.mem_map.mp h1
      refine ⟨r0, h0, (s, p) :: A, by rw [List.map_cons, hA], by simp, fun c hc' => ?_⟩
      rcases List.mem_cons.mp hc' with rfl | hc'
      · exact hp
      · exact hc c hc'
    · rintro ⟨r0, h0, A, hA, rfl, hc⟩
      match A, hA, hc with
      | (u, p) :: A, hA, hc =>
        obtain ⟨e1, e2⟩ := List.cons.inj hA
        have e1 : u = s := e1
        subst e1
        refine ⟨r0 ++ [p], List.mem_flatMap.mpr ⟨r0, h0, List.mem_map_of_mem (hc (u, p) List.mem_cons_self)⟩, A, e2, by simp, fun c hc' => hc c (List.mem_cons_of_mem _ hc')⟩
theorem chs_mem (lot : So → List Rat) (S : List So) (r : List Rat) : r ∈ chs (S.map lot) ↔ ∃ A : SA, A.map (·.1) = S ∧ r = A.map (·.2) ∧ ∀ c ∈ A, c.2 ∈ lot c.1 := by
  unfold chs
  rw [foldC_mem]
  constructor
  · rintro ⟨r0, h0, A, h1, h2, h3⟩
    rw [List.mem_singleton.mp h0, List.nil_append] at h2
    exact ⟨A, h1, h2, h3⟩
  · rintro ⟨A, h1, h2, h3⟩
    exact ⟨[], List.mem_singleton.mpr rfl, A, h1, by rw [List.nil_append]; exact h2, h3⟩
theorem GOf.keys {B : List Pr} {G : Gr} (h : GOf B G) (s : So) : s ∈ G.map (·.1) ↔ hasS B s := by
  constructor
  · intro hs
    obtain ⟨g, hg, rfl⟩ := List.mem_map.mp hs
    obtain ⟨e1, e2⟩ := h.eq g hg
    obtain ⟨x, hx⟩ := List.exists_mem_of_ne_nil _ e2
    rw [e1] at hx
    have := List.mem_filter.mp hx
    exact ⟨x, this.1, of_decide_eq_true this.2⟩
  · rintro ⟨x, hx, rfl⟩
    exact h.all x hx
theorem GOf.find {B : List Pr} {G : Gr} (h : GOf B G) {s : So} (hs : s ∈ G.map (·.1)) : dfind (G.map fun p => (p.1.d, PyData.list (p.2.map Pr.d))) s.d = some (.list ((ofS s B).map Pr.d)) := by
  rw [dfind_key (fun p : So × List Pr => p.1) (fun p => PyData.list (p.2.map Pr.d))]
  cases e : G.find? fun p => decide (p.1 = s) with
  | none =>
    obtain ⟨g, hg, eg⟩ := List.mem_map.mp hs
    exact absurd (decide_eq_true eg) (List.find?_eq_none.mp e g hg)
  | some g =>
    have h1 := List.find?_some e
    have h1 : g.1 = s := of_decide_eq_true h1
    have h2 := h.eq g (List.mem_of_find?_eq_some e)
    rw [Option.map_some, h2.1, h1]
theorem ofS_ne {B : List Pr} {s : So} (h : hasS B s) : ∃ f T, ofS s B = f :: T := by
  obtain ⟨x, hx, e⟩ := h
  cases q : ofS s B with
  | nil => exact absurd (decide_eq_true e) (List.filter_eq_nil_iff.mp q x hx)
  | cons f T => exact ⟨f, T, rfl⟩
theorem ofS_len (s : So) (B : List Pr) : (ofS s B).length ≤ B.length := List.length_filter_le _ _
theorem ofS_sub {s : So} {B : List Pr} {x : Pr} (h : x ∈ ofS s B) : x ∈ B ∧ srt x.1 = s := ⟨(List.mem_filter.mp h).1, of_decide_eq_true (List.mem_filter.mp h).2⟩
theorem slG_len (A B : List Pr) : (slG A B).length ≤ B.length := by
  unfold slG
  split
  · exact Nat.zero_le _
  · unfold slides
    rw [List.length_map]
    exact List.length_filter_le _ _
theorem slG_sz {A B : List Pr} {a b : Nat} (hA : ∀ x ∈ A, Ln.fits a x.1) (hB : ∀ x ∈ B, Ln.fits b x.1) {p : Rat} (h : p ∈ slG A B) : sz p ≤ b + a + 1 := by
  unfold slG at h
  split at h
  · cases h
  · rename_i f T
    obtain ⟨y, hy, rfl⟩ := List.mem_map.mp h
    have h1 := plc_sz (hB y (List.mem_filter.mp hy).1)
    have h2 := plc_sz (hA f List.mem_cons_self)
    have := sz_sub (plc y.1) (plc f.1)
    unfold slp
    omega
theorem Pick.ok {B O : List Pr} {A : SA} (h : Pick B O A) (h1 : BdOk 16 B) (h2 : BdOk 64 O) (hl : A.length ≤ 5) : SAok A where
  len := hl
  nd := h.nd
  n0 := fun l p hc => by
    obtain ⟨x, hx, e⟩ := (h.keys (.lead l)).mp (List.mem_map.mpr ⟨_, hc, rfl⟩)
    have hf := h1.fits x hx
    rcases x with ⟨_ | _ | ⟨m, q⟩, n⟩
    · cases e
    · cases e
    · cases e
      exact ⟨hf.1, hf.2.1⟩
  z := fun c hc => by
    have := slG_sz (a := 16) (b := 64) (fun x hx => h1.fits x (ofS_sub hx).1) (fun x hx => h2.fits x (ofS_sub hx).1) (h.mem c hc)
    omega
theorem lev_so (L : List So) : lev 30 (.list (L.map So.d)) := fun y hy => by
  obtain ⟨x, _, rfl⟩ := List.mem_map.mp hy
  exact So.lev' 27 x
theorem eqv_so (A B : List So) : PyData.eqv (.list (A.map So.d)) (.list (B.map So.d)) = decide (A = B) := by
  have e := kSo.eqvs A B
  have : PyData.eqv (.list (A.map So.d)) (.list (B.map So.d)) = PyData.eqvAll (A.map So.d) (B.map So.d) := by rw [PyData.eqv]
  rw [this]
  exact e
theorem grKeys (G : Gr) : (G.map fun p => (p.1.d, PyData.list (p.2.map Pr.d))).map (·.1) = (G.map (·.1)).map So.d := by
  rw [List.map_map, List.map_map]
  rfl
theorem pair_ext {α β : Type} : ∀ {A B : List (α × β)}, A.map (·.1) = B.map (·.1) → A.map (·.2) = B.map (·.2) → A = B
  | [], [], _, _ => rfl
  | [], b :: B, h, _ => by cases h
  | a :: A, [], h, _ => by cases h
  | a :: A, b :: B, h1, h2 => by
    have h1 := List.cons.inj h1
    have h2 := List.cons.inj h2
    rw [pair_ext h1.2 h2.2, Prod.ext h1.1 h2.1]
local macro_rules | `(tactic| one_item) => `(tactic| first
  | ((with_reducible refine' cEqS ?k1 ?_); (case k1 => exact ⟨by decide +kernel, by decide +kernel⟩); (try simp only [tRR, tRF, tRL, tFR, tFF, tFL, tLR, tLF, tLL, decide_true, decide_false, Bool.not_true, Bool.not_false]))
  | ((with_reducible refine' cNeS ?k1 ?_); (case k1 => exact ⟨by decide +kernel, by decide +kernel⟩); (try simp only [tRR, tRF, tRL, tFR, tFF, tFL, tLR, tLF, tLL, decide_true, decide_false, Bool.not_true, Bool.not_false]))
  | (with_reducible refine sFnR ?_)
  | (with_reducible refine xTrue ?_)
  | (with_reducible refine xFalse ?_)
  | ((with_reducible refine' xNT ?k1 ?_); (case k1 => rfl))
  | ((with_reducible refine' xNF ?k1 ?_); (case k1 => rfl))
  | ((with_reducible refine' xNNT ?k1 ?_); (case k1 => rfl))
  | ((with_reducible refine' xNNF ?k1 ?_); (case k1 => rfl))
  | (with_reducible refine sSeq ?_) | (with_reducible refine sAsg ?_) | (with_reducible refine s2 ?_)
  | ((with_reducible refine' sVar ?k1 ?_); (case k1 => rfl))
  | (with_reducible refine sC ?_) | (with_reducible refine sCons ?_) | (with_reducible refine sNil ?_) | (with_reducible refine sN ?_) | (with_reducible refine s1 ?_)
  | ((with_reducible refine' xBind ?k1 ?_); (case k1 => rfl))
  | ((with_reducible refine' sFnE ?k1 ?_); (case k1 => rfl))
  | (with_reducible refine sIfS ?_) | (with_reducible refine sIf ?_) | (with_reducible refine sB ?_) | (with_reducible refine oCmp ?_) | (with_reducible refine xBool ?_) | (with_reducible refine sRet ?_) | (with_reducible refine sTup ?_) | (with_reducible refine sLst ?_)
  | ((with_reducible refine' xDat ?k1 ?k2 ?_); (case k1 => rfl); (case k2 => (exact Nat.le_of_ble_eq_true rfl)))
  | ((with_reducible refine' oIxT ?k1 ?_); (case k1 => rfl)) | ((with_reducible refine' oIxL ?k1 ?_); (case k1 => rfl))
  | (with_reducible refine oAdd ?_) | (with_reducible refine oSub ?_) | (with_reducible refine oNeg ?_) | (with_reducible refine oGcd ?_) | (with_reducible refine oAbs ?_) | (with_reducible refine oInt ?_)
  | (with_reducible refine oLenT ?_) | (with_reducible refine oLenL ?_) | (with_reducible refine oSlT ?_) | (with_reducible refine oSlL ?_) | (with_reducible refine oTupL ?_) | (with_reducible refine oTupT ?_)
  | (with_reducible refine cLt ?_) | (with_reducible refine cLe ?_) | (with_reducible refine cGt ?_) | (with_reducible refine cGe ?_) | (with_reducible refine cIsN (o := .isN) ?_) | (with_reducible refine cNotN ?_) | (with_reducible refine cIsB ?_) | (with_reducible refine cEqI ?_) | (with_reducible refine cNeI ?_)
  | (with_reducible refine sNotT ?_) | (with_reducible refine sAndT ?_) | (with_reducible refine sOrT ?_) | (with_reducible refine sNotV ?_) | (with_reducible refine sAndV ?_) | (with_reducible refine sOrV ?_)
  | (with_reducible refine sSl ?_) | (with_reducible refine sONone ?_) | (with_reducible refine sOSome ?_) | (with_reducible refine xInt ?_) | (with_reducible refine sChn ?_) | (with_reducible refine sPar ?_) | (with_reducible refine xTwo ?_) | (with_reducible refine sIsi ?_) | (with_reducible refine sIsi2 ?_) | (with_reducible refine xD ?_)
  | (with_reducible refine sNext ?_)
  | (with_reducible refine xT ?_) | (with_reducible refine xF ?_))
local macro_rules | `(tactic| fin_places) => `(tactic| (repeat one_item))
def b_found_motion : List Sm := [(.par2 2 3 (.call 0 (.cons (.var 0) .nil)) (.call 0 (.cons (.var 1) .nil))), (.asg (.nm 4) (.blx .sorted (.cons (.var 2) .nil))), (.ife (.cmp .ne (.var 4) (.blx .sorted (.cons (.var 3) .nil))) [(.ret (.lit .none))] []), (.asg (.nm 5) (.lc (.call 1 (.cons (.ix (.var 2) (.var 6)) (.cons (.ix (.var 3) (.var 6)) .nil))) (.nm 6) (.seq (.var 4)) .yes [6])), (.for_ (.nm 7) (.seq (.call 2 (.cons (.var 5) .nil))) [(.asg (.nm 8) (.call 3 (.cons (.var 4) (.cons (.var 7) .nil)))), (.ife (.cmp .notN (.var 8) (.lit .none)) [(.ret (.var 8))] [])]), (.ret (.lit .none))]
theorem fn_found_motion {g : Gb} (gk : GOk g) (a : At g "found_motion" 47) (f_by_sorts : FOk g 2 "by_sorts" sp_by_sorts) (f_slides_for : FOk g 6 "slides_for" sp_slides_for) (f_one_of_each : FOk g 1 "one_of_each" sp_one_of_each) (f_motion_by : FOk g 6 "motion_by" sp_motion_by) : FOk g 7 "found_motion" sp_found_motion := by
  refine FOk.of (k := 6) (G := [("by_sorts", sp_by_sorts), ("slides_for", sp_slides_for), ("one_of_each", sp_one_of_each), ("motion_by", sp_motion_by)]) (N := ["band", "other", "near", "far", "sorts", "lots", "sort", "parts", "motion"]) (ps := ["band", "other"]) b_found_motion a gk ⟨List.forall_mem_cons.mpr ⟨f_by_sorts.mono (by decide), List.forall_mem_cons.mpr ⟨f_slides_for.mono (by decide), List.forall_mem_cons.mpr ⟨f_one_of_each.mono (by decide), List.forall_mem_cons.mpr ⟨f_motion_by.mono (by decide), fun _ h => nomatch h⟩⟩⟩⟩⟩ ⟨rfl, rfl, rfl, by decide +kernel, rfl, by decide +kernel, by decide +kernel⟩ (fun _ _ _ _ _ _ us hl => match us, hl with | [_, _], _ => rfl) rfl (by decide +kernel) ?_
  intro ws M Q h
  simp only [b_found_motion, evSs, evS, ev, evA, evT, evTs, evAnd, evOr, evO, evI, Bool.false_eq_true, reduceIte]
  obtain ⟨B, O, rfl, h1, h2, q1, q2⟩ := h
  fin_places
  refine cBySorts (by have := h1.len; omega) (fun G1 M1 g1 l1 e1 => ?_)
  fin_places
  refine cBySorts (by have := h2.len; omega) (fun G2 M2 g2 l2 e2 => ?_)
  have e12 := e1.trans e2
  have k1 := h1.len
  have k2 := h2.len
  obtain ⟨S1, p1, s1, q3⟩ := kSo.sorted (G1.map (·.1))
  obtain ⟨S2, p2, s2, q4⟩ := kSo.sorted (G2.map (·.1))
  have q3 : sortD ((G1.map (·.1)).map So.d) = S1.map So.d := q3
  have q4 : sortD ((G2.map (·.1)).map So.d) = S2.map So.d := q4
  have m1 : ∀ s, s ∈ S1 ↔ hasS B s := fun s => (p1.mem_iff).trans (g1.keys s)
  have m2 : ∀ s, s ∈ S2 ↔ hasS O s := fun s => (p2.mem_iff).trans (g2.keys s)
  have n1 : S1.Nodup := p1.nodup_iff.mpr g1.nd
  have n2 : S2.Nodup := p2.nodup_iff.mpr g2.nd
  have z1 : S1.length ≤ 5 := by have := p1.length_eq; rw [List.length_map] at this; omega
  fin_places
  refine ⟨by rw [grKeys]; exact kSo.sortOk _, ?_⟩
  rw [grKeys, q3]
  fin_places
  refine ⟨by rw [grKeys]; exact kSo.sortOk _, ?_⟩
  rw [grKeys, q4]
  fin_places
  refine cNe ⟨lev_so _, lev_so _⟩ ?_
  rw [eqv_so]
  fin_places
  refine xIfN (fun hn => ?_) (fun hs => ?_)
  · fin_places
    refine q2 _ (fun hS => absurd ?_ hn) e12
    refine kSo.uniq s1 s2 ((List.perm_ext_iff_of_nodup n1 n2).mpr fun s => (m1 s).trans ((hS s).trans (m2 s).symm))
  subst hs
  have hS : SameS B O := fun s => (m1 s).symm.trans (m2 s)
  have pk : ∀ A : SA, Pick B O A ↔ A.map (·.1) = S1 ∧ ∀ c ∈ A, c.2 ∈ slG (ofS c.1 B) (ofS c.1 O) := fun A => by
    constructor
    · intro h
      exact ⟨kSo.uniq h.st s1 ((List.perm_ext_iff_of_nodup h.nd n1).mpr fun s => (h.keys s).trans (m1 s).symm), h.mem⟩
    · rintro ⟨rfl, h⟩
      exact ⟨n1, s1, m1, h⟩
  fin_places
  refine sLc (sSeqI ?_)
  fin_places
  refine xSeqL ⟨by rw [List.length_map, List.length_map]; omega, ?_⟩
  rw [List.map_map]
  refine lc_map (fun s : So => W.d s.d) (fun s => lotD (slG (ofS s B) (ofS s O))) _ S1 (fun c _ => rfl) (fun s hs Q' q => ?_) ?_
  · fin_places
    refine ⟨_, _, rfl, So.key s, g1.find ((g1.keys s).mpr ((m1 s).mp hs)), ?_⟩
    fin_places
    refine ⟨_, _, rfl, So.key s, g2.find ((g2.keys s).mpr ((m2 s).mp hs)), ?_⟩
    fin_places
    obtain ⟨f, T, eT⟩ := ofS_ne ((m1 s).mp hs)
    rw [eT] at q ⊢
    have b1 := ofS_len s B
    have b2 := ofS_len s O
    rw [eT, List.length_cons] at b1
    refine ⟨rfl, f, T, ofS s O, rfl, by omega, by omega, fun x hx => (h1.fits x (ofS_sub (by rw [eT]; exact hx)).1).mono (by decide), fun x hx => (h2.fits x (ofS_sub hx).1).mono (by decide), ?_⟩
    exact q
  fin_places
  refine sFor (sSeqI ?_)
  fin_places
  refine ⟨rfl, S1.map fun s => slG (ofS s B) (ofS s O), by rw [List.map_map]; rfl, by rw [List.length_map]; omega, fun l hl => ?_, ?_⟩
  · obtain ⟨s, _, rfl⟩ := List.mem_map.mp hl
    have b1 := slG_len (ofS s B) (ofS s O)
    have b2 := ofS_len s O
    omega
  fin_places
  refine xSeqL ?_
  rw [List.map_map]
  refine for_inv (fun r : List Rat => W.d (rowD r)) (fun R δ' M' => ∃ C x6 x7 x8, chs (S1.map fun s => slG (ofS s B) (ofS s O)) = C ++ R ∧ M' = M2 ∧ (∀ A : SA, Pick B O A → A.map (·.2) ∈ C → ∀ z, ¬ MoOk A z) ∧ δ' = [some (.d (bD B)), some (.d (bD O)), some (grD G1), some (grD G2), some (.d (.list (S1.map So.d))), some (.d (.list (S1.map fun s => lotD (slG (ofS s B) (ofS s O))))), x6, x7, x8]) ?_ ?_ _ _ _ ⟨[], none, none, none, rfl, rfl, fun A _ h => (nomatch h), rfl⟩
  · rintro r R δ' M' K ⟨C, x6, x7, x8, eC, rfl, hC, rfl⟩ hK
    refine ⟨_, rfl, ?_⟩
    have hr : r ∈ chs (S1.map fun s => slG (ofS s B) (ofS s O)) := by rw [eC]; exact List.mem_append_right _ List.mem_cons_self
    obtain ⟨A, a1, rfl, a3⟩ := (chs_mem _ _ _).mp hr
    have pA : Pick B O A := (pk A).mpr ⟨a1, a3⟩
    have ok := pA.ok h1 h2 (by have := congrArg List.length a1; rw [List.length_map] at this; omega)
    fin_places
    have e5 : S1.map So.d = A.map fun p => p.1.d := by rw [← a1, List.map_map]; rfl
    rw [e5, show rowD (A.map (·.2)) = .tuple (A.map fun p => fr p.2) from by unfold rowD; rw [List.map_map]; rfl]
    refine cMotion ok (fun z t mr => ?_) (fun hn => ?_)
    · fin_places
      exact q1 z t A _ hS pA mr e12
    · fin_places
      refine hK _ _ ⟨C ++ [A.map (·.2)], x6, some (.d (.tuple (A.map fun p => fr p.2))), some (.d .none), by rw [List.append_assoc]; exact eC, rfl, fun A' pA' hm => ?_, ?_⟩
      · rcases List.mem_append.mp hm with hm | hm
        · exact hC A' pA' hm
        · have e := List.mem_singleton.mp hm
          have : A' = A := by
            have e3 : A'.map (·.1) = A.map (·.1) := (((pk A').mp pA').1).trans a1.symm
            exact pair_ext e3 e
          rw [this]
          exact hn
      · rw [e5]
        rfl
  · rintro δ' M' ⟨C, x6, x7, x8, eC, rfl, hC, rfl⟩
    rw [List.append_nil] at eC
    fin_places
    exact q2 _ (fun _ A pA => hC A pA (by rw [← eC]; exact (chs_mem _ _ _).mpr ⟨A, ((pk A).mp pA).1, rfl, ((pk A).mp pA).2⟩)) e12
end Sh
set_option maxHeartbeats 1000000
namespace Sh
open PySem PySem.Spec PyProof.Rows L2
/-! ## alike, between, walked -/
def Solv (B O : List Pr) : Prop := SameS B O ∧ ∃ A z, Pick B O A ∧ MoOk A z
theorem noMo_iff {B O : List Pr} : NoMo B O ↔ ¬ Solv B O := ⟨fun h ⟨hs, A, z, p, m⟩ => h hs A p z m, fun h hs A p z m => h ⟨hs, A, z, p, m⟩⟩
/-- a band as it is handed in: tuples or lists -/
structure Hand (d : PyData) (B : List Pr) : Prop where
  dep : dep 7 d
  tup : tupD d = bD B
abbrev sp_alike_bands : DSp := ⟨2, fun ws M Q => ∃ d1 d2 B O, ws = [.d d1, .d d2] ∧ Hand d1 B ∧ Hand d2 O ∧ BdOk 16 B ∧ BdOk 64 O ∧ ∀ b M', (b = true ↔ Solv B O) → Ext M M' → Q (.d (.bool b)) M'⟩
theorem cAlike {d1 d2 : PyData} {B O : List Pr} {M : MM} {Q : WK} (h1 : Hand d1 B) (h2 : Hand d2 O) (h3 : BdOk 16 B) (h4 : BdOk 64 O) (q : ∀ b M', (b = true ↔ Solv B O) → Ext M M' → Q (.d (.bool b)) M') : [W.d d1, .d d2].length = sp_alike_bands.n ∧ sp_alike_bands.run [.d d1, .d d2] M Q := ⟨rfl, d1, d2, B, O, rfl, h1, h2, h3, h4, q⟩
theorem SetOf.uniq {L A B : List Pr} (h1 : SetOf L A) (h2 : SetOf L B) : A = B := kPr.uniq h1.1 h2.1 ((List.perm_ext_iff_of_nodup h1.2.1 h2.2.1).mpr fun x => (h1.2.2 x).trans (h2.2.2 x).symm)
/-- what is asked of a thing -/
inductive Thing where
  | mo (z t : Rat)
  | no (d : PyData) (h : isC .tuple d = false)
def Thing.d : Thing → PyData
  | .mo z t => Sh.mo z t
  | .no d _ => d
def Thing.ok : Thing → Prop
  | .mo z t => sz z ≤ 1600 ∧ sz t ≤ 1600
  | .no _ _ => True
def leadsS (B O : List Pr) : Thing → Prop
  | .mo z t => isAn t = true ∧ SetOf (B.map (mvP z t)) O
  | .no _ _ => False
abbrev sp_is_motion_between : DSp := ⟨3, fun ws M Q => ∃ d1 d2 B O x, ws = [.d d1, .d d2, .d (Thing.d x)] ∧ Hand d1 B ∧ Hand d2 O ∧ B.length < 64 ∧ (∀ x ∈ B, Ln.fits 400 x.1) ∧ x.ok ∧ ∀ b, (b = true ↔ leadsS B O x) → Q (.d (.bool b)) M⟩
theorem cBetween {d1 d2 : PyData} {B O : List Pr} {x : Thing} {M : MM} {Q : WK} (h1 : Hand d1 B) (h2 : Hand d2 O) (h3 : B.length < 64) (h4 : ∀ x ∈ B, Ln.fits 400 x.1) (h5 : x.ok) (q : ∀ b, (b = true ↔ leadsS B O x) → Q (.d (.bool b)) M) : [W.d d1, .d d2, .d x.d].length = sp_is_motion_between.n ∧ sp_is_motion_between.run [.d d1, .d d2, .d x.d] M Q := ⟨rfl, d1, d2, B, O, x, rfl, h1, h2, h3, h4, h5, q⟩
abbrev sp_is_mirror_between : DSp := ⟨3, fun ws M Q => ∃ d1 d2 B O x, ws = [.d d1, .d d2, .d (Thing.d x)] ∧ Hand d1 B ∧ Hand d2 O ∧ B.length < 64 ∧ (∀ x ∈ B, Ln.fits 400 x.1) ∧ x.ok ∧ ∀ b B', SetOf (B.map mirP) B' → (b = true ↔ leadsS B' O x) → Q (.d (.bool b)) M⟩
def dedup : List Pr → List Pr
  | [] => []
  | x :: L => if x ∈ dedup L then dedup L else x :: dedup L
theorem dedup_mem : ∀ (L : List Pr) (x : Pr), x ∈ dedup L ↔ x ∈ L
  | [], x => Iff.rfl
  | y :: L, x => by
    unfold dedup
    by_cases h : y ∈ dedup L
    · rw [if_pos h, dedup_mem L x, List.mem_cons]
      exact ⟨.inr, fun e => e.elim (fun e => by rw [e]; exact (dedup_mem L y).mp h) id⟩
    · rw [if_neg h, List.mem_cons, List.mem_cons, dedup_mem L x]
theorem dedup_nodup : ∀ L : List Pr, (dedup L).Nodup
  | [] => .nil
  | y :: L => by
    unfold dedup
    by_cases h : y ∈ dedup L
    · rw [if_pos h]; exact dedup_nodup L
    · rw [if_neg h]; exact List.nodup_cons.mpr ⟨h, dedup_nodup L⟩
theorem nodup_len {α : Type} [DecidableEq α] : ∀ {A B : List α}, A.Nodup → (∀ x ∈ A, x ∈ B) → A.length ≤ B.length
  | [], _, _, _ => Nat.zero_le _
  | a :: A, B, h, hs => by
    have h := List.nodup_cons.mp h
    have ha := hs a List.mem_cons_self
    have := nodup_len (B := B.erase a) h.2 fun x hx => (List.mem_erase_of_ne (fun e => h.1 (by rw [← e]; exact hx))).mpr (hs x (List.mem_cons_of_mem _ hx))
    rw [List.length_erase_of_mem ha] at this
    have := List.length_pos_of_mem ha
    rw [List.length_cons]
    omega
theorem sz_ang (x : Rat) : sz (ang x) ≤ sz x := sz_divInt (by have := one_den x; omega) (fmod_ang x) (by rw [Int.natAbs_natCast]; exact sz_den x)
theorem mir_fits {b : Nat} {x : Ln} (h : x.fits b) (hb : 0 < b) : (mirL x).fits b := by
  cases x with
  | ring q => exact h
  | flute q =>
    have h : sz q ≤ b := h
    have := sz_ang (-q)
    rw [sz_neg] at this
    exact Nat.le_trans this h
  | lead l p => exact ⟨fun e => h.1 (by grind), by rw [sz_neg]; exact h.2.1, h.2.2⟩
theorem SetOf.len {B B' : List Pr} (h : SetOf (B.map mirP) B') (hl : B.length < 64) : B'.length < 64 := by
  have := nodup_len h.2.1 fun x hx => (h.2.2 x).mp hx
  rw [List.length_map] at this
  omega
theorem SetOf.fits {b : Nat} {B B' : List Pr} (h : SetOf (B.map mirP) B') (hf : ∀ x ∈ B, Ln.fits (b + 1) x.1) : ∀ x ∈ B', Ln.fits (b + 1) x.1 := fun x hx => by
  obtain ⟨y, hy, rfl⟩ := List.mem_map.mp ((h.2.2 x).mp hx)
  exact mir_fits (hf y hy) (Nat.succ_pos _)
local macro_rules | `(tactic| one_item) => `(tactic| first
  | ((with_reducible refine' cEqS ?k1 ?_); (case k1 => exact ⟨by decide +kernel, by decide +kernel⟩); (try simp only [tRR, tRF, tRL, tFR, tFF, tFL, tLR, tLF, tLL, decide_true, decide_false, Bool.not_true, Bool.not_false]))
  | ((with_reducible refine' cNeS ?k1 ?_); (case k1 => exact ⟨by decide +kernel, by decide +kernel⟩); (try simp only [tRR, tRF, tRL, tFR, tFF, tFL, tLR, tLF, tLL, decide_true, decide_false, Bool.not_true, Bool.not_false]))
  | (with_reducible refine sFnR ?_)
  | (with_reducible refine xTrue ?_)
  | (with_reducible refine xFalse ?_)
  | ((with_reducible refine' xNT ?k1 ?_); (case k1 => rfl))
  | ((with_reducible refine' xNF ?k1 ?_); (case k1 => rfl))
  | ((with_reducible refine' xNNT ?k1 ?_); (case k1 => rfl))
  | ((with_reducible refine' xNNF ?k1 ?_); (case k1 => rfl))
  | (with_reducible refine sSeq ?_) | (with_reducible refine sAsg ?_) | (with_reducible refine s2 ?_)
  | ((with_reducible refine' sVar ?k1 ?_); (case k1 => rfl))
  | (with_reducible refine sC ?_) | (with_reducible refine sCons ?_) | (with_reducible refine sNil ?_) | (with_reducible refine sN ?_) | (with_reducible refine s1 ?_)
  | ((with_reducible refine' xBind ?k1 ?_); (case k1 => rfl))
  | ((with_reducible refine' sFnE ?k1 ?_); (case k1 => rfl))
  | (with_reducible refine sIfS ?_) | (with_reducible refine sIf ?_) | (with_reducible refine sB ?_) | (with_reducible refine oCmp ?_) | (with_reducible refine xBool ?_) | (with_reducible refine sRet ?_) | (with_reducible refine sTup ?_) | (with_reducible refine sLst ?_)
  | ((with_reducible refine' xDat ?k1 ?k2 ?_); (case k1 => rfl); (case k2 => (exact Nat.le_of_ble_eq_true rfl)))
  | ((with_reducible refine' oIxT ?k1 ?_); (case k1 => rfl)) | ((with_reducible refine' oIxL ?k1 ?_); (case k1 => rfl))
  | (with_reducible refine oAdd ?_) | (with_reducible refine oSub ?_) | (with_reducible refine oNeg ?_) | (with_reducible refine oGcd ?_) | (with_reducible refine oAbs ?_) | (with_reducible refine oInt ?_)
  | (with_reducible refine oLenT ?_) | (with_reducible refine oLenL ?_) | (with_reducible refine oSlT ?_) | (with_reducible refine oSlL ?_) | (with_reducible refine oTupL ?_) | (with_reducible refine oTupT ?_)
  | (with_reducible refine cLt ?_) | (with_reducible refine cLe ?_) | (with_reducible refine cGt ?_) | (with_reducible refine cGe ?_) | (with_reducible refine cIsN (o := .isN) ?_) | (with_reducible refine cNotN ?_) | (with_reducible refine cIsB ?_) | (with_reducible refine cEqI ?_) | (with_reducible refine cNeI ?_)
  | (with_reducible refine sNotT ?_) | (with_reducible refine sAndT ?_) | (with_reducible refine sOrT ?_) | (with_reducible refine sNotV ?_) | (with_reducible refine sAndV ?_) | (with_reducible refine sOrV ?_)
  | (with_reducible refine sSl ?_) | (with_reducible refine sONone ?_) | (with_reducible refine sOSome ?_) | (with_reducible refine xInt ?_) | (with_reducible refine sChn ?_) | (with_reducible refine sPar ?_) | (with_reducible refine xTwo ?_) | (with_reducible refine sIsi ?_) | (with_reducible refine sIsi2 ?_) | (with_reducible refine xD ?_)
  | (with_reducible refine sNext ?_)
  | (with_reducible refine xT ?_) | (with_reducible refine xF ?_))
local macro_rules | `(tactic| fin_places) => `(tactic| (repeat one_item))
def b_alike_bands : List Sm := [(.ret (.cmp .notN (.call 0 (.cons (.call 1 (.cons (.var 0) .nil)) (.cons (.call 1 (.cons (.var 1) .nil)) .nil))) (.lit .none)))]
theorem fn_alike_bands {g : Gb} (gk : GOk g) (a : At g "alike_bands" 49) (f_found_motion : FOk g 7 "found_motion" sp_found_motion) (f_tupled : FOk g 8 "tupled" sp_tupled) : FOk g 9 "alike_bands" sp_alike_bands := by
  refine FOk.of (k := 8) (G := [("found_motion", sp_found_motion), ("tupled", sp_tupled)]) (N := ["band", "other"]) (ps := ["band", "other"]) b_alike_bands a gk ⟨List.forall_mem_cons.mpr ⟨f_found_motion.mono (by decide), List.forall_mem_cons.mpr ⟨f_tupled.mono (by decide), fun _ h => nomatch h⟩⟩⟩ ⟨rfl, rfl, rfl, by decide +kernel, rfl, by decide +kernel, by decide +kernel⟩ (fun _ _ _ _ _ _ us hl => match us, hl with | [_, _], _ => rfl) rfl (by decide +kernel) ?_
  intro ws M Q h
  simp only [b_alike_bands, evSs, evS, ev, evA, evT, evTs, evAnd, evOr, evO, evI, Bool.false_eq_true, reduceIte]
  obtain ⟨d1, d2, B, O, rfl, ⟨p1, t1⟩, ⟨p2, t2⟩, h3, h4, hq⟩ := h
  fin_places
  refine cTup p1 ?_
  rw [t1]
  fin_places
  refine cTup p2 ?_
  rw [t2]
  fin_places
  refine cFound h3 h4 (fun z t A M' hS hp hm he => ?_) (fun M' hn he => ?_)
  · fin_places
    try exact hq true M' ⟨fun _ => ⟨hS, A, z, hp, hm.ok⟩, fun _ => rfl⟩ he
  · fin_places
    try exact hq false M' ⟨fun e => (nomatch e), fun e => absurd e (noMo_iff.mp hn)⟩ he
def b_is_motion_between : List Sm := [(.ret (.and_ (.cons (.call 0 (.cons (.var 2) .nil)) (.cons (.cmp .eq (.call 1 (.cons (.call 2 (.cons (.var 0) .nil)) (.cons (.var 2) .nil))) (.call 2 (.cons (.var 1) .nil))) .nil))))]
theorem fn_is_motion_between {g : Gb} (gk : GOk g) (a : At g "is_motion_between" 52) (f_is_motion_shape : FOk g 5 "is_motion_shape" sp_is_motion_shape) (f_band_moved : FOk g 10 "band_moved" sp_band_moved) (f_tupled : FOk g 8 "tupled" sp_tupled) : FOk g 11 "is_motion_between" sp_is_motion_between := by
  refine FOk.of (k := 10) (G := [("is_motion_shape", sp_is_motion_shape), ("band_moved", sp_band_moved), ("tupled", sp_tupled)]) (N := ["band", "other", "thing"]) (ps := ["band", "other", "thing"]) b_is_motion_between a gk ⟨List.forall_mem_cons.mpr ⟨f_is_motion_shape.mono (by decide), List.forall_mem_cons.mpr ⟨f_band_moved.mono (by decide), List.forall_mem_cons.mpr ⟨f_tupled.mono (by decide), fun _ h => nomatch h⟩⟩⟩⟩ ⟨rfl, rfl, rfl, by decide +kernel, rfl, by decide +kernel, by decide +kernel⟩ (fun _ _ _ _ _ _ us hl => match us, hl with | [_, _, _], _ => rfl) rfl (by decide +kernel) ?_
  intro ws M Q h
  simp only [b_is_motion_between, evSs, evS, ev, evA, evT, evTs, evAnd, evOr, evO, evI, Bool.false_eq_true, reduceIte]
  obtain ⟨d1, d2, B, O, x, rfl, ⟨p1, t1⟩, ⟨p2, t2⟩, h3, h4, h5, hq⟩ := h
  cases x with
  | no d hd =>
    fin_places
    refine cPtNo hd ?_
    fin_places
    try exact hq false ⟨fun e => (nomatch e), fun e => e.elim⟩
  | mo z t =>
    have z5 := h5.2
    fin_places
    refine cPt (by omega) ?_
    fin_places
    cases ha : isAn t with
    | false =>
      fin_places
      try exact hq false ⟨fun e => (nomatch e), fun e => by have e1 := e.1; rw [ha] at e1; cases e1⟩
    | true =>
      fin_places
      refine cTup p1 ?_
      rw [t1]
      fin_places
      refine ⟨rfl, B, z, t, rfl, h3, h4, h5.1, h5.2, fun L' hL => ?_⟩
      fin_places
      refine cTup p2 ?_
      rw [t2]
      fin_places
      refine cEq ⟨lev_bd _, lev_bd _⟩ ?_
      rw [eqv_bd]
      exact hq _ ⟨fun e => ⟨ha, by rw [← of_decide_eq_true e]; exact hL⟩, fun e => decide_eq_true (hL.uniq e.2)⟩
theorem SetOf.exists (L : List Pr) : ∃ L', SetOf L L' := by
  have nd : (dedup L).Nodup := dedup_nodup L
  obtain ⟨L', p, st, _⟩ := kPr.sorted (dedup L)
  exact ⟨L', st, p.nodup_iff.mpr nd, fun x => p.mem_iff.trans (dedup_mem L x)⟩
def b_is_mirror_between : List Sm := [(.ret (.and_ (.cons (.call 0 (.cons (.var 2) .nil)) (.cons (.cmp .eq (.call 1 (.cons (.call 2 (.cons (.call 3 (.cons (.var 0) .nil)) .nil)) (.cons (.var 2) .nil))) (.call 3 (.cons (.var 1) .nil))) .nil))))]
theorem fn_is_mirror_between {g : Gb} (gk : GOk g) (a : At g "is_mirror_between" 54) (f_is_motion_shape : FOk g 5 "is_motion_shape" sp_is_motion_shape) (f_band_moved : FOk g 10 "band_moved" sp_band_moved) (f_mirrored_band : FOk g 10 "mirrored_band" sp_mirrored_band) (f_tupled : FOk g 8 "tupled" sp_tupled) : FOk g 11 "is_mirror_between" sp_is_mirror_between := by
  refine FOk.of (k := 10) (G := [("is_motion_shape", sp_is_motion_shape), ("band_moved", sp_band_moved), ("mirrored_band", sp_mirrored_band), ("tupled", sp_tupled)]) (N := ["band", "other", "thing"]) (ps := ["band", "other", "thing"]) b_is_mirror_between a gk ⟨List.forall_mem_cons.mpr ⟨f_is_motion_shape.mono (by decide), List.forall_mem_cons.mpr ⟨f_band_moved.mono (by decide), List.forall_mem_cons.mpr ⟨f_mirrored_band.mono (by decide), List.forall_mem_cons.mpr ⟨f_tupled.mono (by decide), fun _ h => nomatch h⟩⟩⟩⟩⟩ ⟨rfl, rfl, rfl, by decide +kernel, rfl, by decide +kernel, by decide +kernel⟩ (fun _ _ _ _ _ _ us hl => match us, hl with | [_, _, _], _ => rfl) rfl (by decide +kernel) ?_
  intro ws M Q h
  simp only [b_is_mirror_between, evSs, evS, ev, evA, evT, evTs, evAnd, evOr, evO, evI, Bool.false_eq_true, reduceIte]
  obtain ⟨d1, d2, B, O, x, rfl, ⟨p1, t1⟩, ⟨p2, t2⟩, h3, h4, h5, hq⟩ := h
  obtain ⟨B', hB⟩ := SetOf.exists (B.map mirP)
  cases x with
  | no d hd =>
    fin_places
    refine cPtNo hd ?_
    fin_places
    try exact hq false B' hB ⟨fun e => (nomatch e), fun e => e.elim⟩
  | mo z t =>
    have z5 := h5.2
    fin_places
    refine cPt (by omega) ?_
    fin_places
    cases ha : isAn t with
    | false =>
      fin_places
      try exact hq false B' hB ⟨fun e => (nomatch e), fun e => by have e1 := e.1; rw [ha] at e1; cases e1⟩
    | true =>
      fin_places
      refine cTup p1 ?_
      rw [t1]
      fin_places
      refine ⟨rfl, B, rfl, h3, fun B2 hB2 => ?_⟩
      obtain rfl := hB.uniq hB2
      fin_places
      refine ⟨rfl, B', z, t, rfl, hB.len h3, hB.fits h4, h5.1, h5.2, fun L' hL => ?_⟩
      fin_places
      refine cTup p2 ?_
      rw [t2]
      fin_places
      refine cEq ⟨lev_bd _, lev_bd _⟩ ?_
      rw [eqv_bd]
      exact hq _ B' hB ⟨fun e => ⟨ha, by rw [← of_decide_eq_true e]; exact hL⟩, fun e => decide_eq_true (hL.uniq e.2)⟩
end Sh
set_option maxHeartbeats 1000000
namespace Sh
open PySem PySem.Spec PyProof.Rows L2
/-! ## rounding, plain -/
theorem floor_le' (x : Rat) : (x.floor : Rat) ≤ x := Rat.floor_le x
theorem lt_floor' (x : Rat) : x < (x.floor : Rat) + 1 := by
  have := Rat.lt_floor (x := x)
  grind
theorem ang_eq (x : Rat) : ang x = x - (x.floor : Rat) := by
  have hd : ((x.den : Int) : Rat) ≠ 0 := fun e => den_ne x (by exact_mod_cast e)
  have e : x.num.fmod (x.den : Int) = x.num - (x.den : Int) * x.floor := by
    rw [← floor_is, Int.fmod_def]
  show Rat.divInt _ _ = _
  rw [e, Rat.divInt_eq_div, Rat.intCast_sub, Rat.intCast_mul]
  have ex := as_div x
  generalize x.floor = k at *
  generalize (x.num : Rat) = X at *
  generalize ((x.den : Int) : Rat) = D at *
  rw [ex]
  grind
theorem ang_spec (x : Rat) : Mult 1 (ang x - x) ∧ 0 ≤ ang x ∧ ang x < 1 := by
  rw [ang_eq]
  have h1 := floor_le' x
  have h2 := lt_floor' x
  refine ⟨⟨-x.floor, by rw [Rat.intCast_neg]; grind⟩, by grind, by grind⟩
theorem rabs_pos {y : Rat} (h : y ≠ 0) : 0 < rabs y := by
  have h1 : rabs y ≠ 0 := rabs_ne h
  have h2 : 0 ≤ (rabs y).num := by rw [rabs_num]; omega
  have h3 : 0 ≤ rabs y := Rat.num_nonneg.mp h2
  grind
theorem rabs_pm (y : Rat) : rabs y = y ∨ rabs y = -y := by
  unfold rabs
  split
  · exact .inr rfl
  · exact .inl rfl
theorem mult_abs {y x : Rat} : Mult (rabs y) x ↔ Mult y x := by
  rcases rabs_pm y with e | e
  · rw [e]
  · rw [e]
    constructor
    · rintro ⟨k, rfl⟩
      exact ⟨-k, by rw [Rat.intCast_neg]; grind⟩
    · rintro ⟨k, rfl⟩
      exact ⟨-k, by rw [Rat.intCast_neg]; grind⟩
theorem rnd_spec (x : Rat) {y : Rat} (h : y ≠ 0) : Mult y (rnd x y - x) ∧ 0 ≤ rnd x y ∧ rnd x y < rabs y := by
  have hp := rabs_pos h
  have h1 := floor_le' (x / rabs y)
  have h2 := lt_floor' (x / rabs y)
  have e : x / rabs y * rabs y = x := by grind
  generalize hk : (x / rabs y).floor = k at *
  have a1 : (k : Rat) * rabs y ≤ x / rabs y * rabs y := Rat.mul_le_mul_of_nonneg_right h1 (by grind)
  have a2 : x / rabs y * rabs y < ((k : Rat) + 1) * rabs y := Rat.mul_lt_mul_of_pos_right h2 hp
  rw [e] at a1 a2
  have er : rnd x y = x - (k : Rat) * rabs y := by show x - ((x / rabs y).floor : Rat) * rabs y = _; rw [hk]
  rw [er]
  refine ⟨mult_abs.mp ⟨-k, by rw [Rat.intCast_neg]; grind⟩, by grind, by grind⟩
theorem int_small {k : Int} {m : Rat} (hm : 0 < m) (h1 : (k : Rat) * m < m) (h2 : -m < (k : Rat) * m) : k = 0 := by
  have a : (k : Rat) < 1 := by
    refine Rat.not_le.mp fun h => ?_
    have := Rat.mul_le_mul_of_nonneg_right h (show (0 : Rat) ≤ m by grind)
    grind
  have b : (-1 : Rat) < (k : Rat) := by
    refine Rat.not_le.mp fun h => ?_
    have := Rat.mul_le_mul_of_nonneg_right h (show (0 : Rat) ≤ m by grind)
    grind
  have a' : k < 1 := by exact_mod_cast a
  have b' : -1 < k := by
    have : ((-1 : Int) : Rat) < (k : Rat) := b
    exact_mod_cast this
  omega
theorem mult_uniq {y u v : Rat} (h : Mult y (u - v)) (hy : y ≠ 0) (u0 : 0 ≤ u) (u1 : u < rabs y) (v0 : 0 ≤ v) (v1 : v < rabs y) : u = v := by
  obtain ⟨k, hk⟩ := mult_abs.mpr h
  have := int_small (k := k) (rabs_pos hy) (by grind) (by grind)
  subst this
  have e : ((0 : Int) : Rat) = 0 := rfl
  rw [e] at hk
  grind
theorem mult0 {x : Rat} : Mult 0 x ↔ x = 0 := by
  constructor
  · rintro ⟨k, rfl⟩; grind
  · rintro rfl; exact Mult.zero 0
theorem rabs_one : rabs 1 = 1 := by decide +kernel
/-! ## lines, plain -/
def Cn : Ln → Prop
  | .ring _ => True
  | .flute q => 0 ≤ q ∧ q < 1
  | .lead l p => l ≠ 0 ∧ 0 ≤ p ∧ p < rabs l
def nz : Ln → Prop
  | .lead l _ => l ≠ 0
  | _ => True
theorem Cn.nz {x : Ln} (h : Cn x) : nz x := by
  cases x with
  | lead l p => exact h.1
  | _ => trivial
def per : So → Rat
  | .ring => 0
  | .flute => 1
  | .lead l => l
def prt (s : So) (z t : Rat) : Rat := match s with
  | .ring => z
  | .flute => t
  | .lead l => z - l * t
theorem mv_sl (z t : Rat) (x : Ln) : mvL z t x = slL (prt (srt x) z t) x := by
  cases x with
  | ring q => rfl
  | flute q => rfl
  | lead l p =>
    show Ln.lead l (rnd ((p + z) - l * t) l) = Ln.lead l (rnd (p + (z - l * t)) l)
    rw [show (p + z) - l * t = p + (z - l * t) by grind]
theorem srt_sl (s : Rat) (x : Ln) : srt (slL s x) = srt x := by cases x <;> rfl
theorem srt_mv (z t : Rat) (x : Ln) : srt (mvL z t x) = srt x := by rw [mv_sl, srt_sl]
theorem sl_plc (s : Rat) {x : Ln} (h : nz x) : Mult (per (srt x)) (plc (slL s x) - (plc x + s)) := by
  cases x with
  | ring q => exact mult0.mpr (by show (q + s) - (q + s) = 0; grind)
  | flute q => exact (ang_spec (q + s)).1
  | lead l p => exact (rnd_spec (p + s) h).1
theorem sl_cn (s : Rat) {x : Ln} (h : nz x) : Cn (slL s x) := by
  cases x with
  | ring q => trivial
  | flute q => exact (ang_spec (q + s)).2
  | lead l p => exact ⟨h, (rnd_spec (p + s) h).2⟩
theorem ln_ext {x y : Ln} (hx : Cn x) (hy : Cn y) (e : srt x = srt y) (h : Mult (per (srt x)) (plc x - plc y)) : x = y := by
  cases x with
  | ring q =>
    cases y with
    | ring r =>
      have := mult0.mp h
      have : q - r = 0 := this
      rw [show q = r by grind]
    | flute r => cases e
    | lead l p => cases e
  | flute q =>
    cases y with
    | ring r => cases e
    | flute r =>
      have h1 : q < rabs 1 := by rw [rabs_one]; exact hx.2
      have h2 : r < rabs 1 := by rw [rabs_one]; exact hy.2
      rw [show q = r from mult_uniq (y := 1) h (by decide) hx.1 h1 hy.1 h2]
    | lead l p => cases e
  | lead l p =>
    cases y with
    | ring r => cases e
    | flute r => cases e
    | lead m r =>
      cases e
      rw [show p = r from mult_uniq (y := l) h hx.1 hx.2.1 hx.2.2 hy.2.1 hy.2.2]
theorem sl_cong {x : Ln} (h : nz x) {s r : Rat} (e : Mult (per (srt x)) (s - r)) : slL s x = slL r x := by
  refine ln_ext (sl_cn s h) (sl_cn r h) (by rw [srt_sl, srt_sl]) ?_
  rw [srt_sl]
  have h1 := sl_plc s h
  have h2 := sl_plc r h
  have := (h1.sub h2).add e
  rw [show plc (slL s x) - plc (slL r x) = plc (slL s x) - (plc x + s) - (plc (slL r x) - (plc x + r)) + (s - r) by grind]
  exact this
theorem sl_inj {x y : Ln} (hx : Cn x) (hy : Cn y) (es : srt x = srt y) {s : Rat} (e : slL s x = slL s y) : x = y := by
  refine ln_ext hx hy es ?_
  have h1 := sl_plc s hx.nz
  have h2 := sl_plc s hy.nz
  rw [← es, ← e] at h2
  rw [show plc x - plc y = (plc (slL s x) - (plc y + s)) - (plc (slL s x) - (plc x + s)) by grind]
  exact h2.sub h1
/-- slid onto a line of its sort -/
theorem sl_onto {x y : Ln} (hx : nz x) (hy : Cn y) (es : srt x = srt y) : slL (plc y - plc x) x = y := by
  refine ln_ext (sl_cn _ hx) hy (by rw [srt_sl, es]) ?_
  rw [srt_sl]
  have h1 := sl_plc (plc y - plc x) hx
  rw [show plc x + (plc y - plc x) = plc y by grind] at h1
  exact h1
/-! ## bands, plain -/
structure Gd (B : List Pr) : Prop where
  cn : ∀ x ∈ B, Cn x.1
  dl : (B.map (·.1)).Nodup
theorem map_fst_inj {B : List Pr} (h : (B.map (·.1)).Nodup) {x y : Pr} (hx : x ∈ B) (hy : y ∈ B) (e : x.1 = y.1) : x = y := by
  induction B with
  | nil => cases hx
  | cons a B ih =>
    have h' := List.nodup_cons.mp h
    rcases List.mem_cons.mp hx with rfl | hx
    · rcases List.mem_cons.mp hy with hy | hy
      · exact hy.symm
      · exact absurd (List.mem_map.mpr ⟨y, hy, e.symm⟩) h'.1
    · rcases List.mem_cons.mp hy with hy | hy
      · exact absurd (List.mem_map.mpr ⟨x, hx, by rw [e, hy]⟩) h'.1
      · exact ih h'.2 hx hy
theorem Gd.nd {B : List Pr} (h : Gd B) : B.Nodup := List.Pairwise.of_map (·.1) (fun a b n e => n (by rw [e])) h.dl
def LeadsB (z t : Rat) (B O : List Pr) : Prop := ∀ x, x ∈ B.map (mvP z t) ↔ x ∈ O
def Sld (p : Rat) (s : So) (B O : List Pr) : Prop := ∀ x, x ∈ (ofS s B).map (slP p) ↔ x ∈ ofS s O
theorem mem_ofS {s : So} {B : List Pr} {x : Pr} : x ∈ ofS s B ↔ x ∈ B ∧ srt x.1 = s := by
  unfold ofS
  rw [List.mem_filter, decide_eq_true_eq]
theorem mvP_sl (z t : Rat) (x : Pr) : mvP z t x = slP (prt (srt x.1) z t) x := by
  unfold mvP slP
  rw [mv_sl]
theorem leads_iff {z t : Rat} {B O : List Pr} : LeadsB z t B O ↔ ∀ s, Sld (prt s z t) s B O := by
  constructor
  · intro h s x
    rw [mem_ofS, ← h x, List.mem_map, List.mem_map]
    constructor
    · rintro ⟨y, hy, rfl⟩
      obtain ⟨hy1, rfl⟩ := mem_ofS.mp hy
      exact ⟨⟨y, hy1, mvP_sl z t y⟩, srt_sl _ _⟩
    · rintro ⟨⟨y, hy, rfl⟩, e⟩
      have e : srt (mvL z t y.1) = s := e
      rw [srt_mv] at e
      subst e
      exact ⟨y, mem_ofS.mpr ⟨hy, rfl⟩, (mvP_sl z t y).symm⟩
  · intro h x
    rw [List.mem_map]
    constructor
    · rintro ⟨y, hy, rfl⟩
      exact (mem_ofS.mp ((h (srt y.1) _).mp (List.mem_map.mpr ⟨y, mem_ofS.mpr ⟨hy, rfl⟩, (mvP_sl z t y).symm⟩))).1
    · intro hx
      obtain ⟨y, hy, e⟩ := List.mem_map.mp ((h (srt x.1) x).mpr (mem_ofS.mpr ⟨hx, rfl⟩))
      obtain ⟨hy, es⟩ := mem_ofS.mp hy
      exact ⟨y, hy, by rw [mvP_sl, es]; exact e⟩
theorem Mult.symm' {s x y : Rat} (h : Mult s (x - y)) : Mult s (y - x) := h.symm
theorem Sld.cong {B O : List Pr} {s : So} {p q : Rat} (g : ∀ x ∈ B, nz x.1) (e : Mult (per s) (p - q)) (h : Sld p s B O) : Sld q s B O := by
  have em : (ofS s B).map (slP q) = (ofS s B).map (slP p) := by
    refine List.map_congr_left fun x hx => ?_
    obtain ⟨hx1, rfl⟩ := mem_ofS.mp hx
    unfold slP
    rw [sl_cong (g x hx1) e]
  intro x
  rw [em]
  exact h x
theorem slG_sld {B O : List Pr} {s : So} {p : Rat} (h : p ∈ slG (ofS s B) (ofS s O)) : Sld p s B O := by
  unfold slG at h
  split at h
  · cases h
  · rename_i f T e
    obtain ⟨y, hy, rfl⟩ := List.mem_map.mp h
    have hs := (List.mem_filter.mp hy).2
    unfold slC at hs
    rw [Bool.and_eq_true] at hs
    intro x
    have := sameB_iff.mp hs.2 x
    rw [e]
    exact this
theorem slG_of {B O : List Pr} {s : So} {p : Rat} (gB : Gd B) (hs : hasS B s) (h : Sld p s B O) : ∃ q ∈ slG (ofS s B) (ofS s O), Mult (per s) (q - p) := by
  obtain ⟨x, hx, rfl⟩ := hs
  cases e : ofS (srt x.1) B with
  | nil =>
    have := mem_ofS.mpr ⟨hx, rfl⟩
    rw [e] at this
    cases this
  | cons f T =>
    have hf : f ∈ ofS (srt x.1) B := by rw [e]; exact List.mem_cons_self
    obtain ⟨fB, fs⟩ := mem_ofS.mp hf
    have fc := gB.cn f fB
    have hy : slP p f ∈ ofS (srt x.1) O := (h _).mp (List.mem_map_of_mem hf)
    have hm : Mult (per (srt x.1)) (plc (slL p f.1) - plc f.1 - p) := by
      have := sl_plc p fc.nz
      rw [fs] at this
      rw [show plc (slL p f.1) - plc f.1 - p = plc (slL p f.1) - (plc f.1 + p) by grind]
      exact this
    refine ⟨plc (slL p f.1) - plc f.1, ?_, hm⟩
    have h2 := h.cong (fun x hx => (gB.cn x hx).nz) hm.symm' 
    unfold slG
    refine List.mem_map.mpr ⟨slP p f, List.mem_filter.mpr ⟨hy, ?_⟩, rfl⟩
    unfold slC
    rw [Bool.and_eq_true]
    refine ⟨decide_eq_true rfl, sameB_iff.mpr fun x => ?_⟩
    rw [← e]
    exact h2 x
end Sh
set_option maxHeartbeats 1000000
namespace Sh
open PySem PySem.Spec PyProof.Rows L2
/-! ## motions, plain -/
/-- what the sorts ask of a motion -/
def CM (A : SA) (z t : Rat) : Prop := ∀ c ∈ A, Mult (per c.1) (prt c.1 z t - c.2)
structure SAp (A : SA) : Prop where
  nd : (A.map (·.1)).Nodup
  n0 : ∀ l p, (So.lead l, p) ∈ A → l ≠ 0
theorem slook_of {A : SA} (h : (A.map (·.1)).Nodup) {s : So} {p : Rat} (hm : (s, p) ∈ A) : slook A s = some p := by
  induction A with
  | nil => cases hm
  | cons a A ih =>
    have h' := List.nodup_cons.mp h
    unfold slook
    rcases List.mem_cons.mp hm with e | hm
    · rw [← e, List.find?_cons_of_pos (by simp)]
      rfl
    · have ne : a.1 ≠ s := fun e => h'.1 (List.mem_map.mpr ⟨(s, p), hm, e.symm⟩)
      rw [List.find?_cons_of_neg (by simpa using ne)]
      exact ih h'.2 hm
theorem SAp.l0 {A : SA} (h : SAp A) : ∀ c ∈ leadsOf A, c.1 ≠ 0 := fun c hc => h.n0 c.1 c.2 ((leads_mem A _ _).mp hc)
theorem SAp.dis {A : SA} (h : SAp A) : (leadsOf A).Pairwise fun c d => c.1 ≠ d.1 := leads_dis A h.nd
theorem step_iff {f l : Rat} (hf : f ≠ 0) (hl : l ≠ 0) (ne : f ≠ l) (g p z : Rat) : Mult (stepQ f l) (z - (p / l - g / f) * stepQ f l) ↔ Mult l (z - (p + l * ((z - g) / f))) := by
  have i0 := inv_ne hf hl ne
  have st : stepQ f l * (1 / l - 1 / f) = 1 := by unfold stepQ; grind
  have s0 : stepQ f l ≠ 0 := fun e => by rw [e] at st; grind
  generalize stepQ f l = S at *
  have key : (z - (p / l - g / f) * S) * (1 / l - 1 / f) * l = z - (p + l * ((z - g) / f)) := by
    have : (z - (p / l - g / f) * S) * (1 / l - 1 / f) = z * (1 / l - 1 / f) - (p / l - g / f) * (S * (1 / l - 1 / f)) := by grind
    rw [this, st]
    grind
  constructor
  · rintro ⟨k, hk⟩
    refine ⟨k, ?_⟩
    rw [← key, hk]
    have : (k : Rat) * S * (1 / l - 1 / f) * l = (k : Rat) * (S * (1 / l - 1 / f)) * l := by grind
    rw [this, st]
    grind
  · rintro ⟨k, hk⟩
    refine ⟨k, ?_⟩
    rw [← key] at hk
    have h2 : (z - (p / l - g / f) * S) * (1 / l - 1 / f) = (k : Rat) := by grind
    have h3 : (z - (p / l - g / f) * S) * (S * (1 / l - 1 / f)) = (k : Rat) * S := by rw [← h2]; grind
    rw [st] at h3
    grind
theorem solves_flute {a z : Rat} {L : List (Rat × Rat)} : Solves (rulesW (some a) L) z ↔ ∀ c ∈ L, Mult c.1 (z - (c.2 + c.1 * a)) := by
  constructor
  · intro h c hc
    exact h (c.2 + c.1 * a, c.1) (List.mem_map.mpr ⟨c, hc, rfl⟩)
  · intro h c hc
    obtain ⟨d, hd, rfl⟩ := List.mem_map.mp hc
    exact h d hd
theorem solves_none {z : Rat} {f : Rat × Rat} {L : List (Rat × Rat)} (h0 : ∀ c ∈ f :: L, c.1 ≠ 0) (hd : (f :: L).Pairwise fun c d => c.1 ≠ d.1) : Solves (rulesW none (f :: L)) z ↔ ∀ c ∈ f :: L, Mult c.1 (z - (c.2 + c.1 * ((z - f.2) / f.1))) := by
  have f0 := h0 f List.mem_cons_self
  have own : Mult f.1 (z - (f.2 + f.1 * ((z - f.2) / f.1))) := by
    rw [show z - (f.2 + f.1 * ((z - f.2) / f.1)) = 0 by grind]
    exact Mult.zero _
  have hd' := (List.pairwise_cons.mp hd).1
  constructor
  · intro h c hc
    rcases List.mem_cons.mp hc with e | hc
    · rw [e]; exact own
    · have := h (_, _) (List.mem_map.mpr ⟨c, hc, rfl⟩)
      exact (step_iff f0 (h0 c (List.mem_cons_of_mem _ hc)) (hd' c hc) f.2 c.2 z).mp this
  · intro h c hc
    obtain ⟨d, hd, rfl⟩ := List.mem_map.mp hc
    exact (step_iff f0 (h0 d (List.mem_cons_of_mem _ hd)) (hd' d hd) f.2 d.2 z).mpr (h d (List.mem_cons_of_mem _ hd))
/-- the rules, whatever tells the angle -/
theorem solves_all {A : SA} (h : SAp A) (z : Rat) : Solves (rulesW (slook A .flute) (leadsOf A)) z ↔ ∀ c ∈ leadsOf A, Mult c.1 (z - (c.2 + c.1 * moA A z)) := by
  unfold moA
  cases e : slook A .flute with
  | some a => exact solves_flute
  | none =>
    cases hl : leadsOf A with
    | nil => exact ⟨fun _ c hc => (nomatch hc), fun _ c hc => (nomatch hc)⟩
    | cons f T =>
      have h0 := h.l0
      have hd := h.dis
      rw [hl] at h0 hd
      exact solves_none h0 hd
theorem mo_cm {A : SA} (h : SAp A) {z : Rat} (hz : MoOk A z) : CM A z (ang (moA A z)) := by
  have hs := (solves_all h z).mp hz.2
  rintro ⟨s, p⟩ hc
  have ha := (ang_spec (moA A z)).1
  generalize ang (moA A z) = t at *
  cases s with
  | ring =>
    have := hz.1 p (slook_of h.nd hc)
    exact mult0.mpr (by show z - p = 0; grind)
  | flute =>
    have e := slook_of h.nd hc
    have : moA A z = p := by unfold moA; rw [e]
    rw [this] at ha
    exact ha
  | lead l =>
    have h1 := hs (l, p) ((leads_mem A l p).mpr hc)
    have h1 : Mult l (z - (p + l * moA A z)) := h1
    obtain ⟨k, hk⟩ := ha
    show Mult l ((z - l * t) - p)
    refine Mult.of_eq ?_ (h1.sub (Mult.mul (Mult.self l) k))
    have : t = moA A z + (k : Rat) * 1 := by grind
    rw [this]
    grind
theorem cm_mo {A : SA} (h : SAp A) {z t : Rat} (hc : CM A z t) : MoOk A z := by
  have ld : ∀ c ∈ leadsOf A, Mult c.1 ((z - c.1 * t) - c.2) := fun c hc' => hc (.lead c.1, c.2) ((leads_mem A _ _).mp hc')
  refine ⟨fun p e => ?_, (solves_all h z).mpr fun c hc' => ?_⟩
  · have := mult0.mp (hc (.ring, p) (slook_mem e))
    have : z - p = 0 := this
    grind
  · have h1 := ld c hc'
    unfold moA
    cases e : slook A .flute with
    | some a =>
      obtain ⟨k, hk⟩ := hc (.flute, a) (slook_mem e)
      have hk : t - a = (k : Rat) * 1 := hk
      show Mult c.1 (z - (c.2 + c.1 * a))
      refine Mult.of_eq ?_ (h1.add (Mult.mul (Mult.self c.1) k))
      grind
    | none =>
      cases hl : leadsOf A with
      | nil => rw [hl] at hc'; cases hc'
      | cons f T =>
        obtain ⟨k, hk⟩ := ld f (by rw [hl]; exact List.mem_cons_self)
        have f0 := h.l0 f (by rw [hl]; exact List.mem_cons_self)
        show Mult c.1 (z - (c.2 + c.1 * ((z - f.2) / f.1)))
        have e2 : (z - f.2) / f.1 = t + (k : Rat) := by grind
        rw [e2]
        refine Mult.of_eq ?_ (h1.sub (Mult.mul (Mult.self c.1) k))
        grind
/-! ## rules that fit by pairs, plain -/
theorem lcm_ex {a b : Rat} (ha : a ≠ 0) (hb : b ≠ 0) : ∃ g, g ≠ 0 ∧ ∀ x, (Mult a x ∧ Mult b x) ↔ Mult g x := by
  have mg := merge (n := 0) (f := 0) ha hb (by rw [show (0 : Rat) - 0 = 0 by grind]; exact Mult.zero _)
  exact ⟨_, mg.m0, fun x => ⟨fun h => mg.all x h.1 h.2, fun h => ⟨mg.ms.trans h, mg.mo.trans h⟩⟩⟩
/-- distributivity -/
theorem dist2 {a b c x : Rat} (ha : a ≠ 0) (h1 : Mult (cmn a c) x) (h2 : Mult (cmn b c) x) : ∃ y, Mult a y ∧ Mult b y ∧ Mult c (x - y) := by
  obtain ⟨i, k, e1⟩ := cmn_iff.mp h1
  obtain ⟨j, l, e2⟩ := cmn_iff.mp h2
  obtain ⟨⟨A, hA⟩, ⟨B, hB⟩, u, v, hd⟩ := cmn_mult a b
  have d0 := cmn_ne (y := b) ha
  generalize cmn a b = d at *
  have one : (u : Rat) * (A : Rat) + (v : Rat) * (B : Rat) = 1 := by
    have : ((u : Rat) * (A : Rat) + (v : Rat) * (B : Rat)) * d = d := by
      have q := hd
      rw [hA, hB] at q
      grind
    grind
  refine ⟨(A : Rat) * (B : Rat) * d * ((u : Rat) * (j : Rat) + (v : Rat) * (i : Rat)), ?_, ?_, ?_⟩
  · refine ⟨B * (u * j + v * i), ?_⟩
    rw [Rat.intCast_mul, Rat.intCast_add, Rat.intCast_mul, Rat.intCast_mul, hA]
    grind
  · refine ⟨A * (u * j + v * i), ?_⟩
    rw [Rat.intCast_mul, Rat.intCast_add, Rat.intCast_mul, Rat.intCast_mul, hB]
    grind
  · refine ⟨u * A * l + v * B * k, ?_⟩
    rw [Rat.intCast_add, Rat.intCast_mul, Rat.intCast_mul, Rat.intCast_mul, Rat.intCast_mul]
    have s1 : x = (u : Rat) * (A : Rat) * x + (v : Rat) * (B : Rat) * x := by
      have : x = ((u : Rat) * (A : Rat) + (v : Rat) * (B : Rat)) * x := by rw [one]; grind
      grind
    have s2 : (u : Rat) * (A : Rat) * x + (v : Rat) * (B : Rat) * x = (u : Rat) * (A : Rat) * ((j : Rat) * b + (l : Rat) * c) + (v : Rat) * (B : Rat) * ((i : Rat) * a + (k : Rat) * c) := by
      rw [← e1, ← e2]
    rw [s1, s2, hA, hB]
    grind
theorem distL (o : Rat) : ∀ (R : List (Rat × Rat)), R ≠ [] → (∀ c ∈ R, c.2 ≠ 0) → (∃ g, g ≠ 0 ∧ ∀ x, (∀ c ∈ R, Mult c.2 x) ↔ Mult g x) ∧ ∀ x, (∀ c ∈ R, Mult (cmn c.2 o) x) → ∃ y, (∀ c ∈ R, Mult c.2 y) ∧ Mult o (x - y)
  | [], h, _ => absurd rfl h
  | [c], _, h0 => by
    refine ⟨⟨c.2, h0 c List.mem_cons_self, fun x => ⟨fun h => h c List.mem_cons_self, fun h d hd => by rw [List.mem_singleton.mp hd]; exact h⟩⟩, fun x hx => ?_⟩
    obtain ⟨i, k, e⟩ := cmn_iff.mp (hx c List.mem_cons_self)
    exact ⟨(i : Rat) * c.2, fun d hd => by rw [List.mem_singleton.mp hd]; exact ⟨i, rfl⟩, ⟨k, by rw [e]; grind⟩⟩
  | c :: d :: R, _, h0 => by
    obtain ⟨⟨g, g0, hg⟩, ih⟩ := distL o (d :: R) (by simp) fun e he => h0 e (List.mem_cons_of_mem _ he)
    have c0 := h0 c List.mem_cons_self
    obtain ⟨m, m0, hm⟩ := lcm_ex c0 g0
    refine ⟨⟨m, m0, fun x => ?_⟩, fun x hx => ?_⟩
    · rw [← hm, ← hg, List.forall_mem_cons]
    · obtain ⟨y, hy, ho⟩ := ih x fun e he => hx e (List.mem_cons_of_mem _ he)
      have hy := (hg y).mp hy
      have h2 : Mult (cmn g o) x := by
        refine cmn_iff.mpr ?_
        obtain ⟨i, hi⟩ := hy
        obtain ⟨k, hk⟩ := ho
        exact ⟨i, k, by rw [← hi, ← hk]; grind⟩
      obtain ⟨w, w1, w2, w3⟩ := dist2 c0 (hx c List.mem_cons_self) h2
      exact ⟨w, List.forall_mem_cons.mpr ⟨w1, (hg w).mpr w2⟩, w3⟩
def FitsP (R : List (Rat × Rat)) : Prop := R.Pairwise fun c d => Mult (cmn c.2 d.2) (c.1 - d.1)
theorem fits_iff : ∀ {R : List (Rat × Rat)}, (∀ c ∈ R, c.2 ≠ 0) → (FitsP R ↔ ∃ z, Solves R z)
  | [], _ => ⟨fun _ => ⟨0, fun c hc => (nomatch hc)⟩, fun _ => .nil⟩
  | c :: R, h0 => by
    have ih := fits_iff (R := R) fun e he => h0 e (List.mem_cons_of_mem _ he)
    unfold FitsP at *
    rw [List.pairwise_cons]
    constructor
    · rintro ⟨h1, h2⟩
      obtain ⟨z, hz⟩ := ih.mp h2
      cases hR : R with
      | nil =>
        refine ⟨c.1, fun d hd => ?_⟩
        rw [List.mem_singleton.mp hd, show c.1 - c.1 = 0 by grind]
        exact Mult.zero _
      | cons d T =>
        obtain ⟨_, dl⟩ := distL c.2 R (by rw [hR]; simp) fun e he => h0 e (List.mem_cons_of_mem _ he)
        -- c.1 - z is in each of the sums
        obtain ⟨y, hy, ho⟩ := dl (c.1 - z) fun e he => by
          obtain ⟨i, k, q⟩ := cmn_iff.mp (h1 e he)
          obtain ⟨j, hj⟩ := hz e he
          refine cmn_iff.mpr ⟨k - j, i, ?_⟩
          rw [Rat.intCast_sub]
          have : c.1 - z = (c.1 - e.1) - (z - e.1) := by grind
          rw [this, q, hj]
          grind
        refine ⟨z + y, ?_⟩
        rw [← hR]
        refine List.forall_mem_cons.mpr ⟨?_, fun e he => ?_⟩
        · exact ho.neg.of_eq (by grind)
        · exact ((hz e he).add (hy e he)).of_eq (by grind)
    · rintro ⟨z, hz⟩
      refine ⟨fun d hd => ?_, ih.mpr ⟨z, fun e he => hz e (List.mem_cons_of_mem _ he)⟩⟩
      obtain ⟨i, hi⟩ := hz c List.mem_cons_self
      obtain ⟨j, hj⟩ := hz d (List.mem_cons_of_mem _ hd)
      refine cmn_iff.mpr ⟨-i, j, ?_⟩
      rw [Rat.intCast_neg]
      have : c.1 - d.1 = (z - d.1) - (z - c.1) := by grind
      rw [this, hi, hj]
      grind
/-! ## the joint motion, as the law has it -/
def jTurn (A : SA) : Option Rat := match slook A .ring, slook A .flute, leadsOf A with
  | _, some t, _ => some t
  | some s, none, f :: _ => some ((s - f.2) / f.1)
  | _, none, _ => none
def JointP (A : SA) : Prop := match slook A .ring, jTurn A with
  | some s, some t => ∀ c ∈ rulesW (some t) (leadsOf A), Mult c.2 (s - c.1)
  | none, some t => FitsP (rulesW (some t) (leadsOf A))
  | _, none => FitsP (rulesW none (leadsOf A))
theorem rules_ne {A : SA} (h : SAp A) (o : Option Rat) : ∀ c ∈ rulesW o (leadsOf A), c.2 ≠ 0 := by
  have h0 := h.l0
  have hd := h.dis
  intro c hc
  cases o with
  | some a =>
    obtain ⟨d, hd, rfl⟩ := List.mem_map.mp hc
    exact h0 d hd
  | none =>
    cases e : leadsOf A with
    | nil => rw [e] at hc; cases hc
    | cons f T =>
      rw [e] at hc h0 hd
      obtain ⟨d, hm, rfl⟩ := List.mem_map.mp hc
      have f0 := h0 f List.mem_cons_self
      have d0 := h0 d (List.mem_cons_of_mem _ hm)
      have := inv_ne f0 d0 ((List.pairwise_cons.mp hd).1 d hm)
      show stepQ f.1 d.1 ≠ 0
      intro e2
      have st : stepQ f.1 d.1 * (1 / d.1 - 1 / f.1) = 1 := by unfold stepQ; grind
      rw [e2] at st
      grind
theorem joint_iff {A : SA} (h : SAp A) : JointP A ↔ ∃ z, MoOk A z := by
  unfold JointP jTurn MoOk
  have r1 := fun t => rules_ne h (some t)
  have r2 := rules_ne h none
  cases hr : slook A .ring with
  | none =>
    have triv : ∀ z : Rat, ∀ p : Rat, (none : Option Rat) = some p → z = p := fun z p e => nomatch e
    cases hf : slook A .flute with
    | some t =>
      show FitsP _ ↔ _
      rw [fits_iff (r1 t)]
      exact ⟨fun ⟨z, hz⟩ => ⟨z, triv z, hz⟩, fun ⟨z, hz⟩ => ⟨z, hz.2⟩⟩
    | none =>
      show FitsP _ ↔ _
      rw [fits_iff r2]
      exact ⟨fun ⟨z, hz⟩ => ⟨z, triv z, hz⟩, fun ⟨z, hz⟩ => ⟨z, hz.2⟩⟩
  | some s =>
    have ring : ∀ {P : Rat → Prop}, (∃ z, (∀ p, some s = some p → z = p) ∧ P z) ↔ P s := fun {P} => by
      constructor
      · rintro ⟨z, h1, h2⟩
        rw [← h1 s rfl]
        exact h2
      · intro h
        exact ⟨s, fun p e => Option.some.inj e, h⟩
    cases hf : slook A .flute with
    | some t =>
      rw [ring]
      exact Iff.rfl
    | none =>
      rw [ring]
      cases hl : leadsOf A with
      | nil =>
        show FitsP [] ↔ _
        exact ⟨fun _ c hc => (nomatch hc), fun _ => List.Pairwise.nil⟩
      | cons f T =>
        have h0 := h.l0
        have hd := h.dis
        rw [hl] at h0 hd
        rw [solves_none h0 hd]
        show Solves (rulesW (some ((s - f.2) / f.1)) (f :: T)) s ↔ _
        rw [solves_flute]
end Sh
set_option maxHeartbeats 1000000
namespace Sh
open PySem PySem.Spec PyProof.Rows L2
/-! ## bands led, plain -/
def slGL (A B : List Pr) : List Rat := match A with
  | [] => []
  | f :: T => slidesL f (f :: T) B
theorem nodup_map {α β : Type} {f : α → β} : ∀ {L : List α}, L.Nodup → (∀ x ∈ L, ∀ y ∈ L, f x = f y → x = y) → (L.map f).Nodup
  | [], _, _ => .nil
  | a :: L, h, i => by
    have h' := List.nodup_cons.mp h
    rw [List.map_cons]
    refine List.nodup_cons.mpr ⟨fun hm => ?_, nodup_map h'.2 fun x hx y hy => i x (List.mem_cons_of_mem _ hx) y (List.mem_cons_of_mem _ hy)⟩
    obtain ⟨b, hb, e⟩ := List.mem_map.mp hm
    have := i b (List.mem_cons_of_mem _ hb) a List.mem_cons_self e
    rw [this] at hb
    exact h'.1 hb
theorem nodup_map_of {α β : Type} {f : α → β} {L : List α} (h : (L.map f).Nodup) : L.Nodup := List.Pairwise.of_map f (fun a b n e => n (by rw [e])) h
theorem ofS_nodup {s : So} {B : List Pr} (h : B.Nodup) : (ofS s B).Nodup := h.filter _
theorem ofS_sl_nodup {s : So} {B : List Pr} (g : Gd B) (p : Rat) : ((ofS s B).map (slP p)).Nodup := by
  refine nodup_map (ofS_nodup g.nd) fun x hx y hy e => ?_
  obtain ⟨hx, ex⟩ := mem_ofS.mp hx
  obtain ⟨hy, ey⟩ := mem_ofS.mp hy
  have e1 : slL p x.1 = slL p y.1 := congrArg Prod.fst e
  exact map_fst_inj g.dl hx hy (sl_inj (g.cn x hx) (g.cn y hy) (ex.trans ey.symm) e1)
theorem filter_congr' {α : Type} {p q : α → Bool} : ∀ {L : List α}, (∀ x ∈ L, p x = q x) → L.filter p = L.filter q
  | [], _ => rfl
  | a :: L, h => by
    rw [List.filter_cons, List.filter_cons, h a List.mem_cons_self, filter_congr' fun x hx => h x (List.mem_cons_of_mem _ hx)]
theorem slGL_eq {s : So} {B O : List Pr} (gB : Gd B) (gO : Gd O) : slGL (ofS s B) (ofS s O) = slG (ofS s B) (ofS s O) := by
  unfold slGL slG
  cases e : ofS s B with
  | nil => rfl
  | cons f T =>
    show slidesL f (f :: T) (ofS s O) = slides f (f :: T) (ofS s O)
    unfold slidesL slides
    rw [filter_congr' (q := slC f (f :: T) (ofS s O))]
    intro y hy
    obtain ⟨yO, ys⟩ := mem_ofS.mp hy
    have hf : f ∈ ofS s B := by rw [e]; exact List.mem_cons_self
    obtain ⟨fB, fs⟩ := mem_ofS.mp hf
    have nd1 := ofS_sl_nodup (s := s) gB (plc y.1 - plc f.1)
    have nd2 : (ofS s O).Nodup := ofS_nodup gO.nd
    rw [e] at nd1
    unfold slD slC
    rw [Bool.eq_iff_iff, Bool.and_eq_true, decide_eq_true_eq, sameB_iff, List.isPerm_iff, List.perm_ext_iff_of_nodup nd1 nd2]
    refine ⟨fun h => ⟨?_, h⟩, fun h => h.2⟩
    have h1 := (h (slP (plc y.1 - plc f.1) f)).mp (List.mem_map_of_mem List.mem_cons_self)
    have e1 : (slP (plc y.1 - plc f.1) f).1 = y.1 := sl_onto (gB.cn f fB).nz (gO.cn y yO) (fs.trans ys.symm)
    have := map_fst_inj gO.dl (mem_ofS.mp h1).1 yO e1
    rw [← this]
    rfl
theorem leads_same {z t : Rat} {B O : List Pr} (h : LeadsB z t B O) : SameS B O := by
  intro s
  constructor
  · rintro ⟨x, hx, rfl⟩
    exact ⟨mvP z t x, (h _).mp (List.mem_map_of_mem hx), srt_mv z t x.1⟩
  · rintro ⟨x, hx, rfl⟩
    obtain ⟨y, hy, e⟩ := List.mem_map.mp ((h x).mpr hx)
    refine ⟨y, hy, ?_⟩
    rw [← e]
    exact (srt_mv z t y.1).symm
theorem leads_pick {z t : Rat} {B O : List Pr} (gB : Gd B) (h : LeadsB z t B O) : ∀ S : List So, (∀ s ∈ S, hasS B s) → ∃ A : SA, A.map (·.1) = S ∧ (∀ c ∈ A, c.2 ∈ slG (ofS c.1 B) (ofS c.1 O)) ∧ CM A z t
  | [], _ => ⟨[], rfl, fun c hc => (nomatch hc), fun c hc => (nomatch hc)⟩
  | s :: S, hS => by
    obtain ⟨A, e, h1, h2⟩ := leads_pick gB h S fun u hu => hS u (List.mem_cons_of_mem _ hu)
    obtain ⟨q, hq, hm⟩ := slG_of gB (hS s List.mem_cons_self) (leads_iff.mp h s)
    exact ⟨(s, q) :: A, by rw [List.map_cons, e], List.forall_mem_cons.mpr ⟨hq, h1⟩, List.forall_mem_cons.mpr ⟨hm.symm, h2⟩⟩
theorem pick_leads {z t : Rat} {B O : List Pr} {A : SA} (gB : Gd B) (hS : SameS B O) (keys : ∀ s, hasS B s → s ∈ A.map (·.1)) (mem : ∀ c ∈ A, c.2 ∈ slG (ofS c.1 B) (ofS c.1 O)) (hc : CM A z t) : LeadsB z t B O := by
  refine leads_iff.mpr fun s => ?_
  by_cases hs : hasS B s
  · obtain ⟨⟨u, p⟩, hm, rfl⟩ := List.mem_map.mp (keys s hs)
    exact (slG_sld (mem _ hm)).cong (fun x hx => (gB.cn x hx).nz) (hc _ hm).symm
  · intro x
    constructor
    · intro hx
      obtain ⟨y, hy, _⟩ := List.mem_map.mp hx
      exact absurd ⟨y, (mem_ofS.mp hy).1, (mem_ofS.mp hy).2⟩ hs
    · intro hx
      exact absurd ((hS s).mpr ⟨x, (mem_ofS.mp hx).1, (mem_ofS.mp hx).2⟩) hs
theorem pick_sap {B : List Pr} {A : SA} (gB : Gd B) (nd : (A.map (·.1)).Nodup) (keys : ∀ s ∈ A.map (·.1), hasS B s) : SAp A where
  nd := nd
  n0 := fun l p hc => by
    obtain ⟨x, hx, e⟩ := keys (.lead l) (List.mem_map.mpr ⟨_, hc, rfl⟩)
    have hf := gB.cn x hx
    rcases x with ⟨_ | _ | ⟨m, q⟩, n⟩
    · cases e
    · cases e
    · cases e
      exact hf.1
/-! ### bands led, mirrored, are bands -/
theorem mv_inj {z t : Rat} {x y : Ln} (hx : Cn x) (hy : Cn y) (e : mvL z t x = mvL z t y) : x = y := by
  have es : srt x = srt y := by rw [← srt_mv z t x, e, srt_mv]
  rw [mv_sl, mv_sl, ← es] at e
  exact sl_inj hx hy es e
theorem mv_cn {z t : Rat} {x : Ln} (hx : Cn x) : Cn (mvL z t x) := by rw [mv_sl]; exact sl_cn _ hx.nz
theorem Gd.map {B : List Pr} (g : Gd B) {f : Ln → Ln} (hc : ∀ x, Cn x → Cn (f x)) (hi : ∀ x y, Cn x → Cn y → f x = f y → x = y) : Gd (B.map fun x => (f x.1, x.2)) where
  cn := fun x hx => by
    obtain ⟨y, hy, rfl⟩ := List.mem_map.mp hx
    exact hc _ (g.cn y hy)
  dl := by
    rw [List.map_map]
    have e : B.map ((fun x : Pr => x.1) ∘ fun x : Pr => (f x.1, x.2)) = (B.map (·.1)).map f := by rw [List.map_map]; rfl
    show (B.map ((fun x : Pr => x.1) ∘ fun x : Pr => (f x.1, x.2))).Nodup
    rw [e]
    refine nodup_map g.dl fun x hx y hy e => ?_
    obtain ⟨a, ha, rfl⟩ := List.mem_map.mp hx
    obtain ⟨b, hb, rfl⟩ := List.mem_map.mp hy
    exact hi _ _ (g.cn a ha) (g.cn b hb) e
theorem Gd.mv {B : List Pr} (g : Gd B) (z t : Rat) : Gd (B.map (mvP z t)) := g.map (f := mvL z t) (fun _ h => mv_cn h) (fun _ _ hx hy e => mv_inj hx hy e)
theorem rabs_neg (l : Rat) : rabs (-l) = rabs l := by
  by_cases h : l = 0
  · rw [h]; decide +kernel
  · have h1 := rabs_pos h
    have h2 := rabs_pos (y := -l) (by grind)
    rcases rabs_pm l with a | a <;> rcases rabs_pm (-l) with b | b <;> grind
theorem mir_cn {x : Ln} (h : Cn x) : Cn (mirL x) := by
  cases x with
  | ring q => trivial
  | flute q => exact (ang_spec (-q)).2
  | lead l p => exact ⟨by have := h.1; grind, h.2.1, by rw [rabs_neg]; exact h.2.2⟩
theorem mir_inj {x y : Ln} (hx : Cn x) (hy : Cn y) (e : mirL x = mirL y) : x = y := by
  cases x with
  | ring q =>
    cases y with
    | ring r => exact e
    | flute r => cases e
    | lead l p => cases e
  | flute q =>
    cases y with
    | ring r => cases e
    | flute r =>
      have e1 : ang (-q) = ang (-r) := Ln.flute.inj e
      have h1 := (ang_spec (-q)).1
      have h2 := (ang_spec (-r)).1
      rw [← e1] at h2
      refine ln_ext hx hy rfl ?_
      show Mult 1 (q - r)
      exact (h1.sub h2).of_eq (by grind)
    | lead l p => cases e
  | lead l p =>
    cases y with
    | ring r => cases e
    | flute r => cases e
    | lead m r =>
      have e1 := Ln.lead.inj e
      rw [show l = m by have := e1.1; grind, e1.2]
theorem Gd.mir {B : List Pr} (g : Gd B) : Gd (B.map mirP) := g.map (f := mirL) (fun _ h => mir_cn h) (fun _ _ hx hy e => mir_inj hx hy e)
theorem Gd.perm {A B : List Pr} (g : Gd A) (p : B.Perm A) : Gd B where
  cn := fun x hx => g.cn x (p.mem_iff.mp hx)
  dl := (p.map _).nodup_iff.mpr g.dl
theorem Gd.sub {A B : List Pr} (g : Gd A) (p : B.Sublist A) : Gd B where
  cn := fun x hx => g.cn x (p.subset hx)
  dl := g.dl.sublist (p.map _)
/-! ### sizes -/
theorem rnd_sz (x : Rat) {y : Rat} (h : y ≠ 0) : sz (rnd x y) ≤ sz x + 2 * sz y := by
  obtain ⟨_, h0, h1⟩ := rnd_spec x h
  have e : rnd x y = Rat.divInt (x.num * (y.den : Int) - (x / rabs y).floor * (rabs y).num * x.den) ((x.den : Int) * y.den) := by
    have hx : ((x.den : Int) : Rat) ≠ 0 := fun e => den_ne x (by exact_mod_cast e)
    have hy : ((y.den : Int) : Rat) ≠ 0 := fun e => den_ne y (by exact_mod_cast e)
    show x - ((x / rabs y).floor : Rat) * rabs y = _
    generalize (x / rabs y).floor = k
    rw [Rat.divInt_eq_div, Rat.intCast_sub, Rat.intCast_mul, Rat.intCast_mul, Rat.intCast_mul, Rat.intCast_mul]
    have ex := as_div x
    have ey := as_div (rabs y)
    rw [rabs_den] at ey
    generalize rabs y = Y at *
    generalize (x.num : Rat) = X at *
    generalize ((x.den : Int) : Rat) = D at *
    generalize ((y.den : Int) : Rat) = F at *
    generalize (Y.num : Rat) = U at *
    rw [ex, ey]
    grind
  have dl : (rnd x y).den ≤ x.den * y.den := by
    rw [e]
    have := divInt_den_le (x.num * (y.den : Int) - (x / rabs y).floor * (rabs y).num * x.den) ((x.den : Int) * y.den) (denNe x y)
    rw [Int.natAbs_mul, Int.natAbs_natCast, Int.natAbs_natCast] at this
    exact this
  have db : (rnd x y).den < 2 ^ (sz x + sz y) := Nat.lt_of_le_of_lt dl (mul_pow (sz_den x) (sz_den y))
  have nb : (rnd x y).num.natAbs ≤ (rabs y).num.natAbs * (rnd x y).den := by
    generalize rnd x y = r at *
    have n0 : 0 ≤ r.num := Rat.num_nonneg.mpr h0
    have := (Rat.lt_iff r (rabs y)).mp h1
    have d1 : 1 ≤ ((rabs y).den : Int) := one_den _
    have d2 : r.num ≤ r.num * ((rabs y).den : Int) := by
      have := Int.mul_le_mul_of_nonneg_left d1 n0
      omega
    have n1 : (rabs y).num = ((rabs y).num.natAbs : Int) := by rw [rabs_num]; omega
    have : r.num ≤ (((rabs y).num.natAbs * r.den : Nat) : Int) := by
      rw [Int.natCast_mul, ← n1]
      omega
    omega
  have yb : (rabs y).num.natAbs < 2 ^ sz y := by have := sz_num (rabs y); rw [sz_abs] at this; exact this
  refine sz_le ?_ (Nat.lt_of_lt_of_le db (Nat.pow_le_pow_right (by decide) (by omega)))
  have := mul_pow yb db
  refine Nat.lt_of_le_of_lt nb (Nat.lt_of_lt_of_le this (Nat.pow_le_pow_right (by decide) (by omega)))
theorem sl_fits {b s : Nat} {x : Ln} {p : Rat} (h : x.fits b) (hp : sz p ≤ s) : (slL p x).fits (b + s + 7) := by
  cases x with
  | ring q =>
    have h : sz q ≤ b := h
    have := sz_add q p
    show sz (q + p) ≤ _
    omega
  | flute q =>
    have h : sz q ≤ b := h
    have h1 := sz_add q p
    have h2 : sz (ang (q + p)) ≤ sz (q + p) := sz_divInt (by have := one_den (q + p); omega) (fmod_ang (q + p)) (by rw [Int.natAbs_natCast]; exact sz_den (q + p))
    show sz (ang (q + p)) ≤ _
    omega
  | lead l q =>
    obtain ⟨h0, h1, h2⟩ : l ≠ 0 ∧ sz l ≤ 3 ∧ sz q ≤ b := h
    have h3 := sz_add q p
    have h4 := rnd_sz (q + p) h0
    refine ⟨h0, h1, ?_⟩
    show sz (rnd (q + p) l) ≤ _
    omega
theorem prt_sz {z t : Rat} {s : So} {m : Nat} (hz : sz z ≤ m) (ht : sz t ≤ m) (hl : ∀ l, s = .lead l → sz l ≤ 3) : sz (prt s z t) ≤ 2 * m + 4 := by
  cases s with
  | ring => show sz z ≤ _; omega
  | flute => show sz t ≤ _; omega
  | lead l =>
    have h1 := hl l rfl
    have h2 := sz_mul l t
    have h3 := sz_sub z (l * t)
    show sz (z - l * t) ≤ _
    omega
theorem mv_fits {b m : Nat} {x : Ln} {z t : Rat} (h : x.fits b) (hz : sz z ≤ m) (ht : sz t ≤ m) : (mvL z t x).fits (b + (2 * m + 4) + 7) := by
  rw [mv_sl]
  refine sl_fits h (prt_sz hz ht fun l e => ?_)
  cases x with
  | ring q => cases e
  | flute q => cases e
  | lead k q => cases e; exact h.2.1
end Sh
set_option maxHeartbeats 1000000
namespace Sh
open PySem PySem.Spec PyProof.Rows L2
/-! ## draws of lines, walked -/
abbrev sp__law_fraction : DSp := ⟨3, fun ws M Q => ∃ (a : Addr) (most : Int) (bs : List Int) (k : Nat), ws = [.box a, .d (.int most), .d (.list (bs.map PyData.int))] ∧ 0 ≤ most ∧ 0 < bs.length ∧ bs.length ≤ 100 ∧ (∀ b ∈ bs, 0 < b ∧ b < 16 ∧ most * b < 16) ∧ most < 16 ∧ Tin k a M ∧ k < 900000 ∧ ∀ q M', sz q ≤ 4 → Tin (k + 2) a M' → Keep a M M' → Q (.d (fr q)) M'⟩
theorem cFrac {a : Addr} {most : Int} {k : Nat} {M : MM} {Q : WK} (bs : List Int) (h1 : 0 ≤ most) (h2 : 0 < bs.length) (h3 : bs.length ≤ 100) (h4 : ∀ b ∈ bs, 0 < b ∧ b < 16 ∧ most * b < 16) (h5 : most < 16) (ht : Tin k a M) (hk : k < 900000) (q : ∀ q M', sz q ≤ 4 → Tin (k + 2) a M' → Keep a M M' → Q (.d (fr q)) M') : [W.box a, .d (.int most), .d (.list (bs.map PyData.int))].length = sp__law_fraction.n ∧ sp__law_fraction.run [.box a, .d (.int most), .d (.list (bs.map PyData.int))] M Q := ⟨rfl, a, most, bs, k, rfl, h1, h2, h3, h4, h5, ht, hk, q⟩
abbrev sp__law_drawn_angle : DSp := ⟨1, fun ws M Q => ∃ a k, ws = [.box a] ∧ Tin k a M ∧ k < 900000 ∧ ∀ q M', sz q ≤ 4 → 0 ≤ q → q < 1 → Tin (k + 2) a M' → Keep a M M' → Q (.d (fr q)) M'⟩
theorem cDang {a : Addr} {k : Nat} {M : MM} {Q : WK} (ht : Tin k a M) (hk : k < 900000) (q : ∀ q M', sz q ≤ 4 → 0 ≤ q → q < 1 → Tin (k + 2) a M' → Keep a M M' → Q (.d (fr q)) M') : [W.box a].length = sp__law_drawn_angle.n ∧ sp__law_drawn_angle.run [.box a] M Q := ⟨rfl, a, k, rfl, ht, hk, q⟩
abbrev sp__law_drawn_lead : DSp := ⟨1, fun ws M Q => ∃ a k, ws = [.box a] ∧ Tin k a M ∧ k < 900000 ∧ ∀ q M', sz q ≤ 3 → q ≠ 0 → Tin (k + 2) a M' → Keep a M M' → Q (.d (fr q)) M'⟩
theorem cDlead {a : Addr} {k : Nat} {M : MM} {Q : WK} (ht : Tin k a M) (hk : k < 900000) (q : ∀ q M', sz q ≤ 3 → q ≠ 0 → Tin (k + 2) a M' → Keep a M M' → Q (.d (fr q)) M') : [W.box a].length = sp__law_drawn_lead.n ∧ sp__law_drawn_lead.run [.box a] M Q := ⟨rfl, a, k, rfl, ht, hk, q⟩
abbrev sp__law_line : DSp := ⟨1, fun ws M Q => ∃ a k, ws = [.box a] ∧ Tin k a M ∧ k < 800000 ∧ ∀ x M', Cn x → x.fits 16 → Tin (k + 5) a M' → Keep a M M' → Q (.d x.d) M'⟩
theorem cLine {a : Addr} {k : Nat} {M : MM} {Q : WK} (ht : Tin k a M) (hk : k < 800000) (q : ∀ x M', Cn x → x.fits 16 → Tin (k + 5) a M' → Keep a M M' → Q (.d x.d) M') : [W.box a].length = sp__law_line.n ∧ sp__law_line.run [.box a] M Q := ⟨rfl, a, k, rfl, ht, hk, q⟩
abbrev sp__law_motion : DSp := ⟨1, fun ws M Q => ∃ a k, ws = [.box a] ∧ Tin k a M ∧ k < 800000 ∧ ∀ z t M', sz z ≤ 4 → sz t ≤ 4 → isAn t = true → Tin (k + 5) a M' → Keep a M M' → Q (.d (mo z t)) M'⟩
theorem cMot {a : Addr} {k : Nat} {M : MM} {Q : WK} (ht : Tin k a M) (hk : k < 800000) (q : ∀ z t M', sz z ≤ 4 → sz t ≤ 4 → isAn t = true → Tin (k + 5) a M' → Keep a M M' → Q (.d (mo z t)) M') : [W.box a].length = sp__law_motion.n ∧ sp__law_motion.run [.box a] M Q := ⟨rfl, a, k, rfl, ht, hk, q⟩
theorem int_in {L : List Int} {x : PyData} (h : x ∈ L.map PyData.int) : ∃ i ∈ L, x = .int i := by
  obtain ⟨i, hi, e⟩ := List.mem_map.mp h
  exact ⟨i, hi, e.symm⟩
theorem nb4 {n : Int} (h0 : 0 ≤ n) (h1 : n < 16) : n.natAbs < 2 ^ 4 := bits (n := 4) h0 h1
theorem divInt_an {n b : Int} (h0 : 0 ≤ n) (h1 : n < b) : 0 ≤ Rat.divInt n b ∧ Rat.divInt n b < 1 := by
  have hb : (0 : Rat) < (b : Rat) := by exact_mod_cast (show 0 < b by omega)
  have hn : (0 : Rat) ≤ (n : Rat) := by exact_mod_cast h0
  have hl : (n : Rat) < (b : Rat) := by exact_mod_cast h1
  rw [Rat.divInt_eq_div]
  have e : (n : Rat) / (b : Rat) * (b : Rat) = (n : Rat) := by grind
  generalize (n : Rat) / (b : Rat) = q at *
  constructor
  · refine Rat.not_lt.mp fun h => ?_
    have := Rat.mul_lt_mul_of_pos_right h hb
    grind
  · refine Rat.not_le.mp fun h => ?_
    have := Rat.mul_le_mul_of_nonneg_right h (show (0 : Rat) ≤ (b : Rat) by grind)
    grind
def ldL : List Rat := [⟨1, 1, by decide, by decide⟩, ⟨2, 1, by decide, by decide⟩, ⟨1, 2, by decide, by decide⟩, ⟨3, 2, by decide, by decide⟩, ⟨3, 1, by decide, by decide⟩, ⟨1, 1, by decide, by decide⟩, ⟨2, 1, by decide, by decide⟩, ⟨4, 3, by decide, by decide⟩, ⟨2, 3, by decide, by decide⟩]
theorem ldL_ok : ∀ q ∈ ldL, sz q ≤ 3 ∧ q ≠ 0 := by decide +kernel
local macro_rules | `(tactic| one_item) => `(tactic| first
  | ((with_reducible refine' cEqS ?k1 ?_); (case k1 => exact ⟨by decide +kernel, by decide +kernel⟩); (try simp only [tRR, tRF, tRL, tFR, tFF, tFL, tLR, tLF, tLL, decide_true, decide_false, Bool.not_true, Bool.not_false]))
  | ((with_reducible refine' cNeS ?k1 ?_); (case k1 => exact ⟨by decide +kernel, by decide +kernel⟩); (try simp only [tRR, tRF, tRL, tFR, tFF, tFL, tLR, tLF, tLL, decide_true, decide_false, Bool.not_true, Bool.not_false]))
  | (with_reducible refine sFnR ?_)
  | (with_reducible refine xTrue ?_)
  | (with_reducible refine xFalse ?_)
  | ((with_reducible refine' xNT ?k1 ?_); (case k1 => rfl))
  | ((with_reducible refine' xNF ?k1 ?_); (case k1 => rfl))
  | ((with_reducible refine' xNNT ?k1 ?_); (case k1 => rfl))
  | ((with_reducible refine' xNNF ?k1 ?_); (case k1 => rfl))
  | (with_reducible refine sSeq ?_) | (with_reducible refine sAsg ?_) | (with_reducible refine s2 ?_)
  | ((with_reducible refine' sVar ?k1 ?_); (case k1 => rfl))
  | (with_reducible refine sC ?_) | (with_reducible refine sCons ?_) | (with_reducible refine sNil ?_) | (with_reducible refine sN ?_) | (with_reducible refine s1 ?_)
  | ((with_reducible refine' xBind ?k1 ?_); (case k1 => rfl))
  | ((with_reducible refine' sFnE ?k1 ?_); (case k1 => rfl))
  | (with_reducible refine sIfS ?_) | (with_reducible refine sIf ?_) | (with_reducible refine sB ?_) | (with_reducible refine oCmp ?_) | (with_reducible refine xBool ?_) | (with_reducible refine sRet ?_) | (with_reducible refine sTup ?_) | (with_reducible refine sLst ?_)
  | ((with_reducible refine' xDat ?k1 ?k2 ?_); (case k1 => rfl); (case k2 => (exact Nat.le_of_ble_eq_true rfl)))
  | ((with_reducible refine' oIxT ?k1 ?_); (case k1 => rfl)) | ((with_reducible refine' oIxL ?k1 ?_); (case k1 => rfl))
  | (with_reducible refine oAdd ?_) | (with_reducible refine oSub ?_) | (with_reducible refine oNeg ?_) | (with_reducible refine oGcd ?_) | (with_reducible refine oAbs ?_) | (with_reducible refine oInt ?_)
  | (with_reducible refine oLenT ?_) | (with_reducible refine oLenL ?_) | (with_reducible refine oSlT ?_) | (with_reducible refine oSlL ?_) | (with_reducible refine oTupL ?_) | (with_reducible refine oTupT ?_)
  | (with_reducible refine cLt ?_) | (with_reducible refine cLe ?_) | (with_reducible refine cGt ?_) | (with_reducible refine cGe ?_) | (with_reducible refine cIsN (o := .isN) ?_) | (with_reducible refine cNotN ?_) | (with_reducible refine cIsB ?_) | (with_reducible refine cEqI ?_) | (with_reducible refine cNeI ?_)
  | (with_reducible refine sNotT ?_) | (with_reducible refine sAndT ?_) | (with_reducible refine sOrT ?_) | (with_reducible refine sNotV ?_) | (with_reducible refine sAndV ?_) | (with_reducible refine sOrV ?_)
  | (with_reducible refine sSl ?_) | (with_reducible refine sONone ?_) | (with_reducible refine sOSome ?_) | (with_reducible refine xInt ?_) | (with_reducible refine sChn ?_) | (with_reducible refine sPar ?_) | (with_reducible refine xTwo ?_) | (with_reducible refine sIsi ?_) | (with_reducible refine sIsi2 ?_) | (with_reducible refine xD ?_)
  | (with_reducible refine sNext ?_)
  | (with_reducible refine xT ?_) | (with_reducible refine xF ?_))
local macro_rules | `(tactic| fin_places) => `(tactic| (repeat one_item))
def b__law_fraction : List Sm := [(.asg (.nm 3) (.call 0 (.cons (.var 0) (.cons (.var 2) .nil)))), (.ret (.call 1 (.cons (.call 2 (.cons (.var 0) (.cons (.bin .add (.bin .mul (.var 1) (.var 3)) (.lit (.int 1))) .nil))) (.cons (.var 3) .nil))))]
theorem fn__law_fraction {g : Gb} (gk : GOk g) (a : At g "_law_fraction" 79) (f__law_of : FOk g 2 "_law_of" sp__law_of) (f__law_part : FOk g 2 "_law_part" sp__law_part) (f__law_take : FOk g 1 "_law_take" sp__law_take) : FOk g 3 "_law_fraction" sp__law_fraction := by
  refine FOk.of (k := 2) (G := [("_law_of", sp__law_of), ("_law_part", sp__law_part), ("_law_take", sp__law_take)]) (N := ["_law_tin", "_law_most_so", "_law_bottoms_so", "_law_bottom_so"]) (ps := ["_law_tin", "_law_most_so", "_law_bottoms_so"]) b__law_fraction a gk ⟨List.forall_mem_cons.mpr ⟨f__law_of.mono (by decide), List.forall_mem_cons.mpr ⟨f__law_part.mono (by decide), List.forall_mem_cons.mpr ⟨f__law_take.mono (by decide), fun _ h => nomatch h⟩⟩⟩⟩ ⟨rfl, rfl, rfl, by decide +kernel, rfl, by decide +kernel, by decide +kernel⟩ (fun _ _ _ _ _ _ us hl => match us, hl with | [_, _, _], _ => rfl) rfl (by decide +kernel) ?_
  intro ws M Q h
  simp only [b__law_fraction, evSs, evS, ev, evA, evT, evTs, evAnd, evOr, evO, evI, Bool.false_eq_true, reduceIte]
  obtain ⟨a, most, bs, k, rfl, hm, hl, hl2, hb, hm2, ht, hk, hq⟩ := h
  fin_places
  refine cOf (k := k) (by rw [List.length_map]; exact hl) (by rw [List.length_map]; omega) ht (by omega) (fun x M1 hx ht1 kp1 => ?_)
  obtain ⟨b, hbm, rfl⟩ := int_in hx
  obtain ⟨b0, b1, b2⟩ := hb b hbm
  fin_places
  refine oMul (mulOk (nb4 hm hm2) (nb4 (by omega) b1) (by decide)) ?_
  have p0 : 0 ≤ most * b := Int.mul_nonneg hm (by omega)
  fin_places
  refine cTake (k := k + 1) (by omega) (by omega) ht1 (by omega) (fun n M2 n0 n1 ht2 kp2 => ?_)
  fin_places
  refine cPart (by omega) (lt_of_pow (nb4 (by omega) b1) (by decide)) (lt_of_pow (nb4 n0 (by omega)) (by decide)) ?_
  try exact hq _ _ (sz_divInt (by omega) (nb4 n0 (by omega)) (nb4 (by omega) b1)) ht2 (kp1.trans kp2)
def b__law_drawn_angle : List Sm := [(.asg (.nm 1) (.call 0 (.cons (.var 0) (.cons (.lst (.cons (.lit (.int 1)) (.cons (.lit (.int 2)) (.cons (.lit (.int 4)) (.cons (.lit (.int 3)) (.cons (.lit (.int 2)) (.cons (.lit (.int 4)) (.cons (.lit (.int 6)) (.cons (.lit (.int 8)) (.cons (.lit (.int 12)) .nil)))))))))) .nil)))), (.ret (.call 1 (.cons (.call 2 (.cons (.var 0) (.cons (.var 1) .nil))) (.cons (.var 1) .nil))))]
theorem fn__law_drawn_angle {g : Gb} (gk : GOk g) (a : At g "_law_drawn_angle" 80) (f__law_of : FOk g 2 "_law_of" sp__law_of) (f__law_part : FOk g 2 "_law_part" sp__law_part) (f__law_take : FOk g 1 "_law_take" sp__law_take) : FOk g 3 "_law_drawn_angle" sp__law_drawn_angle := by
  refine FOk.of (k := 2) (G := [("_law_of", sp__law_of), ("_law_part", sp__law_part), ("_law_take", sp__law_take)]) (N := ["_law_tin", "_law_bottom_so"]) (ps := ["_law_tin"]) b__law_drawn_angle a gk ⟨List.forall_mem_cons.mpr ⟨f__law_of.mono (by decide), List.forall_mem_cons.mpr ⟨f__law_part.mono (by decide), List.forall_mem_cons.mpr ⟨f__law_take.mono (by decide), fun _ h => nomatch h⟩⟩⟩⟩ ⟨rfl, rfl, rfl, by decide +kernel, rfl, by decide +kernel, by decide +kernel⟩ (fun _ _ _ _ _ _ us hl => match us, hl with | [_], _ => rfl) rfl (by decide +kernel) ?_
  intro ws M Q h
  simp only [b__law_drawn_angle, evSs, evS, ev, evA, evT, evTs, evAnd, evOr, evO, evI, Bool.false_eq_true, reduceIte]
  obtain ⟨a, k, rfl, ht, hk, hq⟩ := h
  fin_places
  refine cOf (k := k) (by decide) (by decide) ht (by omega) (fun x M1 hx ht1 kp1 => ?_)
  obtain ⟨b, hbm, rfl⟩ := int_in (L := [1, 2, 4, 3, 2, 4, 6, 8, 12]) hx
  have hb : 0 < b ∧ b < 16 := (show ∀ b ∈ ([1, 2, 4, 3, 2, 4, 6, 8, 12] : List Int), 0 < b ∧ b < 16 by decide) b hbm
  fin_places
  refine cTake (k := k + 1) hb.1 (by omega) ht1 (by omega) (fun n M2 n0 n1 ht2 kp2 => ?_)
  fin_places
  refine cPart (by omega) (lt_of_pow (nb4 (by omega) hb.2) (by decide)) (lt_of_pow (nb4 n0 (by omega)) (by decide)) ?_
  have an := divInt_an n0 n1
  try exact hq _ _ (sz_divInt (by omega) (nb4 n0 (by omega)) (nb4 (by omega) hb.2)) an.1 an.2 ht2 (kp1.trans kp2)
def b__law_drawn_lead : List Sm := [(.asg (.nm 1) (.call 0 (.cons (.var 0) (.cons (.lst (.cons (.tup (.cons (.lit (.int 1)) (.cons (.lit (.int 1)) .nil))) (.cons (.tup (.cons (.lit (.int 2)) (.cons (.lit (.int 1)) .nil))) (.cons (.tup (.cons (.lit (.int 1)) (.cons (.lit (.int 2)) .nil))) (.cons (.tup (.cons (.lit (.int 3)) (.cons (.lit (.int 2)) .nil))) (.cons (.tup (.cons (.lit (.int 3)) (.cons (.lit (.int 1)) .nil))) (.cons (.tup (.cons (.lit (.int 1)) (.cons (.lit (.int 1)) .nil))) (.cons (.tup (.cons (.lit (.int 2)) (.cons (.lit (.int 1)) .nil))) (.cons (.tup (.cons (.lit (.int 4)) (.cons (.lit (.int 3)) .nil))) (.cons (.tup (.cons (.lit (.int 2)) (.cons (.lit (.int 3)) .nil))) .nil)))))))))) .nil)))), (.ret (.ife (.cmp .gt (.call 1 (.cons (.var 0) (.cons (.lit (.int 3)) .nil))) (.lit (.int 0))) (.var 1) (.call 2 (.cons (.var 1) .nil))))]
theorem fn__law_drawn_lead {g : Gb} (gk : GOk g) (a : At g "_law_drawn_lead" 81) (f__law_of : FOk g 2 "_law_of" sp__law_of) (f__law_take : FOk g 1 "_law_take" sp__law_take) (f__law_minus : FOk g 1 "_law_minus" sp__law_minus) : FOk g 3 "_law_drawn_lead" sp__law_drawn_lead := by
  refine FOk.of (k := 2) (G := [("_law_of", sp__law_of), ("_law_take", sp__law_take), ("_law_minus", sp__law_minus)]) (N := ["_law_tin", "_law_own"]) (ps := ["_law_tin"]) b__law_drawn_lead a gk ⟨List.forall_mem_cons.mpr ⟨f__law_of.mono (by decide), List.forall_mem_cons.mpr ⟨f__law_take.mono (by decide), List.forall_mem_cons.mpr ⟨f__law_minus.mono (by decide), fun _ h => nomatch h⟩⟩⟩⟩ ⟨rfl, rfl, rfl, by decide +kernel, rfl, by decide +kernel, by decide +kernel⟩ (fun _ _ _ _ _ _ us hl => match us, hl with | [_], _ => rfl) rfl (by decide +kernel) ?_
  intro ws M Q h
  simp only [b__law_drawn_lead, evSs, evS, ev, evA, evT, evTs, evAnd, evOr, evO, evI, Bool.false_eq_true, reduceIte]
  obtain ⟨a, k, rfl, ht, hk, hq⟩ := h
  fin_places
  refine cOf (k := k) (xs := ldL.map fr) (by decide) (by decide) ht (by omega) (fun x M1 hx ht1 kp1 => ?_)
  obtain ⟨q, hqm, rfl⟩ := List.mem_map.mp hx
  obtain ⟨q1, q2⟩ := ldL_ok q hqm
  fin_places
  refine cTake (k := k + 1) (by decide) (by decide) ht1 (by omega) (fun n M2 n0 n1 ht2 kp2 => ?_)
  fin_places
  refine xIf (fun _ => ?_) (fun _ => ?_)
  · fin_places
    try exact hq q _ q1 q2 ht2 (kp1.trans kp2)
  · fin_places
    refine cQ1 ?_
    try exact hq (-q) _ (by rw [sz_neg]; exact q1) (by grind) ht2 (kp1.trans kp2)
def b__law_line : List Sm := [(.asg (.nm 1) (.call 0 (.cons (.var 0) (.cons (.lit (.int 6)) .nil)))), (.ife (.cmp .eq (.var 1) (.lit (.int 0))) [(.ret (.tup (.cons (.lit (.str "ring")) (.cons (.call 1 (.cons (.var 0) (.cons (.lit (.int 4)) (.cons (.lst (.cons (.lit (.int 1)) (.cons (.lit (.int 2)) (.cons (.lit (.int 1)) (.cons (.lit (.int 3)) .nil))))) .nil)))) .nil))))] []), (.ife (.cmp .eq (.var 1) (.lit (.int 1))) [(.ret (.tup (.cons (.lit (.str "flute")) (.cons (.call 2 (.cons (.var 0) .nil)) .nil))))] []), (.asg (.nm 2) (.call 3 (.cons (.var 0) .nil))), (.ret (.call 4 (.cons (.var 2) (.cons (.tup (.cons (.lit (.int 0)) (.cons (.lit (.int 1)) .nil))) (.cons (.call 2 (.cons (.var 0) .nil)) .nil)))))]
theorem fn__law_line {g : Gb} (gk : GOk g) (a : At g "_law_line" 83) (f__law_take : FOk g 1 "_law_take" sp__law_take) (f__law_fraction : FOk g 3 "_law_fraction" sp__law_fraction) (f__law_drawn_angle : FOk g 3 "_law_drawn_angle" sp__law_drawn_angle) (f__law_drawn_lead : FOk g 3 "_law_drawn_lead" sp__law_drawn_lead) (f__law_lead_line : FOk g 6 "_law_lead_line" sp__law_lead_line) : FOk g 7 "_law_line" sp__law_line := by
  refine FOk.of (k := 6) (G := [("_law_take", sp__law_take), ("_law_fraction", sp__law_fraction), ("_law_drawn_angle", sp__law_drawn_angle), ("_law_drawn_lead", sp__law_drawn_lead), ("_law_lead_line", sp__law_lead_line)]) (N := ["_law_tin", "_law_kind_so", "_law_lead_so"]) (ps := ["_law_tin"]) b__law_line a gk ⟨List.forall_mem_cons.mpr ⟨f__law_take.mono (by decide), List.forall_mem_cons.mpr ⟨f__law_fraction.mono (by decide), List.forall_mem_cons.mpr ⟨f__law_drawn_angle.mono (by decide), List.forall_mem_cons.mpr ⟨f__law_drawn_lead.mono (by decide), List.forall_mem_cons.mpr ⟨f__law_lead_line.mono (by decide), fun _ h => nomatch h⟩⟩⟩⟩⟩⟩ ⟨rfl, rfl, rfl, by decide +kernel, rfl, by decide +kernel, by decide +kernel⟩ (fun _ _ _ _ _ _ us hl => match us, hl with | [_], _ => rfl) rfl (by decide +kernel) ?_
  intro ws M Q h
  simp only [b__law_line, evSs, evS, ev, evA, evT, evTs, evAnd, evOr, evO, evI, Bool.false_eq_true, reduceIte]
  obtain ⟨a, k, rfl, ht, hk, hq⟩ := h
  fin_places
  refine cTake (k := k) (by decide) (by decide) ht (by omega) (fun n M1 n0 n1 ht1 kp1 => ?_)
  fin_places
  refine xIf (fun _ => ?_) (fun _ => ?_)
  · fin_places
    refine cFrac (k := k + 1) [1, 2, 1, 3] (by decide) (by decide) (by decide) (by decide) (by decide) ht1 (by omega) (fun q M2 s2 ht2 kp2 => ?_)
    fin_places
    try exact hq (.ring q) _ trivial (show sz q ≤ 16 by omega) (ht2.mono (by omega)) (kp1.trans kp2)
  · fin_places
    refine xIf (fun _ => ?_) (fun _ => ?_)
    · fin_places
      refine cDang (k := k + 1) ht1 (by omega) (fun q M2 s2 q0 q1 ht2 kp2 => ?_)
      fin_places
      try exact hq (.flute q) _ ⟨q0, q1⟩ (show sz q ≤ 16 by omega) (ht2.mono (by omega)) (kp1.trans kp2)
    · fin_places
      refine cDlead (k := k + 1) ht1 (by omega) (fun l M2 s2 l0 ht2 kp2 => ?_)
      fin_places
      refine cDang (k := k + 3) ht2 (by omega) (fun q M3 s3 q0 q1 ht3 kp3 => ?_)
      fin_places
      have e1 := sz_mul l q
      have e2 : sz (0 - l * q) = sz (l * q) := by rw [show 0 - l * q = -(l * q) by grind, sz_neg]
      have e3 := rnd_sz (0 - l * q) l0
      refine cLawLead (p := 0) l0 s2 (by rw [sz_0]; decide) (by omega) ?_
      exact hq (.lead l (rnd (0 - l * q) l)) _ ⟨l0, (rnd_spec _ l0).2⟩ ⟨l0, s2, by omega⟩ (ht3.mono (by omega)) ((kp1.trans kp2).trans kp3)
def b__law_motion : List Sm := [(.asg (.nm 1) (.call 0 (.cons (.var 0) (.cons (.lit (.int 3)) (.cons (.lst (.cons (.lit (.int 1)) (.cons (.lit (.int 2)) (.cons (.lit (.int 4)) (.cons (.lit (.int 3)) .nil))))) .nil))))), (.ret (.tup (.cons (.ife (.cmp .gt (.call 1 (.cons (.var 0) (.cons (.lit (.int 3)) .nil))) (.lit (.int 0))) (.var 1) (.call 2 (.cons (.var 1) .nil))) (.cons (.call 3 (.cons (.var 0) .nil)) .nil))))]
theorem fn__law_motion {g : Gb} (gk : GOk g) (a : At g "_law_motion" 86) (f__law_fraction : FOk g 3 "_law_fraction" sp__law_fraction) (f__law_take : FOk g 1 "_law_take" sp__law_take) (f__law_minus : FOk g 1 "_law_minus" sp__law_minus) (f__law_drawn_angle : FOk g 3 "_law_drawn_angle" sp__law_drawn_angle) : FOk g 4 "_law_motion" sp__law_motion := by
  refine FOk.of (k := 3) (G := [("_law_fraction", sp__law_fraction), ("_law_take", sp__law_take), ("_law_minus", sp__law_minus), ("_law_drawn_angle", sp__law_drawn_angle)]) (N := ["_law_tin", "_law_own"]) (ps := ["_law_tin"]) b__law_motion a gk ⟨List.forall_mem_cons.mpr ⟨f__law_fraction.mono (by decide), List.forall_mem_cons.mpr ⟨f__law_take.mono (by decide), List.forall_mem_cons.mpr ⟨f__law_minus.mono (by decide), List.forall_mem_cons.mpr ⟨f__law_drawn_angle.mono (by decide), fun _ h => nomatch h⟩⟩⟩⟩⟩ ⟨rfl, rfl, rfl, by decide +kernel, rfl, by decide +kernel, by decide +kernel⟩ (fun _ _ _ _ _ _ us hl => match us, hl with | [_], _ => rfl) rfl (by decide +kernel) ?_
  intro ws M Q h
  simp only [b__law_motion, evSs, evS, ev, evA, evT, evTs, evAnd, evOr, evO, evI, Bool.false_eq_true, reduceIte]
  obtain ⟨a, k, rfl, ht, hk, hq⟩ := h
  fin_places
  refine cFrac (k := k) [1, 2, 4, 3] (by decide) (by decide) (by decide) (by decide) (by decide) ht (by omega) (fun q M1 s1 ht1 kp1 => ?_)
  fin_places
  refine cTake (k := k + 2) (by decide) (by decide) ht1 (by omega) (fun n M2 n0 n1 ht2 kp2 => ?_)
  fin_places
  refine xIf (fun _ => ?_) (fun _ => ?_)
  · fin_places
    refine cDang (k := k + 3) ht2 (by omega) (fun t M3 s3 t0 t1 ht3 kp3 => ?_)
    fin_places
    try exact hq q t _ s1 s3 (decide_eq_true ⟨t0, t1⟩) ht3 ((kp1.trans kp2).trans kp3)
  · fin_places
    refine cQ1 ?_
    fin_places
    refine cDang (k := k + 3) ht2 (by omega) (fun t M3 s3 t0 t1 ht3 kp3 => ?_)
    fin_places
    try exact hq (-q) t _ (by rw [sz_neg]; exact s1) s3 (decide_eq_true ⟨t0, t1⟩) ht3 ((kp1.trans kp2).trans kp3)
end Sh
set_option maxHeartbeats 1000000
namespace Sh
open PySem PySem.Spec PyProof.Rows L2
/-! ## a drawn band, walked -/
theorem Ln.nk (x y : Ln) : toNK x.d = toNK y.d ↔ x = y := ⟨fun h => Ln.inj _ _ (key_inj (Ln.nob x) (Ln.nob y) (Ln.key x) h), fun h => by rw [h]⟩
abbrev encT (T : List Pr) : List (PyData × PyData) := T.map fun p => (p.1.d, PyData.int p.2)
theorem dfind_ln {α : Type} (f : Int → α) (T : List Pr) (x : Ln) : dfind (T.map fun p => (p.1.d, f p.2)) x.d = (T.find? fun p => decide (p.1 = x)).map fun p => f p.2 := by
  unfold dfind
  rw [List.find?_map, Option.map_map]
  have e : ((fun p : PyData × α => decide (toNK p.1 = toNK x.d)) ∘ fun p : Pr => (p.1.d, f p.2)) = fun p : Pr => decide (p.1 = x) := funext fun p => by
    show decide (toNK p.1.d = toNK x.d) = _
    rw [Bool.eq_iff_iff, decide_eq_true_eq, decide_eq_true_eq]
    exact Ln.nk _ _
  rw [e]
  rfl
theorem find_ln {T : List Pr} (h : (T.map (·.1)).Nodup) {p : Pr} (hp : p ∈ T) : T.find? (fun q => decide (q.1 = p.1)) = some p := by
  cases e : T.find? fun q => decide (q.1 = p.1) with
  | none => exact absurd (decide_eq_true rfl) (List.find?_eq_none.mp e p hp)
  | some q =>
    have h1 := List.find?_some e
    have h1 : q.1 = p.1 := of_decide_eq_true h1
    rw [map_fst_inj h (List.mem_of_find?_eq_some e) hp h1]
def putL (T : List Pr) (x : Ln) (n : Int) : List Pr := if x ∈ T.map (·.1) then T.map (fun p => if p.1 = x then (x, n) else p) else T ++ [(x, n)]
theorem dput_ln (T : List Pr) (x : Ln) (n : Int) : dput (encT T) x.d (.int n) = encT (putL T x n) := by
  unfold dput
  rw [show dfind (encT T) x.d = (T.find? fun p => decide (p.1 = x)).map fun p => PyData.int p.2 from dfind_ln PyData.int T x]
  unfold putL
  by_cases h : x ∈ T.map (·.1)
  · have : ((T.find? fun p => decide (p.1 = x)).map fun p => PyData.int p.2).isSome = true := by
      rw [Option.isSome_map]
      obtain ⟨p, hp, e⟩ := List.mem_map.mp h
      exact List.find?_isSome.mpr ⟨p, hp, decide_eq_true e⟩
    rw [if_pos this, if_pos h]
    unfold encT
    rw [List.map_map, List.map_map]
    refine List.map_congr_left fun p _ => ?_
    show (if toNK p.1.d = toNK x.d then (p.1.d, PyData.int n) else (p.1.d, .int p.2)) = _
    by_cases e : p.1 = x
    · rw [if_pos ((Ln.nk _ _).mpr e)]
      show _ = ((if p.1 = x then (x, n) else p).1.d, PyData.int (if p.1 = x then (x, n) else p).2)
      rw [if_pos e, e]
    · rw [if_neg fun z => e ((Ln.nk _ _).mp z)]
      show _ = ((if p.1 = x then (x, n) else p).1.d, PyData.int (if p.1 = x then (x, n) else p).2)
      rw [if_neg e]
  · have : ¬ ((T.find? fun p => decide (p.1 = x)).map fun p => PyData.int p.2).isSome = true := by
      rw [Option.isSome_map]
      intro z
      obtain ⟨p, hp, e⟩ := List.find?_isSome.mp z
      exact h (List.mem_map.mpr ⟨p, hp, of_decide_eq_true e⟩)
    rw [if_neg this, if_neg h]
    unfold encT
    rw [List.map_append]
    rfl
structure GT' (T : List Pr) : Prop where
  nd : (T.map (·.1)).Nodup
  ok : ∀ p ∈ T, Cn p.1 ∧ p.1.fits 16
theorem GT'.put {T : List Pr} (h : GT' T) {x : Ln} (hc : Cn x) (hf : x.fits 16) (n : Int) : GT' (putL T x n) ∧ (putL T x n).length ≤ T.length + 1 := by
  unfold putL
  by_cases hx : x ∈ T.map (·.1)
  · rw [if_pos hx]
    refine ⟨⟨?_, fun p hp => ?_⟩, by rw [List.length_map]; omega⟩
    · rw [List.map_map]
      have : T.map ((fun p : Pr => p.1) ∘ fun p => if p.1 = x then (x, n) else p) = T.map (·.1) := List.map_congr_left fun p _ => by
        show (if p.1 = x then (x, n) else p).1 = p.1
        by_cases e : p.1 = x
        · rw [if_pos e]; exact e.symm
        · rw [if_neg e]
      show (T.map ((fun p : Pr => p.1) ∘ fun p => if p.1 = x then (x, n) else p)).Nodup
      rw [this]
      exact h.nd
    · obtain ⟨q, hq, rfl⟩ := List.mem_map.mp hp
      split
      · exact ⟨hc, hf⟩
      · exact h.ok q hq
  · rw [if_neg hx]
    refine ⟨⟨?_, fun p hp => ?_⟩, by rw [List.length_append]; simp⟩
    · rw [List.map_append]
      exact nodup_snoc h.nd hx
    · rcases List.mem_append.mp hp with hp | hp
      · exact h.ok p hp
      · rw [List.mem_singleton.mp hp]; exact ⟨hc, hf⟩
theorem xTrue {A B : Prop} (q : A) : if True then A else B := by rw [if_pos trivial]; exact q
theorem xFalse {A B : Prop} (q : B) : if False then A else B := by rw [if_neg id]; exact q
section
variable {δ : En} {M : MM} {Q : WK} {DD : EndsD} {re ro rk ra : RdE} {rA : RdA} {QI : List W → MM → Prop}
theorem sPut (q : re δ M fun v M1 => ∃ x, v = .d x ∧ ro δ M1 fun w M2 => ∃ a, w = .box a ∧ rk δ M2 fun z M3 => ∃ kvs kd, M3 a = some (.m kvs) ∧ z = .d kd ∧ KeyD kd ∧ kvs.length < 90000 ∧ DD.nx δ (mset M3 a (.m (dput kvs kd x)))) : rdPut re ro rk DD δ M := q
theorem sKeys (q : ra δ M fun w M1 => ∃ kvs, w = .dct kvs ∧ QI (kvs.map fun p => .d p.1) M1) : rdKeysI ra δ M QI := q
theorem sRng (q : rA δ M fun ws M1 => ∃ n, ws = [.d (.int n)] ∧ (-(2 ^ 62) ≤ n ∧ n < 2 ^ 62) ∧ QI (rngD n) M1) : rdRngI rA δ M QI := q
theorem sEnum (q : rA δ M fun ws M1 => ∃ xs, ws = [.d (.list xs)] ∧ QI (enumD xs) M1) : rdEnumI rA δ M QI := q
theorem sNew {g : Bool} (q : ∀ a, M a = none → Q (.box a) (mset M a (if g then .g [] else .m []))) : rdNew g δ M Q := q
theorem sGhoM {i : Nat} {a : Addr} {kvs : List (PyData × PyData)} (h : δ[i]? = some (some (.box a))) (hm : M a = some (.m kvs)) (q : DD.nx (δ.set i (some (.dct kvs))) (mdel M a)) : rdGho0 i DD δ M := ⟨a, h, .inr (.inl ⟨kvs, hm, q⟩)⟩
end
structure DrB (b : Nat) (n : Nat) (B : List Pr) : Prop where
  gd : Gd B
  st : kPr.Srt B
  fits : ∀ x ∈ B, x.1.fits b
  len : B.length ≤ n
abbrev sp__law_band : DSp := ⟨2, fun ws M Q => ∃ a n k, ws = [.box a, .d (.int ((n : Nat) : Int))] ∧ n ≤ 5 ∧ Tin k a M ∧ k < 700000 ∧ ∀ B M', DrB 16 n B → Tin (k + 40) a M' → Keep a M M' → Q (.d (bD B)) M'⟩
theorem cBand {a : Addr} {n k : Nat} {M : MM} {Q : WK} (hn : n ≤ 5) (ht : Tin k a M) (hk : k < 700000) (q : ∀ B M', DrB 16 n B → Tin (k + 40) a M' → Keep a M M' → Q (.d (bD B)) M') : [W.box a, .d (.int ((n : Nat) : Int))].length = sp__law_band.n ∧ sp__law_band.run [.box a, .d (.int ((n : Nat) : Int))] M Q := ⟨rfl, a, n, k, rfl, hn, ht, hk, q⟩
structure BI (M0 : MM) (a b : Addr) (n k0 : Nat) (R : List Nat) (T : List Pr) (x : Ln) (M : MM) : Prop where
  g : GT' T
  len : T.length + R.length ≤ n
  t : ∃ k, Tin k a M ∧ k + 7 * R.length ≤ k0
  at_ : M b = some (.m (encT T))
  kp : ∀ c, c ≠ a → c ≠ b → M c = M0 c
  cn : Cn x
  ft : x.fits 16
  ab : a ≠ b
theorem Tin.set {k : Nat} {a b : Addr} {M : MM} {o : MO} (h : Tin k a M) (ne : a ≠ b) : Tin k a (mset M b o) := by
  obtain ⟨x, y, z, h1, r⟩ := h
  exact ⟨x, y, z, by rw [mset_ne ne]; exact h1, r⟩
theorem Tin.del {k : Nat} {a b : Addr} {M : MM} (h : Tin k a M) (ne : a ≠ b) : Tin k a (mdel M b) := by
  obtain ⟨x, y, z, h1, r⟩ := h
  exact ⟨x, y, z, by unfold mdel; rw [if_neg ne]; exact h1, r⟩
theorem Tin.ne {k : Nat} {a b : Addr} {M : MM} (h : Tin k a M) (hb : M b = none) : a ≠ b := fun e => by
  obtain ⟨x, y, z, h1, _⟩ := h
  rw [e, hb] at h1
  cases h1
theorem rng_nat (n : Nat) : rngD ((n : Nat) : Int) = (List.range n).map fun i => W.d (.int ((i : Nat) : Int)) := by
  unfold rngD
  rw [Int.toNat_natCast]
local macro_rules | `(tactic| one_item) => `(tactic| first
  | ((with_reducible refine' cEqS ?k1 ?_); (case k1 => exact ⟨by decide +kernel, by decide +kernel⟩); (try simp only [tRR, tRF, tRL, tFR, tFF, tFL, tLR, tLF, tLL, decide_true, decide_false, Bool.not_true, Bool.not_false]))
  | ((with_reducible refine' cNeS ?k1 ?_); (case k1 => exact ⟨by decide +kernel, by decide +kernel⟩); (try simp only [tRR, tRF, tRL, tFR, tFF, tFL, tLR, tLF, tLL, decide_true, decide_false, Bool.not_true, Bool.not_false]))
  | (with_reducible refine sFnR ?_)
  | (with_reducible refine xTrue ?_)
  | (with_reducible refine xFalse ?_)
  | ((with_reducible refine' xNT ?k1 ?_); (case k1 => rfl))
  | ((with_reducible refine' xNF ?k1 ?_); (case k1 => rfl))
  | ((with_reducible refine' xNNT ?k1 ?_); (case k1 => rfl))
  | ((with_reducible refine' xNNF ?k1 ?_); (case k1 => rfl))
  | (with_reducible refine sSeq ?_) | (with_reducible refine sAsg ?_) | (with_reducible refine s2 ?_)
  | ((with_reducible refine' sVar ?k1 ?_); (case k1 => rfl))
  | (with_reducible refine sC ?_) | (with_reducible refine sCons ?_) | (with_reducible refine sNil ?_) | (with_reducible refine sN ?_) | (with_reducible refine s1 ?_)
  | ((with_reducible refine' xBind ?k1 ?_); (case k1 => rfl))
  | ((with_reducible refine' sFnE ?k1 ?_); (case k1 => rfl))
  | (with_reducible refine sIfS ?_) | (with_reducible refine sIf ?_) | (with_reducible refine sB ?_) | (with_reducible refine oCmp ?_) | (with_reducible refine xBool ?_) | (with_reducible refine sRet ?_) | (with_reducible refine sTup ?_) | (with_reducible refine sLst ?_)
  | ((with_reducible refine' xDat ?k1 ?k2 ?_); (case k1 => rfl); (case k2 => (exact Nat.le_of_ble_eq_true rfl)))
  | ((with_reducible refine' oIxT ?k1 ?_); (case k1 => rfl)) | ((with_reducible refine' oIxL ?k1 ?_); (case k1 => rfl))
  | (with_reducible refine oAdd ?_) | (with_reducible refine oSub ?_) | (with_reducible refine oNeg ?_) | (with_reducible refine oGcd ?_) | (with_reducible refine oAbs ?_) | (with_reducible refine oInt ?_)
  | (with_reducible refine oLenT ?_) | (with_reducible refine oLenL ?_) | (with_reducible refine oSlT ?_) | (with_reducible refine oSlL ?_) | (with_reducible refine oTupL ?_) | (with_reducible refine oTupT ?_)
  | (with_reducible refine cLt ?_) | (with_reducible refine cLe ?_) | (with_reducible refine cGt ?_) | (with_reducible refine cGe ?_) | (with_reducible refine cIsN (o := .isN) ?_) | (with_reducible refine cNotN ?_) | (with_reducible refine cIsB ?_) | (with_reducible refine cEqI ?_) | (with_reducible refine cNeI ?_)
  | (with_reducible refine sNotT ?_) | (with_reducible refine sAndT ?_) | (with_reducible refine sOrT ?_) | (with_reducible refine sNotV ?_) | (with_reducible refine sAndV ?_) | (with_reducible refine sOrV ?_)
  | (with_reducible refine sSl ?_) | (with_reducible refine sONone ?_) | (with_reducible refine sOSome ?_) | (with_reducible refine xInt ?_) | (with_reducible refine sChn ?_) | (with_reducible refine sPar ?_) | (with_reducible refine xTwo ?_) | (with_reducible refine sIsi ?_) | (with_reducible refine sIsi2 ?_) | (with_reducible refine xD ?_)
  | (with_reducible refine sNext ?_)
  | (with_reducible refine xT ?_) | (with_reducible refine xF ?_))
local macro_rules | `(tactic| fin_places) => `(tactic| (repeat one_item))
def b__law_band : List Sm := [(.asg (.nm 2) (.new false)), (.asg (.nm 3) (.call 0 (.cons (.var 0) .nil))), (.for_ (.nm 4) (.rng (.cons (.var 1) .nil)) [(.ife (.or_ (.cons (.cmp .ne (.ix (.var 3) (.lit (.int 0))) (.lit (.str "lead"))) (.cons (.cmp .eq (.call 1 (.cons (.var 0) (.cons (.lit (.int 3)) .nil))) (.lit (.int 0))) .nil))) [(.asg (.nm 3) (.call 0 (.cons (.var 0) .nil)))] [(.asg (.nm 3) (.call 2 (.cons (.ix (.var 3) (.lit (.int 1))) (.cons (.tup (.cons (.lit (.int 0)) (.cons (.lit (.int 1)) .nil))) (.cons (.call 3 (.cons (.var 0) .nil)) .nil)))))]), (.put (.var 2) (.var 3) (.bin .add (.lit (.int 1)) (.call 4 (.cons (.var 0) (.cons (.lst (.cons (.lit (.int 0)) (.cons (.lit (.int 0)) (.cons (.lit (.int 1)) (.cons (.lit (.int 2)) .nil))))) .nil)))))]), (.gho 2), (.ret (.blt .tuple (.cons (.blt .sorted (.cons (.lc (.tup (.cons (.var 5) (.cons (.ix (.var 2) (.var 5)) .nil))) (.nm 5) (.keys (.var 2)) .yes [5]) .nil)) .nil)))]
theorem fn__law_band {g : Gb} (gk : GOk g) (a : At g "_law_band" 87) (f__law_line : FOk g 7 "_law_line" sp__law_line) (f__law_take : FOk g 1 "_law_take" sp__law_take) (f__law_lead_line : FOk g 6 "_law_lead_line" sp__law_lead_line) (f__law_drawn_angle : FOk g 3 "_law_drawn_angle" sp__law_drawn_angle) (f__law_of : FOk g 2 "_law_of" sp__law_of) : FOk g 8 "_law_band" sp__law_band := by
  refine FOk.of (k := 7) (G := [("_law_line", sp__law_line), ("_law_take", sp__law_take), ("_law_lead_line", sp__law_lead_line), ("_law_drawn_angle", sp__law_drawn_angle), ("_law_of", sp__law_of)]) (N := ["_law_tin", "_law_many_so", "_law_found", "_law_last_so", "_law_lap", "_law_line_so"]) (ps := ["_law_tin", "_law_many_so"]) b__law_band a gk ⟨List.forall_mem_cons.mpr ⟨f__law_line.mono (by decide), List.forall_mem_cons.mpr ⟨f__law_take.mono (by decide), List.forall_mem_cons.mpr ⟨f__law_lead_line.mono (by decide), List.forall_mem_cons.mpr ⟨f__law_drawn_angle.mono (by decide), List.forall_mem_cons.mpr ⟨f__law_of.mono (by decide), fun _ h => nomatch h⟩⟩⟩⟩⟩⟩ ⟨rfl, rfl, rfl, by decide +kernel, rfl, by decide +kernel, by decide +kernel⟩ (fun _ _ _ _ _ _ us hl => match us, hl with | [_, _], _ => rfl) rfl (by decide +kernel) ?_
  intro ws M Q h
  simp only [b__law_band, evSs, evS, ev, evA, evT, evTs, evAnd, evOr, evO, evI, Bool.false_eq_true, reduceIte]
  obtain ⟨a, n, k, rfl, hn, ht, hk, hq⟩ := h
  fin_places
  refine sNew (fun b hb => ?_)
  have ab := ht.ne hb
  have ht0 : Tin k a (mset M b (.m [])) := ht.set ab
  fin_places
  rw [show (if false = true then MO.g [] else MO.m []) = MO.m [] from rfl]
  refine cLine (k := k) ht0 (by omega) (fun x0 M1 c0 f0 ht1 kp1 => ?_)
  fin_places
  refine sFor (sRng ?_)
  fin_places
  refine ⟨_, rfl, ⟨by omega, by omega⟩, ?_⟩
  rw [rng_nat]
  refine for_inv (fun i : Nat => W.d (.int ((i : Nat) : Int))) (fun R δ' M' => ∃ T x v4 v5, BI M a b n (k + 40) R T x M' ∧ δ' = [some (.box a), some (.d (.int ((n : Nat) : Int))), some (.box b), some (.d x.d), v4, v5]) ?_ ?_ (List.range n) _ _ ⟨[], x0, none, none, ⟨⟨.nil, fun p hp => (nomatch hp)⟩, by rw [List.length_range]; exact Nat.le_of_eq (Nat.zero_add _), ⟨k + 5, ht1, by rw [List.length_range]; omega⟩, by rw [kp1 b ab.symm, mset_same]; rfl, fun c h1 h2 => by rw [kp1 c h1, mset_ne h2], c0, f0, ab⟩, rfl⟩
  · rintro i R δ' M' K ⟨T, x, v4, v5, bi, rfl⟩ hK
    refine ⟨_, rfl, ?_⟩
    obtain ⟨j, tj, hj⟩ := bi.t
    rw [List.length_cons] at hj
    have len := bi.len
    rw [List.length_cons] at len
    -- behind the new line
    have fin : ∀ (y : Ln) (M2 : MM), Cn y → y.fits 16 → Tin (j + 6) a M2 → Keep a M' M2 → ∀ (n' : Int) (M3 : MM), Tin (j + 7) a M3 → Keep a M2 M3 → K [some (.box a), some (.d (.int ((n : Nat) : Int))), some (.box b), some (.d y.d), some (.d (.int ((i : Nat) : Int))), v5] (mset M3 b (.m (dput (encT T) y.d (.int n')))) := fun y M2 cy fy t2 kp2 n' M3 t3 kp3 => by
      rw [dput_ln]
      have g2 := bi.g.put cy fy n'
      exact hK _ _ ⟨putL T y n', y, _, _, ⟨g2.1, by omega, ⟨j + 7, t3.set ab, by omega⟩, mset_same, fun c h1 h2 => by rw [mset_ne h2, kp3 c h1, kp2 c h1, bi.kp c h1 h2], cy, fy, ab⟩, rfl⟩
    have tail : ∀ (y : Ln) (M2 : MM), Cn y → y.fits 16 → Tin (j + 6) a M2 → Keep a M' M2 → ∀ M3, M3 = M2 → ∀ Q : (Addr → Option MO) → PyData → Prop, (∀ (n' : Int) (M4 : MM), n' ∈ [0, 0, 1, 2] → Tin (j + 7) a M4 → Keep a M2 M4 → Q M4 (.int n')) → (∀ x M4, x ∈ [PyData.int 0, .int 0, .int 1, .int 2] → Tin (j + 6 + 1) a M4 → Keep a M2 M4 → Q M4 x) := fun y M2 cy fy t2 kp2 M3 e Q h x M4 hx t4 kp4 => by
      obtain ⟨n', hn', rfl⟩ := int_in (L := [0, 0, 1, 2]) hx
      exact h n' M4 hn' t4 kp4
    have at3 : ∀ M2 M3 : MM, Keep a M' M2 → Keep a M2 M3 → M3 b = some (.m (encT T)) := fun M2 M3 k1 k2 => by rw [k2 b ab.symm, k1 b ab.symm]; exact bi.at_
    have small : (encT T).length < 90000 := by rw [List.length_map]; omega
    rcases x with q | q | ⟨l, p⟩
    · simp only [Ln.d]
      fin_places
      refine cLine (k := j) tj (by omega) (fun y M2 cy fy t2 kp2 => ?_)
      fin_places
      refine sPut ?_
      fin_places
      refine cOf (k := j + 6) (by decide) (by decide) (t2.mono (by omega)) (by omega) (fun z M3 hz t3 kp3 => ?_)
      obtain ⟨n', hn', rfl⟩ := int_in (L := [0, 0, 1, 2]) hz
      fin_places
      refine ⟨_, rfl, ?_⟩
      fin_places
      refine ⟨_, _, at3 M2 M3 kp2 kp3, rfl, Ln.key y, small, ?_⟩
      exact fin y M2 cy fy (t2.mono (by omega)) kp2 _ M3 t3 kp3
    · simp only [Ln.d]
      fin_places
      refine cLine (k := j) tj (by omega) (fun y M2 cy fy t2 kp2 => ?_)
      fin_places
      refine sPut ?_
      fin_places
      refine cOf (k := j + 6) (by decide) (by decide) (t2.mono (by omega)) (by omega) (fun z M3 hz t3 kp3 => ?_)
      obtain ⟨n', hn', rfl⟩ := int_in (L := [0, 0, 1, 2]) hz
      fin_places
      refine ⟨_, rfl, ?_⟩
      fin_places
      refine ⟨_, _, at3 M2 M3 kp2 kp3, rfl, Ln.key y, small, ?_⟩
      exact fin y M2 cy fy (t2.mono (by omega)) kp2 _ M3 t3 kp3
    · simp only [Ln.d]
      fin_places
      refine cTake (k := j) (by decide) (by decide) tj (by omega) (fun w M1' w0 w1 t1' kp1' => ?_)
      fin_places
      refine xIf (fun _ => ?_) (fun _ => ?_)
      · fin_places
        refine cLine (k := j + 1) t1' (by omega) (fun y M2 cy fy t2 kp2 => ?_)
        fin_places
        refine sPut ?_
        fin_places
        refine cOf (k := j + 6) (by decide) (by decide) (t2.mono (by omega)) (by omega) (fun z M3 hz t3 kp3 => ?_)
        obtain ⟨n', hn', rfl⟩ := int_in (L := [0, 0, 1, 2]) hz
        fin_places
        refine ⟨_, rfl, ?_⟩
        fin_places
        refine ⟨_, _, at3 M2 M3 (kp1'.trans kp2) kp3, rfl, Ln.key y, small, ?_⟩
        exact fin y M2 cy fy (t2.mono (by omega)) (kp1'.trans kp2) _ M3 t3 kp3
      · obtain ⟨l0, l1, _⟩ := bi.ft
        fin_places
        refine cDang (k := j + 1) t1' (by omega) (fun q M2 s2 q0 q1 t2 kp2 => ?_)
        fin_places
        have e1 := sz_mul l q
        have e2 : sz (0 - l * q) = sz (l * q) := by rw [show 0 - l * q = -(l * q) by grind, sz_neg]
        have e3 := rnd_sz (0 - l * q) l0
        refine cLawLead (p := 0) l0 l1 (by rw [sz_0]; decide) (by omega) ?_
        have cy : Cn (.lead l (rnd (0 - l * q) l)) := ⟨l0, (rnd_spec _ l0).2⟩
        have fy : Ln.fits 16 (.lead l (rnd (0 - l * q) l)) := ⟨l0, l1, by omega⟩
        generalize Ln.lead l (rnd (0 - l * q) l) = y at *
        fin_places
        refine sPut ?_
        fin_places
        refine cOf (k := j + 6) (by decide) (by decide) (t2.mono (by omega)) (by omega) (fun z M3 hz t3 kp3 => ?_)
        obtain ⟨n', hn', rfl⟩ := int_in (L := [0, 0, 1, 2]) hz
        fin_places
        refine ⟨_, rfl, ?_⟩
        fin_places
        refine ⟨_, _, at3 M2 M3 (kp1'.trans kp2) kp3, rfl, Ln.key y, small, ?_⟩
        exact fin y M2 cy fy (t2.mono (by omega)) (kp1'.trans kp2) _ M3 t3 kp3
  · rintro δ' M' ⟨T, x, v4, v5, bi, rfl⟩
    obtain ⟨j, tj, hj⟩ := bi.t
    have len := bi.len
    rw [List.length_nil] at hj len
    fin_places
    refine sGhoM rfl bi.at_ ?_
    fin_places
    refine sLc (sKeys ?_)
    fin_places
    refine ⟨_, rfl, by rw [List.length_map, List.length_map]; omega, ?_⟩
    rw [List.map_map]
    refine lc_map (fun p : Pr => W.d p.1.d) Pr.d _ T (fun p _ => rfl) (fun p hp Q' q => ?_) ?_
    · fin_places
      refine ⟨_, _, rfl, Ln.key p.1, (dfind_ln PyData.int T p.1).trans (by rw [find_ln bi.g.nd hp]; rfl), ?_⟩
      fin_places
      try exact q
    · obtain ⟨B, pB, sB, eB⟩ := kPr.sorted T
      have eB' : sortD (T.map Pr.d) = B.map Pr.d := eB
      fin_places
      refine oSorted (kPr.sortOk T) ?_
      rw [eB']
      fin_places
      have gd : Gd T := ⟨fun x hx => (bi.g.ok x hx).1, bi.g.nd⟩
      refine hq B _ ⟨gd.perm pB, sB, fun x hx => (bi.g.ok x (pB.mem_iff.mp hx)).2, by rw [pB.length_eq]; omega⟩ ((tj.del ab).mono (by omega)) fun c hc => ?_
      unfold mdel
      by_cases e : c = b
      · rw [if_pos e, e, hb]
      · rw [if_neg e]; exact bi.kp c hc e
end Sh
set_option maxHeartbeats 1000000
namespace Sh
open PySem PySem.Spec PyProof.Rows L2
/-! ## a band bent, walked -/
theorem cutTake (xs : List PyData) (k : Nat) : cutD xs none (some ((k : Nat) : Int)) = xs.take k := by
  unfold cutD
  rw [HT.sIx_none, HT.sIx_nat, List.drop_zero, Nat.sub_zero]
  by_cases h : k ≤ xs.length
  · rw [Nat.min_eq_left h]
  · rw [Nat.min_eq_right (by omega), List.take_of_length_le (Nat.le_refl _), List.take_of_length_le (by omega)]
theorem cutDrop (xs : List PyData) (k : Nat) : cutD xs (some ((k : Nat) : Int)) none = xs.drop k := by
  unfold cutD
  rw [HT.sIx_none, HT.sIx_nat]
  by_cases h : k ≤ xs.length
  · rw [Nat.min_eq_left h, List.take_of_length_le (by rw [List.length_drop]; omega)]
  · rw [Nat.min_eq_right (by omega), Nat.sub_self, List.take_zero, List.drop_eq_nil_of_le (by omega)]
theorem at_nat {xs : List PyData} {j : Nat} {x : PyData} (h : xs[j]? = some x) : atI xs ((j : Nat) : Int) = some x := by
  have hj := (List.getElem?_eq_some_iff.mp h).1
  unfold atI ixN
  have e : (¬ ((j : Int) < 0)) := by omega
  simp [e, hj]
  exact (List.getElem?_eq_some_iff.mp h).2
abbrev sp__law_put : DSp := ⟨3, fun ws M Q => ∃ (xs : List PyData) (k : Nat) (d : PyData), ws = [.d (.tuple xs), .d (.int ((k : Nat) : Int)), .d d] ∧ xs.length ≤ 1000 ∧ Q (.d (.tuple (xs.take k ++ [d] ++ xs.drop (k + 1)))) M⟩
theorem cPut {xs : List PyData} {k : Nat} {d : PyData} {M : MM} {Q : WK} (h : xs.length ≤ 1000) (q : Q (.d (.tuple (xs.take k ++ [d] ++ xs.drop (k + 1)))) M) : [W.d (.tuple xs), .d (.int ((k : Nat) : Int)), .d d].length = sp__law_put.n ∧ sp__law_put.run [.d (.tuple xs), .d (.int ((k : Nat) : Int)), .d d] M Q := ⟨rfl, xs, k, d, rfl, h, q⟩
theorem le_fst {x y : Pr} (h : x.1 ≠ y.1) : kPr.le x y = leD x.1.d y.1.d := by
  have e : PyData.eqv y.1.d x.1.d = false := by
    cases q : PyData.eqv y.1.d x.1.d with
    | false => rfl
    | true => exact absurd (Ln.inj _ _ (eqv_eq _ _ (Ln.nob _) (Ln.nob _) q)).symm h
  have q := PySem.W.dataLt_all_no (xs := [PyData.int y.2]) (ys := [PyData.int x.2]) (Ln.al y.1 x.1) e
  show (!PySem.W.dataLt (Pr.d y) (Pr.d x)) = !PySem.W.dataLt y.1.d x.1.d
  rw [← q]
  have k : ∀ z : Pr, PySem.W.keyToks (Pr.d z) = PySem.W.keyToksAll [z.1.d, .int z.2] := fun z => by
    show PySem.W.keyToks (.tuple [z.1.d, .int z.2]) = _
    rw [PySem.W.keyToks]
  unfold PySem.W.dataLt
  rw [k, k]
theorem split_at {B : List Pr} {j : Nat} {p : Pr} (h : B[j]? = some p) : B = B.take j ++ p :: B.drop (j + 1) := by
  obtain ⟨hj, e⟩ := List.getElem?_eq_some_iff.mp h
  rw [← e, List.getElem_cons_drop, List.take_append_drop]
section
variable {b n : Nat} {C D : List Pr} {p : Pr}
theorem DrB.del (h : DrB b n (C ++ p :: D)) : DrB b n (C ++ D) := by
  have s : (C ++ D).Sublist (C ++ p :: D) := (List.Sublist.refl C).append (List.sublist_cons_self p D)
  exact ⟨h.gd.sub s, h.st.sublist s, fun x hx => h.fits x (s.subset hx), Nat.le_trans s.length_le h.len⟩
theorem DrB.put (h : DrB b n (C ++ p :: D)) (m : Int) : DrB b n (C ++ (p.1, m) :: D) := by
  have em : (C ++ (p.1, m) :: D).map (·.1) = (C ++ p :: D).map (·.1) := by rw [List.map_append, List.map_append]; rfl
  have inn : ∀ x ∈ C ++ (p.1, m) :: D, ∃ y ∈ C ++ p :: D, y.1 = x.1 := fun x hx => by
    have : x.1 ∈ (C ++ (p.1, m) :: D).map (·.1) := List.mem_map_of_mem hx
    rw [em] at this
    obtain ⟨y, hy, e⟩ := List.mem_map.mp this
    exact ⟨y, hy, e⟩
  refine ⟨⟨fun x hx => ?_, by rw [em]; exact h.gd.dl⟩, ?_, fun x hx => ?_, ?_⟩
  · obtain ⟨y, hy, e⟩ := inn x hx
    rw [← e]; exact h.gd.cn y hy
  · have st := h.st
    have dl := h.gd.dl
    unfold Kd.Srt at st ⊢
    rw [List.map_append, List.map_cons] at dl
    have dl' := List.pairwise_append.mp dl
    have dl2 := List.pairwise_cons.mp dl'.2.1
    obtain ⟨s1, s2, s3⟩ := List.pairwise_append.mp st
    obtain ⟨s4, s5⟩ := List.pairwise_cons.mp s2
    refine List.pairwise_append.mpr ⟨s1, List.pairwise_cons.mpr ⟨fun x hx => ?_, s5⟩, fun x hx y hy => ?_⟩
    · have ne : p.1 ≠ x.1 := dl2.1 x.1 (List.mem_map_of_mem hx)
      have := s4 x hx
      rw [le_fst ne] at this
      rw [le_fst (show (p.1, m).1 ≠ x.1 from ne)]
      exact this
    · rcases List.mem_cons.mp hy with rfl | hy
      · have ne : x.1 ≠ p.1 := dl'.2.2 x.1 (List.mem_map_of_mem hx) p.1 List.mem_cons_self
        have := s3 x hx p List.mem_cons_self
        rw [le_fst ne] at this
        rw [le_fst (show x.1 ≠ (p.1, m).1 from ne)]
        exact this
      · exact s3 x hx y (List.mem_cons_of_mem _ hy)
  · obtain ⟨y, hy, e⟩ := inn x hx
    rw [← e]; exact h.fits y hy
  · have := h.len
    rw [List.length_append, List.length_cons] at this ⊢
    exact this
theorem DrB.mono {c : Nat} (h : DrB b n C) (e : b ≤ c) : DrB c n C := ⟨h.gd, h.st, fun x hx => (h.fits x hx).mono e, h.len⟩
def neL (y : Ln) (x : Pr) : Bool := !decide (x.1 = y)
theorem DrB.other (h : DrB b n (C ++ p :: D)) {y : Ln} (hc : Cn y) (hf : y.fits b) (m : Int) {L : List Pr} (pm : L.Perm ((C ++ D).filter (neL y) ++ [(y, m)])) (st : kPr.Srt L) : DrB b n L := by
  have g := h.del.gd
  have gd : Gd ((C ++ D).filter (neL y) ++ [(y, m)]) := by
    refine ⟨fun x hx => ?_, ?_⟩
    · rcases List.mem_append.mp hx with hx | hx
      · exact g.cn x (List.mem_filter.mp hx).1
      · rw [List.mem_singleton.mp hx]; exact hc
    · rw [List.map_append]
      refine nodup_snoc ((g.dl.sublist (List.filter_sublist.map _))) fun hm => ?_
      obtain ⟨x, hx, e⟩ := List.mem_map.mp hm
      have := (List.mem_filter.mp hx).2
      unfold neL at this
      rw [decide_eq_true e] at this
      cases this
  refine ⟨gd.perm pm, st, fun x hx => ?_, ?_⟩
  · rcases List.mem_append.mp (pm.mem_iff.mp hx) with hx | hx
    · exact h.del.fits x (List.mem_filter.mp hx).1
    · rw [List.mem_singleton.mp hx]; exact hf
  · have h1 := List.length_filter_le (neL y) (C ++ D)
    have h2 := h.len
    rw [List.length_append, List.length_cons] at h2
    rw [pm.length_eq, List.length_append, List.length_singleton]
    rw [List.length_append] at h1
    omega
end
theorem eqv_ln (x y : Ln) : PyData.eqv x.d y.d = decide (x = y) := by
  rw [Bool.eq_iff_iff, decide_eq_true_eq]
  exact ⟨fun h => Ln.inj _ _ (eqv_eq _ _ (Ln.nob _) (Ln.nob _) h), fun h => by rw [h]; exact eqv_self _ (Ln.nob _)⟩
abbrev sp__law_bent : DSp := ⟨2, fun ws M Q => ∃ (a : Addr) (B : List Pr) (k : Nat), ws = [.box a, .d (bD B)] ∧ DrB 35 5 B ∧ Tin k a M ∧ k < 700000 ∧ ∀ B' M', DrB 50 5 B' → Tin (k + 3) a M' → Keep a M M' → Q (.d (bD B')) M'⟩
theorem cBent {a : Addr} {B : List Pr} {k : Nat} {M : MM} {Q : WK} (hB : DrB 35 5 B) (ht : Tin k a M) (hk : k < 700000) (q : ∀ B' M', DrB 50 5 B' → Tin (k + 3) a M' → Keep a M M' → Q (.d (bD B')) M') : [W.box a, .d (bD B)].length = sp__law_bent.n ∧ sp__law_bent.run [.box a, .d (bD B)] M Q := ⟨rfl, a, B, k, rfl, hB, ht, hk, q⟩
def beL : List Rat := [⟨1, 2, by decide, by decide⟩, ⟨1, 4, by decide, by decide⟩, ⟨1, 3, by decide, by decide⟩, ⟨1, 1, by decide, by decide⟩]
theorem beL_ok : ∀ q ∈ beL, sz q ≤ 3 := by decide +kernel
local macro_rules | `(tactic| one_item) => `(tactic| first
  | ((with_reducible refine' cEqS ?k1 ?_); (case k1 => exact ⟨by decide +kernel, by decide +kernel⟩); (try simp only [tRR, tRF, tRL, tFR, tFF, tFL, tLR, tLF, tLL, decide_true, decide_false, Bool.not_true, Bool.not_false]))
  | ((with_reducible refine' cNeS ?k1 ?_); (case k1 => exact ⟨by decide +kernel, by decide +kernel⟩); (try simp only [tRR, tRF, tRL, tFR, tFF, tFL, tLR, tLF, tLL, decide_true, decide_false, Bool.not_true, Bool.not_false]))
  | (with_reducible refine sFnR ?_)
  | (with_reducible refine xTrue ?_)
  | (with_reducible refine xFalse ?_)
  | ((with_reducible refine' xNT ?k1 ?_); (case k1 => rfl))
  | ((with_reducible refine' xNF ?k1 ?_); (case k1 => rfl))
  | ((with_reducible refine' xNNT ?k1 ?_); (case k1 => rfl))
  | ((with_reducible refine' xNNF ?k1 ?_); (case k1 => rfl))
  | (with_reducible refine sSeq ?_) | (with_reducible refine sAsg ?_) | (with_reducible refine s2 ?_)
  | ((with_reducible refine' sVar ?k1 ?_); (case k1 => rfl))
  | (with_reducible refine sC ?_) | (with_reducible refine sCons ?_) | (with_reducible refine sNil ?_) | (with_reducible refine sN ?_) | (with_reducible refine s1 ?_)
  | ((with_reducible refine' xBind ?k1 ?_); (case k1 => rfl))
  | ((with_reducible refine' sFnE ?k1 ?_); (case k1 => rfl))
  | (with_reducible refine sIfS ?_) | (with_reducible refine sIf ?_) | (with_reducible refine sB ?_) | (with_reducible refine oCmp ?_) | (with_reducible refine xBool ?_) | (with_reducible refine sRet ?_) | (with_reducible refine sTup ?_) | (with_reducible refine sLst ?_)
  | ((with_reducible refine' xDat ?k1 ?k2 ?_); (case k1 => rfl); (case k2 => (exact Nat.le_of_ble_eq_true rfl)))
  | ((with_reducible refine' oIxT ?k1 ?_); (case k1 => rfl)) | ((with_reducible refine' oIxL ?k1 ?_); (case k1 => rfl))
  | (with_reducible refine oAdd ?_) | (with_reducible refine oSub ?_) | (with_reducible refine oNeg ?_) | (with_reducible refine oGcd ?_) | (with_reducible refine oAbs ?_) | (with_reducible refine oInt ?_)
  | (with_reducible refine oLenT ?_) | (with_reducible refine oLenL ?_) | (with_reducible refine oSlT ?_) | (with_reducible refine oSlL ?_) | (with_reducible refine oTupL ?_) | (with_reducible refine oTupT ?_)
  | (with_reducible refine cLt ?_) | (with_reducible refine cLe ?_) | (with_reducible refine cGt ?_) | (with_reducible refine cGe ?_) | (with_reducible refine cIsN (o := .isN) ?_) | (with_reducible refine cNotN ?_) | (with_reducible refine cIsB ?_) | (with_reducible refine cEqI ?_) | (with_reducible refine cNeI ?_)
  | (with_reducible refine sNotT ?_) | (with_reducible refine sAndT ?_) | (with_reducible refine sOrT ?_) | (with_reducible refine sNotV ?_) | (with_reducible refine sAndV ?_) | (with_reducible refine sOrV ?_)
  | (with_reducible refine sSl ?_) | (with_reducible refine sONone ?_) | (with_reducible refine sOSome ?_) | (with_reducible refine xInt ?_) | (with_reducible refine sChn ?_) | (with_reducible refine sPar ?_) | (with_reducible refine xTwo ?_) | (with_reducible refine sIsi ?_) | (with_reducible refine sIsi2 ?_) | (with_reducible refine xD ?_)
  | (with_reducible refine sNext ?_)
  | (with_reducible refine xT ?_) | (with_reducible refine xF ?_))
local macro_rules | `(tactic| fin_places) => `(tactic| (repeat one_item))
def b__law_put : List Sm := [(.ret (.bin .add (.bin .add (.sl (.var 0) .no (.ye (.var 1))) (.tup (.cons (.var 2) .nil))) (.sl (.var 0) (.ye (.bin .add (.var 1) (.lit (.int 1)))) .no)))]
theorem fn__law_put {g : Gb} (gk : GOk g) (a : At g "_law_put" 63) : FOk g 1 "_law_put" sp__law_put := by
  refine FOk.of (k := 0) (G := []) (N := ["_law_row_so", "_law_place_so", "_law_bit_so"]) (ps := ["_law_row_so", "_law_place_so", "_law_bit_so"]) b__law_put a gk ⟨fun _ h => nomatch h⟩ ⟨rfl, rfl, rfl, by decide +kernel, rfl, by decide +kernel, by decide +kernel⟩ (fun _ _ _ _ _ _ us hl => match us, hl with | [_, _, _], _ => rfl) rfl (by decide +kernel) ?_
  intro ws M Q h
  simp only [b__law_put, evSs, evS, ev, evA, evT, evTs, evAnd, evOr, evO, evI, Bool.false_eq_true, reduceIte]
  obtain ⟨xs, k, d, rfl, hl, hq⟩ := h
  fin_places
  rw [cutTake]
  refine oCatT (by rw [List.length_take]; show _ + 1 ≤ _; omega) ?_
  fin_places
  rw [show ((k : Nat) : Int) + 1 = ((k + 1 : Nat) : Int) from rfl, cutDrop]
  refine oCatT (by rw [List.length_append, List.length_take, List.length_drop]; show _ + 1 + _ ≤ _; omega) ?_
  try exact hq
def b__law_bent : List Sm := [(.ife (.cmp .eq (.var 1) (.tup .nil)) [(.ret (.tup (.cons (.tup (.cons (.tup (.cons (.lit (.str "ring")) (.cons (.tup (.cons (.lit (.int 0)) (.cons (.lit (.int 1)) .nil))) .nil))) (.cons (.lit (.int 1)) .nil))) .nil)))] []), (.par 2 3 (.call 0 (.cons (.var 0) (.cons (.blt .len (.cons (.var 1) .nil)) .nil))) (.call 0 (.cons (.var 0) (.cons (.lit (.int 3)) .nil)))), (.ife (.cmp .eq (.var 3) (.lit (.int 0))) [(.ret (.bin .add (.sl (.var 1) .no (.ye (.var 2))) (.sl (.var 1) (.ye (.bin .add (.var 2) (.lit (.int 1)))) .no)))] []), (.asg (.tp [(.nm 4), (.nm 5)]) (.ix (.var 1) (.var 2))), (.ife (.cmp .eq (.var 3) (.lit (.int 1))) [(.ret (.call 1 (.cons (.var 1) (.cons (.var 2) (.cons (.tup (.cons (.var 4) (.cons (.bin .add (.bin .mod (.var 5) (.lit (.int 3))) (.lit (.int 1))) .nil))) .nil)))))] []), (.asg (.nm 4) (.call 2 (.cons (.var 4) (.cons (.call 3 (.cons (.var 0) (.cons (.lst (.cons (.tup (.cons (.lit (.int 1)) (.cons (.lit (.int 2)) .nil))) (.cons (.tup (.cons (.lit (.int 1)) (.cons (.lit (.int 4)) .nil))) (.cons (.tup (.cons (.lit (.int 1)) (.cons (.lit (.int 3)) .nil))) (.cons (.tup (.cons (.lit (.int 1)) (.cons (.lit (.int 1)) .nil))) .nil))))) .nil))) .nil)))), (.asg (.nm 6) (.lc (.var 7) (.nm 7) (.seq (.bin .add (.sl (.var 1) .no (.ye (.var 2))) (.sl (.var 1) (.ye (.bin .add (.var 2) (.lit (.int 1)))) .no))) (.cmp .ne (.ix (.var 7) (.lit (.int 0))) (.var 4)) [7])), (.ret (.blt .tuple (.cons (.blt .sorted (.cons (.bin .add (.var 6) (.lst (.cons (.tup (.cons (.var 4) (.cons (.var 5) .nil))) .nil))) .nil)) .nil)))]
theorem fn__law_bent {g : Gb} (gk : GOk g) (a : At g "_law_bent" 102) (f__law_take : FOk g 1 "_law_take" sp__law_take) (f__law_put : FOk g 1 "_law_put" sp__law_put) (f__law_slid : FOk g 6 "_law_slid" sp__law_slid) (f__law_of : FOk g 2 "_law_of" sp__law_of) : FOk g 7 "_law_bent" sp__law_bent := by
  refine FOk.of (k := 6) (G := [("_law_take", sp__law_take), ("_law_put", sp__law_put), ("_law_slid", sp__law_slid), ("_law_of", sp__law_of)]) (N := ["_law_tin", "_law_band_so", "_law_k", "_law_kind_so", "_law_line_so", "_law_depth_so", "_law_rest_so", "_law_own"]) (ps := ["_law_tin", "_law_band_so"]) b__law_bent a gk ⟨List.forall_mem_cons.mpr ⟨f__law_take.mono (by decide), List.forall_mem_cons.mpr ⟨f__law_put.mono (by decide), List.forall_mem_cons.mpr ⟨f__law_slid.mono (by decide), List.forall_mem_cons.mpr ⟨f__law_of.mono (by decide), fun _ h => nomatch h⟩⟩⟩⟩⟩ ⟨rfl, rfl, rfl, by decide +kernel, rfl, by decide +kernel, by decide +kernel⟩ (fun _ _ _ _ _ _ us hl => match us, hl with | [_, _], _ => rfl) rfl (by decide +kernel) ?_
  intro ws M Q h
  simp only [b__law_bent, evSs, evS, ev, evA, evT, evTs, evAnd, evOr, evO, evI, Bool.false_eq_true, reduceIte]
  obtain ⟨a, B, k, rfl, hB, ht, hk, hq⟩ := h
  have hl := hB.len
  have hlm : (B.map Pr.d).length = B.length := List.length_map _
  fin_places
  refine cEq (x := bD B) (y := bD []) ⟨lev_bd _, lev_bd _⟩ ?_
  rw [eqv_bd]
  fin_places
  refine xIf (fun he => ?_) (fun he => ?_)
  · fin_places
    try exact hq [(.ring 0, 1)] _ ⟨⟨fun x hx => by rw [List.mem_singleton.mp hx]; trivial, by decide⟩, List.pairwise_singleton _ _, fun x hx => by rw [List.mem_singleton.mp hx]; show sz 0 ≤ 50; rw [sz_0]; decide, by decide⟩ (ht.mono (by omega)) Keep.refl
  have hp : 0 < B.length := List.length_pos_iff.mpr he
  fin_places
  refine cTake (k := k) (by omega) (by omega) ht (by omega) (fun n M1 n0 n1 ht1 kp1 => ?_)
  obtain ⟨j, rfl⟩ := Int.eq_ofNat_of_zero_le n0
  have hj : j < B.length := by omega
  fin_places
  refine cTake (k := k + 1) (by decide) (by decide) ht1 (by omega) (fun m M2 m0 m1 ht2 kp2 => ?_)
  obtain ⟨p, hpj⟩ : ∃ p, B[j]? = some p := ⟨B[j], List.getElem?_eq_getElem hj⟩
  have h2 : DrB 35 5 (B.take j ++ p :: B.drop (j + 1)) := by rw [← split_at hpj]; exact hB
  have l1 : (B.map Pr.d).take j ++ (B.map Pr.d).drop (j + 1) = (B.take j ++ B.drop (j + 1)).map Pr.d := by rw [List.map_append, List.map_take, List.map_drop]
  have lb : ((B.map Pr.d).take j).length + ((B.map Pr.d).drop (j + 1)).length ≤ 100000 := by rw [List.length_take, List.length_drop]; omega
  fin_places
  refine xIf (fun h0 => ?_) (fun h0 => ?_)
  · fin_places
    rw [cutTake, show ((j : Nat) : Int) + 1 = ((j + 1 : Nat) : Int) from rfl, cutDrop]
    refine oCatT lb ?_
    rw [l1]
    exact hq _ _ (h2.del.mono (by decide)) (ht2.mono (by omega)) (kp1.trans kp2)
  fin_places
  refine oIxT (x := Pr.d p) (at_nat (by rw [List.getElem?_map, hpj]; rfl)) ?_
  fin_places
  refine xIf (fun h1 => ?_) (fun h1 => ?_)
  · fin_places
    refine oMod (by decide) ?_
    fin_places
    refine cPut (by omega) ?_
    have e : (B.map Pr.d).take j ++ [PyData.tuple [p.1.d, .int (p.2.fmod 3 + 1)]] ++ (B.map Pr.d).drop (j + 1) = (B.take j ++ (p.1, p.2.fmod 3 + 1) :: B.drop (j + 1)).map Pr.d := by
      rw [List.map_append, List.map_cons, List.map_take, List.map_drop, List.append_assoc]
      rfl
    rw [e]
    exact hq _ _ ((h2.put _).mono (by decide)) (ht2.mono (by omega)) (kp1.trans kp2)
  fin_places
  refine cOf (k := k + 2) (xs := beL.map fr) (by decide) (by decide) ht2 (by omega) (fun z M3 hz ht3 kp3 => ?_)
  obtain ⟨s, hs, rfl⟩ := List.mem_map.mp hz
  have zs := beL_ok s hs
  have hpB : p ∈ B := List.mem_of_getElem? hpj
  have fp := hB.fits p hpB
  fin_places
  refine cSl (fp.mono (by decide)) (by omega) ?_
  have cy : Cn (slL s p.1) := sl_cn s (hB.gd.cn p hpB).nz
  have fy : (slL s p.1).fits 50 := (sl_fits fp zs).mono (by decide)
  generalize slL s p.1 = y at *
  fin_places
  refine sLc (sSeqI ?_)
  fin_places
  rw [cutTake, show ((j : Nat) : Int) + 1 = ((j + 1 : Nat) : Int) from rfl, cutDrop]
  refine oCatT lb ?_
  rw [l1]
  refine xSeqT ⟨by rw [List.length_map, List.length_map, List.length_append, List.length_take, List.length_drop]; omega, ?_⟩
  rw [List.map_map]
  refine lc_typed (fun x : Pr => W.d (Pr.d x)) Pr.d (neL y) _ (B.take j ++ B.drop (j + 1)) [] (fun c _ => rfl) (fun c hc Q' q => ?_) (fun c hc hi Q' q => ?_) ?_
  · fin_places
    refine cNe ⟨Ln.lev' 28 _, Ln.lev' 28 _⟩ ?_
    rw [eqv_ln]
    fin_places
    try exact q
  · fin_places
    try exact q
  · rw [List.nil_append]
    fin_places
    refine oCatL (by rw [List.length_map]; have := List.length_filter_le (neL y) (B.take j ++ B.drop (j + 1)); rw [List.length_append, List.length_take, List.length_drop] at this; show _ + 1 ≤ _; omega) ?_
    rw [show ((B.take j ++ B.drop (j + 1)).filter (neL y)).map Pr.d ++ [PyData.tuple [y.d, .int p.2]] = ((B.take j ++ B.drop (j + 1)).filter (neL y) ++ [(y, p.2)]).map Pr.d from by rw [List.map_append]; rfl]
    obtain ⟨L, pL, sL, eL⟩ := kPr.sorted ((B.take j ++ B.drop (j + 1)).filter (neL y) ++ [(y, p.2)])
    fin_places
    refine oSorted (kPr.sortOk _) ?_
    rw [show sortD (((B.take j ++ B.drop (j + 1)).filter (neL y) ++ [(y, p.2)]).map Pr.d) = L.map Pr.d from eL]
    fin_places
    exact hq L _ ((h2.mono (by decide)).other cy fy p.2 pL sL) ht3 ((kp1.trans kp2).trans kp3)
end Sh
set_option maxHeartbeats 1000000
namespace Sh
open PySem PySem.Spec PyProof.Rows L2
/-! ## rules that fit, a joint motion: the law's, walked -/
abbrev rlD (R : List (Rat × Rat)) : PyData := .list (R.map fun c => ruD c.1 c.2)
abbrev sp__law_fits : DSp := ⟨1, fun ws M Q => ∃ R : List (Rat × Rat), ws = [.d (rlD R)] ∧ R.length ≤ 5 ∧ (∀ c ∈ R, c.2 ≠ 0 ∧ sz c.1 ≤ 200 ∧ sz c.2 ≤ 8) ∧ ∀ b, (b = true ↔ FitsP R) → Q (.d (.bool b)) M⟩
theorem cFits {R : List (Rat × Rat)} {M : MM} {Q : WK} (h1 : R.length ≤ 5) (h2 : ∀ c ∈ R, c.2 ≠ 0 ∧ sz c.1 ≤ 200 ∧ sz c.2 ≤ 8) (q : ∀ b, (b = true ↔ FitsP R) → Q (.d (.bool b)) M) : [W.d (rlD R)].length = sp__law_fits.n ∧ sp__law_fits.run [.d (rlD R)] M Q := ⟨rfl, R, rfl, h1, h2, q⟩
abbrev Comp (c d : Rat × Rat) : Prop := Mult (cmn c.2 d.2) (c.1 - d.1)
theorem enum_map {α : Type} (f : α → PyData) (R : List α) : enumD (R.map f) = R.zipIdx.map fun p => pairD (.int ((p.2 : Nat) : Int)) (f p.1) := by
  unfold enumD
  rw [List.zipIdx_map, List.map_map]
  rfl
abbrev sp__law_joint : DSp := ⟨1, fun ws M Q => ∃ A : SA, ws = [.dct (A.map fun p => (p.1.d, fr p.2))] ∧ SAok A ∧ kSo.Srt (A.map (·.1)) ∧ ∀ b, (b = true ↔ JointP A) → Q (.d (.bool b)) M⟩
theorem cJoint {A : SA} {M : MM} {Q : WK} (h1 : SAok A) (h2 : kSo.Srt (A.map (·.1))) (q : ∀ b, (b = true ↔ JointP A) → Q (.d (.bool b)) M) : [W.dct (A.map fun p => (p.1.d, fr p.2))].length = sp__law_joint.n ∧ sp__law_joint.run [.dct (A.map fun p => (p.1.d, fr p.2))] M Q := ⟨rfl, A, rfl, h1, h2, q⟩
theorem sGet {ra rb : RdE} {δ : En} {M : MM} {Q : WK} (q : ra δ M fun w M1 => ∃ kvs, w = .dct kvs ∧ rb δ M1 fun z M2 => ∃ kd, z = .d kd ∧ KeyD kd ∧ Q (.d ((dfind kvs kd).getD .none)) M2) : rdGet ra rb δ M Q := q
theorem whole_dec {x s : Rat} (hs : s ≠ 0) : decide ((x / s).den = 1) = true ↔ Mult s x := by rw [decide_eq_true_eq]; exact whole_iff hs
theorem eqv_nil (f : Rat × Rat → PyData) (R : List (Rat × Rat)) : PyData.eqv (.list (R.map f)) (.list []) = R.isEmpty := by
  cases R with
  | nil => rfl
  | cons a R => rfl
theorem ruD_lev (n : Nat) (p m : Rat) : lev (n + 2) (ruD p m) := fun y hy => by
  simp only [List.mem_cons, List.not_mem_nil, or_false] at hy
  rcases hy with rfl | rfl
  · exact fr_lev n p
  · exact fr_lev n m
theorem rl_lev (R : List (Rat × Rat)) : lev 30 (rlD R) := fun y hy => by
  obtain ⟨c, _, rfl⟩ := List.mem_map.mp hy
  exact ruD_lev 27 c.1 c.2
theorem nil_lev : lev 30 (.list []) := fun y hy => nomatch hy
theorem ones_lev {α : Type} (R : List α) : lev 30 (.list (R.map fun _ => PyData.int 1)) := fun y hy => by
  obtain ⟨c, _, rfl⟩ := List.mem_map.mp hy
  trivial
theorem ones_nil {α : Type} (R : List α) : PyData.eqv (.list (R.map fun _ => PyData.int 1)) (.list []) = R.isEmpty := by
  cases R with
  | nil => rfl
  | cons a R => rfl
theorem leads_nil {A : SA} : kSo.Srt (A.map (·.1)) → sortD (A.map fun p => p.1.d) = A.map fun p => p.1.d := fun st => by
  obtain ⟨S, p, s, e⟩ := kSo.sorted (A.map (·.1))
  have e2 := kSo.uniq s st p
  subst e2
  rw [List.map_map] at e
  exact e
local macro_rules | `(tactic| one_item) => `(tactic| first
  | ((with_reducible refine' cEqS ?k1 ?_); (case k1 => exact ⟨by decide +kernel, by decide +kernel⟩); (try simp only [tRR, tRF, tRL, tFR, tFF, tFL, tLR, tLF, tLL, decide_true, decide_false, Bool.not_true, Bool.not_false]))
  | ((with_reducible refine' cNeS ?k1 ?_); (case k1 => exact ⟨by decide +kernel, by decide +kernel⟩); (try simp only [tRR, tRF, tRL, tFR, tFF, tFL, tLR, tLF, tLL, decide_true, decide_false, Bool.not_true, Bool.not_false]))
  | (with_reducible refine sFnR ?_)
  | (with_reducible refine xTrue ?_)
  | (with_reducible refine xFalse ?_)
  | ((with_reducible refine' xNT ?k1 ?_); (case k1 => rfl))
  | ((with_reducible refine' xNF ?k1 ?_); (case k1 => rfl))
  | ((with_reducible refine' xNNT ?k1 ?_); (case k1 => rfl))
  | ((with_reducible refine' xNNF ?k1 ?_); (case k1 => rfl))
  | (with_reducible refine sSeq ?_) | (with_reducible refine sAsg ?_) | (with_reducible refine s2 ?_)
  | ((with_reducible refine' sVar ?k1 ?_); (case k1 => rfl))
  | (with_reducible refine sC ?_) | (with_reducible refine sCons ?_) | (with_reducible refine sNil ?_) | (with_reducible refine sN ?_) | (with_reducible refine s1 ?_)
  | ((with_reducible refine' xBind ?k1 ?_); (case k1 => rfl))
  | ((with_reducible refine' sFnE ?k1 ?_); (case k1 => rfl))
  | (with_reducible refine sIfS ?_) | (with_reducible refine sIf ?_) | (with_reducible refine sB ?_) | (with_reducible refine oCmp ?_) | (with_reducible refine xBool ?_) | (with_reducible refine sRet ?_) | (with_reducible refine sTup ?_) | (with_reducible refine sLst ?_)
  | ((with_reducible refine' xDat ?k1 ?k2 ?_); (case k1 => rfl); (case k2 => (exact Nat.le_of_ble_eq_true rfl)))
  | ((with_reducible refine' oIxT ?k1 ?_); (case k1 => rfl)) | ((with_reducible refine' oIxL ?k1 ?_); (case k1 => rfl))
  | (with_reducible refine oAdd ?_) | (with_reducible refine oSub ?_) | (with_reducible refine oNeg ?_) | (with_reducible refine oGcd ?_) | (with_reducible refine oAbs ?_) | (with_reducible refine oInt ?_)
  | (with_reducible refine oLenT ?_) | (with_reducible refine oLenL ?_) | (with_reducible refine oSlT ?_) | (with_reducible refine oSlL ?_) | (with_reducible refine oTupL ?_) | (with_reducible refine oTupT ?_)
  | (with_reducible refine cLt ?_) | (with_reducible refine cLe ?_) | (with_reducible refine cGt ?_) | (with_reducible refine cGe ?_) | (with_reducible refine cIsN (o := .isN) ?_) | (with_reducible refine cNotN ?_) | (with_reducible refine cIsB ?_) | (with_reducible refine cEqI ?_) | (with_reducible refine cNeI ?_)
  | (with_reducible refine sNotT ?_) | (with_reducible refine sAndT ?_) | (with_reducible refine sOrT ?_) | (with_reducible refine sNotV ?_) | (with_reducible refine sAndV ?_) | (with_reducible refine sOrV ?_)
  | (with_reducible refine sSl ?_) | (with_reducible refine sONone ?_) | (with_reducible refine sOSome ?_) | (with_reducible refine xInt ?_) | (with_reducible refine sChn ?_) | (with_reducible refine sPar ?_) | (with_reducible refine xTwo ?_) | (with_reducible refine sIsi ?_) | (with_reducible refine sIsi2 ?_) | (with_reducible refine xD ?_)
  | (with_reducible refine sNext ?_)
  | (with_reducible refine xT ?_) | (with_reducible refine xF ?_))
local macro_rules | `(tactic| fin_places) => `(tactic| (repeat one_item))
def b__law_fits : List Sm := [(.for_ (.tp [(.nm 1), (.nm 2)]) (.enum (.cons (.var 0) .nil)) [(.for_ (.nm 3) (.seq (.sl (.var 0) (.ye (.bin .add (.var 1) (.lit (.int 1)))) .no)) [(.ife (.not_ (.val (.call 0 (.cons (.call 1 (.cons (.ix (.var 2) (.lit (.int 0))) (.cons (.ix (.var 3) (.lit (.int 0))) .nil))) (.cons (.call 2 (.cons (.ix (.var 2) (.lit (.int 1))) (.cons (.ix (.var 3) (.lit (.int 1))) .nil))) .nil))))) [(.ret (.lit (.bool false)))] [])])]), (.ret (.lit (.bool true)))]
theorem fn__law_fits {g : Gb} (gk : GOk g) (a : At g "_law_fits" 93) (f__law_whole : FOk g 4 "_law_whole" sp__law_whole) (f__law_less : FOk g 4 "_law_less" sp__law_less) (f__law_gcd_part : FOk g 3 "_law_gcd_part" sp__law_gcd_part) : FOk g 5 "_law_fits" sp__law_fits := by
  refine FOk.of (k := 4) (G := [("_law_whole", sp__law_whole), ("_law_less", sp__law_less), ("_law_gcd_part", sp__law_gcd_part)]) (N := ["_law_rules_so", "_law_k", "_law_one_so", "_law_two_so"]) (ps := ["_law_rules_so"]) b__law_fits a gk ⟨List.forall_mem_cons.mpr ⟨f__law_whole.mono (by decide), List.forall_mem_cons.mpr ⟨f__law_less.mono (by decide), List.forall_mem_cons.mpr ⟨f__law_gcd_part.mono (by decide), fun _ h => nomatch h⟩⟩⟩⟩ ⟨rfl, rfl, rfl, by decide +kernel, rfl, by decide +kernel, by decide +kernel⟩ (fun _ _ _ _ _ _ us hl => match us, hl with | [_], _ => rfl) rfl (by decide +kernel) ?_
  intro ws M Q h
  simp only [b__law_fits, evSs, evS, ev, evA, evT, evTs, evAnd, evOr, evO, evI, Bool.false_eq_true, reduceIte]
  obtain ⟨R, rfl, h1, h2, hq⟩ := h
  fin_places
  refine sFor (sEnum ?_)
  fin_places
  refine ⟨_, rfl, ?_⟩
  rw [enum_map]
  refine for_inv (fun p : (Rat × Rat) × Nat => pairD (.int ((p.2 : Nat) : Int)) (ruD p.1.1 p.1.2)) (fun T δ' M' => ∃ C x1 x2 x3, R = C ++ T.map (·.1) ∧ (T.map (·.1)).zipIdx C.length = T ∧ (C.Pairwise Comp ∧ ∀ c ∈ C, ∀ d ∈ T.map (·.1), Comp c d) ∧ M' = M ∧ δ' = [some (.d (rlD R)), x1, x2, x3]) ?_ ?_ R.zipIdx _ _ ⟨[], none, none, none, ?_, ?_, ⟨.nil, fun c hc => (nomatch hc)⟩, rfl, rfl⟩
  · rintro ⟨c, i⟩ T δ' M' K ⟨C, x1, x2, x3, eR, eT, ⟨g1, g2⟩, rfl, rfl⟩ hK
    rw [List.map_cons, List.zipIdx_cons] at eT
    obtain ⟨e1, e2⟩ := List.cons.inj eT
    have ei : C.length = i := (Prod.mk.inj e1).2
    subst ei
    rw [List.map_cons] at eR g2
    have hcR : c ∈ R := by rw [eR]; exact List.mem_append_right _ List.mem_cons_self
    obtain ⟨c0, c1, c2⟩ := h2 c hcR
    refine ⟨_, rfl, ?_⟩
    have dr : (R.map fun c => ruD c.1 c.2).drop (C.length + 1) = (T.map (·.1)).map fun c => ruD c.1 c.2 := by
      rw [eR, List.map_append, List.map_cons, List.drop_append, List.length_map, Nat.add_sub_cancel_left, List.drop_eq_nil_of_le (by rw [List.length_map]; omega)]
      rfl
    clear eT e1
    fin_places
    refine sFor (sSeqI ?_)
    fin_places
    rw [show ((C.length : Nat) : Int) + 1 = ((C.length + 1 : Nat) : Int) from rfl, cutDrop, dr]
    refine xSeqL ?_
    rw [List.map_map]
    refine for_inv (fun d : Rat × Rat => W.d (ruD d.1 d.2)) (fun D δ' M2 => ∃ E y3, T.map (·.1) = E ++ D ∧ (∀ d ∈ E, Comp c d) ∧ M2 = M' ∧ δ' = [some (.d (rlD R)), some (.d (.int ((C.length : Nat) : Int))), some (.d (ruD c.1 c.2)), y3]) ?_ ?_ (T.map (·.1)) _ _ ⟨[], x3, rfl, fun d hd => (nomatch hd), rfl, rfl⟩
    · rintro d D δ' M2 K2 ⟨E, y3, eD, gE, rfl, rfl⟩ hK2
      have hdT : d ∈ T.map (·.1) := by rw [eD]; exact List.mem_append_right _ List.mem_cons_self
      have hdR : d ∈ R := by rw [eR]; exact List.mem_append_right _ (List.mem_cons_of_mem _ hdT)
      obtain ⟨d0, d1, d2⟩ := h2 d hdR
      have z1 := sz_sub c.1 d.1
      have z2 := sz_cmn c.2 d.2
      have g0 := cmn_ne (y := d.2) c0
      refine ⟨_, rfl, ?_⟩
      clear dr
      fin_places
      refine cQ2 (f := (· - ·)) (show _ ≤ _ by omega) ?_
      fin_places
      refine cQ2 (f := cmn) (show _ ≤ _ by omega) ?_
      fin_places
      refine cQ2v ⟨g0, by omega⟩ ?_
      fin_places
      refine xIfN (fun hn => ?_) (fun hw => ?_)
      · fin_places
        refine hq false ⟨fun e => (nomatch e), fun hf => ?_⟩
        refine absurd ((whole_iff g0).mpr ?_) hn
        unfold FitsP at hf
        rw [eR] at hf
        have := (List.pairwise_cons.mp (List.pairwise_append.mp hf).2.1).1 d hdT
        exact this
      · fin_places
        refine hK2 _ _ ⟨E ++ [d], _, by rw [List.append_assoc]; exact eD, fun e he => ?_, rfl, rfl⟩
        rcases List.mem_append.mp he with he | he
        · exact gE e he
        · rw [List.mem_singleton.mp he]
          exact (whole_iff g0).mp hw
    · rintro δ' M2 ⟨E, y3, eD, gE, rfl, rfl⟩
      rw [List.append_nil] at eD
      clear dr
      fin_places
      refine hK _ _ ⟨C ++ [c], _, _, _, by rw [List.append_assoc]; exact eR, by rw [List.length_append]; exact e2, ⟨?_, fun e he d hd => ?_⟩, rfl, rfl⟩
      · exact List.pairwise_append.mpr ⟨g1, List.pairwise_singleton _ _, fun e he d hd => by rw [List.mem_singleton.mp hd]; exact g2 e he c List.mem_cons_self⟩
      · rcases List.mem_append.mp he with he | he
        · exact g2 e he d (List.mem_cons_of_mem _ hd)
        · rw [List.mem_singleton.mp he]
          exact gE d (by rw [← eD]; exact hd)
  · rintro δ' M' ⟨C, x1, x2, x3, eR, eT, ⟨g1, g2⟩, rfl, rfl⟩
    rw [List.map_nil, List.append_nil] at eR
    clear eT
    fin_places
    try exact hq true ⟨fun _ => by rw [eR]; exact g1, fun _ => rfl⟩
  · rw [List.zipIdx_map_fst]; rfl
  · rw [List.zipIdx_map_fst]; rfl
end Sh
set_option maxHeartbeats 1000000
namespace Sh
open PySem PySem.Spec PyProof.Rows L2
/-! ## the law's joint motion, walked -/
theorem leads_lc (A : SA) : (A.filter isLd).map ldD = (leadsOf A).map fun c => ruD c.1 c.2 := leads_filter A
theorem fl_dec (R : List (Rat × Rat)) (s : Rat) (h : ∀ c ∈ R, c.2 ≠ 0) : (R.filter fun c => !decide (((s - c.1) / c.2).den = 1)).isEmpty = true ↔ ∀ c ∈ R, Mult c.2 (s - c.1) := by
  rw [List.isEmpty_iff, List.filter_eq_nil_iff]
  constructor
  · intro q c hc
    have := q c hc
    refine (whole_iff (h c hc)).mp ?_
    simpa using this
  · intro q c hc
    have := (whole_iff (h c hc)).mpr (q c hc)
    simpa using this
theorem len_rules (o : Option Rat) (L : List (Rat × Rat)) (a : Rat) : (rulesW (some a) L).length = L.length := by rw [rulesW, List.length_map]
local macro_rules | `(tactic| one_item) => `(tactic| first
  | ((with_reducible refine' cEqS ?k1 ?_); (case k1 => exact ⟨by decide +kernel, by decide +kernel⟩); (try simp only [tRR, tRF, tRL, tFR, tFF, tFL, tLR, tLF, tLL, decide_true, decide_false, Bool.not_true, Bool.not_false]))
  | ((with_reducible refine' cNeS ?k1 ?_); (case k1 => exact ⟨by decide +kernel, by decide +kernel⟩); (try simp only [tRR, tRF, tRL, tFR, tFF, tFL, tLR, tLF, tLL, decide_true, decide_false, Bool.not_true, Bool.not_false]))
  | (with_reducible refine sFnR ?_)
  | (with_reducible refine xTrue ?_)
  | (with_reducible refine xFalse ?_)
  | ((with_reducible refine' xNT ?k1 ?_); (case k1 => rfl))
  | ((with_reducible refine' xNF ?k1 ?_); (case k1 => rfl))
  | ((with_reducible refine' xNNT ?k1 ?_); (case k1 => rfl))
  | ((with_reducible refine' xNNF ?k1 ?_); (case k1 => rfl))
  | (with_reducible refine sSeq ?_) | (with_reducible refine sAsg ?_) | (with_reducible refine s2 ?_)
  | ((with_reducible refine' sVar ?k1 ?_); (case k1 => rfl))
  | (with_reducible refine sC ?_) | (with_reducible refine sCons ?_) | (with_reducible refine sNil ?_) | (with_reducible refine sN ?_) | (with_reducible refine s1 ?_)
  | ((with_reducible refine' xBind ?k1 ?_); (case k1 => rfl))
  | ((with_reducible refine' sFnE ?k1 ?_); (case k1 => rfl))
  | (with_reducible refine sIfS ?_) | (with_reducible refine sIf ?_) | (with_reducible refine sB ?_) | (with_reducible refine oCmp ?_) | (with_reducible refine xBool ?_) | (with_reducible refine sRet ?_) | (with_reducible refine sTup ?_) | (with_reducible refine sLst ?_)
  | ((with_reducible refine' xDat ?k1 ?k2 ?_); (case k1 => rfl); (case k2 => (exact Nat.le_of_ble_eq_true rfl)))
  | ((with_reducible refine' oIxT ?k1 ?_); (case k1 => rfl)) | ((with_reducible refine' oIxL ?k1 ?_); (case k1 => rfl))
  | (with_reducible refine oAdd ?_) | (with_reducible refine oSub ?_) | (with_reducible refine oNeg ?_) | (with_reducible refine oGcd ?_) | (with_reducible refine oAbs ?_) | (with_reducible refine oInt ?_)
  | (with_reducible refine oLenT ?_) | (with_reducible refine oLenL ?_) | (with_reducible refine oSlT ?_) | (with_reducible refine oSlL ?_) | (with_reducible refine oTupL ?_) | (with_reducible refine oTupT ?_)
  | (with_reducible refine cLt ?_) | (with_reducible refine cLe ?_) | (with_reducible refine cGt ?_) | (with_reducible refine cGe ?_) | (with_reducible refine cIsN (o := .isN) ?_) | (with_reducible refine cNotN ?_) | (with_reducible refine cIsB ?_) | (with_reducible refine cEqI ?_) | (with_reducible refine cNeI ?_)
  | (with_reducible refine sNotT ?_) | (with_reducible refine sAndT ?_) | (with_reducible refine sOrT ?_) | (with_reducible refine sNotV ?_) | (with_reducible refine sAndV ?_) | (with_reducible refine sOrV ?_)
  | (with_reducible refine sSl ?_) | (with_reducible refine sONone ?_) | (with_reducible refine sOSome ?_) | (with_reducible refine xInt ?_) | (with_reducible refine sChn ?_) | (with_reducible refine sPar ?_) | (with_reducible refine xTwo ?_) | (with_reducible refine sIsi ?_) | (with_reducible refine sIsi2 ?_) | (with_reducible refine xD ?_)
  | (with_reducible refine sNext ?_)
  | (with_reducible refine xT ?_) | (with_reducible refine xF ?_))
local macro_rules | `(tactic| fin_places) => `(tactic| (repeat one_item))
def b__law_joint : List Sm := [(.asg (.tp [(.nm 1), (.nm 2)]) (.tup (.cons (.get (.var 0) (.tup (.cons (.lit (.str "ring")) .nil))) (.cons (.get (.var 0) (.tup (.cons (.lit (.str "flute")) .nil))) .nil)))), (.asg (.nm 3) (.lc (.tup (.cons (.ix (.var 4) (.lit (.int 1))) (.cons (.ix (.var 0) (.var 4)) .nil))) (.nm 4) (.seq (.blx .sorted (.cons (.var 0) .nil))) (.cmp .eq (.ix (.var 4) (.lit (.int 0))) (.lit (.str "lead"))) [4])), (.ife (.and_ (.cons (.cmp .notN (.var 1) (.lit .none)) (.cons (.cmp .isN (.var 2) (.lit .none)) (.cons (.cmp .ne (.var 3) (.lst .nil)) .nil)))) [(.asg (.nm 2) (.call 0 (.cons (.call 1 (.cons (.var 1) (.cons (.ix (.ix (.var 3) (.lit (.int 0))) (.lit (.int 1))) .nil))) (.cons (.ix (.ix (.var 3) (.lit (.int 0))) (.lit (.int 0))) .nil))))] []), (.ife (.cmp .notN (.var 2) (.lit .none)) [(.asg (.nm 5) (.lc (.tup (.cons (.call 2 (.cons (.var 7) (.cons (.call 3 (.cons (.var 6) (.cons (.var 2) .nil))) .nil))) (.cons (.var 6) .nil))) (.tp [(.nm 6), (.nm 7)]) (.seq (.var 3)) .yes [6, 7])), (.ife (.cmp .isN (.var 1) (.lit .none)) [(.ret (.call 4 (.cons (.var 5) .nil)))] []), (.ret (.cmp .eq (.lc (.lit (.int 1)) (.nm 4) (.seq (.var 5)) (.not_ (.val (.call 5 (.cons (.call 1 (.cons (.var 1) (.cons (.ix (.var 4) (.lit (.int 0))) .nil))) (.cons (.ix (.var 4) (.lit (.int 1))) .nil))))) [4]) (.lst .nil)))] []), (.asg (.nm 5) (.box .nil)), (.for_ (.tp [(.nm 6), (.nm 7)]) (.seq (.sl (.var 3) (.ye (.lit (.int 1))) .no)) [(.asg (.tp [(.nm 8), (.nm 9)]) (.ix (.var 3) (.lit (.int 0)))), (.asg (.nm 10) (.call 0 (.cons (.tup (.cons (.lit (.int 1)) (.cons (.lit (.int 1)) .nil))) (.cons (.call 1 (.cons (.call 0 (.cons (.tup (.cons (.lit (.int 1)) (.cons (.lit (.int 1)) .nil))) (.cons (.var 6) .nil))) (.cons (.call 0 (.cons (.tup (.cons (.lit (.int 1)) (.cons (.lit (.int 1)) .nil))) (.cons (.var 8) .nil))) .nil))) .nil)))), (.app (.var 5) (.tup (.cons (.call 3 (.cons (.call 1 (.cons (.call 0 (.cons (.var 7) (.cons (.var 6) .nil))) (.cons (.call 0 (.cons (.var 9) (.cons (.var 8) .nil))) .nil))) (.cons (.var 10) .nil))) (.cons (.var 10) .nil))))]), (.gho 5), (.ret (.call 4 (.cons (.var 5) .nil)))]
theorem fn__law_joint {g : Gb} (gk : GOk g) (a : At g "_law_joint" 94) (f__law_quot : FOk g 3 "_law_quot" sp__law_quot) (f__law_less : FOk g 4 "_law_less" sp__law_less) (f__law_sum : FOk g 3 "_law_sum" sp__law_sum) (f__law_prod : FOk g 3 "_law_prod" sp__law_prod) (f__law_fits : FOk g 5 "_law_fits" sp__law_fits) (f__law_whole : FOk g 4 "_law_whole" sp__law_whole) : FOk g 6 "_law_joint" sp__law_joint := by
  refine FOk.of (k := 5) (G := [("_law_quot", sp__law_quot), ("_law_less", sp__law_less), ("_law_sum", sp__law_sum), ("_law_prod", sp__law_prod), ("_law_fits", sp__law_fits), ("_law_whole", sp__law_whole)]) (N := ["_law_told_so", "_law_shift_so", "_law_turn_so", "_law_leads_so", "_law_own", "_law_rules_so", "_law_lead_so", "_law_part_so", "_law_first_so", "_law_near_so", "_law_step_so"]) (ps := ["_law_told_so"]) b__law_joint a gk ⟨List.forall_mem_cons.mpr ⟨f__law_quot.mono (by decide), List.forall_mem_cons.mpr ⟨f__law_less.mono (by decide), List.forall_mem_cons.mpr ⟨f__law_sum.mono (by decide), List.forall_mem_cons.mpr ⟨f__law_prod.mono (by decide), List.forall_mem_cons.mpr ⟨f__law_fits.mono (by decide), List.forall_mem_cons.mpr ⟨f__law_whole.mono (by decide), fun _ h => nomatch h⟩⟩⟩⟩⟩⟩⟩ ⟨rfl, rfl, rfl, by decide +kernel, rfl, by decide +kernel, by decide +kernel⟩ (fun _ _ _ _ _ _ us hl => match us, hl with | [_], _ => rfl) rfl (by decide +kernel) ?_
  intro ws M Q h
  simp only [b__law_joint, evSs, evS, ev, evA, evT, evTs, evAnd, evOr, evO, evI, Bool.false_eq_true, reduceIte]
  obtain ⟨A, rfl, hA, st, hq⟩ := h
  have hL := hA.leads
  have sp : SAp A := ⟨hA.nd, fun l p hc => (hA.n0 l p hc).1⟩
  have hfl : ∀ a, slook A .flute = some a → sz a ≤ 90 := fun a e => hA.z _ (slook_mem e)
  have hrg : ∀ a, slook A .ring = some a → sz a ≤ 90 := fun a e => hA.z _ (slook_mem e)
  have rok := rules_ok hL hfl
  have rn : ∀ o, ∀ c ∈ rulesW o (leadsOf A), c.2 ≠ 0 := rules_ne sp
  have hlA := hA.len
  fin_places
  refine sGet ?_
  fin_places
  refine ⟨_, rfl, ?_⟩
  fin_places
  refine ⟨So.key .ring, ?_⟩
  rw [show (dfind (A.map fun p => (p.1.d, fr p.2)) (PyData.tuple [PyData.str (Str.ofString "ring")])).getD PyData.none = oD (slook A .ring) from by rw [← getD_oD, ← dfind_so]; rfl]
  fin_places
  refine sGet ?_
  fin_places
  refine ⟨_, rfl, ?_⟩
  fin_places
  refine ⟨So.key .flute, ?_⟩
  rw [show (dfind (A.map fun p => (p.1.d, fr p.2)) (PyData.tuple [PyData.str (Str.ofString "flute")])).getD PyData.none = oD (slook A .flute) from by rw [← getD_oD, ← dfind_so]; rfl]
  fin_places
  refine sLc (sSeqI ?_)
  fin_places
  have ek : ((A.map fun p => (p.1.d, fr p.2)).map (·.1)) = (A.map (·.1)).map So.d := by rw [List.map_map, List.map_map]; rfl
  have ek2 : ((A.map (·.1)).map So.d) = A.map fun p => p.1.d := by rw [List.map_map]; rfl
  refine ⟨by rw [ek]; exact kSo.sortOk _, ?_⟩
  rw [ek, ek2, leads_nil st]
  clear ek ek2
  fin_places
  refine xSeqL ⟨by rw [List.length_map, List.length_map]; omega, ?_⟩
  rw [List.map_map]
  refine lc_typed (fun p : So × Rat => W.d p.1.d) ldD isLd _ A [] (fun c _ => rfl) (fun c hc Q' q => ?_) (fun c hc hi Q' q => ?_) ?_
  · rcases c with ⟨_ | _ | l, p⟩
    · fin_places
      refine oIxT (xs := [sR]) (at_head _ _) ?_
      fin_places
      try exact q
    · fin_places
      refine oIxT (xs := [sF]) (at_head _ _) ?_
      fin_places
      try exact q
    · fin_places
      refine oIxT (xs := [sL, fr l]) (at_head _ _) ?_
      fin_places
      try exact q
  · rcases c with ⟨_ | _ | l, p⟩
    · cases hi
    · cases hi
    · fin_places
      refine oIxT (xs := [sL, fr l]) (x := fr l) (at_one _ _ _) ?_
      fin_places
      refine ⟨_, _, rfl, So.key (.lead l), (dfind_so fr A (.lead l)).trans (by rw [slook_of hA.nd hc]; rfl), ?_⟩
      fin_places
      try exact q
  rw [List.nil_append, leads_lc]
  have jp : JointP A = (match slook A .ring, jTurn A with
    | some s, some t => ∀ c ∈ rulesW (some t) (leadsOf A), Mult c.2 (s - c.1)
    | none, some t => FitsP (rulesW (some t) (leadsOf A))
    | _, none => FitsP (rulesW none (leadsOf A))) := rfl
  have jt : jTurn A = (match slook A .ring, slook A .flute, leadsOf A with
    | _, some t, _ => some t
    | some s, none, f :: _ => some ((s - f.2) / f.1)
    | _, none, _ => none) := rfl
  cases hr : slook A .ring with
  | none =>
    cases hf : slook A .flute with
    | some a =>
      rw [hf] at rok jt
      rw [hr] at jp jt
      rw [jt] at jp
      clear jt
      have za := hfl a hf
      fin_places
      refine sLc (sSeqI ?_)
      fin_places
      refine xSeqL ⟨by rw [List.length_map, List.length_map]; have := hL.len; omega, ?_⟩
      rw [List.map_map]
      refine lc_map (fun c : Rat × Rat => W.d (ruD c.1 c.2)) (fun c => ruD (c.2 + c.1 * a) c.1) _ (leadsOf A) (fun c _ => rfl) (fun c hc Q' q => ?_) ?_
      · have z1 := hL.z1 c hc
        have z2 := hL.z2 c hc
        have z3 := sz_mul c.1 a
        fin_places
        refine cQ2 (f := (· * ·)) (show _ ≤ _ by omega) ?_
        fin_places
        refine cQ2 (f := (· + ·)) (show _ ≤ _ by omega) ?_
        fin_places
        try exact q
      · rw [show (leadsOf A).map (fun c => ruD (c.2 + c.1 * a) c.1) = (rulesW (some a) (leadsOf A)).map fun c => ruD c.1 c.2 from by rw [rulesW, List.map_map]; rfl]
        fin_places
        refine cFits rok.1 rok.2 (fun b hb => ?_)
        try exact hq b (by rw [jp]; exact hb)
    | none =>
      have jp0 : JointP A = FitsP (rulesW none (leadsOf A)) := by rw [jp, jt, hr, hf]
      rw [hf] at rok
      clear jp jt
      fin_places
      refine sBox ?_
      fin_places
      intro a ha
      fin_places
      refine sFor (sSeqI ?_)
      fin_places
      refine xSeqL ?_
      cases hl : leadsOf A with
      | nil =>
        rw [hl] at jp0 rok
        rw [show cutD (([] : List (Rat × Rat)).map fun c => ruD c.1 c.2) (some 1) none = [] from by decide +kernel]
        refine for_inv (α := Empty) (fun e => nomatch e) (fun _ δ' M' => ∃ x4 x6 x7 x8 x9 x10, δ' = [some (.dct (A.map fun p => (p.1.d, fr p.2))), some (.d .none), some (.d .none), some (.d (rlD [])), x4, some (.box a), x6, x7, x8, x9, x10] ∧ M' = mset M a (.l [])) (fun y => nomatch y) ?_ [] _ _ ⟨_, _, _, _, _, _, rfl, rfl⟩
        · rintro δ' M' ⟨x4, x6, x7, x8, x9, x10, rfl, rfl⟩
          fin_places
          refine sGho rfl mset_same ?_
          rw [mdel_mset ha]
          fin_places
          refine cFits (R := []) (by decide) (fun c hc => (nomatch hc)) (fun b hb => ?_)
          try exact hq b (by rw [jp0]; exact hb)
      | cons f T =>
        rw [hl] at jp0 rok
        rw [show cutD ((f :: T).map fun c => ruD c.1 c.2) (some 1) none = T.map fun c => ruD c.1 c.2 from cut1 _ _]
        have f0 := hL.n0 f (by rw [hl]; exact List.mem_cons_self)
        have zf := hL.z1 f (by rw [hl]; exact List.mem_cons_self)
        have zg := hL.z2 f (by rw [hl]; exact List.mem_cons_self)
        have dis := hL.dis
        rw [hl] at dis
        have lT : T.length ≤ 4 := by have := hL.len; rw [hl, List.length_cons] at this; omega
        rw [List.map_map]
        refine for_inv (fun c : Rat × Rat => W.d (ruD c.1 c.2)) (fun R δ' M' => ∃ C x4 x6 x7 x8 x9 x10, T = C ++ R ∧ δ' = [some (.dct (A.map fun p => (p.1.d, fr p.2))), some (.d .none), some (.d .none), some (.d (rlD (f :: T))), x4, some (.box a), x6, x7, x8, x9, x10] ∧ M' = mset M a (.l ((C.map fun c => ((c.2 / c.1 - f.2 / f.1) * stepQ f.1 c.1, stepQ f.1 c.1)).map fun c => ruD c.1 c.2))) ?_ ?_ T _ _ ⟨[], _, _, _, _, _, _, rfl, rfl, rfl⟩
        · rintro c R δ' M' K ⟨C, x4, x6, x7, x8, x9, x10, eT, rfl, rfl⟩ hK
          have hc : c ∈ T := by rw [eT]; exact List.mem_append_right _ List.mem_cons_self
          have c0 := hL.n0 c (by rw [hl]; exact List.mem_cons_of_mem _ hc)
          have zc := hL.z1 c (by rw [hl]; exact List.mem_cons_of_mem _ hc)
          have zd := hL.z2 c (by rw [hl]; exact List.mem_cons_of_mem _ hc)
          have ne : f.1 ≠ c.1 := (List.pairwise_cons.mp dis).1 c hc
          have i0 := inv_ne f0 c0 ne
          have z1 := sz_inv f0
          have z2 := sz_inv c0
          have z3 := sz_sub (1 / c.1) (1 / f.1)
          have z4 := sz_inv i0
          have z5 := sz_div c.2 _ c0
          have z6 := sz_div f.2 _ f0
          have z7 := sz_sub (c.2 / c.1) (f.2 / f.1)
          refine ⟨_, rfl, ?_⟩
          fin_places
          refine oIxL (x := ruD f.1 f.2) (at_head _ _) ?_
          fin_places
          refine cQ2 (f := (· / ·)) (x := 1) ⟨c0, by rw [sz_1]; omega⟩ ?_
          fin_places
          refine cQ2 (f := (· / ·)) (x := 1) ⟨f0, by rw [sz_1]; omega⟩ ?_
          fin_places
          refine cQ2 (f := (· - ·)) (show _ ≤ _ by omega) ?_
          fin_places
          refine cQ2 (f := (· / ·)) (x := 1) ⟨i0, by rw [sz_1]; omega⟩ ?_
          fin_places
          refine sApp ?_
          fin_places
          refine ⟨a, _, rfl, mset_same, ?_⟩
          fin_places
          refine cQ2 (f := (· / ·)) ⟨c0, by omega⟩ ?_
          fin_places
          refine cQ2 (f := (· / ·)) ⟨f0, by omega⟩ ?_
          fin_places
          refine cQ2 (f := (· - ·)) (show _ ≤ _ by omega) ?_
          fin_places
          refine cQ2 (f := (· * ·)) (show _ ≤ _ by omega) ?_
          fin_places
          refine ⟨_, _, rfl, mset_same, ?_, ?_⟩
          · rw [List.length_map, List.length_map]
            have h2 := congrArg List.length eT
            rw [List.length_append] at h2
            omega
          · rw [mset_mset]
            fin_places
            refine hK _ _ ⟨C ++ [c], _, _, _, _, _, _, by rw [List.append_assoc]; exact eT, rfl, ?_⟩
            rw [List.map_append, List.map_append]
            rfl
        · rintro δ' M' ⟨C, x4, x6, x7, x8, x9, x10, eT, rfl, rfl⟩
          rw [List.append_nil] at eT
          subst eT
          fin_places
          refine sGho rfl mset_same ?_
          rw [mdel_mset ha]
          fin_places
          refine cFits rok.1 rok.2 (fun b hb => ?_)
          try exact hq b (by rw [jp0]; exact hb)
  | some s =>
    have zs := hrg s hr
    -- behind the rules: each of them
    cases hf : slook A .flute with
    | some a =>
      rw [hf] at rok jt
      rw [hr] at jp jt
      rw [jt] at jp
      clear jt
      have za := hfl a hf
      fin_places
      refine sLc (sSeqI ?_)
      fin_places
      refine xSeqL ⟨by rw [List.length_map, List.length_map]; have := hL.len; omega, ?_⟩
      rw [List.map_map]
      refine lc_map (fun c : Rat × Rat => W.d (ruD c.1 c.2)) (fun c => ruD (c.2 + c.1 * a) c.1) _ (leadsOf A) (fun c _ => rfl) (fun c hc Q' q => ?_) ?_
      · have z1 := hL.z1 c hc
        have z2 := hL.z2 c hc
        have z3 := sz_mul c.1 a
        fin_places
        refine cQ2 (f := (· * ·)) (show _ ≤ _ by omega) ?_
        fin_places
        refine cQ2 (f := (· + ·)) (show _ ≤ _ by omega) ?_
        fin_places
        try exact q
      · rw [show (leadsOf A).map (fun c => ruD (c.2 + c.1 * a) c.1) = (rulesW (some a) (leadsOf A)).map fun c => ruD c.1 c.2 from by rw [rulesW, List.map_map]; rfl]
        fin_places
        refine sLc (sSeqI ?_)
        fin_places
        refine xSeqL ⟨by rw [List.length_map, List.length_map]; have := rok.1; omega, ?_⟩
        rw [List.map_map]
        refine lc_typed (fun c : Rat × Rat => W.d (ruD c.1 c.2)) (fun _ => .int 1) (fun c => !decide (((s - c.1) / c.2).den = 1)) _ (rulesW (some a) (leadsOf A)) [] (fun c _ => rfl) (fun c hc Q' q => ?_) (fun c hc hi Q' q => ?_) ?_
        · obtain ⟨h1, h2, h3⟩ := rok.2 c hc
          have z5 := sz_sub s c.1
          fin_places
          refine cQ2 (f := (· - ·)) (show _ ≤ _ by omega) ?_
          fin_places
          refine cQ2v ⟨h1, by omega⟩ ?_
          fin_places
          try exact q
        · fin_places
          try exact q
        · rw [List.nil_append]
          fin_places
          refine cEq ⟨ones_lev _, nil_lev⟩ ?_
          rw [ones_nil]
          fin_places
          try exact hq _ (by rw [jp]; exact fl_dec _ _ (rn _))
    | none =>
      cases hl : leadsOf A with
      | nil =>
        have jp0 : JointP A = FitsP [] := by rw [jp, jt, hr, hf, hl]; rfl
        clear jp jt
        fin_places
        refine cNe ⟨nil_lev, nil_lev⟩ ?_
        rw [eqv_nil (fun c => ruD c.1 c.2) [], List.isEmpty_nil, Bool.not_true]
        fin_places
        refine sBox ?_
        fin_places
        intro a ha
        fin_places
        refine sFor (sSeqI ?_)
        fin_places
        refine xSeqL ?_
        rw [show cutD (([] : List (Rat × Rat)).map fun c => ruD c.1 c.2) (some 1) none = [] from by decide +kernel]
        refine for_inv (α := Empty) (fun e => nomatch e) (fun _ δ' M' => ∃ x4 x6 x7 x8 x9 x10, δ' = [some (.dct (A.map fun p => (p.1.d, fr p.2))), some (.d (fr s)), some (.d .none), some (.d (rlD [])), x4, some (.box a), x6, x7, x8, x9, x10] ∧ M' = mset M a (.l [])) (fun y => nomatch y) ?_ [] _ _ ⟨_, _, _, _, _, _, rfl, rfl⟩
        · rintro δ' M' ⟨x4, x6, x7, x8, x9, x10, rfl, rfl⟩
          fin_places
          refine sGho rfl mset_same ?_
          rw [mdel_mset ha]
          fin_places
          all_goals exact cFits (R := []) (by decide) (fun c hc => (nomatch hc)) (fun b hb => hq b (by rw [jp0]; exact hb))
      | cons f T =>
        have jp0 : JointP A = (∀ c ∈ rulesW (some ((s - f.2) / f.1)) (f :: T), Mult c.2 (s - c.1)) := by rw [jp, jt, hr, hf, hl]
        clear jp jt
        have f0 := hL.n0 f (by rw [hl]; exact List.mem_cons_self)
        have zf := hL.z1 f (by rw [hl]; exact List.mem_cons_self)
        have zg := hL.z2 f (by rw [hl]; exact List.mem_cons_self)
        have lT : T.length ≤ 4 := by have := hL.len; rw [hl, List.length_cons] at this; omega
        have z1 := sz_sub s f.2
        have z2 := sz_div (s - f.2) f.1 f0
        have rn2 := rn (some ((s - f.2) / f.1))
        rw [hl] at rn2
        have hz : ∀ c ∈ f :: T, sz c.1 ≤ 3 ∧ sz c.2 ≤ 90 ∧ c.1 ≠ 0 := fun c hc => ⟨hL.z1 c (by rw [hl]; exact hc), hL.z2 c (by rw [hl]; exact hc), hL.n0 c (by rw [hl]; exact hc)⟩
        fin_places
        refine cNe ⟨rl_lev (f :: T), nil_lev⟩ ?_
        rw [eqv_nil (fun c => ruD c.1 c.2) (f :: T), List.isEmpty_cons, Bool.not_false]
        fin_places
        refine oIxL (x := ruD f.1 f.2) (at_head _ _) ?_
        fin_places
        refine cQ2 (f := (· - ·)) (show _ ≤ _ by omega) ?_
        fin_places
        refine oIxL (x := ruD f.1 f.2) (at_head _ _) ?_
        fin_places
        refine cQ2 (f := (· / ·)) ⟨f0, by omega⟩ ?_
        have za : sz ((s - f.2) / f.1) ≤ 184 := by omega
        generalize (s - f.2) / f.1 = a at *
        fin_places
        refine sLc (sSeqI ?_)
        fin_places
        refine xSeqL ⟨by rw [List.length_map, List.length_map, List.length_cons]; omega, ?_⟩
        rw [List.map_map]
        refine lc_map (fun c : Rat × Rat => W.d (ruD c.1 c.2)) (fun c => ruD (c.2 + c.1 * a) c.1) _ (f :: T) (fun c _ => rfl) (fun c hc Q' q => ?_) ?_
        · obtain ⟨y1, y2, _⟩ := hz c hc
          have z3 := sz_mul c.1 a
          fin_places
          refine cQ2 (f := (· * ·)) (show _ ≤ _ by omega) ?_
          fin_places
          refine cQ2 (f := (· + ·)) (show _ ≤ _ by omega) ?_
          fin_places
          try exact q
        · rw [show (f :: T).map (fun c => ruD (c.2 + c.1 * a) c.1) = (rulesW (some a) (f :: T)).map fun c => ruD c.1 c.2 from by rw [rulesW, List.map_map]; rfl]
          fin_places
          refine sLc (sSeqI ?_)
          fin_places
          refine xSeqL ⟨by rw [List.length_map, List.length_map, len_rules none, List.length_cons]; omega, ?_⟩
          rw [List.map_map]
          refine lc_typed (fun c : Rat × Rat => W.d (ruD c.1 c.2)) (fun _ => .int 1) (fun c => !decide (((s - c.1) / c.2).den = 1)) _ (rulesW (some a) (f :: T)) [] (fun c _ => rfl) (fun c hc Q' q => ?_) (fun c hc hi Q' q => ?_) ?_
          · obtain ⟨d, hd, rfl⟩ := List.mem_map.mp hc
            obtain ⟨y1, y2, y3⟩ := hz d hd
            have z3 := sz_mul d.1 a
            have z4 := sz_add d.2 (d.1 * a)
            have z5 := sz_sub s (d.2 + d.1 * a)
            fin_places
            refine cQ2 (f := (· - ·)) (x := s) (y := d.2 + d.1 * a) (show _ ≤ _ by omega) ?_
            fin_places
            refine cQ2v (x := s - (d.2 + d.1 * a)) (y := d.1) ⟨y3, by omega⟩ ?_
            fin_places
            try exact q
          · fin_places
            try exact q
          · rw [List.nil_append]
            fin_places
            refine cEq ⟨ones_lev _, nil_lev⟩ ?_
            rw [ones_nil]
            fin_places
            try exact hq _ (by rw [jp0]; exact fl_dec _ _ rn2)
end Sh
set_option maxHeartbeats 1000000
namespace Sh
open PySem PySem.Spec PyProof.Rows L2
/-! ## the law's any motion, walked -/
structure PickL (B O : List Pr) (A : SA) : Prop where
  nd : (A.map (·.1)).Nodup
  st : kSo.Srt (A.map (·.1))
  keys : ∀ s, s ∈ A.map (·.1) ↔ hasS B s
  mem : ∀ c ∈ A, c.2 ∈ slGL (ofS c.1 B) (ofS c.1 O)
def SolvL (B O : List Pr) : Prop := SameS B O ∧ ∃ A, PickL B O A ∧ JointP A
abbrev sp__law_any_motion : DSp := ⟨2, fun ws M Q => ∃ B O : List Pr, ws = [.d (bD B), .d (bD O)] ∧ BdOk 16 B ∧ BdOk 64 O ∧ ∀ b, (b = true ↔ SolvL B O) → Q (.d (.bool b)) M⟩
theorem cAny {B O : List Pr} {M : MM} {Q : WK} (h1 : BdOk 16 B) (h2 : BdOk 64 O) (q : ∀ b, (b = true ↔ SolvL B O) → Q (.d (.bool b)) M) : [W.d (bD B), .d (bD O)].length = sp__law_any_motion.n ∧ sp__law_any_motion.run [.d (bD B), .d (bD O)] M Q := ⟨rfl, B, O, rfl, h1, h2, q⟩
theorem slGL_len (A B : List Pr) : (slGL A B).length ≤ B.length := by
  unfold slGL
  split
  · exact Nat.zero_le _
  · unfold slidesL
    rw [List.length_map]
    exact List.length_filter_le _ _
theorem slGL_sz {A B : List Pr} {a b : Nat} (hA : ∀ x ∈ A, Ln.fits a x.1) (hB : ∀ x ∈ B, Ln.fits b x.1) {p : Rat} (h : p ∈ slGL A B) : sz p ≤ b + a + 1 := by
  unfold slGL at h
  split at h
  · cases h
  · rename_i f T
    obtain ⟨y, hy, rfl⟩ := List.mem_map.mp h
    have h1 := plc_sz (hB y (List.mem_filter.mp hy).1)
    have h2 := plc_sz (hA f List.mem_cons_self)
    have := sz_sub (plc y.1) (plc f.1)
    unfold slp
    omega
theorem PickL.ok {B O : List Pr} {A : SA} (h : PickL B O A) (h1 : BdOk 16 B) (h2 : BdOk 64 O) (hl : A.length ≤ 5) : SAok A where
  len := hl
  nd := h.nd
  n0 := fun l p hc => by
    obtain ⟨x, hx, e⟩ := (h.keys (.lead l)).mp (List.mem_map.mpr ⟨_, hc, rfl⟩)
    have hf := h1.fits x hx
    rcases x with ⟨_ | _ | ⟨m, q⟩, n⟩
    · cases e
    · cases e
    · cases e
      exact ⟨hf.1, hf.2.1⟩
  z := fun c hc => by
    have := slGL_sz (a := 16) (b := 64) (fun x hx => h1.fits x (ofS_sub hx).1) (fun x hx => h2.fits x (ofS_sub hx).1) (h.mem c hc)
    omega
theorem eqv_so1 (x y : So) : PyData.eqv x.d y.d = decide (x = y) := by
  rw [Bool.eq_iff_iff, decide_eq_true_eq]
  exact ⟨fun h => So.inj _ _ (eqv_eq _ _ (So.nob _) (So.nob _) h), fun h => by rw [h]; exact eqv_self _ (So.nob _)⟩
noncomputable def jB (S : List So) (r : List Rat) : Bool := @decide (JointP (S.zip r)) (Classical.propDecidable _)
theorem jB_true {S : List So} {r : List Rat} : jB S r = true ↔ JointP (S.zip r) := @decide_eq_true_iff _ (Classical.propDecidable _)
theorem jB_is {S : List So} {r : List Rat} {b : Bool} (h : b = true ↔ JointP (S.zip r)) : jB S r = b := by rw [Bool.eq_iff_iff, jB_true, h]
theorem zip_parts : ∀ A : SA, (A.map (·.1)).zip (A.map (·.2)) = A
  | [] => rfl
  | a :: A => by rw [List.map_cons, List.map_cons, List.zip_cons_cons, zip_parts A]
theorem so_of (B : List Pr) (s : So) : s ∈ B.map (fun x => srt x.1) ↔ hasS B s := by
  rw [List.mem_map]
  exact Iff.rfl
local macro_rules | `(tactic| one_item) => `(tactic| first
  | ((with_reducible refine' cEqS ?k1 ?_); (case k1 => exact ⟨by decide +kernel, by decide +kernel⟩); (try simp only [tRR, tRF, tRL, tFR, tFF, tFL, tLR, tLF, tLL, decide_true, decide_false, Bool.not_true, Bool.not_false]))
  | ((with_reducible refine' cNeS ?k1 ?_); (case k1 => exact ⟨by decide +kernel, by decide +kernel⟩); (try simp only [tRR, tRF, tRL, tFR, tFF, tFL, tLR, tLF, tLL, decide_true, decide_false, Bool.not_true, Bool.not_false]))
  | (with_reducible refine sFnR ?_)
  | (with_reducible refine xTrue ?_)
  | (with_reducible refine xFalse ?_)
  | ((with_reducible refine' xNT ?k1 ?_); (case k1 => rfl))
  | ((with_reducible refine' xNF ?k1 ?_); (case k1 => rfl))
  | ((with_reducible refine' xNNT ?k1 ?_); (case k1 => rfl))
  | ((with_reducible refine' xNNF ?k1 ?_); (case k1 => rfl))
  | (with_reducible refine sSeq ?_) | (with_reducible refine sAsg ?_) | (with_reducible refine s2 ?_)
  | ((with_reducible refine' sVar ?k1 ?_); (case k1 => rfl))
  | (with_reducible refine sC ?_) | (with_reducible refine sCons ?_) | (with_reducible refine sNil ?_) | (with_reducible refine sN ?_) | (with_reducible refine s1 ?_)
  | ((with_reducible refine' xBind ?k1 ?_); (case k1 => rfl))
  | ((with_reducible refine' sFnE ?k1 ?_); (case k1 => rfl))
  | (with_reducible refine sIfS ?_) | (with_reducible refine sIf ?_) | (with_reducible refine sB ?_) | (with_reducible refine oCmp ?_) | (with_reducible refine xBool ?_) | (with_reducible refine sRet ?_) | (with_reducible refine sTup ?_) | (with_reducible refine sLst ?_)
  | ((with_reducible refine' xDat ?k1 ?k2 ?_); (case k1 => rfl); (case k2 => (exact Nat.le_of_ble_eq_true rfl)))
  | ((with_reducible refine' oIxT ?k1 ?_); (case k1 => rfl)) | ((with_reducible refine' oIxL ?k1 ?_); (case k1 => rfl))
  | (with_reducible refine oAdd ?_) | (with_reducible refine oSub ?_) | (with_reducible refine oNeg ?_) | (with_reducible refine oGcd ?_) | (with_reducible refine oAbs ?_) | (with_reducible refine oInt ?_)
  | (with_reducible refine oLenT ?_) | (with_reducible refine oLenL ?_) | (with_reducible refine oSlT ?_) | (with_reducible refine oSlL ?_) | (with_reducible refine oTupL ?_) | (with_reducible refine oTupT ?_)
  | (with_reducible refine cLt ?_) | (with_reducible refine cLe ?_) | (with_reducible refine cGt ?_) | (with_reducible refine cGe ?_) | (with_reducible refine cIsN (o := .isN) ?_) | (with_reducible refine cNotN ?_) | (with_reducible refine cIsB ?_) | (with_reducible refine cEqI ?_) | (with_reducible refine cNeI ?_)
  | (with_reducible refine sNotT ?_) | (with_reducible refine sAndT ?_) | (with_reducible refine sOrT ?_) | (with_reducible refine sNotV ?_) | (with_reducible refine sAndV ?_) | (with_reducible refine sOrV ?_)
  | (with_reducible refine sSl ?_) | (with_reducible refine sONone ?_) | (with_reducible refine sOSome ?_) | (with_reducible refine xInt ?_) | (with_reducible refine sChn ?_) | (with_reducible refine sPar ?_) | (with_reducible refine xTwo ?_) | (with_reducible refine sIsi ?_) | (with_reducible refine sIsi2 ?_) | (with_reducible refine xD ?_)
  | (with_reducible refine sNext ?_)
  | (with_reducible refine xT ?_) | (with_reducible refine xF ?_))
local macro_rules | `(tactic| fin_places) => `(tactic| (repeat one_item))
def b__law_any_motion : List Sm := [(.asg (.nm 2) (.blx .sorted (.cons (.blx .set (.cons (.lc (.call 0 (.cons (.ix (.var 3) (.lit (.int 0))) .nil)) (.nm 3) (.seq (.var 0)) .yes [3]) .nil)) .nil))), (.ife (.cmp .ne (.var 2) (.blx .sorted (.cons (.blx .set (.cons (.lc (.call 0 (.cons (.ix (.var 3) (.lit (.int 0))) .nil)) (.nm 3) (.seq (.var 1)) .yes [3]) .nil)) .nil))) [(.ret (.lit (.bool false)))] []), (.asg (.nm 4) (.box .nil)), (.for_ (.nm 5) (.seq (.var 2)) [(.app (.var 4) (.call 1 (.cons (.lc (.var 3) (.nm 3) (.seq (.var 0)) (.cmp .eq (.call 0 (.cons (.ix (.var 3) (.lit (.int 0))) .nil)) (.var 5)) [3]) (.cons (.lc (.var 3) (.nm 3) (.seq (.var 1)) (.cmp .eq (.call 0 (.cons (.ix (.var 3) (.lit (.int 0))) .nil)) (.var 5)) [3]) .nil))))]), (.gho 4), (.ret (.cmp .ne (.lc (.lit (.int 1)) (.nm 3) (.seq (.call 2 (.cons (.var 4) .nil))) (.val (.call 3 (.cons (.dz (.cons (.var 2) (.cons (.var 3) .nil))) .nil))) [3]) (.lst .nil)))]
theorem fn__law_any_motion {g : Gb} (gk : GOk g) (a : At g "_law_any_motion" 96) (f__law_sort : FOk g 1 "_law_sort" sp__law_sort) (f__law_slides : FOk g 7 "_law_slides" sp__law_slides) (f__law_choices : FOk g 1 "_law_choices" sp__law_choices) (f__law_joint : FOk g 6 "_law_joint" sp__law_joint) : FOk g 8 "_law_any_motion" sp__law_any_motion := by
  refine FOk.of (k := 7) (G := [("_law_sort", sp__law_sort), ("_law_slides", sp__law_slides), ("_law_choices", sp__law_choices), ("_law_joint", sp__law_joint)]) (N := ["_law_band_so", "_law_other_so", "_law_sorts_so", "_law_own", "_law_lots_so", "_law_sort_so"]) (ps := ["_law_band_so", "_law_other_so"]) b__law_any_motion a gk ⟨List.forall_mem_cons.mpr ⟨f__law_sort.mono (by decide), List.forall_mem_cons.mpr ⟨f__law_slides.mono (by decide), List.forall_mem_cons.mpr ⟨f__law_choices.mono (by decide), List.forall_mem_cons.mpr ⟨f__law_joint.mono (by decide), fun _ h => nomatch h⟩⟩⟩⟩⟩ ⟨rfl, rfl, rfl, by decide +kernel, rfl, by decide +kernel, by decide +kernel⟩ (fun _ _ _ _ _ _ us hl => match us, hl with | [_, _], _ => rfl) rfl (by decide +kernel) ?_
  intro ws M Q h
  simp only [b__law_any_motion, evSs, evS, ev, evA, evT, evTs, evAnd, evOr, evO, evI, Bool.false_eq_true, reduceIte]
  obtain ⟨B, O, rfl, h1, h2, hq⟩ := h
  have k1 := h1.len
  have k2 := h2.len
  fin_places
  refine sLc (sSeqI ?_)
  fin_places
  refine xSeqT ⟨small (by omega), ?_⟩
  rw [List.map_map]
  refine lc_map (fun x : Pr => W.d (Pr.d x)) (fun x => (srt x.1).d) _ B (fun c _ => rfl) (fun c hc Q' q => ?_) ?_
  · fin_places
    refine cSo ?_
    try exact q
  rw [show B.map (fun x => (srt x.1).d) = (B.map fun x => srt x.1).map So.d from by rw [List.map_map]; rfl]
  fin_places
  refine sort_set kSo So.key (L := B.map fun x => srt x.1) (by rw [List.length_map]; omega) fun S s1 n1 m1 => ?_
  have m1 : ∀ s, s ∈ S ↔ hasS B s := fun s => (m1 s).trans (so_of B s)
  fin_places
  refine sLc (sSeqI ?_)
  fin_places
  refine xSeqT ⟨small (by omega), ?_⟩
  rw [List.map_map]
  refine lc_map (fun x : Pr => W.d (Pr.d x)) (fun x => (srt x.1).d) _ O (fun c _ => rfl) (fun c hc Q' q => ?_) ?_
  · fin_places
    refine cSo ?_
    try exact q
  rw [show O.map (fun x => (srt x.1).d) = (O.map fun x => srt x.1).map So.d from by rw [List.map_map]; rfl]
  fin_places
  refine sort_set kSo So.key (L := O.map fun x => srt x.1) (by rw [List.length_map]; omega) fun S2 s2 n2 m2 => ?_
  have m2 : ∀ s, s ∈ S2 ↔ hasS O s := fun s => (m2 s).trans (so_of O s)
  refine cNe ⟨lev_so _, lev_so _⟩ ?_
  rw [show PyData.eqv (.list (S.map kSo.enc)) (.list (S2.map kSo.enc)) = decide (S = S2) from eqv_so S S2]
  fin_places
  refine xIfN (fun hn => ?_) (fun hs => ?_)
  · fin_places
    refine hq false ⟨fun e => (nomatch e), fun hS => absurd ?_ hn⟩
    exact kSo.uniq s1 s2 ((List.perm_ext_iff_of_nodup n1 n2).mpr fun s => (m1 s).trans ((hS.1 s).trans (m2 s).symm))
  subst hs
  have hS : SameS B O := fun s => (m1 s).symm.trans (m2 s)
  have z1 : S.length ≤ 5 := by
    have hsub : ∀ s ∈ S, s ∈ B.map fun x => srt x.1 := fun s hs => (so_of B s).mpr ((m1 s).mp hs)
    have := nodup_len n1 hsub
    rw [List.length_map] at this
    omega
  have pk : ∀ A : SA, PickL B O A ↔ A.map (·.1) = S ∧ ∀ c ∈ A, c.2 ∈ slGL (ofS c.1 B) (ofS c.1 O) := fun A => by
    constructor
    · intro h
      exact ⟨kSo.uniq h.st s1 ((List.perm_ext_iff_of_nodup h.nd n1).mpr fun s => (h.keys s).trans (m1 s).symm), h.mem⟩
    · rintro ⟨rfl, h⟩
      exact ⟨n1, s1, m1, h⟩
  clear m2
  fin_places
  refine sBox ?_
  fin_places
  intro a ha
  fin_places
  refine sFor (sSeqI ?_)
  fin_places
  refine xSeqL ?_
  rw [List.map_map]
  refine for_inv (fun s : So => W.d s.d) (fun R δ' M' => ∃ C x3 x5, S = C ++ R ∧ M' = mset M a (.l (C.map fun s => lotD (slGL (ofS s B) (ofS s O)))) ∧ δ' = [some (.d (bD B)), some (.d (bD O)), some (.d (.list (S.map kSo.enc))), x3, some (.box a), x5]) ?_ ?_ S _ _ ⟨[], _, _, rfl, rfl, rfl⟩
  · rintro s R δ' M' K ⟨C, x3, x5, eS, rfl, rfl⟩ hK
    have hs : hasS B s := (m1 s).mp (by rw [eS]; exact List.mem_append_right _ List.mem_cons_self)
    refine ⟨_, rfl, ?_⟩
    fin_places
    refine sApp ?_
    fin_places
    refine ⟨a, _, rfl, mset_same, ?_⟩
    refine sFnR ?_
    fin_places
    refine sLc (sSeqI ?_)
    fin_places
    refine xSeqT ⟨small (by omega), ?_⟩
    rw [List.map_map]
    refine lc_typed (fun x : Pr => W.d (Pr.d x)) Pr.d (fun x => decide (srt x.1 = s)) _ B [] (fun c _ => rfl) (fun c hc Q' q => ?_) (fun c hc hi Q' q => ?_) ?_
    · fin_places
      refine cSo ?_
      fin_places
      refine cEq ⟨So.lev' 28 _, So.lev' 28 _⟩ ?_
      rw [eqv_so1]
      fin_places
      try exact q
    · fin_places
      try exact q
    rw [List.nil_append]
    fin_places
    refine sLc (sSeqI ?_)
    fin_places
    refine xSeqT ⟨small (by omega), ?_⟩
    rw [List.map_map]
    refine lc_typed (fun x : Pr => W.d (Pr.d x)) Pr.d (fun x => decide (srt x.1 = s)) _ O [] (fun c _ => rfl) (fun c hc Q' q => ?_) (fun c hc hi Q' q => ?_) ?_
    · fin_places
      refine cSo ?_
      fin_places
      refine cEq ⟨So.lev' 28 _, So.lev' 28 _⟩ ?_
      rw [eqv_so1]
      fin_places
      try exact q
    · fin_places
      try exact q
    rw [List.nil_append]
    fin_places
    obtain ⟨f, T, eT⟩ := ofS_ne hs
    have eT' : B.filter (fun x => decide (srt x.1 = s)) = f :: T := eT
    rw [eT']
    have b1 := ofS_len s B
    have b2 := ofS_len s O
    rw [eT, List.length_cons] at b1
    refine ⟨rfl, f, T, ofS s O, rfl, by omega, by omega, fun x hx => (h1.fits x (ofS_sub (by rw [eT]; exact hx)).1).mono (by decide), fun x hx => (h2.fits x (ofS_sub hx).1).mono (by decide), ?_⟩
    refine ⟨_, _, rfl, mset_same, ?_, ?_⟩
    · rw [List.length_map]
      have h2 := congrArg List.length eS
      rw [List.length_append] at h2
      omega
    · rw [mset_mset]
      refine hK _ _ ⟨C ++ [s], _, _, by rw [List.append_assoc]; exact eS, ?_, rfl⟩
      rw [List.map_append]
      unfold slGL
      rw [List.map_cons, List.map_nil, eT]
  · rintro δ' M' ⟨C, x3, x5, eS, rfl, rfl⟩
    rw [List.append_nil] at eS
    subst eS
    fin_places
    refine sGho rfl mset_same ?_
    rw [mdel_mset ha]
    fin_places
    refine sLc (sSeqI ?_)
    fin_places
    refine ⟨rfl, S.map fun s => slGL (ofS s B) (ofS s O), by rw [List.map_map]; rfl, by rw [List.length_map]; omega, fun l hl => ?_, ?_⟩
    · obtain ⟨s, _, rfl⟩ := List.mem_map.mp hl
      have b1 := slGL_len (ofS s B) (ofS s O)
      have b2 := ofS_len s O
      omega
    have hl6 : (chs (S.map fun s => slGL (ofS s B) (ofS s O))).length ≤ 100000 := by
      have q1 : ∀ l ∈ S.map (fun s => slGL (ofS s B) (ofS s O)), l.length ≤ 6 := fun l hl => by
        obtain ⟨s, _, rfl⟩ := List.mem_map.mp hl
        have b1 := slGL_len (ofS s B) (ofS s O)
        have b2 := ofS_len s O
        omega
      have := foldC_bound _ [[]] 1 q1 (Nat.le_refl _)
      exact Nat.le_trans this (Nat.le_trans (pow6 (by rw [List.length_map]; omega)) (by decide))
    refine xSeqL ⟨by rw [List.length_map, List.length_map]; exact hl6, ?_⟩
    rw [List.map_map]
    refine lc_typed (fun r : List Rat => W.d (rowD r)) (fun _ => .int 1) (jB S) _ (chs (S.map fun s => slGL (ofS s B) (ofS s O))) [] (fun c _ => rfl) (fun r hr Q' q => ?_) (fun c hc hi Q' q => ?_) ?_
    · obtain ⟨A, a1, rfl, a3⟩ := (chs_mem _ _ _).mp hr
      have pA : PickL B O A := (pk A).mpr ⟨a1, a3⟩
      have ok := pA.ok h1 h2 (by have := congrArg List.length a1; rw [List.length_map] at this; omega)
      fin_places
      refine sDz ?_
      fin_places
      have e5 : S.map kSo.enc = A.map fun p => p.1.d := by rw [← a1, List.map_map]; rfl
      rw [show rowD (A.map (·.2)) = .tuple (A.map fun p => fr p.2) from by unfold rowD; rw [List.map_map]; rfl]
      refine ⟨_, _, rfl, by rw [e5, List.length_map, List.length_map], fun d hd => ?_, so_nodup n1, by rw [List.length_map]; omega, ?_⟩
      · obtain ⟨s, _, rfl⟩ := List.mem_map.mp hd
        exact So.key s
      rw [e5, zipA]
      fin_places
      refine cJoint ok (by rw [a1]; exact s1) (fun b hb => ?_)
      fin_places
      rw [jB_is (S := S) (r := A.map (·.2)) (b := b) (by rw [← a1, zip_parts]; exact hb)] at q
      try exact q
    · fin_places
      try exact q
    rw [List.nil_append]
    fin_places
    refine cNe ⟨ones_lev _, nil_lev⟩ ?_
    rw [ones_nil]
    fin_places
    refine hq _ ?_
    rw [Bool.not_eq_true', Bool.eq_false_iff, ne_eq, List.isEmpty_iff, List.filter_eq_nil_iff]
    constructor
    · intro h
      refine ⟨hS, Classical.byContradiction fun no => h fun r hr hj => ?_⟩
      obtain ⟨A, a1, rfl, a3⟩ := (chs_mem _ _ _).mp hr
      refine no ⟨A, (pk A).mpr ⟨a1, a3⟩, ?_⟩
      rw [jB_true, ← a1, zip_parts] at hj
      exact hj
    · rintro ⟨_, A, pA, hj⟩ h
      obtain ⟨a1, a3⟩ := (pk A).mp pA
      refine h _ ((chs_mem _ _ _).mpr ⟨A, a1, rfl, a3⟩) ?_
      rw [jB_true, ← a1, zip_parts]
      exact hj
end Sh
set_option maxHeartbeats 1000000
namespace Sh
open PySem PySem.Spec PyProof.Rows L2
/-! ## leads, same; the box and the cells, walked -/
def leadsL (B O : List Pr) : Thing → Prop
  | .mo z t => isAn t = true ∧ (O.Perm (B.map (mvP z t)) ∧ kPr.Srt O)
  | .no _ _ => False
abbrev sp__law_leads : DSp := ⟨3, fun ws M Q => ∃ (B O : List Pr) (x : Thing), ws = [.d (bD B), .d (bD O), .d (Thing.d x)] ∧ B.length < 64 ∧ (∀ y ∈ B, Ln.fits 400 y.1) ∧ x.ok ∧ ∀ b, (b = true ↔ leadsL B O x) → Q (.d (.bool b)) M⟩
theorem cLeads {B O : List Pr} {x : Thing} {M : MM} {Q : WK} (h1 : B.length < 64) (h2 : ∀ y ∈ B, Ln.fits 400 y.1) (h3 : x.ok) (q : ∀ b, (b = true ↔ leadsL B O x) → Q (.d (.bool b)) M) : [W.d (bD B), .d (bD O), .d x.d].length = sp__law_leads.n ∧ sp__law_leads.run [.d (bD B), .d (bD O), .d x.d] M Q := ⟨rfl, B, O, x, rfl, h1, h2, h3, q⟩
/-- lists of truth values and words -/
def sm : Nat → PyData → Prop
  | 0, _ => False
  | n + 1, .list xs => xs.length ≤ 1000 ∧ ∀ x ∈ xs, sm n x
  | _ + 1, .bool _ => True
  | _ + 1, .str s => lev 30 (.str s)
  | _ + 1, _ => False
def spSame (n : Nat) : DSp := ⟨2, fun ws M Q => ∃ d, ws = [.d d, .d d] ∧ sm n d ∧ Q (.d (.bool true)) M⟩
abbrev sp__law_same : DSp := spSame 8
theorem cSame {n : Nat} {d : PyData} {M : MM} {Q : WK} (h : sm n d) (q : Q (.d (.bool true)) M) : [W.d d, .d d].length = (spSame n).n ∧ (spSame n).run [.d d, .d d] M Q := ⟨rfl, d, rfl, h, q⟩
def Big (c : Int) : Prop := ∃ N : Nat, N ≤ 2000000 ∧ c.natAbs < 2 ^ N
abbrev sp__law_box : DSp := ⟨2, fun ws M Q => ∃ c : Int, ws = [.d (.list [.int c]), .d (.int 0)] ∧ Big c ∧ ∀ a M', Tin 0 a M' → Q (.box a) M'⟩
abbrev sp__law_cells : DSp := ⟨2, fun ws M Q => ∃ ns : List Int, ws = [.scr ns, .d (.int 1)] ∧ ns.length ≤ 63 ∧ (∀ z ∈ ns, ∃ N : Nat, N ≤ 1048576 ∧ z.natAbs < 2 ^ N) ∧ ∀ c M', Big c → Q (.d (.list [.int c])) M'⟩
theorem oPow {a b : Int} {M : MM} {Q : WK} (h : 0 ≤ b ∧ b ≤ 1000 ∧ a.natAbs < 2 ^ 64) (q : Q (.d (.int (a ^ b.toNat))) M) : bo .pow (.d (.int a)) (.d (.int b)) M Q := ⟨h, q⟩
theorem sLor {ra : RdE} {rA : RdA} {δ : En} {M : MM} {Q : WK} (q : ra δ M fun w M1 => ∃ xs, seqOf w = some xs ∧ xs.length ≤ 100000 ∧ ∀ a, M1 a = none → if xs.isEmpty = false then Q (.box a) (mset M1 a (.l xs)) else rA δ (mset M1 a (.l [])) fun ws M2 => ∃ ds, datas ws = some ds ∧ ds.length ≤ 100000 ∧ ∀ b, M2 b = none → Q (.box b) (mset M2 b (.l ds))) : rdLor ra rA δ M Q := q
theorem oSlS {ns : List Int} {lo hi : Option Int} {M : MM} {Q : WK} (q : Q (.d (.list (cutD (ns.map .int) lo hi))) M) : slO (.scr ns) lo hi M Q := q
theorem xTF {A B : Prop} (q : B) : if true = false then A else B := by rw [if_neg (by decide)]; exact q
theorem xFF {A B : Prop} (q : A) : if false = false then A else B := by rw [if_pos rfl]; exact q
theorem cutI (ns : List Int) (lo hi : Option Int) : ∃ rs : List Int, cutD (ns.map PyData.int) lo hi = rs.map PyData.int ∧ rs.length ≤ ns.length ∧ ∀ r ∈ rs, r ∈ ns := by
  unfold cutD
  rw [← List.map_drop, ← List.map_take]
  refine ⟨_, rfl, ?_, fun r hr => List.mem_of_mem_drop (List.mem_of_mem_take hr)⟩
  rw [List.length_take, List.length_drop]
  omega
theorem cut_one (z : Int) (ns : List Int) : cutD ((z :: ns).map PyData.int) none (some 1) = [.int z] := by
  rw [show (1 : Int) = ((1 : Nat) : Int) from rfl, cutTake]
  rfl
theorem big_step {c z : Int} {k i N : Nat} (hc : c.natAbs < 2 ^ (N + i)) (hz : ∃ n : Nat, n + 10 ≤ N ∧ z.natAbs < 2 ^ n) (hk : k + 2 < 1024) : (c + z * ((k : Int) + 2)).natAbs < 2 ^ (N + (i + 1)) := by
  obtain ⟨n, hn, hz⟩ := hz
  have e : ((k : Int) + 2).natAbs = k + 2 := by omega
  have h1 : (z * ((k : Int) + 2)).natAbs < 2 ^ (n + 10) := by
    rw [Int.natAbs_mul, e]
    exact mul_pow hz (by show k + 2 < 1024; omega)
  have h2 : 2 ^ (n + 10) ≤ 2 ^ (N + i) := Nat.pow_le_pow_right (by decide) (by omega)
  have h3 := Int.natAbs_add_le c (z * ((k : Int) + 2))
  have h4 : 2 ^ (N + (i + 1)) = 2 ^ (N + i) + 2 ^ (N + i) := by rw [← Nat.add_assoc, Nat.pow_succ]; omega
  omega
local macro_rules | `(tactic| one_item) => `(tactic| first
  | ((with_reducible refine' cEqS ?k1 ?_); (case k1 => exact ⟨by decide +kernel, by decide +kernel⟩); (try simp only [tRR, tRF, tRL, tFR, tFF, tFL, tLR, tLF, tLL, decide_true, decide_false, Bool.not_true, Bool.not_false]))
  | ((with_reducible refine' cNeS ?k1 ?_); (case k1 => exact ⟨by decide +kernel, by decide +kernel⟩); (try simp only [tRR, tRF, tRL, tFR, tFF, tFL, tLR, tLF, tLL, decide_true, decide_false, Bool.not_true, Bool.not_false]))
  | (with_reducible refine sFnR ?_)
  | (with_reducible refine xTrue ?_)
  | (with_reducible refine xFalse ?_)
  | ((with_reducible refine' xNT ?k1 ?_); (case k1 => rfl))
  | ((with_reducible refine' xNF ?k1 ?_); (case k1 => rfl))
  | ((with_reducible refine' xNNT ?k1 ?_); (case k1 => rfl))
  | ((with_reducible refine' xNNF ?k1 ?_); (case k1 => rfl))
  | (with_reducible refine sSeq ?_) | (with_reducible refine sAsg ?_) | (with_reducible refine s2 ?_)
  | ((with_reducible refine' sVar ?k1 ?_); (case k1 => rfl))
  | (with_reducible refine sC ?_) | (with_reducible refine sCons ?_) | (with_reducible refine sNil ?_) | (with_reducible refine sN ?_) | (with_reducible refine s1 ?_)
  | ((with_reducible refine' xBind ?k1 ?_); (case k1 => rfl))
  | ((with_reducible refine' sFnE ?k1 ?_); (case k1 => rfl))
  | (with_reducible refine sIfS ?_) | (with_reducible refine sIf ?_) | (with_reducible refine sB ?_) | (with_reducible refine oCmp ?_) | (with_reducible refine xBool ?_) | (with_reducible refine sRet ?_) | (with_reducible refine sTup ?_) | (with_reducible refine sLst ?_)
  | ((with_reducible refine' xDat ?k1 ?k2 ?_); (case k1 => rfl); (case k2 => (exact Nat.le_of_ble_eq_true rfl)))
  | ((with_reducible refine' oIxT ?k1 ?_); (case k1 => rfl)) | ((with_reducible refine' oIxL ?k1 ?_); (case k1 => rfl))
  | (with_reducible refine oAdd ?_) | (with_reducible refine oSub ?_) | (with_reducible refine oNeg ?_) | (with_reducible refine oGcd ?_) | (with_reducible refine oAbs ?_) | (with_reducible refine oInt ?_)
  | (with_reducible refine oLenT ?_) | (with_reducible refine oLenL ?_) | (with_reducible refine oSlT ?_) | (with_reducible refine oSlL ?_) | (with_reducible refine oTupL ?_) | (with_reducible refine oTupT ?_)
  | (with_reducible refine cLt ?_) | (with_reducible refine cLe ?_) | (with_reducible refine cGt ?_) | (with_reducible refine cGe ?_) | (with_reducible refine cIsN (o := .isN) ?_) | (with_reducible refine cNotN ?_) | (with_reducible refine cIsB ?_) | (with_reducible refine cEqI ?_) | (with_reducible refine cNeI ?_)
  | (with_reducible refine sNotT ?_) | (with_reducible refine sAndT ?_) | (with_reducible refine sOrT ?_) | (with_reducible refine sNotV ?_) | (with_reducible refine sAndV ?_) | (with_reducible refine sOrV ?_)
  | (with_reducible refine sSl ?_) | (with_reducible refine sONone ?_) | (with_reducible refine sOSome ?_) | (with_reducible refine xInt ?_) | (with_reducible refine sChn ?_) | (with_reducible refine sPar ?_) | (with_reducible refine xTwo ?_) | (with_reducible refine sIsi ?_) | (with_reducible refine sIsi2 ?_) | (with_reducible refine xD ?_)
  | (with_reducible refine sNext ?_)
  | (with_reducible refine xT ?_) | (with_reducible refine xF ?_))
local macro_rules | `(tactic| fin_places) => `(tactic| (repeat one_item))
def b__law_leads : List Sm := [(.ret (.and_ (.cons (.call 0 (.cons (.var 2) .nil)) (.cons (.cmp .eq (.call 1 (.cons (.var 0) (.cons (.var 2) .nil))) (.var 1)) .nil))))]
theorem fn__law_leads {g : Gb} (gk : GOk g) (a : At g "_law_leads" 100) (f__law_is_point : FOk g 4 "_law_is_point" sp__law_is_point) (f__law_moved_band : FOk g 7 "_law_moved_band" sp__law_moved_band) : FOk g 8 "_law_leads" sp__law_leads := by
  refine FOk.of (k := 7) (G := [("_law_is_point", sp__law_is_point), ("_law_moved_band", sp__law_moved_band)]) (N := ["_law_band_so", "_law_other_so", "_law_told_so"]) (ps := ["_law_band_so", "_law_other_so", "_law_told_so"]) b__law_leads a gk ⟨List.forall_mem_cons.mpr ⟨f__law_is_point.mono (by decide), List.forall_mem_cons.mpr ⟨f__law_moved_band.mono (by decide), fun _ h => nomatch h⟩⟩⟩ ⟨rfl, rfl, rfl, by decide +kernel, rfl, by decide +kernel, by decide +kernel⟩ (fun _ _ _ _ _ _ us hl => match us, hl with | [_, _, _], _ => rfl) rfl (by decide +kernel) ?_
  intro ws M Q h
  simp only [b__law_leads, evSs, evS, ev, evA, evT, evTs, evAnd, evOr, evO, evI, Bool.false_eq_true, reduceIte]
  obtain ⟨B, O, x, rfl, hl, hf, hx, hq⟩ := h
  cases x with
  | no d hd =>
    fin_places
    refine cPtNo hd ?_
    fin_places
    try exact hq false ⟨fun e => (nomatch e), fun e => e.elim⟩
  | mo z t =>
    have hx2 := hx.2
    fin_places
    refine cPt (by omega) ?_
    fin_places
    cases ha : isAn t with
    | false =>
      fin_places
      try exact hq false ⟨fun e => (nomatch e), fun e => by have e1 := e.1; rw [ha] at e1; cases e1⟩
    | true =>
      fin_places
      refine ⟨rfl, B, z, t, rfl, hl, hf, hx.1, hx.2, fun L' p st => ?_⟩
      fin_places
      refine cEq ⟨lev_bd _, lev_bd _⟩ ?_
      rw [eqv_bd]
      refine hq _ ⟨fun e => ?_, fun e => decide_eq_true ?_⟩
      · have e := of_decide_eq_true e
        subst e
        exact ⟨ha, p, st⟩
      · exact kPr.uniq st e.2.2 (p.trans e.2.1.symm)
def b__law_same : List Sm := [(.ife (.val (.isi2 (.var 1) .list .tuple)) [(.ife (.or_ (.cons (.cmp .ne (.isi (.var 0) .list) (.isi (.var 1) .list)) (.cons (.cmp .ne (.isi (.var 0) .tuple) (.isi (.var 1) .tuple)) .nil))) [(.ret (.lit (.bool false)))] []), (.ret (.and_ (.cons (.cmp .eq (.blt .len (.cons (.var 0) .nil)) (.blt .len (.cons (.var 1) .nil))) (.cons (.blt .all (.cons (.lc (.call 0 (.cons (.var 2) (.cons (.var 3) .nil))) (.tp [(.nm 2), (.nm 3)]) (.zip (.cons (.var 0) (.cons (.var 1) .nil))) .yes [2, 3]) .nil)) .nil))))] []), (.ife (.or_ (.cons (.cmp .isN (.var 1) (.lit .none)) (.cons (.val (.isi2 (.var 1) .bool .str)) .nil))) [(.ret (.and_ (.cons (.cmp .eq (.var 0) (.var 1)) (.cons (.cmp .eq (.isi (.var 0) .bool) (.isi (.var 1) .bool)) (.cons (.cmp .eq (.cmp .isN (.var 0) (.lit .none)) (.cmp .isN (.var 1) (.lit .none))) .nil)))))] []), (.ret (.and_ (.cons (.isi (.var 0) .int) (.cons (.not_ (.isi (.var 0) .bool)) (.cons (.cmp .eq (.var 0) (.var 1)) .nil)))))]
theorem fn__law_same {g : Gb} (gk : GOk g) (a : At g "_law_same" 61) : ∀ n, FOk g n "_law_same" (spSame n) := by
  intro n
  induction n with
  | zero => exact FOk.dead a ["_law_got", "_law_due"] (fun _ _ _ _ _ _ us hl => match us, hl with | [_, _], _ => rfl) fun ws M Q ⟨d, _, h, _⟩ => by cases d <;> exact h
  | succ n ih =>
    refine FOk.of (k := n) (G := [("_law_same", spSame n)]) (N := ["_law_got", "_law_due", "_law_mine", "_law_its"]) (ps := ["_law_got", "_law_due"]) b__law_same a gk ⟨List.forall_mem_cons.mpr ⟨ih, fun _ h => nomatch h⟩⟩ ⟨rfl, rfl, rfl, by decide +kernel, rfl, by decide +kernel, by decide +kernel⟩ (fun _ _ _ _ _ _ us hl => match us, hl with | [_, _], _ => rfl) rfl (by kernel_rfl) ?_
    intro ws M Q h
    simp only [b__law_same, evSs, evS, ev, evA, evT, evTs, evAnd, evOr, evO, evI, Bool.false_eq_true, reduceIte]
    obtain ⟨d, rfl, hd, hq⟩ := h
    have bl : ∀ u : Bool, lev 30 (.bool u) := fun u => trivial
    have be : ∀ u : Bool, PyData.eqv (.bool u) (.bool u) = true := fun u => by cases u <;> rfl
    cases d with
    | list xs =>
      obtain ⟨hl, hx⟩ := hd
      fin_places
      rw [show (isC .list (.list xs) || isC .tuple (.list xs)) = true from rfl]
      fin_places
      refine cNe ⟨bl _, bl _⟩ ?_
      rw [be, Bool.not_true]
      fin_places
      refine cNe ⟨bl _, bl _⟩ ?_
      rw [be, Bool.not_true]
      fin_places
      rw [decide_eq_true (rfl : ((xs.length : Nat) : Int) = (xs.length : Nat))]
      fin_places
      refine sLc (sZip ?_)
      fin_places
      refine ⟨_, _, _, rfl, rfl, by rw [List.length_map, List.length_zip]; omega, ?_⟩
      rw [show (xs.zip xs).map (fun p => pairD p.1 p.2) = xs.map fun x => pairD x x from by rw [List.zip_eq_zipWith, List.zipWith_self, List.map_map]; rfl]
      refine lc_map (fun x : PyData => pairD x x) (fun _ => .bool true) _ xs (fun c _ => rfl) (fun c hc Q' q => ?_) ?_
      · fin_places
        refine cSame (hx c hc) ?_
        exact q
      · fin_places
        refine oAll (u := true) (by rw [show xs.map (fun _ => PyData.bool true) = xs.map fun c => .bool ((fun _ => true) c) from rfl, allB_map]; simp) ?_
        try exact hq
    | bool u =>
      fin_places
      rw [show (isC .list (.bool u) || isC .tuple (.bool u)) = false from rfl]
      fin_places
      rw [show (isC .bool (.bool u) || isC .str (.bool u)) = true from rfl]
      fin_places
      refine cEq ⟨bl _, bl _⟩ ?_
      rw [be]
      fin_places
      refine cEq ⟨bl _, bl _⟩ ?_
      rw [be]
      fin_places
      refine cEq ⟨bl _, bl _⟩ ?_
      try exact hq
    | str s =>
      fin_places
      rw [show (isC .list (.str s) || isC .tuple (.str s)) = false from rfl]
      fin_places
      rw [show (isC .bool (.str s) || isC .str (.str s)) = true from rfl]
      fin_places
      refine cEq ⟨hd, hd⟩ ?_
      rw [show PyData.eqv (.str s) (.str s) = true from by simp [PyData.eqv]]
      fin_places
      refine cEq ⟨bl _, bl _⟩ ?_
      rw [be]
      fin_places
      refine cEq ⟨bl _, bl _⟩ ?_
      try exact hq
    | none => exact hd.elim
    | int i => exact hd.elim
    | tuple i => exact hd.elim
    | dict i => exact hd.elim
def b__law_box : List Sm := [(.asg (.nm 2) (.ife (.cmp .lt (.var 1) (.blt .len (.cons (.var 0) .nil))) (.ix (.var 0) (.var 1)) (.lit (.int 0)))), (.ret (.box (.cons (.bin .mul (.blt .abs (.cons (.var 2) .nil)) (.blt .int (.cons (.cmp .ge (.blt .abs (.cons (.var 2) .nil)) (.bin .pow (.lit (.int 10)) (.lit (.int 18)))) .nil))) (.cons (.bin .add (.bin .add (.bin .mod (.blt .int (.cons (.var 2) .nil)) (.lit (.int 2305843009213693951))) (.bin .mul (.lit (.int 39373)) (.var 1))) (.lit (.int 9342))) (.cons (.lit (.int 0)) .nil)))))]
theorem fn__law_box {g : Gb} (gk : GOk g) (a : At g "_law_box" 56) : FOk g 1 "_law_box" sp__law_box := by
  refine FOk.of (k := 0) (G := []) (N := ["_law_script", "_law_k", "_law_cell_so"]) (ps := ["_law_script", "_law_k"]) b__law_box a gk ⟨fun _ h => nomatch h⟩ ⟨rfl, rfl, rfl, by decide +kernel, rfl, by decide +kernel, by decide +kernel⟩ (fun _ _ _ _ _ _ us hl => match us, hl with | [_, _], _ => rfl) rfl (by decide +kernel) ?_
  intro ws M Q h
  simp only [b__law_box, evSs, evS, ev, evA, evT, evTs, evAnd, evOr, evO, evI, Bool.false_eq_true, reduceIte]
  obtain ⟨c, rfl, ⟨N, hN, hc⟩, hq⟩ := h
  fin_places
  rw [decide_eq_true (show (0 : Int) < (([PyData.int c].length : Nat) : Int) from by show (0 : Int) < 1; decide)]
  fin_places
  refine sBox ?_
  fin_places
  refine oPow ⟨by decide, by decide, by decide⟩ ?_
  fin_places
  refine oIntB ?_
  fin_places
  refine oMul (mulOk (m := N) (n := 1) (by rw [Int.natAbs_natCast]; exact hc) (by split <;> decide) (by omega)) ?_
  fin_places
  refine oMod (by decide) ?_
  fin_places
  refine oMul (mulOk (m := 16) (n := 1) (by decide) (by decide) (by decide)) ?_
  fin_places
  intro a ha
  rw [fmodE (by decide)]
  have m0 := Int.emod_nonneg c (show (2305843009213693951 : Int) ≠ 0 by decide)
  have m1 := Int.emod_lt_of_pos c (show (0 : Int) < 2305843009213693951 by decide)
  refine hq a _ ⟨_, _, _, mset_same, Int.mul_nonneg (Int.natCast_nonneg _) (by split <;> decide), by omega, by omega, by decide, by decide⟩
def b__law_cells : List Sm := [(.asg (.nm 2) (.lor (.sl (.var 0) .no (.ye (.var 1))) (.cons (.lit (.int 0)) .nil))), (.for_ (.tp [(.nm 3), (.nm 4)]) (.enum (.cons (.sl (.var 0) (.ye (.var 1)) (.ye (.lit (.int 63)))) .nil)) [(.asg (.nm 5) (.bin .mod (.blt .int (.cons (.var 3) .nil)) (.var 1))), (.set (.var 2) (.var 5) (.bin .add (.ix (.var 2) (.var 5)) (.bin .mul (.var 4) (.bin .add (.var 3) (.lit (.int 2))))))]), (.gho 2), (.ret (.var 2))]
theorem fn__law_cells {g : Gb} (gk : GOk g) (a : At g "_law_cells" 58) : FOk g 1 "_law_cells" sp__law_cells := by
  refine FOk.of (k := 0) (G := []) (N := ["_law_script", "_law_most_so", "_law_cells_so", "_law_k", "_law_cell_so", "_law_at_so"]) (ps := ["_law_script", "_law_most_so"]) b__law_cells a gk ⟨fun _ h => nomatch h⟩ ⟨rfl, rfl, rfl, by decide +kernel, rfl, by decide +kernel, by decide +kernel⟩ (fun _ _ _ _ _ _ us hl => match us, hl with | [_, _], _ => rfl) rfl (by decide +kernel) ?_
  intro ws M Q h
  simp only [b__law_cells, evSs, evS, ev, evA, evT, evTs, evAnd, evOr, evO, evI, Bool.false_eq_true, reduceIte]
  obtain ⟨ns, rfl, hl, hb, hq⟩ := h
  obtain ⟨P0, hP0⟩ : ∃ P0 : Nat, P0 = 1048600 := ⟨_, rfl⟩
  -- behind the first statement: the box and its number
  fin_places
  have go : ∀ (b : Addr) (c : Int) (M1 : MM), M1 b = some (.l [.int c]) → c.natAbs < 2 ^ P0 →
      rdSeq (rdFor (rdEnumI (rdCons (rdSl (rdVar 0) (rdOSome (rdVar 1)) (rdOSome (rdC (.int 63)))) rdNil)) (.tp [.nm 3, .nm 4]) (rdSeq (rdAsg (rd2 (rdN (rdCons (rdVar 3) rdNil) (bn .int)) (rdVar 1) (bo .mod)) (.nm 5)) (rdSeq (rdSet (rd2 (rd2 (rdVar 2) (rdVar 5) ixX) (rd2 (rdVar 4) (rd2 (rdVar 3) (rdC (.int 2)) (bo .add)) (bo .mul)) (bo .add)) (rdVar 2) (rdVar 5)) rdNext))) (rdSeq (rdGho0 2) (rdSeq (rdRet (rdVar 2)) rdNext)) { nx := fun _ M' => Q (.d .none) M', rt := Q } [some (.scr ns), some (.d (.int 1)), some (.box b), none, none, none] M1 := by
    intro b c M1 hM hc
    fin_places
    refine sFor (sEnum ?_)
    fin_places
    refine oSlS ?_
    obtain ⟨rs, er, lr, mr⟩ := cutI ns (some 1) (some 63)
    rw [er]
    fin_places
    refine ⟨_, rfl, ?_⟩
    rw [enum_map]
    refine for_inv (fun p : Int × Nat => pairD (.int ((p.2 : Nat) : Int)) (.int p.1)) (fun T δ' M' => ∃ i c x3 x4 x5, (∀ p ∈ T, p.1 ∈ rs ∧ p.2 < 100) ∧ M' b = some (.l [.int c]) ∧ c.natAbs < 2 ^ (P0 + i) ∧ i + T.length ≤ 63 ∧ δ' = [some (.scr ns), some (.d (.int 1)), some (.box b), x3, x4, x5]) ?_ ?_ rs.zipIdx _ _ ⟨0, c, none, none, none, fun p hp => ?_, hM, hc, by rw [List.length_zipIdx]; omega, rfl⟩
    · rintro ⟨z, k⟩ T δ' M' K ⟨i, c, x3, x4, x5, hT, hM, hc, hi, rfl⟩ hK
      obtain ⟨h1, h2⟩ := hT (z, k) List.mem_cons_self
      have h2 : k < 100 := h2
      obtain ⟨n, hn, hz⟩ := hb z (mr z h1)
      refine ⟨_, rfl, ?_⟩
      fin_places
      refine oMod (by decide) ?_
      rw [show (((k : Nat) : Int)).fmod 1 = 0 from by rw [fmodE (by decide)]; exact Int.emod_one _]
      fin_places
      refine sSet ?_
      fin_places
      refine oIxB hM rfl ?_
      fin_places
      refine oMul (mulOk (m := n) (n := 8) hz (by show ((k : Int) + 2).natAbs < 256; omega) (by omega)) ?_
      fin_places
      refine xSet hM rfl ?_
      fin_places
      refine hK _ _ ⟨i + 1, c + z * ((k : Int) + 2), _, _, _, fun p hp => hT p (List.mem_cons_of_mem _ hp), mset_same, big_step hc ⟨n, by omega, hz⟩ (by omega), by rw [List.length_cons] at hi; omega, rfl⟩
    · rintro δ' M' ⟨i, c, x3, x4, x5, hT, hM, hc, hi, rfl⟩
      fin_places
      refine sGho rfl hM ?_
      fin_places
      try exact hq c _ ⟨_, by rw [List.length_nil] at hi; omega, hc⟩
    · obtain ⟨z, k⟩ := p
      have := List.mem_zipIdx hp
      exact ⟨by have := List.fst_mem_of_mem_zipIdx hp; exact this, by show k < 100; omega⟩
  refine sLor ?_
  fin_places
  refine oSlS ?_
  cases ns with
  | nil =>
    refine ⟨[], by rw [show cutD (([] : List Int).map PyData.int) none (some 1) = [] from by decide +kernel]; rfl, by decide, fun a ha => ?_⟩
    refine xTF ?_
    fin_places
    intro b hb'
    fin_places
    exact go b 0 _ mset_same (Nat.pow_pos (by decide))
  | cons z ns =>
    refine ⟨[.int z], by rw [cut_one]; rfl, by show 1 ≤ 100000; decide, fun a ha => ?_⟩
    refine xFF ?_
    fin_places
    obtain ⟨n, hn, hz⟩ := hb z List.mem_cons_self
    exact go a z _ mset_same (lt_of_pow hz (by omega))
end Sh
set_option maxHeartbeats 1000000
namespace Sh
open PySem PySem.Spec PyProof.Rows L2
/-! ## the refusal: by hand -/
/-- X() of an own class -/
theorem pmk_own0 {X : Cx} {C : Addr} {bmB : List Value} {Bn newId initId : String} {x : Str} {p pos : Pos} (F : ExcBaseFacts Bn newId initId bmB) (q : PySem.W.excIn X.K C bmB newId = true) (gC : X.mg x = some (.ref C)) (kC : PySem.W.keepIn X.K (.ref C) = true) (r : Raises X (.ref C)) (hg : Gl X x)
    (hdb : (x == ("__debug__" : Str)) = false := by decide) : PMk X (.Call (.Name x p) [] [] pos) (fun _ H Q => Q (.ref C) none H) := by
  intro pins s σ H Q I h
  refine wpAny_Call_Name_kw (ld_glob I hg gC ?_ hdb)
  refine PySem.W.callWith_K0 I.kIn kC ?_
  show wpAny _ _ (call (.ref C) []) _ _ _
  obtain ⟨bm, N, nm, qn, bs, hdct, sn, sub, ab, col, dd, k0, k1, k2, k3, k5, mN, hC, hN, hni, T⟩ := exc_obj I.kIn q
  obtain ⟨hp1, g1, d1, tk1, os1⟩ := s
  refine wpAny_call_exc_subT F T hC hN hni (fun h' e hm => ?_) (Nat.zero_le _)
  exact mk_of I hm r h (I.hok.gone hm.new)
abbrev veB : List Value := [.type "ValueError", .type "Exception", .type "BaseException", .type "object"]
/-- the class NoPaper stands at C -/
structure NpOk (g : Gb) (C : Addr) : Prop where
  mg : g.mg "NoPaper" = some (.ref C)
  ex : PySem.W.excIn g.K C veB "ValueError.__new__" = true
  kp : PySem.W.keepIn g.K (.ref C) = true
  sub : PySem.W.subIn g.K (.ref C) (.type "BaseException") = some true
  ty : PySem.W.typeIn g.K (.ref C) = some (.type "type")
  exm : PySem.W.exmOne g.K (.ref C) (.ref C) = some true
  ec : ExcC g.K C
  kit : PySem.W.kitOne g.K (.ref C) (.type "ValueError") = some true
  ve : g.mg "ValueError" = none
theorem PS.nox {X : Cx} {st : Stmt} {t : TS} (h : PS X.nox st t) : PS X st t := ⟨fun pins s σ H D I hw =>
  wpAny_mono (h.run pins s σ H D (I.wish _) hw) (fun _ _ q => q.unwish) fun _ _ z => False.elim z⟩
theorem PA.nox {X : Cx} {es : List Expr} {t : TA} (h : PA X.nox es t) : PA X es t := ⟨fun pos pins s σ H Q I hw =>
  wpAny_mono (h.run pos pins s σ H Q (I.wish _) hw) (fun _ _ ⟨vs, H', I', r, q⟩ => ⟨vs, H', I'.unwish, r, q⟩) fun _ _ z => False.elim z⟩
/-- a promise with a wish about the refusal -/
structure DSpX where
  n : Nat
  run : List W → MM → WK → (MM → Prop) → Prop
def lifX (B : Bs) (C : Addr) (sp : DSpX) : Sp := fun vs H Q E => ∃ F M ws QD ED, Same F H ∧ MOk B F M H ∧ RWs B F vs ws ∧ ws.length = sp.n ∧ sp.run ws M QD ED ∧ KW B F H M QD Q ∧ (∀ F' H' M', Pst B F H M F' H' M' → ED M' → E (.ref C) none H')
structure FOkX (g : Gb) (C : Addr) (k : Nat) (x : Str) (sp : DSpX) : Prop where
  ok : ∃ f fd ps, FnOk g.P g.w g.K g.mg g.base (L2.CX g.P g.w) k f fd ps (lifX g.B C sp) ∧ g.mg x = some (.ref f) ∧ PySem.W.keepIn g.K (.ref f) = true ∧ Binds g.K fd ps []
/-- the text of told_motion -/
def isTold (G : Fns) (p : Pl) (a : Sm) (t : Te) (c : Sm) : List Stmt → Bool
  | [s1, .If e [.Raise (some (.Call (.Name x _) [] [] _)) none _] [] _, s3] => decide (x = "NoPaper") && (okGl p x && (isS G p a s1 && (isT G p t e && isS G p c s3)))
  | _ => false
def tRaise (C : Addr) (W : WX) : TS := fun _ σ H => W (.ref C) none σ H
theorem told_ps {g : Gb} {k : Nat} {G : Fns} {p : Pl} {X : Cx} {C : Addr} {W : WX} (np : NpOk g C) (hc : X.calm = true) (gd : Good g k G p X.nox) (tk : Takes X W) {a : Sm} {t : Te} {c : Sm} {ss : List Stmt} (h : isTold G p a t c ss = true) :
    PSs X ss (tSeq (liS g.B (evS G a)) (tSeq (tIfS (liT g.B (evT G t)) (tRaise C W) tNext) (liS g.B (evS G c)))) := by
  unfold isTold at h
  split at h
  · obtain ⟨h1, h⟩ := ba h
    obtain ⟨h2, h⟩ := ba h
    obtain ⟨h3, h⟩ := ba h
    obtain ⟨h4, h5⟩ := ba h
    have ex := of_decide_eq_true h1
    subst ex
    have eK : X.K = g.K := gd.K
    have em : X.mg = g.mg := gd.mg
    have hg : Gl X "NoPaper" := okGl_of gd h2
    refine pss_cons (PS.nox (ok_S a p _ _ gd h3)) (pss_cons (ps_if (PT.nox (ok_T t p _ _ gd h4)) (pss_one ?_) pss_nil) (pss_one (PS.nox (ok_S c p _ _ gd h5))))
    exact ps_raise hc tk (pmk_own0 PySem.F.excBase_ValueError (by rw [eK]; exact np.ex) (by rw [em]; exact np.mg) (by rw [eK]; exact np.kp) (raises_own (by rw [eK]; exact np.sub) (by rw [eK]; exact np.ty)) hg)
  · cases h
abbrev sp_told_motion : DSpX := ⟨2, fun ws M Q E => ∃ B O : List Pr, ws = [.d (bD B), .d (bD O)] ∧ BdOk 16 B ∧ BdOk 64 O ∧ (∀ z t A M', SameS B O → Pick B O A → MoR A z t → Ext M M' → Q (.d (mo z t)) M') ∧ (∀ M', NoMo B O → Ext M M' → E M')⟩
abbrev sp_motion_between : DSpX := ⟨2, fun ws M Q E => ∃ d1 d2 B O, ws = [.d d1, .d d2] ∧ Hand d1 B ∧ Hand d2 O ∧ BdOk 16 B ∧ BdOk 64 O ∧ (∀ z t A M', SameS B O → Pick B O A → MoR A z t → Ext M M' → Q (.d (mo z t)) M') ∧ (∀ M', NoMo B O → Ext M M' → E M')⟩
abbrev sp_mirror_between : DSpX := ⟨2, fun ws M Q E => ∃ d1 d2 B O, ws = [.d d1, .d d2] ∧ Hand d1 B ∧ Hand d2 O ∧ BdOk 16 B ∧ BdOk 64 O ∧ ∀ B', SetOf (B.map mirP) B' → (∀ z t A M', SameS B' O → Pick B' O A → MoR A z t → Ext M M' → Q (.d (mo z t)) M') ∧ (∀ M', NoMo B' O → Ext M M' → E M')⟩
local macro_rules | `(tactic| one_item) => `(tactic| first
  | ((with_reducible refine' cEqS ?k1 ?_); (case k1 => exact ⟨by decide +kernel, by decide +kernel⟩); (try simp only [tRR, tRF, tRL, tFR, tFF, tFL, tLR, tLF, tLL, decide_true, decide_false, Bool.not_true, Bool.not_false]))
  | ((with_reducible refine' cNeS ?k1 ?_); (case k1 => exact ⟨by decide +kernel, by decide +kernel⟩); (try simp only [tRR, tRF, tRL, tFR, tFF, tFL, tLR, tLF, tLL, decide_true, decide_false, Bool.not_true, Bool.not_false]))
  | (with_reducible refine sFnR ?_)
  | (with_reducible refine xTrue ?_)
  | (with_reducible refine xFalse ?_)
  | ((with_reducible refine' xNT ?k1 ?_); (case k1 => rfl))
  | ((with_reducible refine' xNF ?k1 ?_); (case k1 => rfl))
  | ((with_reducible refine' xNNT ?k1 ?_); (case k1 => rfl))
  | ((with_reducible refine' xNNF ?k1 ?_); (case k1 => rfl))
  | (with_reducible refine sSeq ?_) | (with_reducible refine sAsg ?_) | (with_reducible refine s2 ?_)
  | ((with_reducible refine' sVar ?k1 ?_); (case k1 => rfl))
  | (with_reducible refine sC ?_) | (with_reducible refine sCons ?_) | (with_reducible refine sNil ?_) | (with_reducible refine sN ?_) | (with_reducible refine s1 ?_)
  | ((with_reducible refine' xBind ?k1 ?_); (case k1 => rfl))
  | ((with_reducible refine' sFnE ?k1 ?_); (case k1 => rfl))
  | (with_reducible refine sIfS ?_) | (with_reducible refine sIf ?_) | (with_reducible refine sB ?_) | (with_reducible refine oCmp ?_) | (with_reducible refine xBool ?_) | (with_reducible refine sRet ?_) | (with_reducible refine sTup ?_) | (with_reducible refine sLst ?_)
  | ((with_reducible refine' xDat ?k1 ?k2 ?_); (case k1 => rfl); (case k2 => (exact Nat.le_of_ble_eq_true rfl)))
  | ((with_reducible refine' oIxT ?k1 ?_); (case k1 => rfl)) | ((with_reducible refine' oIxL ?k1 ?_); (case k1 => rfl))
  | (with_reducible refine oAdd ?_) | (with_reducible refine oSub ?_) | (with_reducible refine oNeg ?_) | (with_reducible refine oGcd ?_) | (with_reducible refine oAbs ?_) | (with_reducible refine oInt ?_)
  | (with_reducible refine oLenT ?_) | (with_reducible refine oLenL ?_) | (with_reducible refine oSlT ?_) | (with_reducible refine oSlL ?_) | (with_reducible refine oTupL ?_) | (with_reducible refine oTupT ?_)
  | (with_reducible refine cLt ?_) | (with_reducible refine cLe ?_) | (with_reducible refine cGt ?_) | (with_reducible refine cGe ?_) | (with_reducible refine cIsN (o := .isN) ?_) | (with_reducible refine cNotN ?_) | (with_reducible refine cIsB ?_) | (with_reducible refine cEqI ?_) | (with_reducible refine cNeI ?_)
  | (with_reducible refine sNotT ?_) | (with_reducible refine sAndT ?_) | (with_reducible refine sOrT ?_) | (with_reducible refine sNotV ?_) | (with_reducible refine sAndV ?_) | (with_reducible refine sOrV ?_)
  | (with_reducible refine sSl ?_) | (with_reducible refine sONone ?_) | (with_reducible refine sOSome ?_) | (with_reducible refine xInt ?_) | (with_reducible refine sChn ?_) | (with_reducible refine sPar ?_) | (with_reducible refine xTwo ?_) | (with_reducible refine sIsi ?_) | (with_reducible refine sIsi2 ?_) | (with_reducible refine xD ?_)
  | (with_reducible refine sNext ?_)
  | (with_reducible refine xT ?_) | (with_reducible refine xF ?_))
local macro_rules | `(tactic| fin_places) => `(tactic| (repeat one_item))
def t1 : Sm := (.asg (.nm 2) (.call 0 (.cons (.var 0) (.cons (.var 1) .nil))))
def t2 : Te := (.cmp .isN (.var 2) (.lit .none))
def t3 : Sm := (.ret (.var 2))
/-- found_motion's answers, known -/
def AnsT (B O : List Pr) (M : MM) : W → MM → Prop := fun w M' => Ext M M' ∧ ((∃ z t A, w = .d (mo z t) ∧ SameS B O ∧ Pick B O A ∧ MoR A z t) ∨ (w = .d .none ∧ NoMo B O))
theorem fn_told_motion {g : Gb} {C : Addr} (gk : GOk g) (np : NpOk g C) (a : At g "told_motion" 50) {k : Nat} (f_found : FOk g k "found_motion" sp_found_motion) : FOkX g C (k + 1) "told_motion" sp_told_motion := by
  obtain ⟨f, fd, F, m⟩ := a.ex
  refine ⟨f, fd, ["band", "other"], F.ok (CX := L2.CX g.P g.w) (N := ["band", "other", "motion"]) (ps := ["band", "other"]) ⟨rfl, rfl, rfl, by decide +kernel, rfl, by decide +kernel, by decide +kernel⟩ (fun vs H Q E h => ?_) (fun cdv A outer s H vs Q E hr h => ?_), m, F.kp, F.bindsN fun _ _ _ _ _ _ us hl => match us, hl with | [_, _], _ => rfl⟩
  · obtain ⟨F0, M, ws, QD, ED, _, _, r, hl, _⟩ := h
    rw [r.length, hl]
    rfl
  · obtain ⟨F0, M, ws, QD, ED, sub, mok, r, hl, ⟨B, O, rfl, h1, h2, q1, q2⟩, kk, ke⟩ := h
    refine ⟨_, told_ps (G := [("found_motion", sp_found_motion)]) (p := ⟨["band", "other", "motion"], defScope (top 50), true⟩) (a := t1) (t := t2) (c := t3) np rfl { gk := gk, fs := ⟨List.forall_mem_cons.mpr ⟨f_found, fun _ h => nomatch h⟩⟩, calm := rfl, nd := (show (["band", "other", "motion"] : List Str).Nodup from by decide +kernel), N := rfl, sc := rfl, kind := rfl, fn := fun _ _ => rfl, P := rfl, w := rfl, K := rfl, mg := rfl, base := rfl, room := hr, xe := rfl } (takes_of rfl rfl rfl rfl) (by decide +kernel), ?_⟩
    refine ⟨F0, M, startD ["band", "other", "motion"] [.d (bD B), .d (bD O)], { nx := fun δ' M' => ∃ w, δ' = [some (.d (bD B)), some (.d (bD O)), some w] ∧ AnsT B O M w M', rt := fun _ _ => False }, ⟨sub, mok, start_ok r⟩, ?_, ?_⟩
    · simp only [t1, evS, ev, evA]
      fin_places
      refine cFound h1 h2 (fun z t A M' hS hp hm he => ?_) (fun M' hn he => ?_)
      · fin_places
        exact ⟨_, rfl, he, .inl ⟨z, t, A, rfl, hS, hp, hm⟩⟩
      · fin_places
        exact ⟨_, rfl, he, .inr ⟨rfl, hn⟩⟩
    · refine ⟨fun σ' δ' F' H' M' p e hx => ?_, fun _ _ _ _ _ _ _ q => q.elim, fun _ _ _ _ _ _ _ q => q.elim, fun _ _ _ _ _ _ _ q => q.elim⟩
      obtain ⟨w, rfl, he, ha⟩ := hx
      show tIfS (liT g.B (evT _ t2)) (tRaise C _) tNext _ σ' H'
      refine ⟨F', M', _, fun b M2 => M2 = M' ∧ b = isNone w, ⟨p.sub, p.mok, e⟩, ?_, fun b F2 H2 M2 p2 hb => ?_⟩
      · simp only [t2, evT, ev]
        fin_places
        try exact ⟨rfl, rfl⟩
      · obtain ⟨rfl, rfl⟩ := hb
        rcases ha with ⟨z, t, A, rfl, hS, hp, hm⟩ | ⟨rfl, hn⟩
        · rw [show isNone (.d (mo z t)) = false from rfl, if_neg (by decide)]
          refine ⟨F2, M2, _, { nx := fun _ _ => False, rt := QD }, ⟨p2.sub, p2.mok, e.mono p2.fz⟩, ?_, ⟨fun _ _ _ _ _ _ _ q => q.elim, kk.go (p.trans p2), fun _ _ _ _ _ _ _ q => q.elim, fun _ _ _ _ _ _ _ q => q.elim⟩⟩
          simp only [t3, evS, ev]
          fin_places
          exact q1 z t A M2 hS hp hm he
        · rw [show isNone (.d .none) = true from rfl, if_pos rfl]
          exact ke F2 H2 M2 (p.trans p2) (q2 M2 hn he)
/-- return x(..) of such a def -/
def isRetX (G : Fns) (p : Pl) (x : Str) (es : As) : List Stmt → Bool
  | [.Return (some (.Call (.Name y _) (l :: ls) [] _)) _] => decide (y = x) && (okGl p y && (okNm y && isA G p es (l :: ls)))
  | _ => false
theorem retX_pe {g : Gb} {k : Nat} {G : Fns} {p : Pl} {X : Cx} {C : Addr} {x : Str} {sp : DSpX} {E : XK} (gd : Good g k G p X.nox) (f : FOkX g C k x sp) (hx : Passes (L2.CX X.prog X.w) X E) {es : As} {l : Expr} {ls : List Expr} {p1 p2 : Pos} (h1 : okGl p x = true) (h2 : okNm x = true) (h3 : isA G p es (l :: ls) = true) :
    PE X (.Call (.Name x p1) (l :: ls) [] p2) (tCall (lifX g.B C sp) [] E (liA g.B (evA G es))) := by
  obtain ⟨f', fd, ps, F, m, kp, b⟩ := f.ok
  have eP : X.prog = g.P := gd.P
  have ew : X.w = g.w := gd.w
  have eK : X.K = g.K := gd.K
  have em : X.mg = g.mg := gd.mg
  have eb : X.base = g.base := gd.base
  rw [← eP, ← ew, ← eK, ← em, ← eb] at F
  rw [← em] at m
  rw [← eK] at kp b
  have st := all_star h3
  rw [List.all_cons, Bool.and_eq_true] at st
  exact pe_call F gd.room (okGl_of gd h1) m kp b (.nil : Vals [] []) hx (PA.nox (ok_A es p _ _ gd h3)) (okNm_of h2).1 (star_of st.1) (back_of st.2)
theorem retX_ps {g : Gb} {k : Nat} {G : Fns} {p : Pl} {X : Cx} {C : Addr} {x : Str} {sp : DSpX} {E : XK} (gd : Good g k G p X.nox) (f : FOkX g C k x sp) (hx : Passes (L2.CX X.prog X.w) X E) {es : As} {ss : List Stmt} (h : isRetX G p x es ss = true) : PSs X ss (tRet (tCall (lifX g.B C sp) [] E (liA g.B (evA G es)))) := by
  unfold isRetX at h
  split at h
  · obtain ⟨h1, h⟩ := ba h
    obtain ⟨h2, h⟩ := ba h
    obtain ⟨h3, h4⟩ := ba h
    have ex := of_decide_eq_true h1
    subst ex
    exact pss_one (ps_ret (retX_pe gd f hx h2 h3 h4))
  · cases h
theorem fn_motion_between {g : Gb} {C : Addr} (gk : GOk g) (a : At g "motion_between" 51) {k : Nat} (f_told : FOkX g C k "told_motion" sp_told_motion) (f_tupled : FOk g k "tupled" sp_tupled) : FOkX g C (k + 1) "motion_between" sp_motion_between := by
  obtain ⟨f, fd, F, m⟩ := a.ex
  refine ⟨f, fd, ["band", "other"], F.ok (CX := L2.CX g.P g.w) (N := ["band", "other"]) (ps := ["band", "other"]) ⟨rfl, rfl, rfl, by decide +kernel, rfl, by decide +kernel, by decide +kernel⟩ (fun vs H Q E h => ?_) (fun cdv A outer s H vs Q E hr h => ?_), m, F.kp, F.bindsN fun _ _ _ _ _ _ us hl => match us, hl with | [_, _], _ => rfl⟩
  · obtain ⟨F0, M, ws, QD, ED, _, _, r, hl, _⟩ := h
    rw [r.length, hl]
    rfl
  · obtain ⟨F0, M, ws, QD, ED, sub, mok, r, hl, ⟨d1, d2, B, O, rfl, ⟨p1, t1⟩, ⟨p2, t2⟩, h1, h2, q1, q2⟩, kk, ke⟩ := h
    have tk := takes_of (X := cxOf (L2.CX g.P g.w) g.P g.w g.K g.mg g.base ["band", "other"] "motion_between" (defScope (top 51)) f cdv A outer s H E) (E := E) rfl rfl rfl rfl
    refine ⟨_, retX_ps (G := [("tupled", sp_tupled)]) (p := ⟨["band", "other"], defScope (top 51), true⟩) (es := .cons (.call 0 (.cons (.var 0) .nil)) (.cons (.call 0 (.cons (.var 1) .nil)) .nil)) (E := E) { gk := gk, fs := ⟨List.forall_mem_cons.mpr ⟨f_tupled, fun _ h => nomatch h⟩⟩, calm := rfl, nd := (show (["band", "other"] : List Str).Nodup from by decide +kernel), N := rfl, sc := rfl, kind := rfl, fn := fun _ _ => rfl, P := rfl, w := rfl, K := rfl, mg := rfl, base := rfl, room := hr, xe := rfl } f_told (passes_call tk fun _ _ _ _ h => h) (by decide +kernel), ?_⟩
    refine ⟨F0, M, startD ["band", "other"] [.d d1, .d d2], fun ws M' => ws = [.d (bD B), .d (bD O)] ∧ M' = M, ⟨sub, mok, start_ok r⟩, ?_, fun vs ws F1 H1 M1 pp rr hw => ?_⟩
    · simp only [evA, ev]
      fin_places
      refine cTup p1 ?_
      rw [t1]
      fin_places
      refine cTup p2 ?_
      rw [t2]
      fin_places
      try exact ⟨rfl, rfl⟩
    · obtain ⟨rfl, rfl⟩ := hw
      show lifX g.B C sp_told_motion (vs ++ []) H1 Q E
      rw [List.append_nil]
      exact ⟨F1, M1, _, QD, ED, pp.sub, pp.mok, rr, rfl, ⟨B, O, rfl, h1, h2, q1, q2⟩, kk.go pp, fun F' H' M' p' hE => ke F' H' M' (pp.trans p') hE⟩
theorem SetOf.bd {b : Nat} {B B' : List Pr} (h : SetOf (B.map mirP) B') (hb : BdOk (b + 1) B) : BdOk (b + 1) B' where
  len := by
    have := nodup_len h.2.1 fun x hx => (h.2.2 x).mp hx
    rw [List.length_map] at this
    have := hb.len
    omega
  fits := h.fits hb.fits
theorem fn_mirror_between {g : Gb} {C : Addr} (gk : GOk g) (a : At g "mirror_between" 53) {k : Nat} (f_told : FOkX g C k "told_motion" sp_told_motion) (f_tupled : FOk g k "tupled" sp_tupled) (f_mir : FOk g k "mirrored_band" sp_mirrored_band) : FOkX g C (k + 1) "mirror_between" sp_mirror_between := by
  obtain ⟨f, fd, F, m⟩ := a.ex
  refine ⟨f, fd, ["band", "other"], F.ok (CX := L2.CX g.P g.w) (N := ["band", "other"]) (ps := ["band", "other"]) ⟨rfl, rfl, rfl, by decide +kernel, rfl, by decide +kernel, by decide +kernel⟩ (fun vs H Q E h => ?_) (fun cdv A outer s H vs Q E hr h => ?_), m, F.kp, F.bindsN fun _ _ _ _ _ _ us hl => match us, hl with | [_, _], _ => rfl⟩
  · obtain ⟨F0, M, ws, QD, ED, _, _, r, hl, _⟩ := h
    rw [r.length, hl]
    rfl
  · obtain ⟨F0, M, ws, QD, ED, sub, mok, r, hl, ⟨d1, d2, B, O, rfl, ⟨p1, t1⟩, ⟨p2, t2⟩, h1, h2, q12⟩, kk, ke⟩ := h
    obtain ⟨B', hB⟩ := SetOf.exists (B.map mirP)
    obtain ⟨q1, q2⟩ := q12 B' hB
    have tk := takes_of (X := cxOf (L2.CX g.P g.w) g.P g.w g.K g.mg g.base ["band", "other"] "mirror_between" (defScope (top 53)) f cdv A outer s H E) (E := E) rfl rfl rfl rfl
    refine ⟨_, retX_ps (G := [("mirrored_band", sp_mirrored_band), ("tupled", sp_tupled)]) (p := ⟨["band", "other"], defScope (top 53), true⟩) (es := .cons (.call 0 (.cons (.call 1 (.cons (.var 0) .nil)) .nil)) (.cons (.call 1 (.cons (.var 1) .nil)) .nil)) (E := E) { gk := gk, fs := ⟨List.forall_mem_cons.mpr ⟨f_mir, List.forall_mem_cons.mpr ⟨f_tupled, fun _ h => nomatch h⟩⟩⟩, calm := rfl, nd := (show (["band", "other"] : List Str).Nodup from by decide +kernel), N := rfl, sc := rfl, kind := rfl, fn := fun _ _ => rfl, P := rfl, w := rfl, K := rfl, mg := rfl, base := rfl, room := hr, xe := rfl } f_told (passes_call tk fun _ _ _ _ h => h) (by decide +kernel), ?_⟩
    refine ⟨F0, M, startD ["band", "other"] [.d d1, .d d2], fun ws M' => ws = [.d (bD B'), .d (bD O)] ∧ M' = M, ⟨sub, mok, start_ok r⟩, ?_, fun vs ws F1 H1 M1 pp rr hw => ?_⟩
    · simp only [evA, ev]
      fin_places
      refine cTup p1 ?_
      rw [t1]
      fin_places
      refine ⟨rfl, B, rfl, by have := h1.len; omega, fun B2 hB2 => ?_⟩
      obtain rfl := hB.uniq hB2
      fin_places
      refine cTup p2 ?_
      rw [t2]
      fin_places
      try exact ⟨rfl, rfl⟩
    · obtain ⟨rfl, rfl⟩ := hw
      show lifX g.B C sp_told_motion (vs ++ []) H1 Q E
      rw [List.append_nil]
      exact ⟨F1, M1, _, QD, ED, pp.sub, pp.mok, rr, rfl, ⟨B', O, rfl, hB.bd h1, h2, q1, q2⟩, kk.go pp, fun F' H' M' p' hE => ke F' H' M' (pp.trans p') hE⟩
end Sh
set_option maxHeartbeats 1000000
namespace Sh
open PySem PySem.Spec PyProof.Rows L2
/-! ## tables of code objects; the call with a lambda: by hand -/
def NT (F : Hp) : Prop := ∀ b ps, F b ≠ some (.tbl ps)
/-- without the tables -/
def ntF (F : Hp) : Hp := fun b => match F b with
  | some (.tbl _) => none
  | o => o
theorem ntF_some {F : Hp} {b : Addr} {o : HO} (h : F b = some o) (n : ∀ ps, o ≠ .tbl ps) : ntF F b = some o := by
  unfold ntF
  rw [h]
  cases o <;> first | rfl | exact absurd rfl (n _)
theorem ntF_le {F : Hp} : Same (ntF F) F := fun b o h => by
  unfold ntF at h
  split at h
  · cases h
  · exact h
theorem ntF_none {F : Hp} {b : Addr} (h : F b = none) : ntF F b = none := by
  unfold ntF
  rw [h]
theorem ntF_nt {F : Hp} : NT (ntF F) := fun b ps h => by
  unfold ntF at h
  split at h
  · cases h
  · rename_i n
    exact n ps h
theorem same_nt {F F' : Hp} (e : Same F F') (n : NT F) : Same F (ntF F') := fun b o h => ntF_some (e b o h) fun ps z => n b ps (by rw [h, z])
section
variable {K : PySem.W.Frag} {F : Hp}
mutual
theorem RD.nt : ∀ {v : V} {d : PyData}, RD K F v d → RD K (ntF F) v d
  | _, _, .non => .non
  | _, _, .bl b => .bl b
  | _, _, .int i => .int i
  | _, _, .str x => .str x
  | _, _, .lst h r => .lst (ntF_some h fun _ z => nomatch z) (RDs.nt r)
  | _, _, .tup h r => .tup (ntF_some h fun _ z => nomatch z) (RDs.nt r)
  | _, _, .ktup o its n h1 h2 h3 h4 h5 r => .ktup o its n h1 h2 h3 h4 h5 (RDs.nt r)
theorem RDs.nt : ∀ {vs : List V} {ds : List PyData}, RDs K F vs ds → RDs K (ntF F) vs ds
  | _, _, .nil => .nil
  | _, _, .cons r t => .cons (RD.nt r) (RDs.nt t)
end
theorem sql_nt {a : Addr} {xs : List V} (h : SqL K F a xs) : SqL K (ntF F) a xs := by
  rcases h with (h | ⟨o, h⟩) | h
  · exact .inl (.inl (ntF_some h fun _ z => nomatch z))
  · exact .inl (.inr ⟨o, ntF_some h fun _ z => nomatch z⟩)
  · exact .inr h
end
theorem RW.nt {B : Bs} {F : Hp} {v : V} {w : W} (h : RW B F v w) : RW B (ntF F) v w := by
  cases w with
  | d x => exact RD.nt h
  | box a => exact h
  | dct kvs =>
    obtain ⟨a, o, xs, h1, h2, h3, h6, h4, h5⟩ := h
    exact ⟨a, o, xs, h1, h2, ntF_some h3 (fun _ z => nomatch z), h6, ⟨fun x hx => ⟨(h4.key x hx).1, (h4.key x hx).2.1, (h4.key x hx).2.2.nt⟩, fun x hx => let ⟨v, a, b⟩ := h4.val x hx; ⟨v, a, b.nt⟩, h4.nd, h4.len⟩, h5⟩
  | st ds =>
    obtain ⟨a, xs, h1, h2, h3, h4⟩ := h
    exact ⟨a, xs, h1, ntF_some h2 (fun _ z => nomatch z), fun x hx => ⟨(h3 x hx).1, (h3 x hx).2.1, (h3 x hx).2.2.nt⟩, h4⟩
  | scr ns =>
    obtain ⟨a, h1, h2⟩ := h
    exact ⟨a, h1, sql_nt h2⟩
theorem RM.nt {B : Bs} {F H : Hp} {a : Addr} {o : MO} (h : RM B F H a o) : RM B (ntF F) H a o := by
  cases o with
  | l xs =>
    obtain ⟨vs, h1, h2⟩ := h
    exact ⟨vs, h1, h2.nt⟩
  | m kvs =>
    obtain ⟨xs, h1, h2, h4, h5⟩ := h
    exact ⟨xs, h1, h2, ⟨fun x hx => ⟨(h4.key x hx).1, (h4.key x hx).2.1, (h4.key x hx).2.2.nt⟩, fun x hx => let ⟨v, a, b⟩ := h4.val x hx; ⟨v, a, b.nt⟩, h4.nd, h4.len⟩, h5⟩
  | g kvs =>
    obtain ⟨xs, h1, h2, h3, h4, h5, h6⟩ := h
    exact ⟨xs, h1, h2, fun x hx => ⟨(h3 x hx).1, (h3 x hx).2.1, (h3 x hx).2.2.nt⟩, h4, h5, h6⟩
theorem MOk.nt {B : Bs} {F H : Hp} {M : MM} (m : MOk B F M H) : MOk B (ntF F) M H := fun a o h => ⟨ntF_none (m a o h).1, (m a o h).2.nt⟩
/-- to a heap that is kept but for tables -/
theorem same_ext {F H H1 : Hp} (s : Same F H) (n : NT F) (e : LamX.ExtN H H1) : Same F H1 := fun b o h => e b o (s b o h) fun ps z => n b ps (by rw [h, z])
theorem RM.ext {B : Bs} {F H H1 : Hp} {a : Addr} {o : MO} (h : RM B F H a o) (e : LamX.ExtN H H1) : RM B F H1 a o := by
  cases o with
  | l xs =>
    obtain ⟨vs, h1, h2⟩ := h
    exact ⟨vs, e _ _ h1 (fun _ z => nomatch z), h2⟩
  | m kvs =>
    obtain ⟨xs, h1, h2, h3⟩ := h
    exact ⟨xs, h1, e _ _ h2 (fun _ z => nomatch z), h3⟩
  | g kvs =>
    obtain ⟨xs, h1, h2, h3⟩ := h
    exact ⟨xs, h1, e _ _ h2 (fun _ z => nomatch z), h3⟩
theorem MOk.ext {B : Bs} {F H H1 : Hp} {M : MM} (m : MOk B F M H) (e : LamX.ExtN H H1) : MOk B F M H1 := fun a o h => ⟨(m a o h).1, (m a o h).2.ext e⟩
theorem heap_at (c : Addr) (o : Obj) (hd : o.data ≠ .freed) : ∃ h : Heap, h.get? c = some o := by
  refine ⟨⟨Array.replicate (c + 1) o, {}⟩, ?_⟩
  unfold Heap.get?
  have e : (Array.replicate (c + 1) o)[c]? = some o := by rw [Array.getElem?_replicate, if_pos (Nat.lt_succ_self c)]
  rw [e]
  obtain ⟨c1, c2, c3, c4⟩ := o
  cases c3 <;> first | rfl | exact absurd rfl hd
theorem code_ne {P : Program} {w : World} {c : Addr} {q : Str} {xs : List (NestedKey × Addr × Value)} : LamX.CodeO c q ≠ dO P w c xs := fun e => by
  unfold LamX.CodeO dO at e
  have e2 := HO.ext.inj e
  obtain ⟨h, hh⟩ := heap_at c ⟨.none, none, .fields #[.none, .str q 0], #[]⟩ (fun z => nomatch z)
  have : ∃ (oc : Obj) (vs : Array Value) (t : Tok), h.get? c = some oc ∧ oc.data = .fields vs ∧ vs[1]? = some (.str q t) := ⟨_, _, 0, hh, rfl, rfl⟩
  have e3 := congrFun e2 h
  rw [e3] at this
  obtain ⟨o, es, ep, h1, _, h3, _⟩ := this
  rw [hh] at h1
  cases h1
  cases h3
theorem MOk.tbl {B : Bs} {F H : Hp} {M : MM} (m : MOk B F M H) {P : Addr} {ps : Array Value} (h : H P = some (.tbl ps)) : M P = none := by
  cases e : M P with
  | none => rfl
  | some o =>
    obtain ⟨_, r⟩ := m P o e
    cases o with
    | l xs =>
      obtain ⟨vs, h1, _⟩ := r
      rw [h] at h1
      cases h1
    | m kvs =>
      obtain ⟨xs, _, h1, _⟩ := r
      rw [h] at h1
      cases h1
    | g kvs =>
      obtain ⟨xs, _, h1, _⟩ := r
      rw [h] at h1
      cases h1
theorem MOk.code {B : Bs} {F H : Hp} {M : MM} (m : MOk B F M H) {c : Addr} {q : Str} (h : H c = some (LamX.CodeO c q)) : M c = none := by
  cases e : M c with
  | none => rfl
  | some o =>
    obtain ⟨_, r⟩ := m c o e
    cases o with
    | l xs =>
      obtain ⟨vs, h1, _⟩ := r
      rw [h] at h1
      cases h1
    | m kvs =>
      obtain ⟨xs, _, h1, _⟩ := r
      rw [h] at h1
      exact absurd (Option.some.inj h1) code_ne
    | g kvs =>
      obtain ⟨xs, _, h1, _⟩ := r
      rw [h] at h1
      exact absurd (Option.some.inj h1) code_ne
theorem Pst.tabs {B : Bs} {F H F' H' : Hp} {M M' : MM} (p : Pst B F H M F' H' M') (m : MOk B F M H) {T : List (Addr × Str)} (t : LamX.Tabs T H) : LamX.Tabs T H' := fun q hq => by
  obtain ⟨ps, h1, h2, h3⟩ := t q hq
  refine ⟨ps, (p.kp _ _ h1 (m.tbl h1)).1, h2, fun pos cv hc => ?_⟩
  obtain ⟨c, e1, e2⟩ := h3 pos cv hc
  exact ⟨c, e1, (p.kp _ _ e2 (m.code e2)).1⟩
/-- what a value does behind such a def -/
def KN (B : Bs) (T : List (Addr × Str)) (F : Hp) (QD : WK) (Q : VK) : Prop := ∀ (v : V) (w : W) (F' H' : Hp) (M' : MM), Same F F' → Same F' H' → MOk B F' M' H' → NT F' → LamX.Tabs T H' → RW B F' v w → QD w M' → Q v H'
theorem KN.kw {B : Bs} {T : List (Addr × Str)} {F H : Hp} {M : MM} {QD : WK} {Q : VK} (k : KN B T F QD Q) (n : NT F) (m : MOk B F M H) (t : LamX.Tabs T H) : KW B F H M QD Q := fun v w F' H' M' p r q =>
  k v w (ntF F') H' M' (same_nt p.fz n) (fun b o h => p.sub b o (ntF_le b o h)) p.mok.nt ntF_nt (p.tabs m t) r.nt q
theorem KN.go {B : Bs} {T : List (Addr × Str)} {F F1 : Hp} {QD : WK} {Q : VK} (k : KN B T F QD Q) (e : Same F F1) : KN B T F1 QD Q := fun v w F' H' M' e2 s m n t r q => k v w F' H' M' (e.trans e2) s m n t r q
def lifN (B : Bs) (T : List (Addr × Str)) (sp : DSp) : Sp := fun vs H Q _ => ∃ F M ws QD, Same F H ∧ MOk B F M H ∧ NT F ∧ LamX.Tabs T H ∧ RWs B F vs ws ∧ ws.length = sp.n ∧ sp.run ws M QD ∧ KN B T F QD Q
structure FOkN (g : Gb) (T : List (Addr × Str)) (k : Nat) (x : Str) (sp : DSp) : Prop where
  ok : ∃ f fd ps, FnOk g.P g.w g.K g.mg g.base CX0 k f fd ps (lifN g.B T sp) ∧ g.mg x = some (.ref f) ∧ PySem.W.keepIn g.K (.ref f) = true ∧ Binds g.K fd ps []
/-- a def and its code object -/
structure AtC (g : Gb) (x : Str) (i : Nat) (c : Addr) : Prop where
  ex : ∃ (f : Addr) (oc : Value) (od : Option Addr) (kV doc pm : Value) (an : Option Addr) (ct : Value) (osl : Array (Option Value)),
    g.K.lookup f = some ⟨oc, od, .func (PySem.W.fnOf x x (defArgs (top i)) (defBody (top i)) (defScope (top i)) .none kV doc pm an (.ref c) ct), osl⟩ ∧ PySem.W.codeIn g.K (.ref c) x = true ∧ g.mg x = some (.ref f) ∧ PySem.W.keepIn g.K (.ref f) = true
/-! ### try: return ask() / except NoPaper as caught: return [.., isinstance(caught, ValueError)] -/
def isNo (p : Pl) : List Stmt → Bool
  | [.Try [.Return (some (.Call (.Name a _) [] [] _)) _] [.ExceptHandler (some (.Name e _)) (some n) [.Return (some (.List [.Constant (.str s) _ _, .Call (.Name ii _) [.Name n2 _, .Name ve _] [] _] _)) _] _] [] [] _] =>
    decide (a = "_law_ask_so") && (decide (e = "NoPaper") && (decide (n = "caught_so") && (decide (s = "no paper") && (decide (ii = "isinstance") && (decide (n2 = "caught_so") && (decide (ve = "ValueError") && (okGl p e && (okGl p ii && (okGl p ve && decide (p.sc.names.lookup n = some .local))))))))))
  | _ => false
abbrev sNP : PyData := .str "no paper"
def TTno (CS : Addr) : (XK → Hp → VK → Prop) → Hp → VK → Prop := fun tl H Q =>
  tl (fun cls d H' => cls = .ref CS ∧ d = none ∧ ∀ p, H' p = none → Q (.ref p) (upd H' p (.lst [.str "no paper", .bl true]))) H Q
theorem no_gives {g : Gb} {C : Addr} {X : Cx} {sg : Scope} {gg : Addr} {cdg : Value} {bg : List Stmt} {q : Str} (np : NpOk g C) (gk : GOk g) (eK : X.K = g.K) (em : X.mg = g.mg) (hb : isNo ⟨["_law_ask_so", "caught_so"], sg, true⟩ bg = true) :
    LamX.GivesTo X ["_law_ask_so", "caught_so"] "_law_no" sg gg cdg bg "_law_ask_so" q (TTno C) := by
  unfold isNo at hb
  split at hb
  · rename_i a p1 p2 p3 e p4 n s j p5 ii p6 n2 p7 ve p8 p9 p10 p11 p12 p13
    obtain ⟨b1, hb⟩ := ba hb
    obtain ⟨b2, hb⟩ := ba hb
    obtain ⟨b3, hb⟩ := ba hb
    obtain ⟨b4, hb⟩ := ba hb
    obtain ⟨b5, hb⟩ := ba hb
    obtain ⟨b6, hb⟩ := ba hb
    obtain ⟨b7, hb⟩ := ba hb
    obtain ⟨b8, hb⟩ := ba hb
    obtain ⟨b9, hb⟩ := ba hb
    obtain ⟨b10, b11⟩ := ba hb
    have b1 := of_decide_eq_true b1
    have b2 := of_decide_eq_true b2
    have b3 := of_decide_eq_true b3
    have b4 := of_decide_eq_true b4
    have b5 := of_decide_eq_true b5
    have b6 := of_decide_eq_true b6
    have b7 := of_decide_eq_true b7
    subst b1 b2 b3 b4 b5 b6 b7
    have b8 : sg.names.lookup ("NoPaper" : Str) = some .globalImplicit := of_decide_eq_true b8
    have b9 : sg.names.lookup ("isinstance" : Str) = some .globalImplicit := of_decide_eq_true b9
    have b10 : sg.names.lookup ("ValueError" : Str) = some .globalImplicit := of_decide_eq_true b10
    have b11 : sg.names.lookup ("caught_so" : Str) = some .local := of_decide_eq_true b11
    intro f c' s H Q tl act hc h
    refine ⟨_, pss_one (ps_try_as (X := (cxOf C8.CX0 X.prog X.w X.K X.mg X.base ["_law_ask_so", "caught_so"] "_law_no" sg gg cdg X.A X.stack s H C8.E0).nox) (c := .ref C) (i := 1)
      (tb := fun W D σ H => ∃ Ech : XK, (∀ cls d σ' H', Ech cls d H' → W cls d σ' H') ∧ σ[0]? = some (some (.ref f)) ∧ H c' = some (LamX.CodeO c' q) ∧ tl Ech H D.rt)
      (ts := fun a cls d D σ H => σ.length = 2 → (cls = .ref C ∧ d = none ∧ (tRet (tLst (tCons (tC (.str "no paper")) (tCons (tCB (rIsE X.K C a) (tCons (tVar 1) (tCons (tC (.ty "ValueError")) tNil))) tNil)))) D σ H))
      rfl rfl (show (["_law_ask_so", "caught_so"] : List Str).Nodup from by decide +kernel) rfl b11 ⟨b8, by decide, .inl (by show X.mg ("NoPaper" : Str) = _; rw [em]; exact np.mg)⟩ LamX.takes0 (fun W pn xe tk _ => ?_) (fun a oe cls d pn hz hf => ?_)), ?_⟩
    · refine ⟨fun pins s' σ H' D I h' => ?_⟩
      obtain ⟨Ech, hW, h1, h2, h3⟩ := h'
      have hp := act W pn xe Ech p1 p2 tk hW
      have hq := pss_one (ps_ret (pos := p3) hp)
      exact hq.run pins s' σ H' D I ⟨h1, h2, h3⟩
    · refine ⟨fun pins s' σ H' D I h' => ?_⟩
      obtain ⟨rfl, rfl, h9⟩ := h' I.len
      have ci := call_isE (a := a) (X := (cxOf C8.CX0 X.prog X.w X.K X.mg X.base ["_law_ask_so", "caught_so"] "_law_no" sg gg cdg X.A X.stack s H C8.E0).nox) (pn := pn) (show ExcC X.K C by rw [eK]; exact np.ec) hz hf
      have hI : X.mg ("isinstance" : Str) = none := by rw [em]; exact gk.free _ (by simp [blts])
      have hV : X.mg ("ValueError" : Str) = none := by rw [em]; exact np.ve
      have pe1 := pe_callB (p := p6) (pos := p9) (x := "isinstance") ci b9 hI (by decide +kernel) (pa_cons (pe_var (x := "caught_so") (pos := p7) (i := 1) rfl (.inl b11)) (pa_cons (pe_bltn (x := "ValueError") (pos := p8) (v := .ty "ValueError") b10 hV (by decide +kernel) rfl) pa_nil))
      exact (pss_one (ps_ret (pos := p11) (pe_lst (pos := p10) (pa_cons (pe_str (x := "no paper") (j := j) (pos := p5)) (pa_cons pe1 pa_nil))))).run pins s' σ H' D I h9
    · refine ⟨fun cls d H' => cls = .ref C ∧ d = none ∧ ∀ p, H' p = none → Q (.ref p) (upd H' p (.lst [.str "no paper", .bl true])), fun cls d σ' H' ⟨e1, e2, e3⟩ => ⟨true, by rw [e1, eK]; exact np.exm, fun _ a ha hl => ⟨e1, e2, ?_⟩, fun z => nomatch z⟩, rfl, hc, h⟩
      rw [List.length_set] at hl
      refine ⟨.ref a, by rw [List.getElem?_set_self (by omega)], .ty "ValueError", .type "ValueError", true, rfl, fun u ru => ru, by rw [eK]; exact np.kit, by show 2 ≤ sizeLine; decide, e3⟩
  · cases hb
end Sh
set_option maxHeartbeats 1000000
namespace Sh
open PySem PySem.Spec PyProof.Rows L2
/-! ## a statement with a lambda: by hand -/
def isLamS (G : Fns) (p : Pl) (i : Nat) (x : Str) (es : As) : Stmt → Bool
  | .Assign [.Name t _] (.Call (.Name no _) [.Lambda ⟨[], [], none, [], [], none, []⟩ (.Call (.Name y _) (l :: ls) [] _) scope _] [] _) _ =>
    decide (p.N[i]? = some t) && (okSto p t && (decide (no = "_law_no") && (okGl p no && (LamX.lamSB p.sc scope && (decide (y = x) && (okGl ⟨p.N, scope, false⟩ y && (okNm y && isA G ⟨p.N, scope, false⟩ es (l :: ls))))))))
  | _ => false
abbrev qLam (X : Cx) : Str := X.env.qual ++ "<lambda>"
/-- what stands of _law_no -/
structure NoFn (g : Gb) (i : Nat) : Prop where
  at_ : At g "_law_no" i
  tx : isNo ⟨["_law_ask_so", "caught_so"], defScope (top i), true⟩ (defBody (top i)) = true
  sc : FnScope ["_law_ask_so", "caught_so"] ["_law_ask_so"] (defScope (top i))
  vis : Vis (defScope (top i)) "_law_ask_so"
  bd : ∀ (kV doc pm : Value) (an : Option Addr) (cdv ct : Value) (us : List Value), us.length = (["_law_ask_so"] : List Str).length → bindArgs (PySem.W.fnOf "_law_no" "_law_no" (defArgs (top i)) (defBody (top i)) (defScope (top i)) .none kV doc pm an cdv ct) ⟨us, []⟩ = pure ((["_law_ask_so"] : List Str).zip us)
def tbLam (g : Gb) (C : Addr) (sp : DSpX) (G : Fns) (es : As) : XK → TE := fun E => tCall (lifX g.B C sp) [] E (liA g.B (evA G es))
theorem lam_ps {g : Gb} {C c P : Addr} {T : List (Addr × Str)} {X : Cx} {p : Pl} {G : Fns} {k j i : Nat} {x : Str} {sp : DSpX} {es : As} {s : Stmt} (gd : Good g (k + 2) G p X.nox) (fsk : FsOk g k G) (np : NpOk g C) (no : NoFn g j) (f : FOkX g C k x sp)
    (TB : LamX.TabB X.base X.mg c P) (hcode : X.env.code = .ref c) (hmT : (P, qLam X) ∈ T) (hu : ∀ q ∈ T, q.1 = P → q.2 = qLam X) (h : isLamS G p i x es s = true) : PS X s (tAsg (LamX.tLam T (TTno C) (tbLam g C sp G es)) (gName i)) := by
  unfold isLamS at h
  split at h
  · rename_i t tp nn np1 yy p3 l ls p4 scope p5 p6 p7
    obtain ⟨h1, h⟩ := ba h
    obtain ⟨h2, h⟩ := ba h
    obtain ⟨h3, h⟩ := ba h
    obtain ⟨h4, h⟩ := ba h
    obtain ⟨h5, h⟩ := ba h
    obtain ⟨h6, h⟩ := ba h
    obtain ⟨h7, h⟩ := ba h
    obtain ⟨h8, h9⟩ := ba h
    have e3 := of_decide_eq_true h3
    subst e3
    have e6 := of_decide_eq_true h6
    subst e6
    obtain ⟨l1, l2⟩ := okSto_of gd h2
    have eK : X.K = g.K := gd.K
    have em : X.mg = g.mg := gd.mg
    have eP : X.prog = g.P := gd.P
    have ew : X.w = g.w := gd.w
    have eb : X.base = g.base := gd.base
    obtain ⟨fa, fd, F, m⟩ := no.at_.ex
    have bnd := F.bindsN (ps := ["_law_ask_so"]) no.bd
    obtain ⟨oc, od, dV, kV, doc, pm, an, cdv, ct, osl, rfl, lk, hcd, _, _⟩ := F.ex
    have L : LamX.LamS X.env.scope scope := by
      have := LamX.lamS_by h5
      have es : X.env.scope = p.sc := gd.sc
      rw [es]
      exact this
    have hg : Gl X "_law_no" := okGl_of gd h4
    refine ps_set (X := X) (i := i) gd.nd (show X.N[i]? = some t by rw [show X.N = p.N from gd.N]; exact of_decide_eq_true h1) l1 ?_ rfl l2
    refine LamX.pe_lamcall (k := k) (Ng := ["_law_ask_so", "caught_so"]) (a := "_law_ask_so") hg (by rw [em]; exact m) (by rw [eK]; exact F.kp) (by rw [eK]; exact lk) (by rw [eK]; exact hcd) (by rw [eK]; exact bnd) no.sc rfl no.vis (no_gives np gd.gk eK em no.tx) TB hcode hmT hu gd.room L rfl (fun _ _ _ _ _ => rfl) (fun A outer s H E f0 c' hr => ?_)
    have tk := takes_of (X := LamX.lamCx X A outer s H E scope f0 c') (E := E) rfl rfl rfl rfl
    exact retX_pe (X := LamX.lamCx X A outer s H E scope f0 c') (p := ⟨p.N, scope, false⟩) (k := k)
      { gk := gd.gk, fs := fsk, calm := rfl, nd := gd.nd, N := gd.N, sc := rfl, kind := L.kind, fn := fun z => (nomatch z), P := eP, w := ew, K := eK, mg := em, base := eb, room := hr, xe := rfl }
      f (passes_call tk fun _ _ _ _ h => h) h7 h8 h9
  · cases h
/-- what the walk must show of it -/
theorem lam_sem {g : Gb} {C : Addr} {T : List (Addr × Str)} {G : Fns} {sp : DSpX} {es : As} {F H : Hp} {M : MM} {σ : L2.St} {δ : En} {Q : VK} (QD : WK) (ED : MM → Prop) (so : SOk g.B F M σ H δ) (n : NT F) (tb : LamX.Tabs T H)
    (law : evA G es δ M fun ws M' => ws.length = sp.n ∧ sp.run ws M' QD ED)
    (hQ : ∀ (v : V) (w : W) (F' H' : Hp) (M' : MM), Same F F' → Same F' H' → MOk g.B F' M' H' → NT F' → LamX.Tabs T H' → RW g.B F' v w → QD w M' → Q v H')
    (hE : ∀ (v : V) (F' H' : Hp) (M' : MM), Same F F' → Same F' H' → MOk g.B F' M' H' → NT F' → LamX.Tabs T H' → RW g.B F' v (.d (.list [sNP, .bool true])) → ED M' → Q v H') :
    LamX.tLam T (TTno C) (tbLam g C sp G es) σ H Q := by
  refine ⟨tb, fun H1 eN T1 => ?_⟩
  have so1 : SOk g.B F M σ H1 δ := ⟨same_ext so.sub n eN, so.mok.ext eN, so.env⟩
  refine ⟨F, M, δ, fun ws M' => ws.length = sp.n ∧ sp.run ws M' QD ED, so1, law, fun vs ws F2 H2 M2 p2 rr hw => ?_⟩
  show lifX g.B C sp (vs ++ []) H2 Q _
  rw [List.append_nil]
  have n2 : ∀ {F3 : Hp}, Same F2 F3 → Same F (ntF F3) := fun e => same_nt (p2.fz.trans e) n
  have t2 := p2.tabs so1.mok T1
  refine ⟨F2, M2, ws, QD, ED, p2.sub, p2.mok, rr, hw.1, hw.2, fun v w F3 H3 M3 p3 r3 q3 => ?_, fun F3 H3 M3 p3 q3 => ⟨rfl, rfl, fun pa hp => ?_⟩⟩
  · exact hQ v w (ntF F3) H3 M3 (n2 p3.fz) (fun b o h => p3.sub b o (ntF_le b o h)) p3.mok.nt ntF_nt (p3.tabs p2.mok t2) r3.nt q3
  · have p4 := Pst.new (B := g.B) (o := .lst [.str "no paper", .bl true]) p3.sub p3.mok hp (p3.mok.free hp)
    have p34 := p3.trans p4
    refine hE (.ref pa) (ntF (upd F3 pa (.lst [.str "no paper", .bl true]))) _ M3 (n2 p34.fz) (fun b o h => p34.sub b o (ntF_le b o h)) p34.mok.nt ntF_nt (p34.tabs p2.mok t2) ?_ q3
    exact RW.nt (w := .d (.list [sNP, .bool true])) (RD.lst upd_same (.cons (.str _) (.cons (.bl _) .nil)))
def isMk (G : Fns) (p : Pl) (i : Nat) (x : Str) (es : As) (rest : List Sm) : List Sm → List Stmt → Bool
  | [], s :: ss => isLamS G p i x es s && isSs G p rest ss
  | a :: as, s :: ss => isS G p a s && isMk G p i x es rest as ss
  | _, [] => false
def tMk (g : Gb) (C : Addr) (T : List (Addr × Str)) (sp : DSpX) (G : Fns) (i : Nat) (es : As) (rest : List Sm) : List Sm → TS
  | [] => tSeq (tAsg (LamX.tLam T (TTno C) (tbLam g C sp G es)) (gName i)) (liS g.B (evSs G rest))
  | a :: as => tSeq (liS g.B (evS G a)) (tMk g C T sp G i es rest as)
theorem mk_ps {g : Gb} {C c P : Addr} {T : List (Addr × Str)} {X : Cx} {p : Pl} {G : Fns} {k j i : Nat} {x : Str} {sp : DSpX} {es : As} {rest : List Sm} (gd : Good g (k + 2) G p X.nox) (fsk : FsOk g k G) (np : NpOk g C) (no : NoFn g j) (f : FOkX g C k x sp)
    (TB : LamX.TabB X.base X.mg c P) (hcode : X.env.code = .ref c) (hmT : (P, qLam X) ∈ T) (hu : ∀ q ∈ T, q.1 = P → q.2 = qLam X) : ∀ (as : List Sm) (ss : List Stmt), isMk G p i x es rest as ss = true → PSs X ss (tMk g C T sp G i es rest as)
  | [], s :: ss, h => by
    unfold isMk at h
    obtain ⟨h1, h2⟩ := ba h
    exact pss_cons (lam_ps gd fsk np no f TB hcode hmT hu h1) (PSs.nox (ok_Ss rest p _ _ gd h2))
  | a :: as, s :: ss, h => by
    unfold isMk at h
    obtain ⟨h1, h2⟩ := ba h
    exact pss_cons (PS.nox (ok_S a p _ _ gd h1)) (mk_ps gd fsk np no f TB hcode hmT hu as ss h2)
  | [], [], h => by simp [isMk] at h
  | a :: as, [], h => by simp [isMk] at h
end Sh
set_option maxHeartbeats 1000000
namespace Sh
open PySem PySem.Spec PyProof.Rows L2
/-! ## whether some motion leads: the three answers agree -/
def Led (B O : List Pr) : Prop := ∃ z t, LeadsB z t B O
def ddS : List So → List So
  | [] => []
  | x :: L => if x ∈ ddS L then ddS L else x :: ddS L
theorem ddS_mem : ∀ (L : List So) (x : So), x ∈ ddS L ↔ x ∈ L
  | [], x => Iff.rfl
  | y :: L, x => by
    unfold ddS
    by_cases h : y ∈ ddS L
    · rw [if_pos h, ddS_mem L x, List.mem_cons]
      exact ⟨.inr, fun e => e.elim (fun e => by rw [e]; exact (ddS_mem L y).mp h) id⟩
    · rw [if_neg h, List.mem_cons, List.mem_cons, ddS_mem L x]
theorem ddS_nodup : ∀ L : List So, (ddS L).Nodup
  | [] => .nil
  | y :: L => by
    unfold ddS
    by_cases h : y ∈ ddS L
    · rw [if_pos h]; exact ddS_nodup L
    · rw [if_neg h]; exact List.nodup_cons.mpr ⟨h, ddS_nodup L⟩
/-- the sorts of a band, in order -/
theorem sorts_ex (B : List Pr) : ∃ S : List So, S.Nodup ∧ kSo.Srt S ∧ ∀ s, s ∈ S ↔ hasS B s := by
  obtain ⟨S, p, st, _⟩ := kSo.sorted (ddS (B.map fun x => srt x.1))
  exact ⟨S, p.nodup_iff.mpr (ddS_nodup _), st, fun s => (p.mem_iff.trans (ddS_mem _ s)).trans (so_of B s)⟩
theorem led_pick {B O : List Pr} (gB : Gd B) (h : Led B O) : SameS B O ∧ ∃ A z, Pick B O A ∧ MoOk A z := by
  obtain ⟨z, t, h⟩ := h
  obtain ⟨S, nd, st, m⟩ := sorts_ex B
  obtain ⟨A, e, h1, h2⟩ := leads_pick gB h S fun s hs => (m s).mp hs
  have nd' : (A.map (·.1)).Nodup := by rw [e]; exact nd
  refine ⟨leads_same h, A, z, ⟨nd', by rw [e]; exact st, fun s => by rw [e]; exact m s, h1⟩, ?_⟩
  exact cm_mo (pick_sap gB nd' fun s hs => (m s).mp (by rw [← e]; exact hs)) h2
theorem Pick.sap {B O : List Pr} {A : SA} (gB : Gd B) (p : Pick B O A) : SAp A := pick_sap gB p.nd fun s hs => (p.keys s).mp hs
theorem pick_led {B O : List Pr} {A : SA} {z : Rat} (gB : Gd B) (hS : SameS B O) (p : Pick B O A) (h : MoOk A z) : LeadsB z (ang (moA A z)) B O :=
  pick_leads gB hS (fun s hs => (p.keys s).mpr hs) p.mem (mo_cm (p.sap gB) h)
theorem solv_iff {B O : List Pr} (gB : Gd B) : Solv B O ↔ Led B O := by
  constructor
  · rintro ⟨hS, A, z, p, h⟩
    exact ⟨z, _, pick_led gB hS p h⟩
  · intro h
    obtain ⟨hS, A, z, p, h⟩ := led_pick gB h
    exact ⟨hS, A, z, p, h⟩
theorem pickL_iff {B O : List Pr} {A : SA} (gB : Gd B) (gO : Gd O) : PickL B O A ↔ Pick B O A := by
  constructor
  · intro h
    exact ⟨h.nd, h.st, h.keys, fun c hc => by rw [← slGL_eq gB gO]; exact h.mem c hc⟩
  · intro h
    exact ⟨h.nd, h.st, h.keys, fun c hc => by rw [slGL_eq gB gO]; exact h.mem c hc⟩
theorem solvL_iff {B O : List Pr} (gB : Gd B) (gO : Gd O) : SolvL B O ↔ Led B O := by
  rw [← solv_iff gB]
  constructor
  · rintro ⟨hS, A, p, h⟩
    have p := (pickL_iff gB gO).mp p
    obtain ⟨z, h⟩ := (joint_iff (p.sap gB)).mp h
    exact ⟨hS, A, z, p, h⟩
  · rintro ⟨hS, A, z, p, h⟩
    exact ⟨hS, A, (pickL_iff gB gO).mpr p, (joint_iff (p.sap gB)).mpr ⟨z, h⟩⟩
/-- a motion that is told -/
theorem mor_led {B O : List Pr} {A : SA} {z t : Rat} (gB : Gd B) (hS : SameS B O) (p : Pick B O A) (h : MoR A z t) : isAn t = true ∧ LeadsB z t B O := by
  obtain ⟨h1, _, _, rfl⟩ := h
  exact ⟨decide_eq_true (ang_spec _).2, pick_led gB hS p h1⟩
/-- as sets, as sorted rows -/
theorem setOf_iff {B O : List Pr} {z t : Rat} (gB : Gd B) (st : kPr.Srt O) (gO : Gd O) : SetOf (B.map (mvP z t)) O ↔ LeadsB z t B O :=
  ⟨fun h x => (h.2.2 x).symm, fun h => ⟨st, gO.nd, fun x => (h x).symm⟩⟩
theorem perm_iff {B O : List Pr} {z t : Rat} (gB : Gd B) (gO : Gd O) : O.Perm (B.map (mvP z t)) ↔ LeadsB z t B O := by
  rw [List.perm_ext_iff_of_nodup gO.nd (gB.mv z t).nd]
  exact ⟨fun h x => (h x).symm, fun h x => (h x).symm⟩
end Sh
set_option maxHeartbeats 1000000
namespace Sh
open PySem PySem.Spec PyProof.Rows L2
/-! ## two bands judged, mirrored: by hand and walked -/
theorem FOkX.mono {g : Gb} {C : Addr} {j k : Nat} {x : Str} {sp : DSpX} (h : FOkX g C j x sp) (hl : j ≤ k) : FOkX g C k x sp := by
  obtain ⟨f, fd, ps, F, m, kp, b⟩ := h.ok
  exact ⟨f, fd, ps, F.mono hl, m, kp, b⟩
theorem EOk.nt {B : Bs} {F : Hp} {σ : L2.St} {δ : En} (h : EOk B F σ δ) : EOk B (ntF F) σ δ := ⟨h.len, fun i w q => let ⟨v, a, b⟩ := h.at_ i w q; ⟨v, a, b.nt⟩⟩
theorem ntF_sub {F H : Hp} (s : Same F H) : Same (ntF F) H := fun b o h => s b o (ntF_le b o h)
theorem DrB.bd {b n : Nat} {B : List Pr} (h : DrB b n B) (hn : n ≤ 5) : BdOk b B := ⟨Nat.le_trans h.len hn, h.fits⟩
theorem pick_len {B O : List Pr} {A : SA} (p : Pick B O A) : A.length ≤ B.length := by
  have := nodup_len (A := A.map (·.1)) (B := B.map fun x => srt x.1) p.nd fun s hs => (so_of B s).mpr ((p.keys s).mp hs)
  rw [List.length_map, List.length_map] at this
  exact this
theorem mor_sz {B O : List Pr} {A : SA} {z t : Rat} (h1 : BdOk 16 B) (h2 : BdOk 64 O) (p : Pick B O A) (m : MoR A z t) : sz z ≤ 1600 ∧ sz t ≤ 1600 := by
  have ok := p.ok h1 h2 (Nat.le_trans (pick_len p) h1.len)
  have hL := ok.leads
  have zz := m.zz
  refine ⟨by omega, ?_⟩
  rw [m.t]
  refine Nat.le_trans (sz_ang _) ?_
  unfold moA
  cases e : slook A .flute with
  | some a =>
    have := ok.z _ (slook_mem e)
    show sz a ≤ 1600
    have : sz a ≤ 90 := this
    omega
  | none =>
    cases hl : leadsOf A with
    | nil =>
      show sz 0 ≤ 1600
      rw [sz_0]
      decide
    | cons f T =>
      have f0 := hL.n0 f (by rw [hl]; exact List.mem_cons_self)
      have f1 := hL.z1 f (by rw [hl]; exact List.mem_cons_self)
      have f2 := hL.z2 f (by rw [hl]; exact List.mem_cons_self)
      have z1 := sz_sub z f.2
      have z2 := sz_div (z - f.2) f.1 f0
      show sz ((z - f.2) / f.1) ≤ 1600
      omega
/-- what is told -/
inductive Told (B O : List Pr) : Thing → Prop
  | yes (z t : Rat) (an : isAn t = true) (l : LeadsB z t B O) (h : sz z ≤ 1600 ∧ sz t ≤ 1600) : Told B O (.mo z t)
  | no (h : ¬ Led B O) : Told B O (.no (.list [sNP, .bool true]) rfl)
theorem Told.ok {B O : List Pr} {x : Thing} (h : Told B O x) : x.ok := by
  cases h with
  | yes z t an l h => exact h
  | no h => trivial
theorem leadsL_iff {B O : List Pr} (gB : Gd B) (st : kPr.Srt O) (gO : Gd O) : ∀ x : Thing, leadsL B O x ↔ leadsS B O x
  | .mo z t => by
    show _ ∧ (_ ∧ _) ↔ _ ∧ _
    rw [setOf_iff gB st gO, perm_iff gB gO]
    exact ⟨fun h => ⟨h.1, h.2.1⟩, fun h => ⟨h.1, h.2, st⟩⟩
  | .no d h => Iff.rfl
theorem told_led {B O : List Pr} {x : Thing} (h : Told B O x) (gB : Gd B) (st : kPr.Srt O) (gO : Gd O) (l : Led B O) : leadsS B O x := by
  cases h with
  | yes z t an lb _ => exact ⟨an, (setOf_iff gB st gO).mpr lb⟩
  | no h => exact absurd l h
theorem told_no {B O : List Pr} {x : Thing} (h : Told B O x) (l : ¬ Led B O) : x = .no (.list [sNP, .bool true]) rfl := by
  cases h with
  | yes z t an lb _ => exact absurd ⟨z, t, lb⟩ l
  | no h => rfl
noncomputable def lbS (B O : List Pr) (x : Thing) : Bool := @decide (leadsS B O x) (Classical.propDecidable _)
theorem lbS_true {B O : List Pr} {x : Thing} : lbS B O x = true ↔ leadsS B O x := @decide_eq_true_iff _ (Classical.propDecidable _)
theorem lbS_is {B O : List Pr} {x : Thing} {b : Bool} (h : b = true ↔ leadsS B O x) : b = lbS B O x := by rw [Bool.eq_iff_iff, lbS_true, h]
theorem bool_iff {b c : Bool} {P : Prop} (h : b = true ↔ P) (h' : c = true ↔ P) : b = c := by rw [Bool.eq_iff_iff, h, h']
theorem bool_no {b : Bool} {P : Prop} (h : b = true ↔ P) (n : ¬ P) : b = false := by
  cases b with
  | false => rfl
  | true => exact absurd (h.mp rfl) n
theorem hand_lst (O : List Pr) (h : O.length ≤ 100000) : Hand (lstD (bD O)) O := ⟨dep_lst 7 _ (bD_dep 2 O h), by rw [tup_lst, bD_tup]⟩
theorem hand_b (O : List Pr) (h : O.length ≤ 100000) : Hand (bD O) O := ⟨bD_dep 2 O h, bD_tup O⟩
theorem told_dep {B O : List Pr} {x : Thing} (h : Told B O x) : dep 7 x.d := by
  cases h with
  | yes z t an l h => exact mo_dep 4 z t
  | no h =>
    refine ⟨by show 2 ≤ 100000; decide, fun y hy => ?_⟩
    simp only [List.mem_cons, List.not_mem_nil, or_false] at hy
    rcases hy with rfl | rfl <;> trivial
theorem told_lst {B O : List Pr} {x : Thing} (h : Told B O x) : isC .tuple (lstD x.d) = false := by
  cases h with
  | yes z t an l h => rfl
  | no h => rfl
theorem Tin.ext {k : Nat} {a : Addr} {M M' : MM} (h : Tin k a M) (e : Ext M M') : Tin k a M' := by
  obtain ⟨x, y, z, h1, r⟩ := h
  exact ⟨x, y, z, e a _ h1, r⟩
abbrev sp__law_pair_right : DSp := ⟨3, fun ws M Q => ∃ (a : Addr) (B O : List Pr) (k : Nat), ws = [.box a, .d (bD B), .d (bD O)] ∧ DrB 16 5 B ∧ DrB 64 5 O ∧ Tin k a M ∧ k < 500000 ∧ ∀ M', Q (.d (.bool true)) M'⟩
abbrev sp__law_mirror_right : DSp := ⟨2, fun ws M Q => ∃ (B O : List Pr), ws = [.d (bD B), .d (bD O)] ∧ DrB 16 5 B ∧ DrB 64 5 O ∧ ∀ M', Q (.d (.bool true)) M'⟩
def gPair : Fns := [("_law_any_motion", sp__law_any_motion), ("_law_lists", sp__law_lists), ("_law_same", sp__law_same), ("alike_bands", sp_alike_bands), ("_law_leads", sp__law_leads), ("_law_motion", sp__law_motion), ("is_motion_between", sp_is_motion_between)]
def nPair : List Str := ["_law_tin", "_law_near_so", "_law_far_so", "_law_due", "_law_told_so", "_law_things_so", "_law_got", "_law_own"]
def pairA : List Sm := [(.asg (.nm 3) (.call 0 (.cons (.var 1) (.cons (.var 2) .nil))))]
def pairE : As := (.cons (.call 1 (.cons (.var 1) .nil)) (.cons (.var 2) .nil))
def pairR : List Sm := [(.ife (.not_ (.val (.call 2 (.cons (.call 3 (.cons (.var 1) (.cons (.call 1 (.cons (.var 2) .nil)) .nil))) (.cons (.var 3) .nil))))) [(.ret (.lit (.bool false)))] []), (.ife (.and_ (.cons (.val (.var 3)) (.cons (.not_ (.val (.call 4 (.cons (.var 1) (.cons (.var 2) (.cons (.var 4) .nil)))))) .nil))) [(.ret (.lit (.bool false)))] []), (.ife (.and_ (.cons (.not_ (.val (.var 3))) (.cons (.not_ (.val (.call 2 (.cons (.var 4) (.cons (.lst (.cons (.lit (.str "no paper")) (.cons (.lit (.bool true)) .nil))) .nil))))) .nil))) [(.ret (.lit (.bool false)))] []), (.asg (.nm 5) (.lst (.cons (.var 4) (.cons (.call 5 (.cons (.var 0) .nil)) (.cons (.call 5 (.cons (.var 0) .nil)) (.cons (.tup (.cons (.tup (.cons (.lit (.int 0)) (.cons (.lit (.int 1)) .nil))) (.cons (.tup (.cons (.lit (.int 0)) (.cons (.lit (.int 1)) .nil))) .nil))) (.cons (.call 1 (.cons (.var 4) .nil)) (.cons (.lit .none) .nil)))))))), (.asg (.nm 6) (.lc (.call 6 (.cons (.var 1) (.cons (.var 2) (.cons (.var 7) .nil)))) (.nm 7) (.seq (.var 5)) .yes [7])), (.ret (.call 2 (.cons (.var 6) (.cons (.lc (.call 4 (.cons (.var 1) (.cons (.var 2) (.cons (.var 7) .nil)))) (.nm 7) (.seq (.var 5)) .yes [7]) .nil))))]
def gMir : Fns := [("_law_mirrored_band", sp__law_mirrored_band), ("_law_any_motion", sp__law_any_motion), ("_law_lists", sp__law_lists), ("_law_same", sp__law_same), ("is_mirror_between", sp_is_mirror_between), ("_law_leads", sp__law_leads)]
def nMir : List Str := ["_law_near_so", "_law_far_so", "_law_turned_so", "_law_due", "_law_told_so"]
def mirA : List Sm := [(.asg (.nm 2) (.call 0 (.cons (.var 0) .nil))), (.asg (.nm 3) (.call 1 (.cons (.var 2) (.cons (.var 1) .nil))))]
def mirE : As := (.cons (.var 0) (.cons (.call 2 (.cons (.var 1) .nil)) .nil))
def mirR : List Sm := [(.ife (.not_ (.val (.var 3))) [(.ret (.call 3 (.cons (.lst (.cons (.var 4) (.cons (.call 4 (.cons (.var 0) (.cons (.var 1) (.cons (.tup (.cons (.tup (.cons (.lit (.int 0)) (.cons (.lit (.int 1)) .nil))) (.cons (.tup (.cons (.lit (.int 0)) (.cons (.lit (.int 1)) .nil))) .nil))) .nil)))) .nil))) (.cons (.lst (.cons (.lst (.cons (.lit (.str "no paper")) (.cons (.lit (.bool true)) .nil))) (.cons (.lit (.bool false)) .nil))) .nil))))] []), (.ret (.and_ (.cons (.call 5 (.cons (.var 2) (.cons (.var 1) (.cons (.var 4) .nil)))) (.cons (.cmp .isB (.call 4 (.cons (.call 2 (.cons (.var 0) .nil)) (.cons (.var 1) (.cons (.var 4) .nil)))) (.lit (.bool true))) .nil))))]
theorem xNotT {A B : Prop} (q : B) : if (!true) = true then A else B := by rw [if_neg (by decide)]; exact q
theorem xNotF {A B : Prop} (q : A) : if (!false) = true then A else B := by rw [if_pos (by decide)]; exact q
local macro_rules | `(tactic| one_item) => `(tactic| first
  | (with_reducible refine xNotT ?_)
  | (with_reducible refine xNotF ?_)
  | ((with_reducible refine' cEqS ?k1 ?_); (case k1 => exact ⟨by decide +kernel, by decide +kernel⟩); (try simp only [tRR, tRF, tRL, tFR, tFF, tFL, tLR, tLF, tLL, decide_true, decide_false, Bool.not_true, Bool.not_false]))
  | ((with_reducible refine' cNeS ?k1 ?_); (case k1 => exact ⟨by decide +kernel, by decide +kernel⟩); (try simp only [tRR, tRF, tRL, tFR, tFF, tFL, tLR, tLF, tLL, decide_true, decide_false, Bool.not_true, Bool.not_false]))
  | (with_reducible refine sFnR ?_)
  | (with_reducible refine xTrue ?_)
  | (with_reducible refine xFalse ?_)
  | ((with_reducible refine' xNT ?k1 ?_); (case k1 => rfl))
  | ((with_reducible refine' xNF ?k1 ?_); (case k1 => rfl))
  | ((with_reducible refine' xNNT ?k1 ?_); (case k1 => rfl))
  | ((with_reducible refine' xNNF ?k1 ?_); (case k1 => rfl))
  | (with_reducible refine sSeq ?_) | (with_reducible refine sAsg ?_) | (with_reducible refine s2 ?_)
  | ((with_reducible refine' sVar ?k1 ?_); (case k1 => rfl))
  | (with_reducible refine sC ?_) | (with_reducible refine sCons ?_) | (with_reducible refine sNil ?_) | (with_reducible refine sN ?_) | (with_reducible refine s1 ?_)
  | ((with_reducible refine' xBind ?k1 ?_); (case k1 => rfl))
  | ((with_reducible refine' sFnE ?k1 ?_); (case k1 => rfl))
  | (with_reducible refine sIfS ?_) | (with_reducible refine sIf ?_) | (with_reducible refine sB ?_) | (with_reducible refine oCmp ?_) | (with_reducible refine xBool ?_) | (with_reducible refine sRet ?_) | (with_reducible refine sTup ?_) | (with_reducible refine sLst ?_)
  | ((with_reducible refine' xDat ?k1 ?k2 ?_); (case k1 => rfl); (case k2 => (exact Nat.le_of_ble_eq_true rfl)))
  | ((with_reducible refine' oIxT ?k1 ?_); (case k1 => rfl)) | ((with_reducible refine' oIxL ?k1 ?_); (case k1 => rfl))
  | (with_reducible refine oAdd ?_) | (with_reducible refine oSub ?_) | (with_reducible refine oNeg ?_) | (with_reducible refine oGcd ?_) | (with_reducible refine oAbs ?_) | (with_reducible refine oInt ?_)
  | (with_reducible refine oLenT ?_) | (with_reducible refine oLenL ?_) | (with_reducible refine oSlT ?_) | (with_reducible refine oSlL ?_) | (with_reducible refine oTupL ?_) | (with_reducible refine oTupT ?_)
  | (with_reducible refine cLt ?_) | (with_reducible refine cLe ?_) | (with_reducible refine cGt ?_) | (with_reducible refine cGe ?_) | (with_reducible refine cIsN (o := .isN) ?_) | (with_reducible refine cNotN ?_) | (with_reducible refine cIsB ?_) | (with_reducible refine cEqI ?_) | (with_reducible refine cNeI ?_)
  | (with_reducible refine sNotT ?_) | (with_reducible refine sAndT ?_) | (with_reducible refine sOrT ?_) | (with_reducible refine sNotV ?_) | (with_reducible refine sAndV ?_) | (with_reducible refine sOrV ?_)
  | (with_reducible refine sSl ?_) | (with_reducible refine sONone ?_) | (with_reducible refine sOSome ?_) | (with_reducible refine xInt ?_) | (with_reducible refine sChn ?_) | (with_reducible refine sPar ?_) | (with_reducible refine xTwo ?_) | (with_reducible refine sIsi ?_) | (with_reducible refine sIsi2 ?_) | (with_reducible refine xD ?_)
  | (with_reducible refine sNext ?_)
  | (with_reducible refine xT ?_) | (with_reducible refine xF ?_))
local macro_rules | `(tactic| fin_places) => `(tactic| (repeat one_item))
theorem pair_rest {a : Addr} {B O : List Pr} {k : Nat} {b : Bool} {x : Thing} {M : MM} {Q : WK} {nx : En → MM → Prop} (hB : DrB 16 5 B) (hO : DrB 64 5 O) (ht : Tin k a M) (hk : k < 500000) (hb : b = true ↔ Led B O) (hx : Told B O x) (hq : ∀ M', Q (.d (.bool true)) M') :
    evSs gPair pairR { nx := nx, rt := Q } [some (.box a), some (.d (bD B)), some (.d (bD O)), some (.d (.bool b)), some (.d x.d), none, none, none] M := by
  have bB := hB.bd (Nat.le_refl _)
  have bO := hO.bd (Nat.le_refl _)
  have lB : B.length < 64 := by have := bB.len; omega
  have fB : ∀ y ∈ B, Ln.fits 400 y.1 := fun y hy => (hB.fits y hy).mono (by decide)
  have hOl : O.length ≤ 100000 := by have := bO.len; omega
  have hBl : B.length ≤ 100000 := by omega
  have sl : Solv B O ↔ Led B O := solv_iff hB.gd
  have ll := leadsL_iff hB.gd hO.st hO.gd
  simp only [pairR, gPair, evSs, evS, ev, evA, evT, evTs, evAnd, evOr, evO, evI, Bool.false_eq_true, reduceIte]
  fin_places
  refine cLst (bD_dep 2 O hOl) ?_
  fin_places
  refine cAlike (hand_b B hBl) (hand_lst O hOl) bB bO (fun b' M1 hb' he => ?_)
  obtain rfl : b' = b := bool_iff (hb'.trans sl) hb
  fin_places
  refine cSame trivial ?_
  fin_places
  have ht1 := ht.ext he
  -- what follows the tests
  have tail : ∀ M2, Tin k a M2 → rdSeq (rdAsg (rdLst (rdCons (rdVar 4) (rdCons (fun δ M Q => ∃ p, gPair[5]? = some p ∧ rdCall (rdCons (rdVar 0) rdNil) p.2 δ M Q) (rdCons (fun δ M Q => ∃ p, gPair[5]? = some p ∧ rdCall (rdCons (rdVar 0) rdNil) p.2 δ M Q) (rdCons (rdTup (rdCons (rdTup (rdCons (rdC (.int 0)) (rdCons (rdC (.int 1)) rdNil)) 0) (rdCons (rdTup (rdCons (rdC (.int 0)) (rdCons (rdC (.int 1)) rdNil)) 0) rdNil)) 0) (rdCons (fun δ M Q => ∃ p, gPair[1]? = some p ∧ rdCall (rdCons (rdVar 4) rdNil) p.2 δ M Q) (rdCons (rdC .none) rdNil)))))) 0) (.nm 5))
      (rdSeq (rdAsg (rdLc (rdSeqI (rdVar 5)) (.nm 7) (fun _ M Q => Q true M) (fun δ M Q => ∃ p, gPair[6]? = some p ∧ rdCall (rdCons (rdVar 1) (rdCons (rdVar 2) (rdCons (rdVar 7) rdNil))) p.2 δ M Q) [7]) (.nm 6))
      (rdSeq (rdRet (fun δ M Q => ∃ p, gPair[2]? = some p ∧ rdCall (rdCons (rdVar 6) (rdCons (rdLc (rdSeqI (rdVar 5)) (.nm 7) (fun _ M Q => Q true M) (fun δ M Q => ∃ p, gPair[4]? = some p ∧ rdCall (rdCons (rdVar 1) (rdCons (rdVar 2) (rdCons (rdVar 7) rdNil))) p.2 δ M Q) [7]) rdNil)) p.2 δ M Q)) rdNext)) { nx := nx, rt := Q } [some (.box a), some (.d (bD B)), some (.d (bD O)), some (.d (.bool b')), some (.d x.d), none, none, none] M2 := fun M2 t2 => by
    simp only [gPair]
    fin_places
    refine cMot (k := k) t2 (by omega) (fun z1 t1 M3 s1 s2 an1 ht3 kp3 => ?_)
    fin_places
    refine cMot (k := k + 5) ht3 (by omega) (fun z2 t2 M4 s3 s4 an2 ht4 kp4 => ?_)
    fin_places
    refine cLst (told_dep hx) ?_
    fin_places
    obtain ⟨ths, eths⟩ : ∃ ths : List Thing, ths = [x, .mo z1 t1, .mo z2 t2, .mo 0 0, .no (lstD x.d) (told_lst hx), .no .none rfl] := ⟨_, rfl⟩
    have em : ([x.d, mo z1 t1, mo z2 t2, mo 0 0, lstD x.d, PyData.none] : List PyData) = ths.map Thing.d := by rw [eths]; rfl
    have hok : ∀ y ∈ ths, y.ok := fun y hy => by
      rw [eths] at hy
      simp only [List.mem_cons, List.not_mem_nil, or_false] at hy
      rcases hy with rfl | rfl | rfl | rfl | rfl | rfl
      · exact hx.ok
      · exact ⟨by omega, by omega⟩
      · exact ⟨by omega, by omega⟩
      · exact ⟨by rw [sz_0]; decide, by rw [sz_0]; decide⟩
      · trivial
      · trivial
    have hl : ths.length = 6 := by rw [eths]; rfl
    clear eths
    rw [show PyData.list ([x.d, mo z1 t1, mo z2 t2, PyData.tuple [PyData.tuple [.int 0, .int 1], PyData.tuple [.int 0, .int 1]], lstD x.d, PyData.none]) = .list (ths.map Thing.d) from congrArg PyData.list em]
    clear em
    refine sLc (sSeqI ?_)
    fin_places
    refine xSeqL ⟨by rw [List.length_map, List.length_map, hl]; decide, ?_⟩
    rw [List.map_map]
    refine lc_map (fun y : Thing => W.d y.d) (fun y => .bool (lbS B O y)) _ ths (fun _ _ => rfl) (fun y hy Q' q => ?_) ?_
    · fin_places
      refine cBetween (hand_b B hBl) (hand_b O hOl) lB fB (hok y hy) (fun c hc => ?_)
      rw [lbS_is hc]
      exact q
    fin_places
    refine sLc (sSeqI ?_)
    fin_places
    refine xSeqL ⟨by rw [List.length_map, List.length_map, hl]; decide, ?_⟩
    rw [List.map_map]
    refine lc_map (fun y : Thing => W.d y.d) (fun y => .bool (lbS B O y)) _ ths (fun _ _ => rfl) (fun y hy Q' q => ?_) ?_
    · fin_places
      refine cLeads lB fB (hok y hy) (fun c hc => ?_)
      rw [lbS_is (hc.trans (ll y))]
      exact q
    fin_places
    refine cSame ⟨by rw [List.length_map, hl]; decide, fun y hy => ?_⟩ ?_
    · obtain ⟨c, _, rfl⟩ := List.mem_map.mp hy
      trivial
    · exact hq _
  simp only [gPair] at tail
  cases b' with
  | true =>
    have led : Led B O := hb.mp rfl
    have lx := (ll x).mpr (told_led hx hB.gd hO.st hO.gd led)
    fin_places
    refine cLeads lB fB hx.ok (fun c hc => ?_)
    rw [hc.mpr lx]
    repeat (first | (with_reducible exact tail _ ht1) | one_item)
  | false =>
    have nl : ¬ Led B O := fun h => by cases hb.mpr h
    have ex := told_no hx nl
    have exd : x.d = .list [sNP, .bool true] := by rw [ex]; rfl
    fin_places
    rw [exd]
    refine cSame ⟨by decide, fun y hy => ?_⟩ ?_
    · simp only [List.mem_cons, List.not_mem_nil, or_false] at hy
      rcases hy with rfl | rfl
      · show lev 30 sNP
        show _ = true
        decide +kernel
      · trivial
    · rw [← exd]
      repeat (first | (with_reducible exact tail _ ht1) | one_item)
end Sh
set_option maxHeartbeats 1000000
namespace Sh
open PySem PySem.Spec PyProof.Rows L2
/-! ## the two judges: by hand -/
local macro_rules | `(tactic| one_item) => `(tactic| first
  | (with_reducible refine xNotT ?_)
  | (with_reducible refine xNotF ?_)
  | ((with_reducible refine' cEqS ?k1 ?_); (case k1 => exact ⟨by decide +kernel, by decide +kernel⟩); (try simp only [tRR, tRF, tRL, tFR, tFF, tFL, tLR, tLF, tLL, decide_true, decide_false, Bool.not_true, Bool.not_false]))
  | ((with_reducible refine' cNeS ?k1 ?_); (case k1 => exact ⟨by decide +kernel, by decide +kernel⟩); (try simp only [tRR, tRF, tRL, tFR, tFF, tFL, tLR, tLF, tLL, decide_true, decide_false, Bool.not_true, Bool.not_false]))
  | (with_reducible refine sFnR ?_)
  | (with_reducible refine xTrue ?_)
  | (with_reducible refine xFalse ?_)
  | ((with_reducible refine' xNT ?k1 ?_); (case k1 => rfl))
  | ((with_reducible refine' xNF ?k1 ?_); (case k1 => rfl))
  | ((with_reducible refine' xNNT ?k1 ?_); (case k1 => rfl))
  | ((with_reducible refine' xNNF ?k1 ?_); (case k1 => rfl))
  | (with_reducible refine sSeq ?_) | (with_reducible refine sAsg ?_) | (with_reducible refine s2 ?_)
  | ((with_reducible refine' sVar ?k1 ?_); (case k1 => rfl))
  | (with_reducible refine sC ?_) | (with_reducible refine sCons ?_) | (with_reducible refine sNil ?_) | (with_reducible refine sN ?_) | (with_reducible refine s1 ?_)
  | ((with_reducible refine' xBind ?k1 ?_); (case k1 => rfl))
  | ((with_reducible refine' sFnE ?k1 ?_); (case k1 => rfl))
  | (with_reducible refine sIfS ?_) | (with_reducible refine sIf ?_) | (with_reducible refine sB ?_) | (with_reducible refine oCmp ?_) | (with_reducible refine xBool ?_) | (with_reducible refine sRet ?_) | (with_reducible refine sTup ?_) | (with_reducible refine sLst ?_)
  | ((with_reducible refine' xDat ?k1 ?k2 ?_); (case k1 => rfl); (case k2 => (exact Nat.le_of_ble_eq_true rfl)))
  | ((with_reducible refine' oIxT ?k1 ?_); (case k1 => rfl)) | ((with_reducible refine' oIxL ?k1 ?_); (case k1 => rfl))
  | (with_reducible refine oAdd ?_) | (with_reducible refine oSub ?_) | (with_reducible refine oNeg ?_) | (with_reducible refine oGcd ?_) | (with_reducible refine oAbs ?_) | (with_reducible refine oInt ?_)
  | (with_reducible refine oLenT ?_) | (with_reducible refine oLenL ?_) | (with_reducible refine oSlT ?_) | (with_reducible refine oSlL ?_) | (with_reducible refine oTupL ?_) | (with_reducible refine oTupT ?_)
  | (with_reducible refine cLt ?_) | (with_reducible refine cLe ?_) | (with_reducible refine cGt ?_) | (with_reducible refine cGe ?_) | (with_reducible refine cIsN (o := .isN) ?_) | (with_reducible refine cNotN ?_) | (with_reducible refine cIsB ?_) | (with_reducible refine cEqI ?_) | (with_reducible refine cNeI ?_)
  | (with_reducible refine sNotT ?_) | (with_reducible refine sAndT ?_) | (with_reducible refine sOrT ?_) | (with_reducible refine sNotV ?_) | (with_reducible refine sAndV ?_) | (with_reducible refine sOrV ?_)
  | (with_reducible refine sSl ?_) | (with_reducible refine sONone ?_) | (with_reducible refine sOSome ?_) | (with_reducible refine xInt ?_) | (with_reducible refine sChn ?_) | (with_reducible refine sPar ?_) | (with_reducible refine xTwo ?_) | (with_reducible refine sIsi ?_) | (with_reducible refine sIsi2 ?_) | (with_reducible refine xD ?_)
  | (with_reducible refine sNext ?_)
  | (with_reducible refine xT ?_) | (with_reducible refine xF ?_))
local macro_rules | `(tactic| fin_places) => `(tactic| (repeat one_item))
theorem told_of {B O : List Pr} {A : SA} {z t : Rat} (hB : DrB 16 5 B) (hO : DrB 64 5 O) (hS : SameS B O) (p : Pick B O A) (m : MoR A z t) : Told B O (.mo z t) := by
  have h := mor_led hB.gd hS p m
  exact .yes z t h.1 h.2 (mor_sz (hB.bd (Nat.le_refl _)) (hO.bd (Nat.le_refl _)) p m)
theorem told_none {B O : List Pr} (hB : DrB 16 5 B) (n : NoMo B O) : ¬ Led B O := fun l => noMo_iff.mp n ((solv_iff hB.gd).mpr l)
theorem mirror_rest {B O T : List Pr} {b : Bool} {x : Thing} {M : MM} {Q : WK} {nx : En → MM → Prop} (hB : DrB 16 5 B) (hO : DrB 64 5 O) (hT : DrB 16 5 T) (hm : SetOf (B.map mirP) T) (hb : b = true ↔ Led T O) (hx : Told T O x) (hq : ∀ M', Q (.d (.bool true)) M') :
    evSs gMir mirR { nx := nx, rt := Q } [some (.d (bD B)), some (.d (bD O)), some (.d (bD T)), some (.d (.bool b)), some (.d x.d)] M := by
  have bB := hB.bd (Nat.le_refl _)
  have bO := hO.bd (Nat.le_refl _)
  have bT := hT.bd (Nat.le_refl _)
  have lB : B.length < 64 := by have := bB.len; omega
  have lT : T.length < 64 := by have := bT.len; omega
  have fB : ∀ y ∈ B, Ln.fits 400 y.1 := fun y hy => (hB.fits y hy).mono (by decide)
  have fT : ∀ y ∈ T, Ln.fits 400 y.1 := fun y hy => (hT.fits y hy).mono (by decide)
  have hOl : O.length ≤ 100000 := by have := bO.len; omega
  have hBl : B.length ≤ 100000 := by omega
  have ll := leadsL_iff hT.gd hO.st hO.gd
  simp only [mirR, gMir, evSs, evS, ev, evA, evT, evTs, evAnd, evOr, evO, evI, Bool.false_eq_true, reduceIte]
  cases b with
  | false =>
    have nl : ¬ Led T O := fun h => by cases hb.mpr h
    have ex := told_no hx nl
    have exd : x.d = .list [sNP, .bool true] := by rw [ex]; rfl
    rw [exd]
    fin_places
    refine ⟨rfl, bD B, bD O, B, O, .mo 0 0, rfl, hand_b B hBl, hand_b O hOl, lB, fB, ⟨by rw [sz_0]; decide, by rw [sz_0]; decide⟩, fun c B' hB' hc => ?_⟩
    obtain rfl := hm.uniq hB'
    have ec : c = false := bool_no hc fun h => nl ⟨0, 0, (setOf_iff hT.gd hO.st hO.gd).mp h.2⟩
    rw [ec]
    fin_places
    refine cSame (d := .list [.list [sNP, .bool true], .bool false]) ⟨by decide, fun y hy => ?_⟩ (hq _)
    simp only [List.mem_cons, List.not_mem_nil, or_false] at hy
    rcases hy with rfl | rfl
    · refine ⟨by decide, fun y hy => ?_⟩
      simp only [List.mem_cons, List.not_mem_nil, or_false] at hy
      rcases hy with rfl | rfl
      · show lev 30 sNP
        show _ = true
        decide +kernel
      · trivial
    · trivial
  | true =>
    have led : Led T O := hb.mp rfl
    have ls := told_led hx hT.gd hO.st hO.gd led
    fin_places
    refine cLeads lT fT hx.ok (fun c hc => ?_)
    rw [hc.mpr ((ll x).mpr ls)]
    fin_places
    refine cLst (bD_dep 2 B hBl) ?_
    fin_places
    refine ⟨rfl, lstD (bD B), bD O, B, O, x, rfl, hand_lst B hBl, hand_b O hOl, lB, fB, hx.ok, fun c B' hB' hc => ?_⟩
    obtain rfl := hm.uniq hB'
    rw [hc.mpr ls]
    fin_places
    try exact hq _
def qPair : Str := (envOfC "_law_pair_right" (defScope (top 103)) 0 0 .none).qual ++ "<lambda>"
def qMir : Str := (envOfC "_law_mirror_right" (defScope (top 104)) 0 0 .none).qual ++ "<lambda>"
theorem fn_pair {g : Gb} {C c P : Addr} {T : List (Addr × Str)} {k j : Nat} (gk : GOk g) (np : NpOk g C) (no : NoFn g j) (ac : AtC g "_law_pair_right" 103 c) (TB : LamX.TabB g.base g.mg c P) (hmT : (P, qPair) ∈ T) (hu : ∀ q ∈ T, q.1 = P → q.2 = qPair)
    (fm : FOkX g C k "motion_between" sp_motion_between) (fs : FsOk g k gPair) : FOkN g T (k + 3) "_law_pair_right" sp__law_pair_right := by
  obtain ⟨f, oc, od, kV, doc, pm, an, ct, osl, lk, hcd, m, kp⟩ := ac.ex
  refine ⟨f, _, ["_law_tin", "_law_near_so", "_law_far_so"], fn_of (CX := CX0) (N := nPair) lk hcd ⟨rfl, rfl, rfl, by decide +kernel, rfl, by decide +kernel, by decide +kernel⟩ (fun vs H Q E h => ?_) (fun A outer s H vs Q E hr h => ?_), m, kp, .all fun us hl => match us, hl with | [_, _, _], _ => rfl⟩
  · obtain ⟨F0, M, ws, QD, _, _, _, _, r, hl, _⟩ := h
    rw [r.length, hl]
    rfl
  · obtain ⟨F0, M, ws, QD, sub, mok, nt, tb, r, hl, ⟨a, B, O, k0, rfl, hB, hO, ht, hk, hq⟩, kk⟩ := h
    have bB := hB.bd (Nat.le_refl _)
    have bO := hO.bd (Nat.le_refl _)
    have hOl : O.length ≤ 100000 := by have := bO.len; omega
    have hBl : B.length ≤ 100000 := by have := bB.len; omega
    refine ⟨_, mk_ps (X := cxOf CX0 g.P g.w g.K g.mg g.base nPair "_law_pair_right" (defScope (top 103)) f (.ref c) A outer s H E) (p := ⟨nPair, defScope (top 103), true⟩) (G := gPair) (k := k) (i := 4) (es := pairE) (rest := pairR)
      { gk := gk, fs := ⟨fun q hq => (fs.ok q hq).mono (by omega)⟩, calm := rfl, nd := (show nPair.Nodup from by decide +kernel), N := rfl, sc := rfl, kind := rfl, fn := fun _ _ => rfl, P := rfl, w := rfl, K := rfl, mg := rfl, base := rfl, room := hr, xe := rfl }
      fs np no fm TB rfl hmT hu pairA _ (by decide +kernel), ?_⟩
    refine ⟨F0, M, startD nPair [.box a, .d (bD B), .d (bD O)], { nx := fun δ' M' => ∃ b, (b = true ↔ Led B O) ∧ M' = M ∧ δ' = [some (.box a), some (.d (bD B)), some (.d (bD O)), some (.d (.bool b)), none, none, none, none], rt := fun _ _ => False }, ⟨sub, mok, start_ok r⟩, ?_, ?_⟩
    · simp only [gPair, nPair, evS, ev, evA]
      fin_places
      refine cAny bB bO (fun b hb => ?_)
      fin_places
      exact ⟨b, hb.trans (solvL_iff hB.gd hO.gd), rfl, rfl⟩
    · refine ⟨fun σ' δ' F' H' M' p e hx => ?_, fun _ _ _ _ _ _ _ q => q.elim, fun _ _ _ _ _ _ _ q => q.elim, fun _ _ _ _ _ _ _ q => q.elim⟩
      obtain ⟨b, hb, rfl, rfl⟩ := hx
      have so : SOk g.B (ntF F') M' σ' H' _ := ⟨ntF_sub p.sub, p.mok.nt, e.nt⟩
      have fz : Same F0 (ntF F') := same_nt p.fz nt
      -- behind the lambda's call
      have go : ∀ (v : V) (x : Thing) (F2 H2 : Hp) (M2 : MM), Same (ntF F') F2 → Same F2 H2 → MOk g.B F2 M2 H2 → NT F2 → LamX.Tabs T H2 → RW g.B F2 v (.d x.d) → Told B O x → Ext M' M2 → liS g.B (evSs gPair pairR) { nx := fun _ H' => Q .non H', rt := Q } (σ'.set 4 (some v)) H2 := fun v x F2 H2 M2 e2 s2 m2 n2 t2 r2 hx he => by
        refine ⟨F2, M2, _, { nx := fun _ _ => False, rt := QD }, ⟨s2, m2, (e.nt.mono e2).set r2⟩, ?_, ⟨fun _ _ _ _ _ _ _ q => q.elim, (kk.go (fz.trans e2)).kw n2 m2 t2, fun _ _ _ _ _ _ _ q => q.elim, fun _ _ _ _ _ _ _ q => q.elim⟩⟩
        exact pair_rest hB hO (ht.ext he) hk hb hx hq
      refine lam_sem (QD := fun w M2 => ∃ z t A, w = .d (mo z t) ∧ SameS B O ∧ Pick B O A ∧ MoR A z t ∧ Ext M' M2) (ED := fun M2 => NoMo B O ∧ Ext M' M2) so ntF_nt (p.tabs mok tb) ?_ (fun v w F2 H2 M2 e2 s2 m2 n2 t2 r2 hw => ?_) (fun v F2 H2 M2 e2 s2 m2 n2 t2 r2 hw => ?_)
      · simp only [pairE, gPair, evA, ev]
        fin_places
        refine cLst (bD_dep 2 B hBl) ?_
        fin_places
        exact ⟨rfl, lstD (bD B), bD O, B, O, rfl, hand_lst B hBl, hand_b O hOl, bB, bO, fun z t A M2 hS hp hm he => ⟨z, t, A, rfl, hS, hp, hm, he⟩, fun M2 hn he => ⟨hn, he⟩⟩
      · obtain ⟨z, t, A, rfl, hS, hp, hm, he⟩ := hw
        exact go v (.mo z t) F2 H2 M2 e2 s2 m2 n2 t2 r2 (told_of hB hO hS hp hm) he
      · exact go v (.no (.list [sNP, .bool true]) rfl) F2 H2 M2 e2 s2 m2 n2 t2 r2 (.no (told_none hB hw.1)) hw.2
theorem DrB.mir {b n : Nat} {B T : List Pr} (h : DrB (b + 1) n B) (p : T.Perm (B.map mirP)) (st : kPr.Srt T) : DrB (b + 1) n T ∧ SetOf (B.map mirP) T := by
  have gd := h.gd.mir
  refine ⟨⟨gd.perm p, st, fun x hx => ?_, by rw [p.length_eq, List.length_map]; exact h.len⟩, st, (gd.perm p).nd, fun x => p.mem_iff⟩
  obtain ⟨y, hy, rfl⟩ := List.mem_map.mp (p.mem_iff.mp hx)
  exact mir_fits (h.fits y hy) (Nat.succ_pos _)
theorem fn_mirror {g : Gb} {C c P : Addr} {T : List (Addr × Str)} {k j : Nat} (gk : GOk g) (np : NpOk g C) (no : NoFn g j) (ac : AtC g "_law_mirror_right" 104 c) (TB : LamX.TabB g.base g.mg c P) (hmT : (P, qMir) ∈ T) (hu : ∀ q ∈ T, q.1 = P → q.2 = qMir)
    (fm : FOkX g C k "mirror_between" sp_mirror_between) (fs : FsOk g k gMir) : FOkN g T (k + 3) "_law_mirror_right" sp__law_mirror_right := by
  obtain ⟨f, oc, od, kV, doc, pm, an, ct, osl, lk, hcd, m, kp⟩ := ac.ex
  refine ⟨f, _, ["_law_near_so", "_law_far_so"], fn_of (CX := CX0) (N := nMir) lk hcd ⟨rfl, rfl, rfl, by decide +kernel, rfl, by decide +kernel, by decide +kernel⟩ (fun vs H Q E h => ?_) (fun A outer s H vs Q E hr h => ?_), m, kp, .all fun us hl => match us, hl with | [_, _], _ => rfl⟩
  · obtain ⟨F0, M, ws, QD, _, _, _, _, r, hl, _⟩ := h
    rw [r.length, hl]
    rfl
  · obtain ⟨F0, M, ws, QD, sub, mok, nt, tb, r, hl, ⟨B, O, rfl, hB, hO, hq⟩, kk⟩ := h
    have bB := hB.bd (Nat.le_refl _)
    have bO := hO.bd (Nat.le_refl _)
    have hOl : O.length ≤ 100000 := by have := bO.len; omega
    have hBl : B.length ≤ 100000 := by have := bB.len; omega
    refine ⟨_, mk_ps (X := cxOf CX0 g.P g.w g.K g.mg g.base nMir "_law_mirror_right" (defScope (top 104)) f (.ref c) A outer s H E) (p := ⟨nMir, defScope (top 104), true⟩) (G := gMir) (k := k) (i := 4) (es := mirE) (rest := mirR)
      { gk := gk, fs := ⟨fun q hq => (fs.ok q hq).mono (by omega)⟩, calm := rfl, nd := (show nMir.Nodup from by decide +kernel), N := rfl, sc := rfl, kind := rfl, fn := fun _ _ => rfl, P := rfl, w := rfl, K := rfl, mg := rfl, base := rfl, room := hr, xe := rfl }
      fs np no fm TB rfl hmT hu mirA _ (by decide +kernel), ?_⟩
    refine ⟨F0, M, startD nMir [.d (bD B), .d (bD O)], { nx := fun δ' M' => ∃ T', DrB 16 5 T' ∧ SetOf (B.map mirP) T' ∧ M' = M ∧ δ' = [some (.d (bD B)), some (.d (bD O)), some (.d (bD T')), none, none], rt := fun _ _ => False }, ⟨sub, mok, start_ok r⟩, ?_, ?_⟩
    · simp only [gMir, nMir, evS, ev, evA]
      fin_places
      refine ⟨rfl, B, rfl, by have := bB.len; omega, fun L p st => ?_⟩
      fin_places
      have hm := hB.mir p st
      exact ⟨L, hm.1, hm.2, rfl, rfl⟩
    · refine ⟨fun σ1 δ1 F1 H1 M1 p1 e1 hx => ?_, fun _ _ _ _ _ _ _ q => q.elim, fun _ _ _ _ _ _ _ q => q.elim, fun _ _ _ _ _ _ _ q => q.elim⟩
      obtain ⟨L, hL, hm, rfl, rfl⟩ := hx
      refine ⟨F1, M1, _, { nx := fun δ' M' => ∃ b, (b = true ↔ Led L O) ∧ M' = M1 ∧ δ' = [some (.d (bD B)), some (.d (bD O)), some (.d (bD L)), some (.d (.bool b)), none], rt := fun _ _ => False }, ⟨p1.sub, p1.mok, e1⟩, ?_, ?_⟩
      · simp only [gMir, evS, ev, evA]
        fin_places
        refine cAny (hL.bd (Nat.le_refl _)) bO (fun b hb => ?_)
        fin_places
        exact ⟨b, hb.trans (solvL_iff hL.gd hO.gd), rfl, rfl⟩
      · refine ⟨fun σ' δ' F' H' M' p2 e hx => ?_, fun _ _ _ _ _ _ _ q => q.elim, fun _ _ _ _ _ _ _ q => q.elim, fun _ _ _ _ _ _ _ q => q.elim⟩
        obtain ⟨b, hb, rfl, rfl⟩ := hx
        have p := p1.trans p2
        have so : SOk g.B (ntF F') M' σ' H' _ := ⟨ntF_sub p.sub, p.mok.nt, e.nt⟩
        have fz : Same F0 (ntF F') := same_nt p.fz nt
        have go : ∀ (v : V) (x : Thing) (F2 H2 : Hp) (M2 : MM), Same (ntF F') F2 → Same F2 H2 → MOk g.B F2 M2 H2 → NT F2 → LamX.Tabs T H2 → RW g.B F2 v (.d x.d) → Told L O x → liS g.B (evSs gMir mirR) { nx := fun _ H' => Q .non H', rt := Q } (σ'.set 4 (some v)) H2 := fun v x F2 H2 M2 e2 s2 m2 n2 t2 r2 hx => by
          refine ⟨F2, M2, _, { nx := fun _ _ => False, rt := QD }, ⟨s2, m2, (e.nt.mono e2).set r2⟩, ?_, ⟨fun _ _ _ _ _ _ _ q => q.elim, (kk.go (fz.trans e2)).kw n2 m2 t2, fun _ _ _ _ _ _ _ q => q.elim, fun _ _ _ _ _ _ _ q => q.elim⟩⟩
          exact mirror_rest hB hO hL hm hb hx hq
        refine lam_sem (QD := fun w M2 => ∃ z t A, w = .d (mo z t) ∧ SameS L O ∧ Pick L O A ∧ MoR A z t) (ED := fun M2 => NoMo L O) so ntF_nt (p.tabs mok tb) ?_ (fun v w F2 H2 M2 e2 s2 m2 n2 t2 r2 hw => ?_) (fun v F2 H2 M2 e2 s2 m2 n2 t2 r2 hw => ?_)
        · simp only [mirE, gMir, evA, ev]
          fin_places
          refine cLst (bD_dep 2 O hOl) ?_
          fin_places
          refine ⟨rfl, bD B, lstD (bD O), B, O, rfl, hand_b B hBl, hand_lst O hOl, bB, bO, fun B' hB' => ?_⟩
          obtain rfl := hm.uniq hB'
          exact ⟨fun z t A M2 hS hp hm he => ⟨z, t, A, rfl, hS, hp, hm⟩, fun M2 hn he => hn⟩
        · obtain ⟨z, t, A, rfl, hS, hp, hmo⟩ := hw
          exact go v (.mo z t) F2 H2 M2 e2 s2 m2 n2 t2 r2 (told_of hL hO hS hp hmo)
        · exact go v (.no (.list [sNP, .bool true]) rfl) F2 H2 M2 e2 s2 m2 n2 t2 r2 (.no (told_none hL hw))
end Sh
set_option maxHeartbeats 1000000
namespace Sh
open PySem PySem.Spec PyProof.Rows L2
/-! ## the cases by hand, walked -/
def fitsB (b : Nat) : Ln → Bool
  | .ring q => decide (sz q ≤ b)
  | .flute q => decide (sz q ≤ b)
  | .lead l p => decide (l ≠ 0) && (decide (sz l ≤ 3) && decide (sz p ≤ b))
def cnB : Ln → Bool
  | .ring _ => true
  | .flute q => decide (0 ≤ q) && decide (q < 1)
  | .lead l p => decide (l ≠ 0) && (decide (0 ≤ p) && decide (p < rabs l))
def okB (b : Nat) (B : List Pr) : Bool := decide (B.length ≤ 5) && ((B.all fun x => fitsB b x.1 && cnB x.1) && decide (B.map (·.1)).Nodup)
theorem okB_ok {b : Nat} {B : List Pr} (h : okB b B = true) : BdOk b B ∧ Gd B := by
  unfold okB at h
  obtain ⟨h1, h2⟩ := Bool.and_eq_true_iff.mp h
  obtain ⟨h2, h3⟩ := Bool.and_eq_true_iff.mp h2
  have h2 := List.all_eq_true.mp h2
  refine ⟨⟨of_decide_eq_true h1, fun x hx => ?_⟩, fun x hx => ?_, of_decide_eq_true h3⟩
  · have := (Bool.and_eq_true_iff.mp (h2 x hx)).1
    rcases x with ⟨q | q | ⟨l, p⟩, n⟩
    · exact show sz q ≤ b from of_decide_eq_true this
    · exact show sz q ≤ b from of_decide_eq_true this
    · obtain ⟨a, b⟩ := Bool.and_eq_true_iff.mp this
      obtain ⟨b, c⟩ := Bool.and_eq_true_iff.mp b
      exact ⟨of_decide_eq_true a, of_decide_eq_true b, of_decide_eq_true c⟩
  · have := (Bool.and_eq_true_iff.mp (h2 x hx)).2
    rcases x with ⟨_ | _ | ⟨l, p⟩, n⟩
    · trivial
    · obtain ⟨a, b⟩ := Bool.and_eq_true_iff.mp this
      exact ⟨of_decide_eq_true a, of_decide_eq_true b⟩
    · obtain ⟨a, b⟩ := Bool.and_eq_true_iff.mp this
      obtain ⟨b, c⟩ := Bool.and_eq_true_iff.mp b
      exact ⟨of_decide_eq_true a, of_decide_eq_true b, of_decide_eq_true c⟩
theorem led_by {B O : List Pr} (z t : Rat) (h : B.map (mvP z t) = O) : Led B O := ⟨z, t, fun x => by rw [h]⟩
def q0 : Rat := ⟨0, 1, by decide, by decide⟩
def q1 : Rat := ⟨1, 1, by decide, by decide⟩
def q2 : Rat := ⟨2, 1, by decide, by decide⟩
def qh : Rat := ⟨1, 2, by decide, by decide⟩
def qm : Rat := ⟨-1, 1, by decide, by decide⟩
def q4 : Rat := ⟨1, 4, by decide, by decide⟩
def q34 : Rat := ⟨3, 4, by decide, by decide⟩
def lR : Ln := .lead q1 q0
def lH : Ln := .lead q1 qh
def lM : Ln := .lead qm q0
def lMh : Ln := .lead qm qh
def l2 : Ln := .lead q2 q0
def lF : Ln := .flute q0
def lG : Ln := .ring q0
def Bn1 : List Pr := [(lF, 1), (lR, 1), (lG, 2)]
def Bo1 : List Pr := [(lF, 1), (lH, 1), (lG, 2)]
def Bn2 : List Pr := [(lM, 1), (lR, 1)]
def Bo2 : List Pr := [(lM, 1), (lH, 1)]
def Bn3 : List Pr := [(lR, 1)]
def Bo3 : List Pr := [(lH, 1)]
def Bn4 : List Pr := [(lM, 1), (lR, 1), (l2, 1)]
def Bo4 : List Pr := [(lMh, 1), (lR, 1), (l2, 1)]
theorem q_is : q0 = 0 ∧ q1 = 1 ∧ q2 = 2 ∧ qh = 1 / 2 ∧ qm = -1 := by decide +kernel
theorem lead_is {z t l p r : Rat} (hl : l ≠ 0) (h : mvL z t (.lead l p) = .lead l r) : Mult l (p + z - l * t - r) := by
  have e := (Ln.lead.inj h).2
  have := (rnd_spec ((p + z) - l * t) hl).1
  rw [e] at this
  exact this.symm
theorem mem3 {B : List Pr} {a b c : Pr} (h : B = [a, b, c]) {x : Pr} (hx : x ∈ B) : x = a ∨ x = b ∨ x = c := by
  rw [h] at hx
  simp only [List.mem_cons, List.not_mem_nil, or_false] at hx
  exact hx
theorem whole_half {k : Int} (h : (k : Rat) = 1 / 2) : False := by
  have : ((2 * k : Int) : Rat) = ((1 : Int) : Rat) := by
    rw [Rat.intCast_mul, h]
    decide +kernel
  have : 2 * k = 1 := by exact_mod_cast this
  omega
theorem no1 : ¬ Led Bn1 Bo1 := by
  rintro ⟨z, t, h⟩
  obtain ⟨e0, e1, e2, eh, em⟩ := q_is
  have hg : mvP z t (lG, 2) ∈ Bo1 := (h _).mp (List.mem_map_of_mem (by simp [Bn1]))
  have hf : mvP z t (lF, 1) ∈ Bo1 := (h _).mp (List.mem_map_of_mem (by simp [Bn1]))
  have hr : mvP z t (lR, 1) ∈ Bo1 := (h _).mp (List.mem_map_of_mem (by simp [Bn1]))
  have g1 : mvL z t lG = lG := by
    rcases mem3 rfl hg with e | e | e
    · have := congrArg Prod.fst e; cases this
    · have := congrArg Prod.fst e; cases this
    · exact congrArg Prod.fst e
  have f1 : mvL z t lF = lF := by
    rcases mem3 rfl hf with e | e | e
    · exact congrArg Prod.fst e
    · have := congrArg Prod.fst e; cases this
    · have := congrArg Prod.fst e; cases this
  have r1 : mvL z t lR = lH := by
    rcases mem3 rfl hr with e | e | e
    · have := congrArg Prod.fst e; cases this
    · exact congrArg Prod.fst e
    · have := congrArg Prod.fst e; cases this
  have z0 : q0 + z = q0 := Ln.ring.inj g1
  have t0 : ang (q0 + t) = q0 := Ln.flute.inj f1
  obtain ⟨k, hk⟩ := (ang_spec (q0 + t)).1
  rw [t0] at hk
  obtain ⟨j, hj⟩ := lead_is (l := q1) (by rw [e1]; decide) r1
  rw [e0] at z0 hk hj
  rw [e1, eh] at hj
  refine whole_half (k := k - j) ?_
  rw [Rat.intCast_sub]
  grind
theorem no4 : ¬ Led Bn4 Bo4 := by
  rintro ⟨z, t, h⟩
  obtain ⟨e0, e1, e2, eh, em⟩ := q_is
  have nm : qm ≠ q1 := by decide +kernel
  have n2 : q2 ≠ q1 := by decide +kernel
  have nm2 : qm ≠ q2 := by decide +kernel
  have ha : mvP z t (lM, 1) ∈ Bo4 := (h _).mp (List.mem_map_of_mem (by simp [Bn4]))
  have hb : mvP z t (lR, 1) ∈ Bo4 := (h _).mp (List.mem_map_of_mem (by simp [Bn4]))
  have hc : mvP z t (l2, 1) ∈ Bo4 := (h _).mp (List.mem_map_of_mem (by simp [Bn4]))
  have a1 : mvL z t lM = lMh := by
    rcases mem3 rfl ha with e | e | e
    · exact congrArg Prod.fst e
    · exact absurd (Ln.lead.inj (congrArg Prod.fst e)).1 nm
    · exact absurd (Ln.lead.inj (congrArg Prod.fst e)).1 nm2
  have b1 : mvL z t lR = lR := by
    rcases mem3 rfl hb with e | e | e
    · exact absurd (Ln.lead.inj (congrArg Prod.fst e)).1.symm nm
    · exact congrArg Prod.fst e
    · exact absurd (Ln.lead.inj (congrArg Prod.fst e)).1.symm n2
  have c1 : mvL z t l2 = l2 := by
    rcases mem3 rfl hc with e | e | e
    · exact absurd (Ln.lead.inj (congrArg Prod.fst e)).1.symm nm2
    · exact absurd (Ln.lead.inj (congrArg Prod.fst e)).1 n2
    · exact congrArg Prod.fst e
  obtain ⟨i, hi⟩ := lead_is (l := qm) (by rw [em]; decide) a1
  obtain ⟨j, hj⟩ := lead_is (l := q1) (by rw [e1]; decide) b1
  obtain ⟨k, hk⟩ := lead_is (l := q2) (by rw [e2]; decide) c1
  rw [e0, em, eh] at hi
  rw [e0, e1] at hj
  rw [e0, e2] at hk
  refine whole_half (k := 3 * j - 4 * k + i) ?_
  rw [Rat.intCast_add, Rat.intCast_sub, Rat.intCast_mul, Rat.intCast_mul]
  have i3 : ((3 : Int) : Rat) = 3 := rfl
  have i4 : ((4 : Int) : Rat) = 4 := rfl
  rw [i3, i4]
  grind
theorem no3 : ¬ leadsS Bn3 Bo3 (.mo q1 q0) := by
  rintro ⟨_, h⟩
  have := (h.2.2 (lH, 1)).mp (by simp [Bo3])
  have e : Bn3.map (mvP q1 q0) = [(lR, 1)] := by decide +kernel
  rw [e] at this
  have := List.mem_singleton.mp this
  exact absurd this (by decide +kernel)
theorem yes3 : leadsS Bn3 Bo3 (.mo q4 q34) := by
  refine ⟨by decide +kernel, List.pairwise_singleton _ _, List.pairwise_singleton _ _, fun x => ?_⟩
  rw [show Bn3.map (mvP q4 q34) = Bo3 from by decide +kernel]
theorem hand_bd (B : List Pr) (h : B.length ≤ 100000) : Hand (bD B) B := ⟨bD_dep 2 B h, bD_tup B⟩
theorem small5' {B : List Pr} (h : B.length ≤ 5) : B.length ≤ 100000 := by omega
abbrev sp__law_by_hand_right : DSp := ⟨0, fun ws M Q => ws = [] ∧ ∀ M', Ext M M' → Q (.d (.bool true)) M'⟩
def d7a : PyData := .tuple [.list [.list [sL, .tuple [.int 1, .int 1], .list [.int 0, .int 1]], .int 1]]
def d7b : PyData := .list [.tuple [.list [sL, .tuple [.int 1, .int 1], .tuple [.int 1, .int 2]], .int 1]]
theorem hand7a : Hand d7a Bn3 := ⟨by
  refine ⟨by show 1 ≤ 100000; decide, fun y hy => ?_⟩
  rw [List.mem_singleton.mp hy]
  refine ⟨by show 2 ≤ 100000; decide, fun y hy => ?_⟩
  simp only [List.mem_cons, List.not_mem_nil, or_false] at hy
  rcases hy with rfl | rfl
  · refine ⟨by show 3 ≤ 100000; decide, fun y hy => ?_⟩
    simp only [List.mem_cons, List.not_mem_nil, or_false] at hy
    rcases hy with rfl | rfl | rfl
    · trivial
    · refine ⟨by show 2 ≤ 100000; decide, fun y hy => ?_⟩
      simp only [List.mem_cons, List.not_mem_nil, or_false] at hy
      rcases hy with rfl | rfl <;> trivial
    · refine ⟨by show 2 ≤ 100000; decide, fun y hy => ?_⟩
      simp only [List.mem_cons, List.not_mem_nil, or_false] at hy
      rcases hy with rfl | rfl <;> trivial
  · trivial, rfl⟩
theorem hand7b : Hand d7b Bo3 := ⟨by
  refine ⟨by show 1 ≤ 100000; decide, fun y hy => ?_⟩
  rw [List.mem_singleton.mp hy]
  refine ⟨by show 2 ≤ 100000; decide, fun y hy => ?_⟩
  simp only [List.mem_cons, List.not_mem_nil, or_false] at hy
  rcases hy with rfl | rfl
  · refine ⟨by show 3 ≤ 100000; decide, fun y hy => ?_⟩
    simp only [List.mem_cons, List.not_mem_nil, or_false] at hy
    rcases hy with rfl | rfl | rfl
    · trivial
    · refine ⟨by show 2 ≤ 100000; decide, fun y hy => ?_⟩
      simp only [List.mem_cons, List.not_mem_nil, or_false] at hy
      rcases hy with rfl | rfl <;> trivial
    · refine ⟨by show 2 ≤ 100000; decide, fun y hy => ?_⟩
      simp only [List.mem_cons, List.not_mem_nil, or_false] at hy
      rcases hy with rfl | rfl <;> trivial
  · trivial, rfl⟩
/-- alike, known -/
theorem cAlikeY {d1 d2 : PyData} {B O : List Pr} {M : MM} {Q : WK} (h1 : Hand d1 B) (h2 : Hand d2 O) (h3 : okB 16 B = true) (h4 : okB 64 O = true) (y : Led B O) (q : ∀ M', Ext M M' → Q (.d (.bool true)) M') : [W.d d1, .d d2].length = sp_alike_bands.n ∧ sp_alike_bands.run [.d d1, .d d2] M Q :=
  cAlike h1 h2 (okB_ok h3).1 (okB_ok h4).1 fun b M' hb he => by
    rw [hb.mpr ((solv_iff (okB_ok h3).2).mpr y)]
    exact q M' he
theorem cAlikeN {d1 d2 : PyData} {B O : List Pr} {M : MM} {Q : WK} (h1 : Hand d1 B) (h2 : Hand d2 O) (h3 : okB 16 B = true) (h4 : okB 64 O = true) (y : ¬ Led B O) (q : ∀ M', Ext M M' → Q (.d (.bool false)) M') : [W.d d1, .d d2].length = sp_alike_bands.n ∧ sp_alike_bands.run [.d d1, .d d2] M Q :=
  cAlike h1 h2 (okB_ok h3).1 (okB_ok h4).1 fun b M' hb he => by
    have : b = false := by
      cases b with
      | false => rfl
      | true => exact absurd ((solv_iff (okB_ok h3).2).mp (hb.mp rfl)) y
    rw [this]
    exact q M' he
theorem fits4 {b : Nat} {B : List Pr} (h : okB b B = true) (hb : b ≤ 400) : B.length < 64 ∧ ∀ x ∈ B, Ln.fits 400 x.1 := ⟨by have := (okB_ok h).1.len; omega, fun x hx => ((okB_ok h).1.fits x hx).mono hb⟩
theorem cBetY {d1 d2 : PyData} {B O : List Pr} {x : Thing} {M : MM} {Q : WK} (h1 : Hand d1 B) (h2 : Hand d2 O) (h3 : okB 16 B = true) (h5 : x.ok) (y : leadsS B O x) (q : Q (.d (.bool true)) M) : [W.d d1, .d d2, .d x.d].length = sp_is_motion_between.n ∧ sp_is_motion_between.run [.d d1, .d d2, .d x.d] M Q :=
  cBetween h1 h2 (fits4 h3 (by decide)).1 (fits4 h3 (by decide)).2 h5 fun b hb => by
    rw [hb.mpr y]
    exact q
theorem cBetN {d1 d2 : PyData} {B O : List Pr} {x : Thing} {M : MM} {Q : WK} (h1 : Hand d1 B) (h2 : Hand d2 O) (h3 : okB 16 B = true) (h5 : x.ok) (y : ¬ leadsS B O x) (q : Q (.d (.bool false)) M) : [W.d d1, .d d2, .d x.d].length = sp_is_motion_between.n ∧ sp_is_motion_between.run [.d d1, .d d2, .d x.d] M Q :=
  cBetween h1 h2 (fits4 h3 (by decide)).1 (fits4 h3 (by decide)).2 h5 fun b hb => by
    have : b = false := by
      cases b with
      | false => rfl
      | true => exact absurd (hb.mp rfl) y
    rw [this]
    exact q
theorem sCat {ra rb : RdE} {δ : En} {M : MM} {Q : WK} (q : ra δ M fun w M1 => rb δ M1 fun z M2 => catO w z M2 Q) : rd2 ra rb catO δ M Q := q
theorem xCat {xs ys : List PyData} {M : MM} {Q : WK} (h : xs.length + ys.length ≤ 100000) (q : ∀ a, M a = none → Q (.box a) (mset M a (.l (xs ++ ys)))) : catO (.d (.list xs)) (.d (.list ys)) M Q := ⟨xs, ys, rfl, rfl, h, q⟩
local macro_rules | `(tactic| one_item) => `(tactic| first
  | ((with_reducible refine' cEqS ?k1 ?_); (case k1 => exact ⟨by decide +kernel, by decide +kernel⟩); (try simp only [tRR, tRF, tRL, tFR, tFF, tFL, tLR, tLF, tLL, decide_true, decide_false, Bool.not_true, Bool.not_false]))
  | ((with_reducible refine' cNeS ?k1 ?_); (case k1 => exact ⟨by decide +kernel, by decide +kernel⟩); (try simp only [tRR, tRF, tRL, tFR, tFF, tFL, tLR, tLF, tLL, decide_true, decide_false, Bool.not_true, Bool.not_false]))
  | (with_reducible refine sFnR ?_)
  | (with_reducible refine xTrue ?_)
  | (with_reducible refine xFalse ?_)
  | ((with_reducible refine' xNT ?k1 ?_); (case k1 => rfl))
  | ((with_reducible refine' xNF ?k1 ?_); (case k1 => rfl))
  | ((with_reducible refine' xNNT ?k1 ?_); (case k1 => rfl))
  | ((with_reducible refine' xNNF ?k1 ?_); (case k1 => rfl))
  | (with_reducible refine sSeq ?_) | (with_reducible refine sAsg ?_) | (with_reducible refine s2 ?_)
  | ((with_reducible refine' sVar ?k1 ?_); (case k1 => rfl))
  | (with_reducible refine sC ?_) | (with_reducible refine sCons ?_) | (with_reducible refine sNil ?_) | (with_reducible refine sN ?_) | (with_reducible refine s1 ?_)
  | ((with_reducible refine' xBind ?k1 ?_); (case k1 => rfl))
  | ((with_reducible refine' sFnE ?k1 ?_); (case k1 => rfl))
  | (with_reducible refine sIfS ?_) | (with_reducible refine sIf ?_) | (with_reducible refine sB ?_) | (with_reducible refine oCmp ?_) | (with_reducible refine xBool ?_) | (with_reducible refine sRet ?_) | (with_reducible refine sTup ?_) | (with_reducible refine sLst ?_)
  | ((with_reducible refine' xDat ?k1 ?k2 ?_); (case k1 => rfl); (case k2 => (exact Nat.le_of_ble_eq_true rfl)))
  | ((with_reducible refine' oIxT ?k1 ?_); (case k1 => rfl)) | ((with_reducible refine' oIxL ?k1 ?_); (case k1 => rfl))
  | (with_reducible refine oAdd ?_) | (with_reducible refine oSub ?_) | (with_reducible refine oNeg ?_) | (with_reducible refine oGcd ?_) | (with_reducible refine oAbs ?_) | (with_reducible refine oInt ?_)
  | (with_reducible refine oLenT ?_) | (with_reducible refine oLenL ?_) | (with_reducible refine oSlT ?_) | (with_reducible refine oSlL ?_) | (with_reducible refine oTupL ?_) | (with_reducible refine oTupT ?_)
  | (with_reducible refine cLt ?_) | (with_reducible refine cLe ?_) | (with_reducible refine cGt ?_) | (with_reducible refine cGe ?_) | (with_reducible refine cIsN (o := .isN) ?_) | (with_reducible refine cNotN ?_) | (with_reducible refine cIsB ?_) | (with_reducible refine cEqI ?_) | (with_reducible refine cNeI ?_)
  | (with_reducible refine sNotT ?_) | (with_reducible refine sAndT ?_) | (with_reducible refine sOrT ?_) | (with_reducible refine sNotV ?_) | (with_reducible refine sAndV ?_) | (with_reducible refine sOrV ?_)
  | (with_reducible refine sSl ?_) | (with_reducible refine sONone ?_) | (with_reducible refine sOSome ?_) | (with_reducible refine xInt ?_) | (with_reducible refine sChn ?_) | (with_reducible refine sPar ?_) | (with_reducible refine xTwo ?_) | (with_reducible refine sIsi ?_) | (with_reducible refine sIsi2 ?_) | (with_reducible refine xD ?_)
  | (with_reducible refine sNext ?_)
  | (with_reducible refine xT ?_) | (with_reducible refine xF ?_))
local macro_rules | `(tactic| fin_places) => `(tactic| (repeat one_item))
def b__law_by_hand_right : List Sm := [(.asg (.tp [(.nm 0), (.nm 1), (.nm 2)]) (.tup (.cons (.tup (.cons (.lit (.str "lead")) (.cons (.tup (.cons (.lit (.int 1)) (.cons (.lit (.int 1)) .nil))) (.cons (.tup (.cons (.lit (.int 0)) (.cons (.lit (.int 1)) .nil))) .nil)))) (.cons (.tup (.cons (.lit (.str "lead")) (.cons (.tup (.cons (.lit (.int 1)) (.cons (.lit (.int 1)) .nil))) (.cons (.tup (.cons (.lit (.int 1)) (.cons (.lit (.int 2)) .nil))) .nil)))) (.cons (.tup (.cons (.lit (.str "lead")) (.cons (.tup (.cons (.neg (.lit (.int 1))) (.cons (.lit (.int 1)) .nil))) (.cons (.tup (.cons (.lit (.int 0)) (.cons (.lit (.int 1)) .nil))) .nil)))) .nil))))), (.asg (.tp [(.nm 3), (.nm 4)]) (.tup (.cons (.tup (.cons (.tup (.cons (.lit (.str "flute")) (.cons (.tup (.cons (.lit (.int 0)) (.cons (.lit (.int 1)) .nil))) .nil))) (.cons (.lit (.int 1)) .nil))) (.cons (.tup (.cons (.tup (.cons (.lit (.str "ring")) (.cons (.tup (.cons (.lit (.int 0)) (.cons (.lit (.int 1)) .nil))) .nil))) (.cons (.lit (.int 2)) .nil))) .nil)))), (.asg (.nm 5) (.lst (.cons (.call 0 (.cons (.tup (.cons (.var 3) (.cons (.tup (.cons (.var 0) (.cons (.lit (.int 1)) .nil))) (.cons (.var 4) .nil)))) (.cons (.tup (.cons (.var 3) (.cons (.tup (.cons (.var 1) (.cons (.lit (.int 1)) .nil))) (.cons (.var 4) .nil)))) .nil))) (.cons (.call 0 (.cons (.tup (.cons (.tup (.cons (.var 2) (.cons (.lit (.int 1)) .nil))) (.cons (.tup (.cons (.var 0) (.cons (.lit (.int 1)) .nil))) .nil))) (.cons (.tup (.cons (.tup (.cons (.var 2) (.cons (.lit (.int 1)) .nil))) (.cons (.tup (.cons (.var 1) (.cons (.lit (.int 1)) .nil))) .nil))) .nil))) (.cons (.call 1 (.cons (.tup (.cons (.tup (.cons (.var 0) (.cons (.lit (.int 1)) .nil))) .nil)) (.cons (.tup (.cons (.tup (.cons (.var 1) (.cons (.lit (.int 1)) .nil))) .nil)) (.cons (.tup (.cons (.tup (.cons (.lit (.int 1)) (.cons (.lit (.int 4)) .nil))) (.cons (.tup (.cons (.lit (.int 3)) (.cons (.lit (.int 4)) .nil))) .nil))) .nil)))) .nil))))), (.par 6 7 (.tup (.cons (.tup (.cons (.var 2) (.cons (.lit (.int 1)) .nil))) (.cons (.tup (.cons (.var 0) (.cons (.lit (.int 1)) .nil))) (.cons (.tup (.cons (.tup (.cons (.lit (.str "lead")) (.cons (.tup (.cons (.lit (.int 2)) (.cons (.lit (.int 1)) .nil))) (.cons (.tup (.cons (.lit (.int 0)) (.cons (.lit (.int 1)) .nil))) .nil)))) (.cons (.lit (.int 1)) .nil))) .nil)))) (.tup (.cons (.tup (.cons (.tup (.cons (.lit (.str "lead")) (.cons (.tup (.cons (.neg (.lit (.int 1))) (.cons (.lit (.int 1)) .nil))) (.cons (.tup (.cons (.lit (.int 1)) (.cons (.lit (.int 2)) .nil))) .nil)))) (.cons (.lit (.int 1)) .nil))) (.cons (.tup (.cons (.var 0) (.cons (.lit (.int 1)) .nil))) (.cons (.tup (.cons (.tup (.cons (.lit (.str "lead")) (.cons (.tup (.cons (.lit (.int 2)) (.cons (.lit (.int 1)) .nil))) (.cons (.tup (.cons (.lit (.int 0)) (.cons (.lit (.int 1)) .nil))) .nil)))) (.cons (.lit (.int 1)) .nil))) .nil))))), (.asg (.nm 5) (.cat (.var 5) (.lst (.cons (.call 0 (.cons (.var 6) (.cons (.var 7) .nil))) (.cons (.call 0 (.cons (.var 6) (.cons (.var 6) .nil))) (.cons (.call 1 (.cons (.tup (.cons (.tup (.cons (.var 0) (.cons (.lit (.int 1)) .nil))) .nil)) (.cons (.tup (.cons (.tup (.cons (.var 1) (.cons (.lit (.int 1)) .nil))) .nil)) (.cons (.tup (.cons (.tup (.cons (.lit (.int 1)) (.cons (.lit (.int 1)) .nil))) (.cons (.tup (.cons (.lit (.int 0)) (.cons (.lit (.int 1)) .nil))) .nil))) .nil)))) .nil)))))), (.app (.var 5) (.call 0 (.cons (.tup (.cons (.lst (.cons (.lst (.cons (.lit (.str "lead")) (.cons (.tup (.cons (.lit (.int 1)) (.cons (.lit (.int 1)) .nil))) (.cons (.lst (.cons (.lit (.int 0)) (.cons (.lit (.int 1)) .nil))) .nil)))) (.cons (.lit (.int 1)) .nil))) .nil)) (.cons (.lst (.cons (.tup (.cons (.blt .list (.cons (.var 1) .nil)) (.cons (.lit (.int 1)) .nil))) .nil)) .nil)))), (.gho 5), (.ret (.call 2 (.cons (.var 5) (.cons (.lst (.cons (.lit (.bool false)) (.cons (.lit (.bool true)) (.cons (.lit (.bool true)) (.cons (.lit (.bool false)) (.cons (.lit (.bool true)) (.cons (.lit (.bool false)) (.cons (.lit (.bool true)) .nil)))))))) .nil))))]
theorem fn__law_by_hand_right {g : Gb} (gk : GOk g) (a : At g "_law_by_hand_right" 101) (f_alike_bands : FOk g 9 "alike_bands" sp_alike_bands) (f_is_motion_between : FOk g 11 "is_motion_between" sp_is_motion_between) (f__law_same : FOk g 8 "_law_same" sp__law_same) : FOk g 12 "_law_by_hand_right" sp__law_by_hand_right := by
  refine FOk.of (k := 11) (G := [("alike_bands", sp_alike_bands), ("is_motion_between", sp_is_motion_between), ("_law_same", sp__law_same)]) (N := ["_law_right_here", "_law_late", "_law_left", "_law_flat", "_law_collar", "_law_got", "_law_three_so", "_law_apart_so"]) (ps := []) b__law_by_hand_right a gk ⟨List.forall_mem_cons.mpr ⟨f_alike_bands.mono (by decide), List.forall_mem_cons.mpr ⟨f_is_motion_between.mono (by decide), List.forall_mem_cons.mpr ⟨f__law_same.mono (by decide), fun _ h => nomatch h⟩⟩⟩⟩ ⟨rfl, rfl, rfl, by decide +kernel, rfl, by decide +kernel, by decide +kernel⟩ (fun _ _ _ _ _ _ us hl => match us, hl with | [], _ => rfl) rfl (by decide +kernel) ?_
  intro ws M Q h
  simp only [b__law_by_hand_right, evSs, evS, ev, evA, evT, evTs, evAnd, evOr, evO, evI, Bool.false_eq_true, reduceIte]
  obtain ⟨rfl, hq⟩ := h
  fin_places
  refine cAlikeN (B := Bn1) (O := Bo1) (hand_bd Bn1 (by decide)) (hand_bd Bo1 (by decide)) (by decide +kernel) (by decide +kernel) no1 (fun M1 e1 => ?_)
  fin_places
  refine cAlikeY (B := Bn2) (O := Bo2) (hand_bd Bn2 (by decide)) (hand_bd Bo2 (by decide)) (by decide +kernel) (by decide +kernel) (led_by (1 / 4) (-1 / 4) (by decide +kernel)) (fun M2 e2 => ?_)
  fin_places
  refine cBetY (B := Bn3) (O := Bo3) (x := .mo q4 q34) (hand_bd Bn3 (by decide)) (hand_bd Bo3 (by decide)) (by decide +kernel) ⟨by decide +kernel, by decide +kernel⟩ yes3 ?_
  fin_places
  refine cAlikeN (B := Bn4) (O := Bo4) (hand_bd Bn4 (by decide)) (hand_bd Bo4 (by decide)) (by decide +kernel) (by decide +kernel) no4 (fun M3 e3 => ?_)
  fin_places
  refine cAlikeY (B := Bn4) (O := Bn4) (hand_bd Bn4 (by decide)) (hand_bd Bn4 (by decide)) (by decide +kernel) (by decide +kernel) (led_by 0 0 (by decide +kernel)) (fun M4 e4 => ?_)
  fin_places
  refine cBetN (B := Bn3) (O := Bo3) (x := .mo q1 q0) (hand_bd Bn3 (by decide)) (hand_bd Bo3 (by decide)) (by decide +kernel) ⟨by decide +kernel, by decide +kernel⟩ no3 ?_
  fin_places
  refine xCat (by decide) (fun a ha => ?_)
  have e14 := ((e1.trans e2).trans e3).trans e4
  fin_places
  refine sApp ?_
  fin_places
  refine ⟨a, _, rfl, mset_same, ?_⟩
  refine sFnR ?_
  fin_places
  refine oLstT ?_
  fin_places
  refine cAlikeY (d1 := d7a) (d2 := d7b) (B := Bn3) (O := Bo3) hand7a hand7b (by decide +kernel) (by decide +kernel) (led_by (1 / 4) (3 / 4) (by decide +kernel)) (fun M5 e5 => ?_)
  have at5 := e5 a _ mset_same
  refine ⟨_, _, rfl, at5, by decide, ?_⟩
  fin_places
  refine sGho rfl mset_same ?_
  have e6 : Ext M (mdel (mset M5 a (.l ([.bool false, .bool true, .bool true] ++ [.bool false, .bool true, .bool false] ++ [.bool true]))) a) := fun c o hc => by
    have ne : c ≠ a := fun e => by
      have := e14 c o hc
      rw [e, ha] at this
      cases this
    unfold mdel
    rw [if_neg ne, mset_ne ne]
    exact e5 c o (by rw [mset_ne ne]; exact e14 c o hc)
  fin_places
  refine cSame (d := .list [.bool false, .bool true, .bool true, .bool false, .bool true, .bool false, .bool true]) ⟨by decide, fun x hx => ?_⟩ ?_
  · simp only [List.mem_cons, List.not_mem_nil, or_false] at hx
    rcases hx with rfl | rfl | rfl | rfl | rfl | rfl | rfl <;> trivial
  · exact hq _ e6
end Sh
set_option maxHeartbeats 1000000
namespace Sh
open PySem PySem.Spec PyProof.Rows L2
/-! ## the law: by hand -/
theorem RWs.nt {B : Bs} {F : Hp} : ∀ {vs : List V} {ws : List W}, RWs B F vs ws → RWs B (ntF F) vs ws
  | _, _, .nil => .nil
  | _, _, .cons r t => .cons r.nt (RWs.nt t)
theorem callN_pe {g : Gb} {k : Nat} {G : Fns} {p : Pl} {X : Cx} {T : List (Addr × Str)} {x : Str} {sp : DSp} (gd : Good g k G p X.nox) (f : FOkN g T k x sp) {es : As} {l : Expr} {ls : List Expr} {p1 p2 : Pos} (h1 : okGl p x = true) (h2 : okNm x = true) (h3 : isA G p es (l :: ls) = true) :
    PE X (.Call (.Name x p1) (l :: ls) [] p2) (tCall (lifN g.B T sp) [] E0 (liA g.B (evA G es))) := by
  obtain ⟨f', fd, ps, F, m, kp, b⟩ := f.ok
  have eP : X.prog = g.P := gd.P
  have ew : X.w = g.w := gd.w
  have eK : X.K = g.K := gd.K
  have em : X.mg = g.mg := gd.mg
  have eb : X.base = g.base := gd.base
  rw [← eP, ← ew, ← eK, ← em, ← eb] at F
  rw [← em] at m
  rw [← eK] at kp b
  have st := all_star h3
  rw [List.all_cons, Bool.and_eq_true] at st
  exact pe_call F gd.room (okGl_of gd h1) m kp b (.nil : Vals [] []) pass0 (PA.nox (ok_A es p _ _ gd h3)) (okNm_of h2).1 (star_of st.1) (back_of st.2)
/-- return x(..) and y(..) -/
def isLast (G : Fns) (p : Pl) (x y : Str) (es1 es2 : As) : List Stmt → Bool
  | [.Return (some (.BoolOp .And [.Call (.Name f1 _) (l1 :: ls1) [] _, .Call (.Name f2 _) (l2 :: ls2) [] _] _)) _] =>
    decide (f1 = x) && (decide (f2 = y) && (okGl p x && (okGl p y && (okNm x && (okNm y && (isA G p es1 (l1 :: ls1) && isA G p es2 (l2 :: ls2)))))))
  | _ => false
def isAN (G : Fns) (p : Pl) (x y : Str) (es1 es2 : As) : List Sm → List Stmt → Bool
  | [], ss => isLast G p x y es1 es2 ss
  | a :: as, s :: ss => isS G p a s && isAN G p x y es1 es2 as ss
  | _ :: _, [] => false
theorem seq_as {B : Bs} {r1 r2 : RdS} {u : TS} : ∀ D σ H, tSeq (liS B (rdSeq r1 r2)) u D σ H → tSeq (liS B r1) (tSeq (liS B r2) u) D σ H := by
  rintro D σ H ⟨F, M, δ, DD, s, h, k⟩
  exact ⟨F, M, δ, { DD with nx := r2 DD }, s, h, ⟨fun σ' δ' F' H' M' p e q => ⟨F', M', δ', DD, ⟨p.sub, p.mok, e⟩, q, k.go p⟩, k.rt, k.bk, k.ct⟩⟩
theorem an_ps {g : Gb} {k : Nat} {G : Fns} {p : Pl} {X : Cx} {T : List (Addr × Str)} {x y : Str} {sx sy : DSp} (gd : Good g k G p X.nox) (fx : FOkN g T k x sx) (fy : FOkN g T k y sy) {es1 es2 : As} : ∀ (as : List Sm) (ss : List Stmt), isAN G p x y es1 es2 as ss = true →
    PSs X ss (tSeq (liS g.B (evSs G as)) (tRet (tAndV (tCall (lifN g.B T sx) [] E0 (liA g.B (evA G es1))) (tCall (lifN g.B T sy) [] E0 (liA g.B (evA G es2))))))
  | [], ss, h => by
    unfold isAN isLast at h
    split at h
    · obtain ⟨h1, h⟩ := ba h
      obtain ⟨h2, h⟩ := ba h
      obtain ⟨h3, h⟩ := ba h
      obtain ⟨h4, h⟩ := ba h
      obtain ⟨h5, h⟩ := ba h
      obtain ⟨h6, h⟩ := ba h
      obtain ⟨h7, h8⟩ := ba h
      have e1 := of_decide_eq_true h1
      subst e1
      have e2 := of_decide_eq_true h2
      subst e2
      refine PSs.imp (pss_one (ps_ret (pe_and (callN_pe gd fx h3 h5 h7) (pe_one (callN_pe gd fy h4 h6 h8))))) ?_
      rintro D σ H ⟨F, M, δ, DD, s, hh, kk⟩
      exact kk.nx σ δ F H M s.refl s.env hh
    · cases h
  | a :: as, ss, h => by
    cases ss with
    | nil => simp [isAN] at h
    | cons s ss =>
      unfold isAN at h
      obtain ⟨h1, h2⟩ := ba h
      exact PSs.imp (pss_cons (PS.nox (ok_S a p _ _ gd h1)) (an_ps gd fx fy as ss h2)) seq_as
abbrev sp__law_right : DSp := ⟨1, fun ws M Q => ∃ a : Addr, ws = [.box a] ∧ Tin 0 a M ∧ ∀ M', Q (.d (.bool true)) M'⟩
def gRt : Fns := [("_law_band", sp__law_band), ("_law_take", sp__law_take), ("_law_motion", sp__law_motion), ("_law_moved_band", sp__law_moved_band), ("_law_of", sp__law_of), ("_law_bent", sp__law_bent), ("_law_mirrored_band", sp__law_mirrored_band), ("_law_same", sp__law_same), ("alike_bands", sp_alike_bands), ("is_motion_between", sp_is_motion_between), ("_law_lists", sp__law_lists)]
def nRt : List Str := ["_law_tin", "_law_band_so", "_law_motion_so", "_law_moved_so", "_law_other_so"]
def rtA : List Sm := [(.par 1 2 (.call 0 (.cons (.var 0) (.cons (.bin .add (.lit (.int 1)) (.call 1 (.cons (.var 0) (.cons (.lit (.int 5)) .nil)))) .nil))) (.call 2 (.cons (.var 0) .nil))), (.asg (.nm 3) (.call 3 (.cons (.var 1) (.cons (.var 2) .nil)))), (.asg (.nm 4) (.call 4 (.cons (.var 0) (.cons (.lst (.cons (.var 3) (.cons (.call 5 (.cons (.var 0) (.cons (.var 3) .nil))) (.cons (.call 6 (.cons (.var 3) .nil)) (.cons (.call 0 (.cons (.var 0) (.cons (.lit (.int 2)) .nil))) (.cons (.var 3) .nil)))))) .nil)))), (.ife (.not_ (.val (.call 7 (.cons (.lst (.cons (.call 8 (.cons (.var 1) (.cons (.var 3) .nil))) (.cons (.call 9 (.cons (.var 1) (.cons (.call 10 (.cons (.var 3) .nil)) (.cons (.var 2) .nil)))) .nil))) (.cons (.lst (.cons (.lit (.bool true)) (.cons (.lit (.bool true)) .nil))) .nil))))) [(.ret (.lit (.bool false)))] [])]
def rtE1 : As := .cons (.var 0) (.cons (.var 1) (.cons (.var 4) .nil))
def rtE2 : As := .cons (.var 1) (.cons (.var 4) .nil)
theorem DrB.mv {n : Nat} {B L : List Pr} {z t : Rat} (h : DrB 16 n B) (hz : sz z ≤ 4) (ht : sz t ≤ 4) (p : L.Perm (B.map (mvP z t))) (st : kPr.Srt L) : DrB 35 n L := by
  refine ⟨(h.gd.mv z t).perm p, st, fun x hx => ?_, by rw [p.length_eq, List.length_map]; exact h.len⟩
  obtain ⟨y, hy, rfl⟩ := List.mem_map.mp (p.mem_iff.mp hx)
  exact mv_fits (b := 16) (m := 4) (h.fits y hy) hz ht
theorem DrB.le {b n m : Nat} {B : List Pr} (h : DrB b n B) (e : n ≤ m) : DrB b m B := ⟨h.gd, h.st, h.fits, Nat.le_trans h.len e⟩
local macro_rules | `(tactic| one_item) => `(tactic| first
  | (with_reducible refine xNotT ?_)
  | (with_reducible refine xNotF ?_)
  | ((with_reducible refine' cEqS ?k1 ?_); (case k1 => exact ⟨by decide +kernel, by decide +kernel⟩); (try simp only [tRR, tRF, tRL, tFR, tFF, tFL, tLR, tLF, tLL, decide_true, decide_false, Bool.not_true, Bool.not_false]))
  | ((with_reducible refine' cNeS ?k1 ?_); (case k1 => exact ⟨by decide +kernel, by decide +kernel⟩); (try simp only [tRR, tRF, tRL, tFR, tFF, tFL, tLR, tLF, tLL, decide_true, decide_false, Bool.not_true, Bool.not_false]))
  | (with_reducible refine sFnR ?_)
  | (with_reducible refine xTrue ?_)
  | (with_reducible refine xFalse ?_)
  | ((with_reducible refine' xNT ?k1 ?_); (case k1 => rfl))
  | ((with_reducible refine' xNF ?k1 ?_); (case k1 => rfl))
  | ((with_reducible refine' xNNT ?k1 ?_); (case k1 => rfl))
  | ((with_reducible refine' xNNF ?k1 ?_); (case k1 => rfl))
  | (with_reducible refine sSeq ?_) | (with_reducible refine sAsg ?_) | (with_reducible refine s2 ?_)
  | ((with_reducible refine' sVar ?k1 ?_); (case k1 => rfl))
  | (with_reducible refine sC ?_) | (with_reducible refine sCons ?_) | (with_reducible refine sNil ?_) | (with_reducible refine sN ?_) | (with_reducible refine s1 ?_)
  | ((with_reducible refine' xBind ?k1 ?_); (case k1 => rfl))
  | ((with_reducible refine' sFnE ?k1 ?_); (case k1 => rfl))
  | (with_reducible refine sIfS ?_) | (with_reducible refine sIf ?_) | (with_reducible refine sB ?_) | (with_reducible refine oCmp ?_) | (with_reducible refine xBool ?_) | (with_reducible refine sRet ?_) | (with_reducible refine sTup ?_) | (with_reducible refine sLst ?_)
  | ((with_reducible refine' xDat ?k1 ?k2 ?_); (case k1 => rfl); (case k2 => (exact Nat.le_of_ble_eq_true rfl)))
  | ((with_reducible refine' oIxT ?k1 ?_); (case k1 => rfl)) | ((with_reducible refine' oIxL ?k1 ?_); (case k1 => rfl))
  | (with_reducible refine oAdd ?_) | (with_reducible refine oSub ?_) | (with_reducible refine oNeg ?_) | (with_reducible refine oGcd ?_) | (with_reducible refine oAbs ?_) | (with_reducible refine oInt ?_)
  | (with_reducible refine oLenT ?_) | (with_reducible refine oLenL ?_) | (with_reducible refine oSlT ?_) | (with_reducible refine oSlL ?_) | (with_reducible refine oTupL ?_) | (with_reducible refine oTupT ?_)
  | (with_reducible refine cLt ?_) | (with_reducible refine cLe ?_) | (with_reducible refine cGt ?_) | (with_reducible refine cGe ?_) | (with_reducible refine cIsN (o := .isN) ?_) | (with_reducible refine cNotN ?_) | (with_reducible refine cIsB ?_) | (with_reducible refine cEqI ?_) | (with_reducible refine cNeI ?_)
  | (with_reducible refine sNotT ?_) | (with_reducible refine sAndT ?_) | (with_reducible refine sOrT ?_) | (with_reducible refine sNotV ?_) | (with_reducible refine sAndV ?_) | (with_reducible refine sOrV ?_)
  | (with_reducible refine sSl ?_) | (with_reducible refine sONone ?_) | (with_reducible refine sOSome ?_) | (with_reducible refine xInt ?_) | (with_reducible refine sChn ?_) | (with_reducible refine sPar ?_) | (with_reducible refine xTwo ?_) | (with_reducible refine sIsi ?_) | (with_reducible refine sIsi2 ?_) | (with_reducible refine xD ?_)
  | (with_reducible refine sNext ?_)
  | (with_reducible refine xT ?_) | (with_reducible refine xF ?_))
local macro_rules | `(tactic| fin_places) => `(tactic| (repeat one_item))
theorem right_pre {a : Addr} {M : MM} {R : En → MM → Prop} {rt : WK} (ht : Tin 0 a M) (hR : ∀ (B O : List Pr) (m v : W) (k : Nat) (M' : MM), DrB 16 5 B → DrB 64 5 O → Tin k a M' → k < 400000 → R [some (.box a), some (.d (bD B)), some m, some v, some (.d (bD O))] M') :
    evSs gRt rtA { nx := R, rt := rt } [some (.box a), none, none, none, none] M := by
  simp only [rtA, gRt, evSs, evS, ev, evA, evT, evTs, evAnd, evOr, evO, evI, Bool.false_eq_true, reduceIte]
  fin_places
  refine cTake (k := 0) (by decide) (by decide) ht (by decide) (fun n M1 n0 n1 ht1 kp1 => ?_)
  obtain ⟨j, rfl⟩ := Int.eq_ofNat_of_zero_le n0
  fin_places
  rw [show (1 : Int) + ((j : Nat) : Int) = ((1 + j : Nat) : Int) from by omega]
  refine cBand (k := 1) (by omega) ht1 (by decide) (fun B M2 hB ht2 kp2 => ?_)
  have hB5 : DrB 16 5 B := hB.le (by omega)
  have lB := hB5.len
  fin_places
  refine cMot (k := 41) ht2 (by decide) (fun z t M3 sz1 sz2 an ht3 kp3 => ?_)
  fin_places
  refine ⟨rfl, B, z, t, rfl, by omega, fun x hx => (hB.fits x hx).mono (by decide), by omega, by omega, fun V pV sV => ?_⟩
  have hV : DrB 35 5 V := hB5.mv sz1 sz2 pV sV
  have lV := hV.len
  fin_places
  refine cBent (k := 46) hV ht3 (by decide) (fun E M4 hE ht4 kp4 => ?_)
  fin_places
  refine ⟨rfl, V, rfl, by omega, fun I pI sI => ?_⟩
  have hI := (DrB.mir (b := 34) hV pI sI).1
  fin_places
  refine cBand (n := 2) (k := 49) (by decide) ht4 (by decide) (fun S M5 hS ht5 kp5 => ?_)
  fin_places
  refine cOf (k := 89) (xs := [V, E, I, S, V].map bD) (by show 0 < 5; decide) (by show 5 ≤ 100000; decide) ht5 (by decide) (fun o M6 ho ht6 kp6 => ?_)
  obtain ⟨O, hO, rfl⟩ := List.mem_map.mp ho
  have dO : DrB 64 5 O := by
    simp only [List.mem_cons, List.not_mem_nil, or_false] at hO
    rcases hO with rfl | rfl | rfl | rfl | rfl
    · exact hV.mono (by decide)
    · exact hE.mono (by decide)
    · exact hI.mono (by decide)
    · exact (hS.mono (by decide)).le (by decide)
    · exact hV.mono (by decide)
  have led : LeadsB z t B V := (perm_iff hB.gd hV.gd).mp pV
  fin_places
  refine cAlike (hand_b B (by omega)) (hand_b V (by omega)) (hB5.bd (Nat.le_refl _)) ((hV.mono (by decide)).bd (Nat.le_refl _)) (fun b M7 hb he => ?_)
  rw [hb.mpr ((solv_iff hB.gd).mpr ⟨z, t, led⟩)]
  fin_places
  refine cLst (bD_dep 2 V (by omega)) ?_
  fin_places
  refine cBetween (x := .mo z t) (hand_b B (by omega)) (hand_lst V (by omega)) (by omega) (fun x hx => (hB.fits x hx).mono (by decide)) ⟨by omega, by omega⟩ (fun c hc => ?_)
  rw [hc.mpr ⟨an, (setOf_iff hB.gd hV.st hV.gd).mpr led⟩]
  fin_places
  refine cSame (d := .list [.bool true, .bool true]) ⟨by decide, fun y hy => ?_⟩ ?_
  · simp only [List.mem_cons, List.not_mem_nil, or_false] at hy
    rcases hy with rfl | rfl <;> trivial
  · fin_places
    exact hR B O _ _ 90 M7 hB5 dO (ht6.ext he) (by decide)
theorem RW.tru {B : Bs} {F : Hp} {v : V} (h : RW B F v (.d (.bool true))) : v = .bl true := RD.blI h
/-- x(..) and y(..), both true -/
theorem and_sem {g : Gb} {T : List (Addr × Str)} {G : Fns} {sx sy : DSp} {es1 es2 : As} {F H : Hp} {M : MM} {σ : L2.St} {δ : En} {Q : VK} (so : SOk g.B F M σ H δ) (tb : LamX.Tabs T H)
    (l1 : evA G es1 δ M fun ws M' => ws.length = sx.n ∧ sx.run ws M' fun w M2 => w = .d (.bool true)) (l2 : ∀ M', evA G es2 δ M' fun ws M' => ws.length = sy.n ∧ sy.run ws M' fun w M2 => w = .d (.bool true)) (hQ : ∀ (v : V) (F' H' : Hp) (M' : MM), Same (ntF F) F' → Same F' H' → MOk g.B F' M' H' → NT F' → LamX.Tabs T H' → RW g.B F' v (.d (.bool true)) → Q v H') :
    tAndV (tCall (lifN g.B T sx) [] E0 (liA g.B (evA G es1))) (tCall (lifN g.B T sy) [] E0 (liA g.B (evA G es2))) σ H Q := by
  refine ⟨ntF F, M, δ, _, ⟨ntF_sub so.sub, so.mok.nt, so.env.nt⟩, l1, fun vs ws F2 H2 M2 p2 rr hw => ?_⟩
  show lifN g.B T sx (vs ++ []) H2 _ E0
  rw [List.append_nil]
  have fz2 : Same (ntF F) (ntF F2) := same_nt p2.fz ntF_nt
  refine ⟨ntF F2, M2, ws, _, ntF_sub p2.sub, p2.mok.nt, ntF_nt, p2.tabs so.mok.nt tb, rr.nt, hw.1, hw.2, fun v w F3 H3 M3 e3 s3 m3 n3 t3 r3 q3 => ?_⟩
  subst q3
  refine ⟨true, r3.tru, ?_⟩
  rw [if_pos rfl]
  refine ⟨F3, M3, δ, _, ⟨s3, m3, so.env.nt.mono (fz2.trans e3)⟩, l2 M3, fun vs ws F4 H4 M4 p4 rr hw => ?_⟩
  show lifN g.B T sy (vs ++ []) H4 _ E0
  rw [List.append_nil]
  have fz4 : Same F3 (ntF F4) := same_nt p4.fz n3
  refine ⟨ntF F4, M4, ws, _, ntF_sub p4.sub, p4.mok.nt, ntF_nt, p4.tabs m3 t3, rr.nt, hw.1, hw.2, fun v w F5 H5 M5 e5 s5 m5 n5 t5 r5 q5 => ?_⟩
  subst q5
  exact hQ v F5 H5 M5 ((fz2.trans e3).trans (fz4.trans e5)) s5 m5 n5 t5 r5
theorem FOkN.mono {g : Gb} {T : List (Addr × Str)} {j k : Nat} {x : Str} {sp : DSp} (h : FOkN g T j x sp) (hl : j ≤ k) : FOkN g T k x sp := by
  obtain ⟨f, fd, ps, F, m, kp, b⟩ := h.ok
  exact ⟨f, fd, ps, F.mono hl, m, kp, b⟩
theorem fn_right {g : Gb} {T : List (Addr × Str)} {k : Nat} (gk : GOk g) (a : At g "_law_right" 105) (f1 : FOkN g T k "_law_pair_right" sp__law_pair_right) (f2 : FOkN g T k "_law_mirror_right" sp__law_mirror_right) (fs : FsOk g k gRt) : FOkN g T (k + 1) "_law_right" sp__law_right := by
  obtain ⟨f, fd, F, m⟩ := a.ex
  refine ⟨f, fd, ["_law_tin"], F.ok (CX := CX0) (N := nRt) (ps := ["_law_tin"]) ⟨rfl, rfl, rfl, by decide +kernel, rfl, by decide +kernel, by decide +kernel⟩ (fun vs H Q E h => ?_) (fun cdv A outer s H vs Q E hr h => ?_), m, F.kp, F.bindsN fun _ _ _ _ _ _ us hl => match us, hl with | [_], _ => rfl⟩
  · obtain ⟨F0, M, ws, QD, _, _, _, _, r, hl, _⟩ := h
    rw [r.length, hl]
    rfl
  · obtain ⟨F0, M, ws, QD, sub, mok, nt, tb, r, hl, ⟨a, rfl, ht, hq⟩, kk⟩ := h
    refine ⟨_, an_ps (X := cxOf CX0 g.P g.w g.K g.mg g.base nRt "_law_right" (defScope (top 105)) f cdv A outer s H E) (p := ⟨nRt, defScope (top 105), true⟩) (G := gRt) (es1 := rtE1) (es2 := rtE2)
      { gk := gk, fs := fs, calm := rfl, nd := (show nRt.Nodup from by decide +kernel), N := rfl, sc := rfl, kind := rfl, fn := fun _ _ => rfl, P := rfl, w := rfl, K := rfl, mg := rfl, base := rfl, room := hr, xe := rfl } f1 f2 rtA _ (by decide +kernel), ?_⟩
    refine ⟨F0, M, startD nRt [.box a], { nx := fun δ' M' => ∃ (B O : List Pr) (m v : W) (k : Nat), DrB 16 5 B ∧ DrB 64 5 O ∧ Tin k a M' ∧ k < 400000 ∧ δ' = [some (.box a), some (.d (bD B)), some m, some v, some (.d (bD O))], rt := fun _ _ => False }, ⟨sub, mok, start_ok r⟩, ?_, ?_⟩
    · exact right_pre ht fun B O m v k M' h1 h2 h3 h4 => ⟨B, O, m, v, k, h1, h2, h3, h4, rfl⟩
    · refine ⟨fun σ' δ' F' H' M' p e hx => ?_, fun _ _ _ _ _ _ _ q => q.elim, fun _ _ _ _ _ _ _ q => q.elim, fun _ _ _ _ _ _ _ q => q.elim⟩
      obtain ⟨B, O, m, v, k0, h1, h2, h3, h4, rfl⟩ := hx
      refine and_sem (G := gRt) ⟨p.sub, p.mok, e⟩ (p.tabs mok tb) ?_ (fun M2 => ?_) (fun v F2 H2 M2 e2 s2 m2 n2 t2 r2 => kk v _ F2 H2 M2 ((same_nt p.fz nt).trans e2) s2 m2 n2 t2 r2 (hq M2))
      · simp only [rtE1, evA, ev]
        fin_places
        exact ⟨rfl, a, B, O, k0, rfl, h1, h2, h3, by omega, fun _ => trivial⟩
      · simp only [rtE2, evA, ev]
        fin_places
        exact ⟨rfl, B, O, rfl, h1, h2, fun _ => trivial⟩
end Sh
set_option maxHeartbeats 1000000
namespace Sh
open PySem PySem.Spec PyProof.Rows L2
/-! ## the law's def: by hand -/
def isLaw (G : Fns) (p : Pl) (y : Str) (e1 : Ex) (es2 : As) : List Stmt → Bool
  | [.Return (some (.BoolOp .And [c1, .Call (.Name f2 _) (l2 :: ls2) [] _] _)) _] =>
    decide (f2 = y) && (okGl p y && (okNm y && (isE G p e1 c1 && isA G p es2 (l2 :: ls2))))
  | _ => false
theorem law_ps {g : Gb} {k : Nat} {G : Fns} {p : Pl} {X : Cx} {T : List (Addr × Str)} {y : Str} {sy : DSp} (gd : Good g k G p X.nox) (fy : FOkN g T k y sy) {e1 : Ex} {es2 : As} {ss : List Stmt} (h : isLaw G p y e1 es2 ss = true) :
    PSs X ss (tRet (tAndV (liE g.B (ev G e1)) (tCall (lifN g.B T sy) [] E0 (liA g.B (evA G es2))))) := by
  unfold isLaw at h
  split at h
  · obtain ⟨h1, h⟩ := ba h
    obtain ⟨h2, h⟩ := ba h
    obtain ⟨h3, h⟩ := ba h
    obtain ⟨h4, h5⟩ := ba h
    have e2 := of_decide_eq_true h1
    subst e2
    exact pss_one (ps_ret (pe_and (PE.nox (ok_E e1 p _ _ gd h4)) (pe_one (callN_pe gd fy h2 h3 h5))))
  · cases h
def gLaw : Fns := [("_law_by_hand_right", sp__law_by_hand_right), ("_law_box", sp__law_box), ("_law_cells", sp__law_cells)]
def lawE1 : Ex := .call0 0
def lawE2 : As := .cons (.call 1 (.cons (.call 2 (.cons (.var 0) (.cons (.lit (.int 1)) .nil))) (.cons (.lit (.int 0)) .nil))) .nil
def lawSp (K : PySem.W.Frag) (T : List (Addr × Str)) : Sp := fun vs H Q _ => ∃ (a : Addr) (ns : List Int), vs = [.ref a] ∧ SqL K H a (ns.map V.int) ∧ ns.length ≤ 63 ∧ (∀ z ∈ ns, ∃ N : Nat, N ≤ 1048576 ∧ z.natAbs < 2 ^ N) ∧ LamX.Tabs T H ∧ ∀ H', Q (.bl true) H'
/-- what of the heap is known at the start -/
def oneF (a : Addr) (o : HO) : Hp := fun b => if b = a then some o else none
theorem oneF_at {a : Addr} {o : HO} : oneF a o a = some o := if_pos rfl
theorem oneF_some {a b : Addr} {o u : HO} (h : oneF a o b = some u) : b = a ∧ o = u := by
  unfold oneF at h
  by_cases hb : b = a
  · rw [if_pos hb] at h
    exact ⟨hb, Option.some.inj h⟩
  · rw [if_neg hb] at h
    cases h
theorem start_F {K : PySem.W.Frag} {H : Hp} {a : Addr} {xs : List V} (h : SqL K H a xs) : ∃ F, Same F H ∧ NT F ∧ SqL K F a xs := by
  rcases h with (h | ⟨o, h⟩) | h
  · exact ⟨oneF a (.lst xs), fun b u e => by obtain ⟨rfl, rfl⟩ := oneF_some e; exact h, fun b ps e => (nomatch (oneF_some e).2), .inl (.inl oneF_at)⟩
  · exact ⟨oneF a (.frz o (.lst xs)), fun b u e => by obtain ⟨rfl, rfl⟩ := oneF_some e; exact h, fun b ps e => (nomatch (oneF_some e).2), .inl (.inr ⟨o, oneF_at⟩)⟩
  · exact ⟨fun _ => none, fun b o e => (nomatch e), fun b ps e => (nomatch e), .inr h⟩
local macro_rules | `(tactic| one_item) => `(tactic| first
  | (with_reducible refine xNotT ?_)
  | (with_reducible refine xNotF ?_)
  | ((with_reducible refine' cEqS ?k1 ?_); (case k1 => exact ⟨by decide +kernel, by decide +kernel⟩); (try simp only [tRR, tRF, tRL, tFR, tFF, tFL, tLR, tLF, tLL, decide_true, decide_false, Bool.not_true, Bool.not_false]))
  | ((with_reducible refine' cNeS ?k1 ?_); (case k1 => exact ⟨by decide +kernel, by decide +kernel⟩); (try simp only [tRR, tRF, tRL, tFR, tFF, tFL, tLR, tLF, tLL, decide_true, decide_false, Bool.not_true, Bool.not_false]))
  | (with_reducible refine sFnR ?_)
  | (with_reducible refine xTrue ?_)
  | (with_reducible refine xFalse ?_)
  | ((with_reducible refine' xNT ?k1 ?_); (case k1 => rfl))
  | ((with_reducible refine' xNF ?k1 ?_); (case k1 => rfl))
  | ((with_reducible refine' xNNT ?k1 ?_); (case k1 => rfl))
  | ((with_reducible refine' xNNF ?k1 ?_); (case k1 => rfl))
  | (with_reducible refine sSeq ?_) | (with_reducible refine sAsg ?_) | (with_reducible refine s2 ?_)
  | ((with_reducible refine' sVar ?k1 ?_); (case k1 => rfl))
  | (with_reducible refine sC ?_) | (with_reducible refine sCons ?_) | (with_reducible refine sNil ?_) | (with_reducible refine sN ?_) | (with_reducible refine s1 ?_)
  | ((with_reducible refine' xBind ?k1 ?_); (case k1 => rfl))
  | ((with_reducible refine' sFnE ?k1 ?_); (case k1 => rfl))
  | (with_reducible refine sIfS ?_) | (with_reducible refine sIf ?_) | (with_reducible refine sB ?_) | (with_reducible refine oCmp ?_) | (with_reducible refine xBool ?_) | (with_reducible refine sRet ?_) | (with_reducible refine sTup ?_) | (with_reducible refine sLst ?_)
  | ((with_reducible refine' xDat ?k1 ?k2 ?_); (case k1 => rfl); (case k2 => (exact Nat.le_of_ble_eq_true rfl)))
  | ((with_reducible refine' oIxT ?k1 ?_); (case k1 => rfl)) | ((with_reducible refine' oIxL ?k1 ?_); (case k1 => rfl))
  | (with_reducible refine oAdd ?_) | (with_reducible refine oSub ?_) | (with_reducible refine oNeg ?_) | (with_reducible refine oGcd ?_) | (with_reducible refine oAbs ?_) | (with_reducible refine oInt ?_)
  | (with_reducible refine oLenT ?_) | (with_reducible refine oLenL ?_) | (with_reducible refine oSlT ?_) | (with_reducible refine oSlL ?_) | (with_reducible refine oTupL ?_) | (with_reducible refine oTupT ?_)
  | (with_reducible refine cLt ?_) | (with_reducible refine cLe ?_) | (with_reducible refine cGt ?_) | (with_reducible refine cGe ?_) | (with_reducible refine cIsN (o := .isN) ?_) | (with_reducible refine cNotN ?_) | (with_reducible refine cIsB ?_) | (with_reducible refine cEqI ?_) | (with_reducible refine cNeI ?_)
  | (with_reducible refine sNotT ?_) | (with_reducible refine sAndT ?_) | (with_reducible refine sOrT ?_) | (with_reducible refine sNotV ?_) | (with_reducible refine sAndV ?_) | (with_reducible refine sOrV ?_)
  | (with_reducible refine sSl ?_) | (with_reducible refine sONone ?_) | (with_reducible refine sOSome ?_) | (with_reducible refine xInt ?_) | (with_reducible refine sChn ?_) | (with_reducible refine sPar ?_) | (with_reducible refine xTwo ?_) | (with_reducible refine sIsi ?_) | (with_reducible refine sIsi2 ?_) | (with_reducible refine xD ?_)
  | (with_reducible refine sNext ?_)
  | (with_reducible refine xT ?_) | (with_reducible refine xF ?_))
local macro_rules | `(tactic| fin_places) => `(tactic| (repeat one_item))
theorem fn_law {g : Gb} {T : List (Addr × Str)} {k : Nat} {f : Addr} {fd : FuncData} (gk : GOk g) (F : FunD g.K "law" "law" (defArgs (top 106)) (defBody (top 106)) (defScope (top 106)) [] [] f fd) (fr : FOkN g T k "_law_right" sp__law_right) (fs : FsOk g k gLaw) :
    FnOk g.P g.w g.K g.mg g.base CX0 (k + 1) f fd ["_law_script"] (lawSp g.K T) := by
  refine F.ok (CX := CX0) (N := ["_law_script"]) (ps := ["_law_script"]) ⟨rfl, rfl, rfl, by decide +kernel, rfl, by decide +kernel, by decide +kernel⟩ (fun vs H Q E h => ?_) (fun cdv A outer s H vs Q E hr h => ?_)
  · obtain ⟨a, ns, rfl, _⟩ := h
    rfl
  · obtain ⟨a, ns, rfl, hs, hl, hb, tb, hq⟩ := h
    obtain ⟨F0, sub, nt, hs0⟩ := start_F hs
    have mok : MOk g.B F0 (fun _ => none) H := fun _ _ z => nomatch z
    refine ⟨_, law_ps (X := cxOf CX0 g.P g.w g.K g.mg g.base ["_law_script"] "law" (defScope (top 106)) f cdv A outer s H E) (p := ⟨["_law_script"], defScope (top 106), true⟩) (G := gLaw) (e1 := lawE1) (es2 := lawE2)
      { gk := gk, fs := fs, calm := rfl, nd := (show (["_law_script"] : List Str).Nodup from by decide +kernel), N := rfl, sc := rfl, kind := rfl, fn := fun _ _ => rfl, P := rfl, w := rfl, K := rfl, mg := rfl, base := rfl, room := hr, xe := rfl } fr (by decide +kernel), ?_⟩
    have so : SOk g.B F0 (fun _ => none) (L2.start ["_law_script"] [.ref a]) H (startD ["_law_script"] [.scr ns]) := ⟨sub, mok, start_ok (.cons ⟨a, rfl, hs0⟩ .nil)⟩
    refine ⟨F0, fun _ => none, _, fun w M' => w = .d (.bool true), so, ?_, fun v w F1 H1 M1 p1 r1 q1 => ?_⟩
    · simp only [lawE1, gLaw, ev]
      fin_places
      all_goals exact ⟨rfl, rfl, fun M' _ => trivial⟩
    · subst q1
      refine ⟨true, r1.tru, ?_⟩
      rw [if_pos rfl]
      have so1 := so.after p1
      have t1 := p1.tabs mok tb
      refine ⟨F1, M1, _, fun ws M' => ∃ b, ws = [.box b] ∧ Tin 0 b M', so1, ?_, fun vs ws F2 H2 M2 p2 rr hw => ?_⟩
      · simp only [lawE2, gLaw, evA, ev]
        fin_places
        refine ⟨rfl, ns, rfl, hl, hb, fun c M2 hc => ?_⟩
        fin_places
        refine ⟨rfl, c, rfl, hc, fun b M3 ht => ?_⟩
        fin_places
        all_goals exact ⟨b, rfl, ht⟩
      · obtain ⟨b, rfl, ht⟩ := hw
        show lifN g.B T sp__law_right (vs ++ []) H2 _ E0
        rw [List.append_nil]
        refine ⟨ntF F2, M2, [.box b], fun w _ => w = .d (.bool true), ntF_sub p2.sub, p2.mok.nt, ntF_nt, p2.tabs so1.mok t1, rr.nt, rfl, ⟨b, rfl, ht, fun _ => rfl⟩, fun v w F3 H3 M3 e3 s3 m3 n3 t3 r3 q3 => ?_⟩
        subst q3
        rw [r3.tru]
        exact hq H3
end Sh
set_option maxHeartbeats 1000000
namespace Sh
open PySem PySem.Spec PyProof.Rows L2
/-! ## all defs joined -/
section
variable {P : Program} {w : World} {h base : Heap} {K : PySem.W.Frag} {mg : Str → Option Value}
abbrev Says (w : World) (h : Heap) (K : PySem.W.Frag) : Prop := He.SaysX HD.fa HD.fn [] HD.tf HD.ex w h K
abbrev gOf (P : Program) (w : World) (K : PySem.W.Frag) (mg : Str → Option Value) (base : Heap) : Gb := ⟨P, w, K, mg, base⟩
theorem at_mk (c : Says w h K) (X : K.In base) (G : base.Ns mainGlobals mg) {x : Str} {i : Nat} (n : Nat) (hf : HD.fn[n]? = some (HD.dd x i)) (ha : HD.fa[n]? = some (.glo x)) : At (gOf P w K mg base) x i := by
  obtain ⟨fd, F⟩ := c.t.d.def_ n hf
  exact ⟨He.ga K x, fd, F, He.glo_ok X G (c.t.d.fact n ha)⟩
theorem ktup_of {x : Str} {i j : Int} (hb : He.tupB K x [.int i, .int j] = true) : ∀ F, RD K F (.ref (He.ga K x)) (.tuple [.int i, .int j]) := fun F => by
  rcases He.tupB_ok hb (fun _ => none) with (hh | ⟨_, hh⟩) | ⟨o, its, n, h1, h2, h3, h4, h5⟩
  · cases hh
  · cases hh
  · exact .ktup o its n h1 h2 h3 h4 h5 (.cons (.int i) (.cons (.int j) .nil))
theorem ex_parts (c : Says w h K) : (He.eqO (PySem.W.nsIn K mainGlobals "gcd") (some (some (.builtin "math.gcd"))) = true ∧ He.tupB K "NONE" [.int 0, .int 1] = true ∧ He.eqO (PySem.W.nsIn K mainGlobals "NONE") (some (some (.ref (He.ga K "NONE")))) = true ∧ He.tupB K "FULL" [.int 1, .int 1] = true ∧ He.eqO (PySem.W.nsIn K mainGlobals "FULL") (some (some (.ref (He.ga K "FULL")))) = true) ∧ HD.exC K (He.ga K "NoPaper") = true ∧ HD.exT K = true := by
  obtain ⟨h1, z⟩ := ba (show (_ && _) = true from c.more)
  obtain ⟨h2, z⟩ := ba z
  obtain ⟨h3, z⟩ := ba z
  obtain ⟨h4, z⟩ := ba z
  obtain ⟨h5, z⟩ := ba z
  obtain ⟨h6, h7⟩ := ba z
  exact ⟨⟨h1, h2, h3, h4, h5⟩, h6, h7⟩
theorem gok (c : Says w h K) (X : K.In base) (G : base.Ns mainGlobals mg) : GOk (gOf P w K mg base) where
  free := fun x hx => by
    simp only [blts, List.mem_cons, List.not_mem_nil, or_false] at hx
    rcases hx with rfl | rfl | rfl | rfl | rfl | rfl | rfl | rfl | rfl | rfl | rfl | rfl | rfl | rfl | rfl
    · exact He.free_ok X G (c.t.d.fact 98 (f := .free "len") rfl)
    · exact He.free_ok X G (c.t.d.fact 96 (f := .free "abs") rfl)
    · exact He.free_ok X G (c.t.d.fact 97 (f := .free "int") rfl)
    · exact He.free_ok X G (c.t.d.fact 100 (f := .free "tuple") rfl)
    · exact He.free_ok X G (c.t.d.fact 101 (f := .free "list") rfl)
    · exact He.free_ok X G (c.t.d.fact 104 (f := .free "all") rfl)
    · exact He.free_ok X G (c.t.d.fact 102 (f := .free "sorted") rfl)
    · exact He.free_ok X G (c.t.d.fact 99 (f := .free "isinstance") rfl)
    · exact He.free_ok X G (c.t.d.fact 109 (f := .free "bool") rfl)
    · exact He.free_ok X G (c.t.d.fact 110 (f := .free "str") rfl)
    · exact He.free_ok X G (c.t.d.fact 103 (f := .free "set") rfl)
    · exact He.free_ok X G (c.t.d.fact 105 (f := .free "zip") rfl)
    · exact He.free_ok X G (c.t.d.fact 106 (f := .free "enumerate") rfl)
    · exact He.free_ok X G (c.t.d.fact 107 (f := .free "range") rfl)
    · exact He.free_ok X G (c.t.d.fact 108 (f := .free "dict") rfl)
  gcd := PySem.W.mg_of X G (He.eqO_ok (ex_parts c).1.1)
  zero := ⟨_, PySem.W.mg_of X G (He.eqO_ok (ex_parts c).1.2.2.1), ktup_of (ex_parts c).1.2.1⟩
  one := ⟨_, PySem.W.mg_of X G (He.eqO_ok (ex_parts c).1.2.2.2.2), ktup_of (ex_parts c).1.2.2.2.1⟩
theorem npok (c : Says w h K) (X : K.In base) (G : base.Ns mainGlobals mg) : NpOk (gOf P w K mg base) (He.ga K "NoPaper") := by
  obtain ⟨e1, e2, e3, e4⟩ := He.exc_ok (c.t.d.fact 112 (f := .exc "NoPaper") rfl)
  have g1 := He.glo_ok X G (c.t.d.fact 113 (f := .glo "NoPaper") rfl)
  have m1 := He.exm_ok (c.t.d.fact 114 (f := .exm "NoPaper" "NoPaper" true) rfl)
  have v1 := He.free_ok X G (c.t.d.fact 111 (f := .free "ValueError") rfl)
  obtain ⟨c1, z⟩ := ba (show (_ && _) = true from (ex_parts c).2.1)
  obtain ⟨c2, z⟩ := ba z
  obtain ⟨c3, z⟩ := ba z
  obtain ⟨c4, z⟩ := ba z
  obtain ⟨c5, z⟩ := ba z
  obtain ⟨c6, z⟩ := ba z
  obtain ⟨c7, c8⟩ := ba z
  exact ⟨g1, e1, e2, e3, e4, m1, ⟨He.eqO_ok c1, He.eqO_ok c2, e3, c3, He.eqO_ok c4, He.eqO_ok c5, of_decide_eq_true c6, of_decide_eq_true c7⟩, of_decide_eq_true c8, v1⟩
theorem atc_mk (c : Says w h K) (X : K.In base) (G : base.Ns mainGlobals mg) {x : Str} {i : Nat} (n : Nat) (hf : HD.fn[n]? = some (HD.dd x i)) (ha : HD.fa[n]? = some (.glo x)) : AtC (gOf P w K mg base) x i (He.codeOf K (x, none)) := by
  obtain ⟨fd, F⟩ := c.t.d.def_ n hf
  have g1 := He.glo_ok X G (c.t.d.fact n ha)
  obtain ⟨oc, od, dV, kV, doc, pm, an, cdv, ct, osl, rfl, lk, hcd, hD, _⟩ := F.ex
  obtain ⟨cc, rfl⟩ := He.codeIn_ref hcd
  have ec : He.codeOf K (x, none) = cc := He.codeOf_eq (p := (x, none)) lk rfl
  rcases hD with ⟨_, rfl⟩ | ⟨ne, _⟩
  · rw [ec]
    exact ⟨He.ga K x, oc, od, kV, doc, pm, an, ct, osl, lk, hcd, g1, F.kp⟩
  · exact absurd rfl ne
theorem nofn (c : Says w h K) (X : K.In base) (G : base.Ns mainGlobals mg) : NoFn (gOf P w K mg base) 99 where
  at_ := at_mk c X G 88 rfl rfl
  tx := by decide +kernel
  sc := ⟨rfl, rfl, rfl, by decide +kernel, rfl, by decide +kernel, by decide +kernel⟩
  vis := .inl (by decide +kernel)
  bd := fun _ _ _ _ _ _ us hl => match us, hl with | [_], _ => rfl
def tabsT (K : PySem.W.Frag) : List (Addr × Str) := [((He.cT K ("_law_pair_right", none)).2, qPair), ((He.cT K ("_law_mirror_right", none)).2, qMir)]
theorem law_ok (c : Says w h K) (X : K.In base) (G : base.Ns mainGlobals mg) (T1 : LamX.TabB base mg (He.cT K ("_law_pair_right", none)).1 (He.cT K ("_law_pair_right", none)).2) (T2 : LamX.TabB base mg (He.cT K ("_law_mirror_right", none)).1 (He.cT K ("_law_mirror_right", none)).2) {f : Addr} {fd : FuncData} (F : FunD K "law" "law" (defArgs (top 106)) (defBody (top 106)) (defScope (top 106)) [] [] f fd) : FnOk P w K mg base CX0 19 f fd ["_law_script"] (lawSp K (tabsT K)) := by
  have gk : GOk (gOf P w K mg base) := gok c X G
  have np : NpOk (gOf P w K mg base) _ := npok c X G
  have no : NoFn (gOf P w K mg base) _ := nofn c X G
  have f_part_of : FOk (gOf P w K mg base) 1 "part_of" sp_part_of := fn_part_of gk (at_mk c X G 0 rfl rfl)
  have f_part_plus : FOk (gOf P w K mg base) 2 "part_plus" sp_part_plus := fn_part_plus gk (at_mk c X G 1 rfl rfl) f_part_of
  have f_part_minus : FOk (gOf P w K mg base) 1 "part_minus" sp_part_minus := fn_part_minus gk (at_mk c X G 2 rfl rfl)
  have f_part_less : FOk (gOf P w K mg base) 3 "part_less" sp_part_less := fn_part_less gk (at_mk c X G 3 rfl rfl) f_part_plus f_part_minus
  have f_part_times : FOk (gOf P w K mg base) 2 "part_times" sp_part_times := fn_part_times gk (at_mk c X G 4 rfl rfl) f_part_of
  have f_part_over : FOk (gOf P w K mg base) 2 "part_over" sp_part_over := fn_part_over gk (at_mk c X G 5 rfl rfl) f_part_of
  have f_part_size : FOk (gOf P w K mg base) 1 "part_size" sp_part_size := fn_part_size gk (at_mk c X G 6 rfl rfl)
  have f_is_below : FOk (gOf P w K mg base) 1 "is_below" sp_is_below := fn_is_below gk (at_mk c X G 7 rfl rfl)
  have f_at_most : FOk (gOf P w K mg base) 1 "at_most" sp_at_most := fn_at_most gk (at_mk c X G 8 rfl rfl)
  have f_is_whole : FOk (gOf P w K mg base) 1 "is_whole" sp_is_whole := fn_is_whole gk (at_mk c X G 9 rfl rfl)
  have f_wholes_in : FOk (gOf P w K mg base) 3 "wholes_in" sp_wholes_in := fn_wholes_in gk (at_mk c X G 10 rfl rfl) f_part_over f_part_size
  have f_round_by : FOk (gOf P w K mg base) 4 "round_by" sp_round_by := fn_round_by gk (at_mk c X G 11 rfl rfl) f_part_less f_part_times f_wholes_in f_part_size
  have f_angle_of : FOk (gOf P w K mg base) 1 "angle_of" sp_angle_of := fn_angle_of gk (at_mk c X G 12 rfl rfl)
  have f_common_part : FOk (gOf P w K mg base) 2 "common_part" sp_common_part := fn_common_part gk (at_mk c X G 13 rfl rfl) f_part_of
  have f_tupled : FOk (gOf P w K mg base) 8 "tupled" sp_tupled := (fn_tupled gk (at_mk c X G 14 rfl rfl) 7).mono (by decide)
  have f_is_number : FOk (gOf P w K mg base) 1 "is_number" sp_is_number := fn_is_number gk (at_mk c X G 15 rfl rfl)
  have f_is_tuple_of : FOk (gOf P w K mg base) 1 "is_tuple_of" sp_is_tuple_of := fn_is_tuple_of gk (at_mk c X G 16 rfl rfl)
  have f_is_fraction : FOk (gOf P w K mg base) 2 "is_fraction" sp_is_fraction := fn_is_fraction gk (at_mk c X G 17 rfl rfl) f_is_tuple_of f_is_number
  have f_is_angle : FOk (gOf P w K mg base) 3 "is_angle" sp_is_angle := fn_is_angle gk (at_mk c X G 18 rfl rfl) f_is_fraction f_at_most f_is_below
  have f_is_point : FOk (gOf P w K mg base) 4 "is_point" sp_is_point := fn_is_point gk (at_mk c X G 19 rfl rfl) f_is_tuple_of f_is_fraction f_is_angle
  have f_is_motion_shape : FOk (gOf P w K mg base) 5 "is_motion_shape" sp_is_motion_shape := fn_is_motion_shape gk (at_mk c X G 20 rfl rfl) f_is_point
  have f_set_of : FOk (gOf P w K mg base) 1 "set_of" sp_set_of := fn_set_of gk (at_mk c X G 21 rfl rfl)
  have f_lead_line : FOk (gOf P w K mg base) 5 "lead_line" sp_lead_line := fn_lead_line gk (at_mk c X G 22 rfl rfl) f_round_by
  have f_line_moved : FOk (gOf P w K mg base) 9 "line_moved" sp_line_moved := fn_line_moved gk (at_mk c X G 23 rfl rfl) f_tupled f_part_plus f_angle_of f_lead_line f_part_less f_part_times
  have f_line_mirrored : FOk (gOf P w K mg base) 9 "line_mirrored" sp_line_mirrored := fn_line_mirrored gk (at_mk c X G 24 rfl rfl) f_tupled f_angle_of f_part_minus
  have f_band_moved : FOk (gOf P w K mg base) 10 "band_moved" sp_band_moved := fn_band_moved gk (at_mk c X G 25 rfl rfl) f_tupled f_set_of f_line_moved
  have f_sort_of : FOk (gOf P w K mg base) 1 "sort_of" sp_sort_of := fn_sort_of gk (at_mk c X G 26 rfl rfl)
  have f_by_sorts : FOk (gOf P w K mg base) 2 "by_sorts" sp_by_sorts := fn_by_sorts gk (at_mk c X G 27 rfl rfl) f_sort_of
  have f_slid : FOk (gOf P w K mg base) 5 "slid" sp_slid := fn_slid gk (at_mk c X G 28 rfl rfl) f_part_plus f_angle_of f_round_by
  have f_slides_for : FOk (gOf P w K mg base) 6 "slides_for" sp_slides_for := fn_slides_for gk (at_mk c X G 29 rfl rfl) f_part_less f_set_of f_slid
  have f_goes_whole : FOk (gOf P w K mg base) 3 "goes_whole" sp_goes_whole := fn_goes_whole gk (at_mk c X G 30 rfl rfl) f_is_whole f_part_over
  have f_undone_times : FOk (gOf P w K mg base) 1 "undone_times" sp_undone_times := fn_undone_times gk (at_mk c X G 31 rfl rfl)
  have f_met_rules : FOk (gOf P w K mg base) 4 "met_rules" sp_met_rules := fn_met_rules gk (at_mk c X G 32 rfl rfl) f_common_part f_goes_whole f_part_less f_part_over f_part_size f_undone_times f_part_plus f_part_times
  have f_place_by : FOk (gOf P w K mg base) 5 "place_by" sp_place_by := fn_place_by gk (at_mk c X G 33 rfl rfl) f_met_rules
  have f_rules_by : FOk (gOf P w K mg base) 4 "rules_by" sp_rules_by := fn_rules_by gk (at_mk c X G 34 rfl rfl) f_part_plus f_part_times f_part_over f_part_less
  have f_motion_by : FOk (gOf P w K mg base) 6 "motion_by" sp_motion_by := fn_motion_by gk (at_mk c X G 35 rfl rfl) f_rules_by f_place_by f_goes_whole f_part_less f_part_over f_angle_of
  have f_one_of_each : FOk (gOf P w K mg base) 1 "one_of_each" sp_one_of_each := fn_one_of_each gk (at_mk c X G 36 rfl rfl)
  have f_found_motion : FOk (gOf P w K mg base) 7 "found_motion" sp_found_motion := fn_found_motion gk (at_mk c X G 37 rfl rfl) f_by_sorts f_slides_for f_one_of_each f_motion_by
  have f_mirrored_band : FOk (gOf P w K mg base) 10 "mirrored_band" sp_mirrored_band := fn_mirrored_band gk (at_mk c X G 38 rfl rfl) f_set_of f_line_mirrored
  have f_alike_bands : FOk (gOf P w K mg base) 9 "alike_bands" sp_alike_bands := fn_alike_bands gk (at_mk c X G 39 rfl rfl) f_found_motion f_tupled
  have f_is_motion_between : FOk (gOf P w K mg base) 11 "is_motion_between" sp_is_motion_between := fn_is_motion_between gk (at_mk c X G 42 rfl rfl) f_is_motion_shape f_band_moved f_tupled
  have f_is_mirror_between : FOk (gOf P w K mg base) 11 "is_mirror_between" sp_is_mirror_between := fn_is_mirror_between gk (at_mk c X G 44 rfl rfl) f_is_motion_shape f_band_moved f_mirrored_band f_tupled
  have f__law_box : FOk (gOf P w K mg base) 1 "_law_box" sp__law_box := fn__law_box gk (at_mk c X G 45 rfl rfl)
  have f__law_take : FOk (gOf P w K mg base) 1 "_law_take" sp__law_take := fn__law_take gk (at_mk c X G 46 rfl rfl)
  have f__law_cells : FOk (gOf P w K mg base) 1 "_law_cells" sp__law_cells := fn__law_cells gk (at_mk c X G 47 rfl rfl)
  have f__law_of : FOk (gOf P w K mg base) 2 "_law_of" sp__law_of := fn__law_of gk (at_mk c X G 48 rfl rfl) f__law_take
  have f__law_lists : FOk (gOf P w K mg base) 8 "_law_lists" sp__law_lists := (fn__law_lists gk (at_mk c X G 49 rfl rfl) 7).mono (by decide)
  have f__law_same : FOk (gOf P w K mg base) 8 "_law_same" sp__law_same := fn__law_same gk (at_mk c X G 50 rfl rfl) 8
  have f__law_is_number : FOk (gOf P w K mg base) 1 "_law_is_number" sp__law_is_number := fn__law_is_number gk (at_mk c X G 51 rfl rfl)
  have f__law_put : FOk (gOf P w K mg base) 1 "_law_put" sp__law_put := fn__law_put gk (at_mk c X G 52 rfl rfl)
  have f__law_common : FOk (gOf P w K mg base) 1 "_law_common" sp__law_common := fn__law_common gk (at_mk c X G 53 rfl rfl)
  have f__law_part : FOk (gOf P w K mg base) 2 "_law_part" sp__law_part := fn__law_part gk (at_mk c X G 54 rfl rfl) f__law_common
  have f__law_sum : FOk (gOf P w K mg base) 3 "_law_sum" sp__law_sum := fn__law_sum gk (at_mk c X G 55 rfl rfl) f__law_part
  have f__law_minus : FOk (gOf P w K mg base) 1 "_law_minus" sp__law_minus := fn__law_minus gk (at_mk c X G 56 rfl rfl)
  have f__law_less : FOk (gOf P w K mg base) 4 "_law_less" sp__law_less := fn__law_less gk (at_mk c X G 57 rfl rfl) f__law_sum f__law_minus
  have f__law_prod : FOk (gOf P w K mg base) 3 "_law_prod" sp__law_prod := fn__law_prod gk (at_mk c X G 58 rfl rfl) f__law_part
  have f__law_quot : FOk (gOf P w K mg base) 3 "_law_quot" sp__law_quot := fn__law_quot gk (at_mk c X G 59 rfl rfl) f__law_part
  have f__law_times : FOk (gOf P w K mg base) 3 "_law_times" sp__law_times := fn__law_times gk (at_mk c X G 60 rfl rfl) f__law_part
  have f__law_size : FOk (gOf P w K mg base) 1 "_law_size" sp__law_size := fn__law_size gk (at_mk c X G 61 rfl rfl)
  have f__law_floor : FOk (gOf P w K mg base) 1 "_law_floor" sp__law_floor := fn__law_floor gk (at_mk c X G 62 rfl rfl)
  have f__law_round : FOk (gOf P w K mg base) 5 "_law_round" sp__law_round := fn__law_round gk (at_mk c X G 63 rfl rfl) f__law_floor f__law_quot f__law_size f__law_less f__law_times
  have f__law_angle : FOk (gOf P w K mg base) 1 "_law_angle" sp__law_angle := fn__law_angle gk (at_mk c X G 64 rfl rfl)
  have f__law_is_part : FOk (gOf P w K mg base) 2 "_law_is_part" sp__law_is_part := fn__law_is_part gk (at_mk c X G 65 rfl rfl) f__law_is_number f__law_common
  have f__law_is_angle : FOk (gOf P w K mg base) 3 "_law_is_angle" sp__law_is_angle := fn__law_is_angle gk (at_mk c X G 66 rfl rfl) f__law_is_part
  have f__law_is_point : FOk (gOf P w K mg base) 4 "_law_is_point" sp__law_is_point := fn__law_is_point gk (at_mk c X G 67 rfl rfl) f__law_is_part f__law_is_angle
  have f__law_fraction : FOk (gOf P w K mg base) 3 "_law_fraction" sp__law_fraction := fn__law_fraction gk (at_mk c X G 68 rfl rfl) f__law_of f__law_part f__law_take
  have f__law_drawn_angle : FOk (gOf P w K mg base) 3 "_law_drawn_angle" sp__law_drawn_angle := fn__law_drawn_angle gk (at_mk c X G 69 rfl rfl) f__law_of f__law_part f__law_take
  have f__law_drawn_lead : FOk (gOf P w K mg base) 3 "_law_drawn_lead" sp__law_drawn_lead := fn__law_drawn_lead gk (at_mk c X G 70 rfl rfl) f__law_of f__law_take f__law_minus
  have f__law_lead_line : FOk (gOf P w K mg base) 6 "_law_lead_line" sp__law_lead_line := fn__law_lead_line gk (at_mk c X G 71 rfl rfl) f__law_round f__law_less f__law_prod
  have f__law_line : FOk (gOf P w K mg base) 7 "_law_line" sp__law_line := fn__law_line gk (at_mk c X G 72 rfl rfl) f__law_take f__law_fraction f__law_drawn_angle f__law_drawn_lead f__law_lead_line
  have f__law_moved_line : FOk (gOf P w K mg base) 6 "_law_moved_line" sp__law_moved_line := fn__law_moved_line gk (at_mk c X G 73 rfl rfl) f__law_sum f__law_angle f__law_less f__law_prod f__law_round
  have f__law_mirrored_line : FOk (gOf P w K mg base) 2 "_law_mirrored_line" sp__law_mirrored_line := fn__law_mirrored_line gk (at_mk c X G 74 rfl rfl) f__law_angle f__law_minus
  have f__law_motion : FOk (gOf P w K mg base) 4 "_law_motion" sp__law_motion := fn__law_motion gk (at_mk c X G 75 rfl rfl) f__law_fraction f__law_take f__law_minus f__law_drawn_angle
  have f__law_band : FOk (gOf P w K mg base) 8 "_law_band" sp__law_band := fn__law_band gk (at_mk c X G 76 rfl rfl) f__law_line f__law_take f__law_lead_line f__law_drawn_angle f__law_of
  have f__law_sort : FOk (gOf P w K mg base) 1 "_law_sort" sp__law_sort := fn__law_sort gk (at_mk c X G 77 rfl rfl)
  have f__law_slid : FOk (gOf P w K mg base) 6 "_law_slid" sp__law_slid := fn__law_slid gk (at_mk c X G 78 rfl rfl) f__law_sum f__law_angle f__law_round
  have f__law_slides : FOk (gOf P w K mg base) 7 "_law_slides" sp__law_slides := fn__law_slides gk (at_mk c X G 79 rfl rfl) f__law_less f__law_slid
  have f__law_whole : FOk (gOf P w K mg base) 4 "_law_whole" sp__law_whole := fn__law_whole gk (at_mk c X G 80 rfl rfl) f__law_quot
  have f__law_gcd_part : FOk (gOf P w K mg base) 3 "_law_gcd_part" sp__law_gcd_part := fn__law_gcd_part gk (at_mk c X G 81 rfl rfl) f__law_part f__law_common
  have f__law_fits : FOk (gOf P w K mg base) 5 "_law_fits" sp__law_fits := fn__law_fits gk (at_mk c X G 82 rfl rfl) f__law_whole f__law_less f__law_gcd_part
  have f__law_joint : FOk (gOf P w K mg base) 6 "_law_joint" sp__law_joint := fn__law_joint gk (at_mk c X G 83 rfl rfl) f__law_quot f__law_less f__law_sum f__law_prod f__law_fits f__law_whole
  have f__law_choices : FOk (gOf P w K mg base) 1 "_law_choices" sp__law_choices := fn__law_choices gk (at_mk c X G 84 rfl rfl)
  have f__law_any_motion : FOk (gOf P w K mg base) 8 "_law_any_motion" sp__law_any_motion := fn__law_any_motion gk (at_mk c X G 85 rfl rfl) f__law_sort f__law_slides f__law_choices f__law_joint
  have f__law_moved_band : FOk (gOf P w K mg base) 7 "_law_moved_band" sp__law_moved_band := fn__law_moved_band gk (at_mk c X G 86 rfl rfl) f__law_moved_line
  have f__law_mirrored_band : FOk (gOf P w K mg base) 3 "_law_mirrored_band" sp__law_mirrored_band := fn__law_mirrored_band gk (at_mk c X G 87 rfl rfl) f__law_mirrored_line
  have f__law_leads : FOk (gOf P w K mg base) 8 "_law_leads" sp__law_leads := fn__law_leads gk (at_mk c X G 89 rfl rfl) f__law_is_point f__law_moved_band
  have f__law_by_hand_right : FOk (gOf P w K mg base) 12 "_law_by_hand_right" sp__law_by_hand_right := fn__law_by_hand_right gk (at_mk c X G 90 rfl rfl) f_alike_bands f_is_motion_between f__law_same
  have f__law_bent : FOk (gOf P w K mg base) 7 "_law_bent" sp__law_bent := fn__law_bent gk (at_mk c X G 91 rfl rfl) f__law_take f__law_put f__law_slid f__law_of
  have f_told := fn_told_motion (k := 12) gk np (at_mk c X G 40 rfl rfl) (f_found_motion.mono (by decide))
  have f_motb := fn_motion_between (k := 13) gk (at_mk c X G 41 rfl rfl) f_told (f_tupled.mono (by decide))
  have f_mirb := fn_mirror_between (k := 13) gk (at_mk c X G 43 rfl rfl) f_told (f_tupled.mono (by decide)) (f_mirrored_band.mono (by decide))
  have fsP : FsOk (gOf P w K mg base) 14 gPair := ⟨List.forall_mem_cons.mpr ⟨f__law_any_motion.mono (by decide), List.forall_mem_cons.mpr ⟨f__law_lists.mono (by decide), List.forall_mem_cons.mpr ⟨f__law_same.mono (by decide), List.forall_mem_cons.mpr ⟨f_alike_bands.mono (by decide), List.forall_mem_cons.mpr ⟨f__law_leads.mono (by decide), List.forall_mem_cons.mpr ⟨f__law_motion.mono (by decide), List.forall_mem_cons.mpr ⟨f_is_motion_between.mono (by decide), fun _ h => nomatch h⟩⟩⟩⟩⟩⟩⟩⟩
  have fsM : FsOk (gOf P w K mg base) 14 gMir := ⟨List.forall_mem_cons.mpr ⟨f__law_mirrored_band.mono (by decide), List.forall_mem_cons.mpr ⟨f__law_any_motion.mono (by decide), List.forall_mem_cons.mpr ⟨f__law_lists.mono (by decide), List.forall_mem_cons.mpr ⟨f__law_same.mono (by decide), List.forall_mem_cons.mpr ⟨f_is_mirror_between.mono (by decide), List.forall_mem_cons.mpr ⟨f__law_leads.mono (by decide), fun _ h => nomatch h⟩⟩⟩⟩⟩⟩⟩
  have fsR : FsOk (gOf P w K mg base) 17 gRt := ⟨List.forall_mem_cons.mpr ⟨f__law_band.mono (by decide), List.forall_mem_cons.mpr ⟨f__law_take.mono (by decide), List.forall_mem_cons.mpr ⟨f__law_motion.mono (by decide), List.forall_mem_cons.mpr ⟨f__law_moved_band.mono (by decide), List.forall_mem_cons.mpr ⟨f__law_of.mono (by decide), List.forall_mem_cons.mpr ⟨f__law_bent.mono (by decide), List.forall_mem_cons.mpr ⟨f__law_mirrored_band.mono (by decide), List.forall_mem_cons.mpr ⟨f__law_same.mono (by decide), List.forall_mem_cons.mpr ⟨f_alike_bands.mono (by decide), List.forall_mem_cons.mpr ⟨f_is_motion_between.mono (by decide), List.forall_mem_cons.mpr ⟨f__law_lists.mono (by decide), fun _ h => nomatch h⟩⟩⟩⟩⟩⟩⟩⟩⟩⟩⟩⟩
  have fsL : FsOk (gOf P w K mg base) 18 gLaw := ⟨List.forall_mem_cons.mpr ⟨f__law_by_hand_right.mono (by decide), List.forall_mem_cons.mpr ⟨f__law_box.mono (by decide), List.forall_mem_cons.mpr ⟨f__law_cells.mono (by decide), fun _ h => nomatch h⟩⟩⟩⟩
  have ne : (He.cT K ("_law_pair_right", none)).2 ≠ (He.cT K ("_law_mirror_right", none)).2 := by
    have z := (ex_parts c).2.2
    unfold HD.exT at z
    simpa using z
  have m1 : ((He.cT K ("_law_pair_right", none)).2, qPair) ∈ tabsT K := List.mem_cons_self
  have m2 : ((He.cT K ("_law_mirror_right", none)).2, qMir) ∈ tabsT K := List.mem_cons_of_mem _ List.mem_cons_self
  have u1 : ∀ q ∈ tabsT K, q.1 = (He.cT K ("_law_pair_right", none)).2 → q.2 = qPair := fun q hq e => by
    rcases List.mem_cons.mp hq with rfl | hq
    · rfl
    · rw [List.mem_singleton.mp hq] at e
      exact absurd e.symm ne
  have u2 : ∀ q ∈ tabsT K, q.1 = (He.cT K ("_law_mirror_right", none)).2 → q.2 = qMir := fun q hq e => by
    rcases List.mem_cons.mp hq with rfl | hq
    · exact absurd e ne
    · rw [List.mem_singleton.mp hq]
  have f_pair := fn_pair (T := tabsT K) gk np no (atc_mk c X G 92 rfl rfl) T1 m1 u1 f_motb fsP
  have f_mirr := fn_mirror (T := tabsT K) gk np no (atc_mk c X G 93 rfl rfl) T2 m2 u2 f_mirb fsM
  have f_right := fn_right (T := tabsT K) gk (at_mk c X G 94 rfl rfl) f_pair f_mirr fsR
  exact fn_law (g := gOf P w K mg base) gk F f_right fsL
end
theorem bits_of {z : Int} (hz : Builtin.Int.intBits z ≤ 1048576) : ∃ N : Nat, N ≤ 1048576 ∧ z.natAbs < 2 ^ N := by
  refine ⟨_, hz, ?_⟩
  unfold Builtin.Int.intBits
  split
  · rename_i e
    have : z.natAbs = 0 := by simpa using e
    rw [this]
    decide
  · exact Nat.lt_log2_self
theorem law_at {w : World} {mg : Str → Option Value} {fa : Addr} {h : Heap} {K : PySem.W.Frag} (KX : K.In h) (G : h.Ns mainGlobals mg) (hmg : mg "law" = some (.ref fa)) (c : Says w h K) : LamX.LawAtS PySem.Challenge.rw_screwshop_k26_whole_motions_that_lead_ba w K CX0 19 63 "_law_script" mg fa h := by
  have hd := c.t.d.def_ 95 (d := HD.dd "law" 106) rfl
  obtain ⟨fd, F⟩ := hd
  have e := hmg.symm.trans (He.glo_ok KX G (c.t.d.fact 95 (f := .glo "law") rfl))
  cases e
  have b := FunD.bindsA (ps := ["_law_script"]) F fun _ _ _ _ _ _ us hl => match us, hl with | [_], _ => rfl
  refine ⟨fd, [He.cT K ("_law_pair_right", none), He.cT K ("_law_mirror_right", none)], lawSp K (tabsT K), fun p hp => ?_, fun p hp => ?_, fun p hp => ?_, fun s u => b s [u] rfl, fun H a ns hl hb hT hS => ?_, fun base X G' hT => ?_⟩
  · rcases List.mem_cons.mp hp with rfl | hp
    · exact c.empty _ List.mem_cons_self
    · rw [List.mem_singleton.mp hp]
      exact c.empty _ (List.mem_cons_of_mem _ List.mem_cons_self)
  · rcases List.mem_cons.mp hp with rfl | hp
    · exact c.out _ List.mem_cons_self
    · rw [List.mem_singleton.mp hp]
      exact c.out _ (List.mem_cons_of_mem _ List.mem_cons_self)
  · rcases List.mem_cons.mp hp with rfl | hp
    · exact PySem.W.codeHd_of_K KX (c.hd _ List.mem_cons_self)
    · rw [List.mem_singleton.mp hp]
      exact PySem.W.codeHd_of_K KX (c.hd _ (List.mem_cons_of_mem _ List.mem_cons_self))
  · refine ⟨a, ns, rfl, hS, hl, fun z hz => bits_of (hb z hz), fun q hq => ?_, fun _ => rfl⟩
    rcases List.mem_cons.mp hq with rfl | hq
    · exact LamX.TabS.nil (hT _ List.mem_cons_self)
    · rw [List.mem_singleton.mp hq]
      exact LamX.TabS.nil (hT _ (List.mem_cons_of_mem _ List.mem_cons_self))
  · exact law_ok (P := PySem.Challenge.rw_screwshop_k26_whole_motions_that_lead_ba.prog) c X G' (hT _ List.mem_cons_self) (hT _ (List.mem_cons_of_mem _ List.mem_cons_self)) F
end Sh
set_option maxHeartbeats 1000000
namespace Sh
open PySem PySem.Spec PyProof.Rows L2
end Sh
open PySem PySem.W PySem.Calls PyProof.Rows
set_option maxRecDepth 100000 in
set_option maxHeartbeats 0 in
theorem PySem.Challenge.cw_screwshop_k26_whole_motions_that_lead_ba_holds : PySem.Challenge.rw_screwshop_k26_whole_motions_that_lead_ba.Holds := by
  refine Sh.HD.fin ?_
  refine LamX.walk_ofTsE (l := PySem.Challenge.rw_screwshop_k26_whole_motions_that_lead_ba) (n := 63) (k := 19) (x := "_law_script") (CX := fun _ => L2.CX0) rfl (by decide) (by kernel_rfl) ⟨rfl, by decide, by decide⟩ ?F (fun _ _ _ _ _ z => z)
  intro w mg fa h Y G hmg0
  obtain ⟨K, KX, c⟩ := Y
  have hmg : mg ("law" : PySem.Str) = some (.ref fa) := by
    have e : (HandSHeadRun.topDef (OpenLaw.row PySem.Challenge.rw_screwshop_k26_whole_motions_that_lead_ba).prog 106).name = ("law" : PySem.Str) := by kernel_rfl
    rw [← e]
    exact hmg0
  exact ⟨K, KX, Sh.law_at KX G hmg c⟩
