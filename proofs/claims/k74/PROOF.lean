import PyProof.Rows.All
import Wide.All
import OpenK.AllK
import Wide.FinOn
import HandS.Words
import HandS.Head0
import HandS.Head1
import HandS.Head2
import HandS.HeadEnd
import HandS.HeadHook1
import HandS.HeadHook2
import HandS.HeadHook3
import HandS.HeadHook4
import PySem.Challenge.RW_roundsure_k74_whole_entries_hold_at_all
import KE.KStateDown
import HandS.ForMost
import HandS.Wide
import HandS.Defaults
import HandS.Flow
import HandS.Exc
import HandS.ExcOwn
import HandS.ExcInit
import HandS.TryOnly
import HandS.Walk
import HandS.Zip
import HandS.Style
import KE.GoesEnum
import KE.KDictZip
import HandS.WordsExc
section
set_option Elab.async false
set_option linter.all false
set_option maxRecDepth 100000
set_option maxHeartbeats 0
/-! The head: what the module's top leaves, run once by the kernel. First of all, where Lean holds least. -/
namespace Rs
open PySem PySem.Spec PyProof.Rows L2
def top (i : Nat) : Stmt := PySem.Challenge.pw_roundsure_k74_whole_entries_hold_at_all.main.body.getD i (.Pass ⟨0, 0, 0, 0⟩)
/-- GREATEST -/
def gre : Int := (10 ^ 60) ^ 10
abbrev sNop : Stmt := inClass (top 3) 0
def nopB (K : PySem.W.Frag) : Bool :=
  (match K.lookup (He.ga K "NoPaper") with
    | some ⟨.type t, _, .cls cd, sl⟩ => (match cd.mro, sl.toList with
      | .ref C' :: bm, [_, _, _, _, some (.builtin n), _] => decide (t = "type") && (decide (C' = He.ga K "NoPaper") && (decide (n = "ValueError.__new__") && (!cd.hasDel && (cd.hasDict && PySem.HandSPX.refsVE bm))))
      | _, _ => false)
    | _ => false) &&
  (He.eqO (PySem.W.findIn K (.ref (He.ga K "NoPaper")) "__setattr__") (some (some (.builtin "object.__setattr__"))) &&
  (decide (PySem.W.subIn K (.ref (He.ga K "NoPaper")) (.type "BaseException") = some true) && (decide (PySem.W.typeIn K (.ref (He.ga K "NoPaper")) = some (.type "type")) && (PySem.W.keepIn K (.ref (He.ga K "NoPaper")) &&
  (He.eqO (PySem.W.nsIn K mainGlobals "NoPaper") (some (some (.ref (He.ga K "NoPaper")))) && (He.eqO (PySem.W.nsIn K mainGlobals "RoundError") (some (some (.ref (He.ga K "RoundError")))) &&
  (He.eqO (PySem.W.findIn K (.ref (He.ga K "NoPaper")) "__init__") (some (some (.ref (He.ma K (He.ga K "NoPaper") "__init__")))) && (decide (PySem.W.typeIn K (.ref (He.ma K (He.ga K "NoPaper") "__init__")) = some (.type "function")) &&
  (He.eqO (PySem.W.findIn K (.ref (He.ga K "NoPaper")) "row") (some none) && (He.eqO (PySem.W.specialIn K (.ref (He.ga K "RoundError")) "__getattribute__") (some (some (.builtin "type.__getattribute__"))) &&
  (PySem.W.readsIn K (He.ga K "RoundError") (.type "type") && ((match PySem.W.findCls K (.ref (He.ga K "RoundError")) (.type "type") "__init__" with
    | some (.val (.builtin n)) => decide (n = "ValueError.__init__")
    | _ => false) && decide (PySem.W.exmOne K (.ref (He.ga K "NoPaper")) (.ref (He.ga K "NoPaper")) = some true)))))))))))))
def dd (x : Str) (i : Nat) : He.DefD := ⟨(x, none), x, x, defArgs (top i), defBody (top i), defScope (top i), [], []⟩
def dN : He.DefD := ⟨("NoPaper", some "__init__"), "__init__", "NoPaper.__init__", defArgs sNop, defBody sNop, defScope sNop, [], []⟩
def fn0 : List He.DefD := [dd "shared" 7, dd "fraction" 8, dd "is_great" 9, dd "need_small" 10, dd "whole_of" 11, dd "plus" 12, dd "turned" 13, dd "less" 14, dd "times" 15, dd "over" 16, dd "size_of" 17, dd "is_less" 18, dd "lesser" 19, dd "greater" 20, dd "power" 21, dd "is_enough" 23, dd "place_of" 24, dd "step_of" 25, dd "whole_by" 26, dd "rounded" 27]
def fn1 : List He.DefD := [dd "off_of" 28, dd "is_multiple" 29, dd "span_of" 31, dd "has" 32, dd "hull" 33, dd "plus_spans" 34, dd "turned_span" 35, dd "less_spans" 36, dd "times_spans" 37, dd "over_spans" 38, dd "great_size" 39, dd "small_size" 40, dd "size_span" 41, dd "least_span" 42, dd "most_span" 43, dd "apart" 44, dd "grain_of" 47, dd "grain_of_span" 48, dd "less_grain" 49, dd "great_grain" 50]
def fn2 : List He.DefD := [dd "both_grains" 51, dd "is_exact" 52, dd "slack" 53, dd "rounded_part" 55, dd "true_part" 56, dd "last_entry" 57, dd "rounded_entry" 58, dd "sum_entry" 59, dd "product_entry" 60, dd "quotient_entry" 61, dd "single_entry" 62, dd "chosen_entry" 63, dd "sides" 64, dd "picked_entry" 65, dd "entry_of" 66, dd "entry_of_marks" 68, dd "_law_mixed" 70, dd "_law_begun" 71, dd "_law_open" 72, dd "_law_draw" 73]
def fn3 : List He.DefD := [dd "_law_made" 74, dd "_law_plus" 75, dd "_law_less" 76, dd "_law_times" 77, dd "_law_below" 78, dd "_law_over" 79, dd "_law_ends" 80, dd "_law_number" 81, dd "_law_power" 82, dd "_law_place" 83, dd "_law_rounded" 84, dd "_law_ruler" 85, dd "_law_mark" 86, dd "_law_names" 87, dd "_law_box" 88, dd "_law_works" 89, dd "_law_exact" 90, dd "_law_run" 91, dd "_law_entries" 92, dd "_law_lies" 93]
def fn4 : List He.DefD := [dd "_law_keeps" 94, dd "_law_rows" 95, dd "_law_pairs" 96, dd "_law_single_right" 97, dd "_law_right" 98, dd "law" 99, dN]
def fn : List He.DefD := fn0 ++ fn1 ++ fn2 ++ fn3 ++ fn4
def fa0 : List He.Fa := [.glo "shared", .glo "fraction", .glo "is_great", .glo "need_small", .glo "whole_of", .glo "plus", .glo "turned", .glo "less", .glo "times", .glo "over", .glo "size_of", .glo "is_less", .glo "lesser", .glo "greater", .glo "power", .glo "is_enough", .glo "place_of", .glo "step_of", .glo "whole_by", .glo "rounded"]
def fa1 : List He.Fa := [.glo "off_of", .glo "is_multiple", .glo "span_of", .glo "has", .glo "hull", .glo "plus_spans", .glo "turned_span", .glo "less_spans", .glo "times_spans", .glo "over_spans", .glo "great_size", .glo "small_size", .glo "size_span", .glo "least_span", .glo "most_span", .glo "apart", .glo "grain_of", .glo "grain_of_span", .glo "less_grain", .glo "great_grain"]
def fa2 : List He.Fa := [.glo "both_grains", .glo "is_exact", .glo "slack", .glo "rounded_part", .glo "true_part", .glo "last_entry", .glo "rounded_entry", .glo "sum_entry", .glo "product_entry", .glo "quotient_entry", .glo "single_entry", .glo "chosen_entry", .glo "sides", .glo "picked_entry", .glo "entry_of", .glo "entry_of_marks", .glo "_law_mixed", .glo "_law_begun", .glo "_law_open", .glo "_law_draw"]
def fa3 : List He.Fa := [.glo "_law_made", .glo "_law_plus", .glo "_law_less", .glo "_law_times", .glo "_law_below", .glo "_law_over", .glo "_law_ends", .glo "_law_number", .glo "_law_power", .glo "_law_place", .glo "_law_rounded", .glo "_law_ruler", .glo "_law_mark", .glo "_law_names", .glo "_law_box", .glo "_law_works", .glo "_law_exact", .glo "_law_run", .glo "_law_entries", .glo "_law_lies"]
def fa4 : List He.Fa := [.glo "_law_keeps", .glo "_law_rows", .glo "_law_pairs", .glo "_law_single_right", .glo "_law_right", .glo "law", .free "abs", .free "len", .free "min", .free "max", .free "int", .free "list", .free "tuple", .free "dict", .free "zip", .free "enumerate", .free "range", .free "all", .glo "NOUGHT", .glo "HALF"]
def fa5 : List He.Fa := [.int "GREATEST" gre]
def fa : List He.Fa := fa0 ++ fa1 ++ fa2 ++ fa3 ++ fa4 ++ fa5
def nm0 : List PySem.Str := ["RoundError", "TooGreat", "NoPaper", "NOUGHT", "GREATEST", "HALF", "shared", "fraction", "is_great", "need_small", "whole_of", "plus", "turned", "less", "times", "over", "size_of", "is_less", "lesser", "greater", "power", "is_enough", "place_of", "step_of", "whole_by", "rounded", "off_of", "is_multiple", "span_of", "has"]
def nm1 : List PySem.Str := ["hull", "plus_spans", "turned_span", "less_spans", "times_spans", "over_spans", "great_size", "small_size", "size_span", "least_span", "most_span", "apart", "grain_of", "grain_of_span", "less_grain", "great_grain", "both_grains", "is_exact", "slack", "rounded_part", "true_part", "last_entry", "rounded_entry", "sum_entry", "product_entry", "quotient_entry", "single_entry", "chosen_entry", "sides", "picked_entry"]
def nm2 : List PySem.Str := ["entry_of", "entry_of_marks", "_law_mixed", "_law_begun", "_law_open", "_law_draw", "_law_made", "_law_plus", "_law_less", "_law_times", "_law_below", "_law_over", "_law_ends", "_law_number", "_law_power", "_law_place", "_law_rounded", "_law_ruler", "_law_mark", "_law_names", "_law_box", "_law_works", "_law_exact", "_law_run", "_law_entries", "_law_lies", "_law_keeps", "_law_rows", "_law_pairs", "_law_single_right"]
def nm3 : List PySem.Str := ["_law_right"]
def nms : List PySem.Str := nm0 ++ nm1 ++ nm2 ++ nm3
def exB (K : PySem.W.Frag) : Bool := nopB K && (He.tupB K "NOUGHT" [.int 0, .int 1] && He.tupB K "HALF" [.int 1, .int 2])
abbrev R : PySem.W.OpenRow := PySem.W.OpenLaw.row PySem.Challenge.rw_roundsure_k74_whole_entries_hold_at_all
def asM (g : Addr → Option Obj) : List Addr := (cStatics :: (He.asD g 2 ++ Nat.repeat (He.growD g) 4 [He.ga (He.frG g (He.asD g 1)) "NoPaper"])).eraseDups
abbrev AlM : Type := He.AlD × Bool
def obM (g : Addr → Option Obj) : AlM := (He.obsD fa fn (He.frG g (asM g)), exB (He.frG g (asM g)))
def hk : PySem.W.Hook where
  α := AlM
  obs := fun s => obM s.heap.get?
  val := fun _ => (He.valD fn, true)
  says := fun _ h => ∃ K : PySem.W.Frag, K.In h ∧ He.SaysD fa fn K ∧ exB K = true
  of := fun _ _ e => ⟨_, He.frG_in, congrArg (fun z : AlM => z.1) e, congrArg (fun z : AlM => z.2) e⟩
  keeps := fun _ _ _ ⟨K, hK, c⟩ k => ⟨K, PySem.W.Frag.In.keeps hK k, c⟩
def ob (s : PySem.W.SharedT) : AlM := obM (HandSHeadRun.getT s)
theorem obM_eq {g : Addr → Option Obj} {s : Shared} (h : ∀ a, g a = s.heap.get? a) : obM g = hk.obs s := by
  have e : g = s.heap.get? := funext h
  rw [e] <;> rfl
theorem ob_eq (s : PySem.W.SharedT) : ob s = hk.obs s.abs := obM_eq (HandSHeadRun.getT_eq s)
theorem run (w : World) : HandSHeadRun.RunEq R (PySem.W.view R.prog [99]) hk ob 4000 nms w := by
  intro os
  kernel_rfl
end Rs
end

section
set_option linter.all false
set_option maxHeartbeats 1000000
/-! Rationals: plain Lean. -/
namespace Rs
theorem gcd_pos {x y : Int} (hy : y ≠ 0) : 0 < Int.gcd x y := Int.gcd_pos_of_ne_zero_right x hy
/-- what fraction() hands back -/
theorem frac_num {x y : Int} (hy : y ≠ 0) : x.fdiv (if y < 0 then 0 - (Int.gcd x y : Int) else (Int.gcd x y : Int)) = (Rat.divInt x y).num := by
  have hg : (0 : Int) < (Int.gcd x y : Int) := by exact_mod_cast gcd_pos hy
  have hd : (Int.gcd x y : Int) ∣ x := Int.gcd_dvd_left ..
  rw [Rat.num_divInt, Int.gcd_comm y x]
  by_cases h : y < 0
  · rw [if_pos h, Int.sign_eq_neg_one_of_neg h]
    rw [Int.fdiv_eq_ediv_of_dvd (by rw [Int.zero_sub]; exact (Int.neg_dvd).mpr hd)]
    rw [Int.zero_sub, Int.ediv_neg, Int.neg_mul, Int.one_mul, Int.neg_ediv_of_dvd hd]
  · have h1 : 0 < y := by omega
    rw [if_neg h, Int.sign_eq_one_of_pos h1, Int.one_mul, Int.fdiv_eq_ediv_of_nonneg _ (by omega)]
theorem frac_den {x y : Int} (hy : y ≠ 0) : y.fdiv (if y < 0 then 0 - (Int.gcd x y : Int) else (Int.gcd x y : Int)) = ((Rat.divInt x y).den : Int) := by
  have hg : (0 : Int) < (Int.gcd x y : Int) := by exact_mod_cast gcd_pos hy
  have hd : (Int.gcd x y : Int) ∣ y := Int.gcd_dvd_right ..
  rw [Rat.den_divInt, if_neg hy, Int.gcd_comm y x]
  by_cases h : y < 0
  · rw [if_pos h, Int.fdiv_eq_ediv_of_dvd (by rw [Int.zero_sub]; exact (Int.neg_dvd).mpr hd), Int.zero_sub, Int.ediv_neg]
    generalize Int.gcd x y = g at *
    have e : y = -(y.natAbs : Int) := by omega
    have hd2 : (g : Int) ∣ (y.natAbs : Int) := Int.dvd_natAbs.mpr hd
    have e2 : y / (g : Int) = -((y.natAbs : Int) / (g : Int)) := by
      conv => lhs; rw [e]
      exact Int.neg_ediv_of_dvd hd2
    rw [e2, Int.neg_neg]
    norm_cast
  · have e : y = (y.natAbs : Int) := by omega
    rw [if_neg h, Int.fdiv_eq_ediv_of_nonneg _ (by omega)]
    generalize Int.gcd x y = g at *
    conv => lhs; rw [e]
    norm_cast
theorem plus_eq (a b : Rat) : Rat.divInt (a.num * (b.den : Int) + b.num * (a.den : Int)) ((a.den : Int) * (b.den : Int)) = a + b := by
  conv => rhs; rw [← Rat.num_divInt_den a, ← Rat.num_divInt_den b]
  rw [Rat.divInt_add_divInt _ _ (by exact_mod_cast a.den_nz) (by exact_mod_cast b.den_nz)]
theorem less_eq (a b : Rat) : Rat.divInt (a.num * (b.den : Int) - b.num * (a.den : Int)) ((a.den : Int) * (b.den : Int)) = a - b := by
  have h := plus_eq a (-b)
  rw [Rat.neg_num, Rat.neg_den] at h
  rw [Rat.sub_eq_add_neg, ← h, Int.neg_mul, ← Int.sub_eq_add_neg]
theorem times_eq (a b : Rat) : Rat.divInt (a.num * b.num) ((a.den : Int) * (b.den : Int)) = a * b := by
  conv => rhs; rw [← Rat.num_divInt_den a, ← Rat.num_divInt_den b]
  rw [Rat.divInt_mul_divInt]
theorem over_eq (a b : Rat) : Rat.divInt (a.num * (b.den : Int)) ((a.den : Int) * b.num) = a / b := by
  rw [Rat.div_def]
  conv => rhs; rw [← Rat.num_divInt_den a, ← Rat.num_divInt_den b]
  rw [Rat.inv_divInt, Rat.divInt_mul_divInt]
theorem divInt_q (q : Rat) : Rat.divInt q.num (q.den : Int) = q := Rat.num_divInt_den q
/-! ### sizes -/
def IB (n : Nat) (x : Int) : Prop := x.natAbs < 2 ^ n
structure Bt (n : Nat) (q : Rat) : Prop where
  nu : IB n q.num
  de : q.den < 2 ^ n
theorem pow_mono {n m : Nat} (h : n ≤ m) : 2 ^ n ≤ 2 ^ m := Nat.pow_le_pow_right (by decide) h
theorem IB.mono {n m : Nat} {x : Int} (h : IB n x) (l : n ≤ m) : IB m x := Nat.lt_of_lt_of_le h (pow_mono l)
theorem IB.mul {n m : Nat} {x y : Int} (h : IB n x) (k : IB m y) : IB (n + m) (x * y) := by
  unfold IB at *
  rw [Int.natAbs_mul, Nat.pow_add]
  exact Nat.mul_lt_mul'' h k
theorem IB.add {n m : Nat} {x y : Int} (h : IB n x) (k : IB m y) : IB (n + m + 1) (x + y) := by
  unfold IB at *
  have h1 := pow_mono (show n ≤ n + m by omega)
  have h2 := pow_mono (show m ≤ n + m by omega)
  rw [Nat.pow_succ]
  have := Int.natAbs_add_le x y
  omega
theorem IB.addm {n : Nat} {x y : Int} (h : IB n x) (k : IB n y) : IB (n + 1) (x + y) := by
  unfold IB at *
  rw [Nat.pow_succ]
  have := Int.natAbs_add_le x y
  omega
theorem IB.neg {n : Nat} {x : Int} (h : IB n x) : IB n (-x) := by
  unfold IB at *
  rwa [Int.natAbs_neg]
theorem IB.sub {n : Nat} {x y : Int} (h : IB n x) (k : IB n y) : IB (n + 1) (x - y) := by
  rw [Int.sub_eq_add_neg]
  exact h.addm k.neg
theorem IB.le {n : Nat} {x y : Int} (h : IB n y) (k : x.natAbs ≤ y.natAbs) : IB n x := Nat.lt_of_le_of_lt k h
theorem Bt.mono {n m : Nat} {q : Rat} (h : Bt n q) (l : n ≤ m) : Bt m q := ⟨h.nu.mono l, Nat.lt_of_lt_of_le h.de (pow_mono l)⟩
theorem Bt.deI {n : Nat} {q : Rat} (h : Bt n q) : IB n (q.den : Int) := by
  unfold IB
  rw [Int.natAbs_natCast]
  exact h.de
theorem Bt.of_divInt {n : Nat} {x y : Int} (hy : y ≠ 0) (hx : IB n x) (hy2 : IB n y) : Bt n (Rat.divInt x y) := by
  constructor
  · rw [Rat.num_divInt]
    refine hx.le ?_
    refine Nat.le_trans (Int.natAbs_ediv_le_natAbs _ _) ?_
    rw [Int.natAbs_mul, Int.natAbs_sign_of_ne_zero hy, Nat.one_mul]
    exact Nat.le_refl _
  · rw [Rat.den_divInt, if_neg hy]
    exact Nat.lt_of_le_of_lt (Nat.div_le_self _ _) hy2
theorem den_ne (q : Rat) : (q.den : Int) ≠ 0 := by exact_mod_cast q.den_nz
theorem Bt.add {n m : Nat} {a b : Rat} (h : Bt n a) (k : Bt m b) : Bt (n + m + 1) (a + b) := by
  rw [← plus_eq]
  refine Bt.of_divInt (Int.mul_ne_zero (den_ne a) (den_ne b)) ?_ ?_
  · exact IB.addm (h.nu.mul k.deI) ((k.nu.mul h.deI).mono (by omega))
  · exact (h.deI.mul k.deI).mono (by omega)
theorem Bt.sub {n m : Nat} {a b : Rat} (h : Bt n a) (k : Bt m b) : Bt (n + m + 1) (a - b) := by
  rw [← less_eq]
  refine Bt.of_divInt (Int.mul_ne_zero (den_ne a) (den_ne b)) ?_ ?_
  · exact IB.sub (h.nu.mul k.deI) ((k.nu.mul h.deI).mono (by omega))
  · exact (h.deI.mul k.deI).mono (by omega)
theorem Bt.mul {n m : Nat} {a b : Rat} (h : Bt n a) (k : Bt m b) : Bt (n + m) (a * b) := by
  rw [← times_eq]
  exact Bt.of_divInt (Int.mul_ne_zero (den_ne a) (den_ne b)) (h.nu.mul k.nu) (h.deI.mul k.deI)
theorem num_ne {q : Rat} (h : q ≠ 0) : q.num ≠ 0 := fun z => h (Rat.num_eq_zero.mp z)
theorem Bt.div {n m : Nat} {a b : Rat} (h : Bt n a) (k : Bt m b) (hb : b ≠ 0) : Bt (n + m) (a / b) := by
  rw [← over_eq]
  exact Bt.of_divInt (Int.mul_ne_zero (den_ne a) (num_ne hb)) (h.nu.mul k.deI) (h.deI.mul k.nu)
theorem Bt.neg {n : Nat} {a : Rat} (h : Bt n a) : Bt n (-a) := ⟨by rw [Rat.neg_num]; exact h.nu.neg, by rw [Rat.neg_den]; exact h.de⟩
theorem Bt.int {n : Nat} {x : Int} (h : IB n x) (h0 : 0 < n) : Bt n (x : Rat) := ⟨by rw [Rat.num_intCast]; exact h, by rw [Rat.den_intCast]; exact Nat.one_lt_two_pow (by omega)⟩
theorem Bt.zero : Bt 1 0 := ⟨by unfold IB; decide, by decide⟩
theorem lt_dec (a b : Rat) : decide (a.num * (b.den : Int) < b.num * (a.den : Int)) = decide (a < b) := by
  rw [decide_eq_decide]
  exact (Rat.lt_iff a b).symm
theorem eq_of_nd {a b : Rat} (h1 : a.num = b.num) (h2 : (a.den : Int) = (b.den : Int)) : a = b := Rat.ext h1 (by exact_mod_cast h2)
end Rs
end

section
set_option linter.all false
set_option maxHeartbeats 1000000
/-! What the program reckons, over plain rationals. -/
namespace Rs
inductive Way | near | down | up | nought
  deriving DecidableEq
structure Rul where
  B : Int
  F : Int
  L : Int
  way : Way
structure VR (r : Rul) : Prop where
  b2 : 2 ≤ r.B
  b16 : r.B ≤ 16
  f1 : 1 ≤ r.F
  f3 : r.F ≤ 3
  l4 : -4 ≤ r.L
  l1 : r.L ≤ 1
def qabs (a : Rat) : Rat := if a < 0 then -a else a
def qmin (a b : Rat) : Rat := if b < a then b else a
def qmax (a b : Rat) : Rat := if a < b then b else a
def pw (r : Rul) (e : Int) : Rat := (r.B : Rat) ^ e
/-! ### places, rounding -/
def IsPlc (r : Rul) (q : Rat) (p : Int) : Prop := r.L ≤ p ∧ qabs q < pw r (p + r.F) ∧ (p = r.L ∨ pw r (p - 1 + r.F) ≤ qabs q)
open Classical in
noncomputable def plc (r : Rul) (q : Rat) : Int := if h : ∃ p, IsPlc r q p then choose h else 0
noncomputable def stp (r : Rul) (q : Rat) : Rat := pw r (plc r q)
/-- the whole number that a way tells of above / below -/
def wb (w : Way) (x y : Int) : Int :=
  x / y + (if (match w with
    | .near => decide (y < x % y * 2) || (decide (x % y * 2 = y) && decide (x / y % 2 = 1))
    | .nought => decide (x < 0) && decide (0 < x % y)
    | .up => decide (0 < x % y)
    | .down => false) = true then 1 else 0)
def wr (w : Way) (t : Rat) : Int := wb w t.num (t.den : Int)
noncomputable def rnd (r : Rul) (q : Rat) : Rat := (wr r.way (q / stp r q) : Rat) * stp r q
noncomputable def off (r : Rul) (q : Rat) : Rat := qabs (rnd r q - q)
/-- a whole multiple of a power -/
def mult (r : Rul) (q : Rat) (g : Int) : Prop := (q / pw r g).den = 1
instance (r : Rul) (q : Rat) (g : Int) : Decidable (mult r q g) := inferInstanceAs (Decidable (_ = _))
/-! ### spans -/
abbrev Span := Rat × Rat
def hasS (s : Span) (q : Rat) : Bool := !decide (q < s.1) && !decide (s.2 < q)
def spanStep (s : Span) (q : Rat) : Span := (qmin s.1 q, qmax s.2 q)
def spanOf (a : Rat) (l : List Rat) : Span := l.foldl spanStep (a, a)
def hullS (s t : Span) : Span := (qmin s.1 t.1, qmax s.2 t.2)
def plusS (s t : Span) : Span := (s.1 + t.1, s.2 + t.2)
def turnS (s : Span) : Span := (-s.2, -s.1)
def lessS (s t : Span) : Span := plusS s (turnS t)
def timesS (s t : Span) : Span := spanOf (s.1 * t.1) [s.1 * t.1, s.1 * t.2, s.2 * t.1, s.2 * t.2]
def overS (s t : Span) : Span := spanOf (s.1 / t.1) [s.1 / t.1, s.1 / t.2, s.2 / t.1, s.2 / t.2]
def greatSz (s : Span) : Rat := qmax (qabs s.1) (qabs s.2)
def smallSz (s : Span) : Rat := bif hasS s 0 then 0 else qmin (qabs s.1) (qabs s.2)
def sizeS (s : Span) : Span := (smallSz s, greatSz s)
def leastS (s t : Span) : Span := (qmin s.1 t.1, qmin s.2 t.2)
def mostS (s t : Span) : Span := (qmax s.1 t.1, qmax s.2 t.2)
def apartS (s t : Span) : Rat := qmax (s.2 - t.1) (t.2 - s.1)
/-! ### grains -/
def IsGr (r : Rul) (q : Rat) (g : Int) : Prop := plc r q ≤ g ∧ ¬ mult r q (g + 1) ∧ ∀ k, plc r q ≤ k → k < g → mult r q (k + 1)
open Classical in
noncomputable def grn (r : Rul) (q : Rat) : Int := if h : ∃ g, IsGr r q g then choose h else 0
noncomputable def gof (r : Rul) (q : Rat) : Option Int := if q = 0 then none else some (grn r q)
noncomputable def gsp (r : Rul) (lo hi : Rat) : Option Int := if lo = hi then gof r lo else bif hasS (lo, hi) 0 then some r.L else some (plc r (smallSz (lo, hi)))
def lessG : Option Int → Option Int → Option Int
  | none, o => o
  | some a, none => some a
  | some a, some b => some (if b < a then b else a)
def greatG : Option Int → Option Int → Option Int
  | none, o => o
  | some a, none => some a
  | some a, some b => some (if b > a then b else a)
def bothG : Option Int → Option Int → Option Int
  | some a, some b => some (a + b)
  | _, _ => none
def exactB (r : Rul) (s : Span) : Option Int → Bool
  | none => false
  | some g => bif decide (g < r.L) then false else !decide (pw r (g + r.F) < greatSz s)
noncomputable def slk (r : Rul) (s : Span) (g : Option Int) : Rat :=
  if s.1 = s.2 then off r s.1 else bif exactB r s g then 0 else if r.way = .near then (1 / 2 : Rat) * stp r (greatSz s) else stp r (greatSz s)
/-! ### entries -/
structure Ent where
  lo : Rat
  hi : Rat
  tlo : Rat
  thi : Rat
  err : Rat
  gr : Option Int
def Ent.rp (e : Ent) : Span := (e.lo, e.hi)
def Ent.tp (e : Ent) : Span := (e.tlo, e.thi)
noncomputable def lastE (r : Rul) (s t : Span) (err : Rat) (g : Option Int) : Ent :=
  ⟨s.1, s.2, t.1, t.2, qmin err (apartS s t), match gsp r s.1 s.2 with
    | none => none
    | some o => greatG (some o) g⟩
noncomputable def roundE (r : Rul) (s t : Span) (err : Rat) (g : Option Int) : Ent := lastE r (rnd r s.1, rnd r s.2) t (err + slk r s g) g
noncomputable def sumE (r : Rul) (isP : Bool) (x y : Ent) : Ent :=
  roundE r (bif isP then plusS x.rp y.rp else lessS x.rp y.rp) (bif isP then plusS x.tp y.tp else lessS x.tp y.tp) (x.err + y.err) (lessG x.gr y.gr)
noncomputable def prodE (r : Rul) (x y : Ent) : Ent :=
  roundE r (timesS x.rp y.rp) (timesS x.tp y.tp) (greatSz x.rp * y.err + greatSz y.tp * x.err) (bothG x.gr y.gr)
noncomputable def quotE (r : Rul) (x y : Ent) : Option Ent :=
  bif hasS y.rp 0 || hasS y.tp 0 then none else
    some (roundE r (overS x.rp y.rp) (overS x.tp y.tp) ((greatSz (overS x.rp y.rp) * y.err + x.err) / smallSz y.tp) none)
noncomputable def turnE (r : Rul) (x : Ent) : Ent := lastE r (turnS x.rp) (turnS x.tp) x.err x.gr
noncomputable def sizeE (r : Rul) (x : Ent) : Ent := lastE r (sizeS x.rp) (sizeS x.tp) x.err x.gr
noncomputable def chosE (r : Rul) (isL : Bool) (x y : Ent) : Ent :=
  lastE r (bif isL then leastS x.rp y.rp else mostS x.rp y.rp) (bif isL then leastS x.tp y.tp else mostS x.tp y.tp) (qmax x.err y.err) (lessG x.gr y.gr)
/-- which of two may be taken -/
def sidesS (s t : Span) : List Bool := bif decide (s.2 < t.1) then [false] else bif !decide (s.1 < t.2) then [true] else [false, true]
def selE (u v : Ent) (b : Bool) : Ent := bif b then v else u
def pickFar (same : Bool) (u v : Ent) (i j : Bool) : Rat := bif same || i == j then (selE u v i).err else apartS (selE u v i).rp (selE u v j).tp
def pickErr (same : Bool) (u v : Ent) (mine its : List Bool) : Rat := mine.foldl (fun e i => its.foldl (fun e j => qmax e (pickFar same u v i j)) e) 0
noncomputable def pickE (r : Rul) (same : Bool) (x y u v : Ent) : Ent :=
  let mine := sidesS x.rp y.rp
  let its := sidesS x.tp y.tp
  lastE r (hullS (selE u v (mine.headD false)).rp (selE u v (mine.getLastD false)).rp) (hullS (selE u v (its.headD false)).tp (selE u v (its.getLastD false)).tp)
    (pickErr same u v mine its) (lessG (selE u v (mine.headD false)).gr (selE u v (mine.getLastD false)).gr)
inductive Wk (α : Type) where
  | number (q : Rat)
  | sum (isP : Bool) (x y : α)
  | times (x y : α)
  | over (x y : α)
  | turned (x : α)
  | size (x : α)
  | chos (isL : Bool) (x y : α)
  | pick (x y u v : α)
section
variable {α : Type} [DecidableEq α]
noncomputable def entOf (r : Rul) (k : α → Ent) : Wk α → Option Ent
  | .number q => some (roundE r (q, q) (q, q) 0 none)
  | .sum p x y => some (sumE r p (k x) (k y))
  | .times x y => some (prodE r (k x) (k y))
  | .over x y => quotE r (k x) (k y)
  | .turned x => some (turnE r (k x))
  | .size x => some (sizeE r (k x))
  | .chos l x y => some (chosE r l (k x) (k y))
  | .pick x y u v => some (pickE r (decide (u = v)) (k x) (k y) (k u) (k v))
noncomputable def entMarks (r : Rul) (lo hi : Rat) : Ent := ⟨lo, hi, lo, hi, 0, gsp r lo hi⟩
/-- what a work comes to ahead of rounding -/
def exa (k : α → Rat) : Wk α → Option Rat
  | .number q => some q
  | .sum p x y => some (bif p then k x + k y else k x - k y)
  | .times x y => some (k x * k y)
  | .over x y => if k y = 0 then none else some (k x / k y)
  | .turned x => some (-(k x))
  | .size x => some (qabs (k x))
  | .chos l x y => some (bif l then qmin (k x) (k y) else qmax (k x) (k y))
  | .pick x y u v => some (if k x < k y then k u else k v)
def isRnd : Wk α → Bool
  | .number _ => true
  | .sum _ _ _ => true
  | .times _ _ => true
  | .over _ _ => true
  | _ => false
end
end Rs
end

section
set_option linter.all false
set_option maxHeartbeats 1000000
/-! Powers, places, sizes: plain rationals. -/
namespace Rs
theorem natCast_num (n : Nat) : ((n : Int) : Rat).num = (n : Int) := Rat.num_intCast _
theorem intCast_lt {a b : Int} : (a : Rat) < (b : Rat) ↔ a < b := Rat.intCast_lt_intCast
theorem intCast_le {a b : Int} : (a : Rat) ≤ (b : Rat) ↔ a ≤ b := Rat.intCast_le_intCast
/-! ### integer powers of a base -/
theorem zpow_nat (B : Int) (n : Nat) : (B : Rat) ^ (n : Int) = ((B ^ n : Int) : Rat) := by
  rw [Rat.zpow_natCast, Rat.intCast_pow]
theorem zpow_negnat (B : Int) (n : Nat) : (B : Rat) ^ (-(n : Int)) = ((B ^ n : Int) : Rat)⁻¹ := by
  rw [Rat.zpow_neg, zpow_nat]
theorem bpos {B : Int} (h : 2 ≤ B) : (0 : Rat) < (B : Rat) := by
  have : ((0 : Int) : Rat) < (B : Rat) := intCast_lt.mpr (by omega)
  simpa using this
theorem ipow_pos {B : Int} (h : 2 ≤ B) (n : Nat) : 0 < B ^ n := Int.pow_pos (by omega)
theorem zpow_pos {B : Int} (h : 2 ≤ B) (e : Int) : (0 : Rat) < (B : Rat) ^ e := Rat.zpow_pos (bpos h)
theorem inv_intCast {x : Int} (h : 0 < x) : ((x : Rat)⁻¹).num = 1 ∧ (((x : Rat)⁻¹).den : Int) = x := by
  constructor
  · rw [Rat.num_inv, Rat.num_intCast, Rat.den_intCast, Int.sign_eq_one_of_pos h]
    rfl
  · rw [Rat.den_inv, Rat.num_intCast, if_neg (by omega)]
    omega
theorem pow_nd {B : Int} (h : 2 ≤ B) (e : Int) : (0 ≤ e → ((B : Rat) ^ e).num = B ^ e.toNat ∧ ((B : Rat) ^ e).den = 1) ∧ (e < 0 → ((B : Rat) ^ e).num = 1 ∧ (((B : Rat) ^ e).den : Int) = B ^ (-e).toNat) := by
  constructor
  · intro he
    obtain ⟨n, rfl⟩ := Int.eq_ofNat_of_zero_le he
    rw [zpow_nat]
    exact ⟨by rw [Rat.num_intCast]; rfl, Rat.den_intCast _⟩
  · intro he
    obtain ⟨n, hn⟩ := Int.eq_ofNat_of_zero_le (show 0 ≤ -e by omega)
    have e1 : e = -(n : Int) := by omega
    subst e1
    rw [zpow_negnat, Int.neg_neg]
    exact inv_intCast (ipow_pos h n)
theorem ipow_IB {B : Int} (h : 2 ≤ B) (h16 : B ≤ 16) (n : Nat) : IB (4 * n + 1) (B ^ n) := by
  unfold IB
  rw [Int.natAbs_pow]
  have : B.natAbs ≤ 2 ^ 4 := by omega
  calc B.natAbs ^ n ≤ (2 ^ 4) ^ n := Nat.pow_le_pow_left this n
    _ = 2 ^ (4 * n) := by rw [Nat.pow_mul]
    _ < 2 ^ (4 * n + 1) := Nat.pow_lt_pow_right (by decide) (by omega)
theorem zpow_Bt {B : Int} (h : 2 ≤ B) (h16 : B ≤ 16) (e : Int) {m : Nat} (h1 : -(m : Int) ≤ e) (h2 : e ≤ m) : Bt (4 * m + 1) ((B : Rat) ^ e) := by
  obtain ⟨p1, p2⟩ := pow_nd h e
  by_cases he : 0 ≤ e
  · obtain ⟨q1, q2⟩ := p1 he
    refine ⟨?_, by rw [q2]; exact Nat.one_lt_two_pow (by omega)⟩
    rw [q1]
    exact (ipow_IB h h16 _).mono (by omega)
  · obtain ⟨q1, q2⟩ := p2 (by omega)
    refine ⟨?_, ?_⟩
    · rw [q1]
      exact Nat.one_lt_two_pow (by omega)
    · have z := ipow_IB h h16 (-e).toNat
      rw [← q2] at z
      unfold IB at z
      rw [Int.natAbs_natCast] at z
      exact Nat.lt_of_lt_of_le z (pow_mono (by omega))
theorem pw_Bt {r : Rul} (v : VR r) (e : Int) {m : Nat} (h1 : -(m : Int) ≤ e) (h2 : e ≤ m) : Bt (4 * m + 1) (pw r e) := zpow_Bt v.b2 v.b16 e h1 h2
theorem pw_pos {r : Rul} (v : VR r) (e : Int) : 0 < pw r e := zpow_pos v.b2 e
theorem pw_ne {r : Rul} (v : VR r) (e : Int) : pw r e ≠ 0 := fun h => by
  have := pw_pos v e
  rw [h] at this
  exact absurd this (by decide)
theorem bne {r : Rul} (v : VR r) : (r.B : Rat) ≠ 0 := fun h => by
  have := bpos v.b2
  rw [h] at this
  exact absurd this (by decide)
theorem pw_add {r : Rul} (v : VR r) (a b : Int) : pw r (a + b) = pw r a * pw r b := Rat.zpow_add (bne v) a b
theorem pw_zero (r : Rul) : pw r 0 = 1 := Rat.zpow_zero _
theorem pw_nat_ge {r : Rul} (v : VR r) (n : Nat) : 1 ≤ pw r n := by
  unfold pw
  rw [zpow_nat]
  have : ((1 : Int) : Rat) ≤ ((r.B ^ n : Int) : Rat) := intCast_le.mpr (by have := ipow_pos v.b2 n; omega)
  simpa using this
theorem pw_le {r : Rul} (v : VR r) {a b : Int} (h : a ≤ b) : pw r a ≤ pw r b := by
  obtain ⟨n, hn⟩ := Int.eq_ofNat_of_zero_le (show 0 ≤ b - a by omega)
  have e : b = a + n := by omega
  rw [e, pw_add v]
  have h1 := pw_nat_ge v n
  have h2 := pw_pos v a
  have : pw r a * 1 ≤ pw r a * pw r n := Rat.mul_le_mul_of_nonneg_left h1 (by grind)
  grind
theorem two_pow_le {r : Rul} (v : VR r) (n : Nat) : ((2 ^ n : Int) : Rat) ≤ pw r n := by
  unfold pw
  rw [zpow_nat]
  exact intCast_le.mpr (by
    have h := Nat.pow_le_pow_left (show 2 ≤ r.B.natAbs by have := v.b2; omega) n
    have e : (r.B ^ n) = ((r.B.natAbs ^ n : Nat) : Int) := by
      rw [Int.natCast_pow]
      have : (r.B.natAbs : Int) = r.B := by have := v.b2; omega
      rw [this]
    rw [e]
    exact_mod_cast h)
/-! ### sizes against values -/
theorem qabs_nn (q : Rat) : 0 ≤ qabs q := by
  unfold qabs
  split <;> grind
theorem num_neg_of {q : Rat} (h : q < 0) : q.num < 0 := by
  rcases Int.lt_or_le q.num 0 with z | z
  · exact z
  · exact absurd (Rat.num_nonneg.mp z) (by grind)
theorem qabs_nd (q : Rat) : (qabs q).num = (q.num.natAbs : Int) ∧ (qabs q).den = q.den := by
  unfold qabs
  by_cases h : q < 0
  · have hn := num_neg_of h
    rw [if_pos h, Rat.neg_num, Rat.neg_den]
    exact ⟨by omega, rfl⟩
  · rw [if_neg h]
    have hn : 0 ≤ q.num := Rat.num_nonneg.mpr (by grind)
    exact ⟨by omega, rfl⟩
theorem Bt.abs {n : Nat} {q : Rat} (h : Bt n q) : Bt n (qabs q) := by
  obtain ⟨h1, h2⟩ := qabs_nd q
  refine ⟨?_, by rw [h2]; exact h.de⟩
  rw [h1]
  unfold IB
  rw [Int.natAbs_natCast]
  exact h.nu
theorem Bt.lt {n : Nat} {q : Rat} (h : Bt n q) : qabs q < ((2 ^ n : Int) : Rat) := by
  obtain ⟨h1, h2⟩ := qabs_nd q
  rw [Rat.lt_iff, h1, h2, Rat.num_intCast, Rat.den_intCast]
  have hn : (q.num.natAbs : Int) < 2 ^ n := by
    have := h.nu
    unfold IB at this
    exact_mod_cast this
  have hd : (1 : Int) ≤ (q.den : Int) := by
    have := q.den_nz
    omega
  have hp : (0 : Int) ≤ 2 ^ n := Int.le_of_lt (Int.pow_pos (by decide))
  calc (q.num.natAbs : Int) * ((1 : Nat) : Int) = (q.num.natAbs : Int) := by omega
    _ < 2 ^ n := hn
    _ = 2 ^ n * 1 := by rw [Int.mul_one]
    _ ≤ 2 ^ n * (q.den : Int) := Int.mul_le_mul_of_nonneg_left hd hp
/-! ### places -/
theorem least {P : Nat → Prop} : ∀ n, P n → ∃ m, m ≤ n ∧ P m ∧ ∀ k, k < m → ¬ P k := by
  intro n
  induction n using Nat.strongRecOn with
  | ind n ih =>
    intro h
    by_cases c : ∃ k, k < n ∧ P k
    · obtain ⟨k, hk, pk⟩ := c
      obtain ⟨m, h1, h2, h3⟩ := ih k hk pk
      exact ⟨m, by omega, h2, h3⟩
    · exact ⟨n, Nat.le_refl _, h, fun k hk pk => c ⟨k, hk, pk⟩⟩
section
variable {r : Rul} (v : VR r) {q : Rat}
include v
theorem plc_ex (q : Rat) {n : Nat} (hq : qabs q < ((2 ^ n : Int) : Rat)) : ∃ p, IsPlc r q p ∧ p ≤ max r.L (n - r.F) := by
  have hb : qabs q < pw r (r.L + ((n + 10 : Nat) : Int) + r.F) := by
    have h1 := two_pow_le v n
    have h2 := pw_le v (show (n : Int) ≤ r.L + ((n + 10 : Nat) : Int) + r.F by have := v.l4; have := v.f1; omega)
    grind
  obtain ⟨m, hm, h1, h2⟩ := least (P := fun k => qabs q < pw r (r.L + (k : Int) + r.F)) (n + 10) hb
  refine ⟨r.L + m, ⟨by omega, h1, ?_⟩, ?_⟩
  · cases m with
    | zero => exact .inl (by omega)
    | succ k =>
      refine .inr ?_
      have z := h2 k (by omega)
      rw [show r.L + ((k + 1 : Nat) : Int) - 1 + r.F = r.L + (k : Int) + r.F by omega]
      grind
  · cases m with
    | zero => omega
    | succ k =>
      have z := h2 k (by omega)
      by_cases c : r.L + ((k + 1 : Nat) : Int) ≤ n - r.F
      · omega
      · exfalso
        refine z ?_
        have h3 := pw_le v (show (n : Int) ≤ r.L + (k : Int) + r.F by omega)
        have h4 := two_pow_le v n
        grind
theorem plc_uniq {p p' : Int} (h : IsPlc r q p) (h' : IsPlc r q p') : p = p' := by
  have key : ∀ {a b : Int}, IsPlc r q a → IsPlc r q b → ¬ a < b := by
    rintro a b ⟨a1, a2, a3⟩ ⟨b1, b2, b3⟩ lt
    rcases b3 with b3 | b3
    · omega
    · have := pw_le v (show a + r.F ≤ b - 1 + r.F by omega)
      grind
  have h1 := key h h'
  have h2 := key h' h
  omega
theorem q_bound (q : Rat) : Bt (q.num.natAbs + q.den + 1) q := by
  have h1 : ∀ n, n < 2 ^ n := fun n => Nat.lt_two_pow_self
  constructor
  · unfold IB
    exact Nat.lt_of_lt_of_le (h1 _) (pow_mono (by omega))
  · exact Nat.lt_of_lt_of_le (h1 _) (pow_mono (by omega))
theorem plc_spec (q : Rat) : IsPlc r q (plc r q) := by
  obtain ⟨p, hp, _⟩ := plc_ex v q (q_bound v q).lt
  have h : ∃ p, IsPlc r q p := ⟨p, hp⟩
  unfold plc
  rw [dif_pos h]
  exact Classical.choose_spec h
theorem plc_eq {p : Int} (h : IsPlc r q p) : plc r q = p := plc_uniq v (plc_spec v q) h
theorem plc_ge (q : Rat) : r.L ≤ plc r q := (plc_spec v q).1
theorem plc_le {n : Nat} (h : Bt n q) : plc r q ≤ max r.L (n - r.F) := by
  obtain ⟨p, hp, hl⟩ := plc_ex v q h.lt
  rw [plc_eq v hp]
  exact hl
theorem stp_pos (q : Rat) : 0 < stp r q := pw_pos v _
theorem stp_ne (q : Rat) : stp r q ≠ 0 := pw_ne v _
/-- steps are no greater than a size that isn't small -/
theorem stp_Bt {n : Nat} (h : Bt n q) (hn : 17 ≤ n) : Bt n (stp r q) := by
  unfold stp
  obtain ⟨h1, h2, h3⟩ := plc_spec v q
  have hl4 := v.l4
  have hl1 := v.l1
  have hf1 := v.f1
  rcases h3 with h3 | h3
  · rw [h3]
    exact (pw_Bt v r.L (m := 4) (by omega) (by omega)).mono hn
  · by_cases c : 0 ≤ plc r q
    · have hlt : pw r (plc r q) < ((2 ^ n : Int) : Rat) := by
        have a := pw_le v (show plc r q ≤ plc r q - 1 + r.F by omega)
        have b := h.lt
        grind
      obtain ⟨e1, e2⟩ := (pow_nd v.b2 (plc r q)).1 c
      unfold pw at hlt ⊢
      refine ⟨?_, by rw [e2]; exact Nat.one_lt_two_pow (by omega)⟩
      rw [Rat.lt_iff, e2, Rat.num_intCast, Rat.den_intCast] at hlt
      have hp : 0 < ((r.B : Rat) ^ plc r q).num := by rw [e1]; exact ipow_pos v.b2 _
      have h5 : ((r.B : Rat) ^ plc r q).num < 2 ^ n := by simpa using hlt
      unfold IB
      have h6 : (((r.B : Rat) ^ plc r q).num.natAbs : Int) < ((2 ^ n : Nat) : Int) := by
        rw [Int.natCast_pow, show ((2 : Nat) : Int) = 2 from rfl]
        omega
      exact_mod_cast h6
    · exact (pw_Bt v (plc r q) (m := 4) (by omega) (by omega)).mono hn
/-- enough is monotone: just from the place on -/
theorem enough_iff (q : Rat) {k : Int} (hk : r.L ≤ k) : qabs q < pw r (k + r.F) ↔ plc r q ≤ k := by
  obtain ⟨h1, h2, h3⟩ := plc_spec v q
  constructor
  · intro h
    rcases h3 with h3 | h3
    · omega
    · rcases Int.lt_or_le k (plc r q) with c | c
      · have := pw_le v (show k + r.F ≤ plc r q - 1 + r.F by omega)
        grind
      · exact c
  · intro h
    have := pw_le v (show plc r q + r.F ≤ k + r.F by omega)
    grind
theorem wb_floor (w : Way) (t : Rat) : t.floor ≤ wr w t ∧ wr w t ≤ t.floor + 1 := by
  unfold wr wb
  rw [Rat.floor_def]
  split <;> omega
theorem div_stp (q : Rat) : qabs (q / stp r q) < pw r r.F := by
  obtain ⟨h1, h2, h3⟩ := plc_spec v q
  have hs := stp_pos v q
  rw [pw_add v] at h2
  have e : q / stp r q * stp r q = q := Rat.div_mul_cancel (stp_ne v q)
  generalize q / stp r q = t at *
  have h2' : qabs q < stp r q * pw r r.F := h2
  generalize stp r q = s at *
  subst e
  have ht : qabs (t * s) = qabs t * s := by
    unfold qabs
    by_cases c : t < 0
    · have c2 : t * s < 0 := (Rat.mul_neg_iff_of_pos_right hs).mpr c
      rw [if_pos c, if_pos c2]
      grind
    · have c2 : ¬ t * s < 0 := fun z => c ((Rat.mul_neg_iff_of_pos_right hs).mp z)
      rw [if_neg c, if_neg c2]
  rw [ht, Rat.mul_comm s] at h2'
  exact Rat.lt_of_mul_lt_mul_right h2' (by grind)
theorem pwF_le : pw r r.F ≤ (4096 : Int) := by
  have h3 := v.f3
  have h1 := pw_le v h3
  have h2 : pw r 3 ≤ ((4096 : Int) : Rat) := by
    unfold pw
    rw [show (3 : Int) = ((3 : Nat) : Int) from rfl, zpow_nat]
    refine intCast_le.mpr ?_
    have b1 := v.b2
    have b2 := v.b16
    generalize r.B = B at *
    have : B = 2 ∨ B = 3 ∨ B = 4 ∨ B = 5 ∨ B = 6 ∨ B = 7 ∨ B = 8 ∨ B = 9 ∨ B = 10 ∨ B = 11 ∨ B = 12 ∨ B = 13 ∨ B = 14 ∨ B = 15 ∨ B = 16 := by omega
    rcases this with h | h | h | h | h | h | h | h | h | h | h | h | h | h | h <;> subst h <;> decide
  grind
theorem wr_IB (q : Rat) : IB 13 (wr r.way (q / stp r q)) := by
  obtain ⟨h1, h2⟩ := wb_floor v r.way (q / stp r q)
  have h3 := div_stp v q
  have h4 := pwF_le v
  generalize q / stp r q = t at *
  have a1 : t < ((4096 : Int) : Rat) ∧ ((-4096 : Int) : Rat) ≤ t := by
    unfold qabs at h3
    rw [show ((-4096 : Int) : Rat) = -((4096 : Int) : Rat) from Rat.intCast_neg 4096]
    split at h3 <;> constructor <;> grind
  have a2 : t.floor < 4096 := Rat.floor_lt_iff.mpr a1.1
  have a3 : -4096 ≤ t.floor := Rat.le_floor_iff.mpr a1.2
  unfold IB
  show _ < 8192
  omega
theorem rnd_Bt {n : Nat} (h : Bt n q) (hn : 17 ≤ n) : Bt (13 + n) (rnd r q) := (Bt.int (wr_IB v q) (by decide)).mul (stp_Bt v h hn)
theorem off_Bt {n : Nat} (h : Bt n q) (hn : 17 ≤ n) : Bt (13 + n + n + 1) (off r q) := ((rnd_Bt v h hn).sub h).abs
end
theorem Bt_qmin {n : Nat} {a b : Rat} (h : Bt n a) (k : Bt n b) : Bt n (qmin a b) := by
  unfold qmin
  split <;> assumption
theorem Bt_qmax {n : Nat} {a b : Rat} (h : Bt n a) (k : Bt n b) : Bt n (qmax a b) := by
  unfold qmax
  split <;> assumption
theorem hasS_ne {t : Span} (h : hasS t 0 = false) (hle : t.1 ≤ t.2) : t.1 ≠ 0 ∧ t.2 ≠ 0 := by
  unfold hasS at h
  rw [Bool.and_eq_false_iff, Bool.not_eq_false', Bool.not_eq_false', decide_eq_true_eq, decide_eq_true_eq] at h
  constructor
  · intro z
    rw [z] at h hle
    rcases h with h | h <;> grind
  · intro z
    rw [z] at h hle
    rcases h with h | h <;> grind
/-! ### multiples, grains -/
theorem den_one {t : Rat} (h : t.den = 1) : t = (t.num : Rat) := Rat.ext (by rw [Rat.num_intCast]) (by rw [Rat.den_intCast, h])
theorem mult_iff {r : Rul} (v : VR r) {q : Rat} {g : Int} : mult r q g ↔ ∃ k : Int, q = (k : Rat) * pw r g := by
  unfold mult
  constructor
  · intro h
    refine ⟨(q / pw r g).num, ?_⟩
    rw [← den_one h, Rat.div_mul_cancel (pw_ne v g)]
  · rintro ⟨k, hk⟩
    rw [hk, Rat.mul_div_cancel (pw_ne v g), Rat.den_intCast]
theorem pw_int {r : Rul} (v : VR r) (n : Nat) : ∃ k : Int, 0 < k ∧ pw r n = (k : Rat) := by
  refine ⟨r.B ^ n, ipow_pos v.b2 n, ?_⟩
  unfold pw
  exact zpow_nat _ _
theorem mult_le {r : Rul} (v : VR r) {q : Rat} {g g' : Int} (h : mult r q g) (l : g' ≤ g) : mult r q g' := by
  obtain ⟨k, rfl⟩ := (mult_iff v).mp h
  obtain ⟨n, hn⟩ := Int.eq_ofNat_of_zero_le (show 0 ≤ g - g' by omega)
  obtain ⟨m, _, hm⟩ := pw_int v n
  refine (mult_iff v).mpr ⟨k * m, ?_⟩
  rw [show g = n + g' by omega, pw_add v, hm, Rat.intCast_mul, Rat.mul_assoc]
theorem qabs_neg (a : Rat) : qabs (-a) = qabs a := by
  unfold qabs
  split <;> split <;> grind
theorem qabs_of_nn {a : Rat} (h : 0 ≤ a) : qabs a = a := by
  unfold qabs
  rw [if_neg (by grind)]
theorem qabs_mul_nn {a b : Rat} (ha : 0 ≤ a) (hb : 0 ≤ b) : qabs (a * b) = qabs a * qabs b := by
  rw [qabs_of_nn ha, qabs_of_nn hb, qabs_of_nn (Rat.mul_nonneg ha hb)]
theorem qabs_mul (a b : Rat) : qabs (a * b) = qabs a * qabs b := by
  rcases Rat.le_total (a := a) (b := 0) with ha | ha <;> rcases Rat.le_total (a := b) (b := 0) with hb | hb
  · rw [← qabs_neg a, ← qabs_neg b, ← qabs_mul_nn (by grind) (by grind)]
    congr 1
    grind
  · rw [← qabs_neg a, ← qabs_mul_nn (by grind) hb, ← qabs_neg (a * b)]
    congr 1
    grind
  · rw [← qabs_neg b, ← qabs_mul_nn ha (by grind), ← qabs_neg (a * b)]
    congr 1
    grind
  · exact qabs_mul_nn ha hb
theorem qabs_pos {a : Rat} (h : 0 < a) : qabs a = a := by
  unfold qabs
  rw [if_neg (by grind)]
theorem qabs_int_ge {k : Int} (h : k ≠ 0) : 1 ≤ qabs (k : Rat) := by
  unfold qabs
  have c1 : ((1 : Int) : Rat) = 1 := rfl
  by_cases c : k < 0
  · have h2 : (k : Rat) < ((0 : Int) : Rat) := intCast_lt.mpr c
    have h3 : (k : Rat) ≤ ((-1 : Int) : Rat) := intCast_le.mpr (by omega)
    rw [Rat.intCast_neg] at h3
    rw [if_pos (by simpa using h2)]
    grind
  · have h2 : ((1 : Int) : Rat) ≤ (k : Rat) := intCast_le.mpr (by omega)
    rw [if_neg (by grind)]
    grind
/-- a multiple but nought is no less in size -/
theorem mult_ge {r : Rul} (v : VR r) {q : Rat} {g : Int} (h : mult r q g) (h0 : q ≠ 0) : pw r g ≤ qabs q := by
  obtain ⟨k, rfl⟩ := (mult_iff v).mp h
  have hk : k ≠ 0 := fun z => h0 (by rw [z]; exact Rat.zero_mul _)
  rw [qabs_mul, qabs_pos (pw_pos v g)]
  have h1 := Rat.mul_le_mul_of_nonneg_right (qabs_int_ge hk) (show 0 ≤ pw r g by have := pw_pos v g; grind)
  grind
theorem mult_bd {r : Rul} (v : VR r) {q : Rat} {g : Int} {n : Nat} (h : mult r q g) (h0 : q ≠ 0) (hb : Bt n q) : g ≤ n := by
  rcases Int.lt_or_le (n : Int) g with c | c
  · exfalso
    have h1 := mult_ge v h h0
    have h2 := two_pow_le v n
    have h3 := pw_le v (show (n : Int) ≤ g by omega)
    have h4 := hb.lt
    grind
  · exact c
section
variable {r : Rul} (v : VR r) {q : Rat}
include v
theorem gr_ex (h0 : q ≠ 0) : ∃ g, IsGr r q g := by
  have hb := q_bound v q
  obtain ⟨k, hk, h1, h2⟩ := least (P := fun k => ¬ mult r q (plc r q + (k : Int) + 1)) ((q.num.natAbs + q.den + 1) + 10) (fun h => by
    have z := mult_bd v h h0 hb
    have := plc_ge v q
    have := v.l4
    omega)
  refine ⟨plc r q + k, by omega, h1, fun j hj hj2 => ?_⟩
  obtain ⟨m, hm⟩ := Int.eq_ofNat_of_zero_le (show 0 ≤ j - plc r q by omega)
  have z := h2 m (by omega)
  rw [show j + 1 = plc r q + (m : Int) + 1 by omega]
  exact Classical.not_not.mp z
theorem gr_uniq {a b : Int} (h : IsGr r q a) (h' : IsGr r q b) : a = b := by
  have key : ∀ {a b : Int}, IsGr r q a → IsGr r q b → ¬ a < b := by
    rintro a b ⟨a1, a2, a3⟩ ⟨b1, b2, b3⟩ lt
    exact a2 (b3 a a1 lt)
  have h1 := key h h'
  have h2 := key h' h
  omega
theorem grn_spec (h0 : q ≠ 0) : IsGr r q (grn r q) := by
  have h := gr_ex v h0
  unfold grn
  rw [dif_pos h]
  exact Classical.choose_spec h
theorem grn_eq {g : Int} (h0 : q ≠ 0) (h : IsGr r q g) : grn r q = g := gr_uniq v (grn_spec v h0) h
end
theorem Bt_great {n : Nat} {s : Span} (h : Bt n s.1) (k : Bt n s.2) : Bt n (greatSz s) := Bt_qmax h.abs k.abs
theorem Bt_small {n : Nat} {s : Span} (h : Bt n s.1) (k : Bt n s.2) (hn : 1 ≤ n) : Bt n (smallSz s) := by
  unfold smallSz
  cases hasS s 0
  · exact Bt_qmin h.abs k.abs
  · exact Bt.zero.mono hn
end Rs
end

section
set_option linter.all false
set_option maxHeartbeats 4000000
namespace Rs
/-! ### marks -/
section
variable {r : Rul} (v : VR r)
include v
theorem plc_le_of {q : Rat} {k : Int} (hk : r.L ≤ k) (h : qabs q < pw r (k + r.F)) : plc r q ≤ k := (enough_iff v q hk).mp h
theorem wr_int (w : Way) (k : Int) : wr w (k : Rat) = k := by
  unfold wr wb
  rw [Rat.num_intCast, Rat.den_intCast]
  have h1 : k / ((1 : Nat) : Int) = k := Int.ediv_one k
  have h2 : k % ((1 : Nat) : Int) = 0 := Int.emod_one k
  rw [h1, h2]
  cases w <;> simp
theorem rnd_mark {q : Rat} (h : mult r q (plc r q)) : rnd r q = q := by
  obtain ⟨k, hk⟩ := (mult_iff v).mp h
  unfold rnd
  have e : q / stp r q = (k : Rat) := by
    have : q = (k : Rat) * stp r q := hk
    have h2 : (k : Rat) * stp r q / stp r q = k := Rat.mul_div_cancel (stp_ne v q)
    rw [← this] at h2
    exact h2
  rw [e, wr_int v]
  exact hk.symm
theorem pw_lt {a b : Int} (h : a < b) : pw r a < pw r b := by
  have h1 := pw_le v (show a + 1 ≤ b by omega)
  have h2 := pw_add v a 1
  have h3 : pw r 1 = (r.B : Rat) := by
    unfold pw
    exact Rat.zpow_one _
  have h4 := pw_pos v a
  have h5 : (2 : Rat) ≤ (r.B : Rat) := by
    have := intCast_le.mpr v.b2
    simpa using this
  have h6 : pw r a * 2 ≤ pw r a * r.B := Rat.mul_le_mul_of_nonneg_left h5 (by grind)
  rw [h3] at h2
  grind
theorem plc_zero : plc r 0 = r.L := by
  have h : qabs 0 < pw r (r.L + r.F) := by
    have := pw_pos v (r.L + r.F)
    unfold qabs
    grind
  have h1 := plc_le_of v (Int.le_refl _) h
  have h2 := plc_ge v (0 : Rat)
  omega
/-- a mark no greater than so many doublings -/
structure IsBm (r : Rul) (n : Nat) (m : Rat) : Prop where
  isM : mult r m (plc r m)
  bd : qabs m ≤ ((2 ^ n : Int) : Rat) * pw r (r.L + 4 + r.F)
theorem mult_plc {q : Rat} {k : Int} (h : mult r q k) (hk : r.L ≤ k) (hq : qabs q < pw r (k + r.F)) : mult r q (plc r q) := mult_le v h (plc_le_of v hk hq)
theorem pwF_int : pw r r.F = ((r.B ^ r.F.toNat : Int) : Rat) := by
  have f1 := v.f1
  have : r.F = ((r.F.toNat : Nat) : Int) := by omega
  unfold pw
  conv => lhs; rw [this]
  exact zpow_nat _ _
theorem int_abs {k N : Int} (h1 : -N < k) (h2 : k < N) : qabs (k : Rat) < (N : Rat) := by
  have a := intCast_lt.mpr h2
  have b := intCast_lt.mpr h1
  rw [Rat.intCast_neg] at b
  unfold qabs
  split <;> grind
theorem abs_int {k N : Int} (h : qabs (k : Rat) < (N : Rat)) : -N < k ∧ k < N := by
  unfold qabs at h
  constructor
  · refine intCast_lt.mp ?_
    rw [Rat.intCast_neg]
    split at h <;> grind
  · refine intCast_lt.mp ?_
    split at h <;> grind
theorem bm_of {k e : Int} (h1 : -(r.B ^ r.F.toNat) < k) (h2 : k < r.B ^ r.F.toNat) (e0 : 0 ≤ e) (e4 : e ≤ 4) : IsBm r 0 ((k : Rat) * pw r (r.L + e)) := by
  have hq : qabs ((k : Rat) * pw r (r.L + e)) < pw r (r.L + e + r.F) := by
    rw [qabs_mul, qabs_pos (pw_pos v _), pw_add v (r.L + e), pwF_int v, Rat.mul_comm]
    exact Rat.mul_lt_mul_of_pos_left (int_abs v h1 h2) (pw_pos v _)
  refine ⟨mult_plc v ((mult_iff v).mpr ⟨k, rfl⟩) (by omega) hq, ?_⟩
  have := pw_le v (show r.L + e + r.F ≤ r.L + 4 + r.F by omega)
  have e1 : ((2 ^ 0 : Int) : Rat) = 1 := rfl
  rw [e1, Rat.one_mul]
  grind
theorem bm_next {n : Nat} {m : Rat} (h : IsBm r n m) : IsBm r (n + 1) (rnd r (m + stp r m)) ∧ m ≤ rnd r (m + stp r m) := by
  obtain ⟨k, hk⟩ := (mult_iff v).mp h.isM
  obtain ⟨p1, p2, p3⟩ := plc_spec v m
  have hs : pw r (plc r m) = stp r m := rfl
  have sp := stp_pos v m
  have f1 := v.f1
  rw [hs] at hk
  obtain ⟨N, hN⟩ : ∃ N, N = r.B ^ r.F.toNat := ⟨_, rfl⟩
  have hkN : -N < k ∧ k < N := by
    refine abs_int v ?_
    have e : qabs m = qabs (k : Rat) * stp r m := by
      conv => lhs; rw [hk]
      rw [qabs_mul, qabs_pos sp]
    rw [pw_add v, pwF_int v, ← hN, hs, e, Rat.mul_comm (stp r m)] at p2
    exact Rat.lt_of_mul_lt_mul_right p2 (by grind)
  have hN1 : 0 < N := by rw [hN]; exact ipow_pos v.b2 _
  have em : m + stp r m = ((k + 1 : Int) : Rat) * stp r m := by
    rw [Rat.intCast_add]
    have : ((1 : Int) : Rat) = 1 := rfl
    grind
  have hm' : mult r (m + stp r m) (plc r (m + stp r m)) := by
    by_cases c : k + 1 < N
    · refine mult_plc v (k := plc r m) ((mult_iff v).mpr ⟨k + 1, em⟩) p1 ?_
      rw [em, qabs_mul, qabs_pos sp, pw_add v, pwF_int v, ← hN, hs, Rat.mul_comm]
      exact Rat.mul_lt_mul_of_pos_left (int_abs v (by omega) c) sp
    · have ek : k + 1 = N := by omega
      have e2 : m + stp r m = pw r (plc r m + r.F) := by
        rw [em, ek, hN, ← pwF_int v, ← hs, ← pw_add v, Int.add_comm]
      have e3 : plc r m + r.F = ((r.F - 1).toNat : Int) + (plc r m + 1) := by omega
      obtain ⟨z, _, hz⟩ := pw_int v (r.F - 1).toNat
      refine mult_plc v (k := plc r m + 1) ((mult_iff v).mpr ⟨z, ?_⟩) (by omega) ?_
      · rw [e2, e3, pw_add v, hz]
      · rw [e2, qabs_pos (pw_pos v _)]
        exact pw_lt v (by omega)
  rw [rnd_mark v hm']
  refine ⟨⟨hm', ?_⟩, by grind⟩
  have hT := pw_pos v (r.L + 4 + r.F)
  have e2 : ((2 ^ (n + 1) : Int) : Rat) = 2 * ((2 ^ n : Int) : Rat) := by
    rw [Int.pow_succ, Int.mul_comm, Rat.intCast_mul]
    rfl
  have h2n : (1 : Rat) ≤ ((2 ^ n : Int) : Rat) := by
    have : (1 : Int) ≤ 2 ^ n := by have := Int.pow_pos (n := 2) (m := n) (by decide); omega
    exact intCast_le.mpr this
  have hb := h.bd
  by_cases c : m = 0
  · have e4 : stp r m = pw r r.L := by
      unfold stp
      rw [c, plc_zero v]
    have e5 : qabs (m + stp r m) = pw r r.L := by
      rw [e4, c, Rat.zero_add, qabs_pos (pw_pos v _)]
    have h3 := pw_le v (show r.L ≤ r.L + 4 + r.F by omega)
    have h4 : 1 * pw r (r.L + 4 + r.F) ≤ ((2 ^ n : Int) : Rat) * pw r (r.L + 4 + r.F) := Rat.mul_le_mul_of_nonneg_right h2n (by grind)
    rw [e5, e2, Rat.mul_assoc]
    grind
  · have h3 := mult_ge v h.isM c
    rw [hs] at h3
    have h4 : qabs (m + stp r m) ≤ qabs m + stp r m := by
      unfold qabs
      split <;> split <;> grind
    rw [e2, Rat.mul_assoc]
    grind
theorem ipow_mono {B C : Int} (h0 : 0 ≤ B) (h : B ≤ C) : ∀ n : Nat, 0 ≤ B ^ n ∧ B ^ n ≤ C ^ n
  | 0 => by simp
  | n + 1 => by
    obtain ⟨h1, h2⟩ := ipow_mono h0 h n
    rw [Int.pow_succ, Int.pow_succ]
    exact ⟨Int.mul_nonneg h1 h0, Int.mul_le_mul h2 h h0 (by omega)⟩
theorem pw_le16 {n : Nat} : pw r n ≤ ((16 ^ n : Int) : Rat) := by
  unfold pw
  rw [zpow_nat]
  have b2 := v.b2
  exact intCast_le.mpr (ipow_mono v (by omega) v.b16 n).2
/-- a multiple of a power that isn't too low has a small denominator -/
theorem mult_den {q : Rat} {g : Int} (h : mult r q g) (hg : -4 ≤ g) : q.den ≤ 2 ^ 16 := by
  have h4 := mult_le v h hg
  obtain ⟨k, hk⟩ := (mult_iff v).mp h4
  obtain ⟨e1, e2⟩ := (pow_nd v.b2 (-4)).2 (by decide)
  have ek : (k : Rat) * pw r (-4) = Rat.divInt (k * 1) (1 * ((pw r (-4)).den : Int)) := by
    rw [← times_eq]
    unfold pw
    rw [Rat.num_intCast, Rat.den_intCast, e1]
    rfl
  have hden : ((pw r (-4)).den : Int) = r.B ^ 4 := e2
  have hB := ipow_pos v.b2 4
  rw [hk, ek, hden, Rat.den_divInt, if_neg (by omega)]
  refine Nat.le_trans (Nat.div_le_self _ _) ?_
  have := (ipow_mono v (show 0 ≤ r.B by have := v.b2; omega) v.b16 4).2
  have e16 : (16 : Int) ^ 4 = 65536 := by decide
  omega
theorem bm_Bt {n : Nat} {m : Rat} (h : IsBm r n m) (hn : n ≤ 5) : Bt 38 m ∧ m.den ≤ 2 ^ 16 := by
  have p1 := plc_ge v m
  have l4 := v.l4
  have l1 := v.l1
  have f3 := v.f3
  have f1 := v.f1
  have hd := mult_den v h.isM (by omega)
  refine ⟨⟨?_, Nat.lt_of_le_of_lt hd (by decide)⟩, hd⟩
  have hL := mult_le v h.isM p1
  have hb := h.bd
  have h25 : ((2 ^ n : Int) : Rat) ≤ ((32 : Int) : Rat) := by
    refine intCast_le.mpr ?_
    have : (2 : Int) ^ n ≤ 2 ^ 5 := by
      have := pow_mono hn
      exact_mod_cast this
    exact this
  by_cases c : 0 ≤ r.L
  · have h0 := mult_le v hL c
    obtain ⟨k, hk⟩ := (mult_iff v).mp h0
    rw [pw_zero, Rat.mul_one] at hk
    have hT : pw r (r.L + 4 + r.F) ≤ ((16 ^ 8 : Int) : Rat) := by
      have a := pw_le v (show r.L + 4 + r.F ≤ ((8 : Nat) : Int) by omega)
      have b := pw_le16 v (n := 8)
      grind
    have hT0 := pw_pos v (r.L + 4 + r.F)
    have h5 : qabs (k : Rat) ≤ ((32 * 16 ^ 8 : Int) : Rat) := by
      rw [← hk, Rat.intCast_mul]
      have a : ((2 ^ n : Int) : Rat) * pw r (r.L + 4 + r.F) ≤ ((32 : Int) : Rat) * pw r (r.L + 4 + r.F) := Rat.mul_le_mul_of_nonneg_right h25 (by grind)
      have b : ((32 : Int) : Rat) * pw r (r.L + 4 + r.F) ≤ ((32 : Int) : Rat) * ((16 ^ 8 : Int) : Rat) := Rat.mul_le_mul_of_nonneg_left hT (by decide)
      grind
    rw [hk, Rat.num_intCast]
    have h6 : qabs (k : Rat) < ((32 * 16 ^ 8 + 1 : Int) : Rat) := by
      have := intCast_lt.mpr (show (32 * 16 ^ 8 : Int) < 32 * 16 ^ 8 + 1 by omega)
      grind
    obtain ⟨z1, z2⟩ := abs_int v h6
    unfold IB
    have e8 : (32 * 16 ^ 8 + 1 : Int) = 137438953473 := by decide
    omega
  · obtain ⟨k, hk⟩ := (mult_iff v).mp hL
    have hp := pw_pos v r.L
    have h5 : qabs (k : Rat) ≤ ((32 * 16 ^ 7 : Int) : Rat) := by
      have e : qabs m = qabs (k : Rat) * pw r r.L := by
        conv => lhs; rw [hk]
        rw [qabs_mul, qabs_pos hp]
      have eT : pw r (r.L + 4 + r.F) = pw r (4 + r.F) * pw r r.L := by
        rw [← pw_add v]
        congr 1
        omega
      have hT : pw r (4 + r.F) ≤ ((16 ^ 7 : Int) : Rat) := by
        have a := pw_le v (show 4 + r.F ≤ ((7 : Nat) : Int) by omega)
        have b := pw_le16 v (n := 7)
        grind
      have hT0 := pw_pos v (4 + r.F)
      rw [e, eT, ← Rat.mul_assoc] at hb
      have h7 := Rat.le_of_mul_le_mul_right hb hp
      rw [Rat.intCast_mul]
      have a : ((2 ^ n : Int) : Rat) * pw r (4 + r.F) ≤ ((32 : Int) : Rat) * pw r (4 + r.F) := Rat.mul_le_mul_of_nonneg_right h25 (by grind)
      have b : ((32 : Int) : Rat) * pw r (4 + r.F) ≤ ((32 : Int) : Rat) * ((16 ^ 7 : Int) : Rat) := Rat.mul_le_mul_of_nonneg_left hT (by decide)
      grind
    have h6 : qabs (k : Rat) < ((32 * 16 ^ 7 + 1 : Int) : Rat) := by
      have := intCast_lt.mpr (show (32 * 16 ^ 7 : Int) < 32 * 16 ^ 7 + 1 by omega)
      grind
    obtain ⟨z1, z2⟩ := abs_int v h6
    have kI : IB 38 k := by
      unfold IB
      have e8 : (32 * 16 ^ 7 + 1 : Int) = 8589934593 := by decide
      omega
    obtain ⟨e1, e2⟩ := (pow_nd v.b2 r.L).2 (by omega)
    have ek : (k : Rat) * pw r r.L = Rat.divInt (k * 1) (1 * ((pw r r.L).den : Int)) := by
      rw [← times_eq]
      unfold pw
      rw [Rat.num_intCast, Rat.den_intCast, e1]
      rfl
    rw [hk, ek, Rat.num_divInt]
    refine kI.le ?_
    refine Nat.le_trans (Int.natAbs_ediv_le_natAbs _ _) ?_
    rw [Int.natAbs_mul, Int.mul_one]
    have : (Int.sign (1 * ((pw r r.L).den : Int))).natAbs ≤ 1 := by
      rw [Int.natAbs_sign]
      split <;> omega
    have := Nat.mul_le_mul_right k.natAbs this
    omega
end
end Rs
end

section
set_option linter.all false
set_option maxHeartbeats 4000000
namespace Rs
/-! ### rounding -/
theorem floor_mono {a b : Rat} (h : a ≤ b) : a.floor ≤ b.floor := by
  refine Rat.le_floor_iff.mpr ?_
  have := Rat.floor_le a
  grind
theorem lt_floor_one (a : Rat) : a < (a.floor : Rat) + 1 := by
  have := @Rat.lt_floor a
  grind
def frc (t : Rat) : Rat := t - (t.floor : Rat)
theorem div_le_iffR {a b c : Rat} (h : 0 < b) : a / b ≤ c ↔ a ≤ c * b := by
  have := Rat.lt_div_iff (a := c) (b := a) h
  constructor <;> intro k
  · by_cases z : c * b < a
    · have := this.mpr z
      grind
    · grind
  · by_cases z : c < a / b
    · have := this.mp z
      grind
    · grind
theorem le_div_iffR {a b c : Rat} (h : 0 < b) : c ≤ a / b ↔ c * b ≤ a := by
  have := Rat.div_lt_iff (a := a) (c := c) h
  constructor <;> intro k
  · by_cases z : a < c * b
    · have := this.mpr z
      grind
    · grind
  · by_cases z : a / b < c
    · have := this.mp z
      grind
    · grind
theorem mul_denR (t : Rat) : t * ((t.den : Int) : Rat) = (t.num : Rat) := by
  have ne : ((t.den : Int) : Rat) ≠ 0 := fun h => den_ne t (Rat.intCast_inj.mp (by rw [h]; rfl))
  have h : Rat.divInt t.num (t.den : Int) = (t.num : Rat) / ((t.den : Int) : Rat) := Rat.divInt_eq_div _ _
  have h2 : t = (t.num : Rat) / ((t.den : Int) : Rat) := (divInt_q t).symm.trans h
  have h3 := Rat.div_mul_cancel (a := (t.num : Rat)) ne
  rw [← h2] at h3
  exact h3
theorem frc_nn (t : Rat) : 0 ≤ frc t := by
  have := Rat.floor_le t
  unfold frc
  grind
theorem frc_lt (t : Rat) : frc t < 1 := by
  have := lt_floor_one t
  unfold frc
  grind
theorem mod_frc (t : Rat) : ((t.num % (t.den : Int) : Int) : Rat) = frc t * ((t.den : Int) : Rat) := by
  have h1 := Int.emod_add_mul_ediv t.num (t.den : Int)
  have h2 : t * ((t.den : Int) : Rat) = (t.num : Rat) := mul_denR t
  have h3 : t.floor = t.num / (t.den : Int) := Rat.floor_def t
  have h4 : (t.num : Rat) = ((t.num % (t.den : Int) : Int) : Rat) + ((t.den : Int) : Rat) * (t.floor : Rat) := by
    rw [h3, ← Rat.intCast_mul, ← Rat.intCast_add, h1]
  unfold frc
  grind
theorem den_posR (t : Rat) : (0 : Rat) < ((t.den : Int) : Rat) := by
  have : (0 : Int) < (t.den : Int) := by exact_mod_cast t.den_pos
  exact intCast_lt.mpr this
def upC (w : Way) (t : Rat) : Prop := match w with
  | .near => 1 < frc t * 2 ∨ (frc t * 2 = 1 ∧ t.floor % 2 = 1)
  | .nought => t < 0 ∧ 0 < frc t
  | .up => 0 < frc t
  | .down => False
theorem two_frc (t : Rat) : ((t.num % (t.den : Int) * 2 : Int) : Rat) = frc t * 2 * ((t.den : Int) : Rat) := by
  rw [Rat.intCast_mul, mod_frc]
  have : ((2 : Int) : Rat) = 2 := rfl
  grind
theorem pos_frc (t : Rat) : 0 < t.num % (t.den : Int) ↔ 0 < frc t := by
  have d := den_posR t
  rw [← intCast_lt, mod_frc]
  have : ((0 : Int) : Rat) = 0 := rfl
  rw [this]
  constructor
  · intro h
    by_cases c : 0 < frc t
    · exact c
    · have : frc t = 0 := by
        have := frc_nn t
        grind
      rw [this] at h
      grind
  · intro h
    exact Rat.mul_pos h d
theorem half_lt (t : Rat) : (t.den : Int) < t.num % (t.den : Int) * 2 ↔ 1 < frc t * 2 := by
  have d := den_posR t
  rw [← intCast_lt, two_frc]
  constructor
  · intro h
    refine Rat.lt_of_mul_lt_mul_right (c := ((t.den : Int) : Rat)) ?_ (by grind)
    grind
  · intro h
    have := Rat.mul_lt_mul_of_pos_right h d
    grind
theorem half_eq (t : Rat) : t.num % (t.den : Int) * 2 = (t.den : Int) ↔ frc t * 2 = 1 := by
  have d := den_posR t
  constructor
  · intro h
    have h2 := two_frc t
    rw [h] at h2
    have h3 : frc t * 2 * ((t.den : Int) : Rat) = 1 * ((t.den : Int) : Rat) := by grind
    have ne : ((t.den : Int) : Rat) ≠ 0 := by grind
    have := congrArg (fun z => z / ((t.den : Int) : Rat)) h3
    simp only [Rat.mul_div_cancel ne] at this
    exact this
  · intro h
    refine Rat.intCast_inj.mp ?_
    rw [two_frc, h]
    grind
open Classical in
theorem wr_eq (w : Way) (t : Rat) : wr w t = t.floor + (if upC w t then 1 else 0) := by
  unfold wr wb
  rw [← Rat.floor_def]
  congr 1
  have num_neg : t.num < 0 ↔ t < 0 := ⟨fun h => by
    have := Rat.num_nonneg (q := t)
    by_cases z : 0 ≤ t
    · have := this.mpr z
      omega
    · grind, num_neg_of⟩
  cases w with
  | near =>
    by_cases c : upC .near t
    · rw [if_pos c, if_pos]
      rcases c with c | ⟨c, e⟩
      · simp [(half_lt t).mpr c]
      · simp [(half_eq t).mpr c, e]
    · rw [if_neg c, if_neg]
      intro h
      refine c ?_
      simp only [Bool.or_eq_true, Bool.and_eq_true, decide_eq_true_eq] at h
      rcases h with h | ⟨h, e⟩
      · exact .inl ((half_lt t).mp h)
      · exact .inr ⟨(half_eq t).mp h, e⟩
  | nought =>
    by_cases c : upC .nought t
    · rw [if_pos c, if_pos]
      obtain ⟨a, b⟩ := c
      simp [num_neg.mpr a, (pos_frc t).mpr b]
    · rw [if_neg c, if_neg]
      intro h
      simp only [Bool.and_eq_true, decide_eq_true_eq] at h
      exact c ⟨num_neg.mp h.1, (pos_frc t).mp h.2⟩
  | up =>
    by_cases c : upC .up t
    · rw [if_pos c, if_pos]
      simpa using (pos_frc t).mpr c
    · rw [if_neg c, if_neg]
      intro h
      exact c ((pos_frc t).mp (by simpa using h))
  | down =>
    rw [if_neg (by simp), if_neg (by simp [upC])]
theorem wr_mono (w : Way) {s t : Rat} (h : s ≤ t) : wr w s ≤ wr w t := by
  have hf := floor_mono h
  rw [wr_eq, wr_eq]
  by_cases c : s.floor = t.floor
  · have hfr : frc s ≤ frc t := by
      unfold frc
      rw [c]
      grind
    have : upC w s → upC w t := by
      intro hs
      cases w with
      | near =>
        rcases hs with a | ⟨a, b⟩
        · exact .inl (by grind)
        · by_cases z : frc t * 2 = 1
          · exact .inr ⟨z, c ▸ b⟩
          · exact .inl (by grind)
      | nought =>
        obtain ⟨a, b⟩ := hs
        refine ⟨?_, by grind⟩
        have h1 := lt_floor_one t
        have h2 : s.floor < 0 := by
          refine intCast_lt.mp ?_
          have := Rat.floor_le s
          have : ((0 : Int) : Rat) = 0 := rfl
          grind
        have h3 : ((t.floor + 1 : Int) : Rat) ≤ ((0 : Int) : Rat) := intCast_le.mpr (by omega)
        rw [Rat.intCast_add] at h3
        have : ((0 : Int) : Rat) = 0 := rfl
        have : ((1 : Int) : Rat) = 1 := rfl
        grind
      | up => exact (show 0 < frc t by have : 0 < frc s := hs; grind)
      | down => exact hs
    by_cases z : upC w s
    · rw [if_pos z, if_pos (this z)]
      omega
    · rw [if_neg z]
      split <;> omega
  · split <;> split <;> omega
theorem wr_off (w : Way) (t : Rat) : qabs ((wr w t : Rat) - t) ≤ 1 ∧ (w = .near → qabs ((wr w t : Rat) - t) ≤ 1 / 2) := by
  have h0 := frc_nn t
  have h1 := frc_lt t
  have e1 : ((1 : Int) : Rat) = 1 := rfl
  have e0 : ((0 : Int) : Rat) = 0 := rfl
  rw [wr_eq]
  by_cases c : upC w t
  · rw [if_pos c, Rat.intCast_add, e1]
    have : (t.floor : Rat) + 1 - t = 1 - frc t := by unfold frc; grind
    rw [this, qabs_of_nn (by grind)]
    refine ⟨by grind, fun hw => ?_⟩
    subst hw
    rcases c with c | ⟨c, _⟩ <;> grind
  · rw [if_neg c, Rat.intCast_add, e0]
    have : (t.floor : Rat) + 0 - t = -frc t := by unfold frc; grind
    rw [this, qabs_neg, qabs_of_nn h0]
    refine ⟨by grind, fun hw => ?_⟩
    subst hw
    by_cases z : 1 < frc t * 2
    · exact absurd (.inl z) c
    · grind
theorem wr_le_int (w : Way) {t : Rat} {N : Int} (h : t ≤ (N : Rat)) : wr w t ≤ N := by
  have h1 := wr_mono w h
  have h2 : wr w (N : Rat) = N := by
    rw [wr_eq]
    have hf : (N : Rat).floor = N := Rat.floor_intCast N
    have hz : frc (N : Rat) = 0 := by
      unfold frc
      rw [hf]
      grind
    rw [if_neg, hf, Int.add_zero]
    cases w with
    | near =>
      intro h
      unfold upC at h
      rw [hz] at h
      grind
    | nought =>
      intro h
      have := h.2
      rw [hz] at this
      grind
    | up =>
      intro h
      have : 0 < frc (N : Rat) := h
      rw [hz] at this
      grind
    | down => exact id
  omega
theorem int_le_wr (w : Way) {t : Rat} {N : Int} (h : (N : Rat) ≤ t) : N ≤ wr w t := by
  have h1 : N ≤ t.floor := Rat.le_floor_iff.mpr h
  rw [wr_eq]
  split <;> omega
section
variable {r : Rul} (v : VR r)
include v
theorem plc_mono {a b : Rat} (h : qabs a ≤ qabs b) : plc r a ≤ plc r b := by
  obtain ⟨h1, h2, _⟩ := plc_spec v b
  exact plc_le_of v h1 (by grind)
theorem stp_mono {a b : Rat} (h : qabs a ≤ qabs b) : stp r a ≤ stp r b := pw_le v (plc_mono v h)
theorem rnd_le {q m : Rat} (hm : mult r m (plc r q)) (h : q ≤ m) : rnd r q ≤ m := by
  obtain ⟨k, hk⟩ := (mult_iff v).mp hm
  have sp := stp_pos v q
  have hk' : m = (k : Rat) * stp r q := hk
  have h1 : q / stp r q ≤ (k : Rat) := (div_le_iffR sp).mpr (by rw [← hk']; exact h)
  have h2 := intCast_le.mpr (wr_le_int r.way h1)
  unfold rnd
  rw [hk']
  exact Rat.mul_le_mul_of_nonneg_right h2 (by grind)
theorem le_rnd {q m : Rat} (hm : mult r m (plc r q)) (h : m ≤ q) : m ≤ rnd r q := by
  obtain ⟨k, hk⟩ := (mult_iff v).mp hm
  have sp := stp_pos v q
  have hk' : m = (k : Rat) * stp r q := hk
  have h1 : (k : Rat) ≤ q / stp r q := (le_div_iffR sp).mpr (by rw [← hk']; exact h)
  have h2 := intCast_le.mpr (int_le_wr r.way h1)
  unfold rnd
  rw [hk']
  exact Rat.mul_le_mul_of_nonneg_right h2 (by grind)
theorem mult_pw {a b : Int} (h : b ≤ a) : mult r (pw r a) b := by
  refine mult_le v ((mult_iff v).mpr ⟨1, ?_⟩) h
  have e1 : ((1 : Int) : Rat) = 1 := rfl
  rw [e1, Rat.one_mul]
theorem mult_neg {q : Rat} {g : Int} (h : mult r q g) : mult r (-q) g := by
  obtain ⟨k, hk⟩ := (mult_iff v).mp h
  refine (mult_iff v).mpr ⟨-k, ?_⟩
  rw [hk, Rat.intCast_neg]
  grind
theorem mult_add {p q : Rat} {g : Int} (h : mult r p g) (h' : mult r q g) : mult r (p + q) g := by
  obtain ⟨k, hk⟩ := (mult_iff v).mp h
  obtain ⟨l, hl⟩ := (mult_iff v).mp h'
  refine (mult_iff v).mpr ⟨k + l, ?_⟩
  rw [hk, hl, Rat.intCast_add]
  grind
theorem mult_mul {p q : Rat} {g g' : Int} (h : mult r p g) (h' : mult r q g') : mult r (p * q) (g + g') := by
  obtain ⟨k, hk⟩ := (mult_iff v).mp h
  obtain ⟨l, hl⟩ := (mult_iff v).mp h'
  refine (mult_iff v).mpr ⟨k * l, ?_⟩
  rw [hk, hl, Rat.intCast_mul, pw_add v]
  grind
theorem mult_zero {g : Int} : mult r 0 g := (mult_iff v).mpr ⟨0, by
  have e1 : ((0 : Int) : Rat) = 0 := rfl
  rw [e1]
  grind⟩
theorem mult_abs {q : Rat} {g : Int} (h : mult r q g) : mult r (qabs q) g := by
  unfold qabs
  split
  · exact mult_neg v h
  · exact h
theorem qabs_le {a b : Rat} : qabs a ≤ b ↔ -b ≤ a ∧ a ≤ b := by
  unfold qabs
  split <;> constructor <;> intro h <;> grind
theorem qabs_lt {a b : Rat} : qabs a < b ↔ -b < a ∧ a < b := by
  unfold qabs
  split <;> constructor <;> intro h <;> grind
/-- rounding goes no further than the end of the row of marks -/
theorem rnd_abs_le (q : Rat) : qabs (rnd r q) ≤ pw r (plc r q + r.F) := by
  obtain ⟨h1, h2, _⟩ := plc_spec v q
  have f1 := v.f1
  have hm : mult r (pw r (plc r q + r.F)) (plc r q) := mult_pw v (by omega)
  obtain ⟨a, b⟩ := (qabs_lt v).mp h2
  refine (qabs_le v).mpr ⟨le_rnd v (mult_neg v hm) (by grind), rnd_le v hm (by grind)⟩
theorem rnd_mono {a b : Rat} (h : a ≤ b) : rnd r a ≤ rnd r b := by
  obtain ⟨a1, a2, a3⟩ := plc_spec v a
  obtain ⟨b1, b2, b3⟩ := plc_spec v b
  have f1 := v.f1
  obtain ⟨a4, a5⟩ := (qabs_lt v).mp a2
  obtain ⟨b4, b5⟩ := (qabs_lt v).mp b2
  rcases Int.lt_trichotomy (plc r a) (plc r b) with c | c | c
  · have hM := pw_le v (show plc r a + r.F ≤ plc r b - 1 + r.F by omega)
    have hb : pw r (plc r b - 1 + r.F) ≤ qabs b := by
      rcases b3 with z | z
      · omega
      · exact z
    have hb2 : pw r (plc r b - 1 + r.F) ≤ b := by
      unfold qabs at hb
      split at hb
      · unfold qabs at a2
        split at a2 <;> grind
      · exact hb
    have h1 := le_rnd v (mult_pw v (by omega)) hb2
    have h2 := (qabs_le v).mp (rnd_abs_le v a)
    grind
  · have e : stp r a = stp r b := by
      unfold stp
      rw [c]
    have sp := stp_pos v b
    unfold rnd
    rw [e]
    refine Rat.mul_le_mul_of_nonneg_right (intCast_le.mpr (wr_mono _ ?_)) (by grind)
    rw [div_le_iffR sp, Rat.div_mul_cancel (by grind)]
    exact h
  · have hM := pw_le v (show plc r b + r.F ≤ plc r a - 1 + r.F by omega)
    have ha : pw r (plc r a - 1 + r.F) ≤ qabs a := by
      rcases a3 with z | z
      · omega
      · exact z
    have ha2 : a ≤ -pw r (plc r a - 1 + r.F) := by
      unfold qabs at ha
      split at ha
      · grind
      · unfold qabs at b2
        split at b2 <;> grind
    have h1 := rnd_le v (mult_neg v (mult_pw v (by omega))) ha2
    have h2 := (qabs_le v).mp (rnd_abs_le v b)
    grind
theorem rnd_mult (q : Rat) : mult r (rnd r q) (plc r q) := (mult_iff v).mpr ⟨_, rfl⟩
/-- what rounding hands back is a mark -/
theorem rnd_isM (q : Rat) : mult r (rnd r q) (plc r (rnd r q)) := by
  have p1 := plc_ge v q
  have f1 := v.f1
  by_cases c : qabs (rnd r q) < pw r (plc r q + r.F)
  · exact mult_plc v (rnd_mult v q) p1 c
  · have e : qabs (rnd r q) = pw r (plc r q + r.F) := by
      have := rnd_abs_le v q
      grind
    refine mult_plc v (k := plc r q + 1) ?_ (by omega) ?_
    · have hm : mult r (pw r (plc r q + r.F)) (plc r q + 1) := mult_pw v (by omega)
      rw [← e] at hm
      unfold qabs at hm
      split at hm
      · have := mult_neg v hm
        rwa [Rat.neg_neg] at this
      · exact hm
    · rw [e]
      exact pw_lt v (by omega)
theorem rnd_keeps {q : Rat} {g : Int} (h : mult r q g) : mult r (rnd r q) g := by
  by_cases c : plc r q ≤ g
  · rw [rnd_mark v (mult_le v h c)]
    exact h
  · exact mult_le v (rnd_mult v q) (by omega)
theorem rnd_off (q : Rat) : qabs (rnd r q - q) ≤ stp r q ∧ (r.way = .near → qabs (rnd r q - q) ≤ 1 / 2 * stp r q) := by
  have sp := stp_pos v q
  have e : rnd r q - q = ((wr r.way (q / stp r q) : Rat) - q / stp r q) * stp r q := by
    unfold rnd
    rw [Rat.sub_eq_add_neg, Rat.sub_eq_add_neg, Rat.add_mul, Rat.neg_mul, Rat.div_mul_cancel (by grind)]
  rw [e, qabs_mul, qabs_pos sp]
  obtain ⟨h1, h2⟩ := wr_off r.way (q / stp r q)
  constructor
  · have := Rat.mul_le_mul_of_nonneg_right h1 (show 0 ≤ stp r q by grind)
    rwa [Rat.one_mul] at this
  · intro hw
    exact Rat.mul_le_mul_of_nonneg_right (h2 hw) (by grind)
theorem stp_le (q : Rat) : stp r q ≤ pw r r.L ∨ stp r q ≤ qabs q := by
  obtain ⟨h1, h2, h3⟩ := plc_spec v q
  have f1 := v.f1
  rcases h3 with z | z
  · left
    unfold stp
    rw [z]
    grind
  · right
    have := pw_le v (show plc r q ≤ plc r q - 1 + r.F by omega)
    unfold stp
    grind
theorem pwL_le : pw r r.L ≤ 16 := by
  have h1 := pw_le v v.l1
  have h2 : pw r 1 = (r.B : Rat) := Rat.zpow_one _
  have h3 : (r.B : Rat) ≤ ((16 : Int) : Rat) := intCast_le.mpr v.b16
  have : ((16 : Int) : Rat) = 16 := rfl
  grind
theorem rnd_bd {q N : Rat} (h : qabs q ≤ N) (h16 : 16 ≤ N) : qabs (rnd r q) ≤ 2 * N := by
  have h1 := (rnd_off v q).1
  have h2 := pwL_le v
  have h3 := stp_le v q
  unfold qabs at *
  split at h1 <;> split at h <;> split <;> grind
/-- exactness -/
theorem rnd_exact {q : Rat} {g : Int} (hL : r.L ≤ g) (hm : mult r q g) (hb : qabs q ≤ pw r (g + r.F)) : rnd r q = q := by
  have f1 := v.f1
  by_cases c : qabs q < pw r (g + r.F)
  · exact rnd_mark v (mult_plc v hm hL c)
  · have e : qabs q = pw r (g + r.F) := by grind
    refine rnd_mark v (mult_plc v (k := g + 1) ?_ (by omega) ?_)
    · have hm : mult r (pw r (g + r.F)) (g + 1) := mult_pw v (by omega)
      rw [← e] at hm
      unfold qabs at hm
      split at hm
      · have := mult_neg v hm
        rwa [Rat.neg_neg] at this
      · exact hm
    · rw [e]
      exact pw_lt v (by omega)
end
end Rs
end

section
set_option linter.all false
set_option maxHeartbeats 4000000
namespace Rs
/-! ### soundness of the entries -/
def grV (r : Rul) (g : Option Int) (x : Rat) : Prop := match g with
  | none => x = 0
  | some g => mult r x g
structure Val (r : Rul) (e : Ent) (x t : Rat) : Prop where
  x1 : e.lo ≤ x
  x2 : x ≤ e.hi
  t1 : e.tlo ≤ t
  t2 : t ≤ e.thi
  er : qabs (x - t) ≤ e.err
  m : mult r x (plc r x)
  g : grV r e.gr x
structure In (s : Span) (q : Rat) : Prop where
  a : s.1 ≤ q
  b : q ≤ s.2
theorem Val.inR {r : Rul} {e : Ent} {x t : Rat} (h : Val r e x t) : In e.rp x := ⟨h.x1, h.x2⟩
theorem Val.inT {r : Rul} {e : Ent} {x t : Rat} (h : Val r e x t) : In e.tp t := ⟨h.t1, h.t2⟩
theorem In.great {s : Span} {q : Rat} (h : In s q) : qabs q ≤ greatSz s := by
  have a := h.a
  have b := h.b
  unfold greatSz qmax qabs
  split <;> split <;> split <;> split <;> grind
theorem hasS_false {s : Span} {q : Rat} (h : In s q) (z : hasS s 0 = false) : 0 < s.1 ∨ s.2 < 0 := by
  have a := h.a
  have b := h.b
  unfold hasS at z
  by_cases c1 : (0 : Rat) < s.1
  · exact .inl c1
  · by_cases c2 : s.2 < 0
    · exact .inr c2
    · simp [c1, c2] at z
theorem In.small {s : Span} {q : Rat} (h : In s q) : smallSz s ≤ qabs q := by
  unfold smallSz
  cases z : hasS s 0 with
  | true => exact qabs_nn q
  | false =>
    have a := h.a
    have b := h.b
    have c := hasS_false h z
    show qmin (qabs s.1) (qabs s.2) ≤ qabs q
    unfold qmin qabs
    split <;> split <;> split <;> (try split) <;> grind
theorem small_pos {s : Span} {q : Rat} (h : In s q) (z : hasS s 0 = false) : 0 < smallSz s := by
  have a := h.a
  have b := h.b
  have c := hasS_false h z
  unfold smallSz
  rw [z]
  show 0 < qmin (qabs s.1) (qabs s.2)
  unfold qmin qabs
  split <;> split <;> (try split) <;> grind
theorem In.apart {s t : Span} {x y : Rat} (h : In s x) (k : In t y) : qabs (x - y) ≤ apartS s t := by
  have := h.a
  have := h.b
  have := k.a
  have := k.b
  unfold apartS qmax qabs
  split <;> split <;> grind
theorem In.plus {s t : Span} {x y : Rat} (h : In s x) (k : In t y) : In (plusS s t) (x + y) := by
  have := h.a
  have := h.b
  have := k.a
  have := k.b
  exact ⟨by show s.1 + t.1 ≤ _; grind, by show _ ≤ s.2 + t.2; grind⟩
theorem In.turn {s : Span} {x : Rat} (h : In s x) : In (turnS s) (-x) := by
  have := h.a
  have := h.b
  exact ⟨by show -s.2 ≤ _; grind, by show _ ≤ -s.1; grind⟩
theorem In.less {s t : Span} {x y : Rat} (h : In s x) (k : In t y) : In (lessS s t) (x - y) := by
  rw [Rat.sub_eq_add_neg]
  exact h.plus k.turn
theorem In.size {s : Span} {x : Rat} (h : In s x) : In (sizeS s) (qabs x) := ⟨h.small, h.great⟩
theorem In.least {s t : Span} {x y : Rat} (h : In s x) (k : In t y) : In (leastS s t) (qmin x y) := by
  have := h.a
  have := h.b
  have := k.a
  have := k.b
  constructor
  · show qmin s.1 t.1 ≤ _
    unfold qmin
    split <;> split <;> grind
  · show _ ≤ qmin s.2 t.2
    unfold qmin
    split <;> split <;> grind
theorem In.most {s t : Span} {x y : Rat} (h : In s x) (k : In t y) : In (mostS s t) (qmax x y) := by
  have := h.a
  have := h.b
  have := k.a
  have := k.b
  constructor
  · show qmax s.1 t.1 ≤ _
    unfold qmax
    split <;> split <;> grind
  · show _ ≤ qmax s.2 t.2
    unfold qmax
    split <;> split <;> grind
theorem In.hullL {s t : Span} {x : Rat} (h : In s x) : In (hullS s t) x := by
  have := h.a
  have := h.b
  constructor
  · show qmin s.1 t.1 ≤ _
    unfold qmin
    split <;> grind
  · show _ ≤ qmax s.2 t.2
    unfold qmax
    split <;> grind
theorem In.hullR {s t : Span} {x : Rat} (h : In t x) : In (hullS s t) x := by
  have := h.a
  have := h.b
  constructor
  · show qmin s.1 t.1 ≤ _
    unfold qmin
    split <;> grind
  · show _ ≤ qmax s.2 t.2
    unfold qmax
    split <;> grind
theorem mul_btw {p q s : Rat} (c : Rat) (h1 : p ≤ q) (h2 : q ≤ s) : (p * c ≤ q * c ∨ s * c ≤ q * c) ∧ (q * c ≤ p * c ∨ q * c ≤ s * c) := by
  by_cases z : 0 ≤ c
  · exact ⟨.inl (Rat.mul_le_mul_of_nonneg_right h1 z), .inr (Rat.mul_le_mul_of_nonneg_right h2 z)⟩
  · have z' : 0 ≤ -c := by grind
    have a := Rat.mul_le_mul_of_nonneg_right h1 z'
    have b := Rat.mul_le_mul_of_nonneg_right h2 z'
    rw [Rat.mul_neg, Rat.mul_neg] at a b
    exact ⟨.inr (by grind), .inl (by grind)⟩
theorem in_span4 {a b c d q : Rat} (h1 : a ≤ q ∨ b ≤ q ∨ c ≤ q ∨ d ≤ q) (h2 : q ≤ a ∨ q ≤ b ∨ q ≤ c ∨ q ≤ d) : In (spanOf a [a, b, c, d]) q := by
  have mn : ∀ x y : Rat, qmin x y ≤ x ∧ qmin x y ≤ y := fun x y => by
    unfold qmin
    split <;> grind
  have mx : ∀ x y : Rat, x ≤ qmax x y ∧ y ≤ qmax x y := fun x y => by
    unfold qmax
    split <;> grind
  constructor
  · show qmin (qmin (qmin (qmin a a) b) c) d ≤ q
    have e1 := mn a a
    have e2 := mn (qmin a a) b
    have e3 := mn (qmin (qmin a a) b) c
    have e4 := mn (qmin (qmin (qmin a a) b) c) d
    grind
  · show q ≤ qmax (qmax (qmax (qmax a a) b) c) d
    have e1 := mx a a
    have e2 := mx (qmax a a) b
    have e3 := mx (qmax (qmax a a) b) c
    have e4 := mx (qmax (qmax (qmax a a) b) c) d
    grind
theorem in_mul4 {s1 s2 t1 t2 x y : Rat} (h1 : s1 ≤ x) (h2 : x ≤ s2) (k1 : t1 ≤ y) (k2 : y ≤ t2) : In (spanOf (s1 * t1) [s1 * t1, s1 * t2, s2 * t1, s2 * t2]) (x * y) := by
  obtain ⟨a1, a2⟩ := mul_btw y h1 h2
  obtain ⟨b1, b2⟩ := mul_btw s1 k1 k2
  obtain ⟨c1, c2⟩ := mul_btw s2 k1 k2
  rw [Rat.mul_comm t1, Rat.mul_comm y, Rat.mul_comm t2] at b1 b2 c1 c2
  exact in_span4 (by grind) (by grind)
theorem In.times {s t : Span} {x y : Rat} (h : In s x) (k : In t y) : In (timesS s t) (x * y) := in_mul4 h.a h.b k.a k.b
theorem inv_le {a b : Rat} (h : a ≤ b) (hs : 0 < a ∨ b < 0) : b⁻¹ ≤ a⁻¹ := by
  have hab : 0 < a * b := by
    rcases hs with c | c
    · exact Rat.mul_pos c (by grind)
    · have := Rat.mul_pos (show 0 < -a by grind) (show 0 < -b by grind)
      rw [Rat.neg_mul, Rat.mul_neg, Rat.neg_neg] at this
      exact this
  have a0 : a ≠ 0 := by rcases hs with c | c <;> grind
  have b0 : b ≠ 0 := by rcases hs with c | c <;> grind
  refine Rat.le_of_mul_le_mul_right (c := a * b) ?_ hab
  have e1 : b⁻¹ * (a * b) = a := by
    rw [Rat.mul_comm a b, ← Rat.mul_assoc, Rat.inv_mul_cancel _ b0, Rat.one_mul]
  have e2 : a⁻¹ * (a * b) = b := by rw [← Rat.mul_assoc, Rat.inv_mul_cancel _ a0, Rat.one_mul]
  rw [e1, e2]
  exact h
theorem In.over {s t : Span} {x y : Rat} (h : In s x) (k : In t y) (z : hasS t 0 = false) : In (overS s t) (x / y) := by
  have c := hasS_false k z
  have a1 := k.a
  have a2 := k.b
  have i1 : y⁻¹ ≤ t.1⁻¹ := inv_le a1 (by grind)
  have i2 : t.2⁻¹ ≤ y⁻¹ := inv_le a2 (by grind)
  unfold overS
  rw [Rat.div_def, Rat.div_def, Rat.div_def, Rat.div_def, Rat.div_def]
  obtain ⟨b1, b2⟩ := mul_btw y⁻¹ h.a h.b
  obtain ⟨c1, c2⟩ := mul_btw s.1 i2 i1
  obtain ⟨d1, d2⟩ := mul_btw s.2 i2 i1
  rw [Rat.mul_comm t.2⁻¹, Rat.mul_comm y⁻¹, Rat.mul_comm t.1⁻¹] at c1 c2 d1 d2
  exact in_span4 (by grind) (by grind)
theorem qmul_le {a b c d : Rat} (h : qabs a ≤ c) (k : qabs b ≤ d) : qabs (a * b) ≤ c * d := by
  rw [qabs_mul]
  have a0 := qabs_nn a
  have b0 := qabs_nn b
  have h1 := Rat.mul_le_mul_of_nonneg_right h b0
  have h2 := Rat.mul_le_mul_of_nonneg_left k (show 0 ≤ c by grind)
  grind
theorem qabs_tri (a b : Rat) : qabs (a + b) ≤ qabs a + qabs b := by
  unfold qabs
  split <;> split <;> split <;> grind
section
variable {r : Rul} (v : VR r)
include v
theorem gsp_val {lo hi x : Rat} (h1 : lo ≤ x) (h2 : x ≤ hi) (m : mult r x (plc r x)) : grV r (gsp r lo hi) x := by
  unfold gsp
  split
  · rename_i e
    have ex : x = lo := by grind
    unfold gof
    split
    · show x = 0
      grind
    · rename_i h0
      show mult r x (grn r lo)
      obtain ⟨g1, g2, g3⟩ := grn_spec v h0
      rw [ex] at m ⊢
      by_cases c : plc r lo = grn r lo
      · rw [← c]
        exact m
      · have := g3 (grn r lo - 1) (by omega) (by omega)
        rwa [Int.sub_add_cancel] at this
  · cases z : hasS (lo, hi) 0 with
    | true => exact mult_le v m (plc_ge v x)
    | false => exact mult_le v m (plc_mono v (by
        have hs : 0 ≤ smallSz (lo, hi) := Rat.le_of_lt (small_pos (s := (lo, hi)) ⟨h1, h2⟩ z)
        rw [qabs_of_nn hs]
        exact In.small (s := (lo, hi)) ⟨h1, h2⟩))
theorem lastE_val {s t : Span} {err x y : Rat} {g : Option Int} (hx : In s x) (hy : In t y) (he : qabs (x - y) ≤ err) (m : mult r x (plc r x)) (hg : ∀ a, g = some a → mult r x a) : Val r (lastE r s t err g) x y := by
  refine ⟨hx.a, hx.b, hy.a, hy.b, ?_, m, ?_⟩
  · show _ ≤ qmin err (apartS s t)
    have := hx.apart hy
    unfold qmin
    split <;> assumption
  · have h := gsp_val v hx.a hx.b m
    show grV r (match gsp r s.1 s.2 with | none => none | some o => greatG (some o) g) x
    cases z : gsp r s.1 s.2 with
    | none =>
      rw [z] at h
      exact h
    | some o =>
      rw [z] at h
      cases g with
      | none => exact h
      | some a =>
        show mult r x (if a > o then a else o)
        split
        · exact hg a rfl
        · exact h
theorem slk_val {s : Span} {q : Rat} {g : Option Int} (hq : In s q) (hg : ∀ a, g = some a → mult r q a) : qabs (rnd r q - q) ≤ slk r s g := by
  have ha := hq.a
  have hb := hq.b
  have hgr := hq.great
  unfold slk
  split
  · rename_i e
    have : q = s.1 := by grind
    rw [this]
    show _ ≤ qabs _
    grind
  · cases z : exactB r s g with
    | true =>
      show _ ≤ (0 : Rat)
      cases g with
      | none => cases z
      | some a =>
        unfold exactB at z
        by_cases c : a < r.L
        · simp [c] at z
        · have z2 : ¬ pw r (a + r.F) < greatSz s := by simpa [c] using z
          rw [rnd_exact v (by omega) (hg a rfl) (by grind)]
          have : q - q = 0 := by grind
          rw [this]
          decide
    | false =>
      show _ ≤ if r.way = .near then (1 / 2 : Rat) * stp r (greatSz s) else stp r (greatSz s)
      obtain ⟨o1, o2⟩ := rnd_off v q
      have hs : stp r q ≤ stp r (greatSz s) := stp_mono v (by
        rw [qabs_of_nn (show 0 ≤ greatSz s by have := qabs_nn q; grind)]
        exact hgr)
      split
      · rename_i w
        have := o2 w
        have h2 := Rat.mul_le_mul_of_nonneg_left hs (show (0 : Rat) ≤ 1 / 2 by grind)
        grind
      · grind
theorem roundE_val {s t : Span} {err q y : Rat} {g : Option Int} (hx : In s q) (hy : In t y) (he : qabs (q - y) ≤ err) (hg : ∀ a, g = some a → mult r q a) : Val r (roundE r s t err g) (rnd r q) y := by
  refine lastE_val v ⟨rnd_mono v hx.a, rnd_mono v hx.b⟩ hy ?_ (rnd_isM v q) (fun a h => rnd_keeps v (hg a h))
  have h1 := slk_val v hx hg
  have h2 := qabs_tri (rnd r q - q) (q - y)
  have e : rnd r q - q + (q - y) = rnd r q - y := by grind
  rw [e] at h2
  grind
theorem lessG_val {a b : Option Int} {x y : Rat} (h : grV r a x) (k : grV r b y) (g : Int) (e : lessG a b = some g) : mult r x g ∧ mult r y g := by
  cases a with
  | none =>
    have h0 : x = 0 := h
    subst h0
    have e' : b = some g := e
    subst e'
    exact ⟨mult_zero v, k⟩
  | some a =>
    cases b with
    | none =>
      have h0 : y = 0 := k
      subst h0
      cases e
      exact ⟨h, mult_zero v⟩
    | some b =>
      have e' : some (if b < a then b else a) = some g := e
      have e2 := Option.some.inj e'
      have h1 : mult r x a := h
      have h2 : mult r y b := k
      split at e2
      · exact ⟨mult_le v h1 (by omega), mult_le v h2 (by omega)⟩
      · exact ⟨mult_le v h1 (by omega), mult_le v h2 (by omega)⟩
theorem sumE_val {p : Bool} {x y : Ent} {a b ta tb : Rat} (h : Val r x a ta) (k : Val r y b tb) : Val r (sumE r p x y) (rnd r (bif p then a + b else a - b)) (bif p then ta + tb else ta - tb) := by
  have e1 := h.er
  have e2 := k.er
  cases p with
  | true =>
    refine roundE_val v (h.inR.plus k.inR) (h.inT.plus k.inT) ?_ (fun g e => ?_)
    · show qabs (a + b - (ta + tb)) ≤ _
      have h2 := qabs_tri (a - ta) (b - tb)
      have e : a - ta + (b - tb) = a + b - (ta + tb) := by grind
      rw [e] at h2
      grind
    · obtain ⟨m1, m2⟩ := lessG_val v h.g k.g g e
      exact mult_add v m1 m2
  | false =>
    refine roundE_val v (h.inR.less k.inR) (h.inT.less k.inT) ?_ (fun g e => ?_)
    · show qabs (a - b - (ta - tb)) ≤ _
      have h2 := qabs_tri (a - ta) (-(b - tb))
      have e : a - ta + -(b - tb) = a - b - (ta - tb) := by grind
      rw [e, qabs_neg] at h2
      grind
    · obtain ⟨m1, m2⟩ := lessG_val v h.g k.g g e
      show mult r (a - b) g
      rw [Rat.sub_eq_add_neg]
      exact mult_add v m1 (mult_neg v m2)
theorem prodE_val {x y : Ent} {a b ta tb : Rat} (h : Val r x a ta) (k : Val r y b tb) : Val r (prodE r x y) (rnd r (a * b)) (ta * tb) := by
  refine roundE_val v (h.inR.times k.inR) (h.inT.times k.inT) ?_ (fun g e => ?_)
  · have h1 := qmul_le h.inR.great k.er
    have h2 := qmul_le k.inT.great h.er
    have h3 := qabs_tri (a * (b - tb)) (tb * (a - ta))
    have e : a * (b - tb) + tb * (a - ta) = a * b - ta * tb := by grind
    rw [e] at h3
    grind
  · cases ex : x.gr with
    | none =>
      rw [ex] at e
      cases e
    | some c =>
      cases ey : y.gr with
      | none =>
        rw [ex, ey] at e
        cases e
      | some d =>
        rw [ex, ey] at e
        have m1 := h.g
        have m2 := k.g
        rw [ex] at m1
        rw [ey] at m2
        have : g = c + d := (Option.some.inj e).symm
        subst this
        exact mult_mul v m1 m2
theorem quotE_val {x y e : Ent} {a b ta tb : Rat} (h : Val r x a ta) (k : Val r y b tb) (he : quotE r x y = some e) : b ≠ 0 ∧ tb ≠ 0 ∧ Val r e (rnd r (a / b)) (ta / tb) := by
  unfold quotE at he
  cases z1 : hasS y.rp 0 with
  | true =>
    rw [z1] at he
    cases he
  | false =>
    cases z2 : hasS y.tp 0 with
    | true =>
      rw [z1, z2] at he
      cases he
    | false =>
      rw [z1, z2] at he
      have he' := Option.some.inj he
      subst he'
      have c1 := hasS_false k.inR z1
      have c2 := hasS_false k.inT z2
      have k1 := k.inR.a
      have k2 := k.inR.b
      have k3 := k.inT.a
      have k4 := k.inT.b
      have b0 : b ≠ 0 := by grind
      have t0 : tb ≠ 0 := by grind
      refine ⟨b0, t0, roundE_val v (h.inR.over k.inR z1) (h.inT.over k.inT z2) ?_ (fun g e => nomatch e)⟩
      have sp := small_pos k.inT z2
      have sl := k.inT.small
      refine (le_div_iffR sp).mpr ?_
      have h1 := qmul_le (h.inR.over k.inR z1).great k.er
      have h2 := h.er
      have e1 : a / b * b = a := Rat.div_mul_cancel b0
      have e2 : ta / tb * tb = ta := Rat.div_mul_cancel t0
      have e3 : qabs (a / b - ta / tb) * qabs tb = qabs ((a - ta) + -(a / b * (b - tb))) := by
        rw [← qabs_mul]
        congr 1
        grind
      have h3 := qabs_tri (a - ta) (-(a / b * (b - tb)))
      rw [qabs_neg] at h3
      have h4 := Rat.mul_le_mul_of_nonneg_left sl (qabs_nn (a / b - ta / tb))
      grind
theorem markE_val {lo hi x : Rat} (h1 : lo ≤ x) (h2 : x ≤ hi) (m : mult r x (plc r x)) : Val r (entMarks r lo hi) x x := by
  refine ⟨h1, h2, h1, h2, ?_, m, gsp_val v h1 h2 m⟩
  have : x - x = 0 := by grind
  rw [this]
  show qabs 0 ≤ (0 : Rat)
  decide
theorem plc_abs (q : Rat) : plc r (qabs q) = plc r q := by
  have e : qabs (qabs q) = qabs q := qabs_of_nn (qabs_nn q)
  have h1 := plc_mono v (show qabs (qabs q) ≤ qabs q by grind)
  have h2 := plc_mono v (show qabs q ≤ qabs (qabs q) by grind)
  omega
theorem plc_neg (q : Rat) : plc r (-q) = plc r q := by
  have e := qabs_neg q
  have h1 := plc_mono v (show qabs (-q) ≤ qabs q by grind)
  have h2 := plc_mono v (show qabs q ≤ qabs (-q) by grind)
  omega
theorem turnE_val {x : Ent} {a ta : Rat} (h : Val r x a ta) : Val r (turnE r x) (-a) (-ta) := by
  refine lastE_val v h.inR.turn h.inT.turn ?_ (by rw [plc_neg v]; exact mult_neg v h.m) (fun g e => ?_)
  · have e : -a - -ta = -(a - ta) := by grind
    rw [e, qabs_neg]
    exact h.er
  · have := h.g
    rw [e] at this
    exact mult_neg v this
theorem sizeE_val {x : Ent} {a ta : Rat} (h : Val r x a ta) : Val r (sizeE r x) (qabs a) (qabs ta) := by
  refine lastE_val v h.inR.size h.inT.size ?_ (by rw [plc_abs v]; exact mult_abs v h.m) (fun g e => ?_)
  · have := h.er
    unfold qabs at *
    split <;> split <;> split <;> split at this <;> grind
  · have := h.g
    rw [e] at this
    exact mult_abs v this
theorem chosE_val {l : Bool} {x y : Ent} {a b ta tb : Rat} (h : Val r x a ta) (k : Val r y b tb) : Val r (chosE r l x y) (bif l then qmin a b else qmax a b) (bif l then qmin ta tb else qmax ta tb) := by
  have e1 := h.er
  have e2 := k.er
  have m1 := h.m
  have m2 := k.m
  rw [qabs_le v] at e1 e2
  cases l with
  | true =>
    refine lastE_val v (h.inR.least k.inR) (h.inT.least k.inT) ?_ ?_ (fun g e => ?_)
    · show qabs (qmin a b - qmin ta tb) ≤ qmax x.err y.err
      rw [qabs_le v]
      unfold qmin qmax
      split <;> split <;> split <;> constructor <;> grind
    · show mult r (qmin a b) (plc r (qmin a b))
      unfold qmin
      split <;> assumption
    · obtain ⟨g1, g2⟩ := lessG_val v h.g k.g g e
      show mult r (qmin a b) g
      unfold qmin
      split <;> assumption
  | false =>
    refine lastE_val v (h.inR.most k.inR) (h.inT.most k.inT) ?_ ?_ (fun g e => ?_)
    · show qabs (qmax a b - qmax ta tb) ≤ qmax x.err y.err
      rw [qabs_le v]
      unfold qmax
      split <;> split <;> split <;> constructor <;> grind
    · show mult r (qmax a b) (plc r (qmax a b))
      unfold qmax
      split <;> assumption
    · obtain ⟨g1, g2⟩ := lessG_val v h.g k.g g e
      show mult r (qmax a b) g
      unfold qmax
      split <;> assumption
theorem sides_val {s t : Span} {x y : Rat} (h : In s x) (k : In t y) : sidesS s t = [decide (¬ x < y)] ∨ sidesS s t = [false, true] := by
  have h1 := h.a
  have h2 := h.b
  have k1 := k.a
  have k2 := k.b
  unfold sidesS
  by_cases c : s.2 < t.1
  · left
    rw [decide_eq_true c]
    have : x < y := by grind
    simp [this]
  · rw [decide_eq_false c]
    by_cases d : s.1 < t.2
    · right
      rw [decide_eq_true d]
      rfl
    · left
      rw [decide_eq_false d]
      have : ¬ x < y := by grind
      simp [this]
theorem qmax_l (a b : Rat) : a ≤ qmax a b := by
  unfold qmax
  split <;> grind
theorem qmax_r (a b : Rat) : b ≤ qmax a b := by
  unfold qmax
  split <;> grind
theorem pickErr_ge {same : Bool} {u w : Ent} {mine its : List Bool} {i j : Bool} (hm : mine = [i] ∨ mine = [false, true]) (hi : its = [j] ∨ its = [false, true]) : pickFar same u w i j ≤ pickErr same u w mine its := by
  have l := qmax_l v
  have l2 := qmax_r v
  rcases hm with rfl | rfl <;> rcases hi with rfl | rfl
  · exact l2 _ _
  · show _ ≤ qmax (qmax 0 (pickFar same u w i false)) (pickFar same u w i true)
    cases j
    · have := l (qmax 0 (pickFar same u w i false)) (pickFar same u w i true)
      have := l2 0 (pickFar same u w i false)
      grind
    · exact l2 _ _
  · show _ ≤ qmax (qmax 0 (pickFar same u w false j)) (pickFar same u w true j)
    cases i
    · have := l (qmax 0 (pickFar same u w false j)) (pickFar same u w true j)
      have := l2 0 (pickFar same u w false j)
      grind
    · exact l2 _ _
  · show _ ≤ qmax (qmax (qmax (qmax 0 (pickFar same u w false false)) (pickFar same u w false true)) (pickFar same u w true false)) (pickFar same u w true true)
    have a1 := l2 0 (pickFar same u w false false)
    have a2 := l (qmax 0 (pickFar same u w false false)) (pickFar same u w false true)
    have a3 := l2 (qmax 0 (pickFar same u w false false)) (pickFar same u w false true)
    have a4 := l (qmax (qmax 0 (pickFar same u w false false)) (pickFar same u w false true)) (pickFar same u w true false)
    have a5 := l2 (qmax (qmax 0 (pickFar same u w false false)) (pickFar same u w false true)) (pickFar same u w true false)
    have a6 := l (qmax (qmax (qmax 0 (pickFar same u w false false)) (pickFar same u w false true)) (pickFar same u w true false)) (pickFar same u w true true)
    have a7 := l2 (qmax (qmax (qmax 0 (pickFar same u w false false)) (pickFar same u w false true)) (pickFar same u w true false)) (pickFar same u w true true)
    cases i <;> cases j <;> grind
theorem hull_mem {s t : Span} {L : List Bool} {i : Bool} {x : Rat} {f : Bool → Span} (hm : L = [i] ∨ L = [false, true]) (h : In (f i) x) : In (hullS (f (L.headD false)) (f (L.getLastD false))) x := by
  rcases hm with rfl | rfl
  · exact h.hullL
  · cases i
    · exact h.hullL
    · exact h.hullR
theorem less_mem {u w : Ent} {L : List Bool} {i : Bool} {x : Rat} {s t : Bool → Rat} (hm : L = [i] ∨ L = [false, true]) (hs : ∀ b, grV r (selE u w b).gr (s b)) (g : Int) (e : lessG (selE u w (L.headD false)).gr (selE u w (L.getLastD false)).gr = some g) : mult r (s i) g := by
  rcases hm with rfl | rfl
  · exact (lessG_val v (hs i) (hs i) g e).1
  · obtain ⟨a, b⟩ := lessG_val v (hs false) (hs true) g e
    cases i
    · exact a
    · exact b
theorem pickE_val {same : Bool} {x y u w : Ent} {a b c d ta tb tc td : Rat} (h : Val r x a ta) (k : Val r y b tb) (hu : Val r u c tc) (hw : Val r w d td) (hs : same = true → u = w ∧ c = d ∧ tc = td) :
    Val r (pickE r same x y u w) (if a < b then c else d) (if ta < tb then tc else td) := by
  obtain ⟨sx, hsx⟩ : ∃ sx : Bool → Rat, sx = fun i => bif i then d else c := ⟨_, rfl⟩
  obtain ⟨st, hst⟩ : ∃ st : Bool → Rat, st = fun i => bif i then td else tc := ⟨_, rfl⟩
  have vv : ∀ i, Val r (selE u w i) (sx i) (st i) := fun i => by
    subst hsx hst
    cases i
    · exact hu
    · exact hw
  obtain ⟨i, hi⟩ : ∃ i : Bool, i = decide (¬ a < b) := ⟨_, rfl⟩
  obtain ⟨j, hj⟩ : ∃ j : Bool, j = decide (¬ ta < tb) := ⟨_, rfl⟩
  have hm := sides_val v h.inR k.inR
  have ht := sides_val v h.inT k.inT
  rw [← hi] at hm
  rw [← hj] at ht
  have ex : (if a < b then c else d) = sx i := by
    subst hsx hi
    by_cases z : a < b <;> simp [z]
  have et : (if ta < tb then tc else td) = st j := by
    subst hst hj
    by_cases z : ta < tb <;> simp [z]
  rw [ex, et]
  refine lastE_val v (hull_mem v (s := (0, 0)) (t := (0, 0)) (f := fun i => (selE u w i).rp) hm (vv i).inR) (hull_mem v (s := (0, 0)) (t := (0, 0)) (f := fun i => (selE u w i).tp) ht (vv j).inT) ?_ (vv i).m (fun g e => less_mem v (x := 0) (t := sx) hm (fun b => (vv b).g) g e)
  have hp := pickErr_ge v (same := same) (u := u) (w := w) hm ht
  have hf : qabs (sx i - st j) ≤ pickFar same u w i j := by
    unfold pickFar
    cases z : (same || i == j) with
    | false => exact (vv i).inR.apart (vv j).inT
    | true =>
      show _ ≤ (selE u w i).err
      rcases Bool.or_eq_true _ _ |>.mp z with z | z
      · obtain ⟨rfl, rfl, rfl⟩ := hs z
        have : st j = st i := by
          subst hst
          cases i <;> cases j <;> rfl
        rw [this]
        exact (vv i).er
      · have : i = j := by simpa using z
        subst this
        exact (vv i).er
  grind
end
end Rs
end

section
set_option linter.all false
set_option maxHeartbeats 4000000
namespace Rs
/-! ### sizes of the entries -/
def Iz (q : Rat) : Prop := ∃ k : Int, q = (k : Rat)
theorem Iz.int (k : Int) : Iz (k : Rat) := ⟨k, rfl⟩
theorem Iz.add {a b : Rat} (h : Iz a) (k : Iz b) : Iz (a + b) := by
  obtain ⟨x, rfl⟩ := h
  obtain ⟨y, rfl⟩ := k
  exact ⟨x + y, (Rat.intCast_add x y).symm⟩
theorem Iz.mul {a b : Rat} (h : Iz a) (k : Iz b) : Iz (a * b) := by
  obtain ⟨x, rfl⟩ := h
  obtain ⟨y, rfl⟩ := k
  exact ⟨x * y, (Rat.intCast_mul x y).symm⟩
theorem Iz.neg {a : Rat} (h : Iz a) : Iz (-a) := by
  obtain ⟨x, rfl⟩ := h
  exact ⟨-x, (Rat.intCast_neg x).symm⟩
theorem Iz.sub {a b : Rat} (h : Iz a) (k : Iz b) : Iz (a - b) := by
  rw [Rat.sub_eq_add_neg]
  exact h.add k.neg
theorem Iz.zero : Iz 0 := ⟨0, rfl⟩
theorem Iz.abs {c : Int} {a : Rat} (h : Iz ((c : Rat) * a)) : Iz ((c : Rat) * qabs a) := by
  unfold qabs
  split
  · rw [Rat.mul_neg]
    exact h.neg
  · exact h
def P2 (n : Nat) : Rat := ((2 ^ n : Int) : Rat)
theorem P2_add (n m : Nat) : P2 (n + m) = P2 n * P2 m := by
  unfold P2
  rw [Int.pow_add, Rat.intCast_mul]
theorem P2_one : P2 1 = 2 := rfl
theorem P2_zero : P2 0 = 1 := rfl
theorem P2_pos (n : Nat) : 1 ≤ P2 n := by
  have : (1 : Int) ≤ 2 ^ n := by have := Int.pow_pos (n := 2) (m := n) (by decide); omega
  exact intCast_le.mpr this
theorem P2_mono {n m : Nat} (h : n ≤ m) : P2 n ≤ P2 m := by
  refine intCast_le.mpr ?_
  have := pow_mono h
  exact_mod_cast this
/-- a whole multiplier and a size tell how many doublings -/
theorem Bt_of {q : Rat} {k : Int} {n m : Nat} (hz : Iz ((k : Rat) * q)) (k0 : 0 < k) (kn : k < 2 ^ n) (hq : qabs q ≤ P2 m) : Bt (n + m) q := by
  obtain ⟨z, hz⟩ := hz
  have kR : (0 : Rat) < (k : Rat) := intCast_lt.mpr k0
  have e : q = Rat.divInt z k := by
    rw [Rat.divInt_eq_div, ← hz, Rat.mul_comm, Rat.mul_div_cancel (by grind)]
  rw [e]
  refine Bt.of_divInt (by omega) ?_ (IB.mono (n := n) ?_ (by omega))
  · have h1 : qabs (z : Rat) < ((2 ^ (n + m) : Int) : Rat) := by
      rw [← hz, qabs_mul, qabs_pos kR]
      have h2 : (k : Rat) < P2 n := intCast_lt.mpr kn
      have h3 := Rat.mul_le_mul_of_nonneg_left hq (show 0 ≤ (k : Rat) by grind)
      have h4 := Rat.mul_lt_mul_of_pos_right h2 (show 0 < P2 m by have := P2_pos m; grind)
      have h5 := P2_add n m
      show _ < P2 (n + m)
      grind
    have hb : -(2 ^ (n + m) : Int) < z ∧ z < 2 ^ (n + m) := by
      constructor
      · refine intCast_lt.mp ?_
        rw [Rat.intCast_neg]
        unfold qabs at h1
        split at h1 <;> grind
      · refine intCast_lt.mp ?_
        unfold qabs at h1
        split at h1 <;> grind
    unfold IB
    have : ((z.natAbs : Nat) : Int) < ((2 ^ (n + m) : Nat) : Int) := by
      have e2 : ((2 ^ (n + m) : Nat) : Int) = 2 ^ (n + m) := by norm_cast
      rw [e2]
      omega
    omega
  · unfold IB
    have e2 : ((2 ^ n : Nat) : Int) = 2 ^ n := by norm_cast
    omega
section
variable {r : Rul} (v : VR r)
include v
theorem pw_le_P2 : ∀ n : Nat, P2 n ≤ pw r n := fun n => two_pow_le v n
end
def WW (r : Rul) : Int := r.B ^ (-r.L).toNat
section
variable {r : Rul} (v : VR r)
include v
theorem WW_pos : 0 < WW r := ipow_pos v.b2 _
theorem WW_le : WW r ≤ 2 ^ 16 := by
  have l4 := v.l4
  have b2 := v.b2
  obtain ⟨h0, h1⟩ := ipow_mono v (show 0 ≤ r.B by omega) v.b16 (-r.L).toNat
  have h2 : (16 : Int) ^ (-r.L).toNat ≤ 16 ^ 4 := by
    have : (16 : Nat) ^ (-r.L).toNat ≤ 16 ^ 4 := Nat.pow_le_pow_right (by decide) (by omega)
    exact_mod_cast this
  have e : (16 : Int) ^ 4 = 2 ^ 16 := by decide
  unfold WW
  omega
/-- a multiple of a power not under the least is a whole number of parts -/
theorem iz_pw {g : Int} (h : r.L ≤ g) : Iz ((WW r : Rat) * pw r g) := by
  obtain ⟨k, hk⟩ := (mult_iff v).mp (mult_pw v h)
  rw [hk]
  by_cases c : 0 ≤ r.L
  · have e : (-r.L).toNat = 0 := by omega
    have e2 : r.L = ((r.L.toNat : Nat) : Int) := by omega
    unfold WW
    rw [e]
    obtain ⟨z, _, hz⟩ := pw_int v r.L.toNat
    rw [← e2] at hz
    rw [hz]
    exact (Iz.int _).mul ((Iz.int _).mul (Iz.int _))
  · have e2 : -r.L = (((-r.L).toNat : Nat) : Int) := by omega
    have e3 : (WW r : Rat) = pw r (-r.L) := by
      unfold WW pw
      rw [← zpow_nat, ← e2]
    have e4 : pw r (-r.L) * pw r r.L = 1 := by
      rw [← pw_add v, Int.add_left_neg, pw_zero]
    rw [e3]
    have : pw r (-r.L) * ((k : Rat) * pw r r.L) = (k : Rat) := by grind
    rw [this]
    exact Iz.int _
theorem iz_mark {x : Rat} (m : mult r x (plc r x)) : Iz ((WW r : Rat) * x) := by
  obtain ⟨k, hk⟩ := (mult_iff v).mp m
  rw [hk]
  have := (Iz.int k).mul (iz_pw v (plc_ge v x))
  have e : (k : Rat) * ((WW r : Rat) * pw r (plc r x)) = (WW r : Rat) * ((k : Rat) * pw r (plc r x)) := by grind
  rwa [e] at this
theorem iz_rnd (q : Rat) : Iz ((WW r : Rat) * rnd r q) := iz_mark v (rnd_isM v q)
theorem slk_nn {s : Span} {g : Option Int} : 0 ≤ slk r s g := by
  unfold slk
  split
  · exact qabs_nn _
  · have h := stp_pos v (greatSz s)
    cases exactB r s g with
    | true => show (0 : Rat) ≤ 0; decide
    | false =>
      show 0 ≤ if r.way = .near then (1 / 2 : Rat) * stp r (greatSz s) else stp r (greatSz s)
      split <;> grind
theorem slk_iz {s : Span} {g : Option Int} {c d : Int} (hc : c = 2 * WW r * d) (hs : s.1 = s.2 → Iz ((c : Rat) * s.1)) : Iz ((c : Rat) * slk r s g) := by
  have eR : (c : Rat) = 2 * (WW r : Rat) * (d : Rat) := by
    rw [hc, Rat.intCast_mul, Rat.intCast_mul]
    rfl
  have hst : Iz ((WW r : Rat) * stp r (greatSz s)) := iz_pw v (plc_ge v _)
  unfold slk
  split
  · rename_i e
    refine Iz.abs ?_
    have h1 := hs e
    have h2 := ((Iz.int 2).mul (Iz.int d)).mul (iz_rnd v s.1)
    have e2 : ((2 : Int) : Rat) * (d : Rat) * ((WW r : Rat) * rnd r s.1) - (c : Rat) * s.1 = (c : Rat) * (rnd r s.1 - s.1) := by
      rw [eR]
      have : ((2 : Int) : Rat) = 2 := rfl
      grind
    rw [← e2]
    exact h2.sub h1
  · cases exactB r s g with
    | true =>
      show Iz ((c : Rat) * 0)
      rw [Rat.mul_zero]
      exact Iz.zero
    | false =>
      show Iz ((c : Rat) * if r.way = .near then (1 / 2 : Rat) * stp r (greatSz s) else stp r (greatSz s))
      split
      · have := (Iz.int d).mul hst
        have e2 : (d : Rat) * ((WW r : Rat) * stp r (greatSz s)) = (c : Rat) * ((1 / 2 : Rat) * stp r (greatSz s)) := by
          rw [eR]
          grind
        rwa [e2] at this
      · have := ((Iz.int 2).mul (Iz.int d)).mul hst
        have e2 : ((2 : Int) : Rat) * (d : Rat) * ((WW r : Rat) * stp r (greatSz s)) = (c : Rat) * stp r (greatSz s) := by
          rw [eR]
          have : ((2 : Int) : Rat) = 2 := rfl
          grind
        rwa [e2] at this
end
/-- how great an entry may be -/
structure EI (r : Rul) (n T : Nat) (Λ : Int) (e : Ent) : Prop where
  lr : e.lo ≤ e.hi
  lt : e.tlo ≤ e.thi
  mlo : mult r e.lo (plc r e.lo)
  mhi : mult r e.hi (plc r e.hi)
  slo : qabs e.lo ≤ P2 n
  shi : qabs e.hi ≤ P2 n
  tlo : Bt T e.tlo
  thi : Bt T e.thi
  e0 : 0 ≤ e.err
  e1 : e.err ≤ apartS e.rp e.tp
  lam : Iz ((Λ : Rat) * e.err)
  gr : ∀ g, e.gr = some g → -4 ≤ g ∧ g ≤ n + 1
theorem EI.mono {r : Rul} {n m T U : Nat} {Λ c : Int} {e : Ent} (h : EI r n T Λ e) (l : n ≤ m) (k : T ≤ U) : EI r m U (Λ * c) e := by
  have := P2_mono l
  refine ⟨h.lr, h.lt, h.mlo, h.mhi, by have := h.slo; grind, by have := h.shi; grind, h.tlo.mono k, h.thi.mono k, h.e0, h.e1, ?_, fun g e => ?_⟩
  · rw [Rat.intCast_mul]
    have := (Iz.int c).mul h.lam
    have e2 : (c : Rat) * ((Λ : Rat) * e.err) = (Λ : Rat) * (c : Rat) * e.err := by grind
    rwa [e2] at this
  · have := h.gr g e
    omega
theorem apart_nn {s t : Span} (h : s.1 ≤ s.2) (k : t.1 ≤ t.2) : 0 ≤ apartS s t := by
  unfold apartS qmax
  split <;> grind
section
variable {r : Rul} (v : VR r)
include v
theorem plc_bd {q : Rat} {n : Nat} (h : qabs q ≤ P2 n) : plc r q ≤ n + 1 := by
  have h2 : qabs q < ((2 ^ (n + 1) : Int) : Rat) := by
    have e : P2 (n + 1) = P2 n * P2 1 := P2_add n 1
    have := P2_pos n
    rw [P2_one] at e
    show _ < P2 (n + 1)
    grind
  obtain ⟨p, hp, hl⟩ := plc_ex v q h2
  rw [plc_eq v hp]
  have := v.f1
  have := v.l1
  omega
theorem gsp_bd {lo hi : Rat} {n : Nat} (n1 : 1 ≤ n) (ml : mult r lo (plc r lo)) (hl : qabs lo ≤ P2 n) (hh : qabs hi ≤ P2 n) (le : lo ≤ hi) (g : Int) (e : gsp r lo hi = some g) : -4 ≤ g ∧ g ≤ n + 1 := by
  have l4 := v.l4
  have l1 := v.l1
  unfold gsp at e
  split at e
  · unfold gof at e
    split at e
    · cases e
    · rename_i h0
      have eg := Option.some.inj e
      have gm := gsp_val v (r := r) (Rat.le_refl (a := lo)) (Rat.le_refl (a := lo)) ml
      have e2 : gsp r lo lo = some g := by
        unfold gsp gof
        rw [if_pos rfl, if_neg h0, eg]
      rw [e2] at gm
      have h1 := mult_ge v (show mult r lo g from gm) h0
      have h2 : plc r lo ≤ g := eg ▸ (grn_spec v h0).1
      have h3 := plc_ge v lo
      refine ⟨by omega, ?_⟩
      by_cases c : g ≤ n + 1
      · exact c
      · have h4 := pw_le v (show ((n + 1 : Nat) : Int) ≤ g by omega)
        have h5 := pw_le_P2 v (n + 1)
        have h6 : P2 (n + 1) = P2 n * P2 1 := P2_add n 1
        have := P2_pos n
        rw [P2_one] at h6
        grind
  · cases z : hasS (lo, hi) 0 with
    | true =>
      rw [z] at e
      have eg : r.L = g := Option.some.inj e
      omega
    | false =>
      rw [z] at e
      have eg : plc r (smallSz (lo, hi)) = g := Option.some.inj e
      have h3 := plc_ge v (smallSz (lo, hi))
      have hin : In (lo, hi) lo := ⟨Rat.le_refl, le⟩
      have hs := hin.small
      have hp := small_pos hin z
      have := plc_bd v (q := smallSz (lo, hi)) (n := n) (by
        rw [qabs_of_nn (Rat.le_of_lt hp)]
        grind)
      omega
theorem lastE_EI {s t : Span} {err : Rat} {g : Option Int} {n T N : Nat} {Λ c : Int} (n1 : 1 ≤ n) (hs : s.1 ≤ s.2) (ht : t.1 ≤ t.2) (m1 : mult r s.1 (plc r s.1)) (m2 : mult r s.2 (plc r s.2)) (b1 : qabs s.1 ≤ P2 n) (b2 : qabs s.2 ≤ P2 n) (t1 : Bt T t.1) (t2 : Bt T t.2) (h0 : 0 ≤ err)
    (c0 : 0 < c) (cN : c < 2 ^ N) (hN : T + 16 ≤ N) (hz : Iz ((Λ : Rat) * (c : Rat) * err)) (hg : ∀ a, g = some a → a ≤ n + 1) : ∃ c' : Int, 0 < c' ∧ c' < 2 ^ N ∧ EI r n T (Λ * c') (lastE r s t err g) := by
  have hgr : ∀ x, (lastE r s t err g).gr = some x → -4 ≤ x ∧ x ≤ n + 1 := fun x e => by
    have e2 : (match gsp r s.1 s.2 with | none => none | some o => greatG (some o) g) = some x := e
    cases z : gsp r s.1 s.2 with
    | none =>
      rw [z] at e2
      cases e2
    | some o =>
      rw [z] at e2
      have ho := gsp_bd v n1 m1 b1 b2 hs o z
      cases g with
      | none =>
        cases e2
        exact ho
      | some a =>
        have ha := hg a rfl
        have e3 : some (if a > o then a else o) = some x := e2
        have e4 := Option.some.inj e3
        split at e4 <;> omega
  have hap := apart_nn hs ht
  have low : ∀ d : Rat, Bt T d → ∀ w : Rat, mult r w (plc r w) → 0 < WW r * (d.den : Int) ∧ WW r * (d.den : Int) < 2 ^ N ∧ Iz (((WW r * (d.den : Int) : Int) : Rat) * d) ∧ Iz (((WW r * (d.den : Int) : Int) : Rat) * w) := fun d hd w hw => by
    have w0 := WW_pos v
    have w1 := WW_le v
    have d0 : (0 : Int) < (d.den : Int) := by exact_mod_cast d.den_pos
    have d1 : (d.den : Int) < 2 ^ T := by
      have := hd.de
      exact_mod_cast this
    refine ⟨Int.mul_pos w0 d0, ?_, ?_, ?_⟩
    · have a1 : WW r * (d.den : Int) ≤ 2 ^ 16 * (d.den : Int) := Int.mul_le_mul_of_nonneg_right w1 (by omega)
      have a2 : (2 : Int) ^ 16 * (d.den : Int) < 2 ^ 16 * 2 ^ T := Int.mul_lt_mul_of_pos_left d1 (by decide)
      have a3 : (2 : Int) ^ 16 * 2 ^ T = 2 ^ (16 + T) := (Int.pow_add 2 16 T).symm
      have a4 : (2 : Int) ^ (16 + T) ≤ 2 ^ N := by
        have := pow_mono (show 16 + T ≤ N by omega)
        exact_mod_cast this
      omega
    · rw [Rat.intCast_mul]
      have := (Iz.int (WW r)).mul (Iz.int d.num)
      rw [← mul_denR d] at this
      have e : (WW r : Rat) * (d * ((d.den : Int) : Rat)) = (WW r : Rat) * ((d.den : Int) : Rat) * d := by grind
      rwa [e] at this
    · rw [Rat.intCast_mul]
      have := (Iz.int (d.den : Int)).mul (iz_mark v hw)
      have e : ((d.den : Int) : Rat) * ((WW r : Rat) * w) = (WW r : Rat) * ((d.den : Int) : Rat) * w := by grind
      rwa [e] at this
  have fin : ∀ c' : Int, 0 < c' → c' < 2 ^ N → Iz ((Λ : Rat) * (c' : Rat) * qmin err (apartS s t)) → ∃ c' : Int, 0 < c' ∧ c' < 2 ^ N ∧ EI r n T (Λ * c') (lastE r s t err g) := fun c' a b z =>
    ⟨c', a, b, hs, ht, m1, m2, b1, b2, t1, t2, by
      show 0 ≤ qmin err (apartS s t)
      unfold qmin
      split <;> assumption, by
      show qmin err (apartS s t) ≤ apartS s t
      unfold qmin
      split <;> grind, by
      rw [Rat.intCast_mul]
      exact z, hgr⟩
  by_cases z : apartS s t < err
  · have e : qmin err (apartS s t) = apartS s t := by
      unfold qmin
      rw [if_pos z]
    by_cases y : s.2 - t.1 < t.2 - s.1
    · have e2 : apartS s t = t.2 - s.1 := by
        unfold apartS qmax
        rw [if_pos y]
      obtain ⟨l1, l2, l3, l4⟩ := low t.2 t2 s.1 m1
      refine fin _ l1 l2 ?_
      rw [e, e2]
      have := (Iz.int Λ).mul (l3.sub l4)
      have e3 : (Λ : Rat) * (((WW r * (t.2.den : Int) : Int) : Rat) * t.2 - ((WW r * (t.2.den : Int) : Int) : Rat) * s.1) = (Λ : Rat) * ((WW r * (t.2.den : Int) : Int) : Rat) * (t.2 - s.1) := by grind
      rwa [e3] at this
    · have e2 : apartS s t = s.2 - t.1 := by
        unfold apartS qmax
        rw [if_neg y]
      obtain ⟨l1, l2, l3, l4⟩ := low t.1 t1 s.2 m2
      refine fin _ l1 l2 ?_
      rw [e, e2]
      have := (Iz.int Λ).mul (l4.sub l3)
      have e3 : (Λ : Rat) * (((WW r * (t.1.den : Int) : Int) : Rat) * s.2 - ((WW r * (t.1.den : Int) : Int) : Rat) * t.1) = (Λ : Rat) * ((WW r * (t.1.den : Int) : Int) : Rat) * (s.2 - t.1) := by grind
      rwa [e3] at this
  · have e : qmin err (apartS s t) = err := by
      unfold qmin
      rw [if_neg z]
    exact fin c c0 cN (by rw [e]; exact hz)
theorem roundE_EI {s t : Span} {err : Rat} {g : Option Int} {n T N : Nat} {Λ c d : Int} (n4 : 4 ≤ n) (hs : s.1 ≤ s.2) (ht : t.1 ≤ t.2) (b1 : qabs s.1 ≤ P2 n) (b2 : qabs s.2 ≤ P2 n) (t1 : Bt T t.1) (t2 : Bt T t.2) (h0 : 0 ≤ err)
    (c0 : 0 < c) (cN : c < 2 ^ N) (hN : T + 16 ≤ N) (hc : c = 2 * WW r * d) (hz : Iz ((Λ : Rat) * (c : Rat) * err)) (hd : s.1 = s.2 → Iz ((c : Rat) * s.1)) (hg : ∀ a, g = some a → a ≤ n + 2) : ∃ c' : Int, 0 < c' ∧ c' < 2 ^ N ∧ EI r (n + 1) T (Λ * c') (roundE r s t err g) := by
  have h16 : 16 ≤ P2 n := by
    have := P2_mono n4
    have e : P2 4 = 16 := rfl
    grind
  have e1 : P2 (n + 1) = P2 n * P2 1 := P2_add n 1
  rw [P2_one] at e1
  have r1 := rnd_bd v b1 h16
  have r2 := rnd_bd v b2 h16
  refine lastE_EI v (s := (rnd r s.1, rnd r s.2)) (c := c) (by omega) (rnd_mono v hs) ht (rnd_isM v _) (rnd_isM v _) (by show qabs (rnd r s.1) ≤ _; grind) (by show qabs (rnd r s.2) ≤ _; grind) t1 t2 ?_ c0 cN hN ?_ (fun a e => by have := hg a e; omega)
  · have := slk_nn v (s := s) (g := g)
    grind
  · have := hz.add ((Iz.int Λ).mul (slk_iz v (g := g) hc hd))
    have e3 : (Λ : Rat) * (c : Rat) * err + (Λ : Rat) * ((c : Rat) * slk r s g) = (Λ : Rat) * (c : Rat) * (err + slk r s g) := by grind
    rwa [e3] at this
end
end Rs
end

section
set_option linter.all false
set_option maxHeartbeats 4000000
namespace Rs
/-! ### sizes: one work -/
theorem dist_sub (c a b : Rat) : c * a - c * b = c * (a - b) := by grind
theorem span4_P {P : Rat → Prop} {a b c d : Rat} (ha : P a) (hb : P b) (hc : P c) (hd : P d) : P (spanOf a [a, b, c, d]).1 ∧ P (spanOf a [a, b, c, d]).2 := by
  have mn : ∀ x y : Rat, P x → P y → P (qmin x y) := fun x y hx hy => by
    unfold qmin
    split <;> assumption
  have mx : ∀ x y : Rat, P x → P y → P (qmax x y) := fun x y hx hy => by
    unfold qmax
    split <;> assumption
  exact ⟨mn _ _ (mn _ _ (mn _ _ (mn _ _ ha ha) hb) hc) hd, mx _ _ (mx _ _ (mx _ _ (mx _ _ ha ha) hb) hc) hd⟩
theorem In.le {s : Span} {q : Rat} (h : In s q) : s.1 ≤ s.2 := by
  have := h.a
  have := h.b
  grind
theorem EI.inR {r : Rul} {n T : Nat} {Λ : Int} {e : Ent} (h : EI r n T Λ e) : In e.rp e.lo := ⟨Rat.le_refl, h.lr⟩
theorem EI.inT {r : Rul} {n T : Nat} {Λ : Int} {e : Ent} (h : EI r n T Λ e) : In e.tp e.tlo := ⟨Rat.le_refl, h.lt⟩
theorem great_cases (s : Span) : greatSz s = qabs s.1 ∨ greatSz s = qabs s.2 := by
  unfold greatSz qmax
  split
  · exact .inr rfl
  · exact .inl rfl
theorem great_nn (s : Span) : 0 ≤ greatSz s := by
  rcases great_cases s with h | h <;> rw [h] <;> exact qabs_nn _
theorem lt_two {k : Int} {a N : Nat} (h : k ≤ 2 ^ a) (l : a < N) : k < 2 ^ N := by
  have : (2 : Int) ^ a < 2 ^ N := by
    have := Nat.pow_lt_pow_right (a := 2) (by decide) l
    exact_mod_cast this
  omega
theorem mul_two {x y : Int} {a b : Nat} (hx : x ≤ 2 ^ a) (hy0 : 0 ≤ y) (hy : y ≤ 2 ^ b) : x * y ≤ 2 ^ (a + b) := by
  rw [Int.pow_add]
  have h1 := Int.mul_le_mul_of_nonneg_right hx hy0
  have h2 := Int.mul_le_mul_of_nonneg_left hy (show (0 : Int) ≤ 2 ^ a from Int.le_of_lt (Int.pow_pos (by decide)))
  omega
theorem den_iz (d : Rat) : Iz (((d.den : Int) : Rat) * d) := ⟨d.num, by rw [Rat.mul_comm]; exact mul_denR d⟩
theorem den_bd {T : Nat} {d : Rat} (h : Bt T d) : 0 < (d.den : Int) ∧ (d.den : Int) ≤ 2 ^ T := by
  have h1 := h.de
  have h2 : ((d.den : Nat) : Int) < ((2 ^ T : Nat) : Int) := by omega
  have e : ((2 ^ T : Nat) : Int) = 2 ^ T := by norm_cast
  have := d.den_pos
  rw [e] at h2
  omega
theorem Bt_great' {T : Nat} {s : Span} (h : Bt T s.1) (k : Bt T s.2) : Bt T (greatSz s) := Bt_great h k
theorem P2_2 (n : Nat) (h : 1 ≤ n) : P2 n + P2 n ≤ P2 (2 * n) := by
  have e : P2 (n + 1) = P2 n * P2 1 := P2_add n 1
  rw [P2_one] at e
  have := P2_mono (show n + 1 ≤ 2 * n by omega)
  grind
theorem abs_mul_bd {a b : Rat} {n m : Nat} (h : qabs a ≤ P2 n) (k : qabs b ≤ P2 m) : qabs (a * b) ≤ P2 (n + m) := by
  rw [P2_add]
  exact qmul_le h k
/-- what is asked of a step of sizes -/
def Nx (r : Rul) (n T : Nat) (Λ : Int) (e : Ent) : Prop := ∃ c : Int, 0 < c ∧ c < 2 ^ (n + T + 49) ∧ EI r (2 * n + 1) (2 * T + 1) (Λ * c) e
section
variable {r : Rul} (v : VR r) {n T : Nat} {Λ : Int}
include v
theorem numE_EI (n37 : 37 ≤ n) (T37 : 37 ≤ T) (hT : T ≤ n + 32) {q : Rat} (hq : Bt 34 q) : Nx r n T Λ (roundE r (q, q) (q, q) 0 none) := by
  obtain ⟨d0, d1⟩ := den_bd hq
  have w0 := WW_pos v
  have w1 := WW_le v
  have b1 : qabs q ≤ P2 (2 * n) := by
    have h1 : qabs q < P2 34 := hq.lt
    have := P2_mono (show 34 ≤ 2 * n by omega)
    grind
  have hc0 : 0 < 2 * WW r * (q.den : Int) := Int.mul_pos (by omega) d0
  have hcN : 2 * WW r * (q.den : Int) < 2 ^ (n + T + 49) := lt_two (a := 1 + 16 + 34) (mul_two (mul_two (a := 1) (b := 16) (by decide) (by omega) w1) (by omega) d1) (by omega)
  refine roundE_EI v (s := (q, q)) (t := (q, q)) (n := 2 * n) (T := 2 * T + 1) (c := 2 * WW r * (q.den : Int)) (d := (q.den : Int)) (by omega) Rat.le_refl Rat.le_refl b1 b1 (hq.mono (by omega)) (hq.mono (by omega)) Rat.le_refl hc0 hcN (by omega) rfl ?_ (fun _ => ?_) (fun a e => nomatch e)
  · rw [Rat.mul_zero]
    exact Iz.zero
  · have := (Iz.int (2 * WW r)).mul (den_iz q)
    rw [Rat.intCast_mul]
    show Iz (((2 * WW r : Int) : Rat) * ((q.den : Int) : Rat) * q)
    rwa [← Rat.mul_assoc] at this
theorem sumE_EI (n37 : 37 ≤ n) (T37 : 37 ≤ T) (hT : T ≤ n + 32) {p : Bool} {x y : Ent} (h : EI r n T Λ x) (k : EI r n T Λ y) : Nx r n T Λ (sumE r p x y) := by
  have w0 := WW_pos v
  have w1 := WW_le v
  have hp2 := P2_2 n (by omega)
  have x1 := h.slo
  have x2 := h.shi
  have y1 := k.slo
  have y2 := k.shi
  have hc0 : 0 < 2 * WW r * 1 := by omega
  have hcN : 2 * WW r * 1 < 2 ^ (n + T + 49) := lt_two (a := 1 + 16) (by have := mul_two (a := 1) (b := 16) (x := 2) (by decide) (show 0 ≤ WW r by omega) w1; omega) (by omega)
  have hz : Iz ((Λ : Rat) * ((2 * WW r * 1 : Int) : Rat) * (x.err + y.err)) := by
    have := (Iz.int (2 * WW r * 1)).mul (h.lam.add k.lam)
    have e : ((2 * WW r * 1 : Int) : Rat) * ((Λ : Rat) * x.err + (Λ : Rat) * y.err) = (Λ : Rat) * ((2 * WW r * 1 : Int) : Rat) * (x.err + y.err) := by grind
    rwa [e] at this
  have tri := fun a b : Rat => qabs_tri a b
  have h0 := h.e0
  have k0 := k.e0
  have hg : ∀ a, lessG x.gr y.gr = some a → a ≤ 2 * n + 2 := fun a e => by
    cases ex : x.gr with
    | none =>
      rw [ex] at e
      have := k.gr a e
      omega
    | some b =>
      have hb := h.gr b ex
      cases ey : y.gr with
      | none =>
        rw [ex, ey] at e
        cases e
        omega
      | some b' =>
        have hb' := k.gr b' ey
        rw [ex, ey] at e
        have e2 : some (if b' < b then b' else b) = some a := e
        have e3 := Option.some.inj e2
        split at e3 <;> omega
  have mk : ∀ a b : Rat, mult r a (plc r a) → mult r b (plc r b) → Iz (((2 * WW r * 1 : Int) : Rat) * (a + b)) := fun a b ha hb => by
    have := (Iz.int 2).mul ((iz_mark v ha).add (iz_mark v hb))
    have e : ((2 : Int) : Rat) * ((WW r : Rat) * a + (WW r : Rat) * b) = ((2 * WW r * 1 : Int) : Rat) * (a + b) := by
      rw [Int.mul_one, Rat.intCast_mul]
      grind
    rwa [e] at this
  cases p with
  | true =>
    refine roundE_EI v (s := plusS x.rp y.rp) (t := plusS x.tp y.tp) (n := 2 * n) (T := 2 * T + 1) (c := 2 * WW r * 1) (d := 1) (by omega) (h.inR.plus k.inR).le (h.inT.plus k.inT).le ?_ ?_ ((h.tlo.add k.tlo).mono (by omega)) ((h.thi.add k.thi).mono (by omega)) (by grind) hc0 hcN (by omega) rfl hz (fun _ => mk _ _ h.mlo k.mlo) (fun a e => by have := hg a e; omega)
    · show qabs (x.lo + y.lo) ≤ _
      have := tri x.lo y.lo
      grind
    · show qabs (x.hi + y.hi) ≤ _
      have := tri x.hi y.hi
      grind
  | false =>
    refine roundE_EI v (s := lessS x.rp y.rp) (t := lessS x.tp y.tp) (n := 2 * n) (T := 2 * T + 1) (c := 2 * WW r * 1) (d := 1) (by omega) (h.inR.less k.inR).le (h.inT.less k.inT).le ?_ ?_ ((h.tlo.add k.thi.neg).mono (by omega)) ((h.thi.add k.tlo.neg).mono (by omega)) (by grind) hc0 hcN (by omega) rfl hz (fun _ => mk _ _ h.mlo (show mult r (-y.hi) (plc r (-y.hi)) by rw [plc_neg v]; exact mult_neg v k.mhi)) (fun a e => by have := hg a e; omega)
    · show qabs (x.lo + -y.hi) ≤ _
      have := tri x.lo (-y.hi)
      rw [qabs_neg] at this
      grind
    · show qabs (x.hi + -y.lo) ≤ _
      have := tri x.hi (-y.lo)
      rw [qabs_neg] at this
      grind
theorem prodE_EI (n37 : 37 ≤ n) (T37 : 37 ≤ T) (hT : T ≤ n + 32) {x y : Ent} (h : EI r n T Λ x) (k : EI r n T Λ y) : Nx r n T Λ (prodE r x y) := by
  have w0 := WW_pos v
  have w1 := WW_le v
  obtain ⟨G, hG⟩ : ∃ G, G = greatSz y.tp := ⟨_, rfl⟩
  have hGb : Bt T G := hG ▸ Bt_great' k.tlo k.thi
  obtain ⟨d0, d1⟩ := den_bd hGb
  have hgx : Iz ((WW r : Rat) * greatSz x.rp) := by
    rcases great_cases x.rp with e | e <;> rw [e]
    · exact Iz.abs (iz_mark v h.mlo)
    · exact Iz.abs (iz_mark v h.mhi)
  have hc0 : 0 < 2 * WW r * (WW r * (G.den : Int)) := Int.mul_pos (by omega) (Int.mul_pos w0 d0)
  have hcN : 2 * WW r * (WW r * (G.den : Int)) < 2 ^ (n + T + 49) := lt_two (a := 1 + 16 + (16 + T)) (mul_two (mul_two (a := 1) (b := 16) (by decide) (by omega) w1) (Int.le_of_lt (Int.mul_pos w0 d0)) (mul_two w1 (by omega) d1)) (by omega)
  have e0 : (2 : Nat) * n = n + n := by omega
  have hc : ((2 * WW r * (WW r * (G.den : Int)) : Int) : Rat) = 2 * (WW r : Rat) * ((WW r : Rat) * ((G.den : Int) : Rat)) := by
    rw [Rat.intCast_mul, Rat.intCast_mul, Rat.intCast_mul]
    rfl
  have B : ∀ a b : Rat, qabs a ≤ P2 n → qabs b ≤ P2 n → qabs (a * b) ≤ P2 (2 * n) := fun a b ha hb => by
    rw [e0]
    exact abs_mul_bd ha hb
  have bb := span4_P (P := fun q => qabs q ≤ P2 (2 * n)) (B _ _ h.slo k.slo) (B _ _ h.slo k.shi) (B _ _ h.shi k.slo) (B _ _ h.shi k.shi)
  have C : ∀ a b : Rat, Bt T a → Bt T b → Bt (2 * T + 1) (a * b) := fun a b ha hb => (ha.mul hb).mono (by omega)
  have tt := span4_P (P := fun q => Bt (2 * T + 1) q) (C _ _ h.tlo k.tlo) (C _ _ h.tlo k.thi) (C _ _ h.thi k.tlo) (C _ _ h.thi k.thi)
  have mk : ∀ a b : Rat, mult r a (plc r a) → mult r b (plc r b) → Iz (((2 * WW r * (WW r * (G.den : Int)) : Int) : Rat) * (a * b)) := fun a b ha hb => by
    have := ((Iz.int 2).mul (Iz.int (G.den : Int))).mul ((iz_mark v ha).mul (iz_mark v hb))
    have e : ((2 : Int) : Rat) * ((G.den : Int) : Rat) * ((WW r : Rat) * a * ((WW r : Rat) * b)) = ((2 * WW r * (WW r * (G.den : Int)) : Int) : Rat) * (a * b) := by
      rw [hc]
      have : ((2 : Int) : Rat) = 2 := rfl
      grind
    rwa [e] at this
  have mm4 := span4_P (P := fun q => Iz (((2 * WW r * (WW r * (G.den : Int)) : Int) : Rat) * q)) (mk _ _ h.mlo k.mlo) (mk _ _ h.mlo k.mhi) (mk _ _ h.mhi k.mlo) (mk _ _ h.mhi k.mhi)
  refine roundE_EI v (s := timesS x.rp y.rp) (t := timesS x.tp y.tp) (n := 2 * n) (T := 2 * T + 1) (c := 2 * WW r * (WW r * (G.den : Int))) (d := WW r * (G.den : Int)) (by omega) (h.inR.times k.inR).le (h.inT.times k.inT).le bb.1 bb.2 tt.1 tt.2 ?_ hc0 hcN (by omega) rfl ?_ (fun _ => mm4.1) (fun a e => ?_)
  · have a1 := Rat.mul_nonneg (great_nn x.rp) k.e0
    have a2 := Rat.mul_nonneg (great_nn y.tp) h.e0
    grind
  · have i1 := ((Iz.int 2).mul ((Iz.int (WW r)).mul (Iz.int (G.den : Int)))).mul (hgx.mul k.lam)
    have i2 := ((Iz.int 2).mul ((Iz.int (WW r)).mul (Iz.int (WW r)))).mul ((den_iz G).mul h.lam)
    have i3 := i1.add i2
    have e : ((2 : Int) : Rat) * ((WW r : Rat) * ((G.den : Int) : Rat)) * ((WW r : Rat) * greatSz x.rp * ((Λ : Rat) * y.err)) + ((2 : Int) : Rat) * ((WW r : Rat) * (WW r : Rat)) * (((G.den : Int) : Rat) * G * ((Λ : Rat) * x.err)) = (Λ : Rat) * ((2 * WW r * (WW r * (G.den : Int)) : Int) : Rat) * (greatSz x.rp * y.err + greatSz y.tp * x.err) := by
      rw [hc, ← hG]
      have : ((2 : Int) : Rat) = 2 := rfl
      grind
    rwa [e] at i3
  · cases ex : x.gr with
    | none =>
      rw [ex] at e
      cases e
    | some b =>
      have hb := h.gr b ex
      cases ey : y.gr with
      | none =>
        rw [ex, ey] at e
        cases e
      | some b' =>
        have hb' := k.gr b' ey
        rw [ex, ey] at e
        have : b + b' = a := Option.some.inj e
        omega
theorem quotE_EI (n37 : 37 ≤ n) (T37 : 37 ≤ T) (hT : T ≤ n + 32) {x y e : Ent} (h : EI r n T Λ x) (k : EI r n T Λ y) (he : quotE r x y = some e) : Nx r n T Λ e := by
  have w0 := WW_pos v
  have w1 := WW_le v
  unfold quotE at he
  cases z1 : hasS y.rp 0 with
  | true =>
    rw [z1] at he
    cases he
  | false =>
    cases z2 : hasS y.tp 0 with
    | true =>
      rw [z1, z2] at he
      cases he
    | false =>
      rw [z1, z2] at he
      have he' := Option.some.inj he
      subst he'
      have c1 := hasS_false k.inR z1
      have c2 := hasS_false k.inT z2
      have k1 : y.lo ≤ y.hi := k.lr
      have k2 : y.tlo ≤ y.thi := k.lt
      have yl : y.lo ≠ 0 := by
        have : 0 < y.lo ∨ y.hi < 0 := c1
        grind
      have yh : y.hi ≠ 0 := by
        have : 0 < y.lo ∨ y.hi < 0 := c1
        grind
      have tl : y.tlo ≠ 0 := by
        have : 0 < y.tlo ∨ y.thi < 0 := c2
        grind
      have th : y.thi ≠ 0 := by
        have : 0 < y.tlo ∨ y.thi < 0 := c2
        grind
      -- a corner
      have corner : ∀ a b : Rat, mult r a (plc r a) → mult r b (plc r b) → b ≠ 0 → qabs a ≤ P2 n → qabs b ≤ P2 n → qabs (a / b) ≤ P2 (2 * n) ∧ ∃ c0 : Int, 0 < c0 ∧ c0 ≤ 2 ^ (n + 16) ∧ Iz ((c0 : Rat) * (a / b)) := fun a b ha hb b0 sa sb => by
        obtain ⟨p, hp⟩ := iz_mark v ha
        obtain ⟨q, hq⟩ := iz_mark v hb
        have wR : (0 : Rat) < (WW r : Rat) := intCast_lt.mpr w0
        have wR1 : (WW r : Rat) ≤ P2 16 := intCast_le.mpr w1
        have q0 : q ≠ 0 := fun z => by
          rw [z] at hq
          have : (WW r : Rat) * b = 0 := hq
          have := Rat.mul_eq_zero.mp this
          grind
        have e1 : qabs (q : Rat) = (WW r : Rat) * qabs b := by rw [← hq, qabs_mul, qabs_pos wR]
        have g1 := qabs_int_ge q0
        have hab : a / b * b = a := Rat.div_mul_cancel b0
        have nb : ((q.natAbs : Int) : Rat) = qabs (q : Rat) := by
          unfold qabs
          split
          · rename_i hlt
            have : q < 0 := intCast_lt.mp hlt
            have e : (q.natAbs : Int) = -q := by omega
            rw [e, Rat.intCast_neg]
          · rename_i hlt
            have : 0 ≤ q := by
              have : ¬ q < 0 := fun z => hlt (intCast_lt.mpr z)
              omega
            have e : (q.natAbs : Int) = q := by omega
            rw [e]
        refine ⟨?_, (q.natAbs : Int), by omega, ?_, ?_⟩
        · -- |a/b| ≤ |a| * W
          have h1 : qabs (a / b) * 1 ≤ qabs (a / b) * ((WW r : Rat) * qabs b) := Rat.mul_le_mul_of_nonneg_left (by rw [← e1]; exact g1) (qabs_nn _)
          have h2 : qabs (a / b) * qabs b = qabs a := by rw [← qabs_mul, hab]
          generalize qabs (a / b) = z at h1 h2 ⊢
          have h7 : z * ((WW r : Rat) * qabs b) = (WW r : Rat) * qabs a := by
            rw [← h2]
            grind
          rw [h7, Rat.mul_one] at h1
          have h3 := Rat.mul_le_mul_of_nonneg_left sa (show 0 ≤ (WW r : Rat) by grind)
          have h4 := Rat.mul_le_mul_of_nonneg_right wR1 (show 0 ≤ P2 n by have := P2_pos n; grind)
          have h5 := P2_mono (show 16 + n ≤ 2 * n by omega)
          have h6 := P2_add 16 n
          grind
        · refine intCast_le.mp ?_
          rw [nb, e1]
          have h3 := Rat.mul_le_mul_of_nonneg_left sb (show 0 ≤ (WW r : Rat) by grind)
          have h4 := Rat.mul_le_mul_of_nonneg_right wR1 (show 0 ≤ P2 n by have := P2_pos n; grind)
          have h6 := P2_add 16 n
          have h7 : P2 (16 + n) = ((2 ^ (n + 16) : Int) : Rat) := by
            unfold P2
            rw [Nat.add_comm]
          grind
        · rw [nb]
          have : Iz ((q : Rat) * (a / b)) := by
            refine ⟨p, ?_⟩
            rw [← hq, ← hp]
            grind
          unfold qabs
          split
          · rw [Rat.neg_mul]
            exact this.neg
          · exact this
      have cc := span4_P (P := fun q => qabs q ≤ P2 (2 * n) ∧ ∃ c0 : Int, 0 < c0 ∧ c0 ≤ 2 ^ (n + 16) ∧ Iz ((c0 : Rat) * q)) (corner _ _ h.mlo k.mlo yl h.slo k.slo) (corner _ _ h.mlo k.mhi yh h.slo k.shi) (corner _ _ h.mhi k.mlo yl h.shi k.slo) (corner _ _ h.mhi k.mhi yh h.shi k.shi)
      have C : ∀ a b : Rat, Bt T a → Bt T b → b ≠ 0 → Bt (2 * T + 1) (a / b) := fun a b ha hb hb0 => (ha.div hb hb0).mono (by omega)
      have tt := span4_P (P := fun q => Bt (2 * T + 1) q) (C _ _ h.tlo k.tlo tl) (C _ _ h.tlo k.thi th) (C _ _ h.thi k.tlo tl) (C _ _ h.thi k.thi th)
      obtain ⟨S, hS⟩ : ∃ S, S = overS x.rp y.rp := ⟨_, rfl⟩
      have cS : (qabs S.1 ≤ P2 (2 * n) ∧ ∃ c0 : Int, 0 < c0 ∧ c0 ≤ 2 ^ (n + 16) ∧ Iz ((c0 : Rat) * S.1)) ∧ (qabs S.2 ≤ P2 (2 * n) ∧ ∃ c0 : Int, 0 < c0 ∧ c0 ≤ 2 ^ (n + 16) ∧ Iz ((c0 : Rat) * S.2)) := by
        rw [hS]
        exact cc
      obtain ⟨c0, hc00, hc0N, hc0G, hc0E⟩ : ∃ c0 : Int, 0 < c0 ∧ c0 ≤ 2 ^ (n + 16) ∧ Iz ((c0 : Rat) * greatSz S) ∧ (S.1 = S.2 → Iz ((c0 : Rat) * S.1)) := by
        obtain ⟨⟨_, p, p1, p2, p3⟩, _, q, q1, q2, q3⟩ := cS
        rcases great_cases S with e | e
        · exact ⟨p, p1, p2, by rw [e]; exact Iz.abs p3, fun _ => p3⟩
        · exact ⟨q, q1, q2, by rw [e]; exact Iz.abs q3, fun z => by rw [z]; exact q3⟩
      obtain ⟨m, hm⟩ : ∃ m, m = smallSz y.tp := ⟨_, rfl⟩
      have mpos : 0 < m := hm ▸ small_pos k.inT z2
      have mB : Bt T m := by
        rw [hm]
        exact Bt_small k.tlo k.thi (by omega)
      obtain ⟨N1, hN1⟩ : ∃ N1 : Int, N1 = m.num := ⟨_, rfl⟩
      have nR : m * ((m.den : Int) : Rat) = (N1 : Rat) := by
        rw [hN1]
        exact mul_denR m
      have dpos := den_posR m
      have npos : 0 < N1 := by
        refine intCast_lt.mp ?_
        rw [← nR]
        exact Rat.mul_pos mpos dpos
      have nN : N1 ≤ 2 ^ T := by
        have := mB.nu
        unfold IB at this
        rw [← hN1] at this
        have h2 : ((N1.natAbs : Nat) : Int) < ((2 ^ T : Nat) : Int) := by omega
        have e : ((2 ^ T : Nat) : Int) = 2 ^ T := by norm_cast
        omega
      have hc0 : 0 < 2 * WW r * (c0 * N1) := Int.mul_pos (by omega) (Int.mul_pos hc00 npos)
      have hcN : 2 * WW r * (c0 * N1) < 2 ^ (n + T + 49) := lt_two (a := 1 + 16 + (n + 16 + T)) (mul_two (mul_two (a := 1) (b := 16) (by decide) (by omega) w1) (Int.le_of_lt (Int.mul_pos hc00 npos)) (mul_two hc0N (by omega) nN)) (by omega)
      have hc : ((2 * WW r * (c0 * N1) : Int) : Rat) = 2 * (WW r : Rat) * ((c0 : Rat) * (N1 : Rat)) := by
        rw [Rat.intCast_mul, Rat.intCast_mul, Rat.intCast_mul]
        rfl
      obtain ⟨A, hA⟩ : ∃ A, A = greatSz S * y.err + x.err := ⟨_, rfl⟩
      have hAz : Iz ((Λ : Rat) * (c0 : Rat) * A) := by
        have := (hc0G.mul k.lam).add ((Iz.int c0).mul h.lam)
        have e : (c0 : Rat) * greatSz S * ((Λ : Rat) * y.err) + (c0 : Rat) * ((Λ : Rat) * x.err) = (Λ : Rat) * (c0 : Rat) * A := by
          rw [hA]
          grind
        rwa [e] at this
      have hA0 : 0 ≤ A := by
        have a1 := Rat.mul_nonneg (great_nn S) k.e0
        have a2 := h.e0
        grind
      have hdiv : A / m * m = A := Rat.div_mul_cancel (by grind)
      have hNm : (N1 : Rat) * (A / m) = ((m.den : Int) : Rat) * A := by
        rw [← nR]
        grind
      refine roundE_EI v (s := overS x.rp y.rp) (t := overS x.tp y.tp) (n := 2 * n) (T := 2 * T + 1) (c := 2 * WW r * (c0 * N1)) (d := c0 * N1) (by omega) (h.inR.over k.inR z1).le (h.inT.over k.inT z2).le cc.1.1 cc.2.1 tt.1 tt.2 ?_ hc0 hcN (by omega) rfl ?_ (fun z => ?_) (fun a e => nomatch e)
      · rw [← hS, ← hm, ← hA]
        exact (le_div_iffR mpos).mpr (by rw [Rat.zero_mul]; exact hA0)
      · rw [← hS, ← hm, ← hA, hc]
        have i1 := ((Iz.int 2).mul ((Iz.int (WW r)).mul (Iz.int (m.den : Int)))).mul hAz
        have e : ((2 : Int) : Rat) * ((WW r : Rat) * ((m.den : Int) : Rat)) * ((Λ : Rat) * (c0 : Rat) * A) = (Λ : Rat) * (2 * (WW r : Rat) * ((c0 : Rat) * (N1 : Rat))) * (A / m) := by
          have : ((2 : Int) : Rat) = 2 := rfl
          have e1 : (Λ : Rat) * (2 * (WW r : Rat) * ((c0 : Rat) * (N1 : Rat))) * (A / m) = (Λ : Rat) * (2 * (WW r : Rat) * (c0 : Rat)) * ((N1 : Rat) * (A / m)) := by grind
          rw [e1, hNm]
          grind
        rwa [e] at i1
      · rw [← hS] at z ⊢
        rw [hc]
        have i1 := ((Iz.int 2).mul ((Iz.int (WW r)).mul (Iz.int N1))).mul (hc0E z)
        have e : ((2 : Int) : Rat) * ((WW r : Rat) * (N1 : Rat)) * ((c0 : Rat) * S.1) = 2 * (WW r : Rat) * ((c0 : Rat) * (N1 : Rat)) * S.1 := by
          have : ((2 : Int) : Rat) = 2 := rfl
          grind
        rwa [e] at i1
theorem lam1 {Λ : Int} {q : Rat} (h : Iz ((Λ : Rat) * q)) : Iz ((Λ : Rat) * ((1 : Int) : Rat) * q) := by
  have e : (Λ : Rat) * ((1 : Int) : Rat) * q = (Λ : Rat) * q := by
    have : ((1 : Int) : Rat) = 1 := rfl
    grind
  rwa [e]
theorem one_lt (N : Nat) (h : 1 ≤ N) : (1 : Int) < 2 ^ N := lt_two (a := 0) (by decide) (by omega)
theorem up_bd {q : Rat} (h : qabs q ≤ P2 n) : qabs q ≤ P2 (2 * n + 1) := by
  have := P2_mono (show n ≤ 2 * n + 1 by omega)
  grind
theorem mk_neg {q : Rat} (h : mult r q (plc r q)) : mult r (-q) (plc r (-q)) := by
  rw [plc_neg v]
  exact mult_neg v h
theorem mk_abs {q : Rat} (h : mult r q (plc r q)) : mult r (qabs q) (plc r (qabs q)) := by
  rw [plc_abs v]
  exact mult_abs v h
theorem turnE_EI (n37 : 37 ≤ n) (T37 : 37 ≤ T) (hT : T ≤ n + 32) {x : Ent} (h : EI r n T Λ x) : Nx r n T Λ (turnE r x) :=
  lastE_EI v (s := turnS x.rp) (t := turnS x.tp) (n := 2 * n + 1) (T := 2 * T + 1) (c := 1) (by omega) h.inR.turn.le h.inT.turn.le (mk_neg v h.mhi) (mk_neg v h.mlo) (by show qabs (-x.hi) ≤ _; rw [qabs_neg]; exact up_bd v h.shi) (by show qabs (-x.lo) ≤ _; rw [qabs_neg]; exact up_bd v h.slo) (h.thi.neg.mono (by omega)) (h.tlo.neg.mono (by omega)) h.e0 (by decide) (one_lt v _ (by omega)) (by omega) (lam1 v h.lam) (fun a e => by
    have := h.gr a e
    omega)
theorem small_P {P : Rat → Prop} {s : Span} (h0 : P 0) (h1 : P (qabs s.1)) (h2 : P (qabs s.2)) : P (smallSz s) ∧ P (greatSz s) := by
  constructor
  · unfold smallSz
    cases hasS s 0 with
    | true => exact h0
    | false =>
      show P (qmin _ _)
      unfold qmin
      split <;> assumption
  · rcases great_cases s with e | e <;> rw [e] <;> assumption
theorem sizeE_EI (n37 : 37 ≤ n) (T37 : 37 ≤ T) (hT : T ≤ n + 32) {x : Ent} (h : EI r n T Λ x) : Nx r n T Λ (sizeE r x) := by
  have ab : ∀ q : Rat, qabs (qabs q) = qabs q := fun q => qabs_of_nn (qabs_nn q)
  have a1 := small_P v (P := fun q => mult r q (plc r q)) (s := x.rp) (mult_zero v) (mk_abs v h.mlo) (mk_abs v h.mhi)
  have a2 := small_P v (P := fun q => qabs q ≤ P2 (2 * n + 1)) (s := x.rp) (by
    have h1 := P2_pos (2 * n + 1)
    have h2 : qabs 0 = 0 := (by decide)
    show qabs 0 ≤ _
    rw [h2]
    grind) (by rw [ab]; exact up_bd v h.slo) (by rw [ab]; exact up_bd v h.shi)
  have a3 := small_P v (P := fun q => Bt (2 * T + 1) q) (s := x.tp) (Bt.zero.mono (by omega)) (h.tlo.abs.mono (by omega)) (h.thi.abs.mono (by omega))
  exact lastE_EI v (s := sizeS x.rp) (t := sizeS x.tp) (n := 2 * n + 1) (T := 2 * T + 1) (c := 1) (by omega) h.inR.size.le h.inT.size.le a1.1 a1.2 a2.1 a2.2 a3.1 a3.2 h.e0 (by decide) (one_lt v _ (by omega)) (by omega) (lam1 v h.lam) (fun a e => by
    have := h.gr a e
    omega)
theorem lessG_bd {a b : Option Int} {n : Nat} (h : ∀ g, a = some g → -4 ≤ g ∧ g ≤ n + 1) (k : ∀ g, b = some g → -4 ≤ g ∧ g ≤ n + 1) (g : Int) (e : lessG a b = some g) : g ≤ n + 1 := by
  cases a with
  | none => exact (k g e).2
  | some a =>
    cases b with
    | none => exact (h g e).2
    | some b =>
      have e2 : some (if b < a then b else a) = some g := e
      have e3 := Option.some.inj e2
      have := h a rfl
      have := k b rfl
      split at e3 <;> omega
theorem chosE_EI (n37 : 37 ≤ n) (T37 : 37 ≤ T) (hT : T ≤ n + 32) {l : Bool} {x y : Ent} (h : EI r n T Λ x) (k : EI r n T Λ y) : Nx r n T Λ (chosE r l x y) := by
  have mn : ∀ (P : Rat → Prop) (a b : Rat), P a → P b → P (qmin a b) ∧ P (qmax a b) := fun P a b ha hb => by
    constructor
    · unfold qmin
      split <;> assumption
    · unfold qmax
      split <;> assumption
  have h1 := mn (fun q => mult r q (plc r q)) _ _ h.mlo k.mlo
  have h2 := mn (fun q => mult r q (plc r q)) _ _ h.mhi k.mhi
  have h3 := mn (fun q => qabs q ≤ P2 (2 * n + 1)) _ _ (up_bd v h.slo) (up_bd v k.slo)
  have h4 := mn (fun q => qabs q ≤ P2 (2 * n + 1)) _ _ (up_bd v h.shi) (up_bd v k.shi)
  have h5 := mn (fun q => Bt (2 * T + 1) q) _ _ (h.tlo.mono (by omega)) (k.tlo.mono (by omega))
  have h6 := mn (fun q => Bt (2 * T + 1) q) _ _ (h.thi.mono (by omega)) (k.thi.mono (by omega))
  have h7 := mn (fun q => 0 ≤ q) _ _ h.e0 k.e0
  have h8 := mn (fun q => Iz ((Λ : Rat) * q)) _ _ h.lam k.lam
  have hg : ∀ a, lessG x.gr y.gr = some a → a ≤ ((2 * n + 1 : Nat) : Int) + 1 := fun a e => by
    have := lessG_bd v h.gr k.gr a e
    omega
  cases l with
  | true => exact lastE_EI v (s := leastS x.rp y.rp) (t := leastS x.tp y.tp) (n := 2 * n + 1) (T := 2 * T + 1) (c := 1) (by omega) (h.inR.least k.inR).le (h.inT.least k.inT).le h1.1 h2.1 h3.1 h4.1 h5.1 h6.1 h7.2 (by decide) (one_lt v _ (by omega)) (by omega) (lam1 v h8.2) hg
  | false => exact lastE_EI v (s := mostS x.rp y.rp) (t := mostS x.tp y.tp) (n := 2 * n + 1) (T := 2 * T + 1) (c := 1) (by omega) (h.inR.most k.inR).le (h.inT.most k.inT).le h1.2 h2.2 h3.2 h4.2 h5.2 h6.2 h7.2 (by decide) (one_lt v _ (by omega)) (by omega) (lam1 v h8.2) hg
theorem part_iz {N : Nat} (hN : T + 16 < N) {d w : Rat} (hd : Bt T d) (hw : mult r w (plc r w)) : 0 < WW r * (d.den : Int) ∧ WW r * (d.den : Int) < 2 ^ N ∧ Iz (((WW r * (d.den : Int) : Int) : Rat) * d) ∧ Iz (((WW r * (d.den : Int) : Int) : Rat) * w) := by
  have w0 := WW_pos v
  have w1 := WW_le v
  obtain ⟨d0, d1⟩ := den_bd hd
  refine ⟨Int.mul_pos w0 d0, lt_two (a := 16 + T) (mul_two w1 (by omega) d1) (by omega), ?_, ?_⟩
  · rw [Rat.intCast_mul]
    have := (Iz.int (WW r)).mul (den_iz d)
    have e : (WW r : Rat) * (((d.den : Int) : Rat) * d) = (WW r : Rat) * ((d.den : Int) : Rat) * d := by grind
    rwa [e] at this
  · rw [Rat.intCast_mul]
    have := (Iz.int (d.den : Int)).mul (iz_mark v hw)
    have e : ((d.den : Int) : Rat) * ((WW r : Rat) * w) = (WW r : Rat) * ((d.den : Int) : Rat) * w := by grind
    rwa [e] at this
theorem apart_iz {N : Nat} (hN : T + 16 < N) {s t : Span} (m1 : mult r s.1 (plc r s.1)) (m2 : mult r s.2 (plc r s.2)) (t1 : Bt T t.1) (t2 : Bt T t.2) : ∃ c : Int, 0 < c ∧ c < 2 ^ N ∧ Iz ((c : Rat) * apartS s t) := by
  by_cases y : s.2 - t.1 < t.2 - s.1
  · have e2 : apartS s t = t.2 - s.1 := by
      unfold apartS qmax
      rw [if_pos y]
    obtain ⟨l1, l2, l3, l4⟩ := part_iz v hN t2 m1
    refine ⟨_, l1, l2, ?_⟩
    rw [e2]
    have := l3.sub l4
    rwa [dist_sub] at this
  · have e2 : apartS s t = s.2 - t.1 := by
      unfold apartS qmax
      rw [if_neg y]
    obtain ⟨l1, l2, l3, l4⟩ := part_iz v hN t1 m2
    refine ⟨_, l1, l2, ?_⟩
    rw [e2]
    have := l4.sub l3
    rwa [dist_sub] at this
theorem fold_P {P : Rat → Prop} (hm : ∀ a b, P a → P b → P (qmax a b)) {f : Bool → Rat} (hf : ∀ j, P (f j)) : ∀ (l : List Bool) (e : Rat), P e → P (l.foldl (fun e j => qmax e (f j)) e)
  | [], e, h => h
  | b :: l, e, h => fold_P hm hf l _ (hm _ _ h (hf b))
theorem fold_PP {P : Rat → Prop} (hm : ∀ a b, P a → P b → P (qmax a b)) {f : Bool → Bool → Rat} (hf : ∀ i j, P (f i j)) (its : List Bool) : ∀ (l : List Bool) (e : Rat), P e → P (l.foldl (fun e i => its.foldl (fun e j => qmax e (f i j)) e) e)
  | [], e, h => h
  | b :: l, e, h => fold_PP hm hf its l _ (fold_P v hm (hf b) its e h)
theorem pickE_EI (n37 : 37 ≤ n) (T37 : 37 ≤ T) (hT : T ≤ n + 32) {same : Bool} {x y a b : Ent} (ha : EI r n T Λ a) (hb : EI r n T Λ b) : Nx r n T Λ (pickE r same x y a b) := by
  have ss : ∀ i, EI r n T Λ (selE a b i) := fun i => by
    cases i
    · exact ha
    · exact hb
  have mn : ∀ (P : Rat → Prop) (a b : Rat), P a → P b → P (qmin a b) ∧ P (qmax a b) := fun P a b ha hb => by
    constructor
    · unfold qmin
      split <;> assumption
    · unfold qmax
      split <;> assumption
  obtain ⟨⟨c, c0, cN, cz⟩, e0⟩ : (∃ c : Int, 0 < c ∧ c < 2 ^ (n + T + 49) ∧ Iz ((Λ : Rat) * (c : Rat) * pickErr same a b (sidesS x.rp y.rp) (sidesS x.tp y.tp))) ∧ 0 ≤ pickErr same a b (sidesS x.rp y.rp) (sidesS x.tp y.tp) := by
    refine fold_PP v (P := fun q => (∃ c : Int, 0 < c ∧ c < 2 ^ (n + T + 49) ∧ Iz ((Λ : Rat) * (c : Rat) * q)) ∧ 0 ≤ q) (fun p q hp hq => (mn (fun q => (∃ c : Int, 0 < c ∧ c < 2 ^ (n + T + 49) ∧ Iz ((Λ : Rat) * (c : Rat) * q)) ∧ 0 ≤ q) p q hp hq).2) (fun i j => ?_) _ _ _ ⟨⟨1, by decide, one_lt v _ (by omega), by rw [Rat.mul_zero]; exact Iz.zero⟩, Rat.le_refl⟩
    unfold pickFar
    cases (same || i == j) with
    | true => exact ⟨⟨1, by decide, one_lt v _ (by omega), lam1 v (ss i).lam⟩, (ss i).e0⟩
    | false =>
      obtain ⟨c, c0, cN, cz⟩ := apart_iz v (N := n + T + 49) (by omega) (s := (selE a b i).rp) (t := (selE a b j).tp) (ss i).mlo (ss i).mhi (ss j).tlo (ss j).thi
      refine ⟨⟨c, c0, cN, ?_⟩, apart_nn (ss i).lr (ss j).lt⟩
      rw [Rat.mul_assoc]
      exact (Iz.int Λ).mul cz
  obtain ⟨i, hi⟩ : ∃ i, i = (sidesS x.rp y.rp).headD false := ⟨_, rfl⟩
  obtain ⟨i', hi'⟩ : ∃ i, i = (sidesS x.rp y.rp).getLastD false := ⟨_, rfl⟩
  obtain ⟨j, hj⟩ : ∃ i, i = (sidesS x.tp y.tp).headD false := ⟨_, rfl⟩
  obtain ⟨j', hj'⟩ : ∃ i, i = (sidesS x.tp y.tp).getLastD false := ⟨_, rfl⟩
  have hg : ∀ g, lessG (selE a b i).gr (selE a b i').gr = some g → g ≤ ((2 * n + 1 : Nat) : Int) + 1 := fun g e => by
    have := lessG_bd v (ss i).gr (ss i').gr g e
    omega
  have h1 := mn (fun q => mult r q (plc r q)) _ _ (ss i).mlo (ss i').mlo
  have h2 := mn (fun q => mult r q (plc r q)) _ _ (ss i).mhi (ss i').mhi
  have h3 := mn (fun q => qabs q ≤ P2 (2 * n + 1)) _ _ (up_bd v (ss i).slo) (up_bd v (ss i').slo)
  have h4 := mn (fun q => qabs q ≤ P2 (2 * n + 1)) _ _ (up_bd v (ss i).shi) (up_bd v (ss i').shi)
  have h5 := mn (fun q => Bt (2 * T + 1) q) _ _ ((ss j).tlo.mono (by omega)) ((ss j').tlo.mono (by omega))
  have h6 := mn (fun q => Bt (2 * T + 1) q) _ _ ((ss j).thi.mono (by omega)) ((ss j').thi.mono (by omega))
  have e : pickE r same x y a b = lastE r (hullS (selE a b i).rp (selE a b i').rp) (hullS (selE a b j).tp (selE a b j').tp) (pickErr same a b (sidesS x.rp y.rp) (sidesS x.tp y.tp)) (lessG (selE a b i).gr (selE a b i').gr) := by
    rw [hi, hi', hj, hj']
    rfl
  rw [e]
  exact lastE_EI v (n := 2 * n + 1) (T := 2 * T + 1) (c := c) (by omega) ((ss i).inR.hullL (t := (selE a b i').rp)).le ((ss j).inT.hullL (t := (selE a b j').tp)).le h1.1 h2.2 h3.1 h4.2 h5.1 h6.2 e0 c0 cN (by omega) cz hg
theorem markE_EI {lo hi : Rat} (h1 : IsBm r 5 lo) (h2 : IsBm r 5 hi) (h : lo ≤ hi) : EI r 37 38 1 (entMarks r lo hi) := by
  have bd : ∀ m, IsBm r 5 m → qabs m ≤ P2 37 := fun m hm => by
    have hb := hm.bd
    have e5 : ((2 ^ 5 : Int) : Rat) = P2 5 := rfl
    have a := pw_le v (show r.L + 4 + r.F ≤ ((8 : Nat) : Int) by
      have := v.l1
      have := v.f3
      omega)
    have b := pw_le16 v (n := 8)
    have e : ((16 ^ 8 : Int) : Rat) = P2 32 := by
      unfold P2
      congr 1
    have h3 := Rat.mul_le_mul_of_nonneg_left (show pw r (r.L + 4 + r.F) ≤ P2 32 by grind) (show 0 ≤ P2 5 by have := P2_pos 5; grind)
    have h4 : P2 (5 + 32) = P2 5 * P2 32 := P2_add 5 32
    have h5 : P2 37 = P2 (5 + 32) := rfl
    rw [e5] at hb
    grind
  refine ⟨h, h, h1.isM, h2.isM, bd _ h1, bd _ h2, (bm_Bt v h1 (by decide)).1, (bm_Bt v h2 (by decide)).1, Rat.le_refl, apart_nn h h, ?_, fun g e => ?_⟩
  · show Iz (((1 : Int) : Rat) * 0)
    rw [Rat.mul_zero]
    exact Iz.zero
  · exact gsp_bd v (n := 37) (by decide) h1.isM (bd _ h1) (bd _ h2) h g e
end
end Rs
end

section
set_option Elab.async false
set_option linter.all false
set_option maxRecDepth 100000
set_option maxHeartbeats 4000000
namespace Rs
open PySem PySem.Spec L2
/-! ### data in the heap -/
abbrev D := PyData
abbrev DEnv := List (Option D)
section
variable {K : PySem.W.Frag} {F F' H H' F1 H1 : Hp}
theorem Same.sqt {a : Addr} {xs : List V} (e : Same H H') (h : SqT K H a xs) : SqT K H' a xs := by
  rcases h with (h | ⟨o, h⟩) | h
  · exact .inl (.inl (e _ _ h))
  · exact .inl (.inr ⟨o, e _ _ h⟩)
  · exact .inr h
mutual
theorem dp_mono (e : Same F F') : ∀ {d : D} {v : V}, Dp K F v d → Dp K F' v d
  | _, _, .non => .non
  | _, _, .bl b => .bl b
  | _, _, .int i => .int i
  | _, _, .str x => .str x
  | _, _, .lst h ha => .lst (Same.seq e h) (dpa_mono e ha)
  | _, _, .tup h ha => .tup (Same.sqt e h) (dpa_mono e ha)
theorem dpa_mono (e : Same F F') : ∀ {ds : List D} {vs : List V}, DpAll K F vs ds → DpAll K F' vs ds
  | _, _, .nil => .nil
  | _, _, .cons h ha => .cons (dp_mono e h) (dpa_mono e ha)
end
theorem dpa_len : ∀ {ds : List D} {vs : List V}, DpAll K F vs ds → vs.length = ds.length
  | _, _, .nil => rfl
  | _, _, .cons _ ha => congrArg Nat.succ (dpa_len ha)
theorem dpa_get : ∀ {ds : List D} {vs : List V} {j : Nat} {d : D}, DpAll K F vs ds → ds[j]? = some d → ∃ v, vs[j]? = some v ∧ Dp K F v d
  | _, _, j, d, .nil, h => by simp at h
  | _, _, 0, d, .cons h1 ha, h => by
    simp at h
    subst h
    exact ⟨_, rfl, h1⟩
  | _, _, j + 1, d, .cons h1 ha, h => by
    obtain ⟨v, h2, h3⟩ := dpa_get (j := j) ha (by simpa using h)
    exact ⟨v, by simpa using h2, h3⟩
theorem dpa_getV : ∀ {ds : List D} {vs : List V} {j : Nat} {v : V}, DpAll K F vs ds → vs[j]? = some v → ∃ d, ds[j]? = some d ∧ Dp K F v d
  | _, _, j, d, .nil, h => by simp at h
  | _, _, 0, d, .cons h1 ha, h => by
    simp at h
    subst h
    exact ⟨_, rfl, h1⟩
  | _, _, j + 1, d, .cons h1 ha, h => by
    obtain ⟨v, h2, h3⟩ := dpa_getV (j := j) ha (by simpa using h)
    exact ⟨v, by simpa using h2, h3⟩
theorem dpa_app : ∀ {ds es : List D} {vs ws : List V}, DpAll K F vs ds → DpAll K F ws es → DpAll K F (vs ++ ws) (ds ++ es)
  | _, _, _, _, .nil, h => h
  | _, _, _, _, .cons h1 ha, h => .cons h1 (dpa_app ha h)
theorem dpa_drop : ∀ {ds : List D} {vs : List V} (n : Nat), DpAll K F vs ds → DpAll K F (vs.drop n) (ds.drop n)
  | _, _, 0, h => h
  | _, _, n + 1, .nil => .nil
  | _, _, n + 1, .cons _ ha => dpa_drop n ha
theorem dpa_take : ∀ {ds : List D} {vs : List V} (n : Nat), DpAll K F vs ds → DpAll K F (vs.take n) (ds.take n)
  | _, _, 0, h => .nil
  | _, _, n + 1, .nil => .nil
  | _, _, n + 1, .cons h ha => .cons h (dpa_take n ha)
theorem dpa_atI {ds : List D} {vs : List V} {i : Int} {d : D} (h : DpAll K F vs ds) (e : atI ds i = some d) : ∃ v, atI vs i = some v ∧ Dp K F v d := by
  unfold atI at e ⊢
  rw [dpa_len h]
  cases q : ixN ds.length i with
  | none =>
    rw [q] at e
    cases e
  | some j =>
    rw [q] at e
    exact dpa_get h e
/-- a slice of data, as cutV -/
def cutD (xs : List D) (lo hi : Option Int) : List D := (xs.drop (HT.sIx xs.length 0 lo)).take (HT.sIx xs.length xs.length hi - HT.sIx xs.length 0 lo)
theorem dpa_cut {ds : List D} {vs : List V} (h : DpAll K F vs ds) (lo hi : Option Int) : DpAll K F (cutV vs lo hi) (cutD ds lo hi) := by
  unfold cutV cutD
  rw [dpa_len h]
  exact dpa_take _ (dpa_drop _ h)
/-! ### one step: F the unchanging part, H the whole -/
structure Step (F H F' H' : Hp) : Prop where
  ff : Same F F'
  fh : Same F' H'
  hh : Same H H'
  fr : ∀ a, H a ≠ none → F a = none → F' a = none
theorem Step.refl (h : Same F H) : Step F H F H := ⟨.refl _, h, .refl _, fun _ _ h => h⟩
theorem Step.trans (a : Step F H F1 H1) (b : Step F1 H1 F' H') : Step F H F' H' :=
  ⟨a.ff.trans b.ff, b.fh, a.hh.trans b.hh, fun x h1 h2 => by
    refine b.fr x (fun z => ?_) (a.fr x h1 h2)
    cases q : H x with
    | none => exact h1 q
    | some o =>
      rw [a.hh x o q] at z
      cases z⟩
theorem Step.new {p : Addr} {o : HO} (h : Same F H) (hp : H p = none) : Step F H (upd F p o) (upd H p o) := by
  have hf : F p = none := Same.free h hp
  refine ⟨fun a u e => ?_, fun a u e => ?_, fun a u e => ?_, fun a h1 h2 => ?_⟩
  · rw [upd_ne (ne_of_none e hf)]
    exact e
  · by_cases q : a = p
    · subst q
      rw [upd_same] at e ⊢
      exact e
    · rw [upd_ne q] at e ⊢
      exact h a u e
  · rw [upd_ne (ne_of_none e hp)]
    exact e
  · have q : a ≠ p := fun z => h1 (by rw [z]; exact hp)
    rw [upd_ne q]
    exact h2
/-- what was tracked outside F stays as it was, outside F' -/
theorem Step.own (s : Step F H F' H') {a : Addr} {o : HO} (h : H a = some o) (hf : F a = none) : H' a = some o ∧ F' a = none :=
  ⟨s.hh a o h, s.fr a (by rw [h]; simp) hf⟩
structure EnvOk (K : PySem.W.Frag) (F : Hp) (ρ : DEnv) (σ : St) (H : Hp) : Prop where
  fh : Same F H
  len : ρ.length = σ.length
  at_ : ∀ (i : Nat) (d : D), ρ[i]? = some (some d) → ∃ v, σ[i]? = some (some v) ∧ Dp K F v d
variable {ρ : DEnv} {σ : St} {d : D} {v : V}
theorem EnvOk.step (e : EnvOk K F ρ σ H) (s : Step F H F' H') : EnvOk K F' ρ σ H' :=
  ⟨s.fh, e.len, fun i d h => let ⟨v, h1, h2⟩ := e.at_ i d h; ⟨v, h1, dp_mono s.ff h2⟩⟩
theorem EnvOk.set (e : EnvOk K F ρ σ H) (i : Nat) (h : Dp K F v d) : EnvOk K F (ρ.set i (some d)) (σ.set i (some v)) H := by
  refine ⟨e.fh, by simpa using e.len, fun j d' hj => ?_⟩
  by_cases q : i = j
  · subst q
    have hi : i < ρ.length := by
      have := List.getElem?_eq_some_iff.mp hj
      obtain ⟨h1, _⟩ := this
      simpa using h1
    rw [List.getElem?_set_self hi] at hj
    cases hj
    exact ⟨v, List.getElem?_set_self (by rw [← e.len]; exact hi), h⟩
  · rw [List.getElem?_set_ne q] at hj
    obtain ⟨v', h1, h2⟩ := e.at_ j d' hj
    exact ⟨v', by rw [List.getElem?_set_ne q]; exact h1, h2⟩
/-- a slot of which nothing is told -/
theorem EnvOk.setU (e : EnvOk K F ρ σ H) (i : Nat) (v : V) : EnvOk K F (ρ.set i none) (σ.set i (some v)) H := by
  refine ⟨e.fh, by simpa using e.len, fun j d' hj => ?_⟩
  by_cases q : i = j
  · subst q
    have hi : i < ρ.length := by
      have := List.getElem?_eq_some_iff.mp hj
      obtain ⟨h1, _⟩ := this
      simpa using h1
    rw [List.getElem?_set_self hi] at hj
    cases hj
  · rw [List.getElem?_set_ne q] at hj
    obtain ⟨v', h1, h2⟩ := e.at_ j d' hj
    exact ⟨v', by rw [List.getElem?_set_ne q]; exact h1, h2⟩
theorem EnvOk.weak {ρ' : DEnv} (e : EnvOk K F ρ σ H) (hl : ρ'.length = ρ.length) (h : ∀ (i : Nat) (d : D), ρ'[i]? = some (some d) → ρ[i]? = some (some d)) : EnvOk K F ρ' σ H :=
  ⟨e.fh, hl.trans e.len, fun i d q => e.at_ i d (h i d q)⟩
/-- the slots of a comprehension's own names are empty -/
theorem EnvOk.wipe (e : EnvOk K F ρ σ H) : ∀ (vs : List Nat), (∀ i ∈ vs, ∀ d, ρ[i]? ≠ some (some d)) → EnvOk K F ρ (wipe σ vs) H
  | [], _ => e
  | j :: vs, h => by
    have ih := EnvOk.wipe e vs fun i hi => h i (List.mem_cons_of_mem _ hi)
    refine ⟨e.fh, by unfold L2.wipe; rw [List.length_set]; exact ih.len, fun i d hd => ?_⟩
    have q : j ≠ i := fun z => h j List.mem_cons_self d (by rw [z]; exact hd)
    obtain ⟨v, h1, h2⟩ := ih.at_ i d hd
    exact ⟨v, by unfold L2.wipe; rw [List.getElem?_set_ne q]; exact h1, h2⟩
end
/-! ### readings of any make: some rule's reading holds -/
def UE (X : Cx) (e : Expr) : TE := fun σ H Q => ∃ t, PE X e t ∧ t σ H Q
def UT (X : Cx) (e : Expr) : TT := fun σ H Q => ∃ t, PT X e t ∧ t σ H Q
def UA (X : Cx) (es : List Expr) : TA := fun σ H Q => ∃ t, PA X es t ∧ t σ H Q
def US (X : Cx) (sts : List Stmt) : TS := fun Dn σ H => ∃ t, PSs X sts t ∧ t Dn σ H
section
variable {X : Cx} {e a b c : Expr} {es : List Expr} {sts : List Stmt}
theorem pe_u : PE X e (UE X e) := ⟨fun pins s σ H Q I ⟨_, h1, h2⟩ => h1.run pins s σ H Q I h2⟩
theorem pt_u : PT X e (UT X e) := ⟨fun pins s σ H Q I ⟨_, h1, h2⟩ => h1.run pins s σ H Q I h2⟩
theorem pa_u : PA X es (UA X es) := ⟨fun pos pins s σ H Q I ⟨_, h1, h2⟩ => h1.run pos pins s σ H Q I h2⟩
theorem pss_u : PSs X sts (US X sts) := ⟨fun pins s σ H Dn I ⟨_, h1, h2⟩ => h1.run pins s σ H Dn I h2⟩
theorem ue {t : TE} (h : PE X e t) {σ : St} {H : Hp} {Q : VK} (q : t σ H Q) : UE X e σ H Q := ⟨t, h, q⟩
theorem pe_never : PE X e (fun _ _ _ => False) := ⟨fun _ _ _ _ _ _ h => h.elim⟩
/-! ### what evaluates to what -/
def EvD (K : PySem.W.Frag) (t : TE) (ρ : DEnv) (d : D) : Prop := ∀ (F : Hp) (σ : St) (H : Hp) (Q : VK), EnvOk K F ρ σ H → (∀ v F' H', Step F H F' H' → Dp K F' v d → Q v H') → t σ H Q
def EvT (K : PySem.W.Frag) (t : TT) (ρ : DEnv) (b : Bool) : Prop := ∀ (F : Hp) (σ : St) (H : Hp) (Q : Bool → Hp → Prop), EnvOk K F ρ σ H → (∀ F' H', Step F H F' H' → Q b H') → t σ H Q
def EvA (K : PySem.W.Frag) (t : TA) (ρ : DEnv) (ds : List D) : Prop := ∀ (F : Hp) (σ : St) (H : Hp) (Q : List V → Hp → Prop), EnvOk K F ρ σ H → (∀ vs F' H', Step F H F' H' → DpAll K F' vs ds → Q vs H') → t σ H Q
def StD (K : PySem.W.Frag) (t : TS) (ρ : DEnv) (N : DEnv → Prop) (R : D → Prop) : Prop := ∀ (F : Hp) (σ : St) (H : Hp) (Dn : Ends), EnvOk K F ρ σ H →
  (∀ ρ' σ' F' H', N ρ' → Step F H F' H' → EnvOk K F' ρ' σ' H' → Dn.nx σ' H') → (∀ d v F' H', R d → Step F H F' H' → Dp K F' v d → Dn.rt v H') → t Dn σ H
abbrev PD (X : Cx) (e : Expr) (ρ : DEnv) (d : D) : Prop := EvD X.K (UE X e) ρ d
abbrev PDT (X : Cx) (e : Expr) (ρ : DEnv) (b : Bool) : Prop := EvT X.K (UT X e) ρ b
abbrev PDA (X : Cx) (es : List Expr) (ρ : DEnv) (ds : List D) : Prop := EvA X.K (UA X es) ρ ds
abbrev PDs (X : Cx) (sts : List Stmt) (ρ : DEnv) (N : DEnv → Prop) (R : D → Prop) : Prop := StD X.K (US X sts) ρ N R
variable {ρ : DEnv} {d d1 d2 : D} {ds : List D} {t : TE} {tt : TT} {ta : TA} {pos : Pos}
theorem pd_of (h : PE X e t) (q : EvD X.K t ρ d) : PD X e ρ d := fun F σ H Q he k => ⟨t, h, q F σ H Q he k⟩
theorem pdt_of {b' : Bool} (h : PT X e tt) (q : EvT X.K tt ρ b') : PDT X e ρ b' := fun F σ H Q he k => ⟨tt, h, q F σ H Q he k⟩
theorem pd_is (h : PD X e ρ d1) (q : d1 = d2) : PD X e ρ d2 := q ▸ h
/-! ### expressions -/
theorem pd_var (i : Nat) {x : Str} {d : D} (h : ρ[i]? = some (some d) := by rfl) (hN : X.N[i]? = some x := by rfl) (hv : Vis X.env.scope x := by first | exact Or.inl rfl | exact Or.inr (Or.inl rfl) | exact Or.inr (Or.inr rfl)) (hd : (x == ("__debug__" : Str)) = false := by decide)
    (hcd : (x == ("__classdict__" : Str)) = false := by decide) : PD X (.Name x pos) ρ d := pd_of (pe_var hN hv hd hcd) fun F σ H Q he k => by
  obtain ⟨v, h1, h2⟩ := he.at_ i d h
  exact ⟨v, h1, k v F H (Step.refl he.fh) h2⟩
theorem pd_c {v : V} (h : PE X e (tC v)) (hd : ∀ F, Dp X.K F v d) : PD X e ρ d := pd_of h fun F σ H Q he k => k v F H (Step.refl he.fh) (hd F)
theorem pd_int {i j} : PD X (.Constant (.int i) j pos) ρ (.int i) := pd_c pe_int fun _ => .int i
theorem pd_str {x j} : PD X (.Constant (.str x) j pos) ρ (.str x) := pd_c pe_str fun _ => .str x
theorem pd_bl {x j} : PD X (.Constant (.bool x) j pos) ρ (.bool x) := pd_c pe_bl fun _ => .bl x
theorem pd_non {j} : PD X (.Constant .none j pos) ρ .none := pd_c pe_non fun _ => .non
/-- two parts, then an operation on values -/
theorem ev_op {r : R2} {ta tb : TE} {K : PySem.W.Frag} (ha : EvD K ta ρ d1) (hb : EvD K tb ρ d2) (hr : ∀ F H x y Q, Same F H → Dp K F x d1 → Dp K F y d2 → (∀ v F' H', Step F H F' H' → Dp K F' v d → Q v H') → r x y H Q) : EvD K (tOp r ta tb) ρ d := fun F σ H Q he k =>
  ha F σ H _ he fun x F1 H1 s1 h1 => hb F1 σ H1 _ (he.step s1) fun y F2 H2 s2 h2 => hr F2 H2 x y Q s2.fh (dp_mono s2.ff h1) h2 fun v F3 H3 s3 h3 => k v F3 H3 ((s1.trans s2).trans s3) h3
theorem dp_int {K : PySem.W.Frag} {F : Hp} {v : V} {i : Int} (h : Dp K F v (.int i)) : v = .int i := by cases h; rfl
theorem dp_bl {K : PySem.W.Frag} {F : Hp} {v : V} {i : Bool} (h : Dp K F v (.bool i)) : v = .bl i := by cases h; rfl
theorem dp_str {K : PySem.W.Frag} {F : Hp} {v : V} {i : Str} (h : Dp K F v (.str i)) : v = .str i := by cases h; rfl
theorem dp_non {K : PySem.W.Frag} {F : Hp} {v : V} (h : Dp K F v .none) : v = .non := by cases h; rfl
theorem dp_tup {K : PySem.W.Frag} {F : Hp} {v : V} {ds : List D} (h : Dp K F v (.tuple ds)) : ∃ a xs, v = .ref a ∧ SqT K F a xs ∧ DpAll K F xs ds := by
  cases h with
  | tup h ha => exact ⟨_, _, rfl, h, ha⟩
theorem dp_lst {K : PySem.W.Frag} {F : Hp} {v : V} {ds : List D} (h : Dp K F v (.list ds)) : ∃ a xs, v = .ref a ∧ SqL K F a xs ∧ DpAll K F xs ds := by
  cases h with
  | lst h ha => exact ⟨_, _, rfl, h, ha⟩
theorem pd_opI {op : Operator} {C : Int → Int → Prop} {g : Int → Int → V} {i j : Int} {z : D} (ho : OpR X (binaryOp op) (rI C g)) (hz : ∀ F, Dp X.K F (g i j) z) (ha : PD X a ρ (.int i)) (hb : PD X b ρ (.int j)) (hc : C i j) : PD X (.BinOp a op b pos) ρ z :=
  pd_of (pe_op ho pe_u pe_u) (ev_op ha hb fun F H x y Q hs h1 h2 k => ⟨i, j, dp_int h1, dp_int h2, hc, k _ F H (Step.refl hs) (hz F)⟩)
theorem pd_opI0 {op : Operator} {g : Int → Int → V} {i j : Int} {z : D} (ho : OpR X (binaryOp op) (rI0 g)) (hz : ∀ F, Dp X.K F (g i j) z) (ha : PD X a ρ (.int i)) (hb : PD X b ρ (.int j)) : PD X (.BinOp a op b pos) ρ z :=
  pd_of (pe_op ho pe_u pe_u) (ev_op ha hb fun F H x y Q hs h1 h2 k => ⟨i, j, dp_int h1, dp_int h2, k _ F H (Step.refl hs) (hz F)⟩)
variable {i j : Int}
theorem pd_add (ha : PD X a ρ (.int i)) (hb : PD X b ρ (.int j)) : PD X (.BinOp a .Add b pos) ρ (.int (i + j)) := pd_opI0 op_add (fun _ => .int _) ha hb
theorem pd_sub (ha : PD X a ρ (.int i)) (hb : PD X b ρ (.int j)) : PD X (.BinOp a .Sub b pos) ρ (.int (i - j)) := pd_opI0 op_sub (fun _ => .int _) ha hb
theorem pd_mulW (ha : PD X a ρ (.int i)) (hb : PD X b ρ (.int j)) (h : CMulW i j) : PD X (.BinOp a .Mult b pos) ρ (.int (i * j)) := pd_opI op_mulW (fun _ => .int _) ha hb h
theorem pd_mul (ha : PD X a ρ (.int i)) (hb : PD X b ρ (.int j)) (h : CMul i j) : PD X (.BinOp a .Mult b pos) ρ (.int (i * j)) := pd_opI op_mul (fun _ => .int _) ha hb h
theorem pd_fdivW (ha : PD X a ρ (.int i)) (hb : PD X b ρ (.int j)) (h : CDivW i j) : PD X (.BinOp a .FloorDiv b pos) ρ (.int (i / j)) := pd_opI op_fdivW (fun _ => .int _) ha hb h
theorem pd_fdiv (ha : PD X a ρ (.int i)) (hb : PD X b ρ (.int j)) (h : CDiv i j) : PD X (.BinOp a .FloorDiv b pos) ρ (.int (i / j)) := pd_opI op_fdiv (fun _ => .int _) ha hb h
theorem pd_mod (ha : PD X a ρ (.int i)) (hb : PD X b ρ (.int j)) (h : 0 < j) : PD X (.BinOp a .Mod b pos) ρ (.int (i % j)) := pd_opI op_mod (fun _ => .int _) ha hb h
theorem pd_pow (ha : PD X a ρ (.int i)) (hb : PD X b ρ (.int j)) (h : CPow i j) : PD X (.BinOp a .Pow b pos) ρ (.int (i ^ j.toNat)) := pd_opI op_pow (fun _ => .int _) ha hb h
theorem pd_neg (ha : PD X a ρ (.int i)) : PD X (.UnaryOp .USub a pos) ρ (.int (-i)) := pd_of (pe_un un_neg pe_u) fun F σ H Q he k => ha F σ H _ he fun x F1 H1 s1 h1 => ⟨i, dp_int h1, k _ F1 H1 s1 (.int _)⟩
/-! ### comparisons -/
structure QC (X : Cx) (op : CmpOp) (a b : Expr) (ρ : DEnv) (k : Bool) : Prop where
  ex : ∃ r : R2, OpR X (compareOp op) r ∧ behindInMarks op b = false ∧ EvD X.K (tOp r (UE X a) (UE X b)) ρ (.bool k)
theorem qc_is {op : CmpOp} {k k2 : Bool} (h : QC X op a b ρ k) (e : k = k2) : QC X op a b ρ k2 := e ▸ h
theorem pd_cmp {op : CmpOp} {k : Bool} (h : QC X op a b ρ k) : PD X (.Compare a [op] [b] pos) ρ (.bool k) := by
  obtain ⟨r, ho, hm, he⟩ := h.ex
  exact pd_of (pe_cmpR ho pe_u pe_u hm) he
theorem qc_I {op : CmpOp} {p : Int → Int → Bool} (ho : OpR X (compareOp op) (rI0 fun i j => .bl (p i j))) (hm : behindInMarks op b = false) (ha : PD X a ρ (.int i)) (hb : PD X b ρ (.int j)) : QC X op a b ρ (p i j) :=
  ⟨_, ho, hm, ev_op ha hb fun F H x y Q hs h1 h2 k => ⟨i, j, dp_int h1, dp_int h2, k _ F H (Step.refl hs) (.bl _)⟩⟩
theorem qc_lt (ha : PD X a ρ (.int i)) (hb : PD X b ρ (.int j)) : QC X .Lt a b ρ (decide (i < j)) := qc_I op_lt (nomark _) ha hb
theorem qc_le (ha : PD X a ρ (.int i)) (hb : PD X b ρ (.int j)) : QC X .LtE a b ρ (decide (i ≤ j)) := qc_I op_le (nomark _) ha hb
theorem qc_gt (ha : PD X a ρ (.int i)) (hb : PD X b ρ (.int j)) : QC X .Gt a b ρ (decide (j < i)) := qc_I op_gt (nomark _) ha hb
theorem qc_ge (ha : PD X a ρ (.int i)) (hb : PD X b ρ (.int j)) : QC X .GtE a b ρ (decide (j ≤ i)) := qc_I op_ge (nomark _) ha hb
/-- == of flat things -/
theorem qc_eq {x y : V} (hx : ∀ F v, Dp X.K F v d1 → v = x) (hy : ∀ F v, Dp X.K F v d2 → v = y) (hs : scal x y = true) (ha : PD X a ρ d1) (hb : PD X b ρ d2) : QC X .Eq a b ρ (decide (x = y)) :=
  ⟨_, op_eq, nomark _, ev_op ha hb fun F H u v Q hh h1 h2 k => ⟨by rw [hx _ _ h1, hy _ _ h2]; exact hs, by rw [hx _ _ h1, hy _ _ h2]; exact k _ F H (Step.refl hh) (.bl _)⟩⟩
theorem qc_eqI (ha : PD X a ρ (.int i)) (hb : PD X b ρ (.int j)) : QC X .Eq a b ρ (decide (i = j)) :=
  qc_is (qc_eq (x := .int i) (y := .int j) (fun _ _ h => dp_int h) (fun _ _ h => dp_int h) rfl ha hb) (by simp)
theorem qc_eqS {x y : Str} (ha : PD X a ρ (.str x)) (hb : PD X b ρ (.str y)) : QC X .Eq a b ρ (decide (x = y)) :=
  qc_is (qc_eq (x := .str x) (y := .str y) (fun _ _ h => dp_str h) (fun _ _ h => dp_str h) rfl ha hb) (by simp)
/-- == and != of data at any depth -/
theorem qc_eqD (hu : X.A.units + 64 < cLine) (ha : PD X a ρ d1) (hb : PD X b ρ d2) (h1 : SeqAt.shaped d1 = true) (h2 : SeqAt.shaped d2 = true) : QC X .Eq a b ρ (PyData.eqv d1 d2) :=
  ⟨_, op_eqD hu, nomark _, ev_op ha hb fun F H x y Q hs g1 g2 k => ⟨d1, d2, dp_mono hs g1, dp_mono hs g2, h1, h2, k _ F H (Step.refl hs) (.bl _)⟩⟩
theorem qc_neD (hu : X.A.units + 64 < cLine) (ha : PD X a ρ d1) (hb : PD X b ρ d2) (h1 : SeqAt.shaped d1 = true) (h2 : SeqAt.shaped d2 = true) : QC X .NotEq a b ρ (!PyData.eqv d1 d2) :=
  ⟨_, op_neD hu, nomark _, ev_op ha hb fun F H x y Q hs g1 g2 k => ⟨d1, d2, dp_mono hs g1, dp_mono hs g2, h1, h2, k _ F H (Step.refl hs) (.bl _)⟩⟩
def isNon : D → Bool
  | .none => true
  | _ => false
theorem dp_isNon {K : PySem.W.Frag} {F : Hp} {v : V} {d : D} (h : Dp K F v d) : decide (v = .non) = isNon d := by cases h <;> rfl
theorem qc_isN {j p2} (ha : PD X a ρ d) : QC X .Is a (.Constant .none j p2) ρ (isNon d) :=
  ⟨_, op_isN, nomark _, ev_op ha pd_non fun F H x y Q hs h1 h2 k => ⟨dp_non h2, by rw [dp_isNon h1]; exact k _ F H (Step.refl hs) (.bl _)⟩⟩
theorem qc_notN {j p2} (ha : PD X a ρ d) : QC X .IsNot a (.Constant .none j p2) ρ (!isNon d) :=
  ⟨_, op_notN, nomark _, ev_op ha pd_non fun F H x y Q hs h1 h2 k => ⟨dp_non h2, by rw [dp_isNon h1]; exact k _ F H (Step.refl hs) (.bl _)⟩⟩
/-! ### tests, and, or, not, if -/
theorem pdt_val {b' : Bool} (h : PD X e ρ (.bool b')) (he : ∀ whole, isTrue e X.env whole = (do let v ← whole; standAt e.pos; holding [v] (truthy v)) := by intro _; rfl) : PDT X e ρ b' :=
  pdt_of (pt_val pe_u he) fun F σ H Q hE k => h F σ H _ hE fun x F1 H1 s1 h1 => ⟨b', dp_bl h1, k F1 H1 s1⟩
theorem pdt_cmp {op : CmpOp} {k : Bool} (h : QC X op a b ρ k) : PDT X (.Compare a [op] [b] pos) ρ k := by
  obtain ⟨r, ho, hm, he⟩ := h.ex
  exact pdt_of (pt_cmpR ho pe_u pe_u hm) fun F σ H Q hE q => he F σ H _ hE fun x F1 H1 s1 h1 => ⟨k, dp_bl h1, q F1 H1 s1⟩
theorem pdt_not {b' : Bool} (h : PDT X a ρ b') : PDT X (.UnaryOp .Not a pos) ρ (!b') := pdt_of (pt_not pt_u) fun F σ H Q hE k => h F σ H _ hE fun F1 H1 s1 => k F1 H1 s1
def UW (X : Cx) (e : Expr) : TT := fun σ H Q => ∃ t, PW X e t ∧ t σ H Q
theorem pw_u : PW X e (UW X e) := ⟨fun wh pins s σ H Q I ⟨_, h1, h2⟩ => h1.run wh pins s σ H Q I h2⟩
abbrev PDW (X : Cx) (e : Expr) (ρ : DEnv) (b : Bool) : Prop := EvT X.K (UW X e) ρ b
theorem pdw_of {tt : TT} {b' : Bool} (h : PW X e tt) (q : EvT X.K tt ρ b') : PDW X e ρ b' := fun F σ H Q he k => ⟨tt, h, q F σ H Q he k⟩
theorem pdw {b' : Bool} (h : PDW X e ρ b') : PDT X e ρ b' := pdt_of (PW.pt pw_u) h
theorem ev_and {K : PySem.W.Frag} {t u : TT} {b1 b2 : Bool} (h1 : EvT K t ρ b1) (h2 : b1 = true → EvT K u ρ b2) : EvT K (tAnd t u) ρ (b1 && b2) := fun F σ H Q hE k => h1 F σ H _ hE fun F1 H1 s1 => by
  cases b1 with
  | true => exact h2 rfl F1 σ H1 Q (hE.step s1) fun F2 H2 s2 => k F2 H2 (s1.trans s2)
  | false => exact k F1 H1 s1
theorem ev_or {K : PySem.W.Frag} {t u : TT} {b1 b2 : Bool} (h1 : EvT K t ρ b1) (h2 : b1 = false → EvT K u ρ b2) : EvT K (tOr t u) ρ (b1 || b2) := fun F σ H Q hE k => h1 F σ H _ hE fun F1 H1 s1 => by
  cases b1 with
  | false => exact h2 rfl F1 σ H1 Q (hE.step s1) fun F2 H2 s2 => k F2 H2 (s1.trans s2)
  | true => exact k F1 H1 s1
theorem pdw_and1 {b' : Bool} (h : PDT X a ρ b') : PDW X (.BoolOp .And [a] pos) ρ b' := pdw_of (pw_and1 pt_u) h
theorem pdw_or1 {b' : Bool} (h : PDT X a ρ b') : PDW X (.BoolOp .Or [a] pos) ρ b' := pdw_of (pw_or1 pt_u) h
theorem pdw_and {rest : List Expr} {b1 b2 : Bool} (h1 : PDT X a ρ b1) (h2 : b1 = true → PDW X (.BoolOp .And (b :: rest) pos) ρ b2) : PDW X (.BoolOp .And (a :: b :: rest) pos) ρ (b1 && b2) := pdw_of (pw_and pt_u pw_u) (ev_and h1 h2)
theorem pdw_or {rest : List Expr} {b1 b2 : Bool} (h1 : PDT X a ρ b1) (h2 : b1 = false → PDW X (.BoolOp .Or (b :: rest) pos) ρ b2) : PDW X (.BoolOp .Or (a :: b :: rest) pos) ρ (b1 || b2) := pdw_of (pw_or pt_u pw_u) (ev_or h1 h2)
theorem pd_one {op} (h : PD X a ρ d) : PD X (.BoolOp op [a] pos) ρ d := pd_of (pe_one pe_u) h
theorem pd_and {rest : List Expr} {b1 b2 : Bool} (h1 : PD X a ρ (.bool b1)) (h2 : b1 = true → PD X (.BoolOp .And (b :: rest) pos) ρ (.bool b2)) : PD X (.BoolOp .And (a :: b :: rest) pos) ρ (.bool (b1 && b2)) := pd_of (pe_and pe_u pe_u) fun F σ H Q hE k => h1 F σ H _ hE fun x F1 H1 s1 g1 => ⟨b1, dp_bl g1, by
  cases b1 with
  | true =>
    show UE X _ σ H1 Q
    exact h2 rfl F1 σ H1 Q (hE.step s1) fun v F2 H2 s2 => k v F2 H2 (s1.trans s2)
  | false =>
    show Q (.bl false) H1
    exact k _ F1 H1 s1 (.bl _)⟩
theorem pd_or {rest : List Expr} {b1 b2 : Bool} (h1 : PD X a ρ (.bool b1)) (h2 : b1 = false → PD X (.BoolOp .Or (b :: rest) pos) ρ (.bool b2)) : PD X (.BoolOp .Or (a :: b :: rest) pos) ρ (.bool (b1 || b2)) := pd_of (pe_or pe_u pe_u) fun F σ H Q hE k => h1 F σ H _ hE fun x F1 H1 s1 g1 => ⟨b1, dp_bl g1, by
  cases b1 with
  | false =>
    show UE X _ σ H1 Q
    exact h2 rfl F1 σ H1 Q (hE.step s1) fun v F2 H2 s2 => k v F2 H2 (s1.trans s2)
  | true =>
    show Q (.bl true) H1
    exact k _ F1 H1 s1 (.bl _)⟩
theorem pd_not {b' : Bool} (h : PD X a ρ (.bool b')) : PD X (.UnaryOp .Not a pos) ρ (.bool (!b')) := pd_of (pe_not pe_u) fun F σ H Q hE k => h F σ H _ hE fun x F1 H1 s1 g1 => ⟨b', dp_bl g1, k _ F1 H1 s1 (.bl _)⟩
theorem pd_if {b' : Bool} (hc : PDT X c ρ b') (h1 : b' = true → PD X a ρ d) (h2 : b' = false → PD X b ρ d) : PD X (.IfExp c a b pos) ρ d := pd_of (pe_ifExp pt_u pe_u pe_u) fun F σ H Q hE k => hc F σ H _ hE fun F1 H1 s1 => by
  cases b' with
  | true => exact h1 rfl F1 σ H1 Q (hE.step s1) fun v F2 H2 s2 => k v F2 H2 (s1.trans s2)
  | false => exact h2 rfl F1 σ H1 Q (hE.step s1) fun v F2 H2 s2 => k v F2 H2 (s1.trans s2)
/-- .. told as an if -/
theorem pd_ite {b' : Bool} (hc : PDT X c ρ b') (h1 : b' = true → PD X a ρ d1) (h2 : b' = false → PD X b ρ d2) : PD X (.IfExp c a b pos) ρ (bif b' then d1 else d2) := by
  refine pd_if hc (fun z => ?_) (fun z => ?_)
  · subst z
    exact h1 rfl
  · subst z
    exact h2 rfl
/-! ### subscripts, displays -/
theorem pd_ixT {ds : List D} (ha : PD X a ρ (.tuple ds)) (hb : PD X b ρ (.int i)) (hd : atI ds i = some d := by rfl) (hs : PlainIx b := by exact fun _ _ => rfl) : PD X (.Subscript a b pos) ρ d :=
  pd_of (pe_ix ix_tup pe_u pe_u hs) (ev_op ha hb fun F H x y Q hh h1 h2 k => by
    obtain ⟨p, xs, e1, e2, e3⟩ := dp_tup h1
    obtain ⟨v, e4, e5⟩ := dpa_atI e3 hd
    exact ⟨p, xs, i, v, e1, dp_int h2, Same.sqt hh e2, e4, k v F H (Step.refl hh) e5⟩)
theorem pd_ixL {ds : List D} (ha : PD X a ρ (.list ds)) (hb : PD X b ρ (.int i)) (hd : atI ds i = some d := by rfl) (hs : PlainIx b := by exact fun _ _ => rfl) : PD X (.Subscript a b pos) ρ d :=
  pd_of (pe_ix ix_list pe_u pe_u hs) (ev_op ha hb fun F H x y Q hh h1 h2 k => by
    obtain ⟨p, xs, e1, e2, e3⟩ := dp_lst h1
    obtain ⟨v, e4, e5⟩ := dpa_atI e3 hd
    exact ⟨p, xs, i, v, e1, dp_int h2, Same.seq hh e2, e4, k v F H (Step.refl hh) e5⟩)
theorem pda_nil : PDA X [] ρ [] := fun F σ H Q he k => ⟨_, pa_nil, k [] F H (Step.refl he.fh) .nil⟩
theorem pda_cons (h : PD X e ρ d) (hr : PDA X es ρ ds) (hs : starEach (e :: es) X.env = (false, eval e X.env) :: starEach es X.env := by rfl) : PDA X (e :: es) ρ (d :: ds) := fun F σ H Q he k =>
  ⟨_, pa_cons pe_u pa_u hs, h F σ H _ he fun x F1 H1 s1 h1 => hr F1 σ H1 _ (he.step s1) fun xs F2 H2 s2 h2 => k _ F2 H2 (s1.trans s2) (.cons (dp_mono s2.ff h1) h2)⟩
theorem Step.made {F H F1 H1 : Hp} {p : Addr} {o : HO} (s : Step F H F1 H1) (hp : H1 p = none) : Step F H (upd F1 p o) (upd H1 p o) := s.trans (Step.new s.fh hp)
theorem new_same {F H : Hp} {p : Addr} {o : HO} (s : Same F H) (hp : H p = none) : Same F (upd F p o) := (Step.new s hp).ff
theorem szn {n : Nat} (h : Nat.ble n 1000 = true) : n ≤ sizeLine := Nat.le_trans (Nat.le_of_ble_eq_true h) (by decide)
theorem pd_tup {x1} (h : PDA X es ρ ds) (hl : Nat.ble ds.length 1000 = true := by rfl) : PD X (.Tuple es x1 pos) ρ (.tuple ds) := pd_of (pe_tup pa_u) fun F σ H Q he k => h F σ H _ he fun xs F1 H1 s1 h1 =>
  ⟨by rw [dpa_len h1]; exact szn hl, fun p hp => k _ _ _ (s1.made hp) (.tup (SqT.of upd_same) (dpa_mono (new_same s1.fh hp) h1))⟩
theorem pd_lst (h : PDA X es ρ ds) (hl : Nat.ble ds.length 1000 = true := by rfl) : PD X (.List es pos) ρ (.list ds) := pd_of (pe_lst pa_u) fun F σ H Q he k => h F σ H _ he fun xs F1 H1 s1 h1 =>
  ⟨by rw [dpa_len h1]; exact szn hl, fun p hp => k _ _ _ (s1.made hp) (.lst (SqL.of upd_same) (dpa_mono (new_same s1.fh hp) h1))⟩
/-- slices; lo, hi written or left out -/
def EvO (K : PySem.W.Frag) (t : TO) (ρ : DEnv) (o : Option Int) : Prop := ∀ (F : Hp) (σ : St) (H : Hp) (Q : Option Int → Hp → Prop), EnvOk K F ρ σ H → (∀ F' H', Step F H F' H' → Q o H') → t σ H Q
def UO (X : Cx) (e : Option Expr) : TO := fun σ H Q => ∃ t, PO X e t ∧ t σ H Q
theorem po_u {eo : Option Expr} : PO X eo (UO X eo) := ⟨fun pins s σ H Q I ⟨_, h1, h2⟩ => h1.run pins s σ H Q I h2⟩
abbrev PDO (X : Cx) (e : Option Expr) (ρ : DEnv) (o : Option Int) : Prop := EvO X.K (UO X e) ρ o
theorem pdo_none : PDO X none ρ none := fun F σ H Q he k => ⟨_, po_none, k F H (Step.refl he.fh)⟩
theorem pdo_some (h : PD X e ρ (.int i)) : PDO X (some e) ρ (some i) := fun F σ H Q he k => ⟨_, po_some pe_u, h F σ H _ he fun x F1 H1 s1 h1 => ⟨i, dp_int h1, k F1 H1 s1⟩⟩
theorem pd_slT {lo hi : Option Expr} {p2 : Pos} {l h : Option Int} {ds : List D} (ha : PD X a ρ (.tuple ds)) (hl : PDO X lo ρ l) (hh : PDO X hi ρ h) (hw : ¬ (HT.sIx ds.length 0 l = 0 ∧ HT.sIx ds.length ds.length h = ds.length)) : PD X (.Subscript a (.Slice lo hi none p2) pos) ρ (.tuple (cutD ds l h)) :=
  pd_of (pe_slice sl_tup pe_u po_u po_u) fun F σ H Q he k => ha F σ H _ he fun x F1 H1 s1 h1 => hl F1 σ H1 _ (he.step s1) fun F2 H2 s2 => hh F2 σ H2 _ ((he.step s1).step s2) fun F3 H3 s3 => by
    obtain ⟨p, xs, e1, e2, e3⟩ := dp_tup (dp_mono (s2.trans s3).ff h1)
    refine ⟨p, xs, e1, Same.sqt s3.fh e2, by rw [dpa_len e3]; exact hw, fun q hq => ?_⟩
    exact k _ _ _ (((s1.trans s2).trans s3).made hq) (.tup (SqT.of upd_same) (dpa_mono (new_same s3.fh hq) (dpa_cut e3 l h)))
theorem pd_slL {lo hi : Option Expr} {p2 : Pos} {l h : Option Int} {ds : List D} (ha : PD X a ρ (.list ds)) (hl : PDO X lo ρ l) (hh : PDO X hi ρ h) : PD X (.Subscript a (.Slice lo hi none p2) pos) ρ (.list (cutD ds l h)) :=
  pd_of (pe_slice sl_list pe_u po_u po_u) fun F σ H Q he k => ha F σ H _ he fun x F1 H1 s1 h1 => hl F1 σ H1 _ (he.step s1) fun F2 H2 s2 => hh F2 σ H2 _ ((he.step s1).step s2) fun F3 H3 s3 => by
    obtain ⟨p, xs, e1, e2, e3⟩ := dp_lst (dp_mono (s2.trans s3).ff h1)
    refine ⟨p, xs, e1, Same.seq s3.fh e2, fun q hq => ?_⟩
    exact k _ _ _ (((s1.trans s2).trans s3).made hq) (.lst (SqL.of upd_same) (dpa_mono (new_same s3.fh hq) (dpa_cut e3 l h)))
/-- x in (..), flat things -/
def flatD : D → Bool
  | .none => true
  | .bool _ => true
  | .int _ => true
  | .str _ => true
  | _ => false
def fV : D → V
  | .bool b => .bl b
  | .int i => .int i
  | .str x => .str x
  | _ => .non
theorem dp_flat {K : PySem.W.Frag} {F : Hp} {v : V} {d : D} (h : Dp K F v d) (f : flatD d = true) : v = fV d := by
  cases h <;> first | rfl | cases f
theorem fv_flat {d : D} (f : flatD d = true) : flatV (fV d) = true := by cases d <;> first | rfl | cases f
theorem dpa_flat {K : PySem.W.Frag} {F : Hp} : ∀ {ds : List D} {vs : List V}, DpAll K F vs ds → ds.all flatD = true → vs = ds.map fV
  | _, _, .nil, _ => rfl
  | _, _, .cons h ha, f => by
    rw [List.all_cons, Bool.and_eq_true] at f
    rw [List.map_cons, dp_flat h f.1, dpa_flat ha f.2]
theorem all_flat : ∀ {ds : List D}, ds.all flatD = true → (ds.map fV).all flatV = true
  | [], _ => rfl
  | d :: ds, f => by
    rw [List.all_cons, Bool.and_eq_true] at f
    rw [List.map_cons, List.all_cons, fv_flat f.1, all_flat f.2]
    rfl
theorem qc_inT {ds : List D} (ha : PD X a ρ d) (hb : PD X b ρ (.tuple ds)) (f : flatD d = true) (fs : ds.all flatD = true) (hm : behindInMarks .In b = false := by rfl) : QC X .In a b ρ (inV (fV d) (ds.map fV)) :=
  ⟨_, op_in_seq, hm, ev_op ha hb fun F H x y Q hs h1 h2 k => by
    obtain ⟨p, xs, e1, e2, e3⟩ := dp_tup h2
    have e4 := dpa_flat e3 fs
    subst e4
    refine ⟨p, _, e1, .inr (Same.sqt hs e2), by rw [dp_flat h1 f]; exact fv_flat f, all_flat fs, ?_⟩
    rw [dp_flat h1 f]
    exact k _ F H (Step.refl hs) (.bl _)⟩
end
end Rs
end

section
set_option Elab.async false
set_option linter.all false
set_option maxRecDepth 100000
set_option maxHeartbeats 4000000
namespace Rs
open PySem PySem.Spec L2
section
variable {X : Cx} {e a b c : Expr} {es : List Expr} {sts rest body orelse : List Stmt} {st : Stmt}
variable {ρ ρ1 : DEnv} {d d1 d2 : D} {ds : List D} {pos : Pos} {i j : Int} {N N1 : DEnv → Prop} {R : D → Prop}
/-! ### builtins -/
/-- xs + ys of lists, wherever they stand -/
def rCatG (K : PySem.W.Frag) : R2 := fun x y H Q => ∃ l b xs zs, x = .ref l ∧ y = .ref b ∧ SqL K H l xs ∧ SqL K H b zs ∧ xs.length + zs.length ≤ sizeLine ∧ ∀ p, H p = none → Q (.ref p) (upd H p (.lst (xs ++ zs)))
theorem op_catG : OpR X (binaryOp .Add) (rCatG X.K) := by
  intro pins s σ H x y v u Q I rx ry h
  obtain ⟨l, b, xs, zs, rfl, rfl, hH, hB, hz, q⟩ := h
  cases rx
  cases ry
  obtain ⟨its, r, pl, z1⟩ := I.list hH
  obtain ⟨its2, r2, pl2, z2⟩ := I.list hB
  have hsz : its.length + its2.length ≤ sizeLine := by rw [← r.length, ← r2.length]; exact hz
  obtain ⟨⟨cls, dd, data, sl⟩, ho, hc, n, hd⟩ := pl.isList
  obtain ⟨⟨cls2, dd2, data2, sl2⟩, ho2, hc2, n2, hd2⟩ := pl2.isList
  simp only at hc hd hc2 hd2
  subst hc hd hc2 hd2
  have e : its.toArray ++ its2.toArray = (its ++ its2).toArray := by simp
  refine concat_meets ⟨_, ho, rfl⟩ ⟨_, ho2, rfl⟩ noFill_list_add seq_list_add PySem.F.slot_list_add PySem.F.entry_list_add (PySem.F.args_list_add_2 _ _) (PyProof.Rows.list_addW l b its.toArray its2.toArray n n2 dd dd2 sl sl2 (by simpa using hsz)) ⟨ho, ho2, ?_⟩
  rw [e]
  exact ⟨.ref _, _, I.lnew (t' := s.toks) (r.append r2) (by rw [List.length_append]; exact hz), rfl, q _ I.fresh⟩
theorem pd_catL {es fs : List D} (ha : PD X a ρ (.list es)) (hb : PD X b ρ (.list fs)) (hz : es.length + fs.length ≤ sizeLine) : PD X (.BinOp a .Add b pos) ρ (.list (es ++ fs)) :=
  pd_of (pe_op op_catG pe_u pe_u) (ev_op ha hb fun F H x y Q hs h1 h2 k => by
    obtain ⟨p, xs, e1, e2, e3⟩ := dp_lst h1
    obtain ⟨q, ys, f1, f2, f3⟩ := dp_lst h2
    refine ⟨p, q, xs, ys, e1, f1, Same.seq hs e2, Same.seq hs f2, by rw [dpa_len e3, dpa_len f3]; exact hz, fun r hr => ?_⟩
    exact k _ _ _ (Step.new hs hr) (.lst (SqL.of upd_same) (dpa_mono (new_same hs hr) (dpa_app e3 f3))))
theorem pd_catT {es fs : List D} (ha : PD X a ρ (.tuple es)) (hb : PD X b ρ (.tuple fs)) (he : es.isEmpty = false := by rfl) (hf : fs.isEmpty = false := by rfl) (hz : Nat.ble (es.length + fs.length) 1000 = true := by rfl) : PD X (.BinOp a .Add b pos) ρ (.tuple (es ++ fs)) :=
  pd_of (pe_op op_catT pe_u pe_u) (ev_op ha hb fun F H x y Q hs h1 h2 k => by
    obtain ⟨p, xs, e1, e2, e3⟩ := dp_tup h1
    obtain ⟨q, ys, f1, f2, f3⟩ := dp_tup h2
    have l1 := dpa_len e3
    have l2 := dpa_len f3
    have n1 : xs ≠ [] := fun z => (List.isEmpty_eq_false_iff.mp he) (List.length_eq_zero_iff.mp (by rw [← l1, z]; rfl))
    have n2 : ys ≠ [] := fun z => (List.isEmpty_eq_false_iff.mp hf) (List.length_eq_zero_iff.mp (by rw [← l2, z]; rfl))
    refine ⟨p, q, xs, ys, e1, f1, Same.sqt hs e2, Same.sqt hs f2, n1, by rw [l1, l2]; exact szn hz, fun z => absurd z n2, fun _ r hr => ?_⟩
    exact k _ _ _ (Step.new hs hr) (.tup (SqT.of upd_same) (dpa_mono (new_same hs hr) (dpa_app e3 f3))))
/-- f(a), f a builtin function by its rule -/
theorem pd_callB {x : Str} {id : String} {r : List V → Hp → VK → Prop} {p : Pos} (hc : CallR X (.builtin id) r) (hm : X.mg x = none) (hv : bootBuiltins x = some (.builtin id)) (ha : PDA X (e :: es) ρ ds)
    (hr : ∀ F H vs Q, Same F H → DpAll X.K F vs ds → (∀ v F' H', Step F H F' H' → Dp X.K F' v d → Q v H') → r vs H Q) (hg : Gl X x := by rfl) (hn : x ≠ "__name__" := by decide) (hdb : (x == ("__debug__" : Str)) = false := by decide)
    (he : starEach (e :: es) X.env = (false, eval e X.env) :: starEach es X.env := by rfl) (hpl : (backTo pos (starEach es X.env)).any (·.1) = false := by rfl) : PD X (.Call (.Name x p) (e :: es) [] pos) ρ d :=
  pd_of (pe_callB hc hg hm hv pa_u hn hdb he hpl) fun F σ H Q hE k => ha F σ H _ hE fun vs F1 H1 s1 h1 => hr F1 H1 vs Q s1.fh h1 fun v F2 H2 s2 h2 => k v F2 H2 (s1.trans s2) h2
theorem pd_callTy {x : Str} {T : String} {r : List V → Hp → VK → Prop} {p : Pos} (hc : CallR X (.type T) r) (hm : X.mg x = none) (hv : bootBuiltins x = some (.type T)) (ha : PDA X (e :: es) ρ ds)
    (hr : ∀ F H vs Q, Same F H → DpAll X.K F vs ds → (∀ v F' H', Step F H F' H' → Dp X.K F' v d → Q v H') → r vs H Q) (hg : Gl X x := by rfl) (hn : x ≠ "__name__" := by decide) (hdb : (x == ("__debug__" : Str)) = false := by decide)
    (he : starEach (e :: es) X.env = (false, eval e X.env) :: starEach es X.env := by rfl) (hpl : (backTo pos (starEach es X.env)).any (·.1) = false := by rfl) : PD X (.Call (.Name x p) (e :: es) [] pos) ρ d :=
  pd_of (pe_callTy hc hg hm hv pa_u hn hdb he hpl) fun F σ H Q hE k => ha F σ H _ hE fun vs F1 H1 s1 h1 => hr F1 H1 vs Q s1.fh h1 fun v F2 H2 s2 h2 => k v F2 H2 (s1.trans s2) h2
theorem dpa1 {K : PySem.W.Frag} {F : Hp} {vs : List V} (h : DpAll K F vs [d]) : ∃ v, vs = [v] ∧ Dp K F v d := by
  cases h with
  | cons h1 h2 =>
    cases h2
    exact ⟨_, rfl, h1⟩
theorem dpa2 {K : PySem.W.Frag} {F : Hp} {vs : List V} (h : DpAll K F vs [d1, d2]) : ∃ v w, vs = [v, w] ∧ Dp K F v d1 ∧ Dp K F w d2 := by
  cases h with
  | cons h1 h2 =>
    obtain ⟨w, rfl, h3⟩ := dpa1 h2
    exact ⟨_, _, rfl, h1, h3⟩
theorem abs_eq (i : Int) : (if i < 0 then -i else i) = (i.natAbs : Int) := by
  by_cases h : i < 0
  · rw [if_pos h]; omega
  · rw [if_neg h]; omega
theorem pd_abs {p : Pos} (hm : X.mg "abs" = none) (ha : PD X a ρ (.int i)) (hg : Gl X "abs" := by rfl) (hs : starEach [a] X.env = (false, eval a X.env) :: starEach [] X.env := by rfl) (hpl : (backTo pos (starEach [] X.env)).any (·.1) = false := by rfl) : PD X (.Call (.Name "abs" p) [a] [] pos) ρ (.int (i.natAbs : Int)) :=
  pd_callB call_abs hm (by decide +kernel) (pda_cons ha pda_nil hs) (fun F H vs Q hh h k => by
    obtain ⟨v, rfl, h1⟩ := dpa1 h
    exact ⟨i, by rw [dp_int h1], by rw [abs_eq]; exact k _ F H (Step.refl hh) (.int _)⟩) hg (by decide) (by decide) hs hpl
theorem pd_min {p : Pos} (hc : X.calm = true) (hm : X.mg "min" = none) (ha : PDA X [a, b] ρ [.int i, .int j]) (hg : Gl X "min" := by rfl) (hs : starEach [a, b] X.env = (false, eval a X.env) :: starEach [b] X.env := by rfl) (hpl : (backTo pos (starEach [b] X.env)).any (·.1) = false := by rfl) : PD X (.Call (.Name "min" p) [a, b] [] pos) ρ (.int (if j < i then j else i)) :=
  pd_callB (call_min2 hc) hm (by decide +kernel) ha (fun F H vs Q hh h k => by
    obtain ⟨v, w, rfl, h1, h2⟩ := dpa2 h
    exact ⟨i, j, by rw [dp_int h1, dp_int h2], k _ F H (Step.refl hh) (.int _)⟩) hg (by decide) (by decide) hs hpl
theorem pd_max {p : Pos} (hc : X.calm = true) (hm : X.mg "max" = none) (ha : PDA X [a, b] ρ [.int i, .int j]) (hg : Gl X "max" := by rfl) (hs : starEach [a, b] X.env = (false, eval a X.env) :: starEach [b] X.env := by rfl) (hpl : (backTo pos (starEach [b] X.env)).any (·.1) = false := by rfl) : PD X (.Call (.Name "max" p) [a, b] [] pos) ρ (.int (if j > i then j else i)) :=
  pd_callB (call_max2 hc) hm (by decide +kernel) ha (fun F H vs Q hh h k => by
    obtain ⟨v, w, rfl, h1, h2⟩ := dpa2 h
    exact ⟨i, j, by rw [dp_int h1, dp_int h2], k _ F H (Step.refl hh) (.int _)⟩) hg (by decide) (by decide) hs hpl
theorem pd_lenL {p : Pos} {ds : List D} (hm : X.mg "len" = none) (ha : PD X a ρ (.list ds)) (hg : Gl X "len" := by rfl) (hs : starEach [a] X.env = (false, eval a X.env) :: starEach [] X.env := by rfl) (hpl : (backTo pos (starEach [] X.env)).any (·.1) = false := by rfl) : PD X (.Call (.Name "len" p) [a] [] pos) ρ (.int ds.length) :=
  pd_callB call_len_seq hm (by decide +kernel) (pda_cons ha pda_nil hs) (fun F H vs Q hh h k => by
    obtain ⟨v, rfl, h1⟩ := dpa1 h
    obtain ⟨q, xs, e1, e2, e3⟩ := dp_lst h1
    exact ⟨q, xs, by rw [e1], .inl (Same.seq hh e2), by rw [dpa_len e3]; exact k _ F H (Step.refl hh) (.int _)⟩) hg (by decide) (by decide) hs hpl
theorem pd_intB {p : Pos} {k' : Bool} (hm : X.mg "int" = none) (ha : PD X a ρ (.bool k')) (hg : Gl X "int" := by rfl) (hs : starEach [a] X.env = (false, eval a X.env) :: starEach [] X.env := by rfl) (hpl : (backTo pos (starEach [] X.env)).any (·.1) = false := by rfl) : PD X (.Call (.Name "int" p) [a] [] pos) ρ (.int (if k' then 1 else 0)) :=
  pd_callTy call_int1 hm (by decide +kernel) (pda_cons ha pda_nil hs) (fun F H vs Q hh h k => by
    obtain ⟨v, rfl, h1⟩ := dpa1 h
    exact .inr ⟨k', by rw [dp_bl h1], k _ F H (Step.refl hh) (.int _)⟩) hg (by decide) (by decide) hs hpl
theorem pd_listT {p : Pos} {ds : List D} (hm : X.mg "list" = none) (ha : PD X a ρ (.tuple ds)) (hg : Gl X "list" := by rfl) (hs : starEach [a] X.env = (false, eval a X.env) :: starEach [] X.env := by rfl) (hpl : (backTo pos (starEach [] X.env)).any (·.1) = false := by rfl) : PD X (.Call (.Name "list" p) [a] [] pos) ρ (.list ds) :=
  pd_callTy call_list_of hm (by decide +kernel) (pda_cons ha pda_nil hs) (fun F H vs Q hh h k => by
    obtain ⟨v, rfl, h1⟩ := dpa1 h
    obtain ⟨q, xs, e1, e2, e3⟩ := dp_tup h1
    refine ⟨q, xs, by rw [e1], .inr (Same.sqt hh e2), fun l hl => ?_⟩
    exact k _ _ _ (Step.new hh hl) (.lst (SqL.of upd_same) (dpa_mono (new_same hh hl) e3))) hg (by decide) (by decide) hs hpl
theorem pd_tupL {p : Pos} {ds : List D} (hm : X.mg "tuple" = none) (ha : PD X a ρ (.list ds)) (hg : Gl X "tuple" := by rfl) (hs : starEach [a] X.env = (false, eval a X.env) :: starEach [] X.env := by rfl) (hpl : (backTo pos (starEach [] X.env)).any (·.1) = false := by rfl) : PD X (.Call (.Name "tuple" p) [a] [] pos) ρ (.tuple ds) :=
  pd_callTy call_tuple_of hm (by decide +kernel) (pda_cons ha pda_nil hs) (fun F H vs Q hh h k => by
    obtain ⟨v, rfl, h1⟩ := dpa1 h
    obtain ⟨q, xs, e1, e2, e3⟩ := dp_lst h1
    refine ⟨q, xs, by rw [e1], .inl ⟨Same.seq hh e2, fun l hl => ?_⟩⟩
    exact k _ _ _ (Step.new hh hl) (.tup (SqT.of upd_same) (dpa_mono (new_same hh hl) e3))) hg (by decide) (by decide) hs hpl
/-! ### a def's promise over data, its call -/
def spP (K : PySem.W.Frag) (R : List D → D → Prop) : Sp := fun vs H Q _ => ∃ F ds d, Same F H ∧ DpAll K F vs ds ∧ R ds d ∧ ∀ v F' H', Step F H F' H' → Dp K F' v d → Q v H'
structure Cal (P : Program) (w : World) (K : PySem.W.Frag) (mg : Str → Option Value) (base : Heap) (x : Str) (k : Nat) (ps : List Str) (sp : Sp) : Prop where
  ex : ∃ f fd, mg x = some (.ref f) ∧ FnOk P w K mg base CX0 k f fd ps sp ∧ PySem.W.keepIn K (.ref f) = true ∧ Binds K fd ps []
theorem pd_call {x : Str} {k : Nat} {ps : List Str} {R : List D → D → Prop} {p : Pos} (c : Cal X.prog X.w X.K X.mg X.base x k ps (spP X.K R)) (hr : Room k X.A) (ha : PDA X (e :: es) ρ ds) (h : R ds d) (hg : Gl X x := by rfl) (hdb : (x == ("__debug__" : Str)) = false := by decide)
    (he : starEach (e :: es) X.env = (false, eval e X.env) :: starEach es X.env := by rfl) (hpl : (backTo pos (starEach es X.env)).any (·.1) = false := by rfl) : PD X (.Call (.Name x p) (e :: es) [] pos) ρ d := by
  obtain ⟨f, fd, hm, F, hk, hb⟩ := c.ex
  refine pd_of (pe_call F hr hg hm hk hb .nil pass0 pa_u hdb he hpl) fun F σ H Q hE q => ha F σ H _ hE fun vs F1 H1 s1 h1 => ?_
  refine ⟨F1, ds, d, s1.fh, by rw [List.append_nil]; exact h1, h, fun v F2 H2 s2 h2 => q v F2 H2 (s1.trans s2) h2⟩
/-- a module's constant that is a tuple -/
theorem pd_glob {x : Str} {f : Addr} {xs : List V} {ds : List D} (hm : X.mg x = some (.ref f)) (h : ∀ H, SqT X.K H f xs) (hd : ∀ H, DpAll X.K H xs ds) (hg : Gl X x := by rfl) (hdb : (x == ("__debug__" : Str)) = false := by decide) : PD X (.Name x pos) ρ (.tuple ds) :=
  pd_c (pe_glob hg hm (v := .ref f) rfl hdb) fun F => .tup (h F) (hd F)
theorem pd_globI {x : Str} {t : Tok} (hm : X.mg x = some (.int i t)) (hg : Gl X x := by rfl) (hdb : (x == ("__debug__" : Str)) = false := by decide) : PD X (.Name x pos) ρ (.int i) :=
  pd_c (pe_glob hg hm (v := .int i) ⟨t, rfl⟩ hdb) fun F => .int i
/-! ### statements -/
def U1 (X : Cx) (st : Stmt) : TS := fun Dn σ H => ∃ t, PS X st t ∧ t Dn σ H
theorem ps_u : PS X st (U1 X st) := ⟨fun pins s σ H Dn I ⟨_, h1, h2⟩ => h1.run pins s σ H Dn I h2⟩
abbrev PD1 (X : Cx) (st : Stmt) (ρ : DEnv) (N : DEnv → Prop) (R : D → Prop) : Prop := StD X.K (U1 X st) ρ N R
theorem pd1_of {t : TS} (h : PS X st t) (q : StD X.K t ρ N R) : PD1 X st ρ N R := fun F σ H Dn hE k1 k2 => ⟨t, h, q F σ H Dn hE k1 k2⟩
theorem pds_of {t : TS} (h : PSs X sts t) (q : StD X.K t ρ N R) : PDs X sts ρ N R := fun F σ H Dn hE k1 k2 => ⟨t, h, q F σ H Dn hE k1 k2⟩
theorem pds_nil (h : N ρ) : PDs X [] ρ N R := pds_of pss_nil fun F σ H Dn hE k1 k2 => k1 ρ σ F H h (Step.refl hE.fh) hE
theorem pds_seq (h : PD1 X st ρ N1 R) (k : ∀ ρ', N1 ρ' → PDs X rest ρ' N R) : PDs X (st :: rest) ρ N R := pds_of (pss_cons ps_u pss_u) fun F σ H Dn hE k1 k2 =>
  h F σ H _ hE (fun ρ' σ' F1 H1 n1 s1 e1 => k ρ' n1 F1 σ' H1 Dn e1 (fun ρ2 σ2 F2 H2 n2 s2 e2 => k1 ρ2 σ2 F2 H2 n2 (s1.trans s2) e2) fun d v F2 H2 r s2 q => k2 d v F2 H2 r (s1.trans s2) q) k2
theorem pds_one (h : PD1 X st ρ N R) : PDs X [st] ρ N R := pds_of (pss_one ps_u) h
theorem pds_mono {N' : DEnv → Prop} {R' : D → Prop} (h : PDs X sts ρ N R) (h1 : ∀ ρ, N ρ → N' ρ) (h2 : ∀ d, R d → R' d) : PDs X sts ρ N' R' := fun F σ H Dn hE k1 k2 => h F σ H Dn hE (fun ρ' σ' F' H' n => k1 ρ' σ' F' H' (h1 _ n)) fun d v F' H' r => k2 d v F' H' (h2 _ r)
/-- x = e -/
theorem pds_set (i : Nat) {x : Str} {p : Pos} (he : PD X e ρ d) (k : PDs X rest (ρ.set i (some d)) N R) (nd : X.N.Nodup) (hi : X.N[i]? = some x := by rfl) (hx : Loc X.env.scope x := by first | exact Or.inl rfl | exact Or.inr rfl)
    (hs : swapsWith e (some (.Name x p)) pos.line X.env = pure false := by rfl) (hf : X.fn x = true ∨ X.env.scope.names.lookup x = some .local := by first | exact .inl rfl | exact .inr rfl) : PDs X (.Assign [.Name x p] e pos :: rest) ρ N R :=
  pds_seq (N1 := (· = ρ.set i (some d))) (pd1_of (ps_set nd hi hx pe_u hs hf) fun F σ H Dn hE k1 k2 => he F σ H _ hE fun v F1 H1 s1 h1 => k1 _ _ F1 H1 rfl s1 ((hE.step s1).set i h1)) fun ρ' h => h ▸ k
/-- x += e (ints) -/
theorem pds_augI (i : Nat) {x : Str} {p : Pos} {n m : Int} (hx : PD X (.Name x p) ρ (.int n)) (he : PD X e ρ (.int m)) (k : PDs X rest (ρ.set i (some (.int (n + m)))) N R) (nd : X.N.Nodup) (hρ : ρ[i]? = some (some (.int n)) := by rfl) (hi : X.N[i]? = some x := by rfl) (hl : Loc X.env.scope x := by first | exact Or.inl rfl | exact Or.inr rfl)
    (hf : X.fn x = true ∨ X.env.scope.names.lookup x = some .local := by first | exact .inl rfl | exact .inr rfl) : PDs X (.AugAssign (.Name x p) .Add e pos :: rest) ρ N R :=
  pds_seq (N1 := (· = ρ.set i (some (.int (n + m))))) (pd1_of (ps_aug nd hi hl pe_u ip_add hf) fun F σ H Dn hE k1 k2 => by
    obtain ⟨v, h1, h2⟩ := hE.at_ i _ hρ
    refine ⟨v, h1, he F σ H _ hE fun y F1 H1 s1 g1 => ⟨n, m, dp_int h2, dp_int g1, k1 _ _ F1 H1 rfl s1 ((hE.step s1).set i (.int _))⟩⟩) fun ρ' h => h ▸ k
/-- a, b = e1, e2 -/
theorem pds_par (i j : Nat) {x y : Str} {px py pt : Pos} {kt k2 pt2} (ha : PDA X [a, b] ρ [d1, d2]) (k : PDs X rest ((ρ.set i (some d1)).set j (some d2)) N R) (hP : PS X (.Assign [.Tuple [.Name x px, .Name y py] kt pt] (.Tuple [a, b] k2 pt2) pos) (tPar i j (UA X [a, b]))) :
    PDs X (.Assign [.Tuple [.Name x px, .Name y py] kt pt] (.Tuple [a, b] k2 pt2) pos :: rest) ρ N R :=
  pds_seq (N1 := (· = (ρ.set i (some d1)).set j (some d2))) (pd1_of hP fun F σ H Dn hE k1 k2 => ha F σ H _ hE fun vs F1 H1 s1 h1 => by
    obtain ⟨v, w, rfl, g1, g2⟩ := dpa2 h1
    exact ⟨v, w, rfl, k1 _ _ F1 H1 rfl s1 (((hE.step s1).set i g1).set j g2)⟩) fun ρ' h => h ▸ k
theorem pds_ret (he : PD X e ρ d) (h : R d) : PDs X [.Return (some e) pos] ρ N R := pds_of (pss_one (ps_ret pe_u)) fun F σ H Dn hE k1 k2 => he F σ H _ hE fun v F1 H1 s1 h1 => k2 d v F1 H1 h s1 h1
theorem pds_retN (h : R .none) : PDs X [.Return none pos] ρ N R := pds_of (pss_one ps_retN) fun F σ H Dn hE k1 k2 => k2 .none .non F H h (Step.refl hE.fh) .non
theorem pd1_if {b' : Bool} (hc : PDT X c ρ b') (h1 : b' = true → PDs X body ρ N R) (h2 : b' = false → PDs X orelse ρ N R) : PD1 X (.If c body orelse pos) ρ N R := pd1_of (ps_if pt_u pss_u pss_u) fun F σ H Dn hE k1 k2 => hc F σ H _ hE fun F1 H1 s1 => by
  have e1 := hE.step s1
  cases b' with
  | true => exact h1 rfl F1 σ H1 Dn e1 (fun ρ' σ' F2 H2 n s2 e2 => k1 ρ' σ' F2 H2 n (s1.trans s2) e2) fun d v F2 H2 r s2 q => k2 d v F2 H2 r (s1.trans s2) q
  | false => exact h2 rfl F1 σ H1 Dn e1 (fun ρ' σ' F2 H2 n s2 e2 => k1 ρ' σ' F2 H2 n (s1.trans s2) e2) fun d v F2 H2 r s2 q => k2 d v F2 H2 r (s1.trans s2) q
/-- an if whose body returns; behind it the rest -/
theorem pds_ifR {b' : Bool} (hc : PDT X c ρ b') (h1 : b' = true → PDs X body ρ (fun _ => False) R) (h2 : b' = false → PDs X rest ρ N R) : PDs X (.If c body [] pos :: rest) ρ N R := by
  cases b' with
  | true => exact pds_seq (N1 := fun _ => False) (pd1_if hc h1 fun z => nomatch z) fun _ z => z.elim
  | false => exact pds_seq (N1 := (· = ρ)) (pd1_if hc (fun z => nomatch z) fun _ => pds_nil rfl) fun ρ' z => z ▸ h2 rfl
theorem pds_if {b' : Bool} (hc : PDT X c ρ b') (h1 : b' = true → PDs X body ρ N1 R) (h2 : b' = false → PDs X orelse ρ N1 R) (k : ∀ ρ', N1 ρ' → PDs X rest ρ' N R) : PDs X (.If c body orelse pos :: rest) ρ N R := pds_seq (pd1_if hc h1 h2) k
/-- while: W by a measure -/
theorem pds_while (W : Nat → DEnv → Prop) (m : Nat) (h0 : W m ρ)
    (hs : ∀ m ρ', W m ρ' → ∃ b', PDT X c ρ' b' ∧ (b' = true → PDs X body ρ' (fun ρ2 => ∃ m', m' < m ∧ W m' ρ2) R) ∧ (b' = false → PDs X rest ρ' N R)) (hp : PassesOwn (model X.prog X.w) X.A X.env X.xe := by exact PassesOwn.never) : PDs X (.While c body [] pos :: rest) ρ N R := by
  refine pds_of (pss_cons (ps_while hp pt_u pss_u) pss_u) fun F0 σ0 H0 Dn hE0 k1 k2 => ?_
  refine ⟨fun m σ H => ∃ ρ' F, W m ρ' ∧ Step F0 H0 F H ∧ EnvOk X.K F ρ' σ H, ⟨m, ρ, F0, h0, Step.refl hE0.fh, hE0⟩, ?_⟩
  rintro m σ H ⟨ρ', F, w, s0, hE⟩
  obtain ⟨b', hc, ht, hf⟩ := hs m ρ' w
  refine hc F σ H _ hE fun F1 H1 s1 => ?_
  have e1 := hE.step s1
  have s01 := s0.trans s1
  cases b' with
  | true =>
    show ∃ N : St → Hp → Prop, _ ∧ _
    refine ⟨fun σ' H' => ∃ m', m' < m ∧ ∃ ρ' F, W m' ρ' ∧ Step F0 H0 F H' ∧ EnvOk X.K F ρ' σ' H', fun σ' H' h => h, ?_⟩
    refine ht rfl F1 σ H1 _ e1 (fun ρ2 σ2 F2 H2 n s2 e2 => ?_) fun d v F2 H2 r s2 q => k2 d v F2 H2 r (s01.trans s2) q
    obtain ⟨m', lt, w'⟩ := n
    exact ⟨m', lt, ρ2, F2, w', s01.trans s2, e2⟩
  | false => exact hf rfl F1 σ H1 Dn e1 (fun ρ2 σ2 F2 H2 n s2 e2 => k1 ρ2 σ2 F2 H2 n (s01.trans s2) e2) fun d v F2 H2 r s2 q => k2 d v F2 H2 r (s01.trans s2) q
/-- for x in xs (a list of data) -/
theorem pds_forL (i : Nat) {x : Str} {p : Pos} {it : Expr} {xs : List D} (hl : PD X it ρ (.list xs)) (Inv : Nat → DEnv → Prop) (h0 : Inv 0 ρ)
    (hs : ∀ (n : Nat) d ρ', xs[n]? = some d → Inv n ρ' → PDs X body (ρ'.set i (some d)) (Inv (n + 1)) R) (hd : ∀ ρ', Inv xs.length ρ' → PDs X rest ρ' N R)
    (hc : X.calm = true := by rfl) (nd : X.N.Nodup) (hi : X.N[i]? = some x := by rfl) (hx : Loc X.env.scope x := by first | exact Or.inl rfl | exact Or.inr rfl) (hf : X.fn x = true ∨ X.env.scope.names.lookup x = some .local := by first | exact .inl rfl | exact .inr rfl)
    (hp : PassesOwn (model X.prog X.w) X.A X.env X.xe := by exact PassesOwn.never) (hfs : ∀ v, foldedSetIterable it X.env v = pure v := by intro _; rfl) : PDs X (.For (.Name x p) it body [] pos :: rest) ρ N R := by
  refine pds_of (pss_cons (ps_for hp hc (pi_list pe_u) (pg_name nd hi hx hf) pss_u (hs := hfs)) pss_u) fun F0 σ0 H0 Dn hE0 k1 k2 => ?_
  refine hl F0 σ0 H0 _ hE0 fun v F1 H1 s1 h1 => ?_
  obtain ⟨l, ys, rfl, hq, ha⟩ := dp_lst h1
  refine ⟨l, rfl, ⟨ys, Same.seq s1.fh hq⟩, for_list (xs := ys) (fun n σ H => ∃ ρ' F, Inv n ρ' ∧ Step F1 H1 F H ∧ EnvOk X.K F ρ' σ H) ⟨ρ, F1, h0, Step.refl s1.fh, hE0.step s1⟩ (fun n σ H _ ⟨ρ', F, _, s2, _⟩ => Same.seq (s2.ff.trans s2.fh) hq) ?_ ?_⟩
  · rintro n y σ H hy ⟨ρ', F, hI, s2, hE⟩
    obtain ⟨d, hd', hdp⟩ := dpa_getV ha hy
    refine hs n d ρ' hd' hI F (σ.set i (some y)) H _ (hE.set i (dp_mono s2.ff hdp)) (fun ρ2 σ2 F2 H2 n2 s3 e3 => ⟨ρ2, F2, n2, s2.trans s3, e3⟩) fun d v F2 H2 r s3 q => k2 d v F2 H2 r ((s1.trans s2).trans s3) q
  · rintro σ H ⟨ρ', F, hI, s2, hE⟩
    rw [dpa_len ha] at hI
    exact hd ρ' hI F σ H Dn hE (fun ρ2 σ2 F2 H2 n s3 e2 => k1 ρ2 σ2 F2 H2 n ((s1.trans s2).trans s3) e2) fun d v F2 H2 r s3 q => k2 d v F2 H2 r ((s1.trans s2).trans s3) q
/-- for x in t (a tuple of data) -/
theorem pds_forT (i : Nat) {x : Str} {p : Pos} {it : Expr} {xs : List D} (hl : PD X it ρ (.tuple xs)) (Inv : Nat → DEnv → Prop) (h0 : Inv 0 ρ)
    (hs : ∀ (n : Nat) d ρ', xs[n]? = some d → Inv n ρ' → PDs X body (ρ'.set i (some d)) (Inv (n + 1)) R) (hd : ∀ ρ', Inv xs.length ρ' → PDs X rest ρ' N R)
    (hc : X.calm = true := by rfl) (nd : X.N.Nodup) (hi : X.N[i]? = some x := by rfl) (hx : Loc X.env.scope x := by first | exact Or.inl rfl | exact Or.inr rfl) (hf : X.fn x = true ∨ X.env.scope.names.lookup x = some .local := by first | exact .inl rfl | exact .inr rfl)
    (hp : PassesOwn (model X.prog X.w) X.A X.env X.xe := by exact PassesOwn.never) (hfs : ∀ v, foldedSetIterable it X.env v = pure v := by intro _; rfl) : PDs X (.For (.Name x p) it body [] pos :: rest) ρ N R := by
  refine pds_of (pss_cons (ps_for hp hc (pi_tup pe_u) (pg_name nd hi hx hf) pss_u (hs := hfs)) pss_u) fun F0 σ0 H0 Dn hE0 k1 k2 => ?_
  refine hl F0 σ0 H0 _ hE0 fun v F1 H1 s1 h1 => ?_
  obtain ⟨l, ys, rfl, hq, ha⟩ := dp_tup h1
  refine ⟨l, rfl, ⟨ys, Same.sqt s1.fh hq⟩, for_tup (xs := ys) (fun n σ H => ∃ ρ' F, Inv n ρ' ∧ Step F1 H1 F H ∧ EnvOk X.K F ρ' σ H) ⟨ρ, F1, h0, Step.refl s1.fh, hE0.step s1⟩ (fun n σ H _ ⟨ρ', F, _, s2, _⟩ => Same.sqt (s2.ff.trans s2.fh) hq) ?_ ?_⟩
  · rintro n y σ H hy ⟨ρ', F, hI, s2, hE⟩
    obtain ⟨d, hd', hdp⟩ := dpa_getV ha hy
    refine hs n d ρ' hd' hI F (σ.set i (some y)) H _ (hE.set i (dp_mono s2.ff hdp)) (fun ρ2 σ2 F2 H2 n2 s3 e3 => ⟨ρ2, F2, n2, s2.trans s3, e3⟩) fun d v F2 H2 r s3 q => k2 d v F2 H2 r ((s1.trans s2).trans s3) q
  · rintro σ H ⟨ρ', F, hI, s2, hE⟩
    rw [dpa_len ha] at hI
    exact hd ρ' hI F σ H Dn hE (fun ρ2 σ2 F2 H2 n s3 e2 => k1 ρ2 σ2 F2 H2 n ((s1.trans s2).trans s3) e2) fun d v F2 H2 r s3 q => k2 d v F2 H2 r ((s1.trans s2).trans s3) q
/-- for x in range(n) -/
theorem pds_forR (i : Nat) {x : Str} {p p1 p2 : Pos} {it : Expr} {n : Int} (hl : PD X it ρ (.int n)) (hn : 0 ≤ n ∧ n < 2 ^ 62) (hm : X.mg "range" = none) (Inv : Nat → DEnv → Prop) (h0 : Inv 0 ρ)
    (hs : ∀ (m : Nat) ρ', (m : Int) < n → Inv m ρ' → PDs X body (ρ'.set i (some (.int (m : Int)))) (Inv (m + 1)) R) (hd : ∀ ρ', Inv n.toNat ρ' → PDs X rest ρ' N R) (nd : X.N.Nodup)
    (hg : Gl X "range" := by rfl) (hst : starEach [it] X.env = [(false, eval it X.env)] := by rfl)
    (hc : X.calm = true := by rfl) (hi : X.N[i]? = some x := by rfl) (hx : Loc X.env.scope x := by first | exact Or.inl rfl | exact Or.inr rfl) (hf : X.fn x = true ∨ X.env.scope.names.lookup x = some .local := by first | exact .inl rfl | exact .inr rfl)
    (hp : PassesOwn (model X.prog X.w) X.A X.env X.xe := by exact PassesOwn.never) (hfs : ∀ v, foldedSetIterable (.Call (.Name "range" p1) [it] [] p2) X.env v = pure v := by intro _; rfl) : PDs X (.For (.Name x p) (.Call (.Name "range" p1) [it] [] p2) body [] pos :: rest) ρ N R := by
  refine pds_of (pss_cons (ps_for hp hc (pi_range1 hg hm (pa_cons pe_u pa_nil (by rw [hst]; rfl)) hst) (pg_name nd hi hx hf) pss_u (hs := hfs)) pss_u) fun F0 σ0 H0 Dn hE0 k1 k2 => ?_
  refine hl F0 σ0 H0 _ hE0 fun v F1 H1 s1 h1 => ?_
  refine ⟨n, by rw [dp_int h1], by omega, by omega, for_range (lo := 0) (n := n.toNat) (fun m σ H => ∃ ρ' F, Inv m ρ' ∧ Step F1 H1 F H ∧ EnvOk X.K F ρ' σ H) ⟨ρ, F1, h0, Step.refl s1.fh, hE0.step s1⟩ ?_ ?_⟩
  · rintro m σ H hm' ⟨ρ', F, hI, s2, hE⟩
    have e0 : (0 : Int) + (m : Int) = (m : Int) := Int.zero_add _
    rw [e0]
    refine hs m ρ' (by omega) hI F (σ.set i (some (.int (m : Int)))) H _ (hE.set i (.int _)) (fun ρ2 σ2 F2 H2 n2 s3 e3 => ⟨ρ2, F2, n2, s2.trans s3, e3⟩) fun d v F2 H2 r s3 q => k2 d v F2 H2 r ((s1.trans s2).trans s3) q
  · rintro σ H ⟨ρ', F, hI, s2, hE⟩
    exact hd ρ' hI F σ H Dn hE (fun ρ2 σ2 F2 H2 n s3 e2 => k1 ρ2 σ2 F2 H2 n ((s1.trans s2).trans s3) e2) fun d v F2 H2 r s3 q => k2 d v F2 H2 r ((s1.trans s2).trans s3) q
end
/-! ### a def of the text -/
def startD (N : List Str) (ds : List D) : DEnv := ds.map some ++ List.replicate (N.length - ds.length) none
theorem env_start {K : PySem.W.Frag} {F H : Hp} {N : List Str} {vs : List V} {ds : List D} (hs : Same F H) (h : DpAll K F vs ds) : EnvOk K F (startD N ds) (L2.start N vs) H := by
  have hl := dpa_len h
  refine ⟨hs, ?_, fun i d hd => ?_⟩
  · unfold startD L2.start
    simp only [List.length_append, List.length_map, List.length_replicate, hl]
  · unfold startD at hd
    by_cases hi : i < ds.length
    · rw [List.getElem?_append_left (by simpa using hi), List.getElem?_map] at hd
      cases q : ds[i]? with
      | none =>
        rw [q] at hd
        cases hd
      | some d' =>
        rw [q] at hd
        have e : d' = d := Option.some.inj (Option.some.inj hd)
        subst e
        obtain ⟨v, h1, h2⟩ := dpa_get h q
        refine ⟨v, ?_, h2⟩
        unfold L2.start
        rw [List.getElem?_append_left (by simp; omega), List.getElem?_map, h1]
        rfl
    · rw [List.getElem?_append_right (by simpa using hi), List.getElem?_replicate] at hd
      split at hd <;> cases hd
/-- the top's def x stands as its i-th statement -/
def DefAt (K : PySem.W.Frag) (mg : Str → Option Value) (x : Str) (i : Nat) : Prop := ∃ f fd, mg x = some (.ref f) ∧ FunD K x x (defArgs (top i)) (defBody (top i)) (defScope (top i)) [] [] f fd
abbrev cxN (P : Program) (w : World) (K : PySem.W.Frag) (mg : Str → Option Value) (base : Heap) (N : List Str) (x : Str) (i : Nat) (f : Addr) (cdv : Value) (A : Around) (outer : List Env) (s : Shared) (H : Hp) (E : XK) : Cx :=
  (cxOf CX0 P w K mg base N x (defScope (top i)) f cdv A outer s H E).nox
section
variable {P : Program} {w : World} {K : PySem.W.Frag} {mg : Str → Option Value} {base : Heap}
theorem mk_cal {x : Str} {i k : Nat} {N ps : List Str} {R : List D → D → Prop} (D0 : DefAt K mg x i) (S : FnScope N ps (defScope (top i))) (len : ∀ ds d, R ds d → ds.length = ps.length)
    (bd : ∀ (kV doc pm : Value) (an : Option Addr) (cdv ct : Value) (us : List Value), us.length = ps.length → bindArgs (PySem.W.fnOf x x (defArgs (top i)) (defBody (top i)) (defScope (top i)) .none kV doc pm an cdv ct) ⟨us, []⟩ = pure (ps.zip us))
    (body : ∀ (f : Addr) (cdv : Value) (A : Around) (outer : List Env) (s : Shared) (H : Hp) (E : XK), Room k (A.deeper (PyProof.Rows.envOfC x (defScope (top i)) s.heap.objs.size f cdv)) → ∀ ds d, R ds d →
      PDs (cxN P w K mg base N x i f cdv A outer s H E) (defBody (top i)) (startD N ds) (fun _ => d = .none) (· = d)) : Cal P w K mg base x (k + 1) ps (spP K R) := by
  obtain ⟨f, fd, hm, F⟩ := D0
  refine ⟨f, fd, hm, ?_, F.kp, F.bindsN bd⟩
  refine F.ok S (fun vs H Q E h => ?_) (fun cdv A outer s H vs Q E hr h => ?_)
  · obtain ⟨F, ds, d, _, h1, h2, _⟩ := h
    rw [dpa_len h1]
    exact len ds d h2
  · obtain ⟨F1, ds, d, h0, h1, h2, k2⟩ := h
    refine ⟨_, PSs.nox pss_u, body f cdv A outer s H E hr ds d h2 F1 (L2.start N vs) H _ (env_start h0 h1) (fun ρ' σ' F' H' n s1 e1 => ?_) fun d' v F' H' hd s1 q => ?_⟩
    · subst n
      exact k2 .non F' H' s1 .non
    · subst hd
      exact k2 v F' H' s1 q
end
end Rs
end

section
set_option Elab.async false
set_option linter.all false
set_option maxRecDepth 100000
set_option maxHeartbeats 4000000
namespace Rs
open PySem PySem.Spec L2
/-! ### the built-ins' names are free -/
structure Frees (mg : Str → Option Value) : Prop where
  abs : mg "abs" = none
  len : mg "len" = none
  min : mg "min" = none
  max : mg "max" = none
  int : mg "int" = none
  list : mg "list" = none
  tuple : mg "tuple" = none
  dict : mg "dict" = none
  zip : mg "zip" = none
  enumerate : mg "enumerate" = none
  range : mg "range" = none
  all : mg "all" = none
/-! ### fractions as data -/
@[reducible] def dFr (q : Rat) : D := .tuple [.int q.num, .int (q.den : Int)]
@[reducible] def dIn (z : Int) : D := .int z
theorem dFr_inj {a b : Rat} (h : dFr a = dFr b) : a = b := by
  unfold dFr at h
  injection h with h
  simp only [List.cons.injEq, PyData.int.injEq, and_true] at h
  exact eq_of_nd h.1 h.2
/-! ### // by a divisor of any sign -/
def CDivG (_ j : Int) : Prop := j ≠ 0 ∧ j.natAbs.log2 < 9000
theorem op_fdivG {X : Cx} : OpR X (binaryOp .FloorDiv) (rI CDivG fun i j => .int (i.fdiv j)) := opI fun i j _ _ _ _ _ hc q => PyProof.Rows.floordiv_int hc.1 q (.inl (PyProof.noPylong_of_log2 hc.2))
theorem pd_fdivG {X : Cx} {a b : Expr} {ρ : DEnv} {i j : Int} {pos : Pos} (ha : PD X a ρ (.int i)) (hb : PD X b ρ (.int j)) (h : CDivG i j) : PD X (.BinOp a .FloorDiv b pos) ρ (.int (i.fdiv j)) := pd_opI op_fdivG (fun _ => .int _) ha hb h
theorem log2_lt {n : Nat} {x : Nat} (h : x < 2 ^ n) (h0 : 0 < n) : x.log2 < n := PySem.Flt.log2_lt_of h0 h
theorem divG {n : Nat} {i j : Int} (h : IB n j) (h0 : j ≠ 0) (hn : n ≤ 9000) (hp : 0 < n) : CDivG i j := ⟨h0, Nat.lt_of_lt_of_le (log2_lt h hp) hn⟩
theorem mulW {n m : Nat} {i j : Int} (h : IB n i) (k : IB m j) (hn : n + m ≤ 1000000) (h1 : 0 < n) (h2 : 0 < m) : CMulW i j := wide_mul h k h1 h2 hn
/-- what most of the arithmetic is told of -/
abbrev Sm (q : Rat) : Prop := Bt 4000 q
abbrev Lg (q : Rat) : Prop := Bt 40000 q
theorem Sm.lg {q : Rat} (h : Sm q) : Lg q := Bt.mono h (by decide)
/-! ### promises -/
def R_shared (ds : List D) (d : D) : Prop := ∃ x y : Int, ds = [.int x, .int y] ∧ d = .int (Int.gcd x y : Int)
def R_fraction (ds : List D) (d : D) : Prop := ∃ x y : Int, ds = [.int x, .int y] ∧ y ≠ 0 ∧ IB 8900 y ∧ d = dFr (Rat.divInt x y)
def R_whole_of (ds : List D) (d : D) : Prop := ∃ x : Int, ds = [.int x] ∧ d = dFr (x : Rat)
def R_2 (pre : Rat → Rat → Prop) (f : Rat → Rat → Rat) (ds : List D) (d : D) : Prop := ∃ a b : Rat, ds = [dFr a, dFr b] ∧ pre a b ∧ d = dFr (f a b)
def R_1 (pre : Rat → Prop) (f : Rat → Rat) (ds : List D) (d : D) : Prop := ∃ a : Rat, ds = [dFr a] ∧ pre a ∧ d = dFr (f a)
def R_p2 (pre : Rat → Rat → Prop) (f : Rat → Rat → Bool) (ds : List D) (d : D) : Prop := ∃ a b : Rat, ds = [dFr a, dFr b] ∧ pre a b ∧ d = .bool (f a b)
abbrev R_plus := R_2 (fun a b => Sm a ∧ Sm b) (fun a b => a + b)
abbrev R_less := R_2 (fun a b => Sm a ∧ Sm b) (fun a b => a - b)
abbrev R_times := R_2 (fun a b => Sm a ∧ Sm b) (fun a b => a * b)
abbrev R_over := R_2 (fun a b => Sm a ∧ Sm b ∧ b ≠ 0) (fun a b => a / b)
abbrev R_turned := R_1 (fun _ => True) (fun a => -a)
abbrev R_size_of := R_1 (fun _ => True) qabs
abbrev R_is_less := R_p2 (fun a b => Lg a ∧ Lg b) (fun a b => decide (a < b))
abbrev R_lesser := R_2 (fun a b => Lg a ∧ Lg b) qmin
abbrev R_greater := R_2 (fun a b => Lg a ∧ Lg b) qmax

def R_power (ds : List D) (d : D) : Prop := ∃ B e : Int, ds = [.int B, .int e] ∧ (2 ≤ B ∧ B ≤ 16 ∧ -9000 ≤ e ∧ e ≤ 9000) ∧ d = dFr ((B : Rat) ^ e)
/-! ### rulers -/
def Way.str : Way → Str
  | .near => "near"
  | .down => "down"
  | .up => "up"
  | .nought => "nought"
@[reducible] def dRul (r : Rul) : D := .tuple [.int r.B, .int r.F, .int r.L, .str r.way.str]
def R_is_enough (ds : List D) (d : D) : Prop := ∃ (r : Rul) (q : Rat) (p : Int), ds = [dRul r, dFr q, .int p] ∧ (VR r ∧ Lg q ∧ -8900 ≤ p ∧ p ≤ 8900) ∧ d = .bool (decide (q < pw r (p + r.F)))
def R_place_of (ds : List D) (d : D) : Prop := ∃ (r : Rul) (q : Rat), ds = [dRul r, dFr q] ∧ (VR r ∧ Bt 2000 q) ∧ d = .int (plc r q)
def R_step_of (ds : List D) (d : D) : Prop := ∃ (r : Rul) (q : Rat), ds = [dRul r, dFr q] ∧ (VR r ∧ Bt 2000 q) ∧ d = dFr (stp r q)
def R_whole_by (ds : List D) (d : D) : Prop := ∃ (w : Way) (x y : Int), ds = [.str w.str, .int x, .int y] ∧ (0 < y ∧ IB 8900 y) ∧ d = .int (wb w x y)
def R_rounded (ds : List D) (d : D) : Prop := ∃ (r : Rul) (q : Rat), ds = [dRul r, dFr q] ∧ (VR r ∧ Bt 1300 q) ∧ d = dFr (rnd r q)
def R_off_of (ds : List D) (d : D) : Prop := ∃ (r : Rul) (q : Rat), ds = [dRul r, dFr q] ∧ (VR r ∧ Bt 1300 q) ∧ d = dFr (off r q)
def R_is_multiple (ds : List D) (d : D) : Prop := ∃ (r : Rul) (q : Rat) (g : Int), ds = [dRul r, dFr q, .int g] ∧ (VR r ∧ Sm q ∧ -900 ≤ g ∧ g ≤ 900) ∧ d = .bool (decide (mult r q g))
/-! ### spans -/
@[reducible] def dSp (s : Span) : D := .tuple [dFr s.1, dFr s.2]
structure SB (n : Nat) (s : Span) : Prop where
  a : Bt n s.1
  b : Bt n s.2
theorem SB.mono {n m : Nat} {s : Span} (h : SB n s) (l : n ≤ m) : SB m s := ⟨h.a.mono l, h.b.mono l⟩
def R_span_of (ds : List D) (d : D) : Prop := ∃ a b c e : Rat, ds = [.list [dFr a, dFr b, dFr c, dFr e]] ∧ (Lg a ∧ Lg b ∧ Lg c ∧ Lg e) ∧ d = dSp (spanOf a [a, b, c, e])
def R_has (ds : List D) (d : D) : Prop := ∃ (s : Span) (q : Rat), ds = [dSp s, dFr q] ∧ (SB 40000 s ∧ Lg q) ∧ d = .bool (hasS s q)
def R_s2s (pre : Span → Span → Prop) (f : Span → Span → Span) (ds : List D) (d : D) : Prop := ∃ s t : Span, ds = [dSp s, dSp t] ∧ pre s t ∧ d = dSp (f s t)
def R_s1s (pre : Span → Prop) (f : Span → Span) (ds : List D) (d : D) : Prop := ∃ s : Span, ds = [dSp s] ∧ pre s ∧ d = dSp (f s)
def R_s1q (pre : Span → Prop) (f : Span → Rat) (ds : List D) (d : D) : Prop := ∃ s : Span, ds = [dSp s] ∧ pre s ∧ d = dFr (f s)
def R_s2q (pre : Span → Span → Prop) (f : Span → Span → Rat) (ds : List D) (d : D) : Prop := ∃ s t : Span, ds = [dSp s, dSp t] ∧ pre s t ∧ d = dFr (f s t)
abbrev SB2 (n : Nat) (s t : Span) : Prop := SB n s ∧ SB n t
abbrev R_hull := R_s2s (SB2 40000) hullS
abbrev R_plus_spans := R_s2s (SB2 4000) plusS
abbrev R_turned_span := R_s1s (fun _ => True) turnS
abbrev R_less_spans := R_s2s (SB2 4000) lessS
abbrev R_times_spans := R_s2s (SB2 4000) timesS
abbrev R_over_spans := R_s2s (fun s t => SB2 4000 s t ∧ hasS t 0 = false ∧ t.1 ≤ t.2) overS
abbrev R_great_size := R_s1q (SB 40000) greatSz
abbrev R_small_size := R_s1q (SB 40000) smallSz
abbrev R_size_span := R_s1s (SB 40000) sizeS
abbrev R_least_span := R_s2s (SB2 40000) leastS
abbrev R_most_span := R_s2s (SB2 40000) mostS
abbrev R_apart := R_s2q (SB2 4000) apartS
/-! ### grains -/
@[reducible] def dGr : Option Int → D
  | none => .none
  | some g => .int g
def GB (n : Int) (g : Option Int) : Prop := ∀ x, g = some x → -n ≤ x ∧ x ≤ n
def R_grain_of (ds : List D) (d : D) : Prop := ∃ (r : Rul) (q : Rat), ds = [dRul r, dFr q] ∧ (VR r ∧ Bt 750 q) ∧ d = dGr (gof r q)
def R_grain_of_span (ds : List D) (d : D) : Prop := ∃ (r : Rul) (lo hi : Rat), ds = [dRul r, dFr lo, dFr hi] ∧ (VR r ∧ Bt 750 lo ∧ Bt 750 hi) ∧ d = dGr (gsp r lo hi)
def R_gg (f : Option Int → Option Int → Option Int) (ds : List D) (d : D) : Prop := ∃ a b : Option Int, ds = [dGr a, dGr b] ∧ d = dGr (f a b)
abbrev R_less_grain := R_gg lessG
abbrev R_great_grain := R_gg greatG
abbrev R_both_grains := R_gg bothG
def R_is_exact (ds : List D) (d : D) : Prop := ∃ (r : Rul) (s : Span) (g : Option Int), ds = [dRul r, dSp s, dGr g] ∧ (VR r ∧ SB 1300 s ∧ GB 2100 g) ∧ d = .bool (exactB r s g)
def R_slack (ds : List D) (d : D) : Prop := ∃ (r : Rul) (s : Span) (g : Option Int), ds = [dRul r, dSp s, dGr g] ∧ (VR r ∧ SB 1300 s ∧ GB 2100 g) ∧ d = dFr (slk r s g)
/-! ### entries -/
@[reducible] def dEn (e : Ent) : D := .tuple [dFr e.lo, dFr e.hi, dFr e.tlo, dFr e.thi, dFr e.err, dGr e.gr]
def NG (q : Rat) : Prop := (q.num.natAbs : Int) ≤ gre ∧ (q.den : Int) ≤ gre
structure NGE (e : Ent) : Prop where
  lo : NG e.lo
  hi : NG e.hi
  tlo : NG e.tlo
  thi : NG e.thi
  err : NG e.err
/-- sizes of entries asked -/
structure EB (e : Ent) : Prop where
  lr : e.lo ≤ e.hi
  lt : e.tlo ≤ e.thi
  rp : SB 330 e.rp
  tp : SB 330 e.tp
  err : Bt 1000 e.err
  gr : GB 1000 e.gr
def R_rounded_part (ds : List D) (d : D) : Prop := ∃ e : Ent, ds = [dEn e] ∧ d = dSp e.rp
def R_true_part (ds : List D) (d : D) : Prop := ∃ e : Ent, ds = [dEn e] ∧ d = dSp e.tp
def R_last_entry (ds : List D) (d : D) : Prop := ∃ (r : Rul) (s t : Span) (err : Rat) (g : Option Int), ds = [dRul r, dSp s, dSp t, dFr err, dGr g] ∧ (VR r ∧ SB 750 s ∧ SB 750 t ∧ Lg err ∧ NGE (lastE r s t err g)) ∧ d = dEn (lastE r s t err g)
def R_rounded_entry (ds : List D) (d : D) : Prop := ∃ (r : Rul) (s t : Span) (err : Rat) (g : Option Int), ds = [dRul r, dSp s, dSp t, dFr err, dGr g] ∧ (VR r ∧ SB 700 s ∧ SB 750 t ∧ Sm err ∧ GB 2100 g ∧ NGE (roundE r s t err g)) ∧ d = dEn (roundE r s t err g)
def sumW (b : Bool) : Str := bif b then "plus" else "less"
def chosW (b : Bool) : Str := bif b then "least" else "most"
def sinW (b : Bool) : Str := bif b then "turned" else "size"
def R_sum_entry (ds : List D) (d : D) : Prop := ∃ (r : Rul) (b : Bool) (x y : Ent), ds = [dRul r, .str (sumW b), dEn x, dEn y] ∧ (VR r ∧ EB x ∧ EB y ∧ NGE (sumE r b x y)) ∧ d = dEn (sumE r b x y)
def R_product_entry (ds : List D) (d : D) : Prop := ∃ (r : Rul) (x y : Ent), ds = [dRul r, dEn x, dEn y] ∧ (VR r ∧ EB x ∧ EB y ∧ NGE (prodE r x y)) ∧ d = dEn (prodE r x y)
noncomputable def sinE (r : Rul) (b : Bool) (x : Ent) : Ent := bif b then turnE r x else sizeE r x
def R_single_entry (ds : List D) (d : D) : Prop := ∃ (r : Rul) (b : Bool) (x : Ent), ds = [dRul r, .str (sinW b), dEn x] ∧ (VR r ∧ EB x ∧ NGE (sinE r b x)) ∧ d = dEn (sinE r b x)
def R_chosen_entry (ds : List D) (d : D) : Prop := ∃ (r : Rul) (b : Bool) (x y : Ent), ds = [dRul r, .str (chosW b), dEn x, dEn y] ∧ (VR r ∧ EB x ∧ EB y ∧ NGE (chosE r b x y)) ∧ d = dEn (chosE r b x y)
def dSides (l : List Bool) : D := .tuple (l.map fun b => .int (if b then 1 else 0))
def R_sides (ds : List D) (d : D) : Prop := ∃ s t : Span, ds = [dSp s, dSp t] ∧ SB2 40000 s t ∧ d = dSides (sidesS s t)
def R_picked_entry (ds : List D) (d : D) : Prop := ∃ (r : Rul) (same : Bool) (x y u v : Ent), ds = [dRul r, dEn x, dEn y, .list [dEn u, dEn v], .bool same] ∧ (VR r ∧ EB x ∧ EB y ∧ EB u ∧ EB v ∧ NGE (pickE r same x y u v)) ∧ d = dEn (pickE r same x y u v)
def R_entry_of_marks (ds : List D) (d : D) : Prop := ∃ (r : Rul) (lo hi : Rat), ds = [dRul r, dFr lo, dFr hi] ∧ (VR r ∧ Bt 750 lo ∧ Bt 750 hi) ∧ d = dEn (entMarks r lo hi)
def R_is_great (ds : List D) (d : D) : Prop := ∃ q : Rat, ds = [dFr q] ∧ d = .bool (decide (gre < (q.num.natAbs : Int)) || decide (gre < (q.den : Int)))
def R_need_small (ds : List D) (d : D) : Prop := ∃ q : Rat, ds = [dFr q] ∧ NG q ∧ d = dFr q
theorem eqv_fr (a b : Rat) : PyData.eqv (dFr a) (dFr b) = decide (a = b) := by
  show ((a.num == b.num) && (((a.den : Int) == (b.den : Int)) && true)) = _
  rw [Bool.and_true]
  by_cases h : a = b
  · subst h
    simp
  · rw [decide_eq_false h, Bool.and_eq_false_iff]
    by_cases c : a.num = b.num
    · refine .inr (beq_eq_false_iff_ne.mpr fun z => h (eq_of_nd c z))
    · exact .inl (beq_eq_false_iff_ne.mpr c)
theorem units_of {A : Around} {k : Nat} (hr : Room k A) : A.units + 64 < cLine := hr.units
theorem gr_none {o : Option Int} : isNon (dGr o) = o.isNone := by cases o <;> rfl
theorem half_nd' : ((1 / 2 : Rat)).num = 1 ∧ ((1 / 2 : Rat)).den = 2 := by decide +kernel
section
variable {n m : Nat} {s t : Span}
theorem SB_plus (h : SB n s) (k : SB m t) : SB (n + m + 1) (plusS s t) := ⟨h.a.add k.a, h.b.add k.b⟩
theorem SB_turn (h : SB n s) : SB n (turnS s) := ⟨h.b.neg, h.a.neg⟩
theorem SB_less (h : SB n s) (k : SB m t) : SB (n + m + 1) (lessS s t) := SB_plus h (SB_turn k)
theorem SB_of {a b c e : Rat} (ha : Bt n a) (hb : Bt n b) (hc : Bt n c) (he : Bt n e) : SB n (spanOf a [a, b, c, e]) :=
  ⟨Bt_qmin (Bt_qmin (Bt_qmin (Bt_qmin ha ha) hb) hc) he, Bt_qmax (Bt_qmax (Bt_qmax (Bt_qmax ha ha) hb) hc) he⟩
theorem SB_times (h : SB n s) (k : SB m t) : SB (n + m) (timesS s t) := SB_of (h.a.mul k.a) (h.a.mul k.b) (h.b.mul k.a) (h.b.mul k.b)
theorem SB_over (h : SB n s) (k : SB m t) (h1 : t.1 ≠ 0) (h2 : t.2 ≠ 0) : SB (n + m) (overS s t) := SB_of (h.a.div k.a h1) (h.a.div k.b h2) (h.b.div k.a h1) (h.b.div k.b h2)
theorem SB_size (h : SB n s) (hn : 1 ≤ n) : SB n (sizeS s) := ⟨Bt_small h.a h.b hn, Bt_great h.a h.b⟩
theorem GB_less {a b : Option Int} (h : GB 1000 a) (k : GB 1000 b) : GB 2100 (lessG a b) := by
  intro x hx
  cases a with
  | none =>
    have := k x hx
    omega
  | some a => cases b with
    | none =>
      have := h x hx
      omega
    | some b =>
      have h1 := h a rfl
      have h2 := k b rfl
      have e : (if b < a then b else a) = x := Option.some.inj hx
      split at e <;> omega
theorem GB_both {a b : Option Int} (h : GB 1000 a) (k : GB 1000 b) : GB 2100 (bothG a b) := by
  intro x hx
  cases a with
  | none => cases hx
  | some a => cases b with
    | none => cases hx
    | some b =>
      have h1 := h a rfl
      have h2 := k b rfl
      have e : a + b = x := Option.some.inj hx
      omega
theorem slk_Bt {r : Rul} (v : VR r) {g : Option Int} (h : Bt 700 s.1) (k : Bt 700 s.2) : Bt 1500 (slk r s g) := by
  unfold slk
  have hst := stp_Bt v (Bt_great h k) (by decide)
  split
  · exact (off_Bt v h (by decide)).mono (by decide)
  · cases exactB r s g
    · dsimp only [cond]
      split
      · exact ((show Bt 2 (1 / 2) from ⟨by rw [half_nd'.1]; unfold IB; decide, by rw [half_nd'.2]; decide⟩).mul hst).mono (by decide)
      · exact hst.mono (by decide)
    · exact Bt.zero.mono (by decide)
end
theorem sidesS_ne (s t : Span) : sidesS s t ≠ [] := by
  unfold sidesS
  cases decide (s.2 < t.1) <;> cases decide (s.1 < t.2) <;> simp
theorem side_at {l : List Bool} {n : Nat} {d : D} (h : (l.map fun b => PyData.int (if b then 1 else 0))[n]? = some d) : ∃ i, l[n]? = some i ∧ d = .int (if i then 1 else 0) := by
  rw [List.getElem?_map] at h
  cases e : l[n]? with
  | none =>
    rw [e] at h
    cases h
  | some i =>
    rw [e] at h
    exact ⟨i, rfl, (Option.some.inj h).symm⟩
theorem side_head {l : List Bool} (h : l ≠ []) : atI (l.map fun b => PyData.int (if b then 1 else 0)) 0 = some (.int (if l.headD false then 1 else 0)) := by
  cases l with
  | nil => exact absurd rfl h
  | cons a r => exact atI_nat (j := 0) rfl
theorem side_last {l : List Bool} (h : l ≠ []) : atI (l.map fun b => PyData.int (if b then 1 else 0)) (-1) = some (.int (if l.getLastD false then 1 else 0)) := by
  obtain ⟨r, a, rfl⟩ : ∃ r a, l = r ++ [a] := ⟨l.dropLast, l.getLast h, (List.dropLast_concat_getLast h).symm⟩
  rw [List.map_append, List.map_singleton, atI_last]
  simp
theorem pickFar_Lg {same : Bool} {u v : Ent} {i j : Bool} (hi : EB (selE u v i)) (hj : EB (selE u v j)) : Lg (pickFar same u v i j) := by
  unfold pickFar
  cases (same || i == j)
  · exact (Bt_qmax (n := 700) ((hi.rp.b.sub hj.tp.a).mono (by decide)) ((hj.tp.b.sub hi.rp.a).mono (by decide))).mono (by decide)
  · exact hi.err.mono (by decide)
theorem SB_hull {n : Nat} {s t : Span} (h : SB n s) (k : SB n t) : SB n (hullS s t) := ⟨Bt_qmin h.a k.a, Bt_qmax h.b k.b⟩
/-! ### the module's constants -/
structure Consts (K : PySem.W.Frag) (mg : Str → Option Value) : Prop where
  great : ∃ t, mg "GREATEST" = some (.int gre t)
  nought : ∃ f, mg "NOUGHT" = some (.ref f) ∧ ∀ H, SqT K H f [.int 0, .int 1]
  half : ∃ f, mg "HALF" = some (.ref f) ∧ ∀ H, SqT K H f [.int 1, .int 2]
theorem pd_nought {X : Cx} {ρ : DEnv} {pos : Pos} (C : Consts X.K X.mg) (hg : Gl X "NOUGHT" := by rfl) : PD X (.Name "NOUGHT" pos) ρ (dFr 0) := by
  obtain ⟨f, h1, h2⟩ := C.nought
  exact pd_glob h1 h2 (fun H => .cons (.int 0) (.cons (.int 1) .nil)) hg
theorem half_nd : ((1 / 2 : Rat)).num = 1 ∧ ((1 / 2 : Rat)).den = 2 := by decide +kernel
theorem half_Bt : Bt 4000 (1 / 2) := (show Bt 2 (1 / 2) from ⟨by rw [half_nd.1]; unfold IB; decide, by rw [half_nd.2]; decide⟩).mono (by decide)
theorem pd_half {X : Cx} {ρ : DEnv} {pos : Pos} (C : Consts X.K X.mg) (hg : Gl X "HALF" := by rfl) : PD X (.Name "HALF" pos) ρ (dFr (1 / 2)) := by
  obtain ⟨f, h1, h2⟩ := C.half
  have e : dFr (1 / 2) = .tuple [.int 1, .int 2] := by
    unfold dFr
    rw [half_nd.1, half_nd.2]
    rfl
  rw [e]
  exact pd_glob h1 h2 (fun H => .cons (.int 1) (.cons (.int 2) .nil)) hg
theorem pd_great {X : Cx} {ρ : DEnv} {pos : Pos} (C : Consts X.K X.mg) (hg : Gl X "GREATEST" := by rfl) : PD X (.Name "GREATEST" pos) ρ (.int gre) := by
  obtain ⟨t, h⟩ := C.great
  exact pd_globI h hg
end Rs
end

section
set_option Elab.async false
set_option linter.all false
set_option maxRecDepth 100000
set_option maxHeartbeats 4000000
namespace Rs
open PySem PySem.Spec L2
section
variable {P : Program} {w : World} {K : PySem.W.Frag} {mg : Str → Option Value} {base : Heap}
theorem sc_shared : FnScope ["one", "other"] ["one", "other"] (defScope (top 7)) := ⟨rfl, rfl, rfl, by decide +kernel, rfl, by decide +kernel, by decide +kernel⟩
theorem cal_shared (T : Frees mg) (D0 : DefAt K mg "shared" 7) : Cal P w K mg base "shared" 1 ["one", "other"] (spP K R_shared) := by
  refine mk_cal D0 sc_shared (fun ds d h => ?_) (fun _ _ _ _ _ _ us hl => match us, hl with | [_, _], _ => rfl) (fun f cdv A outer s H E hr ds d h => ?_)
  · obtain ⟨x, y, rfl, _⟩ := h
    rfl
  · obtain ⟨x, y, rfl, rfl⟩ := h
    refine pds_set 0 (pd_abs T.abs (pd_var 0)) ?_ sc_shared.nd
    refine pds_set 1 (pd_abs T.abs (pd_var 1)) ?_ sc_shared.nd
    refine pds_while (fun m ρ' => ∃ a b : Nat, ρ' = [some (.int (a : Int)), some (.int (b : Int))] ∧ m = b ∧ Nat.gcd a b = Int.gcd x y) y.natAbs ⟨x.natAbs, y.natAbs, rfl, rfl, rfl⟩ ?_
    rintro m ρ' ⟨a, b, rfl, rfl, hg⟩
    refine ⟨_, pdt_cmp (qc_gt (pd_var 1) pd_int), fun hb => ?_, fun hb => ?_⟩
    · have h0 : (0 : Int) < (m : Int) := of_decide_eq_true hb
      refine pds_par 0 1 (pda_cons (pd_var 1) (pda_cons (pd_mod (pd_var 0) (pd_var 1) h0) pda_nil)) (pds_nil ?_) (ps_par (by rfl) sc_shared.nd rfl rfl (by decide) rfl rfl pa_u (by rfl))
      refine ⟨a % m, Nat.mod_lt _ (by omega), m, a % m, ?_, rfl, ?_⟩
      · show [some (PyData.int (m : Int)), some (PyData.int ((a : Int) % (m : Int)))] = _
        rw [← Int.natCast_emod]
      · rw [← hg, Nat.gcd_comm a m]
        exact (Nat.gcd_rec m a ▸ Nat.gcd_comm _ _)
    · have h0 : ¬ (0 : Int) < (m : Int) := of_decide_eq_false hb
      have e0 : m = 0 := by omega
      subst e0
      refine pds_ret (pd_var 0) ?_
      rw [← hg, Nat.gcd_zero_right]
theorem sc_fraction : FnScope ["above", "below", "part"] ["above", "below"] (defScope (top 8)) := ⟨rfl, rfl, rfl, by decide +kernel, rfl, by decide +kernel, by decide +kernel⟩
theorem cal_fraction (D0 : DefAt K mg "fraction" 8) (c_shared : Cal P w K mg base "shared" 1 ["one", "other"] (spP K R_shared)) : Cal P w K mg base "fraction" 2 ["above", "below"] (spP K R_fraction) := by
  refine mk_cal D0 sc_fraction (fun ds d h => ?_) (fun _ _ _ _ _ _ us hl => match us, hl with | [_, _], _ => rfl) (fun f cdv A outer s H E hr ds d h => ?_)
  · obtain ⟨x, y, rfl, _⟩ := h
    rfl
  · obtain ⟨x, y, rfl, hy, hb, rfl⟩ := h
    have hgp := gcd_pos (x := x) hy
    have hgi : IB 8900 (Int.gcd x y : Int) := hb.le (by rw [Int.natAbs_natCast]; exact Nat.le_of_dvd (by omega) (Int.ofNat_dvd_left.mp (Int.gcd_dvd_right x y)))
    refine pds_set 2 (pd_call c_shared hr (pda_cons (pd_var 0) (pda_cons (pd_var 1) pda_nil)) ⟨x, y, rfl, rfl⟩) ?_ sc_fraction.nd
    refine pds_if (N1 := fun ρ' => ρ' = [some (.int x), some (.int y), some (.int (if y < 0 then 0 - (Int.gcd x y : Int) else (Int.gcd x y : Int)))]) (pdt_cmp (qc_lt (pd_var 1) pd_int)) (fun hb => ?_) (fun hb => ?_) ?_
    · have h0 := of_decide_eq_true hb
      refine pds_set 2 (pd_sub pd_int (pd_var 2)) (pds_nil ?_) sc_fraction.nd
      rw [if_pos h0]
      rfl
    · have h0 := of_decide_eq_false hb
      refine pds_nil ?_
      rw [if_neg h0]
      rfl
    · rintro ρ' rfl
      have hp : CDivG x (if y < 0 then 0 - (Int.gcd x y : Int) else (Int.gcd x y : Int)) ∧ CDivG y (if y < 0 then 0 - (Int.gcd x y : Int) else (Int.gcd x y : Int)) := by
        split
        · rw [Int.zero_sub]
          exact ⟨divG hgi.neg (by omega) (by decide) (by decide), divG hgi.neg (by omega) (by decide) (by decide)⟩
        · exact ⟨divG hgi (by omega) (by decide) (by decide), divG hgi (by omega) (by decide) (by decide)⟩
      refine pds_ret (pd_tup (pda_cons (pd_fdivG (pd_var 0) (pd_var 2) hp.1) (pda_cons (pd_fdivG (pd_var 1) (pd_var 2) hp.2) pda_nil))) ?_
      rw [frac_num hy, frac_den hy]
end
end Rs
end

section
set_option Elab.async false
set_option linter.all false
set_option maxRecDepth 100000
set_option maxHeartbeats 4000000
namespace Rs
open PySem PySem.Spec L2
local macro_rules
  | `(tactic| walk_at "ib") => `(tactic| first | assumption | exact Bt.nu (by assumption) | exact Bt.deI (by assumption))
local macro_rules
  | `(tactic| walk_at "mw") => `(tactic| exact mulW (by walk_at "ib") (by walk_at "ib") (by decide) (by decide) (by decide))
local macro_rules
  | `(tactic| walk_at "bt0") => `(tactic| first | assumption | exact SB.a (by assumption) | exact SB.b (by assumption) | exact Bt.neg (by walk_at "bt0") | exact Bt.abs (by walk_at "bt0") | exact Bt.add (by walk_at "bt0") (by walk_at "bt0") | exact Bt.sub (by walk_at "bt0") (by walk_at "bt0") | exact Bt.mul (by walk_at "bt0") (by walk_at "bt0"))
local macro_rules
  | `(tactic| walk_at "bt") => `(tactic| exact Bt.mono (by walk_at "bt0") (by decide))
section
variable {P : Program} {w : World} {K : PySem.W.Frag} {mg : Str → Option Value} {base : Heap}
theorem sc_is_great : FnScope ["number"] ["number"] (defScope (top 9)) := ⟨rfl, rfl, rfl, by decide +kernel, rfl, by decide +kernel, by decide +kernel⟩
theorem cal_is_great (T : Frees mg) (C : Consts K mg) (D0 : DefAt K mg "is_great" 9)  : Cal P w K mg base "is_great" 1 ["number"] (spP K R_is_great) := by
  refine mk_cal D0 sc_is_great (fun ds d h => ?_) (fun _ _ _ _ _ _ us hl => match us, hl with | [_], _ => rfl) (fun f cdv A outer s H E hr ds d h => ?_)
  · obtain ⟨a, rfl, rfl⟩ := h
    rfl
  · obtain ⟨a, rfl, rfl⟩ := h
    refine pds_ret (pd_or (pd_cmp (qc_gt (pd_abs T.abs (pd_ixT (pd_var 0) pd_int)) (pd_great C))) fun _ => (pd_one (pd_cmp (qc_gt (pd_ixT (pd_var 0) pd_int) (pd_great C))))) ?_
    rfl
theorem sc_need_small : FnScope ["number"] ["number"] (defScope (top 10)) := ⟨rfl, rfl, rfl, by decide +kernel, rfl, by decide +kernel, by decide +kernel⟩
theorem cal_need_small (T : Frees mg) (D0 : DefAt K mg "need_small" 10) (c_is_great : Cal P w K mg base "is_great" 1 ["number"] (spP K R_is_great)) : Cal P w K mg base "need_small" 2 ["number"] (spP K R_need_small) := by
  refine mk_cal D0 sc_need_small (fun ds d h => ?_) (fun _ _ _ _ _ _ us hl => match us, hl with | [_], _ => rfl) (fun f cdv A outer s H E hr ds d h => ?_)
  · obtain ⟨a, rfl, ha, rfl⟩ := h
    rfl
  · obtain ⟨a, rfl, ha, rfl⟩ := h
    refine pds_ifR (b' := false) (pdt_val (pd_is (pd_call c_is_great hr (pda_cons (pd_var 0) pda_nil) ⟨a, rfl, rfl⟩) ?_)) (fun hb => nomatch hb) (fun hb => pds_ret (pd_var 0) rfl)
    have h1 : ¬ gre < (a.num.natAbs : Int) := Int.not_lt.mpr ha.1
    have h2 : ¬ gre < (a.den : Int) := Int.not_lt.mpr ha.2
    rw [decide_eq_false h1, decide_eq_false h2]
    rfl
theorem sc_whole_of : FnScope ["number"] ["number"] (defScope (top 11)) := ⟨rfl, rfl, rfl, by decide +kernel, rfl, by decide +kernel, by decide +kernel⟩
theorem cal_whole_of (T : Frees mg) (D0 : DefAt K mg "whole_of" 11)  : Cal P w K mg base "whole_of" 1 ["number"] (spP K R_whole_of) := by
  refine mk_cal D0 sc_whole_of (fun ds d h => ?_) (fun _ _ _ _ _ _ us hl => match us, hl with | [_], _ => rfl) (fun f cdv A outer s H E hr ds d h => ?_)
  · obtain ⟨x, rfl, rfl⟩ := h
    rfl
  · obtain ⟨x, rfl, rfl⟩ := h
    refine pds_ret (pd_tup (pda_cons (pd_var 0) (pda_cons pd_int pda_nil))) ?_
    unfold dFr
    rw [Rat.num_intCast, Rat.den_intCast]
    rfl
theorem sc_plus : FnScope ["one", "other"] ["one", "other"] (defScope (top 12)) := ⟨rfl, rfl, rfl, by decide +kernel, rfl, by decide +kernel, by decide +kernel⟩
theorem cal_plus (T : Frees mg) (D0 : DefAt K mg "plus" 12) (c_fraction : Cal P w K mg base "fraction" 2 ["above", "below"] (spP K R_fraction)) : Cal P w K mg base "plus" 3 ["one", "other"] (spP K R_plus) := by
  refine mk_cal D0 sc_plus (fun ds d h => ?_) (fun _ _ _ _ _ _ us hl => match us, hl with | [_, _], _ => rfl) (fun f cdv A outer s H E hr ds d h => ?_)
  · obtain ⟨a, b, rfl, ⟨ha, hb⟩, rfl⟩ := h
    rfl
  · obtain ⟨a, b, rfl, ⟨ha, hb⟩, rfl⟩ := h
    refine pds_ret (pd_call c_fraction hr (pda_cons (pd_add (pd_mulW (pd_ixT (pd_var 0) pd_int) (pd_ixT (pd_var 1) pd_int) (by walk_at "mw")) (pd_mulW (pd_ixT (pd_var 1) pd_int) (pd_ixT (pd_var 0) pd_int) (by walk_at "mw"))) (pda_cons (pd_mulW (pd_ixT (pd_var 0) pd_int) (pd_ixT (pd_var 1) pd_int) (by walk_at "mw")) pda_nil)) ⟨_, _, rfl, (by first | exact Int.mul_ne_zero (den_ne _) (den_ne _) | exact Int.mul_ne_zero (den_ne _) (num_ne (by assumption))), (by first | exact IB.mono (IB.mul (by walk_at "ib") (by walk_at "ib")) (by decide)), rfl⟩) ?_
    rw [plus_eq]
theorem sc_turned : FnScope ["one"] ["one"] (defScope (top 13)) := ⟨rfl, rfl, rfl, by decide +kernel, rfl, by decide +kernel, by decide +kernel⟩
theorem cal_turned (T : Frees mg) (D0 : DefAt K mg "turned" 13)  : Cal P w K mg base "turned" 1 ["one"] (spP K R_turned) := by
  refine mk_cal D0 sc_turned (fun ds d h => ?_) (fun _ _ _ _ _ _ us hl => match us, hl with | [_], _ => rfl) (fun f cdv A outer s H E hr ds d h => ?_)
  · obtain ⟨a, rfl, ha, rfl⟩ := h
    rfl
  · obtain ⟨a, rfl, ha, rfl⟩ := h
    refine pds_ret (pd_tup (pda_cons (pd_sub pd_int (pd_ixT (pd_var 0) pd_int)) (pda_cons (pd_ixT (pd_var 0) pd_int) pda_nil))) ?_
    rw [Int.zero_sub]
    unfold dFr
    rw [Rat.neg_num, Rat.neg_den]
theorem sc_less : FnScope ["one", "other"] ["one", "other"] (defScope (top 14)) := ⟨rfl, rfl, rfl, by decide +kernel, rfl, by decide +kernel, by decide +kernel⟩
theorem cal_less (T : Frees mg) (D0 : DefAt K mg "less" 14) (c_plus : Cal P w K mg base "plus" 3 ["one", "other"] (spP K R_plus)) (c_turned : Cal P w K mg base "turned" 1 ["one"] (spP K R_turned)) : Cal P w K mg base "less" 4 ["one", "other"] (spP K R_less) := by
  refine mk_cal D0 sc_less (fun ds d h => ?_) (fun _ _ _ _ _ _ us hl => match us, hl with | [_, _], _ => rfl) (fun f cdv A outer s H E hr ds d h => ?_)
  · obtain ⟨a, b, rfl, ⟨ha, hb⟩, rfl⟩ := h
    rfl
  · obtain ⟨a, b, rfl, ⟨ha, hb⟩, rfl⟩ := h
    refine pds_ret (pd_call c_plus hr (pda_cons (pd_var 0) (pda_cons (pd_call c_turned (hr.mono (by decide)) (pda_cons (pd_var 1) pda_nil) ⟨_, rfl, trivial, rfl⟩) pda_nil)) ⟨_, _, rfl, ⟨by walk_at "bt", by walk_at "bt"⟩, rfl⟩) ?_
    dsimp only
    rw [Rat.sub_eq_add_neg]
theorem sc_times : FnScope ["one", "other"] ["one", "other"] (defScope (top 15)) := ⟨rfl, rfl, rfl, by decide +kernel, rfl, by decide +kernel, by decide +kernel⟩
theorem cal_times (T : Frees mg) (D0 : DefAt K mg "times" 15) (c_fraction : Cal P w K mg base "fraction" 2 ["above", "below"] (spP K R_fraction)) : Cal P w K mg base "times" 3 ["one", "other"] (spP K R_times) := by
  refine mk_cal D0 sc_times (fun ds d h => ?_) (fun _ _ _ _ _ _ us hl => match us, hl with | [_, _], _ => rfl) (fun f cdv A outer s H E hr ds d h => ?_)
  · obtain ⟨a, b, rfl, ⟨ha, hb⟩, rfl⟩ := h
    rfl
  · obtain ⟨a, b, rfl, ⟨ha, hb⟩, rfl⟩ := h
    refine pds_ret (pd_call c_fraction hr (pda_cons (pd_mulW (pd_ixT (pd_var 0) pd_int) (pd_ixT (pd_var 1) pd_int) (by walk_at "mw")) (pda_cons (pd_mulW (pd_ixT (pd_var 0) pd_int) (pd_ixT (pd_var 1) pd_int) (by walk_at "mw")) pda_nil)) ⟨_, _, rfl, (by first | exact Int.mul_ne_zero (den_ne _) (den_ne _) | exact Int.mul_ne_zero (den_ne _) (num_ne (by assumption))), (by first | exact IB.mono (IB.mul (by walk_at "ib") (by walk_at "ib")) (by decide)), rfl⟩) ?_
    rw [times_eq]
theorem sc_over : FnScope ["one", "other"] ["one", "other"] (defScope (top 16)) := ⟨rfl, rfl, rfl, by decide +kernel, rfl, by decide +kernel, by decide +kernel⟩
theorem cal_over (T : Frees mg) (D0 : DefAt K mg "over" 16) (c_fraction : Cal P w K mg base "fraction" 2 ["above", "below"] (spP K R_fraction)) : Cal P w K mg base "over" 3 ["one", "other"] (spP K R_over) := by
  refine mk_cal D0 sc_over (fun ds d h => ?_) (fun _ _ _ _ _ _ us hl => match us, hl with | [_, _], _ => rfl) (fun f cdv A outer s H E hr ds d h => ?_)
  · obtain ⟨a, b, rfl, ⟨ha, hb, h0⟩, rfl⟩ := h
    rfl
  · obtain ⟨a, b, rfl, ⟨ha, hb, h0⟩, rfl⟩ := h
    refine pds_ret (pd_call c_fraction hr (pda_cons (pd_mulW (pd_ixT (pd_var 0) pd_int) (pd_ixT (pd_var 1) pd_int) (by walk_at "mw")) (pda_cons (pd_mulW (pd_ixT (pd_var 0) pd_int) (pd_ixT (pd_var 1) pd_int) (by walk_at "mw")) pda_nil)) ⟨_, _, rfl, (by first | exact Int.mul_ne_zero (den_ne _) (den_ne _) | exact Int.mul_ne_zero (den_ne _) (num_ne (by assumption))), (by first | exact IB.mono (IB.mul (by walk_at "ib") (by walk_at "ib")) (by decide)), rfl⟩) ?_
    rw [over_eq]
theorem sc_size_of : FnScope ["one"] ["one"] (defScope (top 17)) := ⟨rfl, rfl, rfl, by decide +kernel, rfl, by decide +kernel, by decide +kernel⟩
theorem cal_size_of (T : Frees mg) (D0 : DefAt K mg "size_of" 17)  : Cal P w K mg base "size_of" 1 ["one"] (spP K R_size_of) := by
  refine mk_cal D0 sc_size_of (fun ds d h => ?_) (fun _ _ _ _ _ _ us hl => match us, hl with | [_], _ => rfl) (fun f cdv A outer s H E hr ds d h => ?_)
  · obtain ⟨a, rfl, ha, rfl⟩ := h
    rfl
  · obtain ⟨a, rfl, ha, rfl⟩ := h
    refine pds_ret (pd_tup (pda_cons (pd_abs T.abs (pd_ixT (pd_var 0) pd_int)) (pda_cons (pd_ixT (pd_var 0) pd_int) pda_nil))) ?_
    unfold dFr
    rw [(qabs_nd a).1, (qabs_nd a).2]
theorem sc_is_less : FnScope ["one", "other"] ["one", "other"] (defScope (top 18)) := ⟨rfl, rfl, rfl, by decide +kernel, rfl, by decide +kernel, by decide +kernel⟩
theorem cal_is_less (T : Frees mg) (D0 : DefAt K mg "is_less" 18)  : Cal P w K mg base "is_less" 1 ["one", "other"] (spP K R_is_less) := by
  refine mk_cal D0 sc_is_less (fun ds d h => ?_) (fun _ _ _ _ _ _ us hl => match us, hl with | [_, _], _ => rfl) (fun f cdv A outer s H E hr ds d h => ?_)
  · obtain ⟨a, b, rfl, ⟨ha, hb⟩, rfl⟩ := h
    rfl
  · obtain ⟨a, b, rfl, ⟨ha, hb⟩, rfl⟩ := h
    refine pds_ret (pd_cmp (qc_lt (pd_mulW (pd_ixT (pd_var 0) pd_int) (pd_ixT (pd_var 1) pd_int) (by walk_at "mw")) (pd_mulW (pd_ixT (pd_var 1) pd_int) (pd_ixT (pd_var 0) pd_int) (by walk_at "mw")))) ?_
    rw [lt_dec]
theorem sc_lesser : FnScope ["one", "other"] ["one", "other"] (defScope (top 19)) := ⟨rfl, rfl, rfl, by decide +kernel, rfl, by decide +kernel, by decide +kernel⟩
theorem cal_lesser (T : Frees mg) (D0 : DefAt K mg "lesser" 19) (c_is_less : Cal P w K mg base "is_less" 1 ["one", "other"] (spP K R_is_less)) : Cal P w K mg base "lesser" 2 ["one", "other"] (spP K R_lesser) := by
  refine mk_cal D0 sc_lesser (fun ds d h => ?_) (fun _ _ _ _ _ _ us hl => match us, hl with | [_, _], _ => rfl) (fun f cdv A outer s H E hr ds d h => ?_)
  · obtain ⟨a, b, rfl, ⟨ha, hb⟩, rfl⟩ := h
    rfl
  · obtain ⟨a, b, rfl, ⟨ha, hb⟩, rfl⟩ := h
    refine pds_ret (pd_ite (pdt_val (pd_call c_is_less hr (pda_cons (pd_var 1) (pda_cons (pd_var 0) pda_nil)) ⟨_, _, rfl, ⟨by walk_at "bt", by walk_at "bt"⟩, rfl⟩)) (fun h => (pd_var 1)) (fun h => (pd_var 0))) ?_
    dsimp only
    unfold qmin
    by_cases c : b < a
    · rw [if_pos c, decide_eq_true c]; rfl
    · rw [if_neg c, decide_eq_false c]; rfl
theorem sc_greater : FnScope ["one", "other"] ["one", "other"] (defScope (top 20)) := ⟨rfl, rfl, rfl, by decide +kernel, rfl, by decide +kernel, by decide +kernel⟩
theorem cal_greater (T : Frees mg) (D0 : DefAt K mg "greater" 20) (c_is_less : Cal P w K mg base "is_less" 1 ["one", "other"] (spP K R_is_less)) : Cal P w K mg base "greater" 2 ["one", "other"] (spP K R_greater) := by
  refine mk_cal D0 sc_greater (fun ds d h => ?_) (fun _ _ _ _ _ _ us hl => match us, hl with | [_, _], _ => rfl) (fun f cdv A outer s H E hr ds d h => ?_)
  · obtain ⟨a, b, rfl, ⟨ha, hb⟩, rfl⟩ := h
    rfl
  · obtain ⟨a, b, rfl, ⟨ha, hb⟩, rfl⟩ := h
    refine pds_ret (pd_ite (pdt_val (pd_call c_is_less hr (pda_cons (pd_var 0) (pda_cons (pd_var 1) pda_nil)) ⟨_, _, rfl, ⟨by walk_at "bt", by walk_at "bt"⟩, rfl⟩)) (fun h => (pd_var 1)) (fun h => (pd_var 0))) ?_
    dsimp only
    unfold qmax
    by_cases c : a < b
    · rw [if_pos c, decide_eq_true c]; rfl
    · rw [if_neg c, decide_eq_false c]; rfl
end
end Rs
end

section
set_option Elab.async false
set_option linter.all false
set_option maxRecDepth 100000
set_option maxHeartbeats 4000000
namespace Rs
open PySem PySem.Spec L2
local macro_rules
  | `(tactic| walk_at "ib") => `(tactic| first | assumption | exact Bt.nu (by assumption) | exact Bt.deI (by assumption))
local macro_rules
  | `(tactic| walk_at "mw") => `(tactic| exact mulW (by walk_at "ib") (by walk_at "ib") (by decide) (by decide) (by decide))
local macro_rules
  | `(tactic| walk_at "bt0") => `(tactic| first | assumption | exact SB.a (by assumption) | exact SB.b (by assumption) | exact Bt.neg (by walk_at "bt0") | exact Bt.abs (by walk_at "bt0") | exact Bt.add (by walk_at "bt0") (by walk_at "bt0") | exact Bt.sub (by walk_at "bt0") (by walk_at "bt0") | exact Bt.mul (by walk_at "bt0") (by walk_at "bt0"))
local macro_rules
  | `(tactic| walk_at "bt") => `(tactic| exact Bt.mono (by walk_at "bt0") (by decide))
theorem pw_found {f s : Int} {l : Nat} {M : Int} (hf : 0 < f) (hs : 0 < s) (h : f * s ^ l = M) : f ≤ M ∧ (0 < l → s ≤ M) := by
  have h1 : 1 ≤ s ^ l := by have := Int.pow_pos (m := l) hs; omega
  have h2 : f * 1 ≤ f * s ^ l := Int.mul_le_mul_of_nonneg_left h1 (by omega)
  refine ⟨by rw [h] at h2; omega, fun hl => ?_⟩
  obtain ⟨k, rfl⟩ : ∃ k, l = k + 1 := ⟨l - 1, by omega⟩
  have h3 : 1 ≤ s ^ k := by have := Int.pow_pos (m := k) hs; omega
  have h4 : 1 * s ≤ s ^ (k + 1) := by
    rw [Int.pow_succ]
    exact Int.mul_le_mul_of_nonneg_right h3 (by omega)
  have h5 : 1 * s ^ (k + 1) ≤ f * s ^ (k + 1) := Int.mul_le_mul_of_nonneg_right (by omega) (by omega)
  rw [h] at h5
  omega
section
variable {P : Program} {w : World} {K : PySem.W.Frag} {mg : Str → Option Value} {base : Heap}
theorem sc_power : FnScope ["base", "exponent", "found", "square", "left"] ["base", "exponent"] (defScope (top 21)) := ⟨rfl, rfl, rfl, by decide +kernel, rfl, by decide +kernel, by decide +kernel⟩
theorem cal_power (T : Frees mg) (D0 : DefAt K mg "power" 21)  : Cal P w K mg base "power" 1 ["base", "exponent"] (spP K R_power) := by
  refine mk_cal D0 sc_power (fun ds d h => ?_) (fun _ _ _ _ _ _ us hl => match us, hl with | [_, _], _ => rfl) (fun f cdv A outer s H E hr ds d h => ?_)
  · obtain ⟨B, e, rfl, _, rfl⟩ := h
    rfl
  · obtain ⟨B, e, rfl, ⟨h2, h16, hl, hh⟩, rfl⟩ := h
    have hM : IB 36001 (B ^ e.natAbs) := (ipow_IB h2 h16 e.natAbs).mono (by omega)
    have bd : ∀ {x : Int}, 0 < x → x ≤ B ^ e.natAbs → IB 36001 x := fun {x} h0 hx => hM.le (by omega)
    refine pds_set 2 pd_int ?_ sc_power.nd
    refine pds_set 3 (pd_var 0) ?_ sc_power.nd
    refine pds_set 4 (pd_abs T.abs (pd_var 1)) ?_ sc_power.nd
    refine pds_while (fun m ρ' => ∃ (f s : Int) (l : Nat), ρ' = [some (.int B), some (.int e), some (.int f), some (.int s), some (.int (l : Int))] ∧ m = l ∧ 0 < f ∧ 0 < s ∧ f * s ^ l = B ^ e.natAbs) e.natAbs ⟨1, B, e.natAbs, rfl, rfl, by decide, by omega, by rw [Int.one_mul]⟩ ?_
    rintro m ρ' ⟨f, s, l, rfl, rfl, hf, hs, hp⟩
    refine ⟨_, pdt_cmp (qc_gt (pd_var 4) pd_int), fun hb => ?_, fun hb => ?_⟩
    · have h0 : (0 : Int) < (m : Int) := of_decide_eq_true hb
      obtain ⟨b1, b2⟩ := pw_found hf hs hp
      have b3 := b2 (by omega)
      refine pds_if (N1 := fun ρ' => ρ' = [some (.int B), some (.int e), some (.int (if m % 2 = 1 then f * s else f)), some (.int s), some (.int (m : Int))]) (pdt_cmp (qc_eqI (pd_mod (pd_var 4) pd_int (by decide)) pd_int)) (fun hc => ?_) (fun hc => ?_) ?_
      · have c := of_decide_eq_true hc
        refine pds_set 2 (pd_mulW (pd_var 2) (pd_var 3) (mulW (bd hf b1) (bd hs b3) (by decide) (by decide) (by decide))) (pds_nil ?_) sc_power.nd
        rw [if_pos (by omega)]
        rfl
      · have c := of_decide_eq_false hc
        refine pds_nil ?_
        rw [if_neg (by omega)]
      · rintro ρ' rfl
        refine pds_set 4 (pd_fdiv (pd_var 4) pd_int ⟨by decide, by decide⟩) ?_ sc_power.nd
        refine pds_set 3 (pd_ite (pdt_cmp (qc_gt (pd_var 4) pd_int)) (fun h => pd_mulW (pd_var 3) (pd_var 3) (mulW (bd hs b3) (bd hs b3) (by decide) (by decide) (by decide))) (fun h => pd_var 3)) (pds_nil ?_) sc_power.nd
        refine ⟨m / 2, by omega, (if m % 2 = 1 then f * s else f), (if 0 < m / 2 then s * s else s), m / 2, ?_, rfl, ?_, ?_, ?_⟩
        · have e1 : ((m / 2 : Nat) : Int) = (m : Int) / 2 := by omega
          by_cases c : 0 < m / 2
          · have c2 : (0 : Int) < (m : Int) / 2 := by omega
            rw [if_pos c, e1]
            show [some (PyData.int B), some (.int e), some (.int _), some (bif decide (0 < (m : Int) / 2) then _ else _), some (.int _)] = _
            rw [decide_eq_true c2]
            rfl
          · have c2 : ¬ (0 : Int) < (m : Int) / 2 := by omega
            rw [if_neg c, e1]
            show [some (PyData.int B), some (.int e), some (.int _), some (bif decide (0 < (m : Int) / 2) then _ else _), some (.int _)] = _
            rw [decide_eq_false c2]
            rfl
        · split
          · exact Int.mul_pos hf hs
          · exact hf
        · split
          · exact Int.mul_pos hs hs
          · exact hs
        · rw [← hp]
          by_cases c : 0 < m / 2
          · rw [if_pos c, show s * s = s ^ 2 by rw [Int.pow_succ, Int.pow_succ, Int.pow_zero, Int.one_mul], ← Int.pow_mul]
            by_cases o : m % 2 = 1
            · rw [if_pos o, Int.mul_assoc, Int.mul_comm s, ← Int.pow_succ]
              congr 2
              omega
            · rw [if_neg o]
              congr 2
              omega
          · have : m = 1 := by omega
            subst this
            rw [if_neg c, if_pos rfl]
            show f * s * s ^ 0 = f * s ^ 1
            rw [Int.pow_zero, Int.mul_one, Int.pow_succ, Int.pow_zero, Int.one_mul]
    · have h0 : ¬ (0 : Int) < (m : Int) := of_decide_eq_false hb
      have e0 : m = 0 := by omega
      subst e0
      refine pds_ret (pd_ite (pdt_cmp (qc_ge (pd_var 1) pd_int)) (fun h => (pd_tup (pda_cons (pd_var 2) (pda_cons pd_int pda_nil)))) (fun h => (pd_tup (pda_cons pd_int (pda_cons (pd_var 2) pda_nil))))) ?_
      rw [Int.pow_zero, Int.mul_one] at hp
      by_cases c : 0 ≤ e
      · obtain ⟨q1, q2⟩ := (pow_nd h2 e).1 c
        unfold dFr
        rw [decide_eq_true c, q1, q2, hp, show e.natAbs = e.toNat by omega]
        rfl
      · obtain ⟨q1, q2⟩ := (pow_nd h2 e).2 (by omega)
        unfold dFr
        rw [decide_eq_false c, q1, q2, hp, show e.natAbs = (-e).toNat by omega]
        rfl
end
end Rs
end

section
set_option Elab.async false
set_option linter.all false
set_option maxRecDepth 100000
set_option maxHeartbeats 4000000
namespace Rs
open PySem PySem.Spec L2
local macro_rules
  | `(tactic| walk_at "ib") => `(tactic| first | assumption | exact Bt.nu (by assumption) | exact Bt.deI (by assumption))
local macro_rules
  | `(tactic| walk_at "mw") => `(tactic| exact mulW (by walk_at "ib") (by walk_at "ib") (by decide) (by decide) (by decide))
local macro_rules
  | `(tactic| walk_at "bt0") => `(tactic| first | assumption | exact SB.a (by assumption) | exact SB.b (by assumption) | exact Bt.neg (by walk_at "bt0") | exact Bt.abs (by walk_at "bt0") | exact Bt.add (by walk_at "bt0") (by walk_at "bt0") | exact Bt.sub (by walk_at "bt0") (by walk_at "bt0") | exact Bt.mul (by walk_at "bt0") (by walk_at "bt0"))
local macro_rules
  | `(tactic| walk_at "bt") => `(tactic| exact Bt.mono (by walk_at "bt0") (by decide))
local macro_rules
  | `(tactic| walk_at "sb") => `(tactic| first | assumption | exact SB.mono (by assumption) (by decide) | exact ⟨by walk_at "bt", by walk_at "bt"⟩)
section
variable {P : Program} {w : World} {K : PySem.W.Frag} {mg : Str → Option Value} {base : Heap}
theorem sc_is_enough : FnScope ["ruler", "size", "place"] ["ruler", "size", "place"] (defScope (top 23)) := ⟨rfl, rfl, rfl, by decide +kernel, rfl, by decide +kernel, by decide +kernel⟩
theorem cal_is_enough (T : Frees mg) (D0 : DefAt K mg "is_enough" 23) (c_is_less : Cal P w K mg base "is_less" 1 ["one", "other"] (spP K R_is_less)) (c_power : Cal P w K mg base "power" 1 ["base", "exponent"] (spP K R_power)) : Cal P w K mg base "is_enough" 2 ["ruler", "size", "place"] (spP K R_is_enough) := by
  refine mk_cal D0 sc_is_enough (fun ds d h => ?_) (fun _ _ _ _ _ _ us hl => match us, hl with | [_, _, _], _ => rfl) (fun f cdv A outer s H E hr ds d h => ?_)
  · obtain ⟨r, q, p, rfl, ⟨v, hq, hp1, hp2⟩, rfl⟩ := h
    rfl
  · obtain ⟨r, q, p, rfl, ⟨v, hq, hp1, hp2⟩, rfl⟩ := h
    have b2 := v.b2
    have b16 := v.b16
    have f1 := v.f1
    have f3 := v.f3
    refine pds_ret (pd_call c_is_less hr (pda_cons (pd_var 1) (pda_cons (pd_call c_power (hr.mono (by decide)) (pda_cons (pd_ixT (pd_var 0) pd_int) (pda_cons (pd_add (pd_var 2) (pd_ixT (pd_var 0) pd_int)) pda_nil)) ⟨_, _, rfl, ⟨b2, b16, by omega, by omega⟩, rfl⟩) pda_nil)) ⟨_, _, rfl, ⟨hq, (zpow_Bt b2 b16 (p + r.F) (m := 9000) (by omega) (by omega)).mono (by decide)⟩, rfl⟩) rfl
theorem sc_place_of : FnScope ["ruler", "number", "size", "low", "far", "high", "middle"] ["ruler", "number"] (defScope (top 24)) := ⟨rfl, rfl, rfl, by decide +kernel, rfl, by decide +kernel, by decide +kernel⟩
theorem cal_place_of (T : Frees mg) (D0 : DefAt K mg "place_of" 24) (c_size_of : Cal P w K mg base "size_of" 1 ["one"] (spP K R_size_of)) (c_is_enough : Cal P w K mg base "is_enough" 2 ["ruler", "size", "place"] (spP K R_is_enough)) : Cal P w K mg base "place_of" 3 ["ruler", "number"] (spP K R_place_of) := by
  refine mk_cal D0 sc_place_of (fun ds d h => ?_) (fun _ _ _ _ _ _ us hl => match us, hl with | [_, _], _ => rfl) (fun f cdv A outer s H E hr ds d h => ?_)
  · obtain ⟨r, q, rfl, ⟨v, hq⟩, rfl⟩ := h
    rfl
  · obtain ⟨r, q, rfl, ⟨v, hq⟩, rfl⟩ := h
    have l4 := v.l4
    have l1 := v.l1
    have f1 := v.f1
    have hge := plc_ge v q
    have hle := plc_le v hq
    have hqa : Lg (qabs q) := hq.abs.mono (by decide)
    have en : ∀ k : Int, r.L ≤ k → decide (qabs q < pw r (k + r.F)) = decide (plc r q ≤ k) := fun k hk => decide_eq_decide.mpr (enough_iff v q hk)
    refine pds_set 2 (pd_call c_size_of (hr.mono (by decide)) (pda_cons (pd_var 1) pda_nil) ⟨_, rfl, trivial, rfl⟩) ?_ sc_place_of.nd
    refine pds_set 3 (pd_ixT (pd_var 0) pd_int) ?_ sc_place_of.nd
    refine pds_ifR (pdt_val (pd_call c_is_enough hr (pda_cons (pd_var 0) (pda_cons (pd_var 2) (pda_cons (pd_var 3) pda_nil))) ⟨r, qabs q, r.L, rfl, ⟨v, hqa, by omega, by omega⟩, rfl⟩)) (fun hb => ?_) (fun hb => ?_)
    · rw [en r.L (by omega)] at hb
      have hb := of_decide_eq_true hb
      refine pds_ret (pd_var 3) ?_
      rw [show plc r q = r.L by omega]
    rw [en r.L (by omega)] at hb
    have hb := of_decide_eq_false hb
    refine pds_set 4 pd_int ?_ sc_place_of.nd
    refine pds_while (fun m ρ' => ∃ far : Int, ρ' = [some (dRul r), some (dFr q), some (dFr (qabs q)), some (.int r.L), some (.int far), none, none] ∧ m = (plc r q - r.L - far).toNat ∧ 1 ≤ far ∧ r.L + far / 2 < plc r q ∧ far ≤ 2 * (plc r q - r.L)) (plc r q - r.L - 1).toNat ⟨1, rfl, rfl, by decide, by omega, by omega⟩ ?_
    rintro m ρ' ⟨far, rfl, rfl, hf1, hf2, hf3⟩
    refine ⟨_, pdt_not (pdt_val (pd_call c_is_enough hr (pda_cons (pd_var 0) (pda_cons (pd_var 2) (pda_cons (pd_add (pd_var 3) (pd_var 4)) pda_nil))) ⟨r, qabs q, r.L + far, rfl, ⟨v, hqa, by omega, by omega⟩, rfl⟩)), fun hb => ?_, fun hb => ?_⟩
    · rw [en (r.L + far) (by omega)] at hb
      have hb := of_decide_eq_false (Bool.not_eq_true' _ ▸ hb)
      refine pds_set 4 (pd_mul (pd_var 4) pd_int (.inr ⟨by decide, by decide⟩)) (pds_nil ?_) sc_place_of.nd
      exact ⟨_, by omega, far * 2, rfl, rfl, by omega, by omega, by omega⟩
    · rw [en (r.L + far) (by omega)] at hb
      have hb := of_decide_eq_true (Bool.not_eq_false' _ ▸ hb)
      refine pds_set 5 (pd_add (pd_var 3) (pd_var 4)) ?_ sc_place_of.nd
      refine pds_set 3 (pd_add (pd_var 3) (pd_fdiv (pd_var 4) pd_int ⟨by decide, by decide⟩)) ?_ sc_place_of.nd
      refine pds_while (fun m ρ' => ∃ (lo hi : Int) (x : Option D), ρ' = [some (dRul r), some (dFr q), some (dFr (qabs q)), some (.int lo), some (.int far), some (.int hi), x] ∧ m = (hi - lo).toNat ∧ r.L ≤ lo ∧ lo < plc r q ∧ plc r q ≤ hi ∧ hi ≤ r.L + far) _ ⟨r.L + far / 2, r.L + far, none, rfl, rfl, by omega, by omega, by omega, by omega⟩ ?_
      rintro m ρ' ⟨lo, hi, x, rfl, rfl, h1, h2, h3, h4⟩
      refine ⟨_, pdt_cmp (qc_gt (pd_sub (pd_var 5) (pd_var 3)) pd_int), fun hc => ?_, fun hc => ?_⟩
      · have hc := of_decide_eq_true hc
        refine pds_set 6 (pd_fdiv (pd_add (pd_var 3) (pd_var 5)) pd_int ⟨by decide, by decide⟩) ?_ sc_place_of.nd
        refine pds_one (pd1_if (pdt_val (pd_call c_is_enough hr (pda_cons (pd_var 0) (pda_cons (pd_var 2) (pda_cons (pd_var 6) pda_nil))) ⟨r, qabs q, (lo + hi) / 2, rfl, ⟨v, hqa, by omega, by omega⟩, rfl⟩)) (fun he => ?_) (fun he => ?_))
        · rw [en _ (by omega)] at he
          have he := of_decide_eq_true he
          refine pds_set 5 (pd_var 6) (pds_nil ?_) sc_place_of.nd
          exact ⟨_, by omega, lo, (lo + hi) / 2, _, rfl, rfl, by omega, by omega, by omega, by omega⟩
        · rw [en _ (by omega)] at he
          have he := of_decide_eq_false he
          refine pds_set 3 (pd_var 6) (pds_nil ?_) sc_place_of.nd
          exact ⟨_, by omega, (lo + hi) / 2, hi, _, rfl, rfl, by omega, by omega, by omega, by omega⟩
      · have hc := of_decide_eq_false hc
        refine pds_ret (pd_var 5) ?_
        rw [show plc r q = hi by omega]
theorem sc_step_of : FnScope ["ruler", "number"] ["ruler", "number"] (defScope (top 25)) := ⟨rfl, rfl, rfl, by decide +kernel, rfl, by decide +kernel, by decide +kernel⟩
theorem cal_step_of (T : Frees mg) (D0 : DefAt K mg "step_of" 25) (c_power : Cal P w K mg base "power" 1 ["base", "exponent"] (spP K R_power)) (c_place_of : Cal P w K mg base "place_of" 3 ["ruler", "number"] (spP K R_place_of)) : Cal P w K mg base "step_of" 4 ["ruler", "number"] (spP K R_step_of) := by
  refine mk_cal D0 sc_step_of (fun ds d h => ?_) (fun _ _ _ _ _ _ us hl => match us, hl with | [_, _], _ => rfl) (fun f cdv A outer s H E hr ds d h => ?_)
  · obtain ⟨r, q, rfl, ⟨v, hq⟩, rfl⟩ := h
    rfl
  · obtain ⟨r, q, rfl, ⟨v, hq⟩, rfl⟩ := h
    have l4 := v.l4
    have l1 := v.l1
    have f1 := v.f1
    have hge := plc_ge v q
    have hle := plc_le v hq
    refine pds_ret (pd_call c_power (hr.mono (by decide)) (pda_cons (pd_ixT (pd_var 0) pd_int) (pda_cons (pd_call c_place_of hr (pda_cons (pd_var 0) (pda_cons (pd_var 1) pda_nil)) ⟨r, q, rfl, ⟨v, hq⟩, rfl⟩) pda_nil)) ⟨r.B, plc r q, rfl, ⟨v.b2, v.b16, by omega, by omega⟩, rfl⟩) rfl
theorem sc_whole_by : FnScope ["way", "above", "below", "found", "rest", "is_up"] ["way", "above", "below"] (defScope (top 26)) := ⟨rfl, rfl, rfl, by decide +kernel, rfl, by decide +kernel, by decide +kernel⟩
theorem cal_whole_by (T : Frees mg) (D0 : DefAt K mg "whole_by" 26)  : Cal P w K mg base "whole_by" 1 ["way", "above", "below"] (spP K R_whole_by) := by
  refine mk_cal D0 sc_whole_by (fun ds d h => ?_) (fun _ _ _ _ _ _ us hl => match us, hl with | [_, _, _], _ => rfl) (fun f cdv A outer s H E hr ds d h => ?_)
  · obtain ⟨wy, x, y, rfl, ⟨h0, hy⟩, rfl⟩ := h
    rfl
  · obtain ⟨wy, x, y, rfl, ⟨h0, hy⟩, rfl⟩ := h
    have hm : IB 8900 (x % y) := hy.le (by have := Int.emod_nonneg x (show y ≠ 0 by omega); have := Int.emod_lt_of_pos x h0; omega)
    have hm2 : CMulW (x % y) 2 := mulW hm (show IB 2 2 by unfold IB; decide) (by decide) (by decide) (by decide)
    refine pds_set 3 (pd_fdivW (pd_var 1) (pd_var 2) (wide_div h0 hy (by decide) (by decide))) ?_ sc_whole_by.nd
    refine pds_set 4 (pd_mod (pd_var 1) (pd_var 2) h0) ?_ sc_whole_by.nd
    refine pds_if (N1 := fun ρ' => ρ' = [some (.str wy.str), some (.int x), some (.int y), some (.int (x / y)), some (.int (x % y)), some (.bool (match wy with
      | .near => decide (y < x % y * 2) || (decide (x % y * 2 = y) && decide (x / y % 2 = 1))
      | .nought => decide (x < 0) && decide (0 < x % y)
      | .up => decide (0 < x % y)
      | .down => false))]) (pdt_cmp (qc_eqS (pd_var 0) pd_str)) (fun hb => ?_) (fun hb => ?_) ?_
    · have hw : wy = .near := by cases wy <;> first | rfl | exact absurd hb (by decide +kernel)
      subst hw
      exact pds_set 5 (pd_or (pd_cmp (qc_gt (pd_mulW (pd_var 4) pd_int hm2) (pd_var 2))) fun _ => (pd_one (pd_and (pd_cmp (qc_eqI (pd_mulW (pd_var 4) pd_int hm2) (pd_var 2))) fun _ => (pd_one (pd_cmp (qc_eqI (pd_mod (pd_var 3) pd_int (by decide)) pd_int)))))) (pds_nil rfl) sc_whole_by.nd
    · refine pds_one (pd1_if (pdt_cmp (qc_eqS (pd_var 0) pd_str)) (fun hc => ?_) (fun hc => ?_))
      · have hw : wy = .nought := by cases wy <;> first | rfl | exact absurd hc (by decide +kernel)
        subst hw
        exact pds_set 5 (pd_and (pd_cmp (qc_lt (pd_var 1) pd_int)) fun _ => (pd_one (pd_cmp (qc_gt (pd_var 4) pd_int)))) (pds_nil rfl) sc_whole_by.nd
      · refine pds_set 5 (pd_and (pd_cmp (qc_eqS (pd_var 0) pd_str)) fun _ => (pd_one (pd_cmp (qc_gt (pd_var 4) pd_int)))) (pds_nil ?_) sc_whole_by.nd
        cases wy with
        | near => exact absurd hb (by decide +kernel)
        | nought => exact absurd hc (by decide +kernel)
        | up =>
          have e : decide (Way.str .up = ("up" : Str)) = true := by decide +kernel
          show [some (PyData.str _), some (.int x), some (.int y), some (.int (x / y)), some (.int (x % y)), some (.bool (decide (Way.str .up = ("up" : Str)) && decide (0 < x % y)))] = _
          rw [e]
          rfl
        | down =>
          have e : decide (Way.str .down = ("up" : Str)) = false := by decide +kernel
          show [some (PyData.str _), some (.int x), some (.int y), some (.int (x / y)), some (.int (x % y)), some (.bool (decide (Way.str .down = ("up" : Str)) && decide (0 < x % y)))] = _
          rw [e]
          rfl
    · rintro ρ' rfl
      exact pds_ret (pd_add (pd_var 3) (pd_intB T.int (pd_var 5))) rfl
theorem sc_rounded : FnScope ["ruler", "number", "step", "turns"] ["ruler", "number"] (defScope (top 27)) := ⟨rfl, rfl, rfl, by decide +kernel, rfl, by decide +kernel, by decide +kernel⟩
theorem cal_rounded (T : Frees mg) (D0 : DefAt K mg "rounded" 27) (c_whole_of : Cal P w K mg base "whole_of" 1 ["number"] (spP K R_whole_of)) (c_times : Cal P w K mg base "times" 3 ["one", "other"] (spP K R_times)) (c_over : Cal P w K mg base "over" 3 ["one", "other"] (spP K R_over)) (c_step_of : Cal P w K mg base "step_of" 4 ["ruler", "number"] (spP K R_step_of)) (c_whole_by : Cal P w K mg base "whole_by" 1 ["way", "above", "below"] (spP K R_whole_by)) : Cal P w K mg base "rounded" 5 ["ruler", "number"] (spP K R_rounded) := by
  refine mk_cal D0 sc_rounded (fun ds d h => ?_) (fun _ _ _ _ _ _ us hl => match us, hl with | [_, _], _ => rfl) (fun f cdv A outer s H E hr ds d h => ?_)
  · obtain ⟨r, q, rfl, ⟨v, hq⟩, rfl⟩ := h
    rfl
  · obtain ⟨r, q, rfl, ⟨v, hq⟩, rfl⟩ := h
    have hs := stp_Bt v hq (by decide)
    have ht := hq.div hs (stp_ne v q)
    have hw := Bt.int (wr_IB v q) (by decide)
    refine pds_set 2 (pd_call c_step_of hr (pda_cons (pd_var 0) (pda_cons (pd_var 1) pda_nil)) ⟨r, q, rfl, ⟨v, hq.mono (by decide)⟩, rfl⟩) ?_ sc_rounded.nd
    refine pds_set 3 (pd_call c_over (hr.mono (by decide)) (pda_cons (pd_var 1) (pda_cons (pd_var 2) pda_nil)) ⟨q, stp r q, rfl, ⟨hq.mono (by decide), hs.mono (by decide), stp_ne v q⟩, rfl⟩) ?_ sc_rounded.nd
    refine pds_ret (pd_call c_times (hr.mono (by decide)) (pda_cons (pd_call c_whole_of (hr.mono (by decide)) (pda_cons (pd_call c_whole_by (hr.mono (by decide)) (pda_cons (pd_ixT (pd_var 0) pd_int) (pda_cons (pd_ixT (pd_var 3) pd_int) (pda_cons (pd_ixT (pd_var 3) pd_int) pda_nil))) ⟨r.way, (q / stp r q).num, ((q / stp r q).den : Int), rfl, ⟨by have := (q / stp r q).den_nz; omega, ht.deI.mono (by decide)⟩, rfl⟩) pda_nil) ⟨_, rfl, rfl⟩) (pda_cons (pd_var 2) pda_nil)) ⟨(wr r.way (q / stp r q) : Rat), stp r q, rfl, ⟨hw.mono (by decide), hs.mono (by decide)⟩, rfl⟩) rfl
theorem sc_off_of : FnScope ["ruler", "number"] ["ruler", "number"] (defScope (top 28)) := ⟨rfl, rfl, rfl, by decide +kernel, rfl, by decide +kernel, by decide +kernel⟩
theorem cal_off_of (T : Frees mg) (D0 : DefAt K mg "off_of" 28) (c_less : Cal P w K mg base "less" 4 ["one", "other"] (spP K R_less)) (c_size_of : Cal P w K mg base "size_of" 1 ["one"] (spP K R_size_of)) (c_rounded : Cal P w K mg base "rounded" 5 ["ruler", "number"] (spP K R_rounded)) : Cal P w K mg base "off_of" 6 ["ruler", "number"] (spP K R_off_of) := by
  refine mk_cal D0 sc_off_of (fun ds d h => ?_) (fun _ _ _ _ _ _ us hl => match us, hl with | [_, _], _ => rfl) (fun f cdv A outer s H E hr ds d h => ?_)
  · obtain ⟨r, q, rfl, ⟨v, hq⟩, rfl⟩ := h
    rfl
  · obtain ⟨r, q, rfl, ⟨v, hq⟩, rfl⟩ := h
    have hw := rnd_Bt v hq (by decide)
    refine pds_ret (pd_call c_size_of (hr.mono (by decide)) (pda_cons (pd_call c_less (hr.mono (by decide)) (pda_cons (pd_call c_rounded hr (pda_cons (pd_var 0) (pda_cons (pd_var 1) pda_nil)) ⟨r, q, rfl, ⟨v, hq⟩, rfl⟩) (pda_cons (pd_var 1) pda_nil)) ⟨rnd r q, q, rfl, ⟨hw.mono (by decide), hq.mono (by decide)⟩, rfl⟩) pda_nil) ⟨_, rfl, trivial, rfl⟩) rfl
theorem sc_is_multiple : FnScope ["ruler", "number", "grain"] ["ruler", "number", "grain"] (defScope (top 29)) := ⟨rfl, rfl, rfl, by decide +kernel, rfl, by decide +kernel, by decide +kernel⟩
theorem cal_is_multiple (T : Frees mg) (D0 : DefAt K mg "is_multiple" 29) (c_over : Cal P w K mg base "over" 3 ["one", "other"] (spP K R_over)) (c_power : Cal P w K mg base "power" 1 ["base", "exponent"] (spP K R_power)) : Cal P w K mg base "is_multiple" 4 ["ruler", "number", "grain"] (spP K R_is_multiple) := by
  refine mk_cal D0 sc_is_multiple (fun ds d h => ?_) (fun _ _ _ _ _ _ us hl => match us, hl with | [_, _, _], _ => rfl) (fun f cdv A outer s H E hr ds d h => ?_)
  · obtain ⟨r, q, g, rfl, ⟨v, hq, g1, g2⟩, rfl⟩ := h
    rfl
  · obtain ⟨r, q, g, rfl, ⟨v, hq, g1, g2⟩, rfl⟩ := h
    refine pds_ret (pd_cmp (qc_eqI (pd_ixT (pd_call c_over hr (pda_cons (pd_var 1) (pda_cons (pd_call c_power (hr.mono (by decide)) (pda_cons (pd_ixT (pd_var 0) pd_int) (pda_cons (pd_var 2) pda_nil)) ⟨r.B, g, rfl, ⟨v.b2, v.b16, by omega, by omega⟩, rfl⟩) pda_nil)) ⟨q, pw r g, rfl, ⟨hq, (pw_Bt v g (m := 900) (by omega) (by omega)).mono (by decide), pw_ne v g⟩, rfl⟩) pd_int) pd_int)) ?_
    unfold mult
    refine congrArg PyData.bool (decide_eq_decide.mpr ?_)
    dsimp only
    omega
end
end Rs
end

section
set_option Elab.async false
set_option linter.all false
set_option maxRecDepth 100000
set_option maxHeartbeats 4000000
namespace Rs
open PySem PySem.Spec L2
local macro_rules
  | `(tactic| walk_at "ib") => `(tactic| first | assumption | exact Bt.nu (by assumption) | exact Bt.deI (by assumption))
local macro_rules
  | `(tactic| walk_at "mw") => `(tactic| exact mulW (by walk_at "ib") (by walk_at "ib") (by decide) (by decide) (by decide))
local macro_rules
  | `(tactic| walk_at "bt0") => `(tactic| first | assumption | exact Bt.zero | exact SB.a (by assumption) | exact SB.b (by assumption) | exact Bt_qmin (by walk_at "bt0") (by walk_at "bt0") | exact Bt_qmax (by walk_at "bt0") (by walk_at "bt0") | exact Bt.neg (by walk_at "bt0") | exact Bt.abs (by walk_at "bt0") | exact Bt.add (by walk_at "bt0") (by walk_at "bt0") | exact Bt.sub (by walk_at "bt0") (by walk_at "bt0") | exact Bt.mul (by walk_at "bt0") (by walk_at "bt0"))
local macro_rules
  | `(tactic| walk_at "bt") => `(tactic| exact Bt.mono (by walk_at "bt0") (by decide))
local macro_rules
  | `(tactic| walk_at "sb") => `(tactic| first | assumption | exact SB.mono (by assumption) (by decide) | exact ⟨by walk_at "bt", by walk_at "bt"⟩)
section
variable {P : Program} {w : World} {K : PySem.W.Frag} {mg : Str → Option Value} {base : Heap}
theorem sc_span_of : FnScope ["some", "low", "high", "number"] ["some"] (defScope (top 31)) := ⟨rfl, rfl, rfl, by decide +kernel, rfl, by decide +kernel, by decide +kernel⟩
theorem cal_span_of (T : Frees mg) (D0 : DefAt K mg "span_of" 31) (c_lesser : Cal P w K mg base "lesser" 2 ["one", "other"] (spP K R_lesser)) (c_greater : Cal P w K mg base "greater" 2 ["one", "other"] (spP K R_greater)) : Cal P w K mg base "span_of" 3 ["some"] (spP K R_span_of) := by
  refine mk_cal D0 sc_span_of (fun ds d h => ?_) (fun _ _ _ _ _ _ us hl => match us, hl with | [_], _ => rfl) (fun f cdv A outer s H E hr ds d h => ?_)
  · obtain ⟨a, b, c, e, rfl, ⟨ha, hb, hc, he⟩, rfl⟩ := h
    rfl
  · obtain ⟨a, b, c, e, rfl, ⟨ha, hb, hc, he⟩, rfl⟩ := h
    refine pds_par 1 2 (pda_cons (pd_ixL (pd_var 0) pd_int) (pda_cons (pd_ixL (pd_var 0) pd_int) pda_nil)) ?_ (ps_par (by rfl) sc_span_of.nd rfl rfl (by decide) rfl rfl pa_u (by rfl))
    refine pds_forL 3 (pd_var 0) (fun n ρ' => ∃ (p : Span) (x : Option D), ρ' = [some (.list [dFr a, dFr b, dFr c, dFr e]), some (dFr p.1), some (dFr p.2), x] ∧ SB 40000 p ∧ p = ([a, b, c, e].take n).foldl spanStep (a, a)) ⟨(a, a), none, rfl, ⟨ha, ha⟩, rfl⟩ ?_ ?_ (nd := sc_span_of.nd)
    · rintro n d ρ' hn ⟨p, x, rfl, hp, hq⟩
      obtain ⟨q, hq1, hq2, rfl⟩ : ∃ q : Rat, [a, b, c, e][n]? = some q ∧ Lg q ∧ d = dFr q := by
        match n, hn with
        | 0, hn => exact ⟨a, rfl, ha, (Option.some.inj hn).symm⟩
        | 1, hn => exact ⟨b, rfl, hb, (Option.some.inj hn).symm⟩
        | 2, hn => exact ⟨c, rfl, hc, (Option.some.inj hn).symm⟩
        | 3, hn => exact ⟨e, rfl, he, (Option.some.inj hn).symm⟩
        | n + 4, hn => simp at hn
      refine pds_par 1 2 (pda_cons (pd_call c_lesser hr (pda_cons (pd_var 1) (pda_cons (pd_var 3) pda_nil)) ⟨p.1, q, rfl, ⟨hp.a, hq2⟩, rfl⟩) (pda_cons (pd_call c_greater hr (pda_cons (pd_var 2) (pda_cons (pd_var 3) pda_nil)) ⟨p.2, q, rfl, ⟨hp.b, hq2⟩, rfl⟩) pda_nil)) (pds_nil ?_) (ps_par (by rfl) sc_span_of.nd rfl rfl (by decide) rfl rfl pa_u (by rfl))
      refine ⟨spanStep p q, _, rfl, ⟨Bt_qmin hp.a hq2, Bt_qmax hp.b hq2⟩, ?_⟩
      rw [List.take_add_one, hq1, List.foldl_append, ← hq]
      rfl
    · rintro ρ' ⟨p, x, rfl, hp, rfl⟩
      exact pds_ret (pd_tup (pda_cons (pd_var 1) (pda_cons (pd_var 2) pda_nil))) rfl
theorem sc_has : FnScope ["span", "number"] ["span", "number"] (defScope (top 32)) := ⟨rfl, rfl, rfl, by decide +kernel, rfl, by decide +kernel, by decide +kernel⟩
theorem cal_has (T : Frees mg) (D0 : DefAt K mg "has" 32) (c_is_less : Cal P w K mg base "is_less" 1 ["one", "other"] (spP K R_is_less)) : Cal P w K mg base "has" 2 ["span", "number"] (spP K R_has) := by
  refine mk_cal D0 sc_has (fun ds d h => ?_) (fun _ _ _ _ _ _ us hl => match us, hl with | [_, _], _ => rfl) (fun f cdv A outer s H E hr ds d h => ?_)
  · obtain ⟨s, q, rfl, ⟨hs, hq⟩, rfl⟩ := h
    rfl
  · obtain ⟨s, q, rfl, ⟨hs, hq⟩, rfl⟩ := h
    refine pds_ret (pd_and (pd_not (pd_call c_is_less hr (pda_cons (pd_var 1) (pda_cons (pd_ixT (pd_var 0) pd_int) pda_nil)) ⟨_, _, rfl, ⟨by walk_at "bt", by walk_at "bt"⟩, rfl⟩)) fun _ => (pd_one (pd_not (pd_call c_is_less hr (pda_cons (pd_ixT (pd_var 0) pd_int) (pda_cons (pd_var 1) pda_nil)) ⟨_, _, rfl, ⟨by walk_at "bt", by walk_at "bt"⟩, rfl⟩)))) ?_
    rfl
theorem sc_hull : FnScope ["one", "other"] ["one", "other"] (defScope (top 33)) := ⟨rfl, rfl, rfl, by decide +kernel, rfl, by decide +kernel, by decide +kernel⟩
theorem cal_hull (T : Frees mg) (D0 : DefAt K mg "hull" 33) (c_lesser : Cal P w K mg base "lesser" 2 ["one", "other"] (spP K R_lesser)) (c_greater : Cal P w K mg base "greater" 2 ["one", "other"] (spP K R_greater)) : Cal P w K mg base "hull" 3 ["one", "other"] (spP K R_hull) := by
  refine mk_cal D0 sc_hull (fun ds d h => ?_) (fun _ _ _ _ _ _ us hl => match us, hl with | [_, _], _ => rfl) (fun f cdv A outer s H E hr ds d h => ?_)
  · obtain ⟨s, t, rfl, ⟨hs, ht⟩, rfl⟩ := h
    rfl
  · obtain ⟨s, t, rfl, ⟨hs, ht⟩, rfl⟩ := h
    refine pds_ret (pd_tup (pda_cons (pd_call c_lesser hr (pda_cons (pd_ixT (pd_var 0) pd_int) (pda_cons (pd_ixT (pd_var 1) pd_int) pda_nil)) ⟨_, _, rfl, ⟨by walk_at "bt", by walk_at "bt"⟩, rfl⟩) (pda_cons (pd_call c_greater hr (pda_cons (pd_ixT (pd_var 0) pd_int) (pda_cons (pd_ixT (pd_var 1) pd_int) pda_nil)) ⟨_, _, rfl, ⟨by walk_at "bt", by walk_at "bt"⟩, rfl⟩) pda_nil))) ?_
    rfl
theorem sc_plus_spans : FnScope ["one", "other"] ["one", "other"] (defScope (top 34)) := ⟨rfl, rfl, rfl, by decide +kernel, rfl, by decide +kernel, by decide +kernel⟩
theorem cal_plus_spans (T : Frees mg) (D0 : DefAt K mg "plus_spans" 34) (c_plus : Cal P w K mg base "plus" 3 ["one", "other"] (spP K R_plus)) : Cal P w K mg base "plus_spans" 4 ["one", "other"] (spP K R_plus_spans) := by
  refine mk_cal D0 sc_plus_spans (fun ds d h => ?_) (fun _ _ _ _ _ _ us hl => match us, hl with | [_, _], _ => rfl) (fun f cdv A outer s H E hr ds d h => ?_)
  · obtain ⟨s, t, rfl, ⟨hs, ht⟩, rfl⟩ := h
    rfl
  · obtain ⟨s, t, rfl, ⟨hs, ht⟩, rfl⟩ := h
    refine pds_ret (pd_tup (pda_cons (pd_call c_plus hr (pda_cons (pd_ixT (pd_var 0) pd_int) (pda_cons (pd_ixT (pd_var 1) pd_int) pda_nil)) ⟨_, _, rfl, ⟨by walk_at "bt", by walk_at "bt"⟩, rfl⟩) (pda_cons (pd_call c_plus hr (pda_cons (pd_ixT (pd_var 0) pd_int) (pda_cons (pd_ixT (pd_var 1) pd_int) pda_nil)) ⟨_, _, rfl, ⟨by walk_at "bt", by walk_at "bt"⟩, rfl⟩) pda_nil))) ?_
    rfl
theorem sc_turned_span : FnScope ["span"] ["span"] (defScope (top 35)) := ⟨rfl, rfl, rfl, by decide +kernel, rfl, by decide +kernel, by decide +kernel⟩
theorem cal_turned_span (T : Frees mg) (D0 : DefAt K mg "turned_span" 35) (c_turned : Cal P w K mg base "turned" 1 ["one"] (spP K R_turned)) : Cal P w K mg base "turned_span" 2 ["span"] (spP K R_turned_span) := by
  refine mk_cal D0 sc_turned_span (fun ds d h => ?_) (fun _ _ _ _ _ _ us hl => match us, hl with | [_], _ => rfl) (fun f cdv A outer s H E hr ds d h => ?_)
  · obtain ⟨s, rfl, hs, rfl⟩ := h
    rfl
  · obtain ⟨s, rfl, hs, rfl⟩ := h
    refine pds_ret (pd_tup (pda_cons (pd_call c_turned hr (pda_cons (pd_ixT (pd_var 0) pd_int) pda_nil) ⟨_, rfl, trivial, rfl⟩) (pda_cons (pd_call c_turned hr (pda_cons (pd_ixT (pd_var 0) pd_int) pda_nil) ⟨_, rfl, trivial, rfl⟩) pda_nil))) ?_
    rfl
theorem sc_less_spans : FnScope ["one", "other"] ["one", "other"] (defScope (top 36)) := ⟨rfl, rfl, rfl, by decide +kernel, rfl, by decide +kernel, by decide +kernel⟩
theorem cal_less_spans (T : Frees mg) (D0 : DefAt K mg "less_spans" 36) (c_plus_spans : Cal P w K mg base "plus_spans" 4 ["one", "other"] (spP K R_plus_spans)) (c_turned_span : Cal P w K mg base "turned_span" 2 ["span"] (spP K R_turned_span)) : Cal P w K mg base "less_spans" 5 ["one", "other"] (spP K R_less_spans) := by
  refine mk_cal D0 sc_less_spans (fun ds d h => ?_) (fun _ _ _ _ _ _ us hl => match us, hl with | [_, _], _ => rfl) (fun f cdv A outer s H E hr ds d h => ?_)
  · obtain ⟨s, t, rfl, ⟨hs, ht⟩, rfl⟩ := h
    rfl
  · obtain ⟨s, t, rfl, ⟨hs, ht⟩, rfl⟩ := h
    refine pds_ret (pd_call c_plus_spans hr (pda_cons (pd_var 0) (pda_cons (pd_call c_turned_span (hr.mono (by decide)) (pda_cons (pd_var 1) pda_nil) ⟨_, rfl, trivial, rfl⟩) pda_nil)) ⟨_, _, rfl, ⟨by walk_at "sb", by walk_at "sb"⟩, rfl⟩) ?_
    rfl
theorem sc_times_spans : FnScope ["one", "other"] ["one", "other"] (defScope (top 37)) := ⟨rfl, rfl, rfl, by decide +kernel, rfl, by decide +kernel, by decide +kernel⟩
theorem cal_times_spans (T : Frees mg) (D0 : DefAt K mg "times_spans" 37) (c_times : Cal P w K mg base "times" 3 ["one", "other"] (spP K R_times)) (c_span_of : Cal P w K mg base "span_of" 3 ["some"] (spP K R_span_of)) : Cal P w K mg base "times_spans" 4 ["one", "other"] (spP K R_times_spans) := by
  refine mk_cal D0 sc_times_spans (fun ds d h => ?_) (fun _ _ _ _ _ _ us hl => match us, hl with | [_, _], _ => rfl) (fun f cdv A outer s H E hr ds d h => ?_)
  · obtain ⟨s, t, rfl, ⟨hs, ht⟩, rfl⟩ := h
    rfl
  · obtain ⟨s, t, rfl, ⟨hs, ht⟩, rfl⟩ := h
    refine pds_ret (pd_call c_span_of hr (pda_cons (pd_lst (pda_cons (pd_call c_times hr (pda_cons (pd_ixT (pd_var 0) pd_int) (pda_cons (pd_ixT (pd_var 1) pd_int) pda_nil)) ⟨_, _, rfl, ⟨by walk_at "bt", by walk_at "bt"⟩, rfl⟩) (pda_cons (pd_call c_times hr (pda_cons (pd_ixT (pd_var 0) pd_int) (pda_cons (pd_ixT (pd_var 1) pd_int) pda_nil)) ⟨_, _, rfl, ⟨by walk_at "bt", by walk_at "bt"⟩, rfl⟩) (pda_cons (pd_call c_times hr (pda_cons (pd_ixT (pd_var 0) pd_int) (pda_cons (pd_ixT (pd_var 1) pd_int) pda_nil)) ⟨_, _, rfl, ⟨by walk_at "bt", by walk_at "bt"⟩, rfl⟩) (pda_cons (pd_call c_times hr (pda_cons (pd_ixT (pd_var 0) pd_int) (pda_cons (pd_ixT (pd_var 1) pd_int) pda_nil)) ⟨_, _, rfl, ⟨by walk_at "bt", by walk_at "bt"⟩, rfl⟩) pda_nil))))) pda_nil) ⟨_, _, _, _, rfl, ⟨by walk_at "bt", by walk_at "bt", by walk_at "bt", by walk_at "bt"⟩, rfl⟩) ?_
    rfl
theorem sc_over_spans : FnScope ["one", "other"] ["one", "other"] (defScope (top 38)) := ⟨rfl, rfl, rfl, by decide +kernel, rfl, by decide +kernel, by decide +kernel⟩
theorem cal_over_spans (T : Frees mg) (C : Consts K mg) (D0 : DefAt K mg "over_spans" 38) (c_over : Cal P w K mg base "over" 3 ["one", "other"] (spP K R_over)) (c_span_of : Cal P w K mg base "span_of" 3 ["some"] (spP K R_span_of)) (c_has : Cal P w K mg base "has" 2 ["span", "number"] (spP K R_has)) : Cal P w K mg base "over_spans" 4 ["one", "other"] (spP K R_over_spans) := by
  refine mk_cal D0 sc_over_spans (fun ds d h => ?_) (fun _ _ _ _ _ _ us hl => match us, hl with | [_, _], _ => rfl) (fun f cdv A outer s H E hr ds d h => ?_)
  · obtain ⟨s, t, rfl, ⟨⟨hs, ht⟩, h0, hle⟩, rfl⟩ := h
    rfl
  · obtain ⟨s, t, rfl, ⟨⟨hs, ht⟩, h0, hle⟩, rfl⟩ := h
    obtain ⟨n1, n2⟩ := hasS_ne h0 hle
    refine pds_ifR (pdt_val (pd_call c_has (hr.mono (by decide)) (pda_cons (pd_var 1) (pda_cons (pd_nought C) pda_nil)) ⟨_, _, rfl, ⟨by walk_at "sb", Bt.zero.mono (by decide)⟩, rfl⟩)) (fun hb => ?_) (fun hb => ?_)
    · rw [h0] at hb
      cases hb
    refine pds_ret (pd_call c_span_of hr (pda_cons (pd_lst (pda_cons (pd_call c_over hr (pda_cons (pd_ixT (pd_var 0) pd_int) (pda_cons (pd_ixT (pd_var 1) pd_int) pda_nil)) ⟨_, _, rfl, ⟨by walk_at "bt", by walk_at "bt", n1⟩, rfl⟩) (pda_cons (pd_call c_over hr (pda_cons (pd_ixT (pd_var 0) pd_int) (pda_cons (pd_ixT (pd_var 1) pd_int) pda_nil)) ⟨_, _, rfl, ⟨by walk_at "bt", by walk_at "bt", n2⟩, rfl⟩) (pda_cons (pd_call c_over hr (pda_cons (pd_ixT (pd_var 0) pd_int) (pda_cons (pd_ixT (pd_var 1) pd_int) pda_nil)) ⟨_, _, rfl, ⟨by walk_at "bt", by walk_at "bt", n1⟩, rfl⟩) (pda_cons (pd_call c_over hr (pda_cons (pd_ixT (pd_var 0) pd_int) (pda_cons (pd_ixT (pd_var 1) pd_int) pda_nil)) ⟨_, _, rfl, ⟨by walk_at "bt", by walk_at "bt", n2⟩, rfl⟩) pda_nil))))) pda_nil) ⟨_, _, _, _, rfl, ⟨Bt.mono (Bt.div hs.a ht.a n1) (by decide), Bt.mono (Bt.div hs.a ht.b n2) (by decide), Bt.mono (Bt.div hs.b ht.a n1) (by decide), Bt.mono (Bt.div hs.b ht.b n2) (by decide)⟩, rfl⟩) rfl
theorem sc_great_size : FnScope ["span"] ["span"] (defScope (top 39)) := ⟨rfl, rfl, rfl, by decide +kernel, rfl, by decide +kernel, by decide +kernel⟩
theorem cal_great_size (T : Frees mg) (D0 : DefAt K mg "great_size" 39) (c_size_of : Cal P w K mg base "size_of" 1 ["one"] (spP K R_size_of)) (c_greater : Cal P w K mg base "greater" 2 ["one", "other"] (spP K R_greater)) : Cal P w K mg base "great_size" 3 ["span"] (spP K R_great_size) := by
  refine mk_cal D0 sc_great_size (fun ds d h => ?_) (fun _ _ _ _ _ _ us hl => match us, hl with | [_], _ => rfl) (fun f cdv A outer s H E hr ds d h => ?_)
  · obtain ⟨s, rfl, hs, rfl⟩ := h
    rfl
  · obtain ⟨s, rfl, hs, rfl⟩ := h
    refine pds_ret (pd_call c_greater hr (pda_cons (pd_call c_size_of (hr.mono (by decide)) (pda_cons (pd_ixT (pd_var 0) pd_int) pda_nil) ⟨_, rfl, trivial, rfl⟩) (pda_cons (pd_call c_size_of (hr.mono (by decide)) (pda_cons (pd_ixT (pd_var 0) pd_int) pda_nil) ⟨_, rfl, trivial, rfl⟩) pda_nil)) ⟨_, _, rfl, ⟨by walk_at "bt", by walk_at "bt"⟩, rfl⟩) ?_
    rfl
theorem sc_small_size : FnScope ["span"] ["span"] (defScope (top 40)) := ⟨rfl, rfl, rfl, by decide +kernel, rfl, by decide +kernel, by decide +kernel⟩
theorem cal_small_size (T : Frees mg) (C : Consts K mg)  (D0 : DefAt K mg "small_size" 40) (c_size_of : Cal P w K mg base "size_of" 1 ["one"] (spP K R_size_of)) (c_lesser : Cal P w K mg base "lesser" 2 ["one", "other"] (spP K R_lesser)) (c_has : Cal P w K mg base "has" 2 ["span", "number"] (spP K R_has)) : Cal P w K mg base "small_size" 3 ["span"] (spP K R_small_size) := by
  refine mk_cal D0 sc_small_size (fun ds d h => ?_) (fun _ _ _ _ _ _ us hl => match us, hl with | [_], _ => rfl) (fun f cdv A outer s H E hr ds d h => ?_)
  · obtain ⟨s, rfl, hs, rfl⟩ := h
    rfl
  · obtain ⟨s, rfl, hs, rfl⟩ := h
    refine pds_ret (pd_ite (pdt_val (pd_call c_has hr (pda_cons (pd_var 0) (pda_cons (pd_nought C) pda_nil)) ⟨_, _, rfl, ⟨by walk_at "sb", by walk_at "bt"⟩, rfl⟩)) (fun h => (pd_nought C)) (fun h => (pd_call c_lesser hr (pda_cons (pd_call c_size_of (hr.mono (by decide)) (pda_cons (pd_ixT (pd_var 0) pd_int) pda_nil) ⟨_, rfl, trivial, rfl⟩) (pda_cons (pd_call c_size_of (hr.mono (by decide)) (pda_cons (pd_ixT (pd_var 0) pd_int) pda_nil) ⟨_, rfl, trivial, rfl⟩) pda_nil)) ⟨_, _, rfl, ⟨by walk_at "bt", by walk_at "bt"⟩, rfl⟩))) ?_
    unfold smallSz
    cases hasS s 0 <;> rfl
theorem sc_size_span : FnScope ["span"] ["span"] (defScope (top 41)) := ⟨rfl, rfl, rfl, by decide +kernel, rfl, by decide +kernel, by decide +kernel⟩
theorem cal_size_span (T : Frees mg) (D0 : DefAt K mg "size_span" 41) (c_great_size : Cal P w K mg base "great_size" 3 ["span"] (spP K R_great_size)) (c_small_size : Cal P w K mg base "small_size" 3 ["span"] (spP K R_small_size)) : Cal P w K mg base "size_span" 4 ["span"] (spP K R_size_span) := by
  refine mk_cal D0 sc_size_span (fun ds d h => ?_) (fun _ _ _ _ _ _ us hl => match us, hl with | [_], _ => rfl) (fun f cdv A outer s H E hr ds d h => ?_)
  · obtain ⟨s, rfl, hs, rfl⟩ := h
    rfl
  · obtain ⟨s, rfl, hs, rfl⟩ := h
    refine pds_ret (pd_tup (pda_cons (pd_call c_small_size hr (pda_cons (pd_var 0) pda_nil) ⟨_, rfl, by walk_at "sb", rfl⟩) (pda_cons (pd_call c_great_size hr (pda_cons (pd_var 0) pda_nil) ⟨_, rfl, by walk_at "sb", rfl⟩) pda_nil))) ?_
    rfl
theorem sc_least_span : FnScope ["one", "other"] ["one", "other"] (defScope (top 42)) := ⟨rfl, rfl, rfl, by decide +kernel, rfl, by decide +kernel, by decide +kernel⟩
theorem cal_least_span (T : Frees mg) (D0 : DefAt K mg "least_span" 42) (c_lesser : Cal P w K mg base "lesser" 2 ["one", "other"] (spP K R_lesser)) : Cal P w K mg base "least_span" 3 ["one", "other"] (spP K R_least_span) := by
  refine mk_cal D0 sc_least_span (fun ds d h => ?_) (fun _ _ _ _ _ _ us hl => match us, hl with | [_, _], _ => rfl) (fun f cdv A outer s H E hr ds d h => ?_)
  · obtain ⟨s, t, rfl, ⟨hs, ht⟩, rfl⟩ := h
    rfl
  · obtain ⟨s, t, rfl, ⟨hs, ht⟩, rfl⟩ := h
    refine pds_ret (pd_tup (pda_cons (pd_call c_lesser hr (pda_cons (pd_ixT (pd_var 0) pd_int) (pda_cons (pd_ixT (pd_var 1) pd_int) pda_nil)) ⟨_, _, rfl, ⟨by walk_at "bt", by walk_at "bt"⟩, rfl⟩) (pda_cons (pd_call c_lesser hr (pda_cons (pd_ixT (pd_var 0) pd_int) (pda_cons (pd_ixT (pd_var 1) pd_int) pda_nil)) ⟨_, _, rfl, ⟨by walk_at "bt", by walk_at "bt"⟩, rfl⟩) pda_nil))) ?_
    rfl
theorem sc_most_span : FnScope ["one", "other"] ["one", "other"] (defScope (top 43)) := ⟨rfl, rfl, rfl, by decide +kernel, rfl, by decide +kernel, by decide +kernel⟩
theorem cal_most_span (T : Frees mg) (D0 : DefAt K mg "most_span" 43) (c_greater : Cal P w K mg base "greater" 2 ["one", "other"] (spP K R_greater)) : Cal P w K mg base "most_span" 3 ["one", "other"] (spP K R_most_span) := by
  refine mk_cal D0 sc_most_span (fun ds d h => ?_) (fun _ _ _ _ _ _ us hl => match us, hl with | [_, _], _ => rfl) (fun f cdv A outer s H E hr ds d h => ?_)
  · obtain ⟨s, t, rfl, ⟨hs, ht⟩, rfl⟩ := h
    rfl
  · obtain ⟨s, t, rfl, ⟨hs, ht⟩, rfl⟩ := h
    refine pds_ret (pd_tup (pda_cons (pd_call c_greater hr (pda_cons (pd_ixT (pd_var 0) pd_int) (pda_cons (pd_ixT (pd_var 1) pd_int) pda_nil)) ⟨_, _, rfl, ⟨by walk_at "bt", by walk_at "bt"⟩, rfl⟩) (pda_cons (pd_call c_greater hr (pda_cons (pd_ixT (pd_var 0) pd_int) (pda_cons (pd_ixT (pd_var 1) pd_int) pda_nil)) ⟨_, _, rfl, ⟨by walk_at "bt", by walk_at "bt"⟩, rfl⟩) pda_nil))) ?_
    rfl
theorem sc_apart : FnScope ["one", "other"] ["one", "other"] (defScope (top 44)) := ⟨rfl, rfl, rfl, by decide +kernel, rfl, by decide +kernel, by decide +kernel⟩
theorem cal_apart (T : Frees mg) (D0 : DefAt K mg "apart" 44) (c_less : Cal P w K mg base "less" 4 ["one", "other"] (spP K R_less)) (c_greater : Cal P w K mg base "greater" 2 ["one", "other"] (spP K R_greater)) : Cal P w K mg base "apart" 5 ["one", "other"] (spP K R_apart) := by
  refine mk_cal D0 sc_apart (fun ds d h => ?_) (fun _ _ _ _ _ _ us hl => match us, hl with | [_, _], _ => rfl) (fun f cdv A outer s H E hr ds d h => ?_)
  · obtain ⟨s, t, rfl, ⟨hs, ht⟩, rfl⟩ := h
    rfl
  · obtain ⟨s, t, rfl, ⟨hs, ht⟩, rfl⟩ := h
    refine pds_ret (pd_call c_greater (hr.mono (by decide)) (pda_cons (pd_call c_less hr (pda_cons (pd_ixT (pd_var 0) pd_int) (pda_cons (pd_ixT (pd_var 1) pd_int) pda_nil)) ⟨_, _, rfl, ⟨by walk_at "bt", by walk_at "bt"⟩, rfl⟩) (pda_cons (pd_call c_less hr (pda_cons (pd_ixT (pd_var 1) pd_int) (pda_cons (pd_ixT (pd_var 0) pd_int) pda_nil)) ⟨_, _, rfl, ⟨by walk_at "bt", by walk_at "bt"⟩, rfl⟩) pda_nil)) ⟨_, _, rfl, ⟨by walk_at "bt", by walk_at "bt"⟩, rfl⟩) ?_
    rfl
end
end Rs
end

section
set_option Elab.async false
set_option linter.all false
set_option maxRecDepth 100000
set_option maxHeartbeats 4000000
namespace Rs
open PySem PySem.Spec L2
local macro_rules
  | `(tactic| walk_at "ib") => `(tactic| first | assumption | exact Bt.nu (by assumption) | exact Bt.deI (by assumption))
local macro_rules
  | `(tactic| walk_at "mw") => `(tactic| exact mulW (by walk_at "ib") (by walk_at "ib") (by decide) (by decide) (by decide))
local macro_rules
  | `(tactic| walk_at "bt0") => `(tactic| first | assumption | exact Bt.zero | exact SB.a (by assumption) | exact SB.b (by assumption) | exact Bt_qmin (by walk_at "bt0") (by walk_at "bt0") | exact Bt_qmax (by walk_at "bt0") (by walk_at "bt0") | exact Bt.neg (by walk_at "bt0") | exact Bt.abs (by walk_at "bt0") | exact Bt.add (by walk_at "bt0") (by walk_at "bt0") | exact Bt.sub (by walk_at "bt0") (by walk_at "bt0") | exact Bt.mul (by walk_at "bt0") (by walk_at "bt0"))
local macro_rules
  | `(tactic| walk_at "bt") => `(tactic| exact Bt.mono (by walk_at "bt0") (by decide))
local macro_rules
  | `(tactic| walk_at "sb") => `(tactic| first | assumption | exact SB.mono (by assumption) (by decide) | exact ⟨by walk_at "bt", by walk_at "bt"⟩)
section
variable {P : Program} {w : World} {K : PySem.W.Frag} {mg : Str → Option Value} {base : Heap}
theorem sc_grain_of : FnScope ["ruler", "number", "found"] ["ruler", "number"] (defScope (top 47)) := ⟨rfl, rfl, rfl, by decide +kernel, rfl, by decide +kernel, by decide +kernel⟩
theorem cal_grain_of (T : Frees mg) (C : Consts K mg) (D0 : DefAt K mg "grain_of" 47) (c_place_of : Cal P w K mg base "place_of" 3 ["ruler", "number"] (spP K R_place_of)) (c_is_multiple : Cal P w K mg base "is_multiple" 4 ["ruler", "number", "grain"] (spP K R_is_multiple)) : Cal P w K mg base "grain_of" 5 ["ruler", "number"] (spP K R_grain_of) := by
  refine mk_cal D0 sc_grain_of (fun ds d h => ?_) (fun _ _ _ _ _ _ us hl => match us, hl with | [_, _], _ => rfl) (fun f cdv A outer s H E hr ds d h => ?_)
  · obtain ⟨r, q, rfl, ⟨v, hq⟩, rfl⟩ := h
    rfl
  · obtain ⟨r, q, rfl, ⟨v, hq⟩, rfl⟩ := h
    have l4 := v.l4
    have l1 := v.l1
    have f1 := v.f1
    have hge := plc_ge v q
    have hle := plc_le v hq
    refine pds_ifR (b' := decide (q = 0)) (pdt_cmp (qc_is (qc_eqD hr.units (pd_var 1) (pd_nought C) rfl rfl) (eqv_fr q 0))) (fun hb => ?_) (fun hb => ?_)
    · have h0 := of_decide_eq_true hb
      refine pds_ret pd_non ?_
      unfold gof
      rw [if_pos h0]
    have h0 := of_decide_eq_false hb
    refine pds_set 2 (pd_call c_place_of (hr.mono (by decide)) (pda_cons (pd_var 0) (pda_cons (pd_var 1) pda_nil)) ⟨r, q, rfl, ⟨v, hq.mono (by decide)⟩, rfl⟩) ?_ sc_grain_of.nd
    refine pds_while (fun m ρ' => ∃ g : Int, ρ' = [some (dRul r), some (dFr q), some (.int g)] ∧ m = (760 - g).toNat ∧ plc r q ≤ g ∧ g ≤ 755 ∧ ∀ k, plc r q ≤ k → k < g → mult r q (k + 1)) (760 - plc r q).toNat ⟨plc r q, rfl, rfl, Int.le_refl _, by omega, fun k h1 h2 => absurd h2 (by omega)⟩ ?_
    rintro m ρ' ⟨g, rfl, rfl, g1, g2, g3⟩
    refine ⟨_, pdt_val (pd_call c_is_multiple hr (pda_cons (pd_var 0) (pda_cons (pd_var 1) (pda_cons (pd_add (pd_var 2) pd_int) pda_nil))) ⟨r, q, g + 1, rfl, ⟨v, hq.mono (by decide), by omega, by omega⟩, rfl⟩), fun hb => ?_, fun hb => ?_⟩
    · have hm := of_decide_eq_true hb
      have bd := mult_bd v hm h0 hq
      refine pds_augI 2 (pd_var 2) pd_int (pds_nil ?_) sc_grain_of.nd
      refine ⟨_, by omega, g + 1, rfl, rfl, by omega, by omega, fun k k1 k2 => ?_⟩
      rcases Int.lt_or_le k g with c | c
      · exact g3 k k1 c
      · rw [show k = g by omega]
        exact hm
    · have hm := of_decide_eq_false hb
      refine pds_ret (pd_var 2) ?_
      unfold gof
      rw [if_neg h0, grn_eq v h0 ⟨g1, hm, g3⟩]
theorem sc_grain_of_span : FnScope ["ruler", "low", "high"] ["ruler", "low", "high"] (defScope (top 48)) := ⟨rfl, rfl, rfl, by decide +kernel, rfl, by decide +kernel, by decide +kernel⟩
theorem cal_grain_of_span (T : Frees mg) (C : Consts K mg) (D0 : DefAt K mg "grain_of_span" 48) (c_place_of : Cal P w K mg base "place_of" 3 ["ruler", "number"] (spP K R_place_of)) (c_has : Cal P w K mg base "has" 2 ["span", "number"] (spP K R_has)) (c_small_size : Cal P w K mg base "small_size" 3 ["span"] (spP K R_small_size)) (c_grain_of : Cal P w K mg base "grain_of" 5 ["ruler", "number"] (spP K R_grain_of)) : Cal P w K mg base "grain_of_span" 6 ["ruler", "low", "high"] (spP K R_grain_of_span) := by
  refine mk_cal D0 sc_grain_of_span (fun ds d h => ?_) (fun _ _ _ _ _ _ us hl => match us, hl with | [_, _, _], _ => rfl) (fun f cdv A outer s H E hr ds d h => ?_)
  · obtain ⟨r, lo, hi, rfl, ⟨v, hlo, hhi⟩, rfl⟩ := h
    rfl
  · obtain ⟨r, lo, hi, rfl, ⟨v, hlo, hhi⟩, rfl⟩ := h
    refine pds_ifR (b' := decide (lo = hi)) (pdt_cmp (qc_is (qc_eqD hr.units (pd_var 1) (pd_var 2) rfl rfl) (eqv_fr lo hi))) (fun hb => ?_) (fun hb => ?_)
    · have h0 := of_decide_eq_true hb
      refine pds_ret (pd_call c_grain_of hr (pda_cons (pd_var 0) (pda_cons (pd_var 1) pda_nil)) ⟨r, lo, rfl, ⟨v, hlo⟩, rfl⟩) ?_
      unfold gsp
      rw [if_pos h0]
    have h0 := of_decide_eq_false hb
    refine pds_ifR (b' := hasS (lo, hi) 0) (pdt_val (pd_call c_has (hr.mono (by decide)) (pda_cons (pd_tup (pda_cons (pd_var 1) (pda_cons (pd_var 2) pda_nil))) (pda_cons (pd_nought C) pda_nil)) ⟨(lo, hi), 0, rfl, ⟨⟨hlo.mono (by decide), hhi.mono (by decide)⟩, Bt.zero.mono (by decide)⟩, rfl⟩)) (fun hb => ?_) (fun hb => ?_)
    · refine pds_ret (pd_ixT (pd_var 0) pd_int) ?_
      unfold gsp
      rw [if_neg h0, hb]
      rfl
    refine pds_ret (pd_call c_place_of (hr.mono (by decide)) (pda_cons (pd_var 0) (pda_cons (pd_call c_small_size (hr.mono (by decide)) (pda_cons (pd_tup (pda_cons (pd_var 1) (pda_cons (pd_var 2) pda_nil))) pda_nil) ⟨(lo, hi), rfl, ⟨hlo.mono (by decide), hhi.mono (by decide)⟩, rfl⟩) pda_nil)) ⟨r, smallSz (lo, hi), rfl, ⟨v, (Bt_small (s := (lo, hi)) hlo hhi (by decide)).mono (by decide)⟩, rfl⟩) ?_
    unfold gsp
    rw [if_neg h0, hb]
    rfl
theorem sc_less_grain : FnScope ["one", "other"] ["one", "other"] (defScope (top 49)) := ⟨rfl, rfl, rfl, by decide +kernel, rfl, by decide +kernel, by decide +kernel⟩
theorem cal_less_grain (T : Frees mg) (D0 : DefAt K mg "less_grain" 49)  : Cal P w K mg base "less_grain" 1 ["one", "other"] (spP K R_less_grain) := by
  refine mk_cal D0 sc_less_grain (fun ds d h => ?_) (fun _ _ _ _ _ _ us hl => match us, hl with | [_, _], _ => rfl) (fun f cdv A outer s H E hr ds d h => ?_)
  · obtain ⟨a, b, rfl, rfl⟩ := h
    rfl
  · obtain ⟨a, b, rfl, rfl⟩ := h
    cases a with
    | none => exact pds_ifR (pdw (pdw_or (pdt_cmp (qc_isN (pd_var 0))) fun _ => (pdw_or1 (pdt_cmp (qc_isN (pd_var 1)))))) (fun hb => pds_ret (pd_ite (pdt_cmp (qc_isN (pd_var 0))) (fun h => (pd_var 1)) (fun h => (pd_var 0))) rfl) (fun hb => by exact Bool.noConfusion (show true = false from hb))
    | some x => cases b with
      | none => exact pds_ifR (pdw (pdw_or (pdt_cmp (qc_isN (pd_var 0))) fun _ => (pdw_or1 (pdt_cmp (qc_isN (pd_var 1)))))) (fun hb => pds_ret (pd_ite (pdt_cmp (qc_isN (pd_var 0))) (fun h => (pd_var 1)) (fun h => (pd_var 0))) rfl) (fun hb => by exact Bool.noConfusion (show true = false from hb))
      | some y => exact pds_ifR (pdw (pdw_or (pdt_cmp (qc_isN (pd_var 0))) fun _ => (pdw_or1 (pdt_cmp (qc_isN (pd_var 1)))))) (fun hb => by exact Bool.noConfusion (show false = true from hb)) (fun hb => pds_ret (pd_min rfl T.min (pda_cons (pd_var 0) (pda_cons (pd_var 1) pda_nil))) rfl)
theorem sc_great_grain : FnScope ["one", "other"] ["one", "other"] (defScope (top 50)) := ⟨rfl, rfl, rfl, by decide +kernel, rfl, by decide +kernel, by decide +kernel⟩
theorem cal_great_grain (T : Frees mg) (D0 : DefAt K mg "great_grain" 50)  : Cal P w K mg base "great_grain" 1 ["one", "other"] (spP K R_great_grain) := by
  refine mk_cal D0 sc_great_grain (fun ds d h => ?_) (fun _ _ _ _ _ _ us hl => match us, hl with | [_, _], _ => rfl) (fun f cdv A outer s H E hr ds d h => ?_)
  · obtain ⟨a, b, rfl, rfl⟩ := h
    rfl
  · obtain ⟨a, b, rfl, rfl⟩ := h
    cases a with
    | none => exact pds_ifR (pdw (pdw_or (pdt_cmp (qc_isN (pd_var 0))) fun _ => (pdw_or1 (pdt_cmp (qc_isN (pd_var 1)))))) (fun hb => pds_ret (pd_ite (pdt_cmp (qc_isN (pd_var 0))) (fun h => (pd_var 1)) (fun h => (pd_var 0))) rfl) (fun hb => by exact Bool.noConfusion (show true = false from hb))
    | some x => cases b with
      | none => exact pds_ifR (pdw (pdw_or (pdt_cmp (qc_isN (pd_var 0))) fun _ => (pdw_or1 (pdt_cmp (qc_isN (pd_var 1)))))) (fun hb => pds_ret (pd_ite (pdt_cmp (qc_isN (pd_var 0))) (fun h => (pd_var 1)) (fun h => (pd_var 0))) rfl) (fun hb => by exact Bool.noConfusion (show true = false from hb))
      | some y => exact pds_ifR (pdw (pdw_or (pdt_cmp (qc_isN (pd_var 0))) fun _ => (pdw_or1 (pdt_cmp (qc_isN (pd_var 1)))))) (fun hb => by exact Bool.noConfusion (show false = true from hb)) (fun hb => pds_ret (pd_max rfl T.max (pda_cons (pd_var 0) (pda_cons (pd_var 1) pda_nil))) rfl)
theorem sc_both_grains : FnScope ["one", "other"] ["one", "other"] (defScope (top 51)) := ⟨rfl, rfl, rfl, by decide +kernel, rfl, by decide +kernel, by decide +kernel⟩
theorem cal_both_grains (T : Frees mg) (D0 : DefAt K mg "both_grains" 51)  : Cal P w K mg base "both_grains" 1 ["one", "other"] (spP K R_both_grains) := by
  refine mk_cal D0 sc_both_grains (fun ds d h => ?_) (fun _ _ _ _ _ _ us hl => match us, hl with | [_, _], _ => rfl) (fun f cdv A outer s H E hr ds d h => ?_)
  · obtain ⟨a, b, rfl, rfl⟩ := h
    rfl
  · obtain ⟨a, b, rfl, rfl⟩ := h
    cases a with
    | none => exact pds_ret (pd_if (pdw (pdw_or (pdt_cmp (qc_isN (pd_var 0))) fun _ => (pdw_or1 (pdt_cmp (qc_isN (pd_var 1)))))) (fun h => pd_non) (fun h => by exact Bool.noConfusion (show true = false from h))) rfl
    | some x => cases b with
      | none => exact pds_ret (pd_if (pdw (pdw_or (pdt_cmp (qc_isN (pd_var 0))) fun _ => (pdw_or1 (pdt_cmp (qc_isN (pd_var 1)))))) (fun h => pd_non) (fun h => by exact Bool.noConfusion (show true = false from h))) rfl
      | some y => exact pds_ret (pd_if (pdw (pdw_or (pdt_cmp (qc_isN (pd_var 0))) fun _ => (pdw_or1 (pdt_cmp (qc_isN (pd_var 1)))))) (fun h => by exact Bool.noConfusion (show false = true from h)) (fun h => (pd_add (pd_var 0) (pd_var 1)))) rfl
theorem sc_is_exact : FnScope ["ruler", "span", "grain"] ["ruler", "span", "grain"] (defScope (top 52)) := ⟨rfl, rfl, rfl, by decide +kernel, rfl, by decide +kernel, by decide +kernel⟩
theorem cal_is_exact (T : Frees mg) (D0 : DefAt K mg "is_exact" 52) (c_is_less : Cal P w K mg base "is_less" 1 ["one", "other"] (spP K R_is_less)) (c_power : Cal P w K mg base "power" 1 ["base", "exponent"] (spP K R_power)) (c_great_size : Cal P w K mg base "great_size" 3 ["span"] (spP K R_great_size)) : Cal P w K mg base "is_exact" 4 ["ruler", "span", "grain"] (spP K R_is_exact) := by
  refine mk_cal D0 sc_is_exact (fun ds d h => ?_) (fun _ _ _ _ _ _ us hl => match us, hl with | [_, _, _], _ => rfl) (fun f cdv A outer s H E hr ds d h => ?_)
  · obtain ⟨r, s, g, rfl, ⟨v, hs, hg⟩, rfl⟩ := h
    rfl
  · obtain ⟨r, s, g, rfl, ⟨v, hs, hg⟩, rfl⟩ := h
    have f1 := v.f1
    have f3 := v.f3
    cases g with
    | none => exact pds_ifR (pdw (pdw_or (pdt_cmp (qc_isN (pd_var 2))) (b2 := false) fun z => by exact Bool.noConfusion (show true = false from z))) (fun hb => pds_ret pd_bl rfl) (fun hb => by exact Bool.noConfusion (show true = false from hb))
    | some g =>
      obtain ⟨g1, g2⟩ := hg g rfl
      refine pds_ifR (b' := decide (g < r.L)) (pdw (pdw_or (b1 := false) (pdt_cmp (qc_is (qc_isN (pd_var 2)) (by rfl))) fun _ => (pdw_or1 (pdt_cmp (qc_lt (pd_var 2) (pd_ixT (pd_var 0) pd_int)))))) (fun hb => ?_) (fun hb => ?_)
      · refine pds_ret pd_bl ?_
        unfold exactB
        dsimp only
        rw [hb]
        rfl
      refine pds_ret (pd_not (pd_call c_is_less (hr.mono (by decide)) (pda_cons (pd_call c_power (hr.mono (by decide)) (pda_cons (pd_ixT (pd_var 0) pd_int) (pda_cons (pd_add (pd_var 2) (pd_ixT (pd_var 0) pd_int)) pda_nil)) ⟨r.B, g + r.F, rfl, ⟨v.b2, v.b16, by omega, by omega⟩, rfl⟩) (pda_cons (pd_call c_great_size hr (pda_cons (pd_var 1) pda_nil) ⟨s, rfl, hs.mono (by decide), rfl⟩) pda_nil)) ⟨pw r (g + r.F), greatSz s, rfl, ⟨(pw_Bt v (g + r.F) (m := 2200) (by omega) (by omega)).mono (by decide), (Bt_great hs.a hs.b).mono (by decide)⟩, rfl⟩)) ?_
      unfold exactB
      dsimp only
      rw [hb]
      rfl
theorem sc_slack : FnScope ["ruler", "span", "grain", "step"] ["ruler", "span", "grain"] (defScope (top 53)) := ⟨rfl, rfl, rfl, by decide +kernel, rfl, by decide +kernel, by decide +kernel⟩
theorem cal_slack (T : Frees mg) (C : Consts K mg) (D0 : DefAt K mg "slack" 53) (c_times : Cal P w K mg base "times" 3 ["one", "other"] (spP K R_times)) (c_step_of : Cal P w K mg base "step_of" 4 ["ruler", "number"] (spP K R_step_of)) (c_off_of : Cal P w K mg base "off_of" 6 ["ruler", "number"] (spP K R_off_of)) (c_great_size : Cal P w K mg base "great_size" 3 ["span"] (spP K R_great_size)) (c_is_exact : Cal P w K mg base "is_exact" 4 ["ruler", "span", "grain"] (spP K R_is_exact)) : Cal P w K mg base "slack" 7 ["ruler", "span", "grain"] (spP K R_slack) := by
  refine mk_cal D0 sc_slack (fun ds d h => ?_) (fun _ _ _ _ _ _ us hl => match us, hl with | [_, _, _], _ => rfl) (fun f cdv A outer s H E hr ds d h => ?_)
  · obtain ⟨r, s, g, rfl, ⟨v, hs, hg⟩, rfl⟩ := h
    rfl
  · obtain ⟨r, s, g, rfl, ⟨v, hs, hg⟩, rfl⟩ := h
    have hgs := Bt_great hs.a hs.b
    have hst := stp_Bt v hgs (by decide)
    refine pds_ifR (b' := decide (s.1 = s.2)) (pdt_cmp (qc_is (qc_eqD hr.units (pd_ixT (pd_var 1) pd_int) (pd_ixT (pd_var 1) pd_int) rfl rfl) (eqv_fr s.1 s.2))) (fun hb => ?_) (fun hb => ?_)
    · have h0 := of_decide_eq_true hb
      refine pds_ret (pd_call c_off_of hr (pda_cons (pd_var 0) (pda_cons (pd_ixT (pd_var 1) pd_int) pda_nil)) ⟨r, s.1, rfl, ⟨v, hs.a⟩, rfl⟩) ?_
      unfold slk
      rw [if_pos h0]
    have h0 := of_decide_eq_false hb
    refine pds_ifR (b' := exactB r s g) (pdt_val (pd_call c_is_exact (hr.mono (by decide)) (pda_cons (pd_var 0) (pda_cons (pd_var 1) (pda_cons (pd_var 2) pda_nil))) ⟨r, s, g, rfl, ⟨v, hs, hg⟩, rfl⟩)) (fun hb => ?_) (fun hb => ?_)
    · refine pds_ret (pd_nought C) ?_
      unfold slk
      rw [if_neg h0, hb]
      rfl
    refine pds_set 3 (pd_call c_step_of (hr.mono (by decide)) (pda_cons (pd_var 0) (pda_cons (pd_call c_great_size (hr.mono (by decide)) (pda_cons (pd_var 1) pda_nil) ⟨s, rfl, hs.mono (by decide), rfl⟩) pda_nil)) ⟨r, greatSz s, rfl, ⟨v, hgs.mono (by decide)⟩, rfl⟩) ?_ sc_slack.nd
    refine pds_ret (pd_ite (pdt_cmp (qc_eqS (pd_ixT (pd_var 0) pd_int) pd_str)) (fun h => (pd_call c_times (hr.mono (by decide)) (pda_cons (pd_half C) (pda_cons (pd_var 3) pda_nil)) ⟨1 / 2, stp r (greatSz s), rfl, ⟨half_Bt, hst.mono (by decide)⟩, rfl⟩)) (fun h => (pd_var 3))) ?_
    unfold slk
    rw [if_neg h0, hb]
    cases r.way <;> rfl
end
end Rs
end

section
set_option Elab.async false
set_option linter.all false
set_option maxRecDepth 100000
set_option maxHeartbeats 4000000
namespace Rs
open PySem PySem.Spec L2
/-! ### comprehensions -/
section
variable {K : PySem.W.Frag} {F F' H H' F1 H1 : Hp} {ρ : DEnv} {σ : St}
/-- between two turns: D holds what is made so far -/
structure LcI (K : PySem.W.Frag) (F1 H1 : Hp) (ρ : DEnv) (σ : St) (D0 : Addr) (ds : List D) (H : Hp) (F : Hp) (acc : List V) : Prop where
  at_ : H D0 = some (.lst acc)
  out : F D0 = none
  ff : Same F1 F
  fr : ∀ a, H1 a ≠ none → F1 a = none → F a = none
  hh : Same H1 H
  all : DpAll K F acc ds
  env : EnvOk K F ρ σ H
theorem LcI.start {D0 : Addr} (he : EnvOk K F1 ρ σ H1) (hD : H1 D0 = none) : LcI K F1 H1 ρ σ D0 [] (upd H1 D0 (.lst [])) F1 [] := by
  have hf : F1 D0 = none := Same.free he.fh hD
  refine ⟨upd_same, hf, .refl _, fun _ _ h => h, fun a o e => ?_, .nil, ⟨fun a o e => ?_, he.len, he.at_⟩⟩
  · rw [upd_ne (ne_of_none e hD)]
    exact e
  · rw [upd_ne (ne_of_none e hf)]
    exact he.fh a o e
theorem LcI.turn {D0 : Addr} {ds : List D} {acc : List V} {v : V} {d : D} {F2 H2 : Hp} (i : LcI K F1 H1 ρ σ D0 ds H F acc) (hD : H1 D0 = none) (s : Step F H F2 H2) (h : Dp K F2 v d) :
    H2 D0 = some (.lst acc) ∧ LcI K F1 H1 ρ σ D0 (ds ++ [d]) (upd H2 D0 (.lst (acc ++ [v]))) F2 (acc ++ [v]) := by
  obtain ⟨h1, h2⟩ := s.own i.at_ i.out
  have e2 := i.env.step s
  refine ⟨h1, ⟨upd_same, h2, i.ff.trans s.ff, fun a h3 h4 => s.fr a (fun z => ?_) (i.fr a h3 h4), fun a o e => ?_, dpa_app (dpa_mono s.ff i.all) (.cons h .nil), ⟨fun a o e => ?_, e2.len, e2.at_⟩⟩⟩
  · cases q : H1 a with
    | none => exact h3 q
    | some o =>
      rw [i.hh a o q] at z
      cases z
  · rw [upd_ne (ne_of_none e hD)]
    exact s.hh a o (i.hh a o e)
  · rw [upd_ne (ne_of_none e h2)]
    exact e2.fh a o e
/-- no item -/
theorem LcI.skip {D0 : Addr} {ds : List D} {acc : List V} {F2 H2 : Hp} (i : LcI K F1 H1 ρ σ D0 ds H F acc) (s : Step F H F2 H2) : LcI K F1 H1 ρ σ D0 ds H2 F2 acc := by
  obtain ⟨h1, h2⟩ := s.own i.at_ i.out
  have e2 := i.env.step s
  refine ⟨h1, h2, i.ff.trans s.ff, fun a h3 h4 => s.fr a (fun z => ?_) (i.fr a h3 h4), i.hh.trans s.hh, dpa_mono s.ff i.all, e2⟩
  cases q : H1 a with
  | none => exact h3 q
  | some o =>
    rw [i.hh a o q] at z
    cases z
theorem LcI.done {D0 : Addr} {ds : List D} {acc : List V} (i : LcI K F1 H1 ρ σ D0 ds H F acc) (hD : H1 D0 = none) : Step F1 H1 (upd F D0 (.lst acc)) H ∧ Dp K (upd F D0 (.lst acc)) (.ref D0) (.list ds) := by
  refine ⟨⟨fun a o e => ?_, fun a o e => ?_, i.hh, fun a h1 h2 => ?_⟩, .lst (SqL.of upd_same) (dpa_mono (fun a o e => ?_) i.all)⟩
  · rw [upd_ne (ne_of_none (i.ff a o e) i.out)]
    exact i.ff a o e
  · by_cases q : a = D0
    · subst q
      rw [upd_same] at e
      rw [i.at_]
      exact e
    · rw [upd_ne q] at e
      exact i.env.fh a o e
  · have q : a ≠ D0 := fun z => h1 (by rw [z]; exact hD)
    rw [upd_ne q]
    exact i.fr a h1 h2
  · rw [upd_ne (ne_of_none e i.out)]
    exact e
end
section
variable {X : Cx} {elt it : Expr} {scope : Scope} {pos p : Pos} {ρ : DEnv} {te : TE}
theorem wipe1 {σ : St} {i : Nat} {x : V} : wipe ((wipe σ [i]).set i (some x)) [i] = wipe σ [i] := by
  show ((σ.set i none).set i (some x)).set i none = σ.set i none
  rw [List.set_set, List.set_set]
/-- a block of a comprehension over the context X -/
abbrev Blk (X : Cx) (scope : Scope) (s : Shared) (H : Hp) (C : Addr) (cl : List (Str × Addr)) (fp : List Addr) : Cx := X.blk s H scope (compEnvC scope cl C X.env) fp
/-- [elt for x in it], it a list of data, each element's value f of it -/
theorem pd_lcL (i : Nat) {x : Str} {xs : List D} (f : D → D) (hi : PD X it ρ (.list xs)) (hz : xs.length < sizeLine) (hρ : ρ[i]? = some none) (nd : X.N.Nodup) (ok : BlkOk X.N X.env.scope scope [(x, i)])
    (hg : ∀ (s : Shared) (H : Hp) (C : Addr) (cl : List (Str × Addr)) (fp : List Addr), PG (Blk X scope s H C cl fp) (.Name x p) (gName i))
    (he : ∀ (s : Shared) (H : Hp) (C : Addr) (cl : List (Str × Addr)) (fp : List Addr), PE (Blk X scope s H C cl fp) elt te)
    (hv : ∀ d ∈ xs, EvD X.K te (ρ.set i (some d)) (f d)) (hc : X.calm = true := by rfl) (hs : ∀ v, foldedSetIterable it X.env v = pure v := by intro _; rfl) :
    PD X (.ListComp elt [⟨.Name x p, it, [], 0⟩] scope pos) ρ (.list (xs.map f)) := by
  refine pd_of (pe_lc (own := [(x, i)]) (g := gName i) (tt := tYes) hc nd (pi_list pe_u) ok hg (fun _ _ _ _ _ => pts_nil) he hs) fun F σ H Q hE k => ?_
  refine hi F σ H _ hE fun v F1 H1 s1 h1 => ?_
  obtain ⟨l, ys, rfl, hq, ha⟩ := dp_lst h1
  have e1 := hE.step s1
  refine ⟨l, rfl, ⟨ys, Same.seq s1.fh hq⟩, fun D0 hD => ?_⟩
  refine lc_list (xs := ys) (fun n H' => ∃ F' acc, LcI X.K F1 H1 ρ σ D0 ((xs.take n).map f) H' F' acc) ⟨F1, [], LcI.start e1 hD⟩ (fun n H' _ ⟨F', acc, I⟩ => Same.seq (I.ff.trans I.env.fh) hq) ?_ ?_
  · rintro n y H' hy ⟨F', acc, I⟩
    refine ⟨wipe1, ?_⟩
    unfold tYes
    dsimp only
    rw [if_pos rfl]
    obtain ⟨d, hd, hdp⟩ := dpa_getV ha hy
    have hmem : d ∈ xs := List.mem_of_getElem? hd
    have eb : EnvOk X.K F' (ρ.set i (some d)) ((wipe σ [i]).set i (some y)) H' := (I.env.wipe [i] (fun j hj d' hd' => by
      have : j = i := by simpa using hj
      subst this
      rw [hρ] at hd'
      cases hd')).set i (dp_mono I.ff hdp)
    refine hv d hmem F' _ H' _ eb fun v F2 H2 s2 g2 => ?_
    obtain ⟨q1, q2⟩ := I.turn hD s2 g2
    refine ⟨acc, q1, ?_, F2, acc ++ [v], ?_⟩
    · have := dpa_len I.all
      rw [this, List.length_map, List.length_take]
      exact Nat.lt_of_le_of_lt (Nat.min_le_right _ _) hz
    · rw [List.take_add_one, hd, List.map_append]
      exact q2
  · rintro H' ⟨F', acc, I⟩
    rw [dpa_len ha, List.take_length] at I
    obtain ⟨q1, q2⟩ := I.done hD
    exact k _ _ H' (s1.trans q1) q2
end
end Rs
end

section
set_option Elab.async false
set_option linter.all false
set_option maxRecDepth 100000
set_option maxHeartbeats 4000000
namespace Rs
open PySem PySem.Spec L2
local macro_rules
  | `(tactic| walk_at "ib") => `(tactic| first | assumption | exact Bt.nu (by assumption) | exact Bt.deI (by assumption))
local macro_rules
  | `(tactic| walk_at "mw") => `(tactic| exact mulW (by walk_at "ib") (by walk_at "ib") (by decide) (by decide) (by decide))
local macro_rules
  | `(tactic| walk_at "bt0") => `(tactic| first | assumption | exact Bt.zero | exact SB.a (by assumption) | exact SB.b (by assumption) | exact Bt_qmin (by walk_at "bt0") (by walk_at "bt0") | exact Bt_qmax (by walk_at "bt0") (by walk_at "bt0") | exact Bt.neg (by walk_at "bt0") | exact Bt.abs (by walk_at "bt0") | exact Bt.add (by walk_at "bt0") (by walk_at "bt0") | exact Bt.sub (by walk_at "bt0") (by walk_at "bt0") | exact Bt.mul (by walk_at "bt0") (by walk_at "bt0"))
local macro_rules
  | `(tactic| walk_at "bt") => `(tactic| exact Bt.mono (by walk_at "bt0") (by decide))
local macro_rules
  | `(tactic| walk_at "sb") => `(tactic| first | assumption | exact SB.mono (by assumption) (by decide) | exact ⟨by walk_at "bt", by walk_at "bt"⟩)
local macro_rules
  | `(tactic| walk_at "gb") => `(tactic| first | assumption)
section
variable {P : Program} {w : World} {K : PySem.W.Frag} {mg : Str → Option Value} {base : Heap}
theorem sc_rounded_part : FnScope ["entry"] ["entry"] (defScope (top 55)) := ⟨rfl, rfl, rfl, by decide +kernel, rfl, by decide +kernel, by decide +kernel⟩
theorem cal_rounded_part (T : Frees mg) (D0 : DefAt K mg "rounded_part" 55)  : Cal P w K mg base "rounded_part" 1 ["entry"] (spP K R_rounded_part) := by
  refine mk_cal D0 sc_rounded_part (fun ds d h => ?_) (fun _ _ _ _ _ _ us hl => match us, hl with | [_], _ => rfl) (fun f cdv A outer s H E hr ds d h => ?_)
  · obtain ⟨e, rfl, rfl⟩ := h
    rfl
  · obtain ⟨e, rfl, rfl⟩ := h
    refine pds_ret (pd_slT (pd_var 0) pdo_none (pdo_some pd_int) (by show ¬ (HT.sIx 6 0 none = 0 ∧ HT.sIx 6 6 (some 2) = 6); decide)) ?_
    rfl
theorem sc_true_part : FnScope ["entry"] ["entry"] (defScope (top 56)) := ⟨rfl, rfl, rfl, by decide +kernel, rfl, by decide +kernel, by decide +kernel⟩
theorem cal_true_part (T : Frees mg) (D0 : DefAt K mg "true_part" 56)  : Cal P w K mg base "true_part" 1 ["entry"] (spP K R_true_part) := by
  refine mk_cal D0 sc_true_part (fun ds d h => ?_) (fun _ _ _ _ _ _ us hl => match us, hl with | [_], _ => rfl) (fun f cdv A outer s H E hr ds d h => ?_)
  · obtain ⟨e, rfl, rfl⟩ := h
    rfl
  · obtain ⟨e, rfl, rfl⟩ := h
    refine pds_ret (pd_slT (pd_var 0) (pdo_some pd_int) (pdo_some pd_int) (by show ¬ (HT.sIx 6 0 (some 2) = 0 ∧ HT.sIx 6 6 (some 4) = 6); decide)) ?_
    rfl
theorem sc_last_entry : FnScope ["ruler", "span", "trues", "err", "grain", "found", "own", "number"] ["ruler", "span", "trues", "err", "grain"] (defScope (top 57)) := ⟨rfl, rfl, rfl, by decide +kernel, rfl, by decide +kernel, by decide +kernel⟩
theorem cal_last_entry (T : Frees mg) (D0 : DefAt K mg "last_entry" 57) (c_need_small : Cal P w K mg base "need_small" 2 ["number"] (spP K R_need_small)) (c_lesser : Cal P w K mg base "lesser" 2 ["one", "other"] (spP K R_lesser)) (c_apart : Cal P w K mg base "apart" 5 ["one", "other"] (spP K R_apart)) (c_grain_of_span : Cal P w K mg base "grain_of_span" 6 ["ruler", "low", "high"] (spP K R_grain_of_span)) (c_great_grain : Cal P w K mg base "great_grain" 1 ["one", "other"] (spP K R_great_grain)) : Cal P w K mg base "last_entry" 7 ["ruler", "span", "trues", "err", "grain"] (spP K R_last_entry) := by
  refine mk_cal D0 sc_last_entry (fun ds d h => ?_) (fun _ _ _ _ _ _ us hl => match us, hl with | [_, _, _, _, _], _ => rfl) (fun f cdv A outer s H E hr ds d h => ?_)
  · obtain ⟨r, s, t, err, g, rfl, ⟨v, hs, ht, he, ng⟩, rfl⟩ := h
    rfl
  · obtain ⟨r, s, t, err, g, rfl, ⟨v, hs, ht, he, ng⟩, rfl⟩ := h
    have hap : Bt 8001 (apartS s t) := Bt_qmax ((hs.b.sub ht.a).mono (by decide)) ((ht.b.sub hs.a).mono (by decide))
    refine pds_set 5 (pd_catL (pd_catL (pd_listT T.list (pd_var 1)) (pd_listT T.list (pd_var 2)) (by exact szn rfl)) (pd_lst (pda_cons (pd_call c_lesser (hr.mono (by decide)) (pda_cons (pd_var 3) (pda_cons (pd_call c_apart (hr.mono (by decide)) (pda_cons (pd_var 1) (pda_cons (pd_var 2) pda_nil)) ⟨s, t, rfl, ⟨hs.mono (by decide), ht.mono (by decide)⟩, rfl⟩) pda_nil)) ⟨err, apartS s t, rfl, ⟨he, hap.mono (by decide)⟩, rfl⟩) pda_nil)) (by exact szn rfl)) ?_ sc_last_entry.nd
    refine pds_set 6 (pd_call c_grain_of_span hr (pda_cons (pd_var 0) (pda_cons (pd_ixT (pd_var 1) pd_int) (pda_cons (pd_ixT (pd_var 1) pd_int) pda_nil))) ⟨r, s.1, s.2, rfl, ⟨v, hs.a, hs.b⟩, rfl⟩) ?_ sc_last_entry.nd
    obtain ⟨fN, fdN, hmN, FN, hkN, hbN⟩ := c_need_small.ex
    refine pds_ret (pd_tupL T.tuple (pd_catL (pd_lcL 7 (fun x => x) (te := tCall (spP K R_need_small) [] E0 (tCons (tVar 7) tNil)) (pd_var 5) (by exact Nat.lt_of_le_of_lt (Nat.le_of_ble_eq_true (show Nat.ble _ 100 = true from rfl)) (by decide)) rfl sc_last_entry.nd (blkOk_by (N := ["ruler", "span", "trues", "err", "grain", "found", "own", "number"]) (sc := defScope (top 57)) (by decide +kernel)) (fun _ _ _ _ _ => pg_name (i := 7) sc_last_entry.nd rfl (Or.inl rfl)) (fun _ _ _ _ _ => pe_call FN (hr.mono (by decide)) rfl hmN hkN hbN .nil pass0 (pa_cons (pv 7) pa_nil)) (fun d hd => ?_)) (pd_lst (pda_cons (pd_ite (pdt_cmp (qc_isN (pd_var 6))) (fun h => pd_non) (fun h => (pd_call c_great_grain (hr.mono (by decide)) (pda_cons (pd_var 6) (pda_cons (pd_var 4) pda_nil)) ⟨_, _, rfl, rfl⟩))) pda_nil)) (by exact szn rfl))) ?_
    · obtain ⟨q, hq, rfl⟩ : ∃ q : Rat, NG q ∧ d = dFr q := by
        have hd2 : d ∈ [dFr s.1, dFr s.2, dFr t.1, dFr t.2, dFr (qmin err (apartS s t))] := hd
        simp only [List.mem_cons, List.not_mem_nil, or_false] at hd2
        rcases hd2 with rfl | rfl | rfl | rfl | rfl
        · exact ⟨_, ng.lo, rfl⟩
        · exact ⟨_, ng.hi, rfl⟩
        · exact ⟨_, ng.tlo, rfl⟩
        · exact ⟨_, ng.thi, rfl⟩
        · exact ⟨_, ng.err, rfl⟩
      intro F σ H0 Q hE k
      obtain ⟨x, hx, hdp⟩ := hE.at_ 7 (dFr q) rfl
      exact ⟨x, hx, F, [dFr q], dFr q, hE.fh, .cons hdp .nil, ⟨q, rfl, hq, rfl⟩, k⟩
    · unfold dEn lastE
      dsimp only
      cases gsp r s.1 s.2 with
      | none => rfl
      | some o => rfl
theorem sc_rounded_entry : FnScope ["ruler", "span", "trues", "err", "grain", "marks"] ["ruler", "span", "trues", "err", "grain"] (defScope (top 58)) := ⟨rfl, rfl, rfl, by decide +kernel, rfl, by decide +kernel, by decide +kernel⟩
theorem cal_rounded_entry (T : Frees mg) (D0 : DefAt K mg "rounded_entry" 58) (c_plus : Cal P w K mg base "plus" 3 ["one", "other"] (spP K R_plus)) (c_rounded : Cal P w K mg base "rounded" 5 ["ruler", "number"] (spP K R_rounded)) (c_slack : Cal P w K mg base "slack" 7 ["ruler", "span", "grain"] (spP K R_slack)) (c_last_entry : Cal P w K mg base "last_entry" 7 ["ruler", "span", "trues", "err", "grain"] (spP K R_last_entry)) : Cal P w K mg base "rounded_entry" 8 ["ruler", "span", "trues", "err", "grain"] (spP K R_rounded_entry) := by
  refine mk_cal D0 sc_rounded_entry (fun ds d h => ?_) (fun _ _ _ _ _ _ us hl => match us, hl with | [_, _, _, _, _], _ => rfl) (fun f cdv A outer s H E hr ds d h => ?_)
  · obtain ⟨r, s, t, err, g, rfl, ⟨v, hs, ht, he, hg, ng⟩, rfl⟩ := h
    rfl
  · obtain ⟨r, s, t, err, g, rfl, ⟨v, hs, ht, he, hg, ng⟩, rfl⟩ := h
    have h1 := (rnd_Bt v hs.a (by decide)).mono (m := 750) (by decide)
    have h2 := (rnd_Bt v hs.b (by decide)).mono (m := 750) (by decide)
    have hsl : Bt 1500 (slk r s g) := slk_Bt v hs.a hs.b
    refine pds_set 5 (pd_tup (pda_cons (pd_call c_rounded (hr.mono (by decide)) (pda_cons (pd_var 0) (pda_cons (pd_ixT (pd_var 1) pd_int) pda_nil)) ⟨r, s.1, rfl, ⟨v, hs.a.mono (by decide)⟩, rfl⟩) (pda_cons (pd_call c_rounded (hr.mono (by decide)) (pda_cons (pd_var 0) (pda_cons (pd_ixT (pd_var 1) pd_int) pda_nil)) ⟨r, s.2, rfl, ⟨v, hs.b.mono (by decide)⟩, rfl⟩) pda_nil))) ?_ sc_rounded_entry.nd
    refine pds_ret (pd_call c_last_entry (hr.mono (by decide)) (pda_cons (pd_var 0) (pda_cons (pd_var 5) (pda_cons (pd_var 2) (pda_cons (pd_call c_plus (hr.mono (by decide)) (pda_cons (pd_var 3) (pda_cons (pd_call c_slack (hr.mono (by decide)) (pda_cons (pd_var 0) (pda_cons (pd_var 1) (pda_cons (pd_var 4) pda_nil))) ⟨r, s, g, rfl, ⟨v, hs.mono (by decide), hg⟩, rfl⟩) pda_nil)) ⟨err, slk r s g, rfl, ⟨he, hsl.mono (by decide)⟩, rfl⟩) (pda_cons (pd_var 4) pda_nil))))) ⟨r, (rnd r s.1, rnd r s.2), t, err + slk r s g, g, rfl, ⟨v, ⟨h1, h2⟩, ht, (he.add hsl).mono (by decide), ng⟩, rfl⟩) rfl
theorem sc_sum_entry : FnScope ["ruler", "word", "one", "other", "spans", "trues", "span", "true"] ["ruler", "word", "one", "other"] (defScope (top 59)) := ⟨rfl, rfl, rfl, by decide +kernel, rfl, by decide +kernel, by decide +kernel⟩
theorem cal_sum_entry (T : Frees mg) (D0 : DefAt K mg "sum_entry" 59) (c_plus : Cal P w K mg base "plus" 3 ["one", "other"] (spP K R_plus)) (c_plus_spans : Cal P w K mg base "plus_spans" 4 ["one", "other"] (spP K R_plus_spans)) (c_less_spans : Cal P w K mg base "less_spans" 5 ["one", "other"] (spP K R_less_spans)) (c_less_grain : Cal P w K mg base "less_grain" 1 ["one", "other"] (spP K R_less_grain)) (c_rounded_part : Cal P w K mg base "rounded_part" 1 ["entry"] (spP K R_rounded_part)) (c_true_part : Cal P w K mg base "true_part" 1 ["entry"] (spP K R_true_part)) (c_rounded_entry : Cal P w K mg base "rounded_entry" 8 ["ruler", "span", "trues", "err", "grain"] (spP K R_rounded_entry)) : Cal P w K mg base "sum_entry" 9 ["ruler", "word", "one", "other"] (spP K R_sum_entry) := by
  refine mk_cal D0 sc_sum_entry (fun ds d h => ?_) (fun _ _ _ _ _ _ us hl => match us, hl with | [_, _, _, _], _ => rfl) (fun f cdv A outer s H E hr ds d h => ?_)
  · obtain ⟨r, b, x, y, rfl, ⟨v, hx, hy, ng⟩, rfl⟩ := h
    rfl
  · obtain ⟨r, b, x, y, rfl, ⟨v, hx, hy, ng⟩, rfl⟩ := h
    have sx := hx.rp.mono (m := 4000) (by decide)
    have sy := hy.rp.mono (m := 4000) (by decide)
    have tx := hx.tp.mono (m := 4000) (by decide)
    have ty := hy.tp.mono (m := 4000) (by decide)
    refine pds_set 4 (pd_tup (pda_cons (pd_call c_rounded_part (hr.mono (by decide)) (pda_cons (pd_var 2) pda_nil) ⟨x, rfl, rfl⟩) (pda_cons (pd_call c_rounded_part (hr.mono (by decide)) (pda_cons (pd_var 3) pda_nil) ⟨y, rfl, rfl⟩) pda_nil))) ?_ sc_sum_entry.nd
    refine pds_set 5 (pd_tup (pda_cons (pd_call c_true_part (hr.mono (by decide)) (pda_cons (pd_var 2) pda_nil) ⟨x, rfl, rfl⟩) (pda_cons (pd_call c_true_part (hr.mono (by decide)) (pda_cons (pd_var 3) pda_nil) ⟨y, rfl, rfl⟩) pda_nil))) ?_ sc_sum_entry.nd
    refine pds_set 6 (d := dSp (bif b then plusS x.rp y.rp else lessS x.rp y.rp)) (pd_is (pd_ite (pdt_cmp (qc_eqS (pd_var 1) pd_str)) (fun h => (pd_call c_plus_spans (hr.mono (by decide)) (pda_cons (pd_ixT (pd_var 4) pd_int) (pda_cons (pd_ixT (pd_var 4) pd_int) pda_nil)) ⟨x.rp, y.rp, rfl, ⟨sx, sy⟩, rfl⟩)) (fun h => (pd_call c_less_spans (hr.mono (by decide)) (pda_cons (pd_ixT (pd_var 4) pd_int) (pda_cons (pd_ixT (pd_var 4) pd_int) pda_nil)) ⟨x.rp, y.rp, rfl, ⟨sx, sy⟩, rfl⟩))) (by cases b <;> rfl)) ?_ sc_sum_entry.nd
    refine pds_set 7 (d := dSp (bif b then plusS x.tp y.tp else lessS x.tp y.tp)) (pd_is (pd_ite (pdt_cmp (qc_eqS (pd_var 1) pd_str)) (fun h => (pd_call c_plus_spans (hr.mono (by decide)) (pda_cons (pd_ixT (pd_var 5) pd_int) (pda_cons (pd_ixT (pd_var 5) pd_int) pda_nil)) ⟨x.tp, y.tp, rfl, ⟨tx, ty⟩, rfl⟩)) (fun h => (pd_call c_less_spans (hr.mono (by decide)) (pda_cons (pd_ixT (pd_var 5) pd_int) (pda_cons (pd_ixT (pd_var 5) pd_int) pda_nil)) ⟨x.tp, y.tp, rfl, ⟨tx, ty⟩, rfl⟩))) (by cases b <;> rfl)) ?_ sc_sum_entry.nd
    refine pds_ret (pd_call c_rounded_entry hr (pda_cons (pd_var 0) (pda_cons (pd_var 6) (pda_cons (pd_var 7) (pda_cons (pd_call c_plus (hr.mono (by decide)) (pda_cons (pd_ixT (pd_var 2) pd_int) (pda_cons (pd_ixT (pd_var 3) pd_int) pda_nil)) ⟨x.err, y.err, rfl, ⟨hx.err.mono (by decide), hy.err.mono (by decide)⟩, rfl⟩) (pda_cons (pd_call c_less_grain (hr.mono (by decide)) (pda_cons (pd_ixT (pd_var 2) pd_int) (pda_cons (pd_ixT (pd_var 3) pd_int) pda_nil)) ⟨x.gr, y.gr, rfl, rfl⟩) pda_nil))))) ⟨r, _, _, x.err + y.err, lessG x.gr y.gr, rfl, ⟨v, ?_, ?_, (hx.err.add hy.err).mono (by decide), GB_less hx.gr hy.gr, ng⟩, rfl⟩) rfl
    · cases b
      · exact (SB_less hx.rp hy.rp).mono (by decide)
      · exact (SB_plus hx.rp hy.rp).mono (by decide)
    · cases b
      · exact (SB_less hx.tp hy.tp).mono (by decide)
      · exact (SB_plus hx.tp hy.tp).mono (by decide)
theorem sc_product_entry : FnScope ["ruler", "one", "other", "span", "true", "err"] ["ruler", "one", "other"] (defScope (top 60)) := ⟨rfl, rfl, rfl, by decide +kernel, rfl, by decide +kernel, by decide +kernel⟩
theorem cal_product_entry (T : Frees mg) (D0 : DefAt K mg "product_entry" 60) (c_plus : Cal P w K mg base "plus" 3 ["one", "other"] (spP K R_plus)) (c_times : Cal P w K mg base "times" 3 ["one", "other"] (spP K R_times)) (c_times_spans : Cal P w K mg base "times_spans" 4 ["one", "other"] (spP K R_times_spans)) (c_great_size : Cal P w K mg base "great_size" 3 ["span"] (spP K R_great_size)) (c_both_grains : Cal P w K mg base "both_grains" 1 ["one", "other"] (spP K R_both_grains)) (c_rounded_part : Cal P w K mg base "rounded_part" 1 ["entry"] (spP K R_rounded_part)) (c_true_part : Cal P w K mg base "true_part" 1 ["entry"] (spP K R_true_part)) (c_rounded_entry : Cal P w K mg base "rounded_entry" 8 ["ruler", "span", "trues", "err", "grain"] (spP K R_rounded_entry)) : Cal P w K mg base "product_entry" 9 ["ruler", "one", "other"] (spP K R_product_entry) := by
  refine mk_cal D0 sc_product_entry (fun ds d h => ?_) (fun _ _ _ _ _ _ us hl => match us, hl with | [_, _, _], _ => rfl) (fun f cdv A outer s H E hr ds d h => ?_)
  · obtain ⟨r, x, y, rfl, ⟨v, hx, hy, ng⟩, rfl⟩ := h
    rfl
  · obtain ⟨r, x, y, rfl, ⟨v, hx, hy, ng⟩, rfl⟩ := h
    have sx := hx.rp.mono (m := 4000) (by decide)
    have sy := hy.rp.mono (m := 4000) (by decide)
    have tx := hx.tp.mono (m := 4000) (by decide)
    have ty := hy.tp.mono (m := 4000) (by decide)
    have g1 := Bt_great hx.rp.a hx.rp.b
    have g2 := Bt_great hy.tp.a hy.tp.b
    have p1 := g1.mul hy.err
    have p2 := g2.mul hx.err
    refine pds_set 3 (pd_call c_times_spans (hr.mono (by decide)) (pda_cons (pd_call c_rounded_part (hr.mono (by decide)) (pda_cons (pd_var 1) pda_nil) ⟨x, rfl, rfl⟩) (pda_cons (pd_call c_rounded_part (hr.mono (by decide)) (pda_cons (pd_var 2) pda_nil) ⟨y, rfl, rfl⟩) pda_nil)) ⟨x.rp, y.rp, rfl, ⟨sx, sy⟩, rfl⟩) ?_ sc_product_entry.nd
    refine pds_set 4 (pd_call c_times_spans (hr.mono (by decide)) (pda_cons (pd_call c_true_part (hr.mono (by decide)) (pda_cons (pd_var 1) pda_nil) ⟨x, rfl, rfl⟩) (pda_cons (pd_call c_true_part (hr.mono (by decide)) (pda_cons (pd_var 2) pda_nil) ⟨y, rfl, rfl⟩) pda_nil)) ⟨x.tp, y.tp, rfl, ⟨tx, ty⟩, rfl⟩) ?_ sc_product_entry.nd
    refine pds_set 5 (pd_call c_plus (hr.mono (by decide)) (pda_cons (pd_call c_times (hr.mono (by decide)) (pda_cons (pd_call c_great_size (hr.mono (by decide)) (pda_cons (pd_call c_rounded_part (hr.mono (by decide)) (pda_cons (pd_var 1) pda_nil) ⟨x, rfl, rfl⟩) pda_nil) ⟨x.rp, rfl, hx.rp.mono (by decide), rfl⟩) (pda_cons (pd_ixT (pd_var 2) pd_int) pda_nil)) ⟨greatSz x.rp, y.err, rfl, ⟨g1.mono (by decide), hy.err.mono (by decide)⟩, rfl⟩) (pda_cons (pd_call c_times (hr.mono (by decide)) (pda_cons (pd_call c_great_size (hr.mono (by decide)) (pda_cons (pd_call c_true_part (hr.mono (by decide)) (pda_cons (pd_var 2) pda_nil) ⟨y, rfl, rfl⟩) pda_nil) ⟨y.tp, rfl, hy.tp.mono (by decide), rfl⟩) (pda_cons (pd_ixT (pd_var 1) pd_int) pda_nil)) ⟨greatSz y.tp, x.err, rfl, ⟨g2.mono (by decide), hx.err.mono (by decide)⟩, rfl⟩) pda_nil)) ⟨_, _, rfl, ⟨p1.mono (by decide), p2.mono (by decide)⟩, rfl⟩) ?_ sc_product_entry.nd
    refine pds_ret (pd_call c_rounded_entry hr (pda_cons (pd_var 0) (pda_cons (pd_var 3) (pda_cons (pd_var 4) (pda_cons (pd_var 5) (pda_cons (pd_call c_both_grains (hr.mono (by decide)) (pda_cons (pd_ixT (pd_var 1) pd_int) (pda_cons (pd_ixT (pd_var 2) pd_int) pda_nil)) ⟨x.gr, y.gr, rfl, rfl⟩) pda_nil))))) ⟨r, _, _, _, bothG x.gr y.gr, rfl, ⟨v, (SB_times hx.rp hy.rp).mono (by decide), (SB_times hx.tp hy.tp).mono (by decide), (p1.add p2).mono (by decide), GB_both hx.gr hy.gr, ng⟩, rfl⟩) rfl
theorem sc_single_entry : FnScope ["ruler", "word", "one"] ["ruler", "word", "one"] (defScope (top 62)) := ⟨rfl, rfl, rfl, by decide +kernel, rfl, by decide +kernel, by decide +kernel⟩
theorem cal_single_entry (T : Frees mg) (D0 : DefAt K mg "single_entry" 62) (c_turned_span : Cal P w K mg base "turned_span" 2 ["span"] (spP K R_turned_span)) (c_size_span : Cal P w K mg base "size_span" 4 ["span"] (spP K R_size_span)) (c_rounded_part : Cal P w K mg base "rounded_part" 1 ["entry"] (spP K R_rounded_part)) (c_true_part : Cal P w K mg base "true_part" 1 ["entry"] (spP K R_true_part)) (c_last_entry : Cal P w K mg base "last_entry" 7 ["ruler", "span", "trues", "err", "grain"] (spP K R_last_entry)) : Cal P w K mg base "single_entry" 8 ["ruler", "word", "one"] (spP K R_single_entry) := by
  refine mk_cal D0 sc_single_entry (fun ds d h => ?_) (fun _ _ _ _ _ _ us hl => match us, hl with | [_, _, _], _ => rfl) (fun f cdv A outer s H E hr ds d h => ?_)
  · obtain ⟨r, b, x, rfl, ⟨v, hx, ng⟩, rfl⟩ := h
    rfl
  · obtain ⟨r, b, x, rfl, ⟨v, hx, ng⟩, rfl⟩ := h
    have le := hx.err.mono (m := 40000) (by decide)
    cases b with
    | true =>
      refine pds_ifR (b' := true) (pdt_cmp (qc_is (qc_eqS (pd_var 1) pd_str) (by rfl))) (fun hb => ?_) (fun hb => nomatch hb)
      exact pds_ret (pd_call c_last_entry (hr.mono (by decide)) (pda_cons (pd_var 0) (pda_cons (pd_call c_turned_span (hr.mono (by decide)) (pda_cons (pd_call c_rounded_part (hr.mono (by decide)) (pda_cons (pd_var 2) pda_nil) ⟨x, rfl, rfl⟩) pda_nil) ⟨x.rp, rfl, trivial, rfl⟩) (pda_cons (pd_call c_turned_span (hr.mono (by decide)) (pda_cons (pd_call c_true_part (hr.mono (by decide)) (pda_cons (pd_var 2) pda_nil) ⟨x, rfl, rfl⟩) pda_nil) ⟨x.tp, rfl, trivial, rfl⟩) (pda_cons (pd_ixT (pd_var 2) pd_int) (pda_cons (pd_ixT (pd_var 2) pd_int) pda_nil))))) ⟨r, turnS x.rp, turnS x.tp, x.err, x.gr, rfl, ⟨v, (SB_turn hx.rp).mono (by decide), (SB_turn hx.tp).mono (by decide), le, ng⟩, rfl⟩) rfl
    | false =>
      refine pds_ifR (b' := false) (pdt_cmp (qc_is (qc_eqS (pd_var 1) pd_str) (by rfl))) (fun hb => nomatch hb) (fun hb => ?_)
      exact pds_ret (pd_call c_last_entry (hr.mono (by decide)) (pda_cons (pd_var 0) (pda_cons (pd_call c_size_span (hr.mono (by decide)) (pda_cons (pd_call c_rounded_part (hr.mono (by decide)) (pda_cons (pd_var 2) pda_nil) ⟨x, rfl, rfl⟩) pda_nil) ⟨x.rp, rfl, hx.rp.mono (by decide), rfl⟩) (pda_cons (pd_call c_size_span (hr.mono (by decide)) (pda_cons (pd_call c_true_part (hr.mono (by decide)) (pda_cons (pd_var 2) pda_nil) ⟨x, rfl, rfl⟩) pda_nil) ⟨x.tp, rfl, hx.tp.mono (by decide), rfl⟩) (pda_cons (pd_ixT (pd_var 2) pd_int) (pda_cons (pd_ixT (pd_var 2) pd_int) pda_nil))))) ⟨r, sizeS x.rp, sizeS x.tp, x.err, x.gr, rfl, ⟨v, (SB_size hx.rp (by decide)).mono (by decide), (SB_size hx.tp (by decide)).mono (by decide), le, ng⟩, rfl⟩) rfl
theorem sc_chosen_entry : FnScope ["ruler", "word", "one", "other", "spans", "trues", "span", "true"] ["ruler", "word", "one", "other"] (defScope (top 63)) := ⟨rfl, rfl, rfl, by decide +kernel, rfl, by decide +kernel, by decide +kernel⟩
theorem cal_chosen_entry (T : Frees mg) (D0 : DefAt K mg "chosen_entry" 63) (c_greater : Cal P w K mg base "greater" 2 ["one", "other"] (spP K R_greater)) (c_least_span : Cal P w K mg base "least_span" 3 ["one", "other"] (spP K R_least_span)) (c_most_span : Cal P w K mg base "most_span" 3 ["one", "other"] (spP K R_most_span)) (c_less_grain : Cal P w K mg base "less_grain" 1 ["one", "other"] (spP K R_less_grain)) (c_rounded_part : Cal P w K mg base "rounded_part" 1 ["entry"] (spP K R_rounded_part)) (c_true_part : Cal P w K mg base "true_part" 1 ["entry"] (spP K R_true_part)) (c_last_entry : Cal P w K mg base "last_entry" 7 ["ruler", "span", "trues", "err", "grain"] (spP K R_last_entry)) : Cal P w K mg base "chosen_entry" 8 ["ruler", "word", "one", "other"] (spP K R_chosen_entry) := by
  refine mk_cal D0 sc_chosen_entry (fun ds d h => ?_) (fun _ _ _ _ _ _ us hl => match us, hl with | [_, _, _, _], _ => rfl) (fun f cdv A outer s H E hr ds d h => ?_)
  · obtain ⟨r, b, x, y, rfl, ⟨v, hx, hy, ng⟩, rfl⟩ := h
    rfl
  · obtain ⟨r, b, x, y, rfl, ⟨v, hx, hy, ng⟩, rfl⟩ := h
    have sx := hx.rp.mono (m := 40000) (by decide)
    have sy := hy.rp.mono (m := 40000) (by decide)
    have tx := hx.tp.mono (m := 40000) (by decide)
    have ty := hy.tp.mono (m := 40000) (by decide)
    refine pds_set 4 (pd_tup (pda_cons (pd_call c_rounded_part (hr.mono (by decide)) (pda_cons (pd_var 2) pda_nil) ⟨x, rfl, rfl⟩) (pda_cons (pd_call c_rounded_part (hr.mono (by decide)) (pda_cons (pd_var 3) pda_nil) ⟨y, rfl, rfl⟩) pda_nil))) ?_ sc_chosen_entry.nd
    refine pds_set 5 (pd_tup (pda_cons (pd_call c_true_part (hr.mono (by decide)) (pda_cons (pd_var 2) pda_nil) ⟨x, rfl, rfl⟩) (pda_cons (pd_call c_true_part (hr.mono (by decide)) (pda_cons (pd_var 3) pda_nil) ⟨y, rfl, rfl⟩) pda_nil))) ?_ sc_chosen_entry.nd
    refine pds_set 6 (d := dSp (bif b then leastS x.rp y.rp else mostS x.rp y.rp)) (pd_is (pd_ite (pdt_cmp (qc_eqS (pd_var 1) pd_str)) (fun h => (pd_call c_least_span (hr.mono (by decide)) (pda_cons (pd_ixT (pd_var 4) pd_int) (pda_cons (pd_ixT (pd_var 4) pd_int) pda_nil)) ⟨x.rp, y.rp, rfl, ⟨sx, sy⟩, rfl⟩)) (fun h => (pd_call c_most_span (hr.mono (by decide)) (pda_cons (pd_ixT (pd_var 4) pd_int) (pda_cons (pd_ixT (pd_var 4) pd_int) pda_nil)) ⟨x.rp, y.rp, rfl, ⟨sx, sy⟩, rfl⟩))) (by cases b <;> rfl)) ?_ sc_chosen_entry.nd
    refine pds_set 7 (d := dSp (bif b then leastS x.tp y.tp else mostS x.tp y.tp)) (pd_is (pd_ite (pdt_cmp (qc_eqS (pd_var 1) pd_str)) (fun h => (pd_call c_least_span (hr.mono (by decide)) (pda_cons (pd_ixT (pd_var 5) pd_int) (pda_cons (pd_ixT (pd_var 5) pd_int) pda_nil)) ⟨x.tp, y.tp, rfl, ⟨tx, ty⟩, rfl⟩)) (fun h => (pd_call c_most_span (hr.mono (by decide)) (pda_cons (pd_ixT (pd_var 5) pd_int) (pda_cons (pd_ixT (pd_var 5) pd_int) pda_nil)) ⟨x.tp, y.tp, rfl, ⟨tx, ty⟩, rfl⟩))) (by cases b <;> rfl)) ?_ sc_chosen_entry.nd
    refine pds_ret (pd_call c_last_entry (hr.mono (by decide)) (pda_cons (pd_var 0) (pda_cons (pd_var 6) (pda_cons (pd_var 7) (pda_cons (pd_call c_greater (hr.mono (by decide)) (pda_cons (pd_ixT (pd_var 2) pd_int) (pda_cons (pd_ixT (pd_var 3) pd_int) pda_nil)) ⟨x.err, y.err, rfl, ⟨hx.err.mono (by decide), hy.err.mono (by decide)⟩, rfl⟩) (pda_cons (pd_call c_less_grain (hr.mono (by decide)) (pda_cons (pd_ixT (pd_var 2) pd_int) (pda_cons (pd_ixT (pd_var 3) pd_int) pda_nil)) ⟨x.gr, y.gr, rfl, rfl⟩) pda_nil))))) ⟨r, _, _, qmax x.err y.err, lessG x.gr y.gr, rfl, ⟨v, ?_, ?_, (Bt_qmax hx.err hy.err).mono (by decide), ng⟩, rfl⟩) rfl
    · cases b
      · exact ⟨Bt_qmax hx.rp.a hy.rp.a |>.mono (by decide), Bt_qmax hx.rp.b hy.rp.b |>.mono (by decide)⟩
      · exact ⟨Bt_qmin hx.rp.a hy.rp.a |>.mono (by decide), Bt_qmin hx.rp.b hy.rp.b |>.mono (by decide)⟩
    · cases b
      · exact ⟨Bt_qmax hx.tp.a hy.tp.a |>.mono (by decide), Bt_qmax hx.tp.b hy.tp.b |>.mono (by decide)⟩
      · exact ⟨Bt_qmin hx.tp.a hy.tp.a |>.mono (by decide), Bt_qmin hx.tp.b hy.tp.b |>.mono (by decide)⟩
theorem sc_sides : FnScope ["one", "other"] ["one", "other"] (defScope (top 64)) := ⟨rfl, rfl, rfl, by decide +kernel, rfl, by decide +kernel, by decide +kernel⟩
theorem cal_sides (T : Frees mg) (D0 : DefAt K mg "sides" 64) (c_is_less : Cal P w K mg base "is_less" 1 ["one", "other"] (spP K R_is_less)) : Cal P w K mg base "sides" 2 ["one", "other"] (spP K R_sides) := by
  refine mk_cal D0 sc_sides (fun ds d h => ?_) (fun _ _ _ _ _ _ us hl => match us, hl with | [_, _], _ => rfl) (fun f cdv A outer s H E hr ds d h => ?_)
  · obtain ⟨s, t, rfl, ⟨hs, ht⟩, rfl⟩ := h
    rfl
  · obtain ⟨s, t, rfl, ⟨hs, ht⟩, rfl⟩ := h
    refine pds_ifR (b' := decide (s.2 < t.1)) (pdt_val (pd_call c_is_less hr (pda_cons (pd_ixT (pd_var 0) pd_int) (pda_cons (pd_ixT (pd_var 1) pd_int) pda_nil)) ⟨s.2, t.1, rfl, ⟨hs.b, ht.a⟩, rfl⟩)) (fun hb => ?_) (fun hb => ?_)
    · refine pds_ret (pd_tup (pda_cons pd_int pda_nil)) ?_
      unfold sidesS
      rw [hb]
      rfl
    refine pds_ret (pd_ite (pdt_not (pdt_val (pd_call c_is_less hr (pda_cons (pd_ixT (pd_var 0) pd_int) (pda_cons (pd_ixT (pd_var 1) pd_int) pda_nil)) ⟨s.1, t.2, rfl, ⟨hs.a, ht.b⟩, rfl⟩))) (fun h => (pd_tup (pda_cons pd_int pda_nil))) (fun h => (pd_tup (pda_cons pd_int (pda_cons pd_int pda_nil))))) ?_
    unfold sidesS
    rw [hb]
    dsimp only
    cases decide (s.1 < t.2) <;> rfl
theorem sc_entry_of_marks : FnScope ["ruler", "low", "high"] ["ruler", "low", "high"] (defScope (top 68)) := ⟨rfl, rfl, rfl, by decide +kernel, rfl, by decide +kernel, by decide +kernel⟩
theorem cal_entry_of_marks (T : Frees mg) (C : Consts K mg)  (D0 : DefAt K mg "entry_of_marks" 68) (c_grain_of_span : Cal P w K mg base "grain_of_span" 6 ["ruler", "low", "high"] (spP K R_grain_of_span)) : Cal P w K mg base "entry_of_marks" 7 ["ruler", "low", "high"] (spP K R_entry_of_marks) := by
  refine mk_cal D0 sc_entry_of_marks (fun ds d h => ?_) (fun _ _ _ _ _ _ us hl => match us, hl with | [_, _, _], _ => rfl) (fun f cdv A outer s H E hr ds d h => ?_)
  · obtain ⟨r, lo, hi, rfl, ⟨v, hlo, hhi⟩, rfl⟩ := h
    rfl
  · obtain ⟨r, lo, hi, rfl, ⟨v, hlo, hhi⟩, rfl⟩ := h
    refine pds_ret (pd_tup (pda_cons (pd_var 1) (pda_cons (pd_var 2) (pda_cons (pd_var 1) (pda_cons (pd_var 2) (pda_cons (pd_nought C) (pda_cons (pd_call c_grain_of_span hr (pda_cons (pd_var 0) (pda_cons (pd_var 1) (pda_cons (pd_var 2) pda_nil))) ⟨_, _, _, rfl, ⟨by assumption, by walk_at "bt", by walk_at "bt"⟩, rfl⟩) pda_nil))))))) ?_
    rfl
end
end Rs
end

section
set_option Elab.async false
set_option linter.all false
set_option maxRecDepth 100000
set_option maxHeartbeats 4000000
namespace Rs
open PySem PySem.Spec L2
local macro_rules
  | `(tactic| walk_at "ib") => `(tactic| first | assumption | exact Bt.nu (by assumption) | exact Bt.deI (by assumption))
local macro_rules
  | `(tactic| walk_at "mw") => `(tactic| exact mulW (by walk_at "ib") (by walk_at "ib") (by decide) (by decide) (by decide))
local macro_rules
  | `(tactic| walk_at "bt0") => `(tactic| first | assumption | exact Bt.zero | exact SB.a (by assumption) | exact SB.b (by assumption) | exact Bt_qmin (by walk_at "bt0") (by walk_at "bt0") | exact Bt_qmax (by walk_at "bt0") (by walk_at "bt0") | exact Bt.neg (by walk_at "bt0") | exact Bt.abs (by walk_at "bt0") | exact Bt.add (by walk_at "bt0") (by walk_at "bt0") | exact Bt.sub (by walk_at "bt0") (by walk_at "bt0") | exact Bt.mul (by walk_at "bt0") (by walk_at "bt0"))
local macro_rules
  | `(tactic| walk_at "bt") => `(tactic| exact Bt.mono (by walk_at "bt0") (by decide))
local macro_rules
  | `(tactic| walk_at "sb") => `(tactic| first | assumption | exact SB.mono (by assumption) (by decide) | exact ⟨by walk_at "bt", by walk_at "bt"⟩)
local macro_rules
  | `(tactic| walk_at "gb") => `(tactic| first | assumption)
section
variable {P : Program} {w : World} {K : PySem.W.Frag} {mg : Str → Option Value} {base : Heap}
theorem sc_picked_entry : FnScope ["ruler", "one", "other", "some", "is_same", "mine", "its", "err", "side", "true", "is_one", "far", "span", "trues"] ["ruler", "one", "other", "some", "is_same"] (defScope (top 65)) := ⟨rfl, rfl, rfl, by decide +kernel, rfl, by decide +kernel, by decide +kernel⟩
theorem cal_picked_entry (T : Frees mg) (C : Consts K mg) (D0 : DefAt K mg "picked_entry" 65) (c_greater : Cal P w K mg base "greater" 2 ["one", "other"] (spP K R_greater)) (c_hull : Cal P w K mg base "hull" 3 ["one", "other"] (spP K R_hull)) (c_apart : Cal P w K mg base "apart" 5 ["one", "other"] (spP K R_apart)) (c_less_grain : Cal P w K mg base "less_grain" 1 ["one", "other"] (spP K R_less_grain)) (c_rounded_part : Cal P w K mg base "rounded_part" 1 ["entry"] (spP K R_rounded_part)) (c_true_part : Cal P w K mg base "true_part" 1 ["entry"] (spP K R_true_part)) (c_last_entry : Cal P w K mg base "last_entry" 7 ["ruler", "span", "trues", "err", "grain"] (spP K R_last_entry)) (c_sides : Cal P w K mg base "sides" 2 ["one", "other"] (spP K R_sides)) : Cal P w K mg base "picked_entry" 8 ["ruler", "one", "other", "some", "is_same"] (spP K R_picked_entry) := by
  refine mk_cal D0 sc_picked_entry (fun ds d h => ?_) (fun _ _ _ _ _ _ us hl => match us, hl with | [_, _, _, _, _], _ => rfl) (fun f cdv A outer s H E hr ds d h => ?_)
  · obtain ⟨r, same, x, y, u, v0, rfl, ⟨v, hx, hy, hu, hv, ng⟩, rfl⟩ := h
    rfl
  · obtain ⟨r, same, x, y, u, v0, rfl, ⟨v, hx, hy, hu, hv, ng⟩, rfl⟩ := h
    have hsel : ∀ b : Bool, atI [dEn u, dEn v0] (if b then 1 else 0) = some (dEn (selE u v0 b)) := fun b => by cases b <;> rfl
    have hEB : ∀ b : Bool, EB (selE u v0 b) := fun b => by cases b <;> assumption
    obtain ⟨mine, hmine⟩ : ∃ l, l = sidesS x.rp y.rp := ⟨_, rfl⟩
    obtain ⟨its, hits⟩ : ∃ l, l = sidesS x.tp y.tp := ⟨_, rfl⟩
    have nm : mine ≠ [] := by rw [hmine]; exact sidesS_ne _ _
    have ni : its ≠ [] := by rw [hits]; exact sidesS_ne _ _
    refine pds_set 5 (d := dSides mine) (pd_call c_sides (hr.mono (by decide)) (pda_cons (pd_call c_rounded_part (hr.mono (by decide)) (pda_cons (pd_var 1) pda_nil) ⟨x, rfl, rfl⟩) (pda_cons (pd_call c_rounded_part (hr.mono (by decide)) (pda_cons (pd_var 2) pda_nil) ⟨y, rfl, rfl⟩) pda_nil)) ⟨x.rp, y.rp, rfl, ⟨hx.rp.mono (by decide), hy.rp.mono (by decide)⟩, by rw [hmine]⟩) ?_ sc_picked_entry.nd
    refine pds_set 6 (d := dSides its) (pd_call c_sides (hr.mono (by decide)) (pda_cons (pd_call c_true_part (hr.mono (by decide)) (pda_cons (pd_var 1) pda_nil) ⟨x, rfl, rfl⟩) (pda_cons (pd_call c_true_part (hr.mono (by decide)) (pda_cons (pd_var 2) pda_nil) ⟨y, rfl, rfl⟩) pda_nil)) ⟨x.tp, y.tp, rfl, ⟨hx.tp.mono (by decide), hy.tp.mono (by decide)⟩, by rw [hits]⟩) ?_ sc_picked_entry.nd
    refine pds_set 7 (pd_nought C) ?_ sc_picked_entry.nd
    refine pds_forT 8 (pd_var 5) (fun n ρ' => ∃ (e : Rat) (o8 o9 o10 o11 : Option D), ρ' = [some (dRul r), some (dEn x), some (dEn y), some (.list [dEn u, dEn v0]), some (.bool same), some (dSides mine), some (dSides its), some (dFr e), o8, o9, o10, o11, none, none] ∧ Lg e ∧ e = (mine.take n).foldl (fun e i => its.foldl (fun e j => qmax e (pickFar same u v0 i j)) e) 0) ⟨0, none, none, none, none, rfl, Bt.zero.mono (by decide), rfl⟩ ?_ ?_ (nd := sc_picked_entry.nd)
    · rintro n d ρ' hn ⟨e, o8, o9, o10, o11, rfl, he, hq⟩
      obtain ⟨i, hi, rfl⟩ := side_at hn
      refine pds_forT 9 (pd_var 6) (fun m ρ' => ∃ (e' : Rat) (o9 o10 o11 : Option D), ρ' = [some (dRul r), some (dEn x), some (dEn y), some (.list [dEn u, dEn v0]), some (.bool same), some (dSides mine), some (dSides its), some (dFr e'), some (.int (if i then 1 else 0)), o9, o10, o11, none, none] ∧ Lg e' ∧ e' = (its.take m).foldl (fun e j => qmax e (pickFar same u v0 i j)) e) ⟨e, o9, o10, o11, rfl, he, rfl⟩ ?_ ?_ (nd := sc_picked_entry.nd)
      · rintro m d ρ' hm ⟨e', o9, o10, o11, rfl, he', hq'⟩
        obtain ⟨j, hj, rfl⟩ := side_at hm
        have hf : Lg (pickFar same u v0 i j) := pickFar_Lg (hEB i) (hEB j)
        refine pds_set 10 (d := .bool (same || i == j)) (pd_is (pd_or (pd_var 4) fun _ => (pd_one (pd_cmp (qc_eqI (pd_var 8) (pd_var 9))))) (by cases i <;> cases j <;> rfl)) ?_ sc_picked_entry.nd
        refine pds_set 11 (d := dFr (pickFar same u v0 i j)) (pd_is (pd_ite (pdt_val (pd_var 10)) (fun h => pd_ixT (pd_ixL (pd_var 3) (pd_var 8) (hsel i)) pd_int) (fun h => pd_call c_apart (hr.mono (by decide)) (pda_cons (pd_call c_rounded_part (hr.mono (by decide)) (pda_cons (pd_ixL (pd_var 3) (pd_var 8) (hsel i)) pda_nil) ⟨_, rfl, rfl⟩) (pda_cons (pd_call c_true_part (hr.mono (by decide)) (pda_cons (pd_ixL (pd_var 3) (pd_var 9) (hsel j)) pda_nil) ⟨_, rfl, rfl⟩) pda_nil)) ⟨(selE u v0 i).rp, (selE u v0 j).tp, rfl, ⟨(hEB i).rp.mono (by decide), (hEB j).tp.mono (by decide)⟩, rfl⟩)) (by unfold pickFar; cases (same || i == j) <;> rfl)) ?_ sc_picked_entry.nd
        refine pds_set 7 (pd_call c_greater (hr.mono (by decide)) (pda_cons (pd_var 7) (pda_cons (pd_var 11) pda_nil)) ⟨e', pickFar same u v0 i j, rfl, ⟨he', hf⟩, rfl⟩) (pds_nil ?_) sc_picked_entry.nd
        refine ⟨_, _, _, _, rfl, Bt_qmax he' hf, ?_⟩
        rw [List.take_add_one, hj, List.foldl_append, ← hq']
        rfl
      · rintro ρ' ⟨e', o9, o10, o11, rfl, he', hq'⟩
        rw [List.length_map, List.take_length] at hq'
        refine pds_nil ⟨e', _, o9, o10, o11, rfl, he', ?_⟩
        rw [List.take_add_one, hi, List.foldl_append, ← hq]
        exact hq'
    · rintro ρ' ⟨e, o8, o9, o10, o11, rfl, he, hq⟩
      rw [List.length_map, List.take_length] at hq
      have hm := hEB (mine.headD false)
      have hm2 := hEB (mine.getLastD false)
      have ht := hEB (its.headD false)
      have ht2 := hEB (its.getLastD false)
      refine pds_set 12 (pd_call c_hull (hr.mono (by decide)) (pda_cons (pd_call c_rounded_part (hr.mono (by decide)) (pda_cons (pd_ixL (pd_var 3) (pd_ixT (pd_var 5) pd_int (side_head nm)) (hsel _)) pda_nil) ⟨_, rfl, rfl⟩) (pda_cons (pd_call c_rounded_part (hr.mono (by decide)) (pda_cons (pd_ixL (pd_var 3) (pd_ixT (pd_var 5) (pd_neg pd_int) (side_last nm)) (hsel _)) pda_nil) ⟨_, rfl, rfl⟩) pda_nil)) ⟨_, _, rfl, ⟨hm.rp.mono (by decide), hm2.rp.mono (by decide)⟩, rfl⟩) ?_ sc_picked_entry.nd
      refine pds_set 13 (pd_call c_hull (hr.mono (by decide)) (pda_cons (pd_call c_true_part (hr.mono (by decide)) (pda_cons (pd_ixL (pd_var 3) (pd_ixT (pd_var 6) pd_int (side_head ni)) (hsel _)) pda_nil) ⟨_, rfl, rfl⟩) (pda_cons (pd_call c_true_part (hr.mono (by decide)) (pda_cons (pd_ixL (pd_var 3) (pd_ixT (pd_var 6) (pd_neg pd_int) (side_last ni)) (hsel _)) pda_nil) ⟨_, rfl, rfl⟩) pda_nil)) ⟨_, _, rfl, ⟨ht.tp.mono (by decide), ht2.tp.mono (by decide)⟩, rfl⟩) ?_ sc_picked_entry.nd
      have eE : pickE r same x y u v0 = lastE r (hullS (selE u v0 (mine.headD false)).rp (selE u v0 (mine.getLastD false)).rp) (hullS (selE u v0 (its.headD false)).tp (selE u v0 (its.getLastD false)).tp) e (lessG (selE u v0 (mine.headD false)).gr (selE u v0 (mine.getLastD false)).gr) := by
        rw [hmine, hits] at hq ⊢
        rw [hq]
        rfl
      rw [eE] at ng ⊢
      exact pds_ret (pd_call c_last_entry (hr.mono (by decide)) (pda_cons (pd_var 0) (pda_cons (pd_var 12) (pda_cons (pd_var 13) (pda_cons (pd_var 7) (pda_cons (pd_call c_less_grain (hr.mono (by decide)) (pda_cons (pd_ixT (pd_ixL (pd_var 3) (pd_ixT (pd_var 5) pd_int (side_head nm)) (hsel _)) pd_int) (pda_cons (pd_ixT (pd_ixL (pd_var 3) (pd_ixT (pd_var 5) (pd_neg pd_int) (side_last nm)) (hsel _)) pd_int) pda_nil)) ⟨(selE u v0 (mine.headD false)).gr, (selE u v0 (mine.getLastD false)).gr, rfl, rfl⟩) pda_nil))))) ⟨r, _, _, e, _, rfl, ⟨v, (SB_hull hm.rp hm2.rp).mono (by decide), (SB_hull ht.tp ht2.tp).mono (by decide), he, ng⟩, rfl⟩) rfl
end
end Rs
end

section
set_option Elab.async false
set_option linter.all false
set_option maxRecDepth 100000
set_option maxHeartbeats 4000000
namespace Rs
open PySem PySem.Spec L2
/-! ### the class NoPaper -/
/-- what the top has left of the classes: C the class NoPaper, R0 RoundError, fI NoPaper's own __init__ -/
structure NopT (K : PySem.W.Frag) (mg : Str → Option Value) (C R0 fI : Addr) : Prop where
  oex : OexC K C
  gC : mg "NoPaper" = some (.ref C)
  gR : mg "RoundError" = some (.ref R0)
  iC : PySem.W.findIn K (.ref C) "__init__" = some (some (.ref fI))
  tI : PySem.W.typeIn K (.ref fI) = some (.type "function")
  no : PySem.W.findIn K (.ref C) "row" = some none
  sR : PySem.W.specialIn K (.ref R0) "__getattribute__" = some (some (.builtin "type.__getattribute__"))
  rR : PySem.W.readsIn K R0 (.type "type") = true
  fR : PySem.W.findCls K (.ref R0) (.type "type") "__init__" = some (.val (.builtin "ValueError.__init__"))
  ex : PySem.W.exmOne K (.ref C) (.ref C) = some true
theorem nop_ok {K : PySem.W.Frag} {h : Heap} {mg : Str → Option Value} (X : K.In h) (G : h.Ns mainGlobals mg) (q : nopB K = true) : NopT K mg (He.ga K "NoPaper") (He.ga K "RoundError") (He.ma K (He.ga K "NoPaper") "__init__") := by
  unfold nopB at q
  obtain ⟨q1, q⟩ := He.ba q
  obtain ⟨q2, q⟩ := He.ba q
  obtain ⟨q3, q⟩ := He.ba q
  obtain ⟨q4, q⟩ := He.ba q
  obtain ⟨q5, q⟩ := He.ba q
  obtain ⟨q6, q⟩ := He.ba q
  obtain ⟨q7, q⟩ := He.ba q
  obtain ⟨q8, q⟩ := He.ba q
  obtain ⟨q9, q⟩ := He.ba q
  obtain ⟨q10, q⟩ := He.ba q
  obtain ⟨q11, q⟩ := He.ba q
  obtain ⟨q12, q⟩ := He.ba q
  obtain ⟨q13, q14⟩ := He.ba q
  refine ⟨⟨?_, He.eqO_ok q2, of_decide_eq_true q3, of_decide_eq_true q4, q5⟩, PySem.W.mg_of X G (He.eqO_ok q6), PySem.W.mg_of X G (He.eqO_ok q7), He.eqO_ok q8, of_decide_eq_true q9, He.eqO_ok q10, He.eqO_ok q11, q12, ?_, of_decide_eq_true q14⟩
  · split at q1
    · rename_i t dd cd sl ho
      split at q1
      · rename_i C' bm k0 k1 k2 k3 n k5 hm hs
        obtain ⟨r1, r⟩ := He.ba q1
        obtain ⟨r2, r⟩ := He.ba r
        obtain ⟨r3, r⟩ := He.ba r
        obtain ⟨r4, r⟩ := He.ba r
        obtain ⟨r5, r6⟩ := He.ba r
        have r1 := of_decide_eq_true r1
        have r2 := of_decide_eq_true r2
        have r3 := of_decide_eq_true r3
        rw [Bool.not_eq_true'] at r4
        subst r1 r2 r3
        obtain ⟨nm, bs, mro, ns, qn, hd, sn, sub, ab, col, del⟩ := cd
        dsimp only at hm r4 r5
        subst hm r4 r5
        have hsl : sl = #[k0, k1, k2, k3, some (.builtin "ValueError.__new__"), k5] := by
          obtain ⟨l⟩ := sl
          simp only at hs
          rw [hs]
        subst hsl
        exact ⟨nm, qn, ns, bs, bm, sn, sub, ab, col, dd, k0, k1, k2, k3, k5, ho, r6⟩
      · cases q1
    · cases q1
  · split at q13
    · rename_i n hn
      rw [hn, of_decide_eq_true q13]
    · cases q13
section
variable {X : Cx} {e : Expr} {es : List Expr} {ta : TA} {p1 p2 pos : Pos} {C R0 fI : Addr}
/-- RoundError.__init__(self, ..) -/
theorem pe_reinit {pl : Sem Bool} (N : NopT X.K X.mg C R0 fI) (hg : Gl X "RoundError") (ha : PA X (e :: es) ta)
    (hc : eval (.Call (.Attribute (.Name "RoundError" p1) "__init__" p2) (e :: es) [] pos) X.env = (do
      let ov ← eval (.Name "RoundError" p1) X.env
      standAt p2.atName
      let (f, first) ← holding [ov] (getMethod ov "__init__" pl)
      callWith pos f first (backTo pos (starEach (e :: es) X.env)) (backToKw pos (keywordEach [] X.env))) := by rfl)
    (he : starEach (e :: es) X.env = (false, eval e X.env) :: starEach es X.env := by rfl) (hpl : (backTo pos (starEach es X.env)).any (·.1) = false := by rfl) :
    PE X (.Call (.Attribute (.Name "RoundError" p1) "__init__" p2) (e :: es) [] pos) (tVeI X.K ta) := by
  refine ⟨fun pins s σ H Q I h => ?_⟩
  refine PySem.W.methodCall_KW (ld_glob I hg N.gR ?_ (by decide)) hc
  refine PySem.W.method_cls I.kIn N.sR ?_
  refine PySem.W.cls_value I.kIn N.rR N.fR (by decide +kernel) ?_
  show wpAny _ _ (callWith pos (Value.builtin "ValueError.__init__") [] (backTo pos (starEach (e :: es) X.env)) []) _ _ _
  refine PyProof.Rows.callWith_method1 (thn (ha.run pos pins _ σ H _ (I.tok _) h) fun us s1 ⟨vs, H1, I1, r1, a, C, ws, ev, hl, T, ea, q⟩ => ?_) he hpl
  subst ev
  cases r1 with
  | @cons _ u0 _ ur ra rw' =>
    obtain rfl : u0 = Value.ref a := ra
    have hlen : ur.length ≤ sizeLine := by
      rw [← Paired.length rw', sizeLine_eq]
      omega
    exact oinit_ok T I1 ea hlen fun s' J => ⟨.non, H1, J, rfl, q⟩
end
/-- NoPaper.__init__(self, row) -/
def spNop (C : Addr) : Sp := fun vs H Q _ => ∃ (a : Addr) (n : Int), vs = [.ref a, .int n] ∧ H a = some (exo a C none) ∧
  ∀ dx, H dx = none → dx ≠ a → Q .non (upd (upd H dx (exd dx [("row", .int n)])) a (exo a C (some dx)))
section
variable {P : Program} {w : World} {K : PySem.W.Frag} {mg : Str → Option Value} {base : Heap} {C R0 fI : Addr} {fd : FuncData}
theorem sc_nop : FnScope ["self", "row"] ["self", "row"] (defScope sNop) := ⟨rfl, rfl, rfl, by decide +kernel, rfl, by decide +kernel, by decide +kernel⟩
theorem ok_nop (N : NopT K mg C R0 fI) (F : FunD K "__init__" "NoPaper.__init__" (defArgs sNop) (defBody sNop) (defScope sNop) [] [] fI fd) : FnOk P w K mg base CX0 1 fI fd ["self", "row"] (spNop C) := by
  refine F.ok sc_nop (fun vs H Q E h => ?_) (fun cdv A outer s H vs Q E hr h => ?_)
  · obtain ⟨a, n, rfl, _⟩ := h
    rfl
  · obtain ⟨a, n, rfl, ha, k⟩ := h
    refine ⟨_, PSs.nox (pss_cons (ps_expr (pe_reinit N rfl (pa_cons (pv 0) (pa_cons pe_str pa_nil)))) (pss_one (ps_ost (pv 0) (pv 1)))), ?_⟩
    refine ⟨_, rfl, a, C, _, rfl, (by decide), N.oex, ha, _, rfl, _, rfl, a, C, rfl, N.oex, N.no, .inl ⟨ha, fun dx h1 h2 => k dx h1 h2⟩⟩
theorem bd_nop (F : FunD K "__init__" "NoPaper.__init__" (defArgs sNop) (defBody sNop) (defScope sNop) [] [] fI fd) : Binds K fd ["self", "row"] [] := F.bindsN fun _ _ _ _ _ _ us hl => match us, hl with | [_, _], _ => rfl
end
/-! ### quotient_entry: an entry, or NoPaper -/
def spQ (K : PySem.W.Frag) (C : Addr) : Sp := fun vs H Q E => ∃ (F : Hp) (r : Rul) (x y : Ent) (n : Int), Same F H ∧ DpAll K F vs [dRul r, dEn x, dEn y, .int n] ∧ (VR r ∧ EB x ∧ EB y ∧ ∀ e, quotE r x y = some e → NGE e) ∧
  (∀ e, quotE r x y = some e → ∀ v F' H', Step F H F' H' → Dp K F' v (dEn e) → Q v H') ∧ (quotE r x y = none → ∀ d H', Same H H' → E (.ref C) (some d) H')
end Rs
end

section
set_option Elab.async false
set_option linter.all false
set_option maxRecDepth 100000
set_option maxHeartbeats 4000000
namespace Rs
open PySem PySem.Spec L2
/-! ### raw steps: statements read at a state, F the unchanging part -/
section
variable {X : Cx} {e c elt it : Expr} {body orelse rest : List Stmt} {st : Stmt} {pos p : Pos} {ρ : DEnv} {σ : St} {F H : Hp} {Dn : Ends} {d : D}
/-- a step of the calculus, then raw -/
theorem us_seq {N1 : DEnv → Prop} {R : D → Prop} (h : PD1 X st ρ N1 R) (hE : EnvOk X.K F ρ σ H) (k : ∀ ρ' σ' F' H', N1 ρ' → Step F H F' H' → EnvOk X.K F' ρ' σ' H' → US X rest Dn σ' H')
    (kr : ∀ d v F' H', R d → Step F H F' H' → Dp X.K F' v d → Dn.rt v H') : US X (st :: rest) Dn σ H :=
  ⟨_, pss_cons ps_u pss_u, h F σ H _ hE (fun ρ' σ' F' H' n s e => k ρ' σ' F' H' n s e) kr⟩
theorem us_set (i : Nat) {x : Str} (he : PD X e ρ d) (hE : EnvOk X.K F ρ σ H) (k : ∀ v F' H', Step F H F' H' → Dp X.K F' v d → EnvOk X.K F' (ρ.set i (some d)) (σ.set i (some v)) H' → US X rest Dn (σ.set i (some v)) H') (nd : X.N.Nodup) (hi : X.N[i]? = some x := by rfl) (hx : Loc X.env.scope x := by first | exact Or.inl rfl | exact Or.inr rfl)
    (hs : swapsWith e (some (.Name x p)) pos.line X.env = pure false := by rfl) (hf : X.fn x = true ∨ X.env.scope.names.lookup x = some .local := by first | exact .inl rfl | exact .inr rfl) : US X (.Assign [.Name x p] e pos :: rest) Dn σ H :=
  ⟨_, pss_cons (ps_set nd hi hx pe_u hs hf) pss_u, he F σ H _ hE fun v F1 H1 s1 h1 => k v F1 H1 s1 h1 ((hE.step s1).set i h1)⟩
theorem us_ifR {b' : Bool} (hc : PDT X c ρ b') (hE : EnvOk X.K F ρ σ H) (h1 : b' = true → ∀ F' H', Step F H F' H' → EnvOk X.K F' ρ σ H' → US X body { Dn with nx := US X rest Dn } σ H')
    (h2 : b' = false → ∀ F' H', Step F H F' H' → EnvOk X.K F' ρ σ H' → US X rest Dn σ H') : US X (.If c body [] pos :: rest) Dn σ H :=
  ⟨_, pss_cons (ps_if pt_u pss_u pss_nil) pss_u, hc F σ H _ hE fun F1 H1 s1 => by
    have e1 := hE.step s1
    cases b' with
    | true => exact h1 rfl F1 H1 s1 e1
    | false => exact h2 rfl F1 H1 s1 e1⟩
/-- an if with else, what follows behind -/
theorem us_if {b' : Bool} (hc : PDT X c ρ b') (hE : EnvOk X.K F ρ σ H) (h1 : b' = true → ∀ F' H', Step F H F' H' → EnvOk X.K F' ρ σ H' → US X body { Dn with nx := US X rest Dn } σ H')
    (h2 : b' = false → ∀ F' H', Step F H F' H' → EnvOk X.K F' ρ σ H' → US X orelse { Dn with nx := US X rest Dn } σ H') : US X (.If c body orelse pos :: rest) Dn σ H :=
  ⟨_, pss_cons (ps_if pt_u pss_u pss_u) pss_u, hc F σ H _ hE fun F1 H1 s1 => by
    have e1 := hE.step s1
    cases b' with
    | true => exact h1 rfl F1 H1 s1 e1
    | false => exact h2 rfl F1 H1 s1 e1⟩
theorem us_ret (he : PD X e ρ d) (hE : EnvOk X.K F ρ σ H) (k : ∀ v F' H', Step F H F' H' → Dp X.K F' v d → Dn.rt v H') : US X [.Return (some e) pos] Dn σ H := ⟨_, pss_one (ps_ret pe_u), he F σ H _ hE k⟩
/-- all that is left by the calculus -/
theorem us_all {sts : List Stmt} {N1 : DEnv → Prop} {R : D → Prop} (h : PDs X sts ρ N1 R) (hE : EnvOk X.K F ρ σ H) (k : ∀ ρ' σ' F' H', N1 ρ' → Step F H F' H' → EnvOk X.K F' ρ' σ' H' → Dn.nx σ' H')
    (kr : ∀ d v F' H', R d → Step F H F' H' → Dp X.K F' v d → Dn.rt v H') : US X sts Dn σ H := h F σ H Dn hE k kr
theorem us_nil (h : Dn.nx σ H) : US X [] Dn σ H := ⟨_, pss_nil, h⟩
/-- y = [elt for x in t], t a tuple of data; the elements read what G tells -/
theorem us_setLcT (i j : Nat) {x y : Str} {xs : List D} {scope : Scope} {te : TE} {py : Pos} {spos : Pos} (f : D → D) (G : Hp → Hp → Prop) (hi : PD X it ρ (.tuple xs)) (hE : EnvOk X.K F ρ σ H) (hG : G F H) (g1 : ∀ {F H F' H'}, G F H → Step F H F' H' → G F' H')
    (g2 : ∀ {F1 H1 F H : Hp} {D0 : Addr} {o : HO}, G F1 H1 → H1 D0 = none → G F H → G F (upd H D0 o)) (hz : xs.length < sizeLine) (hρ : ρ[j]? = some none) (nd : X.N.Nodup) (ok : BlkOk X.N X.env.scope scope [(x, j)])
    (hg : ∀ (s : Shared) (H : Hp) (C : Addr) (cl : List (Str × Addr)) (fp : List Addr), PG (Blk X scope s H C cl fp) (.Name x p) (gName j))
    (he : ∀ (s : Shared) (H : Hp) (C : Addr) (cl : List (Str × Addr)) (fp : List Addr), PE (Blk X scope s H C cl fp) elt te)
    (hv : ∀ d ∈ xs, ∀ (F' : Hp) (σ' : St) (H' : Hp) (Q : VK), σ'.length = σ.length → (∀ k, k ≠ j → σ'[k]? = σ[k]?) → EnvOk X.K F' (ρ.set j (some d)) σ' H' → G F' H' → (∀ v F2 H2, Step F' H' F2 H2 → Dp X.K F2 v (f d) → Q v H2) → te σ' H' Q)
    (k : ∀ v F' H', Step F H F' H' → G F' H' → Dp X.K F' v (.list (xs.map f)) → EnvOk X.K F' (ρ.set i (some (.list (xs.map f)))) (σ.set i (some v)) H' → US X rest Dn (σ.set i (some v)) H')
    (hy : X.N[i]? = some y) (hyl : X.env.scope.names.lookup y = some .local) (hsw : swapsWith (.ListComp elt [⟨.Name x p, it, [], 0⟩] scope pos) (some (.Name y py)) spos.line X.env = pure true)
    (hc : X.calm = true := by rfl) (hs : ∀ v, foldedSetIterable it X.env v = pure v := by intro _; rfl) : US X (.Assign [.Name y py] (.ListComp elt [⟨.Name x p, it, [], 0⟩] scope pos) spos :: rest) Dn σ H := by
  refine ⟨_, pss_cons (ps_setLc (i := i) (own := [(x, j)]) (g := gName j) (tt := tYes) hc nd hy hyl hsw (pi_tup pe_u) ok hg (fun _ _ _ _ _ => pts_nil) he hs) pss_u, ?_⟩
  refine hi F σ H _ hE fun v F1 H1 s1 h1 => ?_
  obtain ⟨l, ys, rfl, hq, ha⟩ := dp_tup h1
  have e1 := hE.step s1
  have hG1 := g1 hG s1
  refine ⟨l, rfl, ⟨ys, Same.sqt s1.fh hq⟩, fun D0 hD => ?_⟩
  refine lc_tup (xs := ys) (fun n H' => ∃ F' acc, LcI X.K F1 H1 ρ σ D0 ((xs.take n).map f) H' F' acc ∧ G F' H') ⟨F1, [], LcI.start e1 hD, g2 hG1 hD hG1⟩ (fun n H' _ ⟨F', acc, I, _⟩ => Same.sqt (I.ff.trans I.env.fh) hq) ?_ ?_
  · rintro n y0 H' hy0 ⟨F', acc, I, hG'⟩
    refine ⟨wipe1, ?_⟩
    unfold tYes
    dsimp only
    rw [if_pos rfl]
    obtain ⟨d, hd, hdp⟩ := dpa_getV ha hy0
    have hmem : d ∈ xs := List.mem_of_getElem? hd
    have eb : EnvOk X.K F' (ρ.set j (some d)) ((wipe σ [j]).set j (some y0)) H' := (I.env.wipe [j] (fun m hm d' hd' => by
      have : m = j := by simpa using hm
      subst this
      rw [hρ] at hd'
      cases hd')).set j (dp_mono I.ff hdp)
    refine hv d hmem F' _ H' _ (by rw [List.length_set, wipe_length]) (fun m hm => ?_) eb hG' fun v F2 H2 s2 g2' => ?_
    · rw [List.getElem?_set_ne (Ne.symm hm)]
      show (σ.set j none)[m]? = σ[m]?
      rw [List.getElem?_set_ne (Ne.symm hm)]
    · obtain ⟨q1, q2⟩ := I.turn hD s2 g2'
      refine ⟨acc, q1, ?_, F2, acc ++ [v], ?_, g2 hG1 hD (g1 hG' s2)⟩
      · have := dpa_len I.all
        rw [this, List.length_map, List.length_take]
        exact Nat.lt_of_le_of_lt (Nat.min_le_right _ _) hz
      · rw [List.take_add_one, hd, List.map_append]
        exact q2
  · rintro H' ⟨F', acc, I, hG'⟩
    rw [dpa_len ha, List.take_length] at I
    obtain ⟨q1, q2⟩ := I.done hD
    refine k _ _ H' (s1.trans q1) ?_ q2 ((hE.step (s1.trans q1)).set i q2)
    have z := g1 hG1 q1
    exact z
/-- raise X(e, ..) -/
theorem us_raise {W : WX} {t : St → Hp → XK → Prop} (hc : X.calm = true) (tk : Takes X W) (he : PMk X e t) (q : t σ H fun cls d H' => W cls d σ H') : US X [.Raise (some e) none pos] Dn σ H := ⟨_, pss_one (ps_raise hc tk he), q⟩
end
/-- a def that may raise -/
structure CalX (P : Program) (w : World) (K : PySem.W.Frag) (mg : Str → Option Value) (base : Heap) (x : Str) (k : Nat) (ps : List Str) (sp : Sp) : Prop where
  ex : ∃ f fd, mg x = some (.ref f) ∧ FnOk P w K mg base (L2.CX P w) k f fd ps sp ∧ PySem.W.keepIn K (.ref f) = true ∧ Binds K fd ps []
/-- the dict at a, outside F; what it holds is told by T of F -/
structure OwnD (a : Addr) (kvs : List (Key × V)) (T : Hp → Prop) (F H : Hp) : Prop where
  out : F a = none
  at_ : H a = some (.dK kvs)
  tell : T F
theorem OwnD.step {a : Addr} {kvs : List (Key × V)} {T : Hp → Prop} {F H F' H' : Hp} (m : ∀ {F F' : Hp}, Same F F' → T F → T F') (g : OwnD a kvs T F H) (s : Step F H F' H') : OwnD a kvs T F' H' :=
  let ⟨h1, h2⟩ := s.own g.at_ g.out
  ⟨h2, h1, m s.ff g.tell⟩
theorem OwnD.upd {a : Addr} {kvs : List (Key × V)} {T : Hp → Prop} {F1 H1 F H : Hp} {D0 : Addr} {o : HO} (g1 : OwnD a kvs T F1 H1) (h : H1 D0 = none) (g : OwnD a kvs T F H) : OwnD a kvs T F (L2.upd H D0 o) :=
  ⟨g.out, by rw [upd_ne (ne_of_none g1.at_ h)]; exact g.at_, g.tell⟩
end Rs
end

section
set_option Elab.async false
set_option linter.all false
set_option maxRecDepth 100000
set_option maxHeartbeats 8000000
namespace Rs
open PySem PySem.Spec L2
theorem NGE_imp {x y : Ent} (h : x = y) (k : NGE x) : NGE y := h ▸ k
theorem small_ne {t : Span} (h : hasS t 0 = false) (hle : t.1 ≤ t.2) : smallSz t ≠ 0 := by
  obtain ⟨n1, n2⟩ := hasS_ne h hle
  unfold smallSz
  rw [h]
  show qmin (qabs t.1) (qabs t.2) ≠ 0
  unfold qmin
  split
  · unfold qabs
    split <;> grind
  · unfold qabs
    split <;> grind
section
variable {P : Program} {w : World} {K : PySem.W.Frag} {mg : Str → Option Value} {base : Heap} {C R0 fI : Addr} {fdI : FuncData}
theorem sc_quotient_entry : FnScope ["ruler", "one", "other", "row", "span", "true", "err"] ["ruler", "one", "other", "row"] (defScope (top 61)) := ⟨rfl, rfl, rfl, by decide +kernel, rfl, by decide +kernel, by decide +kernel⟩
theorem cal_quotient_entry (T : Frees mg) (Co : Consts K mg) (NT : NopT K mg C R0 fI) (FI : FunD K "__init__" "NoPaper.__init__" (defArgs sNop) (defBody sNop) (defScope sNop) [] [] fI fdI) (D0 : DefAt K mg "quotient_entry" 61) (c_plus : Cal P w K mg base "plus" 3 ["one", "other"] (spP K R_plus)) (c_times : Cal P w K mg base "times" 3 ["one", "other"] (spP K R_times)) (c_over : Cal P w K mg base "over" 3 ["one", "other"] (spP K R_over)) (c_has : Cal P w K mg base "has" 2 ["span", "number"] (spP K R_has)) (c_over_spans : Cal P w K mg base "over_spans" 4 ["one", "other"] (spP K R_over_spans)) (c_great_size : Cal P w K mg base "great_size" 3 ["span"] (spP K R_great_size)) (c_small_size : Cal P w K mg base "small_size" 3 ["span"] (spP K R_small_size)) (c_rounded_part : Cal P w K mg base "rounded_part" 1 ["entry"] (spP K R_rounded_part)) (c_true_part : Cal P w K mg base "true_part" 1 ["entry"] (spP K R_true_part)) (c_rounded_entry : Cal P w K mg base "rounded_entry" 8 ["ruler", "span", "trues", "err", "grain"] (spP K R_rounded_entry)) : CalX P w K mg base "quotient_entry" 9 ["ruler", "one", "other", "row"] (spQ K C) := by
  obtain ⟨f, fd, hm, F⟩ := D0
  refine ⟨f, fd, hm, ?_, F.kp, F.bindsN fun _ _ _ _ _ _ us hl => match us, hl with | [_, _, _, _], _ => rfl⟩
  have FN : FnOk P w K mg base CX0 1 fI fdI ["self", "row"] (spNop C) := ok_nop NT FI
  refine F.ok (k := 8) sc_quotient_entry (fun vs H Q E h => ?_) (fun cdv A outer s H vs Q E hr h => ?_)
  · obtain ⟨F0, r, x, y, n, _, hd, _⟩ := h
    exact dpa_len hd
  · obtain ⟨F0, r, x, y, n, h0, hd, ⟨v, hx, hy, ng⟩, kq, ke⟩ := h
    have e0 := env_start (N := ["ruler", "one", "other", "row", "span", "true", "err"]) h0 hd
    have z1 : Lg 0 := Bt.zero.mono (by decide)
    refine ⟨_, pss_u, ?_⟩
    refine us_ifR (b' := hasS y.rp 0 || hasS y.tp 0) (pdw (pdw_or (pdt_val (pd_call c_has (hr.mono (by decide)) (pda_cons (pd_call c_rounded_part (hr.mono (by decide)) (pda_cons (pd_var 2) pda_nil) ⟨y, rfl, rfl⟩) (pda_cons (pd_nought Co) pda_nil)) ⟨y.rp, 0, rfl, ⟨hy.rp.mono (by decide), z1⟩, rfl⟩)) fun _ => (pdw_or1 (pdt_val (pd_call c_has (hr.mono (by decide)) (pda_cons (pd_call c_true_part (hr.mono (by decide)) (pda_cons (pd_var 2) pda_nil) ⟨y, rfl, rfl⟩) (pda_cons (pd_nought Co) pda_nil)) ⟨y.tp, 0, rfl, ⟨hy.tp.mono (by decide), z1⟩, rfl⟩))))) e0 (fun hb F1 H1 s1 e1 => ?_) (fun hb F1 H1 s1 e1 => ?_)
    · have hn : quotE r x y = none := by
        unfold quotE
        rw [hb]
        rfl
      refine us_raise rfl (takes_of rfl rfl rfl rfl) (pmk_oex NT.oex NT.iC NT.tI FN (hr.mono (by decide)) (bd_nop FI) .nil pass0 rfl NT.gC (pa_cons (pv 3) pa_nil)) ?_
      obtain ⟨v3, h3, d3⟩ := e1.at_ 3 (.int n) rfl
      have h3' := dp_int d3
      subst h3'
      refine ⟨_, h3, (by show 1 ≤ 1000; decide), fun a ha => ⟨a, n, rfl, upd_same, fun dx hdx hne => ?_⟩⟩
      have hdx' : H1 dx = none := by
        rw [upd_ne hne] at hdx
        exact hdx
      refine ⟨rfl, dx, [("row", .int n)], upd_same, ?_, hdx', ?_⟩
      · rw [upd_ne hne]
        exact upd_same
      · refine ke hn dx _ fun b o hb => ?_
        have hb1 := s1.hh b o hb
        have na : b ≠ a := ne_of_none hb1 ha
        have nd : b ≠ dx := ne_of_none hb1 hdx'
        rw [upd_ne nd, del_ne na, upd_ne na, upd_ne nd, upd_ne na]
        exact hb1
    · obtain ⟨b1, b2⟩ := Bool.or_eq_false_iff.mp hb
      have n1 := small_ne (t := y.tp) b2 hy.lt
      obtain ⟨m1, m2⟩ := hasS_ne (t := y.rp) b1 hy.lr
      obtain ⟨m3, m4⟩ := hasS_ne (t := y.tp) b2 hy.lt
      have so := SB_over hx.rp hy.rp m1 m2
      have to := SB_over hx.tp hy.tp m3 m4
      have g1 := Bt_great so.a so.b
      have g2 := Bt_small hy.tp.a hy.tp.b (by decide)
      have p1 := g1.mul hy.err
      have p2 := p1.add hx.err
      have p3 := p2.div g2 n1
      have hq : quotE r x y = some (roundE r (overS x.rp y.rp) (overS x.tp y.tp) ((greatSz (overS x.rp y.rp) * y.err + x.err) / smallSz y.tp) none) := by
        unfold quotE
        rw [hb]
        rfl
      have ng1 := ng _ hq
      refine us_all (N1 := fun _ => False) (R := (· = dEn (roundE r (overS x.rp y.rp) (overS x.tp y.tp) ((greatSz (overS x.rp y.rp) * y.err + x.err) / smallSz y.tp) none))) ?_ e1 (fun _ _ _ _ z => z.elim) (fun d v F2 H2 hd s2 dp => ?_)
      · refine pds_set 4 (pd_call c_over_spans (hr.mono (by decide)) (pda_cons (pd_call c_rounded_part (hr.mono (by decide)) (pda_cons (pd_var 1) pda_nil) ⟨x, rfl, rfl⟩) (pda_cons (pd_call c_rounded_part (hr.mono (by decide)) (pda_cons (pd_var 2) pda_nil) ⟨y, rfl, rfl⟩) pda_nil)) ⟨x.rp, y.rp, rfl, ⟨⟨hx.rp.mono (by decide), hy.rp.mono (by decide)⟩, b1, hy.lr⟩, rfl⟩) ?_ sc_quotient_entry.nd
        refine pds_set 5 (pd_call c_over_spans (hr.mono (by decide)) (pda_cons (pd_call c_true_part (hr.mono (by decide)) (pda_cons (pd_var 1) pda_nil) ⟨x, rfl, rfl⟩) (pda_cons (pd_call c_true_part (hr.mono (by decide)) (pda_cons (pd_var 2) pda_nil) ⟨y, rfl, rfl⟩) pda_nil)) ⟨x.tp, y.tp, rfl, ⟨⟨hx.tp.mono (by decide), hy.tp.mono (by decide)⟩, b2, hy.lt⟩, rfl⟩) ?_ sc_quotient_entry.nd
        refine pds_set 6 (pd_call c_over (hr.mono (by decide)) (pda_cons (pd_call c_plus (hr.mono (by decide)) (pda_cons (pd_call c_times (hr.mono (by decide)) (pda_cons (pd_call c_great_size (hr.mono (by decide)) (pda_cons (pd_var 4) pda_nil) ⟨overS x.rp y.rp, rfl, so.mono (by decide), rfl⟩) (pda_cons (pd_ixT (pd_var 2) pd_int) pda_nil)) ⟨_, y.err, rfl, ⟨g1.mono (by decide), hy.err.mono (by decide)⟩, rfl⟩) (pda_cons (pd_ixT (pd_var 1) pd_int) pda_nil)) ⟨_, x.err, rfl, ⟨p1.mono (by decide), hx.err.mono (by decide)⟩, rfl⟩) (pda_cons (pd_call c_small_size (hr.mono (by decide)) (pda_cons (pd_call c_true_part (hr.mono (by decide)) (pda_cons (pd_var 2) pda_nil) ⟨y, rfl, rfl⟩) pda_nil) ⟨y.tp, rfl, hy.tp.mono (by decide), rfl⟩) pda_nil)) ⟨_, smallSz y.tp, rfl, ⟨p2.mono (by decide), g2.mono (by decide), n1⟩, rfl⟩) ?_ sc_quotient_entry.nd
        refine pds_ret (pd_call c_rounded_entry hr (pda_cons (pd_var 0) (pda_cons (pd_var 4) (pda_cons (pd_var 5) (pda_cons (pd_var 6) (pda_cons pd_non pda_nil))))) ⟨r, overS x.rp y.rp, overS x.tp y.tp, _, none, rfl, ⟨v, so.mono (by decide), to.mono (by decide), p3.mono (by decide), (fun _ z => by cases z), ng1⟩, rfl⟩) rfl
      · subst hd
        exact kq _ hq v F2 H2 (s1.trans s2) dp
end
end Rs
end

section
set_option Elab.async false
set_option linter.all false
set_option maxRecDepth 100000
set_option maxHeartbeats 8000000
namespace Rs
open PySem PySem.Spec L2
/-! ### a dict of names, read -/
/-- what the dict tells of the names ns: g of each -/
def Tell (K : PySem.W.Frag) (kvs : List (Key × V)) (ns : List Str) (g : Str → D) (F : Hp) : Prop := ∀ n ∈ ns, ∃ v, valV kvs (.inr n) = some v ∧ Dp K F v (g n)
theorem Tell.mono {K : PySem.W.Frag} {kvs : List (Key × V)} {ns : List Str} {g : Str → D} {F F' : Hp} (s : Same F F') (h : Tell K kvs ns g F) : Tell K kvs ns g F' := fun n hn => let ⟨v, h1, h2⟩ := h n hn; ⟨v, h1, dp_mono s h2⟩
def asStr : D → Str
  | .str s => s
  | _ => ""
section
variable {X : Cx} {it : Expr} {rest : List Stmt} {pos p p1 p2 p3 : Pos} {ρ : DEnv} {σ : St} {F H : Hp} {Dn : Ends}
/-- y = [known[x] for x in it] -/
theorem us_known (i j kn : Nat) {x y z : Str} {ns : List Str} {g : Str → D} {a : Addr} {kvs : List (Key × V)} {scope : Scope} {py : Pos} {spos : Pos} (hu : X.A.units + 1 < cLine) (hE : EnvOk X.K F ρ σ H) (hi : PD X it ρ (.tuple (ns.map .str))) (hG : OwnD a kvs (Tell X.K kvs ns g) F H)
    (hσ : σ[kn]? = some (some (.ref a))) (hj : j ≠ kn) (hρ : ρ[j]? = some none) (nd : X.N.Nodup) (ok : BlkOk X.N X.env.scope scope [(x, j)])
    (hg : ∀ (s : Shared) (H : Hp) (C : Addr) (cl : List (Str × Addr)) (fp : List Addr), PG (Blk X scope s H C cl fp) (.Name x p) (gName j))
    (he : ∀ (s : Shared) (H : Hp) (C : Addr) (cl : List (Str × Addr)) (fp : List Addr), PE (Blk X scope s H C cl fp) (.Subscript (.Name z p1) (.Name x p2) p3) (tDGet (tVar kn) (tVar j)))
    (k : ∀ v F' H', Step F H F' H' → OwnD a kvs (Tell X.K kvs ns g) F' H' → Dp X.K F' v (.list (ns.map g)) → EnvOk X.K F' (ρ.set i (some (.list (ns.map g)))) (σ.set i (some v)) H' → US X rest Dn (σ.set i (some v)) H')
    (hz : ns.length < sizeLine) (hy : X.N[i]? = some y) (hyl : X.env.scope.names.lookup y = some .local) (hsw : swapsWith (.ListComp (.Subscript (.Name z p1) (.Name x p2) p3) [⟨.Name x p, it, [], 0⟩] scope pos) (some (.Name y py)) spos.line X.env = pure true)
    (hc : X.calm = true := by rfl) (hs : ∀ v, foldedSetIterable it X.env v = pure v := by intro _; rfl) : US X (.Assign [.Name y py] (.ListComp (.Subscript (.Name z p1) (.Name x p2) p3) [⟨.Name x p, it, [], 0⟩] scope pos) spos :: rest) Dn σ H := by
  have hm : (ns.map PyData.str).map (fun d => g (asStr d)) = ns.map g := by
    rw [List.map_map]
    rfl
  refine us_setLcT i j (fun d => g (asStr d)) (OwnD a kvs (Tell X.K kvs ns g)) hi hE hG (fun q s => q.step Tell.mono s) (fun g1 h g2 => OwnD.upd g1 h g2) (by simpa using hz) hρ nd ok hg he (fun d hd F' σ' H' Q hl hk he' hG' kq => ?_) (fun v F' H' s1 g1 h1 e1 => ?_) hy hyl hsw hc hs
  · obtain ⟨n, hn, rfl⟩ := List.mem_map.mp hd
    have hjl : j < ρ.length := by
      obtain ⟨h1, _⟩ := List.getElem?_eq_some_iff.mp hρ
      exact h1
    obtain ⟨v0, h1, h2⟩ := he'.at_ j (.str n) (List.getElem?_set_self hjl)
    have h2' := dp_str h2
    subst h2'
    obtain ⟨w, hw1, hw2⟩ := hG'.tell n hn
    refine ⟨_, (hk kn (Ne.symm hj)).trans hσ, _, h1, a, w, rfl, .inl ⟨kvs, .inr n, .inl hG'.at_, rfl, hw1.symm⟩, kq w F' H' (Step.refl he'.fh) hw2⟩
  · rw [hm] at h1 e1
    exact k v F' H' s1 g1 h1 e1
end
/-! ### works as data -/
def chW (b : Bool) : Str := chosW b
@[reducible] def dWk : Wk Str → D
  | .number q => .tuple [.str "number", dFr q]
  | .sum b x y => .tuple [.str (sumW b), .str x, .str y]
  | .times x y => .tuple [.str "times", .str x, .str y]
  | .over x y => .tuple [.str "over", .str x, .str y]
  | .turned x => .tuple [.str "turned", .str x]
  | .size x => .tuple [.str "size", .str x]
  | .chos b x y => .tuple [.str (chosW b), .str x, .str y]
  | .pick x y u v => .tuple [.str "pick", .str x, .str y, .str u, .str v]
def wkNs : Wk Str → List Str
  | .number _ => []
  | .sum _ x y => [x, y]
  | .times x y => [x, y]
  | .over x y => [x, y]
  | .turned x => [x]
  | .size x => [x]
  | .chos _ x y => [x, y]
  | .pick x y u v => [x, y, u, v]
def wkWd : Wk Str → Str
  | .number _ => "number"
  | .sum b _ _ => sumW b
  | .times _ _ => "times"
  | .over _ _ => "over"
  | .turned _ => "turned"
  | .size _ => "size"
  | .chos b _ _ => chosW b
  | .pick _ _ _ _ => "pick"
def spEnt (K : PySem.W.Frag) (C : Addr) : Sp := fun vs H Q E => ∃ (F : Hp) (r : Rul) (wk : Wk Str) (v1 v2 : V) (a : Addr) (n : Int) (kvs : List (Key × V)) (kn : Str → Ent), vs = [v1, v2, .ref a, .int n] ∧ Same F H ∧ Dp K F v1 (dRul r) ∧ Dp K F v2 (dWk wk) ∧
  OwnD a kvs (Tell K kvs (wkNs wk) (fun n => dEn (kn n))) F H ∧ (VR r ∧ (∀ n ∈ wkNs wk, EB (kn n)) ∧ (∀ q, wk = .number q → Bt 700 q) ∧ ∀ e, entOf r kn wk = some e → NGE e) ∧
  (∀ e, entOf r kn wk = some e → ∀ v F' H', Step F H F' H' → Dp K F' v (dEn e) → Q v H') ∧ (entOf r kn wk = none → ∀ d H', Same H H' → E (.ref C) (some d) H')
/-! ### entry_of -/
/-- the slots at a start: some told of, some not -/
inductive DpOs (K : PySem.W.Frag) (F : Hp) : List V → List (Option D) → Prop
  | nil : DpOs K F [] []
  | cons {v : V} {d : D} {vs : List V} {ds : List (Option D)} (h : Dp K F v d) (r : DpOs K F vs ds) : DpOs K F (v :: vs) (some d :: ds)
  | skip {v : V} {vs : List V} {ds : List (Option D)} (r : DpOs K F vs ds) : DpOs K F (v :: vs) (none :: ds)
theorem DpOs.at_ {K : PySem.W.Frag} {F : Hp} {vs : List V} {ds : List (Option D)} (h : DpOs K F vs ds) : vs.length = ds.length ∧ ∀ (i : Nat) (d : D), ds[i]? = some (some d) → ∃ v, vs[i]? = some v ∧ Dp K F v d := by
  induction h with
  | nil => exact ⟨rfl, fun i d h => by simp at h⟩
  | @cons v d0 vs ds h r ih =>
    refine ⟨by simp [ih.1], fun i d hd => ?_⟩
    cases i with
    | zero =>
      simp at hd
      subst hd
      exact ⟨v, rfl, h⟩
    | succ i => exact ih.2 i d (by simpa using hd)
  | @skip v vs ds r ih =>
    refine ⟨by simp [ih.1], fun i d hd => ?_⟩
    cases i with
    | zero => simp at hd
    | succ i => exact ih.2 i d (by simpa using hd)
theorem env_raw {K : PySem.W.Frag} {F H : Hp} {N : List Str} {vs : List V} {os ρ : DEnv} (hs : Same F H) (h : DpOs K F vs os) (e : os ++ List.replicate (N.length - os.length) none = ρ) : EnvOk K F ρ (L2.start N vs) H := by
  subst e
  obtain ⟨hl, hat⟩ := h.at_
  refine ⟨hs, ?_, fun i d hd => ?_⟩
  · unfold L2.start
    simp only [List.length_append, List.length_map, List.length_replicate, hl]
  · by_cases hi : i < os.length
    · rw [List.getElem?_append_left hi] at hd
      obtain ⟨v, h1, h2⟩ := hat i d hd
      refine ⟨v, ?_, h2⟩
      unfold L2.start
      rw [List.getElem?_append_left (by simp; omega), List.getElem?_map, h1]
      rfl
    · rw [List.getElem?_append_right (by omega), List.getElem?_replicate] at hd
      split at hd <;> cases hd
section
variable {P : Program} {w : World} {K : PySem.W.Frag} {mg : Str → Option Value} {base : Heap} {C : Addr}
theorem ua_of {X : Cx} {es : List Expr} {ρ : DEnv} {ds : List D} {F H : Hp} {σ : St} {Q : List V → Hp → Prop} (hE : EnvOk X.K F ρ σ H) (h : PDA X es ρ ds) (k : ∀ vs F' H', Step F H F' H' → DpAll X.K F' vs ds → Q vs H') : UA X es σ H Q := h F σ H Q hE k
theorem sc_entry_of : FnScope ["ruler", "work", "known", "row", "word", "some", "name"] ["ruler", "work", "known", "row"] (defScope (top 66)) := ⟨rfl, rfl, rfl, by decide +kernel, rfl, by decide +kernel, by decide +kernel⟩
theorem cal_entry_of (C0 : Consts K mg) (D0 : DefAt K mg "entry_of" 66) (c_rounded_entry : Cal P w K mg base "rounded_entry" 8 ["ruler", "span", "trues", "err", "grain"] (spP K R_rounded_entry)) (c_sum_entry : Cal P w K mg base "sum_entry" 9 ["ruler", "word", "one", "other"] (spP K R_sum_entry)) (c_product_entry : Cal P w K mg base "product_entry" 9 ["ruler", "one", "other"] (spP K R_product_entry)) (c_quotient_entry : CalX P w K mg base "quotient_entry" 9 ["ruler", "one", "other", "row"] (spQ K C)) (c_single_entry : Cal P w K mg base "single_entry" 8 ["ruler", "word", "one"] (spP K R_single_entry)) (c_chosen_entry : Cal P w K mg base "chosen_entry" 8 ["ruler", "word", "one", "other"] (spP K R_chosen_entry)) (c_picked_entry : Cal P w K mg base "picked_entry" 8 ["ruler", "one", "other", "some", "is_same"] (spP K R_picked_entry)) : CalX P w K mg base "entry_of" 10 ["ruler", "work", "known", "row"] (spEnt K C) := by
  obtain ⟨f, fd, hm, Fn⟩ := D0
  refine ⟨f, fd, hm, ?_, Fn.kp, Fn.bindsN fun _ _ _ _ _ _ us hl => match us, hl with | [_, _, _, _], _ => rfl⟩
  refine Fn.ok (k := 9) sc_entry_of (fun vs H Q E h => ?_) (fun cdv A outer s H vs Q E hr h => ?_)
  · obtain ⟨_, _, _, _, _, _, _, _, _, rfl, _⟩ := h
    rfl
  · obtain ⟨F, r, wk, v1, v2, a, n, kvs, kn, rfl, h0, d1, d2, own, ⟨v, eb, hnum, ng⟩, kq, ke⟩ := h
    have hu := hu_of hr
    have e0 : EnvOk K F [some (dRul r), some (dWk wk), none, some (.int n), none, none, none] (L2.start ["ruler", "work", "known", "row", "word", "some", "name"] [v1, v2, .ref a, .int n]) H := env_raw h0 (.cons d1 (.cons d2 (.skip (.cons (.int n) .nil)))) rfl
    refine ⟨_, pss_u, ?_⟩
    cases wk with
    | number q =>
      have hq := hnum q rfl
      have ng := ng _ rfl
      refine us_all (N1 := fun _ => False) (R := (· = dEn (roundE r (q, q) (q, q) 0 none))) ?_ e0 (fun _ _ _ _ z => z.elim) (fun d v F4 H4 hd s4 dp => (by subst hd; exact kq _ rfl v F4 H4 s4 dp))
      refine pds_set 4 (pd_ixT (pd_var 1) pd_int) ?_ sc_entry_of.nd
      refine pds_ifR (pdt_cmp (qc_eqS (pd_var 4) pd_str)) (fun hb => ?_) (fun hb => absurd hb (by decide))
      refine pds_ret (pd_call c_rounded_entry (hr.mono (by decide)) (pda_cons (pd_var 0) (pda_cons (pd_tup (pda_cons (pd_ixT (pd_var 1) pd_int) (pda_cons (pd_ixT (pd_var 1) pd_int) pda_nil))) (pda_cons (pd_tup (pda_cons (pd_ixT (pd_var 1) pd_int) (pda_cons (pd_ixT (pd_var 1) pd_int) pda_nil))) (pda_cons (pd_nought C0) (pda_cons pd_non pda_nil))))) ⟨r, (q, q), (q, q), 0, none, rfl, ⟨v, ⟨hq, hq⟩, ⟨hq.mono (by decide), hq.mono (by decide)⟩, Bt.zero.mono (by decide), (fun _ z => by cases z), ng⟩, rfl⟩) rfl
    | sum b x y =>
      cases b
      · -- sum false
        · have ng := ng _ rfl
          refine us_set 4 (pd_ixT (pd_var 1) pd_int) e0 (fun _ F1 H1 s1 _ e1 => ?_) sc_entry_of.nd
          refine us_ifR (pdt_cmp (qc_eqS (pd_var 4) pd_str)) e1 (fun hb => absurd hb (by decide)) (fun _ F2 H2 s2 e2 => ?_)
          refine us_known 5 6 2 (ρ := [some (dRul r), some (dWk (.sum false x y)), none, some (.int n), some (.str (sumW false)), none, none]) (a := a) (kvs := kvs) (g := fun n => dEn (kn n)) (ns := [x, y]) hu e2 (pd_is (pd_slT (pd_var 1) (pdo_some pd_int) pdo_none (fun z => absurd z.1 (by show ¬ ((1 : Nat) = 0); decide))) rfl) ((own.step Tell.mono s1).step Tell.mono s2) rfl (by decide) rfl sc_entry_of.nd (blkOk_by (N := ["ruler", "work", "known", "row", "word", "some", "name"]) (sc := defScope (top 66)) (by decide +kernel)) (fun _ _ _ _ _ => pg_name (i := 6) sc_entry_of.nd rfl (Or.inl rfl)) (fun _ _ _ _ _ => pe_dget hu (pv 2) (pv 6) (fun _ _ => rfl)) (fun v5 F3 H3 s3 _ d5 e3 => ?_) (Nat.lt_of_le_of_lt (Nat.le_of_ble_eq_true (show Nat.ble _ 100 = true from rfl)) (by decide)) rfl rfl (sw_true rfl rfl rfl (by decide +kernel))
          refine us_all (N1 := fun _ => False) (R := (· = dEn (sumE r false (kn x) (kn y)))) ?_ e3 (fun _ _ _ _ z => z.elim) (fun d v F4 H4 hd s4 dp => (by subst hd; exact kq _ rfl v F4 H4 (((s1.trans s2).trans s3).trans s4) dp))
          refine pds_ifR (pdt_cmp (qc_inT (pd_var 4) (pd_tup (pda_cons pd_str (pda_cons pd_str pda_nil))) rfl rfl)) (fun _ => ?_) (fun hb => by cases (show true = false from hb))
          refine pds_ret (pd_call c_sum_entry hr (pda_cons (pd_var 0) (pda_cons (pd_var 4) (pda_cons (pd_ixL (pd_var 5) pd_int) (pda_cons (pd_ixL (pd_var 5) pd_int) pda_nil)))) ⟨r, false, kn x, kn y, rfl, ⟨v, eb x (by simp [wkNs]), eb y (by simp [wkNs]), ng⟩, rfl⟩) rfl
      · -- sum true
        · have ng := ng _ rfl
          refine us_set 4 (pd_ixT (pd_var 1) pd_int) e0 (fun _ F1 H1 s1 _ e1 => ?_) sc_entry_of.nd
          refine us_ifR (pdt_cmp (qc_eqS (pd_var 4) pd_str)) e1 (fun hb => absurd hb (by decide)) (fun _ F2 H2 s2 e2 => ?_)
          refine us_known 5 6 2 (ρ := [some (dRul r), some (dWk (.sum true x y)), none, some (.int n), some (.str (sumW true)), none, none]) (a := a) (kvs := kvs) (g := fun n => dEn (kn n)) (ns := [x, y]) hu e2 (pd_is (pd_slT (pd_var 1) (pdo_some pd_int) pdo_none (fun z => absurd z.1 (by show ¬ ((1 : Nat) = 0); decide))) rfl) ((own.step Tell.mono s1).step Tell.mono s2) rfl (by decide) rfl sc_entry_of.nd (blkOk_by (N := ["ruler", "work", "known", "row", "word", "some", "name"]) (sc := defScope (top 66)) (by decide +kernel)) (fun _ _ _ _ _ => pg_name (i := 6) sc_entry_of.nd rfl (Or.inl rfl)) (fun _ _ _ _ _ => pe_dget hu (pv 2) (pv 6) (fun _ _ => rfl)) (fun v5 F3 H3 s3 _ d5 e3 => ?_) (Nat.lt_of_le_of_lt (Nat.le_of_ble_eq_true (show Nat.ble _ 100 = true from rfl)) (by decide)) rfl rfl (sw_true rfl rfl rfl (by decide +kernel))
          refine us_all (N1 := fun _ => False) (R := (· = dEn (sumE r true (kn x) (kn y)))) ?_ e3 (fun _ _ _ _ z => z.elim) (fun d v F4 H4 hd s4 dp => (by subst hd; exact kq _ rfl v F4 H4 (((s1.trans s2).trans s3).trans s4) dp))
          refine pds_ifR (pdt_cmp (qc_inT (pd_var 4) (pd_tup (pda_cons pd_str (pda_cons pd_str pda_nil))) rfl rfl)) (fun _ => ?_) (fun hb => by cases (show true = false from hb))
          refine pds_ret (pd_call c_sum_entry hr (pda_cons (pd_var 0) (pda_cons (pd_var 4) (pda_cons (pd_ixL (pd_var 5) pd_int) (pda_cons (pd_ixL (pd_var 5) pd_int) pda_nil)))) ⟨r, true, kn x, kn y, rfl, ⟨v, eb x (by simp [wkNs]), eb y (by simp [wkNs]), ng⟩, rfl⟩) rfl
    | times x y =>
      · have ng := ng _ rfl
        refine us_set 4 (pd_ixT (pd_var 1) pd_int) e0 (fun _ F1 H1 s1 _ e1 => ?_) sc_entry_of.nd
        refine us_ifR (pdt_cmp (qc_eqS (pd_var 4) pd_str)) e1 (fun hb => absurd hb (by decide)) (fun _ F2 H2 s2 e2 => ?_)
        refine us_known 5 6 2 (ρ := [some (dRul r), some (dWk (.times x y)), none, some (.int n), some (.str ("times")), none, none]) (a := a) (kvs := kvs) (g := fun n => dEn (kn n)) (ns := [x, y]) hu e2 (pd_is (pd_slT (pd_var 1) (pdo_some pd_int) pdo_none (fun z => absurd z.1 (by show ¬ ((1 : Nat) = 0); decide))) rfl) ((own.step Tell.mono s1).step Tell.mono s2) rfl (by decide) rfl sc_entry_of.nd (blkOk_by (N := ["ruler", "work", "known", "row", "word", "some", "name"]) (sc := defScope (top 66)) (by decide +kernel)) (fun _ _ _ _ _ => pg_name (i := 6) sc_entry_of.nd rfl (Or.inl rfl)) (fun _ _ _ _ _ => pe_dget hu (pv 2) (pv 6) (fun _ _ => rfl)) (fun v5 F3 H3 s3 _ d5 e3 => ?_) (Nat.lt_of_le_of_lt (Nat.le_of_ble_eq_true (show Nat.ble _ 100 = true from rfl)) (by decide)) rfl rfl (sw_true rfl rfl rfl (by decide +kernel))
        refine us_all (N1 := fun _ => False) (R := (· = dEn (prodE r (kn x) (kn y)))) ?_ e3 (fun _ _ _ _ z => z.elim) (fun d v F4 H4 hd s4 dp => (by subst hd; exact kq _ rfl v F4 H4 (((s1.trans s2).trans s3).trans s4) dp))
        refine pds_ifR (pdt_cmp (qc_inT (pd_var 4) (pd_tup (pda_cons pd_str (pda_cons pd_str pda_nil))) rfl rfl)) (fun hb => by cases (show false = true from hb)) (fun _ => ?_)
        refine pds_ifR (pdt_cmp (qc_eqS (pd_var 4) pd_str)) (fun _ => ?_) (fun hb => absurd hb (by decide))
        refine pds_ret (pd_call c_product_entry hr (pda_cons (pd_var 0) (pda_cons (pd_ixL (pd_var 5) pd_int) (pda_cons (pd_ixL (pd_var 5) pd_int) pda_nil))) ⟨r, kn x, kn y, rfl, ⟨v, eb x (by simp [wkNs]), eb y (by simp [wkNs]), ng⟩, rfl⟩) rfl
    | over x y =>
      refine us_set 4 (pd_ixT (pd_var 1) pd_int) e0 (fun _ F1 H1 s1 _ e1 => ?_) sc_entry_of.nd
      refine us_ifR (pdt_cmp (qc_eqS (pd_var 4) pd_str)) e1 (fun hb => absurd hb (by decide)) (fun _ F2 H2 s2 e2 => ?_)
      refine us_known 5 6 2 (ρ := [some (dRul r), some (dWk (.over x y)), none, some (.int n), some (.str ("over")), none, none]) (a := a) (kvs := kvs) (g := fun n => dEn (kn n)) (ns := [x, y]) hu e2 (pd_is (pd_slT (pd_var 1) (pdo_some pd_int) pdo_none (fun z => absurd z.1 (by show ¬ ((1 : Nat) = 0); decide))) rfl) ((own.step Tell.mono s1).step Tell.mono s2) rfl (by decide) rfl sc_entry_of.nd (blkOk_by (N := ["ruler", "work", "known", "row", "word", "some", "name"]) (sc := defScope (top 66)) (by decide +kernel)) (fun _ _ _ _ _ => pg_name (i := 6) sc_entry_of.nd rfl (Or.inl rfl)) (fun _ _ _ _ _ => pe_dget hu (pv 2) (pv 6) (fun _ _ => rfl)) (fun v5 F3 H3 s3 _ d5 e3 => ?_) (Nat.lt_of_le_of_lt (Nat.le_of_ble_eq_true (show Nat.ble _ 100 = true from rfl)) (by decide)) rfl rfl (sw_true rfl rfl rfl (by decide +kernel))
      refine us_ifR (pdt_cmp (qc_inT (pd_var 4) (pd_tup (pda_cons pd_str (pda_cons pd_str pda_nil))) rfl rfl)) e3 (fun hb => by cases (show false = true from hb)) (fun _ F4 H4 s4 e4 => ?_)
      refine us_ifR (pdt_cmp (qc_eqS (pd_var 4) pd_str)) e4 (fun hb => absurd hb (by decide)) (fun _ F5 H5 s5 e5 => ?_)
      refine us_ifR (pdt_cmp (qc_eqS (pd_var 4) pd_str)) e5 (fun _ F6 H6 s6 e6 => ?_) (fun hb => absurd hb (by decide))
      obtain ⟨fq, fdq, hmq, Fq, hkq, hbq⟩ := c_quotient_entry.ex
      refine ⟨_, pss_one (ps_ret (pe_callS Fq hr rfl hmq hkq hbq (fun σ => passAt (takes_of rfl rfl rfl rfl) σ) pa_u)), ?_⟩
      show UA _ _ _ _ _
      refine ua_of (ρ := [some (dRul r), some (dWk (.over x y)), none, some (.int n), some (.str "over"), some (.list [dEn (kn x), dEn (kn y)]), none]) (ds := [dRul r, dEn (kn x), dEn (kn y), .int n]) e6 (pda_cons (pd_var 0) (pda_cons (pd_ixL (pd_var 5) pd_int) (pda_cons (pd_ixL (pd_var 5) pd_int) (pda_cons (pd_var 3) pda_nil)))) fun vs F7 H7 s7 h7 => ?_
      have sA := ((((((s1.trans s2).trans s3).trans s4).trans s5).trans s6).trans s7)
      exact ⟨F7, r, kn x, kn y, n, s7.fh, h7, ⟨v, eb x (by simp [wkNs]), eb y (by simp [wkNs]), ng⟩, fun e he v8 F8 H8 s8 d8 => kq e he v8 F8 H8 (sA.trans s8) d8, fun hn d8 H8 m8 => ke hn d8 H8 (sA.hh.trans m8)⟩
    | turned x =>
      · have ng := ng _ rfl
        refine us_set 4 (pd_ixT (pd_var 1) pd_int) e0 (fun _ F1 H1 s1 _ e1 => ?_) sc_entry_of.nd
        refine us_ifR (pdt_cmp (qc_eqS (pd_var 4) pd_str)) e1 (fun hb => absurd hb (by decide)) (fun _ F2 H2 s2 e2 => ?_)
        refine us_known 5 6 2 (ρ := [some (dRul r), some (dWk (.turned x)), none, some (.int n), some (.str ("turned")), none, none]) (a := a) (kvs := kvs) (g := fun n => dEn (kn n)) (ns := [x]) hu e2 (pd_is (pd_slT (pd_var 1) (pdo_some pd_int) pdo_none (fun z => absurd z.1 (by show ¬ ((1 : Nat) = 0); decide))) rfl) ((own.step Tell.mono s1).step Tell.mono s2) rfl (by decide) rfl sc_entry_of.nd (blkOk_by (N := ["ruler", "work", "known", "row", "word", "some", "name"]) (sc := defScope (top 66)) (by decide +kernel)) (fun _ _ _ _ _ => pg_name (i := 6) sc_entry_of.nd rfl (Or.inl rfl)) (fun _ _ _ _ _ => pe_dget hu (pv 2) (pv 6) (fun _ _ => rfl)) (fun v5 F3 H3 s3 _ d5 e3 => ?_) (Nat.lt_of_le_of_lt (Nat.le_of_ble_eq_true (show Nat.ble _ 100 = true from rfl)) (by decide)) rfl rfl (sw_true rfl rfl rfl (by decide +kernel))
        refine us_all (N1 := fun _ => False) (R := (· = dEn (turnE r (kn x)))) ?_ e3 (fun _ _ _ _ z => z.elim) (fun d v F4 H4 hd s4 dp => (by subst hd; exact kq _ rfl v F4 H4 (((s1.trans s2).trans s3).trans s4) dp))
        refine pds_ifR (pdt_cmp (qc_inT (pd_var 4) (pd_tup (pda_cons pd_str (pda_cons pd_str pda_nil))) rfl rfl)) (fun hb => by cases (show false = true from hb)) (fun _ => ?_)
        refine pds_ifR (pdt_cmp (qc_eqS (pd_var 4) pd_str)) (fun hb => absurd hb (by decide)) (fun _ => ?_)
        refine pds_ifR (pdt_cmp (qc_eqS (pd_var 4) pd_str)) (fun hb => absurd hb (by decide)) (fun _ => ?_)
        refine pds_ifR (pdt_cmp (qc_inT (pd_var 4) (pd_tup (pda_cons pd_str (pda_cons pd_str pda_nil))) rfl rfl)) (fun _ => ?_) (fun hb => by cases (show true = false from hb))
        refine pds_ret (pd_call c_single_entry (hr.mono (by decide)) (pda_cons (pd_var 0) (pda_cons (pd_var 4) (pda_cons (pd_ixL (pd_var 5) pd_int) pda_nil))) ⟨r, true, kn x, rfl, ⟨v, eb x (by simp [wkNs]), ng⟩, rfl⟩) rfl
    | size x =>
      · have ng := ng _ rfl
        refine us_set 4 (pd_ixT (pd_var 1) pd_int) e0 (fun _ F1 H1 s1 _ e1 => ?_) sc_entry_of.nd
        refine us_ifR (pdt_cmp (qc_eqS (pd_var 4) pd_str)) e1 (fun hb => absurd hb (by decide)) (fun _ F2 H2 s2 e2 => ?_)
        refine us_known 5 6 2 (ρ := [some (dRul r), some (dWk (.size x)), none, some (.int n), some (.str ("size")), none, none]) (a := a) (kvs := kvs) (g := fun n => dEn (kn n)) (ns := [x]) hu e2 (pd_is (pd_slT (pd_var 1) (pdo_some pd_int) pdo_none (fun z => absurd z.1 (by show ¬ ((1 : Nat) = 0); decide))) rfl) ((own.step Tell.mono s1).step Tell.mono s2) rfl (by decide) rfl sc_entry_of.nd (blkOk_by (N := ["ruler", "work", "known", "row", "word", "some", "name"]) (sc := defScope (top 66)) (by decide +kernel)) (fun _ _ _ _ _ => pg_name (i := 6) sc_entry_of.nd rfl (Or.inl rfl)) (fun _ _ _ _ _ => pe_dget hu (pv 2) (pv 6) (fun _ _ => rfl)) (fun v5 F3 H3 s3 _ d5 e3 => ?_) (Nat.lt_of_le_of_lt (Nat.le_of_ble_eq_true (show Nat.ble _ 100 = true from rfl)) (by decide)) rfl rfl (sw_true rfl rfl rfl (by decide +kernel))
        refine us_all (N1 := fun _ => False) (R := (· = dEn (sizeE r (kn x)))) ?_ e3 (fun _ _ _ _ z => z.elim) (fun d v F4 H4 hd s4 dp => (by subst hd; exact kq _ rfl v F4 H4 (((s1.trans s2).trans s3).trans s4) dp))
        refine pds_ifR (pdt_cmp (qc_inT (pd_var 4) (pd_tup (pda_cons pd_str (pda_cons pd_str pda_nil))) rfl rfl)) (fun hb => by cases (show false = true from hb)) (fun _ => ?_)
        refine pds_ifR (pdt_cmp (qc_eqS (pd_var 4) pd_str)) (fun hb => absurd hb (by decide)) (fun _ => ?_)
        refine pds_ifR (pdt_cmp (qc_eqS (pd_var 4) pd_str)) (fun hb => absurd hb (by decide)) (fun _ => ?_)
        refine pds_ifR (pdt_cmp (qc_inT (pd_var 4) (pd_tup (pda_cons pd_str (pda_cons pd_str pda_nil))) rfl rfl)) (fun _ => ?_) (fun hb => by cases (show true = false from hb))
        refine pds_ret (pd_call c_single_entry (hr.mono (by decide)) (pda_cons (pd_var 0) (pda_cons (pd_var 4) (pda_cons (pd_ixL (pd_var 5) pd_int) pda_nil))) ⟨r, false, kn x, rfl, ⟨v, eb x (by simp [wkNs]), ng⟩, rfl⟩) rfl
    | chos b x y =>
      cases b
      · -- chos false
        · have ng := ng _ rfl
          refine us_set 4 (pd_ixT (pd_var 1) pd_int) e0 (fun _ F1 H1 s1 _ e1 => ?_) sc_entry_of.nd
          refine us_ifR (pdt_cmp (qc_eqS (pd_var 4) pd_str)) e1 (fun hb => absurd hb (by decide)) (fun _ F2 H2 s2 e2 => ?_)
          refine us_known 5 6 2 (ρ := [some (dRul r), some (dWk (.chos false x y)), none, some (.int n), some (.str (chosW false)), none, none]) (a := a) (kvs := kvs) (g := fun n => dEn (kn n)) (ns := [x, y]) hu e2 (pd_is (pd_slT (pd_var 1) (pdo_some pd_int) pdo_none (fun z => absurd z.1 (by show ¬ ((1 : Nat) = 0); decide))) rfl) ((own.step Tell.mono s1).step Tell.mono s2) rfl (by decide) rfl sc_entry_of.nd (blkOk_by (N := ["ruler", "work", "known", "row", "word", "some", "name"]) (sc := defScope (top 66)) (by decide +kernel)) (fun _ _ _ _ _ => pg_name (i := 6) sc_entry_of.nd rfl (Or.inl rfl)) (fun _ _ _ _ _ => pe_dget hu (pv 2) (pv 6) (fun _ _ => rfl)) (fun v5 F3 H3 s3 _ d5 e3 => ?_) (Nat.lt_of_le_of_lt (Nat.le_of_ble_eq_true (show Nat.ble _ 100 = true from rfl)) (by decide)) rfl rfl (sw_true rfl rfl rfl (by decide +kernel))
          refine us_all (N1 := fun _ => False) (R := (· = dEn (chosE r false (kn x) (kn y)))) ?_ e3 (fun _ _ _ _ z => z.elim) (fun d v F4 H4 hd s4 dp => (by subst hd; exact kq _ rfl v F4 H4 (((s1.trans s2).trans s3).trans s4) dp))
          refine pds_ifR (pdt_cmp (qc_inT (pd_var 4) (pd_tup (pda_cons pd_str (pda_cons pd_str pda_nil))) rfl rfl)) (fun hb => by cases (show false = true from hb)) (fun _ => ?_)
          refine pds_ifR (pdt_cmp (qc_eqS (pd_var 4) pd_str)) (fun hb => absurd hb (by decide)) (fun _ => ?_)
          refine pds_ifR (pdt_cmp (qc_eqS (pd_var 4) pd_str)) (fun hb => absurd hb (by decide)) (fun _ => ?_)
          refine pds_ifR (pdt_cmp (qc_inT (pd_var 4) (pd_tup (pda_cons pd_str (pda_cons pd_str pda_nil))) rfl rfl)) (fun hb => by cases (show false = true from hb)) (fun _ => ?_)
          refine pds_ifR (pdt_cmp (qc_inT (pd_var 4) (pd_tup (pda_cons pd_str (pda_cons pd_str pda_nil))) rfl rfl)) (fun _ => ?_) (fun hb => by cases (show true = false from hb))
          refine pds_ret (pd_call c_chosen_entry (hr.mono (by decide)) (pda_cons (pd_var 0) (pda_cons (pd_var 4) (pda_cons (pd_ixL (pd_var 5) pd_int) (pda_cons (pd_ixL (pd_var 5) pd_int) pda_nil)))) ⟨r, false, kn x, kn y, rfl, ⟨v, eb x (by simp [wkNs]), eb y (by simp [wkNs]), ng⟩, rfl⟩) rfl
      · -- chos true
        · have ng := ng _ rfl
          refine us_set 4 (pd_ixT (pd_var 1) pd_int) e0 (fun _ F1 H1 s1 _ e1 => ?_) sc_entry_of.nd
          refine us_ifR (pdt_cmp (qc_eqS (pd_var 4) pd_str)) e1 (fun hb => absurd hb (by decide)) (fun _ F2 H2 s2 e2 => ?_)
          refine us_known 5 6 2 (ρ := [some (dRul r), some (dWk (.chos true x y)), none, some (.int n), some (.str (chosW true)), none, none]) (a := a) (kvs := kvs) (g := fun n => dEn (kn n)) (ns := [x, y]) hu e2 (pd_is (pd_slT (pd_var 1) (pdo_some pd_int) pdo_none (fun z => absurd z.1 (by show ¬ ((1 : Nat) = 0); decide))) rfl) ((own.step Tell.mono s1).step Tell.mono s2) rfl (by decide) rfl sc_entry_of.nd (blkOk_by (N := ["ruler", "work", "known", "row", "word", "some", "name"]) (sc := defScope (top 66)) (by decide +kernel)) (fun _ _ _ _ _ => pg_name (i := 6) sc_entry_of.nd rfl (Or.inl rfl)) (fun _ _ _ _ _ => pe_dget hu (pv 2) (pv 6) (fun _ _ => rfl)) (fun v5 F3 H3 s3 _ d5 e3 => ?_) (Nat.lt_of_le_of_lt (Nat.le_of_ble_eq_true (show Nat.ble _ 100 = true from rfl)) (by decide)) rfl rfl (sw_true rfl rfl rfl (by decide +kernel))
          refine us_all (N1 := fun _ => False) (R := (· = dEn (chosE r true (kn x) (kn y)))) ?_ e3 (fun _ _ _ _ z => z.elim) (fun d v F4 H4 hd s4 dp => (by subst hd; exact kq _ rfl v F4 H4 (((s1.trans s2).trans s3).trans s4) dp))
          refine pds_ifR (pdt_cmp (qc_inT (pd_var 4) (pd_tup (pda_cons pd_str (pda_cons pd_str pda_nil))) rfl rfl)) (fun hb => by cases (show false = true from hb)) (fun _ => ?_)
          refine pds_ifR (pdt_cmp (qc_eqS (pd_var 4) pd_str)) (fun hb => absurd hb (by decide)) (fun _ => ?_)
          refine pds_ifR (pdt_cmp (qc_eqS (pd_var 4) pd_str)) (fun hb => absurd hb (by decide)) (fun _ => ?_)
          refine pds_ifR (pdt_cmp (qc_inT (pd_var 4) (pd_tup (pda_cons pd_str (pda_cons pd_str pda_nil))) rfl rfl)) (fun hb => by cases (show false = true from hb)) (fun _ => ?_)
          refine pds_ifR (pdt_cmp (qc_inT (pd_var 4) (pd_tup (pda_cons pd_str (pda_cons pd_str pda_nil))) rfl rfl)) (fun _ => ?_) (fun hb => by cases (show true = false from hb))
          refine pds_ret (pd_call c_chosen_entry (hr.mono (by decide)) (pda_cons (pd_var 0) (pda_cons (pd_var 4) (pda_cons (pd_ixL (pd_var 5) pd_int) (pda_cons (pd_ixL (pd_var 5) pd_int) pda_nil)))) ⟨r, true, kn x, kn y, rfl, ⟨v, eb x (by simp [wkNs]), eb y (by simp [wkNs]), ng⟩, rfl⟩) rfl
    | pick x y z t =>
      · have ng := ng _ rfl
        refine us_set 4 (pd_ixT (pd_var 1) pd_int) e0 (fun _ F1 H1 s1 _ e1 => ?_) sc_entry_of.nd
        refine us_ifR (pdt_cmp (qc_eqS (pd_var 4) pd_str)) e1 (fun hb => absurd hb (by decide)) (fun _ F2 H2 s2 e2 => ?_)
        refine us_known 5 6 2 (ρ := [some (dRul r), some (dWk (.pick x y z t)), none, some (.int n), some (.str ("pick")), none, none]) (a := a) (kvs := kvs) (g := fun n => dEn (kn n)) (ns := [x, y, z, t]) hu e2 (pd_is (pd_slT (pd_var 1) (pdo_some pd_int) pdo_none (fun z => absurd z.1 (by show ¬ ((1 : Nat) = 0); decide))) rfl) ((own.step Tell.mono s1).step Tell.mono s2) rfl (by decide) rfl sc_entry_of.nd (blkOk_by (N := ["ruler", "work", "known", "row", "word", "some", "name"]) (sc := defScope (top 66)) (by decide +kernel)) (fun _ _ _ _ _ => pg_name (i := 6) sc_entry_of.nd rfl (Or.inl rfl)) (fun _ _ _ _ _ => pe_dget hu (pv 2) (pv 6) (fun _ _ => rfl)) (fun v5 F3 H3 s3 _ d5 e3 => ?_) (Nat.lt_of_le_of_lt (Nat.le_of_ble_eq_true (show Nat.ble _ 100 = true from rfl)) (by decide)) rfl rfl (sw_true rfl rfl rfl (by decide +kernel))
        refine us_all (N1 := fun _ => False) (R := (· = dEn (pickE r (decide (z = t)) (kn x) (kn y) (kn z) (kn t)))) ?_ e3 (fun _ _ _ _ z => z.elim) (fun d v F4 H4 hd s4 dp => (by subst hd; exact kq _ rfl v F4 H4 (((s1.trans s2).trans s3).trans s4) dp))
        refine pds_ifR (pdt_cmp (qc_inT (pd_var 4) (pd_tup (pda_cons pd_str (pda_cons pd_str pda_nil))) rfl rfl)) (fun hb => by cases (show false = true from hb)) (fun _ => ?_)
        refine pds_ifR (pdt_cmp (qc_eqS (pd_var 4) pd_str)) (fun hb => absurd hb (by decide)) (fun _ => ?_)
        refine pds_ifR (pdt_cmp (qc_eqS (pd_var 4) pd_str)) (fun hb => absurd hb (by decide)) (fun _ => ?_)
        refine pds_ifR (pdt_cmp (qc_inT (pd_var 4) (pd_tup (pda_cons pd_str (pda_cons pd_str pda_nil))) rfl rfl)) (fun hb => by cases (show false = true from hb)) (fun _ => ?_)
        refine pds_ifR (pdt_cmp (qc_inT (pd_var 4) (pd_tup (pda_cons pd_str (pda_cons pd_str pda_nil))) rfl rfl)) (fun hb => by cases (show false = true from hb)) (fun _ => ?_)
        refine pds_ret (pd_call c_picked_entry (hr.mono (by decide)) (pda_cons (pd_var 0) (pda_cons (pd_ixL (pd_var 5) pd_int) (pda_cons (pd_ixL (pd_var 5) pd_int) (pda_cons (pd_slL (pd_var 5) (pdo_some pd_int) pdo_none) (pda_cons (pd_cmp (qc_eqS (pd_ixT (pd_var 1) pd_int) (pd_ixT (pd_var 1) pd_int))) pda_nil))))) ⟨r, decide (z = t), kn x, kn y, kn z, kn t, rfl, ⟨v, eb x (by simp [wkNs]), eb y (by simp [wkNs]), eb z (by simp [wkNs]), eb t (by simp [wkNs]), ng⟩, rfl⟩) rfl

end
end Rs
end

section
set_option Elab.async false
set_option linter.all false
set_option maxRecDepth 100000
set_option maxHeartbeats 4000000
namespace Rs
open PySem PySem.Spec L2
local macro_rules
  | `(tactic| walk_at "ib") => `(tactic| first | assumption | exact Bt.nu (by assumption) | exact Bt.deI (by assumption))
local macro_rules
  | `(tactic| walk_at "mw") => `(tactic| exact mulW (by walk_at "ib") (by walk_at "ib") (by decide) (by decide) (by decide))
local macro_rules
  | `(tactic| walk_at "bt0") => `(tactic| first | assumption | exact Bt.zero | exact SB.a (by assumption) | exact SB.b (by assumption) | exact Bt_qmin (by walk_at "bt0") (by walk_at "bt0") | exact Bt_qmax (by walk_at "bt0") (by walk_at "bt0") | exact Bt.neg (by walk_at "bt0") | exact Bt.abs (by walk_at "bt0") | exact Bt.add (by walk_at "bt0") (by walk_at "bt0") | exact Bt.sub (by walk_at "bt0") (by walk_at "bt0") | exact Bt.mul (by walk_at "bt0") (by walk_at "bt0"))
local macro_rules
  | `(tactic| walk_at "bt") => `(tactic| exact Bt.mono (by walk_at "bt0") (by decide))
local macro_rules
  | `(tactic| walk_at "sb") => `(tactic| first | assumption | exact SB.mono (by assumption) (by decide) | exact ⟨by walk_at "bt", by walk_at "bt"⟩)
local macro_rules
  | `(tactic| walk_at "gb") => `(tactic| first | assumption)
/-! ### the law's own reckoning -/
def mixN (c k : Int) : Int := (c % 2147483629 * 48271 + 7919 * k * k + 31 * k + 1) % 2147483647
def mixD (c k : Int) : Int := mixN c k * 69621 % 2147483629 / 3
theorem emod_IB {x m : Int} {n : Nat} (h : 0 < m) (hm : IB n m) : IB n (x % m) := hm.le (by have := Int.emod_nonneg x (show m ≠ 0 by omega); have := Int.emod_lt_of_pos x h; omega)
def R__law_mixed (ds : List D) (d : D) : Prop := ∃ c k : Int, ds = [.int c, .int k] ∧ IB 1000 k ∧ d = .int (mixD c k)
def R__law_made (ds : List D) (d : D) : Prop := ∃ x y : Int, ds = [.int x, .int y] ∧ y ≠ 0 ∧ IB 8900 y ∧ d = dFr (Rat.divInt x y)
abbrev R__law_plus := R_2 (fun a b => Sm a ∧ Sm b) (fun a b => a + b)
abbrev R__law_less := R_2 (fun a b => Sm a ∧ Sm b) (fun a b => a - b)
abbrev R__law_times := R_2 (fun a b => Sm a ∧ Sm b) (fun a b => a * b)
abbrev R__law_over := R_2 (fun a b => Sm a ∧ Sm b ∧ b ≠ 0) (fun a b => a / b)
abbrev R__law_below := R_p2 (fun a b => Lg a ∧ Lg b) (fun a b => decide (a < b))
def R__law_ends (ds : List D) (d : D) : Prop := ∃ a b : Rat, ds = [.list [dFr a, dFr b]] ∧ (Lg a ∧ Lg b) ∧ d = .tuple [dFr (qmin a b), dFr (qmax a b)]
def R__law_power (ds : List D) (d : D) : Prop := ∃ B e : Int, ds = [.int B, .int e] ∧ (2 ≤ B ∧ B ≤ 16 ∧ -9000 ≤ e ∧ e ≤ 9000) ∧ d = dFr ((B : Rat) ^ e)
def R__law_place (ds : List D) (d : D) : Prop := ∃ (r : Rul) (q : Rat), ds = [dRul r, dFr q] ∧ (VR r ∧ Bt 2000 q) ∧ d = .int (plc r q)
def R__law_rounded (ds : List D) (d : D) : Prop := ∃ (r : Rul) (q : Rat), ds = [dRul r, dFr q] ∧ (VR r ∧ Bt 1300 q) ∧ d = dFr (rnd r q)
def liesB (q a b : Rat) : Bool := !decide (q < a) && !decide (b < q)
def R__law_lies (ds : List D) (d : D) : Prop := ∃ q a b : Rat, ds = [dFr q, dFr a, dFr b] ∧ (Lg q ∧ Lg a ∧ Lg b) ∧ d = .bool (liesB q a b)
/-- an entry keeps a mark and its true -/
def keepsB (r : Rul) (e : Ent) (m t : Rat) : Bool :=
  bif !liesB m e.lo e.hi || !liesB t e.tlo e.thi then false else bif decide (e.err < qabs (m - t)) then false else match e.gr with
    | none => decide (m = 0)
    | some g => decide (mult r m g)
def R__law_keeps (ds : List D) (d : D) : Prop := ∃ (r : Rul) (e : Ent) (m t : Rat), ds = [dRul r, dEn e, dFr m, dFr t] ∧ (VR r ∧ Lg e.lo ∧ Lg e.hi ∧ Lg e.tlo ∧ Lg e.thi ∧ Lg e.err ∧ GB 900 e.gr ∧ Bt 1900 m ∧ Bt 1900 t) ∧ d = .bool (keepsB r e m t)
theorem dFr_abs (q : Rat) : PyData.tuple [.int (q.num.natAbs : Int), .int (q.den : Int)] = dFr (qabs q) := by
  unfold dFr
  rw [(qabs_nd q).1, (qabs_nd q).2]
theorem Bt_inv {n : Nat} {q : Rat} (h : Bt n q) (h0 : q ≠ 0) : Bt n q⁻¹ := by
  have e : q⁻¹ = Rat.divInt (q.den : Int) q.num := by
    rw [Rat.inv_def]
  rw [e]
  exact Bt.of_divInt (num_ne h0) h.deI h.nu
theorem pos_num {q : Rat} (h : 0 < q) : 0 < q.num := by
  have := Rat.lt_iff (a := 0) (b := q)
  simp at this
  exact this.mp h
theorem neg_num_iff {q : Rat} : q.num < 0 ↔ q < 0 := by
  have := Rat.lt_iff (a := q) (b := 0)
  simp at this
  exact this.symm
theorem dFr_inv {q : Rat} (h : 0 < q) : PyData.tuple [.int (q.den : Int), .int q.num] = dFr q⁻¹ := by
  have hn : 0 < q.num := pos_num h
  have e : q⁻¹ = Rat.divInt (q.den : Int) q.num := by
    rw [Rat.inv_def]
  have e2 : (q⁻¹).num = (q.den : Int) ∧ ((q⁻¹).den : Int) = q.num := by
    have g1 : Int.gcd (q.den : Int) q.num = 1 := by
      have := q.reduced
      rw [Int.gcd_comm]
      unfold Nat.Coprime at this
      unfold Int.gcd
      simpa using this
    have n1 := frac_num (x := (q.den : Int)) (y := q.num) (by omega)
    have n2 := frac_den (x := (q.den : Int)) (y := q.num) (by omega)
    rw [if_neg (by omega), g1] at n1 n2
    rw [e, ← n1, ← n2]
    exact ⟨by simp, by simp⟩
  unfold dFr
  rw [e2.1, e2.2]
def upB (w : Way) (x y : Int) : Bool := match w with
  | .near => decide (y < x % y * 2) || (decide (x % y * 2 = y) && decide (x / y % 2 = 1))
  | .nought => decide (x < 0) && decide (0 < x % y)
  | .up => decide (0 < x % y)
  | .down => false
theorem num_sgn {q s : Rat} (h : 0 < s) : q.num < 0 ↔ (q / s).num < 0 := by
  have hi : 0 < s⁻¹ := Rat.inv_pos.mpr h
  rw [neg_num_iff, neg_num_iff, Rat.div_def]
  constructor
  · intro a
    have := Rat.mul_lt_mul_of_pos_right a hi
    rwa [Rat.zero_mul] at this
  · intro a
    have := Rat.mul_lt_mul_of_pos_right a h
    rwa [Rat.zero_mul, Rat.mul_assoc, Rat.inv_mul_cancel _ (fun z => by rw [z] at h; exact absurd h (Rat.lt_irrefl)), Rat.mul_one] at this
theorem eqv_fr0 (q : Rat) : PyData.bool (PyData.eqv (dFr q) (.tuple [.int 0, .int 1])) = .bool (decide (q = 0)) := by
  have e : (PyData.tuple [.int 0, .int 1]) = dFr 0 := rfl
  rw [e, eqv_fr]
section
variable {P : Program} {w : World} {K : PySem.W.Frag} {mg : Str → Option Value} {base : Heap}
theorem sc__law_mixed : FnScope ["_law_cell", "_law_k", "_law_number_here"] ["_law_cell", "_law_k"] (defScope (top 70)) := ⟨rfl, rfl, rfl, by decide +kernel, rfl, by decide +kernel, by decide +kernel⟩
theorem cal__law_mixed (T : Frees mg) (D0 : DefAt K mg "_law_mixed" 70)  : Cal P w K mg base "_law_mixed" 1 ["_law_cell", "_law_k"] (spP K R__law_mixed) := by
  refine mk_cal D0 sc__law_mixed (fun ds d h => ?_) (fun _ _ _ _ _ _ us hl => match us, hl with | [_, _], _ => rfl) (fun f cdv A outer s H E hr ds d h => ?_)
  · obtain ⟨c, k, rfl, hk, rfl⟩ := h
    rfl
  · obtain ⟨c, k, rfl, hk, rfl⟩ := h
    have k1 : IB 31 48271 := by unfold IB; decide
    have k2 : IB 13 7919 := by unfold IB; decide
    have k3 : IB 5 31 := by unfold IB; decide
    have k4 : IB 17 69621 := by unfold IB; decide
    have hc : IB 31 (c % 2147483629) := emod_IB (by decide) (by unfold IB; decide)
    have ha := IB.mul k2 hk
    have hn : IB 31 (mixN c k) := emod_IB (by decide) (by unfold IB; decide)
    refine pds_set 2 (d := .int (mixN c k)) (pd_mod (pd_add (pd_add (pd_add (pd_mulW (pd_mod (pd_var 0) pd_int (by decide)) pd_int (mulW hc k1 (by decide) (by decide) (by decide))) (pd_mulW (pd_mulW pd_int (pd_var 1) (mulW k2 hk (by decide) (by decide) (by decide))) (pd_var 1) (mulW ha hk (by decide) (by decide) (by decide)))) (pd_mulW pd_int (pd_var 1) (mulW k3 hk (by decide) (by decide) (by decide)))) pd_int) pd_int (by decide)) ?_ sc__law_mixed.nd
    exact pds_ret (pd_fdiv (pd_mod (pd_mulW (pd_var 2) pd_int (mulW hn k4 (by decide) (by decide) (by decide))) pd_int (by decide)) pd_int ⟨by decide, by decide⟩) rfl
theorem sc__law_made : FnScope ["_law_above", "_law_below_here", "_law_one", "_law_other"] ["_law_above", "_law_below_here"] (defScope (top 74)) := ⟨rfl, rfl, rfl, by decide +kernel, rfl, by decide +kernel, by decide +kernel⟩
theorem cal__law_made (T : Frees mg) (D0 : DefAt K mg "_law_made" 74)  : Cal P w K mg base "_law_made" 1 ["_law_above", "_law_below_here"] (spP K R__law_made) := by
  refine mk_cal D0 sc__law_made (fun ds d h => ?_) (fun _ _ _ _ _ _ us hl => match us, hl with | [_, _], _ => rfl) (fun f cdv A outer s H E hr ds d h => ?_)
  · obtain ⟨x, y, rfl, hy, hb, rfl⟩ := h
    rfl
  · obtain ⟨x, y, rfl, hy, hb, rfl⟩ := h
    have hgp := gcd_pos (x := x) hy
    have hgi : IB 8900 (Int.gcd x y : Int) := hb.le (by rw [Int.natAbs_natCast]; exact Nat.le_of_dvd (by omega) (Int.ofNat_dvd_left.mp (Int.gcd_dvd_right x y)))
    refine pds_par 2 3 (pda_cons (pd_abs T.abs (pd_var 0)) (pda_cons (pd_abs T.abs (pd_var 1)) pda_nil)) ?_ (ps_par (by rfl) sc__law_made.nd rfl rfl (by decide) rfl rfl pa_u (by rfl))
    refine pds_while (fun m ρ' => ∃ a b : Nat, ρ' = [some (.int x), some (.int y), some (.int (a : Int)), some (.int (b : Int))] ∧ m = b ∧ Nat.gcd a b = Int.gcd x y) y.natAbs ⟨x.natAbs, y.natAbs, rfl, rfl, rfl⟩ ?_
    rintro m ρ' ⟨a, b, rfl, rfl, hg⟩
    refine ⟨_, pdt_cmp (qc_gt (pd_var 3) pd_int), fun hb => ?_, fun hb => ?_⟩
    · have h0 : (0 : Int) < (m : Int) := of_decide_eq_true hb
      refine pds_par 2 3 (pda_cons (pd_var 3) (pda_cons (pd_mod (pd_var 2) (pd_var 3) h0) pda_nil)) (pds_nil ?_) (ps_par (by rfl) sc__law_made.nd rfl rfl (by decide) rfl rfl pa_u (by rfl))
      refine ⟨a % m, Nat.mod_lt _ (by omega), m, a % m, ?_, rfl, ?_⟩
      · show [some (PyData.int x), some (PyData.int y), some (PyData.int (m : Int)), some (PyData.int ((a : Int) % (m : Int)))] = _
        rw [← Int.natCast_emod]
      · rw [← hg, Nat.gcd_comm a m]
        exact (Nat.gcd_rec m a ▸ Nat.gcd_comm _ _)
    · have h0 : ¬ (0 : Int) < (m : Int) := of_decide_eq_false hb
      have e0 : m = 0 := by omega
      subst e0
      rw [Nat.gcd_zero_right] at hg
      subst hg
      refine pds_set 2 (d := .int (if y < 0 then 0 - (Int.gcd x y : Int) else (Int.gcd x y : Int))) (pd_is (pd_ite (pdt_cmp (qc_gt (pd_var 1) pd_int)) (fun h => (pd_var 2)) (fun h => (pd_sub pd_int (pd_var 2)))) ?_) ?_ sc__law_made.nd
      · by_cases c : 0 < y
        · rw [decide_eq_true c, if_neg (by omega)]
          rfl
        · rw [decide_eq_false c, if_pos (by omega)]
          rfl
      · have hp : CDivG x (if y < 0 then 0 - (Int.gcd x y : Int) else (Int.gcd x y : Int)) ∧ CDivG y (if y < 0 then 0 - (Int.gcd x y : Int) else (Int.gcd x y : Int)) := by
          split
          · rw [Int.zero_sub]
            exact ⟨divG hgi.neg (by omega) (by decide) (by decide), divG hgi.neg (by omega) (by decide) (by decide)⟩
          · exact ⟨divG hgi (by omega) (by decide) (by decide), divG hgi (by omega) (by decide) (by decide)⟩
        refine pds_ret (pd_tup (pda_cons (pd_fdivG (pd_var 0) (pd_var 2) hp.1) (pda_cons (pd_fdivG (pd_var 1) (pd_var 2) hp.2) pda_nil))) ?_
        rw [frac_num hy, frac_den hy]
theorem sc__law_plus : FnScope ["_law_one", "_law_other"] ["_law_one", "_law_other"] (defScope (top 75)) := ⟨rfl, rfl, rfl, by decide +kernel, rfl, by decide +kernel, by decide +kernel⟩
theorem cal__law_plus (T : Frees mg) (D0 : DefAt K mg "_law_plus" 75) (c__law_made : Cal P w K mg base "_law_made" 1 ["_law_above", "_law_below_here"] (spP K R__law_made)) : Cal P w K mg base "_law_plus" 2 ["_law_one", "_law_other"] (spP K R__law_plus) := by
  refine mk_cal D0 sc__law_plus (fun ds d h => ?_) (fun _ _ _ _ _ _ us hl => match us, hl with | [_, _], _ => rfl) (fun f cdv A outer s H E hr ds d h => ?_)
  · obtain ⟨a, b, rfl, ⟨ha, hb⟩, rfl⟩ := h
    rfl
  · obtain ⟨a, b, rfl, ⟨ha, hb⟩, rfl⟩ := h
    refine pds_ret (pd_call c__law_made hr (pda_cons (pd_add (pd_mulW (pd_ixT (pd_var 0) pd_int) (pd_ixT (pd_var 1) pd_int) (by walk_at "mw")) (pd_mulW (pd_ixT (pd_var 1) pd_int) (pd_ixT (pd_var 0) pd_int) (by walk_at "mw"))) (pda_cons (pd_mulW (pd_ixT (pd_var 0) pd_int) (pd_ixT (pd_var 1) pd_int) (by walk_at "mw")) pda_nil)) ⟨_, _, rfl, (by first | exact Int.mul_ne_zero (den_ne _) (den_ne _) | exact Int.mul_ne_zero (den_ne _) (num_ne (by assumption))), (by first | exact IB.mono (IB.mul (by walk_at "ib") (by walk_at "ib")) (by decide)), rfl⟩) ?_
    rw [plus_eq]
theorem sc__law_less : FnScope ["_law_one", "_law_other"] ["_law_one", "_law_other"] (defScope (top 76)) := ⟨rfl, rfl, rfl, by decide +kernel, rfl, by decide +kernel, by decide +kernel⟩
theorem cal__law_less (T : Frees mg) (D0 : DefAt K mg "_law_less" 76) (c__law_made : Cal P w K mg base "_law_made" 1 ["_law_above", "_law_below_here"] (spP K R__law_made)) : Cal P w K mg base "_law_less" 2 ["_law_one", "_law_other"] (spP K R__law_less) := by
  refine mk_cal D0 sc__law_less (fun ds d h => ?_) (fun _ _ _ _ _ _ us hl => match us, hl with | [_, _], _ => rfl) (fun f cdv A outer s H E hr ds d h => ?_)
  · obtain ⟨a, b, rfl, ⟨ha, hb⟩, rfl⟩ := h
    rfl
  · obtain ⟨a, b, rfl, ⟨ha, hb⟩, rfl⟩ := h
    refine pds_ret (pd_call c__law_made hr (pda_cons (pd_sub (pd_mulW (pd_ixT (pd_var 0) pd_int) (pd_ixT (pd_var 1) pd_int) (by walk_at "mw")) (pd_mulW (pd_ixT (pd_var 1) pd_int) (pd_ixT (pd_var 0) pd_int) (by walk_at "mw"))) (pda_cons (pd_mulW (pd_ixT (pd_var 0) pd_int) (pd_ixT (pd_var 1) pd_int) (by walk_at "mw")) pda_nil)) ⟨_, _, rfl, (by first | exact Int.mul_ne_zero (den_ne _) (den_ne _) | exact Int.mul_ne_zero (den_ne _) (num_ne (by assumption))), (by first | exact IB.mono (IB.mul (by walk_at "ib") (by walk_at "ib")) (by decide)), rfl⟩) ?_
    rw [less_eq]
theorem sc__law_times : FnScope ["_law_one", "_law_other"] ["_law_one", "_law_other"] (defScope (top 77)) := ⟨rfl, rfl, rfl, by decide +kernel, rfl, by decide +kernel, by decide +kernel⟩
theorem cal__law_times (T : Frees mg) (D0 : DefAt K mg "_law_times" 77) (c__law_made : Cal P w K mg base "_law_made" 1 ["_law_above", "_law_below_here"] (spP K R__law_made)) : Cal P w K mg base "_law_times" 2 ["_law_one", "_law_other"] (spP K R__law_times) := by
  refine mk_cal D0 sc__law_times (fun ds d h => ?_) (fun _ _ _ _ _ _ us hl => match us, hl with | [_, _], _ => rfl) (fun f cdv A outer s H E hr ds d h => ?_)
  · obtain ⟨a, b, rfl, ⟨ha, hb⟩, rfl⟩ := h
    rfl
  · obtain ⟨a, b, rfl, ⟨ha, hb⟩, rfl⟩ := h
    refine pds_ret (pd_call c__law_made hr (pda_cons (pd_mulW (pd_ixT (pd_var 0) pd_int) (pd_ixT (pd_var 1) pd_int) (by walk_at "mw")) (pda_cons (pd_mulW (pd_ixT (pd_var 0) pd_int) (pd_ixT (pd_var 1) pd_int) (by walk_at "mw")) pda_nil)) ⟨_, _, rfl, (by first | exact Int.mul_ne_zero (den_ne _) (den_ne _) | exact Int.mul_ne_zero (den_ne _) (num_ne (by assumption))), (by first | exact IB.mono (IB.mul (by walk_at "ib") (by walk_at "ib")) (by decide)), rfl⟩) ?_
    rw [times_eq]
theorem sc__law_below : FnScope ["_law_one", "_law_other"] ["_law_one", "_law_other"] (defScope (top 78)) := ⟨rfl, rfl, rfl, by decide +kernel, rfl, by decide +kernel, by decide +kernel⟩
theorem cal__law_below (T : Frees mg) (D0 : DefAt K mg "_law_below" 78)  : Cal P w K mg base "_law_below" 1 ["_law_one", "_law_other"] (spP K R__law_below) := by
  refine mk_cal D0 sc__law_below (fun ds d h => ?_) (fun _ _ _ _ _ _ us hl => match us, hl with | [_, _], _ => rfl) (fun f cdv A outer s H E hr ds d h => ?_)
  · obtain ⟨a, b, rfl, ⟨ha, hb⟩, rfl⟩ := h
    rfl
  · obtain ⟨a, b, rfl, ⟨ha, hb⟩, rfl⟩ := h
    refine pds_ret (pd_cmp (qc_lt (pd_mulW (pd_ixT (pd_var 0) pd_int) (pd_ixT (pd_var 1) pd_int) (by walk_at "mw")) (pd_mulW (pd_ixT (pd_var 1) pd_int) (pd_ixT (pd_var 0) pd_int) (by walk_at "mw")))) ?_
    rw [lt_dec]
theorem sc__law_over : FnScope ["_law_one", "_law_other"] ["_law_one", "_law_other"] (defScope (top 79)) := ⟨rfl, rfl, rfl, by decide +kernel, rfl, by decide +kernel, by decide +kernel⟩
theorem cal__law_over (T : Frees mg) (D0 : DefAt K mg "_law_over" 79) (c__law_made : Cal P w K mg base "_law_made" 1 ["_law_above", "_law_below_here"] (spP K R__law_made)) : Cal P w K mg base "_law_over" 2 ["_law_one", "_law_other"] (spP K R__law_over) := by
  refine mk_cal D0 sc__law_over (fun ds d h => ?_) (fun _ _ _ _ _ _ us hl => match us, hl with | [_, _], _ => rfl) (fun f cdv A outer s H E hr ds d h => ?_)
  · obtain ⟨a, b, rfl, ⟨ha, hb, h0⟩, rfl⟩ := h
    rfl
  · obtain ⟨a, b, rfl, ⟨ha, hb, h0⟩, rfl⟩ := h
    refine pds_ret (pd_call c__law_made hr (pda_cons (pd_mulW (pd_ixT (pd_var 0) pd_int) (pd_ixT (pd_var 1) pd_int) (by walk_at "mw")) (pda_cons (pd_mulW (pd_ixT (pd_var 0) pd_int) (pd_ixT (pd_var 1) pd_int) (by walk_at "mw")) pda_nil)) ⟨_, _, rfl, (by first | exact Int.mul_ne_zero (den_ne _) (den_ne _) | exact Int.mul_ne_zero (den_ne _) (num_ne (by assumption))), (by first | exact IB.mono (IB.mul (by walk_at "ib") (by walk_at "ib")) (by decide)), rfl⟩) ?_
    rw [over_eq]
theorem sc__law_ends : FnScope ["_law_some", "_law_low", "_law_high", "_law_one"] ["_law_some"] (defScope (top 80)) := ⟨rfl, rfl, rfl, by decide +kernel, rfl, by decide +kernel, by decide +kernel⟩
theorem cal__law_ends (T : Frees mg) (D0 : DefAt K mg "_law_ends" 80) (c__law_below : Cal P w K mg base "_law_below" 1 ["_law_one", "_law_other"] (spP K R__law_below)) : Cal P w K mg base "_law_ends" 2 ["_law_some"] (spP K R__law_ends) := by
  refine mk_cal D0 sc__law_ends (fun ds d h => ?_) (fun _ _ _ _ _ _ us hl => match us, hl with | [_], _ => rfl) (fun f cdv A outer s H E hr ds d h => ?_)
  · obtain ⟨a, b, rfl, ⟨ha, hb⟩, rfl⟩ := h
    rfl
  · obtain ⟨a, b, rfl, ⟨ha, hb⟩, rfl⟩ := h
    refine pds_par 1 2 (pda_cons (pd_ixL (pd_var 0) pd_int) (pda_cons (pd_ixL (pd_var 0) pd_int) pda_nil)) ?_ (ps_par (by rfl) sc__law_ends.nd rfl rfl (by decide) rfl rfl pa_u (by rfl))
    have naa : decide (a < a) = false := decide_eq_false (Rat.lt_irrefl)
    refine pds_forL 3 (pd_var 0) (fun n ρ' => ∃ x : Option D, ρ' = [some (.list [dFr a, dFr b]), some (dFr (if n ≤ 1 then a else qmin a b)), some (dFr (if n ≤ 1 then a else qmax a b)), x]) ⟨none, rfl⟩ ?_ ?_ (nd := sc__law_ends.nd)
    · rintro n d ρ' hn ⟨x, rfl⟩
      match n, hn with
      | 0, hn =>
        obtain rfl : dFr a = d := Option.some.inj hn
        refine pds_set 1 (pd_is (pd_ite (pdt_val (pd_call c__law_below hr (pda_cons (pd_var 3) (pda_cons (pd_var 1) pda_nil)) ⟨a, a, rfl, ⟨ha, ha⟩, rfl⟩)) (fun h => pd_var 3) (fun h => pd_var 1)) (d2 := dFr a) (by dsimp only; rw [naa]; rfl)) ?_ sc__law_ends.nd
        refine pds_set 2 (pd_is (pd_ite (pdt_val (pd_call c__law_below hr (pda_cons (pd_var 2) (pda_cons (pd_var 3) pda_nil)) ⟨a, a, rfl, ⟨ha, ha⟩, rfl⟩)) (fun h => pd_var 3) (fun h => pd_var 2)) (d2 := dFr a) (by dsimp only; rw [naa]; rfl)) (pds_nil ?_) sc__law_ends.nd
        exact ⟨_, rfl⟩
      | 1, hn =>
        obtain rfl : dFr b = d := Option.some.inj hn
        refine pds_set 1 (pd_is (pd_ite (pdt_val (pd_call c__law_below hr (pda_cons (pd_var 3) (pda_cons (pd_var 1) pda_nil)) ⟨b, a, rfl, ⟨hb, ha⟩, rfl⟩)) (fun h => pd_var 3) (fun h => pd_var 1)) (d2 := dFr (qmin a b)) (by unfold qmin; by_cases c : b < a <;> simp [c])) ?_ sc__law_ends.nd
        refine pds_set 2 (pd_is (pd_ite (pdt_val (pd_call c__law_below hr (pda_cons (pd_var 2) (pda_cons (pd_var 3) pda_nil)) ⟨a, b, rfl, ⟨ha, hb⟩, rfl⟩)) (fun h => pd_var 3) (fun h => pd_var 2)) (d2 := dFr (qmax a b)) (by unfold qmax; by_cases c : a < b <;> simp [c])) (pds_nil ?_) sc__law_ends.nd
        exact ⟨_, rfl⟩
      | n + 2, hn => simp at hn
    · rintro ρ' ⟨x, rfl⟩
      exact pds_ret (pd_tup (pda_cons (pd_var 1) (pda_cons (pd_var 2) pda_nil))) rfl
theorem sc__law_power : FnScope ["_law_base", "_law_exponent", "_law_found", "_law_turn"] ["_law_base", "_law_exponent"] (defScope (top 82)) := ⟨rfl, rfl, rfl, by decide +kernel, rfl, by decide +kernel, by decide +kernel⟩
theorem cal__law_power (T : Frees mg) (D0 : DefAt K mg "_law_power" 82)  : Cal P w K mg base "_law_power" 1 ["_law_base", "_law_exponent"] (spP K R__law_power) := by
  refine mk_cal D0 sc__law_power (fun ds d h => ?_) (fun _ _ _ _ _ _ us hl => match us, hl with | [_, _], _ => rfl) (fun f cdv A outer s H E hr ds d h => ?_)
  · obtain ⟨B, e, rfl, ⟨h2, h16, hl, hh⟩, rfl⟩ := h
    rfl
  · obtain ⟨B, e, rfl, ⟨h2, h16, hl, hh⟩, rfl⟩ := h
    refine pds_set 2 pd_int ?_ sc__law_power.nd
    refine pds_forR 3 (pd_abs T.abs (pd_var 1)) ⟨by omega, by omega⟩ T.range (fun n ρ' => ∃ x : Option D, n ≤ e.natAbs ∧ ρ' = [some (.int B), some (.int e), some (.int (B ^ n)), x]) ⟨none, Nat.zero_le _, by rw [Int.pow_zero]; rfl⟩ ?_ ?_ (nd := sc__law_power.nd)
    · rintro n ρ' hn ⟨x, hle, rfl⟩
      have h1 : IB 36001 (B ^ n) := (ipow_IB h2 h16 n).mono (by omega)
      have h3 : IB 5 B := by unfold IB; omega
      exact pds_set 2 (pd_mulW (pd_var 2) (pd_var 0) (mulW h1 h3 (by decide) (by decide) (by decide))) (pds_nil ⟨_, by omega, by rw [Int.pow_succ]; rfl⟩) sc__law_power.nd
    · rintro ρ' ⟨x, hle, rfl⟩
      have en : ((e.natAbs : Int)).toNat = e.natAbs := by omega
      refine pds_ret (pd_is (pd_ite (pdt_cmp (qc_ge (pd_var 1) pd_int)) (fun h => (pd_tup (pda_cons (pd_var 2) (pda_cons pd_int pda_nil)))) (fun h => (pd_tup (pda_cons pd_int (pda_cons (pd_var 2) pda_nil))))) ?_) rfl
      rw [en]
      obtain ⟨p1, p2⟩ := pow_nd h2 e
      by_cases c : 0 ≤ e
      · obtain ⟨q1, q2⟩ := p1 c
        rw [decide_eq_true c, show e.natAbs = e.toNat by omega]
        unfold dFr
        rw [q1, q2]
        rfl
      · obtain ⟨q1, q2⟩ := p2 (by omega)
        rw [decide_eq_false c, show e.natAbs = (-e).toNat by omega]
        unfold dFr
        rw [q1, q2]
        rfl
theorem sc__law_place : FnScope ["_law_ruler_here", "_law_number_here", "_law_found"] ["_law_ruler_here", "_law_number_here"] (defScope (top 83)) := ⟨rfl, rfl, rfl, by decide +kernel, rfl, by decide +kernel, by decide +kernel⟩
theorem cal__law_place (T : Frees mg) (D0 : DefAt K mg "_law_place" 83) (c__law_below : Cal P w K mg base "_law_below" 1 ["_law_one", "_law_other"] (spP K R__law_below)) (c__law_power : Cal P w K mg base "_law_power" 1 ["_law_base", "_law_exponent"] (spP K R__law_power)) : Cal P w K mg base "_law_place" 2 ["_law_ruler_here", "_law_number_here"] (spP K R__law_place) := by
  refine mk_cal D0 sc__law_place (fun ds d h => ?_) (fun _ _ _ _ _ _ us hl => match us, hl with | [_, _], _ => rfl) (fun f cdv A outer s H E hr ds d h => ?_)
  · obtain ⟨r, q, rfl, ⟨v, hq⟩, rfl⟩ := h
    rfl
  · obtain ⟨r, q, rfl, ⟨v, hq⟩, rfl⟩ := h
    have l4 := v.l4
    have l1 := v.l1
    have f1 := v.f1
    have f3 := v.f3
    have hge := plc_ge v q
    have hle := plc_le v hq
    have hqa : Sm (qabs q) := hq.abs.mono (by decide)
    refine pds_set 2 (pd_ixT (pd_var 0) pd_int) ?_ sc__law_place.nd
    refine pds_while (fun m ρ' => ∃ k : Int, ρ' = [some (dRul r), some (dFr q), some (.int k)] ∧ m = (plc r q - k).toNat ∧ r.L ≤ k ∧ k ≤ plc r q) (plc r q - r.L).toNat ⟨r.L, rfl, rfl, by omega, by omega⟩ ?_
    rintro m ρ' ⟨k, rfl, rfl, h1, h2⟩
    have hpw : Lg (pw r (k + r.F)) := (pw_Bt v (k + r.F) (m := 9000) (by omega) (by omega)).mono (by decide)
    refine ⟨_, pdt_not (pdt_val (pd_call c__law_below (hr.mono (by decide)) (pda_cons (pd_is (pd_tup (pda_cons (pd_abs T.abs (pd_ixT (pd_var 1) pd_int)) (pda_cons (pd_ixT (pd_var 1) pd_int) pda_nil))) (dFr_abs q)) (pda_cons (pd_call c__law_power (hr.mono (by decide)) (pda_cons (pd_ixT (pd_var 0) pd_int) (pda_cons (pd_add (pd_var 2) (pd_ixT (pd_var 0) pd_int)) pda_nil)) ⟨r.B, k + r.F, rfl, ⟨v.b2, v.b16, by omega, by omega⟩, rfl⟩) pda_nil)) ⟨qabs q, pw r (k + r.F), rfl, ⟨hqa.lg, hpw⟩, rfl⟩)), fun hb => ?_, fun hb => ?_⟩
    · have hb := of_decide_eq_false (Bool.not_eq_true' _ ▸ hb)
      have : ¬ plc r q ≤ k := fun z => hb ((enough_iff v q h1).mpr z)
      refine pds_set 2 (pd_add (pd_var 2) pd_int) (pds_nil ?_) sc__law_place.nd
      exact ⟨_, by omega, k + 1, rfl, rfl, by omega, by omega⟩
    · have hb := of_decide_eq_true (Bool.not_eq_false' _ ▸ hb)
      have := (enough_iff v q h1).mp hb
      refine pds_ret (pd_var 2) ?_
      rw [show plc r q = k by omega]
theorem sc__law_rounded : FnScope ["_law_ruler_here", "_law_number_here", "_law_step", "_law_turns", "_law_whole", "_law_rest", "_law_up"] ["_law_ruler_here", "_law_number_here"] (defScope (top 84)) := ⟨rfl, rfl, rfl, by decide +kernel, rfl, by decide +kernel, by decide +kernel⟩
theorem cal__law_rounded (T : Frees mg) (D0 : DefAt K mg "_law_rounded" 84) (c__law_times : Cal P w K mg base "_law_times" 2 ["_law_one", "_law_other"] (spP K R__law_times)) (c__law_power : Cal P w K mg base "_law_power" 1 ["_law_base", "_law_exponent"] (spP K R__law_power)) (c__law_place : Cal P w K mg base "_law_place" 2 ["_law_ruler_here", "_law_number_here"] (spP K R__law_place)) : Cal P w K mg base "_law_rounded" 3 ["_law_ruler_here", "_law_number_here"] (spP K R__law_rounded) := by
  refine mk_cal D0 sc__law_rounded (fun ds d h => ?_) (fun _ _ _ _ _ _ us hl => match us, hl with | [_, _], _ => rfl) (fun f cdv A outer s H E hr ds d h => ?_)
  · obtain ⟨r, q, rfl, ⟨v, hq⟩, rfl⟩ := h
    rfl
  · obtain ⟨r, q, rfl, ⟨v, hq⟩, rfl⟩ := h
    have hs := stp_Bt v hq (by decide)
    have sp := stp_pos v q
    have hi : Bt 1300 (stp r q)⁻¹ := Bt_inv hs (stp_ne v q)
    have ht := hq.mul hi
    have hw := Bt.int (wr_IB v q) (by decide)
    have l4 := v.l4
    have l1 := v.l1
    have f1 := v.f1
    have hge := plc_ge v q
    have hle := plc_le v hq
    have eq : q * (stp r q)⁻¹ = q / stp r q := (Rat.div_def _ _).symm
    rw [eq] at ht
    obtain ⟨x, hx⟩ : ∃ x, x = (q / stp r q).num := ⟨_, rfl⟩
    obtain ⟨y, hy⟩ : ∃ y, y = ((q / stp r q).den : Int) := ⟨_, rfl⟩
    have y0 : 0 < y := by have := (q / stp r q).den_nz; omega
    have yI : IB 8900 y := by rw [hy]; exact ht.deI.mono (by decide)
    have hm : IB 8900 (x % y) := yI.le (by have := Int.emod_nonneg x (show y ≠ 0 by omega); have := Int.emod_lt_of_pos x y0; omega)
    have hm2 : CMulW 2 (x % y) := mulW (show IB 2 2 by unfold IB; decide) hm (by decide) (by decide) (by decide)
    refine pds_set 2 (pd_call c__law_power (hr.mono (by decide)) (pda_cons (pd_ixT (pd_var 0) pd_int) (pda_cons (pd_call c__law_place hr (pda_cons (pd_var 0) (pda_cons (pd_var 1) pda_nil)) ⟨r, q, rfl, ⟨v, hq.mono (by decide)⟩, rfl⟩) pda_nil)) ⟨r.B, plc r q, rfl, ⟨v.b2, v.b16, by omega, by omega⟩, rfl⟩) ?_ sc__law_rounded.nd
    refine pds_set 3 (d := .tuple [.int x, .int y]) (pd_is (pd_call c__law_times hr (pda_cons (pd_var 1) (pda_cons (pd_is (pd_tup (pda_cons (pd_ixT (pd_var 2) pd_int) (pda_cons (pd_ixT (pd_var 2) pd_int) pda_nil))) (dFr_inv sp)) pda_nil)) ⟨q, (stp r q)⁻¹, rfl, ⟨hq.mono (by decide), hi.mono (by decide)⟩, rfl⟩) (by show dFr (q * (stp r q)⁻¹) = _; rw [eq, hx, hy])) ?_ sc__law_rounded.nd
    refine pds_par 4 5 (pda_cons (pd_fdivW (pd_ixT (pd_var 3) pd_int) (pd_ixT (pd_var 3) pd_int) (wide_div y0 yI (by decide) (by decide))) (pda_cons (pd_mod (pd_ixT (pd_var 3) pd_int) (pd_ixT (pd_var 3) pd_int) y0) pda_nil)) ?_ (ps_par (by rfl) sc__law_rounded.nd rfl rfl (by decide) rfl rfl pa_u (by rfl))
    have hsg : decide (q.num < 0) = decide (x < 0) := by
      rw [hx]
      exact decide_eq_decide.mpr (num_sgn sp)
    obtain ⟨wy, hwy⟩ : ∃ wy, wy = r.way := ⟨_, rfl⟩
    refine pds_if (N1 := fun ρ' => ρ' = [some (dRul r), some (dFr q), some (dFr (stp r q)), some (.tuple [.int x, .int y]), some (.int (x / y)), some (.int (x % y)), some (.bool (upB wy x y))]) (pdt_cmp (qc_eqS (pd_ixT (pd_var 0) pd_int) pd_str)) (fun hb => ?_) (fun hb => ?_) ?_
    · have hw : r.way = .near := by cases h : r.way <;> rw [h] at hb <;> first | rfl | exact absurd hb (by decide +kernel)
      rw [hw] at hwy
      subst hwy
      refine pds_set 6 (pd_is (pd_or (pd_cmp (qc_gt (pd_mulW pd_int (pd_var 5) hm2) (pd_ixT (pd_var 3) pd_int))) fun _ => (pd_one (pd_and (pd_cmp (qc_eqI (pd_mulW pd_int (pd_var 5) hm2) (pd_ixT (pd_var 3) pd_int))) fun _ => (pd_one (pd_cmp (qc_eqI (pd_mod (pd_var 4) pd_int (by decide)) pd_int)))))) (d2 := .bool (decide (y < x % y * 2) || (decide (x % y * 2 = y) && decide (x / y % 2 = 1)))) (by rw [Int.mul_comm 2])) (pds_nil rfl) sc__law_rounded.nd
    · refine pds_one (pd1_if (pdt_cmp (qc_eqS (pd_ixT (pd_var 0) pd_int) pd_str)) (fun hc => ?_) (fun hc => ?_))
      · have hw : r.way = .nought := by cases h : r.way <;> rw [h] at hc <;> first | rfl | exact absurd hc (by decide +kernel)
        rw [hw] at hwy
        subst hwy
        exact pds_set 6 (pd_is (pd_and (pd_cmp (qc_lt (pd_ixT (pd_var 1) pd_int) pd_int)) fun _ => (pd_one (pd_cmp (qc_gt (pd_var 5) pd_int)))) (d2 := .bool (decide (x < 0) && decide (0 < x % y))) (by rw [hsg])) (pds_nil rfl) sc__law_rounded.nd
      · refine pds_set 6 (pd_and (pd_cmp (qc_eqS (pd_ixT (pd_var 0) pd_int) pd_str)) fun _ => (pd_one (pd_cmp (qc_gt (pd_var 5) pd_int)))) (pds_nil ?_) sc__law_rounded.nd
        rw [← hwy] at hb hc
        show [some (dRul r), some (dFr q), some (dFr (stp r q)), some (.tuple [.int x, .int y]), some (.int (x / y)), some (.int (x % y)), some (.bool (decide (r.way.str = ("up" : Str)) && decide (0 < x % y)))] = _
        rw [← hwy]
        cases wy with
        | near => exact absurd hb (by decide +kernel)
        | nought => exact absurd hc (by decide +kernel)
        | up =>
          rw [show decide (Way.str .up = ("up" : Str)) = true by decide +kernel]
          rfl
        | down =>
          rw [show decide (Way.str .down = ("up" : Str)) = false by decide +kernel]
          rfl
    · rintro ρ' rfl
      refine pds_ret (pd_call c__law_times hr (pda_cons (pd_is (pd_tup (pda_cons (pd_add (pd_var 4) (pd_intB T.int (pd_var 6))) (pda_cons pd_int pda_nil))) (d2 := dFr (wr r.way (q / stp r q) : Rat)) ?_) (pda_cons (pd_var 2) pda_nil)) ⟨(wr r.way (q / stp r q) : Rat), stp r q, rfl, ⟨hw.mono (by decide), hs.mono (by decide)⟩, rfl⟩) rfl
      unfold dFr
      rw [Rat.num_intCast, Rat.den_intCast]
      unfold wr wb
      rw [← hx, ← hy, ← hwy]
      cases wy <;> rfl
theorem sc__law_lies : FnScope ["_law_number_here", "_law_low", "_law_high"] ["_law_number_here", "_law_low", "_law_high"] (defScope (top 93)) := ⟨rfl, rfl, rfl, by decide +kernel, rfl, by decide +kernel, by decide +kernel⟩
theorem cal__law_lies (T : Frees mg) (D0 : DefAt K mg "_law_lies" 93) (c__law_below : Cal P w K mg base "_law_below" 1 ["_law_one", "_law_other"] (spP K R__law_below)) : Cal P w K mg base "_law_lies" 2 ["_law_number_here", "_law_low", "_law_high"] (spP K R__law_lies) := by
  refine mk_cal D0 sc__law_lies (fun ds d h => ?_) (fun _ _ _ _ _ _ us hl => match us, hl with | [_, _, _], _ => rfl) (fun f cdv A outer s H E hr ds d h => ?_)
  · obtain ⟨q, a, b, rfl, ⟨hq, ha, hb⟩, rfl⟩ := h
    rfl
  · obtain ⟨q, a, b, rfl, ⟨hq, ha, hb⟩, rfl⟩ := h
    refine pds_ret (pd_and (pd_not (pd_call c__law_below hr (pda_cons (pd_var 0) (pda_cons (pd_var 1) pda_nil)) ⟨_, _, rfl, ⟨by assumption, by assumption⟩, rfl⟩)) fun _ => (pd_one (pd_not (pd_call c__law_below hr (pda_cons (pd_var 2) (pda_cons (pd_var 0) pda_nil)) ⟨_, _, rfl, ⟨by assumption, by assumption⟩, rfl⟩)))) ?_
    rfl
theorem sc__law_keeps : FnScope ["_law_ruler_here", "_law_entry", "_law_mark_here", "_law_true", "_law_far", "_law_step"] ["_law_ruler_here", "_law_entry", "_law_mark_here", "_law_true"] (defScope (top 94)) := ⟨rfl, rfl, rfl, by decide +kernel, rfl, by decide +kernel, by decide +kernel⟩
theorem cal__law_keeps (T : Frees mg) (D0 : DefAt K mg "_law_keeps" 94) (c__law_less : Cal P w K mg base "_law_less" 2 ["_law_one", "_law_other"] (spP K R__law_less)) (c__law_times : Cal P w K mg base "_law_times" 2 ["_law_one", "_law_other"] (spP K R__law_times)) (c__law_below : Cal P w K mg base "_law_below" 1 ["_law_one", "_law_other"] (spP K R__law_below)) (c__law_power : Cal P w K mg base "_law_power" 1 ["_law_base", "_law_exponent"] (spP K R__law_power)) (c__law_lies : Cal P w K mg base "_law_lies" 2 ["_law_number_here", "_law_low", "_law_high"] (spP K R__law_lies)) : Cal P w K mg base "_law_keeps" 3 ["_law_ruler_here", "_law_entry", "_law_mark_here", "_law_true"] (spP K R__law_keeps) := by
  refine mk_cal D0 sc__law_keeps (fun ds d h => ?_) (fun _ _ _ _ _ _ us hl => match us, hl with | [_, _, _, _], _ => rfl) (fun f cdv A outer s H E hr ds d h => ?_)
  · obtain ⟨r, e, m, t, rfl, ⟨v, hl, hh, hl2, hh2, hE, hg, hm, ht⟩, rfl⟩ := h
    rfl
  · obtain ⟨r, e, m, t, rfl, ⟨v, hl, hh, hl2, hh2, hE, hg, hm, ht⟩, rfl⟩ := h
    have hu := units_of hr
    have hf : Sm (m - t) := (hm.sub ht).mono (by decide)
    have hfa : Lg (qabs (m - t)) := hf.abs.mono (by decide)
    refine pds_set 4 (pd_call c__law_less (hr.mono (by decide)) (pda_cons (pd_var 2) (pda_cons (pd_var 3) pda_nil)) ⟨m, t, rfl, ⟨hm.mono (by decide), ht.mono (by decide)⟩, rfl⟩) ?_ sc__law_keeps.nd
    refine pds_ifR (pdw (pdw_or (pdt_not (pdt_val (pd_call c__law_lies (hr.mono (by decide)) (pda_cons (pd_var 2) (pda_cons (pd_ixT (pd_var 1) pd_int) (pda_cons (pd_ixT (pd_var 1) pd_int) pda_nil))) ⟨m, e.lo, e.hi, rfl, ⟨hm.mono (by decide), hl, hh⟩, rfl⟩))) fun _ => (pdw_or1 (pdt_not (pdt_val (pd_call c__law_lies (hr.mono (by decide)) (pda_cons (pd_var 3) (pda_cons (pd_ixT (pd_var 1) pd_int) (pda_cons (pd_ixT (pd_var 1) pd_int) pda_nil))) ⟨t, e.tlo, e.thi, rfl, ⟨ht.mono (by decide), hl2, hh2⟩, rfl⟩)))))) (fun hb => ?_) (fun hb => ?_)
    · refine pds_ret pd_bl ?_
      unfold keepsB
      rw [hb]
      rfl
    refine pds_ifR (pdt_val (pd_call c__law_below (hr.mono (by decide)) (pda_cons (pd_ixT (pd_var 1) pd_int) (pda_cons (pd_is (pd_tup (pda_cons (pd_abs T.abs (pd_ixT (pd_var 4) pd_int)) (pda_cons (pd_ixT (pd_var 4) pd_int) pda_nil))) (dFr_abs (m - t))) pda_nil)) ⟨e.err, qabs (m - t), rfl, ⟨hE, hfa⟩, rfl⟩)) (fun hc => ?_) (fun hc => ?_)
    all_goals replace hc : decide (e.err < qabs (m - t)) = _ := hc
    · refine pds_ret pd_bl ?_
      unfold keepsB
      rw [hb, hc]
      rfl
    refine pds_ifR (pdt_cmp (qc_isN (pd_ixT (pd_var 1) pd_int))) (fun hd => ?_) (fun hd => ?_)
    · have hd := gr_none (o := e.gr) ▸ hd
      refine pds_ret (pd_is (pd_cmp (qc_eqD hu (pd_var 2) (pd_tup (pda_cons pd_int (pda_cons pd_int pda_nil))) rfl rfl)) (eqv_fr0 m)) ?_
      unfold keepsB
      rw [hb, hc]
      cases h : e.gr with
      | none => rfl
      | some g =>
        rw [h] at hd
        cases hd
    · have hd := gr_none (o := e.gr) ▸ hd
      cases h : e.gr with
      | none =>
        rw [h] at hd
        cases hd
      | some g =>
        have hgb := hg g h
        have hpw : Bt 3601 (pw r g) := pw_Bt v g (m := 900) (by omega) (by omega)
        have hpi := Bt_inv hpw (pw_ne v g)
        have ei : atI [dFr e.lo, dFr e.hi, dFr e.tlo, dFr e.thi, dFr e.err, dGr e.gr] 5 = some (.int g) := by
          rw [h]
          rfl
        refine pds_set 5 (pd_call c__law_power (hr.mono (by decide)) (pda_cons (pd_ixT (pd_var 0) pd_int) (pda_cons (pd_ixT (pd_var 1) pd_int ei) pda_nil)) ⟨r.B, g, rfl, ⟨v.b2, v.b16, by omega, by omega⟩, rfl⟩) ?_ sc__law_keeps.nd
        refine pds_ret (pd_cmp (qc_eqI (pd_ixT (pd_call c__law_times (hr.mono (by decide)) (pda_cons (pd_var 2) (pda_cons (pd_is (pd_tup (pda_cons (pd_ixT (pd_var 5) pd_int) (pda_cons (pd_ixT (pd_var 5) pd_int) pda_nil))) (dFr_inv (pw_pos v g))) pda_nil)) ⟨m, (pw r g)⁻¹, rfl, ⟨hm.mono (by decide), hpi.mono (by decide)⟩, rfl⟩) pd_int) pd_int)) ?_
        unfold keepsB
        rw [hb, hc, h]
        refine congrArg PyData.bool ?_
        show decide ((((m * (pw r g)⁻¹ : Rat)).den : Int) = 1) = decide (mult r m g)
        refine decide_eq_decide.mpr ?_
        unfold mult
        rw [Rat.div_def]
        omega
end
end Rs
end

section
set_option Elab.async false
set_option linter.all false
set_option maxRecDepth 100000
set_option maxHeartbeats 8000000
namespace Rs
open PySem PySem.Spec L2
@[reducible] def oFr : Option Rat → D
  | none => .none
  | some q => dFr q
theorem m1_Bt : Sm (-1) := (show Bt 2 (-1) from ⟨by unfold IB; decide, by decide⟩).mono (by decide)
def spEx (K : PySem.W.Frag) : Sp := fun vs H Q _ => ∃ (F : Hp) (wk : Wk Str) (v1 : V) (a : Addr) (kvs : List (Key × V)) (kv : Str → Rat), vs = [v1, .ref a] ∧ Same F H ∧ Dp K F v1 (dWk wk) ∧
  OwnD a kvs (Tell K kvs (wkNs wk) (fun n => dFr (kv n))) F H ∧ (∀ n ∈ wkNs wk, Bt 900 (kv n)) ∧ ∀ v F' H', Step F H F' H' → Dp K F' v (oFr (exa kv wk)) → Q v H'
section
variable {P : Program} {w : World} {K : PySem.W.Frag} {mg : Str → Option Value} {base : Heap} {C : Addr}
theorem sc__law_exact : FnScope ["_law_work", "_law_values", "_law_word", "_law_some", "_law_name"] ["_law_work", "_law_values"] (defScope (top 90)) := ⟨rfl, rfl, rfl, by decide +kernel, rfl, by decide +kernel, by decide +kernel⟩
theorem cal__law_exact (T : Frees mg) (D0 : DefAt K mg "_law_exact" 90) (c__law_plus : Cal P w K mg base "_law_plus" 2 ["_law_one", "_law_other"] (spP K R__law_plus)) (c__law_less : Cal P w K mg base "_law_less" 2 ["_law_one", "_law_other"] (spP K R__law_less)) (c__law_times : Cal P w K mg base "_law_times" 2 ["_law_one", "_law_other"] (spP K R__law_times)) (c__law_over : Cal P w K mg base "_law_over" 2 ["_law_one", "_law_other"] (spP K R__law_over)) (c__law_below : Cal P w K mg base "_law_below" 1 ["_law_one", "_law_other"] (spP K R__law_below)) (c__law_ends : Cal P w K mg base "_law_ends" 2 ["_law_some"] (spP K R__law_ends)) : Cal P w K mg base "_law_exact" 3 ["_law_work", "_law_values"] (spEx K) := by
  obtain ⟨f, fd, hm, Fn⟩ := D0
  refine ⟨f, fd, hm, ?_, Fn.kp, Fn.bindsN fun _ _ _ _ _ _ us hl => match us, hl with | [_, _], _ => rfl⟩
  refine Fn.ok (k := 2) sc__law_exact (fun vs H Q E h => ?_) (fun cdv A outer s H vs Q E hr h => ?_)
  · obtain ⟨_, _, _, _, _, _, rfl, _⟩ := h
    rfl
  · obtain ⟨F, wk, v1, a, kvs, kv, rfl, h0, d1, own, eb, kq⟩ := h
    have hu := hu_of hr
    have e0 : EnvOk K F [some (dWk wk), none, none, none, none] (L2.start ["_law_work", "_law_values", "_law_word", "_law_some", "_law_name"] [v1, .ref a]) H := env_raw h0 (.cons d1 (.skip .nil)) rfl
    refine ⟨_, PSs.nox pss_u, ?_⟩
    cases wk with
    | number q =>
      refine us_all (N1 := fun _ => False) (R := (· = oFr (exa kv (.number q)))) ?_ e0 (fun _ _ _ _ z => z.elim) (fun d v F4 H4 hd s4 dp => (by subst hd; exact kq v F4 H4 s4 dp))
      refine pds_set 2 (pd_ixT (pd_var 0) pd_int) ?_ sc__law_exact.nd
      refine pds_ifR (pdt_cmp (qc_eqS (pd_var 2) pd_str)) (fun hb => ?_) (fun hb => absurd hb (by decide))
      exact pds_ret (pd_ixT (pd_var 0) pd_int) rfl
    | sum b x y =>
      cases b
      · refine us_set 2 (pd_ixT (pd_var 0) pd_int) e0 (fun _ F1 H1 s1 _ e1 => ?_) sc__law_exact.nd
        refine us_ifR (pdt_cmp (qc_eqS (pd_var 2) pd_str)) e1 (fun hb => absurd hb (by decide)) (fun _ F2 H2 s2 e2 => ?_)
        refine us_known 3 4 1 (ρ := [some (dWk (.sum false x y)), none, some (.str (sumW false)), none, none]) (a := a) (kvs := kvs) (g := fun n => dFr (kv n)) (ns := [x, y]) hu e2 (pd_is (pd_slT (pd_var 0) (pdo_some pd_int) pdo_none (fun z => absurd z.1 (by show ¬ ((1 : Nat) = 0); decide))) rfl) ((own.step Tell.mono s1).step Tell.mono s2) rfl (by decide) rfl sc__law_exact.nd (blkOk_by (N := ["_law_work", "_law_values", "_law_word", "_law_some", "_law_name"]) (sc := defScope (top 90)) (by decide +kernel)) (fun _ _ _ _ _ => pg_name (i := 4) sc__law_exact.nd rfl (Or.inl rfl)) (fun _ _ _ _ _ => pe_dget hu (pv 1) (pv 4) (fun _ _ => rfl)) (fun v5 F3 H3 s3 _ d5 e3 => ?_) (Nat.lt_of_le_of_lt (Nat.le_of_ble_eq_true (show Nat.ble _ 100 = true from rfl)) (by decide)) rfl rfl (sw_true rfl rfl rfl (by decide +kernel))
        refine us_all (N1 := fun _ => False) (R := (· = oFr (exa kv (.sum false x y)))) ?_ e3 (fun _ _ _ _ z => z.elim) (fun d v F4 H4 hd s4 dp => (by subst hd; exact kq v F4 H4 (((s1.trans s2).trans s3).trans s4) dp))
        refine pds_ifR (pdt_cmp (qc_inT (pd_var 2) (pd_tup (pda_cons pd_str (pda_cons pd_str pda_nil))) rfl rfl)) (fun _ => ?_) (fun hb => by cases (show true = false from hb))
        refine pds_ret (pd_is (pd_ite (pdt_cmp (qc_eqS (pd_var 2) pd_str)) (fun h => (pd_call c__law_plus (hr.mono (by decide)) (pda_cons (pd_ixL (pd_var 3) pd_int) (pda_cons (pd_ixL (pd_var 3) pd_int) pda_nil)) ⟨kv x, kv y, rfl, ⟨(eb x (by simp [wkNs])).mono (by decide), (eb y (by simp [wkNs])).mono (by decide)⟩, rfl⟩)) (fun h => (pd_call c__law_less (hr.mono (by decide)) (pda_cons (pd_ixL (pd_var 3) pd_int) (pda_cons (pd_ixL (pd_var 3) pd_int) pda_nil)) ⟨kv x, kv y, rfl, ⟨(eb x (by simp [wkNs])).mono (by decide), (eb y (by simp [wkNs])).mono (by decide)⟩, rfl⟩))) ?_) rfl
        rfl
      · refine us_set 2 (pd_ixT (pd_var 0) pd_int) e0 (fun _ F1 H1 s1 _ e1 => ?_) sc__law_exact.nd
        refine us_ifR (pdt_cmp (qc_eqS (pd_var 2) pd_str)) e1 (fun hb => absurd hb (by decide)) (fun _ F2 H2 s2 e2 => ?_)
        refine us_known 3 4 1 (ρ := [some (dWk (.sum true x y)), none, some (.str (sumW true)), none, none]) (a := a) (kvs := kvs) (g := fun n => dFr (kv n)) (ns := [x, y]) hu e2 (pd_is (pd_slT (pd_var 0) (pdo_some pd_int) pdo_none (fun z => absurd z.1 (by show ¬ ((1 : Nat) = 0); decide))) rfl) ((own.step Tell.mono s1).step Tell.mono s2) rfl (by decide) rfl sc__law_exact.nd (blkOk_by (N := ["_law_work", "_law_values", "_law_word", "_law_some", "_law_name"]) (sc := defScope (top 90)) (by decide +kernel)) (fun _ _ _ _ _ => pg_name (i := 4) sc__law_exact.nd rfl (Or.inl rfl)) (fun _ _ _ _ _ => pe_dget hu (pv 1) (pv 4) (fun _ _ => rfl)) (fun v5 F3 H3 s3 _ d5 e3 => ?_) (Nat.lt_of_le_of_lt (Nat.le_of_ble_eq_true (show Nat.ble _ 100 = true from rfl)) (by decide)) rfl rfl (sw_true rfl rfl rfl (by decide +kernel))
        refine us_all (N1 := fun _ => False) (R := (· = oFr (exa kv (.sum true x y)))) ?_ e3 (fun _ _ _ _ z => z.elim) (fun d v F4 H4 hd s4 dp => (by subst hd; exact kq v F4 H4 (((s1.trans s2).trans s3).trans s4) dp))
        refine pds_ifR (pdt_cmp (qc_inT (pd_var 2) (pd_tup (pda_cons pd_str (pda_cons pd_str pda_nil))) rfl rfl)) (fun _ => ?_) (fun hb => by cases (show true = false from hb))
        refine pds_ret (pd_is (pd_ite (pdt_cmp (qc_eqS (pd_var 2) pd_str)) (fun h => (pd_call c__law_plus (hr.mono (by decide)) (pda_cons (pd_ixL (pd_var 3) pd_int) (pda_cons (pd_ixL (pd_var 3) pd_int) pda_nil)) ⟨kv x, kv y, rfl, ⟨(eb x (by simp [wkNs])).mono (by decide), (eb y (by simp [wkNs])).mono (by decide)⟩, rfl⟩)) (fun h => (pd_call c__law_less (hr.mono (by decide)) (pda_cons (pd_ixL (pd_var 3) pd_int) (pda_cons (pd_ixL (pd_var 3) pd_int) pda_nil)) ⟨kv x, kv y, rfl, ⟨(eb x (by simp [wkNs])).mono (by decide), (eb y (by simp [wkNs])).mono (by decide)⟩, rfl⟩))) ?_) rfl
        rfl
    | times x y =>
      refine us_set 2 (pd_ixT (pd_var 0) pd_int) e0 (fun _ F1 H1 s1 _ e1 => ?_) sc__law_exact.nd
      refine us_ifR (pdt_cmp (qc_eqS (pd_var 2) pd_str)) e1 (fun hb => absurd hb (by decide)) (fun _ F2 H2 s2 e2 => ?_)
      refine us_known 3 4 1 (ρ := [some (dWk (.times x y)), none, some (.str ("times")), none, none]) (a := a) (kvs := kvs) (g := fun n => dFr (kv n)) (ns := [x, y]) hu e2 (pd_is (pd_slT (pd_var 0) (pdo_some pd_int) pdo_none (fun z => absurd z.1 (by show ¬ ((1 : Nat) = 0); decide))) rfl) ((own.step Tell.mono s1).step Tell.mono s2) rfl (by decide) rfl sc__law_exact.nd (blkOk_by (N := ["_law_work", "_law_values", "_law_word", "_law_some", "_law_name"]) (sc := defScope (top 90)) (by decide +kernel)) (fun _ _ _ _ _ => pg_name (i := 4) sc__law_exact.nd rfl (Or.inl rfl)) (fun _ _ _ _ _ => pe_dget hu (pv 1) (pv 4) (fun _ _ => rfl)) (fun v5 F3 H3 s3 _ d5 e3 => ?_) (Nat.lt_of_le_of_lt (Nat.le_of_ble_eq_true (show Nat.ble _ 100 = true from rfl)) (by decide)) rfl rfl (sw_true rfl rfl rfl (by decide +kernel))
      refine us_all (N1 := fun _ => False) (R := (· = oFr (exa kv (.times x y)))) ?_ e3 (fun _ _ _ _ z => z.elim) (fun d v F4 H4 hd s4 dp => (by subst hd; exact kq v F4 H4 (((s1.trans s2).trans s3).trans s4) dp))
      refine pds_ifR (pdt_cmp (qc_inT (pd_var 2) (pd_tup (pda_cons pd_str (pda_cons pd_str pda_nil))) rfl rfl)) (fun hb => by cases (show false = true from hb)) (fun _ => ?_)
      refine pds_ifR (pdt_cmp (qc_eqS (pd_var 2) pd_str)) (fun _ => ?_) (fun hb => absurd hb (by decide))
      refine pds_ret (pd_call c__law_times (hr.mono (by decide)) (pda_cons (pd_ixL (pd_var 3) pd_int) (pda_cons (pd_ixL (pd_var 3) pd_int) pda_nil)) ⟨kv x, kv y, rfl, ⟨(eb x (by simp [wkNs])).mono (by decide), (eb y (by simp [wkNs])).mono (by decide)⟩, rfl⟩) rfl
    | over x y =>
      refine us_set 2 (pd_ixT (pd_var 0) pd_int) e0 (fun _ F1 H1 s1 _ e1 => ?_) sc__law_exact.nd
      refine us_ifR (pdt_cmp (qc_eqS (pd_var 2) pd_str)) e1 (fun hb => absurd hb (by decide)) (fun _ F2 H2 s2 e2 => ?_)
      refine us_known 3 4 1 (ρ := [some (dWk (.over x y)), none, some (.str ("over")), none, none]) (a := a) (kvs := kvs) (g := fun n => dFr (kv n)) (ns := [x, y]) hu e2 (pd_is (pd_slT (pd_var 0) (pdo_some pd_int) pdo_none (fun z => absurd z.1 (by show ¬ ((1 : Nat) = 0); decide))) rfl) ((own.step Tell.mono s1).step Tell.mono s2) rfl (by decide) rfl sc__law_exact.nd (blkOk_by (N := ["_law_work", "_law_values", "_law_word", "_law_some", "_law_name"]) (sc := defScope (top 90)) (by decide +kernel)) (fun _ _ _ _ _ => pg_name (i := 4) sc__law_exact.nd rfl (Or.inl rfl)) (fun _ _ _ _ _ => pe_dget hu (pv 1) (pv 4) (fun _ _ => rfl)) (fun v5 F3 H3 s3 _ d5 e3 => ?_) (Nat.lt_of_le_of_lt (Nat.le_of_ble_eq_true (show Nat.ble _ 100 = true from rfl)) (by decide)) rfl rfl (sw_true rfl rfl rfl (by decide +kernel))
      refine us_all (N1 := fun _ => False) (R := (· = oFr (exa kv (.over x y)))) ?_ e3 (fun _ _ _ _ z => z.elim) (fun d v F4 H4 hd s4 dp => (by subst hd; exact kq v F4 H4 (((s1.trans s2).trans s3).trans s4) dp))
      refine pds_ifR (pdt_cmp (qc_inT (pd_var 2) (pd_tup (pda_cons pd_str (pda_cons pd_str pda_nil))) rfl rfl)) (fun hb => by cases (show false = true from hb)) (fun _ => ?_)
      refine pds_ifR (pdt_cmp (qc_eqS (pd_var 2) pd_str)) (fun hb => absurd hb (by decide)) (fun _ => ?_)
      refine pds_ifR (pdt_cmp (qc_eqS (pd_var 2) pd_str)) (fun _ => ?_) (fun hb => absurd hb (by decide))
      refine pds_ret (pd_is (pd_ite (b' := decide ((kv y).num = 0)) (pdt_cmp (qc_eqI (pd_ixT (pd_ixL (pd_var 3) pd_int) pd_int) pd_int)) (fun h => pd_non) (fun h => pd_call c__law_over (hr.mono (by decide)) (pda_cons (pd_ixL (pd_var 3) pd_int) (pda_cons (pd_ixL (pd_var 3) pd_int) pda_nil)) ⟨kv x, kv y, rfl, ⟨(eb x (by simp [wkNs])).mono (by decide), (eb y (by simp [wkNs])).mono (by decide), fun z => of_decide_eq_false h (by rw [z]; rfl)⟩, rfl⟩)) ?_) rfl
      show _ = oFr (if kv y = 0 then none else some (kv x / kv y))
      by_cases c : kv y = 0
      · rw [if_pos c, c]
        rfl
      · rw [if_neg c, decide_eq_false (fun z => c (Rat.num_eq_zero.mp z))]
        rfl
    | turned x =>
      refine us_set 2 (pd_ixT (pd_var 0) pd_int) e0 (fun _ F1 H1 s1 _ e1 => ?_) sc__law_exact.nd
      refine us_ifR (pdt_cmp (qc_eqS (pd_var 2) pd_str)) e1 (fun hb => absurd hb (by decide)) (fun _ F2 H2 s2 e2 => ?_)
      refine us_known 3 4 1 (ρ := [some (dWk (.turned x)), none, some (.str ("turned")), none, none]) (a := a) (kvs := kvs) (g := fun n => dFr (kv n)) (ns := [x]) hu e2 (pd_is (pd_slT (pd_var 0) (pdo_some pd_int) pdo_none (fun z => absurd z.1 (by show ¬ ((1 : Nat) = 0); decide))) rfl) ((own.step Tell.mono s1).step Tell.mono s2) rfl (by decide) rfl sc__law_exact.nd (blkOk_by (N := ["_law_work", "_law_values", "_law_word", "_law_some", "_law_name"]) (sc := defScope (top 90)) (by decide +kernel)) (fun _ _ _ _ _ => pg_name (i := 4) sc__law_exact.nd rfl (Or.inl rfl)) (fun _ _ _ _ _ => pe_dget hu (pv 1) (pv 4) (fun _ _ => rfl)) (fun v5 F3 H3 s3 _ d5 e3 => ?_) (Nat.lt_of_le_of_lt (Nat.le_of_ble_eq_true (show Nat.ble _ 100 = true from rfl)) (by decide)) rfl rfl (sw_true rfl rfl rfl (by decide +kernel))
      refine us_all (N1 := fun _ => False) (R := (· = oFr (exa kv (.turned x)))) ?_ e3 (fun _ _ _ _ z => z.elim) (fun d v F4 H4 hd s4 dp => (by subst hd; exact kq v F4 H4 (((s1.trans s2).trans s3).trans s4) dp))
      refine pds_ifR (pdt_cmp (qc_inT (pd_var 2) (pd_tup (pda_cons pd_str (pda_cons pd_str pda_nil))) rfl rfl)) (fun hb => by cases (show false = true from hb)) (fun _ => ?_)
      refine pds_ifR (pdt_cmp (qc_eqS (pd_var 2) pd_str)) (fun hb => absurd hb (by decide)) (fun _ => ?_)
      refine pds_ifR (pdt_cmp (qc_eqS (pd_var 2) pd_str)) (fun hb => absurd hb (by decide)) (fun _ => ?_)
      refine pds_ifR (pdt_cmp (qc_eqS (pd_var 2) pd_str)) (fun _ => ?_) (fun hb => absurd hb (by decide))
      refine pds_ret (pd_call c__law_times (hr.mono (by decide)) (pda_cons (pd_is (pd_tup (pda_cons (pd_neg pd_int) (pda_cons pd_int pda_nil))) (d2 := dFr (-1)) rfl) (pda_cons (pd_ixL (pd_var 3) pd_int) pda_nil)) ⟨-1, kv x, rfl, ⟨m1_Bt, (eb x (by simp [wkNs])).mono (by decide)⟩, rfl⟩) ?_
      show dFr (-1 * kv x) = dFr (-(kv x))
      rw [Rat.neg_mul, Rat.one_mul]
    | size x =>
      refine us_set 2 (pd_ixT (pd_var 0) pd_int) e0 (fun _ F1 H1 s1 _ e1 => ?_) sc__law_exact.nd
      refine us_ifR (pdt_cmp (qc_eqS (pd_var 2) pd_str)) e1 (fun hb => absurd hb (by decide)) (fun _ F2 H2 s2 e2 => ?_)
      refine us_known 3 4 1 (ρ := [some (dWk (.size x)), none, some (.str ("size")), none, none]) (a := a) (kvs := kvs) (g := fun n => dFr (kv n)) (ns := [x]) hu e2 (pd_is (pd_slT (pd_var 0) (pdo_some pd_int) pdo_none (fun z => absurd z.1 (by show ¬ ((1 : Nat) = 0); decide))) rfl) ((own.step Tell.mono s1).step Tell.mono s2) rfl (by decide) rfl sc__law_exact.nd (blkOk_by (N := ["_law_work", "_law_values", "_law_word", "_law_some", "_law_name"]) (sc := defScope (top 90)) (by decide +kernel)) (fun _ _ _ _ _ => pg_name (i := 4) sc__law_exact.nd rfl (Or.inl rfl)) (fun _ _ _ _ _ => pe_dget hu (pv 1) (pv 4) (fun _ _ => rfl)) (fun v5 F3 H3 s3 _ d5 e3 => ?_) (Nat.lt_of_le_of_lt (Nat.le_of_ble_eq_true (show Nat.ble _ 100 = true from rfl)) (by decide)) rfl rfl (sw_true rfl rfl rfl (by decide +kernel))
      refine us_all (N1 := fun _ => False) (R := (· = oFr (exa kv (.size x)))) ?_ e3 (fun _ _ _ _ z => z.elim) (fun d v F4 H4 hd s4 dp => (by subst hd; exact kq v F4 H4 (((s1.trans s2).trans s3).trans s4) dp))
      refine pds_ifR (pdt_cmp (qc_inT (pd_var 2) (pd_tup (pda_cons pd_str (pda_cons pd_str pda_nil))) rfl rfl)) (fun hb => by cases (show false = true from hb)) (fun _ => ?_)
      refine pds_ifR (pdt_cmp (qc_eqS (pd_var 2) pd_str)) (fun hb => absurd hb (by decide)) (fun _ => ?_)
      refine pds_ifR (pdt_cmp (qc_eqS (pd_var 2) pd_str)) (fun hb => absurd hb (by decide)) (fun _ => ?_)
      refine pds_ifR (pdt_cmp (qc_eqS (pd_var 2) pd_str)) (fun hb => absurd hb (by decide)) (fun _ => ?_)
      refine pds_ifR (pdt_cmp (qc_eqS (pd_var 2) pd_str)) (fun _ => ?_) (fun hb => absurd hb (by decide))
      refine pds_ret (pd_is (pd_tup (pda_cons (pd_abs T.abs (pd_ixT (pd_ixL (pd_var 3) pd_int) pd_int)) (pda_cons (pd_ixT (pd_ixL (pd_var 3) pd_int) pd_int) pda_nil))) (dFr_abs (kv x))) rfl
    | chos b x y =>
      cases b
      · refine us_set 2 (pd_ixT (pd_var 0) pd_int) e0 (fun _ F1 H1 s1 _ e1 => ?_) sc__law_exact.nd
        refine us_ifR (pdt_cmp (qc_eqS (pd_var 2) pd_str)) e1 (fun hb => absurd hb (by decide)) (fun _ F2 H2 s2 e2 => ?_)
        refine us_known 3 4 1 (ρ := [some (dWk (.chos false x y)), none, some (.str (chosW false)), none, none]) (a := a) (kvs := kvs) (g := fun n => dFr (kv n)) (ns := [x, y]) hu e2 (pd_is (pd_slT (pd_var 0) (pdo_some pd_int) pdo_none (fun z => absurd z.1 (by show ¬ ((1 : Nat) = 0); decide))) rfl) ((own.step Tell.mono s1).step Tell.mono s2) rfl (by decide) rfl sc__law_exact.nd (blkOk_by (N := ["_law_work", "_law_values", "_law_word", "_law_some", "_law_name"]) (sc := defScope (top 90)) (by decide +kernel)) (fun _ _ _ _ _ => pg_name (i := 4) sc__law_exact.nd rfl (Or.inl rfl)) (fun _ _ _ _ _ => pe_dget hu (pv 1) (pv 4) (fun _ _ => rfl)) (fun v5 F3 H3 s3 _ d5 e3 => ?_) (Nat.lt_of_le_of_lt (Nat.le_of_ble_eq_true (show Nat.ble _ 100 = true from rfl)) (by decide)) rfl rfl (sw_true rfl rfl rfl (by decide +kernel))
        refine us_all (N1 := fun _ => False) (R := (· = oFr (exa kv (.chos false x y)))) ?_ e3 (fun _ _ _ _ z => z.elim) (fun d v F4 H4 hd s4 dp => (by subst hd; exact kq v F4 H4 (((s1.trans s2).trans s3).trans s4) dp))
        refine pds_ifR (pdt_cmp (qc_inT (pd_var 2) (pd_tup (pda_cons pd_str (pda_cons pd_str pda_nil))) rfl rfl)) (fun hb => by cases (show false = true from hb)) (fun _ => ?_)
        refine pds_ifR (pdt_cmp (qc_eqS (pd_var 2) pd_str)) (fun hb => absurd hb (by decide)) (fun _ => ?_)
        refine pds_ifR (pdt_cmp (qc_eqS (pd_var 2) pd_str)) (fun hb => absurd hb (by decide)) (fun _ => ?_)
        refine pds_ifR (pdt_cmp (qc_eqS (pd_var 2) pd_str)) (fun hb => absurd hb (by decide)) (fun _ => ?_)
        refine pds_ifR (pdt_cmp (qc_eqS (pd_var 2) pd_str)) (fun hb => absurd hb (by decide)) (fun _ => ?_)
        refine pds_ifR (pdt_cmp (qc_inT (pd_var 2) (pd_tup (pda_cons pd_str (pda_cons pd_str pda_nil))) rfl rfl)) (fun _ => ?_) (fun hb => by cases (show true = false from hb))
        refine pds_ret (d := dFr (bif false then qmin (kv x) (kv y) else qmax (kv x) (kv y))) (pd_ixT (pd_call c__law_ends (hr.mono (by decide)) (pda_cons (pd_var 3) pda_nil) ⟨kv x, kv y, rfl, ⟨(eb x (by simp [wkNs])).mono (by decide), (eb y (by simp [wkNs])).mono (by decide)⟩, rfl⟩) (pd_intB T.int (pd_cmp (qc_eqS (pd_var 2) pd_str))) (by rfl)) rfl
      · refine us_set 2 (pd_ixT (pd_var 0) pd_int) e0 (fun _ F1 H1 s1 _ e1 => ?_) sc__law_exact.nd
        refine us_ifR (pdt_cmp (qc_eqS (pd_var 2) pd_str)) e1 (fun hb => absurd hb (by decide)) (fun _ F2 H2 s2 e2 => ?_)
        refine us_known 3 4 1 (ρ := [some (dWk (.chos true x y)), none, some (.str (chosW true)), none, none]) (a := a) (kvs := kvs) (g := fun n => dFr (kv n)) (ns := [x, y]) hu e2 (pd_is (pd_slT (pd_var 0) (pdo_some pd_int) pdo_none (fun z => absurd z.1 (by show ¬ ((1 : Nat) = 0); decide))) rfl) ((own.step Tell.mono s1).step Tell.mono s2) rfl (by decide) rfl sc__law_exact.nd (blkOk_by (N := ["_law_work", "_law_values", "_law_word", "_law_some", "_law_name"]) (sc := defScope (top 90)) (by decide +kernel)) (fun _ _ _ _ _ => pg_name (i := 4) sc__law_exact.nd rfl (Or.inl rfl)) (fun _ _ _ _ _ => pe_dget hu (pv 1) (pv 4) (fun _ _ => rfl)) (fun v5 F3 H3 s3 _ d5 e3 => ?_) (Nat.lt_of_le_of_lt (Nat.le_of_ble_eq_true (show Nat.ble _ 100 = true from rfl)) (by decide)) rfl rfl (sw_true rfl rfl rfl (by decide +kernel))
        refine us_all (N1 := fun _ => False) (R := (· = oFr (exa kv (.chos true x y)))) ?_ e3 (fun _ _ _ _ z => z.elim) (fun d v F4 H4 hd s4 dp => (by subst hd; exact kq v F4 H4 (((s1.trans s2).trans s3).trans s4) dp))
        refine pds_ifR (pdt_cmp (qc_inT (pd_var 2) (pd_tup (pda_cons pd_str (pda_cons pd_str pda_nil))) rfl rfl)) (fun hb => by cases (show false = true from hb)) (fun _ => ?_)
        refine pds_ifR (pdt_cmp (qc_eqS (pd_var 2) pd_str)) (fun hb => absurd hb (by decide)) (fun _ => ?_)
        refine pds_ifR (pdt_cmp (qc_eqS (pd_var 2) pd_str)) (fun hb => absurd hb (by decide)) (fun _ => ?_)
        refine pds_ifR (pdt_cmp (qc_eqS (pd_var 2) pd_str)) (fun hb => absurd hb (by decide)) (fun _ => ?_)
        refine pds_ifR (pdt_cmp (qc_eqS (pd_var 2) pd_str)) (fun hb => absurd hb (by decide)) (fun _ => ?_)
        refine pds_ifR (pdt_cmp (qc_inT (pd_var 2) (pd_tup (pda_cons pd_str (pda_cons pd_str pda_nil))) rfl rfl)) (fun _ => ?_) (fun hb => by cases (show true = false from hb))
        refine pds_ret (d := dFr (bif true then qmin (kv x) (kv y) else qmax (kv x) (kv y))) (pd_ixT (pd_call c__law_ends (hr.mono (by decide)) (pda_cons (pd_var 3) pda_nil) ⟨kv x, kv y, rfl, ⟨(eb x (by simp [wkNs])).mono (by decide), (eb y (by simp [wkNs])).mono (by decide)⟩, rfl⟩) (pd_intB T.int (pd_cmp (qc_eqS (pd_var 2) pd_str))) (by rfl)) rfl
    | pick x y z t =>
      refine us_set 2 (pd_ixT (pd_var 0) pd_int) e0 (fun _ F1 H1 s1 _ e1 => ?_) sc__law_exact.nd
      refine us_ifR (pdt_cmp (qc_eqS (pd_var 2) pd_str)) e1 (fun hb => absurd hb (by decide)) (fun _ F2 H2 s2 e2 => ?_)
      refine us_known 3 4 1 (ρ := [some (dWk (.pick x y z t)), none, some (.str ("pick")), none, none]) (a := a) (kvs := kvs) (g := fun n => dFr (kv n)) (ns := [x, y, z, t]) hu e2 (pd_is (pd_slT (pd_var 0) (pdo_some pd_int) pdo_none (fun z => absurd z.1 (by show ¬ ((1 : Nat) = 0); decide))) rfl) ((own.step Tell.mono s1).step Tell.mono s2) rfl (by decide) rfl sc__law_exact.nd (blkOk_by (N := ["_law_work", "_law_values", "_law_word", "_law_some", "_law_name"]) (sc := defScope (top 90)) (by decide +kernel)) (fun _ _ _ _ _ => pg_name (i := 4) sc__law_exact.nd rfl (Or.inl rfl)) (fun _ _ _ _ _ => pe_dget hu (pv 1) (pv 4) (fun _ _ => rfl)) (fun v5 F3 H3 s3 _ d5 e3 => ?_) (Nat.lt_of_le_of_lt (Nat.le_of_ble_eq_true (show Nat.ble _ 100 = true from rfl)) (by decide)) rfl rfl (sw_true rfl rfl rfl (by decide +kernel))
      refine us_all (N1 := fun _ => False) (R := (· = oFr (exa kv (.pick x y z t)))) ?_ e3 (fun _ _ _ _ z => z.elim) (fun d v F4 H4 hd s4 dp => (by subst hd; exact kq v F4 H4 (((s1.trans s2).trans s3).trans s4) dp))
      refine pds_ifR (pdt_cmp (qc_inT (pd_var 2) (pd_tup (pda_cons pd_str (pda_cons pd_str pda_nil))) rfl rfl)) (fun hb => by cases (show false = true from hb)) (fun _ => ?_)
      refine pds_ifR (pdt_cmp (qc_eqS (pd_var 2) pd_str)) (fun hb => absurd hb (by decide)) (fun _ => ?_)
      refine pds_ifR (pdt_cmp (qc_eqS (pd_var 2) pd_str)) (fun hb => absurd hb (by decide)) (fun _ => ?_)
      refine pds_ifR (pdt_cmp (qc_eqS (pd_var 2) pd_str)) (fun hb => absurd hb (by decide)) (fun _ => ?_)
      refine pds_ifR (pdt_cmp (qc_eqS (pd_var 2) pd_str)) (fun hb => absurd hb (by decide)) (fun _ => ?_)
      refine pds_ifR (pdt_cmp (qc_inT (pd_var 2) (pd_tup (pda_cons pd_str (pda_cons pd_str pda_nil))) rfl rfl)) (fun hb => by cases (show false = true from hb)) (fun _ => ?_)
      refine pds_ret (pd_is (pd_ite (pdt_val (pd_call c__law_below (hr.mono (by decide)) (pda_cons (pd_ixL (pd_var 3) pd_int) (pda_cons (pd_ixL (pd_var 3) pd_int) pda_nil)) ⟨kv x, kv y, rfl, ⟨(eb x (by simp [wkNs])).mono (by decide), (eb y (by simp [wkNs])).mono (by decide)⟩, rfl⟩)) (fun h => pd_ixL (pd_var 3) pd_int) (fun h => pd_ixL (pd_var 3) pd_int)) ?_) rfl
      show (bif decide (kv x < kv y) then dFr (kv z) else dFr (kv t)) = dFr (if kv x < kv y then kv z else kv t)
      by_cases c : kv x < kv y <;> simp [c]

end
end Rs
end

section
set_option Elab.async false
set_option linter.all false
set_option maxRecDepth 100000
set_option maxHeartbeats 4000000
namespace Rs
open PySem PySem.Spec L2
/-! ### steps that may change some tracked things -/
structure StepM (M : Addr → Prop) (F H F' H' : Hp) : Prop where
  ff : Same F F'
  fh : Same F' H'
  hh : ∀ b o, ¬ M b → H b = some o → H' b = some o
  fr : ∀ a, H a ≠ none → F a = none → F' a = none
  al : ∀ a, H a ≠ none → H' a ≠ none
section
variable {M : Addr → Prop} {K : PySem.W.Frag} {F H F' H' F1 H1 F0 H0 : Hp} {ρ : DEnv} {σ : St}
theorem Step.m (s : Step F H F' H') : StepM M F H F' H' :=
  ⟨s.ff, s.fh, fun b o _ h => s.hh b o h, s.fr, fun a h z => by
    cases q : H a with
    | none => exact h q
    | some o =>
      rw [s.hh a o q] at z
      cases z⟩
theorem StepM.refl (h : Same F H) : StepM M F H F H := (Step.refl h).m
theorem StepM.trans (a : StepM M F H F1 H1) (b : StepM M F1 H1 F' H') : StepM M F H F' H' :=
  ⟨a.ff.trans b.ff, b.fh, fun x o hm h => b.hh x o hm (a.hh x o hm h), fun x h1 h2 => b.fr x (a.al x h1) (a.fr x h1 h2), fun x h => b.al x (a.al x h)⟩
theorem StepM.own (s : StepM M F H F' H') {a : Addr} {o : HO} (hm : ¬ M a) (h : H a = some o) (hf : F a = none) : H' a = some o ∧ F' a = none :=
  ⟨s.hh a o hm h, s.fr a (by rw [h]; simp) hf⟩
theorem StepM.pure (s : StepM (fun _ => False) F H F' H') : Step F H F' H' := ⟨s.ff, s.fh, fun b o h => s.hh b o (fun z => z) h, s.fr⟩
theorem StepM.wide {M' : Addr → Prop} (s : StepM M F H F' H') (h : ∀ a, M a → M' a) : StepM M' F H F' H' := ⟨s.ff, s.fh, fun b o hm e => s.hh b o (fun z => hm (h b z)) e, s.fr, s.al⟩
theorem EnvOk.stepM (e : EnvOk K F ρ σ H) (s : StepM M F H F' H') : EnvOk K F' ρ σ H' :=
  ⟨s.fh, e.len, fun i d h => let ⟨v, h1, h2⟩ := e.at_ i d h; ⟨v, h1, dp_mono s.ff h2⟩⟩
theorem EnvOk.hp (e : EnvOk K F ρ σ H) (s : Same F H') : EnvOk K F ρ σ H' := ⟨s, e.len, e.at_⟩
/-- what is outside F changes -/
theorem Same.mut {l : Addr} {o : HO} (h : Same F H) (hf : F l = none) : Same F (upd H l o) := fun a u e => by
  rw [upd_ne (ne_of_none e hf)]
  exact h a u e
/-- a thing of its own, changed or new -/
theorem StepM.mut {l : Addr} {o : HO} (s : StepM M F0 H0 F H) (hf : F l = none) (h0 : H0 l = none ∨ M l) : StepM M F0 H0 F (upd H l o) :=
  ⟨s.ff, Same.mut s.fh hf, fun b u hm e => by
    rw [upd_ne]
    · exact s.hh b u hm e
    · rintro rfl
      rcases h0 with h0 | h0
      · rw [h0] at e
        cases e
      · exact hm h0, s.fr, fun a h => by
    by_cases q : a = l
    · subst q
      rw [upd_same]
      simp
    · rw [upd_ne q]
      exact s.al a h⟩
/-- what is of its own is told to all -/
theorem StepM.pub {l : Addr} {o : HO} (s : StepM M F0 H0 F H) (hf : F l = none) (h0 : H0 l = none) (h : H l = some o) : StepM M F0 H0 (upd F l o) H :=
  ⟨fun a u e => by
    have q := s.ff a u e
    rw [upd_ne (ne_of_none q hf)]
    exact q, fun a u e => by
    by_cases q : a = l
    · subst q
      rw [upd_same] at e
      rw [h, e]
    · rw [upd_ne q] at e
      exact s.fh a u e, s.hh, fun a h1 h2 => by
    have q : a ≠ l := fun z => h1 (by rw [z]; exact h0)
    rw [upd_ne q]
    exact s.fr a h1 h2, s.al⟩
theorem pub_same {l : Addr} {o : HO} (hf : F l = none) : Same F (upd F l o) := fun a u e => by
  rw [upd_ne (ne_of_none e hf)]
  exact e
theorem StepM.new {p : Addr} {o : HO} (s : StepM M F0 H0 F H) (hp : H p = none) : StepM M F0 H0 (upd F p o) (upd H p o) := s.trans (Step.new s.fh hp).m
/-- a new thing of its own -/
theorem StepM.born {p : Addr} {o : HO} (s : StepM M F0 H0 F H) (hp : H p = none) : StepM M F0 H0 F (upd H p o) ∧ H0 p = none ∧ F p = none := by
  have h0 : H0 p = none := by
    cases q : H0 p with
    | none => rfl
    | some u => exact absurd hp (s.al p (by rw [q]; simp))
  have hf : F p = none := Same.free s.fh hp
  exact ⟨s.mut hf (.inl h0), h0, hf⟩
end
/-! ### what a reckoning may use: the slots, what it may change, what stands there with so much left -/
structure Rz where
  S : St → Prop
  M : Addr → Prop
  G : Nat → Hp → Hp → Prop
structure Rz.Ok (Z : Rz) : Prop where
  st : ∀ {b F H F' H'}, Z.G b F H → Step F H F' H' → Z.G b F' H'
  lo : ∀ {b c F H}, c ≤ b → Z.G b F H → Z.G c F H
  up : ∀ {b b1 F H F1 H1} {D0 : Addr} {o : HO}, Z.G b1 F1 H1 → H1 D0 = none → Z.G b F H → Z.G b F (L2.upd H D0 o)
  mo : ∀ {b F H x}, Z.G b F H → H x = none → ¬ Z.M x
  pb : ∀ {b b1 F H F1 H1} {l : Addr} {o : HO}, Z.G b1 F1 H1 → H1 l = none → Z.G b F H → F l = none → H l = some o → Z.G b (L2.upd F l o) H
def EvN (K : PySem.W.Frag) (Z : Rz) (t : TE) (ρ : DEnv) (n : Nat) (P : D → Prop) : Prop := ∀ (b : Nat) (F : Hp) (σ : St) (H : Hp) (Q : VK), EnvOk K F ρ σ H → Z.S σ → Z.G (b + n) F H → (∀ d v F' H', P d → StepM Z.M F H F' H' → Z.G b F' H' → Dp K F' v d → Q v H') → t σ H Q
def EvNA (K : PySem.W.Frag) (Z : Rz) (t : TA) (ρ : DEnv) (n : Nat) (P : List D → Prop) : Prop := ∀ (b : Nat) (F : Hp) (σ : St) (H : Hp) (Q : List V → Hp → Prop), EnvOk K F ρ σ H → Z.S σ → Z.G (b + n) F H → (∀ ds vs F' H', P ds → StepM Z.M F H F' H' → Z.G b F' H' → DpAll K F' vs ds → Q vs H') → t σ H Q
abbrev PN (X : Cx) (Z : Rz) (e : Expr) (ρ : DEnv) (n : Nat) (P : D → Prop) : Prop := EvN X.K Z (UE X e) ρ n P
abbrev PNA (X : Cx) (Z : Rz) (es : List Expr) (ρ : DEnv) (n : Nat) (P : List D → Prop) : Prop := EvNA X.K Z (UA X es) ρ n P
def IsI (p : Int → Prop) (d : D) : Prop := ∃ i, d = .int i ∧ p i
section
variable {X : Cx} {Z : Rz} {e a b c : Expr} {es : List Expr} {ρ : DEnv} {n m : Nat} {P P' : D → Prop} {PL QL : List D → Prop} {pos : Pos} {d : D} {ds : List D}
theorem Gadd {b n m : Nat} {F H : Hp} (h : Z.G (b + (n + m)) F H) : Z.G ((b + m) + n) F H := by
  rw [show (b + m) + n = b + (n + m) by omega]
  exact h
theorem pn_of {t : TE} (h : PE X e t) (q : EvN X.K Z t ρ n P) : PN X Z e ρ n P := fun b F σ H Q he hs hg k => ⟨t, h, q b F σ H Q he hs hg k⟩
theorem pn_pd (ok : Z.Ok) (h : PD X e ρ d) (hp : P d) : PN X Z e ρ 0 P := fun b F σ H Q he _ hg k => h F σ H Q he fun v F' H' s q => k d v F' H' hp s.m (ok.st hg s) q
theorem pn_mono (ok : Z.Ok) (h : PN X Z e ρ n P) (l : n ≤ m) (i : ∀ d, P d → P' d) : PN X Z e ρ m P' := fun b F σ H Q he hs hg k => h b F σ H Q he hs (ok.lo (by omega) hg) fun d v F' H' p => k d v F' H' (i d p)
theorem pna_nil (ok : Z.Ok) : PNA X Z [] ρ 0 (· = []) := fun b F σ H Q he _ hg k => ⟨_, pa_nil, k [] [] F H rfl (StepM.refl he.fh) hg .nil⟩
theorem pna_cons (h : PN X Z e ρ n P) (hr : PNA X Z es ρ m PL) (hs : starEach (e :: es) X.env = (false, eval e X.env) :: starEach es X.env := by rfl) : PNA X Z (e :: es) ρ (n + m) (fun l => ∃ d ds, l = d :: ds ∧ P d ∧ PL ds) := fun b F σ H Q he hz hg k =>
  ⟨_, pa_cons pe_u pa_u hs, h (b + m) F σ H _ he hz (Gadd hg) fun d x F1 H1 p s1 g1 h1 => hr b F1 σ H1 _ (he.stepM s1) hz g1 fun ds xs F2 H2 q s2 g2 h2 => k _ _ F2 H2 ⟨d, ds, rfl, p, q⟩ (s1.trans s2) g2 (.cons (dp_mono s2.ff h1) h2)⟩
theorem pna_pd (ok : Z.Ok) (h : PDA X es ρ ds) : PNA X Z es ρ 0 (· = ds) := fun b F σ H Q he _ hg k => h F σ H Q he fun vs F' H' s q => k ds vs F' H' rfl s.m (ok.st hg s) q
theorem pn_op {r : R2} {op : Operator} {p q : D → Prop} (ho : OpR X (binaryOp op) r) (ha : PN X Z a ρ n p) (hb : PN X Z b ρ m q) (hr : ∀ d1 d2, p d1 → q d2 → ∃ d, P d ∧ ∀ F H x y Q, Same F H → Dp X.K F x d1 → Dp X.K F y d2 → (∀ v, Dp X.K F v d → Q v H) → r x y H Q) : PN X Z (.BinOp a op b pos) ρ (n + m) P :=
  pn_of (pe_op ho pe_u pe_u) fun b F σ H Q he hz hg k => ha (b + m) F σ H _ he hz (Gadd hg) fun d1 x F1 H1 p1 s1 g1 h1 => hb b F1 σ H1 _ (he.stepM s1) hz g1 fun d2 y F2 H2 p2 s2 g2 h2 => by
    obtain ⟨d, hp, hk⟩ := hr d1 d2 p1 p2
    exact hk F2 H2 x y Q s2.fh (dp_mono s2.ff h1) h2 fun v hv => k d v F2 H2 hp (s1.trans s2) g2 hv
variable {p q : Int → Prop}
theorem pn_I0 {op : Operator} {f : Int → Int → Int} (ho : OpR X (binaryOp op) (rI0 fun i j => .int (f i j))) (ha : PN X Z a ρ n (IsI p)) (hb : PN X Z b ρ m (IsI q)) (hr : ∀ i j, p i → q j → P (.int (f i j))) : PN X Z (.BinOp a op b pos) ρ (n + m) P :=
  pn_op ho ha hb fun d1 d2 ⟨i, e1, p1⟩ ⟨j, e2, p2⟩ => ⟨_, hr i j p1 p2, fun F H x y Q hs h1 h2 k => by
    subst e1 e2
    exact ⟨i, j, dp_int h1, dp_int h2, k _ (.int _)⟩⟩
theorem pn_add (ha : PN X Z a ρ n (IsI p)) (hb : PN X Z b ρ m (IsI q)) (hr : ∀ i j, p i → q j → P (.int (i + j))) : PN X Z (.BinOp a .Add b pos) ρ (n + m) P := pn_I0 op_add ha hb hr
theorem pn_sub (ha : PN X Z a ρ n (IsI p)) (hb : PN X Z b ρ m (IsI q)) (hr : ∀ i j, p i → q j → P (.int (i - j))) : PN X Z (.BinOp a .Sub b pos) ρ (n + m) P := pn_I0 op_sub ha hb hr
theorem pn_mul (ha : PN X Z a ρ n (IsI p)) (hb : PN X Z b ρ m (IsI q)) (hr : ∀ i j, p i → q j → CMulW i j ∧ P (.int (i * j))) : PN X Z (.BinOp a .Mult b pos) ρ (n + m) P :=
  pn_op op_mulW ha hb fun d1 d2 ⟨i, e1, p1⟩ ⟨j, e2, p2⟩ => ⟨_, (hr i j p1 p2).2, fun F H x y Q hs h1 h2 k => by
    subst e1 e2
    exact ⟨i, j, dp_int h1, dp_int h2, (hr i j p1 p2).1, k _ (.int _)⟩⟩
theorem pn_ixL (ha : PN X Z a ρ n (fun d => ∃ ds, d = .list ds ∧ PL ds)) (hb : PN X Z b ρ m (IsI q)) (hr : ∀ ds i, PL ds → q i → ∃ d, atI ds i = some d ∧ P d) (hs : PlainIx b := by exact fun _ _ => rfl) : PN X Z (.Subscript a b pos) ρ (n + m) P :=
  pn_of (pe_ix ix_list pe_u pe_u hs) fun b F σ H Q he hz hg k => ha (b + m) F σ H _ he hz (Gadd hg) fun d1 x F1 H1 ⟨ds, e1, p1⟩ s1 g1 h1 => hb b F1 σ H1 _ (he.stepM s1) hz g1 fun d2 y F2 H2 ⟨i, e2, p2⟩ s2 g2 h2 => by
    subst e1 e2
    obtain ⟨d, hd, hp⟩ := hr ds i p1 p2
    obtain ⟨l, xs, e1, e2, e3⟩ := dp_lst (dp_mono s2.ff h1)
    obtain ⟨v, e4, e5⟩ := dpa_atI e3 hd
    exact ⟨l, xs, i, v, e1, dp_int h2, Same.seq s2.fh e2, e4, k d v F2 H2 hp (s1.trans s2) g2 e5⟩
theorem pn_lst (h : PNA X Z es ρ n PL) (hl : ∀ ds, PL ds → Nat.ble ds.length 1000 = true) (ok : Z.Ok) : PN X Z (.List es pos) ρ n (fun d => ∃ ds, d = .list ds ∧ PL ds) := pn_of (pe_lst pa_u) fun b F σ H Q he hz hg k => h b F σ H _ he hz hg fun ds xs F1 H1 p s1 g1 h1 =>
  ⟨by rw [dpa_len h1]; exact szn (hl ds p), fun q hq => k _ _ _ _ ⟨ds, rfl, p⟩ (s1.new hq) (ok.st g1 (Step.new s1.fh hq)) (.lst (SqL.of upd_same) (dpa_mono (new_same s1.fh hq) h1))⟩
theorem pn_tup {x1} (h : PNA X Z es ρ n PL) (hl : ∀ ds, PL ds → Nat.ble ds.length 1000 = true) (ok : Z.Ok) : PN X Z (.Tuple es x1 pos) ρ n (fun d => ∃ ds, d = .tuple ds ∧ PL ds) := pn_of (pe_tup pa_u) fun b F σ H Q he hz hg k => h b F σ H _ he hz hg fun ds xs F1 H1 p s1 g1 h1 =>
  ⟨by rw [dpa_len h1]; exact szn (hl ds p), fun q hq => k _ _ _ _ ⟨ds, rfl, p⟩ (s1.new hq) (ok.st g1 (Step.new s1.fh hq)) (.tup (SqT.of upd_same) (dpa_mono (new_same s1.fh hq) h1))⟩
theorem pn_callP {x : Str} {k : Nat} {ps : List Str} {R : List D → D → Prop} {p : Pos} (ok : Z.Ok) (c : Cal X.prog X.w X.K X.mg X.base x k ps (spP X.K R)) (hr : Room k X.A) (ha : PNA X Z (e :: es) ρ n PL) (h : ∀ ds, PL ds → ∃ d, R ds d ∧ P d) (hg : Gl X x := by rfl) (hdb : (x == ("__debug__" : Str)) = false := by decide)
    (he : starEach (e :: es) X.env = (false, eval e X.env) :: starEach es X.env := by rfl) (hpl : (backTo pos (starEach es X.env)).any (·.1) = false := by rfl) : PN X Z (.Call (.Name x p) (e :: es) [] pos) ρ n P := by
  obtain ⟨f, fd, hm, F, hk, hb⟩ := c.ex
  refine pn_of (pe_call F hr hg hm hk hb .nil pass0 pa_u hdb he hpl) fun b F σ H Q hE hz hgg q => ha b F σ H _ hE hz hgg fun ds vs F1 H1 p s1 g1 h1 => ?_
  obtain ⟨d, hd, hp⟩ := h ds p
  refine ⟨F1, ds, d, s1.fh, by rw [List.append_nil]; exact h1, hd, fun v F2 H2 s2 h2 => q d v F2 H2 hp (s1.trans s2.m) (ok.st g1 s2) h2⟩
end
/-! ### the state: a dict of its own -/
def stK (c : Addr) (l m t : Int) : List (Key × V) := [(.inr "cells", .ref c), (.inr "left", .int l), (.inr "mixed", .int m), (.inr "at", .int t)]
def bigB : Int := 2 ^ 60
structure StO (K : PySem.W.Frag) (a : Addr) (b : Nat) (F H : Hp) : Prop where
  out : F a = none
  at_ : ∃ (c : Addr) (ns : { l : List Int // l.length ≤ 64 }) (l m t : Int), 0 ≤ l ∧ 0 ≤ t ∧ t + b ≤ bigB ∧ H a = some (.dK (stK c l m t)) ∧ Dp K F (.ref c) (.list (ns.1.map .int))
def spN (K : PySem.W.Frag) (n : Nat) (PL : List D → Prop) (P : List D → D → Prop) : Sp := fun vs H Q _ => ∃ (F : Hp) (a : Addr) (b : Nat) (vs' : List V) (ds : List D), vs = .ref a :: vs' ∧ Same F H ∧ DpAll K F vs' ds ∧ PL ds ∧ StO K a (b + n) F H ∧
  ∀ d v F' H', P ds d → StepM (· = a) F H F' H' → StO K a b F' H' → Dp K F' v d → Q v H'
theorem StO.lo {K : PySem.W.Frag} {a : Addr} {b c : Nat} {F H : Hp} (h : StO K a b F H) (l : c ≤ b) : StO K a c F H := by
  obtain ⟨h1, x, ns, l, m, t, h2, h3, h4, h5⟩ := h
  exact ⟨h1, x, ns, l, m, t, h2, h3, by omega, h5⟩
theorem StO.step {K : PySem.W.Frag} {a : Addr} {b : Nat} {F H F' H' : Hp} (h : StO K a b F H) (s : Step F H F' H') : StO K a b F' H' := by
  obtain ⟨h1, x, ns, l, m, t, h2, h3, h4, h5, h6⟩ := h
  obtain ⟨q1, q2⟩ := s.own h5 h1
  exact ⟨q2, x, ns, l, m, t, h2, h3, h4, q1, dp_mono s.ff h6⟩
structure HasSt (K : PySem.W.Frag) (Z : Rz) (s : Nat) (a : Addr) : Prop where
  slot : ∀ {σ}, Z.S σ → σ[s]? = some (some (.ref a))
  m : Z.M a
  get : ∀ {b F H}, Z.G b F H → StO K a b F H
  put : ∀ {b b' F H F' H'}, Z.G b F H → StepM (· = a) F H F' H' → StO K a b' F' H' → Z.G b' F' H'
/-- the state alone, in slot s -/
def rzS (K : PySem.W.Frag) (s : Nat) (a : Addr) : Rz := ⟨fun σ => σ[s]? = some (some (.ref a)), (· = a), fun b F H => StO K a b F H⟩
theorem StO.up {K : PySem.W.Frag} {a : Addr} {b b1 : Nat} {F H F1 H1 : Hp} {D0 : Addr} {o : HO} (h1 : StO K a b1 F1 H1) (hD : H1 D0 = none) (h : StO K a b F H) : StO K a b F (upd H D0 o) := by
  obtain ⟨_, _, _, _, _, _, _, _, _, k, _⟩ := h1
  obtain ⟨h1, x, ns, l, m, t, h2, h3, h4, h5, h6⟩ := h
  exact ⟨h1, x, ns, l, m, t, h2, h3, h4, by rw [upd_ne (ne_of_none k hD)]; exact h5, h6⟩
theorem StO.pb {K : PySem.W.Frag} {a : Addr} {b b1 : Nat} {F H F1 H1 : Hp} {l : Addr} {o : HO} (h1 : StO K a b1 F1 H1) (hD : H1 l = none) (h : StO K a b F H) (hf : F l = none) : StO K a b (upd F l o) H := by
  obtain ⟨_, _, _, _, _, _, _, _, _, k, _⟩ := h1
  obtain ⟨h1, x, ns, l, m, t, h2, h3, h4, h5, h6⟩ := h
  exact ⟨by rw [upd_ne (ne_of_none k hD)]; exact h1, x, ns, l, m, t, h2, h3, h4, h5, dp_mono (pub_same hf) h6⟩
theorem StO.mo {K : PySem.W.Frag} {a x : Addr} {b : Nat} {F H : Hp} (h : StO K a b F H) (hx : H x = none) : ¬ x = a := fun z => by
  subst z
  obtain ⟨_, _, _, _, _, _, _, _, _, k, _⟩ := h
  rw [hx] at k
  cases k
theorem rzS_ok {K : PySem.W.Frag} {s : Nat} {a : Addr} : (rzS K s a).Ok := ⟨fun h s => StO.step h s, fun l h => StO.lo h l, fun h1 hD h => StO.up h1 hD h, fun h hx => StO.mo h hx, fun h1 hD h hf _ => StO.pb h1 hD h hf⟩
theorem StO.ne {K : PySem.W.Frag} {a l : Addr} {b : Nat} {F H : Hp} {o : HO} (n : a ≠ l) (h : StO K a b F H) : StO K a b F (upd H l o) := by
  obtain ⟨h1, x, ns, l', m, t, h2, h3, h4, h5, h6⟩ := h
  exact ⟨h1, x, ns, l', m, t, h2, h3, h4, by rw [upd_ne n]; exact h5, h6⟩
/-- nothing used -/
def rz0 : Rz := ⟨fun _ => True, fun _ => False, fun _ _ _ => True⟩
theorem rz0_ok : rz0.Ok := ⟨fun _ _ => trivial, fun _ _ => trivial, fun _ _ _ => trivial, fun _ _ z => z, fun _ _ _ _ _ => trivial⟩
theorem rzS_has {K : PySem.W.Frag} {s : Nat} {a : Addr} : HasSt K (rzS K s a) s a := ⟨fun h => h, rfl, fun h => h, fun _ _ h => h⟩
section
variable {X : Cx} {Z : Rz} {e : Expr} {es : List Expr} {ρ : DEnv} {n m : Nat} {QL PL : List D → Prop} {P : List D → D → Prop} {pos : Pos} {s : Nat} {a : Addr}
theorem pn_callS {x y : Str} {k : Nat} {ps : List Str} {p p1 : Pos} (hs : HasSt X.K Z s a) (c : Cal X.prog X.w X.K X.mg X.base x k ps (spN X.K n PL P)) (hr : Room k X.A) (ha : PNA X Z es ρ m QL) (h : ∀ ds, QL ds → PL ds) (hN : X.N[s]? = some y := by rfl)
    (hv : Vis X.env.scope y := by first | exact Or.inl rfl | exact Or.inr (Or.inl rfl) | exact Or.inr (Or.inr rfl)) (hg : Gl X x := by rfl) (hdb : (x == ("__debug__" : Str)) = false := by decide) (hd : (y == ("__debug__" : Str)) = false := by decide) (hcd : (y == ("__classdict__" : Str)) = false := by decide)
    (he : starEach (.Name y p1 :: es) X.env = (false, eval (.Name y p1) X.env) :: starEach es X.env := by rfl) (hpl : (backTo pos (starEach es X.env)).any (·.1) = false := by rfl) : PN X Z (.Call (.Name x p) (.Name y p1 :: es) [] pos) ρ (m + n) (fun d => ∃ ds, QL ds ∧ P ds d) := by
  obtain ⟨f, fd, hm, F, hk, hb⟩ := c.ex
  refine pn_of (pe_call F hr hg hm hk hb .nil pass0 (pa_cons (pe_var hN hv hd hcd) pa_u he) hdb he hpl) fun b F σ H Q hE hz hgg q => ?_
  refine ⟨_, hs.slot hz, ha (b + n) F σ H _ hE hz (Gadd hgg) fun ds vs F1 H1 p s1 g1 h1 => ?_⟩
  refine ⟨F1, a, b, vs, ds, by rw [List.append_nil], s1.fh, h1, h ds p, hs.get g1, fun d v F2 H2 hp s2 o2 dp => ?_⟩
  exact q d v F2 H2 ⟨ds, p, hp⟩ (s1.trans (s2.wide fun x hx => by rw [hx]; exact hs.m)) (hs.put g1 s2 o2) dp
/-! ### raw -/
variable {F H : Hp} {σ : St} {rest body orelse : List Stmt} {Dn : Ends} {P1 : D → Prop}
theorem us_setN (i : Nat) {x : Str} {b : Nat} {p : Pos} (he : PN X Z e ρ n P1) (hE : EnvOk X.K F ρ σ H) (hS : Z.S σ) (hG : Z.G (b + n) F H) (k : ∀ d v F' H', P1 d → StepM Z.M F H F' H' → Z.G b F' H' → Dp X.K F' v d → EnvOk X.K F' (ρ.set i (some d)) (σ.set i (some v)) H' → US X rest Dn (σ.set i (some v)) H') (nd : X.N.Nodup) (hi : X.N[i]? = some x := by rfl)
    (hx : Loc X.env.scope x := by first | exact Or.inl rfl | exact Or.inr rfl) (hs : swapsWith e (some (.Name x p)) pos.line X.env = pure false := by rfl) (hf : X.fn x = true ∨ X.env.scope.names.lookup x = some .local := by first | exact .inl rfl | exact .inr rfl) : US X (.Assign [.Name x p] e pos :: rest) Dn σ H :=
  ⟨_, pss_cons (ps_set nd hi hx pe_u hs hf) pss_u, he b F σ H _ hE hS hG fun d v F1 H1 p1 s1 g1 h1 => k d v F1 H1 p1 s1 g1 h1 ((hE.stepM s1).set i h1)⟩
theorem us_retN {b : Nat} (he : PN X Z e ρ n P1) (hE : EnvOk X.K F ρ σ H) (hS : Z.S σ) (hG : Z.G (b + n) F H) (k : ∀ d v F' H', P1 d → StepM Z.M F H F' H' → Z.G b F' H' → Dp X.K F' v d → Dn.rt v H') : US X [.Return (some e) pos] Dn σ H := ⟨_, pss_one (ps_ret pe_u), he b F σ H _ hE hS hG k⟩
/-- x, y = a, b -/
theorem us_parN (i j : Nat) {x y : Str} {a b : Expr} {px py pt : Pos} {kt k2 pt2} {bb : Nat} {PL : List D → Prop} (ha : PNA X Z [a, b] ρ n PL) (hE : EnvOk X.K F ρ σ H) (hS : Z.S σ) (hG : Z.G (bb + n) F H) (hp : ∀ ds, PL ds → ∃ d1 d2, ds = [d1, d2])
    (k : ∀ d1 d2 v w F' H', PL [d1, d2] → StepM Z.M F H F' H' → Z.G bb F' H' → EnvOk X.K F' ((ρ.set i (some d1)).set j (some d2)) ((σ.set i (some v)).set j (some w)) H' → US X rest Dn ((σ.set i (some v)).set j (some w)) H')
    (hP : PS X (.Assign [.Tuple [.Name x px, .Name y py] kt pt] (.Tuple [a, b] k2 pt2) pos) (tPar i j (UA X [a, b]))) : US X (.Assign [.Tuple [.Name x px, .Name y py] kt pt] (.Tuple [a, b] k2 pt2) pos :: rest) Dn σ H :=
  ⟨_, pss_cons hP pss_u, ha bb F σ H _ hE hS hG fun ds vs F1 H1 p s1 g1 h1 => by
    obtain ⟨d1, d2, rfl⟩ := hp ds p
    obtain ⟨v, w, rfl, h2, h3⟩ := dpa2 h1
    exact ⟨v, w, rfl, k d1 d2 v w F1 H1 p s1 g1 (((hE.stepM s1).set i h2).set j h3)⟩⟩
end
end Rs
end

section
set_option Elab.async false
set_option linter.all false
set_option maxRecDepth 100000
set_option maxHeartbeats 4000000
namespace Rs
open PySem PySem.Spec L2
/-! ### tests told loosely -/
def EvNT (K : PySem.W.Frag) (Z : Rz) (t : TT) (ρ : DEnv) (n : Nat) (P : Bool → Prop) : Prop := ∀ (b : Nat) (F : Hp) (σ : St) (H : Hp) (Q : Bool → Hp → Prop), EnvOk K F ρ σ H → Z.S σ → Z.G (b + n) F H → (∀ k F' H', P k → StepM Z.M F H F' H' → Z.G b F' H' → Q k H') → t σ H Q
abbrev PNT (X : Cx) (Z : Rz) (e : Expr) (ρ : DEnv) (n : Nat) (P : Bool → Prop) : Prop := EvNT X.K Z (UT X e) ρ n P
section
variable {X : Cx} {Z : Rz} {e a b c : Expr} {es : List Expr} {ρ : DEnv} {n m : Nat} {P P1 P2 : D → Prop} {pos p2 p1 pos' : Pos} {d : D} {p q : Int → Prop} {s : Nat} {A : Addr} {F H : Hp} {σ : St} {rest body orelse : List Stmt} {Dn : Ends} {B : Bool → Prop}
theorem pn_cmpI (ha : PN X Z a ρ n (IsI p)) (hb : PN X Z b ρ m (IsI q)) : PN X Z (.Compare a [.Eq] [b] pos) ρ (n + m) (fun d => ∃ i j, p i ∧ q j ∧ d = .bool (decide (i = j))) :=
  pn_of (pe_cmpR op_eq pe_u pe_u (nomark _)) fun b F σ H Q he hz hg k => ha (b + m) F σ H _ he hz (Gadd hg) fun d1 x F1 H1 ⟨i, e1, p1⟩ s1 g1 h1 => hb b F1 σ H1 _ (he.stepM s1) hz g1 fun d2 y F2 H2 ⟨j, e2, p2⟩ s2 g2 h2 => by
    subst e1 e2
    rw [dp_int h1, dp_int h2]
    refine ⟨rfl, ?_⟩
    have e : decide (V.int i = V.int j) = decide (i = j) := by simp
    rw [e]
    exact k _ _ F2 H2 ⟨i, j, p1, p2, rfl⟩ (s1.trans s2) g2 (.bl _)
theorem pnt_cmpI (ha : PN X Z a ρ n (IsI p)) (hb : PN X Z b ρ m (IsI q)) : PNT X Z (.Compare a [.Eq] [b] pos) ρ (n + m) (fun k => ∃ i j, p i ∧ q j ∧ k = decide (i = j)) := fun b F σ H Q he hz hg k =>
  ⟨_, pt_cmpR op_eq pe_u pe_u (nomark _), ha (b + m) F σ H _ he hz (Gadd hg) fun d1 x F1 H1 ⟨i, e1, p1⟩ s1 g1 h1 => hb b F1 σ H1 _ (he.stepM s1) hz g1 fun d2 y F2 H2 ⟨j, e2, p2⟩ s2 g2 h2 => by
    subst e1 e2
    rw [dp_int h1, dp_int h2]
    refine ⟨rfl, ?_⟩
    have e : decide (V.int i = V.int j) = decide (i = j) := by simp
    rw [e]
    exact ⟨_, rfl, k _ F2 H2 ⟨i, j, p1, p2, rfl⟩ (s1.trans s2) g2⟩⟩
theorem pn_if (hc : PNT X Z c ρ n B) (h1 : PN X Z a ρ m P) (h2 : PN X Z b ρ m P) : PN X Z (.IfExp c a b pos) ρ (n + m) P := pn_of (pe_ifExp pt_u pe_u pe_u) fun b F σ H Q he hz hg k => hc (b + m) F σ H _ he hz (Gadd hg) fun x F1 H1 _ s1 g1 => by
  cases x with
  | true => exact h1 b F1 σ H1 Q (he.stepM s1) hz g1 fun d v F2 H2 hp s2 => k d v F2 H2 hp (s1.trans s2)
  | false => exact h2 b F1 σ H1 Q (he.stepM s1) hz g1 fun d v F2 H2 hp s2 => k d v F2 H2 hp (s1.trans s2)
theorem us_ifN {bb : Nat} (hc : PNT X Z c ρ n B) (hE : EnvOk X.K F ρ σ H) (hS : Z.S σ) (hG : Z.G (bb + n) F H) (h1 : ∀ F' H', B true → StepM Z.M F H F' H' → Z.G bb F' H' → EnvOk X.K F' ρ σ H' → US X body { Dn with nx := US X rest Dn } σ H')
    (h2 : ∀ F' H', B false → StepM Z.M F H F' H' → Z.G bb F' H' → EnvOk X.K F' ρ σ H' → US X orelse { Dn with nx := US X rest Dn } σ H') : US X (.If c body orelse pos :: rest) Dn σ H :=
  ⟨_, pss_cons (ps_if pt_u pss_u pss_u) pss_u, hc bb F σ H _ hE hS hG fun k F1 H1 hk s1 g1 => by
    have e1 := hE.stepM s1
    cases k with
    | true => exact h1 F1 H1 hk s1 g1 e1
    | false => exact h2 F1 H1 hk s1 g1 e1⟩
/-- a field of the state -/
theorem pn_fld {x f : Str} {j : Nat} (hs : HasSt X.K Z s A) (hu : X.A.units + 1 < cLine) (hf : ∀ c l m t, 0 ≤ l → 0 ≤ t → t ≤ bigB → ∃ i, valV (stK c l m t) (.inr f) = some (.int i) ∧ p i) (hN : X.N[s]? = some x := by rfl)
    (hv : Vis X.env.scope x := by first | exact Or.inl rfl | exact Or.inr (Or.inl rfl) | exact Or.inr (Or.inr rfl)) (hd : (x == ("__debug__" : Str)) = false := by decide) (hcd : (x == ("__classdict__" : Str)) = false := by decide) : PN X Z (.Subscript (.Name x p1) (.Constant (.str f) j p2) pos) ρ 0 (IsI p) :=
  pn_of (pe_dget hu (pe_var hN hv hd hcd) pe_str (fun _ _ => rfl)) fun b F σ H Q he hz hg k => by
    obtain ⟨o1, c, ns, l, m, t, h2, h3, h4, h5, h6⟩ := hs.get hg
    obtain ⟨i, hi, hp⟩ := hf c l m t h2 h3 (by omega)
    exact ⟨_, hs.slot hz, A, .int i, rfl, .inl ⟨_, .inr f, .inl h5, rfl, hi.symm⟩, k _ _ F H ⟨i, rfl, hp⟩ (StepM.refl he.fh) hg (.int i)⟩
/-- state[f] = e -/
theorem us_stput {x f : Str} {j : Nat} {bb bb' : Nat} (hs : HasSt X.K Z s A) (hu : X.A.units + 1 < cLine) (he : PN X Z e ρ n (IsI p)) (hE : EnvOk X.K F ρ σ H) (hS : Z.S σ) (hG : Z.G (bb + n) F H) (hf : ∀ c l m t v, 0 ≤ l → 0 ≤ t → t + bb ≤ bigB → p v → ∃ l' m' t', putK (stK c l m t) (.inr f) (.int v) = stK c l' m' t' ∧ 0 ≤ l' ∧ 0 ≤ t' ∧ t' + bb' ≤ bigB)
    (k : ∀ F' H', StepM Z.M F H F' H' → Z.G bb' F' H' → EnvOk X.K F' ρ σ H' → US X rest Dn σ H') (hsw : swapsWith e (some (.Subscript (.Name x p1) (.Constant (.str f) j p2) pos')) pos.line X.env = pure false := by rfl) (hN : X.N[s]? = some x := by rfl)
    (hv : Vis X.env.scope x := by first | exact Or.inl rfl | exact Or.inr (Or.inl rfl) | exact Or.inr (Or.inr rfl)) (hd : (x == ("__debug__" : Str)) = false := by decide) (hcd : (x == ("__classdict__" : Str)) = false := by decide) :
    US X (.Assign [.Subscript (.Name x p1) (.Constant (.str f) j p2) pos'] e pos :: rest) Dn σ H :=
  ⟨_, pss_cons (ps_dput hu (pe_var hN hv hd hcd) pe_str pe_u hsw) pss_u, he bb F σ H _ hE hS hG fun d v F1 H1 ⟨i, ei, hp⟩ s1 g1 h1 => by
    subst ei
    obtain ⟨o1, c, ns, l, m, t, h2, h3, h4, h5, h6⟩ := hs.get g1
    obtain ⟨l', m', t', q1, q2, q3, q4⟩ := hf c l m t i h2 h3 h4 hp
    have hv := dp_int h1
    subst hv
    have s2 : StepM (· = A) F1 H1 F1 (upd H1 A (.dK (stK c l' m' t'))) := (StepM.refl s1.fh).mut o1 (.inr rfl)
    have g2 := hs.put g1 s2 (b' := bb') ⟨o1, c, ns, l', m', t', q2, q3, q4, upd_same, h6⟩
    refine ⟨_, hs.slot hS, A, upd H1 A (.dK (stK c l' m' t')), rfl, .inl ⟨_, .inr f, h5, rfl, (by show 4 < sizeLine; decide), by rw [q1]⟩, ?_⟩
    have s3 := s1.trans (s2.wide (M' := Z.M) fun y hy => by rw [hy]; exact hs.m)
    exact k F1 _ s3 g2 (hE.stepM s3)⟩
end
/-! ### _law_draw -/
theorem fld_left : ∀ (c : Addr) (l m t : Int), 0 ≤ l → 0 ≤ t → t ≤ bigB → ∃ i, valV (stK c l m t) (.inr "left") = some (.int i) ∧ 0 ≤ i := fun c l m t h _ _ => ⟨l, rfl, h⟩
theorem fld_mixed : ∀ (c : Addr) (l m t : Int), 0 ≤ l → 0 ≤ t → t ≤ bigB → ∃ i, valV (stK c l m t) (.inr "mixed") = some (.int i) ∧ True := fun c l m t h _ _ => ⟨m, rfl, trivial⟩
theorem fld_at : ∀ (c : Addr) (l m t : Int), 0 ≤ l → 0 ≤ t → t ≤ bigB → ∃ i, valV (stK c l m t) (.inr "at") = some (.int i) ∧ IB 1000 i := fun c l m t h h2 h3 => ⟨t, rfl, by
  have : IB 62 t := by
    unfold bigB at h3
    unfold IB
    omega
  exact this.mono (by decide)⟩
def P1M (ds : List D) : Prop := ∃ m : Int, ds = [.int m] ∧ 0 < m ∧ m < 2 ^ 200
def PDraw (ds : List D) (d : D) : Prop := ∃ m v : Int, ds = [.int m] ∧ d = .int v ∧ 0 ≤ v ∧ v < m
section
variable {P : Program} {w : World} {K : PySem.W.Frag} {mg : Str → Option Value} {base : Heap}
theorem sc__law_draw : FnScope ["_law_state", "_law_many", "_law_number_here", "_law_found"] ["_law_state", "_law_many"] (defScope (top 73)) := ⟨rfl, rfl, rfl, by decide +kernel, rfl, by decide +kernel, by decide +kernel⟩
theorem cal__law_draw (D0 : DefAt K mg "_law_draw" 73) (c__law_mixed : Cal P w K mg base "_law_mixed" 1 ["_law_cell", "_law_k"] (spP K R__law_mixed)) : Cal P w K mg base "_law_draw" 2 ["_law_state", "_law_many"] (spN K 1 P1M PDraw) := by
  obtain ⟨f, fd, hm, Fn⟩ := D0
  refine ⟨f, fd, hm, ?_, Fn.kp, Fn.bindsN fun _ _ _ _ _ _ us hl => match us, hl with | [_, _], _ => rfl⟩
  refine Fn.ok (k := 1) sc__law_draw (fun vs H Q E h => ?_) (fun cdv A outer s H vs Q E hr h => ?_)
  · obtain ⟨F, a, b, vs', ds, rfl, _, h1, ⟨m, rfl, _⟩, _⟩ := h
    obtain ⟨v, rfl, _⟩ := dpa1 h1
    rfl
  · obtain ⟨F, a, b, vs', ds, rfl, h0, h1, ⟨m, rfl, m0, mB⟩, hst, kq⟩ := h
    obtain ⟨v, rfl, hv⟩ := dpa1 h1
    have hu := hu_of hr
    have e0 : EnvOk K F [none, some (.int m), none, none] (L2.start ["_law_state", "_law_many", "_law_number_here", "_law_found"] [.ref a, v]) H := env_raw h0 (.skip (.cons hv .nil)) rfl
    have S0 : (rzS K 0 a).S (L2.start ["_law_state", "_law_many", "_law_number_here", "_law_found"] [.ref a, v]) := rfl
    have HS := rzS_has (K := K) (s := 0) (a := a)
    have OK := rzS_ok (K := K) (s := 0) (a := a)
    refine ⟨_, PSs.nox pss_u, ?_⟩
    -- state['at'] = state['at'] + 1
    obtain ⟨o1, c, ns, l, mi, t, h2, h3, h4, h5, h6⟩ := id hst
    refine ⟨_, pss_cons (ps_dput hu (pv 0) pe_str (pe_op op_add (pe_dget hu (pv 0) pe_str (fun _ _ => rfl)) pe_int) rfl) pss_u, ?_⟩
    refine ⟨_, rfl, a, .int t, rfl, .inl ⟨_, .inr "at", .inl h5, rfl, rfl⟩, t, 1, rfl, rfl, ?_⟩
    have s2 : StepM (· = a) F H F (upd H a (.dK (stK c l mi (t + 1)))) := (StepM.refl h0).mut o1 (.inr rfl)
    have g2 : StO K a b F (upd H a (.dK (stK c l mi (t + 1)))) := ⟨o1, c, ns, l, mi, t + 1, h2, by omega, by omega, upd_same, h6⟩
    refine ⟨_, rfl, a, upd H a (.dK (stK c l mi (t + 1))), rfl, .inl ⟨_, .inr "at", h5, rfl, (by show 4 < sizeLine; decide), rfl⟩, ?_⟩
    have e1 := e0.stepM s2
    refine us_ifN (n := 0 + 0) (bb := b) (pnt_cmpI (pn_fld HS hu fld_left) (pn_pd OK pd_int ⟨0, rfl, rfl⟩)) e1 S0 g2 (fun F1 H1 _ s3 g3 e3 => ?_) (fun F1 H1 _ s3 g3 e3 => ?_)
    · refine us_setN 2 (n := 0 + (0 + 0)) (b := b) (pn_callP OK c__law_mixed (hr.mono (by decide)) (pna_cons (pn_fld HS hu fld_mixed) (pna_cons (pn_fld HS hu fld_at) (pna_nil OK))) (P := fun d => IsI (fun i => IB 31 i) d) fun ds hds => ?_) e3 S0 g3 (fun d v F2 H2 hd s4 g4 h4 e4 => ?_) sc__law_draw.nd
      · obtain ⟨d1, ds1, rfl, ⟨x, rfl, _⟩, d2, ds2, rfl, ⟨y, rfl, hy⟩, rfl⟩ := hds
        refine ⟨_, ⟨x, y, rfl, hy, rfl⟩, _, rfl, ?_⟩
        have hz : IB 31 (mixN x y * 69621 % 2147483629) := emod_IB (by decide) (by unfold IB; decide)
        refine hz.le ?_
        have := Int.emod_nonneg (mixN x y * 69621) (show (2147483629 : Int) ≠ 0 by decide)
        unfold mixD
        omega
      · obtain ⟨i, rfl, hi⟩ := hd
        have k1 : IB 30 1000000007 := by unfold IB; decide
        have k2 : IB 15 16807 := by unfold IB; decide
        have hr1 : IB 30 (i * i % 1000000007) := emod_IB (by decide) k1
        refine us_ret (pd_mod (pd_fdiv (pd_mod (pd_mulW (pd_mod (pd_mulW (pd_var 2) (pd_var 2) (mulW hi hi (by decide) (by decide) (by decide))) pd_int (by decide)) pd_int (mulW hr1 k2 (by decide) (by decide) (by decide))) pd_int (by decide)) pd_int ⟨by decide, by decide⟩) (pd_var 1) m0) e4 (fun v F3 H3 s5 h5 => ?_)
        exact kq _ v F3 H3 ⟨m, _, rfl, rfl, Int.emod_nonneg _ (by omega), Int.emod_lt_of_pos _ m0⟩ (((s2.trans s3).trans s4).trans s5.m) (g4.step s5) h5
    · refine us_nil ?_
      have mI : IB 200 m := by unfold IB; omega
      refine us_setN 3 (n := 0 + 0) (b := b) (pn_op (P := IsI (fun i => 0 ≤ i ∧ i < m)) op_mod (pn_fld HS hu fld_left) (pn_pd OK (pd_var 1) (P := IsI (· = m)) ⟨m, rfl, rfl⟩) ?_) e3 S0 g3 (fun d v F2 H2 hd s4 g4 h4 e4 => ?_) sc__law_draw.nd
      · rintro d1 d2 ⟨x, rfl, hx⟩ ⟨y, rfl, rfl⟩
        exact ⟨.int (x % y), ⟨_, rfl, Int.emod_nonneg _ (by omega), Int.emod_lt_of_pos _ m0⟩, fun F H u v Q hs g1 g2 k => ⟨x, y, dp_int g1, dp_int g2, m0, k _ (.int _)⟩⟩
      · obtain ⟨i, rfl, hi1, hi2⟩ := hd
        refine us_stput (n := 0 + 0) (bb := b) (bb' := b) (p := (0 ≤ ·)) HS hu (pn_op (P := IsI (fun i => 0 ≤ i)) op_fdivG (pn_fld HS hu fld_left) (pn_pd OK (pd_var 1) (P := IsI (· = m)) ⟨m, rfl, rfl⟩) ?_) e4 S0 g4 (fun c l mi t v q1 q2 q3 q4 => ⟨v, mi, t, rfl, q4, q2, q3⟩) (fun F3 H3 s5 g5 e5 => ?_)
        · rintro d1 d2 ⟨x, rfl, hx⟩ ⟨y, rfl, rfl⟩
          exact ⟨.int (x.fdiv y), ⟨_, rfl, Int.fdiv_nonneg hx (by omega)⟩, fun F H u v Q hs g1 g2 k => ⟨x, y, dp_int g1, dp_int g2, divG mI (by omega) (by decide) (by decide), k _ (.int _)⟩⟩
        · refine us_ret (pd_var 3) e5 (fun v F4 H4 s6 h6 => ?_)
          exact kq _ v F4 H4 ⟨m, i, rfl, rfl, hi1, hi2⟩ ((((s2.trans s3).trans s4).trans s5).trans s6.m) (g5.step s6) h6
end
end Rs
end

section
set_option Elab.async false
set_option linter.all false
set_option maxRecDepth 100000
set_option maxHeartbeats 4000000
namespace Rs
open PySem PySem.Spec L2
/-! ### what is gone through: data, one by one -/
def SrcD (K : PySem.W.Frag) (wi : TI) (ρ : DEnv) (ds : List D) : Prop := ∀ (F : Hp) (σ : St) (H : Hp) (R : It → Hp → Prop), EnvOk K F ρ σ H →
  (∀ (J : It) (F1 H1 : Hp) (G : Hp → Prop) (Y : Nat → Hp → V → Hp → Prop), Step F H F1 H1 → Walk J ds.length G Y → (∀ H', Same F1 H' → G H') →
    (∀ i H x H' F', Y i H x H' → i < ds.length → Same F1 F' → Same F' H → ∃ F'' d, Step F' H F'' H' ∧ ds[i]? = some d ∧ Dp K F'' x d) → R J H1) → wi σ H R
def USrc (X : Cx) (tg it : Expr) : TI := fun σ H R => ∃ wi, PI X tg it wi ∧ wi σ H R
theorem pi_u {X : Cx} {tg it : Expr} : PI X tg it (USrc X tg it) := ⟨fun pins s σ H R I ⟨_, h1, h2⟩ => h1.run pins s σ H R I h2⟩
abbrev PSrc (X : Cx) (tg it : Expr) (ρ : DEnv) (ds : List D) : Prop := SrcD X.K (USrc X tg it) ρ ds
section
variable {X : Cx} {tg e e2 e3 : Expr} {es : List Expr} {ρ : DEnv} {ds xs ys : List D} {pos p tpos : Pos} {kk : Nat} {n : Int}
theorem src_of {wi : TI} (h : PI X tg e wi) (q : SrcD X.K wi ρ ds) : PSrc X tg e ρ ds := fun F σ H R he k => ⟨wi, h, q F σ H R he k⟩
theorem src_list (h : PD X e ρ (.list ds)) : PSrc X tg e ρ ds := src_of (pi_list pe_u) fun F σ H R he k => h F σ H _ he fun v F1 H1 s1 h1 => by
  obtain ⟨l, vs, rfl, hq, ha⟩ := dp_lst h1
  have hl := dpa_len ha
  refine ⟨l, rfl, ⟨vs, Same.seq s1.fh hq⟩, k (Itl X.K l) F1 H1 (fun H => SqL X.K H l vs) (YAt vs) s1 (hl ▸ walk_list) (fun H' s => Same.seq s hq) fun i H x H' F' y hi sf sh => ?_⟩
  obtain ⟨rfl, hx⟩ := y
  obtain ⟨d, hd, hdp⟩ := dpa_getV ha hx
  exact ⟨F', d, Step.refl sh, hd, dp_mono sf hdp⟩
theorem src_tup (h : PD X e ρ (.tuple ds)) : PSrc X tg e ρ ds := src_of (pi_tup pe_u) fun F σ H R he k => h F σ H _ he fun v F1 H1 s1 h1 => by
  obtain ⟨l, vs, rfl, hq, ha⟩ := dp_tup h1
  have hl := dpa_len ha
  refine ⟨l, rfl, ⟨vs, Same.sqt s1.fh hq⟩, k (Itt X.K l) F1 H1 (fun H => SqT X.K H l vs) (YAt vs) s1 (hl ▸ walk_tup) (fun H' s => Same.sqt s hq) fun i H x H' F' y hi sf sh => ?_⟩
  obtain ⟨rfl, hx⟩ := y
  obtain ⟨d, hd, hdp⟩ := dpa_getV ha hx
  exact ⟨F', d, Step.refl sh, hd, dp_mono sf hdp⟩
def rngD (n : Int) : List D := (List.range n.toNat).map fun (i : Nat) => .int (i : Int)
theorem src_range (hg : Gl X "range") (hm : X.mg "range" = none) (h : PD X e ρ (.int n)) (hn : 0 ≤ n ∧ n < 2 ^ 62) (hs : starEach [e] X.env = [(false, eval e X.env)] := by rfl) : PSrc X tg (.Call (.Name "range" p) [e] [] pos) ρ (rngD n) :=
  src_of (pi_range1 hg hm (pa_cons pe_u pa_nil (by rw [hs]; rfl)) hs) fun F σ H R he k => h F σ H _ he fun v F1 H1 s1 h1 => by
  have hl : (rngD n).length = n.toNat := by unfold rngD; simp
  refine ⟨n, by rw [dp_int h1], by omega, by omega, k (Itr 0 n.toNat) F1 H1 (fun _ => True) (YFn fun i => .int (0 + (i : Int))) s1 (by rw [hl]; exact walk_range) (fun H' s => trivial) fun i H x H' F' y hi sf sh => ?_⟩
  obtain ⟨rfl, rfl⟩ := y
  refine ⟨F', .int (i : Int), Step.refl sh, ?_, ?_⟩
  · unfold rngD
    rw [List.getElem?_map, List.getElem?_range (by omega)]
    rfl
  · show Dp X.K F' (V.int (0 + (i : Int))) _
    rw [Int.zero_add]
    exact .int _
def enumD (xs : List D) : List D := xs.mapIdx fun i x => .tuple [.int (i : Int), x]
theorem pairD {K : PySem.W.Frag} {F H : Hp} {T : Addr} {v w : V} {d1 d2 : D} (s : Same F H) (hT : H T = none) (h1 : Dp K F v d1) (h2 : Dp K F w d2) : Step F H (upd F T (.tup [v, w])) (upd H T (.tup [v, w])) ∧ Dp K (upd F T (.tup [v, w])) (.ref T) (.tuple [d1, d2]) :=
  ⟨Step.new s hT, .tup (SqT.of upd_same) (.cons (dp_mono (new_same s hT) h1) (.cons (dp_mono (new_same s hT) h2) .nil))⟩
theorem src_enum (hg : Gl X "enumerate") (hm : X.mg "enumerate" = none) (h : PD X e ρ (.list xs)) (hs : starEach [e] X.env = [(false, eval e X.env)] := by rfl) : PSrc X (.Tuple es kk tpos) (.Call (.Name "enumerate" p) [e] [] pos) ρ (enumD xs) :=
  src_of (pi_enum hg hm (pa_cons pe_u pa_nil (by rw [hs]; rfl)) hs) fun F σ H R he k => h F σ H _ he fun v F1 H1 s1 h1 => by
  obtain ⟨l, vs, rfl, hq, ha⟩ := dp_lst h1
  have hl : (enumD xs).length = vs.length := by unfold enumD; rw [List.length_mapIdx, dpa_len ha]
  refine ⟨l, vs, rfl, Same.seq s1.fh hq, k (Ite X.K l) F1 H1 (fun H => SqL X.K H l vs) _ s1 (hl ▸ walk_enum) (fun H' s => Same.seq s hq) fun i H x H' F' y hi sf sh => ?_⟩
  obtain ⟨T, a, b, rfl, hT, rfl, ha1, hb⟩ := y
  cases ha1
  obtain ⟨d, hd, hdp⟩ := dpa_getV ha hb
  obtain ⟨q1, q2⟩ := pairD sh hT (.int (i : Int)) (dp_mono sf hdp)
  refine ⟨_, _, q1, ?_, q2⟩
  unfold enumD
  rw [List.getElem?_mapIdx, hd]
  rfl
def zipD (xs ys : List D) : List D := List.zipWith (fun x y => .tuple [x, y]) xs ys
theorem src_zip (hg : Gl X "zip") (hm : X.mg "zip" = none) (h : PD X e ρ (.list xs)) (h2 : PD X e2 ρ (.list ys)) (hs : starEach [e, e2] X.env = (false, eval e X.env) :: starEach [e2] X.env := by rfl) (hs2 : starEach [e2] X.env = (false, eval e2 X.env) :: starEach [] X.env := by rfl)
    (hpl : (backTo pos (starEach [e2] X.env)).any (·.1) = false := by rfl) : PSrc X (.Tuple es kk tpos) (.Call (.Name "zip" p) [e, e2] [] pos) ρ (zipD xs ys) :=
  src_of (RZ.pi_zipA hg hm pa_u hs hpl) fun F σ H R he k => (pda_cons h (pda_cons h2 pda_nil hs2) hs : PDA X [e, e2] ρ [.list xs, .list ys]) F σ H _ he fun us F1 H1 s1 h1 => by
  obtain ⟨v, w, rfl, g1, g2⟩ := dpa2 h1
  obtain ⟨l, vs, rfl, hq, ha⟩ := dp_lst g1
  obtain ⟨l2, vs2, rfl, hq2, ha2⟩ := dp_lst g2
  have hl : (zipD xs ys).length = min vs.length vs2.length := by unfold zipD; rw [List.length_zipWith, dpa_len ha, dpa_len ha2]
  refine ⟨l, l2, vs, vs2, rfl, .inl ⟨Same.seq s1.fh hq, Same.seq s1.fh hq2, k (Itz X.K l l2) F1 H1 (fun H => SqL X.K H l vs ∧ SqL X.K H l2 vs2) _ s1 (walk_zip hl) (fun H' s => ⟨Same.seq s hq, Same.seq s hq2⟩) fun i H x H' F' y hi sf sh => ?_⟩⟩
  obtain ⟨T, a, b, rfl, hT, rfl, ha1, hb⟩ := y
  obtain ⟨d, hd, hdp⟩ := dpa_getV ha ha1
  obtain ⟨d2, hd2, hdp2⟩ := dpa_getV ha2 hb
  obtain ⟨q1, q2⟩ := pairD sh hT (dp_mono sf hdp) (dp_mono sf hdp2)
  refine ⟨_, _, q1, ?_, q2⟩
  unfold zipD
  rw [List.getElem?_zipWith, hd, hd2]
end
/-! ### targets -/
def TgD (K : PySem.W.Frag) (g : TG) (js : List Nat) (bind : D → DEnv → DEnv) (okd : D → Prop) : Prop := ∀ (F : Hp) (σ : St) (H : Hp) (d : D) (v : V) (Q : St → Hp → Prop) (ρ : DEnv), EnvOk K F ρ σ H → Dp K F v d → okd d →
  (∀ σ', σ'.length = σ.length → (∀ k, k ∉ js → σ'[k]? = σ[k]?) → EnvOk K F (bind d ρ) σ' H → Q σ' H) → g v σ H Q
def bind1 (j : Nat) (d : D) (ρ : DEnv) : DEnv := ρ.set j (some d)
def bind2 (i j : Nat) (d : D) (ρ : DEnv) : DEnv := match d with
  | .tuple [x, y] => (ρ.set i (some x)).set j (some y)
  | _ => ρ
def bind3 (i j l : Nat) (d : D) (ρ : DEnv) : DEnv := match d with
  | .tuple [x, y, z] => ((ρ.set i (some x)).set j (some y)).set l (some z)
  | _ => ρ
def IsP2 (d : D) : Prop := ∃ x y, d = .tuple [x, y]
def IsP3 (d : D) : Prop := ∃ x y z, d = .tuple [x, y, z]
theorem tg_name {K : PySem.W.Frag} {j : Nat} : TgD K (gName j) [j] (bind1 j) (fun _ => True) := fun F σ H d v Q ρ he hd _ k =>
  k _ (by rw [List.length_set]) (fun m hm => List.getElem?_set_ne (fun z => hm (by simp [z]))) (he.set j hd)
theorem tg_pair {K : PySem.W.Frag} {i j : Nat} : TgD K (gTup K 2 (gCons (gName i) (gCons (gName j) gNil))) [i, j] (bind2 i j) IsP2 := fun F σ H d v Q ρ he hd ⟨x, y, e⟩ k => by
  subst e
  obtain ⟨a, vs, rfl, hq, ha⟩ := dp_tup hd
  obtain ⟨u, w, rfl, h1, h2⟩ := dpa2 ha
  refine ⟨a, [u, w], rfl, Same.sqt he.fh hq, rfl, u, [w], rfl, w, [], rfl, rfl, ?_⟩
  refine k _ (by rw [List.length_set, List.length_set]) (fun m hm => ?_) ((he.set i h1).set j h2)
  rw [List.getElem?_set_ne (fun z => hm (by simp [z])), List.getElem?_set_ne (fun z => hm (by simp [z]))]
theorem dpa3 {K : PySem.W.Frag} {F : Hp} {vs : List V} {d1 d2 d3 : D} (h : DpAll K F vs [d1, d2, d3]) : ∃ u v w, vs = [u, v, w] ∧ Dp K F u d1 ∧ Dp K F v d2 ∧ Dp K F w d3 := by
  cases h with
  | cons h1 h =>
    obtain ⟨v, w, rfl, h2, h3⟩ := dpa2 h
    exact ⟨_, _, _, rfl, h1, h2, h3⟩
theorem tg_trip {K : PySem.W.Frag} {i j l : Nat} : TgD K (gTup K 3 (gCons (gName i) (gCons (gName j) (gCons (gName l) gNil)))) [i, j, l] (bind3 i j l) IsP3 := fun F σ H d v Q ρ he hd ⟨x, y, z, e⟩ k => by
  subst e
  obtain ⟨a, vs, rfl, hq, ha⟩ := dp_tup hd
  obtain ⟨u, w, t, rfl, h1, h2, h3⟩ := dpa3 ha
  refine ⟨a, [u, w, t], rfl, Same.sqt he.fh hq, rfl, u, [w, t], rfl, w, [t], rfl, t, [], rfl, rfl, ?_⟩
  refine k _ (by rw [List.length_set, List.length_set, List.length_set]) (fun m hm => ?_) (((he.set i h1).set j h2).set l h3)
  rw [List.getElem?_set_ne (fun z => hm (by simp [z])), List.getElem?_set_ne (fun z => hm (by simp [z])), List.getElem?_set_ne (fun z => hm (by simp [z]))]
/-! ### a for, raw -/
section
variable {X : Cx} {tg it : Expr} {ρ : DEnv} {ds : List D} {pos : Pos} {F H : Hp} {σ : St} {Dn : Ends} {body rest : List Stmt} {g : TG} {js : List Nat} {bind : D → DEnv → DEnv} {okd : D → Prop}
theorem us_for (src : PSrc X tg it ρ ds) (hg : PG X tg g) (tgd : TgD X.K g js bind okd) (hok : ∀ d ∈ ds, okd d) (hE : EnvOk X.K F ρ σ H) (Inv : Hp → Hp → Nat → Hp → DEnv → St → Hp → Prop)
    (k0 : ∀ F1 H1, Step F H F1 H1 → EnvOk X.K F1 ρ σ H1 → Inv F1 H1 0 F1 ρ σ H1) (k1 : ∀ F1 H1 n F' ρ' σ' H', Inv F1 H1 n F' ρ' σ' H' → Same F1 F' ∧ EnvOk X.K F' ρ' σ' H')
    (k2 : ∀ F1 H1 n d F' ρ' σ' H' F'' σ'' H'', Step F H F1 H1 → ds[n]? = some d → Inv F1 H1 n F' ρ' σ' H' → Step F' H' F'' H'' → σ''.length = σ'.length → (∀ k, k ∉ js → σ''[k]? = σ'[k]?) → EnvOk X.K F'' (bind d ρ') σ'' H'' →
      US X body { Dn with nx := fun σ H => ∃ F ρ, Inv F1 H1 (n + 1) F ρ σ H, ct := fun σ H => ∃ F ρ, Inv F1 H1 (n + 1) F ρ σ H, bk := US X rest Dn } σ'' H'')
    (k3 : ∀ F1 H1 F' ρ' σ' H', Step F H F1 H1 → Inv F1 H1 ds.length F' ρ' σ' H' → US X rest Dn σ' H') (hc : X.calm = true := by rfl) (hp : PassesOwn (model X.prog X.w) X.A X.env X.xe := by exact PassesOwn.never)
    (hfs : ∀ v, foldedSetIterable it X.env v = pure v := by intro _; rfl) : US X (.For tg it body [] pos :: rest) Dn σ H :=
  ⟨_, pss_cons (ps_for hp hc pi_u hg pss_u (hs := hfs)) pss_u, src F σ H _ hE fun J F1 H1 G Y s1 w hG hY => by
    have e1 := hE.step s1
    refine for_it w (fun n σ' H' => ∃ F' ρ', Inv F1 H1 n F' ρ' σ' H') ⟨F1, ρ, k0 F1 H1 s1 e1⟩ (fun n σ' H' _ ⟨F', ρ', hi⟩ => ?_) (fun n x σ' H' H'' hn ⟨F', ρ', hi⟩ y => ?_) (fun σ' H' ⟨F', ρ', hi⟩ => k3 F1 H1 F' ρ' σ' H' s1 hi)
    · obtain ⟨q1, q2⟩ := k1 F1 H1 n F' ρ' σ' H' hi
      exact hG H' (q1.trans q2.fh)
    · obtain ⟨q1, q2⟩ := k1 F1 H1 n F' ρ' σ' H' hi
      obtain ⟨F'', d, s2, hd, hdp⟩ := hY n H' x H'' F' y hn q1 q2.fh
      refine tgd F'' σ' H'' d x _ ρ' (q2.step s2) hdp (hok d (List.mem_of_getElem? hd)) fun σ'' hl hk he => ?_
      exact k2 F1 H1 n d F' ρ' σ' H' F'' σ'' H'' s1 hd hi s2 hl hk he⟩
end
end Rs
end

section
set_option Elab.async false
set_option linter.all false
set_option maxRecDepth 100000
set_option maxHeartbeats 4000000
namespace Rs
open PySem PySem.Spec L2
/-! ### comprehensions over any source -/
inductive All2 (P : D → D → Prop) : List D → List D → Prop
  | nil : All2 P [] []
  | cons {x y : D} {xs ys : List D} (h : P x y) (r : All2 P xs ys) : All2 P (x :: xs) (y :: ys)
theorem filt_yes {l : List D} : l.filter (fun _ => true) = l := List.filter_eq_self.mpr fun _ _ => rfl
theorem All2.snoc {P : D → D → Prop} {xs ys : List D} {x y : D} (h : All2 P xs ys) (k : P x y) : All2 P (xs ++ [x]) (ys ++ [y]) := by
  induction h with
  | nil => exact .cons k .nil
  | cons h _ ih => exact .cons h ih
theorem All2.len {P : D → D → Prop} {xs ys : List D} (h : All2 P xs ys) : ys.length = xs.length := by
  induction h with
  | nil => rfl
  | cons h _ ih => simp [ih]
theorem All2.fn {f : D → D} {xs ys : List D} (h : All2 (fun x y => y = f x) xs ys) : ys = xs.map f := by
  induction h with
  | nil => rfl
  | cons h _ ih => rw [List.map_cons, ih, h]
theorem wipe_get {σ : St} : ∀ {js : List Nat} {k : Nat}, (wipe σ js)[k]? = if k ∈ js then (if k < σ.length then some none else none) else σ[k]?
  | [], k => by simp [wipe]
  | j :: js, k => by
    unfold wipe
    have ih := wipe_get (σ := σ) (js := js) (k := k)
    by_cases q : j = k
    · subst q
      rw [List.getElem?_set, if_pos rfl, wipe_length]
      simp
    · rw [List.getElem?_set_ne q, ih]
      have e : (k ∈ j :: js) ↔ k ∈ js := by simp [Ne.symm q]
      by_cases c : k ∈ js
      · rw [if_pos c, if_pos (e.mpr c)]
      · rw [if_neg c, if_neg (fun z => c (e.mp z))]
theorem wipe_eq {σ σ' : St} {js : List Nat} (hl : σ'.length = σ.length) (h : ∀ k, k ∉ js → σ'[k]? = σ[k]?) : wipe σ' js = wipe σ js := by
  refine List.ext_getElem? fun k => ?_
  rw [wipe_get, wipe_get, hl]
  split
  · rfl
  · exact h k (by assumption)
theorem wipe_wipe {σ : St} {js : List Nat} : wipe (wipe σ js) js = wipe σ js := wipe_eq (wipe_length σ js) fun k hk => by
  rw [wipe_get, if_neg hk]
section
variable {X : Cx} {Z : Rz} {elt tg it : Expr} {ifs : List Expr} {ρ : DEnv} {ds : List D} {pos : Pos} {F H : Hp} {σ : St} {g : TG} {js : List Nat} {bind : D → DEnv → DEnv} {okd : D → Prop} {tt : TT} {te : TE} {c : Nat} {flt : D → Bool} {P : D → D → Prop}
theorem lc_own {wi : TI} {b : Nat} {Q : VK} (ok : Z.Ok) (src : SrcD X.K wi ρ ds) (tgd : TgD X.K g js bind okd) (hok : ∀ d ∈ ds, okd d) (hS : ∀ σ σ', Z.S σ → (∀ k, k ∉ js → σ'[k]? = σ[k]?) → Z.S σ') (hρ : ∀ j ∈ js, ∀ d, ρ[j]? ≠ some (some d))
    (htv : ∀ d ∈ ds, EvT X.K tt (bind d ρ) (flt d)) (hev : ∀ d ∈ ds, flt d = true → EvN X.K Z te (bind d ρ) c (P d)) (hE : EnvOk X.K F ρ σ H) (hs : Z.S σ) (hG : Z.G (b + c * ds.length) F H) (hz : ds.length < sizeLine)
    (k : ∀ rs (l : Addr) vs F' H', All2 P (ds.filter flt) rs → StepM Z.M F H F' H' → Z.G b F' H' → DpAll X.K F' vs rs → H' l = some (.lst vs) → F' l = none → H l = none → Q (.ref l) H') : tLc wi g tt te js σ H Q := by
  refine src F σ H _ hE fun J F1 H1 G Y s1 w hGG hY D0 hD => ?_
  have e1 := hE.step s1
  have hD' : H D0 = none := by
    cases q : H D0 with
    | none => rfl
    | some o =>
      rw [s1.hh D0 o q] at hD
      cases hD
  have g1 := ok.st hG s1
  have hf1 : F1 D0 = none := Same.free e1.fh hD
  refine lc_it w (fun n H' => ∃ F' acc rs, StepM Z.M F1 H1 F' H' ∧ F' D0 = none ∧ H' D0 = some (.lst acc) ∧ Z.G (b + c * (ds.length - n)) F' H' ∧ DpAll X.K F' acc rs ∧ All2 P ((ds.take n).filter flt) rs)
    ⟨F1, [], [], (StepM.refl e1.fh).mut hf1 (.inl hD), hf1, upd_same, ok.up g1 hD g1, .nil, .nil⟩ (fun n H' _ ⟨F', acc, rs, s2, h1, h2, h3, h4, h5⟩ => hGG H' (s2.ff.trans s2.fh)) (fun n x H' H'' hn ⟨F', acc, rs, s2, h1, h2, h3, h4, h5⟩ y => ?_) (fun H' ⟨F', acc, rs, s2, h1, h2, h3, h4, h5⟩ => ?_)
  · obtain ⟨F2, d, s3, hd, hdp⟩ := hY n H' x H'' F' y hn s2.ff s2.fh
    have hmem := List.mem_of_getElem? hd
    have e2 : EnvOk X.K F2 ρ (wipe σ js) H'' := ((e1.wipe js hρ).stepM (s2.trans s3.m))
    have s23 : StepM Z.M F1 H1 F2 H'' := s2.trans s3.m
    obtain ⟨d1, d2⟩ := s3.own h2 h1
    have g3 := ok.st h3 s3
    refine tgd F2 (wipe σ js) H'' d x _ ρ e2 hdp (hok d hmem) fun σ'' hl hk e3 => ⟨by rw [wipe_eq hl hk, wipe_wipe], ?_⟩
    have hS2 : Z.S σ'' := hS σ σ'' hs fun m hm => (hk m hm).trans (by rw [wipe_get, if_neg hm])
    refine htv d hmem F2 σ'' H'' _ e3 fun F3 H3 s4 => ?_
    have e4 := e3.step s4
    obtain ⟨d3, d4⟩ := s4.own d1 d2
    have g4 := ok.st g3 s4
    have et : ds.take (n + 1) = ds.take n ++ [d] := by rw [List.take_add_one, hd]; rfl
    cases hfl : flt d with
    | true =>
      rw [if_pos rfl]
      have eN : b + c * (ds.length - n) = (b + c * (ds.length - (n + 1))) + c := by
        have : ds.length - n = (ds.length - (n + 1)) + 1 := by omega
        rw [this, Nat.mul_add]
        omega
      rw [eN] at g4
      refine hev d hmem hfl (b + c * (ds.length - (n + 1))) F3 σ'' H3 _ e4 hS2 g4 fun r v F4 H4 hp s5 g5 h6 => ?_
      have nM : ¬ Z.M D0 := ok.mo g1 hD
      obtain ⟨d5, d6⟩ := s5.own nM d3 d4
      have s6 := (s23.trans s4.m).trans s5
      refine ⟨acc, d5, ?_, F4, acc ++ [v], rs ++ [r], s6.mut d6 (.inl hD), d6, upd_same, ok.up g1 hD g5, dpa_app (dpa_mono ((s3.ff.trans s4.ff).trans s5.ff) h4) (.cons h6 .nil), ?_⟩
      · rw [dpa_len h4, h5.len]
        refine Nat.lt_of_le_of_lt (List.length_filter_le _ _) ?_
        rw [List.length_take]
        exact Nat.lt_of_le_of_lt (Nat.min_le_right _ _) hz
      · rw [et, List.filter_append]
        have e1 : [d].filter flt = [d] := by simp [hfl]
        rw [e1]
        exact h5.snoc hp
    | false =>
      rw [if_neg (by simp)]
      refine ⟨F3, acc, rs, s23.trans s4.m, d4, d3, ok.lo (by
        have : ds.length - (n + 1) ≤ ds.length - n := by omega
        have := Nat.mul_le_mul_left c this
        omega) g4, dpa_mono (s3.ff.trans s4.ff) h4, ?_⟩
      rw [et, List.filter_append]
      simp [hfl]
      exact h5
  · rw [List.take_length] at h5
    rw [Nat.sub_self, Nat.mul_zero] at h3
    exact k rs D0 acc F' H' h5 (s1.m.trans s2) h3 h4 h2 h1 hD'
/-- as a value -/
theorem pn_lc {scope : Scope} (own : List (Str × Nat)) (ok : Z.Ok) (src : PSrc X tg it ρ ds) (tgd : TgD X.K g (own.map (·.2)) bind okd) (hok : ∀ d ∈ ds, okd d) (hS : ∀ σ σ', Z.S σ → (∀ k, k ∉ own.map (·.2) → σ'[k]? = σ[k]?) → Z.S σ') (hρ : ∀ j ∈ own.map (·.2), ∀ d, ρ[j]? ≠ some (some d)) (nd : X.N.Nodup) (bok : BlkOk X.N X.env.scope scope own)
    (hg : ∀ (s : Shared) (H : Hp) (C : Addr) (cl : List (Str × Addr)) (fp : List Addr), PG (Blk X scope s H C cl fp) tg g) (ht : ∀ (s : Shared) (H : Hp) (C : Addr) (cl : List (Str × Addr)) (fp : List Addr), PTs (Blk X scope s H C cl fp) ifs tt)
    (he : ∀ (s : Shared) (H : Hp) (C : Addr) (cl : List (Str × Addr)) (fp : List Addr), PE (Blk X scope s H C cl fp) elt te)
    (htv : ∀ d ∈ ds, EvT X.K tt (bind d ρ) (flt d)) (hev : ∀ d ∈ ds, flt d = true → EvN X.K Z te (bind d ρ) c (P d)) (hz : ds.length < sizeLine) (hc : X.calm = true := by rfl) (hs : ∀ v, foldedSetIterable it X.env v = pure v := by intro _; rfl) :
    PN X Z (.ListComp elt [⟨tg, it, ifs, 0⟩] scope pos) ρ (c * ds.length) (fun d => ∃ rs, d = .list rs ∧ All2 P (ds.filter flt) rs) :=
  pn_of (pe_lc (own := own) hc nd pi_u bok hg ht he hs) fun b F σ H Q hE hs hG k => lc_own ok src tgd hok hS hρ htv hev hE hs hG hz fun rs l vs F' H' ha s1 g1 hd hl hf h0 =>
    k (.list rs) (.ref l) (upd F' l (.lst vs)) H' ⟨rs, rfl, ha⟩ (s1.pub hf h0 hl) (ok.pb hG h0 g1 hf hl) (.lst (SqL.of upd_same) (dpa_mono (pub_same hf) hd))
theorem EvD.n {K : PySem.W.Frag} {t : TE} {d : D} (h : EvD K t ρ d) : EvN K rz0 t ρ 0 (· = d) := fun b F σ H Q he _ _ k => h F σ H Q he fun v F' H' s q => k d v F' H' rfl s.m trivial q
theorem EvN.d {K : PySem.W.Frag} {t : TE} {d : D} {n : Nat} (h : EvN K rz0 t ρ n (· = d)) : EvD K t ρ d := fun F σ H Q he k => h 0 F σ H Q he trivial trivial fun d' v F' H' e s _ q => by
  subst e
  exact k v F' H' (StepM.pure s) q
/-- all of it told -/
theorem pd_lc {scope : Scope} (own : List (Str × Nat)) (f : D → D) (src : PSrc X tg it ρ ds) (tgd : TgD X.K g (own.map (·.2)) bind okd) (hok : ∀ d ∈ ds, okd d) (hρ : ∀ j ∈ own.map (·.2), ∀ d, ρ[j]? ≠ some (some d)) (nd : X.N.Nodup) (bok : BlkOk X.N X.env.scope scope own)
    (hg : ∀ (s : Shared) (H : Hp) (C : Addr) (cl : List (Str × Addr)) (fp : List Addr), PG (Blk X scope s H C cl fp) tg g) (ht : ∀ (s : Shared) (H : Hp) (C : Addr) (cl : List (Str × Addr)) (fp : List Addr), PTs (Blk X scope s H C cl fp) ifs tt)
    (he : ∀ (s : Shared) (H : Hp) (C : Addr) (cl : List (Str × Addr)) (fp : List Addr), PE (Blk X scope s H C cl fp) elt te)
    (htv : ∀ d ∈ ds, EvT X.K tt (bind d ρ) (flt d)) (hev : ∀ d ∈ ds, flt d = true → EvD X.K te (bind d ρ) (f d)) (hz : ds.length < sizeLine) (hc : X.calm = true := by rfl) (hs : ∀ v, foldedSetIterable it X.env v = pure v := by intro _; rfl) :
    PD X (.ListComp elt [⟨tg, it, ifs, 0⟩] scope pos) ρ (.list ((ds.filter flt).map f)) := fun F σ H Q hE k =>
  pn_lc (Z := rz0) (c := 0) (P := fun x y => y = f x) own rz0_ok src tgd hok (fun _ _ _ _ => trivial) hρ nd bok hg ht he htv (fun d hd hf => (hev d hd hf).n) hz hc hs 0 F σ H Q hE trivial trivial fun d v F' H' ⟨rs, e, ha⟩ s _ q => by
    subst e
    rw [ha.fn] at q
    exact k v F' H' (StepM.pure s) q
theorem ev_yes {K : PySem.W.Frag} : EvT K tYes ρ true := fun F σ H Q he k => k F H (Step.refl he.fh)
/-- y = [..], the new list a thing of its own -/
theorem us_setLcN {scope : Scope} (own : List (Str × Nat)) (i : Nat) {y : Str} {py spos : Pos} {b : Nat} {Dn : Ends} {rest : List Stmt} (ok : Z.Ok) (src : PSrc X tg it ρ ds) (tgd : TgD X.K g (own.map (·.2)) bind okd) (hok : ∀ d ∈ ds, okd d) (hS : ∀ σ σ', Z.S σ → (∀ k, k ∉ own.map (·.2) → σ'[k]? = σ[k]?) → Z.S σ') (hρ : ∀ j ∈ own.map (·.2), ∀ d, ρ[j]? ≠ some (some d)) (nd : X.N.Nodup) (bok : BlkOk X.N X.env.scope scope own)
    (hg : ∀ (s : Shared) (H : Hp) (C : Addr) (cl : List (Str × Addr)) (fp : List Addr), PG (Blk X scope s H C cl fp) tg g) (ht : ∀ (s : Shared) (H : Hp) (C : Addr) (cl : List (Str × Addr)) (fp : List Addr), PTs (Blk X scope s H C cl fp) ifs tt)
    (he : ∀ (s : Shared) (H : Hp) (C : Addr) (cl : List (Str × Addr)) (fp : List Addr), PE (Blk X scope s H C cl fp) elt te)
    (htv : ∀ d ∈ ds, EvT X.K tt (bind d ρ) (flt d)) (hev : ∀ d ∈ ds, flt d = true → EvN X.K Z te (bind d ρ) c (P d)) (hE : EnvOk X.K F ρ σ H) (hs : Z.S σ) (hG : Z.G (b + c * ds.length) F H) (hz : ds.length < sizeLine)
    (k : ∀ rs (l : Addr) vs F' H', All2 P (ds.filter flt) rs → StepM Z.M F H F' H' → Z.G b F' H' → DpAll X.K F' vs rs → H' l = some (.lst vs) → F' l = none → H l = none → EnvOk X.K F' (ρ.set i none) (σ.set i (some (.ref l))) H' → US X rest Dn (σ.set i (some (.ref l))) H')
    (hy : X.N[i]? = some y) (hyl : X.env.scope.names.lookup y = some .local) (hsw : swapsWith (.ListComp elt [⟨tg, it, ifs, 0⟩] scope pos) (some (.Name y py)) spos.line X.env = pure true)
    (hc : X.calm = true := by rfl) (hfs : ∀ v, foldedSetIterable it X.env v = pure v := by intro _; rfl) : US X (.Assign [.Name y py] (.ListComp elt [⟨tg, it, ifs, 0⟩] scope pos) spos :: rest) Dn σ H :=
  ⟨_, pss_cons (ps_setLc (own := own) hc nd hy hyl hsw pi_u bok hg ht he hfs) pss_u, lc_own (Q := fun v H' => US X rest Dn (σ.set i (some v)) H') ok src tgd hok hS hρ htv hev hE hs hG hz fun rs l vs F' H' ha s1 g1 hd hl hf h0 =>
    k rs l vs F' H' ha s1 g1 hd hl hf h0 ((hE.stepM s1).setU i _)⟩
/-- y = [..], told -/
theorem us_setLcD {scope : Scope} (own : List (Str × Nat)) (i : Nat) (f : D → D) {y : Str} {py spos : Pos} {Dn : Ends} {rest : List Stmt} (src : PSrc X tg it ρ ds) (tgd : TgD X.K g (own.map (·.2)) bind okd) (hok : ∀ d ∈ ds, okd d) (hρ : ∀ j ∈ own.map (·.2), ∀ d, ρ[j]? ≠ some (some d)) (nd : X.N.Nodup) (bok : BlkOk X.N X.env.scope scope own)
    (hg : ∀ (s : Shared) (H : Hp) (C : Addr) (cl : List (Str × Addr)) (fp : List Addr), PG (Blk X scope s H C cl fp) tg g) (ht : ∀ (s : Shared) (H : Hp) (C : Addr) (cl : List (Str × Addr)) (fp : List Addr), PTs (Blk X scope s H C cl fp) ifs tt)
    (he : ∀ (s : Shared) (H : Hp) (C : Addr) (cl : List (Str × Addr)) (fp : List Addr), PE (Blk X scope s H C cl fp) elt te)
    (htv : ∀ d ∈ ds, EvT X.K tt (bind d ρ) (flt d)) (hev : ∀ d ∈ ds, flt d = true → EvD X.K te (bind d ρ) (f d)) (hE : EnvOk X.K F ρ σ H) (hz : ds.length < sizeLine)
    (k : ∀ v F' H', Step F H F' H' → Dp X.K F' v (.list ((ds.filter flt).map f)) → EnvOk X.K F' (ρ.set i (some (.list ((ds.filter flt).map f)))) (σ.set i (some v)) H' → US X rest Dn (σ.set i (some v)) H')
    (hy : X.N[i]? = some y) (hyl : X.env.scope.names.lookup y = some .local) (hsw : swapsWith (.ListComp elt [⟨tg, it, ifs, 0⟩] scope pos) (some (.Name y py)) spos.line X.env = pure true)
    (hc : X.calm = true := by rfl) (hfs : ∀ v, foldedSetIterable it X.env v = pure v := by intro _; rfl) : US X (.Assign [.Name y py] (.ListComp elt [⟨tg, it, ifs, 0⟩] scope pos) spos :: rest) Dn σ H :=
  ⟨_, pss_cons (ps_setLc (own := own) hc nd hy hyl hsw pi_u bok hg ht he hfs) pss_u, lc_own (Q := fun v H' => US X rest Dn (σ.set i (some v)) H') (Z := rz0) (c := 0) (b := 0) (P := fun x y => y = f x) rz0_ok src tgd hok (fun _ _ _ _ => trivial) hρ htv (fun d hd hf => (hev d hd hf).n) hE trivial trivial hz fun rs l vs F' H' ha s1 g1 hd hl hf h0 => by
    rw [ha.fn] at hd
    have s2 := StepM.pure (s1.pub hf h0 hl)
    have q : Dp X.K (upd F' l (.lst vs)) (.ref l) (.list ((ds.filter flt).map f)) := .lst (SqL.of upd_same) (dpa_mono (pub_same hf) hd)
    exact k (.ref l) _ H' s2 q ((hE.step s2).set i q)⟩
end
/-! ### a comprehension's own block, by the same rules -/
section
variable {X : Cx} {scope : Scope} {e : Expr} {ρ : DEnv} {d : D} {Z : Rz} {n : Nat} {P : D → Prop}
def UEB (X : Cx) (scope : Scope) (e : Expr) : TE := fun σ H' Q => ∀ (s : Shared) (H : Hp) (C : Addr) (cl : List (Str × Addr)) (fp : List Addr), UE (Blk X scope s H C cl fp) e σ H' Q
def UTB (X : Cx) (scope : Scope) (e : Expr) : TT := fun σ H' Q => ∀ (s : Shared) (H : Hp) (C : Addr) (cl : List (Str × Addr)) (fp : List Addr), UT (Blk X scope s H C cl fp) e σ H' Q
theorem pe_ub (s : Shared) (H : Hp) (C : Addr) (cl : List (Str × Addr)) (fp : List Addr) : PE (Blk X scope s H C cl fp) e (UEB X scope e) := ⟨fun pins s' σ H' Q I h => pe_u.run pins s' σ H' Q I (h s H C cl fp)⟩
theorem pt_ub (s : Shared) (H : Hp) (C : Addr) (cl : List (Str × Addr)) (fp : List Addr) : PT (Blk X scope s H C cl fp) e (UTB X scope e) := ⟨fun pins s' σ H' Q I h => pt_u.run pins s' σ H' Q I (h s H C cl fp)⟩
theorem ev_ub (h : ∀ (s : Shared) (H : Hp) (C : Addr) (cl : List (Str × Addr)) (fp : List Addr), PD (Blk X scope s H C cl fp) e ρ d) : EvD X.K (UEB X scope e) ρ d := fun F σ H Q he k s H0 C cl fp => h s H0 C cl fp F σ H Q he k
theorem ev_ubN (h : ∀ (s : Shared) (H : Hp) (C : Addr) (cl : List (Str × Addr)) (fp : List Addr), PN (Blk X scope s H C cl fp) Z e ρ n P) : EvN X.K Z (UEB X scope e) ρ n P := fun b F σ H Q he hz hg k s H0 C cl fp => h s H0 C cl fp b F σ H Q he hz hg k
theorem ev_ubT {k' : Bool} (h : ∀ (s : Shared) (H : Hp) (C : Addr) (cl : List (Str × Addr)) (fp : List Addr), PDT (Blk X scope s H C cl fp) e ρ k') : EvT X.K (UTB X scope e) ρ k' := fun F σ H Q he k s H0 C cl fp => h s H0 C cl fp F σ H Q he k
end
section
variable {X : Cx} {elt tg it c : Expr} {ρ : DEnv} {ds : List D} {pos : Pos} {g : TG} {bind : D → DEnv → DEnv} {okd : D → Prop} {flt : D → Bool}
/-- [elt for tg in it] -/
theorem pd_lc0 {scope : Scope} (own : List (Str × Nat)) (f : D → D) (src : PSrc X tg it ρ ds) (tgd : TgD X.K g (own.map (·.2)) bind okd) (hok : ∀ d ∈ ds, okd d) (hρ : ∀ j ∈ own.map (·.2), ∀ d, ρ[j]? ≠ some (some d)) (nd : X.N.Nodup) (bok : BlkOk X.N X.env.scope scope own)
    (hg : ∀ (s : Shared) (H : Hp) (C : Addr) (cl : List (Str × Addr)) (fp : List Addr), PG (Blk X scope s H C cl fp) tg g)
    (hev : ∀ d ∈ ds, ∀ (s : Shared) (H : Hp) (C : Addr) (cl : List (Str × Addr)) (fp : List Addr), PD (Blk X scope s H C cl fp) elt (bind d ρ) (f d)) (hz : ds.length < sizeLine) (hc : X.calm = true := by rfl) (hs : ∀ v, foldedSetIterable it X.env v = pure v := by intro _; rfl) :
    PD X (.ListComp elt [⟨tg, it, [], 0⟩] scope pos) ρ (.list (ds.map f)) :=
  pd_is (pd_lc (flt := fun _ => true) own f src tgd hok hρ nd bok hg (fun _ _ _ _ _ => pts_nil) pe_ub (fun _ _ => ev_yes) (fun d hd _ => ev_ub (hev d hd)) hz hc hs) (by rw [filt_yes])
/-- [elt for tg in it if c] -/
theorem pd_lc1 {scope : Scope} (own : List (Str × Nat)) (f : D → D) (flt : D → Bool) (src : PSrc X tg it ρ ds) (tgd : TgD X.K g (own.map (·.2)) bind okd) (hok : ∀ d ∈ ds, okd d) (hρ : ∀ j ∈ own.map (·.2), ∀ d, ρ[j]? ≠ some (some d)) (nd : X.N.Nodup) (bok : BlkOk X.N X.env.scope scope own)
    (hg : ∀ (s : Shared) (H : Hp) (C : Addr) (cl : List (Str × Addr)) (fp : List Addr), PG (Blk X scope s H C cl fp) tg g)
    (htv : ∀ d ∈ ds, ∀ (s : Shared) (H : Hp) (C : Addr) (cl : List (Str × Addr)) (fp : List Addr), PDT (Blk X scope s H C cl fp) c (bind d ρ) (flt d))
    (hev : ∀ d ∈ ds, flt d = true → ∀ (s : Shared) (H : Hp) (C : Addr) (cl : List (Str × Addr)) (fp : List Addr), PD (Blk X scope s H C cl fp) elt (bind d ρ) (f d)) (hz : ds.length < sizeLine) (hc : X.calm = true := by rfl) (hs : ∀ v, foldedSetIterable it X.env v = pure v := by intro _; rfl) :
    PD X (.ListComp elt [⟨tg, it, [c], 0⟩] scope pos) ρ (.list ((ds.filter flt).map f)) :=
  pd_lc own f src tgd hok hρ nd bok hg (fun _ _ _ _ _ => pts_one (pt_ub _ _ _ _ _)) pe_ub (fun d hd => ev_ubT (htv d hd)) (fun d hd hf => ev_ub (hev d hd hf)) hz hc hs
end
/-! ### things of one's own: lists -/
section
variable {X : Cx} {e : Expr} {ρ : DEnv} {F H : Hp} {σ : St} {Dn : Ends} {rest : List Stmt} {pos p p1 p2 : Pos} {d : D} {l : Addr} {vs : List V} {Z : Rz} {n : Nat} {P : D → Prop}
/-- x.append(e) -/
theorem us_appN (i : Nat) {x : Str} {b : Nat} (he : PN X Z e ρ n P) (hE : EnvOk X.K F ρ σ H) (hS : Z.S σ) (hG : Z.G (b + n) F H) (hm : ¬ Z.M l) (hσ : σ[i]? = some (some (.ref l))) (hl : H l = some (.lst vs)) (hf : F l = none) (hz : vs.length < sizeLine)
    (k : ∀ d v F' H', P d → StepM Z.M F H F' H' → Z.G b F' H' → Dp X.K F' v d → F' l = none → H' l = some (.lst vs) → EnvOk X.K F' ρ σ (upd H' l (.lst (vs ++ [v]))) → US X rest Dn σ (upd H' l (.lst (vs ++ [v]))))
    (hN : X.N[i]? = some x := by rfl) (hv : Vis X.env.scope x := by first | exact Or.inl rfl | exact Or.inr (Or.inl rfl) | exact Or.inr (Or.inr rfl)) (hd : (x == ("__debug__" : Str)) = false := by decide) (hcd : (x == ("__classdict__" : Str)) = false := by decide)
    (hbase : attributeBase (.Name x p) "append" X.env (eval (.Name x p) X.env) = eval (.Name x p) X.env := by rfl)
    (hfew : ((backTo p2 (starEach [e] X.env)).all (fun x => !x.1) && (backToKw p2 (keywordEach [] X.env)).all (fun x => x.1.isSome) && decide ([e].length + ([] : List Keyword).length + (if ([] : List Keyword).isEmpty then 0 else 1) < 30)) = true := by rfl)
    (hline : (p1.endLine == p2.line) = true := by rfl) (hs : starEach [e] X.env = (false, eval e X.env) :: starEach [] X.env := by rfl) (hpl : (backTo p2 (starEach [] X.env)).any (·.1) = false := by rfl)
    (hsw : swapsWith (.Call (.Attribute (.Name x p) "append" p1) [e] [] p2) none pos.line X.env = pure false := by rfl) : US X (.Expr (.Call (.Attribute (.Name x p) "append" p1) [e] [] p2) pos :: rest) Dn σ H :=
  ⟨_, pss_cons (ps_expr (pe_bm PySem.F.plainAttrs_list PySem.F.slot_list_append PySem.F.type_list_append mt_append (pe_var hN hv hd hcd) (pa_cons pe_u pa_nil hs) hbase hfew hline hs hpl) hsw) pss_u,
    ⟨_, hσ, .inl ⟨rfl, _, SqL.of hl⟩, he b F σ H _ hE hS hG fun d v F' H' hp s1 g1 hd => by
      obtain ⟨q1, q2⟩ := s1.own hm hl hf
      exact ⟨l, vs, v, rfl, rfl, q1, hz, k d v F' H' hp s1 g1 hd q2 q1 ((hE.stepM s1).hp (Same.mut s1.fh q2))⟩⟩⟩
theorem us_app (i : Nat) {x : Str} (he : PD X e ρ d) (hE : EnvOk X.K F ρ σ H) (hσ : σ[i]? = some (some (.ref l))) (hl : H l = some (.lst vs)) (hf : F l = none) (hz : vs.length < sizeLine)
    (k : ∀ v F' H', Step F H F' H' → Dp X.K F' v d → F' l = none → H' l = some (.lst vs) → EnvOk X.K F' ρ σ (upd H' l (.lst (vs ++ [v]))) → US X rest Dn σ (upd H' l (.lst (vs ++ [v]))))
    (hN : X.N[i]? = some x := by rfl) (hv : Vis X.env.scope x := by first | exact Or.inl rfl | exact Or.inr (Or.inl rfl) | exact Or.inr (Or.inr rfl)) (hd : (x == ("__debug__" : Str)) = false := by decide) (hcd : (x == ("__classdict__" : Str)) = false := by decide)
    (hbase : attributeBase (.Name x p) "append" X.env (eval (.Name x p) X.env) = eval (.Name x p) X.env := by rfl)
    (hfew : ((backTo p2 (starEach [e] X.env)).all (fun x => !x.1) && (backToKw p2 (keywordEach [] X.env)).all (fun x => x.1.isSome) && decide ([e].length + ([] : List Keyword).length + (if ([] : List Keyword).isEmpty then 0 else 1) < 30)) = true := by rfl)
    (hline : (p1.endLine == p2.line) = true := by rfl) (hs : starEach [e] X.env = (false, eval e X.env) :: starEach [] X.env := by rfl) (hpl : (backTo p2 (starEach [] X.env)).any (·.1) = false := by rfl)
    (hsw : swapsWith (.Call (.Attribute (.Name x p) "append" p1) [e] [] p2) none pos.line X.env = pure false := by rfl) : US X (.Expr (.Call (.Attribute (.Name x p) "append" p1) [e] [] p2) pos :: rest) Dn σ H :=
  us_appN (Z := rz0) (b := 0) (n := 0) (P := (· = d)) i (pn_pd rz0_ok he rfl) hE trivial trivial (fun z => z) hσ hl hf hz (fun d' v F' H' e1 s1 _ q f1 h1 e2 => by
    subst e1
    exact k v F' H' (StepM.pure s1) q f1 h1 e2) hN hv hd hcd hbase hfew hline hs hpl hsw
/-- x = [] -/
theorem us_setNil (i : Nat) {x : Str} (hE : EnvOk X.K F ρ σ H) (k : ∀ l, H l = none → F l = none → EnvOk X.K F (ρ.set i none) (σ.set i (some (.ref l))) (upd H l (.lst [])) → US X rest Dn (σ.set i (some (.ref l))) (upd H l (.lst []))) (nd : X.N.Nodup) (hi : X.N[i]? = some x := by rfl)
    (hx : Loc X.env.scope x := by first | exact Or.inl rfl | exact Or.inr rfl) (hs : swapsWith (.List [] p1) (some (.Name x p)) pos.line X.env = pure false := by rfl) (hf : X.fn x = true ∨ X.env.scope.names.lookup x = some .local := by first | exact .inl rfl | exact .inr rfl) : US X (.Assign [.Name x p] (.List [] p1) pos :: rest) Dn σ H :=
  ⟨_, pss_cons (ps_set nd hi hx (pe_lst pa_nil) hs hf) pss_u, ⟨Nat.zero_le _, fun l hl => by
    have hfl : F l = none := Same.free hE.fh hl
    exact k l hl hfl ((hE.setU i _).hp (Same.mut hE.fh hfl))⟩⟩
end
end Rs
end

section
set_option Elab.async false
set_option linter.all false
set_option maxRecDepth 100000
set_option maxHeartbeats 4000000
namespace Rs
open PySem PySem.Spec L2
/-! ### a def that draws -/
def startN (N : List Str) (ds : List D) : DEnv := none :: (ds.map some ++ List.replicate (N.length - 1 - ds.length) none)
section
variable {P : Program} {w : World} {K : PySem.W.Frag} {mg : Str → Option Value} {base : Heap}
theorem env_startN {F H : Hp} {x : Str} {N : List Str} {a : Addr} {vs : List V} {ds : List D} (hs : Same F H) (h : DpAll K F vs ds) : EnvOk K F (startN (x :: N) ds) (L2.start (x :: N) (.ref a :: vs)) H := by
  have e := env_start (N := N) hs h
  have es : L2.start (x :: N) (.ref a :: vs) = some (.ref a) :: L2.start N vs := by
    unfold L2.start
    simp only [List.map_cons, List.length_cons, List.cons_append, Nat.add_sub_add_right]
  rw [es]
  unfold startN
  have e2 : ds.map some ++ List.replicate ((x :: N).length - 1 - ds.length) none = startD N ds := by
    unfold startD
    simp
  rw [e2]
  refine ⟨hs, by simp [e.len], fun i d hd => ?_⟩
  cases i with
  | zero => simp at hd
  | succ i => exact e.at_ i d (by simpa using hd)
theorem mk_calN {x : Str} {i k n : Nat} {st : Str} {N ps : List Str} {PL : List D → Prop} {PP : List D → D → Prop} (D0 : DefAt K mg x i) (S : FnScope (st :: N) ps (defScope (top i))) (len : ∀ ds, PL ds → ds.length + 1 = ps.length)
    (bd : ∀ (kV doc pm : Value) (an : Option Addr) (cdv ct : Value) (us : List Value), us.length = ps.length → bindArgs (PySem.W.fnOf x x (defArgs (top i)) (defBody (top i)) (defScope (top i)) .none kV doc pm an cdv ct) ⟨us, []⟩ = pure (ps.zip us))
    (body : ∀ (f : Addr) (cdv : Value) (A : Around) (outer : List Env) (s : Shared) (H : Hp) (E : XK), Room k (A.deeper (PyProof.Rows.envOfC x (defScope (top i)) s.heap.objs.size f cdv)) → ∀ (F : Hp) (a : Addr) (b : Nat) (ds : List D) (σ : St) (Q : VK), PL ds → (rzS K 0 a).S σ →
      EnvOk K F (startN (st :: N) ds) σ H → StO K a (b + n) F H → (∀ d v F' H', PP ds d → StepM (· = a) F H F' H' → StO K a b F' H' → Dp K F' v d → Q v H') → US (cxN P w K mg base (st :: N) x i f cdv A outer s H E) (defBody (top i)) { nx := fun _ H' => Q .non H', rt := Q } σ H) :
    Cal P w K mg base x (k + 1) ps (spN K n PL PP) := by
  obtain ⟨f, fd, hm, F⟩ := D0
  refine ⟨f, fd, hm, ?_, F.kp, F.bindsN bd⟩
  refine F.ok S (fun vs H Q E h => ?_) (fun cdv A outer s H vs Q E hr h => ?_)
  · obtain ⟨F, a, b, vs', ds, rfl, _, h1, h2, _⟩ := h
    have := dpa_len h1
    have := len ds h2
    simp only [List.length_cons]
    omega
  · obtain ⟨F, a, b, vs', ds, rfl, h0, h1, h2, h3, kq⟩ := h
    exact ⟨_, PSs.nox pss_u, body f cdv A outer s H E hr F a b ds _ Q h2 rfl (env_startN h0 h1) h3 kq⟩
end
def AllP (k : Nat) (P : D → Prop) (ds : List D) : Prop := ds.length = k ∧ ∀ d ∈ ds, P d
section
variable {X : Cx} {Z : Rz} {e : Expr} {es : List Expr} {ρ : DEnv} {n m k : Nat} {P : D → Prop}
theorem pna_nilA (ok : Z.Ok) : PNA X Z [] ρ 0 (AllP 0 P) := fun b F σ H Q he hs hg q => pna_nil ok b F σ H Q he hs hg fun ds vs F' H' e => q ds vs F' H' (by subst e; exact ⟨rfl, fun _ h => by cases h⟩)
theorem pna_consA (h : PN X Z e ρ n P) (hr : PNA X Z es ρ m (AllP k P)) (hs : starEach (e :: es) X.env = (false, eval e X.env) :: starEach es X.env := by rfl) : PNA X Z (e :: es) ρ (n + m) (AllP (k + 1) P) := fun b F σ H Q he hz hg q =>
  pna_cons h hr hs b F σ H Q he hz hg fun ds vs F' H' ⟨d, ds', e, h1, h2, h3⟩ => q ds vs F' H' (by
    subst e
    exact ⟨by simp [h2], fun x hx => by
      rcases List.mem_cons.mp hx with z | z
      · subst z
        exact h1
      · exact h3 x z⟩)
theorem ix_all {ds : List D} (h : ∀ d ∈ ds, P d) {i : Int} (h0 : 0 ≤ i) (h1 : i < ds.length) : ∃ d, atI ds i = some d ∧ P d := by
  obtain ⟨j, rfl⟩ : ∃ j : Nat, i = (j : Int) := ⟨i.toNat, by omega⟩
  have hj : j < ds.length := by omega
  exact ⟨ds[j], atI_nat (List.getElem?_eq_getElem hj), h _ (List.getElem_mem hj)⟩
/-- [..][i] -/
theorem pn_pick {pos1 pos2 : Pos} {b : Expr} (h : PNA X Z es ρ n (AllP k P)) (hb : PN X Z b ρ m (IsI fun i => 0 ≤ i ∧ i < k)) (ok : Z.Ok) (hk : Nat.ble k 1000 = true := by rfl) (hs : PlainIx b := by exact fun _ _ => rfl) : PN X Z (.Subscript (.List es pos1) b pos2) ρ (n + m) P :=
  pn_ixL (pn_lst h (fun ds hd => by rw [hd.1]; exact hk) ok) hb (fun ds i hd hi => ix_all hd.2 hi.1 (by rw [hd.1]; exact hi.2)) hs
end
/-! ### numbers, rulers, marks, names -/
structure NumOk (q : Rat) : Prop where
  nu : q.num.natAbs ≤ 10 ^ 9
  de : q.den ≤ 60
theorem NumOk.of {x y : Int} (hx : x.natAbs ≤ 10 ^ 9) (h0 : 0 < y) (hy : y ≤ 60) : NumOk (Rat.divInt x y) := by
  constructor
  · rw [Rat.num_divInt]
    refine Nat.le_trans (Int.natAbs_ediv_le_natAbs _ _) ?_
    rw [Int.natAbs_mul, Int.natAbs_sign_of_ne_zero (by omega), Nat.one_mul]
    exact hx
  · rw [Rat.den_divInt, if_neg (by omega)]
    exact Nat.le_trans (Nat.div_le_self _ _) (by omega)
structure IsMk (r : Rul) (m : Rat) : Prop where
  ex : ∃ k e : Int, -(r.B ^ r.F.toNat) < k ∧ k < r.B ^ r.F.toNat ∧ 0 ≤ e ∧ e ≤ 4 ∧ m = (k : Rat) * pw r (r.L + e)
theorem sS {K : PySem.W.Frag} {s : Nat} {a : Addr} {σ : St} {j : Nat} {v : Option V} (n : j ≠ s) (h : (rzS K s a).S σ) : (rzS K s a).S (σ.set j v) := by
  show (σ.set j v)[s]? = _
  rw [List.getElem?_set_ne n]
  exact h
def IsDraw (m : Int) (d : D) : Prop := IsI (fun i => 0 ≤ i ∧ i < m) d
section
variable {X : Cx} {Z : Rz} {e : Expr} {ρ : DEnv} {n : Nat} {pos p p1 : Pos} {s : Nat} {a : Addr} {m : Int} {P : D → Prop}
/-- _law_draw(state, e) -/
theorem pn_draw {y : Str} (hs : HasSt X.K Z s a) (c : Cal X.prog X.w X.K X.mg X.base "_law_draw" 2 ["_law_state", "_law_many"] (spN X.K 1 P1M PDraw)) (hr : Room 2 X.A) (ok : Z.Ok) (ha : PN X Z e ρ n (IsI fun i => 0 < i ∧ i < 2 ^ 200 ∧ i ≤ m)) (hP : ∀ i, 0 ≤ i → i < m → P (.int i)) (hN : X.N[s]? = some y := by rfl)
    (hv : Vis X.env.scope y := by first | exact Or.inl rfl | exact Or.inr (Or.inl rfl) | exact Or.inr (Or.inr rfl)) (hg : Gl X "_law_draw" := by rfl) (hd : (y == ("__debug__" : Str)) = false := by decide) (hcd : (y == ("__classdict__" : Str)) = false := by decide)
    (he : starEach [.Name y p1, e] X.env = (false, eval (.Name y p1) X.env) :: starEach [e] X.env := by rfl) (he2 : starEach [e] X.env = (false, eval e X.env) :: starEach [] X.env := by rfl) (hpl : (backTo pos (starEach [e] X.env)).any (·.1) = false := by rfl) : PN X Z (.Call (.Name "_law_draw" p) [.Name y p1, e] [] pos) ρ (n + 1) P :=
  pn_mono ok (pn_callS hs c hr (pna_cons ha (pna_nil ok) he2) (fun ds ⟨d, ds', e1, ⟨i, e2, h1, h2, h3⟩, e3⟩ => by subst e1 e2 e3; exact ⟨i, rfl, h1, h2⟩) hN hv hg (by decide) hd hcd he hpl) (Nat.le_refl _) fun d ⟨ds, ⟨d', ds', e1, ⟨i, e2, h1, h2, h3⟩, e3⟩, ⟨m', v, e4, e5, h5, h6⟩⟩ => by
    subst e1 e2 e3 e5
    cases e4
    exact hP v h5 (by omega)
theorem pn_int (ok : Z.Ok) {i : Int} {j : Nat} {q : Int → Prop} (h : q i) : PN X Z (.Constant (.int i) j pos) ρ 0 (IsI q) := pn_pd ok pd_int ⟨i, rfl, h⟩
end
section
variable {P : Program} {w : World} {K : PySem.W.Frag} {mg : Str → Option Value} {base : Heap}
theorem sc__law_number : FnScope ["_law_state", "_law_way", "_law_above", "_law_sign"] ["_law_state"] (defScope (top 81)) := ⟨rfl, rfl, rfl, by decide +kernel, rfl, by decide +kernel, by decide +kernel⟩
theorem cal__law_number (D0 : DefAt K mg "_law_number" 81) (c_draw : Cal P w K mg base "_law_draw" 2 ["_law_state", "_law_many"] (spN K 1 P1M PDraw)) (c_made : Cal P w K mg base "_law_made" 1 ["_law_above", "_law_below_here"] (spP K R__law_made)) :
    Cal P w K mg base "_law_number" 3 ["_law_state"] (spN K 6 (fun ds => ds = []) (fun _ d => ∃ q, d = dFr q ∧ NumOk q)) := by
  refine mk_calN D0 sc__law_number (fun ds h => by subst h; rfl) (fun _ _ _ _ _ _ us hl => match us, hl with | [_], _ => rfl) (fun f cdv A outer s H E hr F a b ds σ Q hds S0 e0 g0 kq => ?_)
  subst hds
  have HS := rzS_has (K := K) (s := 0) (a := a)
  have OK := rzS_ok (K := K) (s := 0) (a := a)
  refine us_setN 1 (n := 0 + 1) (b := b + 5) (P1 := IsDraw 8) (pn_draw (m := 8) HS c_draw hr OK (pn_int OK ⟨by decide, by decide, by decide⟩) fun i h1 h2 => ⟨i, rfl, h1, h2⟩) e0 S0 g0 (fun d v F1 H1 hd s1 g1 h1 e1 => ?_) sc__law_number.nd
  obtain ⟨w1, rfl, w2, w3⟩ := hd
  refine us_setN 2 (n := 0 + 0 + 1) (b := b + 4) (P1 := IsDraw (10 ^ 9)) (pn_draw (m := 10 ^ 9) HS c_draw hr OK (pn_ixL (PL := (· = [.int 2, .int 9, .int 9, .int 40, .int 40, .int 40, .int (10 ^ 9), .int (10 ^ 9)])) (q := (· = w1)) (pn_pd OK (pd_lst (pda_cons pd_int (pda_cons pd_int (pda_cons pd_int (pda_cons pd_int (pda_cons pd_int (pda_cons pd_int (pda_cons (pd_pow pd_int pd_int ⟨by decide, by decide, by decide⟩) (pda_cons (pd_pow pd_int pd_int ⟨by decide, by decide, by decide⟩) pda_nil))))))))) ⟨_, rfl, rfl⟩) (pn_pd OK (pd_var 1) ⟨w1, rfl, rfl⟩) fun ds i hd hi => by
    subst hd hi
    refine ix_all (fun d hd => ?_) w2 w3
    simp only [List.mem_cons, List.not_mem_nil, or_false] at hd
    rcases hd with rfl | rfl | rfl | rfl | rfl | rfl | rfl | rfl <;> exact ⟨_, rfl, by decide, by decide, by decide⟩) fun i h1 h2 => ⟨i, rfl, h1, h2⟩) e1 (sS (by decide) S0) g1 (fun d v F2 H2 hd s2 g2 h2 e2 => ?_) sc__law_number.nd
  obtain ⟨x, rfl, x2, x3⟩ := hd
  refine us_setN 3 (n := 0 + (0 + 0) + (0 + 1)) (b := b + 3) (P1 := IsI fun i => i = 1 ∨ i = -1) (pn_pick (k := 2) (pna_consA (pn_int OK (.inl rfl)) (pna_consA (pn_pd OK (pd_neg pd_int) ⟨-1, rfl, .inr rfl⟩) (pna_nilA OK))) (pn_draw (m := 2) HS c_draw hr OK (pn_int OK ⟨by decide, by decide, by decide⟩) fun i h1 h2 => ⟨i, rfl, h1, h2⟩) OK) e2 (sS (by decide) (sS (by decide) S0)) g2 (fun d v F3 H3 hd s3 g3 h3 e3 => ?_) sc__law_number.nd
  obtain ⟨y, rfl, hy⟩ := hd
  have xI : IB 31 x := by unfold IB; omega
  have yI : IB 31 y := by unfold IB; rcases hy with rfl | rfl <;> decide
  refine us_retN (n := 0 + ((0 + (0 + (0 + (0 + (0 + 1) + (0 + (0 + 1) + 0))))) + (0 + 1) + 0)) (b := b) (P1 := fun d => ∃ q, d = dFr q ∧ NumOk q) (pn_callP OK c_made (hr.mono (by decide)) (pna_cons (pn_pd OK (pd_mulW (pd_var 3) (pd_var 2) (mulW yI xI (by decide) (by decide) (by decide))) (P := (· = .int (y * x))) rfl) (pna_cons (pn_pick (k := 5) (P := IsI fun i => 0 < i ∧ i ≤ 60) (pna_consA (pn_int OK ⟨by decide, by decide⟩) (pna_consA (pn_int OK ⟨by decide, by decide⟩) (pna_consA (pn_int OK ⟨by decide, by decide⟩)
      (pna_consA (pn_add (p := (· = 1)) (q := fun i => 0 ≤ i ∧ i < 9) (pn_int OK rfl) (pn_draw (m := 9) HS c_draw hr OK (pn_int OK ⟨by decide, by decide, by decide⟩) fun i h1 h2 => ⟨i, rfl, h1, h2⟩) fun i j h1 h2 => ⟨_, rfl, by omega, by omega⟩)
      (pna_consA (pn_add (p := (· = 1)) (q := fun i => 0 ≤ i ∧ i < 60) (pn_int OK rfl) (pn_draw (m := 60) HS c_draw hr OK (pn_int OK ⟨by decide, by decide, by decide⟩) fun i h1 h2 => ⟨i, rfl, h1, h2⟩) fun i j h1 h2 => ⟨_, rfl, by omega, by omega⟩) (pna_nilA OK))))))
      (pn_draw (m := 5) HS c_draw hr OK (pn_int OK ⟨by decide, by decide, by decide⟩) fun i h1 h2 => ⟨i, rfl, h1, h2⟩) OK) (pna_nil OK))) fun ds hd => ?_) e3 (sS (by decide) (sS (by decide) (sS (by decide) S0))) g3 (fun d v F4 H4 hd s4 g4 h4 => kq d v F4 H4 hd (((s1.trans s2).trans s3).trans s4) g4 h4)
  obtain ⟨d1, ds1, rfl, rfl, d2, ds2, rfl, ⟨z, rfl, z1, z2⟩, rfl⟩ := hd
  refine ⟨_, ⟨y * x, z, rfl, by omega, by unfold IB; exact Nat.lt_of_lt_of_le (show z.natAbs < 2 ^ 7 by omega) (pow_mono (by decide)), rfl⟩, _, rfl, NumOk.of ?_ z1 z2⟩
  rcases hy with rfl | rfl <;> omega
theorem sc__law_ruler : FnScope ["_law_state", "_law_base", "_law_figures", "_law_low"] ["_law_state"] (defScope (top 85)) := ⟨rfl, rfl, rfl, by decide +kernel, rfl, by decide +kernel, by decide +kernel⟩
theorem cal__law_ruler (D0 : DefAt K mg "_law_ruler" 85) (c_draw : Cal P w K mg base "_law_draw" 2 ["_law_state", "_law_many"] (spN K 1 P1M PDraw)) :
    Cal P w K mg base "_law_ruler" 3 ["_law_state"] (spN K 4 (fun ds => ds = []) (fun _ d => ∃ r, d = dRul r ∧ VR r)) := by
  refine mk_calN D0 sc__law_ruler (fun ds h => by subst h; rfl) (fun _ _ _ _ _ _ us hl => match us, hl with | [_], _ => rfl) (fun f cdv A outer s H E hr F a b ds σ Q hds S0 e0 g0 kq => ?_)
  subst hds
  have HS := rzS_has (K := K) (s := 0) (a := a)
  have OK := rzS_ok (K := K) (s := 0) (a := a)
  refine us_setN 1 (n := 0 + (0 + (0 + (0 + (0 + (0 + 0))))) + (0 + 1)) (b := b + 3) (P1 := IsI fun i => 2 ≤ i ∧ i ≤ 16) (pn_pick (k := 6) (pna_consA (pn_int OK ⟨by decide, by decide⟩) (pna_consA (pn_int OK ⟨by decide, by decide⟩) (pna_consA (pn_int OK ⟨by decide, by decide⟩) (pna_consA (pn_int OK ⟨by decide, by decide⟩) (pna_consA (pn_int OK ⟨by decide, by decide⟩) (pna_consA (pn_int OK ⟨by decide, by decide⟩) (pna_nilA OK)))))))
    (pn_draw (m := 6) HS c_draw hr OK (pn_int OK ⟨by decide, by decide, by decide⟩) fun i h1 h2 => ⟨i, rfl, h1, h2⟩) OK) e0 S0 g0 (fun d v F1 H1 hd s1 g1 h1 e1 => ?_) sc__law_ruler.nd
  obtain ⟨B, rfl, B1, B2⟩ := hd
  refine us_parN 2 3 (n := 0 + (0 + 1) + (0 + 1 + 0 + 0)) (bb := b + 1) (PL := fun ds => ∃ d ds', ds = d :: ds' ∧ IsI (fun i => 1 ≤ i ∧ i ≤ 3) d ∧ ∃ d ds'', ds' = d :: ds'' ∧ IsI (fun i => -4 ≤ i ∧ i ≤ 1) d ∧ ds'' = [])
    (pna_cons (pn_add (p := (· = 1)) (q := fun i => 0 ≤ i ∧ i < 3) (pn_int OK rfl) (pn_draw (m := 3) HS c_draw hr OK (pn_int OK ⟨by decide, by decide, by decide⟩) fun i h1 h2 => ⟨i, rfl, h1, h2⟩) fun i j h1 h2 => ⟨_, rfl, by omega, by omega⟩)
      (pna_cons (pn_sub (p := fun i => 0 ≤ i ∧ i < 6) (q := (· = 4)) (pn_draw (m := 6) HS c_draw hr OK (pn_int OK ⟨by decide, by decide, by decide⟩) fun i h1 h2 => ⟨i, rfl, h1, h2⟩) (pn_int OK rfl) fun i j h1 h2 => ⟨_, rfl, by omega, by omega⟩) (pna_nil OK)))
    e1 (sS (by decide) S0) g1 (fun ds ⟨d, ds', h1, _, d2, ds2, h2, _, h3⟩ => ⟨d, d2, by rw [h1, h2, h3]⟩) (fun d1 d2 v w F2 H2 hd s2 g2 e2 => ?_) (ps_par (by rfl) sc__law_ruler.nd rfl rfl (by decide) rfl rfl pa_u (by rfl))
  obtain ⟨_, _, q1, ⟨fg, rfl, f1, f2⟩, _, _, q2, ⟨lo, rfl, l1, l2⟩, rfl⟩ := hd
  cases q1
  cases q2
  refine us_retN (n := 0 + (0 + (0 + (0 + (0 + (0 + (0 + 0))) + (0 + 1) + 0)))) (b := b) (P1 := fun d => ∃ ds, d = .tuple ds ∧ ∃ d ds', ds = d :: ds' ∧ d = .int B ∧ ∃ d ds2, ds' = d :: ds2 ∧ d = .int fg ∧ ∃ d ds3, ds2 = d :: ds3 ∧ d = .int lo ∧ ∃ d ds4, ds3 = d :: ds4 ∧ (∃ wy : Way, d = .str wy.str) ∧ ds4 = [])
    (pn_tup (pna_cons (pn_pd OK (pd_var 1) rfl) (pna_cons (pn_pd OK (pd_var 2) rfl) (pna_cons (pn_pd OK (pd_var 3) rfl) (pna_cons (pn_pick (k := 4) (P := fun d => ∃ wy : Way, d = .str wy.str) (pna_consA (pn_pd OK pd_str ⟨.near, rfl⟩) (pna_consA (pn_pd OK pd_str ⟨.down, rfl⟩) (pna_consA (pn_pd OK pd_str ⟨.up, rfl⟩) (pna_consA (pn_pd OK pd_str ⟨.nought, rfl⟩) (pna_nilA OK)))))
      (pn_draw (m := 4) HS c_draw hr OK (pn_int OK ⟨by decide, by decide, by decide⟩) fun i h1 h2 => ⟨i, rfl, h1, h2⟩) OK) (pna_nil OK))))) (fun ds ⟨_, _, q1, _, _, _, q2, _, _, _, q3, _, _, _, q4, _, q5⟩ => by subst q1 q2 q3 q4 q5; rfl) OK) e2 (sS (by decide) (sS (by decide) (sS (by decide) S0))) g2 (fun d v F3 H3 hd s3 g3 h3 => ?_)
  obtain ⟨_, rfl, _, _, rfl, rfl, _, _, rfl, rfl, _, _, rfl, rfl, _, _, rfl, ⟨wy, rfl⟩, rfl⟩ := hd
  exact kq _ v F3 H3 ⟨⟨B, fg, lo, wy⟩, rfl, ⟨B1, B2, f1, f2, l1, l2⟩⟩ ((s1.trans s2).trans s3) g3 h3
theorem sc__law_mark : FnScope ["_law_state", "_law_ruler_here", "_law_most", "_law_size", "_law_step"] ["_law_state", "_law_ruler_here"] (defScope (top 86)) := ⟨rfl, rfl, rfl, by decide +kernel, rfl, by decide +kernel, by decide +kernel⟩
theorem cal__law_mark (D0 : DefAt K mg "_law_mark" 86) (c_draw : Cal P w K mg base "_law_draw" 2 ["_law_state", "_law_many"] (spN K 1 P1M PDraw)) (c_power : Cal P w K mg base "_law_power" 1 ["_law_base", "_law_exponent"] (spP K R__law_power)) (c_times : Cal P w K mg base "_law_times" 2 ["_law_one", "_law_other"] (spP K R__law_times)) :
    Cal P w K mg base "_law_mark" 3 ["_law_state", "_law_ruler_here"] (spN K 6 (fun ds => ∃ r, ds = [dRul r] ∧ VR r) (fun ds d => ∃ r m, ds = [dRul r] ∧ d = dFr m ∧ IsMk r m)) := by
  refine mk_calN D0 sc__law_mark (fun ds ⟨r, h, _⟩ => by subst h; rfl) (fun _ _ _ _ _ _ us hl => match us, hl with | [_, _], _ => rfl) (fun f cdv A outer s H E hr F a b ds σ Q hds S0 e0 g0 kq => ?_)
  obtain ⟨r, rfl, v⟩ := hds
  have HS := rzS_has (K := K) (s := 0) (a := a)
  have OK := rzS_ok (K := K) (s := 0) (a := a)
  have f1 := v.f1
  have f3 := v.f3
  have l4 := v.l4
  have l1 := v.l1
  obtain ⟨M, hM⟩ : ∃ M, M = r.B ^ r.F.toNat := ⟨_, rfl⟩
  have hM1 : 1 < M := by
    rw [hM]
    obtain ⟨n, hn⟩ : ∃ n, r.F.toNat = n + 1 := ⟨r.F.toNat - 1, by omega⟩
    rw [hn, Int.pow_succ]
    have h1 := ipow_pos v.b2 n
    have h2 := v.b2
    have h3 : 1 * 2 ≤ r.B ^ n * r.B := Int.mul_le_mul (by omega) h2 (by decide) (by omega)
    omega
  have hM2 : IB 13 M := by rw [hM]; exact (ipow_IB v.b2 v.b16 _).mono (by omega)
  have hM3 : M < 2 ^ 200 := by
    unfold IB at hM2
    have : M.natAbs < 2 ^ 200 := Nat.lt_of_lt_of_le hM2 (pow_mono (by decide))
    omega
  refine us_set 2 (d := .int M) (pd_is (pd_ixT (pd_call c_power (hr.mono (by decide)) (pda_cons (pd_ixT (pd_var 1) pd_int) (pda_cons (pd_ixT (pd_var 1) pd_int) pda_nil)) ⟨r.B, r.F, rfl, ⟨v.b2, v.b16, by omega, by omega⟩, rfl⟩) pd_int) (by rw [((pow_nd v.b2 r.F).1 (by omega)).1, hM])) e0 (fun _ F1 H1 s1 _ e1 => ?_) sc__law_mark.nd
  have S1 := sS (j := 2) (v := some (.int M)) (by decide) S0
  rename_i vM dpM
  obtain rfl : vM = .int M := dp_int dpM
  refine us_setN 3 (b := b + 2) (P1 := IsI fun i => 0 ≤ i ∧ i < M) (pn_pick (k := 6) (pna_consA (pn_int OK ⟨by decide, by omega⟩) (pna_consA (pn_int OK ⟨by decide, by omega⟩) (pna_consA (pn_sub (p := (· = M)) (q := (· = 1)) (pn_pd OK (pd_var 2) ⟨M, rfl, rfl⟩) (pn_int OK rfl) fun i j h1 h2 => ⟨_, rfl, by omega, by omega⟩)
      (pna_consA (pn_draw (m := M) HS c_draw hr OK (pn_pd OK (pd_var 2) ⟨M, rfl, by omega, hM3, Int.le_refl _⟩) fun i h1 h2 => ⟨i, rfl, h1, h2⟩) (pna_consA (pn_draw (m := M) HS c_draw hr OK (pn_pd OK (pd_var 2) ⟨M, rfl, by omega, hM3, Int.le_refl _⟩) fun i h1 h2 => ⟨i, rfl, h1, h2⟩) (pna_consA (pn_draw (m := M) HS c_draw hr OK (pn_pd OK (pd_var 2) ⟨M, rfl, by omega, hM3, Int.le_refl _⟩) fun i h1 h2 => ⟨i, rfl, h1, h2⟩) (pna_nilA OK)))))))
      (pn_draw (m := 6) HS c_draw hr OK (pn_int OK ⟨by decide, by decide, by decide⟩) fun i h1 h2 => ⟨i, rfl, h1, h2⟩) OK) e1 S1 (g0.step s1) (fun d v2 F2 H2 hd s2 g2 h2 e2 => ?_) sc__law_mark.nd
  obtain ⟨z, rfl, z1, z2⟩ := hd
  refine us_setN 4 (b := b + 1) (P1 := fun d => ∃ e : Int, 0 ≤ e ∧ e ≤ 4 ∧ d = dFr (pw r (r.L + e))) (pn_callP OK c_power (hr.mono (by decide)) (pna_cons (P := (· = .int r.B)) (pn_pd OK (pd_ixT (pd_var 1) pd_int) rfl) (pna_cons (pn_add (P := IsI fun i => ∃ e, 0 ≤ e ∧ e ≤ 4 ∧ i = r.L + e) (p := (· = r.L)) (q := fun i => 0 ≤ i ∧ i < 5) (pn_pd OK (pd_ixT (pd_var 1) pd_int) ⟨r.L, rfl, rfl⟩) (pn_draw (m := 5) HS c_draw hr OK (pn_int OK ⟨by decide, by decide, by decide⟩) fun i h1 h2 => ⟨i, rfl, h1, h2⟩) fun i j h1 h2 => ⟨_, rfl, j, by omega, by omega, by omega⟩) (pna_nil OK))) fun ds hd => ?_) e2 (sS (by decide) S1) g2 (fun d v3 F3 H3 hd s3 g3 h3 e3 => ?_) sc__law_mark.nd
  · obtain ⟨_, _, rfl, rfl, _, _, rfl, ⟨_, rfl, e, q1, q2, rfl⟩, rfl⟩ := hd
    exact ⟨_, ⟨r.B, r.L + e, rfl, ⟨v.b2, v.b16, by omega, by omega⟩, rfl⟩, e, q1, q2, rfl⟩
  obtain ⟨e, q1, q2, rfl⟩ := hd
  have zI : IB 13 z := hM2.le (by omega)
  have pB : Sm (pw r (r.L + e)) := (pw_Bt v (r.L + e) (m := 900) (by omega) (by omega)).mono (by decide)
  refine us_retN (b := b) (P1 := fun d => ∃ m, d = dFr m ∧ IsMk r m) (pn_callP OK c_times (hr.mono (by decide)) (pna_cons (pn_mono OK (pn_tup (PL := fun ds => ∃ d ds', ds = d :: ds' ∧ IsI (fun i => i = z ∨ i = -z) d ∧ ds' = [.int 1]) (pna_cons (pn_mul (p := fun i => i = 1 ∨ i = -1) (q := (· = z)) (pn_pick (k := 2) (pna_consA (pn_int OK (.inl rfl)) (pna_consA (pn_pd OK (pd_neg pd_int) ⟨-1, rfl, .inr rfl⟩) (pna_nilA OK))) (pn_draw (m := 2) HS c_draw hr OK (pn_int OK ⟨by decide, by decide, by decide⟩) fun i h1 h2 => ⟨i, rfl, h1, h2⟩) OK) (pn_pd OK (pd_var 3) ⟨z, rfl, rfl⟩) fun i j h1 h2 => by
        subst h2
        have iI : IB 2 i := by unfold IB; rcases h1 with rfl | rfl <;> decide
        refine ⟨mulW iI zI (by decide) (by decide) (by decide), _, rfl, ?_⟩
        rcases h1 with rfl | rfl <;> omega) (pna_pd OK (pda_cons pd_int pda_nil))) (fun ds ⟨_, _, q1, _, q2⟩ => by subst q1 q2; rfl) OK) (Nat.le_refl _) (P' := fun d => ∃ k : Int, d = dFr (k : Rat) ∧ (k = z ∨ k = -z)) fun d ⟨_, q0, _, _, q1, ⟨k, q2, q3⟩, q4⟩ => ⟨k, by subst q0 q1 q2 q4; unfold dFr; rw [Rat.num_intCast, Rat.den_intCast]; rfl, q3⟩)
      (pna_cons (P := (· = dFr (pw r (r.L + e)))) (pn_pd OK (pd_var 4) rfl) (pna_nil OK))) fun ds hd => ?_) e3 (sS (by decide) (sS (by decide) S1)) g3 (fun d v4 F4 H4 hd s4 g4 h4 => ?_)
  · obtain ⟨_, _, rfl, ⟨k, rfl, hk⟩, _, _, rfl, rfl, rfl⟩ := hd
    have kI : IB 13 k := zI.le (by omega)
    exact ⟨_, ⟨(k : Rat), pw r (r.L + e), rfl, ⟨(Bt.int kI (by decide)).mono (by decide), pB⟩, rfl⟩, _, rfl, k, e, by omega, by omega, q1, q2, rfl⟩
  · obtain ⟨m, rfl, hm⟩ := hd
    exact kq _ v4 F4 H4 ⟨r, m, rfl, rfl, hm⟩ (((s1.m.trans s2).trans s3).trans s4) g4 h4
end
end Rs
end

section
set_option Elab.async false
set_option linter.all false
set_option maxRecDepth 100000
set_option maxHeartbeats 4000000
namespace Rs
open PySem PySem.Spec L2
/-! ### more raw rules -/
section
variable {X : Cx} {Z : Rz} {e tg : Expr} {ρ : DEnv} {n : Nat} {pos p p1 p2 : Pos} {F H : Hp} {σ : St} {rest body : List Stmt} {Dn : Ends} {P : D → Prop} {g : TG} {js : List Nat} {bind : D → DEnv → DEnv} {okd : D → Prop} {d : D}
/-- a, b = .. by way of a tuple -/
theorem us_asgN {b : Nat} (he : PN X Z e ρ n P) (hg : PG X tg g) (tgd : TgD X.K g js bind okd) (hok : ∀ d, P d → okd d) (hE : EnvOk X.K F ρ σ H) (hS : Z.S σ) (hG : Z.G (b + n) F H)
    (k : ∀ d F' H' σ', P d → StepM Z.M F H F' H' → Z.G b F' H' → (∀ k, k ∉ js → σ'[k]? = σ[k]?) → EnvOk X.K F' (bind d ρ) σ' H' → US X rest Dn σ' H') (hs : swapsWithSole [tg] e pos.line X.env = pure false := by rfl) (hw : swappedStores [tg] e X.env = pure none := by rfl)
    (h1 : (assignEach [tg] X.env).map (·.2) = [assign tg X.env] := by rfl) : US X (.Assign [tg] e pos :: rest) Dn σ H :=
  ⟨_, pss_cons (ps_asg pe_u hg hs hw h1) pss_u, he b F σ H _ hE hS hG fun d v F1 H1 hp s1 g1 h1 => tgd F1 σ H1 d v _ ρ (hE.stepM s1) h1 (hok d hp) fun σ' hl hk he' => k d F1 H1 σ' hp s1 g1 hk he'⟩
/-- x = [e], a thing of its own -/
theorem us_setOne (i : Nat) {x : Str} (he : PD X e ρ d) (hE : EnvOk X.K F ρ σ H) (k : ∀ l v F' H', Step F H F' H' → Dp X.K F' v d → H' l = none → F' l = none → EnvOk X.K F' (ρ.set i none) (σ.set i (some (.ref l))) (upd H' l (.lst [v])) → US X rest Dn (σ.set i (some (.ref l))) (upd H' l (.lst [v]))) (nd : X.N.Nodup) (hi : X.N[i]? = some x := by rfl)
    (hx : Loc X.env.scope x := by first | exact Or.inl rfl | exact Or.inr rfl) (hst : starEach [e] X.env = (false, eval e X.env) :: starEach [] X.env := by rfl) (hs : swapsWith (.List [e] p1) (some (.Name x p)) pos.line X.env = pure false := by rfl) (hf : X.fn x = true ∨ X.env.scope.names.lookup x = some .local := by first | exact .inl rfl | exact .inr rfl) : US X (.Assign [.Name x p] (.List [e] p1) pos :: rest) Dn σ H :=
  ⟨_, pss_cons (ps_set nd hi hx (pe_lst (pa_cons pe_u pa_nil hst)) hs hf) pss_u, he F σ H _ hE fun v F1 H1 s1 h1 => ⟨by show 1 ≤ sizeLine; decide, fun l hl => by
    have hfl : F1 l = none := Same.free s1.fh hl
    exact k l v F1 H1 s1 h1 hl hfl (((hE.step s1).setU i _).hp (Same.mut s1.fh hfl))⟩⟩
/-- for x in range(e), e told loosely -/
theorem us_forRN (i : Nat) {x : Str} {b c : Nat} {q : Int → Prop} (he : PN X Z e ρ c (IsI fun n => 0 ≤ n ∧ n < 2 ^ 62 ∧ q n)) (hE : EnvOk X.K F ρ σ H) (hS : Z.S σ) (hG : Z.G (b + c) F H) (Inv : Hp → Hp → Int → Nat → Hp → DEnv → St → Hp → Prop)
    (k0 : ∀ n F1 H1, 0 ≤ n → q n → StepM Z.M F H F1 H1 → Z.G b F1 H1 → EnvOk X.K F1 ρ σ H1 → Inv F1 H1 n 0 F1 ρ σ H1)
    (k2 : ∀ n F1 H1 (m : Nat) F' ρ' σ' H', q n → StepM Z.M F H F1 H1 → (m : Int) < n → Inv F1 H1 n m F' ρ' σ' H' → US X body { Dn with nx := fun σ H => ∃ F ρ, Inv F1 H1 n (m + 1) F ρ σ H, ct := fun σ H => ∃ F ρ, Inv F1 H1 n (m + 1) F ρ σ H, bk := US X rest Dn } (σ'.set i (some (.int (m : Int)))) H')
    (k3 : ∀ n F1 H1 F' ρ' σ' H', q n → StepM Z.M F H F1 H1 → Inv F1 H1 n n.toNat F' ρ' σ' H' → US X rest Dn σ' H') (hm : X.mg "range" = none) (nd : X.N.Nodup) (hg : Gl X "range" := by rfl) (hst : starEach [e] X.env = [(false, eval e X.env)] := by rfl) (hc : X.calm = true := by rfl) (hi : X.N[i]? = some x := by rfl)
    (hx : Loc X.env.scope x := by first | exact Or.inl rfl | exact Or.inr rfl) (hf : X.fn x = true ∨ X.env.scope.names.lookup x = some .local := by first | exact .inl rfl | exact .inr rfl) (hp : PassesOwn (model X.prog X.w) X.A X.env X.xe := by exact PassesOwn.never)
    (hfs : ∀ v, foldedSetIterable (.Call (.Name "range" p1) [e] [] p2) X.env v = pure v := by intro _; rfl) : US X (.For (.Name x p) (.Call (.Name "range" p1) [e] [] p2) body [] pos :: rest) Dn σ H :=
  ⟨_, pss_cons (ps_for hp hc (pi_range1 hg hm (pa_cons pe_u pa_nil (by rw [hst]; rfl)) hst) (pg_name nd hi hx hf) pss_u (hs := hfs)) pss_u, he b F σ H _ hE hS hG fun d v F1 H1 ⟨n, e1, n0, n1, hq⟩ s1 g1 h1 => by
    subst e1
    refine ⟨n, by rw [dp_int h1], by omega, by omega, for_range (lo := 0) (n := n.toNat) (fun m σ' H' => ∃ F' ρ', Inv F1 H1 n m F' ρ' σ' H') ⟨F1, ρ, k0 n F1 H1 n0 hq s1 g1 (hE.stepM s1)⟩ ?_ fun σ' H' ⟨F', ρ', hI⟩ => k3 n F1 H1 F' ρ' σ' H' hq s1 hI⟩
    rintro m σ' H' hm' ⟨F', ρ', hI⟩
    have e0 : (0 : Int) + (m : Int) = (m : Int) := Int.zero_add _
    rw [e0]
    exact k2 n F1 H1 m F' ρ' σ' H' hq s1 (by omega) hI⟩
end
/-! ### readings told of data -/
section
variable {K : PySem.W.Frag} {ρ : DEnv} {d d1 d2 : D} {ta tb : TE}
theorem ev_var (i : Nat) (h : ρ[i]? = some (some d)) : EvD K (tVar i) ρ d := fun F σ H Q he k => by
  obtain ⟨v, h1, h2⟩ := he.at_ i d h
  exact ⟨v, h1, k v F H (Step.refl he.fh) h2⟩
theorem ev_c {v : V} (hd : ∀ F, Dp K F v d) : EvD K (tC v) ρ d := fun F σ H Q he k => k v F H (Step.refl he.fh) (hd F)
theorem ev_I {C : Int → Int → Prop} {f : Int → Int → Int} {i j : Int} (ha : EvD K ta ρ (.int i)) (hb : EvD K tb ρ (.int j)) (hc : C i j) : EvD K (tOp (rI C fun i j => .int (f i j)) ta tb) ρ (.int (f i j)) :=
  ev_op ha hb fun F H x y Q hs h1 h2 k => ⟨i, j, dp_int h1, dp_int h2, hc, k _ F H (Step.refl hs) (.int _)⟩
theorem ev_I0 {f : Int → Int → Int} {i j : Int} (ha : EvD K ta ρ (.int i)) (hb : EvD K tb ρ (.int j)) : EvD K (tOp (rI0 fun i j => .int (f i j)) ta tb) ρ (.int (f i j)) :=
  ev_op ha hb fun F H x y Q hs h1 h2 k => ⟨i, j, dp_int h1, dp_int h2, k _ F H (Step.refl hs) (.int _)⟩
end
def asInt : D → Int
  | .int i => i
  | _ => 0
/-! ### names -/
def wordsL : List Str := ["q", "zz", "abc", "m", "kxkxkx", "b", "yy", "c", "dova", "aaaaaa", "x", "hub"]
def nameAt (st sp k : Int) : Str := wordsL.getD ((st + sp * k) % 12).toNat ""
def nmL (st sp n : Int) : List Str := (List.range n.toNat).map fun (k : Nat) => nameAt st sp (k : Int)
def IsSt (i : Int) : Prop := i = 1 ∨ i = 5 ∨ i = 7 ∨ i = 11
theorem names_nodup (st sp n : Int) (h1 : 0 ≤ st) (h2 : st < 12) (h3 : IsSt sp) (h4 : n ≤ 7) : (nmL st sp n).Nodup := by
  have base : ∀ a : Fin 12, ∀ b ∈ [1, 5, 7, 11], ((List.range 7).map fun (k : Nat) => nameAt (a.val : Int) (b : Int) (k : Int)).Nodup := by decide +kernel
  have h7 := base ⟨st.toNat, by omega⟩ sp (by rcases h3 with h | h | h | h <;> subst h <;> simp)
  have e : ((st.toNat : Nat) : Int) = st := by omega
  rw [show ((⟨st.toNat, by omega⟩ : Fin 12).val : Int) = st from e] at h7
  refine List.Nodup.sublist ?_ h7
  unfold nmL
  refine List.Sublist.map _ ?_
  have : n.toNat ≤ 7 := by omega
  exact List.range_sublist.mpr this
def PNames (ds : List D) (d : D) : Prop := ∃ (n : Int) (ns : List Str), ds = [.int n] ∧ d = .list (ns.map .str) ∧ (ns.length : Int) = n ∧ ns.Nodup
section
variable {P : Program} {w : World} {K : PySem.W.Frag} {mg : Str → Option Value} {base : Heap}
theorem sc__law_names : FnScope ["_law_state", "_law_many", "_law_words", "_law_start", "_law_step", "_law_k"] ["_law_state", "_law_many"] (defScope (top 87)) := ⟨rfl, rfl, rfl, by decide +kernel, rfl, by decide +kernel, by decide +kernel⟩
theorem cal__law_names (T : Frees mg) (D0 : DefAt K mg "_law_names" 87) (c_draw : Cal P w K mg base "_law_draw" 2 ["_law_state", "_law_many"] (spN K 1 P1M PDraw)) :
    Cal P w K mg base "_law_names" 3 ["_law_state", "_law_many"] (spN K 2 (fun ds => ∃ n : Int, ds = [.int n] ∧ 0 ≤ n ∧ n ≤ 7) PNames) := by
  refine mk_calN D0 sc__law_names (fun ds ⟨n, h, _⟩ => by subst h; rfl) (fun _ _ _ _ _ _ us hl => match us, hl with | [_, _], _ => rfl) (fun f cdv A outer s H E hr F a b ds σ Q hds S0 e0 g0 kq => ?_)
  obtain ⟨n, rfl, n0, n7⟩ := hds
  have HS := rzS_has (K := K) (s := 0) (a := a)
  have OK := rzS_ok (K := K) (s := 0) (a := a)
  refine us_set 2 (d := .list (wordsL.map .str)) (pd_lst (pda_cons pd_str (pda_cons pd_str (pda_cons pd_str (pda_cons pd_str (pda_cons pd_str (pda_cons pd_str (pda_cons pd_str (pda_cons pd_str (pda_cons pd_str (pda_cons pd_str (pda_cons pd_str (pda_cons pd_str pda_nil))))))))))))) e0 (fun vW F1 H1 s1 _ e1 => ?_) sc__law_names.nd
  have S1 := sS (j := 2) (v := some vW) (by decide) S0
  refine us_asgN (b := b) (P := fun d => ∃ ds, d = .tuple ds ∧ ∃ d ds', ds = d :: ds' ∧ IsDraw 12 d ∧ ∃ d ds2, ds' = d :: ds2 ∧ IsI IsSt d ∧ ds2 = []) (pn_tup (pna_cons (pn_draw (m := 12) HS c_draw hr OK (pn_int OK ⟨by decide, by decide, by decide⟩) fun i h1 h2 => ⟨i, rfl, h1, h2⟩)
      (pna_cons (pn_pick (k := 4) (pna_consA (pn_int OK (.inl rfl)) (pna_consA (pn_int OK (.inr (.inl rfl))) (pna_consA (pn_int OK (.inr (.inr (.inl rfl)))) (pna_consA (pn_int OK (.inr (.inr (.inr rfl)))) (pna_nilA OK))))) (pn_draw (m := 4) HS c_draw hr OK (pn_int OK ⟨by decide, by decide, by decide⟩) fun i h1 h2 => ⟨i, rfl, h1, h2⟩) OK) (pna_nil OK))) (fun ds ⟨_, _, q1, _, _, _, q2, _, q3⟩ => by subst q1 q2 q3; rfl) OK)
      (pg_tup (n := 2) rfl (pgs_cons (pg_name (i := 3) sc__law_names.nd rfl (Or.inr rfl)) (pgs_cons (pg_name (i := 4) sc__law_names.nd rfl (Or.inr rfl)) pgs_nil))) tg_pair (fun d ⟨_, q0, _, _, q1, _, _, _, q2, _, q3⟩ => by subst q0 q1 q2 q3; exact ⟨_, _, rfl⟩) e1 S1 (g0.step s1) (fun d F2 H2 σ2 hd s2 g2 hk e2 => ?_)
  obtain ⟨_, rfl, _, _, rfl, ⟨st, rfl, st0, st1⟩, _, _, rfl, ⟨sp, rfl, hsp⟩, rfl⟩ := hd
  have stI : IB 5 st := by unfold IB; omega
  have spI : IB 5 sp := by unfold IB; rcases hsp with h | h | h | h <;> subst h <;> decide
  refine us_ret (d := .list ((nmL st sp n).map .str)) (pd_is (pd_lc [("_law_k", 5)] (fun d => .str (nameAt st sp (asInt d))) (flt := fun _ => true) (te := tOp (rIxL K) (tVar 2) (tOp (rI (fun _ j => 0 < j) fun i j => .int (i % j)) (tOp (rI0 fun i j => .int (i + j)) (tVar 3) (tOp (rI CMulW fun i j => .int (i * j)) (tVar 4) (tVar 5))) (tC (.int 12)))) (src_range rfl T.range (pd_var 1) ⟨n0, by omega⟩) tg_name (fun _ _ => trivial) (fun j hj d => by
      have : j = 5 := by simpa using hj
      subst this
      intro h
      cases h) sc__law_names.nd (blkOk_by (N := ["_law_state", "_law_many", "_law_words", "_law_start", "_law_step", "_law_k"]) (sc := defScope (top 87)) (by decide +kernel)) (fun _ _ _ _ _ => pg_name (i := 5) sc__law_names.nd rfl (Or.inl rfl)) (fun _ _ _ _ _ => pts_nil)
      (fun _ _ _ _ _ => pe_ix ix_list (pv 2) (pe_op op_mod (pe_op op_add (pv 3) (pe_op op_mulW (pv 4) (pv 5))) pe_int) (fun _ _ => rfl)) (fun d hd => ev_yes) (fun d hd _ => ?_) ?_) ?_) e2 (fun v F3 H3 s3 h3 => ?_)
  · obtain ⟨k, hk, rfl⟩ := List.mem_map.mp hd
    have hk := List.mem_range.mp hk
    have kI : IB 5 (k : Int) := by unfold IB; omega
    have eI : EvD K (tOp (rI (fun _ j => 0 < j) fun i j => .int (i % j)) (tOp (rI0 fun i j => .int (i + j)) (tVar 3) (tOp (rI CMulW fun i j => .int (i * j)) (tVar 4) (tVar 5))) (tC (.int 12))) (bind1 5 (.int (k : Int)) (bind2 3 4 (.tuple [.int st, .int sp]) ((startN ["_law_state", "_law_many", "_law_words", "_law_start", "_law_step", "_law_k"] [.int n]).set 2 (some (.list (wordsL.map .str)))))) (.int ((st + sp * (k : Int)) % 12)) :=
      ev_I (f := fun i j => i % j) (ev_I0 (f := fun i j => i + j) (ev_var 3 rfl) (ev_I (f := fun i j => i * j) (ev_var 4 rfl) (ev_var 5 rfl) (mulW spI kI (by decide) (by decide) (by decide)))) (ev_c fun _ => .int 12) (by decide)
    refine ev_op (ev_var 2 rfl) eI fun F H x y Q hh h1 h2 kk => ?_
    obtain ⟨l, xs, e1, e2, e3⟩ := dp_lst h1
    have hat : atI (wordsL.map PyData.str) ((st + sp * (k : Int)) % 12) = some (.str (nameAt st sp (k : Int))) := by
      have b0 := Int.emod_nonneg (st + sp * (k : Int)) (show (12 : Int) ≠ 0 by decide)
      have b1 := Int.emod_lt_of_pos (st + sp * (k : Int)) (show (0 : Int) < 12 by decide)
      unfold nameAt
      generalize (st + sp * (k : Int)) % 12 = z at *
      obtain ⟨j, rfl⟩ : ∃ j : Nat, z = (j : Int) := ⟨z.toNat, by omega⟩
      refine atI_nat ?_
      have hj : j < wordsL.length := by show j < 12; omega
      rw [List.getElem?_map, Int.toNat_natCast, List.getD_eq_getElem?_getD, List.getElem?_eq_getElem hj]
      rfl
    obtain ⟨v, e4, e5⟩ := dpa_atI e3 hat
    exact ⟨l, xs, _, v, e1, dp_int h2, Same.seq hh e2, e4, kk v F H (Step.refl hh) e5⟩
  · unfold rngD
    rw [List.length_map, List.length_range]
    exact Nat.lt_of_le_of_lt (show n.toNat ≤ 7 by omega) (by decide)
  · unfold rngD nmL
    rw [filt_yes, List.map_map, List.map_map]
    rfl
  · refine kq _ v F3 H3 ⟨n, nmL st sp n, rfl, rfl, ?_, names_nodup st sp n st0 st1 hsp n7⟩ ((s1.m.trans s2).trans s3.m) (g2.step s3) h3
    unfold nmL
    rw [List.length_map, List.length_range]
    omega
end
end Rs
end

section
set_option Elab.async false
set_option linter.all false
set_option maxRecDepth 100000
set_option maxHeartbeats 4000000
namespace Rs
open PySem PySem.Spec L2
/-! ### a list of one's own, read -/
def rzL (K : PySem.W.Frag) (j : Nat) (l : Addr) (ds : List D) : Rz := ⟨fun σ => σ[j]? = some (some (.ref l)), fun _ => False, fun _ F H => F l = none ∧ ∃ vs, H l = some (.lst vs) ∧ DpAll K F vs ds⟩
theorem rzL_ok {K : PySem.W.Frag} {j : Nat} {l : Addr} {ds : List D} : (rzL K j l ds).Ok where
  st := fun ⟨h1, vs, h2, h3⟩ s => let ⟨q1, q2⟩ := s.own h2 h1; ⟨q2, vs, q1, dpa_mono s.ff h3⟩
  lo := fun _ h => h
  up := fun ⟨_, _, k, _⟩ hD ⟨h1, vs, h2, h3⟩ => ⟨h1, vs, by rw [upd_ne (ne_of_none k hD)]; exact h2, h3⟩
  mo := fun _ _ z => z
  pb := fun ⟨_, _, k, _⟩ hD ⟨h1, vs, h2, h3⟩ hf _ => ⟨by rw [upd_ne (ne_of_none k hD)]; exact h1, vs, h2, dpa_mono (pub_same hf) h3⟩
theorem pn_own {X : Cx} {e : Expr} {ρ : DEnv} {j : Nat} {l : Addr} {ds : List D} {i : Int} {d : D} {x : Str} {pos p1 : Pos} (hi : PD X e ρ (.int i)) (hd : atI ds i = some d) (hN : X.N[j]? = some x := by rfl) (hv : Vis X.env.scope x := by first | exact Or.inl rfl | exact Or.inr (Or.inl rfl) | exact Or.inr (Or.inr rfl))
    (hdb : (x == ("__debug__" : Str)) = false := by decide) (hcd : (x == ("__classdict__" : Str)) = false := by decide) (hs : PlainIx e := by exact fun _ _ => rfl) : PN X (rzL X.K j l ds) (.Subscript (.Name x p1) e pos) ρ 0 (· = d) :=
  pn_of (pe_ix ix_list (pe_var hN hv hdb hcd) pe_u hs) fun b F σ H Q he hz hg k => ⟨_, hz, hi F σ H _ he fun y F1 H1 s1 h1 => by
    obtain ⟨g1, vs, g2, g3⟩ := rzL_ok.st hg s1
    obtain ⟨v, q1, q2⟩ := dpa_atI g3 hd
    exact ⟨l, vs, i, v, rfl, dp_int h1, SqL.of g2, q1, k d v F1 H1 rfl s1.m ⟨g1, vs, g2, g3⟩ q2⟩⟩
/-! ### the boxes -/
@[reducible] def dMs (ms : List Rat) : D := .list (ms.map dFr)
def dBox (bx : List (List Rat)) : D := .list (bx.map dMs)
structure MsOk (r : Rul) (ms : List Rat) : Prop where
  ne : ms ≠ []
  few : ms.length ≤ 6
  up : ms.Pairwise (· ≤ ·)
  bm : ∀ m ∈ ms, IsBm r 5 m
/-- what one line of marks has come to -/
structure MsGo (r : Rul) (t : Nat) (ms : List Rat) : Prop where
  len : ms.length = t + 1
  up : ms.Pairwise (· ≤ ·)
  bm : ∀ m ∈ ms, IsBm r t m
theorem bm_mono {r : Rul} (v : VR r) {n k : Nat} {m : Rat} (h : IsBm r n m) (l : n ≤ k) : IsBm r k m := ⟨h.isM, by
  have hT := pw_pos v (r.L + 4 + r.F)
  have : ((2 ^ n : Int) : Rat) ≤ ((2 ^ k : Int) : Rat) := by
    refine intCast_le.mpr ?_
    have := pow_mono l
    exact_mod_cast this
  have := Rat.mul_le_mul_of_nonneg_right this (show 0 ≤ pw r (r.L + 4 + r.F) by grind)
  have := h.bd
  grind⟩
theorem MsGo.next {r : Rul} (v : VR r) {t : Nat} {ms : List Rat} (h : MsGo r t ms) : ∃ m, ms.getLast? = some m ∧ IsBm r t m ∧ MsGo r (t + 1) (ms ++ [rnd r (m + stp r m)]) := by
  obtain ⟨ms0, m, rfl⟩ : ∃ l a, ms = l ++ [a] := by
    have : ms ≠ [] := fun z => by
      have := h.len
      rw [z] at this
      simp at this
    exact ⟨ms.dropLast, ms.getLast this, (List.dropLast_concat_getLast this).symm⟩
  have hm := h.bm m (by simp)
  obtain ⟨q1, q2⟩ := bm_next v hm
  refine ⟨m, by simp, hm, ⟨by have := h.len; simp at this ⊢; omega, ?_, fun x hx => ?_⟩⟩
  · rw [List.pairwise_append]
    refine ⟨h.up, by simp, fun x hx y hy => ?_⟩
    have hy : y = rnd r (m + stp r m) := by simpa using hy
    subst hy
    have hu := h.up
    rw [List.pairwise_append] at hu
    rcases List.mem_append.mp hx with z | z
    · have := hu.2.2 x z m (by simp)
      grind
    · have : x = m := by simpa using z
      subst this
      exact q2
  · rcases List.mem_append.mp hx with z | z
    · exact bm_mono v (h.bm x z) (by omega)
    · have : x = rnd r (m + stp r m) := by simpa using z
      subst this
      exact q1
theorem MsGo.ok {r : Rul} (v : VR r) {t : Nat} {ms l : List Rat} (h : MsGo r t ms) (ht : t ≤ 5) (hs : List.Sublist l ms) (hn : l ≠ []) : MsOk r l :=
  ⟨hn, by have := hs.length_le; have := h.len; omega, h.up.sublist hs, fun m hm => bm_mono v (h.bm m (hs.subset hm)) ht⟩
/-- those that differ from the one ahead -/
def keepF (ms : List Rat) (d : D) : Bool := match d with
  | .tuple [.int i, x] => decide (i = 0) || !PyData.eqv (((ms.map dFr)[(i - 1).toNat]?).getD .none) x
  | _ => false
def sndD : D → D
  | .tuple [_, x] => x
  | _ => .none
def asFr : D → Rat
  | .tuple [.int a, .int b] => Rat.divInt a b
  | _ => 0
theorem asFr_dFr (q : Rat) : asFr (dFr q) = q := Rat.num_divInt_den q
theorem enum_snd (xs : List D) : (enumD xs).map sndD = xs := by
  unfold enumD
  exact List.ext_getElem? fun i => by rw [List.getElem?_map, List.getElem?_mapIdx]; cases xs[i]? <;> rfl
/-- what is kept of a line -/
theorem kept_ok (ms : List Rat) (h : ms ≠ []) : ∃ l : List Rat, ((enumD (ms.map dFr)).filter (keepF ms)).map sndD = l.map dFr ∧ List.Sublist l ms ∧ l ≠ [] := by
  have hs : List.Sublist (((enumD (ms.map dFr)).filter (keepF ms)).map sndD) (ms.map dFr) := by
    have := (List.filter_sublist (p := keepF ms) (l := enumD (ms.map dFr))).map sndD
    rwa [enum_snd] at this
  refine ⟨(((enumD (ms.map dFr)).filter (keepF ms)).map sndD).map asFr, ?_, ?_, ?_⟩
  · rw [List.map_map]
    refine (List.map_id _).symm.trans ?_
    refine List.map_congr_left fun d hd => ?_
    obtain ⟨q, _, rfl⟩ := List.mem_map.mp (hs.subset hd)
    show dFr q = dFr (asFr (dFr q))
    rw [asFr_dFr]
  · have := hs.map asFr
    have e : List.map asFr (List.map dFr ms) = ms := by
      rw [List.map_map]
      exact (List.map_congr_left fun q _ => asFr_dFr q).trans (List.map_id _)
    rwa [e] at this
  · obtain ⟨m, r, rfl⟩ := List.exists_cons_of_ne_nil h
    have : (enumD ((m :: r).map dFr)).filter (keepF (m :: r)) ≠ [] := by
      unfold enumD
      rw [List.map_cons, List.mapIdx_cons, List.filter_cons_of_pos (by rfl)]
      simp
    intro z
    rw [List.map_eq_nil_iff, List.map_eq_nil_iff] at z
    exact this z
def PBox (ds : List D) (d : D) : Prop := ∃ (r : Rul) (n : Int) (bx : List (List Rat)), ds = [dRul r, .int n] ∧ d = dBox bx ∧ (bx.length : Int) = n ∧ ∀ ms ∈ bx, MsOk r ms
theorem mem_enum {xs : List D} {d : D} (h : d ∈ enumD xs) : ∃ (i : Nat) (x : D), xs[i]? = some x ∧ d = .tuple [.int (i : Int), x] := by
  unfold enumD at h
  obtain ⟨i, hi, e⟩ := List.mem_mapIdx.mp h
  exact ⟨i, xs[i], List.getElem?_eq_getElem hi, e.symm⟩
theorem dRul_inj {r r' : Rul} (h : dRul r = dRul r') : r = r' := by
  obtain ⟨B, F, L, w⟩ := r
  obtain ⟨B', F', L', w'⟩ := r'
  unfold dRul at h
  injection h with h
  simp only [List.cons.injEq, PyData.int.injEq, PyData.str.injEq, and_true] at h
  obtain ⟨h1, h2, h3, h4⟩ := h
  subst h1 h2 h3
  have : w = w' := by
    cases w <;> cases w' <;> first | rfl | exact absurd h4 (by decide +kernel)
  rw [this]
theorem EnvOk.pub {K : PySem.W.Frag} {F H : Hp} {ρ : DEnv} {σ : St} {i : Nat} {l : Addr} {vs : List V} {ds : List D} (e : EnvOk K F ρ σ H) (hf : F l = none) (hl : H l = some (.lst vs)) (ha : DpAll K F vs ds) (hσ : σ[i]? = some (some (.ref l))) :
    EnvOk K (upd F l (.lst vs)) (ρ.set i (some (.list ds))) σ H := by
  have hps := pub_same (o := .lst vs) hf
  have hfh : Same (upd F l (.lst vs)) H := fun a u q => by
    by_cases c : a = l
    · subst c
      rw [upd_same] at q
      rw [hl, q]
    · rw [upd_ne c] at q
      exact e.fh a u q
  refine ⟨hfh, by rw [List.length_set]; exact e.len, fun j d hj => ?_⟩
  by_cases q : i = j
  · subst q
    have hi : i < ρ.length := by
      obtain ⟨h1, _⟩ := List.getElem?_eq_some_iff.mp hj
      simpa using h1
    rw [List.getElem?_set_self hi] at hj
    cases hj
    exact ⟨_, hσ, .lst (SqL.of upd_same) (dpa_mono hps ha)⟩
  · rw [List.getElem?_set_ne q] at hj
    obtain ⟨v, h1, h2⟩ := e.at_ j d hj
    exact ⟨v, h1, dp_mono hps h2⟩
abbrev boxN : List Str := ["_law_state", "_law_ruler_here", "_law_many", "_law_found", "_law_k", "_law_mark_here", "_law_some", "_law_turn", "_law_at", "_law_one"]
structure BoxI (K : PySem.W.Frag) (r : Rul) (many : Int) (a lf : Addr) (b : Nat) (F0 H0 : Hp) (n c : Nat) (o6 : Option D) (F : Hp) (ρ : DEnv) (σ : St) (H : Hp) : Prop where
  env : EnvOk K F ρ σ H
  sh : ∃ o4 o5 o7 : Option D, ρ = [none, some (dRul r), some (.int many), none, o4, o5, o6, o7, none, none]
  st : StepM (· = a) F0 H0 F H
  g : StO K a (b + c) F H
  s0 : σ[0]? = some (some (.ref a))
  s3 : σ[3]? = some (some (.ref lf))
  fn : F lf = none
  ls : ∃ (vs : List V) (bx : List (List Rat)), H lf = some (.lst vs) ∧ DpAll K F vs (bx.map dMs) ∧ bx.length = n ∧ ∀ ms ∈ bx, MsOk r ms
section
variable {P : Program} {w : World} {K : PySem.W.Frag} {mg : Str → Option Value} {base : Heap}
theorem sc__law_box : FnScope boxN ["_law_state", "_law_ruler_here", "_law_many"] (defScope (top 88)) := ⟨rfl, rfl, rfl, by decide +kernel, rfl, by decide +kernel, by decide +kernel⟩
theorem cal__law_box (T : Frees mg) (D0 : DefAt K mg "_law_box" 88) (c_draw : Cal P w K mg base "_law_draw" 2 ["_law_state", "_law_many"] (spN K 1 P1M PDraw)) (c_mark : Cal P w K mg base "_law_mark" 3 ["_law_state", "_law_ruler_here"] (spN K 6 (fun ds => ∃ r, ds = [dRul r] ∧ VR r) (fun ds d => ∃ r m, ds = [dRul r] ∧ d = dFr m ∧ IsMk r m)))
    (c_rounded : Cal P w K mg base "_law_rounded" 3 ["_law_ruler_here", "_law_number_here"] (spP K R__law_rounded)) (c_plus : Cal P w K mg base "_law_plus" 2 ["_law_one", "_law_other"] (spP K R__law_plus)) (c_power : Cal P w K mg base "_law_power" 1 ["_law_base", "_law_exponent"] (spP K R__law_power)) (c_place : Cal P w K mg base "_law_place" 2 ["_law_ruler_here", "_law_number_here"] (spP K R__law_place)) :
    Cal P w K mg base "_law_box" 4 ["_law_state", "_law_ruler_here", "_law_many"] (spN K 21 (fun ds => ∃ (r : Rul) (n : Int), ds = [dRul r, .int n] ∧ VR r ∧ 1 ≤ n ∧ n ≤ 3) PBox) := by
  refine mk_calN D0 sc__law_box (fun ds ⟨r, n, h, _⟩ => by subst h; rfl) (fun _ _ _ _ _ _ us hl => match us, hl with | [_, _, _], _ => rfl) (fun f cdv A outer s H E hr F a b ds σ Q hds S0 e0 g0 kq => ?_)
  obtain ⟨r, n, rfl, v, n1, n3⟩ := hds
  have hu := units_of hr
  have HS := rzS_has (K := K) (s := 0) (a := a)
  have OK := rzS_ok (K := K) (s := 0) (a := a)
  refine us_setNil 3 e0 (fun lf hlf hff e1 => ?_) sc__law_box.nd
  have hna : ¬ lf = a := g0.mo hlf
  have b0 : BoxI K r n a lf b F H 0 21 none F _ (σ.set 3 (some (.ref lf))) (upd H lf (.lst [])) := ⟨e1, ⟨none, none, none, rfl⟩, (StepM.refl e0.fh).mut hff (.inl hlf), StO.ne (Ne.symm hna) g0, sS (by decide) S0, by
    rw [List.getElem?_set_self]
    rw [← e0.len]
    show 3 < 10
    decide, hff, [], [], upd_same, .nil, rfl, fun _ h => by cases h⟩
  refine us_for (ds := rngD n) (src_range rfl T.range (pd_var 2) ⟨by omega, by omega⟩) (pg_name (i := 4) sc__law_box.nd rfl (Or.inl rfl)) tg_name (fun _ _ => trivial) e1 (fun F1 H1 m F' ρ' σ' H' => Same F1 F' ∧ ∃ o6, BoxI K r n a lf b F H m (7 * (3 - m)) o6 F' ρ' σ' H') (fun F1 H1 s1 e2 => ?_) (fun F1 H1 m F' ρ' σ' H' ⟨q1, _, q2⟩ => ⟨q1, q2.env⟩) (fun F1 H1 m d F' ρ' σ' H' F2 σ2 H2 s1 hd ⟨hff1, o6, I⟩ s2 hl2 hk e2 => ?_) (fun F1 H1 F' ρ' σ' H' s1 ⟨hff1, o6, I⟩ => ?_)
  · obtain ⟨q1, q2⟩ := s1.own (a := lf) upd_same hff
    exact ⟨Same.refl _, none, e2, b0.sh, b0.st.trans s1.m, b0.g.step s1, b0.s0, b0.s3, q2, [], [], q1, .nil, rfl, fun _ h => by cases h⟩
  · have hlen : (rngD n).length = n.toNat := by unfold rngD; simp
    have hmn : m < n.toNat := by
      obtain ⟨h1, _⟩ := List.getElem?_eq_some_iff.mp hd
      omega
    obtain ⟨o4, o5, o7, rfl⟩ := I.sh
    obtain ⟨vs, bx, l1, l2, l3, l4⟩ := I.ls
    have S2 : (rzS K 0 a).S σ2 := (hk 0 (by simp)).trans I.s0
    have S3 : σ2[3]? = some (some (.ref lf)) := (hk 3 (by simp)).trans I.s3
    obtain ⟨c, hc⟩ : ∃ c, c = b + 7 * (3 - (m + 1)) := ⟨_, rfl⟩
    have g2 : StO K a ((c + 1) + (0 + 6)) F2 H2 := by
      have := I.g.step s2
      rw [show b + 7 * (3 - m) = (c + 1) + (0 + 6) by omega] at this
      exact this
    refine us_setN 5 (P1 := fun d => ∃ m, d = dFr m ∧ IsMk r m) (pn_mono OK (pn_callS HS c_mark hr (pna_pd OK (pda_cons (pd_var 1) pda_nil)) (fun ds hds => ⟨r, hds, v⟩)) (Nat.le_refl _) fun d ⟨ds, hds, r', m', h1, h2, h3⟩ => by
      rw [hds] at h1
      have h1 := dRul_inj (List.cons.inj h1).1
      subst h1
      exact ⟨m', h2, h3⟩) e2 S2 g2 (fun d5 v5 F3 H3 hd5 s3 g3 h3 e3 => ?_) sc__law_box.nd
    obtain ⟨mk, rfl, hmk⟩ := hd5
    obtain ⟨kz, ez, z1, z2, z3, z4, hz⟩ := hmk.ex
    have hbm : IsBm r 0 mk := by rw [hz]; exact bm_of v z1 z2 z3 z4
    refine us_setOne 6 (pd_var 5) e3 (fun l v6 F4 H4 s4 h4 hl4 hfl4 e4 => ?_) sc__law_box.nd
    have st4 := ((I.st.trans s2.m).trans s3).trans s4.m
    obtain ⟨st5, hl0, _⟩ := st4.born (o := .lst [v6]) hl4
    have g4 := g3.step s4
    have hla : ¬ l = a := g4.mo hl4
    have g5 := StO.ne (l := l) (o := .lst [v6]) (Ne.symm hla) g4
    obtain ⟨p1, p2⟩ := s2.own l1 I.fn
    obtain ⟨p3, p4⟩ := s3.own hna p1 p2
    obtain ⟨p5, p6⟩ := s4.own p3 p4
    have hll : lf ≠ l := ne_of_none p5 hl4
    have ff4 : Same F' F4 := (s2.ff.trans s3.ff).trans s4.ff
    have b4 : BoxI K r n a lf b F H m (7 * (3 - (m + 1)) + 1) none F4 _ ((σ2.set 5 (some v5)).set 6 (some (.ref l))) (upd H4 l (.lst [v6])) :=
      ⟨e4, ⟨some d, some (dFr mk), o7, rfl⟩, st5, by rw [← Nat.add_assoc, ← hc]; exact g5, sS (by decide) (sS (by decide) S2), by
        rw [List.getElem?_set_ne (by decide), List.getElem?_set_ne (by decide)]
        exact S3, p6, vs, bx, by rw [upd_ne hll]; exact p5, dpa_mono ff4 l2, l3, l4⟩
    have hlen2 : ((σ2.set 5 (some v5)).set 6 (some (.ref l)))[6]? = some (some (.ref l)) := by
      have hle : (σ2.set 5 (some v5)).length = 10 := by
        rw [← e3.len]
        rfl
      rw [List.getElem?_set_self (by rw [hle]; decide)]
    refine us_forRN 7 (c := 0 + 0 + 1) (b := b + 7 * (3 - (m + 1))) (q := fun i => i < 6) (pn_draw (m := 6) HS c_draw (hr.mono (by decide)) OK (pn_ixL (PL := (· = [.int 6, .int 5, .int 4])) (q := (· = n - 1)) (pn_pd OK (pd_lst (pda_cons pd_int (pda_cons pd_int (pda_cons pd_int pda_nil)))) ⟨_, rfl, rfl⟩) (pn_pd OK (pd_sub (pd_var 2) pd_int) ⟨n - 1, rfl, rfl⟩) fun ds i hds hi => by
        subst hds hi
        refine ix_all (fun d hd => ?_) (by omega) (by show n - 1 < 3; omega)
        simp only [List.mem_cons, List.not_mem_nil, or_false] at hd
        rcases hd with rfl | rfl | rfl <;> exact ⟨_, rfl, by decide, by decide, by decide⟩) fun i h1 h2 => ⟨i, rfl, h1, by omega, h2⟩) e4 b4.s0 b4.g (fun F5 H5 t i F' ρ' σ' H' => Same F4 F' ∧ BoxI K r n a lf b F H m (7 * (3 - (m + 1))) none F' ρ' σ' H' ∧ (i : Int) ≤ t ∧ σ'[6]? = some (some (.ref l)) ∧ F' l = none ∧ ∃ (vs : List V) (ms : List Rat), H' l = some (.lst vs) ∧ DpAll K F' vs (ms.map dFr) ∧ MsGo r i ms)
      (fun t F5 H5 t0 tq s5 g5 e5 => ?_) (fun t F5 H5 i F' ρ' σ' H' tq s5 hi ⟨ffI, I2, hit, hs6, hfl, vs2, ms, k1, k2, k3⟩ => ?_) (fun t F5 H5 F' ρ' σ' H' tq s5 ⟨ffI, I2, hit, hs6, hfl, vs2, ms, k1, k2, k3⟩ => ?_) T.range sc__law_box.nd
    · obtain ⟨r1, r2⟩ := s5.own hla (upd_same) hfl4
      obtain ⟨r3, r4⟩ := s5.own hna (show upd H4 l (.lst [v6]) lf = _ by rw [upd_ne hll]; exact p5) p6
      exact ⟨s5.ff, ⟨e5, b4.sh, b4.st.trans s5, g5, b4.s0, b4.s3, r4, vs, bx, r3, dpa_mono (ff4.trans s5.ff) l2, l3, l4⟩, t0, hlen2, r2, [v6], [mk], r1, .cons (dp_mono s5.ff h4) .nil, ⟨rfl, by simp, fun x hx => by
        have : x = mk := by simpa using hx
        subst this
        exact hbm⟩⟩
    · obtain ⟨m', hlast, hbm', hgo⟩ := k3.next v
      obtain ⟨mB, _⟩ := bm_Bt v hbm' (by omega)
      have sB : Bt 38 (stp r m') := stp_Bt v mB (by decide)
      have l4' := v.l4
      have l1' := v.l1
      have f1' := v.f1
      have hpl := plc_le v mB
      have hpg := plc_ge v m'
      obtain ⟨q4, q5, q7, rfl⟩ := I2.sh
      obtain ⟨vsf, bx2, n1', n2', n3', n4'⟩ := I2.ls
      have hat : atI (ms.map dFr) (-1) = some (dFr m') := by
        obtain ⟨l0, x, rfl⟩ : ∃ l a, ms = l ++ [a] := ⟨ms.dropLast, _, (List.dropLast_concat_getLast (fun z => by rw [z] at hlast; cases hlast)).symm⟩
        have : x = m' := by simpa using hlast
        subst this
        rw [List.map_append, List.map_singleton, atI_last]
      have LOK := rzL_ok (K := K) (j := 6) (l := l) (ds := ms.map dFr)
      have e7 : EnvOk K F' [none, some (dRul r), some (.int n), none, q4, q5, none, some (.int (i : Int)), none, none] (σ'.set 7 (some (.int (i : Int)))) H' := I2.env.set 7 (.int (i : Int))
      refine us_appN (Z := rzL K 6 l (ms.map dFr)) (b := 0) (P := (· = dFr (rnd r (m' + stp r m')))) 6 (pn_callP LOK c_rounded hr (pna_cons (P := (· = dRul r)) (pn_pd LOK (pd_var 1) rfl) (pna_cons (P := (· = dFr (m' + stp r m'))) (pn_callP LOK c_plus (hr.mono (by decide)) (pna_cons (pn_own (pd_neg pd_int) hat) (pna_cons (P := (· = dFr (stp r m'))) (pn_callP LOK c_power (hr.mono (by decide)) (pna_cons (P := (· = .int r.B)) (pn_pd LOK (pd_ixT (pd_var 1) pd_int) rfl) (pna_cons (P := (· = .int (plc r m'))) (pn_callP LOK c_place (hr.mono (by decide)) (pna_cons (P := (· = dRul r)) (pn_pd LOK (pd_var 1) rfl) (pna_cons (pn_own (pd_neg pd_int) hat) (pna_nil LOK))) fun ds hds => ?_) (pna_nil LOK))) fun ds hds => ?_) (pna_nil LOK))) fun ds hds => ?_) (pna_nil LOK))) fun ds hds => ?_) e7
        (by show (σ'.set 7 _)[6]? = _; rw [List.getElem?_set_ne (by decide)]; exact hs6) ⟨hfl, vs2, k1, k2⟩ (fun z => z) (by rw [List.getElem?_set_ne (by decide)]; exact hs6) k1 hfl (by
          rw [dpa_len k2, List.length_map, k3.len]
          exact Nat.lt_of_lt_of_le (show i + 1 < 100 by omega) (by decide)) (fun d8 v8 F8 H8 e8 s8 _ h8 f8 g8 e9 => ?_)
      · obtain ⟨_, _, rfl, rfl, _, _, rfl, rfl, rfl⟩ := hds
        exact ⟨_, ⟨r, m', rfl, ⟨v, mB.mono (by decide)⟩, rfl⟩, rfl⟩
      · obtain ⟨_, _, rfl, rfl, _, _, rfl, rfl, rfl⟩ := hds
        exact ⟨_, ⟨r.B, plc r m', rfl, ⟨v.b2, v.b16, by omega, by omega⟩, rfl⟩, rfl⟩
      · obtain ⟨_, _, rfl, rfl, _, _, rfl, rfl, rfl⟩ := hds
        exact ⟨_, ⟨m', stp r m', rfl, ⟨mB.mono (by decide), sB.mono (by decide)⟩, rfl⟩, rfl⟩
      · obtain ⟨_, _, rfl, rfl, _, _, rfl, rfl, rfl⟩ := hds
        exact ⟨_, ⟨r, m' + stp r m', rfl, ⟨v, (mB.add sB).mono (by decide)⟩, rfl⟩, rfl⟩
      · subst e8
        have s8' := StepM.pure s8
        obtain ⟨u1, u2⟩ := s8'.own n1' I2.fn
        have st9 : StepM (· = a) F H F8 (upd H8 l (.lst (vs2 ++ [v8]))) := (I2.st.trans s8'.m).mut f8 (.inl hl0)
        refine us_nil ⟨F8, _, ffI.trans s8'.ff, ⟨e9, ⟨q4, q5, some (.int (i : Int)), rfl⟩, st9, StO.ne (Ne.symm hla) (I2.g.step s8'), ?_, ?_, u2, vsf, bx2, ?_, dpa_mono s8'.ff n2', n3', n4'⟩, by omega, ?_, f8, vs2 ++ [v8], ms ++ [rnd r (m' + stp r m')], upd_same, ?_, hgo⟩
        · rw [List.getElem?_set_ne (by decide)]
          exact I2.s0
        · rw [List.getElem?_set_ne (by decide)]
          exact I2.s3
        · rw [upd_ne hll]
          exact u1
        · rw [List.getElem?_set_ne (by decide)]
          exact hs6
        · rw [List.map_append]
          exact dpa_app (dpa_mono s8'.ff k2) (.cons h8 .nil)
    · obtain ⟨q4, q5, q7, rfl⟩ := I2.sh
      obtain ⟨vsf, bx2, n1', n2', n3', n4'⟩ := I2.ls
      have hne : ms ≠ [] := fun z => by
        have := k3.len
        rw [z] at this
        simp at this
      obtain ⟨lk, hlk, hsub, hlne⟩ := kept_ok ms hne
      have e8 := I2.env.pub hfl k1 k2 hs6
      have st8 := I2.st.pub hfl hl0 k1
      have g8 := StO.pb (l := l) (o := .lst vs2) g0 hl0 I2.g hfl
      have fn8 : (upd F' l (.lst vs2)) lf = none := by rw [upd_ne hll]; exact I2.fn
      refine us_app 3 (d := dMs lk) (pd_is (pd_lc1 [("_law_at", 8), ("_law_one", 9)] sndD (keepF ms) (src_enum rfl T.enumerate (pd_var 6)) tg_pair (fun d hd => ?_) (fun j hj d => ?_) sc__law_box.nd (blkOk_by (N := boxN) (sc := defScope (top 88)) (by decide +kernel)) (fun _ _ _ _ _ => pg_tup (n := 2) rfl (pgs_cons (pg_name (i := 8) sc__law_box.nd rfl (Or.inl rfl)) (pgs_cons (pg_name (i := 9) sc__law_box.nd rfl (Or.inl rfl)) pgs_nil)))
        (fun d hd _ _ _ _ _ => ?_) (fun d hd _ _ _ _ _ _ => ?_) ?_) (by rw [hlk])) e8 I2.s3 n1' fn8 ?_ (fun v9 F9 H9 s9 h9 f9 g9 e9 => ?_)
      · obtain ⟨i, x, _, rfl⟩ := mem_enum hd
        exact ⟨_, _, rfl⟩
      · have hj : j = 8 ∨ j = 9 := by simpa using hj
        rcases hj with rfl | rfl <;> (intro h; cases h)
      · obtain ⟨i, x, hx, rfl⟩ := mem_enum hd
        obtain ⟨q, hq, rfl⟩ : ∃ q, ms[i]? = some q ∧ x = dFr q := by
          rw [List.getElem?_map] at hx
          cases e : ms[i]? with
          | none =>
            rw [e] at hx
            cases hx
          | some q =>
            rw [e] at hx
            exact ⟨q, rfl, (Option.some.inj hx).symm⟩
        have hil : i < ms.length := (List.getElem?_eq_some_iff.mp hq).1
        refine pdw (pdw_or (b2 := !PyData.eqv (((ms.map dFr)[((i : Int) - 1).toNat]?).getD .none) (dFr q)) (pdt_cmp (qc_eqI (pd_var 8) pd_int)) fun hb => ?_)
        have hb := of_decide_eq_false hb
        obtain ⟨k, rfl⟩ : ∃ k, i = k + 1 := ⟨i - 1, by omega⟩
        have hk2 : (ms.map dFr)[k]? = some (dFr (ms[k]'(by omega))) := by
          rw [List.getElem?_map, List.getElem?_eq_getElem (by omega)]
          rfl
        have ek : (((k + 1 : Nat) : Int) - 1) = (k : Int) := by omega
        rw [ek, Int.toNat_natCast, hk2]
        exact pdw_or1 (pdt_cmp (qc_neD hu (pd_ixL (i := ((k + 1 : Nat) : Int) - 1) (pd_var 6) (pd_sub (pd_var 8) pd_int) (by rw [ek]; exact atI_nat hk2)) (pd_var 9) rfl rfl))
      · obtain ⟨i, x, _, rfl⟩ := mem_enum hd
        exact pd_var 9
      · have : (enumD (ms.map dFr)).length ≤ 6 := by
          unfold enumD
          rw [List.length_mapIdx, List.length_map, k3.len]
          omega
        exact Nat.lt_of_le_of_lt this (by decide)
      · rw [dpa_len n2', List.length_map, n3']
        exact Nat.lt_of_lt_of_le (show m < 100 by omega) (by decide)
      · have s9' : StepM (· = a) _ _ F9 (upd H9 lf (.lst (vsf ++ [v9]))) := (st8.trans s9.m).mut f9 (.inl hlf)
        refine us_nil ⟨F9, _, (((hff1.trans ff4).trans ffI).trans (pub_same hfl)).trans s9.ff, _, ⟨e9, ⟨q4, q5, q7, rfl⟩, s9', StO.ne (Ne.symm hna) (g8.step s9), I2.s0, I2.s3, f9, vsf ++ [v9], bx2 ++ [lk], upd_same, ?_, by rw [List.length_append, n3']; rfl, ?_⟩⟩
        · rw [List.map_append]
          exact dpa_app (dpa_mono ((pub_same hfl).trans s9.ff) n2') (.cons h9 .nil)
        · intro x hx
          rcases List.mem_append.mp hx with z | z
          · exact n4' x z
          · have : x = lk := by simpa using z
            subst this
            exact k3.ok v (by omega) hsub hlne
  · obtain ⟨o4, o5, o7, rfl⟩ := I.sh
    obtain ⟨vs, bx, l1, l2, l3, l4⟩ := I.ls
    have e3 := I.env.pub I.fn l1 l2 I.s3
    refine us_ret (pd_var 3) e3 (fun v F4 H4 s4 h4 => ?_)
    have hlen : (rngD n).length = n.toNat := by unfold rngD; simp
    refine kq _ v F4 H4 ⟨r, n, bx, rfl, rfl, by rw [l3, hlen]; omega, l4⟩ ((I.st.pub I.fn hlf l1).trans s4.m) ((StO.pb g0 hlf (I.g.lo (by omega)) I.fn).step s4) h4
end
end Rs
end

section
set_option Elab.async false
set_option linter.all false
set_option maxRecDepth 100000
set_option maxHeartbeats 8000000
namespace Rs
open PySem PySem.Spec L2
/-! ### the state and a list of one's own -/
def rzSL (K : PySem.W.Frag) (s : Nat) (a : Addr) (j : Nat) (l : Addr) (ds : List D) : Rz := ⟨fun σ => σ[s]? = some (some (.ref a)) ∧ σ[j]? = some (some (.ref l)), (· = a), fun b F H => StO K a b F H ∧ ¬ l = a ∧ F l = none ∧ ∃ vs, H l = some (.lst vs) ∧ DpAll K F vs ds⟩
theorem rzSL_ok {K : PySem.W.Frag} {s j : Nat} {a l : Addr} {ds : List D} : (rzSL K s a j l ds).Ok where
  st := fun ⟨g, hne, h1, vs, h2, h3⟩ s => let ⟨q1, q2⟩ := s.own h2 h1; ⟨g.step s, hne, q2, vs, q1, dpa_mono s.ff h3⟩
  lo := fun h ⟨g, r⟩ => ⟨g.lo h, r⟩
  up := fun ⟨g1, _, _, _, k, _⟩ hD ⟨g, hne, h1, vs, h2, h3⟩ => ⟨StO.up g1 hD g, hne, h1, vs, by rw [upd_ne (ne_of_none k hD)]; exact h2, h3⟩
  mo := fun ⟨g, _⟩ hx => StO.mo g hx
  pb := fun ⟨g1, _, _, _, k, _⟩ hD ⟨g, hne, h1, vs, h2, h3⟩ hf _ => ⟨StO.pb g1 hD g hf, hne, by rw [upd_ne (ne_of_none k hD)]; exact h1, vs, h2, dpa_mono (pub_same hf) h3⟩
theorem rzSL_has {K : PySem.W.Frag} {s j : Nat} {a l : Addr} {ds : List D} : HasSt K (rzSL K s a j l ds) s a where
  slot := fun h => h.1
  m := rfl
  get := fun h => h.1
  put := fun ⟨_, hne, h1, vs, h2, h3⟩ st g => let ⟨q1, q2⟩ := st.own hne h2 h1; ⟨g, hne, q2, vs, q1, dpa_mono st.ff h3⟩
theorem pn_ownS {X : Cx} {e : Expr} {ρ : DEnv} {s j : Nat} {a l : Addr} {ds : List D} {i : Int} {d : D} {x : Str} {pos p1 : Pos} (hi : PD X e ρ (.int i)) (hd : atI ds i = some d) (hN : X.N[j]? = some x := by rfl) (hv : Vis X.env.scope x := by first | exact Or.inl rfl | exact Or.inr (Or.inl rfl) | exact Or.inr (Or.inr rfl))
    (hdb : (x == ("__debug__" : Str)) = false := by decide) (hcd : (x == ("__classdict__" : Str)) = false := by decide) (hs : PlainIx e := by exact fun _ _ => rfl) : PN X (rzSL X.K s a j l ds) (.Subscript (.Name x p1) e pos) ρ 0 (· = d) :=
  pn_of (pe_ix ix_list (pe_var hN hv hdb hcd) pe_u hs) fun b F σ H Q he hz hg k => ⟨_, hz.2, hi F σ H _ he fun y F1 H1 s1 h1 => by
    obtain ⟨g0, hne, g1, vs, g2, g3⟩ := rzSL_ok.st hg s1
    obtain ⟨v, q1, q2⟩ := dpa_atI g3 hd
    exact ⟨l, vs, i, v, rfl, dp_int h1, SqL.of g2, q1, k d v F1 H1 rfl s1.m ⟨g0, hne, g1, vs, g2, g3⟩ q2⟩⟩
section
variable {X : Cx} {Z : Rz} {e : Expr} {ρ : DEnv} {n : Nat} {P : D → Prop} {F H : Hp} {σ : St} {rest : List Stmt} {Dn : Ends} {pos p1 p2 pos' : Pos} {l : Addr} {vs : List V}
/-- x[0] = e, x a list of one's own -/
theorem us_lset0 (i : Nat) {x : Str} {b k0 : Nat} {v0 : V} (he : PN X Z e ρ n P) (hE : EnvOk X.K F ρ σ H) (hS : Z.S σ) (hG : Z.G (b + n) F H) (hm : ¬ Z.M l) (hσ : σ[i]? = some (some (.ref l))) (hl : H l = some (.lst (v0 :: vs))) (hf : F l = none)
    (k : ∀ d v F' H', P d → StepM Z.M F H F' H' → Z.G b F' H' → Dp X.K F' v d → F' l = none → H' l = some (.lst (v0 :: vs)) → EnvOk X.K F' ρ σ (upd H' l (.lst (v :: vs))) → US X rest Dn σ (upd H' l (.lst (v :: vs))))
    (hN : X.N[i]? = some x := by rfl) (hv : Vis X.env.scope x := by first | exact Or.inl rfl | exact Or.inr (Or.inl rfl) | exact Or.inr (Or.inr rfl)) (hd : (x == ("__debug__" : Str)) = false := by decide) (hcd : (x == ("__classdict__" : Str)) = false := by decide)
    (hs : swapsWithSole [.Subscript (.Name x p1) (.Constant (.int 0) k0 p2) pos'] e pos.line X.env = pure false := by rfl) (hw : swappedStores [.Subscript (.Name x p1) (.Constant (.int 0) k0 p2) pos'] e X.env = pure none := by rfl)
    (h1 : (assignEach [.Subscript (.Name x p1) (.Constant (.int 0) k0 p2) pos'] X.env).map (·.2) = [assign (.Subscript (.Name x p1) (.Constant (.int 0) k0 p2) pos') X.env] := by rfl)
    (ha : ∀ v, assign (.Subscript (.Name x p1) (.Constant (.int 0) k0 p2) pos') X.env v = (do
      let ov ← holding [v] (eval (.Name x p1) X.env)
      let iv ← holding [v, ov] (eval (.Constant (.int 0) k0 p2) X.env)
      standAt pos'
      holding [v, ov, iv] (setItem ov iv v)
      release [v, ov, iv] []) := by intro _; rfl) : US X (.Assign [.Subscript (.Name x p1) (.Constant (.int 0) k0 p2) pos'] e pos :: rest) Dn σ H :=
  ⟨_, pss_cons (ps_asg pe_u (pg_sub (pe_var hN hv hd hcd) pe_int set_list ha) hs hw h1) pss_u, he b F σ H _ hE hS hG fun d v F' H' hp s1 g1 hd => by
    obtain ⟨q1, q2⟩ := s1.own hm hl hf
    exact ⟨_, hσ, l, v0 :: vs, 0, 0, rfl, rfl, q1, by
      show ixN (vs.length + 1) 0 = some 0
      unfold ixN
      simp, k d v F' H' hp s1 g1 hd q2 q1 ((hE.stepM s1).hp (Same.mut s1.fh q2))⟩⟩
end
theorem cut_take (xs : List D) (n : Nat) : cutD xs none (some (n : Int)) = xs.take n := by
  unfold cutD
  rw [HT.sIx_none, HT.sIx_nat, List.drop_zero, Nat.sub_zero]
  by_cases h : n ≤ xs.length
  · rw [Nat.min_eq_left h]
  · rw [Nat.min_eq_right (by omega), List.take_length, List.take_of_length_le (by omega)]
/-! ### works -/
structure WkOk (ahead : List Str) (w : Wk Str) : Prop where
  ns : ∀ n ∈ wkNs w, n ∈ ahead
  num : ∀ q, w = .number q → NumOk q
structure WksOk (ns : List Str) (ins : Int) (ws : List (Wk Str)) : Prop where
  ok : ∀ k w, ws[k]? = some w → WkOk (ns.take (ins.toNat + k)) w
def PWorks (ds : List D) (d : D) : Prop := ∃ (ns : List Str) (ins many : Int) (ws : List (Wk Str)), ds = [.list (ns.map .str), .int ins, .int many] ∧ d = .list (ws.map dWk) ∧ (ws.length : Int) = many ∧ WksOk ns ins ws
abbrev wksN : List Str := ["_law_state", "_law_names_here", "_law_ins", "_law_many", "_law_found", "_law_k", "_law_ahead", "_law_some", "_law_turn", "_law_words", "_law_word"]
structure WksI (K : PySem.W.Frag) (ns : List Str) (ins many : Int) (a lf : Addr) (b : Nat) (F0 H0 : Hp) (n c : Nat) (F : Hp) (ρ : DEnv) (σ : St) (H : Hp) : Prop where
  env : EnvOk K F ρ σ H
  sh : ∃ o5 o6 o7 o9 o10 : Option D, ρ = [none, some (.list (ns.map .str)), some (.int ins), some (.int many), none, o5, o6, o7, none, o9, o10]
  st : StepM (· = a) F0 H0 F H
  g : StO K a (b + c) F H
  s0 : σ[0]? = some (some (.ref a))
  s4 : σ[4]? = some (some (.ref lf))
  fn : F lf = none
  ls : ∃ (vs : List V) (ws : List (Wk Str)), H lf = some (.lst vs) ∧ DpAll K F vs (ws.map dWk) ∧ ws.length = n ∧ WksOk ns ins ws
theorem WksOk.snoc {ns : List Str} {ins : Int} {ws : List (Wk Str)} {w : Wk Str} (h : WksOk ns ins ws) (k : WkOk (ns.take (ins.toNat + ws.length)) w) : WksOk ns ins (ws ++ [w]) := ⟨fun i x hx => by
  rcases Nat.lt_trichotomy i ws.length with c | c | c
  · rw [List.getElem?_append_left c] at hx
    exact h.ok i x hx
  · subst c
    have : x = w := by simpa using hx.symm
    subst this
    exact k
  · rw [List.getElem?_eq_none (by simp; omega)] at hx
    cases hx⟩
theorem all2_names {ahead : List Str} {xs rs : List D} (h : All2 (fun _ r => ∃ n ∈ ahead, r = .str n) xs rs) : ∃ l : List Str, rs = l.map .str ∧ l.length = xs.length ∧ ∀ n ∈ l, n ∈ ahead := by
  induction h with
  | nil => exact ⟨[], rfl, rfl, fun _ h => by cases h⟩
  | cons h _ ih =>
    obtain ⟨n, hn, rfl⟩ := h
    obtain ⟨l, rfl, e, hl⟩ := ih
    exact ⟨n :: l, rfl, by simp [e], fun x hx => by
      rcases List.mem_cons.mp hx with z | z
      · subst z
        exact hn
      · exact hl x z⟩
def wordsW : List Str := ["plus", "less", "times", "over", "over", "turned", "size", "least", "most", "pick", "pick", "number"]
section
variable {P : Program} {w : World} {K : PySem.W.Frag} {mg : Str → Option Value} {base : Heap}
theorem sc__law_works : FnScope wksN ["_law_state", "_law_names_here", "_law_ins", "_law_many"] (defScope (top 89)) := ⟨rfl, rfl, rfl, by decide +kernel, rfl, by decide +kernel, by decide +kernel⟩
theorem cal__law_works (T : Frees mg) (D0 : DefAt K mg "_law_works" 89) (c_draw : Cal P w K mg base "_law_draw" 2 ["_law_state", "_law_many"] (spN K 1 P1M PDraw)) (c_number : Cal P w K mg base "_law_number" 3 ["_law_state"] (spN K 6 (fun ds => ds = []) (fun _ d => ∃ q, d = dFr q ∧ NumOk q))) :
    Cal P w K mg base "_law_works" 4 ["_law_state", "_law_names_here", "_law_ins", "_law_many"] (spN K 48 (fun ds => ∃ (ns : List Str) (ins many : Int), ds = [.list (ns.map .str), .int ins, .int many] ∧ (ns.length : Int) = ins + many ∧ 1 ≤ ins ∧ ins ≤ 3 ∧ 1 ≤ many ∧ many ≤ 4) PWorks) := by
  refine mk_calN D0 sc__law_works (fun ds ⟨_, _, _, h, _⟩ => by subst h; rfl) (fun _ _ _ _ _ _ us hl => match us, hl with | [_, _, _, _], _ => rfl) (fun f cdv A outer s H E hr F a b ds σ Q hds S0 e0 g0 kq => ?_)
  obtain ⟨ns, ins, many, rfl, hlen, i1, i3, m1, m4⟩ := hds
  have hu := units_of hr
  have HS := rzS_has (K := K) (s := 0) (a := a)
  have OK := rzS_ok (K := K) (s := 0) (a := a)
  refine us_setNil 4 e0 (fun lf hlf hff e1 => ?_) sc__law_works.nd
  have hna : ¬ lf = a := g0.mo hlf
  have hlN : σ.length = 11 := by
    rw [← e0.len]
    rfl
  have b0 : WksI K ns ins many a lf b F H 0 48 F _ (σ.set 4 (some (.ref lf))) (upd H lf (.lst [])) := ⟨e1, ⟨none, none, none, none, none, rfl⟩, (StepM.refl e0.fh).mut hff (.inl hlf), StO.ne (Ne.symm hna) g0, sS (by decide) S0, by
    rw [List.getElem?_set_self (by rw [hlN]; decide)], hff, [], [], upd_same, .nil, rfl, ⟨fun _ _ h => by cases h⟩⟩
  refine us_for (ds := rngD many) (src_range rfl T.range (pd_var 3) ⟨by omega, by omega⟩) (pg_name (i := 5) sc__law_works.nd rfl (Or.inl rfl)) tg_name (fun _ _ => trivial) e1 (fun F1 H1 m F' ρ' σ' H' => Same F1 F' ∧ WksI K ns ins many a lf b F H m (12 * (4 - m)) F' ρ' σ' H') (fun F1 H1 s1 e2 => ?_) (fun F1 H1 m F' ρ' σ' H' ⟨q1, q2⟩ => ⟨q1, q2.env⟩) (fun F1 H1 m d F' ρ' σ' H' F2 σ2 H2 s1 hd ⟨hff1, I⟩ s2 hl2 hk e2 => ?_) (fun F1 H1 F' ρ' σ' H' s1 ⟨hff1, I⟩ => ?_)
  · obtain ⟨q1, q2⟩ := s1.own (a := lf) upd_same hff
    exact ⟨Same.refl _, e2, b0.sh, b0.st.trans s1.m, b0.g.step s1, b0.s0, b0.s4, q2, [], [], q1, .nil, rfl, ⟨fun _ _ h => by cases h⟩⟩
  · have hlen : (rngD many).length = many.toNat := by unfold rngD; simp
    have hmn : m < many.toNat := by
      obtain ⟨h1, _⟩ := List.getElem?_eq_some_iff.mp hd
      omega
    obtain ⟨o5, o6, o7, o9, o10, rfl⟩ := I.sh
    obtain ⟨vs, ws, l1, l2, l3, l4⟩ := I.ls
    have hdm : d = .int (m : Int) := by
      unfold rngD at hd
      rw [List.getElem?_map, List.getElem?_range (by omega)] at hd
      exact (Option.some.inj hd).symm
    subst hdm
    have S2 : (rzS K 0 a).S σ2 := (hk 0 (by simp)).trans I.s0
    have S4 : σ2[4]? = some (some (.ref lf)) := (hk 4 (by simp)).trans I.s4
    have hl11 : σ2.length = 11 := by
      rw [← e2.len]
      rfl
    obtain ⟨na, hna2⟩ : ∃ na, na = ns.take (ins.toNat + m) := ⟨_, rfl⟩
    have hnl : na.length = ins.toNat + m := by rw [hna2, List.length_take]; omega
    -- ahead
    refine us_set 6 (d := .list (na.map .str)) (pd_is (pd_slL (pd_var 1) pdo_none (pdo_some (pd_add (pd_var 2) (pd_var 5)))) (by
      rw [show ins + (m : Int) = ((ins.toNat + m : Nat) : Int) by omega, cut_take, ← List.map_take, hna2])) e2 (fun v6 F3 H3 s3 _ e3 => ?_) sc__law_works.nd
    have S3 := sS (j := 6) (v := some v6) (by decide) S2
    obtain ⟨c, hc⟩ : ∃ c, c = b + 12 * (4 - (m + 1)) := ⟨_, rfl⟩
    have g3 : StO K a ((c + 8) + 1 * (rngD 4).length) F3 H3 := by
      have := (I.g.step s2).step s3
      rw [show b + 12 * (4 - m) = (c + 8) + 1 * (rngD 4).length by show _ = (c + 8) + 1 * 4; omega] at this
      exact this
    refine us_setLcN [("_law_turn", 8)] 7 (P := fun _ r => ∃ n ∈ na, r = .str n) (c := 1) (flt := fun _ => true) OK (src_range rfl T.range pd_int ⟨by decide, by decide⟩) tg_name (fun _ _ => trivial) (fun σ σ' h hk => (hk 0 (by simp)).trans h) (fun j hj d => ?_) sc__law_works.nd (blkOk_by (N := wksN) (sc := defScope (top 89)) (by decide +kernel)) (fun _ _ _ _ _ => pg_name (i := 8) sc__law_works.nd rfl (Or.inl rfl)) (fun _ _ _ _ _ => pts_nil) pe_ub (fun _ _ => ev_yes)
      (fun d hd _ => ev_ubN fun _ _ _ _ _ => ?_) e3 S3 g3 (by decide) (fun rs l vs7 F4 H4 ha s4 g4 hd4 hl4 hf4 h04 e4 => ?_) rfl rfl (sw_true rfl rfl rfl (by decide +kernel))
    · obtain rfl : j = 8 := by simpa using hj
      intro h
      cases h
    · refine pn_ixL (PL := (· = na.map .str)) (q := fun i => 0 ≤ i ∧ i < na.length) (pn_pd OK (pd_var 6) ⟨_, rfl, rfl⟩) (pn_draw (m := (na.length : Int)) HS c_draw (hr.mono (by decide)) OK (pn_pd OK (pd_lenL T.len (pd_var 6)) ⟨(na.length : Int), by rw [List.length_map], by omega, by omega, Int.le_refl _⟩) fun i h1 h2 => ⟨i, rfl, h1, h2⟩) fun ds i hds hi => ?_
      subst hds
      refine ix_all (fun d hd => ?_) hi.1 (by rw [List.length_map]; exact hi.2)
      obtain ⟨x, hx, rfl⟩ := List.mem_map.mp hd
      exact ⟨x, hx, rfl⟩
    obtain ⟨nl, rfl, nlen, nmem⟩ := all2_names ha
    rw [filt_yes] at nlen
    have nlen : nl.length = 4 := nlen
    obtain ⟨x0, x1, x2, x3, rfl⟩ : ∃ a b c d, nl = [a, b, c, d] := by
      match nl, nlen with
      | [a, b, c, d], _ => exact ⟨a, b, c, d, rfl⟩
    have hla : ¬ l = a := by
      have := g3.mo h04
      exact this
    have st4 := (((I.st.trans s2.m).trans s3.m).trans s4)
    have hl0 : H l = none := by
      cases q : H l with
      | none => rfl
      | some o => exact absurd h04 (((I.st.trans s2.m).trans s3.m).al l (by rw [q]; simp))
    obtain ⟨p1, p2⟩ := s2.own l1 I.fn
    obtain ⟨p3, p4⟩ := s3.own p1 p2
    obtain ⟨p5, p6⟩ := s4.own hna p3 p4
    have hll : lf ≠ l := ne_of_none p3 h04
    obtain ⟨v0, vr, rfl⟩ : ∃ v0 vr, vs7 = v0 :: vr := by
      cases vs7 with
      | nil => cases hd4
      | cons a b => exact ⟨a, b, rfl⟩
    have hs7 : ((σ2.set 6 (some v6)).set 7 (some (.ref l)))[7]? = some (some (.ref l)) := by
      rw [List.getElem?_set_self (by rw [List.length_set, hl11]; decide)]
    have hs4 : ((σ2.set 6 (some v6)).set 7 (some (.ref l)))[4]? = some (some (.ref lf)) := by
      rw [List.getElem?_set_ne (by decide), List.getElem?_set_ne (by decide)]
      exact S4
    have hs0 : (rzS K 0 a).S ((σ2.set 6 (some v6)).set 7 (some (.ref l))) := sS (by decide) S3
    have hlast : atI (na.map PyData.str) (-1) = some (.str (na.getLastD "")) := by
      obtain ⟨l0, x, rfl⟩ : ∃ l x, na = l ++ [x] := ⟨na.dropLast, _, (List.dropLast_concat_getLast (fun z => by rw [z] at hnl; simp at hnl; omega)).symm⟩
      rw [List.map_append, List.map_singleton, atI_last]
      simp
    have hlmem : na.getLastD "" ∈ na := by
      obtain ⟨l0, x, rfl⟩ : ∃ l x, na = l ++ [x] := ⟨na.dropLast, _, (List.dropLast_concat_getLast (fun z => by rw [z] at hnl; simp at hnl; omega)).symm⟩
      simp
    have HSL := rzSL_has (K := K) (s := 0) (j := 7) (a := a) (l := l) (ds := [.str x0, .str x1, .str x2, .str x3])
    have OKL := rzSL_ok (K := K) (s := 0) (j := 7) (a := a) (l := l) (ds := [.str x0, .str x1, .str x2, .str x3])
    refine us_lset0 (Z := rzSL K 0 a 7 l [.str x0, .str x1, .str x2, .str x3]) (b := c + 7) (P := fun d => ∃ n ∈ na, d = .str n) 7 (pn_if (pnt_cmpI (pn_draw (m := 2) (P := IsDraw 2) HSL c_draw (hr.mono (by decide)) OKL (pn_int OKL ⟨by decide, by decide, by decide⟩) fun i h1 h2 => ⟨i, rfl, h1, h2⟩) (pn_int OKL (q := fun _ => True) trivial)) (pn_pd OKL (pd_ixL (pd_var 6) (pd_neg pd_int) hlast) ⟨_, hlmem, rfl⟩)
      (pn_mono OKL (pn_ownS pd_int rfl) (Nat.le_refl _) fun d hd => ⟨x0, nmem x0 (by simp), hd⟩)) e4 ⟨hs0, hs7⟩ ⟨g4, hla, hf4, _, hl4, hd4⟩ hla hs7 hl4 hf4 (fun d7 v7 F5 H5 hd7 s5 g5 h5 f5 q5 e5 => ?_)
    obtain ⟨y0, hy0, rfl⟩ := hd7
    obtain ⟨g5, _⟩ := g5
    have st5 := (st4.trans s5).mut (o := .lst (v7 :: vr)) f5 (.inl hl0)
    have k1 : DpAll K F5 (v7 :: vr) ([y0, x1, x2, x3].map .str) := by
      cases hd4 with
      | cons _ hr4 => exact .cons h5 (dpa_mono s5.ff hr4)
    have e6 := e5.pub f5 upd_same k1 hs7
    have st6 := st5.pub f5 hl0 upd_same
    have g6 := StO.pb (l := l) (o := .lst (v7 :: vr)) g0 hl0 (StO.ne (o := .lst (v7 :: vr)) (Ne.symm hla) g5) f5
    obtain ⟨p7, p8⟩ := s5.own hna p5 p6
    have fn6 : (upd F5 l (.lst (v7 :: vr))) lf = none := by rw [upd_ne hll]; exact p8
    have hlf6 : (upd H5 l (.lst (v7 :: vr))) lf = some (.lst vs) := by rw [upd_ne hll]; exact p7
    have ff6 : Same F' (upd F5 l (.lst (v7 :: vr))) := (((s2.ff.trans s3.ff).trans s4.ff).trans s5.ff).trans (pub_same f5)
    have mem : ∀ n ∈ [y0, x1, x2, x3], n ∈ na := fun n hn => by
      rcases List.mem_cons.mp hn with z | z
      · subst z
        exact hy0
      · exact nmem n (List.mem_cons_of_mem _ z)
    -- words
    refine us_set 9 (d := .list (wordsW.map .str)) (pd_lst (pda_cons pd_str (pda_cons pd_str (pda_cons pd_str (pda_cons pd_str (pda_cons pd_str (pda_cons pd_str (pda_cons pd_str (pda_cons pd_str (pda_cons pd_str (pda_cons pd_str (pda_cons pd_str (pda_cons pd_str pda_nil))))))))))))) e6 (fun v9 F7 H7 s7 _ e7 => ?_) sc__law_works.nd
    have S7 := sS (j := 9) (v := some v9) (by decide) hs0
    refine us_setN 10 (b := c + 6) (P1 := fun d => ∃ wd ∈ wordsW, d = .str wd) (pn_ixL (PL := (· = wordsW.map .str)) (q := fun i => 0 ≤ i ∧ i < 12) (pn_pd OK (pd_var 9) ⟨_, rfl, rfl⟩) (pn_draw (m := 12) HS c_draw (hr.mono (by decide)) OK (pn_int OK ⟨by decide, by decide, by decide⟩) fun i h1 h2 => ⟨i, rfl, h1, h2⟩) fun ds i hds hi => by
        subst hds
        refine ix_all (fun d hd => ?_) hi.1 hi.2
        obtain ⟨x, hx, rfl⟩ := List.mem_map.mp hd
        exact ⟨x, hx, rfl⟩) e7 S7 (g6.step s7) (fun d10 v10 F8 H8 hd10 s8 g8 h8 e8 => ?_) sc__law_works.nd
    obtain ⟨wd, hwd, rfl⟩ := hd10
    have S8 := sS (j := 10) (v := some v10) (by decide) S7
    obtain ⟨u1, u2⟩ := s7.own hlf6 fn6
    obtain ⟨u3, u4⟩ := s8.own hna u1 u2
    have hs48 : ((((σ2.set 6 (some v6)).set 7 (some (.ref l))).set 9 (some v9)).set 10 (some v10))[4]? = some (some (.ref lf)) := by
      rw [List.getElem?_set_ne (by decide), List.getElem?_set_ne (by decide)]
      exact hs4
    have st8 := (st6.trans s7.m).trans s8
    have ff8 : Same F' F8 := (ff6.trans s7.ff).trans s8.ff
    have hvs : vs.length < sizeLine := by
      rw [dpa_len l2, List.length_map, l3]
      exact Nat.lt_of_lt_of_le (show m < 100 by omega) (by decide)
    have hol : na = ns.take (ins.toNat + ws.length) := by rw [l3, hna2]
    -- the end of a turn
    have e8' : EnvOk K F8 [none, some (.list (ns.map .str)), some (.int ins), some (.int many), none, some (.int (m : Int)), some (.list (na.map .str)), some (.list ([y0, x1, x2, x3].map .str)), none, some (.list (wordsW.map .str)), some (.str wd)] ((((σ2.set 6 (some v6)).set 7 (some (.ref l))).set 9 (some v9)).set 10 (some v10)) H8 := e8
    clear e8 e7 e6 e5 e4 e3 e2
    generalize hσ8 : (((σ2.set 6 (some v6)).set 7 (some (.ref l))).set 9 (some v9)).set 10 (some v10) = σ8 at *
    have fin : ∀ (wk : Wk Str) (v11 : V) (F9 H9 : Hp), WkOk na wk → StepM (· = a) F8 H8 F9 H9 → StO K a c F9 H9 → Dp K F9 v11 (dWk wk) → F9 lf = none → EnvOk K F9 [none, some (.list (ns.map .str)), some (.int ins), some (.int many), none, some (.int (m : Int)), some (.list (na.map .str)), some (.list ([y0, x1, x2, x3].map .str)), none, some (.list (wordsW.map .str)), some (.str wd)] σ8 (upd H9 lf (.lst (vs ++ [v11]))) →
        ∃ F' ρ, Same F1 F' ∧ WksI K ns ins many a lf b F H (m + 1) (12 * (4 - (m + 1))) F' ρ σ8 (upd H9 lf (.lst (vs ++ [v11]))) := fun wk v11 F9 H9 hok s9 g9 h9 f9 e9 =>
      ⟨F9, _, (hff1.trans ff8).trans s9.ff, ⟨e9, ⟨_, _, _, _, _, rfl⟩, (st8.trans s9).mut f9 (.inl hlf), by
        rw [← hc]
        exact StO.ne (Ne.symm hna) g9, S8, hs48, f9, vs ++ [v11], ws ++ [wk], upd_same, by
          rw [List.map_append]
          exact dpa_app (dpa_mono (ff8.trans s9.ff) l2) (.cons h9 .nil), by rw [List.length_append, l3]; rfl, l4.snoc (hol ▸ hok)⟩⟩
    simp only [wordsW, List.mem_cons, List.not_mem_nil, or_false] at hwd
    rcases hwd with rfl | rfl | rfl | rfl | rfl | rfl | rfl | rfl | rfl | rfl | rfl | rfl
    · refine us_if (pdt_cmp (qc_eqS (pd_var 10) pd_str)) e8' (fun hb => absurd hb (by decide +kernel)) (fun _ F9 H9 s9 e9 => ?_)
      refine us_if (pdt_cmp (qc_eqS (pd_var 10) pd_str)) e9 (fun hb => absurd hb (by decide +kernel)) (fun _ F10 H10 s10 e10 => ?_)
      refine us_app (d := dWk (.sum true y0 x1)) 4 (pd_is (pd_catT (pd_tup (pda_cons (pd_var 10) pda_nil)) (pd_tupL T.tuple (pd_slL (pd_var 7) pdo_none (pdo_some (pd_is (pd_ite (pdt_cmp (qc_inT (pd_var 10) (pd_tup (pda_cons pd_str (pda_cons pd_str pda_nil))) rfl rfl)) (fun _ => pd_int) (fun _ => pd_int)) (d2 := .int 2) rfl))))) rfl) e10 hs48 (s10.own (s9.own u3 u4).1 (s9.own u3 u4).2).1 (s10.own (s9.own u3 u4).1 (s9.own u3 u4).2).2 hvs (fun v11 F11 H11 s11 h11 f11 q11 e11 => ?_)
      exact us_nil (us_nil (us_nil (fin (.sum true y0 x1) v11 F11 H11 ⟨fun x hx => mem x (List.mem_of_mem_take (i := 2) hx), fun q' e => by cases e⟩ ((s9.trans s10).trans s11).m (((g8.lo (by omega)).step s9).step (s10.trans s11)) h11 f11 e11)))
    · refine us_if (pdt_cmp (qc_eqS (pd_var 10) pd_str)) e8' (fun hb => absurd hb (by decide +kernel)) (fun _ F9 H9 s9 e9 => ?_)
      refine us_if (pdt_cmp (qc_eqS (pd_var 10) pd_str)) e9 (fun hb => absurd hb (by decide +kernel)) (fun _ F10 H10 s10 e10 => ?_)
      refine us_app (d := dWk (.sum false y0 x1)) 4 (pd_is (pd_catT (pd_tup (pda_cons (pd_var 10) pda_nil)) (pd_tupL T.tuple (pd_slL (pd_var 7) pdo_none (pdo_some (pd_is (pd_ite (pdt_cmp (qc_inT (pd_var 10) (pd_tup (pda_cons pd_str (pda_cons pd_str pda_nil))) rfl rfl)) (fun _ => pd_int) (fun _ => pd_int)) (d2 := .int 2) rfl))))) rfl) e10 hs48 (s10.own (s9.own u3 u4).1 (s9.own u3 u4).2).1 (s10.own (s9.own u3 u4).1 (s9.own u3 u4).2).2 hvs (fun v11 F11 H11 s11 h11 f11 q11 e11 => ?_)
      exact us_nil (us_nil (us_nil (fin (.sum false y0 x1) v11 F11 H11 ⟨fun x hx => mem x (List.mem_of_mem_take (i := 2) hx), fun q' e => by cases e⟩ ((s9.trans s10).trans s11).m (((g8.lo (by omega)).step s9).step (s10.trans s11)) h11 f11 e11)))
    · refine us_if (pdt_cmp (qc_eqS (pd_var 10) pd_str)) e8' (fun hb => absurd hb (by decide +kernel)) (fun _ F9 H9 s9 e9 => ?_)
      refine us_if (pdt_cmp (qc_eqS (pd_var 10) pd_str)) e9 (fun hb => absurd hb (by decide +kernel)) (fun _ F10 H10 s10 e10 => ?_)
      refine us_app (d := dWk (.times y0 x1)) 4 (pd_is (pd_catT (pd_tup (pda_cons (pd_var 10) pda_nil)) (pd_tupL T.tuple (pd_slL (pd_var 7) pdo_none (pdo_some (pd_is (pd_ite (pdt_cmp (qc_inT (pd_var 10) (pd_tup (pda_cons pd_str (pda_cons pd_str pda_nil))) rfl rfl)) (fun _ => pd_int) (fun _ => pd_int)) (d2 := .int 2) rfl))))) rfl) e10 hs48 (s10.own (s9.own u3 u4).1 (s9.own u3 u4).2).1 (s10.own (s9.own u3 u4).1 (s9.own u3 u4).2).2 hvs (fun v11 F11 H11 s11 h11 f11 q11 e11 => ?_)
      exact us_nil (us_nil (us_nil (fin (.times y0 x1) v11 F11 H11 ⟨fun x hx => mem x (List.mem_of_mem_take (i := 2) hx), fun q' e => by cases e⟩ ((s9.trans s10).trans s11).m (((g8.lo (by omega)).step s9).step (s10.trans s11)) h11 f11 e11)))
    · refine us_if (pdt_cmp (qc_eqS (pd_var 10) pd_str)) e8' (fun hb => absurd hb (by decide +kernel)) (fun _ F9 H9 s9 e9 => ?_)
      refine us_if (pdt_cmp (qc_eqS (pd_var 10) pd_str)) e9 (fun hb => absurd hb (by decide +kernel)) (fun _ F10 H10 s10 e10 => ?_)
      refine us_app (d := dWk (.over y0 x1)) 4 (pd_is (pd_catT (pd_tup (pda_cons (pd_var 10) pda_nil)) (pd_tupL T.tuple (pd_slL (pd_var 7) pdo_none (pdo_some (pd_is (pd_ite (pdt_cmp (qc_inT (pd_var 10) (pd_tup (pda_cons pd_str (pda_cons pd_str pda_nil))) rfl rfl)) (fun _ => pd_int) (fun _ => pd_int)) (d2 := .int 2) rfl))))) rfl) e10 hs48 (s10.own (s9.own u3 u4).1 (s9.own u3 u4).2).1 (s10.own (s9.own u3 u4).1 (s9.own u3 u4).2).2 hvs (fun v11 F11 H11 s11 h11 f11 q11 e11 => ?_)
      exact us_nil (us_nil (us_nil (fin (.over y0 x1) v11 F11 H11 ⟨fun x hx => mem x (List.mem_of_mem_take (i := 2) hx), fun q' e => by cases e⟩ ((s9.trans s10).trans s11).m (((g8.lo (by omega)).step s9).step (s10.trans s11)) h11 f11 e11)))
    · refine us_if (pdt_cmp (qc_eqS (pd_var 10) pd_str)) e8' (fun hb => absurd hb (by decide +kernel)) (fun _ F9 H9 s9 e9 => ?_)
      refine us_if (pdt_cmp (qc_eqS (pd_var 10) pd_str)) e9 (fun hb => absurd hb (by decide +kernel)) (fun _ F10 H10 s10 e10 => ?_)
      refine us_app (d := dWk (.over y0 x1)) 4 (pd_is (pd_catT (pd_tup (pda_cons (pd_var 10) pda_nil)) (pd_tupL T.tuple (pd_slL (pd_var 7) pdo_none (pdo_some (pd_is (pd_ite (pdt_cmp (qc_inT (pd_var 10) (pd_tup (pda_cons pd_str (pda_cons pd_str pda_nil))) rfl rfl)) (fun _ => pd_int) (fun _ => pd_int)) (d2 := .int 2) rfl))))) rfl) e10 hs48 (s10.own (s9.own u3 u4).1 (s9.own u3 u4).2).1 (s10.own (s9.own u3 u4).1 (s9.own u3 u4).2).2 hvs (fun v11 F11 H11 s11 h11 f11 q11 e11 => ?_)
      exact us_nil (us_nil (us_nil (fin (.over y0 x1) v11 F11 H11 ⟨fun x hx => mem x (List.mem_of_mem_take (i := 2) hx), fun q' e => by cases e⟩ ((s9.trans s10).trans s11).m (((g8.lo (by omega)).step s9).step (s10.trans s11)) h11 f11 e11)))
    · refine us_if (pdt_cmp (qc_eqS (pd_var 10) pd_str)) e8' (fun hb => absurd hb (by decide +kernel)) (fun _ F9 H9 s9 e9 => ?_)
      refine us_if (pdt_cmp (qc_eqS (pd_var 10) pd_str)) e9 (fun hb => absurd hb (by decide +kernel)) (fun _ F10 H10 s10 e10 => ?_)
      refine us_app (d := dWk (.turned y0)) 4 (pd_is (pd_catT (pd_tup (pda_cons (pd_var 10) pda_nil)) (pd_tupL T.tuple (pd_slL (pd_var 7) pdo_none (pdo_some (pd_is (pd_ite (pdt_cmp (qc_inT (pd_var 10) (pd_tup (pda_cons pd_str (pda_cons pd_str pda_nil))) rfl rfl)) (fun _ => pd_int) (fun _ => pd_int)) (d2 := .int 1) rfl))))) rfl) e10 hs48 (s10.own (s9.own u3 u4).1 (s9.own u3 u4).2).1 (s10.own (s9.own u3 u4).1 (s9.own u3 u4).2).2 hvs (fun v11 F11 H11 s11 h11 f11 q11 e11 => ?_)
      exact us_nil (us_nil (us_nil (fin (.turned y0) v11 F11 H11 ⟨fun x hx => mem x (List.mem_of_mem_take (i := 1) hx), fun q' e => by cases e⟩ ((s9.trans s10).trans s11).m (((g8.lo (by omega)).step s9).step (s10.trans s11)) h11 f11 e11)))
    · refine us_if (pdt_cmp (qc_eqS (pd_var 10) pd_str)) e8' (fun hb => absurd hb (by decide +kernel)) (fun _ F9 H9 s9 e9 => ?_)
      refine us_if (pdt_cmp (qc_eqS (pd_var 10) pd_str)) e9 (fun hb => absurd hb (by decide +kernel)) (fun _ F10 H10 s10 e10 => ?_)
      refine us_app (d := dWk (.size y0)) 4 (pd_is (pd_catT (pd_tup (pda_cons (pd_var 10) pda_nil)) (pd_tupL T.tuple (pd_slL (pd_var 7) pdo_none (pdo_some (pd_is (pd_ite (pdt_cmp (qc_inT (pd_var 10) (pd_tup (pda_cons pd_str (pda_cons pd_str pda_nil))) rfl rfl)) (fun _ => pd_int) (fun _ => pd_int)) (d2 := .int 1) rfl))))) rfl) e10 hs48 (s10.own (s9.own u3 u4).1 (s9.own u3 u4).2).1 (s10.own (s9.own u3 u4).1 (s9.own u3 u4).2).2 hvs (fun v11 F11 H11 s11 h11 f11 q11 e11 => ?_)
      exact us_nil (us_nil (us_nil (fin (.size y0) v11 F11 H11 ⟨fun x hx => mem x (List.mem_of_mem_take (i := 1) hx), fun q' e => by cases e⟩ ((s9.trans s10).trans s11).m (((g8.lo (by omega)).step s9).step (s10.trans s11)) h11 f11 e11)))
    · refine us_if (pdt_cmp (qc_eqS (pd_var 10) pd_str)) e8' (fun hb => absurd hb (by decide +kernel)) (fun _ F9 H9 s9 e9 => ?_)
      refine us_if (pdt_cmp (qc_eqS (pd_var 10) pd_str)) e9 (fun hb => absurd hb (by decide +kernel)) (fun _ F10 H10 s10 e10 => ?_)
      refine us_app (d := dWk (.chos true y0 x1)) 4 (pd_is (pd_catT (pd_tup (pda_cons (pd_var 10) pda_nil)) (pd_tupL T.tuple (pd_slL (pd_var 7) pdo_none (pdo_some (pd_is (pd_ite (pdt_cmp (qc_inT (pd_var 10) (pd_tup (pda_cons pd_str (pda_cons pd_str pda_nil))) rfl rfl)) (fun _ => pd_int) (fun _ => pd_int)) (d2 := .int 2) rfl))))) rfl) e10 hs48 (s10.own (s9.own u3 u4).1 (s9.own u3 u4).2).1 (s10.own (s9.own u3 u4).1 (s9.own u3 u4).2).2 hvs (fun v11 F11 H11 s11 h11 f11 q11 e11 => ?_)
      exact us_nil (us_nil (us_nil (fin (.chos true y0 x1) v11 F11 H11 ⟨fun x hx => mem x (List.mem_of_mem_take (i := 2) hx), fun q' e => by cases e⟩ ((s9.trans s10).trans s11).m (((g8.lo (by omega)).step s9).step (s10.trans s11)) h11 f11 e11)))
    · refine us_if (pdt_cmp (qc_eqS (pd_var 10) pd_str)) e8' (fun hb => absurd hb (by decide +kernel)) (fun _ F9 H9 s9 e9 => ?_)
      refine us_if (pdt_cmp (qc_eqS (pd_var 10) pd_str)) e9 (fun hb => absurd hb (by decide +kernel)) (fun _ F10 H10 s10 e10 => ?_)
      refine us_app (d := dWk (.chos false y0 x1)) 4 (pd_is (pd_catT (pd_tup (pda_cons (pd_var 10) pda_nil)) (pd_tupL T.tuple (pd_slL (pd_var 7) pdo_none (pdo_some (pd_is (pd_ite (pdt_cmp (qc_inT (pd_var 10) (pd_tup (pda_cons pd_str (pda_cons pd_str pda_nil))) rfl rfl)) (fun _ => pd_int) (fun _ => pd_int)) (d2 := .int 2) rfl))))) rfl) e10 hs48 (s10.own (s9.own u3 u4).1 (s9.own u3 u4).2).1 (s10.own (s9.own u3 u4).1 (s9.own u3 u4).2).2 hvs (fun v11 F11 H11 s11 h11 f11 q11 e11 => ?_)
      exact us_nil (us_nil (us_nil (fin (.chos false y0 x1) v11 F11 H11 ⟨fun x hx => mem x (List.mem_of_mem_take (i := 2) hx), fun q' e => by cases e⟩ ((s9.trans s10).trans s11).m (((g8.lo (by omega)).step s9).step (s10.trans s11)) h11 f11 e11)))
    · refine us_if (pdt_cmp (qc_eqS (pd_var 10) pd_str)) e8' (fun hb => absurd hb (by decide +kernel)) (fun _ F9 H9 s9 e9 => ?_)
      refine us_if (pdt_cmp (qc_eqS (pd_var 10) pd_str)) e9 (fun _ F10 H10 s10 e10 => ?_) (fun hb => absurd hb (by decide +kernel))
      refine us_app (d := dWk (.pick y0 x1 x2 x3)) 4 (pd_is (pd_catT (pd_tup (pda_cons (pd_var 10) pda_nil)) (pd_tupL T.tuple (pd_var 7))) rfl) e10 hs48 (s10.own (s9.own u3 u4).1 (s9.own u3 u4).2).1 (s10.own (s9.own u3 u4).1 (s9.own u3 u4).2).2 hvs (fun v11 F11 H11 s11 h11 f11 q11 e11 => ?_)
      exact us_nil (us_nil (us_nil (fin (.pick y0 x1 x2 x3) v11 F11 H11 ⟨fun x hx => mem x (List.mem_of_mem_take (i := 4) hx), fun q' e => by cases e⟩ ((s9.trans s10).trans s11).m (((g8.lo (by omega)).step s9).step (s10.trans s11)) h11 f11 e11)))
    · refine us_if (pdt_cmp (qc_eqS (pd_var 10) pd_str)) e8' (fun hb => absurd hb (by decide +kernel)) (fun _ F9 H9 s9 e9 => ?_)
      refine us_if (pdt_cmp (qc_eqS (pd_var 10) pd_str)) e9 (fun _ F10 H10 s10 e10 => ?_) (fun hb => absurd hb (by decide +kernel))
      refine us_app (d := dWk (.pick y0 x1 x2 x3)) 4 (pd_is (pd_catT (pd_tup (pda_cons (pd_var 10) pda_nil)) (pd_tupL T.tuple (pd_var 7))) rfl) e10 hs48 (s10.own (s9.own u3 u4).1 (s9.own u3 u4).2).1 (s10.own (s9.own u3 u4).1 (s9.own u3 u4).2).2 hvs (fun v11 F11 H11 s11 h11 f11 q11 e11 => ?_)
      exact us_nil (us_nil (us_nil (fin (.pick y0 x1 x2 x3) v11 F11 H11 ⟨fun x hx => mem x (List.mem_of_mem_take (i := 4) hx), fun q' e => by cases e⟩ ((s9.trans s10).trans s11).m (((g8.lo (by omega)).step s9).step (s10.trans s11)) h11 f11 e11)))
    · refine us_if (pdt_cmp (qc_eqS (pd_var 10) pd_str)) e8' (fun _ F9 H9 s9 e9 => ?_) (fun hb => absurd hb (by decide +kernel))
      refine us_appN (Z := rzS K 0 a) (b := c) (P := fun d => ∃ q, d = dWk (.number q) ∧ NumOk q) 4 (pn_mono OK (pn_tup (pna_cons (P := (· = .str "number")) (pn_pd OK (pd_var 10) rfl) (pna_cons (P := fun d => ∃ q, d = dFr q ∧ NumOk q) (pn_mono OK (pn_callS HS c_number hr (pna_nil OK) (fun ds h => h)) (Nat.le_refl _) fun d ⟨_, _, h⟩ => h) (pna_nil OK))) (fun ds ⟨_, _, q1, _, _, _, q2, _, q3⟩ => by subst q1 q2 q3; rfl) OK) (Nat.le_refl _) fun d ⟨_, q0, _, _, q1, q2, _, _, q3, ⟨q, q4, q5⟩, q6⟩ => ⟨q, by subst q0 q1 q2 q3 q4 q6; rfl, q5⟩) e9 S8 (g8.step s9) hna hs48 (s9.own u3 u4).1 (s9.own u3 u4).2 hvs (fun d v11 F10 H10 hd s10 g10 h10 f10 q10 e10 => ?_)
      obtain ⟨q, rfl, hq⟩ := hd
      exact us_nil (us_nil (fin (.number q) v11 F10 H10 ⟨(fun _ h => by cases h), (fun q' e => by cases e; exact hq)⟩ (s9.m.trans s10) g10 h10 f10 e10))
  · obtain ⟨o5, o6, o7, o9, o10, rfl⟩ := I.sh
    obtain ⟨vs, ws, l1, l2, l3, l4⟩ := I.ls
    have e3 := I.env.pub I.fn l1 l2 I.s4
    refine us_ret (pd_var 4) e3 (fun v F4 H4 s4 h4 => ?_)
    have hlen : (rngD many).length = many.toNat := by unfold rngD; simp
    refine kq _ v F4 H4 ⟨ns, ins, many, ws, rfl, rfl, by rw [l3, hlen]; omega, l4⟩ ((I.st.pub I.fn hlf l1).trans s4.m) ((StO.pb g0 hlf (I.g.lo (by omega)) I.fn).step s4) h4
end
end Rs
end

section
set_option Elab.async false
set_option linter.all false
set_option maxRecDepth 100000
set_option maxHeartbeats 4000000
namespace Rs
open PySem PySem.Spec L2 PyProof.Rows
/-! ### xs[lo::st] -/
def tSl3 (K : PySem.W.Frag) (te : TE) (tl ts : TO) : TE := fun σ H Q => te σ H fun x H1 => tl σ H1 fun _ H2 => ts σ H2 fun o H3 => o ≠ some 0 ∧ ∃ a xs, x = .ref a ∧ SqL K H3 a xs ∧ ∀ (p : Addr) (ys : List V), (∀ y ∈ ys, y ∈ xs) → ys.length ≤ xs.length → H3 p = none → Q (.ref p) (upd H3 p (.lst ys))
theorem vals_pick : ∀ {xs : List V} {us : List Value}, Vals xs us → ∀ is : List Nat, Vals (is.filterMap (xs[·]?)) (is.filterMap (us[·]?))
  | xs, us, r, [] => .nil
  | xs, us, r, i :: is => by
    have ih := vals_pick r is
    cases hx : xs[i]? with
    | none =>
      have hu : us[i]? = none := by
        rw [List.getElem?_eq_none_iff] at hx ⊢
        rw [← r.length]
        exact hx
      rw [List.filterMap_cons_none hx, List.filterMap_cons_none hu]
      exact ih
    | some x =>
      obtain ⟨u, hu, ru⟩ := r.get hx
      rw [List.filterMap_cons_some hx, List.filterMap_cons_some hu]
      exact .cons ru ih
theorem pe_slice3 {X : Cx} {e lo st : Expr} {te : TE} {tl ts : TO} {p2 pos : Pos} (he : PE X e te) (hl : PO X (some lo) tl) (hs : PO X (some st) ts) : PE X (.Subscript e (.Slice (some lo) none (some st) p2) pos) (tSl3 X.K te tl ts) := by
  refine ⟨fun pins s σ H Q I h => ?_⟩
  refine Subscript_ (thn (he.run pins s σ H _ I h) fun v s1 ⟨x, H1, I1, r1, q1⟩ => ?_)
  refine wpAny_Slice (thn (hl.run pins s1 σ H1 _ I1 q1) fun vl s2 ⟨l, H2, I2, pl, q2⟩ => ?_)
  refine thn (po_none.run pins s2 σ H2 (fun o H3 => o = none ∧ H3 = H2) I2 ⟨rfl, rfl⟩) fun vu s3 ⟨u, H3, I3, pu, eu, e3⟩ => ?_
  subst eu e3
  refine thn (hs.run pins s3 σ H3 _ I3 q2) fun vs s4 ⟨o, H4, I4, ps, h0, a, xs, ex, hx, q4⟩ => ?_
  subst ex
  cases r1
  have I5 : Inv X pins σ H4 { s4 with heap := s4.heap.push { cls := .type "slice", data := .fields #[vl, vu, vs] } } := I4.kept (t' := s4.toks) fun b ob q => Heap.get?_push_of_some _ q
  obtain ⟨its, r, ht, hz⟩ := I5.list hx
  have hlen := r.length
  show wpAny (model X.prog X.w) X.A (subscriptTail e (.Slice (some lo) none (some st) p2) (.ref a) (.ref s4.heap.objs.size)) (EP X pins σ Q) X.xe { s4 with heap := s4.heap.push { cls := .type "slice", data := .fields #[vl, vu, vs] } }
  refine tail_any (ops := [.ref a, .ref s4.heap.objs.size]) ht.isList.typeIs (PySem.slot_list_getitem.lookup) ?_ (by with_unfolding_all rfl)
  refine wpAny_getItem_list_slice ht.isList (Heap.IsSliceOf.new _ vl vu vs) pl pu ps h0 ?_ (by rw [List.size_toArray]; omega)
  have hsz := slicePick_size_le its.toArray l none o
  unfold slicePick at hsz ⊢
  generalize sliceRange (sliceBounds l none o its.toArray.size).1 (sliceBounds l none o its.toArray.size).2.1 (sliceBounds l none o its.toArray.size).2.2 = is at hsz ⊢
  have eA : is.filterMap (its.toArray[·]?) = is.filterMap (its[·]?) := by
    congr 1
    funext i
    simp
  rw [eA] at hsz ⊢
  have rv := vals_pick r is
  have hl2 : (is.filterMap (xs[·]?)).length ≤ xs.length := by
    rw [rv.length]
    simpa [hlen] using hsz
  refine ⟨.ref _, _, I5.laid (t' := s4.toks) (o := .lst (is.filterMap (xs[·]?))) (fun b ob q => Heap.get?_push_of_some _ q) (Nat.le_refl _) ?_, rfl, q4 _ _ (fun y hy => ?_) hl2 (I5.hok.fresh (Nat.le_refl _))⟩
  · exact ⟨by omega, _, 0, rv, Heap.get?_push_size _ rfl⟩
  · obtain ⟨i, _, hi⟩ := List.mem_filterMap.mp hy
    exact List.mem_of_getElem? hi
theorem dpa_sub {K : PySem.W.Frag} {F : Hp} {xs : List V} {ds : List D} (h : DpAll K F xs ds) : ∀ {ys : List V}, (∀ y ∈ ys, y ∈ xs) → ∃ es, DpAll K F ys es ∧ ∀ e ∈ es, e ∈ ds
  | [], _ => ⟨[], .nil, fun _ h => by cases h⟩
  | y :: ys, hy => by
    obtain ⟨es, h1, h2⟩ := dpa_sub h (ys := ys) fun z hz => hy z (List.mem_cons_of_mem _ hz)
    obtain ⟨i, hi⟩ := List.mem_iff_getElem?.mp (hy y List.mem_cons_self)
    obtain ⟨d, hd, hdp⟩ := dpa_getV h hi
    exact ⟨d :: es, .cons hdp h1, fun e he => by
      rcases List.mem_cons.mp he with z | z
      · subst z
        exact List.mem_of_getElem? hd
      · exact h2 e z⟩
section
variable {X : Cx} {Z : Rz} {e lo st a b : Expr} {ρ : DEnv} {n : Nat} {PL : List D → Prop} {p2 pos : Pos} {i j : Int} {P : D → Prop} {d2 : D}
theorem pn_slice3 (ok : Z.Ok) (he : PN X Z e ρ n (fun d => ∃ ds, d = .list ds ∧ PL ds)) (hl : PD X lo ρ (.int i)) (hs : PD X st ρ (.int j)) (hj : j ≠ 0) : PN X Z (.Subscript e (.Slice (some lo) none (some st) p2) pos) ρ n (fun d => ∃ ds, d = .list ds ∧ ∃ ds0, PL ds0 ∧ (∀ x ∈ ds, x ∈ ds0) ∧ ds.length ≤ ds0.length) :=
  pn_of (pe_slice3 pe_u po_u po_u) fun b F σ H Q hE hz hg k => he b F σ H _ hE hz hg fun d x F1 H1 ⟨ds, e1, hp⟩ s1 g1 h1 => by
    subst e1
    have e1 := hE.stepM s1
    refine pdo_some hl F1 σ H1 _ e1 fun F2 H2 s2 => pdo_some hs F2 σ H2 _ (e1.step s2) fun F3 H3 s3 => ?_
    obtain ⟨l, xs, q1, q2, q3⟩ := dp_lst (dp_mono (s2.trans s3).ff h1)
    refine ⟨fun z => hj (Option.some.inj z), l, xs, q1, Same.seq s3.fh q2, fun p ys hy hlen hn => ?_⟩
    obtain ⟨es, h5, h6⟩ := dpa_sub q3 hy
    exact k _ _ _ _ ⟨es, rfl, ds, hp, h6, by rw [← dpa_len h5, ← dpa_len q3]; exact hlen⟩ ((s1.trans (s2.trans s3).m).new hn) (ok.st (ok.st g1 (s2.trans s3)) (Step.new s3.fh hn)) (.lst (SqL.of upd_same) (dpa_mono (new_same s3.fh hn) h5))
theorem pnt_neD (hu : X.A.units + 64 < cLine) (ok : Z.Ok) (ha : PN X Z a ρ n P) (hb : PD X b ρ d2) (h1 : ∀ d, P d → SeqAt.shaped d = true) (h2 : SeqAt.shaped d2 = true) : PNT X Z (.Compare a [.NotEq] [b] pos) ρ n (fun _ => True) := fun bb F σ H Q he hz hg k =>
  ⟨_, pt_cmpR (op_neD hu) pe_u pe_u (nomark _), ha bb F σ H _ he hz hg fun d x F1 H1 hp s1 g1 h3 => hb F1 σ H1 _ (he.stepM s1) fun y F2 H2 s2 h4 => ⟨d, d2, dp_mono s2.fh (dp_mono s2.ff h3), dp_mono s2.fh h4, h1 d hp, h2, _, rfl, k _ F2 H2 trivial (s1.trans s2.m) (ok.st g1 s2)⟩⟩
end
theorem canLay_ints : ∀ ns : List Int, PyData.canLayAll0 (ns.map .int) = true
  | [] => by simp [PyData.canLayAll0]
  | n :: ns => by simp [PyData.canLayAll0, PyData.canLay0, canLay_ints ns]
theorem depth_ints : ∀ ns : List Int, PyData.depthAll (ns.map .int) = 0
  | [] => by simp [PyData.depthAll]
  | n :: ns => by simp [PyData.depthAll, PyData.depth, depth_ints ns]
theorem shaped_ints (ns : List Int) : SeqAt.shaped (.list (ns.map .int)) = true := by
  unfold SeqAt.shaped
  simp [PyData.canLay0, PyData.depth, canLay_ints, depth_ints]
def IsInts (d : D) : Prop := ∃ ns : List Int, d = .list (ns.map .int) ∧ ns.length ≤ 64
theorem ints_of {ds : List D} (h : ∀ d ∈ ds, ∃ i, d = .int i) : ∃ ns : List Int, ds = ns.map .int := by
  refine ⟨ds.map asInt, ?_⟩
  rw [List.map_map]
  refine (List.map_id _).symm.trans (List.map_congr_left fun d hd => ?_)
  obtain ⟨i, rfl⟩ := h d hd
  rfl
/-- state['cells'] -/
theorem pn_cells {X : Cx} {Z : Rz} {ρ : DEnv} {s : Nat} {A : Addr} {x : Str} {j : Nat} {p1 p2 pos : Pos} (hs : HasSt X.K Z s A) (hu : X.A.units + 1 < cLine) (hN : X.N[s]? = some x := by rfl)
    (hv : Vis X.env.scope x := by first | exact Or.inl rfl | exact Or.inr (Or.inl rfl) | exact Or.inr (Or.inr rfl)) (hd : (x == ("__debug__" : Str)) = false := by decide) (hcd : (x == ("__classdict__" : Str)) = false := by decide) : PN X Z (.Subscript (.Name x p1) (.Constant (.str "cells") j p2) pos) ρ 0 IsInts :=
  pn_of (pe_dget hu (pe_var hN hv hd hcd) pe_str (fun _ _ => rfl)) fun b F σ H Q he hz hg k => by
    obtain ⟨o1, c, ns, l, m, t, h2, h3, h4, h5, h6⟩ := hs.get hg
    exact ⟨_, hs.slot hz, A, .ref c, rfl, .inl ⟨_, .inr "cells", .inl h5, rfl, rfl⟩, k _ _ F H ⟨ns.1, rfl, ns.2⟩ (StepM.refl he.fh) hg h6⟩
/-! ### _law_begun, _law_open -/
def spBeg (K : PySem.W.Frag) : Sp := fun vs H Q _ => ∃ (F : Hp) (ns : List Int) (v : V), vs = [v] ∧ Same F H ∧ Dp K F v (.list (ns.map .int)) ∧ ns.length ≤ 64 ∧ ∀ a F' H', Step F H F' H' → H a = none → StO K a 0 F' H' → Q (.ref a) H'
def spOpen (K : PySem.W.Frag) : Sp := fun vs H Q _ => ∃ (F : Hp) (a : Addr) (k n : Int), vs = [.ref a, .int k, .int n] ∧ Same F H ∧ StO K a 0 F H ∧ 0 ≤ k ∧ k ≤ 4 ∧ 1 ≤ n ∧ n ≤ 4 ∧ ∀ F' H', StepM (· = a) F H F' H' → StO K a 1000 F' H' → Q .non H'
section
variable {P : Program} {w : World} {K : PySem.W.Frag} {mg : Str → Option Value} {base : Heap}
theorem sc__law_begun : FnScope ["_law_script"] ["_law_script"] (defScope (top 71)) := ⟨rfl, rfl, rfl, by decide +kernel, rfl, by decide +kernel, by decide +kernel⟩
theorem cal__law_begun (D0 : DefAt K mg "_law_begun" 71) : Cal P w K mg base "_law_begun" 1 ["_law_script"] (spBeg K) := by
  obtain ⟨f, fd, hm, Fn⟩ := D0
  refine ⟨f, fd, hm, ?_, Fn.kp, Fn.bindsN fun _ _ _ _ _ _ us hl => match us, hl with | [_], _ => rfl⟩
  refine Fn.ok (k := 0) sc__law_begun (fun vs H Q E h => ?_) (fun cdv A outer s H vs Q E hr h => ?_)
  · obtain ⟨_, _, _, rfl, _⟩ := h
    rfl
  · obtain ⟨F, ns, v, rfl, h0, h1, hl, kq⟩ := h
    obtain ⟨c, xs, rfl, hq, ha⟩ := dp_lst h1
    refine ⟨_, PSs.nox (pss_one (ps_ret (pe_disp (pps_cons pe_str (pv 0) (pps_cons pe_str pe_int (pps_cons pe_str pe_int (pps_cons pe_str pe_int pps_nil)))) rfl rfl (by simp) (by decide)))), fun p hp => ?_⟩
    have hpf : F p = none := Same.free h0 hp
    refine ⟨.ref c, rfl, upd_same, [(.inr "cells", .ref c), (.inr "left", .int 0), (.inr "mixed", .int 0), (.inr "at", .int 0)], rfl, (by show 4 ≤ 15; decide), ?_⟩
    have e1 : upd (upd H p (.dK [])) p (.dK (mergeK [] [(.inr "cells", .ref c), (.inr "left", .int 0), (.inr "mixed", .int 0), (.inr "at", .int 0)])) = upd H p (.dK (stK c 0 0 0)) := by
      funext b
      by_cases q : b = p
      · subst q
        rw [upd_same, upd_same]
        rfl
      · rw [upd_ne q, upd_ne q, upd_ne q]
    rw [e1]
    exact kq p F _ (StepM.pure ((StepM.refl h0).mut hpf (.inl hp))) hp ⟨hpf, c, ⟨ns, hl⟩, 0, 0, 0, by decide, by decide, by decide, upd_same, h1⟩
theorem sc__law_open : FnScope ["_law_state", "_law_k", "_law_many", "_law_some", "_law_great", "_law_cell", "_law_at"] ["_law_state", "_law_k", "_law_many"] (defScope (top 72)) := ⟨rfl, rfl, rfl, by decide +kernel, rfl, by decide +kernel, by decide +kernel⟩
theorem cal__law_open (T : Frees mg) (D0 : DefAt K mg "_law_open" 72) (c_mixed : Cal P w K mg base "_law_mixed" 1 ["_law_cell", "_law_k"] (spP K R__law_mixed)) : Cal P w K mg base "_law_open" 2 ["_law_state", "_law_k", "_law_many"] (spOpen K) := by
  obtain ⟨f, fd, hm, Fn⟩ := D0
  refine ⟨f, fd, hm, ?_, Fn.kp, Fn.bindsN fun _ _ _ _ _ _ us hl => match us, hl with | [_, _, _], _ => rfl⟩
  refine Fn.ok (k := 1) sc__law_open (fun vs H Q E h => ?_) (fun cdv A outer s H vs Q E hr h => ?_)
  · obtain ⟨_, _, _, _, rfl, _⟩ := h
    rfl
  · obtain ⟨F, a, k, n, rfl, h0, g0, k0, k4, n1, n4, kq⟩ := h
    have hu := units_of hr
    have hu1 := hu_of hr
    have HS := rzS_has (K := K) (s := 0) (a := a)
    have OK := rzS_ok (K := K) (s := 0) (a := a)
    have e0 : EnvOk K F [none, some (.int k), some (.int n), none, none, none, none] (L2.start ["_law_state", "_law_k", "_law_many", "_law_some", "_law_great", "_law_cell", "_law_at"] [.ref a, .int k, .int n]) H := env_raw h0 (.skip (.cons (.int k) (.cons (.int n) .nil))) rfl
    have S0 : (rzS K 0 a).S (L2.start ["_law_state", "_law_k", "_law_many", "_law_some", "_law_great", "_law_cell", "_law_at"] [.ref a, .int k, .int n]) := rfl
    refine ⟨_, PSs.nox pss_u, ?_⟩
    refine us_setN 3 (b := 0) (P1 := IsInts) (pn_if (pnt_neD hu OK (pn_cells HS hu1) (pd_lst pda_nil) (fun d ⟨ns, e, _⟩ => by rw [e]; exact shaped_ints ns) rfl)
      (pn_mono OK (pn_slice3 (PL := fun ds => ∃ ns : List Int, ds = ns.map .int ∧ ns.length ≤ 64) OK (pn_mono OK (pn_cells HS hu1) (Nat.le_refl _) fun d ⟨ns, e, h⟩ => ⟨_, e, ns, rfl, h⟩) (pd_var 1) (pd_var 2) (by omega)) (Nat.le_refl _) fun d ⟨ds, e, ds0, ⟨ns0, e0, hl0⟩, hm, hl⟩ => by
        obtain ⟨ns, e2⟩ := ints_of (ds := ds) fun x hx => by
          have := hm x hx
          rw [e0] at this
          obtain ⟨i, _, hi⟩ := List.mem_map.mp this
          exact ⟨i, hi.symm⟩
        subst e e0 e2
        exact ⟨ns, rfl, by simpa using Nat.le_trans hl (by simpa using hl0)⟩)
      (pn_pd OK (pd_lst (pda_cons pd_int pda_nil)) ⟨[5], rfl, by decide⟩)) e0 S0 g0 (fun d v F1 H1 hd s1 g1 h1 e1 => ?_) sc__law_open.nd
    obtain ⟨ns, rfl, hns⟩ := hd
    -- great
    have hz3 : (ns.map PyData.int).length < sizeLine := by
      rw [List.length_map]
      exact Nat.lt_of_le_of_lt hns (by decide)
    refine us_setLcD [("_law_cell", 5)] 4 (fun d => .int (((asInt d).natAbs : Nat) : Int)) (flt := fun d => decide ((10 : Int) ^ 18 ≤ (((asInt d).natAbs : Nat) : Int))) (src_list (pd_var 3)) tg_name (fun _ _ => trivial) (fun j hj d => ?_) sc__law_open.nd (blkOk_by (N := ["_law_state", "_law_k", "_law_many", "_law_some", "_law_great", "_law_cell", "_law_at"]) (sc := defScope (top 72)) (by decide +kernel)) (fun _ _ _ _ _ => pg_name (i := 5) sc__law_open.nd rfl (Or.inl rfl)) (fun _ _ _ _ _ => pts_one (pt_ub _ _ _ _ _)) pe_ub
      (fun d hd => ev_ubT fun _ _ _ _ _ => ?_) (fun d hd _ => ev_ub fun _ _ _ _ _ => ?_) e1 hz3 (fun v2 F2 H2 s2 h2 e2 => ?_) rfl rfl (sw_true rfl rfl rfl (by decide +kernel))
    · obtain rfl : j = 5 := by simpa using hj
      intro h
      cases h
    · obtain ⟨i, _, rfl⟩ := List.mem_map.mp hd
      exact pdt_cmp (qc_ge (pd_abs T.abs (pd_var 5)) (pd_pow pd_int pd_int ⟨by decide, by decide, by decide⟩))
    · obtain ⟨i, _, rfl⟩ := List.mem_map.mp hd
      exact pd_abs T.abs (pd_var 5)
    obtain ⟨gs, hgs, hpos⟩ : ∃ gs : List Int, ((ns.map PyData.int).filter (fun d => decide ((10 : Int) ^ 18 ≤ (((asInt d).natAbs : Nat) : Int)))).map (fun d => PyData.int (((asInt d).natAbs : Nat) : Int)) = gs.map .int ∧ ∀ g ∈ gs, 0 ≤ g := by
      refine ⟨((ns.map PyData.int).filter (fun d => decide ((10 : Int) ^ 18 ≤ (((asInt d).natAbs : Nat) : Int)))).map (fun d => (((asInt d).natAbs : Nat) : Int)), by rw [List.map_map]; rfl, fun g hg => ?_⟩
      obtain ⟨x, _, rfl⟩ := List.mem_map.mp hg
      omega
    rw [hgs] at e2
    have S1 := sS (j := 3) (v := some v) (by decide) S0
    have S2 := sS (j := 4) (v := some v2) (by decide) S1
    refine us_stput (n := 0) (bb := 0) (bb' := 0) (p := (0 ≤ ·)) HS hu1 (pn_pd OK (d := .int (gs.headD 0)) (pd_is (pd_ite (b' := !gs.isEmpty) (pdt_cmp (qc_is (qc_neD hu (pd_var 4) (pd_lst pda_nil) (shaped_ints gs) rfl) (by cases gs <;> rfl))) (fun hb => pd_ixL (d := .int (gs.headD 0)) (pd_var 4) pd_int (by cases gs with
      | nil => cases hb
      | cons g r => exact atI_nat (j := 0) rfl)) (fun hb => pd_int)) (by cases gs <;> rfl)) ⟨_, rfl, by cases gs with
      | nil => decide
      | cons g r => exact hpos g List.mem_cons_self⟩) e2 S2 (g1.step s2) (fun c l mi t v q1 q2 q3 q4 => ⟨v, mi, t, rfl, q4, q2, q3⟩) (fun F3 H3 s3 g3 e3 => ?_)
    refine us_stput (n := 0) (bb := 0) (bb' := 0) (p := fun _ => True) HS hu1 (pn_pd OK (pd_var 1) ⟨k, rfl, trivial⟩) e3 S2 g3 (fun c l mi t v q1 q2 q3 q4 => ⟨l, v, t, rfl, q1, q2, q3⟩) (fun F4 H4 s4 g4 e4 => ?_)
    have st4 := ((s1.trans s2.m).trans s3).trans s4
    refine us_for (ds := enumD (ns.map .int)) (src_enum rfl T.enumerate (pd_var 3)) (pg_tup (n := 2) rfl (pgs_cons (pg_name (i := 6) sc__law_open.nd rfl (Or.inl rfl)) (pgs_cons (pg_name (i := 5) sc__law_open.nd rfl (Or.inl rfl)) pgs_nil))) tg_pair (fun d hd => by
        obtain ⟨i, x, _, rfl⟩ := mem_enum hd
        exact ⟨_, _, rfl⟩) e4 (fun F1' H1' m F' ρ' σ' H' => Same F1' F' ∧ EnvOk K F' ρ' σ' H' ∧ (∃ o3 o4 o5 o6 : Option D, ρ' = [none, some (.int k), some (.int n), o3, o4, o5, o6]) ∧ StepM (· = a) F H F' H' ∧ StO K a 0 F' H' ∧ (rzS K 0 a).S σ') (fun F5 H5 s5 e5 => ⟨Same.refl _, e5, ⟨_, _, _, _, rfl⟩, st4.trans s5.m, g4.step s5, S2⟩) (fun F5 H5 m F' ρ' σ' H' h => ⟨h.1, h.2.1⟩)
      (fun F5 H5 m d F' ρ' σ' H' F6 σ6 H6 s5 hd hI s6 hl6 hk e6 => ?_) (fun F5 H5 F' ρ' σ' H' s5 hI => ?_)
    · obtain ⟨hff, _, ⟨o3, o4, o5, o6, rfl⟩, st, g, S'⟩ := hI
      obtain ⟨i, x, hx, rfl⟩ := mem_enum (List.mem_of_getElem? hd)
      obtain ⟨z, _, rfl⟩ := List.mem_map.mp (List.mem_of_getElem? hx)
      have hi64 : i < 64 := by
        obtain ⟨h1, _⟩ := List.getElem?_eq_some_iff.mp hx
        rw [List.length_map] at h1
        omega
      have S6 : (rzS K 0 a).S σ6 := (hk 0 (by simp)).trans S'
      refine us_stput (bb := 0) (bb' := 0) (p := fun _ => True) HS hu1 (pn_callP (n := 0 + 0 + 0) OK c_mixed hr (pna_cons (pn_add (p := fun _ => True) (q := fun _ => True) (P := IsI fun _ => True) (pn_fld HS hu1 fld_mixed) (pn_pd OK (pd_var 5) ⟨z, rfl, trivial⟩) fun i j _ _ => ⟨_, rfl, trivial⟩) (pna_pd OK (pda_cons (pd_add (pd_var 1) (pd_var 6)) pda_nil))) fun ds hds => ?_) e6 S6 (g.step s6) (fun c l mi t v q1 q2 q3 q4 => ⟨l, v, t, rfl, q1, q2, q3⟩) (fun F7 H7 s7 g7 e7 => ?_)
      · obtain ⟨_, _, rfl, ⟨y, rfl, _⟩, rfl⟩ := hds
        refine ⟨_, ⟨y, k + (i : Int), rfl, ?_, rfl⟩, _, rfl, trivial⟩
        have : IB 8 (k + (i : Int)) := by unfold IB; omega
        exact this.mono (by decide)
      · exact us_nil ⟨F7, _, (hff.trans s6.ff).trans s7.ff, e7, ⟨_, _, _, _, rfl⟩, (st.trans s6.m).trans s7, g7, S6⟩
    · obtain ⟨hff, e5, ⟨o3, o4, o5, o6, rfl⟩, st, g, S'⟩ := hI
      refine us_stput (n := 0) (bb := 0) (bb' := 1000) (p := (· = 0)) HS hu1 (pn_int OK rfl) e5 S' g (fun c l mi t v q1 q2 q3 q4 => ⟨l, mi, 0, by rw [q4]; rfl, q1, by decide, by decide⟩) (fun F7 H7 s7 g7 e7 => ?_)
      exact us_nil (kq F7 H7 (st.trans s7) g7)
end
end Rs
end

section
set_option Elab.async false
set_option linter.all false
set_option maxRecDepth 100000
set_option maxHeartbeats 4000000
namespace Rs
open PySem PySem.Spec PyProof.Rows L2
/-! ### zip of three lists -/
def Itz3 (K : PySem.W.Frag) (a b c : Addr) : It :=
  ⟨fun i H => ∃ (xs ys zs : List V) (x y z : V), SqL K H a xs ∧ SqL K H b ys ∧ SqL K H c zs ∧ xs[i]? = some x ∧ ys[i]? = some y ∧ zs[i]? = some z,
    fun i H v H' => ∃ T x y z, v = .ref T ∧ H T = none ∧ H' = upd H T (.tup [x, y, z]) ∧ (∀ xs, SqL K H a xs → xs[i]? = some x) ∧ (∀ ys, SqL K H b ys → ys[i]? = some y) ∧ ∀ zs, SqL K H c zs → zs[i]? = some z,
    fun i H => ∃ xs ys zs : List V, SqL K H a xs ∧ SqL K H b ys ∧ SqL K H c zs ∧ i = min (min xs.length ys.length) zs.length⟩
theorem turn_zip3 {P : Program} {w : World} {K : PySem.W.Frag} {elts : List Expr} {kk : Nat} {tpos : Pos} {a b c z TI TO i1 i2 i3 : Addr} (S : ZipSep3 z TI TO i1 i2 i3 [i1, a] [i2, b] [i3, c]) (n1 : a ≠ i1) (n2 : b ≠ i2) (n3 : c ≠ i3) :
    Turn P w K (.Tuple elts kk tpos) (Itz3 K a b c) [z, TI, TO, i1, i2, i3] z (fun i h => IsZip h z TI TO .none ∧ IsTupOf3 h TI (.ref i1) (.ref i2) (.ref i3) ∧ (∃ x y u, IsTupOf3 h TO x y u) ∧ h.IsListIter i1 a i ∧ h.IsListIter i2 b i ∧ h.IsListIter i3 c i) where
  mem := by simp
  obj := fun i h st q hq => by
    obtain ⟨hz, hTI, ⟨x, y, u, hTO⟩, ⟨o1, e1, _, d1⟩, ⟨o2, e2, _, d2⟩, ⟨o3, e3, _, d3⟩⟩ := st
    have e' : q = z ∨ q = TI ∨ q = TO ∨ q = i1 ∨ q = i2 ∨ q = i3 := by simpa using hq
    rcases e' with t | t | t | t | t | t
    · rw [t]; exact ⟨_, hz, fun v q => nomatch q⟩
    · rw [t]; exact ⟨_, hTI, fun v q => nomatch q⟩
    · rw [t]; exact ⟨_, hTO, fun v q => nomatch q⟩
    · rw [t]; exact ⟨o1, e1, fun v q => by rw [d1] at q; cases q⟩
    · rw [t]; exact ⟨o2, e2, fun v q => by rw [d2] at q; cases q⟩
    · rw [t]; exact ⟨o3, e3, fun v q => by rw [d3] at q; cases q⟩
  keep := fun i h h' st k => by
    obtain ⟨hz, hTI, ⟨x, y, u, hTO⟩, h1, h2, h3⟩ := st
    exact ⟨k z (by simp) _ hz, k TI (by simp) _ hTI, ⟨x, y, u, k TO (by simp) _ hTO⟩, h1.at fun o q => k i1 (by simp) o q, h2.at fun o q => k i2 (by simp) o q, h3.at fun o q => k i3 (by simp) o q⟩
  item := by
    intro X hP hw hK hc i pins s σ H E I hf st hg
    subst hP hw hK
    obtain ⟨hz, hTI, hTO, h1, h2, h3⟩ := st
    obtain ⟨xs, ys, zs, x, y, u, hqx, hqy, hqz, hx, hy, hu⟩ := hg
    obtain ⟨its, rv, p, _⟩ := I.list hqx
    obtain ⟨its2, rv2, p2, _⟩ := I.list hqy
    obtain ⟨its3, rv3, p3, _⟩ := I.list hqz
    obtain ⟨v1, hv1, r1⟩ := rv.get hx
    obtain ⟨v2, hv2, r2⟩ := rv2.get hy
    obtain ⟨v3, hv3, r3⟩ := rv3.get hu
    have hh : X.A.in1.handled = none := I.ok.hd hc
    have W := WalksT.zipD3 (prog := X.prog) (w := X.w) (A := X.A) S (Draws.list hh i1 a n1 its.toArray) (Draws.list hh i2 b n2 its2.toArray) (Draws.list hh i3 c n3 its3.toArray)
    have lt1 : i < its.toArray.size := by
      rw [List.size_toArray]
      exact (List.getElem?_eq_some_iff.mp hv1).1
    have lt2 : i < its2.toArray.size := by
      rw [List.size_toArray]
      exact (List.getElem?_eq_some_iff.mp hv2).1
    have lt3 : i < its3.toArray.size := by
      rw [List.size_toArray]
      exact (List.getElem?_eq_some_iff.mp hv3).1
    refine W.item i s _ E (by omega) ⟨hz, hTI, hTO, ⟨h1, p.isList⟩, ⟨h2, p2.isList⟩, ⟨h3, p3.isList⟩⟩ fun T vals h' tk hP hT htup hMid hk => ?_
    refine ⟨_, rfl, W.go elts kk tpos i T _ _ E hMid fun h'' st'' hk2 => ?_⟩
    obtain ⟨x1, x2, x3, q1, q2, q3, rfl⟩ := hP
    have e1 : x1 = v1 := by
      have : its[i]? = some x1 := by simpa using q1
      rw [hv1] at this
      exact (Option.some.inj this).symm
    have e2 : x2 = v2 := by
      have : its2[i]? = some x2 := by simpa using q2
      rw [hv2] at this
      exact (Option.some.inj this).symm
    have e3 : x3 = v3 := by
      have : its3[i]? = some x3 := by simpa using q3
      rw [hv3] at this
      exact (Option.some.inj this).symm
    subst e1 e2 e3
    have hap := W.apart i T h' hMid
    obtain ⟨o, ho, hoc, nn, hod⟩ := htup
    have ho2 := hk2 T o hap ho
    have new : ObjOk X.prog X.w (upd H T (.tup [x, y, u])) h'' T (.tup [x, y, u]) := ⟨by show 3 ≤ sizeLine; decide, [x1, x2, x3], .cons r1 (.cons r2 (.cons r3 .nil)), ⟨o, ho2, hoc, nn, hod⟩⟩
    have sub : ∀ q, q ∉ [z, TI, TO, i1, i2, i3] → q ∉ [z, TO, i1, i2, i3] := fun q hq hm => hq (by
      have : q = z ∨ q = TO ∨ q = i1 ∨ q = i2 ∨ q = i3 := by simpa using hm
      rcases this with t | t | t | t | t <;> simp [t])
    have I1 : Inv X pins σ (upd H T (.tup [x, y, u])) { s with heap := h'', toks := tk } :=
      I.turnedNew (t' := tk) (ch := [z, TI, TO, i1, i2, i3]) (fun q o hb e => hk2 q o (sub q hb) (hk q o (sub q hb) e)) hf hT new
    refine ⟨.ref T, _, I1, rfl, ⟨T, x, y, u, rfl, I.hok.fresh hT, rfl, fun l hl => by rw [I.list_inj hl hqx]; exact hx, fun l hl => by rw [I.list_inj hl hqy]; exact hy, fun l hl => by rw [I.list_inj hl hqz]; exact hu⟩, ?_, fun q hq => ?_⟩
    · obtain ⟨g1, g2, g3, g4, g5, g6⟩ := st''
      exact ⟨g1, g2, g3, g4.1, g5.1, g6.1⟩
    · have hqn := (hf q hq).1
      have : q ≠ T := fun t => by
        subst t
        obtain ⟨o', ho', _⟩ := (show ∃ o', s.heap.get? q = some o' ∧ True from by
          have e' : q = z ∨ q = TI ∨ q = TO ∨ q = i1 ∨ q = i2 ∨ q = i3 := by simpa using hq
          obtain ⟨w1, w2, w3, hTO⟩ := hTO
          obtain ⟨o1, d1, _⟩ := h1
          obtain ⟨o2, d2, _⟩ := h2
          obtain ⟨o3, d3, _⟩ := h3
          rcases e' with t | t | t | t | t | t <;> rw [t]
          · exact ⟨_, hz, trivial⟩
          · exact ⟨_, hTI, trivial⟩
          · exact ⟨_, hTO, trivial⟩
          · exact ⟨_, d1, trivial⟩
          · exact ⟨_, d2, trivial⟩
          · exact ⟨_, d3, trivial⟩)
        exact absurd (Heap.lt_size ho') (Nat.not_lt.mpr hT)
      rw [upd_ne this]
      exact hqn
  done := by
    intro X hP hw hK hc i pins s σ H E I hf st hg
    subst hP hw hK
    obtain ⟨hz, hTI, hTO, h1, h2, h3⟩ := st
    obtain ⟨xs, ys, zs, hqx, hqy, hqz, hend⟩ := hg
    obtain ⟨its, rv, p, _⟩ := I.list hqx
    obtain ⟨its2, rv2, p2, _⟩ := I.list hqy
    obtain ⟨its3, rv3, p3, _⟩ := I.list hqz
    have hh : X.A.in1.handled = none := I.ok.hd hc
    have W := WalksT.zipD3 (prog := X.prog) (w := X.w) (A := X.A) S (Draws.list hh i1 a n1 its.toArray) (Draws.list hh i2 b n2 its2.toArray) (Draws.list hh i3 c n3 its3.toArray)
    have l1 := rv.length
    have l2 := rv2.length
    have l3 := rv3.length
    have e : i = min (min its.toArray.size its2.toArray.size) its3.toArray.size := by
      simp only [List.size_toArray, ← l1, ← l2, ← l3]
      exact hend
    refine W.done s _ E (by rw [← e]; exact ⟨hz, hTI, hTO, ⟨h1, p.isList⟩, ⟨h2, p2.isList⟩, ⟨h3, p3.isList⟩⟩) fun h' tk hk => ⟨rfl, I.turnedL (t' := tk) (ch := [z, TI, TO, i1, i2, i3]) (fun q o hb e => hk q o (fun hm => hb (by
      have : q = z ∨ q = TO ∨ q = i1 ∨ q = i2 ∨ q = i3 := by simpa using hm
      rcases this with t | t | t | t | t <;> simp [t])) e) hf⟩
  self := fun A i s Q E st h => wpAny_pyIter_zip st.1 h
def iZip3 (K : PySem.W.Frag) (ta : TA) : TI := fun σ H R => ta σ H fun vs H1 => ∃ a b c xs ys zs, vs = [.ref a, .ref b, .ref c] ∧ SqL K H1 a xs ∧ SqL K H1 b ys ∧ SqL K H1 c zs ∧ R (Itz3 K a b c) H1
theorem pi_zip3 {X : Cx} {e e2 e3 : Expr} {ta : TA} {p pos tpos : Pos} {elts : List Expr} {kk : Nat} (hg : Gl X "zip") (hm : X.mg "zip" = none) (ha : PA X [e, e2, e3] ta)
    (hs : starEach [e, e2, e3] X.env = (false, eval e X.env) :: starEach [e2, e3] X.env := by rfl) (hpl : (backTo pos (starEach [e2, e3] X.env)).any (·.1) = false := by rfl) :
    PI X (.Tuple elts kk tpos) (.Call (.Name "zip" p) [e, e2, e3] [] pos) (iZip3 X.K ta) := by
  refine ⟨fun pins s σ H R I h => ?_⟩
  refine Call_ (ld_blt I hg hm PyProof.Rows.boot_zip (PyProof.Rows.callWith_type1 (thn (ha.run pos pins s σ H _ I h) fun us s1 ⟨vs, H1, I1, r1, q1⟩ => ?_) hs hpl))
  obtain ⟨a, b, c, xs, ys, zs, ex, hqx, hqy, hqz, q⟩ := q1
  subst ex
  cases r1 with
  | cons r rr =>
    cases rr with
    | cons r' rr =>
      cases rr with
      | cons r'' rr =>
        cases rr
        cases r
        cases r'
        cases r''
        obtain ⟨its, rv, p1, _⟩ := I1.list hqx
        obtain ⟨its2, rv2, p2, _⟩ := I1.list hqy
        obtain ⟨its3, rv3, p3, _⟩ := I1.list hqz
        have la : a < s1.heap.objs.size := p1.lt
        have lb : b < s1.heap.objs.size := p2.lt
        have lc : c < s1.heap.objs.size := p3.lt
        refine zip_begins3 (begins_list a its.toArray) (begins_list b its2.toArray) (begins_list c its3.toArray) p1.isList p2.isList p3.isList fun h' hz hTI hTO g1 g2 g3 hsz hk => wpAny_pyIter_zip hz ?_
        have I2 : Inv X pins σ H1 { s1 with heap := h' } := I1.kept (t' := s1.toks) hk
        have S : ZipSep3 (s1.heap.objs.size + 5) (s1.heap.objs.size + 3) (s1.heap.objs.size + 4) s1.heap.objs.size (s1.heap.objs.size + 1) (s1.heap.objs.size + 2) [s1.heap.objs.size, a] [s1.heap.objs.size + 1, b] [s1.heap.objs.size + 2, c] := zip_sep3 (fun x hx => by simp at hx; subst hx; exact la) (fun x hx => by simp at hx; subst hx; exact lb) (fun x hx => by simp at hx; subst hx; exact lc)
        refine ⟨s1.heap.objs.size + 5, [s1.heap.objs.size + 5, s1.heap.objs.size + 3, s1.heap.objs.size + 4, s1.heap.objs.size, s1.heap.objs.size + 1, s1.heap.objs.size + 2], _, _, H1, rfl, I2, turn_zip3 S (Nat.ne_of_lt la) (Nat.ne_of_lt (Nat.lt_succ_of_lt lb)) (Nat.ne_of_lt (Nat.lt_succ_of_lt (Nat.lt_succ_of_lt lc))), ⟨hz, hTI, ⟨_, _, _, hTO⟩, ⟨_, g1, rfl, rfl⟩, ⟨_, g2, rfl, rfl⟩, ⟨_, g3, rfl, rfl⟩⟩, fun x hx => ?_, q⟩
        have e' : x = s1.heap.objs.size + 5 ∨ x = s1.heap.objs.size + 3 ∨ x = s1.heap.objs.size + 4 ∨ x = s1.heap.objs.size ∨ x = s1.heap.objs.size + 1 ∨ x = s1.heap.objs.size + 2 := by simpa using hx
        have hle : s1.heap.objs.size ≤ x := by
          rcases e' with z | z | z | z | z | z
          · rw [z]; exact Nat.le_add_right _ _
          · rw [z]; exact Nat.le_add_right _ _
          · rw [z]; exact Nat.le_add_right _ _
          · rw [z]; exact Nat.le_refl _
          · rw [z]; exact Nat.le_add_right _ _
          · rw [z]; exact Nat.le_add_right _ _
        exact I1.fpOk hle (I1.hok.fresh hle)
def Y3 (xs ys zs : List V) : Nat → Hp → V → Hp → Prop := fun i H v H' => ∃ T x y z, v = .ref T ∧ H T = none ∧ H' = upd H T (.tup [x, y, z]) ∧ xs[i]? = some x ∧ ys[i]? = some y ∧ zs[i]? = some z
theorem walk_zip3 {K : PySem.W.Frag} {a b c : Addr} {xs ys zs : List V} {n : Nat} (hn : n = min (min xs.length ys.length) zs.length) : Walk (Itz3 K a b c) n (fun H => SqL K H a xs ∧ SqL K H b ys ∧ SqL K H c zs) (Y3 xs ys zs) := by
  subst hn
  refine ⟨fun i _ hi q => ?_, fun _ q => ⟨xs, ys, zs, q.1, q.2.1, q.2.2, rfl⟩, fun i H v H' _ q y => ?_⟩
  · have h1 : i < xs.length := by omega
    have h2 : i < ys.length := by omega
    have h3 : i < zs.length := by omega
    exact ⟨xs, ys, zs, xs[i], ys[i], zs[i], q.1, q.2.1, q.2.2, by simp [h1], by simp [h2], by simp [h3]⟩
  · obtain ⟨T, x, z, u, h1, h2, h3, h4, h5, h6⟩ := y
    exact ⟨T, x, z, u, h1, h2, h3, h4 xs q.1, h5 ys q.2.1, h6 zs q.2.2⟩
def zip3D (xs ys zs : List D) : List D := List.zipWith (fun f z => f z) (List.zipWith (fun x y z => PyData.tuple [x, y, z]) xs ys) zs
theorem zip3D_get {xs ys zs : List D} {i : Nat} {x y z : D} (h1 : xs[i]? = some x) (h2 : ys[i]? = some y) (h3 : zs[i]? = some z) : (zip3D xs ys zs)[i]? = some (.tuple [x, y, z]) := by
  unfold zip3D
  rw [List.getElem?_zipWith, List.getElem?_zipWith, h1, h2, h3]
theorem src_zip3 {X : Cx} {e e2 e3 : Expr} {es : List Expr} {ρ : DEnv} {xs ys zs : List D} {pos p tpos : Pos} {kk : Nat} (hg : Gl X "zip") (hm : X.mg "zip" = none) (h : PD X e ρ (.list xs)) (h2 : PD X e2 ρ (.list ys)) (h3 : PD X e3 ρ (.list zs))
    (hs : starEach [e, e2, e3] X.env = (false, eval e X.env) :: starEach [e2, e3] X.env := by rfl) (hs2 : starEach [e2, e3] X.env = (false, eval e2 X.env) :: starEach [e3] X.env := by rfl) (hs3 : starEach [e3] X.env = (false, eval e3 X.env) :: starEach [] X.env := by rfl)
    (hpl : (backTo pos (starEach [e2, e3] X.env)).any (·.1) = false := by rfl) : PSrc X (.Tuple es kk tpos) (.Call (.Name "zip" p) [e, e2, e3] [] pos) ρ (zip3D xs ys zs) :=
  src_of (pi_zip3 hg hm pa_u hs hpl) fun F σ H R he k => (pda_cons h (pda_cons h2 (pda_cons h3 pda_nil hs3) hs2) hs : PDA X [e, e2, e3] ρ [.list xs, .list ys, .list zs]) F σ H _ he fun us F1 H1 s1 h1 => by
  obtain ⟨v, w, t, rfl, g1, g2, g3⟩ := dpa3 h1
  obtain ⟨l, vs, rfl, hq, ha⟩ := dp_lst g1
  obtain ⟨l2, vs2, rfl, hq2, ha2⟩ := dp_lst g2
  obtain ⟨l3, vs3, rfl, hq3, ha3⟩ := dp_lst g3
  have hl : (zip3D xs ys zs).length = min (min vs.length vs2.length) vs3.length := by unfold zip3D; rw [List.length_zipWith, List.length_zipWith, dpa_len ha, dpa_len ha2, dpa_len ha3]
  refine ⟨l, l2, l3, vs, vs2, vs3, rfl, Same.seq s1.fh hq, Same.seq s1.fh hq2, Same.seq s1.fh hq3, k (Itz3 X.K l l2 l3) F1 H1 (fun H => SqL X.K H l vs ∧ SqL X.K H l2 vs2 ∧ SqL X.K H l3 vs3) _ s1 (walk_zip3 hl) (fun H' s => ⟨Same.seq s hq, Same.seq s hq2, Same.seq s hq3⟩) fun i H x H' F' y hi sf sh => ?_⟩
  obtain ⟨T, a, b, c, rfl, hT, rfl, ha1, hb, hc⟩ := y
  obtain ⟨d, hd, hdp⟩ := dpa_getV ha ha1
  obtain ⟨d2, hd2, hdp2⟩ := dpa_getV ha2 hb
  obtain ⟨d3, hd3, hdp3⟩ := dpa_getV ha3 hc
  have ns := new_same (o := .tup [a, b, c]) sh hT
  exact ⟨_, _, Step.new sh hT, zip3D_get hd hd2 hd3, .tup (SqT.of upd_same) (.cons (dp_mono (sf.trans ns) hdp) (.cons (dp_mono (sf.trans ns) hdp2) (.cons (dp_mono (sf.trans ns) hdp3) .nil)))⟩
/-! ### dict(zip(names, values)) -/
def zipK (ns : List Str) (ys : List V) : List (Key × V) := List.zip (ns.map fun n => (Sum.inr n : Key)) ys
def tDictZip (K : PySem.W.Frag) (ta : TA) : TE := fun σ H Q => ta σ H fun vs H1 => ∃ (a b : Addr) (ns : List Str) (ys : List V), vs = [.ref a, .ref b] ∧ SqL K H1 a (ns.map V.str) ∧ SqL K H1 b ys ∧ ∀ p, H1 p = none → Q (.ref p) (upd H1 p (.dK (mergeK [] (zipK ns ys))))
theorem kv_zip : ∀ {ns : List Str} {ys : List V} {us ws : List Value}, Vals (ns.map V.str) us → Vals ys ws → ∃ rs : List (Key × Value), KV (zipK ns ys) rs ∧ rs.length = min us.length ws.length ∧ ∀ (i : Nat) (k v : Value), us[i]? = some k → ws[i]? = some v → ∃ key, rs[i]? = some (key, v) ∧ ∃ n : Str, key = .inr n ∧ RelV (V.str n) k
  | [], ys, us, ws, r, r2 => by
    cases r
    exact ⟨[], .nil, by simp, fun i k v h => by simp at h⟩
  | n :: ns, [], us, ws, r, r2 => by
    cases r2
    exact ⟨[], .nil, by simp, fun i k v _ h => by simp at h⟩
  | n :: ns, y :: ys, us, ws, r, r2 => by
    cases r with
    | @cons _ u _ us' h t =>
      cases r2 with
      | @cons _ w _ ws' h2 t2 =>
        obtain ⟨rs, q1, q2, q3⟩ := kv_zip t t2
        refine ⟨(.inr n, w) :: rs, .cons ⟨rfl, h2⟩ q1, by simp [q2], fun i k v hk hv => ?_⟩
        cases i with
        | zero =>
          have ek : u = k := by simpa using hk
          have ev : w = v := by simpa using hv
          subst ek ev
          exact ⟨.inr n, rfl, n, rfl, h⟩
        | succ i => exact q3 i k v (by simpa using hk) (by simpa using hv)
theorem pe_dictZip {X : Cx} {e e2 : Expr} {ta : TA} {p p1 pos pos1 : Pos} (hg : Gl X "dict") (hm : X.mg "dict" = none) (hg2 : Gl X "zip") (hm2 : X.mg "zip" = none) (ha : PA X [e, e2] ta) (hc : X.calm = true := by rfl)
    (na : starEach [.Call (.Name "zip" p1) [e, e2] [] pos1] X.env = (false, eval (.Call (.Name "zip" p1) [e, e2] [] pos1) X.env) :: starEach [] X.env := by rfl) (hs : starEach [e, e2] X.env = (false, eval e X.env) :: starEach [e2] X.env := by rfl) (hpl : (backTo pos1 (starEach [e2] X.env)).any (·.1) = false := by rfl) :
    PE X (.Call (.Name "dict" p) [.Call (.Name "zip" p1) [e, e2] [] pos1] [] pos) (tDictZip X.K ta) := by
  refine ⟨fun pins s σ H Q I h => ?_⟩
  refine Call_ (ld_blt I hg hm PyProof.Rows.boot_dict ?_)
  refine PyProof.Rows.callWith_type1 (PyProof.Rows.args_cons ?_ rfl) na rfl
  refine Call_ (ld_blt I hg2 hm2 PyProof.Rows.boot_zip ?_)
  refine PyProof.Rows.callWith_type1 (thn (ha.run pos1 pins s σ H _ I h) fun us s1 ⟨vs, H1, I1, r1, q1⟩ => ?_) hs hpl
  obtain ⟨a, b, ns, ys, ex, hqx, hqy, q⟩ := q1
  subst ex
  cases r1 with
  | cons r rr =>
    cases rr with
    | cons r' rr =>
      cases rr
      cases r
      cases r'
      obtain ⟨its, rv, p1', hz1⟩ := I1.list hqx
      obtain ⟨its2, rv2, p2, hz2⟩ := I1.list hqy
      have la : a < s1.heap.objs.size := p1'.lt
      have lb : b < s1.heap.objs.size := p2.lt
      refine call_zip_2 p1'.isList p2.isList fun h' hz hTI hTO h1 h2 hsz hk => PyProof.Rows.args_nil ?_
      have hk0 : ∀ b o, s1.heap.get? b = some o → h'.get? b = some o := hk
      obtain ⟨rs, q1, q2, q3⟩ := kv_zip rv rv2
      have hz2' : its2.length ≤ sizeLine := by rw [← rv2.length]; exact hz2
      have I2 : Inv X pins σ H1 { s1 with heap := h' } := I1.kept (t' := s1.toks) hk
      refine PySem.call_dict_pairs (knd := mixKind X.prog X.w) (kvs := rs) (PairArg.zip _ _ _ _ _ a b (PySem.W.ktu_apart s1.heap.objs.size a b la lb) its.toArray its2.toArray) (I2.ok.hd hc) ⟨hz, hTI, ⟨_, _, hTO⟩, h1, h2, p1'.isList.at fun o e => hk0 a o e, p2.isList.at fun o e => hk0 b o e⟩ ⟨by simp [q2], fun i key v hr => ?_⟩ (by simp only [List.size_toArray]; omega) fun h2' tk hd' hk' => ?_
      · obtain ⟨key', e1, n, rfl, rn⟩ := q3 i key v (by simpa using hr.1) (by simpa using hr.2)
        exact ⟨.inr n, e1, kV_is (k := .inr n) rn⟩
      · have hm : (h'.objs.size == sysModules) = false := beq_eq_false_iff_ne.mpr (Nat.ne_of_gt I2.big)
        have hlen : (mergeK [] (zipK ns ys)).length ≤ sizeLine := by
          refine Nat.le_trans (length_mergeK _ []) ?_
          rw [List.length_nil, Nat.zero_add, q1.length, q2]
          omega
        have keep : ∀ c o, s1.heap.get? c = some o → h2'.get? c = some o := fun c o e => hk' c o (fun hmem => by
          have hlt := Heap.lt_size e
          simp only [List.mem_cons, List.not_mem_nil, or_false] at hmem
          rcases hmem with t | t | t | t
          · exact absurd hlt (by rw [t]; exact Nat.not_lt.mpr (Nat.le_add_right _ _))
          · exact absurd hlt (by rw [t]; exact Nat.not_lt.mpr (Nat.le_add_right _ _))
          · exact absurd hlt (by rw [t]; exact Nat.lt_irrefl _)
          · exact absurd hlt (by rw [t]; exact Nat.not_lt.mpr (Nat.le_add_right _ _))) (hk c o e)
        have hle : s1.heap.objs.size ≤ h'.objs.size := by rw [hsz]; exact Nat.le_add_right _ _
        exact ⟨.ref h'.objs.size, upd H1 h'.objs.size (.dK (mergeK [] (zipK ns ys))), I1.laid (t' := tk) keep hle (show ObjOk X.prog X.w _ _ _ (.dK (mergeK [] (zipK ns ys))) from ⟨hlen, hm, merged [] rs, KV.merge q1 .nil, hd'⟩), rfl, q _ (I1.hok.fresh hle)⟩
end Rs
end

section
set_option Elab.async false
set_option linter.all false
set_option maxRecDepth 100000
set_option maxHeartbeats 8000000
namespace Rs
open PySem PySem.Spec L2
section
variable {P : Program} {w : World} {K : PySem.W.Frag} {mg : Str → Option Value} {base : Heap}
/-- a def told of data, its body raw -/
theorem mk_calR {x : Str} {i k : Nat} {N ps : List Str} {R : List D → D → Prop} (D0 : DefAt K mg x i) (S : FnScope N ps (defScope (top i))) (len : ∀ ds d, R ds d → ds.length = ps.length)
    (bd : ∀ (kV doc pm : Value) (an : Option Addr) (cdv ct : Value) (us : List Value), us.length = ps.length → bindArgs (PySem.W.fnOf x x (defArgs (top i)) (defBody (top i)) (defScope (top i)) .none kV doc pm an cdv ct) ⟨us, []⟩ = pure (ps.zip us))
    (body : ∀ (f : Addr) (cdv : Value) (A : Around) (outer : List Env) (s : Shared) (H0 : Hp) (E : XK), Room k (A.deeper (PyProof.Rows.envOfC x (defScope (top i)) s.heap.objs.size f cdv)) → ∀ (F H : Hp) (σ : St) (Q : VK) ds d, R ds d → EnvOk K F (startD N ds) σ H → (∀ v F' H', Step F H F' H' → Dp K F' v d → Q v H') →
      US (cxN P w K mg base N x i f cdv A outer s H0 E) (defBody (top i)) { nx := fun _ H' => Q .non H', rt := Q } σ H) : Cal P w K mg base x (k + 1) ps (spP K R) := by
  obtain ⟨f, fd, hm, F⟩ := D0
  refine ⟨f, fd, hm, ?_, F.kp, F.bindsN bd⟩
  refine F.ok S (fun vs H Q E h => ?_) (fun cdv A outer s H vs Q E hr h => ?_)
  · obtain ⟨F, ds, d, _, h1, h2, _⟩ := h
    rw [dpa_len h1]
    exact len ds d h2
  · obtain ⟨F1, ds, d, h0, h1, h2, k2⟩ := h
    exact ⟨_, PSs.nox pss_u, body f cdv A outer s H E hr F1 H _ Q ds d h2 (env_start h0 h1) k2⟩
/-! ### _law_pairs, _law_rows -/
def pairsD (xs : List D) (n : Nat) : List D := xs.flatMap fun x => (List.range n).map fun (i : Nat) => PyData.tuple [x, .int (i : Int)]
def R__law_pairs (ds : List D) (d : D) : Prop := ∃ (xs : List D) (n : Nat), ds = [.list xs, .int (n : Int)] ∧ xs.length * n ≤ 2000 ∧ n ≤ 100 ∧ d = .list (pairsD xs n)
theorem pairs_len (xs : List D) (n : Nat) : (pairsD xs n).length = xs.length * n := by
  unfold pairsD
  rw [List.length_flatMap]
  simp
  induction xs with
  | nil => simp
  | cons x r ih => simp [ih, Nat.add_mul, Nat.add_comm]
abbrev prN : List Str := ["_law_some", "_law_many", "_law_found", "_law_one", "_law_at"]
theorem sc__law_pairs : FnScope prN ["_law_some", "_law_many"] (defScope (top 96)) := ⟨rfl, rfl, rfl, by decide +kernel, rfl, by decide +kernel, by decide +kernel⟩
theorem cal__law_pairs (T : Frees mg) (D0 : DefAt K mg "_law_pairs" 96) : Cal P w K mg base "_law_pairs" 1 ["_law_some", "_law_many"] (spP K R__law_pairs) := by
  refine mk_calR D0 sc__law_pairs (fun ds d ⟨_, _, h, _⟩ => by subst h; rfl) (fun _ _ _ _ _ _ us hl => match us, hl with | [_, _], _ => rfl) (fun f cdv A outer s H0 E hr F H σ Q ds d hR e0 kq => ?_)
  obtain ⟨xs, n, rfl, hsz, hn, rfl⟩ := hR
  refine us_setNil 2 e0 (fun l hl hf e1 => ?_) sc__law_pairs.nd
  have hs2 : (σ.set 2 (some (.ref l)))[2]? = some (some (.ref l)) := by
    rw [List.getElem?_set_self]
    rw [← e0.len]
    show 2 < 5
    decide
  refine us_for (ds := xs) (src_list (pd_var 0)) (pg_name (i := 3) sc__law_pairs.nd rfl (Or.inl rfl)) tg_name (fun _ _ => trivial) e1 (fun F1 H1 m F' ρ' σ' H' => Same F1 F' ∧ EnvOk K F' ρ' σ' H' ∧ (∃ o3 o4 : Option D, ρ' = [some (.list xs), some (.int (n : Int)), none, o3, o4]) ∧ StepM (fun _ => False) F H F' H' ∧ σ'[2]? = some (some (.ref l)) ∧ F' l = none ∧ ∃ vs, H' l = some (.lst vs) ∧ DpAll K F' vs (pairsD (xs.take m) n))
    (fun F1 H1 s1 e2 => ?_) (fun F1 H1 m F' ρ' σ' H' h => ⟨h.1, h.2.1⟩) (fun F1 H1 m d F' ρ' σ' H' F2 σ2 H2 s1 hd hI s2 hl2 hk e2 => ?_) (fun F1 H1 F' ρ' σ' H' s1 hI => ?_)
  · obtain ⟨q1, q2⟩ := s1.own (a := l) upd_same hf
    exact ⟨Same.refl _, e2, ⟨none, none, rfl⟩, ((StepM.refl e0.fh).mut hf (.inl hl)).trans s1.m, hs2, q2, [], q1, .nil⟩
  · obtain ⟨hff, _, ⟨o3, o4, rfl⟩, st, hs, fl, vs, hv, ha⟩ := hI
    obtain ⟨p1, p2⟩ := s2.own hv fl
    have hmx : m < xs.length := (List.getElem?_eq_some_iff.mp hd).1
    refine us_for (ds := rngD (n : Int)) (src_range rfl T.range (pd_var 1) ⟨by omega, by omega⟩) (pg_name (i := 4) sc__law_pairs.nd rfl (Or.inl rfl)) tg_name (fun _ _ => trivial) e2 (fun F3 H3 i F' ρ' σ' H' => Same F3 F' ∧ EnvOk K F' ρ' σ' H' ∧ (∃ o4 : Option D, ρ' = [some (.list xs), some (.int (n : Int)), none, some d, o4]) ∧ StepM (fun _ => False) F H F' H' ∧ Same F1 F' ∧ σ'[2]? = some (some (.ref l)) ∧ F' l = none ∧ ∃ vs, H' l = some (.lst vs) ∧ DpAll K F' vs (pairsD (xs.take m) n ++ (List.range i).map fun (j : Nat) => PyData.tuple [d, .int (j : Int)]))
      (fun F3 H3 s3 e3 => ?_) (fun F3 H3 i F' ρ' σ' H' h => ⟨h.1, h.2.1⟩) (fun F3 H3 i d' F'' ρ' σ' H'' F4 σ4 H4 s3 hd' hI s4 hl4 hk4 e4 => ?_) (fun F3 H3 F'' ρ' σ' H'' s3 hI => ?_)
    · obtain ⟨q1, q2⟩ := s3.own p1 p2
      exact ⟨Same.refl _, e3, ⟨o4, rfl⟩, (st.trans s2.m).trans s3.m, (hff.trans s2.ff).trans s3.ff, (hk 2 (by simp)).trans hs, q2, vs, q1, by
        rw [show (List.range 0).map _ = ([] : List D) from rfl, List.append_nil]
        exact dpa_mono (s2.ff.trans s3.ff) ha⟩
    · obtain ⟨hff3, _, ⟨o4', rfl⟩, st3, hf1, hs3, fl3, vs3, hv3, ha3⟩ := hI
      obtain ⟨q1, q2⟩ := s4.own hv3 fl3
      have hin : i < n := by
        have := (List.getElem?_eq_some_iff.mp hd').1
        unfold rngD at this
        simpa using this
      have hdi : d' = .int (i : Int) := by
        unfold rngD at hd'
        rw [List.getElem?_map, List.getElem?_range (by omega)] at hd'
        exact (Option.some.inj hd').symm
      subst hdi
      have hs4 : σ4[2]? = some (some (.ref l)) := (hk4 2 (by simp)).trans hs3
      refine us_app 2 (d := .tuple [d, .int (i : Int)]) (pd_tup (pda_cons (pd_var 3) (pda_cons (pd_var 4) pda_nil))) e4 hs4 q1 q2 ?_ (fun v5 F5 H5 s5 h5 f5 g5 e5 => ?_)
      · rw [dpa_len ha3, List.length_append, pairs_len, List.length_map, List.length_range, List.length_take, Nat.min_eq_left (Nat.le_of_lt hmx)]
        have : (m + 1) * n ≤ xs.length * n := Nat.mul_le_mul_right n hmx
        rw [Nat.add_mul] at this
        exact Nat.lt_of_le_of_lt (show m * n + i ≤ 3000 by omega) (by decide)
      · have st5 : StepM (fun _ => False) F H F5 (upd H5 l (.lst (vs3 ++ [v5]))) := ((st3.trans s4.m).trans s5.m).mut f5 (.inl hl)
        refine us_nil ⟨F5, _, (hff3.trans s4.ff).trans s5.ff, e5, ⟨_, rfl⟩, st5, (hf1.trans s4.ff).trans s5.ff, hs4, f5, vs3 ++ [v5], upd_same, ?_⟩
        rw [List.range_succ, List.map_append, ← List.append_assoc]
        exact dpa_app (dpa_mono (s4.ff.trans s5.ff) ha3) (.cons h5 .nil)
    · obtain ⟨hff3, e5, ⟨o4', rfl⟩, st3, hf1, hs3, fl3, vs3, hv3, ha3⟩ := hI
      refine us_nil ⟨F'', _, hf1, e5, ⟨_, _, rfl⟩, st3, hs3, fl3, vs3, hv3, ?_⟩
      have hlen : (rngD (n : Int)).length = n := by unfold rngD; simp
      rw [hlen] at ha3
      have : pairsD (xs.take (m + 1)) n = pairsD (xs.take m) n ++ (List.range n).map fun (j : Nat) => PyData.tuple [d, .int (j : Int)] := by
        unfold pairsD
        rw [List.take_add_one, hd, List.flatMap_append]
        simp
      rw [this]
      exact ha3
  · obtain ⟨hff, e2, ⟨o3, o4, rfl⟩, st, hs, fl, vs, hv, ha⟩ := hI
    rw [List.take_length] at ha
    have e3 := e2.pub fl hv ha hs
    exact us_ret (pd_var 2) e3 (fun v F4 H4 s4 h4 => kq v F4 H4 ((StepM.pure (st.pub fl hl hv)).trans s4) h4)
def rowsL : List (List Rat) → List (List Rat) → List (List Rat)
  | rows, [] => rows
  | rows, ms :: bx => rowsL (rows.flatMap fun row => ms.map fun m => row ++ [m]) bx
def R__law_rows (ds : List D) (d : D) : Prop := ∃ bx : List (List Rat), ds = [dBox bx] ∧ (bx.length ≤ 3 ∧ ∀ ms ∈ bx, ms.length ≤ 6) ∧ d = dBox (rowsL [[]] bx)
abbrev rwN : List Str := ["_law_box_here", "_law_found", "_law_some", "_law_row", "_law_at"]
theorem sc__law_rows : FnScope rwN ["_law_box_here"] (defScope (top 95)) := ⟨rfl, rfl, rfl, by decide +kernel, rfl, by decide +kernel, by decide +kernel⟩
theorem flatMap_len (rows : List (List Rat)) (ms : List Rat) : (rows.flatMap fun row => ms.map fun m => row ++ [m]).length = rows.length * ms.length := by
  rw [List.length_flatMap]
  simp
  induction rows with
  | nil => simp
  | cons x r ih => simp [ih, Nat.add_mul, Nat.add_comm]
/-- the next rows, by pairs -/
theorem rows_step (rows : List (List Rat)) (ms : List Rat) (f : D → D) (hf : ∀ row ∈ rows, ∀ (i : Nat) m, ms[i]? = some m → f (.tuple [dMs row, .int (i : Int)]) = dMs (row ++ [m])) :
    (pairsD (rows.map dMs) ms.length).map f = (rows.flatMap fun row => ms.map fun m => row ++ [m]).map dMs := by
  unfold pairsD
  induction rows with
  | nil => rfl
  | cons row rows ih =>
    rw [List.map_cons, List.flatMap_cons, List.flatMap_cons, List.map_append, List.map_append, ih fun r hr => hf r (List.mem_cons_of_mem _ hr)]
    congr 1
    rw [List.map_map, List.map_map]
    refine List.ext_getElem? fun i => ?_
    rw [List.getElem?_map, List.getElem?_map]
    by_cases h : i < ms.length
    · rw [List.getElem?_range h, List.getElem?_eq_getElem h]
      exact congrArg some (hf row List.mem_cons_self i _ (List.getElem?_eq_getElem h))
    · rw [List.getElem?_eq_none (by simpa using h), List.getElem?_eq_none (by simpa using h)]
      rfl
theorem rows_snoc : ∀ (rows bx : List (List Rat)) (ms : List Rat), rowsL rows (bx ++ [ms]) = (rowsL rows bx).flatMap fun row => ms.map fun m => row ++ [m]
  | rows, [], ms => rfl
  | rows, b :: bx, ms => rows_snoc _ bx ms
theorem cal__law_rows (T : Frees mg) (D0 : DefAt K mg "_law_rows" 95) (c_pairs : Cal P w K mg base "_law_pairs" 1 ["_law_some", "_law_many"] (spP K R__law_pairs)) : Cal P w K mg base "_law_rows" 2 ["_law_box_here"] (spP K R__law_rows) := by
  refine mk_calR D0 sc__law_rows (fun ds d ⟨_, h, _⟩ => by subst h; rfl) (fun _ _ _ _ _ _ us hl => match us, hl with | [_], _ => rfl) (fun f cdv A outer s H0 E hr F H σ Q ds d hR e0 kq => ?_)
  obtain ⟨bx, rfl, ⟨hb3, hb6⟩, rfl⟩ := hR
  refine us_set 1 (d := dBox [[]]) (pd_lst (pda_cons (pd_lst pda_nil) pda_nil)) e0 (fun v1 F1 H1 s1 _ e1 => ?_) sc__law_rows.nd
  refine us_for (ds := bx.map dMs) (src_list (pd_var 0)) (pg_name (i := 2) sc__law_rows.nd rfl (Or.inr rfl)) tg_name (fun _ _ => trivial) e1 (fun F2 H2 m F' ρ' σ' H' => EnvOk K F' ρ' σ' H' ∧ (∃ o2 : Option D, ρ' = [some (dBox bx), some (dBox (rowsL [[]] (bx.take m))), o2, none, none]) ∧ Step F H F' H' ∧ Same F2 F' ∧ (rowsL [[]] (bx.take m)).length ≤ 6 ^ m ∧ ∀ row ∈ rowsL [[]] (bx.take m), row.length = m)
    (fun F2 H2 s2 e2 => ⟨e2, ⟨none, rfl⟩, s1.trans s2, Same.refl _, by show 1 ≤ 1; decide, fun row h => by
      have : row = [] := by simpa [rowsL] using h
      rw [this]
      rfl⟩) (fun F2 H2 m F' ρ' σ' H' h => ⟨h.2.2.2.1, h.1⟩) (fun F2 H2 m d F' ρ' σ' H' F3 σ3 H3 s2 hd hI s3 hl3 hk e3 => ?_) (fun F2 H2 F' ρ' σ' H' s2 hI => ?_)
  · obtain ⟨_, ⟨o2, rfl⟩, st, hff, hlen, hrow⟩ := hI
    rw [List.getElem?_map] at hd
    obtain ⟨ms, hms, rfl⟩ : ∃ ms, bx[m]? = some ms ∧ d = dMs ms := by
      cases e : bx[m]? with
      | none =>
        rw [e] at hd
        cases hd
      | some ms =>
        rw [e] at hd
        exact ⟨ms, rfl, (Option.some.inj hd).symm⟩
    have hm3 : m < 3 := by
      have := (List.getElem?_eq_some_iff.mp hms).1
      omega
    have hm6 := hb6 ms (List.mem_of_getElem? hms)
    obtain ⟨rows, hrows⟩ : ∃ rows, rows = rowsL [[]] (bx.take m) := ⟨_, rfl⟩
    rw [← hrows] at hlen hrow e3
    have h36 : rows.length ≤ 36 := Nat.le_trans hlen (by
      have : 6 ^ m ≤ 6 ^ 2 := Nat.pow_le_pow_right (by decide) (by omega)
      exact this)
    have hmul : rows.length * ms.length ≤ 36 * 6 := Nat.mul_le_mul h36 hm6
    have hnext : rowsL [[]] (bx.take (m + 1)) = rows.flatMap fun row => ms.map fun m => row ++ [m] := by
      rw [List.take_add_one, hms, hrows]
      exact rows_snoc _ _ _
    have hval : ∀ row ∈ rows, ∀ (i : Nat) x, ms[i]? = some x → (fun d : D => match d with
        | .tuple [.list r, .int i] => PyData.list (r ++ [((ms.map dFr)[i.toNat]?).getD .none])
        | _ => .none) (.tuple [dMs row, .int (i : Int)]) = dMs (row ++ [x]) := fun row _ i x hx => by
      show PyData.list (row.map dFr ++ [((ms.map dFr)[((i : Int)).toNat]?).getD .none]) = .list ((row ++ [x]).map dFr)
      rw [Int.toNat_natCast, List.getElem?_map, hx, List.map_append]
      rfl
    refine us_setLcD [("_law_row", 3), ("_law_at", 4)] 1 (fun d : D => match d with
        | .tuple [.list r, .int i] => PyData.list (r ++ [((ms.map dFr)[i.toNat]?).getD .none])
        | _ => .none) (flt := fun _ => true) (src_list (pd_call c_pairs (hr.mono (by decide)) (pda_cons (pd_var 1) (pda_cons (pd_lenL T.len (pd_var 2)) pda_nil)) ⟨rows.map dMs, (ms.map dFr).length, rfl, by rw [List.length_map, List.length_map]; omega, by rw [List.length_map]; omega, rfl⟩)) tg_pair (fun d hd => ?_) (fun j hj d => ?_) sc__law_rows.nd (blkOk_by (N := rwN) (sc := defScope (top 95)) (by decide +kernel))
      (fun _ _ _ _ _ => pg_tup (n := 2) rfl (pgs_cons (pg_name (i := 3) sc__law_rows.nd rfl (Or.inl rfl)) (pgs_cons (pg_name (i := 4) sc__law_rows.nd rfl (Or.inl rfl)) pgs_nil))) (fun _ _ _ _ _ => pts_nil) pe_ub (fun _ _ => ev_yes) (fun d hd _ => ev_ub fun _ _ _ _ _ => ?_) e3 ?_ (fun v4 F4 H4 s4 h4 e4 => ?_) rfl rfl (sw_true rfl rfl rfl (by decide +kernel))
    · unfold pairsD at hd
      obtain ⟨x, _, hx⟩ := List.mem_flatMap.mp hd
      obtain ⟨i, _, rfl⟩ := List.mem_map.mp hx
      exact ⟨_, _, rfl⟩
    · have hj : j = 3 ∨ j = 4 := by simpa using hj
      rcases hj with rfl | rfl <;> (intro h; cases h)
    · unfold pairsD at hd
      obtain ⟨x, hx, hx2⟩ := List.mem_flatMap.mp hd
      obtain ⟨row, hrow', rfl⟩ := List.mem_map.mp hx
      obtain ⟨i, hi, rfl⟩ := List.mem_map.mp hx2
      have hi := List.mem_range.mp hi
      have hil : i < ms.length := by rwa [List.length_map] at hi
      have hx : (ms.map dFr)[i]? = some (dFr ms[i]) := by rw [List.getElem?_map, List.getElem?_eq_getElem hil]; rfl
      have er : row.length = m := hrow row hrow'
      refine pd_is (pd_catL (pd_var 3) (pd_lst (pda_cons (pd_ixL (pd_var 2) (pd_var 4) (atI_nat hx)) pda_nil)) ?_) ?_
      · rw [List.length_map, er]
        exact Nat.le_of_lt (Nat.lt_of_lt_of_le (show m + 1 < 100 by omega) (by decide))
      · show _ = PyData.list (row.map dFr ++ [((ms.map dFr)[((i : Int)).toNat]?).getD .none])
        rw [Int.toNat_natCast, hx]
        rfl
    · rw [pairs_len, List.length_map, List.length_map]
      exact Nat.lt_of_le_of_lt hmul (by decide)
    · rw [filt_yes, show (ms.map dFr).length = ms.length from List.length_map .., rows_step rows ms _ hval, ← hnext] at e4
      refine us_nil ⟨F4, _, e4, ⟨_, rfl⟩, (st.trans s3).trans s4, (hff.trans s3.ff).trans s4.ff, ?_, ?_⟩
      · rw [hnext, flatMap_len, Nat.pow_succ]
        exact Nat.mul_le_mul hlen hm6
      · rw [hnext]
        intro r hr
        obtain ⟨row, hrow', hm⟩ := List.mem_flatMap.mp hr
        obtain ⟨x, _, rfl⟩ := List.mem_map.mp hm
        rw [List.length_append, hrow row hrow']
        rfl
  · obtain ⟨e3, ⟨o2, rfl⟩, st, hff, hlen, hrow⟩ := hI
    rw [List.length_map, List.take_length] at e3
    exact us_ret (pd_var 1) e3 (fun v F4 H4 s4 h4 => kq v F4 H4 (st.trans s4) h4)
end
end Rs
end

section
set_option Elab.async false
set_option linter.all false
set_option maxRecDepth 100000
set_option maxHeartbeats 8000000
namespace Rs
open PySem PySem.Spec L2
/-! ### _law_run -/
def upF {α : Type} (kv : Str → α) (n : Str) (x : α) : Str → α := fun m => if m = n then x else kv m
noncomputable def stepQ (r : Rul) (isR : Bool) (w : Wk Str) (q : Rat) : Rat := if isR && isRnd w then rnd r q else q
noncomputable def runV (r : Rul) (isR : Bool) : List Str → List (Wk Str) → (Str → Rat) → List Rat
  | n :: ns, w :: ws, kv => match exa kv w with
    | none => []
    | some q => stepQ r isR w q :: runV r isR ns ws (upF kv n (stepQ r isR w q))
  | _, _, _ => []
def RunOk (r : Rul) (isR : Bool) : List Str → List (Wk Str) → (Str → Rat) → Prop
  | n :: ns, w :: ws, kv => (∀ m ∈ wkNs w, Bt 900 (kv m)) ∧ ∀ q, exa kv w = some q → Bt 1300 q ∧ RunOk r isR ns ws (upF kv n (stepQ r isR w q))
  | _, _, _ => True
def markF {α : Type} (z : α) : List Str → List α → Str → α
  | n :: ns, m :: ms, k => if k = n then m else markF z ns ms k
  | _, _, _ => z
theorem markF_get {α : Type} {z : α} : ∀ {ns : List Str} {ms : List α} {i : Nat} {n : Str} {m : α}, ns.Nodup → ns[i]? = some n → ms[i]? = some m → markF z ns ms n = m
  | [], _, i, n, m, _, h, _ => by simp at h
  | _ :: _, [], i, n, m, _, _, h => by simp at h
  | a :: ns, b :: ms, 0, n, m, _, h1, h2 => by
    have e1 : a = n := by simpa using h1
    have e2 : b = m := by simpa using h2
    subst e1 e2
    exact if_pos rfl
  | a :: ns, b :: ms, i + 1, n, m, hn, h1, h2 => by
    have h1' : ns[i]? = some n := by simpa using h1
    have hne : n ≠ a := fun z => by
      subst z
      exact (List.nodup_cons.mp hn).1 (List.mem_of_getElem? h1')
    show (if n = a then b else markF z ns ms n) = m
    rw [if_neg hne]
    exact markF_get (List.nodup_cons.mp hn).2 h1' (by simpa using h2)
/-- what dict(zip(ns, ys)) holds -/
theorem val_merge : ∀ (ns : List Str) (ys : List V) (acc : List (Key × V)) (k : Key), (∀ n ∈ ns, k ≠ .inr n) → valV (mergeK acc (zipK ns ys)) k = valV acc k
  | [], ys, acc, k, _ => rfl
  | n :: ns, [], acc, k, _ => rfl
  | n :: ns, y :: ys, acc, k, h => by
    show valV (mergeK (putK acc (.inr n) y) (zipK ns ys)) k = _
    rw [val_merge ns ys _ k fun m hm => h m (List.mem_cons_of_mem _ hm), valV_put, if_neg (h n List.mem_cons_self)]
theorem val_zip : ∀ {ns : List Str} {ys : List V} {acc : List (Key × V)} {i : Nat} {n : Str} {y : V}, ns.Nodup → ns[i]? = some n → ys[i]? = some y → valV (mergeK acc (zipK ns ys)) (.inr n) = some y
  | [], ys, acc, i, n, y, _, h, _ => by simp at h
  | m :: ns, [], acc, i, n, y, _, _, h => by simp at h
  | m :: ns, z :: ys, acc, 0, n, y, hn, h1, h2 => by
    have e1 : m = n := by simpa using h1
    have e2 : z = y := by simpa using h2
    subst e1 e2
    show valV (mergeK (putK acc (.inr m) z) (zipK ns ys)) (.inr m) = _
    rw [val_merge ns ys _ _ fun k hk e => (List.nodup_cons.mp hn).1 (by
      have : m = k := by simpa using e
      rw [this]
      exact hk), valV_put, if_pos rfl]
  | m :: ns, z :: ys, acc, i + 1, n, y, hn, h1, h2 => by
    show valV (mergeK (putK acc (.inr m) z) (zipK ns ys)) (.inr n) = _
    exact val_zip (i := i) (List.nodup_cons.mp hn).2 (by simpa using h1) (by simpa using h2)
theorem len_merge (ns : List Str) (ys : List V) : (mergeK [] (zipK ns ys)).length ≤ ns.length := by
  refine Nat.le_trans (length_mergeK _ []) ?_
  unfold zipK
  rw [List.length_nil, Nat.zero_add, List.length_zip, List.length_map]
  exact Nat.min_le_left _ _
/-- the names that each work asks stand ahead of it -/
def Ahead (ns : List Str) (k : Nat) (ws : List (Wk Str)) : Prop := ∀ i w, ws[i]? = some w → ∀ n ∈ wkNs w, n ∈ ns.take (k + i)
/-- what a dict of names tells of the first of them -/
def Tells (K : PySem.W.Frag) (kvs : List (Key × V)) (ns : List Str) (k : Nat) (g : Str → D) (F : Hp) : Prop := Tell K kvs (ns.take k) g F
theorem Tell.put {K : PySem.W.Frag} {kvs : List (Key × V)} {ns : List Str} {k : Nat} {n : Str} {v : V} {α : Type} {kv : Str → α} {x : α} {g : α → D} {F : Hp} (hn : ns.Nodup) (hk : ns[k]? = some n) (h : Tell K kvs (ns.take k) (fun m => g (kv m)) F) (hd : Dp K F v (g x)) :
    Tell K (putK kvs (.inr n) v) (ns.take (k + 1)) (fun m => g (upF kv n x m)) F := fun m hm => by
  rw [List.take_add_one, hk] at hm
  by_cases c : m = n
  · subst c
    exact ⟨v, by rw [valV_put, if_pos rfl], by
      show Dp K F v (g (upF kv m x m))
      unfold upF
      rw [if_pos rfl]
      exact hd⟩
  · rcases List.mem_append.mp hm with z | z
    · obtain ⟨u, h1, h2⟩ := h m z
      exact ⟨u, by rw [valV_put, if_neg (by simpa using c)]; exact h1, by
        show Dp K F u (g (upF kv n x m))
        unfold upF
        rw [if_neg c]
        exact h2⟩
    · exact absurd (by simpa using z) c
theorem Tell.sub {K : PySem.W.Frag} {kvs : List (Key × V)} {ns ms : List Str} {g : Str → D} {F : Hp} (h : Tell K kvs ns g F) (hs : ∀ m ∈ ms, m ∈ ns) : Tell K kvs ms g F := fun m hm => h m (hs m hm)
def rndWs : List Str := ["plus", "less", "times", "over", "number"]
theorem wk_tup (w : Wk Str) : ∃ ds, dWk w = .tuple ds ∧ atI ds 0 = some (.str (wkWd w)) := by
  cases w <;> exact ⟨_, rfl, rfl⟩
theorem wk_rnd (w : Wk Str) : inV (fV (.str (wkWd w))) ((rndWs.map PyData.str).map fV) = isRnd w := by
  cases w with
  | number q => exact (by decide +kernel : inV (V.str "number") ((rndWs.map PyData.str).map fV) = true)
  | sum b x y => cases b <;> first | exact (by decide +kernel : inV (V.str "plus") ((rndWs.map PyData.str).map fV) = true) | exact (by decide +kernel : inV (V.str "less") ((rndWs.map PyData.str).map fV) = true)
  | times x y => exact (by decide +kernel : inV (V.str "times") ((rndWs.map PyData.str).map fV) = true)
  | over x y => exact (by decide +kernel : inV (V.str "over") ((rndWs.map PyData.str).map fV) = true)
  | turned x => exact (by decide +kernel : inV (V.str "turned") ((rndWs.map PyData.str).map fV) = false)
  | size x => exact (by decide +kernel : inV (V.str "size") ((rndWs.map PyData.str).map fV) = false)
  | chos b x y => cases b <;> first | exact (by decide +kernel : inV (V.str "least") ((rndWs.map PyData.str).map fV) = false) | exact (by decide +kernel : inV (V.str "most") ((rndWs.map PyData.str).map fV) = false)
  | pick x y u v => exact (by decide +kernel : inV (V.str "pick") ((rndWs.map PyData.str).map fV) = false)
/-- an if, what follows told once -/
theorem us_if2 {X : Cx} {c : Expr} {ρ : DEnv} {b' : Bool} {F H : Hp} {σ : St} {body orelse rest : List Stmt} {pos : Pos} {Dn : Ends} (N : St → Hp → Prop) (hc : PDT X c ρ b') (hE : EnvOk X.K F ρ σ H) (k : ∀ σ H, N σ H → US X rest Dn σ H)
    (h1 : (∀ σ H, N σ H → US X rest Dn σ H) → b' = true → ∀ F' H', Step F H F' H' → EnvOk X.K F' ρ σ H' → US X body { Dn with nx := US X rest Dn } σ H')
    (h2 : (∀ σ H, N σ H → US X rest Dn σ H) → b' = false → ∀ F' H', Step F H F' H' → EnvOk X.K F' ρ σ H' → US X orelse { Dn with nx := US X rest Dn } σ H') : US X (.If c body orelse pos :: rest) Dn σ H := us_if hc hE (h1 k) (h2 k)
def R__law_run (ds : List D) (d : D) : Prop := ∃ (r : Rul) (ns : List Str) (ws : List (Wk Str)) (ms : List Rat) (isR : Bool), ds = [dRul r, .list (ns.map .str), .list (ws.map dWk), .list (ms.map dFr), .bool isR] ∧
  (VR r ∧ ns.Nodup ∧ ns.length = ms.length + ws.length ∧ ns.length ≤ 100 ∧ Ahead ns ms.length ws ∧ RunOk r isR (ns.drop ms.length) ws (markF 0 ns ms)) ∧ d = .list ((runV r isR (ns.drop ms.length) ws (markF 0 ns ms)).map dFr)
theorem cut_drop (xs : List D) (n : Nat) (h : n ≤ xs.length) : cutD xs (some (n : Int)) none = xs.drop n := by
  unfold cutD
  rw [HT.sIx_none, HT.sIx_nat, Nat.min_eq_left h]
  exact List.take_of_length_le (by rw [List.length_drop]; exact Nat.le_refl _)
abbrev runN : List Str := ["_law_ruler_here", "_law_names_here", "_law_works_here", "_law_marks", "_law_is_rounded", "_law_values", "_law_found", "_law_name", "_law_work", "_law_number_here"]
section
variable {P : Program} {w : World} {K : PySem.W.Frag} {mg : Str → Option Value} {base : Heap}
structure RunI (K : PySem.W.Frag) (r : Rul) (ns : List Str) (ws : List (Wk Str)) (ms : List Rat) (isR : Bool) (a l : Addr) (F0 H0 : Hp) (i : Nat) (F : Hp) (ρ : DEnv) (σ : St) (H : Hp) : Prop where
  env : EnvOk K F ρ σ H
  sh : ∃ o7 o8 o9 : Option D, ρ = [some (dRul r), some (.list (ns.map .str)), some (.list (ws.map dWk)), some (.list (ms.map dFr)), some (.bool isR), none, none, o7, o8, o9]
  st : StepM (fun _ => False) F0 H0 F H
  s5 : σ[5]? = some (some (.ref a))
  s6 : σ[6]? = some (some (.ref l))
  fa : F a = none
  fl : F l = none
  ne : a ≠ l
  h0a : H0 a = none
  h0l : H0 l = none
  ls : ∃ (kvs : List (Key × V)) (kv : Str → Rat) (vs : List V) (out : List Rat), H a = some (.dK kvs) ∧ kvs.length ≤ 100 + i ∧ Tell K kvs (ns.take (ms.length + i)) (fun n => dFr (kv n)) F ∧ H l = some (.lst vs) ∧ DpAll K F vs (out.map dFr) ∧ out.length ≤ i ∧
    RunOk r isR (ns.drop (ms.length + i)) (ws.drop i) kv ∧ runV r isR (ns.drop ms.length) ws (markF 0 ns ms) = out ++ runV r isR (ns.drop (ms.length + i)) (ws.drop i) kv
theorem sc__law_run : FnScope runN ["_law_ruler_here", "_law_names_here", "_law_works_here", "_law_marks", "_law_is_rounded"] (defScope (top 91)) := ⟨rfl, rfl, rfl, by decide +kernel, rfl, by decide +kernel, by decide +kernel⟩
theorem cal__law_run (T : Frees mg) (D0 : DefAt K mg "_law_run" 91) (c_exact : Cal P w K mg base "_law_exact" 3 ["_law_work", "_law_values"] (spEx K)) (c_rounded : Cal P w K mg base "_law_rounded" 3 ["_law_ruler_here", "_law_number_here"] (spP K R__law_rounded)) :
    Cal P w K mg base "_law_run" 4 ["_law_ruler_here", "_law_names_here", "_law_works_here", "_law_marks", "_law_is_rounded"] (spP K R__law_run) := by
  refine mk_calR D0 sc__law_run (fun ds d ⟨_, _, _, _, _, h, _⟩ => by subst h; rfl) (fun _ _ _ _ _ _ us hl => match us, hl with | [_, _, _, _, _], _ => rfl) (fun f cdv A outer s H0 E hr F H σ Q ds d hR e0 kq => ?_)
  obtain ⟨r, ns, ws, ms, isR, rfl, ⟨v, hnd, hlen, h100, hah, hok⟩, rfl⟩ := hR
  have hu := hu_of hr
  have hσl : σ.length = 10 := by
    rw [← e0.len]
    rfl
  -- values
  refine ⟨_, pss_cons (ps_set sc__law_run.nd (i := 5) rfl (Or.inl rfl) (pe_dictZip rfl T.dict rfl T.zip (pa_cons pe_u (pa_cons pe_u pa_nil))) rfl) pss_u, ?_⟩
  refine (show PD (cxN P w K mg base runN "_law_run" 91 f cdv A outer s H0 E) _ (startD runN [dRul r, .list (ns.map .str), .list (ws.map dWk), .list (ms.map dFr), .bool isR]) (.list (ns.map .str)) from pd_var 1) F σ H _ e0 fun vn F1 H1 s1 h1 => ?_
  refine (show PD (cxN P w K mg base runN "_law_run" 91 f cdv A outer s H0 E) _ (startD runN [dRul r, .list (ns.map .str), .list (ws.map dWk), .list (ms.map dFr), .bool isR]) (.list (ms.map dFr)) from pd_var 3) F1 σ H1 _ (e0.step s1) fun vm F2 H2 s2 h2 => ?_
  obtain ⟨ln, xn, rfl, qn, an⟩ := dp_lst (dp_mono s2.ff h1)
  obtain ⟨lm, ys, rfl, qm, am⟩ := dp_lst h2
  have exn : xn = ns.map V.str := by
    have := dpa_flat an (by
      rw [List.all_map]
      exact List.all_eq_true.mpr fun _ _ => rfl)
    rw [this, List.map_map]
    rfl
  subst exn
  refine ⟨ln, lm, ns, ys, rfl, Same.seq s2.fh qn, Same.seq s2.fh qm, fun a ha => ?_⟩
  have st2 : StepM (fun _ => False) F H F2 H2 := (s1.trans s2).m
  obtain ⟨st3, h0a, fa⟩ := st2.born (o := .dK (mergeK [] (zipK ns ys))) ha
  have e2 : EnvOk K F2 [some (dRul r), some (.list (ns.map .str)), some (.list (ws.map dWk)), some (.list (ms.map dFr)), some (.bool isR), none, none, none, none, none] (σ.set 5 (some (.ref a))) (upd H2 a (.dK (mergeK [] (zipK ns ys)))) := ((((e0.step s1).step s2).setU 5 (.ref a)).hp (Same.mut s2.fh fa))
  refine us_setNil 6 e2 (fun l hl hfl e3 => ?_) sc__law_run.nd
  have hal : a ≠ l := ne_of_none upd_same hl
  obtain ⟨st4, h0l, _⟩ := st3.born (o := .lst []) hl
  have hlenD : (zipD ((ns.drop ms.length).map PyData.str) (ws.map dWk)).length = ws.length := by
    unfold zipD
    rw [List.length_zipWith, List.length_map, List.length_map, List.length_drop]
    omega
  have tell0 : Tell K (mergeK [] (zipK ns ys)) (ns.take (ms.length + 0)) (fun n => dFr (markF 0 ns ms n)) F2 := fun n hn => by
    rw [Nat.add_zero] at hn
    obtain ⟨i, hi⟩ := List.mem_iff_getElem?.mp hn
    rw [List.getElem?_take] at hi
    by_cases c : i < ms.length
    · rw [if_pos c] at hi
      obtain ⟨y, hy, hdp⟩ := dpa_get am (show (ms.map dFr)[i]? = some (dFr ms[i]) by rw [List.getElem?_map, List.getElem?_eq_getElem c]; rfl)
      exact ⟨y, val_zip hnd hi hy, by
          show Dp K F2 y (dFr (markF 0 ns ms n))
          rw [markF_get hnd hi (List.getElem?_eq_getElem c)]
          exact hdp⟩
    · rw [if_neg c] at hi
      cases hi
  have I0 : RunI K r ns ws ms isR a l F H 0 F2 _ ((σ.set 5 (some (.ref a))).set 6 (some (.ref l))) (upd (upd H2 a (.dK (mergeK [] (zipK ns ys)))) l (.lst [])) := ⟨e3, ⟨none, none, none, rfl⟩, st4, by
    rw [List.getElem?_set_ne (by decide), List.getElem?_set_self (by rw [hσl]; decide)], by
    rw [List.getElem?_set_self (by rw [List.length_set, hσl]; decide)], fa, hfl, hal, h0a, h0l, mergeK [] (zipK ns ys), markF 0 ns ms, [], [], by rw [upd_ne hal, upd_same], Nat.le_trans (len_merge ns ys) (by omega), tell0, upd_same, .nil, Nat.le_refl _, hok, rfl⟩
  refine us_for (ds := zipD ((ns.drop ms.length).map PyData.str) (ws.map dWk)) (src_zip rfl T.zip (pd_is (pd_slL (pd_var 1) (pdo_some (pd_lenL T.len (pd_var 3))) pdo_none) (by rw [cut_drop _ _ (by rw [List.length_map, List.length_map]; omega), List.length_map, List.map_drop])) (pd_var 2)) (pg_tup (n := 2) rfl (pgs_cons (pg_name (i := 7) sc__law_run.nd rfl (Or.inl rfl)) (pgs_cons (pg_name (i := 8) sc__law_run.nd rfl (Or.inl rfl)) pgs_nil))) tg_pair (fun d hd => ?_) e3
    (fun F3 H3 i F' ρ' σ' H' => Same F3 F' ∧ RunI K r ns ws ms isR a l F H i F' ρ' σ' H') (fun F3 H3 s3 e4 => ?_) (fun F3 H3 i F' ρ' σ' H' h => ⟨h.1, h.2.env⟩) (fun F3 H3 i d F' ρ' σ' H' F4 σ4 H4 s3 hd hI s4 hl4 hk e4 => ?_) (fun F3 H3 F' ρ' σ' H' s3 hI => ?_)
  · unfold zipD at hd
    obtain ⟨x, y, _, _, rfl⟩ : ∃ x y, True ∧ True ∧ d = .tuple [x, y] := by
      obtain ⟨i, hi, rfl⟩ := List.mem_iff_getElem.mp hd
      rw [List.getElem_zipWith]
      exact ⟨_, _, trivial, trivial, rfl⟩
    exact ⟨_, _, rfl⟩
  · obtain ⟨kvs, kv, vs, out, k1, k2, k3, k4, k5, k6, k7, k8⟩ := I0.ls
    obtain ⟨q1, q2⟩ := s3.own k1 I0.fa
    obtain ⟨q3, q4⟩ := s3.own k4 I0.fl
    exact ⟨Same.refl _, e4, I0.sh, I0.st.trans s3.m, I0.s5, I0.s6, q2, q4, hal, h0a, h0l, kvs, kv, vs, out, q1, k2, k3.mono s3.ff, q3, dpa_mono s3.ff k5, k6, k7, k8⟩
  · obtain ⟨hff, I⟩ := hI
    obtain ⟨o7, o8, o9, rfl⟩ := I.sh
    obtain ⟨kvs, kv, vs, out, k1, k2, k3, k4, k5, k6, k7, k8⟩ := I.ls
    obtain ⟨q1, q2⟩ := s4.own k1 I.fa
    obtain ⟨q3, q4⟩ := s4.own k4 I.fl
    have hiw : i < ws.length := by
      have := (List.getElem?_eq_some_iff.mp hd).1
      rwa [hlenD] at this
    obtain ⟨n, hn⟩ : ∃ n, ns[ms.length + i]? = some n := ⟨_, List.getElem?_eq_getElem (by omega)⟩
    obtain ⟨wk, hwk⟩ : ∃ wk, ws[i]? = some wk := ⟨_, List.getElem?_eq_getElem hiw⟩
    have hde : d = .tuple [.str n, dWk wk] := by
      unfold zipD at hd
      rw [List.getElem?_zipWith, List.getElem?_map, List.getElem?_drop, hn, List.getElem?_map, hwk] at hd
      exact (Option.some.inj hd).symm
    subst hde
    have hdn : ns.drop (ms.length + i) = n :: ns.drop (ms.length + (i + 1)) := by
      rw [List.drop_eq_getElem_cons (by omega)]
      congr 1
      exact Option.some.inj ((List.getElem?_eq_getElem (by omega)).symm.trans hn)
    have hdw : ws.drop i = wk :: ws.drop (i + 1) := by
      rw [List.drop_eq_getElem_cons hiw]
      congr 1
      exact Option.some.inj ((List.getElem?_eq_getElem hiw).symm.trans hwk)
    rw [hdn, hdw] at k7 k8
    obtain ⟨b7, m7⟩ := k7
    have hs5 : σ4[5]? = some (some (.ref a)) := (hk 5 (by simp)).trans I.s5
    have hs6 : σ4[6]? = some (some (.ref l)) := (hk 6 (by simp)).trans I.s6
    have hl10 : σ4.length = 10 := by
      rw [← e4.len]
      rfl
    have st4' := I.st.trans (s4.m (M := fun _ => False))
    have kt := k3.mono s4.ff
    -- number = _law_exact(work, values)
    obtain ⟨fx, fdx, hmx, Fx, hkx, hbx⟩ := c_exact.ex
    obtain ⟨v8, hv8, dv8⟩ := e4.at_ 8 (dWk wk) rfl
    refine ⟨_, pss_cons (ps_set sc__law_run.nd (i := 9) rfl (Or.inl rfl) (pe_call Fx hr rfl hmx hkx hbx .nil pass0 (pa_cons (pv 8) (pa_cons (pv 5) pa_nil))) rfl) pss_u, ?_⟩
    refine ⟨v8, hv8, _, hs5, F4, wk, v8, a, kvs, kv, rfl, s4.fh, dv8, ⟨q2, q1, kt.sub fun m hm => hah i wk hwk m hm⟩, b7, fun v9 F5 H5 s5 h5 => ?_⟩
    have e5 : EnvOk K F5 [some (dRul r), some (.list (ns.map .str)), some (.list (ws.map dWk)), some (.list (ms.map dFr)), some (.bool isR), none, none, some (.str n), some (dWk wk), some (oFr (exa kv wk))] (σ4.set 9 (some v9)) H5 := (e4.step s5).set 9 h5
    obtain ⟨q5, q6⟩ := s5.own q1 q2
    obtain ⟨q7, q8⟩ := s5.own q3 q4
    have st5 := st4'.trans (s5.m (M := fun _ => False))
    refine us_ifR (pdt_cmp (qc_isN (pd_var 9))) e5 (fun hb F6 H6 s6 e6 => ?_) (fun hb F6 H6 s6 e6 => ?_)
    · obtain ⟨q9, q10⟩ := s6.own q7 q8
      have hex : exa kv wk = none := by
        cases hx : exa kv wk with
        | none => rfl
        | some q =>
          rw [hx] at hb
          cases hb
      have hout : runV r isR (ns.drop ms.length) ws (markF 0 ns ms) = out := by
        rw [k8]
        show out ++ (match exa kv wk with
          | none => []
          | some q => _) = out
        rw [hex, List.append_nil]
      have e7 := e6.pub (i := 6) q10 q9 (dpa_mono ((s4.ff.trans s5.ff).trans s6.ff) k5) (by rw [List.getElem?_set_ne (by decide)]; exact hs6)
      rw [← hout] at e7
      exact us_ret (pd_var 6) e7 (fun v F7 H7 s7 h7 => kq v F7 H7 ((StepM.pure ((st5.trans s6.m).pub q10 h0l q9)).trans s7) h7)
    · obtain ⟨q, hq⟩ : ∃ q, exa kv wk = some q := by
        cases hx : exa kv wk with
        | none =>
          rw [hx] at hb
          cases hb
        | some q => exact ⟨q, rfl⟩
      obtain ⟨bq, mq⟩ := m7 q hq
      rw [hq] at e6
      obtain ⟨q9, q10⟩ := s6.own q7 q8
      obtain ⟨q11, q12⟩ := s6.own q5 q6
      have st6 := st5.trans (s6.m (M := fun _ => False))
      have ff6 := (s4.ff.trans s5.ff).trans s6.ff
      have mulE : (isR && isRnd wk) = true → stepQ r isR wk q = rnd r q := fun h => by
        unfold stepQ
        rw [if_pos h]
      have mulE2 : (isR && isRnd wk) = false → stepQ r isR wk q = q := fun h => by
        unfold stepQ
        rw [if_neg (by rw [h]; decide)]
      obtain ⟨dw, hdw1, hdw2⟩ := wk_tup wk
      have e6' : EnvOk K F6 [some (dRul r), some (.list (ns.map .str)), some (.list (ws.map dWk)), some (.list (ms.map dFr)), some (.bool isR), none, none, some (.str n), some (.tuple dw), some (dFr q)] (σ4.set 9 (some v9)) H6 := by
        rw [← hdw1]
        exact e6
      have s59 : (σ4.set 9 (some v9))[5]? = some (some (.ref a)) := by rw [List.getElem?_set_ne (by decide)]; exact hs5
      have s69 : (σ4.set 9 (some v9))[6]? = some (some (.ref l)) := by rw [List.getElem?_set_ne (by decide)]; exact hs6
      refine us_if2 (b' := isR && isRnd wk) (fun σ7 H7 => ∃ F7, EnvOk K F7 [some (dRul r), some (.list (ns.map .str)), some (.list (ws.map dWk)), some (.list (ms.map dFr)), some (.bool isR), none, none, some (.str n), some (dWk wk), some (dFr (stepQ r isR wk q))] σ7 H7 ∧ Step F6 H6 F7 H7 ∧ σ7[5]? = some (some (.ref a)) ∧ σ7[6]? = some (some (.ref l)))
        (pdw (pdw_and (pdt_val (pd_var 4)) fun _ => pdw_and1 (pdt_cmp (qc_is (qc_inT (ds := rndWs.map .str) (pd_ixT (pd_var 8) pd_int hdw2) (pd_tup (pda_cons pd_str (pda_cons pd_str (pda_cons pd_str (pda_cons pd_str (pda_cons pd_str pda_nil)))))) rfl rfl) (wk_rnd wk))))) e6' (fun σ7 H7 h => ?_) (fun k hb F7 H7 s7 e7 => ?_) (fun k hb F7 H7 s7 e7 => ?_)
      · obtain ⟨F7, e7, s7, t5, t6⟩ := h
        obtain ⟨u1, u2⟩ := s7.own q11 q12
        obtain ⟨u3, u4⟩ := s7.own q9 q10
        obtain ⟨vn7, hvn, dvn⟩ := e7.at_ 7 (.str n) rfl
        obtain ⟨vq, hvq, dvq⟩ := e7.at_ 9 (dFr (stepQ r isR wk q)) rfl
        obtain rfl : vn7 = .str n := dp_str dvn
        have st7 := st6.trans (s7.m (M := fun _ => False))
        refine ⟨_, pss_cons (ps_dput hu (pv 5) (pv 7) (pv 9) rfl) pss_u, ?_⟩
        refine ⟨vq, hvq, .ref a, t5, .str n, hvn, a, upd H7 a (.dK (putK kvs (.inr n) vq)), rfl, .inl ⟨kvs, .inr n, u1, rfl, Nat.lt_of_le_of_lt (show kvs.length ≤ 300 by omega) (by decide), rfl⟩, ?_⟩
        have e8 := e7.hp (Same.mut (o := .dK (putK kvs (.inr n) vq)) s7.fh u2)
        have st8 := st7.mut (o := .dK (putK kvs (.inr n) vq)) u2 (.inl h0a)
        have ull : (upd H7 a (.dK (putK kvs (.inr n) vq))) l = some (.lst vs) := by rw [upd_ne (Ne.symm hal)]; exact u3
        refine us_app 6 (pd_var 9) e8 t6 ull u4 ?_ (fun v10 F9 H9 s9 h9 f9 g9 e9 => ?_)
        · rw [dpa_len k5, List.length_map]
          exact Nat.lt_of_le_of_lt (show out.length ≤ 300 by omega) (by decide)
        · obtain ⟨w1, w2⟩ := s9.own upd_same u2
          have ff9 := ((ff6.trans s7.ff).trans s9.ff)
          have st9 := (st8.trans (s9.m (M := fun _ => False))).mut (o := .lst (vs ++ [v10])) f9 (.inl h0l)
          refine us_nil ⟨F9, _, hff.trans ff9, e9, ⟨_, _, _, rfl⟩, st9, t5, t6, w2, f9, hal, h0a, h0l, putK kvs (.inr n) vq, upF kv n (stepQ r isR wk q), vs ++ [v10], out ++ [stepQ r isR wk q], by rw [upd_ne hal]; exact w1, Nat.le_trans (length_putK _ _ _) (by omega), ?_, upd_same, ?_, ?_, mq, ?_⟩
          · exact (Tell.put hnd hn (k3.mono ((ff6.trans s7.ff))) dvq).mono s9.ff
          · rw [List.map_append]
            exact dpa_app (dpa_mono ff9 k5) (.cons h9 .nil)
          · rw [List.length_append]
            exact Nat.succ_le_succ k6
          · rw [k8, List.append_assoc]
            show out ++ (match exa kv wk with
              | none => []
              | some q => _) = _
            rw [hq]
            rfl
      · refine us_set 9 (d := dFr (stepQ r isR wk q)) (pd_is (pd_call c_rounded hr (pda_cons (pd_var 0) (pda_cons (pd_var 9) pda_nil)) ⟨r, q, rfl, ⟨v, bq⟩, rfl⟩) (by rw [mulE hb])) e7 (fun v10 F8 H8 s8 h8 e8 => ?_) sc__law_run.nd
        refine us_nil (k _ _ ⟨F8, ?_, s7.trans s8, by rw [List.getElem?_set_ne (by decide)]; exact s59, by rw [List.getElem?_set_ne (by decide)]; exact s69⟩)
        rw [hdw1]
        exact e8
      · refine us_nil (k _ _ ⟨F7, ?_, s7, s59, s69⟩)
        rw [hdw1, mulE2 hb]
        exact e7
  · obtain ⟨hff, I⟩ := hI
    obtain ⟨o7, o8, o9, rfl⟩ := I.sh
    obtain ⟨kvs, kv, vs, out, k1, k2, k3, k4, k5, k6, k7, k8⟩ := I.ls
    have hout : runV r isR (ns.drop ms.length) ws (markF 0 ns ms) = out := by
      rw [k8, hlenD, List.drop_length]
      have : ∀ (xs : List Str), runV r isR xs [] kv = [] := fun xs => by cases xs <;> rfl
      rw [this, List.append_nil]
    have e5 := I.env.pub (i := 6) I.fl k4 k5 I.s6
    rw [← hout] at e5
    exact us_ret (pd_var 6) e5 (fun v F7 H7 s7 h7 => kq v F7 H7 ((StepM.pure (I.st.pub I.fl h0l k4)).trans s7) h7)
end
end Rs
end

section
set_option Elab.async false
set_option linter.all false
set_option maxRecDepth 100000
set_option maxHeartbeats 8000000
namespace Rs
open PySem PySem.Spec L2
/-! ### _law_entries -/
def ent0 : Ent := ⟨0, 0, 0, 0, 0, none⟩
noncomputable def entV (r : Rul) : List Str → List (Wk Str) → (Str → Ent) → List Ent
  | n :: ns, w :: ws, kn => match entOf r kn w with
    | none => []
    | some e => e :: entV r ns ws (upF kn n e)
  | _, _, _ => []
def EntOk (r : Rul) : List Str → List (Wk Str) → (Str → Ent) → Prop
  | n :: ns, w :: ws, kn => (∀ m ∈ wkNs w, EB (kn m)) ∧ (∀ q, w = .number q → Bt 700 q) ∧ ∀ e, entOf r kn w = some e → NGE e ∧ EntOk r ns ws (upF kn n e)
  | _, _, _ => True
noncomputable def spE (r : Rul) (s : Span) : Ent := entMarks r s.1 s.2
def R__law_entries (ds : List D) (d : D) : Prop := ∃ (r : Rul) (ns : List Str) (ws : List (Wk Str)) (sps : List Span), ds = [dRul r, .list (ns.map .str), .list (ws.map dWk), .list (sps.map dSp)] ∧
  (VR r ∧ ns.Nodup ∧ ns.length = sps.length + ws.length ∧ ns.length ≤ 100 ∧ Ahead ns sps.length ws ∧ (∀ s ∈ sps, SB 750 s) ∧ EntOk r (ns.drop sps.length) ws (markF ent0 ns (sps.map (spE r)))) ∧
  d = .list ((entV r (ns.drop sps.length) ws (markF ent0 ns (sps.map (spE r)))).map dEn)
@[reducible] def oEn : Option Ent → D
  | none => .none
  | some e => dEn e
def restE : List Stmt → List Stmt
  | [_, _, _, .For _ _ (_ :: _ :: r) _ _, _] => r
  | _ => []
def idxE : List Stmt → Expr
  | [_, _, _, .For _ _ [_, _, _, .Assign [.Subscript _ e _] _ _, _] _ _, _] => e
  | _ => .Constant .none 0 ⟨0, 0, 0, 0⟩
abbrev etN : List Str := ["_law_ruler_here", "_law_names_here", "_law_works_here", "_law_spans", "_law_known", "_law_name", "_law_span", "_law_found", "_law_at", "_law_work", "_law_entry"]
section
variable {P : Program} {w : World} {K : PySem.W.Frag} {mg : Str → Option Value} {base : Heap} {C R0 fI : Addr}
structure EntsI (K : PySem.W.Frag) (r : Rul) (ns : List Str) (ws : List (Wk Str)) (sps : List Span) (a l : Addr) (F0 H0 : Hp) (i : Nat) (F : Hp) (ρ : DEnv) (σ : St) (H : Hp) : Prop where
  env : EnvOk K F ρ σ H
  sh : ∃ o5 o6 o8 o9 o10 : Option D, ρ = [some (dRul r), some (.list (ns.map .str)), some (.list (ws.map dWk)), some (.list (sps.map dSp)), none, o5, o6, none, o8, o9, o10]
  st : StepM (fun _ => False) F0 H0 F H
  s4 : σ[4]? = some (some (.ref a))
  s7 : σ[7]? = some (some (.ref l))
  fa : F a = none
  fl : F l = none
  ne : a ≠ l
  h0a : H0 a = none
  h0l : H0 l = none
  ls : ∃ (kvs : List (Key × V)) (kn : Str → Ent) (vs : List V) (out : List Ent), H a = some (.dK kvs) ∧ kvs.length ≤ 100 + i ∧ Tell K kvs (ns.take (sps.length + i)) (fun n => dEn (kn n)) F ∧ H l = some (.lst vs) ∧ DpAll K F vs (out.map dEn) ∧ out.length ≤ i ∧
    EntOk r (ns.drop (sps.length + i)) (ws.drop i) kn ∧ entV r (ns.drop sps.length) ws (markF ent0 ns (sps.map (spE r))) = out ++ entV r (ns.drop (sps.length + i)) (ws.drop i) kn
theorem sc__law_entries : FnScope etN ["_law_ruler_here", "_law_names_here", "_law_works_here", "_law_spans"] (defScope (top 92)) := ⟨rfl, rfl, rfl, by decide +kernel, rfl, by decide +kernel, by decide +kernel⟩
theorem cal__law_entries (T : Frees mg) (NT : NopT K mg C R0 fI) (D0 : DefAt K mg "_law_entries" 92) (c_marks : Cal P w K mg base "entry_of_marks" 7 ["ruler", "low", "high"] (spP K R_entry_of_marks)) (c_entry : CalX P w K mg base "entry_of" 10 ["ruler", "work", "known", "row"] (spEnt K C)) :
    Cal P w K mg base "_law_entries" 11 ["_law_ruler_here", "_law_names_here", "_law_works_here", "_law_spans"] (spP K R__law_entries) := by
  refine mk_calR D0 sc__law_entries (fun ds d ⟨_, _, _, _, h, _⟩ => by subst h; rfl) (fun _ _ _ _ _ _ us hl => match us, hl with | [_, _, _, _], _ => rfl) (fun f cdv A outer s H0 E hr F H σ Q ds d hR e0 kq => ?_)
  obtain ⟨r, ns, ws, sps, rfl, ⟨v, hnd, hlen, h100, hah, hsp, hok⟩, rfl⟩ := hR
  have hu := hu_of hr
  have hσl : σ.length = 11 := by
    rw [← e0.len]
    rfl
  -- known = {}
  refine ⟨_, pss_cons (ps_set sc__law_entries.nd (i := 4) rfl (Or.inl rfl) pe_dnewK rfl) pss_u, fun a ha => ?_⟩
  have fa : F a = none := Same.free e0.fh ha
  have st1 : StepM (fun _ => False) F H F (upd H a (.dK [])) := (StepM.refl e0.fh).mut fa (.inl ha)
  have e1 : EnvOk K F [some (dRul r), some (.list (ns.map .str)), some (.list (ws.map dWk)), some (.list (sps.map dSp)), none, none, none, none, none, none, none] (σ.set 4 (some (.ref a))) (upd H a (.dK [])) := ((e0.setU 4 (.ref a)).hp (Same.mut e0.fh fa))
  have hs4 : (σ.set 4 (some (.ref a)))[4]? = some (some (.ref a)) := by rw [List.getElem?_set_self (by rw [hσl]; decide)]
  obtain ⟨es, hes⟩ : ∃ es, es = sps.map (spE r) := ⟨_, rfl⟩
  have hlz : (zipD (ns.map PyData.str) (sps.map dSp)).length = sps.length := by
    unfold zipD
    rw [List.length_zipWith, List.length_map, List.length_map]
    omega
  refine us_for (ds := zipD (ns.map PyData.str) (sps.map dSp)) (src_zip rfl T.zip (pd_var 1) (pd_var 3)) (pg_tup (n := 2) rfl (pgs_cons (pg_name (i := 5) sc__law_entries.nd rfl (Or.inl rfl)) (pgs_cons (pg_name (i := 6) sc__law_entries.nd rfl (Or.inl rfl)) pgs_nil))) tg_pair (fun d hd => ?_) e1
    (fun F3 H3 i F' ρ' σ' H' => Same F3 F' ∧ EnvOk K F' ρ' σ' H' ∧ (∃ o5 o6 : Option D, ρ' = [some (dRul r), some (.list (ns.map .str)), some (.list (ws.map dWk)), some (.list (sps.map dSp)), none, o5, o6, none, none, none, none]) ∧ StepM (fun _ => False) F H F' H' ∧ σ'[4]? = some (some (.ref a)) ∧ F' a = none ∧ ∃ kvs, H' a = some (.dK kvs) ∧ kvs.length ≤ i ∧ Tell K kvs (ns.take i) (fun n => dEn (markF ent0 ns es n)) F')
    (fun F3 H3 s3 e3 => ?_) (fun F3 H3 i F' ρ' σ' H' h => ⟨h.1, h.2.1⟩) (fun F3 H3 i d F' ρ' σ' H' F4 σ4 H4 s3 hd hI s4 hl4 hk e4 => ?_) (fun F3 H3 F' ρ' σ' H' s3 hI => ?_)
  · unfold zipD at hd
    obtain ⟨i, hi, rfl⟩ := List.mem_iff_getElem.mp hd
    rw [List.getElem_zipWith]
    exact ⟨_, _, rfl⟩
  · obtain ⟨q1, q2⟩ := s3.own (a := a) upd_same fa
    exact ⟨Same.refl _, e3, ⟨none, none, rfl⟩, st1.trans s3.m, hs4, q2, [], q1, Nat.le_refl _, fun n h => by
      rw [List.take_zero] at h
      cases h⟩
  · obtain ⟨hff, _, ⟨o5, o6, rfl⟩, st, hs, hfa, kvs, hkv, hkl, ht⟩ := hI
    obtain ⟨q1, q2⟩ := s4.own hkv hfa
    have hil : i < sps.length := by
      have := (List.getElem?_eq_some_iff.mp hd).1
      rwa [hlz] at this
    obtain ⟨n, hn⟩ : ∃ n, ns[i]? = some n := ⟨_, List.getElem?_eq_getElem (by omega)⟩
    obtain ⟨sp, hspi⟩ : ∃ sp, sps[i]? = some sp := ⟨_, List.getElem?_eq_getElem hil⟩
    have hde : d = .tuple [.str n, dSp sp] := by
      unfold zipD at hd
      rw [List.getElem?_zipWith, List.getElem?_map, hn, List.getElem?_map, hspi] at hd
      exact (Option.some.inj hd).symm
    subst hde
    have hsb := hsp sp (List.mem_of_getElem? hspi)
    have hs4' : σ4[4]? = some (some (.ref a)) := (hk 4 (by simp)).trans hs
    have hei : markF ent0 ns es n = entMarks r sp.1 sp.2 := by
      rw [hes]
      exact markF_get (m := spE r sp) hnd hn (by rw [List.getElem?_map, hspi]; rfl)
    refine ⟨_, pss_one (ps_dput hu (pv 4) (pv 5) pe_u rfl), ?_⟩
    refine (show PD (cxN P w K mg base etN "_law_entries" 92 f cdv A outer s H0 E) _ [some (dRul r), some (.list (ns.map .str)), some (.list (ws.map dWk)), some (.list (sps.map dSp)), none, some (.str n), some (dSp sp), none, none, none, none] (dEn (entMarks r sp.1 sp.2)) from pd_call c_marks (hr.mono (by decide)) (pda_cons (pd_var 0) (pda_cons (pd_ixT (pd_var 6) pd_int) (pda_cons (pd_ixT (pd_var 6) pd_int) pda_nil))) ⟨r, sp.1, sp.2, rfl, ⟨v, hsb.a, hsb.b⟩, rfl⟩) F4 σ4 H4 _ e4 fun ve F5 H5 s5 h5 => ?_
    have e5 := e4.step s5
    obtain ⟨vn7, hvn, dvn⟩ := e5.at_ 5 (.str n) rfl
    obtain rfl : vn7 = .str n := dp_str dvn
    obtain ⟨q3, q4⟩ := s5.own q1 q2
    refine ⟨.ref a, hs4', .str n, hvn, a, upd H5 a (.dK (putK kvs (.inr n) ve)), rfl, .inl ⟨kvs, .inr n, q3, rfl, Nat.lt_of_le_of_lt (show kvs.length ≤ 300 by omega) (by decide), rfl⟩, ?_⟩
    refine ⟨F5, _, (hff.trans s4.ff).trans s5.ff, e5.hp (Same.mut s5.fh q4), ⟨_, _, rfl⟩, ((st.trans (s4.m (M := fun _ => False))).trans s5.m).mut q4 (.inl ha), hs4', q4, _, upd_same, Nat.le_trans (length_putK _ _ _) (by omega), fun m hm => ?_⟩
    rw [List.take_add_one, hn] at hm
    by_cases c : m = n
    · subst c
      exact ⟨ve, by rw [valV_put, if_pos rfl], by
        show Dp K F5 ve (dEn (markF ent0 ns es m))
        rw [hei]
        exact h5⟩
    · rcases List.mem_append.mp hm with z | z
      · obtain ⟨u, h1, h2⟩ := ht m z
        exact ⟨u, by rw [valV_put, if_neg (by simpa using c)]; exact h1, dp_mono (s4.ff.trans s5.ff) h2⟩
      · exact absurd (by simpa using z) c
  · obtain ⟨hff, e4, ⟨o5, o6, rfl⟩, st, hs, hfa, kvs, hkv, hkl, ht⟩ := hI
    rw [hlz] at hkl ht
    refine us_setNil 7 e4 (fun l hl hfl e5 => ?_) sc__law_entries.nd
    have hal : a ≠ l := ne_of_none hkv hl
    obtain ⟨st5, h0l, _⟩ := st.born (o := .lst []) hl
    have hσ' : σ'.length = 11 := by
      rw [← e4.len]
      rfl
    have I0 : EntsI K r ns ws sps a l F H 0 F' _ (σ'.set 7 (some (.ref l))) (upd H' l (.lst [])) := ⟨e5, ⟨_, _, none, none, none, rfl⟩, st5, by
      rw [List.getElem?_set_ne (by decide)]
      exact hs, by
      rw [List.getElem?_set_self (by rw [hσ']; decide)], hfa, hfl, hal, ha, h0l, kvs, markF ent0 ns es, [], [], by rw [upd_ne hal]; exact hkv, by omega, ht, upd_same, .nil, Nat.le_refl _, by rw [hes]; exact hok, by rw [hes]; rfl⟩
    have hlenE : (enumD (ws.map dWk)).length = ws.length := by
      unfold enumD
      rw [List.length_mapIdx, List.length_map]
    refine us_for (ds := enumD (ws.map dWk)) (src_enum rfl T.enumerate (pd_var 2)) (pg_tup (n := 2) rfl (pgs_cons (pg_name (i := 8) sc__law_entries.nd rfl (Or.inl rfl)) (pgs_cons (pg_name (i := 9) sc__law_entries.nd rfl (Or.inl rfl)) pgs_nil))) tg_pair (fun d hd => by
        obtain ⟨i, x, _, rfl⟩ := mem_enum hd
        exact ⟨_, _, rfl⟩) e5 (fun F3 H3 i F' ρ' σ' H' => Same F3 F' ∧ EntsI K r ns ws sps a l F H i F' ρ' σ' H') (fun F6 H6 s6 e6 => ?_) (fun F6 H6 i F' ρ' σ' H' h => ⟨h.1, h.2.env⟩) (fun F6 H6 i d F' ρ' σ' H' F7 σ7 H7 s6 hd hI s7 hl7 hk e7 => ?_) (fun F6 H6 F' ρ' σ' H' s6 hI => ?_)
    · obtain ⟨kvs, kn, vs, out, k1, k2, k3, k4, k5, k6, k7, k8⟩ := I0.ls
      obtain ⟨q1, q2⟩ := s6.own k1 I0.fa
      obtain ⟨q3, q4⟩ := s6.own k4 I0.fl
      exact ⟨Same.refl _, e6, I0.sh, I0.st.trans s6.m, I0.s4, I0.s7, q2, q4, hal, ha, h0l, kvs, kn, vs, out, q1, k2, k3.mono s6.ff, q3, dpa_mono s6.ff k5, k6, k7, k8⟩
    · obtain ⟨hff6, I⟩ := hI
      obtain ⟨o5, o6, o8, o9, o10, rfl⟩ := I.sh
      obtain ⟨kvs, kn, vs, out, k1, k2, k3, k4, k5, k6, k7, k8⟩ := I.ls
      have hiw : i < ws.length := by
        have := (List.getElem?_eq_some_iff.mp hd).1
        rwa [hlenE] at this
      obtain ⟨n, hn⟩ : ∃ n, ns[sps.length + i]? = some n := ⟨_, List.getElem?_eq_getElem (by omega)⟩
      obtain ⟨wk, hwk⟩ : ∃ wk, ws[i]? = some wk := ⟨_, List.getElem?_eq_getElem hiw⟩
      have hde : d = .tuple [.int (i : Int), dWk wk] := by
        unfold enumD at hd
        rw [List.getElem?_mapIdx, List.getElem?_map, hwk] at hd
        exact (Option.some.inj hd).symm
      subst hde
      have hdn : ns.drop (sps.length + i) = n :: ns.drop (sps.length + (i + 1)) := by
        rw [List.drop_eq_getElem_cons (by omega)]
        congr 1
        exact Option.some.inj ((List.getElem?_eq_getElem (by omega)).symm.trans hn)
      have hdw : ws.drop i = wk :: ws.drop (i + 1) := by
        rw [List.drop_eq_getElem_cons hiw]
        congr 1
        exact Option.some.inj ((List.getElem?_eq_getElem hiw).symm.trans hwk)
      rw [hdn, hdw] at k7 k8
      obtain ⟨b7, n7, m7⟩ := k7
      have hs4 : σ7[4]? = some (some (.ref a)) := (hk 4 (by simp)).trans I.s4
      have hs7 : σ7[7]? = some (some (.ref l)) := (hk 7 (by simp)).trans I.s7
      have hl11 : σ7.length = 11 := by
        rw [← e7.len]
        rfl
      refine us_set 10 pd_non e7 (fun v8 F8 H8 s8 h8 e8 => ?_) sc__law_entries.nd
      have hS := (s7.trans s8)
      obtain ⟨q1, q2⟩ := hS.own k1 I.fa
      obtain ⟨q3, q4⟩ := hS.own k4 I.fl
      have hff8 : Same F' F8 := hS.ff
      have st8 := I.st.trans (hS.m (M := fun _ => False))
      have s48 : (σ7.set 10 (some v8))[4]? = some (some (.ref a)) := by rw [List.getElem?_set_ne (by decide)]; exact hs4
      have s78 : (σ7.set 10 (some v8))[7]? = some (some (.ref l)) := by rw [List.getElem?_set_ne (by decide)]; exact hs7
      obtain ⟨vr, hvr, dvr⟩ := e8.at_ 0 (dRul r) rfl
      obtain ⟨vw, hvw, dvw⟩ := e8.at_ 9 (dWk wk) rfl
      obtain ⟨vi, hvi, dvi⟩ := e8.at_ 8 (.int (i : Int)) rfl
      obtain rfl : vi = .int (i : Int) := dp_int dvi
      obtain ⟨fx, fdx, hmx, Fx, hkx, hbx⟩ := c_entry.ex
      have ffA : Same F6 F8 := hff6.trans hff8
      have cont : ∀ (Dn : Ends), (∀ σ H', (∃ F' ρ, Same F6 F' ∧ EntsI K r ns ws sps a l F H (i + 1) F' ρ σ H') → Dn.nx σ H') → (∀ v H, Q v H → Dn.rt v H) → ∀ (oe : Option Ent) (v9 : V) (F9 H9 : Hp), entOf r kn wk = oe → Step F8 H8 F9 H9 → Dp K F9 v9 (oEn oe) →
          US (cxN P w K mg base etN "_law_entries" 92 f cdv A outer s H0 E) (restE (defBody (top 92))) Dn ((σ7.set 10 (some v8)).set 10 (some v9)) H9 := by
        intro Dn hnx hrt oe v9 F9 H9 hoe s9 h9
        have e9 : EnvOk K F9 [some (dRul r), some (.list (ns.map .str)), some (.list (ws.map dWk)), some (.list (sps.map dSp)), none, o5, o6, none, some (.int (i : Int)), some (dWk wk), some (oEn oe)] ((σ7.set 10 (some v8)).set 10 (some v9)) H9 := (e8.step s9).set 10 h9
        obtain ⟨q5, q6⟩ := s9.own q1 q2
        obtain ⟨q7, q8⟩ := s9.own q3 q4
        have s49 : ((σ7.set 10 (some v8)).set 10 (some v9))[4]? = some (some (.ref a)) := by rw [List.getElem?_set_ne (by decide)]; exact s48
        have s79 : ((σ7.set 10 (some v8)).set 10 (some v9))[7]? = some (some (.ref l)) := by rw [List.getElem?_set_ne (by decide)]; exact s78
        refine us_ifR (pdt_cmp (qc_isN (pd_var 10))) e9 (fun hb F10 H10 s10 e10 => ?_) (fun hb F10 H10 s10 e10 => ?_)
        · have hn0 : oe = none := by
            cases oe with
            | none => rfl
            | some e => cases hb
          subst hn0
          obtain ⟨q9, q10⟩ := s10.own q7 q8
          have hout : entV r (ns.drop sps.length) ws (markF ent0 ns (sps.map (spE r))) = out := by
            rw [k8]
            show out ++ (match entOf r kn wk with
              | none => []
              | some q => _) = out
            rw [hoe, List.append_nil]
          have e11 := e10.pub (i := 7) q10 q9 (dpa_mono ((hff8.trans s9.ff).trans s10.ff) k5) s79
          rw [← hout] at e11
          exact us_ret (pd_var 7) e11 (fun v F7 H7 s7 h7 => hrt v H7 (kq v F7 H7 ((StepM.pure (((st8.trans (s9.m (M := fun _ => False))).trans s10.m).pub q10 h0l q9)).trans s7) h7))
        · obtain ⟨e, rfl⟩ : ∃ e, oe = some e := by
            cases oe with
            | none => cases hb
            | some e => exact ⟨e, rfl⟩
          obtain ⟨ng, mq⟩ := m7 e hoe
          obtain ⟨q9, q10⟩ := s10.own q7 q8
          obtain ⟨q11, q12⟩ := s10.own q5 q6
          have st10 := (st8.trans (s9.m (M := fun _ => False))).trans (s10.m (M := fun _ => False))
          have ff10 := (hff8.trans s9.ff).trans s10.ff
          obtain ⟨ve, hve, dve⟩ := e10.at_ 10 (dEn e) rfl
          have hnm : PD (cxN P w K mg base etN "_law_entries" 92 f cdv A outer s H0 E) (idxE (defBody (top 92))) [some (dRul r), some (.list (ns.map .str)), some (.list (ws.map dWk)), some (.list (sps.map dSp)), none, o5, o6, none, some (.int (i : Int)), some (dWk wk), some (dEn e)] (.str n) :=
            pd_ixL (i := (((sps.map dSp).length : Nat) : Int) + (i : Int)) (pd_var 1) (pd_add (pd_lenL T.len (pd_var 3)) (pd_var 8)) (by
              rw [List.length_map, show ((sps.length : Int) + (i : Int)) = ((sps.length + i : Nat) : Int) by omega]
              exact atI_nat (by rw [List.getElem?_map, hn]; rfl))
          refine ⟨_, pss_cons (ps_dput hu (pv 4) pe_u (pv 10) rfl) pss_u, ?_⟩
          refine ⟨ve, hve, .ref a, s49, hnm F10 _ H10 _ e10 fun vn F11 H11 s11 h11 => ?_⟩
          obtain rfl : vn = .str n := dp_str h11
          obtain ⟨w1, w2⟩ := s11.own q11 q12
          obtain ⟨w3, w4⟩ := s11.own q9 q10
          have e11 := e10.step s11
          refine ⟨a, upd H11 a (.dK (putK kvs (.inr n) ve)), rfl, .inl ⟨kvs, .inr n, w1, rfl, Nat.lt_of_le_of_lt (show kvs.length ≤ 300 by omega) (by decide), rfl⟩, ?_⟩
          have e12 := e11.hp (Same.mut (o := .dK (putK kvs (.inr n) ve)) s11.fh w2)
          have st12 := (st10.trans (s11.m (M := fun _ => False))).mut (o := .dK (putK kvs (.inr n) ve)) w2 (.inl ha)
          have ull : (upd H11 a (.dK (putK kvs (.inr n) ve))) l = some (.lst vs) := by rw [upd_ne (Ne.symm hal)]; exact w3
          refine us_app 7 (pd_var 10) e12 s79 ull w4 ?_ (fun v13 F13 H13 s13 h13 f13 g13 e13 => ?_)
          · rw [dpa_len k5, List.length_map]
            exact Nat.lt_of_le_of_lt (show out.length ≤ 300 by omega) (by decide)
          · obtain ⟨x1, x2⟩ := s13.own upd_same w2
            have ff13 := (ff10.trans s11.ff).trans s13.ff
            have st14 := (st12.trans (s13.m (M := fun _ => False))).mut (o := .lst (vs ++ [v13])) f13 (.inl h0l)
            refine us_nil (hnx _ _ ⟨F13, _, hff6.trans ff13, e13, ⟨_, _, _, _, _, rfl⟩, st14, s49, s79, x2, f13, hal, ha, h0l, putK kvs (.inr n) ve, upF kn n e, vs ++ [v13], out ++ [e], by rw [upd_ne hal]; exact x1, Nat.le_trans (length_putK _ _ _) (by omega), ?_, upd_same, ?_, ?_, mq, ?_⟩)
            · exact (Tell.put (g := fun e => dEn e) hnd hn (k3.mono ff10) dve).mono (s11.ff.trans s13.ff)
            · rw [List.map_append]
              exact dpa_app (dpa_mono ff13 k5) (.cons h13 .nil)
            · rw [List.length_append]
              exact Nat.succ_le_succ k6
            · rw [k8, List.append_assoc]
              show out ++ (match entOf r kn wk with
                | none => []
                | some q => _) = _
              rw [hoe]
              rfl
      refine ⟨_, pss_cons (ps_try_only (tb := fun W => tAsg (tCallS (spEnt K C) (WE W) (tCons (tVar 0) (tCons (tVar 9) (tCons (tVar 4) (tCons (tVar 8) tNil))))) (gName 10)) (ts := fun _ _ _ => tAsg (tC .non) (gName 10)) (Wout := fun _ _ _ _ => False) rfl rfl ⟨rfl, by decide, .inl NT.gC⟩ takes0
        (fun W pn xe tk _ => pss_one (ps_set sc__law_entries.nd (i := 10) rfl (Or.inl rfl) (pe_callS Fx hr rfl hmx hkx hbx (fun σ => passAt tk σ) (pa_cons (pv 0) (pa_cons (pv 9) (pa_cons (pv 4) (pa_cons (pv 8) pa_nil))))) rfl)) (fun a oe cls d pn _ _ => pss_one (ps_set sc__law_entries.nd (i := 10) rfl (Or.inl rfl) pe_non rfl))) pss_u, ?_⟩
      refine ⟨vr, hvr, vw, hvw, .ref a, s48, .int (i : Int), hvi, F8, r, wk, vr, vw, a, (i : Int), kvs, kn, rfl, e8.fh, dvr, dvw, ⟨q2, q1, (k3.mono hff8).sub (hah i wk hwk)⟩, ⟨v, b7, n7, fun e he => (m7 e he).1⟩, fun e he v9 F9 H9 s9 h9 => ?_, fun hnone d9 H9 m9 => ?_⟩
      · exact cont _ (fun _ _ h => h) (fun _ _ h => h) (some e) v9 F9 H9 he s9 h9
      · refine ⟨true, NT.ex, fun _ a' _ => ?_, fun z => by cases z⟩
        exact cont _ (fun _ _ h => h) (fun _ _ h => h) none .non F8 H9 hnone ⟨Same.refl _, e8.fh.trans m9, m9, fun _ _ h => h⟩ .non
    · obtain ⟨hff6, I⟩ := hI
      obtain ⟨o5, o6, o8, o9, o10, rfl⟩ := I.sh
      obtain ⟨kvs, kn, vs, out, k1, k2, k3, k4, k5, k6, k7, k8⟩ := I.ls
      have hout : entV r (ns.drop sps.length) ws (markF ent0 ns (sps.map (spE r))) = out := by
        rw [k8, hlenE, List.drop_length]
        have : ∀ (xs : List Str), entV r xs [] kn = [] := fun xs => by cases xs <;> rfl
        rw [this, List.append_nil]
      have e7 := I.env.pub (i := 7) I.fl k4 k5 I.s7
      rw [← hout] at e7
      exact us_ret (pd_var 7) e7 (fun v F7 H7 s7 h7 => kq v F7 H7 ((StepM.pure (I.st.pub I.fl h0l k4)).trans s7) h7)
end
end Rs
end

section
set_option Elab.async false
set_option linter.all false
set_option maxRecDepth 100000
set_option maxHeartbeats 8000000
namespace Rs
open PySem PySem.Spec L2
/-! ### _law_single_right, _law_right -/
def mm (m : Rat) : Span := (m, m)
noncomputable def oneV (r : Rul) (ns : List Str) (ws : List (Wk Str)) (ms : List Rat) (b : Bool) : List Rat := runV r b (ns.drop ms.length) ws (markF 0 ns ms)
noncomputable def entsV (r : Rul) (ns : List Str) (ws : List (Wk Str)) (sps : List Span) : List Ent := entV r (ns.drop sps.length) ws (markF ent0 ns (sps.map (spE r)))
structure RunPre (r : Rul) (ns : List Str) (ws : List (Wk Str)) (ms : List Rat) : Prop where
  len : ns.length = ms.length + ws.length
  ok : ∀ b, RunOk r b (ns.drop ms.length) ws (markF 0 ns ms)
structure EntsPre (r : Rul) (ns : List Str) (ws : List (Wk Str)) (sps : List Span) : Prop where
  len : ns.length = sps.length + ws.length
  sp : ∀ s ∈ sps, SB 750 s
  ok : EntOk r (ns.drop sps.length) ws (markF ent0 ns (sps.map (spE r)))
structure NsPre (r : Rul) (ns : List Str) (k : Nat) (ws : List (Wk Str)) : Prop where
  v : VR r
  nd : ns.Nodup
  few : ns.length ≤ 100
  ah : Ahead ns k ws
structure SingleOk (r : Rul) (ns : List Str) (ws : List (Wk Str)) (ms : List Rat) : Prop where
  run : RunPre r ns ws ms
  ents : EntsPre r ns ws (ms.map mm)
  len : (entsV r ns ws (ms.map mm)).length = min (oneV r ns ws ms true).length (oneV r ns ws ms false).length
  val : ∀ (i : Nat) (e : Ent) (o t : Rat), (entsV r ns ws (ms.map mm))[i]? = some e → (oneV r ns ws ms true)[i]? = some o → (oneV r ns ws ms false)[i]? = some t → Sm o ∧ Sm t ∧ e.lo = o ∧ e.hi = o ∧ e.tlo = t ∧ e.thi = t ∧ e.err = qabs (o - t)
def R__law_single_right (ds : List D) (d : D) : Prop := ∃ (r : Rul) (ns : List Str) (ws : List (Wk Str)) (ms : List Rat), ds = [dRul r, .list (ns.map .str), .list (ws.map dWk), .list (ms.map dFr)] ∧ (NsPre r ns ms.length ws ∧ SingleOk r ns ws ms) ∧ d = .bool true
theorem zip3_at {xs ys zs : List D} {i : Nat} {d : D} (h : (zip3D xs ys zs)[i]? = some d) : ∃ x y z, xs[i]? = some x ∧ ys[i]? = some y ∧ zs[i]? = some z ∧ d = .tuple [x, y, z] := by
  unfold zip3D at h
  rw [List.getElem?_zipWith, List.getElem?_zipWith] at h
  cases e1 : xs[i]? with
  | none =>
    rw [e1] at h
    cases h
  | some x => cases e2 : ys[i]? with
    | none =>
      rw [e1, e2] at h
      cases h
    | some y => cases e3 : zs[i]? with
      | none =>
        rw [e1, e2, e3] at h
        cases h
      | some z =>
        rw [e1, e2, e3] at h
        exact ⟨x, y, z, rfl, rfl, rfl, (Option.some.inj h).symm⟩
theorem map_at {α : Type} {f : α → D} {l : List α} {i : Nat} {d : D} (h : (l.map f)[i]? = some d) : ∃ a, l[i]? = some a ∧ d = f a := by
  rw [List.getElem?_map] at h
  cases e : l[i]? with
  | none =>
    rw [e] at h
    cases h
  | some a =>
    rw [e] at h
    exact ⟨a, rfl, (Option.some.inj h).symm⟩
theorem eqv5 (a b c : Rat) : PyData.eqv (.tuple [dFr a, dFr a, dFr b, dFr b, dFr c]) (.tuple [dFr a, dFr a, dFr b, dFr b, dFr c]) = true := by
  show (PyData.eqv (dFr a) (dFr a) && (PyData.eqv (dFr a) (dFr a) && (PyData.eqv (dFr b) (dFr b) && (PyData.eqv (dFr b) (dFr b) && (PyData.eqv (dFr c) (dFr c) && true))))) = true
  rw [eqv_fr, eqv_fr, eqv_fr, decide_eq_true rfl, decide_eq_true rfl, decide_eq_true rfl]
  rfl
theorem eq_of_lens {a b c : Nat} (h : a = min b c) : (!PyData.eqv (.int (a : Int)) (.int (if (c : Int) < (b : Int) then (c : Int) else (b : Int)))) = false := by
  show (!((a : Int) == (if (c : Int) < (b : Int) then (c : Int) else (b : Int)))) = false
  have e : (a : Int) = (if (c : Int) < (b : Int) then (c : Int) else (b : Int)) := by
    split <;> omega
  rw [← e]
  simp
abbrev srN : List Str := ["_law_ruler_here", "_law_names_here", "_law_works_here", "_law_marks", "_law_entries_here", "_law_mark_here", "_law_ones", "_law_trues", "_law_entry", "_law_one", "_law_true", "_law_far"]
section
variable {P : Program} {w : World} {K : PySem.W.Frag} {mg : Str → Option Value} {base : Heap}
theorem sc__law_single_right : FnScope srN ["_law_ruler_here", "_law_names_here", "_law_works_here", "_law_marks"] (defScope (top 97)) := ⟨rfl, rfl, rfl, by decide +kernel, rfl, by decide +kernel, by decide +kernel⟩
theorem cal__law_single_right (T : Frees mg) (D0 : DefAt K mg "_law_single_right" 97) (c_entries : Cal P w K mg base "_law_entries" 11 ["_law_ruler_here", "_law_names_here", "_law_works_here", "_law_spans"] (spP K R__law_entries))
    (c_run : Cal P w K mg base "_law_run" 4 ["_law_ruler_here", "_law_names_here", "_law_works_here", "_law_marks", "_law_is_rounded"] (spP K R__law_run)) (c_less : Cal P w K mg base "_law_less" 2 ["_law_one", "_law_other"] (spP K R__law_less)) :
    Cal P w K mg base "_law_single_right" 12 ["_law_ruler_here", "_law_names_here", "_law_works_here", "_law_marks"] (spP K R__law_single_right) := by
  refine mk_calR D0 sc__law_single_right (fun ds d ⟨_, _, _, _, h, _⟩ => by subst h; rfl) (fun _ _ _ _ _ _ us hl => match us, hl with | [_, _, _, _], _ => rfl) (fun f cdv A outer s H0 E hr F H σ Q ds d hR e0 kq => ?_)
  obtain ⟨r, ns, ws, ms, rfl, ⟨np, so⟩, rfl⟩ := hR
  have hu := units_of hr
  have hml : ms.length ≤ 100 := by
    have := so.run.len
    have := np.few
    omega
  have entsE : entsV r ns ws (ms.map mm) = entV r (ns.drop (ms.map mm).length) ws (markF ent0 ns ((ms.map mm).map (spE r))) := rfl
  refine us_set 4 (d := .list ((entsV r ns ws (ms.map mm)).map dEn)) (pd_call c_entries hr (pda_cons (pd_var 0) (pda_cons (pd_var 1) (pda_cons (pd_var 2) (pda_cons (pd_is (pd_lc0 [("_law_mark_here", 5)] (fun d => .tuple [d, d]) (src_list (pd_var 3)) tg_name (fun _ _ => trivial) (fun j hj d => ?_) sc__law_single_right.nd (blkOk_by (N := srN) (sc := defScope (top 97)) (by decide +kernel)) (fun _ _ _ _ _ => pg_name (i := 5) sc__law_single_right.nd rfl (Or.inl rfl)) (fun d hd _ _ _ _ _ => pd_tup (pda_cons (pd_var 5) (pda_cons (pd_var 5) pda_nil))) ?_) (d2 := .list ((ms.map mm).map dSp)) ?_) pda_nil))))
      ⟨r, ns, ws, ms.map mm, rfl, ⟨np.v, np.nd, so.ents.len, np.few, by rw [List.length_map]; exact np.ah, so.ents.sp, so.ents.ok⟩, rfl⟩) e0 (fun v1 F1 H1 s1 _ e1 => ?_) sc__law_single_right.nd
  · obtain rfl : j = 5 := by simpa using hj
    intro h
    cases h
  · rw [List.length_map]
    exact Nat.lt_of_le_of_lt hml (by decide)
  · rw [List.map_map, List.map_map]
    rfl
  refine us_set 6 (d := .list ((oneV r ns ws ms true).map dFr)) (pd_call c_run (hr.mono (by decide)) (pda_cons (pd_var 0) (pda_cons (pd_var 1) (pda_cons (pd_var 2) (pda_cons (pd_var 3) (pda_cons pd_bl pda_nil))))) ⟨r, ns, ws, ms, true, rfl, ⟨np.v, np.nd, so.run.len, np.few, np.ah, so.run.ok true⟩, rfl⟩) e1 (fun v2 F2 H2 s2 _ e2 => ?_) sc__law_single_right.nd
  refine us_set 7 (d := .list ((oneV r ns ws ms false).map dFr)) (pd_call c_run (hr.mono (by decide)) (pda_cons (pd_var 0) (pda_cons (pd_var 1) (pda_cons (pd_var 2) (pda_cons (pd_var 3) (pda_cons pd_bl pda_nil))))) ⟨r, ns, ws, ms, false, rfl, ⟨np.v, np.nd, so.run.len, np.few, np.ah, so.run.ok false⟩, rfl⟩) e2 (fun v3 F3 H3 s3 _ e3 => ?_) sc__law_single_right.nd
  refine us_ifR (b' := false) (pdt_cmp (qc_is (qc_neD hu (pd_lenL T.len (pd_var 4)) (pd_min rfl T.min (pda_cons (pd_lenL T.len (pd_var 6)) (pda_cons (pd_lenL T.len (pd_var 7)) pda_nil))) rfl rfl) ?_)) e3 (fun hb => nomatch hb) (fun _ F4 H4 s4 e4 => ?_)
  · have hl := so.len
    refine eq_of_lens ?_
    rw [List.length_map, List.length_map, List.length_map, hl]
  have st4 := ((s1.trans s2).trans s3).trans s4
  refine us_for (ds := zip3D ((entsV r ns ws (ms.map mm)).map dEn) ((oneV r ns ws ms true).map dFr) ((oneV r ns ws ms false).map dFr)) (src_zip3 rfl T.zip (pd_var 4) (pd_var 6) (pd_var 7)) (pg_tup (n := 3) rfl (pgs_cons (pg_name (i := 8) sc__law_single_right.nd rfl (Or.inl rfl)) (pgs_cons (pg_name (i := 9) sc__law_single_right.nd rfl (Or.inl rfl)) (pgs_cons (pg_name (i := 10) sc__law_single_right.nd rfl (Or.inl rfl)) pgs_nil)))) tg_trip (fun d hd => ?_) e4
    (fun F5 H5 i F' ρ' σ' H' => Same F5 F' ∧ EnvOk K F' ρ' σ' H' ∧ (∃ o8 o9 o10 o11 : Option D, ρ' = [some (dRul r), some (.list (ns.map .str)), some (.list (ws.map dWk)), some (.list (ms.map dFr)), some (.list ((entsV r ns ws (ms.map mm)).map dEn)), none, some (.list ((oneV r ns ws ms true).map dFr)), some (.list ((oneV r ns ws ms false).map dFr)), o8, o9, o10, o11]) ∧ Step F H F' H')
    (fun F5 H5 s5 e5 => ⟨Same.refl _, e5, ⟨none, none, none, none, rfl⟩, st4.trans s5⟩) (fun F5 H5 i F' ρ' σ' H' h => ⟨h.1, h.2.1⟩) (fun F5 H5 i d F' ρ' σ' H' F6 σ6 H6 s5 hd hI s6 hl6 hk e6 => ?_) (fun F5 H5 F' ρ' σ' H' s5 hI => ?_)
  · obtain ⟨i, hi⟩ := List.mem_iff_getElem?.mp hd
    obtain ⟨x, y, z, _, _, _, rfl⟩ := zip3_at hi
    exact ⟨_, _, _, rfl⟩
  · obtain ⟨hff, _, ⟨o8, o9, o10, o11, rfl⟩, st⟩ := hI
    obtain ⟨x, y, z, hx, hy, hz, rfl⟩ := zip3_at hd
    obtain ⟨e, he, rfl⟩ := map_at hx
    obtain ⟨o, ho, rfl⟩ := map_at hy
    obtain ⟨t, ht, rfl⟩ := map_at hz
    obtain ⟨bo, bt, p1, p2, p3, p4, p5⟩ := so.val i e o t he ho ht
    refine us_set 11 (pd_call c_less (hr.mono (by decide)) (pda_cons (pd_var 9) (pda_cons (pd_var 10) pda_nil)) ⟨o, t, rfl, ⟨bo, bt⟩, rfl⟩) e6 (fun v7 F7 H7 s7 _ e7 => ?_) sc__law_single_right.nd
    have hcut : cutD [dFr e.lo, dFr e.hi, dFr e.tlo, dFr e.thi, dFr e.err, dGr e.gr] none (some 5) = [dFr o, dFr o, dFr t, dFr t, dFr (qabs (o - t))] := by
      rw [p1, p2, p3, p4, p5]
      rfl
    refine us_ifR (b' := false) (pdt_cmp (qc_is (qc_neD hu (pd_is (pd_slT (pd_var 8) pdo_none (pdo_some pd_int) (fun z => absurd z.2 (by show ¬ ((5 : Nat) = 6); decide))) (congrArg PyData.tuple hcut)) (pd_tup (pda_cons (pd_var 9) (pda_cons (pd_var 9) (pda_cons (pd_var 10) (pda_cons (pd_var 10) (pda_cons (pd_is (pd_tup (pda_cons (pd_abs T.abs (pd_ixT (pd_var 11) pd_int)) (pda_cons (pd_ixT (pd_var 11) pd_int) pda_nil))) (dFr_abs (o - t))) pda_nil)))))) rfl rfl) (by rw [eqv5]; rfl))) e7 (fun hb => nomatch hb) (fun _ F8 H8 s8 e8 => ?_)
    exact us_nil ⟨F8, _, ((hff.trans s6.ff).trans s7.ff).trans s8.ff, e8, ⟨_, _, _, _, rfl⟩, ((st.trans s6).trans s7).trans s8⟩
  · obtain ⟨hff, e5, ⟨o8, o9, o10, o11, rfl⟩, st⟩ := hI
    exact us_ret pd_bl e5 (fun v F7 H7 s7 h7 => kq v F7 H7 (st.trans s7) h7)
/-- the spans of a box -/
def endsS (ms : List Rat) : Span := (ms.headD 0, ms.getLastD 0)
structure EB0 (e : Ent) : Prop where
  lo : Lg e.lo
  hi : Lg e.hi
  tlo : Lg e.tlo
  thi : Lg e.thi
  err : Lg e.err
  gr : GB 900 e.gr
structure RowOk (r : Rul) (ns : List Str) (ws : List (Wk Str)) (E : List Ent) (ms : List Rat) : Prop where
  run : RunPre r ns ws ms
  len : E.length ≤ min (oneV r ns ws ms true).length (oneV r ns ws ms false).length
  val : ∀ (i : Nat) (e : Ent) (o t : Rat), E[i]? = some e → (oneV r ns ws ms true)[i]? = some o → (oneV r ns ws ms false)[i]? = some t → Bt 1900 o ∧ Bt 1900 t ∧ EB0 e ∧ keepsB r e o t = true
  one : SingleOk r ns ws ms
structure RightOk (r : Rul) (ns : List Str) (ws : List (Wk Str)) (bx : List (List Rat)) : Prop where
  np : NsPre r ns bx.length ws
  b3 : bx.length ≤ 3
  b6 : ∀ ms ∈ bx, ms ≠ [] ∧ ms.length ≤ 6
  ents : EntsPre r ns ws (bx.map endsS)
  ne : rowsL [[]] bx ≠ []
  row : ∀ ms ∈ rowsL [[]] bx, ms.length = bx.length ∧ RowOk r ns ws (entsV r ns ws (bx.map endsS)) ms
def R__law_right (ds : List D) (d : D) : Prop := ∃ (r : Rul) (ns : List Str) (ws : List (Wk Str)) (bx : List (List Rat)) (xs : List Int), ds = [dRul r, .list (ns.map .str), .list (ws.map dWk), dBox bx, .list (xs.map .int)] ∧ (RightOk r ns ws bx ∧ xs.length ≤ 10) ∧ d = .bool true
abbrev rtN : List Str := ["_law_ruler_here", "_law_names_here", "_law_works_here", "_law_box_here", "_law_some", "_law_entries_here", "_law_marks", "_law_rows_here", "_law_ones", "_law_trues", "_law_entry", "_law_one", "_law_true", "_law_at"]
theorem pd_all {X : Cx} {a : Expr} {ρ : DEnv} {bs : List Bool} {p pos : Pos} (hc : X.calm = true) (hm : X.mg "all" = none) (ha : PD X a ρ (.list (bs.map .bool))) (hg : Gl X "all" := by rfl) (hs : starEach [a] X.env = (false, eval a X.env) :: starEach [] X.env := by rfl) (hpl : (backTo pos (starEach [] X.env)).any (·.1) = false := by rfl) :
    PD X (.Call (.Name "all" p) [a] [] pos) ρ (.bool (bs.all id)) :=
  pd_callB (cr_all hc) hm PyProof.Rows.boot_all (pda_cons ha pda_nil hs) (fun F H vs Q hs h k => by
    obtain ⟨v, rfl, hv⟩ := dpa1 h
    obtain ⟨l, xs, rfl, hq, hx⟩ := dp_lst hv
    have e : xs = bs.map V.bl := by
      have := dpa_flat hx (by
        rw [List.all_map]
        exact List.all_eq_true.mpr fun _ _ => rfl)
      rw [this, List.map_map]
      rfl
    subst e
    exact ⟨l, bs, rfl, Same.seq hs hq, k _ F H (Step.refl hs) (.bl _)⟩) hg (by decide) (by decide) hs hpl
theorem sc__law_right : FnScope rtN ["_law_ruler_here", "_law_names_here", "_law_works_here", "_law_box_here", "_law_some"] (defScope (top 98)) := ⟨rfl, rfl, rfl, by decide +kernel, rfl, by decide +kernel, by decide +kernel⟩
theorem cal__law_right (T : Frees mg) (D0 : DefAt K mg "_law_right" 98) (c_entries : Cal P w K mg base "_law_entries" 11 ["_law_ruler_here", "_law_names_here", "_law_works_here", "_law_spans"] (spP K R__law_entries))
    (c_run : Cal P w K mg base "_law_run" 4 ["_law_ruler_here", "_law_names_here", "_law_works_here", "_law_marks", "_law_is_rounded"] (spP K R__law_run)) (c_rows : Cal P w K mg base "_law_rows" 2 ["_law_box_here"] (spP K R__law_rows)) (c_keeps : Cal P w K mg base "_law_keeps" 3 ["_law_ruler_here", "_law_entry", "_law_mark_here", "_law_true"] (spP K R__law_keeps))
    (c_single : Cal P w K mg base "_law_single_right" 12 ["_law_ruler_here", "_law_names_here", "_law_works_here", "_law_marks"] (spP K R__law_single_right)) :
    Cal P w K mg base "_law_right" 13 ["_law_ruler_here", "_law_names_here", "_law_works_here", "_law_box_here", "_law_some"] (spP K R__law_right) := by
  refine mk_calR D0 sc__law_right (fun ds d ⟨_, _, _, _, _, h, _⟩ => by subst h; rfl) (fun _ _ _ _ _ _ us hl => match us, hl with | [_, _, _, _, _], _ => rfl) (fun f cdv A outer s H0 E hr F H σ Q ds d hR e0 kq => ?_)
  obtain ⟨r, ns, ws, bx, xs, rfl, ⟨ro, hx10⟩, rfl⟩ := hR
  have hu := units_of hr
  have np := ro.np
  obtain ⟨EE, hEE⟩ : ∃ EE, EE = entsV r ns ws (bx.map endsS) := ⟨_, rfl⟩
  obtain ⟨rows, hrows⟩ : ∃ rows, rows = rowsL [[]] bx := ⟨_, rfl⟩
  have hrow : ∀ ms ∈ rows, ms.length = bx.length ∧ RowOk r ns ws EE ms := by rw [hrows, hEE]; exact ro.row
  have npr : ∀ ms ∈ rows, NsPre r ns ms.length ws := fun ms h => by rw [(hrow ms h).1]; exact np
  refine us_set 5 (d := .list (EE.map dEn)) (pd_call c_entries (hr.mono (by decide)) (pda_cons (pd_var 0) (pda_cons (pd_var 1) (pda_cons (pd_var 2) (pda_cons (pd_is (pd_lc0 [("_law_marks", 6)] (fun d => match d with
        | .list l => .tuple [l.headD .none, l.getLastD .none]
        | _ => .none) (src_list (pd_var 3)) tg_name (fun _ _ => trivial) (fun j hj d => ?_) sc__law_right.nd (blkOk_by (N := rtN) (sc := defScope (top 98)) (by decide +kernel)) (fun _ _ _ _ _ => pg_name (i := 6) sc__law_right.nd rfl (Or.inl rfl)) (fun d hd _ _ _ _ _ => ?_) ?_) (d2 := .list ((bx.map endsS).map dSp)) ?_) pda_nil))))
      ⟨r, ns, ws, bx.map endsS, rfl, ⟨np.v, np.nd, ro.ents.len, np.few, by rw [List.length_map]; exact np.ah, ro.ents.sp, ro.ents.ok⟩, by rw [hEE]; rfl⟩) e0 (fun v1 F1 H1 s1 _ e1 => ?_) sc__law_right.nd
  · obtain rfl : j = 6 := by simpa using hj
    intro h
    cases h
  · obtain ⟨ms, hms, rfl⟩ := List.mem_map.mp hd
    have hne := (ro.b6 ms hms).1
    obtain ⟨a, l, rfl⟩ := List.exists_cons_of_ne_nil hne
    obtain ⟨l2, b, hb⟩ : ∃ l2 b, a :: l = l2 ++ [b] := ⟨(a :: l).dropLast, _, (List.dropLast_concat_getLast hne).symm⟩
    refine pd_is (pd_tup (pda_cons (pd_ixL (d := dFr a) (pd_var 6) pd_int (atI_nat (j := 0) rfl)) (pda_cons (pd_ixL (d := dFr b) (pd_var 6) (pd_neg pd_int) (by
      rw [hb, List.map_append, List.map_singleton, atI_last])) pda_nil))) ?_
    show _ = PyData.tuple [dFr a, ((a :: l).map dFr).getLastD .none]
    rw [hb, List.map_append]
    simp
  · rw [List.length_map]
    have := ro.b3
    exact Nat.lt_of_le_of_lt (show bx.length ≤ 100 by omega) (by decide)
  · rw [List.map_map, List.map_map]
    refine congrArg PyData.list (List.map_congr_left fun ms hms => ?_)
    have hne := (ro.b6 ms hms).1
    obtain ⟨a, l, rfl⟩ := List.exists_cons_of_ne_nil hne
    obtain ⟨l2, b, hb⟩ : ∃ l2 b, a :: l = l2 ++ [b] := ⟨(a :: l).dropLast, _, (List.dropLast_concat_getLast hne).symm⟩
    show PyData.tuple [dFr a, ((a :: l).map dFr).getLastD .none] = PyData.tuple [dFr a, dFr ((a :: l).getLastD 0)]
    rw [hb, List.map_append]
    simp
  refine us_set 7 (d := dBox rows) (pd_call c_rows (hr.mono (by decide)) (pda_cons (pd_var 3) pda_nil) ⟨bx, rfl, ⟨ro.b3, fun ms h => (ro.b6 ms h).2⟩, by rw [hrows]⟩) e1 (fun v2 F2 H2 s2 _ e2 => ?_) sc__law_right.nd
  refine us_for (ds := rows.map dMs) (src_list (pd_var 7)) (pg_name (i := 6) sc__law_right.nd rfl (Or.inl rfl)) tg_name (fun _ _ => trivial) e2 (fun F5 H5 i F' ρ' σ' H' => Same F5 F' ∧ EnvOk K F' ρ' σ' H' ∧ (∃ o6 o8 o9 o10 o11 o12 : Option D, ρ' = [some (dRul r), some (.list (ns.map .str)), some (.list (ws.map dWk)), some (dBox bx), some (.list (xs.map .int)), some (.list (EE.map dEn)), o6, some (dBox rows), o8, o9, o10, o11, o12, none]) ∧ Step F H F' H')
    (fun F5 H5 s5 e5 => ⟨Same.refl _, e5, ⟨none, none, none, none, none, none, rfl⟩, (s1.trans s2).trans s5⟩) (fun F5 H5 i F' ρ' σ' H' h => ⟨h.1, h.2.1⟩) (fun F5 H5 i d F' ρ' σ' H' F6 σ6 H6 s5 hd hI s6 hl6 hk e6 => ?_) (fun F5 H5 F' ρ' σ' H' s5 hI => ?_)
  · obtain ⟨hff, _, ⟨o6, o8, o9, o10, o11, o12, rfl⟩, st⟩ := hI
    obtain ⟨ms, hms, rfl⟩ := map_at hd
    have hmem := List.mem_of_getElem? hms
    obtain ⟨hml, rk⟩ := hrow ms hmem
    have npm := npr ms hmem
    refine us_set 8 (d := .list ((oneV r ns ws ms true).map dFr)) (pd_call c_run (hr.mono (by decide)) (pda_cons (pd_var 0) (pda_cons (pd_var 1) (pda_cons (pd_var 2) (pda_cons (pd_var 6) (pda_cons pd_bl pda_nil))))) ⟨r, ns, ws, ms, true, rfl, ⟨npm.v, npm.nd, rk.run.len, npm.few, npm.ah, rk.run.ok true⟩, rfl⟩) e6 (fun v7 F7 H7 s7 _ e7 => ?_) sc__law_right.nd
    refine us_set 9 (d := .list ((oneV r ns ws ms false).map dFr)) (pd_call c_run (hr.mono (by decide)) (pda_cons (pd_var 0) (pda_cons (pd_var 1) (pda_cons (pd_var 2) (pda_cons (pd_var 6) (pda_cons pd_bl pda_nil))))) ⟨r, ns, ws, ms, false, rfl, ⟨npm.v, npm.nd, rk.run.len, npm.few, npm.ah, rk.run.ok false⟩, rfl⟩) e7 (fun v8 F8 H8 s8 _ e8 => ?_) sc__law_right.nd
    refine us_ifR (b' := false) (pdt_cmp (qc_is (qc_lt (pd_min rfl T.min (pda_cons (pd_lenL T.len (pd_var 8)) (pda_cons (pd_lenL T.len (pd_var 9)) pda_nil))) (pd_lenL T.len (pd_var 5))) ?_)) e8 (fun hb => nomatch hb) (fun _ F9 H9 s9 e9 => ?_)
    · refine decide_eq_false ?_
      rw [List.length_map, List.length_map, List.length_map]
      have := rk.len
      split <;> omega
    have st9 := (((st.trans s6).trans s7).trans s8).trans s9
    have ff9 := (((hff.trans s6.ff).trans s7.ff).trans s8.ff).trans s9.ff
    refine us_for (ds := zip3D (EE.map dEn) ((oneV r ns ws ms true).map dFr) ((oneV r ns ws ms false).map dFr)) (src_zip3 rfl T.zip (pd_var 5) (pd_var 8) (pd_var 9)) (pg_tup (n := 3) rfl (pgs_cons (pg_name (i := 10) sc__law_right.nd rfl (Or.inl rfl)) (pgs_cons (pg_name (i := 11) sc__law_right.nd rfl (Or.inl rfl)) (pgs_cons (pg_name (i := 12) sc__law_right.nd rfl (Or.inl rfl)) pgs_nil)))) tg_trip (fun d hd => ?_) e9
      (fun F5' H5' i F' ρ' σ' H' => Same F5' F' ∧ EnvOk K F' ρ' σ' H' ∧ (∃ o10 o11 o12 : Option D, ρ' = [some (dRul r), some (.list (ns.map .str)), some (.list (ws.map dWk)), some (dBox bx), some (.list (xs.map .int)), some (.list (EE.map dEn)), some (dMs ms), some (dBox rows), some (.list ((oneV r ns ws ms true).map dFr)), some (.list ((oneV r ns ws ms false).map dFr)), o10, o11, o12, none]) ∧ Step F H F' H' ∧ Same F5 F')
      (fun F6' H6' s6' e6' => ⟨Same.refl _, e6', ⟨_, _, _, rfl⟩, st9.trans s6', ff9.trans s6'.ff⟩) (fun F6' H6' i F' ρ' σ' H' h => ⟨h.1, h.2.1⟩) (fun F6' H6' i d F'' ρ' σ' H'' F10 σ10 H10 s6' hd' hI s10 hl10 hk10 e10 => ?_) (fun F6' H6' F'' ρ' σ' H'' s6' hI => ?_)
    · obtain ⟨i, hi⟩ := List.mem_iff_getElem?.mp hd
      obtain ⟨x, y, z, _, _, _, rfl⟩ := zip3_at hi
      exact ⟨_, _, _, rfl⟩
    · obtain ⟨hff', _, ⟨p10, p11, p12, rfl⟩, st', ff'⟩ := hI
      obtain ⟨x, y, z, hx, hy, hz, rfl⟩ := zip3_at hd'
      obtain ⟨e, he, rfl⟩ := map_at hx
      obtain ⟨o, ho, rfl⟩ := map_at hy
      obtain ⟨t, ht, rfl⟩ := map_at hz
      obtain ⟨bo, bt, eb, kp⟩ := rk.val i e o t he ho ht
      refine us_ifR (b' := false) (pdt_not (pdt_val (pd_is (pd_call c_keeps (hr.mono (by decide)) (pda_cons (pd_var 0) (pda_cons (pd_var 10) (pda_cons (pd_var 11) (pda_cons (pd_var 12) pda_nil)))) ⟨r, e, o, t, rfl, ⟨np.v, eb.lo, eb.hi, eb.tlo, eb.thi, eb.err, eb.gr, bo, bt⟩, rfl⟩) (d2 := .bool true) (by rw [kp])))) e10 (fun hb => nomatch hb) (fun _ F11 H11 s11 e11 => ?_)
      exact us_nil ⟨F11, _, (hff'.trans s10.ff).trans s11.ff, e11, ⟨_, _, _, rfl⟩, (st'.trans s10).trans s11, (ff'.trans s10.ff).trans s11.ff⟩
    · obtain ⟨hff', e10, ⟨p10, p11, p12, rfl⟩, st', ff'⟩ := hI
      exact us_nil ⟨F'', _, ff', e10, ⟨_, _, _, _, _, _, rfl⟩, st'⟩
  · obtain ⟨hff, e5, ⟨o6, o8, o9, o10, o11, o12, rfl⟩, st⟩ := hI
    have hlen0 : 0 < rows.length := by
      rw [hrows]
      exact List.length_pos_iff.mpr ro.ne
    refine us_ret (d := .bool true) (pd_is (pd_all (bs := xs.map fun _ => true) rfl T.all (pd_is (pd_lc0 [("_law_at", 13)] (fun _ => .bool true) (src_list (pd_var 4)) tg_name (fun _ _ => trivial) (fun j hj d => ?_) sc__law_right.nd (blkOk_by (N := rtN) (sc := defScope (top 98)) (by decide +kernel)) (fun _ _ _ _ _ => pg_name (i := 13) sc__law_right.nd rfl (Or.inl rfl)) (fun d hd _ _ _ _ _ => ?_) ?_) ?_)) ?_) e5 (fun v F7 H7 s7 h7 => kq v F7 H7 (st.trans s7) h7)
    · obtain rfl : j = 13 := by simpa using hj
      intro h
      cases h
    · obtain ⟨x, _, rfl⟩ := List.mem_map.mp hd
      have hlI : (0 : Int) < (((rows.map dMs).length : Nat) : Int) := by rw [List.length_map]; omega
      have b0 := Int.emod_nonneg x (show (((rows.map dMs).length : Nat) : Int) ≠ 0 by omega)
      have b1 := Int.emod_lt_of_pos x hlI
      obtain ⟨j, hj⟩ : ∃ j : Nat, x % (((rows.map dMs).length : Nat) : Int) = (j : Int) := ⟨(x % (((rows.map dMs).length : Nat) : Int)).toNat, by omega⟩
      have hjl : j < rows.length := by
        rw [List.length_map] at b1 hj
        omega
      obtain ⟨ms, hms⟩ : ∃ ms, rows[j]? = some ms := ⟨_, List.getElem?_eq_getElem hjl⟩
      have hmem := List.mem_of_getElem? hms
      exact pd_call c_single (hr.mono (by decide)) (pda_cons (pd_var 0) (pda_cons (pd_var 1) (pda_cons (pd_var 2) (pda_cons (pd_ixL (d := dMs ms) (pd_var 7) (pd_mod (pd_var 13) (pd_lenL T.len (pd_var 7)) hlI) (by
        rw [hj]
        exact atI_nat (by rw [List.getElem?_map, hms]; rfl))) pda_nil)))) ⟨r, ns, ws, ms, rfl, ⟨npr ms hmem, (hrow ms hmem).2.one⟩, rfl⟩
    · rw [List.length_map]
      exact Nat.lt_of_le_of_lt hx10 (by decide)
    · rw [List.map_map, List.map_map]
      rfl
    · refine congrArg PyData.bool ?_
      rw [List.all_map]
      exact List.all_eq_true.mpr fun _ _ => rfl
end
end Rs
end

section
set_option Elab.async false
set_option linter.all false
set_option maxRecDepth 100000
set_option maxHeartbeats 8000000
namespace Rs
open PySem PySem.Spec L2
/-! ### law -/
def ten : Rul := ⟨10, 1, 0, .near⟩
def e37 : Ent := ⟨3, 7, 3, 7, 0, some 0⟩
def eEnd : Ent := ⟨6, 10, 6, 14, 5, some 0⟩
/-- what plain mathematics tells -/
structure LawMath : Prop where
  right : ∀ (r : Rul) (ns : List Str) (ws : List (Wk Str)) (bx : List (List Rat)) (ins rows : Int), VR r → ns.Nodup → (ns.length : Int) = ins + rows → (bx.length : Int) = ins → 1 ≤ ins → ins ≤ 3 → (ws.length : Int) = rows → 2 ≤ rows → rows ≤ 4 → (∀ ms ∈ bx, MsOk r ms) → WksOk ns ins ws → RightOk r ns ws bx
  m37 : entMarks ten 3 7 = e37
  s37 : sumE ten true e37 e37 = eEnd
def R_law (ds : List D) (d : D) : Prop := ∃ xs : List Int, ds = [.list (xs.map .int)] ∧ xs.length ≤ 64 ∧ d = .bool true
theorem StepM.fresh {M : Addr → Prop} {F H F' H' : Hp} (s : StepM M F H F' H') (h : ∀ a, M a → H a = none) : Step F H F' H' := ⟨s.ff, s.fh, fun b o e => s.hh b o (fun z => by
  rw [h b z] at e
  cases e) e, s.fr⟩
section
variable {X : Cx} {Z : Rz} {e a : Expr} {ρ : DEnv} {n : Nat} {pos : Pos} {b' : Bool}
theorem pnt_val (h : PN X Z e ρ n (· = .bool b')) (he : ∀ whole, isTrue e X.env whole = (do let v ← whole; standAt e.pos; holding [v] (truthy v)) := by intro _; rfl) : PNT X Z e ρ n (· = b') := fun b F σ H Q hE hz hg k =>
  ⟨_, pt_val pe_u he, h b F σ H _ hE hz hg fun d v F1 H1 e1 s1 g1 h1 => by
    subst e1
    exact ⟨b', dp_bl h1, k b' F1 H1 rfl s1 g1⟩⟩
theorem pnt_not (h : PNT X Z a ρ n (· = b')) : PNT X Z (.UnaryOp .Not a pos) ρ n (· = !b') := fun b F σ H Q hE hz hg k =>
  ⟨_, pt_not pt_u, h b F σ H _ hE hz hg fun x F1 H1 e1 s1 g1 => by
    subst e1
    exact k _ F1 H1 rfl s1 g1⟩
end
theorem vr_ten : VR ten := ⟨by decide, by decide, by decide, by decide, by decide, by decide⟩
theorem bt3 : Bt 4 3 := ⟨by unfold IB; decide, by decide⟩
theorem bt7 : Bt 4 7 := ⟨by unfold IB; decide, by decide⟩
theorem eb37 : EB e37 := ⟨by decide, by decide, ⟨bt3.mono (by decide), bt7.mono (by decide)⟩, ⟨bt3.mono (by decide), bt7.mono (by decide)⟩, Bt.zero.mono (by decide), fun x h => by cases h; decide⟩
theorem ngEnd : NGE eEnd := ⟨⟨by decide +kernel, by decide +kernel⟩, ⟨by decide +kernel, by decide +kernel⟩, ⟨by decide +kernel, by decide +kernel⟩, ⟨by decide +kernel, by decide +kernel⟩, ⟨by decide +kernel, by decide +kernel⟩⟩
abbrev lwN : List Str := ["_law_script", "_law_state", "_law_many", "_law_k", "_law_ruler_here", "_law_ins", "_law_rows_here", "_law_names_here", "_law_box_here", "_law_works_here", "_law_ten", "_law_entry"]
structure LawI (K : PySem.W.Frag) (xs : List Int) (many : Int) (a : Addr) (F0 H0 : Hp) (F : Hp) (ρ : DEnv) (σ : St) (H : Hp) : Prop where
  env : EnvOk K F ρ σ H
  sh : ∃ o3 o4 o5 o6 o7 o8 o9 : Option D, ρ = [some (.list (xs.map .int)), none, some (.int many), o3, o4, o5, o6, o7, o8, o9, none, none]
  st : StepM (· = a) F0 H0 F H
  g : StO K a 0 F H
  s1 : σ[1]? = some (some (.ref a))
theorem sS1 {K : PySem.W.Frag} {a : Addr} {σ : St} {j : Nat} {v : Option V} (n : j ≠ 1) (h : (rzS K 1 a).S σ) : (rzS K 1 a).S (σ.set j v) := sS n h
section
variable {P : Program} {w : World} {K : PySem.W.Frag} {mg : Str → Option Value} {base : Heap} {C : Addr}
theorem sc_law : FnScope lwN ["_law_script"] (defScope (top 99)) := ⟨rfl, rfl, rfl, by decide +kernel, rfl, by decide +kernel, by decide +kernel⟩
/-- a def told of data, its function's own address -/
theorem mk_fnR {x : Str} {i k : Nat} {N ps : List Str} {R : List D → D → Prop} {f : Addr} {fd : FuncData} (F : FunD K x x (defArgs (top i)) (defBody (top i)) (defScope (top i)) [] [] f fd) (S : FnScope N ps (defScope (top i))) (len : ∀ ds d, R ds d → ds.length = ps.length)
    (body : ∀ (cdv : Value) (A : Around) (outer : List Env) (s : Shared) (H0 : Hp) (E : XK), Room k (A.deeper (PyProof.Rows.envOfC x (defScope (top i)) s.heap.objs.size f cdv)) → ∀ (F H : Hp) (σ : St) (Q : VK) ds d, R ds d → EnvOk K F (startD N ds) σ H → (∀ v F' H', Step F H F' H' → Dp K F' v d → Q v H') →
      US (cxN P w K mg base N x i f cdv A outer s H0 E) (defBody (top i)) { nx := fun _ H' => Q .non H', rt := Q } σ H) : FnOk P w K mg base CX0 (k + 1) f fd ps (spP K R) := by
  refine F.ok S (fun vs H Q E h => ?_) (fun cdv A outer s H vs Q E hr h => ?_)
  · obtain ⟨F, ds, d, _, h1, h2, _⟩ := h
    rw [dpa_len h1]
    exact len ds d h2
  · obtain ⟨F1, ds, d, h0, h1, h2, k2⟩ := h
    exact ⟨_, PSs.nox pss_u, body cdv A outer s H E hr F1 H _ Q ds d h2 (env_start h0 h1) k2⟩
theorem cal_law (M : LawMath) (T : Frees mg) {f : Addr} {fd : FuncData} (FF : FunD K "law" "law" (defArgs (top 99)) (defBody (top 99)) (defScope (top 99)) [] [] f fd) (c_begun : Cal P w K mg base "_law_begun" 1 ["_law_script"] (spBeg K)) (c_open : Cal P w K mg base "_law_open" 2 ["_law_state", "_law_k", "_law_many"] (spOpen K))
    (c_draw : Cal P w K mg base "_law_draw" 2 ["_law_state", "_law_many"] (spN K 1 P1M PDraw)) (c_ruler : Cal P w K mg base "_law_ruler" 3 ["_law_state"] (spN K 4 (fun ds => ds = []) (fun _ d => ∃ r, d = dRul r ∧ VR r))) (c_names : Cal P w K mg base "_law_names" 3 ["_law_state", "_law_many"] (spN K 2 (fun ds => ∃ n : Int, ds = [.int n] ∧ 0 ≤ n ∧ n ≤ 7) PNames))
    (c_box : Cal P w K mg base "_law_box" 4 ["_law_state", "_law_ruler_here", "_law_many"] (spN K 21 (fun ds => ∃ (r : Rul) (n : Int), ds = [dRul r, .int n] ∧ VR r ∧ 1 ≤ n ∧ n ≤ 3) PBox))
    (c_works : Cal P w K mg base "_law_works" 4 ["_law_state", "_law_names_here", "_law_ins", "_law_many"] (spN K 48 (fun ds => ∃ (ns : List Str) (ins many : Int), ds = [.list (ns.map .str), .int ins, .int many] ∧ (ns.length : Int) = ins + many ∧ 1 ≤ ins ∧ ins ≤ 3 ∧ 1 ≤ many ∧ many ≤ 4) PWorks))
    (c_right : Cal P w K mg base "_law_right" 13 ["_law_ruler_here", "_law_names_here", "_law_works_here", "_law_box_here", "_law_some"] (spP K R__law_right)) (c_entry : CalX P w K mg base "entry_of" 10 ["ruler", "work", "known", "row"] (spEnt K C)) (c_marks : Cal P w K mg base "entry_of_marks" 7 ["ruler", "low", "high"] (spP K R_entry_of_marks)) :
    FnOk P w K mg base CX0 14 f fd ["_law_script"] (spP K R_law) := by
  refine mk_fnR FF sc_law (fun ds d ⟨_, h, _⟩ => by subst h; rfl) (fun cdv A outer s H0 E hr F H σ Q ds d hR e0 kq => ?_)
  obtain ⟨xs, rfl, hx64, rfl⟩ := hR
  have hu := units_of hr
  have hσl : σ.length = 12 := by
    rw [← e0.len]
    rfl
  -- state
  obtain ⟨fb, fdb, hmb, Fb, hkb, hbb⟩ := c_begun.ex
  obtain ⟨v0, hv0, dv0⟩ := e0.at_ 0 (.list (xs.map .int)) rfl
  refine ⟨_, pss_cons (ps_set sc_law.nd (i := 1) rfl (Or.inl rfl) (pe_call Fb (hr.mono (by decide)) rfl hmb hkb hbb .nil pass0 (pa_cons (pv 0) pa_nil)) rfl) pss_u, ?_⟩
  refine ⟨v0, hv0, F, xs, v0, rfl, e0.fh, dv0, hx64, fun a F1 H1 s1 ha g1 => ?_⟩
  have e1 : EnvOk K F1 [some (.list (xs.map .int)), none, none, none, none, none, none, none, none, none, none, none] (σ.set 1 (some (.ref a))) H1 := (e0.step s1).setU 1 (.ref a)
  have HS := rzS_has (K := K) (s := 1) (a := a)
  have OK := rzS_ok (K := K) (s := 1) (a := a)
  have S1 : (rzS K 1 a).S (σ.set 1 (some (.ref a))) := by
    show (σ.set 1 _)[1]? = _
    rw [List.getElem?_set_self (by rw [hσl]; decide)]
  obtain ⟨many, hmany⟩ : ∃ many : Int, many = (if (1 : Int) < (if (4 : Int) < ((xs.length : Nat) : Int) then 4 else ((xs.length : Nat) : Int)) then (if (4 : Int) < ((xs.length : Nat) : Int) then 4 else ((xs.length : Nat) : Int)) else 1) := ⟨_, rfl⟩
  have hm1 : 1 ≤ many ∧ many ≤ 4 := by
    rw [hmany]
    split <;> split <;> omega
  refine us_set 2 (d := .int many) (pd_is (pd_max rfl T.max (pda_cons pd_int (pda_cons (pd_min rfl T.min (pda_cons (pd_lenL T.len (pd_var 0)) (pda_cons pd_int pda_nil))) pda_nil))) (by rw [hmany, List.length_map])) e1 (fun v2 F2 H2 s2 _ e2 => ?_) sc_law.nd
  have g2 := g1.step s2
  have st2 : StepM (· = a) F H F2 H2 := s1.m.trans s2.m
  have S2 := sS1 (j := 2) (v := some v2) (by decide) S1
  refine us_for (ds := rngD many) (src_range rfl T.range (pd_var 2) ⟨by omega, by omega⟩) (pg_name (i := 3) sc_law.nd rfl (Or.inl rfl)) tg_name (fun _ _ => trivial) e2 (fun F3 H3 i F' ρ' σ' H' => Same F3 F' ∧ LawI K xs many a F H F' ρ' σ' H') (fun F3 H3 s3 e3 => ⟨Same.refl _, e3, ⟨none, none, none, none, none, none, none, rfl⟩, st2.trans s3.m, g2.step s3, S2⟩) (fun F3 H3 i F' ρ' σ' H' h => ⟨h.1, h.2.env⟩)
    (fun F3 H3 i d F' ρ' σ' H' F4 σ4 H4 s3 hd hI s4 hl4 hk e4 => ?_) (fun F3 H3 F' ρ' σ' H' s3 hI => ?_)
  · obtain ⟨hff, I⟩ := hI
    obtain ⟨o3, o4, o5, o6, o7, o8, o9, rfl⟩ := I.sh
    have hlen : (rngD many).length = many.toNat := by unfold rngD; simp
    have him : i < many.toNat := by
      obtain ⟨h1, _⟩ := List.getElem?_eq_some_iff.mp hd
      omega
    have hdi : d = .int (i : Int) := by
      unfold rngD at hd
      rw [List.getElem?_map, List.getElem?_range (by omega)] at hd
      exact (Option.some.inj hd).symm
    subst hdi
    have S4 : (rzS K 1 a).S σ4 := (hk 1 (by simp)).trans I.s1
    obtain ⟨vk, hvk, dvk⟩ := e4.at_ 3 (.int (i : Int)) rfl
    obtain rfl : vk = .int (i : Int) := dp_int dvk
    obtain ⟨vm, hvm, dvm⟩ := e4.at_ 2 (.int many) rfl
    obtain rfl : vm = .int many := dp_int dvm
    -- open
    obtain ⟨fo, fdo, hmo, Fo, hko, hbo⟩ := c_open.ex
    refine ⟨_, pss_cons (ps_expr (pe_call Fo (hr.mono (by decide)) rfl hmo hko hbo .nil pass0 (pa_cons (pv 1) (pa_cons (pv 3) (pa_cons (pv 2) pa_nil)))) rfl) pss_u, ?_⟩
    refine ⟨_, S4, .int (i : Int), hvk, .int many, hvm, F4, a, (i : Int), many, rfl, s4.fh, I.g.step s4, by omega, by omega, hm1.1, hm1.2, fun F5 H5 s5 g5 => ?_⟩
    have e5 := e4.stepM s5
    -- ruler
    refine us_setN 4 (b := 996) (P1 := fun d => ∃ r, d = dRul r ∧ VR r) (pn_mono OK (pn_callS HS c_ruler (hr.mono (by decide)) (pna_nil OK) (fun ds h => h)) (Nat.le_refl _) fun d ⟨_, _, h⟩ => h) e5 S4 g5 (fun d v6 F6 H6 hd6 s6 g6 h6 e6 => ?_) sc_law.nd
    obtain ⟨r, rfl, vr⟩ := hd6
    have S6 := sS1 (j := 4) (v := some v6) (by decide) S4
    -- ins, rows
    refine us_parN 5 6 (bb := 994) (PL := fun ds => ∃ d ds', ds = d :: ds' ∧ IsI (fun i => 1 ≤ i ∧ i ≤ 3) d ∧ ∃ d ds'', ds' = d :: ds'' ∧ IsI (fun i => 2 ≤ i ∧ i ≤ 4) d ∧ ds'' = [])
      (pna_cons (pn_add (p := (· = 1)) (q := fun i => 0 ≤ i ∧ i < 3) (pn_int OK rfl) (pn_draw (m := 3) HS c_draw (hr.mono (by decide)) OK (pn_int OK ⟨by decide, by decide, by decide⟩) fun i h1 h2 => ⟨i, rfl, h1, h2⟩) fun i j h1 h2 => ⟨_, rfl, by omega, by omega⟩)
        (pna_cons (pn_add (p := (· = 2)) (q := fun i => 0 ≤ i ∧ i < 3) (pn_int OK rfl) (pn_draw (m := 3) HS c_draw (hr.mono (by decide)) OK (pn_int OK ⟨by decide, by decide, by decide⟩) fun i h1 h2 => ⟨i, rfl, h1, h2⟩) fun i j h1 h2 => ⟨_, rfl, by omega, by omega⟩) (pna_nil OK)))
      e6 S6 g6 (fun ds ⟨d, ds', h1, _, d2, ds2, h2, _, h3⟩ => ⟨d, d2, by rw [h1, h2, h3]⟩) (fun d1 d2 v w F7 H7 hd s7 g7 e7 => ?_) (ps_par (by rfl) sc_law.nd rfl rfl (by decide) rfl rfl pa_u (by rfl))
    obtain ⟨_, _, q1, ⟨ins, rfl, i1, i3⟩, _, _, q2, ⟨rows, rfl, r2, r4⟩, rfl⟩ := hd
    cases q1
    cases q2
    have S7 := sS1 (j := 6) (v := some w) (by decide) (sS1 (j := 5) (v := some v) (by decide) S6)
    -- names
    refine us_setN 7 (b := 992) (P1 := fun d => ∃ ns : List Str, d = .list (ns.map .str) ∧ (ns.length : Int) = ins + rows ∧ ns.Nodup) (pn_mono OK (pn_callS HS c_names (hr.mono (by decide)) (pna_pd OK (pda_cons (pd_add (pd_var 5) (pd_var 6)) pda_nil)) (fun ds h => ⟨ins + rows, h, by omega, by omega⟩)) (Nat.le_refl _) fun d ⟨ds, hds, n, ns, h1, h2, h3, h4⟩ => ⟨ns, h2, by
      rw [hds] at h1
      cases h1
      exact h3, h4⟩) e7 S7 g7 (fun d v8 F8 H8 hd8 s8 g8 h8 e8 => ?_) sc_law.nd
    obtain ⟨ns, rfl, hnl, hnd⟩ := hd8
    have S8 := sS1 (j := 7) (v := some v8) (by decide) S7
    -- box
    refine us_setN 8 (b := 971) (P1 := fun d => ∃ bx : List (List Rat), d = dBox bx ∧ (bx.length : Int) = ins ∧ ∀ ms ∈ bx, MsOk r ms) (pn_mono OK (pn_callS HS c_box (hr.mono (by decide)) (pna_pd OK (pda_cons (pd_var 4) (pda_cons (pd_var 5) pda_nil))) (fun ds h => ⟨r, ins, h, vr, i1, i3⟩)) (Nat.le_refl _) fun d ⟨ds, hds, r', n, bx, h1, h2, h3, h4⟩ => ⟨bx, h2, by
      rw [hds] at h1
      have e1 := (List.cons.inj (List.cons.inj h1).2).1
      cases e1
      exact h3, by
      rw [hds] at h1
      have e1 := dRul_inj (List.cons.inj h1).1
      subst e1
      exact h4⟩) e8 S8 g8 (fun d v9 F9 H9 hd9 s9 g9 h9 e9 => ?_) sc_law.nd
    obtain ⟨bx, rfl, hbl, hbm⟩ := hd9
    have S9 := sS1 (j := 8) (v := some v9) (by decide) S8
    -- works
    refine us_setN 9 (b := 923) (P1 := fun d => ∃ ws : List (Wk Str), d = .list (ws.map dWk) ∧ (ws.length : Int) = rows ∧ WksOk ns ins ws) (pn_mono OK (pn_callS HS c_works (hr.mono (by decide)) (pna_pd OK (pda_cons (pd_var 7) (pda_cons (pd_var 5) (pda_cons (pd_var 6) pda_nil)))) (fun ds h => ⟨ns, ins, rows, h, hnl, i1, i3, by omega, r4⟩)) (Nat.le_refl _) fun d ⟨ds, hds, ns', ins', many', ws, h1, h2, h3, h4⟩ => by
      rw [hds] at h1
      injection h1 with e1 e2
      injection e2 with e2 e3
      injection e3 with e3 e4
      injection e2 with e2
      injection e3 with e3
      injection e1 with e1
      subst e2 e3
      have : ns = ns' := (List.map_inj_right (fun x y h => by injection h)).mp e1
      subst this
      exact ⟨ws, h2, h3, h4⟩) e9 S9 g9 (fun d v10 F10 H10 hd10 s10 g10 h10 e10 => ?_) sc_law.nd
    obtain ⟨ws, rfl, hwl, hwo⟩ := hd10
    have S10 := sS1 (j := 9) (v := some v10) (by decide) S9
    have ro := M.right r ns ws bx ins rows vr hnd hnl hbl i1 i3 hwl r2 r4 hbm hwo
    refine us_ifN (bb := 921) (B := (· = !true)) (pnt_not (pnt_val (pn_callP OK c_right (hr.mono (by decide)) (pna_cons (P := (· = dRul r)) (pn_pd OK (pd_var 4) rfl) (pna_cons (P := (· = .list (ns.map .str))) (pn_pd OK (pd_var 7) rfl) (pna_cons (P := (· = .list (ws.map dWk))) (pn_pd OK (pd_var 9) rfl) (pna_cons (P := (· = dBox bx)) (pn_pd OK (pd_var 8) rfl) (pna_cons (pn_lst (pna_consA (P := IsI fun _ => True) (pn_draw (m := 64) HS c_draw (hr.mono (by decide)) OK (pn_int OK ⟨by decide, by decide, by decide⟩) fun i h1 h2 => ⟨i, rfl, trivial⟩) (pna_consA (P := IsI fun _ => True) (pn_draw (m := 64) HS c_draw (hr.mono (by decide)) OK (pn_int OK ⟨by decide, by decide, by decide⟩) fun i h1 h2 => ⟨i, rfl, trivial⟩) (pna_nilA OK))) (fun ds h => by rw [h.1]; rfl) OK) (pna_nil OK)))))) fun ds hds => ?_))) e10 S10 g10 (fun F11 H11 hb s11 g11 e11 => by cases hb) (fun F11 H11 _ s11 g11 e11 => ?_)
    · obtain ⟨_, _, rfl, rfl, _, _, rfl, rfl, _, _, rfl, rfl, _, _, rfl, rfl, _, _, rfl, ⟨ys, rfl, hy1, hy2⟩, rfl⟩ := hds
      obtain ⟨zs, rfl⟩ := ints_of (ds := ys) fun x hx => by
        obtain ⟨i, hi, _⟩ := hy2 x hx
        exact ⟨i, hi⟩
      exact ⟨_, ⟨r, ns, ws, bx, zs, rfl, ⟨ro, by
        rw [List.length_map] at hy1
        omega⟩, rfl⟩, rfl⟩
    · have stA := ((((((((I.st.trans (s4.m (M := (· = a)))).trans s5).trans s6).trans s7).trans s8).trans s9).trans s10).trans s11)
      have ffA := ((((((((hff.trans s4.ff).trans s5.ff).trans s6.ff).trans s7.ff).trans s8.ff).trans s9.ff).trans s10.ff).trans s11.ff)
      exact us_nil (us_nil ⟨F11, _, ffA, e11, ⟨_, _, _, _, _, _, _, rfl⟩, stA, g11.lo (Nat.zero_le _), S10⟩)
  · obtain ⟨hff, I⟩ := hI
    obtain ⟨o3, o4, o5, o6, o7, o8, o9, rfl⟩ := I.sh
    have stP : Step F H F' H' := I.st.fresh fun b hb => by rw [hb]; exact ha
    refine us_set 10 (d := dRul ten) (pd_tup (pda_cons pd_int (pda_cons pd_int (pda_cons pd_int (pda_cons pd_str pda_nil))))) I.env (fun v4 F4 H4 s4 _ e4 => ?_) sc_law.nd
    obtain ⟨fx, fdx, hmx, Fx, hkx, hbx⟩ := c_entry.ex
    obtain ⟨vt, hvt, dvt⟩ := e4.at_ 10 (dRul ten) rfl
    refine ⟨_, pss_cons (ps_set sc_law.nd (i := 11) rfl (Or.inl rfl) (pe_callS Fx (hr.mono (by decide)) rfl hmx hkx hbx (fun σ => passAt takes0 σ) (pa_cons (pv 10) (pa_cons pe_u (pa_cons (pe_disp (pps_cons pe_str pe_u pps_nil) rfl rfl (by simp) (by decide)) (pa_cons pe_int pa_nil))))) rfl) pss_u, ?_⟩
    refine ⟨vt, hvt, ?_⟩
    refine (show PD (cxN P w K mg base lwN "law" 99 f cdv A outer s H0 E) _ [some (.list (xs.map .int)), none, some (.int many), o3, o4, o5, o6, o7, o8, o9, some (dRul ten), none] (dWk (.sum true "x" "x")) from pd_tup (pda_cons pd_str (pda_cons pd_str (pda_cons pd_str pda_nil)))) F4 _ H4 _ e4 fun vw F5 H5 s5 h5 => ?_
    intro p hp
    have e5 := e4.step s5
    have fp : F5 p = none := Same.free e5.fh hp
    have st5 : StepM (fun _ => False) F H F5 H5 := ((stP.trans s4).trans s5).m
    obtain ⟨st6, h0p, _⟩ := st5.born (o := .dK []) hp
    refine (show PD (cxN P w K mg base lwN "law" 99 f cdv A outer s H0 E) _ [some (.list (xs.map .int)), none, some (.int many), o3, o4, o5, o6, o7, o8, o9, some (dRul ten), none] (dEn e37) from pd_is (pd_call c_marks (hr.mono (by decide)) (pda_cons (pd_var 10) (pda_cons (pd_is (pd_tup (pda_cons pd_int (pda_cons pd_int pda_nil))) (d2 := dFr 3) rfl) (pda_cons (pd_is (pd_tup (pda_cons pd_int (pda_cons pd_int pda_nil))) (d2 := dFr 7) rfl) pda_nil))) ⟨ten, 3, 7, rfl, ⟨vr_ten, bt3.mono (by decide), bt7.mono (by decide)⟩, rfl⟩) (by rw [M.m37])) F5 _ _ _ (e5.hp (Same.mut e5.fh fp)) fun ve F6 H6 s6 h6 => ?_
    obtain ⟨q1, q2⟩ := s6.own upd_same fp
    refine ⟨q1, [(.inr "x", ve)], rfl, (by show 1 ≤ 15; decide), ?_⟩
    have st7 := (st6.trans (s6.m (M := fun _ => False))).mut (o := .dK [(.inr "x", ve)]) q2 (.inl h0p)
    have hs : entOf ten (fun _ : Str => e37) (.sum true ("x" : Str) ("x" : Str)) = some eEnd := congrArg some M.s37
    refine ⟨F6, ten, .sum true "x" "x", vt, vw, p, 0, [(.inr "x", ve)], fun _ => e37, rfl, st7.fh, dp_mono (s5.ff.trans s6.ff) dvt, dp_mono s6.ff h5, ⟨q2, upd_same, fun n hn => ?_⟩, ⟨vr_ten, fun _ _ => eb37, (fun q h => by cases h), fun e he => ?_⟩, fun e he v F7 H7 s7 h7 => ?_, fun hn => ?_⟩
    · have : n = ("x" : Str) := by
        have : n = ("x" : Str) ∨ n = ("x" : Str) := by simpa [wkNs] using hn
        rcases this with h | h <;> exact h
      subst this
      exact ⟨ve, rfl, h6⟩
    · rw [hs] at he
      cases he
      exact ngEnd
    · rw [hs] at he
      cases he
      have ff7 := (s5.ff.trans s6.ff).trans s7.ff
      have e7 : EnvOk K F7 [some (.list (xs.map .int)), none, some (.int many), o3, o4, o5, o6, o7, o8, o9, some (dRul ten), some (dEn eEnd)] ((σ'.set 10 (some v4)).set 11 (some v)) H7 := EnvOk.set ⟨s7.fh, e4.len, fun j d hj => let ⟨u, h1, h2⟩ := e4.at_ j d hj; ⟨u, h1, dp_mono ff7 h2⟩⟩ 11 h7
      have st8 := StepM.pure (st7.trans (s7.m (M := fun _ => False)))
      refine us_ret (d := .bool true) (pd_is (pd_cmp (qc_eqD hu (pd_var 11) (pd_tup (pda_cons (pd_tup (pda_cons pd_int (pda_cons pd_int pda_nil))) (pda_cons (pd_tup (pda_cons pd_int (pda_cons pd_int pda_nil))) (pda_cons (pd_tup (pda_cons pd_int (pda_cons pd_int pda_nil))) (pda_cons (pd_tup (pda_cons pd_int (pda_cons pd_int pda_nil))) (pda_cons (pd_tup (pda_cons pd_int (pda_cons pd_int pda_nil))) (pda_cons pd_int pda_nil))))))) rfl rfl)) (congrArg PyData.bool (by decide +kernel))) e7 (fun v F8 H8 s8 h8 => kq v F8 H8 (st8.trans s8) h8)
    · rw [hs] at hn
      cases hn
theorem dpa_ints {K : PySem.W.Frag} {H : Hp} : ∀ ns : List Int, DpAll K H (ns.map V.int) (ns.map PyData.int)
  | [] => .nil
  | n :: r => .cons (.int n) (dpa_ints r)
theorem dp_ints {K : PySem.W.Frag} {H : Hp} {a : Addr} {ns : List Int} (h : SqL K H a (ns.map V.int)) : Dp K H (.ref a) (.list (ns.map .int)) := .lst h (dpa_ints ns)
end
end Rs
end

section
set_option Elab.async false
set_option linter.all false
set_option maxRecDepth 100000
set_option maxHeartbeats 400000
namespace Rs
open PySem PySem.Spec
/-! ### inductions over the rows -/
def nK : Nat → Nat
  | 0 => 37
  | k + 1 => 2 * nK k + 1
def tK : Nat → Nat
  | 0 => 38
  | k + 1 => 2 * tK k + 1
def lK : Nat → Nat
  | 0 => 1
  | k + 1 => lK k + (nK k + tK k + 49)
theorem lev {k : Nat} (h : k ≤ 4) : nK k ≤ 607 ∧ tK k ≤ 623 ∧ lK k ≤ 1344 ∧ 37 ≤ nK k ∧ 37 ≤ tK k ∧ nK k ≤ tK k ∧ (k ≤ 3 → tK k ≤ nK k + 32 ∧ nK k ≤ 303 ∧ tK k ≤ 311 ∧ lK k ≤ 681) := by
  have : k = 0 ∨ k = 1 ∨ k = 2 ∨ k = 3 ∨ k = 4 := by omega
  rcases this with rfl | rfl | rfl | rfl | rfl <;> decide
section
variable {r : Rul} (v : VR r)
include v
theorem mark_Bt {x : Rat} {n : Nat} (m : mult r x (plc r x)) (h : qabs x ≤ P2 n) : Bt (17 + n) x :=
  Bt_of (iz_mark v m) (WW_pos v) (by have := WW_le v; omega) h
theorem EI.err_Bt {n T L : Nat} {Λ : Int} {e : Ent} (h : EI r n T Λ e) (l0 : 0 < Λ) (l1 : Λ < 2 ^ L) (nT : n ≤ T) : Bt (L + (T + 1)) e.err := by
  refine Bt_of h.lam l0 l1 ?_
  have e0 := h.e0
  have e1 := h.e1
  have a1 := h.slo
  have a2 := h.shi
  have b1 : qabs e.tlo < P2 T := h.tlo.lt
  have b2 : qabs e.thi < P2 T := h.thi.lt
  have m := P2_mono nT
  have ad : P2 (T + 1) = P2 T * P2 1 := P2_add T 1
  rw [P2_one] at ad
  rw [qabs_of_nn e0]
  have hap : apartS e.rp e.tp ≤ P2 T + P2 T := by
    show qmax (e.hi - e.tlo) (e.thi - e.lo) ≤ _
    rw [qabs_le v] at a1 a2
    rw [qabs_lt v] at b1 b2
    unfold qmax
    split <;> grind
  grind
theorem EI.eb {n T L : Nat} {Λ : Int} {e : Ent} (h : EI r n T Λ e) (l0 : 0 < Λ) (l1 : Λ < 2 ^ L) (nT : n ≤ T) (n1 : n ≤ 303) (t1 : T ≤ 311) (l2 : L ≤ 681) : EB e :=
  ⟨h.lr, h.lt, ⟨(mark_Bt v h.mlo h.slo).mono (by omega), (mark_Bt v h.mhi h.shi).mono (by omega)⟩, ⟨h.tlo.mono (by omega), h.thi.mono (by omega)⟩, (EI.err_Bt v h l0 l1 nT).mono (by omega), fun x e => by
    have := h.gr x e
    omega⟩
theorem ng_of {q : Rat} {n : Nat} (h : Bt n q) (hn : n ≤ 1990) : NG q := by
  have h2 := h.mono hn
  have h3 := h2.nu
  have h4 := h2.de
  unfold IB at h3
  have hg : (2 ^ 1990 : Nat) ≤ (10 ^ 60) ^ 10 := by decide +kernel
  unfold NG gre
  constructor
  · have : (q.num.natAbs : Nat) ≤ (10 ^ 60) ^ 10 := by omega
    exact_mod_cast this
  · have : q.den ≤ (10 ^ 60) ^ 10 := by omega
    exact_mod_cast this
theorem EI.ng {n T L : Nat} {Λ : Int} {e : Ent} (h : EI r n T Λ e) (l0 : 0 < Λ) (l1 : Λ < 2 ^ L) (nT : n ≤ T) (n1 : n ≤ 607) (t1 : T ≤ 623) (l2 : L ≤ 1344) : NGE e ∧ EB0 e := by
  have a1 := mark_Bt v h.mlo h.slo
  have a2 := mark_Bt v h.mhi h.shi
  have a3 := EI.err_Bt v h l0 l1 nT
  exact ⟨⟨ng_of v a1 (by omega), ng_of v a2 (by omega), ng_of v h.tlo (by omega), ng_of v h.thi (by omega), ng_of v a3 (by omega)⟩,
    ⟨a1.mono (by omega), a2.mono (by omega), h.tlo.mono (by omega), h.thi.mono (by omega), a3.mono (by omega), fun x e => by
      have := h.gr x e
      omega⟩⟩
/-- entries that are at hand after so many rows -/
def ES (r : Rul) (k : Nat) (A : List Str) (kn : Str → Ent) : Prop := ∃ Λ : Int, 0 < Λ ∧ Λ < 2 ^ lK k ∧ ∀ m ∈ A, EI r (nK k) (tK k) Λ (kn m)
theorem ent_step {k : Nat} {kn : Str → Ent} {w : Wk Str} {Λ : Int} {e : Ent} (hk : k ≤ 3) (h : ∀ m ∈ wkNs w, EI r (nK k) (tK k) Λ (kn m)) (hq : ∀ q, w = .number q → Bt 34 q) (he : entOf r kn w = some e) : Nx r (nK k) (tK k) Λ e := by
  obtain ⟨_, _, _, a, b, _, c⟩ := lev (k := k) (by omega)
  obtain ⟨c, _⟩ := c hk
  cases w with
  | number q =>
    cases he
    exact numE_EI v a b c (hq q rfl)
  | sum p x y =>
    cases he
    exact sumE_EI v a b c (h x (by simp [wkNs])) (h y (by simp [wkNs]))
  | times x y =>
    cases he
    exact prodE_EI v a b c (h x (by simp [wkNs])) (h y (by simp [wkNs]))
  | over x y => exact quotE_EI v a b c (h x (by simp [wkNs])) (h y (by simp [wkNs])) he
  | turned x =>
    cases he
    exact turnE_EI v a b c (h x (by simp [wkNs]))
  | size x =>
    cases he
    exact sizeE_EI v a b c (h x (by simp [wkNs]))
  | chos l x y =>
    cases he
    exact chosE_EI v a b c (h x (by simp [wkNs])) (h y (by simp [wkNs]))
  | pick x y u w =>
    cases he
    exact pickE_EI v a b c (h u (by simp [wkNs])) (h w (by simp [wkNs]))
/-- what rows may name -/
def WA (A ns : List Str) (ws : List (Wk Str)) : Prop := ∀ i w, ws[i]? = some w → WkOk (A ++ ns.take i) w
theorem WA.head {A ns : List Str} {w : Wk Str} {ws : List (Wk Str)} (h : WA A ns (w :: ws)) : WkOk A w := by
  have := h 0 w rfl
  rwa [List.take_zero, List.append_nil] at this
theorem WA.tail {A ns : List Str} {n : Str} {w : Wk Str} {ws : List (Wk Str)} (h : WA A (n :: ns) (w :: ws)) : WA (A ++ [n]) ns ws := fun i x e => by
  have := h (i + 1) x (by simpa using e)
  rw [List.take_succ_cons] at this
  rw [List.append_assoc]
  exact this
theorem num34 {q : Rat} (h : NumOk q) : Bt 34 q := by
  have h1 := h.nu
  have h2 := h.de
  constructor
  · unfold IB
    omega
  · omega
theorem ES.up {k : Nat} {A : List Str} {kn : Str → Ent} {Λ c : Int} {n : Str} {e : Ent} (l0 : 0 < Λ) (l1 : Λ < 2 ^ lK k) (h : ∀ m ∈ A, EI r (nK k) (tK k) Λ (kn m)) (c0 : 0 < c) (c1 : c < 2 ^ (nK k + tK k + 49)) (he : EI r (nK (k + 1)) (tK (k + 1)) (Λ * c) e) : 0 < Λ * c ∧ Λ * c < 2 ^ lK (k + 1) ∧ ∀ m ∈ A ++ [n], EI r (nK (k + 1)) (tK (k + 1)) (Λ * c) (upF kn n e m) := by
  refine ⟨Int.mul_pos l0 c0, ?_, fun m hm => ?_⟩
  · show _ < (2 : Int) ^ (lK k + (nK k + tK k + 49))
    rw [Int.pow_add]
    have a := Int.mul_lt_mul_of_pos_right l1 c0
    have b := Int.mul_lt_mul_of_pos_left c1 (show (0 : Int) < 2 ^ lK k from Int.pow_pos (by decide))
    omega
  · unfold upF
    by_cases z : m = n
    · rw [if_pos z]
      exact he
    · rw [if_neg z]
      have : m ∈ A := by
        rcases List.mem_append.mp hm with y | y
        · exact y
        · exact absurd (by simpa using y) z
      exact (h m this).mono (by show nK k ≤ 2 * nK k + 1; omega) (by show tK k ≤ 2 * tK k + 1; omega)
theorem ent_ind : ∀ (ws : List (Wk Str)) (ns A : List Str) (k : Nat) (kn : Str → Ent), k + ws.length ≤ 4 → ES r k A kn → WA A ns ws → EntOk r ns ws kn ∧ ∀ e ∈ entV r ns ws kn, EB0 e ∧ e.err ≤ apartS e.rp e.tp
  | [], ns, A, k, kn, hk, h, hw => by
    cases ns <;> exact ⟨trivial, fun e he => by unfold entV at he; cases he⟩
  | w :: ws, [], A, k, kn, hk, h, hw => ⟨trivial, fun e he => by unfold entV at he; cases he⟩
  | w :: ws, n :: ns, A, k, kn, hk, h, hw => by
    obtain ⟨Λ, l0, l1, h⟩ := h
    rw [List.length_cons] at hk
    have wk := hw.head v
    obtain ⟨b1, b2, b3, b4, b5, b6, b7⟩ := lev (k := k) (by omega)
    obtain ⟨b8, b9, b10, b11⟩ := b7 (by omega)
    obtain ⟨d1, d2, d3, d4, d5, d6, _⟩ := lev (k := k + 1) (by omega)
    have st : ∀ e, entOf r kn w = some e → NGE e ∧ EB0 e ∧ e.err ≤ apartS e.rp e.tp ∧ ES r (k + 1) (A ++ [n]) (upF kn n e) := fun e he => by
      obtain ⟨c, c0, c1, hc⟩ := ent_step v (k := k) (by omega) (fun m hm => h m (wk.ns m hm)) (fun q z => num34 v (wk.num q z)) he
      obtain ⟨u1, u2, u3⟩ := ES.up v (n := n) l0 l1 h c0 c1 hc
      obtain ⟨g1, g2⟩ := EI.ng v (show EI r (nK (k + 1)) (tK (k + 1)) (Λ * c) e from hc) u1 u2 d6 d1 d2 d3
      exact ⟨g1, g2, hc.e1, _, u1, u2, u3⟩
    refine ⟨⟨fun m hm => EI.eb v (h m (wk.ns m hm)) l0 l1 b6 b9 b10 b11, fun q z => (num34 v (wk.num q z)).mono (by decide), fun e he => ?_⟩, fun e he => ?_⟩
    · obtain ⟨g1, _, _, g4⟩ := st e he
      exact ⟨g1, (ent_ind ws ns (A ++ [n]) (k + 1) _ (by omega) g4 (hw.tail v)).1⟩
    · unfold entV at he
      cases z : entOf r kn w with
      | none =>
        rw [z] at he
        cases he
      | some e' =>
        rw [z] at he
        obtain ⟨_, g2, g3, g4⟩ := st e' z
        rcases List.mem_cons.mp he with y | y
        · rw [y]
          exact ⟨g2, g3⟩
        · exact (ent_ind ws ns (A ++ [n]) (k + 1) _ (by omega) g4 (hw.tail v)).2 e y
/-! runs -/
theorem over_bd {a b : Rat} {n : Nat} (hb : mult r b (plc r b)) (b0 : b ≠ 0) (sa : qabs a ≤ P2 n) (hn : 16 ≤ n) : qabs (a / b) ≤ P2 (2 * n) := by
  obtain ⟨q, hq⟩ := iz_mark v hb
  have w0 := WW_pos v
  have w1 := WW_le v
  have wR : (0 : Rat) < (WW r : Rat) := intCast_lt.mpr w0
  have wR1 : (WW r : Rat) ≤ P2 16 := intCast_le.mpr w1
  have q0 : q ≠ 0 := fun z => by
    rw [z] at hq
    have : (WW r : Rat) * b = 0 := hq
    have := Rat.mul_eq_zero.mp this
    grind
  have e1 : qabs (q : Rat) = (WW r : Rat) * qabs b := by rw [← hq, qabs_mul, qabs_pos wR]
  have g1 := qabs_int_ge q0
  have hab : a / b * b = a := Rat.div_mul_cancel b0
  have h1 : qabs (a / b) * 1 ≤ qabs (a / b) * ((WW r : Rat) * qabs b) := Rat.mul_le_mul_of_nonneg_left (by rw [← e1]; exact g1) (qabs_nn _)
  have h2 : qabs (a / b) * qabs b = qabs a := by rw [← qabs_mul, hab]
  generalize qabs (a / b) = z at h1 h2 ⊢
  have h7 : z * ((WW r : Rat) * qabs b) = (WW r : Rat) * qabs a := by
    rw [← h2]
    grind
  rw [h7, Rat.mul_one] at h1
  have h3 := Rat.mul_le_mul_of_nonneg_left sa (show 0 ≤ (WW r : Rat) by grind)
  have h4 := Rat.mul_le_mul_of_nonneg_right wR1 (show 0 ≤ P2 n by have := P2_pos n; grind)
  have h5 := P2_mono (show 16 + n ≤ 2 * n by omega)
  have h6 := P2_add 16 n
  grind
structure MK (r : Rul) (n : Nat) (x : Rat) : Prop where
  m : mult r x (plc r x)
  s : qabs x ≤ P2 n
theorem MK.mono {n m : Nat} {x : Rat} (h : MK r n x) (l : n ≤ m) : MK r m x := ⟨h.m, by
  have := P2_mono l
  have := h.s
  grind⟩
theorem MK.rnd {n : Nat} {q : Rat} (n4 : 4 ≤ n) (h : qabs q ≤ P2 (2 * n)) : MK r (2 * n + 1) (rnd r q) := ⟨rnd_isM v q, by
  have h16 : 16 ≤ P2 (2 * n) := by
    have := P2_mono (show 4 ≤ 2 * n by omega)
    have e : P2 4 = 16 := rfl
    grind
  have e1 : P2 (2 * n + 1) = P2 (2 * n) * P2 1 := P2_add (2 * n) 1
  rw [P2_one] at e1
  have := rnd_bd v h h16
  grind⟩
theorem runT_step {n : Nat} {kv : Str → Rat} {w : Wk Str} (n37 : 37 ≤ n) (n3 : n ≤ 303) (h : ∀ m ∈ wkNs w, MK r n (kv m)) (hq : ∀ q, w = .number q → Bt 34 q) {q : Rat} (e : exa kv w = some q) : Bt 1300 q ∧ MK r (2 * n + 1) (stepQ r true w q) := by
  have B : ∀ m ∈ wkNs w, Bt (17 + n) (kv m) := fun m hm => mark_Bt v (h m hm).m (h m hm).s
  have p2 := P2_2 n (by omega)
  cases w with
  | number q' =>
    cases e
    have h1 := hq q rfl
    refine ⟨h1.mono (by omega), MK.rnd v (by omega) ?_⟩
    have h2 : qabs q < P2 34 := h1.lt
    have := P2_mono (show 34 ≤ 2 * n by omega)
    grind
  | sum p x y =>
    have hx := h x (by simp [wkNs])
    have hy := h y (by simp [wkNs])
    have bx := B x (by simp [wkNs])
    have bY := B y (by simp [wkNs])
    have sx := hx.s
    have sy := hy.s
    cases e
    cases p with
    | true =>
      refine ⟨(bx.add bY).mono (by omega), MK.rnd v (by omega) ?_⟩
      show qabs (kv x + kv y) ≤ _
      have := qabs_tri (kv x) (kv y)
      grind
    | false =>
      refine ⟨(bx.sub bY).mono (by omega), MK.rnd v (by omega) ?_⟩
      show qabs (kv x - kv y) ≤ _
      have := qabs_tri (kv x) (-kv y)
      rw [qabs_neg, ← Rat.sub_eq_add_neg] at this
      grind
  | times x y =>
    have bx := B x (by simp [wkNs])
    have bY := B y (by simp [wkNs])
    cases e
    refine ⟨(bx.mul bY).mono (by omega), MK.rnd v (by omega) ?_⟩
    have := abs_mul_bd (h x (by simp [wkNs])).s (h y (by simp [wkNs])).s
    rwa [show n + n = 2 * n by omega] at this
  | over x y =>
    have hx := h x (by simp [wkNs])
    have hy := h y (by simp [wkNs])
    have bx := B x (by simp [wkNs])
    have bY := B y (by simp [wkNs])
    have e : (if kv y = 0 then none else some (kv x / kv y)) = some q := e
    by_cases h0 : kv y = 0
    · rw [if_pos h0] at e
      cases e
    · rw [if_neg h0] at e
      cases e
      exact ⟨(bx.div bY h0).mono (by omega), MK.rnd v (by omega) (over_bd v hy.m h0 hx.s (by omega))⟩
  | turned x =>
    have hx := h x (by simp [wkNs])
    cases e
    exact ⟨(B x (by simp [wkNs])).neg.mono (by omega), mk_neg v hx.m, by
      show qabs (-kv x) ≤ _
      rw [qabs_neg]
      exact up_bd v hx.s⟩
  | size x =>
    have hx := h x (by simp [wkNs])
    cases e
    exact ⟨(B x (by simp [wkNs])).abs.mono (by omega), mk_abs v hx.m, by
      show qabs (qabs (kv x)) ≤ _
      rw [qabs_of_nn (qabs_nn _)]
      exact up_bd v hx.s⟩
  | chos l x y =>
    have P : ∀ z, z = kv x ∨ z = kv y → Bt 1300 z ∧ MK r (2 * n + 1) z := fun z hz => by
      rcases hz with rfl | rfl
      · exact ⟨(B x (by simp [wkNs])).mono (by omega), (h x (by simp [wkNs])).mono v (by omega)⟩
      · exact ⟨(B y (by simp [wkNs])).mono (by omega), (h y (by simp [wkNs])).mono v (by omega)⟩
    cases e
    have hz : (bif l then qmin (kv x) (kv y) else qmax (kv x) (kv y)) = kv x ∨ (bif l then qmin (kv x) (kv y) else qmax (kv x) (kv y)) = kv y := by
      cases l
      · show qmax _ _ = _ ∨ qmax _ _ = _
        unfold qmax
        split
        · exact .inr rfl
        · exact .inl rfl
      · show qmin _ _ = _ ∨ qmin _ _ = _
        unfold qmin
        split
        · exact .inr rfl
        · exact .inl rfl
    exact P _ hz
  | pick x y a b =>
    have P : ∀ z, z = kv a ∨ z = kv b → Bt 1300 z ∧ MK r (2 * n + 1) z := fun z hz => by
      rcases hz with rfl | rfl
      · exact ⟨(B a (by simp [wkNs])).mono (by omega), (h a (by simp [wkNs])).mono v (by omega)⟩
      · exact ⟨(B b (by simp [wkNs])).mono (by omega), (h b (by simp [wkNs])).mono v (by omega)⟩
    cases e
    have hz : (if kv x < kv y then kv a else kv b) = kv a ∨ (if kv x < kv y then kv a else kv b) = kv b := by
      split
      · exact .inl rfl
      · exact .inr rfl
    exact P _ hz
theorem runF_step {T : Nat} {kv : Str → Rat} {w : Wk Str} (T37 : 37 ≤ T) (T3 : T ≤ 311) (h : ∀ m ∈ wkNs w, Bt T (kv m)) (hq : ∀ q, w = .number q → Bt 34 q) {q : Rat} (e : exa kv w = some q) : Bt (2 * T + 1) q := by
  cases w with
  | number q' =>
    cases e
    exact (hq q rfl).mono (by omega)
  | sum p x y =>
    have bx := h x (by simp [wkNs])
    have bY := h y (by simp [wkNs])
    cases e
    cases p with
    | true => exact (bx.add bY).mono (by omega)
    | false => exact (bx.sub bY).mono (by omega)
  | times x y =>
    cases e
    exact ((h x (by simp [wkNs])).mul (h y (by simp [wkNs]))).mono (by omega)
  | over x y =>
    have e : (if kv y = 0 then none else some (kv x / kv y)) = some q := e
    by_cases h0 : kv y = 0
    · rw [if_pos h0] at e
      cases e
    · rw [if_neg h0] at e
      cases e
      exact ((h x (by simp [wkNs])).div (h y (by simp [wkNs])) h0).mono (by omega)
  | turned x =>
    cases e
    exact (h x (by simp [wkNs])).neg.mono (by omega)
  | size x =>
    cases e
    exact (h x (by simp [wkNs])).abs.mono (by omega)
  | chos l x y =>
    cases e
    have a := (h x (by simp [wkNs])).mono (show T ≤ 2 * T + 1 by omega)
    have b := (h y (by simp [wkNs])).mono (show T ≤ 2 * T + 1 by omega)
    cases l
    · exact Bt_qmax a b
    · exact Bt_qmin a b
  | pick x y a b =>
    cases e
    have a' := (h a (by simp [wkNs])).mono (show T ≤ 2 * T + 1 by omega)
    have b' := (h b (by simp [wkNs])).mono (show T ≤ 2 * T + 1 by omega)
    show Bt (2 * T + 1) (if kv x < kv y then kv a else kv b)
    split <;> assumption
/-- values at hand after so many rows -/
def RS (r : Rul) (isR : Bool) (k : Nat) (x : Rat) : Prop := match isR with
  | true => MK r (nK k) x
  | false => Bt (tK k) x
theorem RS.bt {isR : Bool} {k : Nat} {x : Rat} (hk : k ≤ 4) (h : RS r isR k x) : Bt (if k ≤ 3 then 330 else 700) x := by
  obtain ⟨b1, b2, b3, b4, b5, b6, b7⟩ := lev (k := k) hk
  cases isR with
  | true =>
    have h : MK r (nK k) x := h
    refine (mark_Bt v h.m h.s).mono ?_
    split
    · have := b7 (by assumption)
      omega
    · omega
  | false =>
    have h : Bt (tK k) x := h
    refine h.mono ?_
    split
    · have := b7 (by assumption)
      omega
    · omega
theorem RS.up {isR : Bool} {k : Nat} {x : Rat} (h : RS r isR k x) : RS r isR (k + 1) x := by
  cases isR with
  | true => exact MK.mono v (show MK r (nK k) x from h) (by show nK k ≤ 2 * nK k + 1; omega)
  | false => exact Bt.mono (show Bt (tK k) x from h) (by show tK k ≤ 2 * tK k + 1; omega)
theorem run_step {isR : Bool} {k : Nat} {kv : Str → Rat} {w : Wk Str} (hk : k ≤ 3) (h : ∀ m ∈ wkNs w, RS r isR k (kv m)) (hq : ∀ q, w = .number q → Bt 34 q) {q : Rat} (e : exa kv w = some q) : Bt 1300 q ∧ RS r isR (k + 1) (stepQ r isR w q) := by
  obtain ⟨b1, b2, b3, b4, b5, b6, b7⟩ := lev (k := k) (by omega)
  obtain ⟨b8, b9, b10, b11⟩ := b7 hk
  cases isR with
  | true => exact runT_step v b4 b9 h hq e
  | false =>
    have := runF_step v b5 b10 h hq e
    exact ⟨this.mono (by omega), this⟩
theorem run_ind {isR : Bool} : ∀ (ws : List (Wk Str)) (ns A : List Str) (k : Nat) (kv : Str → Rat), k + ws.length ≤ 4 → (∀ m ∈ A, RS r isR k (kv m)) → WA A ns ws → RunOk r isR ns ws kv ∧ ∀ o ∈ runV r isR ns ws kv, Bt 1900 o
  | [], ns, A, k, kv, hk, h, hw => by
    cases ns <;> exact ⟨trivial, fun e he => by unfold runV at he; cases he⟩
  | w :: ws, [], A, k, kv, hk, h, hw => ⟨trivial, fun e he => by unfold runV at he; cases he⟩
  | w :: ws, n :: ns, A, k, kv, hk, h, hw => by
    rw [List.length_cons] at hk
    have wk := hw.head v
    have st : ∀ q, exa kv w = some q → Bt 1300 q ∧ RS r isR (k + 1) (stepQ r isR w q) ∧ ∀ m ∈ A ++ [n], RS r isR (k + 1) (upF kv n (stepQ r isR w q) m) := fun q e => by
      obtain ⟨a, b⟩ := run_step v (k := k) (by omega) (fun m hm => h m (wk.ns m hm)) (fun q z => num34 v (wk.num q z)) e
      refine ⟨a, b, fun m hm => ?_⟩
      unfold upF
      by_cases z : m = n
      · rw [if_pos z]
        exact b
      · rw [if_neg z]
        have : m ∈ A := by
          rcases List.mem_append.mp hm with y | y
          · exact y
          · exact absurd (by simpa using y) z
        exact RS.up v (h m this)
    refine ⟨⟨fun m hm => ?_, fun q e => ?_⟩, fun o ho => ?_⟩
    · have := RS.bt v (k := k) (by omega) (h m (wk.ns m hm))
      rw [if_pos (by omega)] at this
      exact this.mono (by decide)
    · obtain ⟨a, b, c⟩ := st q e
      exact ⟨a, (run_ind ws ns (A ++ [n]) (k + 1) _ (by omega) c (hw.tail v)).1⟩
    · unfold runV at ho
      cases z : exa kv w with
      | none =>
        rw [z] at ho
        cases ho
      | some q =>
        rw [z] at ho
        obtain ⟨a, b, c⟩ := st q z
        rcases List.mem_cons.mp ho with y | y
        · rw [y]
          have := RS.bt v (k := k + 1) (by omega) b
          refine this.mono ?_
          split <;> decide
        · exact (run_ind ws ns (A ++ [n]) (k + 1) _ (by omega) c (hw.tail v)).2 o y
/-! values lie in entries -/
theorem val_step {kn : Str → Ent} {kx kt : Str → Rat} {w : Wk Str} {e : Ent} (h : ∀ m ∈ wkNs w, Val r (kn m) (kx m) (kt m)) (he : entOf r kn w = some e) : ∃ q t, exa kx w = some q ∧ exa kt w = some t ∧ Val r e (stepQ r true w q) (stepQ r false w t) := by
  cases w with
  | number q =>
    cases he
    refine ⟨q, q, rfl, rfl, roundE_val v ⟨Rat.le_refl, Rat.le_refl⟩ ⟨Rat.le_refl, Rat.le_refl⟩ ?_ (fun a e => nomatch e)⟩
    have : q - q = 0 := by grind
    show qabs (q - q) ≤ 0
    rw [this]
    decide
  | sum p x y =>
    cases he
    exact ⟨_, _, rfl, rfl, sumE_val v (h x (by simp [wkNs])) (h y (by simp [wkNs]))⟩
  | times x y =>
    cases he
    exact ⟨_, _, rfl, rfl, prodE_val v (h x (by simp [wkNs])) (h y (by simp [wkNs]))⟩
  | over x y =>
    obtain ⟨a, b, c⟩ := quotE_val v (h x (by simp [wkNs])) (h y (by simp [wkNs])) he
    exact ⟨_, _, if_neg a, if_neg b, c⟩
  | turned x =>
    cases he
    exact ⟨_, _, rfl, rfl, turnE_val v (h x (by simp [wkNs]))⟩
  | size x =>
    cases he
    exact ⟨_, _, rfl, rfl, sizeE_val v (h x (by simp [wkNs]))⟩
  | chos l x y =>
    cases he
    exact ⟨_, _, rfl, rfl, chosE_val v (h x (by simp [wkNs])) (h y (by simp [wkNs]))⟩
  | pick x y a b =>
    cases he
    exact ⟨_, _, rfl, rfl, pickE_val v (h x (by simp [wkNs])) (h y (by simp [wkNs])) (h a (by simp [wkNs])) (h b (by simp [wkNs])) (fun z => by
      have : a = b := of_decide_eq_true z
      subst this
      exact ⟨rfl, rfl, rfl⟩)⟩
theorem val_ind : ∀ (ws : List (Wk Str)) (ns A : List Str) (kn : Str → Ent) (kx kt : Str → Rat), (∀ m ∈ A, Val r (kn m) (kx m) (kt m)) → WA A ns ws →
    (entV r ns ws kn).length ≤ min (runV r true ns ws kx).length (runV r false ns ws kt).length ∧ ∀ (i : Nat) (e : Ent) (o t : Rat), (entV r ns ws kn)[i]? = some e → (runV r true ns ws kx)[i]? = some o → (runV r false ns ws kt)[i]? = some t → Val r e o t
  | [], ns, A, kn, kx, kt, h, hw => by
    cases ns <;> exact ⟨Nat.zero_le _, fun i e o t he => by unfold entV at he; simp at he⟩
  | w :: ws, [], A, kn, kx, kt, h, hw => ⟨Nat.zero_le _, fun i e o t he => by unfold entV at he; simp at he⟩
  | w :: ws, n :: ns, A, kn, kx, kt, h, hw => by
    have wk := hw.head v
    cases z : entOf r kn w with
    | none =>
      have e0 : entV r (n :: ns) (w :: ws) kn = [] := by
        show (match entOf r kn w with | none => [] | some e => e :: entV r ns ws (upF kn n e)) = _
        rw [z]
      rw [e0]
      exact ⟨Nat.zero_le _, fun i e o t he => by simp at he⟩
    | some e =>
      obtain ⟨q, t, hq, ht, hv⟩ := val_step v (fun m hm => h m (wk.ns m hm)) z
      have e0 : entV r (n :: ns) (w :: ws) kn = e :: entV r ns ws (upF kn n e) := by
        show (match entOf r kn w with | none => [] | some e => e :: entV r ns ws (upF kn n e)) = _
        rw [z]
      have e1 : runV r true (n :: ns) (w :: ws) kx = stepQ r true w q :: runV r true ns ws (upF kx n (stepQ r true w q)) := by
        show (match exa kx w with | none => [] | some q => _) = _
        rw [hq]
      have e2 : runV r false (n :: ns) (w :: ws) kt = stepQ r false w t :: runV r false ns ws (upF kt n (stepQ r false w t)) := by
        show (match exa kt w with | none => [] | some q => _) = _
        rw [ht]
      have nx := val_ind ws ns (A ++ [n]) (upF kn n e) (upF kx n (stepQ r true w q)) (upF kt n (stepQ r false w t)) (fun m hm => by
        unfold upF
        by_cases y : m = n
        · rw [if_pos y, if_pos y, if_pos y]
          exact hv
        · rw [if_neg y, if_neg y, if_neg y]
          refine h m ?_
          rcases List.mem_append.mp hm with u | u
          · exact u
          · exact absurd (by simpa using u) y) (hw.tail v)
      rw [e0, e1, e2]
      refine ⟨by
        have := nx.1
        simp only [List.length_cons]
        omega, fun i e' o t' he ho ht' => ?_⟩
      cases i with
      | zero =>
        have a1 : e = e' := by simpa using he
        have a2 : stepQ r true w q = o := by simpa using ho
        have a3 : stepQ r false w t = t' := by simpa using ht'
        subst a1 a2 a3
        exact hv
      | succ i => exact nx.2 i e' o t' (by simpa using he) (by simpa using ho) (by simpa using ht')
theorem keeps_of {e : Ent} {x t : Rat} (h : Val r e x t) : keepsB r e x t = true := by
  have h1 := h.x1
  have h2 := h.x2
  have h3 := h.t1
  have h4 := h.t2
  have h5 := h.er
  have l1 : liesB x e.lo e.hi = true := by
    unfold liesB
    rw [decide_eq_false (by grind), decide_eq_false (by grind)]
    rfl
  have l2 : liesB t e.tlo e.thi = true := by
    unfold liesB
    rw [decide_eq_false (by grind), decide_eq_false (by grind)]
    rfl
  have l3 : decide (e.err < qabs (x - t)) = false := decide_eq_false (by grind)
  unfold keepsB
  rw [l1, l2, l3]
  show (match e.gr with | none => decide (x = 0) | some g => decide (mult r x g)) = true
  have hg := h.g
  cases z : e.gr with
  | none =>
    rw [z] at hg
    exact decide_eq_true hg
  | some g =>
    rw [z] at hg
    exact decide_eq_true (show mult r x g from hg)
end
end Rs
end

section
set_option Elab.async false
set_option linter.all false
set_option maxRecDepth 100000
set_option maxHeartbeats 400000
namespace Rs
open PySem PySem.Spec
/-! ### single marks: spans stay single -/
structure Dg (e : Ent) : Prop where
  r : e.lo = e.hi
  t : e.tlo = e.thi
theorem qmin_self (a : Rat) : qmin a a = a := by
  unfold qmin
  split <;> rfl
theorem qmax_self (a : Rat) : qmax a a = a := by
  unfold qmax
  split <;> rfl
theorem span4_self (a : Rat) : spanOf a [a, a, a, a] = (a, a) := by
  show (qmin (qmin (qmin (qmin a a) a) a) a, qmax (qmax (qmax (qmax a a) a) a) a) = _
  simp only [qmin_self, qmax_self]
theorem lastE_Dg {r : Rul} {s t : Span} {err : Rat} {g : Option Int} (h : s.1 = s.2) (k : t.1 = t.2) : Dg (lastE r s t err g) := ⟨h, k⟩
theorem roundE_Dg {r : Rul} {s t : Span} {err : Rat} {g : Option Int} (h : s.1 = s.2) (k : t.1 = t.2) : Dg (roundE r s t err g) := ⟨by
  show rnd r s.1 = rnd r s.2
  rw [h], k⟩
theorem has_self (a : Rat) (h : hasS (a, a) 0 = true) : a = 0 := by
  unfold hasS at h
  by_cases c1 : (0 : Rat) < a
  · simp [c1] at h
  · by_cases c2 : a < 0
    · simp [c2] at h
    · grind
theorem size_self (a : Rat) : smallSz (a, a) = qabs a ∧ greatSz (a, a) = qabs a := by
  constructor
  · unfold smallSz
    cases z : hasS (a, a) 0 with
    | true =>
      rw [has_self a z]
      decide
    | false => exact qmin_self _
  · exact qmax_self _
theorem sides_self (a b : Rat) : ∃ i, sidesS (a, a) (b, b) = [i] := by
  unfold sidesS
  by_cases c : a < b
  · exact ⟨false, by simp [c]⟩
  · exact ⟨true, by simp [c]⟩
theorem Dg.rp {e : Ent} (h : Dg e) : e.rp = (e.lo, e.lo) := by
  unfold Ent.rp
  rw [← h.r]
theorem Dg.tp {e : Ent} (h : Dg e) : e.tp = (e.tlo, e.tlo) := by
  unfold Ent.tp
  rw [← h.t]
theorem dg_step {r : Rul} {kn : Str → Ent} {w : Wk Str} (h : ∀ m ∈ wkNs w, Dg (kn m)) (e : Ent) (he : entOf r kn w = some e) : Dg e := by
  cases w with
  | number q =>
    cases he
    exact roundE_Dg rfl rfl
  | sum p x y =>
    have hx := h x (by simp [wkNs])
    have hy := h y (by simp [wkNs])
    cases he
    refine roundE_Dg ?_ ?_ <;> simp only [hx.rp, hx.tp, hy.rp, hy.tp] <;> cases p <;> rfl
  | times x y =>
    have hx := h x (by simp [wkNs])
    have hy := h y (by simp [wkNs])
    cases he
    refine roundE_Dg ?_ ?_ <;> simp only [hx.rp, hx.tp, hy.rp, hy.tp] <;> (unfold timesS; rw [span4_self])
  | over x y =>
    have hx := h x (by simp [wkNs])
    have hy := h y (by simp [wkNs])
    have he : quotE r (kn x) (kn y) = some e := he
    unfold quotE at he
    cases z : (hasS (kn y).rp 0 || hasS (kn y).tp 0) with
    | true =>
      rw [z] at he
      cases he
    | false =>
      rw [z] at he
      cases he
      refine roundE_Dg ?_ ?_ <;> simp only [hx.rp, hx.tp, hy.rp, hy.tp] <;> (unfold overS; rw [span4_self])
  | turned x =>
    have hx := h x (by simp [wkNs])
    cases he
    refine lastE_Dg ?_ ?_ <;> simp only [hx.rp, hx.tp] <;> rfl
  | size x =>
    have hx := h x (by simp [wkNs])
    cases he
    refine lastE_Dg ?_ ?_ <;> simp only [hx.rp, hx.tp] <;> (unfold sizeS; rw [(size_self _).1, (size_self _).2])
  | chos l x y =>
    have hx := h x (by simp [wkNs])
    have hy := h y (by simp [wkNs])
    cases he
    refine lastE_Dg ?_ ?_ <;> simp only [hx.rp, hx.tp, hy.rp, hy.tp] <;> cases l <;> rfl
  | pick x y a b =>
    have hx := h x (by simp [wkNs])
    have hy := h y (by simp [wkNs])
    have ss : ∀ i, Dg (selE (kn a) (kn b) i) := fun i => by
      cases i
      · exact h a (by simp [wkNs])
      · exact h b (by simp [wkNs])
    cases he
    obtain ⟨i, hi⟩ := sides_self (kn x).lo (kn y).lo
    obtain ⟨j, hj⟩ := sides_self (kn x).tlo (kn y).tlo
    refine lastE_Dg ?_ ?_
    · rw [hx.rp, hy.rp, hi]
      show qmin (selE (kn a) (kn b) i).rp.1 (selE (kn a) (kn b) i).rp.1 = qmax (selE (kn a) (kn b) i).rp.2 (selE (kn a) (kn b) i).rp.2
      rw [qmin_self, qmax_self]
      exact (ss i).r
    · rw [hx.tp, hy.tp, hj]
      show qmin (selE (kn a) (kn b) j).tp.1 (selE (kn a) (kn b) j).tp.1 = qmax (selE (kn a) (kn b) j).tp.2 (selE (kn a) (kn b) j).tp.2
      rw [qmin_self, qmax_self]
      exact (ss j).t
theorem none_step {r : Rul} {kn : Str → Ent} {kx kt : Str → Rat} {w : Wk Str} (h : ∀ m ∈ wkNs w, Dg (kn m) ∧ Val r (kn m) (kx m) (kt m)) (he : entOf r kn w = none) : exa kx w = none ∨ exa kt w = none := by
  cases w with
  | over x y =>
    obtain ⟨hy, vy⟩ := h y (by simp [wkNs])
    have he : quotE r (kn x) (kn y) = none := he
    unfold quotE at he
    cases z1 : hasS (kn y).rp 0 with
    | true =>
      left
      rw [hy.rp] at z1
      have e := has_self _ z1
      have a := vy.x1
      have b := vy.x2
      have c := hy.r
      exact if_pos (by grind)
    | false =>
      cases z2 : hasS (kn y).tp 0 with
      | true =>
        right
        rw [hy.tp] at z2
        have e := has_self _ z2
        have a := vy.t1
        have b := vy.t2
        have c := hy.t
        exact if_pos (by grind)
      | false =>
        rw [z1, z2] at he
        cases he
  | _ => cases he
end Rs
end

section
set_option Elab.async false
set_option linter.all false
set_option maxRecDepth 100000
set_option maxHeartbeats 400000
namespace Rs
open PySem PySem.Spec
section
variable {r : Rul} (v : VR r)
include v
theorem single_ind : ∀ (ws : List (Wk Str)) (ns A : List Str) (kn : Str → Ent) (kx kt : Str → Rat), (∀ m ∈ A, Dg (kn m) ∧ Val r (kn m) (kx m) (kt m)) → WA A ns ws →
    (entV r ns ws kn).length = min (runV r true ns ws kx).length (runV r false ns ws kt).length ∧ ∀ e ∈ entV r ns ws kn, Dg e
  | [], ns, A, kn, kx, kt, h, hw => by
    cases ns <;> exact ⟨by simp [entV, runV], fun e he => by unfold entV at he; cases he⟩
  | w :: ws, [], A, kn, kx, kt, h, hw => ⟨by simp [entV, runV], fun e he => by unfold entV at he; cases he⟩
  | w :: ws, n :: ns, A, kn, kx, kt, h, hw => by
    have wk := hw.head v
    cases z : entOf r kn w with
    | none =>
      have e0 : entV r (n :: ns) (w :: ws) kn = [] := by
        show (match entOf r kn w with | none => [] | some e => e :: entV r ns ws (upF kn n e)) = _
        rw [z]
      rw [e0]
      refine ⟨?_, fun e he => by cases he⟩
      rcases none_step (fun m hm => h m (wk.ns m hm)) z with y | y
      · have e1 : runV r true (n :: ns) (w :: ws) kx = [] := by
          show (match exa kx w with | none => [] | some q => _) = _
          rw [y]
        rw [e1]
        simp
      · have e1 : runV r false (n :: ns) (w :: ws) kt = [] := by
          show (match exa kt w with | none => [] | some q => _) = _
          rw [y]
        rw [e1]
        simp
    | some e =>
      obtain ⟨q, t, hq, ht, hv⟩ := val_step v (fun m hm => (h m (wk.ns m hm)).2) z
      have hd := dg_step (fun m hm => (h m (wk.ns m hm)).1) e z
      have e0 : entV r (n :: ns) (w :: ws) kn = e :: entV r ns ws (upF kn n e) := by
        show (match entOf r kn w with | none => [] | some e => e :: entV r ns ws (upF kn n e)) = _
        rw [z]
      have e1 : runV r true (n :: ns) (w :: ws) kx = stepQ r true w q :: runV r true ns ws (upF kx n (stepQ r true w q)) := by
        show (match exa kx w with | none => [] | some q => _) = _
        rw [hq]
      have e2 : runV r false (n :: ns) (w :: ws) kt = stepQ r false w t :: runV r false ns ws (upF kt n (stepQ r false w t)) := by
        show (match exa kt w with | none => [] | some q => _) = _
        rw [ht]
      have nx := single_ind ws ns (A ++ [n]) (upF kn n e) (upF kx n (stepQ r true w q)) (upF kt n (stepQ r false w t)) (fun m hm => by
        unfold upF
        by_cases y : m = n
        · rw [if_pos y, if_pos y, if_pos y]
          exact ⟨hd, hv⟩
        · rw [if_neg y, if_neg y, if_neg y]
          refine h m ?_
          rcases List.mem_append.mp hm with u | u
          · exact u
          · exact absurd (by simpa using u) y) (hw.tail v)
      rw [e0, e1, e2]
      refine ⟨by
        have := nx.1
        simp only [List.length_cons]
        omega, fun e' he => ?_⟩
      rcases List.mem_cons.mp he with y | y
      · rw [y]
        exact hd
      · exact nx.2 e' y
end
/-- a row of marks lies in a box -/
def F2 : List Rat → List (List Rat) → Prop
  | [], [] => True
  | m :: ms, l :: ls => m ∈ l ∧ F2 ms ls
  | _, _ => False
theorem F2.len : ∀ {ms : List Rat} {bx : List (List Rat)}, F2 ms bx → ms.length = bx.length
  | [], [], _ => rfl
  | _ :: _, _ :: _, h => congrArg (· + 1) (F2.len h.2)
  | [], _ :: _, h => h.elim
  | _ :: _, [], h => h.elim
theorem F2.at_ : ∀ {ms : List Rat} {bx : List (List Rat)} {i : Nat} {m : Rat} {l : List Rat}, F2 ms bx → ms[i]? = some m → bx[i]? = some l → m ∈ l
  | [], _, i, m, l, _, h, _ => by simp at h
  | _ :: _, [], i, m, l, h, _, _ => h.elim
  | a :: ms, b :: bx, 0, m, l, h, h1, h2 => by
    have e1 : a = m := by simpa using h1
    have e2 : b = l := by simpa using h2
    subst e1 e2
    exact h.1
  | a :: ms, b :: bx, i + 1, m, l, h, h1, h2 => F2.at_ h.2 (by simpa using h1) (by simpa using h2)
theorem rows_F2 : ∀ (bx : List (List Rat)) (rows : List (List Rat)) (ms : List Rat), ms ∈ rowsL rows bx → ∃ row ∈ rows, ∃ tl, ms = row ++ tl ∧ F2 tl bx
  | [], rows, ms, h => ⟨ms, h, [], (List.append_nil ms).symm, trivial⟩
  | l :: bx, rows, ms, h => by
    obtain ⟨row, hr, tl, e, f⟩ := rows_F2 bx _ ms h
    obtain ⟨row', hr', h2⟩ := List.mem_flatMap.mp hr
    obtain ⟨m, hm, rfl⟩ := List.mem_map.mp h2
    exact ⟨row', hr', m :: tl, by rw [e, List.append_assoc]; rfl, hm, f⟩
theorem rows_ne : ∀ (bx : List (List Rat)) (rows : List (List Rat)), rows ≠ [] → (∀ l ∈ bx, l ≠ []) → rowsL rows bx ≠ []
  | [], rows, h, _ => h
  | l :: bx, rows, h, hb => by
    refine rows_ne bx _ ?_ (fun x hx => hb x (List.mem_cons_of_mem _ hx))
    cases rows with
    | nil => exact absurd rfl h
    | cons row rows =>
      cases l with
      | nil => exact absurd rfl (hb [] (List.mem_cons_self ..))
      | cons m l => exact fun z => by simp at z
theorem mem_at {α : Type} {a : α} {l : List α} (h : a ∈ l) : ∃ i : Nat, l[i]? = some a := List.mem_iff_getElem?.mp h
theorem ends_ok {r : Rul} {ms : List Rat} (h : MsOk r ms) : IsBm r 5 (endsS ms).1 ∧ IsBm r 5 (endsS ms).2 ∧ ∀ m ∈ ms, (endsS ms).1 ≤ m ∧ m ≤ (endsS ms).2 := by
  obtain ⟨ne, few, up, bm⟩ := h
  cases ms with
  | nil => exact absurd rfl ne
  | cons a l =>
    have e2 : (endsS (a :: l)).2 = (a :: l).getLast (by simp) := by
      show (a :: l).getLastD 0 = _
      rw [List.getLastD_eq_getLast?, List.getLast?_eq_some_getLast (by simp)]
      rfl
    refine ⟨bm a (List.mem_cons_self ..), by rw [e2]; exact bm _ (List.getLast_mem ..), fun m hm => ⟨?_, ?_⟩⟩
    · show a ≤ m
      rcases List.mem_cons.mp hm with y | y
      · rw [y]
        exact Rat.le_refl
      · exact (List.pairwise_cons.mp up).1 m y
    · rw [e2]
      obtain ⟨i, hi, rfl⟩ := List.mem_iff_getElem.mp hm
      rw [List.getLast_eq_getElem]
      by_cases c : i = (a :: l).length - 1
      · subst c
        exact Rat.le_refl
      · exact List.pairwise_iff_getElem.mp up i _ hi (by simp) (by omega)
section
variable {r : Rul} (v : VR r)
include v
/-- what a start at spans, a row of marks within them, comes to -/
theorem start_ES {ns : List Str} {sps : List Span} {rest : List Str} {fst : List Str} (hns : ns = fst ++ rest) (hl : fst.length = sps.length) (nd : ns.Nodup) (hs : ∀ s ∈ sps, IsBm r 5 s.1 ∧ IsBm r 5 s.2 ∧ s.1 ≤ s.2) : ES r 0 fst (markF ent0 ns (sps.map (spE r))) := by
  refine ⟨1, by decide, by decide, fun m hm => ?_⟩
  obtain ⟨i, hi⟩ := mem_at hm
  have hi' : i < fst.length := (List.getElem?_eq_some_iff.mp hi).1
  obtain ⟨s, hs'⟩ : ∃ s, sps[i]? = some s := ⟨_, List.getElem?_eq_getElem (by omega)⟩
  have e : markF ent0 ns (sps.map (spE r)) m = spE r s := markF_get nd (i := i) (by rw [hns, List.getElem?_append_left hi', hi]) (by rw [List.getElem?_map, hs']; rfl)
  rw [e]
  obtain ⟨a, b, c⟩ := hs s (List.mem_of_getElem? hs')
  exact markE_EI v a b c
theorem start_RS {ns : List Str} {ms : List Rat} {rest fst : List Str} (hns : ns = fst ++ rest) (hl : fst.length = ms.length) (nd : ns.Nodup) (hm : ∀ m ∈ ms, IsBm r 5 m) (isR : Bool) : ∀ n ∈ fst, RS r isR 0 (markF 0 ns ms n) := fun n hn => by
  obtain ⟨i, hi⟩ := mem_at hn
  have hi' : i < fst.length := (List.getElem?_eq_some_iff.mp hi).1
  obtain ⟨m, hm'⟩ : ∃ s, ms[i]? = some s := ⟨_, List.getElem?_eq_getElem (by omega)⟩
  have e : markF 0 ns ms n = m := markF_get nd (i := i) (by rw [hns, List.getElem?_append_left hi', hi]) hm'
  rw [e]
  have hb := hm m (List.mem_of_getElem? hm')
  have h := markE_EI v hb hb Rat.le_refl
  cases isR with
  | true => exact (⟨h.mlo, h.slo⟩ : MK r 37 m)
  | false => exact (h.tlo : Bt 38 m)
theorem start_Val {ns : List Str} {sps : List Span} {ms : List Rat} {rest fst : List Str} (hns : ns = fst ++ rest) (hl : fst.length = sps.length) (hl2 : ms.length = sps.length) (nd : ns.Nodup) (hm : ∀ m ∈ ms, IsBm r 5 m) (hin : ∀ (i : Nat) (s : Span) (m : Rat), sps[i]? = some s → ms[i]? = some m → s.1 ≤ m ∧ m ≤ s.2) : ∀ n ∈ fst, Val r (markF ent0 ns (sps.map (spE r)) n) (markF 0 ns ms n) (markF 0 ns ms n) := fun n hn => by
  obtain ⟨i, hi⟩ := mem_at hn
  have hi' : i < fst.length := (List.getElem?_eq_some_iff.mp hi).1
  obtain ⟨m, hm'⟩ : ∃ s, ms[i]? = some s := ⟨_, List.getElem?_eq_getElem (by omega)⟩
  obtain ⟨s, hs'⟩ : ∃ s, sps[i]? = some s := ⟨_, List.getElem?_eq_getElem (by omega)⟩
  have hn' : ns[i]? = some n := by rw [hns, List.getElem?_append_left hi', hi]
  have e : markF 0 ns ms n = m := markF_get nd hn' hm'
  have e2 : markF ent0 ns (sps.map (spE r)) n = spE r s := markF_get nd hn' (by rw [List.getElem?_map, hs']; rfl)
  rw [e, e2]
  obtain ⟨a, b⟩ := hin i s m hs' hm'
  exact markE_val v a b (hm m (List.mem_of_getElem? hm')).isM
end
section
variable {r : Rul} (v : VR r)
include v
theorem right_ok {ns : List Str} {ws : List (Wk Str)} {bx : List (List Rat)} (nd : ns.Nodup) (hlen : ns.length = bx.length + ws.length) (b1 : bx.length ≤ 3) (w4 : ws.length ≤ 4) (hms : ∀ ms ∈ bx, MsOk r ms) (hw : ∀ k w, ws[k]? = some w → WkOk (ns.take (bx.length + k)) w) : RightOk r ns ws bx := by
  obtain ⟨fst, hf⟩ : ∃ f, f = ns.take bx.length := ⟨_, rfl⟩
  obtain ⟨rest, hr⟩ : ∃ f, f = ns.drop bx.length := ⟨_, rfl⟩
  have hns : ns = fst ++ rest := by rw [hf, hr, List.take_append_drop]
  have hfl : fst.length = bx.length := by
    rw [hf, List.length_take]
    omega
  have hWA : WA fst rest ws := fun i w e => by
    have := hw i w e
    rw [List.take_add, ← hf, ← hr] at this
    exact this
  have hnp : NsPre r ns bx.length ws := ⟨v, nd, by omega, fun i w e n hn => (hw i w e).ns n hn⟩
  have hE := start_ES v (sps := bx.map endsS) hns (by rw [hfl, List.length_map]) nd (fun s hs => by
    obtain ⟨ms, hm, rfl⟩ := List.mem_map.mp hs
    obtain ⟨a, b, c⟩ := ends_ok (hms ms hm)
    obtain ⟨m, hmm⟩ := List.exists_mem_of_ne_nil _ (hms ms hm).ne
    have := c m hmm
    exact ⟨a, b, by grind⟩)
  have hEI := ent_ind v ws rest fst 0 _ (by omega) hE hWA
  have hlm : (bx.map endsS).length = bx.length := List.length_map ..
  refine ⟨hnp, b1, fun ms hm => ⟨(hms ms hm).ne, (hms ms hm).few⟩, ⟨by rw [hlm]; exact hlen, fun s hs => ?_, by rw [hlm, ← hr]; exact hEI.1⟩, rows_ne bx _ (by simp) (fun l hl => (hms l hl).ne), fun ms hm => ?_⟩
  · obtain ⟨ms, hm, rfl⟩ := List.mem_map.mp hs
    obtain ⟨a, b, c⟩ := ends_ok (hms ms hm)
    exact ⟨(bm_Bt v a (by decide)).1.mono (by decide), (bm_Bt v b (by decide)).1.mono (by decide)⟩
  · obtain ⟨row, hrow, tl, e, f2⟩ := rows_F2 bx _ ms hm
    have : row = [] := by simpa using hrow
    subst this
    have e : ms = tl := e
    subst e
    have hml := f2.len
    have hbm : ∀ m ∈ ms, IsBm r 5 m := fun m hm => by
      obtain ⟨i, hi⟩ := mem_at hm
      have : i < ms.length := (List.getElem?_eq_some_iff.mp hi).1
      obtain ⟨l, hl⟩ : ∃ l, bx[i]? = some l := ⟨_, List.getElem?_eq_getElem (by omega)⟩
      exact (hms l (List.mem_of_getElem? hl)).bm m (f2.at_ hi hl)
    have hR := start_RS v hns (by rw [hfl, hml]) nd hbm
    have run : RunPre r ns ws ms := ⟨by rw [hml]; exact hlen, fun b => by
      rw [hml, ← hr]
      exact (run_ind v ws rest fst 0 _ (by omega) (hR b) hWA).1⟩
    have bt : ∀ b, ∀ o ∈ oneV r ns ws ms b, Bt 1900 o := fun b o ho => by
      unfold oneV at ho
      rw [hml, ← hr] at ho
      exact (run_ind v ws rest fst 0 _ (by omega) (hR b) hWA).2 o ho
    have hV := start_Val v (sps := bx.map endsS) (ms := ms) hns (by rw [hfl, hlm]) (by rw [hml, hlm]) nd hbm (fun i s m hs hm => by
      rw [List.getElem?_map] at hs
      cases z : bx[i]? with
      | none =>
        rw [z] at hs
        cases hs
      | some l =>
        rw [z] at hs
        cases hs
        exact (ends_ok (hms l (List.mem_of_getElem? z))).2.2 m (f2.at_ hm z))
    have vi := val_ind v ws rest fst _ _ _ hV hWA
    have e1 : entsV r ns ws (bx.map endsS) = entV r rest ws (markF ent0 ns ((bx.map endsS).map (spE r))) := by
      unfold entsV
      rw [hlm, ← hr]
    have e2 : ∀ b, oneV r ns ws ms b = runV r b rest ws (markF 0 ns ms) := fun b => by
      unfold oneV
      rw [hml, ← hr]
    -- singles
    have hlm2 : (ms.map mm).length = bx.length := by rw [List.length_map, hml]
    have hE2 := start_ES v (sps := ms.map mm) hns (by rw [hfl, hlm2]) nd (fun s hs => by
      obtain ⟨m, hm, rfl⟩ := List.mem_map.mp hs
      exact ⟨hbm m hm, hbm m hm, Rat.le_refl⟩)
    have hEI2 := ent_ind v ws rest fst 0 _ (by omega) hE2 hWA
    have hV2 := start_Val v (sps := ms.map mm) (ms := ms) hns (by rw [hfl, hlm2]) (by rw [hml, hlm2]) nd hbm (fun i s m hs hm => by
      rw [List.getElem?_map, hm] at hs
      cases hs
      exact ⟨Rat.le_refl, Rat.le_refl⟩)
    have hD : ∀ n ∈ fst, Dg (markF ent0 ns ((ms.map mm).map (spE r)) n) := fun n hn => by
      obtain ⟨i, hi⟩ := mem_at hn
      have hi' : i < fst.length := (List.getElem?_eq_some_iff.mp hi).1
      obtain ⟨m, hm'⟩ : ∃ s, ms[i]? = some s := ⟨_, List.getElem?_eq_getElem (by omega)⟩
      have e : markF ent0 ns ((ms.map mm).map (spE r)) n = spE r (mm m) := markF_get nd (i := i) (by rw [hns, List.getElem?_append_left hi', hi]) (by rw [List.getElem?_map, List.getElem?_map, hm']; rfl)
      rw [e]
      exact ⟨rfl, rfl⟩
    have vi2 := val_ind v ws rest fst _ _ _ hV2 hWA
    have si2 := single_ind v ws rest fst _ _ _ (fun n hn => ⟨hD n hn, hV2 n hn⟩) hWA
    have e3 : entsV r ns ws (ms.map mm) = entV r rest ws (markF ent0 ns ((ms.map mm).map (spE r))) := by
      unfold entsV
      rw [hlm2, ← hr]
    refine ⟨hml, run, ?_, fun i e o t he ho ht => ?_, run, ⟨by rw [hlm2]; exact hlen, fun s hs => ?_, by rw [hlm2, ← hr]; exact hEI2.1⟩, ?_, fun i e o t he ho ht => ?_⟩
    · rw [e1, e2, e2]
      exact vi.1
    · refine ⟨bt true o (List.mem_of_getElem? ho), bt false t (List.mem_of_getElem? ht), ?_⟩
      rw [e1] at he
      rw [e2] at ho ht
      exact ⟨(hEI.2 e (List.mem_of_getElem? he)).1, keeps_of v (vi.2 i e o t he ho ht)⟩
    · obtain ⟨m, hm, rfl⟩ := List.mem_map.mp hs
      exact ⟨(bm_Bt v (hbm m hm) (by decide)).1.mono (by decide), (bm_Bt v (hbm m hm) (by decide)).1.mono (by decide)⟩
    · rw [e3, e2, e2]
      exact si2.1
    · refine ⟨(bt true o (List.mem_of_getElem? ho)).mono (by decide), (bt false t (List.mem_of_getElem? ht)).mono (by decide), ?_⟩
      rw [e3] at he
      rw [e2] at ho ht
      have V := vi2.2 i e o t he ho ht
      have D := si2.2 e (List.mem_of_getElem? he)
      have A := (hEI2.2 e (List.mem_of_getElem? he)).2
      have x1 := V.x1
      have x2 := V.x2
      have x3 := V.t1
      have x4 := V.t2
      have x5 := V.er
      have d1 := D.r
      have d2 := D.t
      have a1 : e.lo = o := by grind
      have a2 : e.tlo = t := by grind
      refine ⟨a1, by grind, a2, by grind, ?_⟩
      have hap : apartS e.rp e.tp = qabs (o - t) := by
        show qmax (e.hi - e.tlo) (e.thi - e.lo) = _
        rw [← d1, ← d2, a1, a2]
        unfold qmax qabs
        split <;> split <;> grind
      grind
end
theorem law_right {r : Rul} {ns : List Str} {ws : List (Wk Str)} {bx : List (List Rat)} {ins rows : Int} (v : VR r) (nd : ns.Nodup) (h1 : (ns.length : Int) = ins + rows) (h2 : (bx.length : Int) = ins) (h3 : 1 ≤ ins) (h4 : ins ≤ 3) (h5 : (ws.length : Int) = rows) (h6 : 2 ≤ rows) (h7 : rows ≤ 4) (h8 : ∀ ms ∈ bx, MsOk r ms) (h9 : WksOk ns ins ws) : RightOk r ns ws bx :=
  right_ok v nd (by omega) (by omega) (by omega) h8 (fun k w e => by
    have := h9.ok k w e
    rwa [show ins.toNat = bx.length by omega] at this)
end Rs
end

section
set_option Elab.async false
set_option linter.all false
set_option maxRecDepth 100000
set_option maxHeartbeats 400000
namespace Rs
open PySem PySem.Spec
theorem pwT (n : Nat) : pw ten (n : Int) = ((10 ^ n : Int) : Rat) := zpow_nat 10 n
theorem plc_ten0 {q : Rat} (h : qabs q < 10) : plc ten q = 0 := plc_eq vr_ten ⟨by decide, by
  have : pw ten (0 + ten.F) = ((10 ^ 1 : Int) : Rat) := pwT 1
  rw [this]
  exact h, .inl rfl⟩
theorem plc_14 : plc ten 14 = 1 := plc_eq vr_ten ⟨by decide, by
  have : pw ten (1 + ten.F) = ((10 ^ 2 : Int) : Rat) := pwT 2
  rw [this]
  decide +kernel, .inr (by
  have : pw ten (1 - 1 + ten.F) = ((10 ^ 1 : Int) : Rat) := pwT 1
  rw [this]
  decide +kernel)⟩
theorem stp_14 : stp ten 14 = 10 := by
  unfold stp
  rw [plc_14]
  exact pwT 1
theorem stp_6 : stp ten 6 = 1 := by
  unfold stp
  rw [plc_ten0 (by decide +kernel)]
  exact pwT 0
theorem rnd_14 : rnd ten 14 = 10 := by
  unfold rnd
  rw [stp_14]
  decide +kernel
theorem rnd_6 : rnd ten 6 = 6 := by
  unfold rnd
  rw [stp_6]
  decide +kernel
theorem ent_ext {a b : Ent} (h1 : a.lo = b.lo) (h2 : a.hi = b.hi) (h3 : a.tlo = b.tlo) (h4 : a.thi = b.thi) (h5 : a.err = b.err) (h6 : a.gr = b.gr) : a = b := by
  cases a
  cases b
  cases h1
  cases h2
  cases h3
  cases h4
  cases h5
  cases h6
  rfl
theorem m37 : entMarks ten 3 7 = e37 := ent_ext rfl rfl rfl rfl rfl (by
  show gsp ten 3 7 = some 0
  unfold gsp
  rw [if_neg (by decide +kernel), show hasS (3, 7) 0 = false by decide +kernel]
  show some (plc ten (smallSz (3, 7))) = some 0
  rw [plc_ten0 (by decide +kernel)])
theorem gsp610 : gsp ten 6 10 = some 0 := by
  unfold gsp
  rw [if_neg (by decide +kernel), show hasS (6, 10) 0 = false by decide +kernel]
  show some (plc ten (smallSz (6, 10))) = some 0
  rw [plc_ten0 (by decide +kernel)]
theorem slk614 : slk ten (6, 14) (some 0) = 5 := by
  unfold slk
  rw [if_neg (by decide +kernel)]
  have e : exactB ten (6, 14) (some 0) = false := by
    have : pw ten (0 + ten.F) = 10 := pwT 1
    show (bif decide ((0 : Int) < ten.L) then false else !decide (pw ten (0 + ten.F) < greatSz (6, 14))) = false
    rw [this]
    decide +kernel
  have g : greatSz (6, 14) = 14 := by decide +kernel
  rw [e, g, stp_14]
  decide +kernel
theorem s37 : sumE ten true e37 e37 = eEnd := by
  have hs : plusS e37.rp e37.rp = (6, 14) := by decide +kernel
  have ht : plusS e37.tp e37.tp = (6, 14) := by decide +kernel
  have hg : lessG e37.gr e37.gr = some 0 := rfl
  have he : e37.err + e37.err = 0 := by decide +kernel
  show roundE ten (plusS e37.rp e37.rp) (plusS e37.tp e37.tp) (e37.err + e37.err) (lessG e37.gr e37.gr) = eEnd
  rw [hs, ht, hg, he]
  unfold roundE
  rw [slk614]
  show lastE ten (rnd ten 6, rnd ten 14) (6, 14) (0 + 5) (some 0) = eEnd
  rw [rnd_6, rnd_14]
  refine ent_ext rfl rfl rfl rfl ?_ ?_
  · show qmin (0 + 5) (apartS (6, 10) (6, 14)) = 5
    decide +kernel
  · show (match gsp ten 6 10 with | none => none | some o => greatG (some o) (some 0)) = some 0
    rw [gsp610]
    rfl
theorem lawMath : LawMath := ⟨fun r ns ws bx ins rows v nd h1 h2 h3 h4 h5 h6 h7 h8 h9 => law_right v nd h1 h2 h3 h4 h5 h6 h7 h8 h9, m37, s37⟩
end Rs
end

section
set_option Elab.async false
set_option linter.all false
set_option maxRecDepth 100000
set_option maxHeartbeats 0
namespace Rs
open PySem PySem.Spec PyProof.Rows L2

section
variable {K : PySem.W.Frag} {h : Heap} {mg : Str → Option Value}
theorem def_at (X : K.In h) (G : h.Ns mainGlobals mg) (c : He.SaysD fa fn K) (x : Str) (i j : Nat) (h1 : fa[j]? = some (.glo x)) (h2 : fn[j]? = some (dd x i)) : DefAt K mg x i := by
  obtain ⟨fd, F⟩ := c.def_ j h2
  exact ⟨_, fd, He.glo_ok X G (c.fact j h1), F⟩
theorem frees (X : K.In h) (G : h.Ns mainGlobals mg) (c : He.SaysD fa fn K) : Frees mg :=
  ⟨He.free_ok X G (c.fact 86 (f := .free "abs") rfl), He.free_ok X G (c.fact 87 (f := .free "len") rfl), He.free_ok X G (c.fact 88 (f := .free "min") rfl), He.free_ok X G (c.fact 89 (f := .free "max") rfl), He.free_ok X G (c.fact 90 (f := .free "int") rfl), He.free_ok X G (c.fact 91 (f := .free "list") rfl), He.free_ok X G (c.fact 92 (f := .free "tuple") rfl), He.free_ok X G (c.fact 93 (f := .free "dict") rfl), He.free_ok X G (c.fact 94 (f := .free "zip") rfl), He.free_ok X G (c.fact 95 (f := .free "enumerate") rfl), He.free_ok X G (c.fact 96 (f := .free "range") rfl), He.free_ok X G (c.fact 97 (f := .free "all") rfl)⟩
theorem consts (X : K.In h) (G : h.Ns mainGlobals mg) (c : He.SaysD fa fn K) (e : exB K = true) : Consts K mg := by
  obtain ⟨_, e2⟩ := He.ba e
  obtain ⟨e3, e4⟩ := He.ba e2
  exact ⟨He.int_ok X G (c.fact 100 (f := .int "GREATEST" gre) rfl), ⟨_, He.glo_ok X G (c.fact 98 (f := .glo "NOUGHT") rfl), fun H => He.tupB_ok e3 H⟩, ⟨_, He.glo_ok X G (c.fact 99 (f := .glo "HALF") rfl), fun H => He.tupB_ok e4 H⟩⟩
end
section
variable {P : Program} {w : World} {K : PySem.W.Frag} {h : Heap} {mg : Str → Option Value}
theorem law_cal (M : LawMath) (X : K.In h) (G : h.Ns mainGlobals mg) (c : He.SaysD fa fn K) (e : exB K = true) (base : Heap) {f : Addr} {fd : FuncData} (FF : FunD K "law" "law" (defArgs (top 99)) (defBody (top 99)) (defScope (top 99)) [] [] f fd) : FnOk P w K mg base CX0 14 f fd ["_law_script"] (spP K R_law) := by
  have T := frees X G c
  have Co := consts X G c e
  have NT := nop_ok X G (He.ba e).1
  obtain ⟨fdI, FI⟩ := c.def_ 86 (d := dN) rfl
  have h_shared := cal_shared (P := P) (w := w) (base := base) T (def_at X G c "shared" 7 0 rfl rfl)
  have h_fraction := cal_fraction (P := P) (w := w) (base := base) (def_at X G c "fraction" 8 1 rfl rfl) h_shared
  have h_is_great := cal_is_great (P := P) (w := w) (base := base) T Co (def_at X G c "is_great" 9 2 rfl rfl)
  have h_need_small := cal_need_small (P := P) (w := w) (base := base) T (def_at X G c "need_small" 10 3 rfl rfl) h_is_great
  have h_whole_of := cal_whole_of (P := P) (w := w) (base := base) T (def_at X G c "whole_of" 11 4 rfl rfl)
  have h_plus := cal_plus (P := P) (w := w) (base := base) T (def_at X G c "plus" 12 5 rfl rfl) h_fraction
  have h_turned := cal_turned (P := P) (w := w) (base := base) T (def_at X G c "turned" 13 6 rfl rfl)
  have h_less := cal_less (P := P) (w := w) (base := base) T (def_at X G c "less" 14 7 rfl rfl) h_plus h_turned
  have h_times := cal_times (P := P) (w := w) (base := base) T (def_at X G c "times" 15 8 rfl rfl) h_fraction
  have h_over := cal_over (P := P) (w := w) (base := base) T (def_at X G c "over" 16 9 rfl rfl) h_fraction
  have h_size_of := cal_size_of (P := P) (w := w) (base := base) T (def_at X G c "size_of" 17 10 rfl rfl)
  have h_is_less := cal_is_less (P := P) (w := w) (base := base) T (def_at X G c "is_less" 18 11 rfl rfl)
  have h_lesser := cal_lesser (P := P) (w := w) (base := base) T (def_at X G c "lesser" 19 12 rfl rfl) h_is_less
  have h_greater := cal_greater (P := P) (w := w) (base := base) T (def_at X G c "greater" 20 13 rfl rfl) h_is_less
  have h_power := cal_power (P := P) (w := w) (base := base) T (def_at X G c "power" 21 14 rfl rfl)
  have h_is_enough := cal_is_enough (P := P) (w := w) (base := base) T (def_at X G c "is_enough" 23 15 rfl rfl) h_is_less h_power
  have h_place_of := cal_place_of (P := P) (w := w) (base := base) T (def_at X G c "place_of" 24 16 rfl rfl) h_size_of h_is_enough
  have h_step_of := cal_step_of (P := P) (w := w) (base := base) T (def_at X G c "step_of" 25 17 rfl rfl) h_power h_place_of
  have h_whole_by := cal_whole_by (P := P) (w := w) (base := base) T (def_at X G c "whole_by" 26 18 rfl rfl)
  have h_rounded := cal_rounded (P := P) (w := w) (base := base) T (def_at X G c "rounded" 27 19 rfl rfl) h_whole_of h_times h_over h_step_of h_whole_by
  have h_off_of := cal_off_of (P := P) (w := w) (base := base) T (def_at X G c "off_of" 28 20 rfl rfl) h_less h_size_of h_rounded
  have h_is_multiple := cal_is_multiple (P := P) (w := w) (base := base) T (def_at X G c "is_multiple" 29 21 rfl rfl) h_over h_power
  have h_span_of := cal_span_of (P := P) (w := w) (base := base) T (def_at X G c "span_of" 31 22 rfl rfl) h_lesser h_greater
  have h_has := cal_has (P := P) (w := w) (base := base) T (def_at X G c "has" 32 23 rfl rfl) h_is_less
  have h_hull := cal_hull (P := P) (w := w) (base := base) T (def_at X G c "hull" 33 24 rfl rfl) h_lesser h_greater
  have h_plus_spans := cal_plus_spans (P := P) (w := w) (base := base) T (def_at X G c "plus_spans" 34 25 rfl rfl) h_plus
  have h_turned_span := cal_turned_span (P := P) (w := w) (base := base) T (def_at X G c "turned_span" 35 26 rfl rfl) h_turned
  have h_less_spans := cal_less_spans (P := P) (w := w) (base := base) T (def_at X G c "less_spans" 36 27 rfl rfl) h_plus_spans h_turned_span
  have h_times_spans := cal_times_spans (P := P) (w := w) (base := base) T (def_at X G c "times_spans" 37 28 rfl rfl) h_times h_span_of
  have h_over_spans := cal_over_spans (P := P) (w := w) (base := base) T Co (def_at X G c "over_spans" 38 29 rfl rfl) h_over h_span_of h_has
  have h_great_size := cal_great_size (P := P) (w := w) (base := base) T (def_at X G c "great_size" 39 30 rfl rfl) h_size_of h_greater
  have h_small_size := cal_small_size (P := P) (w := w) (base := base) T Co (def_at X G c "small_size" 40 31 rfl rfl) h_size_of h_lesser h_has
  have h_size_span := cal_size_span (P := P) (w := w) (base := base) T (def_at X G c "size_span" 41 32 rfl rfl) h_great_size h_small_size
  have h_least_span := cal_least_span (P := P) (w := w) (base := base) T (def_at X G c "least_span" 42 33 rfl rfl) h_lesser
  have h_most_span := cal_most_span (P := P) (w := w) (base := base) T (def_at X G c "most_span" 43 34 rfl rfl) h_greater
  have h_apart := cal_apart (P := P) (w := w) (base := base) T (def_at X G c "apart" 44 35 rfl rfl) h_less h_greater
  have h_grain_of := cal_grain_of (P := P) (w := w) (base := base) T Co (def_at X G c "grain_of" 47 36 rfl rfl) h_place_of h_is_multiple
  have h_grain_of_span := cal_grain_of_span (P := P) (w := w) (base := base) T Co (def_at X G c "grain_of_span" 48 37 rfl rfl) h_place_of h_has h_small_size h_grain_of
  have h_less_grain := cal_less_grain (P := P) (w := w) (base := base) T (def_at X G c "less_grain" 49 38 rfl rfl)
  have h_great_grain := cal_great_grain (P := P) (w := w) (base := base) T (def_at X G c "great_grain" 50 39 rfl rfl)
  have h_both_grains := cal_both_grains (P := P) (w := w) (base := base) T (def_at X G c "both_grains" 51 40 rfl rfl)
  have h_is_exact := cal_is_exact (P := P) (w := w) (base := base) T (def_at X G c "is_exact" 52 41 rfl rfl) h_is_less h_power h_great_size
  have h_slack := cal_slack (P := P) (w := w) (base := base) T Co (def_at X G c "slack" 53 42 rfl rfl) h_times h_step_of h_off_of h_great_size h_is_exact
  have h_rounded_part := cal_rounded_part (P := P) (w := w) (base := base) T (def_at X G c "rounded_part" 55 43 rfl rfl)
  have h_true_part := cal_true_part (P := P) (w := w) (base := base) T (def_at X G c "true_part" 56 44 rfl rfl)
  have h_last_entry := cal_last_entry (P := P) (w := w) (base := base) T (def_at X G c "last_entry" 57 45 rfl rfl) h_need_small h_lesser h_apart h_grain_of_span h_great_grain
  have h_rounded_entry := cal_rounded_entry (P := P) (w := w) (base := base) T (def_at X G c "rounded_entry" 58 46 rfl rfl) h_plus h_rounded h_slack h_last_entry
  have h_sum_entry := cal_sum_entry (P := P) (w := w) (base := base) T (def_at X G c "sum_entry" 59 47 rfl rfl) h_plus h_plus_spans h_less_spans h_less_grain h_rounded_part h_true_part h_rounded_entry
  have h_product_entry := cal_product_entry (P := P) (w := w) (base := base) T (def_at X G c "product_entry" 60 48 rfl rfl) h_plus h_times h_times_spans h_great_size h_both_grains h_rounded_part h_true_part h_rounded_entry
  have h_single_entry := cal_single_entry (P := P) (w := w) (base := base) T (def_at X G c "single_entry" 62 50 rfl rfl) h_turned_span h_size_span h_rounded_part h_true_part h_last_entry
  have h_chosen_entry := cal_chosen_entry (P := P) (w := w) (base := base) T (def_at X G c "chosen_entry" 63 51 rfl rfl) h_greater h_least_span h_most_span h_less_grain h_rounded_part h_true_part h_last_entry
  have h_sides := cal_sides (P := P) (w := w) (base := base) T (def_at X G c "sides" 64 52 rfl rfl) h_is_less
  have h_entry_of_marks := cal_entry_of_marks (P := P) (w := w) (base := base) T Co (def_at X G c "entry_of_marks" 68 55 rfl rfl) h_grain_of_span
  have h_picked_entry := cal_picked_entry (P := P) (w := w) (base := base) T Co (def_at X G c "picked_entry" 65 53 rfl rfl) h_greater h_hull h_apart h_less_grain h_rounded_part h_true_part h_last_entry h_sides
  have h_quotient_entry := cal_quotient_entry (P := P) (w := w) (base := base) T Co NT FI (def_at X G c "quotient_entry" 61 49 rfl rfl) h_plus h_times h_over h_has h_over_spans h_great_size h_small_size h_rounded_part h_true_part h_rounded_entry
  have h_entry_of := cal_entry_of (P := P) (w := w) (base := base) Co (def_at X G c "entry_of" 66 54 rfl rfl) h_rounded_entry h_sum_entry h_product_entry h_quotient_entry h_single_entry h_chosen_entry h_picked_entry
  have h__law_mixed := cal__law_mixed (P := P) (w := w) (base := base) T (def_at X G c "_law_mixed" 70 56 rfl rfl)
  have h__law_made := cal__law_made (P := P) (w := w) (base := base) T (def_at X G c "_law_made" 74 60 rfl rfl)
  have h__law_plus := cal__law_plus (P := P) (w := w) (base := base) T (def_at X G c "_law_plus" 75 61 rfl rfl) h__law_made
  have h__law_less := cal__law_less (P := P) (w := w) (base := base) T (def_at X G c "_law_less" 76 62 rfl rfl) h__law_made
  have h__law_times := cal__law_times (P := P) (w := w) (base := base) T (def_at X G c "_law_times" 77 63 rfl rfl) h__law_made
  have h__law_below := cal__law_below (P := P) (w := w) (base := base) T (def_at X G c "_law_below" 78 64 rfl rfl)
  have h__law_over := cal__law_over (P := P) (w := w) (base := base) T (def_at X G c "_law_over" 79 65 rfl rfl) h__law_made
  have h__law_ends := cal__law_ends (P := P) (w := w) (base := base) T (def_at X G c "_law_ends" 80 66 rfl rfl) h__law_below
  have h__law_power := cal__law_power (P := P) (w := w) (base := base) T (def_at X G c "_law_power" 82 68 rfl rfl)
  have h__law_place := cal__law_place (P := P) (w := w) (base := base) T (def_at X G c "_law_place" 83 69 rfl rfl) h__law_below h__law_power
  have h__law_rounded := cal__law_rounded (P := P) (w := w) (base := base) T (def_at X G c "_law_rounded" 84 70 rfl rfl) h__law_times h__law_power h__law_place
  have h__law_lies := cal__law_lies (P := P) (w := w) (base := base) T (def_at X G c "_law_lies" 93 79 rfl rfl) h__law_below
  have h__law_keeps := cal__law_keeps (P := P) (w := w) (base := base) T (def_at X G c "_law_keeps" 94 80 rfl rfl) h__law_less h__law_times h__law_below h__law_power h__law_lies
  have h__law_exact := cal__law_exact (P := P) (w := w) (base := base) T (def_at X G c "_law_exact" 90 76 rfl rfl) h__law_plus h__law_less h__law_times h__law_over h__law_below h__law_ends
  have h__law_draw := cal__law_draw (P := P) (w := w) (base := base) (def_at X G c "_law_draw" 73 59 rfl rfl) h__law_mixed
  have h__law_number := cal__law_number (P := P) (w := w) (base := base) (def_at X G c "_law_number" 81 67 rfl rfl) h__law_draw h__law_made
  have h__law_ruler := cal__law_ruler (P := P) (w := w) (base := base) (def_at X G c "_law_ruler" 85 71 rfl rfl) h__law_draw
  have h__law_mark := cal__law_mark (P := P) (w := w) (base := base) (def_at X G c "_law_mark" 86 72 rfl rfl) h__law_draw h__law_power h__law_times
  have h__law_names := cal__law_names (P := P) (w := w) (base := base) T (def_at X G c "_law_names" 87 73 rfl rfl) h__law_draw
  have h__law_box := cal__law_box (P := P) (w := w) (base := base) T (def_at X G c "_law_box" 88 74 rfl rfl) h__law_draw h__law_mark h__law_rounded h__law_plus h__law_power h__law_place
  have h__law_works := cal__law_works (P := P) (w := w) (base := base) T (def_at X G c "_law_works" 89 75 rfl rfl) h__law_draw h__law_number
  have h__law_begun := cal__law_begun (P := P) (w := w) (base := base) (def_at X G c "_law_begun" 71 57 rfl rfl)
  have h__law_open := cal__law_open (P := P) (w := w) (base := base) T (def_at X G c "_law_open" 72 58 rfl rfl) h__law_mixed
  have h__law_pairs := cal__law_pairs (P := P) (w := w) (base := base) T (def_at X G c "_law_pairs" 96 82 rfl rfl)
  have h__law_rows := cal__law_rows (P := P) (w := w) (base := base) T (def_at X G c "_law_rows" 95 81 rfl rfl) h__law_pairs
  have h__law_run := cal__law_run (P := P) (w := w) (base := base) T (def_at X G c "_law_run" 91 77 rfl rfl) h__law_exact h__law_rounded
  have h__law_entries := cal__law_entries (P := P) (w := w) (base := base) T NT (def_at X G c "_law_entries" 92 78 rfl rfl) h_entry_of_marks h_entry_of
  have h__law_single_right := cal__law_single_right (P := P) (w := w) (base := base) T (def_at X G c "_law_single_right" 97 83 rfl rfl) h__law_entries h__law_run h__law_less
  have h__law_right := cal__law_right (P := P) (w := w) (base := base) T (def_at X G c "_law_right" 98 84 rfl rfl) h__law_entries h__law_run h__law_rows h__law_keeps h__law_single_right
  exact cal_law M T FF h__law_begun h__law_open h__law_draw h__law_ruler h__law_names h__law_box h__law_works h__law_right h_entry_of h_entry_of_marks
end
end Rs
open PySem PySem.W PySem.Calls PyProof.Rows
theorem Rs.holds_of (M : Rs.LawMath) : PySem.Challenge.rw_roundsure_k74_whole_entries_hold_at_all.Holds := by
  w_on; o_law
  refine HandSHeadRun.head_any (r := OpenLaw.row PySem.Challenge.rw_roundsure_k74_whole_entries_hold_at_all) (q := view (OpenLaw.row PySem.Challenge.rw_roundsure_k74_whole_entries_hold_at_all).prog [99]) (H := Rs.hk) (ob := Rs.ob) (M := 4000) (loose := Rs.nms) (d := HandSHeadRun.topDef (OpenLaw.row PySem.Challenge.rw_roundsure_k74_whole_entries_hold_at_all).prog 99) (kwd := []) Rs.ob_eq
    (by kernel_rfl) (fun s => by kernel_rfl) Rs.run (by kernel_rfl) (by kernel_rfl) (by kernel_rfl) (by rfl) (by first | assumption | decide +kernel) (by decide +kernel) ⟨rfl, rfl, rfl, rfl, rfl, by decide +kernel⟩ ?hw ?hc
  case hw => w_witness2
  case hc =>
    refine L2.walk_ofE (l := PySem.Challenge.rw_roundsure_k74_whole_entries_hold_at_all) (n := 63) (k := 14) (x := "_law_script") (CX := L2.CX0) rfl (by decide) (by kernel_rfl) ⟨rfl, by decide, by decide⟩ ?F (fun _ _ _ _ z => z)
    intro w mg fa h Y G hmg0
    obtain ⟨K, KX, c⟩ := Y
    have hmg : mg ("law" : PySem.Str) = some (.ref fa) := by
      have e : (HandSHeadRun.topDef (OpenLaw.row PySem.Challenge.rw_roundsure_k74_whole_entries_hold_at_all).prog 99).name = ("law" : PySem.Str) := by kernel_rfl
      rw [← e]
      exact hmg0
    have cd := c.1
    obtain ⟨fdL, FL⟩ := cd.def_ 85 (d := Rs.dd "law" 99) rfl
    have e := hmg.symm.trans (He.glo_ok KX G (cd.fact 85 (f := .glo "law") rfl))
    cases e
    have b := L2.FunD.bindsA (ps := ["_law_script"]) FL fun _ _ _ _ _ _ us hl => match us, hl with | [_], _ => rfl
    refine ⟨K, fdL, Rs.spP K Rs.R_law, KX, fun s v => b s [v] rfl, fun H a ns hl _ hS => ?_, fun base _ _ => ?_⟩
    · exact ⟨H, [.list (ns.map .int)], .bool true, L2.Same.refl _, .cons (Rs.dp_ints hS) .nil, ⟨ns, rfl, Nat.le_trans hl (by decide), rfl⟩, fun v F' H' _ hv => Rs.dp_bl hv⟩
    · exact Rs.law_cal (P := (PySem.Challenge.rw_roundsure_k74_whole_entries_hold_at_all).prog) (w := w) M KX G cd c.2 base FL
end
theorem PySem.Challenge.cw_roundsure_k74_whole_entries_hold_at_all_holds : PySem.Challenge.rw_roundsure_k74_whole_entries_hold_at_all.Holds :=
  Rs.holds_of Rs.lawMath
