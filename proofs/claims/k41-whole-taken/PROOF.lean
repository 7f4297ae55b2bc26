import PyProof.Rows.All
import Wide.All
import OpenK.AllK
import Wide.FinOn
import KE.KStateDown
import Lean
import HandS.ForMost
import HandS.ForExc
import HandS.Evl
import HandS.Style
import HandS.Rev
import HandS.TupAny
import HandS.Wide
import HandS.WideMore
import HandS.IsInst
import HandS.ExcIs
import HandS.ExcInit
import HandS.TupSets
import HandS.Defaults
import HandS.Head0
import HandS.Head1
import HandS.Head2
import HandS.HeadEnd
import HandS.HeadHook1
import HandS.HeadHook2
import HandS.Zip
import PySem.Challenge.RW_ringhouse_k41_whole_taken_of_known
import KE.GoesNew
import KE.GoesMore
set_option Elab.async false
set_option linter.all false
set_option maxRecDepth 100000
set_option maxHeartbeats 4000000
/-! the text: where each def stands, its scope -/
namespace K41
open PySem PySem.Spec PyProof.Rows L2
def top (i : Nat) : Stmt := PySem.Challenge.pw_ringhouse_k41_whole_taken_of_known.main.body.getD i (.Pass ⟨0, 0, 0, 0⟩)
abbrev s_cut : Stmt := top 1
abbrev s_poly_parted : Stmt := top 2
abbrev s_poly_at : Stmt := top 3
abbrev s_root : Stmt := top 6
abbrev s_small_primes : Stmt := top 7
abbrev s_parted : Stmt := top 8
abbrev s_turned : Stmt := top 9
abbrev s_mod_poly : Stmt := top 11
abbrev s_mod_parted : Stmt := top 12
abbrev s_mod_at : Stmt := top 13
abbrev s_pair_of : Stmt := top 23
abbrev s_rootless : Stmt := top 24
abbrev s_split_by : Stmt := top 25
abbrev s_prime_table : Stmt := top 27
abbrev s_above : Stmt := top 28
abbrev s_det : Stmt := top 30
abbrev s_root_times : Stmt := top 32
abbrev s_poly_table : Stmt := top 33
abbrev s_combined : Stmt := top 34
abbrev s_product_by : Stmt := top 35
abbrev s_times : Stmt := top 36
abbrev s_turner : Stmt := top 38
abbrev s_often_by : Stmt := top 39
abbrev s_often : Stmt := top 40
abbrev s_taken : Stmt := top 41
abbrev s_check_poly : Stmt := top 44
abbrev s_whole_root : Stmt := top 45
abbrev s_pair_by : Stmt := top 46
abbrev s_apart : Stmt := top 47
abbrev s_power_sums : Stmt := top 49
abbrev s_measure : Stmt := top 50
abbrev s_square_primes : Stmt := top 52
abbrev s_parts_of : Stmt := top 53
abbrev s_divides_all : Stmt := top 54
abbrev s_outside : Stmt := top 55
abbrev s_L_cell : Stmt := top 60
abbrev s_L_mixed : Stmt := top 61
abbrev s_L_draws : Stmt := top 62
abbrev s_L_shifted : Stmt := top 63
abbrev s_L_poly : Stmt := top 64
abbrev s_L_known_ring : Stmt := top 65
abbrev s_L_ring : Stmt := top 66
abbrev s_L_shared : Stmt := top 67
abbrev s_L_value : Stmt := top 68
abbrev s_L_known : Stmt := top 69
abbrev s_L_is_prime : Stmt := top 70
abbrev s_L_primes : Stmt := top 71
abbrev s_L_parts : Stmt := top 72
abbrev s_L_lifted : Stmt := top 73
abbrev s_L_asked : Stmt := top 74
abbrev s_law : Stmt := top 75
abbrev s_FallsApartinit : Stmt := inClass (top 20) 0
abbrev s_NotWholeinit : Stmt := inClass (top 21) 0
abbrev s_Ringinit : Stmt := inClass (top 58) 0
theorem sc_cut : FnScope ["row", "many"] ["row"] (defScope s_cut) := ⟨rfl, rfl, rfl, by decide +kernel, rfl, by decide +kernel, by decide +kernel⟩
theorem sc_poly_parted : FnScope ["f", "g", "degree", "left", "quotient", "at", "part", "j"] ["f", "g"] (defScope s_poly_parted) := ⟨rfl, rfl, rfl, by decide +kernel, rfl, by decide +kernel, by decide +kernel⟩
theorem sc_poly_at : FnScope ["f", "x", "value", "place"] ["f", "x"] (defScope s_poly_at) := ⟨rfl, rfl, rfl, by decide +kernel, rfl, by decide +kernel, by decide +kernel⟩
theorem sc_root : FnScope ["m", "high", "low", "middle"] ["m"] (defScope s_root) := ⟨rfl, rfl, rfl, by decide +kernel, rfl, by decide +kernel, by decide +kernel⟩
theorem sc_small_primes : FnScope [] [] (defScope s_small_primes) := ⟨rfl, rfl, rfl, by decide +kernel, rfl, by decide +kernel, by decide +kernel⟩
theorem sc_parted : FnScope ["m", "rows", "rest", "p", "often"] ["m"] (defScope s_parted) := ⟨rfl, rfl, rfl, by decide +kernel, rfl, by decide +kernel, by decide +kernel⟩
theorem sc_turned : FnScope ["a", "p", "one", "two", "first", "second", "part"] ["a", "p"] (defScope s_turned) := ⟨rfl, rfl, rfl, by decide +kernel, rfl, by decide +kernel, by decide +kernel⟩
theorem sc_mod_poly : FnScope ["row", "p", "place"] ["row", "p"] (defScope s_mod_poly) := ⟨rfl, rfl, rfl, by decide +kernel, rfl, by decide +kernel, by decide +kernel⟩
theorem sc_mod_parted : FnScope ["a", "b", "p", "left", "by", "degree", "back", "quotient", "at", "part", "j"] ["a", "b", "p"] (defScope s_mod_parted) := ⟨rfl, rfl, rfl, by decide +kernel, rfl, by decide +kernel, by decide +kernel⟩
theorem sc_mod_at : FnScope ["f", "x", "p", "value", "place"] ["f", "x", "p"] (defScope s_mod_at) := ⟨rfl, rfl, rfl, by decide +kernel, rfl, by decide +kernel, by decide +kernel⟩
theorem sc_pair_of : FnScope ["left", "p", "low", "one", "two", "three", "b", "d", "a"] ["left", "p"] (defScope s_pair_of) := ⟨rfl, rfl, rfl, by decide +kernel, rfl, by decide +kernel, by decide +kernel⟩
theorem sc_rootless : FnScope ["left", "p", "pair", "g"] ["left", "p"] (defScope s_rootless) := ⟨rfl, rfl, rfl, by decide +kernel, rfl, by decide +kernel, by decide +kernel⟩
theorem sc_split_by : FnScope ["poly", "p", "left", "parts", "low", "often"] ["poly", "p"] (defScope s_split_by) := ⟨rfl, rfl, rfl, by decide +kernel, rfl, by decide +kernel, by decide +kernel⟩
theorem sc_prime_table : FnScope ["many", "g", "p", "low", "rows", "i", "row", "left", "j"] ["many", "g", "p"] (defScope s_prime_table) := ⟨rfl, rfl, rfl, by decide +kernel, rfl, by decide +kernel, by decide +kernel⟩
theorem sc_above : FnScope ["ring", "p", "found", "g", "often"] ["ring", "p"] (defScope s_above) := ⟨rfl, rfl, rfl, by decide +kernel, rfl, by decide +kernel, by decide +kernel⟩
theorem sc_det : FnScope ["table", "total", "i", "lower", "part", "row"] ["table"] (defScope s_det) := ⟨rfl, rfl, rfl, by decide +kernel, rfl, by decide +kernel, by decide +kernel⟩
theorem sc_root_times : FnScope ["poly", "row", "last", "ahead", "a", "c"] ["poly", "row"] (defScope s_root_times) := ⟨rfl, rfl, rfl, by decide +kernel, rfl, by decide +kernel, by decide +kernel⟩
theorem sc_poly_table : FnScope ["poly", "x", "rows", "row", "k"] ["poly", "x"] (defScope s_poly_table) := ⟨rfl, rfl, rfl, by decide +kernel, rfl, by decide +kernel, by decide +kernel⟩
theorem sc_combined : FnScope ["numbers", "rows", "many", "total", "often", "row", "k"] ["numbers", "rows"] (defScope s_combined) := ⟨rfl, rfl, rfl, by decide +kernel, rfl, by decide +kernel, by decide +kernel⟩
theorem sc_product_by : FnScope ["poly", "x", "y"] ["poly", "x", "y"] (defScope s_product_by) := ⟨rfl, rfl, rfl, by decide +kernel, rfl, by decide +kernel, by decide +kernel⟩
theorem sc_times : FnScope ["ring", "x", "y"] ["ring", "x", "y"] (defScope s_times) := ⟨rfl, rfl, rfl, by decide +kernel, rfl, by decide +kernel, by decide +kernel⟩
theorem sc_turner : FnScope ["ring", "P", "p", "low", "g", "places", "k"] ["ring", "P"] (defScope s_turner) := ⟨rfl, rfl, rfl, by decide +kernel, rfl, by decide +kernel, by decide +kernel⟩
theorem sc_often_by : FnScope ["ring", "p", "h", "x", "found", "place"] ["ring", "p", "h", "x"] (defScope s_often_by) := ⟨rfl, rfl, rfl, by decide +kernel, rfl, by decide +kernel, by decide +kernel⟩
theorem sc_often : FnScope ["ring", "P", "A", "h", "row"] ["ring", "P", "A"] (defScope s_often) := ⟨rfl, rfl, rfl, by decide +kernel, rfl, by decide +kernel, by decide +kernel⟩
theorem sc_taken : FnScope ["ring", "A", "rows", "far", "found", "p", "most", "P", "again", "degree", "many"] ["ring", "A"] (defScope s_taken) := ⟨rfl, rfl, rfl, by decide +kernel, rfl, by decide +kernel, by decide +kernel⟩
theorem sc_check_poly : FnScope ["poly", "good", "place"] ["poly"] (defScope s_check_poly) := ⟨rfl, rfl, rfl, by decide +kernel, rfl, by decide +kernel, by decide +kernel⟩
theorem sc_whole_root : FnScope ["poly", "last", "size"] ["poly"] (defScope s_whole_root) := ⟨rfl, rfl, rfl, by decide +kernel, rfl, by decide +kernel, by decide +kernel⟩
theorem sc_pair_by : FnScope ["poly", "b", "d", "amid", "top", "a", "square"] ["poly", "b"] (defScope s_pair_by) := ⟨rfl, rfl, rfl, by decide +kernel, rfl, by decide +kernel, by decide +kernel⟩
theorem sc_apart : FnScope ["poly", "at", "last", "size", "b", "found"] ["poly"] (defScope s_apart) := ⟨rfl, rfl, rfl, by decide +kernel, rfl, by decide +kernel, by decide +kernel⟩
theorem sc_power_sums : FnScope ["poly", "many", "degree", "sums", "k", "total", "i"] ["poly", "many"] (defScope s_power_sums) := ⟨rfl, rfl, rfl, by decide +kernel, rfl, by decide +kernel, by decide +kernel⟩
theorem sc_measure : FnScope ["poly", "degree", "sums", "rows", "i", "j"] ["poly"] (defScope s_measure) := ⟨rfl, rfl, rfl, by decide +kernel, rfl, by decide +kernel, by decide +kernel⟩
theorem sc_square_primes : FnScope ["size", "p"] ["size"] (defScope s_square_primes) := ⟨rfl, rfl, rfl, by decide +kernel, rfl, by decide +kernel, by decide +kernel⟩
theorem sc_parts_of : FnScope ["poly", "p", "parts", "g", "often"] ["poly", "p"] (defScope s_parts_of) := ⟨rfl, rfl, rfl, by decide +kernel, rfl, by decide +kernel, by decide +kernel⟩
theorem sc_divides_all : FnScope ["m", "row", "place"] ["m", "row"] (defScope s_divides_all) := ⟨rfl, rfl, rfl, by decide +kernel, rfl, by decide +kernel, by decide +kernel⟩
theorem sc_outside : FnScope ["poly", "size", "p", "g", "often", "rest_by", "row", "place"] ["poly", "size"] (defScope s_outside) := ⟨rfl, rfl, rfl, by decide +kernel, rfl, by decide +kernel, by decide +kernel⟩
theorem sc_L_cell : FnScope ["_law_script", "_law_k"] ["_law_script", "_law_k"] (defScope s_L_cell) := ⟨rfl, rfl, rfl, by decide +kernel, rfl, by decide +kernel, by decide +kernel⟩
theorem sc_L_mixed : FnScope ["_law_cell_here", "_law_k", "_law_prime", "_law_far"] ["_law_cell_here", "_law_k", "_law_prime"] (defScope s_L_mixed) := ⟨rfl, rfl, rfl, by decide +kernel, rfl, by decide +kernel, by decide +kernel⟩
theorem sc_L_draws : FnScope ["_law_cell_here", "_law_widths", "_law_prime", "_law_left", "_law_found", "_law_k"] ["_law_cell_here", "_law_widths", "_law_prime"] (defScope s_L_draws) := ⟨rfl, rfl, rfl, by decide +kernel, rfl, by decide +kernel, by decide +kernel⟩
theorem sc_L_shifted : FnScope ["_law_poly_here", "_law_s", "_law_row", "_law_low", "_law_at"] ["_law_poly_here", "_law_s"] (defScope s_L_shifted) := ⟨rfl, rfl, rfl, by decide +kernel, rfl, by decide +kernel, by decide +kernel⟩
theorem sc_L_poly : FnScope ["_law_cell_here", "_law_prime", "_law_deep", "_law_wide", "_law_found", "_law_place"] ["_law_cell_here", "_law_prime"] (defScope s_L_poly) := ⟨rfl, rfl, rfl, by decide +kernel, rfl, by decide +kernel, by decide +kernel⟩
theorem sc_L_known_ring : FnScope ["_law_cell_here", "_law_known_here"] ["_law_cell_here"] (defScope s_L_known_ring) := ⟨rfl, rfl, rfl, by decide +kernel, rfl, by decide +kernel, by decide +kernel⟩
theorem sc_L_ring : FnScope ["_law_script", "_law_k", "_law_prime", "_law_found", "_law_j"] ["_law_script", "_law_k", "_law_prime"] (defScope s_L_ring) := ⟨rfl, rfl, rfl, by decide +kernel, rfl, by decide +kernel, by decide +kernel⟩
theorem sc_L_shared : FnScope ["_law_a", "_law_b"] ["_law_a", "_law_b"] (defScope s_L_shared) := ⟨rfl, rfl, rfl, by decide +kernel, rfl, by decide +kernel, by decide +kernel⟩
theorem sc_L_value : FnScope ["_law_poly_here", "_law_r", "_law_total", "_law_place"] ["_law_poly_here", "_law_r"] (defScope s_L_value) := ⟨rfl, rfl, rfl, by decide +kernel, rfl, by decide +kernel, by decide +kernel⟩
theorem sc_L_known : FnScope ["_law_many", "_law_m", "_law_r", "_law_rows", "_law_far", "_law_i", "_law_row"] ["_law_many", "_law_m", "_law_r"] (defScope s_L_known) := ⟨rfl, rfl, rfl, by decide +kernel, rfl, by decide +kernel, by decide +kernel⟩
theorem sc_L_is_prime : FnScope ["_law_m", "_law_k"] ["_law_m"] (defScope s_L_is_prime) := ⟨rfl, rfl, rfl, by decide +kernel, rfl, by decide +kernel, by decide +kernel⟩
theorem sc_L_primes : FnScope ["_law_m"] [] (defScope s_L_primes) := ⟨rfl, rfl, rfl, by decide +kernel, rfl, by decide +kernel, by decide +kernel⟩
theorem sc_L_parts : FnScope ["_law_m", "_law_rows", "_law_p", "_law_k"] ["_law_m"] (defScope s_L_parts) := ⟨rfl, rfl, rfl, by decide +kernel, rfl, by decide +kernel, by decide +kernel⟩
theorem sc_L_lifted : FnScope ["_law_poly_here", "_law_p", "_law_steps", "_law_r", "_law_far", "_law_step", "_law_j"] ["_law_poly_here", "_law_p", "_law_steps"] (defScope s_L_lifted) := ⟨rfl, rfl, rfl, by decide +kernel, rfl, by decide +kernel, by decide +kernel⟩
theorem sc_L_asked : FnScope ["_law_ring_here", "_law_table", "_law_word", "_law_found", "e"] ["_law_ring_here", "_law_table"] (defScope s_L_asked) := ⟨rfl, rfl, rfl, by decide +kernel, rfl, by decide +kernel, by decide +kernel⟩
theorem sc_law : FnScope ["_law_script", "_law_ring_here", "_law_poly_here", "_law_draws_here", "_law_r", "_law_deep", "_law_full", "_law_m", "_law_rows", "_law_left", "_law_due", "_law_table", "_law_first", "_law_p", "_law_k"] ["_law_script"] (defScope s_law) := ⟨rfl, rfl, rfl, by decide +kernel, rfl, by decide +kernel, by decide +kernel⟩
theorem sc_FallsApartinit : FnScope ["self", "left", "right"] ["self", "left", "right"] (defScope s_FallsApartinit) := ⟨rfl, rfl, rfl, by decide +kernel, rfl, by decide +kernel, by decide +kernel⟩
theorem sc_NotWholeinit : FnScope ["self", "prime", "number"] ["self", "prime", "number"] (defScope s_NotWholeinit) := ⟨rfl, rfl, rfl, by decide +kernel, rfl, by decide +kernel, by decide +kernel⟩
theorem sc_Ringinit : FnScope ["self", "poly", "found", "size", "lack"] ["self", "poly"] (defScope s_Ringinit) := ⟨rfl, rfl, rfl, by decide +kernel, rfl, by decide +kernel, by decide +kernel⟩
/-! the head's facts -/
abbrev dF (x : Str) (st : Stmt) : He.DefD := ⟨(x, none), x, x, defArgs st, defBody st, defScope st, [], []⟩
abbrev dM (c m q : Str) (st : Stmt) : He.DefD := ⟨(c, some m), m, q, defArgs st, defBody st, defScope st, [], []⟩
def fn : List He.DefD := [dF "cut" s_cut,
  dF "poly_parted" s_poly_parted,
  dF "poly_at" s_poly_at,
  dF "root" s_root,
  dF "small_primes" s_small_primes,
  dF "parted" s_parted,
  dF "turned" s_turned,
  dF "mod_poly" s_mod_poly,
  dF "mod_parted" s_mod_parted,
  dF "mod_at" s_mod_at,
  dF "pair_of" s_pair_of,
  dF "rootless" s_rootless,
  dF "split_by" s_split_by,
  dF "prime_table" s_prime_table,
  dF "above" s_above,
  dF "det" s_det,
  dF "root_times" s_root_times,
  dF "poly_table" s_poly_table,
  dF "combined" s_combined,
  dF "product_by" s_product_by,
  dF "times" s_times,
  dF "turner" s_turner,
  dF "often_by" s_often_by,
  dF "often" s_often,
  dF "taken" s_taken,
  dF "check_poly" s_check_poly,
  dF "whole_root" s_whole_root,
  dF "pair_by" s_pair_by,
  dF "apart" s_apart,
  dF "power_sums" s_power_sums,
  dF "measure" s_measure,
  dF "square_primes" s_square_primes,
  dF "parts_of" s_parts_of,
  dF "divides_all" s_divides_all,
  dF "outside" s_outside,
  dF "_law_cell" s_L_cell,
  dF "_law_mixed" s_L_mixed,
  dF "_law_draws" s_L_draws,
  dF "_law_shifted" s_L_shifted,
  dF "_law_poly" s_L_poly,
  dF "_law_known_ring" s_L_known_ring,
  dF "_law_ring" s_L_ring,
  dF "_law_shared" s_L_shared,
  dF "_law_value" s_L_value,
  dF "_law_known" s_L_known,
  dF "_law_is_prime" s_L_is_prime,
  dF "_law_primes" s_L_primes,
  dF "_law_parts" s_L_parts,
  dF "_law_lifted" s_L_lifted,
  dF "_law_asked" s_L_asked,
  dF "law" s_law,
  dM "FallsApart" "__init__" "FallsApart.__init__" s_FallsApartinit,
  dM "NotWhole" "__init__" "NotWhole.__init__" s_NotWholeinit,
  dM "Ring" "__init__" "Ring.__init__" s_Ringinit]
def fa : List He.Fa := [.free "len", .free "range", .free "tuple", .free "list", .free "reversed", .free "abs", .free "all", .free "min", .free "sorted", .free "zip", .free "isinstance", .free "int", .free "ValueError", .glo "cut", .glo "poly_parted", .glo "poly_at", .glo "root", .glo "small_primes", .glo "parted", .glo "turned", .glo "mod_poly", .glo "mod_parted", .glo "mod_at", .glo "pair_of", .glo "rootless", .glo "split_by", .glo "prime_table", .glo "above", .glo "det", .glo "root_times", .glo "poly_table", .glo "combined", .glo "product_by", .glo "times", .glo "turner", .glo "often_by", .glo "often", .glo "taken", .glo "check_poly", .glo "whole_root", .glo "pair_by", .glo "apart", .glo "power_sums", .glo "measure", .glo "square_primes", .glo "parts_of", .glo "divides_all", .glo "outside", .glo "_law_cell", .glo "_law_mixed", .glo "_law_draws", .glo "_law_shifted", .glo "_law_poly", .glo "_law_known_ring", .glo "_law_ring", .glo "_law_shared", .glo "_law_value", .glo "_law_known", .glo "_law_is_prime", .glo "_law_primes", .glo "_law_parts", .glo "_law_lifted", .glo "_law_asked", .glo "law", .glo "RingError", .glo "NoPolynomial", .glo "TooGreat", .glo "NoPrime", .glo "TooFar", .glo "FallsApart", .glo "NotWhole", .glo "Ring", .glo "PRIMES", .int "LARGEST" 499, .int "GREATEST" 39999, .exc "NoPolynomial", .exc "TooGreat", .exc "NoPrime", .exc "TooFar", .exm "NoPolynomial" "RingError" true, .exm "TooGreat" "RingError" true, .exm "FallsApart" "RingError" true, .exm "NotWhole" "RingError" true, .exm "TooFar" "TooFar" true, .exm "NoPrime" "RingError" true, .cls "Ring", .mkr "Ring", .noat "Ring" "poly", .noat "Ring" "degree", .noat "Ring" "measure"]
abbrev R : PySem.W.OpenRow := PySem.W.OpenLaw.row PySem.Challenge.rw_ringhouse_k41_whole_taken_of_known
def ns0 : List PySem.Str := ["PRIMES", "LARGEST", "GREATEST", "RingError", "NoPolynomial", "TooGreat", "NoPrime", "TooFar", "FallsApart", "NotWhole", "Ring", "cut", "poly_parted", "poly_at", "root", "small_primes", "parted", "turned", "mod_poly", "mod_parted", "mod_at", "pair_of", "rootless", "split_by", "prime_table", "above", "det", "root_times", "poly_table", "combined"]
def ns1 : List PySem.Str := ["product_by", "times", "turner", "often_by", "often", "taken", "check_poly", "whole_root", "pair_by", "apart", "power_sums", "measure", "square_primes", "parts_of", "divides_all", "outside", "_law_cell", "_law_mixed", "_law_draws", "_law_shifted", "_law_poly", "_law_known_ring", "_law_ring", "_law_shared", "_law_value", "_law_known", "_law_is_prime", "_law_primes", "_law_parts", "_law_lifted"]
def ns2 : List PySem.Str := ["_law_asked"]
def names : List PySem.Str := ns0 ++ ns1 ++ ns2
def lawAt : Nat := 75
end K41
set_option Elab.async false
set_option linter.all false
set_option maxRecDepth 100000
set_option maxHeartbeats 0
namespace K41
open PySem PySem.Spec PyProof.Rows L2
/-! more facts of the classes -/
/-- the class at C is made as an own exception over ValueError -/
def oexB (K : PySem.W.Frag) (C : Addr) : Bool := (match K.lookup C with
  | some ⟨.type "type", _, .cls cd, sl⟩ => (match cd.mro, sl.toList with
    | .ref C' :: bm, [_, _, _, _, some (.builtin n), _] => C' == C && n == "ValueError.__new__" && !cd.hasDel && cd.hasDict && PySem.HandSPX.refsVE bm
    | _, _ => false)
  | _ => false) && (decide (PySem.W.findIn K (.ref C) "__setattr__" = some (some (.builtin "object.__setattr__"))) && (decide (PySem.W.subIn K (.ref C) (.type "BaseException") = some true) && (decide (PySem.W.typeIn K (.ref C) = some (.type "type")) && PySem.W.keepIn K (.ref C))))
theorem oex_of {K : PySem.W.Frag} {C : Addr} (h : oexB K C = true) : OexC K C := by
  unfold oexB at h
  obtain ⟨h1, h⟩ := He.ba h
  obtain ⟨h2, h⟩ := He.ba h
  obtain ⟨h3, h⟩ := He.ba h
  obtain ⟨h4, h5⟩ := He.ba h
  refine ⟨?_, of_decide_eq_true h2, of_decide_eq_true h3, of_decide_eq_true h4, h5⟩
  split at h1
  · rename_i dd cd sl ho
    split at h1
    · rename_i C' bm k0 k1 k2 k3 n k5 hm hs
      simp only [Bool.and_eq_true, beq_iff_eq, Bool.not_eq_true'] at h1
      obtain ⟨⟨⟨⟨rfl, rfl⟩, hdel⟩, hd⟩, ht⟩ := h1
      obtain ⟨nm, bs, mro, ns, qn, hdc, sn, sub, ab, col, del⟩ := cd
      dsimp only at hm hdel hd
      subst hm hdel hd
      have hsl : sl = #[k0, k1, k2, k3, some (.builtin "ValueError.__new__"), k5] := by
        obtain ⟨l⟩ := sl
        simp only at hs
        rw [hs]
      subst hsl
      exact ⟨nm, qn, ns, bs, bm, sn, sub, ab, col, dd, k0, k1, k2, k3, k5, ho, ht⟩
    · cases h1
  · cases h1
def excCB (K : PySem.W.Frag) (D : Addr) : Bool := decide (PySem.W.findIn K (.ref D) "__getattribute__" = some (some (.builtin "BaseException.__getattribute__"))) && (decide (PySem.W.findIn K (.ref D) "__getattr__" = some none) && (decide (PySem.W.subIn K (.ref D) (.type "BaseException") = some true) &&
  (PySem.W.hasDictIn K D && (decide (PySem.W.findIn K (.ref D) "__class__" = some (some (.builtin "object.__class__"))) && (decide (PySem.W.specialIn K (.builtin "object.__class__") "__get__" = some (some (.builtin "getset_descriptor.__get__"))) && (decide (PySem.W.takesIn K (.builtin "object.__class__") = some true) && decide (PySem.W.mroIn K D (.type "object") = some true)))))))
theorem excC_of {K : PySem.W.Frag} {D : Addr} (h : excCB K D = true) : ExcC K D := by
  unfold excCB at h
  obtain ⟨h1, h⟩ := He.ba h
  obtain ⟨h2, h⟩ := He.ba h
  obtain ⟨h3, h⟩ := He.ba h
  obtain ⟨h4, h⟩ := He.ba h
  obtain ⟨h5, h⟩ := He.ba h
  obtain ⟨h6, h⟩ := He.ba h
  obtain ⟨h7, h8⟩ := He.ba h
  exact ⟨of_decide_eq_true h1, of_decide_eq_true h2, of_decide_eq_true h3, h4, of_decide_eq_true h5, of_decide_eq_true h6, of_decide_eq_true h7, of_decide_eq_true h8⟩
/-- a class with its own __init__ -/
def iniB (K : PySem.W.Frag) (x : Str) : Bool := decide (PySem.W.findIn K (.ref (He.ga K x)) "__init__" = some (some (.ref (He.ma K (He.ga K x) "__init__")))) && decide (PySem.W.typeIn K (.ref (He.ma K (He.ga K x) "__init__")) = some (.type "function"))
def nofB (K : PySem.W.Frag) (x f : Str) : Bool := decide (PySem.W.findIn K (.ref (He.ga K x)) f = some none)
def primes : List Int := [2, 3, 5, 7, 11, 13, 17, 19, 23, 29, 31, 37, 41, 43, 47, 53, 59, 61, 67, 71, 73, 79, 83, 89, 97, 101, 103, 107, 109, 113, 127, 131, 137, 139, 149, 151, 157, 163, 167, 173, 179, 181, 191, 193, 197, 199]
def ex1 (K : PySem.W.Frag) : Bool := oexB K (He.ga K "FallsApart") && (oexB K (He.ga K "NotWhole") && (iniB K "FallsApart" && (iniB K "NotWhole" && (nofB K "FallsApart" "left" && (nofB K "FallsApart" "right" && (nofB K "NotWhole" "prime" && nofB K "NotWhole" "number"))))))
def kitB2 (K : PySem.W.Frag) (x y : Str) (b : Bool) : Bool := decide (PySem.W.kitOne K (.ref (He.ga K x)) (.ref (He.ga K y)) = some b)
def ex2 (K : PySem.W.Frag) : Bool := excCB K (He.ga K "TooFar") && (decide (PySem.W.kitOne K (.ref (He.ga K "TooFar")) (.type "ValueError") = some true) && (kitB2 K "TooFar" "TooGreat" false && kitB2 K "TooFar" "NoPrime" false))
def ex (K : PySem.W.Frag) : Bool := ex1 K && (ex2 K && He.tupB K "PRIMES" (primes.map He.Dv.int))
/-! the hook -/
abbrev AlZ : Type := He.AlD × Bool
def obsZ (n : Nat) (g : Addr → Option Obj) : AlZ := (He.obsDG n fa fn g, ex (He.frG g (He.asD g n)))
def SaysZ (K : PySem.W.Frag) : Prop := He.SaysD fa fn K ∧ ex K = true
def hookZ (n : Nat) : PySem.W.Hook where
  α := AlZ
  obs := fun s => obsZ n s.heap.get?
  val := fun _ => (He.valD fn, true)
  says := fun _ h => ∃ K : PySem.W.Frag, K.In h ∧ SaysZ K
  of := fun _ _ e => ⟨_, He.frG_in, (Prod.mk.inj e).1, (Prod.mk.inj e).2⟩
  keeps := fun _ _ _ ⟨K, hK, c⟩ k => ⟨K, PySem.W.Frag.In.keeps hK k, c⟩
abbrev hk : PySem.W.Hook := hookZ 5
def ob (s : PySem.W.SharedT) : AlZ := obsZ 5 (HandSHeadRun.getT s)
theorem ob_eq (s : PySem.W.SharedT) : ob s = hk.obs s.abs := by
  have e : HandSHeadRun.getT s = s.abs.heap.get? := funext (HandSHeadRun.getT_eq s)
  show obsZ 5 (HandSHeadRun.getT s) = obsZ 5 s.abs.heap.get?
  rw [e]
theorem run (w : World) : HandSHeadRun.RunEq R (PySem.W.view R.prog [lawAt]) hk ob 4000 names w := by
  intro os
  kernel_rfl
end K41
set_option Elab.async false
set_option linter.all false
set_option maxRecDepth 100000
set_option maxHeartbeats 4000000
namespace K41
open PySem PySem.Spec PyProof.Rows L2 Evl
/-! ## data in the heap -/
section
variable {K : PySem.W.Frag} {H H' : Hp}
theorem dp_none {v : V} (h : Dp K H v .none) : v = .non := by cases h; rfl
theorem dp_bool {v : V} {b : Bool} (h : Dp K H v (.bool b)) : v = .bl b := by cases h; rfl
theorem dp_int {v : V} {i : Int} (h : Dp K H v (.int i)) : v = .int i := by cases h; rfl
theorem dp_str {v : V} {x : Str} (h : Dp K H v (.str x)) : v = .str x := by cases h; rfl
theorem dp_tup {v : V} {ds : List PyData} (h : Dp K H v (.tuple ds)) : ∃ a xs, v = .ref a ∧ SqT K H a xs ∧ DpAll K H xs ds := by
  cases h with
  | tup h1 h2 => exact ⟨_, _, rfl, h1, h2⟩
theorem dp_lst {v : V} {ds : List PyData} (h : Dp K H v (.list ds)) : ∃ a xs, v = .ref a ∧ SqL K H a xs ∧ DpAll K H xs ds := by
  cases h with
  | lst h1 h2 => exact ⟨_, _, rfl, h1, h2⟩
theorem dpAll_cons {vs : List V} {d : PyData} {ds : List PyData} (h : DpAll K H vs (d :: ds)) : ∃ v us, vs = v :: us ∧ Dp K H v d ∧ DpAll K H us ds := by
  cases h with
  | cons h1 h2 => exact ⟨_, _, rfl, h1, h2⟩
theorem dpAll_nil {vs : List V} (h : DpAll K H vs []) : vs = [] := by cases h; rfl
theorem dpAll_one {vs : List V} {d : PyData} (h : DpAll K H vs [d]) : ∃ v, vs = [v] ∧ Dp K H v d := by
  obtain ⟨v, us, rfl, h1, h2⟩ := dpAll_cons h
  rw [dpAll_nil h2]
  exact ⟨v, rfl, h1⟩
theorem dpAll_two {vs : List V} {d e : PyData} (h : DpAll K H vs [d, e]) : ∃ v u, vs = [v, u] ∧ Dp K H v d ∧ Dp K H u e := by
  obtain ⟨v, us, rfl, h1, h2⟩ := dpAll_cons h
  obtain ⟨u, rfl, h3⟩ := dpAll_one h2
  exact ⟨v, u, rfl, h1, h3⟩
theorem dpAll_three {vs : List V} {d e f : PyData} (h : DpAll K H vs [d, e, f]) : ∃ v u w, vs = [v, u, w] ∧ Dp K H v d ∧ Dp K H u e ∧ Dp K H w f := by
  obtain ⟨v, us, rfl, h1, h2⟩ := dpAll_cons h
  obtain ⟨u, w, rfl, h3, h4⟩ := dpAll_two h2
  exact ⟨v, u, w, rfl, h1, h3, h4⟩
theorem dpAll_len : ∀ {vs : List V} {ds : List PyData}, DpAll K H vs ds → vs.length = ds.length
  | _, [], h => by rw [dpAll_nil h]; rfl
  | _, d :: ds, h => by
    obtain ⟨v, us, rfl, _, h2⟩ := dpAll_cons h
    rw [List.length_cons, List.length_cons, dpAll_len h2]
theorem dpAll_get : ∀ {vs : List V} {ds : List PyData} {i : Nat} {d : PyData}, DpAll K H vs ds → ds[i]? = some d → ∃ v, vs[i]? = some v ∧ Dp K H v d
  | _, [], i, d, _, e => by simp at e
  | _, x :: ds, i, d, h, e => by
    obtain ⟨v, us, rfl, h1, h2⟩ := dpAll_cons h
    cases i with
    | zero =>
      simp at e
      subst e
      exact ⟨v, rfl, h1⟩
    | succ i =>
      simp at e
      obtain ⟨u, h3, h4⟩ := dpAll_get h2 e
      exact ⟨u, by simpa using h3, h4⟩
theorem dpAll_get' : ∀ {vs : List V} {ds : List PyData} {i : Nat} {v : V}, DpAll K H vs ds → vs[i]? = some v → ∃ d, ds[i]? = some d ∧ Dp K H v d
  | _, [], i, d, h, e => by rw [dpAll_nil h] at e; simp at e
  | _, x :: ds, i, d, h, e => by
    obtain ⟨v, us, rfl, h1, h2⟩ := dpAll_cons h
    cases i with
    | zero =>
      simp at e
      subst e
      exact ⟨x, rfl, h1⟩
    | succ i =>
      simp at e
      obtain ⟨u, h3, h4⟩ := dpAll_get' h2 e
      exact ⟨u, by simpa using h3, h4⟩
theorem dpAll_app : ∀ {vs ws : List V} {ds es : List PyData}, DpAll K H vs ds → DpAll K H ws es → DpAll K H (vs ++ ws) (ds ++ es)
  | _, _, [], _, h, h' => by rw [dpAll_nil h]; exact h'
  | _, _, d :: ds, _, h, h' => by
    obtain ⟨v, us, rfl, h1, h2⟩ := dpAll_cons h
    exact .cons h1 (dpAll_app h2 h')
theorem dpAll_ints : ∀ (l : List Int), DpAll K H (l.map V.int) (l.map PyData.int)
  | [] => .nil
  | a :: l => .cons (.int a) (dpAll_ints l)
theorem dpAll_intsV : ∀ {l : List Int} {vs : List V}, DpAll K H vs (l.map PyData.int) → vs = l.map V.int
  | [], _, h => dpAll_nil h
  | a :: l, _, h => by
    obtain ⟨v, us, rfl, h1, h2⟩ := dpAll_cons (show DpAll K H _ (PyData.int a :: l.map PyData.int) from h)
    rw [dp_int h1, dpAll_intsV h2]
    rfl
theorem dpAll_drop : ∀ {vs : List V} {ds : List PyData} (n : Nat), DpAll K H vs ds → DpAll K H (vs.drop n) (ds.drop n)
  | _, _, 0, h => h
  | _, [], n + 1, h => by rw [dpAll_nil h]; exact .nil
  | _, d :: ds, n + 1, h => by
    obtain ⟨v, us, rfl, _, h2⟩ := dpAll_cons h
    exact dpAll_drop n h2
theorem dpAll_take : ∀ {vs : List V} {ds : List PyData} (n : Nat), DpAll K H vs ds → DpAll K H (vs.take n) (ds.take n)
  | _, _, 0, _ => .nil
  | _, [], n + 1, h => by rw [dpAll_nil h]; exact .nil
  | _, d :: ds, n + 1, h => by
    obtain ⟨v, us, rfl, h1, h2⟩ := dpAll_cons h
    exact .cons h1 (dpAll_take n h2)
theorem dpAll_rep {x : V} {d : PyData} (h : Dp K H x d) : ∀ n : Nat, DpAll K H (List.replicate n x) (List.replicate n d)
  | 0 => .nil
  | n + 1 => .cons h (dpAll_rep h n)
mutual
theorem dp_ex (e : Ex H H') : ∀ {d : PyData} {v : V}, Dp K H v d → Dp K H' v d
  | .none, _, h => by rw [dp_none h]; exact .non
  | .bool b, _, h => by rw [dp_bool h]; exact .bl b
  | .int i, _, h => by rw [dp_int h]; exact .int i
  | .str x, _, h => by rw [dp_str h]; exact .str x
  | .list ds, _, h => by
    obtain ⟨a, xs, rfl, h1, h2⟩ := dp_lst h
    exact .lst (ex_l e h1) (dpAll_ex e h2)
  | .tuple ds, _, h => by
    obtain ⟨a, xs, rfl, h1, h2⟩ := dp_tup h
    exact .tup (ex_t e h1) (dpAll_ex e h2)
  | .dict kvs, _, h => by cases h
theorem dpAll_ex (e : Ex H H') : ∀ {ds : List PyData} {vs : List V}, DpAll K H vs ds → DpAll K H' vs ds
  | [], _, h => by rw [dpAll_nil h]; exact .nil
  | d :: ds, _, h => by
    obtain ⟨v, us, rfl, h1, h2⟩ := dpAll_cons h
    exact .cons (dp_ex e h1) (dpAll_ex e h2)
end
/-! no list within -/
mutual
def tO : PyData → Bool
  | .list _ => false
  | .tuple ds => tOs ds
  | .dict _ => false
  | _ => true
def tOs : List PyData → Bool
  | [] => true
  | d :: ds => tO d && tOs ds
end
/-- the tuples stand -/
def KT (K : PySem.W.Frag) (H H' : Hp) : Prop := ∀ a xs, SqT K H a xs → SqT K H' a xs
theorem KT.refl : KT K H H := fun _ _ h => h
theorem KT.trans {H1 H2 H3 : Hp} (a : KT K H1 H2) (b : KT K H2 H3) : KT K H1 H3 := fun x xs h => b x xs (a x xs h)
theorem KT.ofEx (e : Ex H H') : KT K H H' := fun _ _ h => ex_t e h
theorem KT.updL {p : Addr} {xs : List V} {o : HO} (h : H p = some (.lst xs)) : KT K H (upd H p o) := fun a ys q => by
  rcases q with (q | ⟨f, q⟩) | q
  · have n : a ≠ p := ne_of q h (fun z => by cases z)
    exact .inl (.inl (by rw [upd_ne n]; exact q))
  · have n : a ≠ p := ne_of q h (fun z => by cases z)
    exact .inl (.inr ⟨f, by rw [upd_ne n]; exact q⟩)
  · exact .inr q
mutual
theorem dp_kt (k : KT K H H') : ∀ {d : PyData} {v : V}, tO d = true → Dp K H v d → Dp K H' v d
  | .none, _, _, h => by rw [dp_none h]; exact .non
  | .bool b, _, _, h => by rw [dp_bool h]; exact .bl b
  | .int i, _, _, h => by rw [dp_int h]; exact .int i
  | .str x, _, _, h => by rw [dp_str h]; exact .str x
  | .list ds, _, t, h => by unfold tO at t; cases t
  | .tuple ds, _, t, h => by
    obtain ⟨a, xs, rfl, h1, h2⟩ := dp_tup h
    unfold tO at t
    exact .tup (k a xs h1) (dpAll_kt k t h2)
  | .dict kvs, _, _, h => by cases h
theorem dpAll_kt (k : KT K H H') : ∀ {ds : List PyData} {vs : List V}, tOs ds = true → DpAll K H vs ds → DpAll K H' vs ds
  | [], _, _, h => by rw [dpAll_nil h]; exact .nil
  | d :: ds, _, t, h => by
    obtain ⟨v, us, rfl, h1, h2⟩ := dpAll_cons h
    unfold tOs at t
    rw [Bool.and_eq_true] at t
    exact .cons (dp_kt k t.1 h1) (dpAll_kt k t.2 h2)
end
theorem tOs_ints : ∀ l : List Int, tOs (l.map PyData.int) = true
  | [] => by simp [tOs]
  | a :: l => by simp [tOs, tO, tOs_ints l]
theorem tOs_all : ∀ {ds : List PyData}, (∀ d ∈ ds, tO d = true) → tOs ds = true
  | [], _ => by simp [tOs]
  | d :: ds, h => by
    unfold tOs
    rw [h d List.mem_cons_self, tOs_all fun e he => h e (List.mem_cons_of_mem _ he)]
    rfl
theorem tOs_get : ∀ {ds : List PyData} {d : PyData}, tOs ds = true → d ∈ ds → tO d = true
  | [], _, _, h => by cases h
  | e :: ds, d, t, h => by
    unfold tOs at t
    rw [Bool.and_eq_true] at t
    rcases List.mem_cons.mp h with rfl | h
    · exact t.1
    · exact tOs_get t.2 h
theorem tOs_take {ds : List PyData} (n : Nat) (t : tOs ds = true) : tOs (ds.take n) = true := tOs_all fun _ h => tOs_get t (List.mem_of_mem_take h)
/-- rows, tables -/
def dR (l : List Int) : PyData := .tuple (l.map PyData.int)
def dT (t : List (List Int)) : PyData := .tuple (t.map dR)
theorem tO_R (l : List Int) : tO (dR l) = true := by unfold dR tO; exact tOs_ints l
theorem tO_T (t : List (List Int)) : tO (dT t) = true := by
  unfold dT tO
  exact tOs_all fun d h => by
    obtain ⟨l, _, rfl⟩ := List.mem_map.mp h
    exact tO_R l
theorem dp_R {v : V} {l : List Int} (h : Dp K H v (dR l)) : ∃ a, v = .ref a ∧ SqT K H a (l.map V.int) := by
  obtain ⟨a, xs, rfl, h1, h2⟩ := dp_tup h
  rw [dpAll_intsV h2] at h1
  exact ⟨a, rfl, h1⟩
theorem dp_ofR {a : Addr} {l : List Int} (h : SqT K H a (l.map V.int)) : Dp K H (.ref a) (dR l) := .tup h (dpAll_ints l)
end
/-! ## readings that give data -/
def EvP (te : TE) (σ : L2.St) (H : Hp) (P : V → Hp → Prop) : Prop := ∀ H1, Ex H H1 → ∀ Q : VK, (∀ v H2, Ex H1 H2 → P v H2 → Q v H2) → te σ H1 Q
abbrev EvD (K : PySem.W.Frag) (te : TE) (σ : L2.St) (H : Hp) (d : PyData) : Prop := EvP te σ H fun v H2 => Dp K H2 v d
/-- a new list of data -/
def EvN (K : PySem.W.Frag) (te : TE) (σ : L2.St) (H : Hp) (ds : List PyData) : Prop := ∀ H1, Ex H H1 → ∀ Q : VK, (∀ p xs H2, H1 p = none → Ex H1 H2 → H2 p = some (.lst xs) → DpAll K H2 xs ds → Q (.ref p) H2) → te σ H1 Q
def EvAP (ta : TA) (σ : L2.St) (H : Hp) (P : List V → Hp → Prop) : Prop := ∀ H1, Ex H H1 → ∀ Q : List V → Hp → Prop, (∀ vs H2, Ex H1 H2 → P vs H2 → Q vs H2) → ta σ H1 Q
abbrev EvAD (K : PySem.W.Frag) (ta : TA) (σ : L2.St) (H : Hp) (ds : List PyData) : Prop := EvAP ta σ H fun vs H2 => DpAll K H2 vs ds
def RP (r : R2) (x y : V) (H : Hp) (P : V → Hp → Prop) : Prop := ∀ Q : VK, (∀ v H2, Ex H H2 → P v H2 → Q v H2) → r x y H Q
section
variable {K : PySem.W.Frag} {σ : L2.St} {H H' : Hp} {ta tb te tx : TE} {t u : TT} {x y z v : V} {r : R2} {P P' P'' : V → Hp → Prop} {d e : PyData} {ds es : List PyData}
theorem EvP.mono (e : Ex H H') (h : EvP te σ H P) : EvP te σ H' P := fun H1 a Q q => h H1 (e.trans a) Q q
theorem EvN.mono (e : Ex H H') (h : EvN K te σ H ds) : EvN K te σ H' ds := fun H1 a Q q => h H1 (e.trans a) Q q
theorem EvAP.mono {ta : TA} {P : List V → Hp → Prop} (e : Ex H H') (h : EvAP ta σ H P) : EvAP ta σ H' P := fun H1 a Q q => h H1 (e.trans a) Q q
theorem EvP.imp (h : EvP te σ H P) (f : ∀ v H2, Ex H H2 → P v H2 → P' v H2) : EvP te σ H P' := fun H1 a Q q => h H1 a Q fun v H2 e2 p => q v H2 e2 (f v H2 (a.trans e2) p)
theorem p_ev (h : Ev te σ H v) (hp : ∀ H1, Ex H H1 → P v H1) : EvP te σ H P := fun H1 a Q q => h H1 a Q fun H2 e2 => q v H2 e2 (hp H2 (a.trans e2))
theorem d_ev (h : Ev te σ H v) (hp : Dp K H v d) : EvD K te σ H d := p_ev h fun _ e => dp_ex e hp
theorem d_int {i : Int} (h : Ev te σ H (.int i)) : EvD K te σ H (.int i) := d_ev h (.int i)
theorem ev_int {i : Int} (h : EvD K te σ H (.int i)) : Ev te σ H (.int i) := fun H1 a Q q => h H1 a Q fun v H2 e2 p => by
  rw [dp_int p]
  exact q H2 e2
theorem ev_bool {b : Bool} (h : EvD K te σ H (.bool b)) : Ev te σ H (.bl b) := fun H1 a Q q => h H1 a Q fun v H2 e2 p => by
  rw [dp_bool p]
  exact q H2 e2
theorem d_var {i : Nat} (h : σ[i]? = some (some v)) (hp : Dp K H v d) : EvD K (tVar i) σ H d := d_ev (ev_var h) hp
theorem d_cast (h : EvD K te σ H d) (q : d = e) : EvD K te σ H e := q ▸ h
theorem n_cast (h : EvN K te σ H ds) (q : ds = es) : EvN K te σ H es := q ▸ h
theorem d_ofN (h : EvN K te σ H ds) : EvD K te σ H (.list ds) := fun H1 a Q q => h H1 a Q fun p xs H2 _ e2 hp hd => q _ H2 e2 (.lst (sq_of hp) hd)
theorem p_op (ha : EvP ta σ H P) (hb : EvP tb σ H P') (hr : ∀ x y H1 H2, Ex H H1 → P x H1 → Ex H1 H2 → P' y H2 → RP r x y H2 P'') : EvP (tOp r ta tb) σ H P'' := fun H1 e Q q =>
  ha H1 e _ fun x H2 e2 px => hb H2 (e.trans e2) _ fun y H3 e3 py => hr x y H2 H3 (e.trans e2) px e3 py Q fun z H4 e4 pz => q z H4 ((e2.trans e3).trans e4) pz
/-! arguments -/
theorem a_nil : EvAD K tNil σ H [] := fun H1 _ _ q => q [] H1 (Ex.refl H1) .nil
theorem a_cons {tr : TA} (h : EvD K ta σ H d) (hr : EvAD K tr σ H ds) : EvAD K (tCons ta tr) σ H (d :: ds) := fun H1 e _ q =>
  h H1 e _ fun v H2 e2 p => hr H2 (e.trans e2) _ fun vs H3 e3 ps => q _ H3 (e2.trans e3) (.cons (dp_ex e3 p) ps)
theorem a_consV {tr : TA} {Pr : List V → Hp → Prop} (h : Ev ta σ H v) (hr : EvAP tr σ H Pr) : EvAP (tCons ta tr) σ H (fun vs H2 => ∃ us, vs = v :: us ∧ Pr us H2) := fun H1 e _ q =>
  h H1 e _ fun H2 e2 => hr H2 (e.trans e2) _ fun vs H3 e3 ps => q _ H3 (e2.trans e3) ⟨vs, rfl, ps⟩
theorem a_ints {ta : TA} {vs : List V} (h : EvA ta σ H vs) (hd : DpAll K H vs ds) : EvAD K ta σ H ds := fun H1 e Q q => h H1 e Q fun H2 e2 => q vs H2 e2 (dpAll_ex (e.trans e2) hd)
theorem d_tup {ta : TA} (h : EvAD K ta σ H ds) (hl : ds.length ≤ 100000) : EvD K (tTup ta) σ H (.tuple ds) := fun H1 e _ q =>
  h H1 e _ fun vs H2 e2 ps => ⟨by rw [dpAll_len ps]; exact sz_of hl, fun p hp => q _ _ (e2.trans (Ex.new hp)) (.tup (st_of upd_same) (dpAll_ex (Ex.new hp) ps))⟩
theorem n_lst {ta : TA} (h : EvAD K ta σ H ds) (hl : ds.length ≤ 100000) : EvN K (tLst ta) σ H ds := fun H1 e _ q =>
  h H1 e _ fun vs H2 e2 ps => ⟨by rw [dpAll_len ps]; exact sz_of hl, fun p hp => q p vs _ (fresh_back e2 hp) (e2.trans (Ex.new hp)) upd_same (dpAll_ex (Ex.new hp) ps)⟩
/-! items -/
theorem atI_dp {xs : List V} {i : Int} (h : DpAll K H xs ds) (ha : atI ds i = some d) : ∃ x, atI xs i = some x ∧ Dp K H x d := by
  unfold atI at ha ⊢
  rw [dpAll_len h]
  cases e : ixN ds.length i with
  | none => rw [e] at ha; cases ha
  | some j =>
    rw [e] at ha
    exact dpAll_get h (show ds[j]? = some d from ha)
theorem d_ixT {i : Int} (h : EvD K ta σ H (.tuple ds)) (hi : Ev tb σ H (.int i)) (ha : atI ds i = some d) : EvD K (tOp (rIxT K) ta tb) σ H d := fun H1 e Q q =>
  h H1 e _ fun v H2 e2 p => hi H2 (e.trans e2) _ fun H3 e3 => by
    obtain ⟨a, xs, rfl, h1, h2⟩ := dp_tup p
    obtain ⟨y, hy, py⟩ := atI_dp h2 ha
    exact ⟨a, xs, i, y, rfl, rfl, ex_t e3 h1, hy, q y H3 (e2.trans e3) (dp_ex e3 py)⟩
theorem d_ixL {i : Int} (h : EvD K ta σ H (.list ds)) (hi : Ev tb σ H (.int i)) (ha : atI ds i = some d) : EvD K (tOp (rIxL K) ta tb) σ H d := fun H1 e Q q =>
  h H1 e _ fun v H2 e2 p => hi H2 (e.trans e2) _ fun H3 e3 => by
    obtain ⟨a, xs, rfl, h1, h2⟩ := dp_lst p
    obtain ⟨y, hy, py⟩ := atI_dp h2 ha
    exact ⟨a, xs, i, y, rfl, rfl, ex_l e3 h1, hy, q y H3 (e2.trans e3) (dp_ex e3 py)⟩
theorem d_ixS {i : Int} (h : EvD K ta σ H d ) (hd : d = .tuple ds ∨ d = .list ds) (hi : Ev tb σ H (.int i)) (ha : atI ds i = some e) : EvD K (tOp (rIx K) ta tb) σ H e := fun H1 e0 Q q =>
  h H1 e0 _ fun v H2 e2 p => hi H2 (e0.trans e2) _ fun H3 e3 => by
    rcases hd with rfl | rfl
    · obtain ⟨a, xs, rfl, h1, h2⟩ := dp_tup p
      obtain ⟨y, hy, py⟩ := atI_dp h2 ha
      exact .inr (.inl ⟨a, xs, i, y, rfl, rfl, ex_t e3 h1, hy, q y H3 (e2.trans e3) (dp_ex e3 py)⟩)
    · obtain ⟨a, xs, rfl, h1, h2⟩ := dp_lst p
      obtain ⟨y, hy, py⟩ := atI_dp h2 ha
      exact .inl ⟨a, xs, i, y, rfl, rfl, ex_l e3 h1, hy, q y H3 (e2.trans e3) (dp_ex e3 py)⟩
/-! calls of built-ins -/
theorem ev_lenD (ha : EvD K ta σ H d) (hd : d = .tuple ds ∨ d = .list ds) : Ev (tCB (rLenS K) (tCons ta tNil)) σ H (.int (ds.length : Int)) := fun H1 e Q q =>
  ha H1 e _ fun v H2 e2 p => by
    rcases hd with rfl | rfl
    · obtain ⟨a, xs, rfl, h1, h2⟩ := dp_tup p
      refine ⟨a, xs, rfl, .inr h1, ?_⟩
      rw [dpAll_len h2]
      exact q H2 e2
    · obtain ⟨a, xs, rfl, h1, h2⟩ := dp_lst p
      refine ⟨a, xs, rfl, .inl h1, ?_⟩
      rw [dpAll_len h2]
      exact q H2 e2
theorem n_list (ha : EvD K ta σ H d) (hd : d = .tuple ds ∨ d = .list ds) : EvN K (tCB (rListS K) (tCons ta tNil)) σ H ds := fun H1 e Q q =>
  ha H1 e _ fun v H2 e2 p => by
    rcases hd with rfl | rfl
    · obtain ⟨a, xs, rfl, h1, h2⟩ := dp_tup p
      exact ⟨a, xs, rfl, .inr h1, fun l hl => q l xs _ (fresh_back e2 hl) (e2.trans (Ex.new hl)) upd_same (dpAll_ex (Ex.new hl) h2)⟩
    · obtain ⟨a, xs, rfl, h1, h2⟩ := dp_lst p
      exact ⟨a, xs, rfl, .inl h1, fun l hl => q l xs _ (fresh_back e2 hl) (e2.trans (Ex.new hl)) upd_same (dpAll_ex (Ex.new hl) h2)⟩
def rTupleS (K : PySem.W.Frag) : List V → Hp → VK → Prop := fun xs H Q => ∃ p ys, xs = [.ref p] ∧ ((SqL K H p ys ∧ ∀ l, H l = none → Q (.ref l) (upd H l (.tup ys))) ∨ (SqT K H p ys ∧ Q (.ref p) H))
theorem d_tuple (ha : EvD K ta σ H d) (hd : d = .tuple ds ∨ d = .list ds) : EvD K (tCB (rTupleS K) (tCons ta tNil)) σ H (.tuple ds) := fun H1 e Q q =>
  ha H1 e _ fun v H2 e2 p => by
    rcases hd with rfl | rfl
    · obtain ⟨a, xs, rfl, h1, h2⟩ := dp_tup p
      exact ⟨a, xs, rfl, .inr ⟨h1, q _ H2 e2 (.tup h1 h2)⟩⟩
    · obtain ⟨a, xs, rfl, h1, h2⟩ := dp_lst p
      exact ⟨a, xs, rfl, .inl ⟨h1, fun l hl => q _ _ (e2.trans (Ex.new hl)) (.tup (st_of upd_same) (dpAll_ex (Ex.new hl) h2))⟩⟩
/-! slices -/
def cutD (xs : List PyData) (lo hi : Option Int) : List PyData := (xs.drop (HT.sIx xs.length 0 lo)).take (HT.sIx xs.length xs.length hi - HT.sIx xs.length 0 lo)
theorem cut_dp {xs : List V} (h : DpAll K H xs ds) (lo hi : Option Int) : DpAll K H (cutV xs lo hi) (cutD ds lo hi) := by
  unfold cutV cutD
  rw [dpAll_len h]
  exact dpAll_take _ (dpAll_drop _ h)
theorem n_slL {tl th : TO} {lo hi : Option Int} (h : EvD K te σ H (.list ds)) (h1 : EvO tl σ H lo) (h2 : EvO th σ H hi) : EvN K (tSl (rSlL K) te tl th) σ H (cutD ds lo hi) := fun H1 e _ q =>
  h H1 e _ fun v H2 e2 p => h1 H2 (e.trans e2) _ fun H3 e3 => h2 H3 ((e.trans e2).trans e3) _ fun H4 e4 => by
    obtain ⟨a, xs, rfl, g1, g2⟩ := dp_lst p
    exact ⟨a, xs, rfl, ex_l (e3.trans e4) g1, fun p hp => q p _ _ (fresh_back ((e2.trans e3).trans e4) hp) (((e2.trans e3).trans e4).trans (Ex.new hp)) upd_same (cut_dp (dpAll_ex ((e3.trans e4).trans (Ex.new hp)) g2) lo hi)⟩
theorem n_revL (h : EvD K te σ H (.list ds)) : EvN K (tRevL K te) σ H ds.reverse := fun H1 e _ q =>
  h H1 e _ fun v H2 e2 p => by
    obtain ⟨a, xs, rfl, g1, g2⟩ := dp_lst p
    have key : ∀ {xs : List V} {ds : List PyData}, DpAll K H2 xs ds → DpAll K H2 xs.reverse ds.reverse := by
      intro xs ds
      induction ds generalizing xs with
      | nil => intro h; rw [dpAll_nil h]; exact .nil
      | cons d ds ih =>
        intro h
        obtain ⟨v, us, rfl, k1, k2⟩ := dpAll_cons h
        rw [List.reverse_cons, List.reverse_cons]
        exact dpAll_app (ih k2) (.cons k1 .nil)
    exact ⟨a, xs, rfl, g1, fun p hp => q p _ _ (fresh_back e2 hp) (e2.trans (Ex.new hp)) upd_same (dpAll_ex (Ex.new hp) (key g2))⟩
/-- t[lo:hi] of a tuple -/
theorem d_slT {tl th : TO} {lo hi : Option Int} (h : EvD K te σ H (.tuple ds)) (h1 : EvO tl σ H lo) (h2 : EvO th σ H hi) : EvD K (tSl (rSlA K) te tl th) σ H (.tuple (cutD ds lo hi)) := fun H1 e _ q =>
  h H1 e _ fun v H2 e2 p => h1 H2 (e.trans e2) _ fun H3 e3 => h2 H3 ((e.trans e2).trans e3) _ fun H4 e4 => by
    obtain ⟨a, xs, rfl, g1, g2⟩ := dp_tup p
    have g3 := dpAll_ex (e3.trans e4) g2
    have g4 := ex_t (e3.trans e4) g1
    refine ⟨a, xs, rfl, g4, fun w => ?_, fun _ p hp => q _ _ (((e2.trans e3).trans e4).trans (Ex.new hp)) (.tup (st_of upd_same) (dpAll_ex (Ex.new hp) (cut_dp g3 lo hi)))⟩
    have ew : cutD ds lo hi = ds := by
      unfold cutD
      rw [← dpAll_len g3, w.1, w.2, Nat.sub_zero, List.drop_zero, dpAll_len g3, List.take_length]
    rw [ew] at q
    exact q _ _ ((e2.trans e3).trans e4) (.tup g4 g3)
/-- t + u of tuples -/
theorem d_catT (h : EvD K ta σ H (.tuple ds)) (h' : EvD K tb σ H (.tuple es)) (hz : ds.length + es.length ≤ 100000) : EvD K (tOp (rCatA K) ta tb) σ H (.tuple (ds ++ es)) := fun H1 e Q q =>
  h H1 e _ fun x H2 e2 p => h' H2 (e.trans e2) _ fun y H3 e3 p' => by
    obtain ⟨a, xs, rfl, g1, g2⟩ := dp_tup p
    obtain ⟨b, ys, rfl, k1, k2⟩ := dp_tup p'
    have g3 := ex_t e3 g1
    have g4 := dpAll_ex e3 g2
    refine ⟨a, b, xs, ys, rfl, rfl, g3, k1, ?_, fun z => ?_, fun _ z => ?_, fun _ _ p hp => ?_⟩
    · rw [dpAll_len g4, dpAll_len k2]
      exact sz_of hz
    · have ez : ds = [] := by
        rw [z] at g4
        cases ds with
        | nil => rfl
        | cons => cases g4
      rw [ez] at q
      exact q _ _ (e2.trans e3) (.tup k1 k2)
    · have ez : es = [] := by
        rw [z] at k2
        cases es with
        | nil => rfl
        | cons => cases k2
      rw [ez, List.append_nil] at q
      exact q _ _ (e2.trans e3) (.tup g3 g4)
    · exact q _ _ ((e2.trans e3).trans (Ex.new hp)) (.tup (st_of upd_same) (dpAll_ex (Ex.new hp) (dpAll_app g4 k2)))
/-- xs + ys of two new lists -/
theorem n_cat (h : EvN K ta σ H ds) (h' : EvN K tb σ H es) (hz : ds.length + es.length ≤ 100000) : EvN K (tOp rCat ta tb) σ H (ds ++ es) := fun H1 e Q q =>
  h H1 e _ fun a xs H2 na e2 ha g => h' H2 (e.trans e2) _ fun b ys H3 nb e3 hb k =>
    ⟨a, b, xs, ys, rfl, rfl, e3 a _ ha, hb, by rw [dpAll_len g, dpAll_len k]; exact sz_of hz, fun p hp => q p _ _ (fresh_back (e2.trans e3) hp) ((e2.trans e3).trans (Ex.new hp)) upd_same (dpAll_ex (Ex.new hp) (dpAll_app (dpAll_ex e3 g) k))⟩
/-- [x] * n -/
theorem n_rep {n : Nat} (h : EvN K ta σ H [d]) (h' : Ev tb σ H (.int (n : Int))) (hz : n ≤ 100000) : EvN K (tOp rRep ta tb) σ H (List.replicate n d) := fun H1 e Q q =>
  h H1 e _ fun a xs H2 na e2 ha g => h' H2 (e.trans e2) _ fun H3 e3 => by
    obtain ⟨x, rfl, px⟩ := dpAll_one g
    have key : ∀ m : Nat, (List.replicate m [x]).flatten = List.replicate m x := fun m => by
      induction m with
      | zero => rfl
      | succ m ih => rw [List.replicate_succ, List.flatten_cons, ih]; rfl
    refine ⟨a, (n : Int), [x], rfl, rfl, e3 a _ ha, by omega, by omega, ?_, ?_⟩
    · show 1 * _ ≤ _
      rw [Nat.one_mul, Int.toNat_natCast]
      exact sz_of hz
    · intro p hp
      rw [Int.toNat_natCast, key]
      refine q p _ _ (fresh_back (e2.trans e3) hp) ((e2.trans e3).trans (Ex.new hp)) upd_same ?_
      exact dpAll_rep (dp_ex (e3.trans (Ex.new hp)) px) n
end
end K41
set_option Elab.async false
set_option linter.all false
set_option maxRecDepth 100000
set_option maxHeartbeats 4000000
namespace K41
open PySem PySem.Spec PyProof.Rows L2 Evl
/-! ## promises -/
/-- called with vs at H as pre says (and the datum d with them): hands back d, all that stood stands -/
def spG (pre : List V → Hp → PyData → Prop) (K : PySem.W.Frag) : Sp := fun vs H Q _ => ∃ d, pre vs H d ∧ ∀ v H2, Ex H H2 → Dp K H2 v d → Q v H2
/-- the same, a new list -/
def spN (pre : List V → Hp → List PyData → Prop) (K : PySem.W.Frag) : Sp := fun vs H Q _ => ∃ ds, pre vs H ds ∧ ∀ p xs H2, H p = none → Ex H H2 → H2 p = some (.lst xs) → DpAll K H2 xs ds → Q (.ref p) H2
/-- by data alone -/
def onD (K : PySem.W.Frag) {α : Type} (dom : List PyData → α → Prop) : List V → Hp → α → Prop := fun vs H d => ∃ ds, dom ds d ∧ DpAll K H vs ds
/-- .. hands back some datum of R -/
def spR (pre : List V → Hp → (PyData → Prop) → Prop) (K : PySem.W.Frag) : Sp := fun vs H Q _ => ∃ R, pre vs H R ∧ ∀ v d H2, Ex H H2 → R d → Dp K H2 v d → Q v H2
abbrev EvR (K : PySem.W.Frag) (te : TE) (σ : L2.St) (H : Hp) (R : PyData → Prop) : Prop := EvP te σ H fun v H2 => ∃ d, R d ∧ Dp K H2 v d
section
variable {K : PySem.W.Frag} {σ : L2.St} {H H' : Hp} {ta tb te tx : TE} {t u : TT} {x y z v : V} {r : R2} {P P' : V → Hp → Prop} {d e : PyData} {ds es : List PyData}
theorem r_call {ta : TA} {dom : List PyData → (PyData → Prop) → Prop} {E : XK} {R : PyData → Prop} (h : EvAD K ta σ H es) (hd : dom es R) : EvR K (tCall (spR (onD K dom) K) [] E ta) σ H R := fun H1 e Q q =>
  h H1 e _ fun vs H2 e2 p => by
    show spR (onD K dom) K (vs ++ []) H2 Q E
    rw [List.append_nil]
    exact ⟨R, ⟨es, hd, p⟩, fun v d H3 e3 hr pv => q v H3 (e2.trans e3) ⟨d, hr, pv⟩⟩
theorem d_callG {ta : TA} {Pa : List V → Hp → Prop} {pre : List V → Hp → PyData → Prop} {E : XK} (h : EvAP ta σ H Pa) (hp : ∀ vs H2, Ex H H2 → Pa vs H2 → pre vs H2 d) : EvD K (tCall (spG pre K) [] E ta) σ H d := fun H1 e Q q =>
  h H1 e _ fun vs H2 e2 p => by
    show spG pre K (vs ++ []) H2 Q E
    rw [List.append_nil]
    exact ⟨d, hp vs H2 (e.trans e2) p, fun v H3 e3 pv => q v H3 (e2.trans e3) pv⟩
theorem n_callG {ta : TA} {Pa : List V → Hp → Prop} {pre : List V → Hp → List PyData → Prop} {E : XK} (h : EvAP ta σ H Pa) (hp : ∀ vs H2, Ex H H2 → Pa vs H2 → pre vs H2 ds) : EvN K (tCall (spN pre K) [] E ta) σ H ds := fun H1 e Q q =>
  h H1 e _ fun vs H2 e2 p => by
    show spN pre K (vs ++ []) H2 Q E
    rw [List.append_nil]
    exact ⟨ds, hp vs H2 (e.trans e2) p, fun l xs H3 nl e3 hl pv => q l xs H3 (fresh_back e2 nl) (e2.trans e3) hl pv⟩
theorem d_call {ta : TA} {dom : List PyData → PyData → Prop} {E : XK} (h : EvAD K ta σ H es) (hd : dom es d) : EvD K (tCall (spG (onD K dom) K) [] E ta) σ H d := d_callG h fun _ _ _ p => ⟨es, hd, p⟩
theorem n_call {ta : TA} {dom : List PyData → List PyData → Prop} {E : XK} (h : EvAD K ta σ H es) (hd : dom es ds) : EvN K (tCall (spN (onD K dom) K) [] E ta) σ H ds := n_callG h fun _ _ _ p => ⟨es, hd, p⟩
/-! ## statements -/
variable {D : Ends} {tu tw tz : TS} {g : TG}
theorem s_asgD {i : Nat} (h : EvP te σ H P) (k : ∀ v H1, Ex H H1 → P v H1 → D.nx (σ.set i (some v)) H1) : tAsg te (gName i) D σ H := h H (Ex.refl H) _ fun v H1 e p => k v H1 e p
theorem q_asgD {i : Nat} (h : EvP te σ H P) (k : ∀ v H1, Ex H H1 → P v H1 → tz D (σ.set i (some v)) H1) : tSeq (tAsg te (gName i)) tz D σ H := s_asgD (D := { D with nx := tz D }) h k
theorem s_asgN {i : Nat} (h : EvN K te σ H ds) (k : ∀ p xs H1, H p = none → Ex H H1 → H1 p = some (.lst xs) → DpAll K H1 xs ds → D.nx (σ.set i (some (.ref p))) H1) : tAsg te (gName i) D σ H := h H (Ex.refl H) _ fun p xs H1 n e hp hd => k p xs H1 n e hp hd
theorem q_asgN {i : Nat} (h : EvN K te σ H ds) (k : ∀ p xs H1, H p = none → Ex H H1 → H1 p = some (.lst xs) → DpAll K H1 xs ds → tz D (σ.set i (some (.ref p))) H1) : tSeq (tAsg te (gName i)) tz D σ H := s_asgN (D := { D with nx := tz D }) h k
theorem s_retD (h : EvP te σ H P) (k : ∀ v H1, Ex H H1 → P v H1 → D.rt v H1) : tRet te D σ H := h H (Ex.refl H) _ k
theorem s_retN (h : EvN K te σ H ds) (k : ∀ p xs H1, H p = none → Ex H H1 → H1 p = some (.lst xs) → DpAll K H1 xs ds → D.rt (.ref p) H1) : tRet te D σ H := h H (Ex.refl H) _ k
theorem q_asgP {g : TG} (h : EvP te σ H P) (k : ∀ v H1, Ex H H1 → P v H1 → g v σ H1 (tz D)) : tSeq (tAsg te g) tz D σ H := h H (Ex.refl H) _ k
theorem s_asgP {g : TG} (h : EvP te σ H P) (k : ∀ v H1, Ex H H1 → P v H1 → g v σ H1 D.nx) : tAsg te g D σ H := h H (Ex.refl H) _ k
/-- xs.append(e), e any datum -/
theorem s_appD {l : Addr} {xs : List V} (hl : H l = some (.lst xs)) (ha : Ev ta σ H (.ref l)) (h : EvP te σ H P) (hz : xs.length < 100000) (k : ∀ v H1, Ex H H1 → P v H1 → D.nx σ (upd H1 l (.lst (xs ++ [v])))) :
    tDrop (tBM K "list" rAppend ta (tCons te tNil)) D σ H := ha H (Ex.refl H) _ fun H1 e1 =>
  ⟨Or.inl ⟨rfl, xs, sq_of (e1 l _ hl)⟩, h H1 e1 _ fun v H2 e2 p => ⟨l, xs, v, rfl, rfl, e2 l _ (e1 l _ hl), sz_lt hz, k v H2 (e1.trans e2) p⟩⟩
theorem q_appD {l : Addr} {xs : List V} (hl : H l = some (.lst xs)) (ha : Ev ta σ H (.ref l)) (h : EvP te σ H P) (hz : xs.length < 100000) (k : ∀ v H1, Ex H H1 → P v H1 → tz D σ (upd H1 l (.lst (xs ++ [v])))) :
    tSeq (tDrop (tBM K "list" rAppend ta (tCons te tNil))) tz D σ H := s_appD (D := { D with nx := tz D }) hl ha h hz k
theorem s_par {i j : Nat} {ta : TA} (h : EvA ta σ H [x, y]) (k : ∀ H1, Ex H H1 → D.nx ((σ.set i (some x)).set j (some y)) H1) : tPar i j ta D σ H := h H (Ex.refl H) _ fun H1 e => ⟨x, y, rfl, k H1 e⟩
theorem q_par {i j : Nat} {ta : TA} (h : EvA ta σ H [x, y]) (k : ∀ H1, Ex H H1 → tz D ((σ.set i (some x)).set j (some y)) H1) : tSeq (tPar i j ta) tz D σ H := s_par (D := { D with nx := tz D }) h k
theorem q_ret : tSeq (tRet te) tz D σ H = tRet te D σ H := rfl
/-! ## comprehensions over what stands, the elements without lists -/
/-- the list at Dl so far -/
def Cd (K : PySem.W.Frag) (H : Hp) (es : Nat → List PyData) (Dl : Addr) (i : Nat) (H' : Hp) : Prop := H Dl = none ∧ Ex H H' ∧ ∃ acc, H' Dl = some (.lst acc) ∧ DpAll K H' acc (es i)
theorem cd_step {es : Nat → List PyData} {Dl : Addr} {i : Nat} {σ2 : L2.St} (p : Cd K H es Dl i H') (hz : (es i).length < 100000) (ht : tOs (es i) = true) {b : Bool} (hb : EvT t σ2 H b)
    (hy : b = true → ∃ d, tO d = true ∧ EvD K te σ2 H d ∧ es (i + 1) = es i ++ [d]) (hn : b = false → es (i + 1) = es i) :
    t σ2 H' fun b H3 => if b = true then te σ2 H3 fun y H4 => ∃ acc, H4 Dl = some (.lst acc) ∧ acc.length < sizeLine ∧ Cd K H es Dl (i + 1) (upd H4 Dl (.lst (acc ++ [y]))) else Cd K H es Dl (i + 1) H3 := by
  obtain ⟨p1, p2, acc, p3, p4⟩ := p
  refine hb H' p2 _ fun H3 e3 => ?_
  cases b with
  | true =>
    show te σ2 H3 fun y H4 => ∃ acc, H4 Dl = some (.lst acc) ∧ acc.length < sizeLine ∧ Cd K H es Dl (i + 1) (upd H4 Dl (.lst (acc ++ [y])))
    obtain ⟨d, td, hd, es1⟩ := hy rfl
    refine hd H3 (p2.trans e3) _ fun y H4 e4 py => ?_
    have a4 := (e3.trans e4) Dl _ p3
    refine ⟨acc, a4, by rw [dpAll_len p4]; exact sz_lt hz, p1, Ex.mut ((p2.trans e3).trans e4) p1, _, upd_same, ?_⟩
    rw [es1]
    exact dpAll_app (dpAll_kt (KT.updL a4) ht (dpAll_ex (e3.trans e4) p4)) (.cons (dp_kt (KT.updL a4) td py) .nil)
  | false =>
    show Cd K H es Dl (i + 1) H3
    refine ⟨p1, p2.trans e3, acc, e3 Dl _ p3, ?_⟩
    rw [hn rfl]
    exact dpAll_ex e3 p4
/-- over a list or a tuple that stands, the elements by place -/
theorem n_lcT {a : Addr} {xs : List V} {tl : TE} {j : Nat} {vs : List Nat} (es : Nat → List PyData) (h : Ev tl σ H (.ref a)) (hx : SqT K H a xs) (h0 : es 0 = []) (hz : ∀ i, i ≤ xs.length → (es i).length < 100000 ∧ tOs (es i) = true) (hw : ∀ x, wipe ((wipe σ vs).set j (some x)) vs = wipe σ vs)
    (ht : ∀ (i : Nat) (x : V) H1, Ex H H1 → xs[i]? = some x → ∃ b, EvT t ((wipe σ vs).set j (some x)) H1 b ∧ (b = true → ∃ d, tO d = true ∧ EvD K te ((wipe σ vs).set j (some x)) H1 d ∧ es (i + 1) = es i ++ [d]) ∧ (b = false → es (i + 1) = es i)) :
    EvN K (tLc (iTup K tl) (gName j) t te vs) σ H (es xs.length) := fun H0 e Q q => h H0 e _ fun H1 e1 => ⟨a, rfl, ⟨xs, ex_t (e.trans e1) hx⟩, fun Dl hD =>
  lc_tup (xs := xs) (Cd K H1 es Dl) ⟨hD, Ex.new hD, [], upd_same, by rw [h0]; exact .nil⟩ (fun i H' _ p => ex_t ((e.trans e1).trans p.2.1) hx) (fun i x H' hi p => by
    obtain ⟨b, hb, hy, hn⟩ := ht i x H1 (e.trans e1) hi
    have hl := (List.getElem?_eq_some_iff.mp hi).1
    have z := hz i (Nat.le_of_lt hl)
    exact ⟨hw x, cd_step p z.1 z.2 hb hy hn⟩)
    (fun H' p => by
      obtain ⟨p1, p2, acc, p3, p4⟩ := p
      exact q Dl acc H' (fresh_back e1 p1) (e1.trans p2) p3 p4)⟩
theorem n_lcL {a : Addr} {xs : List V} {tl : TE} {j : Nat} {vs : List Nat} (es : Nat → List PyData) (h : Ev tl σ H (.ref a)) (hx : SqL K H a xs) (h0 : es 0 = []) (hz : ∀ i, i ≤ xs.length → (es i).length < 100000 ∧ tOs (es i) = true) (hw : ∀ x, wipe ((wipe σ vs).set j (some x)) vs = wipe σ vs)
    (ht : ∀ (i : Nat) (x : V) H1, Ex H H1 → xs[i]? = some x → ∃ b, EvT t ((wipe σ vs).set j (some x)) H1 b ∧ (b = true → ∃ d, tO d = true ∧ EvD K te ((wipe σ vs).set j (some x)) H1 d ∧ es (i + 1) = es i ++ [d]) ∧ (b = false → es (i + 1) = es i)) :
    EvN K (tLc (iList K tl) (gName j) t te vs) σ H (es xs.length) := fun H0 e Q q => h H0 e _ fun H1 e1 => ⟨a, rfl, ⟨xs, ex_l (e.trans e1) hx⟩, fun Dl hD =>
  lc_list (xs := xs) (Cd K H1 es Dl) ⟨hD, Ex.new hD, [], upd_same, by rw [h0]; exact .nil⟩ (fun i H' _ p => ex_l ((e.trans e1).trans p.2.1) hx) (fun i x H' hi p => by
    obtain ⟨b, hb, hy, hn⟩ := ht i x H1 (e.trans e1) hi
    have hl := (List.getElem?_eq_some_iff.mp hi).1
    have z := hz i (Nat.le_of_lt hl)
    exact ⟨hw x, cd_step p z.1 z.2 hb hy hn⟩)
    (fun H' p => by
      obtain ⟨p1, p2, acc, p3, p4⟩ := p
      exact q Dl acc H' (fresh_back e1 p1) (e1.trans p2) p3 p4)⟩
/-- over a new list -/
theorem n_lcNL {xds : List PyData} {tl : TE} {j : Nat} {vs : List Nat} (es : Nat → List PyData) (h : EvN K tl σ H xds) (h0 : es 0 = []) (hz : ∀ i, i ≤ xds.length → (es i).length < 100000 ∧ tOs (es i) = true) (hw : ∀ x, wipe ((wipe σ vs).set j (some x)) vs = wipe σ vs)
    (ht : ∀ (i : Nat) (x : V) (dx : PyData) H1, Ex H H1 → xds[i]? = some dx → Dp K H1 x dx → ∃ b, EvT t ((wipe σ vs).set j (some x)) H1 b ∧ (b = true → ∃ d, tO d = true ∧ EvD K te ((wipe σ vs).set j (some x)) H1 d ∧ es (i + 1) = es i ++ [d]) ∧ (b = false → es (i + 1) = es i)) :
    EvN K (tLc (iList K tl) (gName j) t te vs) σ H (es xds.length) := fun H0 e Q q => h H0 e _ fun a xs H1 na e1 ha hd => ⟨a, rfl, ⟨xs, sq_of ha⟩, fun Dl hD => by
  have hlen := dpAll_len hd
  rw [← hlen] at hz
  have r := lc_list (K := K) (g := gName j) (tt := t) (te := te) (vs := vs) (σ := σ) (D := Dl) (Qd := fun H' => Q (.ref Dl) H') (xs := xs) (Cd K H1 es Dl) ⟨hD, Ex.new hD, [], upd_same, by rw [h0]; exact .nil⟩ (fun i H' _ p => sq_of (p.2.1 a _ ha)) (fun i x H' hi p => by
    obtain ⟨dx, hdx, pdx⟩ := dpAll_get' hd hi
    obtain ⟨b, hb, hy, hn⟩ := ht i x dx H1 (e.trans e1) hdx pdx
    have hl := (List.getElem?_eq_some_iff.mp hi).1
    have z := hz i (Nat.le_of_lt hl)
    exact ⟨hw x, cd_step p z.1 z.2 hb hy hn⟩)
    (fun H' p => by
      obtain ⟨p1, p2, acc, p3, p4⟩ := p
      rw [hlen] at p4
      exact q Dl acc H' (fresh_back e1 p1) (e1.trans p2) p3 p4)
  exact r⟩
/-- over a tuple that is reckoned -/
theorem n_lcTD {xds : List PyData} {tl : TE} {j : Nat} {vs : List Nat} (es : Nat → List PyData) (h : EvD K tl σ H (.tuple xds)) (h0 : es 0 = []) (hz : ∀ i, i ≤ xds.length → (es i).length < 100000 ∧ tOs (es i) = true) (hw : ∀ x, wipe ((wipe σ vs).set j (some x)) vs = wipe σ vs)
    (ht : ∀ (i : Nat) (x : V) (dx : PyData) H1, Ex H H1 → xds[i]? = some dx → Dp K H1 x dx → ∃ b, EvT t ((wipe σ vs).set j (some x)) H1 b ∧ (b = true → ∃ d, tO d = true ∧ EvD K te ((wipe σ vs).set j (some x)) H1 d ∧ es (i + 1) = es i ++ [d]) ∧ (b = false → es (i + 1) = es i)) :
    EvN K (tLc (iTup K tl) (gName j) t te vs) σ H (es xds.length) := fun H0 e Q q => h H0 e _ fun v H1 e1 pv => by
  obtain ⟨a, xs, rfl, ha, hd⟩ := dp_tup pv
  refine ⟨a, rfl, ⟨xs, ha⟩, fun Dl hD => ?_⟩
  have hlen := dpAll_len hd
  rw [← hlen] at hz
  have r := lc_tup (K := K) (g := gName j) (tt := t) (te := te) (vs := vs) (σ := σ) (D := Dl) (Qd := fun H' => Q (.ref Dl) H') (xs := xs) (Cd K H1 es Dl) ⟨hD, Ex.new hD, [], upd_same, by rw [h0]; exact .nil⟩ (fun i H' _ p => ex_t p.2.1 ha) (fun i x H' hi p => by
    obtain ⟨dx, hdx, pdx⟩ := dpAll_get' hd hi
    obtain ⟨b, hb, hy, hn⟩ := ht i x dx H1 (e.trans e1) hdx pdx
    have hl := (List.getElem?_eq_some_iff.mp hi).1
    have z := hz i (Nat.le_of_lt hl)
    exact ⟨hw x, cd_step p z.1 z.2 hb hy hn⟩)
    (fun H' p => by
      obtain ⟨p1, p2, acc, p3, p4⟩ := p
      rw [hlen] at p4
      exact q Dl acc H' (fresh_back e1 p1) (e1.trans p2) p3 p4)
  exact r
/-- over range(n), range(lo, n) -/
theorem n_lcR1 {ta : TA} {j : Nat} {vs : List Nat} {n : Nat} (es : Nat → List PyData) (h : EvA ta σ H [.int (n : Int)]) (hn : n ≤ 40000) (h0 : es 0 = []) (hz : ∀ i, i ≤ n → (es i).length < 100000 ∧ tOs (es i) = true) (hw : ∀ x, wipe ((wipe σ vs).set j (some x)) vs = wipe σ vs)
    (ht : ∀ (i : Nat) H1, Ex H H1 → i < n → ∃ b, EvT t ((wipe σ vs).set j (some (.int (i : Int)))) H1 b ∧ (b = true → ∃ d, tO d = true ∧ EvD K te ((wipe σ vs).set j (some (.int (i : Int)))) H1 d ∧ es (i + 1) = es i ++ [d]) ∧ (b = false → es (i + 1) = es i)) :
    EvN K (tLc (iRng1 ta) (gName j) t te vs) σ H (es n) := fun H0 e Q q => h H0 e _ fun H1 e1 => ⟨(n : Int), rfl, by omega, by omega, fun Dl hD => by
  have r := lc_range (lo := 0) (n := n) (g := gName j) (tt := t) (te := te) (vs := vs) (σ := σ) (D := Dl) (Qd := fun H' => Q (.ref Dl) H') (Cd K H1 es Dl) ⟨hD, Ex.new hD, [], upd_same, by rw [h0]; exact .nil⟩ (fun i H' hi p => by
    obtain ⟨b, hb, hy, hn⟩ := ht i H1 (e.trans e1) hi
    have z := hz i (Nat.le_of_lt hi)
    have e0 : (0 : Int) + (i : Int) = (i : Int) := Int.zero_add _
    rw [e0]
    exact ⟨hw _, cd_step p z.1 z.2 hb hy hn⟩)
    (fun H' p => by
      obtain ⟨p1, p2, acc, p3, p4⟩ := p
      exact q Dl acc H' (fresh_back e1 p1) (e1.trans p2) p3 p4)
  rw [Int.toNat_natCast]
  exact r⟩
theorem n_lcR2 {ta : TA} {j : Nat} {vs : List Nat} {lo hi : Int} (es : Nat → List PyData) (h : EvA ta σ H [.int lo, .int hi]) (hn : 0 ≤ lo ∧ hi ≤ 40000 ∧ lo ≤ hi) (h0 : es 0 = []) (hz : ∀ i, i ≤ (hi - lo).toNat → (es i).length < 100000 ∧ tOs (es i) = true) (hw : ∀ x, wipe ((wipe σ vs).set j (some x)) vs = wipe σ vs)
    (ht : ∀ (i : Nat) H1, Ex H H1 → i < (hi - lo).toNat → ∃ b, EvT t ((wipe σ vs).set j (some (.int (lo + (i : Int))))) H1 b ∧ (b = true → ∃ d, tO d = true ∧ EvD K te ((wipe σ vs).set j (some (.int (lo + (i : Int))))) H1 d ∧ es (i + 1) = es i ++ [d]) ∧ (b = false → es (i + 1) = es i)) :
    EvN K (tLc (iRng2 ta) (gName j) t te vs) σ H (es (hi - lo).toNat) := fun H0 e Q q => h H0 e _ fun H1 e1 => ⟨lo, hi, rfl, ⟨by omega, by omega, by omega, by omega⟩, fun Dl hD =>
  lc_range (lo := lo) (n := (hi - lo).toNat) (Cd K H1 es Dl) ⟨hD, Ex.new hD, [], upd_same, by rw [h0]; exact .nil⟩ (fun i H' hi p => by
    obtain ⟨b, hb, hy, hn⟩ := ht i H1 (e.trans e1) hi
    have z := hz i (Nat.le_of_lt hi)
    exact ⟨hw _, cd_step p z.1 z.2 hb hy hn⟩)
    (fun H' p => by
      obtain ⟨p1, p2, acc, p3, p4⟩ := p
      exact q Dl acc H' (fresh_back e1 p1) (e1.trans p2) p3 p4)⟩
/-- no test at a comprehension -/
theorem t_yes : EvT tYes σ H true := fun H1 e Q q => q H1 (Ex.refl H1)
/-- min, all of a new list -/
theorem ev_minN {ns : List Int} {m : Int} (h : EvN K ta σ H (ns.map PyData.int)) (hl : 0 < ns.length) (hm : ∀ m', m' ∈ ns → (∀ y, y ∈ ns → m' ≤ y) → m' = m) : Ev (tCB (rMin K) (tCons ta tNil)) σ H (.int m) := fun H1 e Q q =>
  h H1 e _ fun p xs H2 _ e2 hp hd => by
    rw [dpAll_intsV hd] at hp
    exact ⟨p, ns, rfl, sq_of hp, hl, fun m' h1 h2 => by rw [hm m' h1 h2]; exact q H2 e2⟩
theorem dpAll_boolsV : ∀ {l : List Bool} {vs : List V}, DpAll K H vs (l.map PyData.bool) → vs = l.map V.bl
  | [], _, h => dpAll_nil h
  | a :: l, _, h => by
    obtain ⟨v, us, rfl, h1, h2⟩ := dpAll_cons (show DpAll K H _ (PyData.bool a :: l.map PyData.bool) from h)
    rw [dp_bool h1, dpAll_boolsV h2]
    rfl
theorem ev_allN {bs : List Bool} (h : EvN K ta σ H (bs.map PyData.bool)) : Ev (tCB (rAll K) (tCons ta tNil)) σ H (.bl (bs.all id)) := fun H1 e Q q =>
  h H1 e _ fun p xs H2 _ e2 hp hd => by
    rw [dpAll_boolsV hd] at hp
    exact ⟨p, bs, rfl, sq_of hp, q H2 e2⟩
def rAbs : List V → Hp → VK → Prop := fun xs H Q => ∃ i, xs = [.int i] ∧ Q (.int (if i < 0 then -i else i)) H
theorem ev_abs {i : Int} (h : Ev ta σ H (.int i)) : Ev (tCB rAbs (tCons ta tNil)) σ H (.int (i.natAbs : Int)) := fun H1 e Q q =>
  h H1 e _ fun H2 e2 => ⟨i, rfl, by
    have q' := q H2 e2
    have e : ((i.natAbs : Nat) : Int) = if i < 0 then -i else i := by split <;> omega
    rw [e] at q'
    exact q'⟩
def rMin2 : List V → Hp → VK → Prop := fun xs H Q => ∃ i j, xs = [.int i, .int j] ∧ Q (.int (if j < i then j else i)) H
theorem ev_min2 {i j : Int} (ha : Ev ta σ H (.int i)) (hb : Ev tb σ H (.int j)) : Ev (tCB rMin2 (tCons ta (tCons tb tNil))) σ H (.int (min i j)) := fun H1 e Q q =>
  ha H1 e _ fun H2 e2 => hb H2 (e.trans e2) _ fun H3 e3 => ⟨i, j, rfl, by
    have q' := q H3 (e2.trans e3)
    have e : min i j = if j < i then j else i := by split <;> omega
    rw [e] at q'
    exact q'⟩
end
end K41
set_option Elab.async false
set_option linter.all false
set_option maxRecDepth 100000
set_option maxHeartbeats 4000000
namespace K41
open PySem PySem.Spec PyProof.Rows L2 Evl
/-! ## operations by name -/
abbrev oAdd : R2 := rI0 fun i j => .int (i + j)
abbrev oSub : R2 := rI0 fun i j => .int (i - j)
abbrev oMul : R2 := rI CMul fun i j => .int (i * j)
abbrev oMulW : R2 := rI CMulW fun i j => .int (i * j)
abbrev oMod : R2 := rI (fun _ j => 0 < j) fun i j => .int (i % j)
abbrev oModN : R2 := rI (fun _ j => j ≠ 0) fun i j => .int (i.fmod j)
abbrev oDiv : R2 := rI CDiv fun i j => .int (i / j)
abbrev oDivN : R2 := rI CDivN fun i j => .int (i.fdiv j)
abbrev oDivW : R2 := rI CDivW fun i j => .int (i / j)
abbrev oPow : R2 := rI CPow fun i j => .int (i ^ j.toNat)
abbrev oLt : R2 := rI0 fun i j => .bl (decide (i < j))
abbrev oLe : R2 := rI0 fun i j => .bl (decide (i ≤ j))
abbrev oGt : R2 := rI0 fun i j => .bl (decide (j < i))
abbrev oGe : R2 := rI0 fun i j => .bl (decide (j ≤ i))
abbrev oIsN : R2 := fun x y H Q => y = .non ∧ Q (.bl (decide (x = .non))) H
abbrev oNotN : R2 := fun x y H Q => y = .non ∧ Q (.bl (!decide (x = .non))) H
abbrev uNeg : V → Hp → VK → Prop := rU fun i => .int (-i)
/-- a slice of a list or of a tuple -/
abbrev rSlS (K : PySem.W.Frag) : V → Option Int → Option Int → Hp → VK → Prop := fun x lo hi H Q => rSlL K x lo hi H Q ∨ rSlA K x lo hi H Q
section
variable {K : PySem.W.Frag} {σ : L2.St} {H : Hp} {te : TE} {ds : List PyData} {d : PyData}
theorem slA_d {v : V} {lo hi : Option Int} (p : Dp K H v (.tuple ds)) (Q : VK) (q : ∀ v' H2, Ex H H2 → Dp K H2 v' (.tuple (cutD ds lo hi)) → Q v' H2) : rSlA K v lo hi H Q := by
  obtain ⟨a, xs, rfl, g1, g2⟩ := dp_tup p
  refine ⟨a, xs, rfl, g1, fun w => ?_, fun _ p hp => q _ _ (Ex.new hp) (.tup (st_of upd_same) (dpAll_ex (Ex.new hp) (cut_dp g2 lo hi)))⟩
  have ew : cutD ds lo hi = ds := by
    unfold cutD
    rw [← dpAll_len g2, w.1, w.2, Nat.sub_zero, List.drop_zero, dpAll_len g2, List.take_length]
  rw [ew] at q
  exact q _ _ (Ex.refl H) (.tup g1 g2)
theorem slL_n {v : V} {lo hi : Option Int} (p : Dp K H v (.list ds)) (Q : VK) (q : ∀ l xs H2, H l = none → Ex H H2 → H2 l = some (.lst xs) → DpAll K H2 xs (cutD ds lo hi) → Q (.ref l) H2) : rSlL K v lo hi H Q := by
  obtain ⟨a, xs, rfl, g1, g2⟩ := dp_lst p
  exact ⟨a, xs, rfl, g1, fun p hp => q p _ _ hp (Ex.new hp) upd_same (dpAll_ex (Ex.new hp) (cut_dp g2 lo hi))⟩
theorem d_tupleSlS {tl th : TO} {lo hi : Option Int} (h : EvD K te σ H d) (hd : d = .tuple ds ∨ d = .list ds) (h1 : EvO tl σ H lo) (h2 : EvO th σ H hi) : EvD K (tCB (rTupleS K) (tCons (tSl (rSlS K) te tl th) tNil)) σ H (.tuple (cutD ds lo hi)) := fun H1 e Q q =>
  h H1 e _ fun v H2 e2 p => h1 H2 (e.trans e2) _ fun H3 e3 => h2 H3 ((e.trans e2).trans e3) _ fun H4 e4 => by
    rcases hd with rfl | rfl
    · refine .inr (slA_d (dp_ex (e3.trans e4) p) _ fun v' H5 e5 p5 => ?_)
      obtain ⟨a, xs, rfl, g1, g2⟩ := dp_tup p5
      exact ⟨a, xs, rfl, .inr ⟨g1, q _ H5 (e2.trans (e3.trans (e4.trans e5))) p5⟩⟩
    · refine .inl (slL_n (dp_ex (e3.trans e4) p) _ fun l xs H5 nl e5 hl g => ?_)
      exact ⟨l, xs, rfl, .inl ⟨sq_of hl, fun m hm => q _ _ (e2.trans (e3.trans (e4.trans (e5.trans (Ex.new hm))))) (.tup (st_of upd_same) (dpAll_ex (Ex.new hm) g))⟩⟩
/-- slices of rows -/
theorem cutD_to (l : List Int) (m : Nat) : cutD (l.map PyData.int) none (some (m : Int)) = (l.take m).map PyData.int := by
  unfold cutD
  rw [HT.sIx_none, HT.sIx_nat, List.length_map, List.drop_zero, Nat.sub_zero, ← List.map_take]
  rcases Nat.le_total m l.length with h | h
  · rw [Nat.min_eq_left h]
  · rw [Nat.min_eq_right h, List.take_length, List.take_of_length_le h]
end
/-! ## rules in short -/
section
variable {X : Cx} {e e2 : Expr} {te t2 ta tb : TE} {p pos p2 : Pos}
theorem pe_len (hm : X.mg "len" = none) (he : PE X e te) (hg : Gl X "len" := by rfl) (hs : starEach [e] X.env = (false, eval e X.env) :: starEach [] X.env := by rfl) (hpl : (backTo pos (starEach [] X.env)).any (·.1) = false := by rfl) :
    PE X (.Call (.Name "len" p) [e] [] pos) (tCB (rLenS X.K) (tCons te tNil)) := pe_callB call_len_seq hg hm PySem.boot_len (pa_cons he pa_nil hs) (by decide) (by decide) hs hpl
theorem pe_listc (hm : X.mg "list" = none) (he : PE X e te) (hg : Gl X "list" := by rfl) (hs : starEach [e] X.env = (false, eval e X.env) :: starEach [] X.env := by rfl) (hpl : (backTo pos (starEach [] X.env)).any (·.1) = false := by rfl) :
    PE X (.Call (.Name "list" p) [e] [] pos) (tCB (rListS X.K) (tCons te tNil)) := pe_callTy call_list_of hg hm (by decide +kernel) (pa_cons he pa_nil hs) (by decide) (by decide) hs hpl
theorem pe_tuplec (hm : X.mg "tuple" = none) (he : PE X e te) (hg : Gl X "tuple" := by rfl) (hs : starEach [e] X.env = (false, eval e X.env) :: starEach [] X.env := by rfl) (hpl : (backTo pos (starEach [] X.env)).any (·.1) = false := by rfl) :
    PE X (.Call (.Name "tuple" p) [e] [] pos) (tCB (rTupleS X.K) (tCons te tNil)) := pe_callTy call_tuple_of hg hm (by decide +kernel) (pa_cons he pa_nil hs) (by decide) (by decide) hs hpl
theorem pe_absc (hm : X.mg "abs" = none) (he : PE X e te) (hg : Gl X "abs" := by rfl) (hs : starEach [e] X.env = (false, eval e X.env) :: starEach [] X.env := by rfl) (hpl : (backTo pos (starEach [] X.env)).any (·.1) = false := by rfl) :
    PE X (.Call (.Name "abs" p) [e] [] pos) (tCB rAbs (tCons te tNil)) := pe_callB call_abs hg hm (by decide +kernel) (pa_cons he pa_nil hs) (by decide) (by decide) hs hpl
theorem pe_allc (hm : X.mg "all" = none) (he : PE X e te) (hc : X.calm = true := by rfl) (hg : Gl X "all" := by rfl) (hs : starEach [e] X.env = (false, eval e X.env) :: starEach [] X.env := by rfl) (hpl : (backTo pos (starEach [] X.env)).any (·.1) = false := by rfl) :
    PE X (.Call (.Name "all" p) [e] [] pos) (tCB (rAll X.K) (tCons te tNil)) := pe_callB (cr_all hc) hg hm (by decide +kernel) (pa_cons he pa_nil hs) (by decide) (by decide) hs hpl
theorem pe_min1 (hm : X.mg "min" = none) (he : PE X e te) (hc : X.calm = true := by rfl) (hg : Gl X "min" := by rfl) (hs : starEach [e] X.env = (false, eval e X.env) :: starEach [] X.env := by rfl) (hpl : (backTo pos (starEach [] X.env)).any (·.1) = false := by rfl) :
    PE X (.Call (.Name "min" p) [e] [] pos) (tCB (rMin X.K) (tCons te tNil)) := pe_callB (cr_min hc) hg hm (by decide +kernel) (pa_cons he pa_nil hs) (by decide) (by decide) hs hpl
theorem pe_min2 (hm : X.mg "min" = none) (he : PE X e te) (h2 : PE X e2 t2) (hc : X.calm = true := by rfl) (hg : Gl X "min" := by rfl) (hs : starEach [e, e2] X.env = (false, eval e X.env) :: starEach [e2] X.env := by rfl)
    (hs2 : starEach [e2] X.env = (false, eval e2 X.env) :: starEach [] X.env := by rfl) (hpl : (backTo pos (starEach [e2] X.env)).any (·.1) = false := by rfl) :
    PE X (.Call (.Name "min" p) [e, e2] [] pos) (tCB rMin2 (tCons te (tCons t2 tNil))) := pe_callB (call_min2 hc) hg hm (by decide +kernel) (pa_cons he (pa_cons h2 pa_nil hs2) hs) (by decide) (by decide) hs hpl
def rInt1 : List V → Hp → VK → Prop := fun xs H Q => (∃ i, xs = [.int i] ∧ Q (.int i) H) ∨ ∃ k, xs = [.bl k] ∧ Q (.int (if k then 1 else 0)) H
theorem pe_intc (hm : X.mg "int" = none) (he : PE X e te) (hg : Gl X "int" := by rfl) (hs : starEach [e] X.env = (false, eval e X.env) :: starEach [] X.env := by rfl) (hpl : (backTo pos (starEach [] X.env)).any (·.1) = false := by rfl) :
    PE X (.Call (.Name "int" p) [e] [] pos) (tCB rInt1 (tCons te tNil)) := pe_callTy call_int1 hg hm (by decide +kernel) (pa_cons he pa_nil hs) (by decide) (by decide) hs hpl
theorem ev_intB {σ : L2.St} {H : Hp} {k : Bool} (h : Ev te σ H (.bl k)) : Ev (tCB rInt1 (tCons te tNil)) σ H (.int (if k then 1 else 0)) := fun H1 a Q q => h H1 a _ fun H2 e2 => .inr ⟨k, rfl, q H2 e2⟩
/-- xs.append(e) -/
theorem ps_app {o : Expr} {ap p3 : Pos} {to : TE} (ho : PE X o to) (he : PE X e te)
    (h : PE X (.Call (.Attribute o "append" ap) [e] [] pos) (tBM X.K "list" rAppend to (tCons te tNil)) := by exact pe_bm PySem.F.plainAttrs_list PySem.F.slot_list_append PySem.F.type_list_append mt_append ‹_› (pa_cons ‹_› pa_nil)) :
    PS X (.Expr (.Call (.Attribute o "append" ap) [e] [] pos) p3) (tDrop (tBM X.K "list" rAppend to (tCons te tNil))) := ps_expr h
end
/-! ## a def of the text -/
structure Ok (P : Program) (w : World) (K : PySem.W.Frag) (mg : Str → Option Value) (base : Heap) (CX : CXT) (x : Str) (ps : List Str) (k : Nat) (sp : Sp) : Prop where
  g : mg x = some (.ref (He.ga K x))
  ex : ∃ fd, PySem.W.keepIn K (.ref (He.ga K x)) = true ∧ Binds K fd ps [] ∧ FnOk P w K mg base CX k (He.ga K x) fd ps sp
abbrev FnP (K : PySem.W.Frag) (x : Str) (st : Stmt) : Prop := ∃ fd, FunD K x x (defArgs st) (defBody st) (defScope st) [] [] (He.ga K x) fd
section
variable {P : Program} {w : World} {K : PySem.W.Frag} {mg : Str → Option Value} {base : Heap}
theorem ok_of {CX : CXT} {x : Str} {st : Stmt} {N ps : List Str} {k : Nat} {sp : Sp} (g : mg x = some (.ref (He.ga K x))) (F : FnP K x st) (S : FnScope N ps (defScope st))
    (hb : ∀ (kV doc pm : Value) (an : Option Addr) (cdv ct : Value) (us : List Value), us.length = ps.length → bindArgs (PySem.W.fnOf x x (defArgs st) (defBody st) (defScope st) .none kV doc pm an cdv ct) ⟨us, []⟩ = pure (ps.zip us))
    (len : ∀ vs H Q E, sp vs H Q E → vs.length = ps.length)
    (hbody : ∀ (cdv : Value) (A : Around) (outer : List Env) (s : Shared) (H : Hp) (vs : List V) (Q : VK) (E : XK), Room k (A.deeper (envOfC x (defScope st) s.heap.objs.size (He.ga K x) cdv)) → sp vs H Q E →
      ∃ t, PSs (cxOf CX P w K mg base N x (defScope st) (He.ga K x) cdv A outer s H E) (defBody st) t ∧ t { nx := fun _ H' => Q .non H', rt := Q } (start N vs) H) : Ok P w K mg base CX x ps (k + 1) sp := by
  obtain ⟨fd, F⟩ := F
  exact ⟨g, fd, F.kp, F.bindsN hb, F.ok S len hbody⟩
/-- a pure one -/
theorem ok_ofG {CX : CXT} {x : Str} {st : Stmt} {N ps : List Str} {k : Nat} {pre : List V → Hp → PyData → Prop} (g : mg x = some (.ref (He.ga K x))) (F : FnP K x st) (S : FnScope N ps (defScope st))
    (hb : ∀ (kV doc pm : Value) (an : Option Addr) (cdv ct : Value) (us : List Value), us.length = ps.length → bindArgs (PySem.W.fnOf x x (defArgs st) (defBody st) (defScope st) .none kV doc pm an cdv ct) ⟨us, []⟩ = pure (ps.zip us))
    (len : ∀ vs H d, pre vs H d → vs.length = ps.length)
    (hbody : ∀ (cdv : Value) (A : Around) (outer : List Env) (s : Shared) (H : Hp) (vs : List V) (Q : VK) (E : XK) (d : PyData), Room k (A.deeper (envOfC x (defScope st) s.heap.objs.size (He.ga K x) cdv)) → pre vs H d → (∀ v H2, Ex H H2 → Dp K H2 v d → Q v H2) →
      ∃ t, PSs (cxOf CX P w K mg base N x (defScope st) (He.ga K x) cdv A outer s H E) (defBody st) t ∧ t { nx := fun _ H' => Q .non H', rt := Q } (start N vs) H) : Ok P w K mg base CX x ps (k + 1) (spG pre K) :=
  ok_of g F S hb (fun vs H Q E ⟨d, h, _⟩ => len vs H d h) fun cdv A outer s H vs Q E hr ⟨d, h, q⟩ => hbody cdv A outer s H vs Q E d hr h q
theorem ok_ofR {CX : CXT} {x : Str} {st : Stmt} {N ps : List Str} {k : Nat} {pre : List V → Hp → (PyData → Prop) → Prop} (g : mg x = some (.ref (He.ga K x))) (F : FnP K x st) (S : FnScope N ps (defScope st))
    (hb : ∀ (kV doc pm : Value) (an : Option Addr) (cdv ct : Value) (us : List Value), us.length = ps.length → bindArgs (PySem.W.fnOf x x (defArgs st) (defBody st) (defScope st) .none kV doc pm an cdv ct) ⟨us, []⟩ = pure (ps.zip us))
    (len : ∀ vs H d, pre vs H d → vs.length = ps.length)
    (hbody : ∀ (cdv : Value) (A : Around) (outer : List Env) (s : Shared) (H : Hp) (vs : List V) (Q : VK) (E : XK) (R : PyData → Prop), Room k (A.deeper (envOfC x (defScope st) s.heap.objs.size (He.ga K x) cdv)) → pre vs H R → (∀ v d H2, Ex H H2 → R d → Dp K H2 v d → Q v H2) →
      ∃ t, PSs (cxOf CX P w K mg base N x (defScope st) (He.ga K x) cdv A outer s H E) (defBody st) t ∧ t { nx := fun _ H' => Q .non H', rt := Q } (start N vs) H) : Ok P w K mg base CX x ps (k + 1) (spR pre K) :=
  ok_of g F S hb (fun vs H Q E ⟨d, h, _⟩ => len vs H d h) fun cdv A outer s H vs Q E hr ⟨d, h, q⟩ => hbody cdv A outer s H vs Q E d hr h q
theorem ok_ofN {CX : CXT} {x : Str} {st : Stmt} {N ps : List Str} {k : Nat} {pre : List V → Hp → List PyData → Prop} (g : mg x = some (.ref (He.ga K x))) (F : FnP K x st) (S : FnScope N ps (defScope st))
    (hb : ∀ (kV doc pm : Value) (an : Option Addr) (cdv ct : Value) (us : List Value), us.length = ps.length → bindArgs (PySem.W.fnOf x x (defArgs st) (defBody st) (defScope st) .none kV doc pm an cdv ct) ⟨us, []⟩ = pure (ps.zip us))
    (len : ∀ vs H d, pre vs H d → vs.length = ps.length)
    (hbody : ∀ (cdv : Value) (A : Around) (outer : List Env) (s : Shared) (H : Hp) (vs : List V) (Q : VK) (E : XK) (ds : List PyData), Room k (A.deeper (envOfC x (defScope st) s.heap.objs.size (He.ga K x) cdv)) → pre vs H ds → (∀ p xs H2, H p = none → Ex H H2 → H2 p = some (.lst xs) → DpAll K H2 xs ds → Q (.ref p) H2) →
      ∃ t, PSs (cxOf CX P w K mg base N x (defScope st) (He.ga K x) cdv A outer s H E) (defBody st) t ∧ t { nx := fun _ H' => Q .non H', rt := Q } (start N vs) H) : Ok P w K mg base CX x ps (k + 1) (spN pre K) :=
  ok_of g F S hb (fun vs H Q E ⟨d, h, _⟩ => len vs H d h) fun cdv A outer s H vs Q E hr ⟨d, h, q⟩ => hbody cdv A outer s H vs Q E d hr h q
end
section
variable {X : Cx} {e : Expr} {es : List Expr} {t : TA} {p pos : Pos} {x : Str} {ps : List Str} {k : Nat} {sp : Sp}
theorem pe_fn (O : Ok X.prog X.w X.K X.mg X.base CX0 x ps k sp) (hr : Room k X.A) (ha : PA X (e :: es) t) (hg : Gl X x := by rfl) (hdb : (x == ("__debug__" : Str)) = false := by decide) (he : starEach (e :: es) X.env = (false, eval e X.env) :: starEach es X.env := by rfl) (hpl : (backTo pos (starEach es X.env)).any (·.1) = false := by rfl) :
    PE X (.Call (.Name x p) (e :: es) [] pos) (tCall sp [] E0 t) := by
  obtain ⟨fd, kp, b, F⟩ := O.ex
  exact pe_call F hr hg O.g kp b .nil pass0 ha hdb he hpl
theorem pe_fn0 (O : Ok X.prog X.w X.K X.mg X.base CX0 x ps k sp) (hr : Room k X.A) (hg : Gl X x := by rfl) (hdb : (x == ("__debug__" : Str)) = false := by decide) :
    PE X (.Call (.Name x p) [] [] pos) (tCall sp [] E0 tNil) := by
  obtain ⟨fd, kp, b, F⟩ := O.ex
  exact pe_call0 F hr hg O.g kp b .nil pass0 hdb
/-- a def that may raise, called where nothing is let out -/
theorem pe_fnL (O : Ok X.prog X.w X.K X.mg X.base (L2.CX X.prog X.w) x ps k sp) (hr : Room k X.A) (ha : PA X (e :: es) t) (hg : Gl X x := by rfl) (hdb : (x == ("__debug__" : Str)) = false := by decide) (he : starEach (e :: es) X.env = (false, eval e X.env) :: starEach es X.env := by rfl) (hpl : (backTo pos (starEach es X.env)).any (·.1) = false := by rfl) :
    PE X (.Call (.Name x p) (e :: es) [] pos) (tCall sp [] E0 t) := by
  obtain ⟨fd, kp, b, F⟩ := O.ex
  exact pe_call F hr hg O.g kp b .nil passL ha hdb he hpl
/-- .. where its errors are wished for -/
theorem pe_fnS {E : L2.St → XK} (O : Ok X.prog X.w X.K X.mg X.base (L2.CX X.prog X.w) x ps k sp) (hr : Room k X.A) (hx : ∀ σ, PassesAt (L2.CX X.prog X.w) X σ (E σ)) (ha : PA X (e :: es) t) (hg : Gl X x := by rfl) (hdb : (x == ("__debug__" : Str)) = false := by decide)
    (he : starEach (e :: es) X.env = (false, eval e X.env) :: starEach es X.env := by rfl) (hpl : (backTo pos (starEach es X.env)).any (·.1) = false := by rfl) : PE X (.Call (.Name x p) (e :: es) [] pos) (tCallS sp E t) := by
  obtain ⟨fd, kp, b, F⟩ := O.ex
  exact pe_callS F hr hg O.g kp b hx ha hdb he hpl
end
/-! ## xs[i] op= e of a list -/
def rGetL (K : PySem.W.Frag) : V → V → Hp → VK → Prop := fun o i H Q => ∃ (p : Addr) (xs : List V) (j : Nat) (v : V), o = .ref p ∧ i = .int (j : Int) ∧ SqL K H p xs ∧ xs[j]? = some v ∧ Q v H
theorem get_list {X : Cx} : PGet X (rGetL X.K) := by
  intro pins s σ H o i ov iv Q I ro ri h
  obtain ⟨p, xs, j, v, rfl, rfl, hl, hv, q⟩ := h
  cases ro
  obtain ⟨t, rfl⟩ := ri
  obtain ⟨its, r, pl, hz⟩ := I.list hl
  obtain ⟨u, hu, ru⟩ := r.get hv
  have hn := line63
  have hj := (List.getElem?_eq_some_iff.mp hv).1
  exact wpAny_getItem_list pl.isList (by omega) (by omega) (by simpa using hu) ⟨v, H, I, ru, q⟩
theorem s_augL {K : PySem.W.Frag} {σ : L2.St} {H : Hp} {D : Ends} {to ti te : TE} {f : Int → Int → Int} {l : Addr} {xs : List V} {j : Nat} {a b : Int} (hl : H l = some (.lst xs)) (ho : Ev to σ H (.ref l)) (hi : Ev ti σ H (.int (j : Int))) (hx : xs[j]? = some (.int a)) (he : Ev te σ H (.int b))
    (k : ∀ H1, Ex H H1 → D.nx σ (upd H1 l (.lst (xs.set j (.int (f a b)))))) : tAugS to ti te (rGetL K) (ipI f) rSetL D σ H := ho H (Ex.refl H) _ fun H1 e1 => hi H1 e1 _ fun H2 e2 =>
  ⟨l, xs, j, .int a, rfl, rfl, sq_of (e2 l _ (e1 l _ hl)), hx, he H2 (e1.trans e2) _ fun H3 e3 => ⟨a, b, rfl, rfl, l, xs, (j : Int), j, rfl, rfl, e3 l _ (e2 l _ (e1 l _ hl)), ixN_nat (List.getElem?_eq_some_iff.mp hx).1, k H3 ((e1.trans e2).trans e3)⟩⟩
/-! ## more loops -/
section
variable {K : PySem.W.Frag} {σ : L2.St} {H : Hp} {te tl : TE} {D : Ends} {tu tz : TS} {g : TG}
theorem s_forRT {a : Addr} {xs : List V} (h : Ev tl σ H (.ref a)) (hx : SqT K H a xs) (Pv : Nat → L2.St → Hp → Prop) (h0 : ∀ H1, Ex H H1 → Pv 0 σ H1) (hl : ∀ i σ' H', Pv i σ' H' → SqT K H' a xs)
    (hs : ∀ i x σ' H', i < xs.length → xs[xs.length - 1 - i]? = some x → Pv i σ' H' → g x σ' H' fun σ2 H2 => tu { D with nx := Pv (i + 1), ct := Pv (i + 1), bk := D.nx } σ2 H2) (hd : ∀ σ' H', Pv xs.length σ' H' → D.nx σ' H') : tFor (RT.iRevA K tl) g tu D σ H :=
  h H (Ex.refl H) _ fun H1 e => ⟨a, xs, rfl, .inr ⟨ex_t e hx, RT.for_ItvT Pv (h0 H1 e) hl hs hd⟩⟩
theorem q_forRT {a : Addr} {xs : List V} (h : Ev tl σ H (.ref a)) (hx : SqT K H a xs) (Pv : Nat → L2.St → Hp → Prop) (h0 : ∀ H1, Ex H H1 → Pv 0 σ H1) (hl : ∀ i σ' H', Pv i σ' H' → SqT K H' a xs)
    (hs : ∀ i x σ' H', i < xs.length → xs[xs.length - 1 - i]? = some x → Pv i σ' H' → g x σ' H' fun σ2 H2 => tu { D with nx := Pv (i + 1), ct := Pv (i + 1), bk := tz D } σ2 H2) (hd : ∀ σ' H', Pv xs.length σ' H' → tz D σ' H') : tSeq (tFor (RT.iRevA K tl) g tu) tz D σ H :=
  s_forRT (D := { D with nx := tz D }) h hx Pv h0 hl hs hd
/-- for x in range(a, b, -1) -/
theorem s_forDn {ta : TA} {j : Nat} {a b : Int} (h : EvA ta σ H [.int a, .int b, .int (-1)]) (ha : -1000000 ≤ a ∧ a ≤ 1000000 ∧ -1000000 ≤ b ∧ b ≤ 1000000) (Pv : Nat → L2.St → Hp → Prop) (h0 : ∀ H1, Ex H H1 → Pv 0 σ H1)
    (hs : ∀ (i : Nat) σ' H', i < (a - b).toNat → Pv i σ' H' → tu { D with nx := Pv (i + 1), ct := Pv (i + 1), bk := D.nx } (σ'.set j (some (.int (a - (i : Int))))) H') (hd : ∀ σ' H', Pv (a - b).toNat σ' H' → D.nx σ' H') : tFor (iRng3 ta) (gName j) tu D σ H :=
  h H (Ex.refl H) _ fun H1 e => ⟨a, b, -1, (a - b).toNat, rfl, RgC.neg (by omega) (by omega) (by omega) (by omega), for_rangeC (lo := a) (c := -1) (n := (a - b).toNat) Pv (h0 H1 e) (fun i σ' H' hi p => by
    have e0 : a + (i : Int) * (-1) = a - (i : Int) := by omega
    show tu { D with nx := Pv (i + 1), ct := Pv (i + 1), bk := D.nx } (σ'.set j (some (.int (a + (i : Int) * (-1))))) H'
    rw [e0]
    exact hs i σ' H' hi p) hd⟩
theorem q_forDn {ta : TA} {j : Nat} {a b : Int} (h : EvA ta σ H [.int a, .int b, .int (-1)]) (ha : -1000000 ≤ a ∧ a ≤ 1000000 ∧ -1000000 ≤ b ∧ b ≤ 1000000) (Pv : Nat → L2.St → Hp → Prop) (h0 : ∀ H1, Ex H H1 → Pv 0 σ H1)
    (hs : ∀ (i : Nat) σ' H', i < (a - b).toNat → Pv i σ' H' → tu { D with nx := Pv (i + 1), ct := Pv (i + 1), bk := tz D } (σ'.set j (some (.int (a - (i : Int))))) H') (hd : ∀ σ' H', Pv (a - b).toNat σ' H' → tz D σ' H') : tSeq (tFor (iRng3 ta) (gName j) tu) tz D σ H :=
  s_forDn (D := { D with nx := tz D }) h ha Pv h0 hs hd
end
/-! ## over a new list of data; targets of several names -/
section
variable {K : PySem.W.Frag} {σ : L2.St} {H : Hp} {te tl : TE} {D : Ends} {tu tz : TS} {g : TG} {xds : List PyData}
theorem s_forN (h : EvN K tl σ H xds) (Pv : Addr → List V → Nat → L2.St → Hp → Prop) (h0 : ∀ p xs H1, H p = none → Ex H H1 → H1 p = some (.lst xs) → DpAll K H1 xs xds → Pv p xs 0 σ H1) (hl : ∀ p xs i σ' H', Pv p xs i σ' H' → H' p = some (.lst xs) ∧ DpAll K H' xs xds)
    (hs : ∀ p xs i x dx σ' H', xds[i]? = some dx → Dp K H' x dx → Pv p xs i σ' H' → g x σ' H' fun σ2 H2 => tu { D with nx := Pv p xs (i + 1), ct := Pv p xs (i + 1), bk := D.nx } σ2 H2) (hd : ∀ p xs σ' H', Pv p xs xds.length σ' H' → D.nx σ' H') : tFor (iList K tl) g tu D σ H :=
  h H (Ex.refl H) _ fun p xs H1 n e hp hx => ⟨p, rfl, ⟨xs, sq_of hp⟩, for_list (Pv p xs) (h0 p xs H1 n e hp hx) (fun i σ' H' _ q => sq_of (hl p xs i σ' H' q).1) (fun i x σ' H' hi q => by
    obtain ⟨dx, hdx, pdx⟩ := dpAll_get' (hl p xs i σ' H' q).2 hi
    exact hs p xs i x dx σ' H' hdx pdx q) (fun σ' H' q => hd p xs σ' H' (by rw [← dpAll_len hx]; exact q))⟩
theorem q_forN (h : EvN K tl σ H xds) (Pv : Addr → List V → Nat → L2.St → Hp → Prop) (h0 : ∀ p xs H1, H p = none → Ex H H1 → H1 p = some (.lst xs) → DpAll K H1 xs xds → Pv p xs 0 σ H1) (hl : ∀ p xs i σ' H', Pv p xs i σ' H' → H' p = some (.lst xs) ∧ DpAll K H' xs xds)
    (hs : ∀ p xs i x dx σ' H', xds[i]? = some dx → Dp K H' x dx → Pv p xs i σ' H' → g x σ' H' fun σ2 H2 => tu { D with nx := Pv p xs (i + 1), ct := Pv p xs (i + 1), bk := tz D } σ2 H2) (hd : ∀ p xs σ' H', Pv p xs xds.length σ' H' → tz D σ' H') : tSeq (tFor (iList K tl) g tu) tz D σ H :=
  s_forN (D := { D with nx := tz D }) h Pv h0 hl hs hd
/-- over a list that stands -/
theorem s_forV {p : Addr} {xs : List V} (h : Ev tl σ H (.ref p)) (hx : SqL K H p xs) (Pv : Nat → L2.St → Hp → Prop) (h0 : ∀ H1, Ex H H1 → Pv 0 σ H1) (hl : ∀ i σ' H', Pv i σ' H' → SqL K H' p xs ∧ DpAll K H' xs xds)
    (hs : ∀ i x dx σ' H', xds[i]? = some dx → Dp K H' x dx → Pv i σ' H' → g x σ' H' fun σ2 H2 => tu { D with nx := Pv (i + 1), ct := Pv (i + 1), bk := D.nx } σ2 H2) (hd : ∀ σ' H', Pv xs.length σ' H' → D.nx σ' H') : tFor (iList K tl) g tu D σ H :=
  s_forL h hx Pv h0 (fun i σ' H' _ q => (hl i σ' H' q).1) (fun i x σ' H' hi q => by
    obtain ⟨dx, hdx, pdx⟩ := dpAll_get' (hl i σ' H' q).2 hi
    exact hs i x dx σ' H' hdx pdx q) hd
theorem q_forV {p : Addr} {xs : List V} (h : Ev tl σ H (.ref p)) (hx : SqL K H p xs) (Pv : Nat → L2.St → Hp → Prop) (h0 : ∀ H1, Ex H H1 → Pv 0 σ H1) (hl : ∀ i σ' H', Pv i σ' H' → SqL K H' p xs ∧ DpAll K H' xs xds)
    (hs : ∀ i x dx σ' H', xds[i]? = some dx → Dp K H' x dx → Pv i σ' H' → g x σ' H' fun σ2 H2 => tu { D with nx := Pv (i + 1), ct := Pv (i + 1), bk := tz D } σ2 H2) (hd : ∀ σ' H', Pv xs.length σ' H' → tz D σ' H') : tSeq (tFor (iList K tl) g tu) tz D σ H :=
  s_forV (D := { D with nx := tz D }) h hx Pv h0 hl hs hd
variable {x : V} {d1 d2 d3 : PyData} {Q : L2.St → Hp → Prop}
theorem g_tup2 {i j : Nat} (h : Dp K H x (.tuple [d1, d2])) (k : ∀ u1 u2, Dp K H u1 d1 → Dp K H u2 d2 → Q ((σ.set i (some u1)).set j (some u2)) H) : gTup K 2 (gCons (gName i) (gCons (gName j) gNil)) x σ H Q := by
  obtain ⟨a, xs, rfl, h1, h2⟩ := dp_tup h
  obtain ⟨u1, u2, rfl, k1, k2⟩ := dpAll_two h2
  exact ⟨a, _, rfl, h1, rfl, u1, _, rfl, u2, _, rfl, rfl, k u1 u2 k1 k2⟩
theorem g_tup3 {i j l : Nat} (h : Dp K H x (.tuple [d1, d2, d3])) (k : ∀ u1 u2 u3, Dp K H u1 d1 → Dp K H u2 d2 → Dp K H u3 d3 → Q (((σ.set i (some u1)).set j (some u2)).set l (some u3)) H) : gTup K 3 (gCons (gName i) (gCons (gName j) (gCons (gName l) gNil))) x σ H Q := by
  obtain ⟨a, xs, rfl, h1, h2⟩ := dp_tup h
  obtain ⟨u1, u2, u3, rfl, k1, k2, k3⟩ := dpAll_three h2
  exact ⟨a, _, rfl, h1, rfl, u1, _, rfl, u2, _, rfl, u3, _, rfl, rfl, k u1 u2 u3 k1 k2 k3⟩
theorem g_lst2 {i j : Nat} (h : Dp K H x (.list [d1, d2])) (k : ∀ u1 u2, Dp K H u1 d1 → Dp K H u2 d2 → Q ((σ.set i (some u1)).set j (some u2)) H) : gLst K 2 (gCons (gName i) (gCons (gName j) gNil)) x σ H Q := by
  obtain ⟨a, xs, rfl, h1, h2⟩ := dp_lst h
  obtain ⟨u1, u2, rfl, k1, k2⟩ := dpAll_two h2
  exact ⟨a, _, rfl, h1, rfl, u1, _, rfl, u2, _, rfl, rfl, k u1 u2 k1 k2⟩
end
/-! ## rows by place -/
theorem len1 (a : PyData) : [a].length ≤ 100000 := Nat.le_of_ble_eq_true rfl
theorem len2 (a b : PyData) : [a, b].length ≤ 100000 := Nat.le_of_ble_eq_true rfl
theorem len3 (a b c : PyData) : [a, b, c].length ≤ 100000 := Nat.le_of_ble_eq_true rfl
theorem getD_none {l : List Int} {i : Nat} (h : l.length ≤ i) : l.getD i 0 = 0 := by simp [List.getD, List.getElem?_eq_none h]
theorem getD_at {l : List Int} {i : Nat} (h : i < l.length) : l.getD i 0 = l[i] := by simp [List.getD, List.getElem?_eq_getElem h]
theorem at_V {l : List Int} {i : Nat} (h : i < l.length) : (l.map V.int)[i]? = some (.int (l.getD i 0)) := by
  rw [List.getElem?_map, List.getElem?_eq_getElem h, getD_at h]
  rfl
theorem at_P {l : List Int} {i : Nat} (h : i < l.length) : (l.map PyData.int)[i]? = some (.int (l.getD i 0)) := by
  rw [List.getElem?_map, List.getElem?_eq_getElem h, getD_at h]
  rfl
theorem of_V {l : List Int} {i : Nat} {x : V} (h : (l.map V.int)[i]? = some x) : i < l.length ∧ x = .int (l.getD i 0) := by
  rw [List.getElem?_map] at h
  cases e : l[i]? with
  | none => rw [e] at h; cases h
  | some z =>
    rw [e] at h
    obtain ⟨h1, h2⟩ := List.getElem?_eq_some_iff.mp e
    exact ⟨h1, by rw [getD_at h1, h2]; exact (Option.some.inj h).symm⟩
/-- an item of a row at a place from 0 on -/
theorem ev_row {K : PySem.W.Frag} {ta tb : TE} {σ : L2.St} {H : Hp} {l : List Int} {i : Nat} (h : EvD K ta σ H (dR l)) (hi : Ev tb σ H (.int (i : Int))) (hl : i < l.length) : Ev (tOp (rIxT K) ta tb) σ H (.int (l.getD i 0)) := ev_int (d_ixT h hi (atI_nat (at_P hl)))
theorem ev_lst {K : PySem.W.Frag} {ta tb : TE} {σ : L2.St} {H : Hp} {p : Addr} {l : List Int} {i : Nat} (hp : H p = some (.lst (l.map V.int))) (h : Ev ta σ H (.ref p)) (hi : Ev tb σ H (.int (i : Int))) (hl : i < l.length) : Ev (tOp (rIxL K) ta tb) σ H (.int (l.getD i 0)) :=
  ev_op h hi (rv_ixL (sq_of hp) (atI_nat (at_V hl)))
end K41
set_option Elab.async false
set_option linter.all false
set_option maxRecDepth 100000
set_option maxHeartbeats 4000000
namespace K41
open PySem PySem.Spec PyProof.Rows L2 Evl
/-! what the top has written -/
def ExcF (K : PySem.W.Frag) (x : Str) : Prop := PySem.W.excIn K (He.ga K x) He.veBase "ValueError.__new__" = true ∧ PySem.W.keepIn K (.ref (He.ga K x)) = true ∧ PySem.W.subIn K (.ref (He.ga K x)) (.type "BaseException") = some true ∧ PySem.W.typeIn K (.ref (He.ga K x)) = some (.type "type")
def ExmF (K : PySem.W.Frag) (x y : Str) : Prop := PySem.W.exmOne K (.ref (He.ga K x)) (.ref (He.ga K y)) = some true
abbrev MtP (K : PySem.W.Frag) (c q : Str) (st : Stmt) : Prop := ∃ fd, FunD K "__init__" q (defArgs st) (defBody st) (defScope st) [] [] (He.ma K (He.ga K c) "__init__") fd
structure Tx (K : PySem.W.Frag) (mg : Str → Option Value) : Prop where
  b_len : mg "len" = none
  b_range : mg "range" = none
  b_tuple : mg "tuple" = none
  b_list : mg "list" = none
  b_reversed : mg "reversed" = none
  b_abs : mg "abs" = none
  b_all : mg "all" = none
  b_min : mg "min" = none
  b_sorted : mg "sorted" = none
  b_zip : mg "zip" = none
  b_isinstance : mg "isinstance" = none
  b_int : mg "int" = none
  b_ValueError : mg "ValueError" = none
  g_cut : mg "cut" = some (.ref (He.ga K "cut"))
  g_poly_parted : mg "poly_parted" = some (.ref (He.ga K "poly_parted"))
  g_poly_at : mg "poly_at" = some (.ref (He.ga K "poly_at"))
  g_root : mg "root" = some (.ref (He.ga K "root"))
  g_small_primes : mg "small_primes" = some (.ref (He.ga K "small_primes"))
  g_parted : mg "parted" = some (.ref (He.ga K "parted"))
  g_turned : mg "turned" = some (.ref (He.ga K "turned"))
  g_mod_poly : mg "mod_poly" = some (.ref (He.ga K "mod_poly"))
  g_mod_parted : mg "mod_parted" = some (.ref (He.ga K "mod_parted"))
  g_mod_at : mg "mod_at" = some (.ref (He.ga K "mod_at"))
  g_pair_of : mg "pair_of" = some (.ref (He.ga K "pair_of"))
  g_rootless : mg "rootless" = some (.ref (He.ga K "rootless"))
  g_split_by : mg "split_by" = some (.ref (He.ga K "split_by"))
  g_prime_table : mg "prime_table" = some (.ref (He.ga K "prime_table"))
  g_above : mg "above" = some (.ref (He.ga K "above"))
  g_det : mg "det" = some (.ref (He.ga K "det"))
  g_root_times : mg "root_times" = some (.ref (He.ga K "root_times"))
  g_poly_table : mg "poly_table" = some (.ref (He.ga K "poly_table"))
  g_combined : mg "combined" = some (.ref (He.ga K "combined"))
  g_product_by : mg "product_by" = some (.ref (He.ga K "product_by"))
  g_times : mg "times" = some (.ref (He.ga K "times"))
  g_turner : mg "turner" = some (.ref (He.ga K "turner"))
  g_often_by : mg "often_by" = some (.ref (He.ga K "often_by"))
  g_often : mg "often" = some (.ref (He.ga K "often"))
  g_taken : mg "taken" = some (.ref (He.ga K "taken"))
  g_check_poly : mg "check_poly" = some (.ref (He.ga K "check_poly"))
  g_whole_root : mg "whole_root" = some (.ref (He.ga K "whole_root"))
  g_pair_by : mg "pair_by" = some (.ref (He.ga K "pair_by"))
  g_apart : mg "apart" = some (.ref (He.ga K "apart"))
  g_power_sums : mg "power_sums" = some (.ref (He.ga K "power_sums"))
  g_measure : mg "measure" = some (.ref (He.ga K "measure"))
  g_square_primes : mg "square_primes" = some (.ref (He.ga K "square_primes"))
  g_parts_of : mg "parts_of" = some (.ref (He.ga K "parts_of"))
  g_divides_all : mg "divides_all" = some (.ref (He.ga K "divides_all"))
  g_outside : mg "outside" = some (.ref (He.ga K "outside"))
  g_L_cell : mg "_law_cell" = some (.ref (He.ga K "_law_cell"))
  g_L_mixed : mg "_law_mixed" = some (.ref (He.ga K "_law_mixed"))
  g_L_draws : mg "_law_draws" = some (.ref (He.ga K "_law_draws"))
  g_L_shifted : mg "_law_shifted" = some (.ref (He.ga K "_law_shifted"))
  g_L_poly : mg "_law_poly" = some (.ref (He.ga K "_law_poly"))
  g_L_known_ring : mg "_law_known_ring" = some (.ref (He.ga K "_law_known_ring"))
  g_L_ring : mg "_law_ring" = some (.ref (He.ga K "_law_ring"))
  g_L_shared : mg "_law_shared" = some (.ref (He.ga K "_law_shared"))
  g_L_value : mg "_law_value" = some (.ref (He.ga K "_law_value"))
  g_L_known : mg "_law_known" = some (.ref (He.ga K "_law_known"))
  g_L_is_prime : mg "_law_is_prime" = some (.ref (He.ga K "_law_is_prime"))
  g_L_primes : mg "_law_primes" = some (.ref (He.ga K "_law_primes"))
  g_L_parts : mg "_law_parts" = some (.ref (He.ga K "_law_parts"))
  g_L_lifted : mg "_law_lifted" = some (.ref (He.ga K "_law_lifted"))
  g_L_asked : mg "_law_asked" = some (.ref (He.ga K "_law_asked"))
  g_law : mg "law" = some (.ref (He.ga K "law"))
  g_RingError : mg "RingError" = some (.ref (He.ga K "RingError"))
  g_NoPolynomial : mg "NoPolynomial" = some (.ref (He.ga K "NoPolynomial"))
  g_TooGreat : mg "TooGreat" = some (.ref (He.ga K "TooGreat"))
  g_NoPrime : mg "NoPrime" = some (.ref (He.ga K "NoPrime"))
  g_TooFar : mg "TooFar" = some (.ref (He.ga K "TooFar"))
  g_FallsApart : mg "FallsApart" = some (.ref (He.ga K "FallsApart"))
  g_NotWhole : mg "NotWhole" = some (.ref (He.ga K "NotWhole"))
  g_Ring : mg "Ring" = some (.ref (He.ga K "Ring"))
  g_PRIMES : mg "PRIMES" = some (.ref (He.ga K "PRIMES"))
  i_LARGEST : ∃ t, mg "LARGEST" = some (.int 499 t)
  i_GREATEST : ∃ t, mg "GREATEST" = some (.int 39999 t)
  e_NoPolynomial : ExcF K "NoPolynomial"
  e_TooGreat : ExcF K "TooGreat"
  e_NoPrime : ExcF K "NoPrime"
  e_TooFar : ExcF K "TooFar"
  m_NoPolynomial_RingError : ExmF K "NoPolynomial" "RingError"
  m_TooGreat_RingError : ExmF K "TooGreat" "RingError"
  m_FallsApart_RingError : ExmF K "FallsApart" "RingError"
  m_NotWhole_RingError : ExmF K "NotWhole" "RingError"
  m_TooFar_TooFar : ExmF K "TooFar" "TooFar"
  m_NoPrime_RingError : ExmF K "NoPrime" "RingError"
  c_Ring : Cls K (He.ga K "Ring")
  mk_Ring : Mk K (He.ga K "Ring") (He.ma K (He.ga K "Ring") "__init__")
  n_poly : NoAttr K (He.ga K "Ring") "poly"
  n_degree : NoAttr K (He.ga K "Ring") "degree"
  n_measure : NoAttr K (He.ga K "Ring") "measure"
  f_cut : FnP K "cut" s_cut
  f_poly_parted : FnP K "poly_parted" s_poly_parted
  f_poly_at : FnP K "poly_at" s_poly_at
  f_root : FnP K "root" s_root
  f_small_primes : FnP K "small_primes" s_small_primes
  f_parted : FnP K "parted" s_parted
  f_turned : FnP K "turned" s_turned
  f_mod_poly : FnP K "mod_poly" s_mod_poly
  f_mod_parted : FnP K "mod_parted" s_mod_parted
  f_mod_at : FnP K "mod_at" s_mod_at
  f_pair_of : FnP K "pair_of" s_pair_of
  f_rootless : FnP K "rootless" s_rootless
  f_split_by : FnP K "split_by" s_split_by
  f_prime_table : FnP K "prime_table" s_prime_table
  f_above : FnP K "above" s_above
  f_det : FnP K "det" s_det
  f_root_times : FnP K "root_times" s_root_times
  f_poly_table : FnP K "poly_table" s_poly_table
  f_combined : FnP K "combined" s_combined
  f_product_by : FnP K "product_by" s_product_by
  f_times : FnP K "times" s_times
  f_turner : FnP K "turner" s_turner
  f_often_by : FnP K "often_by" s_often_by
  f_often : FnP K "often" s_often
  f_taken : FnP K "taken" s_taken
  f_check_poly : FnP K "check_poly" s_check_poly
  f_whole_root : FnP K "whole_root" s_whole_root
  f_pair_by : FnP K "pair_by" s_pair_by
  f_apart : FnP K "apart" s_apart
  f_power_sums : FnP K "power_sums" s_power_sums
  f_measure : FnP K "measure" s_measure
  f_square_primes : FnP K "square_primes" s_square_primes
  f_parts_of : FnP K "parts_of" s_parts_of
  f_divides_all : FnP K "divides_all" s_divides_all
  f_outside : FnP K "outside" s_outside
  f_L_cell : FnP K "_law_cell" s_L_cell
  f_L_mixed : FnP K "_law_mixed" s_L_mixed
  f_L_draws : FnP K "_law_draws" s_L_draws
  f_L_shifted : FnP K "_law_shifted" s_L_shifted
  f_L_poly : FnP K "_law_poly" s_L_poly
  f_L_known_ring : FnP K "_law_known_ring" s_L_known_ring
  f_L_ring : FnP K "_law_ring" s_L_ring
  f_L_shared : FnP K "_law_shared" s_L_shared
  f_L_value : FnP K "_law_value" s_L_value
  f_L_known : FnP K "_law_known" s_L_known
  f_L_is_prime : FnP K "_law_is_prime" s_L_is_prime
  f_L_primes : FnP K "_law_primes" s_L_primes
  f_L_parts : FnP K "_law_parts" s_L_parts
  f_L_lifted : FnP K "_law_lifted" s_L_lifted
  f_L_asked : FnP K "_law_asked" s_L_asked
  f_law : FnP K "law" s_law
  f_FallsApartinit : MtP K "FallsApart" "FallsApart.__init__" s_FallsApartinit
  f_NotWholeinit : MtP K "NotWhole" "NotWhole.__init__" s_NotWholeinit
  f_Ringinit : MtP K "Ring" "Ring.__init__" s_Ringinit
  primesT : ∀ H : Hp, SqT K H (He.ga K "PRIMES") (primes.map V.int)
  more : ex1 K = true ∧ ex2 K = true
theorem tx_of {K : PySem.W.Frag} {h : Heap} {mg : Str → Option Value} (X : K.In h) (G : h.Ns mainGlobals mg) (c : SaysZ K) : Tx K mg := by
  obtain ⟨x1, x2⟩ := He.ba c.2
  obtain ⟨x3, x4⟩ := He.ba x2
  exact ⟨He.free_ok X G (c.1.fact 0 (f := .free "len") rfl),
    He.free_ok X G (c.1.fact 1 (f := .free "range") rfl),
    He.free_ok X G (c.1.fact 2 (f := .free "tuple") rfl),
    He.free_ok X G (c.1.fact 3 (f := .free "list") rfl),
    He.free_ok X G (c.1.fact 4 (f := .free "reversed") rfl),
    He.free_ok X G (c.1.fact 5 (f := .free "abs") rfl),
    He.free_ok X G (c.1.fact 6 (f := .free "all") rfl),
    He.free_ok X G (c.1.fact 7 (f := .free "min") rfl),
    He.free_ok X G (c.1.fact 8 (f := .free "sorted") rfl),
    He.free_ok X G (c.1.fact 9 (f := .free "zip") rfl),
    He.free_ok X G (c.1.fact 10 (f := .free "isinstance") rfl),
    He.free_ok X G (c.1.fact 11 (f := .free "int") rfl),
    He.free_ok X G (c.1.fact 12 (f := .free "ValueError") rfl),
    He.glo_ok X G (c.1.fact 13 (f := .glo "cut") rfl),
    He.glo_ok X G (c.1.fact 14 (f := .glo "poly_parted") rfl),
    He.glo_ok X G (c.1.fact 15 (f := .glo "poly_at") rfl),
    He.glo_ok X G (c.1.fact 16 (f := .glo "root") rfl),
    He.glo_ok X G (c.1.fact 17 (f := .glo "small_primes") rfl),
    He.glo_ok X G (c.1.fact 18 (f := .glo "parted") rfl),
    He.glo_ok X G (c.1.fact 19 (f := .glo "turned") rfl),
    He.glo_ok X G (c.1.fact 20 (f := .glo "mod_poly") rfl),
    He.glo_ok X G (c.1.fact 21 (f := .glo "mod_parted") rfl),
    He.glo_ok X G (c.1.fact 22 (f := .glo "mod_at") rfl),
    He.glo_ok X G (c.1.fact 23 (f := .glo "pair_of") rfl),
    He.glo_ok X G (c.1.fact 24 (f := .glo "rootless") rfl),
    He.glo_ok X G (c.1.fact 25 (f := .glo "split_by") rfl),
    He.glo_ok X G (c.1.fact 26 (f := .glo "prime_table") rfl),
    He.glo_ok X G (c.1.fact 27 (f := .glo "above") rfl),
    He.glo_ok X G (c.1.fact 28 (f := .glo "det") rfl),
    He.glo_ok X G (c.1.fact 29 (f := .glo "root_times") rfl),
    He.glo_ok X G (c.1.fact 30 (f := .glo "poly_table") rfl),
    He.glo_ok X G (c.1.fact 31 (f := .glo "combined") rfl),
    He.glo_ok X G (c.1.fact 32 (f := .glo "product_by") rfl),
    He.glo_ok X G (c.1.fact 33 (f := .glo "times") rfl),
    He.glo_ok X G (c.1.fact 34 (f := .glo "turner") rfl),
    He.glo_ok X G (c.1.fact 35 (f := .glo "often_by") rfl),
    He.glo_ok X G (c.1.fact 36 (f := .glo "often") rfl),
    He.glo_ok X G (c.1.fact 37 (f := .glo "taken") rfl),
    He.glo_ok X G (c.1.fact 38 (f := .glo "check_poly") rfl),
    He.glo_ok X G (c.1.fact 39 (f := .glo "whole_root") rfl),
    He.glo_ok X G (c.1.fact 40 (f := .glo "pair_by") rfl),
    He.glo_ok X G (c.1.fact 41 (f := .glo "apart") rfl),
    He.glo_ok X G (c.1.fact 42 (f := .glo "power_sums") rfl),
    He.glo_ok X G (c.1.fact 43 (f := .glo "measure") rfl),
    He.glo_ok X G (c.1.fact 44 (f := .glo "square_primes") rfl),
    He.glo_ok X G (c.1.fact 45 (f := .glo "parts_of") rfl),
    He.glo_ok X G (c.1.fact 46 (f := .glo "divides_all") rfl),
    He.glo_ok X G (c.1.fact 47 (f := .glo "outside") rfl),
    He.glo_ok X G (c.1.fact 48 (f := .glo "_law_cell") rfl),
    He.glo_ok X G (c.1.fact 49 (f := .glo "_law_mixed") rfl),
    He.glo_ok X G (c.1.fact 50 (f := .glo "_law_draws") rfl),
    He.glo_ok X G (c.1.fact 51 (f := .glo "_law_shifted") rfl),
    He.glo_ok X G (c.1.fact 52 (f := .glo "_law_poly") rfl),
    He.glo_ok X G (c.1.fact 53 (f := .glo "_law_known_ring") rfl),
    He.glo_ok X G (c.1.fact 54 (f := .glo "_law_ring") rfl),
    He.glo_ok X G (c.1.fact 55 (f := .glo "_law_shared") rfl),
    He.glo_ok X G (c.1.fact 56 (f := .glo "_law_value") rfl),
    He.glo_ok X G (c.1.fact 57 (f := .glo "_law_known") rfl),
    He.glo_ok X G (c.1.fact 58 (f := .glo "_law_is_prime") rfl),
    He.glo_ok X G (c.1.fact 59 (f := .glo "_law_primes") rfl),
    He.glo_ok X G (c.1.fact 60 (f := .glo "_law_parts") rfl),
    He.glo_ok X G (c.1.fact 61 (f := .glo "_law_lifted") rfl),
    He.glo_ok X G (c.1.fact 62 (f := .glo "_law_asked") rfl),
    He.glo_ok X G (c.1.fact 63 (f := .glo "law") rfl),
    He.glo_ok X G (c.1.fact 64 (f := .glo "RingError") rfl),
    He.glo_ok X G (c.1.fact 65 (f := .glo "NoPolynomial") rfl),
    He.glo_ok X G (c.1.fact 66 (f := .glo "TooGreat") rfl),
    He.glo_ok X G (c.1.fact 67 (f := .glo "NoPrime") rfl),
    He.glo_ok X G (c.1.fact 68 (f := .glo "TooFar") rfl),
    He.glo_ok X G (c.1.fact 69 (f := .glo "FallsApart") rfl),
    He.glo_ok X G (c.1.fact 70 (f := .glo "NotWhole") rfl),
    He.glo_ok X G (c.1.fact 71 (f := .glo "Ring") rfl),
    He.glo_ok X G (c.1.fact 72 (f := .glo "PRIMES") rfl),
    He.int_ok X G (c.1.fact 73 (f := .int "LARGEST" 499) rfl),
    He.int_ok X G (c.1.fact 74 (f := .int "GREATEST" 39999) rfl),
    He.exc_ok (c.1.fact 75 (f := .exc "NoPolynomial") rfl),
    He.exc_ok (c.1.fact 76 (f := .exc "TooGreat") rfl),
    He.exc_ok (c.1.fact 77 (f := .exc "NoPrime") rfl),
    He.exc_ok (c.1.fact 78 (f := .exc "TooFar") rfl),
    He.exm_ok (c.1.fact 79 (f := .exm "NoPolynomial" "RingError" true) rfl),
    He.exm_ok (c.1.fact 80 (f := .exm "TooGreat" "RingError" true) rfl),
    He.exm_ok (c.1.fact 81 (f := .exm "FallsApart" "RingError" true) rfl),
    He.exm_ok (c.1.fact 82 (f := .exm "NotWhole" "RingError" true) rfl),
    He.exm_ok (c.1.fact 83 (f := .exm "TooFar" "TooFar" true) rfl),
    He.exm_ok (c.1.fact 84 (f := .exm "NoPrime" "RingError" true) rfl),
    He.cls_ok (c.1.fact 85 (f := .cls "Ring") rfl),
    He.mkr_ok (c.1.fact 86 (f := .mkr "Ring") rfl),
    He.noat_ok (c.1.fact 87 (f := .noat "Ring" "poly") rfl),
    He.noat_ok (c.1.fact 88 (f := .noat "Ring" "degree") rfl),
    He.noat_ok (c.1.fact 89 (f := .noat "Ring" "measure") rfl),
    c.1.def_ 0 (d := dF "cut" s_cut) rfl,
    c.1.def_ 1 (d := dF "poly_parted" s_poly_parted) rfl,
    c.1.def_ 2 (d := dF "poly_at" s_poly_at) rfl,
    c.1.def_ 3 (d := dF "root" s_root) rfl,
    c.1.def_ 4 (d := dF "small_primes" s_small_primes) rfl,
    c.1.def_ 5 (d := dF "parted" s_parted) rfl,
    c.1.def_ 6 (d := dF "turned" s_turned) rfl,
    c.1.def_ 7 (d := dF "mod_poly" s_mod_poly) rfl,
    c.1.def_ 8 (d := dF "mod_parted" s_mod_parted) rfl,
    c.1.def_ 9 (d := dF "mod_at" s_mod_at) rfl,
    c.1.def_ 10 (d := dF "pair_of" s_pair_of) rfl,
    c.1.def_ 11 (d := dF "rootless" s_rootless) rfl,
    c.1.def_ 12 (d := dF "split_by" s_split_by) rfl,
    c.1.def_ 13 (d := dF "prime_table" s_prime_table) rfl,
    c.1.def_ 14 (d := dF "above" s_above) rfl,
    c.1.def_ 15 (d := dF "det" s_det) rfl,
    c.1.def_ 16 (d := dF "root_times" s_root_times) rfl,
    c.1.def_ 17 (d := dF "poly_table" s_poly_table) rfl,
    c.1.def_ 18 (d := dF "combined" s_combined) rfl,
    c.1.def_ 19 (d := dF "product_by" s_product_by) rfl,
    c.1.def_ 20 (d := dF "times" s_times) rfl,
    c.1.def_ 21 (d := dF "turner" s_turner) rfl,
    c.1.def_ 22 (d := dF "often_by" s_often_by) rfl,
    c.1.def_ 23 (d := dF "often" s_often) rfl,
    c.1.def_ 24 (d := dF "taken" s_taken) rfl,
    c.1.def_ 25 (d := dF "check_poly" s_check_poly) rfl,
    c.1.def_ 26 (d := dF "whole_root" s_whole_root) rfl,
    c.1.def_ 27 (d := dF "pair_by" s_pair_by) rfl,
    c.1.def_ 28 (d := dF "apart" s_apart) rfl,
    c.1.def_ 29 (d := dF "power_sums" s_power_sums) rfl,
    c.1.def_ 30 (d := dF "measure" s_measure) rfl,
    c.1.def_ 31 (d := dF "square_primes" s_square_primes) rfl,
    c.1.def_ 32 (d := dF "parts_of" s_parts_of) rfl,
    c.1.def_ 33 (d := dF "divides_all" s_divides_all) rfl,
    c.1.def_ 34 (d := dF "outside" s_outside) rfl,
    c.1.def_ 35 (d := dF "_law_cell" s_L_cell) rfl,
    c.1.def_ 36 (d := dF "_law_mixed" s_L_mixed) rfl,
    c.1.def_ 37 (d := dF "_law_draws" s_L_draws) rfl,
    c.1.def_ 38 (d := dF "_law_shifted" s_L_shifted) rfl,
    c.1.def_ 39 (d := dF "_law_poly" s_L_poly) rfl,
    c.1.def_ 40 (d := dF "_law_known_ring" s_L_known_ring) rfl,
    c.1.def_ 41 (d := dF "_law_ring" s_L_ring) rfl,
    c.1.def_ 42 (d := dF "_law_shared" s_L_shared) rfl,
    c.1.def_ 43 (d := dF "_law_value" s_L_value) rfl,
    c.1.def_ 44 (d := dF "_law_known" s_L_known) rfl,
    c.1.def_ 45 (d := dF "_law_is_prime" s_L_is_prime) rfl,
    c.1.def_ 46 (d := dF "_law_primes" s_L_primes) rfl,
    c.1.def_ 47 (d := dF "_law_parts" s_L_parts) rfl,
    c.1.def_ 48 (d := dF "_law_lifted" s_L_lifted) rfl,
    c.1.def_ 49 (d := dF "_law_asked" s_L_asked) rfl,
    c.1.def_ 50 (d := dF "law" s_law) rfl,
    c.1.def_ 51 (d := dM "FallsApart" "__init__" "FallsApart.__init__" s_FallsApartinit) rfl,
    c.1.def_ 52 (d := dM "NotWhole" "__init__" "NotWhole.__init__" s_NotWholeinit) rfl,
    c.1.def_ 53 (d := dM "Ring" "__init__" "Ring.__init__" s_Ringinit) rfl,
    fun H => by
      have z := He.tupB_ok x4 H
      rw [List.map_map] at z
      exact z, x1, x3⟩
end K41
/-! the mirror: what each def computes, over plain lists -/
namespace K41.M
/-- the value of a polynomial, the lowest place first -/
def val : List Int → Int → Int
  | [], _ => 0
  | c :: f, x => c + x * val f x
def cut : List Int → List Int
  | [] => []
  | c :: f => match cut f with
    | [] => if c = 0 then [] else [c]
    | d :: r => c :: d :: r
def modPoly (row : List Int) (p : Int) : List Int := cut (row.map (· % p))
/-- left[at + j] -= part * g[j] for the first j's -/
def subTo (g : List Int) (part : Int) (at_ : Nat) : Nat → List Int → List Int
  | 0, l => l
  | j + 1, l => (subTo g part at_ j l).set (at_ + j) ((subTo g part at_ j l).getD (at_ + j) 0 - part * g.getD j 0)
/-- the first i turns of a division by g of the degree d; k turns in all -/
def divTo (g : List Int) (d k : Nat) (l : List Int) : Nat → List Int × List Int
  | 0 => (l, [])
  | i + 1 => (subTo g ((divTo g d k l i).1.getD (k - 1 - i + d) 0) (k - 1 - i) (d + 1) (divTo g d k l i).1, (divTo g d k l i).2 ++ [(divTo g d k l i).1.getD (k - 1 - i + d) 0])
def polyParted (f g : List Int) : List Int × List Int :=
  (cut (divTo g (g.length - 1) (f.length + 1 - g.length) f (f.length + 1 - g.length)).2.reverse, cut ((divTo g (g.length - 1) (f.length + 1 - g.length) f (f.length + 1 - g.length)).1.take (g.length - 1)))
/-- the extended division of turned -/
def turnGo : Nat → Int → Int → Int → Int → Int
  | 0, _, _, f, _ => f
  | n + 1, one, two, f, s => if 1 < one then turnGo n (two - two / one * one) one (s - two / one * f) f else f
def turned (a p : Int) : Int := turnGo p.toNat (a % p) p 1 0 % p
def msubTo (p : Int) (g : List Int) (part : Int) (at_ : Nat) : Nat → List Int → List Int
  | 0, l => l
  | j + 1, l => (msubTo p g part at_ j l).set (at_ + j) (((msubTo p g part at_ j l).getD (at_ + j) 0 - part * g.getD j 0) % p)
def mdivTo (p back : Int) (g : List Int) (d k : Nat) (l : List Int) : Nat → List Int × List Int
  | 0 => (l, [])
  | i + 1 => (msubTo p g ((mdivTo p back g d k l i).1.getD (k - 1 - i + d) 0 * back % p) (k - 1 - i) (d + 1) (mdivTo p back g d k l i).1, (mdivTo p back g d k l i).2 ++ [(mdivTo p back g d k l i).1.getD (k - 1 - i + d) 0 * back % p])
def mdiv (p back : Int) (g l : List Int) : List Int × List Int :=
  (cut (mdivTo p back g (g.length - 1) (l.length + 1 - g.length) l (l.length + 1 - g.length)).2.reverse, cut ((mdivTo p back g (g.length - 1) (l.length + 1 - g.length) l (l.length + 1 - g.length)).1.take (g.length - 1)))
def modParted (a b : List Int) (p : Int) : List Int × List Int :=
  mdiv p (turned ((modPoly b p).getD ((modPoly b p).length - 1) 0) p) (modPoly b p) (modPoly a p)
/-! how the small primes divide -/
def outN : Nat → Int → Int → Nat × Int
  | 0, _, m => (0, m)
  | n + 1, p, m => if m % p = 0 then ((outN n p (m / p)).1 + 1, (outN n p (m / p)).2) else (0, m)
/-- how often p goes into m, and what is left -/
def out (p m : Int) : Nat × Int := outN m.toNat p m
def partStep (s : List (Int × Nat) × Int) (p : Int) : List (Int × Nat) × Int := (s.1 ++ (if (out p s.2).1 = 0 then [] else [(p, (out p s.2).1)]), (out p s.2).2)
def parts (ps : List Int) (m : Int) : List (Int × Nat) × Int := ps.foldl partStep ([], m)
/-! splits -/
def firstUp {α : Type} (f : Nat → Option α) : Nat → Nat → Option α
  | _, 0 => none
  | s, n + 1 => match f s with
    | some r => some r
    | none => firstUp f (s + 1) n
def pairA (p two three b d a : Int) : Option (List Int × List Int) := if (a * (three - a) + b + d - two) % p = 0 then some ([b, a, 1], [d, (three - a) % p, 1]) else none
def pairTry (p one two three b d : Int) : Option (List Int × List Int) :=
  if b ≠ d then pairA p two three b d ((one - b * three) * turned (d - b) p % p)
  else if (one - b * three) % p = 0 then firstUp (fun a => pairA p two three b d (a : Int)) 0 p.toNat else none
def pairOf (left : List Int) (p : Int) : Option (List Int × List Int) :=
  firstUp (fun i => pairTry p (left.getD 1 0) (left.getD 2 0) (left.getD 3 0) (1 + (i : Int)) (left.getD 0 0 * turned (1 + (i : Int)) p % p)) 0 (p - 1).toNat
def code3 (g : List Int) : Int := g.getD 0 0 * 40000 + g.getD 1 0 * 200
def rootless (left : List Int) (p : Int) : List (List Int × Nat) :=
  match (if left.length = 5 then pairOf left p else none) with
  | none => [(left, 1)]
  | some (g, h) => if g = h then [(g, 2)] else if code3 g ≤ code3 h then [(g, 1), (h, 1)] else [(h, 1), (g, 1)]
def peel : Nat → Int → Int → List Int → Nat × List Int
  | 0, _, _, left => (0, left)
  | n + 1, p, low, left => if 1 < left.length ∧ val left (-low) % p = 0 then ((peel n p low (modParted left [low, 1] p).1).1 + 1, (peel n p low (modParted left [low, 1] p).1).2) else (0, left)
def splitStep (p : Int) (s : List (List Int × Nat) × List Int) (low : Nat) : List (List Int × Nat) × List Int :=
  (s.1 ++ (if (peel s.2.length p low s.2).1 = 0 then [] else [([(low : Int), 1], (peel s.2.length p low s.2).1)]), (peel s.2.length p low s.2).2)
def splitRoots (p : Int) (left : List Int) (n : Nat) : List (List Int × Nat) × List Int := (List.range n).foldl (splitStep p) ([], left)
def split (f : List Int) (p : Int) : List (List Int × Nat) :=
  (splitRoots p (modPoly f p) p.toNat).1 ++ (if 1 < (splitRoots p (modPoly f p) p.toNat).2.length then rootless (splitRoots p (modPoly f p) p.toNat).2 p else [])
/-! numbers -/
def rootTimes (poly row : List Int) : List Int := (List.range row.length).map fun i => (0 :: row).getD i 0 - row.getD (row.length - 1) 0 * poly.getD i 0
def tableTo (poly row : List Int) : Nat → List (List Int)
  | 0 => []
  | n + 1 => row :: tableTo poly (rootTimes poly row) n
def polyTable (poly x : List Int) : List (List Int) := tableTo poly x x.length
def addMul (a : Int) (row total : List Int) : List Int := (List.range total.length).map fun i => total.getD i 0 + a * row.getD i 0
def combTo : List Int → List (List Int) → List Int → List Int
  | a :: as, r :: rs, total => combTo as rs (addMul a r total)
  | _, _, total => total
def combined (numbers : List Int) (rows : List (List Int)) : List Int := combTo numbers rows (List.replicate (rows.getD 0 []).length 0)
def times (poly x y : List Int) : List Int := combined x (polyTable poly y)
/-! determinants, power sums -/
def detN : Nat → List (List Int) → Int
  | 0, _ => 0
  | n + 1, t => if t.length = 1 then (t.getD 0 []).getD 0 0 else
      ((List.range t.length).map fun i => (if i % 2 = 1 then -1 else 1) * ((t.getD i []).getD 0 0 * detN n ((t.eraseIdx i).map List.tail))).sum
def det (t : List (List Int)) : Int := detN t.length t
def powStep (poly : List Int) (d k : Nat) (sums : List Int) : Int :=
  (List.range (min (k - 1) d)).foldl (fun t i => t - poly.getD (d - (i + 1)) 0 * sums.getD (k - (i + 1)) 0) 0 - (if k ≤ d then (k : Int) * poly.getD (d - k) 0 else 0)
def powTo (poly : List Int) (d : Nat) : Nat → List Int
  | 0 => [(d : Int)]
  | k + 1 => powTo poly d k ++ [powStep poly d (k + 1) (powTo poly d k)]
def measure (poly : List Int) : Int :=
  det ((List.range (poly.length - 1)).map fun i => (List.range (poly.length - 1)).map fun j => (powTo poly (poly.length - 1) (2 * (poly.length - 1) - 2)).getD (i + j) 0)
end K41.M
set_option Elab.async false
set_option linter.all false
set_option maxRecDepth 100000
set_option maxHeartbeats 4000000
namespace K41
open PySem PySem.Spec PyProof.Rows L2 Evl
local macro_rules | `(tactic| walk_at "cc") => `(tactic| first
  | assumption
  | (with_reducible show (0 : Int) < _; omega)
  | exact Or.inl ⟨by omega, by omega⟩
  | exact Or.inr ⟨by omega, by omega⟩
  | exact And.intro (by omega) (by omega)
  | (show (0 : Int) < _; omega)
  | omega)
local macro_rules | `(tactic| walk_at "ev") => `(tactic| first
  | assumption
  | with_reducible exact ev_c
  | exact ev_var rfl
  | ((with_reducible refine' ev_op ?ka ?kb rv_I0); (case ka => walk_at "ev"); (case kb => walk_at "ev"))
  | ((with_reducible refine' ev_op ?ka ?kb (rv_I ?kc)); (case ka => walk_at "ev"); (case kb => walk_at "ev"); (case kc => walk_at "cc"))
  | ((with_reducible refine' ev_op (r := rEq) ?ka ?kb ?kd); (case ka => walk_at "ev"); (case kb => walk_at "ev"); (case kd => refine' rv_eq ?kc; rfl))
  | ((with_reducible refine' ev_op (r := rNe) ?ka ?kb ?kd); (case ka => walk_at "ev"); (case kb => walk_at "ev"); (case kd => refine' rv_ne ?kc; rfl))
  | ((with_reducible refine' ev_un ?ka ru_neg); (case ka => walk_at "ev"))
  | ((with_reducible refine' et_test ?ka); (case ka => walk_at "ev")))

section
variable {P : Program} {w : World} {K : PySem.W.Frag} {mg : Str → Option Value} {base : Heap}
/-! ### cut -/
def dmCut : List PyData → PyData → Prop := fun ds d => ∃ l : List Int, l.length ≤ 50000 ∧ (ds = [dR l] ∨ ds = [.list (l.map .int)]) ∧ d = dR (M.cut l)
abbrev sp_cut (K : PySem.W.Frag) : Sp := spG (onD K dmCut) K
theorem cut_take : ∀ (l : List Int) (m : Nat), m ≤ l.length → (∀ i, m ≤ i → l.getD i 0 = 0) → (m = 0 ∨ l.getD (m - 1) 0 ≠ 0) → l.take m = M.cut l
  | [], m, h, _, _ => by
    have : m = 0 := by simpa using h
    subst this; rfl
  | c :: l, 0, _, hz, _ => by
    have ih := cut_take l 0 (Nat.zero_le _) (fun i _ => by simpa using hz (i + 1) (Nat.zero_le _)) (.inl rfl)
    have h0 : c = 0 := by simpa using hz 0 (Nat.le_refl _)
    show [] = M.cut (c :: l)
    unfold M.cut
    rw [← ih, h0]
    rfl
  | c :: l, m + 1, h, hz, hm => by
    have h' : m ≤ l.length := by simpa using h
    rcases Nat.eq_zero_or_pos m with rfl | hp
    · have ih := cut_take l 0 (Nat.zero_le _) (fun i _ => by simpa using hz (i + 1) (by omega)) (.inl rfl)
      have h0 : c ≠ 0 := by simpa using hm
      show [c] = M.cut (c :: l)
      unfold M.cut
      rw [← ih]
      show [c] = if c = 0 then [] else [c]
      rw [if_neg h0]
    · have ih := cut_take l m h' (fun i hi => by simpa using hz (i + 1) (by omega)) (.inr (by
        rcases hm with hm | hm
        · omega
        · obtain ⟨k, rfl⟩ : ∃ k, m = k + 1 := ⟨m - 1, by omega⟩
          simpa using hm))
      show c :: l.take m = M.cut (c :: l)
      unfold M.cut
      rw [ih]
      cases e : M.cut l with
      | nil =>
        rw [e] at ih
        have : l.length = 0 ∨ m = 0 := by
          have := congrArg List.length ih
          simp at this
          rcases this with h | h
          · exact .inr h
          · exact .inl (by rw [h]; rfl)
        omega
      | cons d r => rfl
def rd_cut (K : PySem.W.Frag) : TS := (tSeq (tAsg (tCB (rLenS K) (tCons (tVar 0) tNil)) (gName 1))
  (tSeq (tWhile (tAnd (tTest (tOp oGt (tVar 1) (tC (.int 0)))) (tTest (tOp rEq (tOp (rIx K) (tVar 0) (tOp oSub (tVar 1) (tC (.int 1)))) (tC (.int 0))))) (tAsg (tOp oSub (tVar 1) (tC (.int 1))) (gName 1)))
  (tRet (tCB (rTupleS K) (tCons (tSl (rSlS K) (tVar 0) tNoPart (tPart (tVar 1))) tNil)))))
theorem pu_cut {H : Hp} {v : V} {l : List Int} {Q : VK} (hl : l.length ≤ 50000) (hv : Dp K H v (dR l) ∨ Dp K H v (.list (l.map .int))) (q : ∀ v H2, Ex H H2 → Dp K H2 v (dR (M.cut l)) → Q v H2) :
    rd_cut K { nx := fun _ H' => Q .non H', rt := Q } (start ["row", "many"] [v]) H := by
  obtain ⟨dd, hdd, hv⟩ : ∃ dd : PyData, (dd = .tuple (l.map .int) ∨ dd = .list (l.map .int)) ∧ Dp K H v dd := by
    rcases hv with h | h
    · exact ⟨_, .inl rfl, h⟩
    · exact ⟨_, .inr rfl, h⟩
  have lv : ∀ {σ : L2.St}, σ[0]? = some (some v) → EvD K (tVar 0) σ H dd := fun h => d_var h hv
  refine q_asg (ev_lenD (lv rfl) hdd) fun H1 e1 => ?_
  rw [List.length_map]
  refine q_while (fun m σ' H' => σ' = [some v, some (.int (m : Int))] ∧ Ex H H' ∧ m ≤ l.length ∧ ∀ i, m ≤ i → l.getD i 0 = 0) l.length ⟨rfl, e1, Nat.le_refl _, fun i hi => getD_none hi⟩ ?_
  rintro m σ' H' ⟨rfl, e', hm, hz⟩
  have gt : EvT (tTest (tOp oGt (tVar 1) (tC (.int 0)))) [some v, some (.int (m : Int))] H' (decide (0 < m)) := et_is (by walk_at "ev") (by simp)
  have ei : 0 < m → Ev (tOp oSub (tVar 1) (tC (.int 1))) [some v, some (.int (m : Int))] H' (.int ((m - 1 : Nat) : Int)) := fun hp => ev_is (by walk_at "ev") (by congr 1; omega)
  refine ⟨decide (0 < m) && decide (l.getD (m - 1) 0 = 0), et_and gt fun hp => ?_, fun hb H2 e2 => ?_, fun hb H2 e2 => ?_⟩
  · have hp : 0 < m := of_decide_eq_true hp
    have hx : (l.map PyData.int)[m - 1]? = some (.int (l.getD (m - 1) 0)) := by
      rw [List.getElem?_map, List.getElem?_eq_getElem (by omega), getD_at (by omega)]
      rfl
    have ex := ev_int (d_ixS ((lv rfl).mono e') hdd (ei hp) (atI_nat hx))
    exact et_is (by walk_at "ev") (by simp)
  · simp only [Bool.and_eq_true, decide_eq_true_eq] at hb
    refine ⟨fun σ2 H3 => σ2 = [some v, some (.int ((m - 1 : Nat) : Int))] ∧ Ex H H3, fun σ2 H3 ⟨h1, h2⟩ => ⟨m - 1, by omega, h1, h2, by omega, fun i hi => ?_⟩, ?_⟩
    · by_cases c : i = m - 1
      · rw [c]; exact hb.2
      · exact hz i (by omega)
    · exact s_asg ((ei hb.1).mono e2) fun H3 e3 => ⟨rfl, (e'.trans e2).trans e3⟩
  · refine s_retD (d_tupleSlS ((lv rfl).mono (e'.trans e2)) hdd eo_none (eo_some (ev_var rfl))) fun v' H3 e3 p => q v' H3 ((e'.trans e2).trans e3) ?_
    rw [cutD_to, cut_take l m hm hz] at p
    · exact p
    · rcases Nat.eq_zero_or_pos m with h | h
      · exact .inl h
      · refine .inr fun z => ?_
        rw [decide_eq_true h, z] at hb
        cases hb
theorem ok_cut (T : Tx K mg) : Ok P w K mg base CX0 "cut" ["row"] 1 (sp_cut K) := by
  refine ok_ofG T.g_cut T.f_cut sc_cut (fun _ _ _ _ _ _ us hl => match us, hl with | [_], _ => rfl) (fun vs H d ⟨ds, ⟨l, _, e, _⟩, hd⟩ => ?_) (fun cdv A outer s H vs Q E d hr ⟨ds, ⟨l, hl, hds, ed⟩, hv⟩ q => ⟨rd_cut K, PSs.nox ((pss_cons (ps_set (i := 1) sc_cut.nd rfl (Or.inl rfl) (pe_len T.b_len (pv 0)))
  (pss_cons (ps_while PassesOwn.never (PW.pt (pw_and (pt_cmpR op_gt (pv 1) pe_int (nomark _)) (pw_and1 (pt_cmpR op_eq (pe_ix ix_seq (pv 0) (pe_op op_sub (pv 1) pe_int) (fun _ _ => rfl)) pe_int (nomark _))))) (pss_one (ps_set (i := 1) sc_cut.nd rfl (Or.inl rfl) (pe_op op_sub (pv 1) pe_int))))
  (pss_one (ps_ret (pe_tuplec T.b_tuple (pe_slice (sl_list.or sl_tupA) (pv 0) po_none (po_some (pv 1))))))))), ?_⟩)
  · rw [dpAll_len hd]
    rcases e with rfl | rfl <;> rfl
  · subst ed
    rcases hds with rfl | rfl
    · obtain ⟨v, rfl, h⟩ := dpAll_one hv
      exact pu_cut hl (.inl h) q
    · obtain ⟨v, rfl, h⟩ := dpAll_one hv
      exact pu_cut hl (.inr h) q
/-! ### poly_at -/
theorem val_step (f : List Int) (x : Int) {i : Nat} (h : i < f.length) : M.val (f.drop i) x = f.getD i 0 + x * M.val (f.drop (i + 1)) x := by
  rw [List.drop_eq_getElem_cons h, getD_at h]
  rfl
def dmPolyAt : List PyData → PyData → Prop := fun ds d => ∃ (f : List Int) (x : Int), f.length ≤ 50000 ∧ x.natAbs < 2 ^ 60 ∧ ds = [dR f, .int x] ∧ d = .int (M.val f x)
abbrev sp_poly_at (K : PySem.W.Frag) : Sp := spG (onD K dmPolyAt) K
def rd_poly_at (K : PySem.W.Frag) : TS := (tSeq (tAsg (tC (.int 0)) (gName 2))
  (tSeq (tFor (RT.iRevA K (tVar 0)) (gName 3)
  (tAsg (tOp oAdd (tOp oMul (tVar 2) (tVar 1)) (tVar 3)) (gName 2)))
  (tRet (tVar 2))))
theorem pu_poly_at {H : Hp} {v : V} {f : List Int} {x : Int} {Q : VK} (hx : x.natAbs < 2 ^ 60) (hv : Dp K H v (dR f)) (q : ∀ v H2, Ex H H2 → Dp K H2 v (.int (M.val f x)) → Q v H2) :
    rd_poly_at K { nx := fun _ H' => Q .non H', rt := Q } (start ["f", "x", "value", "place"] [v, .int x]) H := by
  obtain ⟨a, rfl, ha⟩ := dp_R hv
  refine q_asg ev_c fun H1 e1 => ?_
  refine q_forRT (ev_var rfl) (ex_t e1 ha) (fun i σ' H' => ∃ y, σ' = [some (.ref a), some (.int x), some (.int (M.val (f.drop (f.length - i)) x)), y] ∧ Ex H H') (fun H2 e2 => ⟨none, by rw [Nat.sub_zero, List.drop_length]; rfl, e1.trans e2⟩) (fun i σ' H' ⟨_, _, e⟩ => ex_t e ha) ?_ ?_
  · rintro i c σ' H' hi hc ⟨y, rfl, e'⟩
    rw [List.length_map] at hi hc
    obtain ⟨hl, rfl⟩ := of_V hc
    have e0 : f.length - i = f.length - 1 - i + 1 := by omega
    refine s_asg (v := .int (M.val (f.drop (f.length - (i + 1))) x)) (ev_is (ev_op (ev_op (ev_var rfl) (ev_var rfl) (rv_I (.inr ⟨by omega, by omega⟩))) (ev_var rfl) rv_I0) ?_) fun H2 e2 => ⟨_, rfl, e'.trans e2⟩
    rw [show f.length - (i + 1) = f.length - 1 - i by omega, val_step f x hl, e0, Int.add_comm, Int.mul_comm]
  · rintro σ' H' ⟨y, rfl, e'⟩
    rw [List.length_map, Nat.sub_self, List.drop_zero]
    exact s_ret (ev_var rfl) fun H2 e2 => q _ _ (e'.trans e2) (.int _)
theorem ok_poly_at (T : Tx K mg) : Ok P w K mg base CX0 "poly_at" ["f", "x"] 1 (sp_poly_at K) := by
  refine ok_ofG T.g_poly_at T.f_poly_at sc_poly_at (fun _ _ _ _ _ _ us hl => match us, hl with | [_, _], _ => rfl) (fun vs H d ⟨ds, ⟨f, x, _, _, e, _⟩, hd⟩ => by rw [dpAll_len hd, e]; rfl) (fun cdv A outer s H vs Q E d hr ⟨ds, ⟨f, x, hl, hx, hds, ed⟩, hv⟩ q => ⟨rd_poly_at K, PSs.nox ((pss_cons (ps_set (i := 2) sc_poly_at.nd rfl (Or.inl rfl) pe_int)
  (pss_cons (ps_for PassesOwn.never rfl (RT.pi_revA (by rfl) T.b_reversed (pv 0)) (pg_name (i := 3) sc_poly_at.nd rfl (Or.inl rfl))
  (pss_one (ps_set (i := 2) sc_poly_at.nd rfl (Or.inl rfl) (pe_op op_add (pe_op op_mul (pv 2) (pv 1)) (pv 3)))))
  (pss_one (ps_ret (pv 2)))))), ?_⟩)
  subst ed hds
  obtain ⟨v, u, rfl, h1, h2⟩ := dpAll_two hv
  rw [dp_int h2]
  exact pu_poly_at hx h1 q
/-! ### mod_at -/
def dmModAt : List PyData → PyData → Prop := fun ds d => ∃ (f : List Int) (x p : Int), f.length ≤ 50000 ∧ x.natAbs < 2 ^ 60 ∧ 0 < p ∧ ds = [dR f, .int x, .int p] ∧ d = .int (M.val f x % p)
abbrev sp_mod_at (K : PySem.W.Frag) : Sp := spG (onD K dmModAt) K
def rd_mod_at (K : PySem.W.Frag) : TS := (tSeq (tAsg (tC (.int 0)) (gName 3))
  (tSeq (tFor (RT.iRevA K (tVar 0)) (gName 4)
  (tAsg (tOp oMod (tOp oAdd (tOp oMul (tVar 3) (tVar 1)) (tVar 4)) (tVar 2)) (gName 3)))
  (tRet (tVar 3))))
theorem pu_mod_at {H : Hp} {v : V} {f : List Int} {x p : Int} {Q : VK} (hx : x.natAbs < 2 ^ 60) (hp : 0 < p) (hv : Dp K H v (dR f)) (q : ∀ v H2, Ex H H2 → Dp K H2 v (.int (M.val f x % p)) → Q v H2) :
    rd_mod_at K { nx := fun _ H' => Q .non H', rt := Q } (start ["f", "x", "p", "value", "place"] [v, .int x, .int p]) H := by
  obtain ⟨a, rfl, ha⟩ := dp_R hv
  refine q_asg ev_c fun H1 e1 => ?_
  refine q_forRT (ev_var rfl) (ex_t e1 ha) (fun i σ' H' => ∃ y, σ' = [some (.ref a), some (.int x), some (.int p), some (.int (M.val (f.drop (f.length - i)) x % p)), y] ∧ Ex H H') (fun H2 e2 => ⟨none, by rw [Nat.sub_zero, List.drop_length]; show _ = [_, _, _, some (V.int (0 % p)), _]; rw [Int.zero_emod]; rfl, e1.trans e2⟩) (fun i σ' H' ⟨_, _, e⟩ => ex_t e ha) ?_ ?_
  · rintro i c σ' H' hi hc ⟨y, rfl, e'⟩
    rw [List.length_map] at hi hc
    obtain ⟨hl, rfl⟩ := of_V hc
    have e0 : f.length - i = f.length - 1 - i + 1 := by omega
    refine s_asg (v := .int (M.val (f.drop (f.length - (i + 1))) x % p)) (ev_is (ev_op (ev_op (ev_op (ev_var rfl) (ev_var rfl) (rv_I (.inr ⟨by omega, by omega⟩))) (ev_var rfl) rv_I0) (ev_var rfl) (rv_I hp)) ?_) fun H2 e2 => ⟨_, rfl, e'.trans e2⟩
    rw [show f.length - (i + 1) = f.length - 1 - i by omega, val_step f x hl, e0]
    congr 1
    rw [Int.add_comm, Int.mul_comm, Int.add_emod, Int.mul_emod, Int.emod_emod, ← Int.mul_emod, ← Int.add_emod]
  · rintro σ' H' ⟨y, rfl, e'⟩
    rw [List.length_map, Nat.sub_self, List.drop_zero]
    exact s_ret (ev_var rfl) fun H2 e2 => q _ _ (e'.trans e2) (.int _)
theorem ok_mod_at (T : Tx K mg) : Ok P w K mg base CX0 "mod_at" ["f", "x", "p"] 1 (sp_mod_at K) := by
  refine ok_ofG T.g_mod_at T.f_mod_at sc_mod_at (fun _ _ _ _ _ _ us hl => match us, hl with | [_, _, _], _ => rfl) (fun vs H d ⟨ds, ⟨f, x, p, _, _, _, e, _⟩, hd⟩ => by rw [dpAll_len hd, e]; rfl) (fun cdv A outer s H vs Q E d hr ⟨ds, ⟨f, x, p, hl, hx, hp, hds, ed⟩, hv⟩ q => ⟨rd_mod_at K, PSs.nox ((pss_cons (ps_set (i := 3) sc_mod_at.nd rfl (Or.inl rfl) pe_int)
  (pss_cons (ps_for PassesOwn.never rfl (RT.pi_revA (by rfl) T.b_reversed (pv 0)) (pg_name (i := 4) sc_mod_at.nd rfl (Or.inl rfl))
  (pss_one (ps_set (i := 3) sc_mod_at.nd rfl (Or.inl rfl) (pe_op op_mod (pe_op op_add (pe_op op_mul (pv 3) (pv 1)) (pv 4)) (pv 2)))))
  (pss_one (ps_ret (pv 3)))))), ?_⟩)
  subst ed hds
  obtain ⟨v, u, z, rfl, h1, h2, h3⟩ := dpAll_three hv
  rw [dp_int h2, dp_int h3]
  exact pu_mod_at hx hp h1 q
/-! ### mod_poly -/
def dmModPoly : List PyData → PyData → Prop := fun ds d => ∃ (f : List Int) (p : Int), f.length ≤ 30000 ∧ 0 < p ∧ ds = [dR f, .int p] ∧ d = dR (M.modPoly f p)
abbrev sp_mod_poly (K : PySem.W.Frag) : Sp := spG (onD K dmModPoly) K
def rd_mod_poly (K : PySem.W.Frag) : TS := (tRet (tCall (sp_cut K) [] E0 (tCons (tLc (iTup K (tVar 0)) (gName 2) tYes (tOp oMod (tVar 2) (tVar 1)) [2]) tNil)))
theorem pu_mod_poly {H : Hp} {v : V} {f : List Int} {p : Int} {Q : VK} (hl : f.length ≤ 30000) (hp : 0 < p) (hv : Dp K H v (dR f)) (q : ∀ v H2, Ex H H2 → Dp K H2 v (dR (M.modPoly f p)) → Q v H2) :
    rd_mod_poly K { nx := fun _ H' => Q .non H', rt := Q } (start ["row", "p", "place"] [v, .int p]) H := by
  obtain ⟨a, rfl, ha⟩ := dp_R hv
  have hc := n_lcT (K := K) (tl := tVar 0) (te := tOp oMod (tVar 2) (tVar 1)) (t := tYes) (vs := [2]) (j := 2) (σ := [some (.ref a), some (.int p), none]) (H := H) (fun i => ((f.map (· % p)).take i).map PyData.int) (ev_var rfl) ha rfl (fun i hi => ⟨by rw [List.length_map, List.length_take, List.length_map]; omega, tOs_ints _⟩) (fun x => rfl)
    (fun i x H1 e1 hx => ⟨true, t_yes, fun _ => by
      obtain ⟨hi, rfl⟩ := of_V hx
      refine ⟨.int (f.getD i 0 % p), by simp [tO], d_int (ev_op (ev_var rfl) (ev_var rfl) (rv_I hp)), ?_⟩
      rw [List.take_add_one, List.getElem?_map, List.getElem?_eq_getElem hi, getD_at hi, List.map_append]
      rfl, fun h => by cases h⟩)
  refine s_retD (d_call (a_cons (d_ofN hc) a_nil) (dom := dmCut) (d := dR (M.modPoly f p)) ⟨f.map (· % p), by rw [List.length_map]; omega, .inr ?_, rfl⟩) fun v H1 e1 h => q v H1 e1 h
  rw [List.length_map, List.take_of_length_le (by rw [List.length_map]; exact Nat.le_refl _)]
theorem ok_mod_poly (T : Tx K mg) : Ok P w K mg base CX0 "mod_poly" ["row", "p"] 2 (sp_mod_poly K) := by
  have O_cut := ok_cut (P := P) (w := w) (base := base) T
  refine ok_ofG T.g_mod_poly T.f_mod_poly sc_mod_poly (fun _ _ _ _ _ _ us hl => match us, hl with | [_, _], _ => rfl) (fun vs H d ⟨ds, ⟨f, p, _, _, e, _⟩, hd⟩ => by rw [dpAll_len hd, e]; rfl) (fun cdv A outer s H vs Q E d hr ⟨ds, ⟨f, p, hl, hp, hds, ed⟩, hv⟩ q => ⟨rd_mod_poly K, PSs.nox ((pss_one (ps_ret (pe_fn O_cut (hr.mono (by decide)) (pa_cons (pe_lc (own := [("place", 2)]) (g := gName 2) (tt := tYes) rfl sc_mod_poly.nd (pi_tup (pv 0)) (blkOk_by (own := [("place", 2)]) (N := ["row", "p", "place"]) (sc := defScope s_mod_poly) (by decide +kernel)) (fun _ _ _ _ _ => (pg_name (i := 2) sc_mod_poly.nd rfl (Or.inl rfl))) (fun _ _ _ _ _ => pts_nil) (fun _ _ _ _ _ => (pe_op op_mod (pv 2) (pv 1)))) pa_nil))))), ?_⟩)
  subst ed hds
  obtain ⟨v, u, rfl, h1, h2⟩ := dpAll_two hv
  rw [dp_int h2]
  exact pu_mod_poly hl hp h1 q
end
end K41
set_option Elab.async false
set_option linter.all false
set_option maxRecDepth 100000
set_option maxHeartbeats 4000000
namespace K41
open PySem PySem.Spec PyProof.Rows L2 Evl
local macro_rules | `(tactic| walk_at "cc") => `(tactic| first
  | assumption
  | (with_reducible show (0 : Int) < _; omega)
  | exact Or.inl ⟨by omega, by omega⟩
  | exact Or.inr ⟨by omega, by omega⟩
  | exact And.intro (by omega) (by omega)
  | (show (0 : Int) < _; omega)
  | omega)
local macro_rules | `(tactic| walk_at "ev") => `(tactic| first
  | assumption
  | with_reducible exact ev_c
  | exact ev_var rfl
  | ((with_reducible refine' ev_op ?ka ?kb rv_I0); (case ka => walk_at "ev"); (case kb => walk_at "ev"))
  | ((with_reducible refine' ev_op ?ka ?kb (rv_I ?kc)); (case ka => walk_at "ev"); (case kb => walk_at "ev"); (case kc => walk_at "cc"))
  | ((with_reducible refine' ev_op (r := rEq) ?ka ?kb ?kd); (case ka => walk_at "ev"); (case kb => walk_at "ev"); (case kd => refine' rv_eq ?kc; rfl))
  | ((with_reducible refine' ev_op (r := rNe) ?ka ?kb ?kd); (case ka => walk_at "ev"); (case kb => walk_at "ev"); (case kd => refine' rv_ne ?kc; rfl))
  | ((with_reducible refine' ev_un ?ka ru_neg); (case ka => walk_at "ev"))
  | ((with_reducible refine' et_test ?ka); (case ka => walk_at "ev")))

section
variable {P : Program} {w : World} {K : PySem.W.Frag} {mg : Str → Option Value} {base : Heap}
/-! ### poly_parted -/
theorem subTo_len (g : List Int) (part : Int) (a : Nat) (l : List Int) : ∀ j, (M.subTo g part a j l).length = l.length
  | 0 => rfl
  | j + 1 => by
    show (List.set _ _ _).length = _
    rw [List.length_set, subTo_len g part a l j]
theorem divTo_len (g : List Int) (d k : Nat) (l : List Int) : ∀ i, (M.divTo g d k l i).1.length = l.length ∧ (M.divTo g d k l i).2.length = i
  | 0 => ⟨rfl, rfl⟩
  | i + 1 => by
    obtain ⟨h1, h2⟩ := divTo_len g d k l i
    refine ⟨?_, ?_⟩
    · show (M.subTo _ _ _ _ _).length = _
      rw [subTo_len, h1]
    · show (_ ++ [_]).length = _
      rw [List.length_append, h2]
      rfl
theorem small_at {g : List Int} {n : Nat} (h : ∀ c ∈ g, c.natAbs < n) (h0 : 0 < n) (j : Nat) : (g.getD j 0).natAbs < n := by
  by_cases hj : j < g.length
  · rw [getD_at hj]
    exact h _ (List.getElem_mem hj)
  · rw [getD_none (by omega)]
    exact h0
def dmPolyParted : List PyData → PyData → Prop := fun ds d => ∃ f g : List Int, f.length ≤ 1000 ∧ g.length ≤ 1000 ∧ 1 ≤ g.length ∧ (∀ c ∈ g, c.natAbs < 2 ^ 60) ∧ ds = [dR f, dR g] ∧ d = .tuple [dR (M.polyParted f g).1, dR (M.polyParted f g).2]
abbrev sp_poly_parted (K : PySem.W.Frag) : Sp := spG (onD K dmPolyParted) K
def rd_poly_parted (K : PySem.W.Frag) : TS := (tSeq (tAsg (tOp oSub (tCB (rLenS K) (tCons (tVar 1) tNil)) (tC (.int 1))) (gName 2))
  (tSeq (tAsg (tCB (rListS K) (tCons (tVar 0) tNil)) (gName 3))
  (tSeq (tAsg (tLst tNil) (gName 4))
  (tSeq (tFor (iRng3 (tCons (tOp oSub (tOp oSub (tCB (rLenS K) (tCons (tVar 0) tNil)) (tC (.int 1))) (tVar 2)) (tCons (tUn uNeg (tC (.int 1))) (tCons (tUn uNeg (tC (.int 1))) tNil)))) (gName 5)
  (tSeq (tAsg (tOp (rIxL K) (tVar 3) (tOp oAdd (tVar 5) (tVar 2))) (gName 6))
  (tSeq (tDrop (tBM K "list" rAppend (tVar 4) (tCons (tVar 6) tNil)))
  (tFor (iRng1 (tCons (tOp oAdd (tVar 2) (tC (.int 1))) tNil)) (gName 7)
  (tAugS (tVar 3) (tOp oAdd (tVar 5) (tVar 7)) (tOp oMul (tVar 6) (tOp (rIxT K) (tVar 1) (tVar 7))) (rGetL K) (ipI fun i j => i - j) rSetL)))))
  (tRet (tTup (tCons (tCall (sp_cut K) [] E0 (tCons (tRevL K (tVar 4)) tNil)) (tCons (tCall (sp_cut K) [] E0 (tCons (tSl (rSlL K) (tVar 3) tNoPart (tPart (tVar 2))) tNil)) tNil))))))))
theorem pu_poly_parted {H : Hp} {v u : V} {f g : List Int} {Q : VK} (hf : f.length ≤ 1000) (hg : g.length ≤ 1000) (hg1 : 1 ≤ g.length) (hs : ∀ c ∈ g, c.natAbs < 2 ^ 60) (hv : Dp K H v (dR f)) (hu : Dp K H u (dR g))
    (q : ∀ v H2, Ex H H2 → Dp K H2 v (.tuple [dR (M.polyParted f g).1, dR (M.polyParted f g).2]) → Q v H2) :
    rd_poly_parted K { nx := fun _ H' => Q .non H', rt := Q } (start ["f", "g", "degree", "left", "quotient", "at", "part", "j"] [v, u]) H := by
  obtain ⟨d, ed⟩ : ∃ d, g.length = d + 1 := ⟨g.length - 1, by omega⟩
  -- degree, left, quotient
  refine q_asg (v := .int (d : Int)) (ev_is (ev_op (ev_lenD (d_var rfl hu) (.inl rfl)) ev_c rv_I0) (by rw [List.length_map, ed]; congr 1; omega)) fun H1 e1 => ?_
  refine q_asgN ((n_list (d_var rfl hv) (.inl rfl)).mono e1) fun pl xs H2 nl e2 hl hxs => ?_
  rw [dpAll_intsV hxs] at hl
  refine q_asgL (el_lst (vs := []) ea_nil (by decide)) fun pq H3 nq e3 hq => ?_
  have npq : pl ≠ pq := ne_of_none hl nq
  have nl0 : H pl = none := fresh_back e1 nl
  have nq0 : H pq = none := fresh_back (e1.trans e2) nq
  have e03 : Ex H H3 := (e1.trans e2).trans e3
  -- the loop
  refine q_forDn (a := (f.length : Int) - 1 - (d : Int)) (b := -1) (ea_cons (ev_op (ev_op ((ev_lenD (d_var rfl hv) (.inl rfl)).mono e03) ev_c rv_I0 |> fun z => ev_is z (by rw [List.length_map])) (ev_var rfl) rv_I0) (ea_cons (ev_un ev_c ru_neg) (ea_cons (ev_un ev_c ru_neg) ea_nil))) ⟨by omega, by omega, by omega, by omega⟩
    (fun i σ' H' => ∃ y1 y2 y3, σ' = [some v, some u, some (.int (d : Int)), some (.ref pl), some (.ref pq), y1, y2, y3] ∧ Ex H H' ∧ H' pl = some (.lst ((M.divTo g d (f.length - d) f i).1.map V.int)) ∧ H' pq = some (.lst ((M.divTo g d (f.length - d) f i).2.map V.int)))
    (fun H4 e4 => ⟨none, none, none, rfl, e03.trans e4, e4 _ _ (e3 _ _ hl), e4 _ _ hq⟩) ?_ ?_
  · rintro i σ' H' hi ⟨y1, y2, y3, rfl, e', hpl, hpq⟩
    have hi' : i < f.length - d := by omega
    obtain ⟨len1, len2⟩ := divTo_len g d (f.length - d) f i
    have eat : (f.length : Int) - 1 - (d : Int) - (i : Int) = ((f.length - d - 1 - i : Nat) : Int) := by omega
    rw [eat]
    -- part
    refine q_asg (v := .int ((M.divTo g d (f.length - d) f i).1.getD (f.length - d - 1 - i + d) 0)) (ev_lst (i := f.length - d - 1 - i + d) hpl (ev_var rfl) (ev_is (ev_op (ev_var rfl) (ev_var rfl) rv_I0) (by congr 1)) (by omega)) fun H4 e4 => ?_
    refine q_app (e4 _ _ hpq) (ev_var rfl) (ev_var rfl) (by rw [List.length_map]; omega) fun H5 e5 => ?_
    have npq' : pl ≠ pq := npq
    -- the inner loop
    refine s_forR1 (n := (d : Int) + 1) (ea_cons (ev_op (ev_var rfl) ev_c rv_I0) ea_nil) ⟨by omega, by omega⟩
      (fun j σ' H' => ∃ y3, σ' = [some v, some u, some (.int (d : Int)), some (.ref pl), some (.ref pq), some (.int ((f.length - d - 1 - i : Nat) : Int)), some (.int ((M.divTo g d (f.length - d) f i).1.getD (f.length - d - 1 - i + d) 0)), y3] ∧ Ex H H' ∧
        H' pl = some (.lst ((M.subTo g ((M.divTo g d (f.length - d) f i).1.getD (f.length - d - 1 - i + d) 0) (f.length - d - 1 - i) j (M.divTo g d (f.length - d) f i).1).map V.int)) ∧ H' pq = some (.lst ((M.divTo g d (f.length - d) f (i + 1)).2.map V.int)))
      (fun H6 e6 => ⟨y3, rfl, (Ex.mut ((e'.trans e4).trans e5) nq0).trans e6, e6 _ _ (by rw [upd_ne npq']; exact e5 _ _ (e4 _ _ hpl)), e6 _ _ (by
        rw [upd_same]
        show _ = some (HO.lst ((_ ++ [_]).map V.int))
        rw [List.map_append]
        rfl)⟩) ?_ ?_
    · rintro j σ2 H6 hj ⟨y3, rfl, e6, hl6, hq6⟩
      have hj' : j ≤ d := by omega
      have sl := subTo_len g ((M.divTo g d (f.length - d) f i).1.getD (f.length - d - 1 - i + d) 0) (f.length - d - 1 - i) (M.divTo g d (f.length - d) f i).1 j
      refine s_augL (f := fun i j => i - j) (j := f.length - d - 1 - i + j) hl6 (ev_var rfl) (ev_is (ev_op (ev_var rfl) (ev_var rfl) rv_I0) (by congr 1)) (at_V (by omega)) (ev_op (ev_var rfl) ((ev_row (d_var rfl hu) (ev_var rfl) (by omega)).mono e6) (rv_I (.inr ?_))) fun H7 e7 => ?_
      · have := small_at hs (by decide) j
        omega
      · refine ⟨_, rfl, Ex.mut (e6.trans e7) nl0, ?_, ?_⟩
        · rw [upd_same]
          show _ = some (HO.lst ((List.set _ _ _).map V.int))
          rw [List.map_set]
        · rw [upd_ne npq.symm]
          exact e7 _ _ hq6
    · rintro σ2 H6 ⟨y3, rfl, e6, hl6, hq6⟩
      have ej : ((d : Int) + 1).toNat = d + 1 := by omega
      rw [ej] at hl6
      exact ⟨_, _, _, rfl, e6, hl6, hq6⟩
  · rintro σ' H' ⟨y1, y2, y3, rfl, e', hpl, hpq⟩
    have ek : ((f.length : Int) - 1 - (d : Int) - (-1)).toNat = f.length - d := by omega
    rw [ek] at hpl hpq
    obtain ⟨len1, len2⟩ := divTo_len g d (f.length - d) f (f.length - d)
    have dq : EvD K (tVar 4) [some v, some u, some (.int (d : Int)), some (.ref pl), some (.ref pq), y1, y2, y3] H' (.list ((M.divTo g d (f.length - d) f (f.length - d)).2.map PyData.int)) := d_var rfl (.lst (sq_of hpq) (dpAll_ints _))
    have dl : EvD K (tVar 3) [some v, some u, some (.int (d : Int)), some (.ref pl), some (.ref pq), y1, y2, y3] H' (.list ((M.divTo g d (f.length - d) f (f.length - d)).1.map PyData.int)) := d_var rfl (.lst (sq_of hpl) (dpAll_ints _))
    have ee : g.length - 1 = d := by omega
    have ef : f.length + 1 - g.length = f.length - d := by omega
    refine s_retD (d_tup (a_cons (d_call (a_cons (d_ofN (n_revL dq)) a_nil) (dom := dmCut) (d := dR (M.polyParted f g).1) ⟨_, ?_, .inr (by rw [← List.map_reverse]), ?_⟩) (a_cons (d_call (a_cons (d_ofN (n_slL dl eo_none (eo_some (ev_var rfl)))) a_nil) (dom := dmCut) (d := dR (M.polyParted f g).2) ⟨_, ?_, .inr (by rw [cutD_to]), ?_⟩) a_nil)) (K41.len2 _ _)) fun v' H4 e4 p => q v' H4 (e'.trans e4) p
    · rw [List.length_reverse]; omega
    · unfold M.polyParted; rw [ee, ef]
    · rw [List.length_take]; omega
    · unfold M.polyParted; rw [ee, ef]
theorem ok_poly_parted (T : Tx K mg) : Ok P w K mg base CX0 "poly_parted" ["f", "g"] 2 (sp_poly_parted K) := by
  have O_cut := ok_cut (P := P) (w := w) (base := base) T
  refine ok_ofG T.g_poly_parted T.f_poly_parted sc_poly_parted (fun _ _ _ _ _ _ us hl => match us, hl with | [_, _], _ => rfl) (fun vs H d ⟨ds, ⟨f, g, _, _, _, _, e, _⟩, hd⟩ => by rw [dpAll_len hd, e]; rfl) (fun cdv A outer s H vs Q E d hr ⟨ds, ⟨f, g, h1, h2, h3, h4, hds, ed⟩, hv⟩ q => ⟨rd_poly_parted K, PSs.nox ((pss_cons (ps_set (i := 2) sc_poly_parted.nd rfl (Or.inl rfl) (pe_op op_sub (pe_len T.b_len (pv 1)) pe_int))
  (pss_cons (ps_set (i := 3) sc_poly_parted.nd rfl (Or.inl rfl) (pe_listc T.b_list (pv 0)))
  (pss_cons (ps_set (i := 4) sc_poly_parted.nd rfl (Or.inl rfl) (pe_lst pa_nil))
  (pss_cons (ps_for PassesOwn.never rfl (pi_range3 (by rfl) T.b_range (pa_cons (pe_op op_sub (pe_op op_sub (pe_len T.b_len (pv 0)) pe_int) (pv 2)) (pa_cons (pe_un un_neg pe_int) (pa_cons (pe_un un_neg pe_int) pa_nil)))) (pg_name (i := 5) sc_poly_parted.nd rfl (Or.inl rfl))
  (pss_cons (ps_set (i := 6) sc_poly_parted.nd rfl (Or.inl rfl) (pe_ix ix_list (pv 3) (pe_op op_add (pv 5) (pv 2)) (fun _ _ => rfl)))
  (pss_cons (ps_expr (pe_bm PySem.F.plainAttrs_list PySem.F.slot_list_append PySem.F.type_list_append mt_append (pv 4) (pa_cons (pv 6) pa_nil)))
  (pss_one (ps_for PassesOwn.never rfl (pi_range1 (by rfl) T.b_range (pa_cons (pe_op op_add (pv 2) pe_int) pa_nil)) (pg_name (i := 7) sc_poly_parted.nd rfl (Or.inl rfl))
  (pss_one (ps_augS (pv 3) (pe_op op_add (pv 5) (pv 7)) get_list (pe_op op_mul (pv 6) (pe_ix ix_tup (pv 1) (pv 7) (fun _ _ => rfl))) ip_sub set_list)))))))
  (pss_one (ps_ret (pe_tup (pa_cons (pe_fn O_cut (hr.mono (by decide)) (pa_cons (pe_revL (pv 4)) pa_nil)) (pa_cons (pe_fn O_cut (hr.mono (by decide)) (pa_cons (pe_slice sl_list (pv 3) po_none (po_some (pv 2))) pa_nil)) pa_nil)))))))))), ?_⟩)
  subst ed hds
  obtain ⟨v, u, rfl, k1, k2⟩ := dpAll_two hv
  exact pu_poly_parted h1 h2 h3 h4 k1 k2 q
/-! ### turned -/
def dmTurned : List PyData → PyData → Prop := fun ds d => ∃ a p : Int, 0 < p ∧ p ≤ 1000 ∧ ds = [.int a, .int p] ∧ d = .int (M.turned a p)
abbrev sp_turned (K : PySem.W.Frag) : Sp := spG (onD K dmTurned) K
def rd_turned (K : PySem.W.Frag) : TS := (tSeq (tAsg (tOp oMod (tVar 0) (tVar 1)) (gName 2))
  (tSeq (tAsg (tVar 1) (gName 3))
  (tSeq (tAsg (tC (.int 1)) (gName 4))
  (tSeq (tAsg (tC (.int 0)) (gName 5))
  (tSeq (tWhile (tTest (tOp oGt (tVar 2) (tC (.int 1)))) (tSeq (tAsg (tOp oDiv (tVar 3) (tVar 2)) (gName 6))
  (tSeq (tPar 2 3 (tCons (tOp oSub (tVar 3) (tOp oMul (tVar 6) (tVar 2))) (tCons (tVar 2) tNil)))
  (tPar 4 5 (tCons (tOp oSub (tVar 5) (tOp oMul (tVar 6) (tVar 4))) (tCons (tVar 4) tNil))))))
  (tRet (tOp oMod (tVar 4) (tVar 1))))))))
theorem pu_turned {H : Hp} {a p : Int} {Q : VK} (hp : 0 < p) (hp2 : p ≤ 1000) (q : ∀ v H2, Ex H H2 → Dp K H2 v (.int (M.turned a p)) → Q v H2) :
    rd_turned K { nx := fun _ H' => Q .non H', rt := Q } (start ["a", "p", "one", "two", "first", "second", "part"] [.int a, .int p]) H := by
  refine q_asg (ev_op (ev_var rfl) (ev_var rfl) (rv_I hp)) fun H1 e1 => q_asg (ev_var rfl) fun H2 e2 => q_asg ev_c fun H3 e3 => q_asg ev_c fun H4 e4 => ?_
  have b0 := Int.emod_nonneg a (show p ≠ 0 by omega)
  have b1 := Int.emod_lt_of_pos a hp
  refine q_while (fun m σ' H' => ∃ (one two first second : Int) (y : Option V), σ' = [some (.int a), some (.int p), some (.int one), some (.int two), some (.int first), some (.int second), y] ∧ Ex H H' ∧ 0 ≤ one ∧ one ≤ 1000 ∧ 0 ≤ two ∧ two ≤ 1000 ∧ one.toNat ≤ m ∧ M.turnGo m one two first second = M.turnGo p.toNat (a % p) p 1 0) p.toNat
    ⟨_, _, _, _, none, rfl, ((e1.trans e2).trans e3).trans e4, b0, by omega, by omega, by omega, by omega, rfl⟩ ?_
  rintro m σ' H' ⟨one, two, first, second, y, rfl, e', h1, h2, h3, h4, h5, h6⟩
  refine ⟨decide (1 < one), by walk_at "ev", fun hb H5 e5 => ?_, fun hb H5 e5 => ?_⟩
  · have hb : 1 < one := of_decide_eq_true hb
    obtain ⟨m', rfl⟩ : ∃ m', m = m' + 1 := ⟨m - 1, by omega⟩
    have dm := Int.emod_add_mul_ediv two one
    have r0 := Int.emod_nonneg two (show one ≠ 0 by omega)
    have r1 := Int.emod_lt_of_pos two (show 0 < one by omega)
    have ec : two / one * one = one * (two / one) := Int.mul_comm _ _
    have er : two - two / one * one = two % one := by omega
    have p0 := Int.ediv_nonneg h3 h1
    have p1 : two / one ≤ 1000 := by
      have := Int.ediv_le_self (b := one) h3
      exact Int.le_trans this h4
    have mb : CMul (two / one) one := .inl ⟨by omega, by omega⟩
    have mb2 : CMul (two / one) first := .inl ⟨by omega, by omega⟩
    refine ⟨fun σ2 H6 => ∃ y : Option V, σ2 = [some (.int a), some (.int p), some (.int (two - two / one * one)), some (.int one), some (.int (second - two / one * first)), some (.int first), y] ∧ Ex H H6, ?_, ?_⟩
    · rintro σ2 H6 ⟨y, rfl, e6⟩
      refine ⟨m', by omega, _, _, _, _, y, rfl, e6, by omega, by omega, by omega, by omega, by omega, ?_⟩
      rw [← h6]
      show _ = if 1 < one then _ else _
      rw [if_pos hb]
    · refine q_asg (v := .int (two / one)) (ev_op (ev_var rfl) (ev_var rfl) (rv_I ⟨by omega, by omega⟩)) fun H6 e6 => ?_
      refine q_par (ea_cons (ev_op (ev_var rfl) (ev_op (ev_var rfl) (ev_var rfl) (rv_I mb)) rv_I0) (ea_cons (ev_var rfl) ea_nil)) fun H7 e7 => ?_
      exact s_par (ea_cons (ev_op (ev_var rfl) (ev_op (ev_var rfl) (ev_var rfl) (rv_I mb2)) rv_I0) (ea_cons (ev_var rfl) ea_nil)) fun H8 e8 => ⟨_, rfl, (((e'.trans e5).trans e6).trans e7).trans e8⟩
  · have hb : ¬ 1 < one := of_decide_eq_false hb
    have ef : first = M.turnGo p.toNat (a % p) p 1 0 := by
      rw [← h6]
      cases m with
      | zero => rfl
      | succ m =>
        show _ = if 1 < one then _ else _
        rw [if_neg hb]
    exact s_ret (ev_op (ev_var rfl) (ev_var rfl) (rv_I hp)) fun H6 e6 => q _ _ ((e'.trans e5).trans e6) (by rw [ef]; exact .int _)
theorem ok_turned (T : Tx K mg) : Ok P w K mg base CX0 "turned" ["a", "p"] 1 (sp_turned K) := by
  refine ok_ofG T.g_turned T.f_turned sc_turned (fun _ _ _ _ _ _ us hl => match us, hl with | [_, _], _ => rfl) (fun vs H d ⟨ds, ⟨a, p, _, _, e, _⟩, hd⟩ => by rw [dpAll_len hd, e]; rfl) (fun cdv A outer s H vs Q E d hr ⟨ds, ⟨a, p, h1, h2, hds, ed⟩, hv⟩ q => ⟨rd_turned K, PSs.nox ((pss_cons (ps_set (i := 2) sc_turned.nd rfl (Or.inl rfl) (pe_op op_mod (pv 0) (pv 1)))
  (pss_cons (ps_set (i := 3) sc_turned.nd rfl (Or.inl rfl) (pv 1))
  (pss_cons (ps_set (i := 4) sc_turned.nd rfl (Or.inl rfl) pe_int)
  (pss_cons (ps_set (i := 5) sc_turned.nd rfl (Or.inl rfl) pe_int)
  (pss_cons (ps_while PassesOwn.never (pt_cmpR op_gt (pv 2) pe_int (nomark _)) (pss_cons (ps_set (i := 6) sc_turned.nd rfl (Or.inl rfl) (pe_op op_fdiv (pv 3) (pv 2)))
  (pss_cons (ps_par (i := 2) (j := 3) rfl sc_turned.nd rfl rfl (by decide) rfl rfl (pa_cons (pe_op op_sub (pv 3) (pe_op op_mul (pv 6) (pv 2))) (pa_cons (pv 2) pa_nil)) (by rfl))
  (pss_one (ps_par (i := 4) (j := 5) rfl sc_turned.nd rfl rfl (by decide) rfl rfl (pa_cons (pe_op op_sub (pv 5) (pe_op op_mul (pv 6) (pv 4))) (pa_cons (pv 4) pa_nil)) (by rfl))))))
  (pss_one (ps_ret (pe_op op_mod (pv 4) (pv 1)))))))))), ?_⟩)
  subst ed hds
  obtain ⟨v, u, rfl, k1, k2⟩ := dpAll_two hv
  rw [dp_int k1, dp_int k2]
  exact pu_turned h1 h2 q
/-! ### mod_parted -/
theorem cut_len : ∀ l : List Int, (M.cut l).length ≤ l.length
  | [] => Nat.le_refl _
  | c :: l => by
    have ih := cut_len l
    unfold M.cut
    cases e : M.cut l with
    | nil =>
      show (if c = 0 then [] else [c] : List Int).length ≤ _
      split
      · exact Nat.zero_le _
      · simp
    | cons d r =>
      rw [e] at ih
      simp at ih ⊢
      exact ih
theorem modPoly_len (l : List Int) (p : Int) : (M.modPoly l p).length ≤ l.length := by
  have := cut_len (l.map (· % p))
  rwa [List.length_map] at this
theorem msubTo_len (p : Int) (g : List Int) (part : Int) (a : Nat) (l : List Int) : ∀ j, (M.msubTo p g part a j l).length = l.length
  | 0 => rfl
  | j + 1 => by
    show (List.set _ _ _).length = _
    rw [List.length_set, msubTo_len p g part a l j]
theorem mdivTo_len (p back : Int) (g : List Int) (d k : Nat) (l : List Int) : ∀ i, (M.mdivTo p back g d k l i).1.length = l.length ∧ (M.mdivTo p back g d k l i).2.length = i
  | 0 => ⟨rfl, rfl⟩
  | i + 1 => by
    obtain ⟨h1, h2⟩ := mdivTo_len p back g d k l i
    refine ⟨?_, ?_⟩
    · show (M.msubTo _ _ _ _ _ _).length = _
      rw [msubTo_len, h1]
    · show (_ ++ [_]).length = _
      rw [List.length_append, h2]
      rfl
theorem turned_small (a : Int) {p : Int} (hp : 0 < p) (h2 : p ≤ 1000) : 0 ≤ M.turned a p ∧ M.turned a p < 1000 := by
  have b0 := Int.emod_nonneg (M.turnGo p.toNat (a % p) p 1 0) (show p ≠ 0 by omega)
  have b1 := Int.emod_lt_of_pos (M.turnGo p.toNat (a % p) p 1 0) hp
  unfold M.turned
  omega
def dmModParted : List PyData → PyData → Prop := fun ds d => ∃ (a b : List Int) (p : Int), a.length ≤ 1000 ∧ b.length ≤ 1000 ∧ 1 ≤ (M.modPoly b p).length ∧ 0 < p ∧ p ≤ 1000 ∧ ds = [dR a, dR b, .int p] ∧ d = .tuple [dR (M.modParted a b p).1, dR (M.modParted a b p).2]
abbrev sp_mod_parted (K : PySem.W.Frag) : Sp := spG (onD K dmModParted) K
def rd_mod_parted (K : PySem.W.Frag) : TS := (tSeq (tAsg (tCB (rListS K) (tCons (tCall (sp_mod_poly K) [] E0 (tCons (tVar 0) (tCons (tVar 2) tNil))) tNil)) (gName 3))
  (tSeq (tAsg (tCall (sp_mod_poly K) [] E0 (tCons (tVar 1) (tCons (tVar 2) tNil))) (gName 4))
  (tSeq (tAsg (tOp oSub (tCB (rLenS K) (tCons (tVar 4) tNil)) (tC (.int 1))) (gName 5))
  (tSeq (tAsg (tCall (sp_turned K) [] E0 (tCons (tOp (rIxT K) (tVar 4) (tVar 5)) (tCons (tVar 2) tNil))) (gName 6))
  (tSeq (tAsg (tLst tNil) (gName 7))
  (tSeq (tFor (iRng3 (tCons (tOp oSub (tOp oSub (tCB (rLenS K) (tCons (tVar 3) tNil)) (tC (.int 1))) (tVar 5)) (tCons (tUn uNeg (tC (.int 1))) (tCons (tUn uNeg (tC (.int 1))) tNil)))) (gName 8)
  (tSeq (tAsg (tOp oMod (tOp oMul (tOp (rIxL K) (tVar 3) (tOp oAdd (tVar 8) (tVar 5))) (tVar 6)) (tVar 2)) (gName 9))
  (tSeq (tDrop (tBM K "list" rAppend (tVar 7) (tCons (tVar 9) tNil)))
  (tFor (iRng1 (tCons (tOp oAdd (tVar 5) (tC (.int 1))) tNil)) (gName 10)
  (tAsg (tOp oMod (tOp oSub (tOp (rIxL K) (tVar 3) (tOp oAdd (tVar 8) (tVar 10))) (tOp oMul (tVar 9) (tOp (rIxT K) (tVar 4) (tVar 10)))) (tVar 2)) (gSub (tVar 3) (tOp oAdd (tVar 8) (tVar 10)) rSetL))))))
  (tRet (tTup (tCons (tCall (sp_cut K) [] E0 (tCons (tRevL K (tVar 7)) tNil)) (tCons (tCall (sp_cut K) [] E0 (tCons (tSl (rSlL K) (tVar 3) tNoPart (tPart (tVar 5))) tNil)) tNil))))))))))
set_option maxHeartbeats 8000000 in
theorem pu_mod_parted {H : Hp} {v u : V} {a b : List Int} {p : Int} {Q : VK} (ha : a.length ≤ 1000) (hb : b.length ≤ 1000) (hb1 : 1 ≤ (M.modPoly b p).length) (hp : 0 < p) (hp2 : p ≤ 1000) (hv : Dp K H v (dR a)) (hu : Dp K H u (dR b))
    (q : ∀ v H2, Ex H H2 → Dp K H2 v (.tuple [dR (M.modParted a b p).1, dR (M.modParted a b p).2]) → Q v H2) :
    rd_mod_parted K { nx := fun _ H' => Q .non H', rt := Q } (start ["a", "b", "p", "left", "by", "degree", "back", "quotient", "at", "part", "j"] [v, u, .int p]) H := by
  have q2 : ∀ v H2, Ex H H2 → Dp K H2 v (.tuple [dR (M.mdiv p (M.turned ((M.modPoly b p).getD ((M.modPoly b p).length - 1) 0) p) (M.modPoly b p) (M.modPoly a p)).1, dR (M.mdiv p (M.turned ((M.modPoly b p).getD ((M.modPoly b p).length - 1) 0) p) (M.modPoly b p) (M.modPoly a p)).2]) → Q v H2 := q
  clear q
  have lf := modPoly_len a p
  have lg := modPoly_len b p
  have ca := d_call (K := K) (dom := dmModPoly) (d := dR (M.modPoly a p)) (E := E0) (a_cons (d_var (σ := [some v, some u, some (.int p), none, none, none, none, none, none, none, none]) (i := 0) rfl hv) (a_cons (d_int (ev_var (i := 2) rfl)) a_nil)) ⟨a, p, by omega, hp, rfl, rfl⟩
  generalize ef : M.modPoly a p = f at *
  generalize eg : M.modPoly b p = g at *
  obtain ⟨d, ed⟩ : ∃ d, g.length = d + 1 := ⟨g.length - 1, by omega⟩
  have ee : g.length - 1 = d := by omega
  -- left
  refine q_asgN (n_list ca (.inl rfl)) fun pl xs H1 nl e1 hl hxs => ?_
  rw [dpAll_intsV hxs] at hl
  -- by
  refine q_asgD (d_call (dom := dmModPoly) (d := dR g) (a_cons (d_var (d := dR b) rfl (dp_ex e1 hu)) (a_cons (d_int (ev_var rfl)) a_nil)) ⟨b, p, by omega, hp, rfl, by rw [eg]⟩) fun ug H2 e2 hg => ?_
  -- degree, back, quotient
  refine q_asg (v := .int (d : Int)) (ev_is (ev_op (ev_lenD (d_var rfl hg) (.inl rfl)) ev_c rv_I0) (by rw [List.length_map, ed]; congr 1; omega)) fun H3 e3 => ?_
  refine q_asg (v := .int (M.turned (g.getD d 0) p)) (ev_int (d_call (dom := dmTurned) (a_cons (d_int ((ev_row (d_var rfl hg) (ev_var rfl) (by omega)).mono e3)) (a_cons (d_int (ev_var rfl)) a_nil)) ⟨_, p, hp, hp2, rfl, rfl⟩)) fun H4 e4 => ?_
  obtain ⟨tb0, tb1⟩ := turned_small (g.getD d 0) hp hp2
  rw [ee] at q2
  generalize M.turned (g.getD d 0) p = back at *
  refine q_asgL (el_lst (vs := []) ea_nil (by decide)) fun pq H5 nq e5 hq => ?_
  have e25 : Ex H2 H5 := (e3.trans e4).trans e5
  have e15 : Ex H1 H5 := e2.trans e25
  have e05 : Ex H H5 := e1.trans e15
  have npq : pl ≠ pq := ne_of_none ((e2.trans (e3.trans e4)) _ _ hl) nq
  have nq0 : H pq = none := fresh_back ((e1.trans e2).trans (e3.trans e4)) nq
  -- the loop
  refine q_forDn (a := (f.length : Int) - 1 - (d : Int)) (b := -1) (ea_cons (ev_op (ev_op (ev_is (ev_lenD (ds := f.map PyData.int) (d_var rfl (.lst (sq_of (e15 _ _ hl)) (dpAll_ints f))) (.inr rfl)) (by rw [List.length_map])) ev_c rv_I0) (ev_var rfl) rv_I0) (ea_cons (ev_un ev_c ru_neg) (ea_cons (ev_un ev_c ru_neg) ea_nil))) ⟨by omega, by omega, by omega, by omega⟩
    (fun i σ' H' => ∃ y1 y2 y3, σ' = [some v, some u, some (.int p), some (.ref pl), some ug, some (.int (d : Int)), some (.int back), some (.ref pq), y1, y2, y3] ∧ Ex H H' ∧ Dp K H' ug (dR g) ∧ H' pl = some (.lst ((M.mdivTo p back g d (f.length - d) f i).1.map V.int)) ∧ H' pq = some (.lst ((M.mdivTo p back g d (f.length - d) f i).2.map V.int)))
    (fun H6 e6 => ⟨none, none, none, rfl, e05.trans e6, dp_ex (e25.trans e6) hg, e6 _ _ (e15 _ _ hl), e6 _ _ hq⟩) ?_ ?_
  · rintro i σ' H' hi ⟨y1, y2, y3, rfl, e', hg', hpl, hpq⟩
    have hi' : i < f.length - d := by omega
    obtain ⟨len1, len2⟩ := mdivTo_len p back g d (f.length - d) f i
    have eat : (f.length : Int) - 1 - (d : Int) - (i : Int) = ((f.length - d - 1 - i : Nat) : Int) := by omega
    rw [eat]
    -- part
    refine q_asg (v := .int ((M.mdivTo p back g d (f.length - d) f i).1.getD (f.length - d - 1 - i + d) 0 * back % p)) (ev_op (ev_op (ev_lst (i := f.length - d - 1 - i + d) hpl (ev_var rfl) (ev_is (ev_op (ev_var rfl) (ev_var rfl) rv_I0) (by congr 1)) (by omega)) (ev_var rfl) (rv_I (.inr ⟨by omega, by omega⟩))) (ev_var rfl) (rv_I hp)) fun H4 e4 => ?_
    have pt0 := Int.emod_nonneg ((M.mdivTo p back g d (f.length - d) f i).1.getD (f.length - d - 1 - i + d) 0 * back) (show p ≠ 0 by omega)
    have pt1 := Int.emod_lt_of_pos ((M.mdivTo p back g d (f.length - d) f i).1.getD (f.length - d - 1 - i + d) 0 * back) hp
    refine q_app (e4 _ _ hpq) (ev_var rfl) (ev_var rfl) (by rw [List.length_map]; omega) fun H5 e5 => ?_
    -- the inner loop
    refine s_forR1 (n := (d : Int) + 1) (ea_cons (ev_op (ev_var rfl) ev_c rv_I0) ea_nil) ⟨by omega, by omega⟩
      (fun j σ' H' => ∃ y3, σ' = [some v, some u, some (.int p), some (.ref pl), some ug, some (.int (d : Int)), some (.int back), some (.ref pq), some (.int ((f.length - d - 1 - i : Nat) : Int)), some (.int ((M.mdivTo p back g d (f.length - d) f i).1.getD (f.length - d - 1 - i + d) 0 * back % p)), y3] ∧ Ex H H' ∧ Dp K H' ug (dR g) ∧
        H' pl = some (.lst ((M.msubTo p g ((M.mdivTo p back g d (f.length - d) f i).1.getD (f.length - d - 1 - i + d) 0 * back % p) (f.length - d - 1 - i) j (M.mdivTo p back g d (f.length - d) f i).1).map V.int)) ∧ H' pq = some (.lst ((M.mdivTo p back g d (f.length - d) f (i + 1)).2.map V.int)))
      (fun H6 e6 => ⟨y3, rfl, (Ex.mut ((e'.trans e4).trans e5) nq0).trans e6, dp_ex e6 (dp_kt (KT.updL (e5 _ _ (e4 _ _ hpq))) (tO_R g) (dp_ex (e4.trans e5) hg')), e6 _ _ (by rw [upd_ne npq]; exact e5 _ _ (e4 _ _ hpl)), e6 _ _ (by
        rw [upd_same]
        show _ = some (HO.lst ((_ ++ [_]).map V.int))
        rw [List.map_append]
        rfl)⟩) ?_ ?_
    · rintro j σ2 H6 hj ⟨y3, rfl, e6, hg6, hl6, hq6⟩
      have hj' : j ≤ d := by omega
      have sl := msubTo_len p g ((M.mdivTo p back g d (f.length - d) f i).1.getD (f.length - d - 1 - i + d) 0 * back % p) (f.length - d - 1 - i) (M.mdivTo p back g d (f.length - d) f i).1 j
      have nl0 : H pl = none := nl
      have ij : ∀ {H : Hp}, Ev (tOp oAdd (tVar 8) (tVar 10)) [some v, some u, some (.int p), some (.ref pl), some ug, some (.int (d : Int)), some (.int back), some (.ref pq), some (.int ((f.length - d - 1 - i : Nat) : Int)), some (.int ((M.mdivTo p back g d (f.length - d) f i).1.getD (f.length - d - 1 - i + d) 0 * back % p)), some (.int (j : Int))] H (.int ((f.length - d - 1 - i + j : Nat) : Int)) := ev_is (ev_op (ev_var rfl) (ev_var rfl) rv_I0) (by congr 1)
      refine s_setL (j := f.length - d - 1 - i + j) hl6 (ev_op (ev_op (ev_lst hl6 (ev_var rfl) ij (by omega)) (ev_op (ev_var rfl) (ev_row (d_var rfl hg6) (ev_var rfl) (by omega)) (rv_I (.inl ⟨by omega, by omega⟩))) rv_I0) (ev_var rfl) (rv_I hp)) (ev_var rfl) ij (by rw [List.length_map]; omega) fun H7 e7 => ?_
      refine ⟨_, rfl, Ex.mut (e6.trans e7) nl0, dp_kt (KT.updL (e7 _ _ hl6)) (tO_R g) (dp_ex e7 hg6), ?_, ?_⟩
      · rw [upd_same]
        show _ = some (HO.lst ((List.set _ _ _).map V.int))
        rw [List.map_set]
      · rw [upd_ne npq.symm]
        exact e7 _ _ hq6
    · rintro σ2 H6 ⟨y3, rfl, e6, hg6, hl6, hq6⟩
      have ej : ((d : Int) + 1).toNat = d + 1 := by omega
      rw [ej] at hl6
      exact ⟨_, _, _, rfl, e6, hg6, hl6, hq6⟩
  · rintro σ' H' ⟨y1, y2, y3, rfl, e', hg', hpl, hpq⟩
    have ek : ((f.length : Int) - 1 - (d : Int) - (-1)).toNat = f.length - d := by omega
    rw [ek] at hpl hpq
    obtain ⟨len1, len2⟩ := mdivTo_len p back g d (f.length - d) f (f.length - d)
    have ef2 : f.length + 1 - g.length = f.length - d := by omega
    have dq : EvD K (tVar 7) [some v, some u, some (.int p), some (.ref pl), some ug, some (.int (d : Int)), some (.int back), some (.ref pq), y1, y2, y3] H' (.list ((M.mdivTo p back g d (f.length - d) f (f.length - d)).2.map PyData.int)) := d_var rfl (.lst (sq_of hpq) (dpAll_ints _))
    have dl : EvD K (tVar 3) [some v, some u, some (.int p), some (.ref pl), some ug, some (.int (d : Int)), some (.int back), some (.ref pq), y1, y2, y3] H' (.list ((M.mdivTo p back g d (f.length - d) f (f.length - d)).1.map PyData.int)) := d_var rfl (.lst (sq_of hpl) (dpAll_ints _))
    refine s_retD (d_tup (a_cons (d_call (a_cons (d_ofN (n_revL dq)) a_nil) (dom := dmCut) (d := dR (M.mdiv p back g f).1) ⟨_, ?_, .inr (by rw [← List.map_reverse]), ?_⟩) (a_cons (d_call (a_cons (d_ofN (n_slL dl eo_none (eo_some (ev_var rfl)))) a_nil) (dom := dmCut) (d := dR (M.mdiv p back g f).2) ⟨_, ?_, .inr (by rw [cutD_to]), ?_⟩) a_nil)) (K41.len2 _ _)) fun v' H4 e4 p => q2 v' H4 (e'.trans e4) p
    · rw [List.length_reverse]; omega
    · unfold M.mdiv; rw [ee, ef2]
    · rw [List.length_take]; omega
    · unfold M.mdiv; rw [ee, ef2]
theorem ok_mod_parted (T : Tx K mg) : Ok P w K mg base CX0 "mod_parted" ["a", "b", "p"] 3 (sp_mod_parted K) := by
  have O_cut := ok_cut (P := P) (w := w) (base := base) T
  have O_mod_poly := ok_mod_poly (P := P) (w := w) (base := base) T
  have O_turned := ok_turned (P := P) (w := w) (base := base) T
  refine ok_ofG T.g_mod_parted T.f_mod_parted sc_mod_parted (fun _ _ _ _ _ _ us hl => match us, hl with | [_, _, _], _ => rfl) (fun vs H d ⟨ds, ⟨a, b, p, _, _, _, _, _, e, _⟩, hd⟩ => by rw [dpAll_len hd, e]; rfl) (fun cdv A outer s H vs Q E d hr ⟨ds, ⟨a, b, p, h1, h2, h3, h4, h5, hds, ed⟩, hv⟩ q => ⟨rd_mod_parted K, PSs.nox ((pss_cons (ps_set (i := 3) sc_mod_parted.nd rfl (Or.inl rfl) (pe_listc T.b_list (pe_fn O_mod_poly (hr.mono (by decide)) (pa_cons (pv 0) (pa_cons (pv 2) pa_nil)))))
  (pss_cons (ps_set (i := 4) sc_mod_parted.nd rfl (Or.inl rfl) (pe_fn O_mod_poly (hr.mono (by decide)) (pa_cons (pv 1) (pa_cons (pv 2) pa_nil))))
  (pss_cons (ps_set (i := 5) sc_mod_parted.nd rfl (Or.inl rfl) (pe_op op_sub (pe_len T.b_len (pv 4)) pe_int))
  (pss_cons (ps_set (i := 6) sc_mod_parted.nd rfl (Or.inl rfl) (pe_fn O_turned (hr.mono (by decide)) (pa_cons (pe_ix ix_tup (pv 4) (pv 5) (fun _ _ => rfl)) (pa_cons (pv 2) pa_nil))))
  (pss_cons (ps_set (i := 7) sc_mod_parted.nd rfl (Or.inl rfl) (pe_lst pa_nil))
  (pss_cons (ps_for PassesOwn.never rfl (pi_range3 (by rfl) T.b_range (pa_cons (pe_op op_sub (pe_op op_sub (pe_len T.b_len (pv 3)) pe_int) (pv 5)) (pa_cons (pe_un un_neg pe_int) (pa_cons (pe_un un_neg pe_int) pa_nil)))) (pg_name (i := 8) sc_mod_parted.nd rfl (Or.inl rfl))
  (pss_cons (ps_set (i := 9) sc_mod_parted.nd rfl (Or.inl rfl) (pe_op op_mod (pe_op op_mul (pe_ix ix_list (pv 3) (pe_op op_add (pv 8) (pv 5)) (fun _ _ => rfl)) (pv 6)) (pv 2)))
  (pss_cons (ps_expr (pe_bm PySem.F.plainAttrs_list PySem.F.slot_list_append PySem.F.type_list_append mt_append (pv 7) (pa_cons (pv 9) pa_nil)))
  (pss_one (ps_for PassesOwn.never rfl (pi_range1 (by rfl) T.b_range (pa_cons (pe_op op_add (pv 5) pe_int) pa_nil)) (pg_name (i := 10) sc_mod_parted.nd rfl (Or.inl rfl))
  (pss_one (ps_asg (pe_op op_mod (pe_op op_sub (pe_ix ix_list (pv 3) (pe_op op_add (pv 8) (pv 10)) (fun _ _ => rfl)) (pe_op op_mul (pv 9) (pe_ix ix_tup (pv 4) (pv 10) (fun _ _ => rfl)))) (pv 2)) (pg_sub (pv 3) (pe_op op_add (pv 8) (pv 10)) set_list))))))))
  (pss_one (ps_ret (pe_tup (pa_cons (pe_fn O_cut (hr.mono (by decide)) (pa_cons (pe_revL (pv 7)) pa_nil)) (pa_cons (pe_fn O_cut (hr.mono (by decide)) (pa_cons (pe_slice sl_list (pv 3) po_none (po_some (pv 5))) pa_nil)) pa_nil)))))))))))), ?_⟩)
  subst ed hds
  obtain ⟨v, u, z, rfl, k1, k2, k3⟩ := dpAll_three hv
  rw [dp_int k3]
  exact pu_mod_parted h1 h2 h3 h4 h5 k1 k2 q
end
end K41
set_option Elab.async false
set_option linter.all false
set_option maxRecDepth 100000
set_option maxHeartbeats 4000000
namespace K41
open PySem PySem.Spec PyProof.Rows L2 Evl
local macro_rules | `(tactic| walk_at "cc") => `(tactic| first
  | assumption
  | (with_reducible show (0 : Int) < _; omega)
  | exact Or.inl ⟨by omega, by omega⟩
  | exact Or.inr ⟨by omega, by omega⟩
  | exact And.intro (by omega) (by omega)
  | (show (0 : Int) < _; omega)
  | omega)
local macro_rules | `(tactic| walk_at "ev") => `(tactic| first
  | assumption
  | with_reducible exact ev_c
  | exact ev_var rfl
  | ((with_reducible refine' ev_op ?ka ?kb rv_I0); (case ka => walk_at "ev"); (case kb => walk_at "ev"))
  | ((with_reducible refine' ev_op ?ka ?kb (rv_I ?kc)); (case ka => walk_at "ev"); (case kb => walk_at "ev"); (case kc => walk_at "cc"))
  | ((with_reducible refine' ev_op (r := rEq) ?ka ?kb ?kd); (case ka => walk_at "ev"); (case kb => walk_at "ev"); (case kd => refine' rv_eq ?kc; rfl))
  | ((with_reducible refine' ev_op (r := rNe) ?ka ?kb ?kd); (case ka => walk_at "ev"); (case kb => walk_at "ev"); (case kd => refine' rv_ne ?kc; rfl))
  | ((with_reducible refine' ev_un ?ka ru_neg); (case ka => walk_at "ev"))
  | ((with_reducible refine' et_test ?ka); (case ka => walk_at "ev")))

section
variable {P : Program} {w : World} {K : PySem.W.Frag} {mg : Str → Option Value} {base : Heap}
/-! ### root -/
theorem root_one {m r s : Int} (h0 : 0 ≤ r) (h1 : r * r ≤ m) (h2 : m < (r + 1) * (r + 1)) (k0 : 0 ≤ s) (k1 : s * s ≤ m) (k2 : m < (s + 1) * (s + 1)) : r = s := by
  rcases Int.lt_trichotomy r s with h | h | h
  · have : (r + 1) * (r + 1) ≤ s * s := Int.mul_le_mul (by omega) (by omega) (by omega) (by omega)
    omega
  · exact h
  · have : (s + 1) * (s + 1) ≤ r * r := Int.mul_le_mul (by omega) (by omega) (by omega) (by omega)
    omega
def dmRoot : List PyData → PyData → Prop := fun ds d => ∃ m r : Int, 0 ≤ m ∧ m ≤ 2 ^ 50 ∧ 0 ≤ r ∧ r * r ≤ m ∧ m < (r + 1) * (r + 1) ∧ ds = [.int m] ∧ d = .int r
abbrev sp_root (K : PySem.W.Frag) : Sp := spG (onD K dmRoot) K
def rd_root (K : PySem.W.Frag) : TS := (tSeq (tAsg (tC (.int 1)) (gName 1))
  (tSeq (tWhile (tTest (tOp oLe (tOp oMul (tVar 1) (tVar 1)) (tVar 0))) (tAsg (tOp oMul (tC (.int 2)) (tVar 1)) (gName 1)))
  (tSeq (tAsg (tC (.int 0)) (gName 2))
  (tSeq (tWhile (tTest (tOp oGt (tOp oSub (tVar 1) (tVar 2)) (tC (.int 1)))) (tSeq (tAsg (tOp oDiv (tOp oAdd (tVar 2) (tVar 1)) (tC (.int 2))) (gName 3))
  (tIfS (tTest (tOp oLe (tOp oMul (tVar 3) (tVar 3)) (tVar 0))) (tAsg (tVar 3) (gName 2)) (tAsg (tVar 3) (gName 1)))))
  (tRet (tVar 2))))))
theorem pu_root {H : Hp} {m r : Int} {Q : VK} (hm : 0 ≤ m) (hm2 : m ≤ 2 ^ 50) (hr : 0 ≤ r) (hr1 : r * r ≤ m) (hr2 : m < (r + 1) * (r + 1)) (q : ∀ v H2, Ex H H2 → Dp K H2 v (.int r) → Q v H2) :
    rd_root K { nx := fun _ H' => Q .non H', rt := Q } (start ["m", "high", "low", "middle"] [.int m]) H := by
  have big : ∀ x : Int, 0 ≤ x → x * x ≤ m → x ≤ 33554432 := fun x h0 h => by
    rcases Int.lt_or_le 33554432 x with c | c
    · have : (33554433 : Int) * 33554433 ≤ x * x := Int.mul_le_mul (by omega) (by omega) (by omega) (by omega)
      omega
    · exact c
  refine q_asg ev_c fun H1 e1 => ?_
  refine q_while (fun k σ' H' => ∃ (h : Int) (y z : Option V), σ' = [some (.int m), some (.int h), y, z] ∧ Ex H H' ∧ 1 ≤ h ∧ h ≤ 67108864 ∧ (67108864 - h).toNat ≤ k) 67108864 ⟨1, none, none, rfl, e1, by omega, by omega, by omega⟩ ?_
  rintro k σ' H' ⟨h, y, z, rfl, e', h1, h2, h3⟩
  have mh : CMul h h := .inl ⟨by omega, by omega⟩
  refine ⟨decide (h * h ≤ m), et_test (ev_op (ev_op (ev_var rfl) (ev_var rfl) (rv_I mh)) (ev_var rfl) rv_I0), fun hb H5 e5 => ?_, fun hb H5 e5 => ?_⟩
  · have hb := big h (by omega) (of_decide_eq_true hb)
    refine ⟨fun σ2 H6 => σ2 = [some (.int m), some (.int (2 * h)), y, z] ∧ Ex H H6, ?_, ?_⟩
    · rintro σ2 H6 ⟨rfl, e6⟩
      exact ⟨(67108864 - 2 * h).toNat, by omega, _, y, z, rfl, e6, by omega, by omega, by omega⟩
    · exact s_asg (ev_op ev_c (ev_var rfl) (rv_I (.inl ⟨by omega, by omega⟩))) fun H6 e6 => ⟨rfl, (e'.trans e5).trans e6⟩
  · have hb : m < h * h := by have := of_decide_eq_false hb; omega
    refine q_asg ev_c fun H6 e6 => ?_
    refine q_while (fun k σ' H' => ∃ (h l : Int) (z : Option V), σ' = [some (.int m), some (.int h), some (.int l), z] ∧ Ex H H' ∧ 0 ≤ l ∧ l < h ∧ h ≤ 67108864 ∧ l * l ≤ m ∧ m < h * h ∧ (h - l).toNat ≤ k) h.toNat ⟨h, 0, z, rfl, (e'.trans e5).trans e6, by omega, by omega, h2, by omega, hb, by omega⟩ ?_
    rintro k2 σ2 H7 ⟨h', l, z', rfl, e7, g1, g2, g3, g4, g5, g6⟩
    refine ⟨decide (1 < h' - l), by walk_at "ev", fun hb H8 e8 => ?_, fun hb H8 e8 => ?_⟩
    · have hb := of_decide_eq_true hb
      obtain ⟨md, emd⟩ : ∃ md, md = (l + h') / 2 := ⟨_, rfl⟩
      have m1 : l < md := by omega
      have m2 : md < h' := by omega
      refine ⟨fun σ2 H6 => ((md * md ≤ m ∧ σ2 = [some (.int m), some (.int h'), some (.int md), some (.int md)]) ∨ (m < md * md ∧ σ2 = [some (.int m), some (.int md), some (.int l), some (.int md)])) ∧ Ex H H6, ?_, ?_⟩
      · rintro σ2 H6 ⟨⟨c, rfl⟩ | ⟨c, rfl⟩, e9⟩
        · exact ⟨(h' - md).toNat, by omega, h', md, _, rfl, e9, by omega, by omega, by omega, c, g5, by omega⟩
        · exact ⟨(md - l).toNat, by omega, md, l, _, rfl, e9, by omega, by omega, by omega, g4, c, by omega⟩
      · refine q_asg (v := .int md) (ev_is (ev_op (ev_op (ev_var rfl) (ev_var rfl) rv_I0) ev_c (rv_I ⟨by omega, by omega⟩)) (by rw [emd])) fun H9 e9 => ?_
        have mm : CMul md md := .inl ⟨by omega, by omega⟩
        refine s_if (et_test (ev_op (ev_op (ev_var rfl) (ev_var rfl) (rv_I mm)) (ev_var rfl) rv_I0)) (fun hc H10 e10 => ?_) (fun hc H10 e10 => ?_)
        · exact s_asg (ev_var rfl) fun H11 e11 => ⟨.inl ⟨of_decide_eq_true hc, rfl⟩, (((e7.trans e8).trans e9).trans e10).trans e11⟩
        · exact s_asg (ev_var rfl) fun H11 e11 => ⟨.inr ⟨by have := of_decide_eq_false hc; omega, rfl⟩, (((e7.trans e8).trans e9).trans e10).trans e11⟩
    · have hb := of_decide_eq_false hb
      have ehl : h' = l + 1 := by omega
      subst ehl
      have er := root_one hr hr1 hr2 g1 g4 g5
      subst er
      exact s_ret (ev_var rfl) fun H9 e9 => q _ _ ((e7.trans e8).trans e9) (.int _)
theorem ok_root (T : Tx K mg) : Ok P w K mg base CX0 "root" ["m"] 1 (sp_root K) := by
  refine ok_ofG T.g_root T.f_root sc_root (fun _ _ _ _ _ _ us hl => match us, hl with | [_], _ => rfl) (fun vs H d ⟨ds, ⟨m, r, _, _, _, _, _, e, _⟩, hd⟩ => by rw [dpAll_len hd, e]; rfl) (fun cdv A outer s H vs Q E d hr ⟨ds, ⟨m, r, h1, h2, h3, h4, h5, hds, ed⟩, hv⟩ q => ⟨rd_root K, PSs.nox ((pss_cons (ps_set (i := 1) sc_root.nd rfl (Or.inl rfl) pe_int)
  (pss_cons (ps_while PassesOwn.never (pt_cmpR op_le (pe_op op_mul (pv 1) (pv 1)) (pv 0) (nomark _)) (pss_one (ps_set (i := 1) sc_root.nd rfl (Or.inl rfl) (pe_op op_mul pe_int (pv 1)))))
  (pss_cons (ps_set (i := 2) sc_root.nd rfl (Or.inl rfl) pe_int)
  (pss_cons (ps_while PassesOwn.never (pt_cmpR op_gt (pe_op op_sub (pv 1) (pv 2)) pe_int (nomark _)) (pss_cons (ps_set (i := 3) sc_root.nd rfl (Or.inl rfl) (pe_op op_fdiv (pe_op op_add (pv 2) (pv 1)) pe_int))
  (pss_one (ps_if (pt_cmpR op_le (pe_op op_mul (pv 3) (pv 3)) (pv 0) (nomark _)) (pss_one (ps_set (i := 2) sc_root.nd rfl (Or.inl rfl) (pv 3))) (pss_one (ps_set (i := 1) sc_root.nd rfl (Or.inl rfl) (pv 3)))))))
  (pss_one (ps_ret (pv 2)))))))), ?_⟩)
  subst ed hds
  obtain ⟨v, rfl, k1⟩ := dpAll_one hv
  rw [dp_int k1]
  exact pu_root h1 h2 h3 h4 h5 q
/-! ### small_primes -/
def dmSmall : List PyData → List PyData → Prop := fun ds es => ds = [] ∧ es = primes.map .int
abbrev sp_small_primes (K : PySem.W.Frag) : Sp := spN (onD K dmSmall) K
def rd_small_primes (K : PySem.W.Frag) : TS := (tRet (tCB (rListS K) (tCons (tC (.ref (He.ga K "PRIMES"))) tNil)))
theorem ok_small_primes (T : Tx K mg) : Ok P w K mg base CX0 "small_primes" [] 1 (sp_small_primes K) := by
  refine ok_ofN T.g_small_primes T.f_small_primes sc_small_primes (fun _ _ _ _ _ _ us hl => match us, hl with | [], _ => rfl) (fun vs H d ⟨ds, ⟨e, _⟩, hd⟩ => by rw [dpAll_len hd, e]; rfl) (fun cdv A outer s H vs Q E d hr ⟨ds, ⟨hds, ed⟩, hv⟩ q => ⟨rd_small_primes K, PSs.nox ((pss_one (ps_ret (pe_listc T.b_list (pe_glob rfl T.g_PRIMES rfl))))), ?_⟩)
  subst ed hds
  rw [dpAll_nil hv]
  exact s_retN (n_list (d_ev ev_c (dp_ofR (T.primesT H))) (.inl rfl)) q
/-! ### divides_all -/
theorem lc_map {σ : L2.St} {H : Hp} {tl te : TE} {a : Addr} {l : List Int} {j : Nat} {vs : List Nat} {δ : Int → PyData} (h : Ev tl σ H (.ref a)) (ha : SqT K H a (l.map V.int)) (hl : l.length ≤ 30000) (hδ : ∀ c, tO (δ c) = true) (hw : ∀ x, wipe ((wipe σ vs).set j (some x)) vs = wipe σ vs)
    (he : ∀ (i : Nat) H1, Ex H H1 → i < l.length → EvD K te ((wipe σ vs).set j (some (.int (l.getD i 0)))) H1 (δ (l.getD i 0))) : EvN K (tLc (iTup K tl) (gName j) tYes te vs) σ H (l.map δ) := by
  have hc := n_lcT (K := K) (tl := tl) (te := te) (t := tYes) (vs := vs) (j := j) (σ := σ) (H := H) (fun i => (l.take i).map δ) h ha rfl (fun i hi => ⟨by rw [List.length_map, List.length_take]; omega, tOs_all fun d hd => by
    obtain ⟨c, _, rfl⟩ := List.mem_map.mp hd
    exact hδ c⟩) hw
    (fun i x H1 e1 hx => ⟨true, t_yes, fun _ => by
      obtain ⟨hi, rfl⟩ := of_V hx
      refine ⟨δ (l.getD i 0), hδ _, he i H1 e1 hi, ?_⟩
      rw [List.take_add_one, List.getElem?_eq_getElem hi, getD_at hi, List.map_append]
      rfl, fun h => by cases h⟩)
  refine n_cast hc ?_
  rw [List.length_map, List.take_length]
def dmDivAll : List PyData → PyData → Prop := fun ds d => ∃ (m : Int) (l : List Int), 0 < m ∧ l.length ≤ 30000 ∧ ds = [.int m, dR l] ∧ d = .bool (l.all fun c => decide (c % m = 0))
abbrev sp_divides_all (K : PySem.W.Frag) : Sp := spG (onD K dmDivAll) K
def rd_divides_all (K : PySem.W.Frag) : TS := (tRet (tCB (rAll K) (tCons (tLc (iTup K (tVar 1)) (gName 2) tYes (tOp rEq (tOp oMod (tVar 2) (tVar 0)) (tC (.int 0))) [2]) tNil)))
theorem ok_divides_all (T : Tx K mg) : Ok P w K mg base CX0 "divides_all" ["m", "row"] 1 (sp_divides_all K) := by
  refine ok_ofG T.g_divides_all T.f_divides_all sc_divides_all (fun _ _ _ _ _ _ us hl => match us, hl with | [_, _], _ => rfl) (fun vs H d ⟨ds, ⟨m, l, _, _, e, _⟩, hd⟩ => by rw [dpAll_len hd, e]; rfl) (fun cdv A outer s H vs Q E d hr ⟨ds, ⟨m, l, h1, h2, hds, ed⟩, hv⟩ q => ⟨rd_divides_all K, PSs.nox ((pss_one (ps_ret (pe_allc T.b_all (pe_lc (own := [("place", 2)]) (g := gName 2) (tt := tYes) rfl sc_divides_all.nd (pi_tup (pv 1)) (blkOk_by (own := [("place", 2)]) (N := ["m", "row", "place"]) (sc := defScope s_divides_all) (by decide +kernel)) (fun _ _ _ _ _ => (pg_name (i := 2) sc_divides_all.nd rfl (Or.inl rfl))) (fun _ _ _ _ _ => pts_nil) (fun _ _ _ _ _ => (pe_cmpR op_eq (pe_op op_mod (pv 2) (pv 0)) pe_int (nomark _)))))))), ?_⟩)
  subst ed hds
  obtain ⟨v, u, rfl, k1, k2⟩ := dpAll_two hv
  rw [dp_int k1]
  obtain ⟨a, rfl, ha⟩ := dp_R k2
  have hc : EvN K (tLc (iTup K (tVar 1)) (gName 2) tYes (tOp rEq (tOp oMod (tVar 2) (tVar 0)) (tC (.int 0))) [2]) (start ["m", "row", "place"] [.int m, .ref a]) H ((l.map fun c => decide (c % m = 0)).map PyData.bool) := by
    rw [List.map_map]
    exact lc_map (K := K) (δ := fun c => .bool (decide (c % m = 0))) (ev_var rfl) ha h2 (fun c => by simp [tO]) (fun x => rfl) (fun i H1 e1 hi => d_ev (ev_is (ev_op (ev_op (ev_var rfl) (ev_var rfl) (rv_I h1)) ev_c (rv_eq rfl)) (by simp)) (.bl _))
  refine s_ret (ev_allN hc) fun H1 e1 => ?_
  refine q _ _ e1 ?_
  rw [List.all_map]
  exact .bl _
end
end K41
set_option Elab.async false
set_option linter.all false
set_option maxRecDepth 100000
set_option maxHeartbeats 4000000
namespace K41
open PySem PySem.Spec PyProof.Rows L2 Evl
local macro_rules | `(tactic| walk_at "cc") => `(tactic| first
  | assumption
  | (with_reducible show (0 : Int) < _; omega)
  | exact Or.inl ⟨by omega, by omega⟩
  | exact Or.inr ⟨by omega, by omega⟩
  | exact And.intro (by omega) (by omega)
  | (show (0 : Int) < _; omega)
  | omega)
local macro_rules | `(tactic| walk_at "ev") => `(tactic| first
  | assumption
  | with_reducible exact ev_c
  | exact ev_var rfl
  | ((with_reducible refine' ev_op ?ka ?kb rv_I0); (case ka => walk_at "ev"); (case kb => walk_at "ev"))
  | ((with_reducible refine' ev_op ?ka ?kb (rv_I ?kc)); (case ka => walk_at "ev"); (case kb => walk_at "ev"); (case kc => walk_at "cc"))
  | ((with_reducible refine' ev_op (r := rEq) ?ka ?kb ?kd); (case ka => walk_at "ev"); (case kb => walk_at "ev"); (case kd => refine' rv_eq ?kc; rfl))
  | ((with_reducible refine' ev_op (r := rNe) ?ka ?kb ?kd); (case ka => walk_at "ev"); (case kb => walk_at "ev"); (case kd => refine' rv_ne ?kc; rfl))
  | ((with_reducible refine' ev_un ?ka ru_neg); (case ka => walk_at "ev"))
  | ((with_reducible refine' et_test ?ka); (case ka => walk_at "ev")))

section
variable {P : Program} {w : World} {K : PySem.W.Frag} {mg : Str → Option Value} {base : Heap}
/-! ### parted -/
theorem outN_any {p : Int} (hp : 2 ≤ p) : ∀ (n n' : Nat) (m : Int), 1 ≤ m → m.toNat ≤ n → m.toNat ≤ n' → M.outN n p m = M.outN n' p m
  | 0, _, m, h1, h2, _ => by omega
  | n + 1, 0, m, h1, _, h3 => by omega
  | n + 1, n' + 1, m, h1, h2, h3 => by
    show (if m % p = 0 then _ else _) = (if m % p = 0 then _ else _)
    by_cases c : m % p = 0
    · rw [if_pos c, if_pos c]
      have e := Int.emod_add_mul_ediv m p
      rw [c] at e
      have d1 : 1 ≤ m / p := by
        rcases Int.lt_or_le (m / p) 1 with h | h
        · have : p * (m / p) ≤ 0 := Int.mul_nonpos_of_nonneg_of_nonpos (by omega) (by omega)
          omega
        · exact h
      have d2 : m / p < m := Int.ediv_lt_self_of_pos_of_ne_one (by omega) (by omega)
      rw [outN_any hp n n' (m / p) d1 (by omega) (by omega)]
    · rw [if_neg c, if_neg c]
theorem out_no {p m : Int} (h : 1 ≤ m) (c : ¬ m % p = 0) : M.out p m = (0, m) := by
  unfold M.out
  obtain ⟨n, hn⟩ : ∃ n, m.toNat = n + 1 := ⟨m.toNat - 1, by omega⟩
  rw [hn]
  show (if m % p = 0 then _ else _) = _
  rw [if_neg c]
theorem out_div {p m : Int} (hp : 2 ≤ p) (h : 1 ≤ m) (c : m % p = 0) : 1 ≤ m / p ∧ m / p < m ∧ p * (m / p) = m := by
  have e := Int.emod_add_mul_ediv m p
  rw [c] at e
  refine ⟨?_, Int.ediv_lt_self_of_pos_of_ne_one (by omega) (by omega), by omega⟩
  rcases Int.lt_or_le (m / p) 1 with h | h
  · have : p * (m / p) ≤ 0 := Int.mul_nonpos_of_nonneg_of_nonpos (by omega) (by omega)
    omega
  · exact h
theorem out_yes {p m : Int} (hp : 2 ≤ p) (h : 1 ≤ m) (c : m % p = 0) : M.out p m = ((M.out p (m / p)).1 + 1, (M.out p (m / p)).2) := by
  obtain ⟨d1, d2, _⟩ := out_div hp h c
  unfold M.out
  obtain ⟨n, hn⟩ : ∃ n, m.toNat = n + 1 := ⟨m.toNat - 1, by omega⟩
  rw [hn]
  show (if m % p = 0 then _ else _) = _
  rw [if_pos c, outN_any hp n (m / p).toNat (m / p) d1 (by omega) (by omega)]
theorem outN_pos {p : Int} (hp : 2 ≤ p) : ∀ (n : Nat) (m : Int), 1 ≤ m → 1 ≤ (M.outN n p m).2
  | 0, m, h => h
  | n + 1, m, h => by
    show 1 ≤ (if m % p = 0 then _ else _ : Nat × Int).2
    by_cases c : m % p = 0
    · rw [if_pos c]
      exact outN_pos hp n _ (out_div hp h c).1
    · rw [if_neg c]
      exact h
theorem out_pos {p m : Int} (hp : 2 ≤ p) (h : 1 ≤ m) : 1 ≤ (M.out p m).2 := outN_pos hp _ _ h
theorem primes_ge : ∀ p ∈ primes, 2 ≤ p ∧ p ≤ 199 := by decide
def dPK (r : Int × Nat) : PyData := .tuple [.int r.1, .int (r.2 : Int)]
theorem tO_PK (l : List (Int × Nat)) : tOs (l.map dPK) = true := tOs_all fun d h => by
  obtain ⟨r, _, rfl⟩ := List.mem_map.mp h
  simp [dPK, tO, tOs]
theorem parts_take {m : Int} {i : Nat} {ps : List Int} (h : i < ps.length) : M.parts (ps.take (i + 1)) m = M.partStep (M.parts (ps.take i) m) (ps.getD i 0) := by
  unfold M.parts
  rw [List.take_add_one, List.getElem?_eq_getElem h, getD_at h, List.foldl_append]
  rfl
theorem parts_pos {m : Int} (h : 1 ≤ m) : ∀ i, i ≤ primes.length → 1 ≤ (M.parts (primes.take i) m).2 ∧ (M.parts (primes.take i) m).1.length ≤ i
  | 0, _ => ⟨h, Nat.le_refl _⟩
  | i + 1, hi => by
    obtain ⟨h1, h2⟩ := parts_pos h i (by omega)
    have hp := (primes_ge (primes.getD i 0) (by rw [getD_at (by omega)]; exact List.getElem_mem _)).1
    rw [parts_take (by omega)]
    refine ⟨out_pos hp h1, ?_⟩
    show ((M.parts (primes.take i) m).1 ++ (if _ = 0 then [] else [_] : List (Int × Nat))).length ≤ _
    rw [List.length_append]
    split
    · simp; omega
    · simp; omega
def dmParted : List PyData → PyData → Prop := fun ds d => ∃ m : Int, 1 ≤ m ∧ ds = [.int m] ∧ d = .tuple [.list ((M.parts primes m).1.map dPK), .int (M.parts primes m).2]
abbrev sp_parted (K : PySem.W.Frag) : Sp := spG (onD K dmParted) K
def rd_parted (K : PySem.W.Frag) : TS := (tSeq (tAsg (tLst tNil) (gName 1))
  (tSeq (tAsg (tVar 0) (gName 2))
  (tSeq (tFor (iTup K (tC (.ref (He.ga K "PRIMES")))) (gName 3)
  (tSeq (tAsg (tC (.int 0)) (gName 4))
  (tSeq (tWhile (tTest (tOp rEq (tOp oMod (tVar 2) (tVar 3)) (tC (.int 0)))) (tSeq (tAsg (tOp oDiv (tVar 2) (tVar 3)) (gName 2))
  (tAug 4 (tC (.int 1)) (ipI fun i j => i + j))))
  (tIfS (tTest (tOp oGt (tVar 4) (tC (.int 0)))) (tDrop (tBM K "list" rAppend (tVar 1) (tCons (tTup (tCons (tVar 3) (tCons (tVar 4) tNil))) tNil))) tNext))))
  (tRet (tTup (tCons (tVar 1) (tCons (tVar 2) tNil)))))))
theorem pu_parted {H : Hp} {m : Int} {Q : VK} (hm : 1 ≤ m) (hP : ∀ H, SqT K H (He.ga K "PRIMES") (primes.map V.int)) (q : ∀ v H2, Ex H H2 → Dp K H2 v (.tuple [.list ((M.parts primes m).1.map dPK), .int (M.parts primes m).2]) → Q v H2) :
    rd_parted K { nx := fun _ H' => Q .non H', rt := Q } (start ["m", "rows", "rest", "p", "often"] [.int m]) H := by
  refine q_asgL (el_lst (vs := []) ea_nil (by decide)) fun pr H1 nr e1 hr => q_asg (ev_var rfl) fun H2 e2 => ?_
  refine q_forT ev_c (hP _) (fun i σ' H' => ∃ (y z : Option V) (xs : List V), σ' = [some (.int m), some (.ref pr), some (.int (M.parts (primes.take i) m).2), y, z] ∧ Ex H H' ∧ H' pr = some (.lst xs) ∧ DpAll K H' xs ((M.parts (primes.take i) m).1.map dPK)) (fun H3 e3 => ⟨none, none, [], rfl, (e1.trans e2).trans e3, e3 _ _ (e2 _ _ hr), .nil⟩) (fun _ _ H' _ _ => hP H') ?_ ?_
  · rintro i x σ' H' hx ⟨y, z, xs, rfl, e', hpr, hxs⟩
    obtain ⟨hi, rfl⟩ := of_V hx
    obtain ⟨hp, hp2⟩ := primes_ge (primes.getD i 0) (by rw [getD_at hi]; exact List.getElem_mem _)
    obtain ⟨pos, len⟩ := parts_pos hm i (Nat.le_of_lt hi)
    have hi46 : i < 46 := hi
    have et := parts_take (m := m) hi
    generalize M.parts (primes.take (i + 1)) m = S' at et ⊢
    generalize M.parts (primes.take i) m = S at et pos len hxs ⊢
    subst et
    generalize primes.getD i 0 = p at hp hp2 ⊢
    show tSeq _ _ _ _ _
    refine q_asg ev_c fun H3 e3 => ?_
    refine q_while (fun k σ' H' => ∃ (o : Nat) (r : Int), σ' = [some (.int m), some (.ref pr), some (.int r), some (.int p), some (.int (o : Int))] ∧ Ex H H' ∧ H' pr = some (.lst xs) ∧ DpAll K H' xs (S.1.map dPK) ∧ 1 ≤ r ∧ r.toNat ≤ k ∧ M.out p S.2 = (o + (M.out p r).1, (M.out p r).2)) S.2.toNat ⟨0, S.2, rfl, e'.trans e3, e3 _ _ hpr, dpAll_ex e3 hxs, pos, Nat.le_refl _, by rw [Nat.zero_add]⟩ ?_
    rintro k σ2 H4 ⟨o, r, rfl, e4, hpr4, hxs4, r1, r2, eo⟩
    refine ⟨decide (r % p = 0), et_is (et_test (ev_op (ev_op (ev_var rfl) (ev_var rfl) (rv_I (by omega))) ev_c (rv_eq rfl))) (by simp), fun hb H5 e5 => ?_, fun hb H5 e5 => ?_⟩
    · have hb := of_decide_eq_true hb
      obtain ⟨d1, d2, d3⟩ := out_div hp r1 hb
      refine ⟨fun σ2 H6 => σ2 = [some (.int m), some (.ref pr), some (.int (r / p)), some (.int p), some (.int ((o + 1 : Nat) : Int))] ∧ Ex H H6 ∧ H6 pr = some (.lst xs) ∧ DpAll K H6 xs (S.1.map dPK), ?_, ?_⟩
      · rintro σ3 H6 ⟨rfl, e6, h6, x6⟩
        refine ⟨(r / p).toNat, by omega, o + 1, r / p, rfl, e6, h6, x6, d1, Nat.le_refl _, ?_⟩
        rw [eo, out_yes hp r1 hb]
        exact Prod.ext (by show o + (_ + 1) = o + 1 + _; omega) rfl
      · refine q_asg (ev_op (ev_var rfl) (ev_var rfl) (rv_I ⟨by omega, by omega⟩)) fun H6 e6 => ?_
        refine s_aug (f := fun i j => i + j) rfl ev_c fun H7 e7 => ⟨?_, ((e4.trans e5).trans e6).trans e7, ((e5.trans e6).trans e7) _ _ hpr4, dpAll_ex ((e5.trans e6).trans e7) hxs4⟩
        rfl
    · have hb := of_decide_eq_false hb
      rw [out_no r1 hb] at eo
      have e05 := e4.trans e5
      refine s_when (b := decide (0 < o)) (et_is (et_test (ev_op (ev_var rfl) ev_c rv_I0)) (by simp)) (fun hc H6 e6 => ?_) (fun hc H6 e6 => ?_)
      · have hc := of_decide_eq_true hc
        have h6 := (e5.trans e6) _ _ hpr4
        refine s_appD h6 (ev_var rfl) (d_tup (K := K) (a_cons (d_int (ev_var rfl)) (a_cons (d_int (ev_var rfl)) a_nil)) (len2 _ _)) (by rw [dpAll_len hxs4, List.length_map]; omega) fun v H7 e7 pv => ?_
        refine ⟨some (.int p), some (.int (o : Int)), _, ?_, Ex.mut ((e05.trans e6).trans e7) nr, upd_same, ?_⟩
        · rw [show (M.partStep S p).2 = r from congrArg Prod.snd eo]
        · have ep : (M.partStep S p).1 = S.1 ++ [(p, o)] := by
            show S.1 ++ (if (M.out p S.2).1 = 0 then [] else [(p, (M.out p S.2).1)]) = _
            rw [eo, if_neg (show ¬ (o + 0 = 0) by omega)]
            rfl
          rw [ep, List.map_append]
          have k7 : KT K H7 (upd H7 pr (.lst (xs ++ [v]))) := KT.updL (e7 _ _ h6)
          exact dpAll_app (dpAll_kt k7 (tO_PK _) (dpAll_ex ((e5.trans e6).trans e7) hxs4)) (.cons (dp_kt (d := .tuple [.int p, .int (o : Int)]) k7 (by simp [tO, tOs]) pv) .nil)
      · have hc : o = 0 := by have := of_decide_eq_false hc; omega
        refine ⟨some (.int p), some (.int (o : Int)), xs, ?_, e05.trans e6, (e5.trans e6) _ _ hpr4, ?_⟩
        · rw [show (M.partStep S p).2 = r from congrArg Prod.snd eo]
        · have ep : (M.partStep S p).1 = S.1 := by
            show S.1 ++ (if (M.out p S.2).1 = 0 then [] else [(p, (M.out p S.2).1)]) = _
            rw [eo, if_pos (show o + 0 = 0 by omega), List.append_nil]
          rw [ep]
          exact dpAll_ex (e5.trans e6) hxs4
  · rintro σ' H' ⟨y, z, xs, rfl, e', hpr, hxs⟩
    rw [List.length_map, List.take_length] at hxs
    rw [List.length_map, List.take_length]
    exact s_retD (d_tup (a_cons (d_var rfl (.lst (sq_of hpr) hxs)) (a_cons (d_int (ev_var rfl)) a_nil)) (len2 _ _)) fun v H4 e4 p => q v H4 (e'.trans e4) p
theorem ok_parted (T : Tx K mg) : Ok P w K mg base CX0 "parted" ["m"] 1 (sp_parted K) := by
  refine ok_ofG T.g_parted T.f_parted sc_parted (fun _ _ _ _ _ _ us hl => match us, hl with | [_], _ => rfl) (fun vs H d ⟨ds, ⟨m, _, e, _⟩, hd⟩ => by rw [dpAll_len hd, e]; rfl) (fun cdv A outer s H vs Q E d hr ⟨ds, ⟨m, h1, hds, ed⟩, hv⟩ q => ⟨rd_parted K, PSs.nox ((pss_cons (ps_set (i := 1) sc_parted.nd rfl (Or.inl rfl) (pe_lst pa_nil))
  (pss_cons (ps_set (i := 2) sc_parted.nd rfl (Or.inl rfl) (pv 0))
  (pss_cons (ps_for PassesOwn.never rfl (pi_tup (pe_glob rfl T.g_PRIMES rfl)) (pg_name (i := 3) sc_parted.nd rfl (Or.inl rfl))
  (pss_cons (ps_set (i := 4) sc_parted.nd rfl (Or.inl rfl) pe_int)
  (pss_cons (ps_while PassesOwn.never (pt_cmpR op_eq (pe_op op_mod (pv 2) (pv 3)) pe_int (nomark _)) (pss_cons (ps_set (i := 2) sc_parted.nd rfl (Or.inl rfl) (pe_op op_fdiv (pv 2) (pv 3)))
  (pss_one (ps_aug (i := 4) sc_parted.nd rfl (Or.inl rfl) pe_int ip_add))))
  (pss_one (ps_if (pt_cmpR op_gt (pv 4) pe_int (nomark _)) (pss_one (ps_expr (pe_bm PySem.F.plainAttrs_list PySem.F.slot_list_append PySem.F.type_list_append mt_append (pv 1) (pa_cons (pe_tup (pa_cons (pv 3) (pa_cons (pv 4) pa_nil))) pa_nil)))) pss_nil)))))
  (pss_one (ps_ret (pe_tup (pa_cons (pv 1) (pa_cons (pv 2) pa_nil))))))))), ?_⟩)
  subst ed hds
  obtain ⟨v, rfl, k1⟩ := dpAll_one hv
  rw [dp_int k1]
  exact pu_parted h1 T.primesT q
/-! ### square_primes -/
def sqp (size : Int) : List Int := primes.filter fun p => decide (size % (p * p) = 0)
def dmSqp : List PyData → List PyData → Prop := fun ds es => ∃ size : Int, ds = [.int size] ∧ es = (sqp size).map .int
abbrev sp_square_primes (K : PySem.W.Frag) : Sp := spN (onD K dmSqp) K
def rd_square_primes (K : PySem.W.Frag) : TS := (tRet (tLc (iList K (tCall (sp_small_primes K) [] E0 tNil)) (gName 1) (tTest (tOp rEq (tOp oMod (tVar 0) (tOp oMul (tVar 1) (tVar 1))) (tC (.int 0)))) (tVar 1) [1]))
theorem ok_square_primes (T : Tx K mg) : Ok P w K mg base CX0 "square_primes" ["size"] 2 (sp_square_primes K) := by
  have O_small_primes := ok_small_primes (P := P) (w := w) (base := base) T
  refine ok_ofN T.g_square_primes T.f_square_primes sc_square_primes (fun _ _ _ _ _ _ us hl => match us, hl with | [_], _ => rfl) (fun vs H d ⟨ds, ⟨m, e, _⟩, hd⟩ => by rw [dpAll_len hd, e]; rfl) (fun cdv A outer s H vs Q E d hr ⟨ds, ⟨size, hds, ed⟩, hv⟩ q => ⟨rd_square_primes K, PSs.nox ((pss_one (ps_ret (pe_lc (own := [("p", 1)]) (g := gName 1) rfl sc_square_primes.nd (pi_list (pe_fn0 O_small_primes (hr.mono (by decide)))) (blkOk_by (own := [("p", 1)]) (N := ["size", "p"]) (sc := defScope s_square_primes) (by decide +kernel)) (fun _ _ _ _ _ => (pg_name (i := 1) sc_square_primes.nd rfl (Or.inl rfl))) (fun _ _ _ _ _ => pts_one (pt_cmpR op_eq (pe_op op_mod (pv 0) (pe_op op_mul (pv 1) (pv 1))) pe_int (nomark _))) (fun _ _ _ _ _ => (pv 1)))))), ?_⟩)
  subst ed hds
  obtain ⟨v, rfl, k1⟩ := dpAll_one hv
  rw [dp_int k1]
  have hc := n_lcNL (K := K) (tl := tCall (sp_small_primes K) [] E0 tNil) (te := tVar 1) (t := tTest (tOp rEq (tOp oMod (tVar 0) (tOp oMul (tVar 1) (tVar 1))) (tC (.int 0)))) (vs := [1]) (j := 1) (σ := start ["size", "p"] [.int size]) (H := H)
    (fun i => ((primes.take i).filter fun p => decide (size % (p * p) = 0)).map PyData.int) (n_call (dom := dmSmall) a_nil ⟨rfl, rfl⟩) rfl (fun i hi => ⟨by
      rw [List.length_map] at hi ⊢
      have h1 := List.length_filter_le (fun p => decide (size % (p * p) = 0)) (primes.take i)
      have h2 : (primes.take i).length ≤ 46 := by rw [List.length_take]; exact Nat.min_le_right _ _
      omega, tOs_ints _⟩) (fun x => rfl)
    (fun i x dx H1 e1 hdx pdx => by
      rw [List.getElem?_map] at hdx
      obtain ⟨p, hp, rfl⟩ := Option.map_eq_some_iff.mp hdx
      obtain ⟨hi, hpe⟩ := List.getElem?_eq_some_iff.mp hp
      obtain ⟨p2, p3⟩ := primes_ge p (by rw [← hpe]; exact List.getElem_mem _)
      rw [dp_int pdx]
      have pp : 0 < p * p := Int.mul_pos (by omega) (by omega)
      refine ⟨decide (size % (p * p) = 0), et_is (et_test (ev_op (ev_op (ev_var rfl) (ev_op (ev_var rfl) (ev_var rfl) (rv_I (.inl ⟨by omega, by omega⟩))) (rv_I pp)) ev_c (rv_eq rfl))) (by simp), fun hb => ⟨.int p, by simp [tO], d_int (ev_var rfl), ?_⟩, fun hb => ?_⟩
      · rw [List.take_add_one, hp, List.filter_append, List.map_append]
        show _ ++ (List.filter _ [p]).map PyData.int = _
        rw [List.filter_cons, if_pos hb]
        rfl
      · rw [List.take_add_one, hp, List.filter_append, List.map_append]
        show _ ++ (List.filter _ [p]).map PyData.int = _
        rw [List.filter_cons, if_neg (by rw [hb]; decide)]
        show _ ++ [] = _
        rw [List.append_nil])
  refine s_retN (n_cast hc ?_) q
  rw [List.length_map, List.take_length]
  rfl
end
end K41
set_option Elab.async false
set_option linter.all false
set_option maxRecDepth 100000
set_option maxHeartbeats 4000000
namespace K41
open PySem PySem.Spec PyProof.Rows L2 Evl
local macro_rules | `(tactic| walk_at "cc") => `(tactic| first
  | assumption
  | (with_reducible show (0 : Int) < _; omega)
  | exact Or.inl ⟨by omega, by omega⟩
  | exact Or.inr ⟨by omega, by omega⟩
  | exact And.intro (by omega) (by omega)
  | (show (0 : Int) < _; omega)
  | omega)
local macro_rules | `(tactic| walk_at "ev") => `(tactic| first
  | assumption
  | with_reducible exact ev_c
  | exact ev_var rfl
  | ((with_reducible refine' ev_op ?ka ?kb rv_I0); (case ka => walk_at "ev"); (case kb => walk_at "ev"))
  | ((with_reducible refine' ev_op ?ka ?kb (rv_I ?kc)); (case ka => walk_at "ev"); (case kb => walk_at "ev"); (case kc => walk_at "cc"))
  | ((with_reducible refine' ev_op (r := rEq) ?ka ?kb ?kd); (case ka => walk_at "ev"); (case kb => walk_at "ev"); (case kd => refine' rv_eq ?kc; rfl))
  | ((with_reducible refine' ev_op (r := rNe) ?ka ?kb ?kd); (case ka => walk_at "ev"); (case kb => walk_at "ev"); (case kd => refine' rv_ne ?kc; rfl))
  | ((with_reducible refine' ev_un ?ka ru_neg); (case ka => walk_at "ev"))
  | ((with_reducible refine' et_test ?ka); (case ka => walk_at "ev")))

section
variable {P : Program} {w : World} {K : PySem.W.Frag} {mg : Str → Option Value} {base : Heap}
/-! ### pair_of -/
def dPair : Option (List Int × List Int) → PyData
  | none => .none
  | some (g, h) => .list [dR g, dR h]
abbrev rd_pairA (K : PySem.W.Frag) : TS := tIfS (tTest (tOp rEq (tOp oMod (tOp oSub (tOp oAdd (tOp oAdd (tOp oMul (tVar 8) (tOp oSub (tVar 5) (tVar 8))) (tVar 6)) (tVar 7)) (tVar 4)) (tVar 1)) (tC (.int 0)))) (tRet (tLst (tCons (tTup (tCons (tVar 6) (tCons (tVar 8) (tCons (tC (.int 1)) tNil)))) (tCons (tTup (tCons (tVar 7) (tCons (tOp oMod (tOp oSub (tVar 5) (tVar 8)) (tVar 1)) (tCons (tC (.int 1)) tNil)))) tNil)))) tNext
theorem pu_pairA {H : Hp} {D : Ends} {v : V} {p low one two three b d a : Int} (hp : 0 < p) (ha : 0 ≤ a ∧ a ≤ 1000)
    (hr : ∀ r, M.pairA p two three b d a = some r → ∀ v H2, Ex H H2 → Dp K H2 v (dPair (some r)) → D.rt v H2)
    (hn : M.pairA p two three b d a = none → ∀ H2, Ex H H2 → D.nx [some v, some (.int p), some (.int low), some (.int one), some (.int two), some (.int three), some (.int b), some (.int d), some (.int a)] H2) :
    rd_pairA K D [some v, some (.int p), some (.int low), some (.int one), some (.int two), some (.int three), some (.int b), some (.int d), some (.int a)] H := by
  have mm : CMul a (three - a) := .inl ⟨by omega, by omega⟩
  refine s_if (b := decide ((a * (three - a) + b + d - two) % p = 0)) (et_is (by walk_at "ev") (by simp)) (fun hc H1 e1 => ?_) (fun hc H1 e1 => ?_)
  · have hc := of_decide_eq_true hc
    have ep : M.pairA p two three b d a = some ([b, a, 1], [d, (three - a) % p, 1]) := by
      unfold M.pairA
      rw [if_pos hc]
    refine s_retN (n_lst (a_cons (d_tup (K := K) (ds := [.int b, .int a, .int 1]) (a_cons (d_int (by walk_at "ev")) (a_cons (d_int (by walk_at "ev")) (a_cons (d_int (by walk_at "ev")) a_nil))) (len3 _ _ _)) (a_cons (d_tup (ds := [.int d, .int ((three - a) % p), .int 1]) (a_cons (d_int (by walk_at "ev")) (a_cons (d_int (by walk_at "ev")) (a_cons (d_int (by walk_at "ev")) a_nil))) (len3 _ _ _)) a_nil)) (len2 _ _)) fun l xs H2 nl e2 hl hx => hr _ ep _ _ (e1.trans e2) (.lst (sq_of hl) hx)
  · have hc := of_decide_eq_false hc
    exact hn (by unfold M.pairA; rw [if_neg hc]) H1 e1
def dmPairOf : List PyData → PyData → Prop := fun ds d => ∃ (left : List Int) (p : Int), left.length = 5 ∧ (∀ c ∈ left, 0 ≤ c ∧ c ≤ 1000) ∧ 2 ≤ p ∧ p ≤ 1000 ∧ ds = [dR left, .int p] ∧ d = dPair (M.pairOf left p)
abbrev sp_pair_of (K : PySem.W.Frag) : Sp := spG (onD K dmPairOf) K
def rd_pair_of (K : PySem.W.Frag) : TS := (tSeq (tAsg (tSl (rSlA K) (tVar 0) tNoPart (tPart (tC (.int 4)))) (gTup K 4 (gCons (gName 2) (gCons (gName 3) (gCons (gName 4) (gCons (gName 5) gNil))))))
  (tSeq (tFor (iRng2 (tCons (tC (.int 1)) (tCons (tVar 1) tNil))) (gName 6)
  (tSeq (tAsg (tOp oMod (tOp oMul (tVar 2) (tCall (sp_turned K) [] E0 (tCons (tVar 6) (tCons (tVar 1) tNil)))) (tVar 1)) (gName 7))
  (tIfS (tTest (tOp rNe (tVar 6) (tVar 7))) (tSeq (tAsg (tOp oMod (tOp oMul (tOp oSub (tVar 3) (tOp oMul (tVar 6) (tVar 5))) (tCall (sp_turned K) [] E0 (tCons (tOp oSub (tVar 7) (tVar 6)) (tCons (tVar 1) tNil)))) (tVar 1)) (gName 8))
  (tIfS (tTest (tOp rEq (tOp oMod (tOp oSub (tOp oAdd (tOp oAdd (tOp oMul (tVar 8) (tOp oSub (tVar 5) (tVar 8))) (tVar 6)) (tVar 7)) (tVar 4)) (tVar 1)) (tC (.int 0)))) (tRet (tLst (tCons (tTup (tCons (tVar 6) (tCons (tVar 8) (tCons (tC (.int 1)) tNil)))) (tCons (tTup (tCons (tVar 7) (tCons (tOp oMod (tOp oSub (tVar 5) (tVar 8)) (tVar 1)) (tCons (tC (.int 1)) tNil)))) tNil)))) tNext)) (tIfS (tTest (tOp rEq (tOp oMod (tOp oSub (tVar 3) (tOp oMul (tVar 6) (tVar 5))) (tVar 1)) (tC (.int 0)))) (tFor (iRng1 (tCons (tVar 1) tNil)) (gName 8)
  (tIfS (tTest (tOp rEq (tOp oMod (tOp oSub (tOp oAdd (tOp oAdd (tOp oMul (tVar 8) (tOp oSub (tVar 5) (tVar 8))) (tVar 6)) (tVar 7)) (tVar 4)) (tVar 1)) (tC (.int 0)))) (tRet (tLst (tCons (tTup (tCons (tVar 6) (tCons (tVar 8) (tCons (tC (.int 1)) tNil)))) (tCons (tTup (tCons (tVar 7) (tCons (tOp oMod (tOp oSub (tVar 5) (tVar 8)) (tVar 1)) (tCons (tC (.int 1)) tNil)))) tNil)))) tNext)) tNext))))
  (tRet (tC .non))))
theorem firstUp_some {α : Type} {f : Nat → Option α} {s n : Nat} {r : α} (h : f s = some r) : M.firstUp f s (n + 1) = some r := by
  unfold M.firstUp
  rw [h]
theorem firstUp_none {α : Type} {f : Nat → Option α} {s n : Nat} (h : f s = none) : M.firstUp f s (n + 1) = M.firstUp f (s + 1) n := by
  conv => lhs; unfold M.firstUp
  rw [h]
set_option maxHeartbeats 8000000 in
theorem pu_pair_of {H : Hp} {v : V} {l0 l1 l2 l3 l4 p : Int} {Q : VK} (hs : ∀ c ∈ [l0, l1, l2, l3, l4], 0 ≤ c ∧ c ≤ 1000) (hp : 2 ≤ p) (hp2 : p ≤ 1000) (hv : Dp K H v (dR [l0, l1, l2, l3, l4])) (q : ∀ v H2, Ex H H2 → Dp K H2 v (dPair (M.pairOf [l0, l1, l2, l3, l4] p)) → Q v H2) :
    rd_pair_of K { nx := fun _ H' => Q .non H', rt := Q } (start ["left", "p", "low", "one", "two", "three", "b", "d", "a"] [v, .int p]) H := by
  have s0 := hs l0 (by simp)
  have s1 := hs l1 (by simp)
  have s2 := hs l2 (by simp)
  have s3 := hs l3 (by simp)
  have hp0 : 0 < p := by omega
  refine q_asgP (d_slT (lo := none) (hi := some 4) (d_var rfl hv) eo_none (eo_some ev_c)) fun u H1 e1 hu => ?_
  rw [show cutD ([l0, l1, l2, l3, l4].map PyData.int) none (some 4) = [l0, l1, l2, l3].map PyData.int from cutD_to _ 4] at hu
  obtain ⟨a, rfl, ha⟩ := dp_R hu
  refine ⟨a, _, rfl, ha, rfl, _, _, rfl, _, _, rfl, _, _, rfl, _, _, rfl, rfl, ?_⟩
  show tSeq _ _ _ [some v, some (.int p), some (.int l0), some (.int l1), some (.int l2), some (.int l3), none, none, none] H1
  have en : ((p - 1).toNat : Int) = p - 1 := by omega
  refine q_forR2 (lo := 1) (n := p) (ea_cons ev_c (ea_cons (ev_var rfl) ea_nil)) ⟨by omega, by omega, by omega, by omega⟩
    (fun i σ' H' => ∃ x y z, σ' = [some v, some (.int p), some (.int l0), some (.int l1), some (.int l2), some (.int l3), x, y, z] ∧ Ex H H' ∧
      M.firstUp (fun i => M.pairTry p l1 l2 l3 (1 + (i : Int)) (l0 * M.turned (1 + (i : Int)) p % p)) i ((p - 1).toNat - i) = M.pairOf [l0, l1, l2, l3, l4] p)
    (fun H2 e2 => ⟨none, none, none, rfl, e1.trans e2, rfl⟩) ?_ ?_
  · rintro i σ' H' hi ⟨x, y, z, rfl, e', ef⟩
    obtain ⟨n, hn⟩ : ∃ n, (p - 1).toNat - i = n + 1 := ⟨(p - 1).toNat - i - 1, by omega⟩
    have hn' : (p - 1).toNat - (i + 1) = n := by omega
    rw [hn] at ef
    have nx : ∀ {H2 : Hp} {x y z : Option V}, Ex H H2 → M.pairTry p l1 l2 l3 (1 + (i : Int)) (l0 * M.turned (1 + (i : Int)) p % p) = none → ∃ x' y' z', [some v, some (V.int p), some (.int l0), some (.int l1), some (.int l2), some (.int l3), x, y, z] = [some v, some (.int p), some (.int l0), some (.int l1), some (.int l2), some (.int l3), x', y', z'] ∧ Ex H H2 ∧
      M.firstUp (fun i => M.pairTry p l1 l2 l3 (1 + (i : Int)) (l0 * M.turned (1 + (i : Int)) p % p)) (i + 1) ((p - 1).toNat - (i + 1)) = M.pairOf [l0, l1, l2, l3, l4] p := fun e2 h => ⟨_, _, _, rfl, e2, by rw [hn', ← ef, firstUp_none h]⟩
    have rt : ∀ r, M.pairTry p l1 l2 l3 (1 + (i : Int)) (l0 * M.turned (1 + (i : Int)) p % p) = some r → M.pairOf [l0, l1, l2, l3, l4] p = some r := fun r h => by rw [← ef, firstUp_some h]
    generalize hb : (1 : Int) + (i : Int) = b at *
    obtain ⟨t0, t1⟩ := turned_small b hp0 hp2
    have ct : ∀ {σ : L2.St} {H : Hp} {te : TE} {a : Int}, σ[1]? = some (some (.int p)) → Ev te σ H (.int a) → Ev (tCall (sp_turned K) [] E0 (tCons te (tCons (tVar 1) tNil))) σ H (.int (M.turned a p)) := fun h1 h2 => ev_int (d_call (dom := dmTurned) (a_cons (d_int h2) (a_cons (d_int (ev_var h1)) a_nil)) ⟨_, p, hp0, hp2, rfl, rfl⟩)
    refine q_asg (v := .int (l0 * M.turned b p % p)) (ev_op (ev_op (ev_var rfl) (ct rfl (ev_var rfl)) (rv_I (.inl ⟨by omega, by omega⟩))) (ev_var rfl) (rv_I hp0)) fun H2 e2 => ?_
    have d0 := Int.emod_nonneg (l0 * M.turned b p) (show p ≠ 0 by omega)
    have d1 := Int.emod_lt_of_pos (l0 * M.turned b p) hp0
    generalize l0 * M.turned b p % p = d at *
    have mb : CMul b l3 := .inl ⟨by omega, by omega⟩
    refine s_if (b := !decide (b = d)) (et_is (by walk_at "ev") (by simp)) (fun hc H3 e3 => ?_) (fun hc H3 e3 => ?_)
    · have hc : b ≠ d := by simpa using hc
      obtain ⟨u0, u1⟩ := turned_small (d - b) hp0 hp2
      refine q_asg (v := .int ((l1 - b * l3) * M.turned (d - b) p % p)) (ev_op (ev_op (by walk_at "ev") (ct rfl (by walk_at "ev")) (rv_I (.inr ⟨by omega, by omega⟩))) (ev_var rfl) (rv_I hp0)) fun H4 e4 => ?_
      have a0 := Int.emod_nonneg ((l1 - b * l3) * M.turned (d - b) p) (show p ≠ 0 by omega)
      have a1 := Int.emod_lt_of_pos ((l1 - b * l3) * M.turned (d - b) p) hp0
      have et : M.pairTry p l1 l2 l3 b d = M.pairA p l2 l3 b d ((l1 - b * l3) * M.turned (d - b) p % p) := by
        unfold M.pairTry
        rw [if_pos hc]
      rw [et] at nx rt
      generalize (l1 - b * l3) * M.turned (d - b) p % p = aa at *
      refine pu_pairA hp0 ⟨a0, by omega⟩ (fun r h v H5 e5 pv => q v H5 ((((e'.trans e2).trans e3).trans e4).trans e5) (by rw [rt r h]; exact pv)) (fun h H5 e5 => nx ((((e'.trans e2).trans e3).trans e4).trans e5) h)
    · have hc : b = d := by simpa using hc
      refine s_if (b := decide ((l1 - b * l3) % p = 0)) (et_is (by walk_at "ev") (by simp)) (fun hc2 H4 e4 => ?_) (fun hc2 H4 e4 => ?_)
      · have hc2 := of_decide_eq_true hc2
        have et : M.pairTry p l1 l2 l3 b d = M.firstUp (fun a => M.pairA p l2 l3 b d (a : Int)) 0 p.toNat := by
          unfold M.pairTry
          rw [if_neg (by simpa using hc), if_pos hc2]
        rw [et] at nx rt
        refine s_forR1 (n := p) (ea_cons (ev_var rfl) ea_nil) ⟨by omega, by omega⟩
          (fun i σ' H' => ∃ z, σ' = [some v, some (.int p), some (.int l0), some (.int l1), some (.int l2), some (.int l3), some (.int b), some (.int d), z] ∧ Ex H H' ∧ M.firstUp (fun a => M.pairA p l2 l3 b d (a : Int)) i (p.toNat - i) = M.firstUp (fun a => M.pairA p l2 l3 b d (a : Int)) 0 p.toNat)
          (fun H5 e5 => ⟨z, rfl, (((e'.trans e2).trans e3).trans e4).trans e5, rfl⟩) ?_ ?_
        · rintro j σ2 H5 hj ⟨z, rfl, e5, ef2⟩
          obtain ⟨m, hm⟩ : ∃ m, p.toNat - j = m + 1 := ⟨p.toNat - j - 1, by omega⟩
          have hm' : p.toNat - (j + 1) = m := by omega
          rw [hm] at ef2
          exact pu_pairA hp0 ⟨by omega, by omega⟩ (fun r h v H6 e6 pv => q v H6 (e5.trans e6) (by rw [rt r (by rw [← ef2]; exact firstUp_some h)]; exact pv)) (fun h H6 e6 => ⟨_, rfl, e5.trans e6, by rw [hm', ← ef2]; exact (firstUp_none (f := fun a => M.pairA p l2 l3 b d (a : Int)) h).symm⟩)
        · rintro σ2 H5 ⟨z, rfl, e5, ef2⟩
          rw [Nat.sub_self] at ef2
          exact nx e5 ef2.symm
      · have hc2 := of_decide_eq_false hc2
        have et : M.pairTry p l1 l2 l3 b d = none := by
          unfold M.pairTry
          rw [if_neg (by simpa using hc), if_neg hc2]
        exact nx (((e'.trans e2).trans e3).trans e4) et
  · rintro σ' H' ⟨x, y, z, rfl, e', ef⟩
    rw [Nat.sub_self] at ef
    refine s_ret ev_c fun H2 e2 => q _ _ (e'.trans e2) ?_
    rw [← ef]
    exact .non
theorem ok_pair_of (T : Tx K mg) : Ok P w K mg base CX0 "pair_of" ["left", "p"] 2 (sp_pair_of K) := by
  have O_turned := ok_turned (P := P) (w := w) (base := base) T
  refine ok_ofG T.g_pair_of T.f_pair_of sc_pair_of (fun _ _ _ _ _ _ us hl => match us, hl with | [_, _], _ => rfl) (fun vs H d ⟨ds, ⟨left, p, _, _, _, _, e, _⟩, hd⟩ => by rw [dpAll_len hd, e]; rfl) (fun cdv A outer s H vs Q E d hr ⟨ds, ⟨left, p, h1, h2, h3, h4, hds, ed⟩, hv⟩ q => ⟨rd_pair_of K, PSs.nox ((pss_cons (ps_asg (pe_slice sl_tupA (pv 0) po_none (po_some pe_int)) (pg_tup rfl (pgs_cons (pg_name (i := 2) sc_pair_of.nd rfl (Or.inl rfl)) (pgs_cons (pg_name (i := 3) sc_pair_of.nd rfl (Or.inl rfl)) (pgs_cons (pg_name (i := 4) sc_pair_of.nd rfl (Or.inl rfl)) (pgs_cons (pg_name (i := 5) sc_pair_of.nd rfl (Or.inl rfl)) pgs_nil))))))
  (pss_cons (ps_for PassesOwn.never rfl (pi_range2 (by rfl) T.b_range (pa_cons pe_int (pa_cons (pv 1) pa_nil))) (pg_name (i := 6) sc_pair_of.nd rfl (Or.inl rfl))
  (pss_cons (ps_set (i := 7) sc_pair_of.nd rfl (Or.inl rfl) (pe_op op_mod (pe_op op_mul (pv 2) (pe_fn O_turned (hr.mono (by decide)) (pa_cons (pv 6) (pa_cons (pv 1) pa_nil)))) (pv 1)))
  (pss_one (ps_if (pt_cmpR op_ne (pv 6) (pv 7) (nomark _)) (pss_cons (ps_set (i := 8) sc_pair_of.nd rfl (Or.inl rfl) (pe_op op_mod (pe_op op_mul (pe_op op_sub (pv 3) (pe_op op_mul (pv 6) (pv 5))) (pe_fn O_turned (hr.mono (by decide)) (pa_cons (pe_op op_sub (pv 7) (pv 6)) (pa_cons (pv 1) pa_nil)))) (pv 1)))
  (pss_one (ps_if (pt_cmpR op_eq (pe_op op_mod (pe_op op_sub (pe_op op_add (pe_op op_add (pe_op op_mul (pv 8) (pe_op op_sub (pv 5) (pv 8))) (pv 6)) (pv 7)) (pv 4)) (pv 1)) pe_int (nomark _)) (pss_one (ps_ret (pe_lst (pa_cons (pe_tup (pa_cons (pv 6) (pa_cons (pv 8) (pa_cons pe_int pa_nil)))) (pa_cons (pe_tup (pa_cons (pv 7) (pa_cons (pe_op op_mod (pe_op op_sub (pv 5) (pv 8)) (pv 1)) (pa_cons pe_int pa_nil)))) pa_nil))))) pss_nil))) (pss_one (ps_if (pt_cmpR op_eq (pe_op op_mod (pe_op op_sub (pv 3) (pe_op op_mul (pv 6) (pv 5))) (pv 1)) pe_int (nomark _)) (pss_one (ps_for PassesOwn.never rfl (pi_range1 (by rfl) T.b_range (pa_cons (pv 1) pa_nil)) (pg_name (i := 8) sc_pair_of.nd rfl (Or.inl rfl))
  (pss_one (ps_if (pt_cmpR op_eq (pe_op op_mod (pe_op op_sub (pe_op op_add (pe_op op_add (pe_op op_mul (pv 8) (pe_op op_sub (pv 5) (pv 8))) (pv 6)) (pv 7)) (pv 4)) (pv 1)) pe_int (nomark _)) (pss_one (ps_ret (pe_lst (pa_cons (pe_tup (pa_cons (pv 6) (pa_cons (pv 8) (pa_cons pe_int pa_nil)))) (pa_cons (pe_tup (pa_cons (pv 7) (pa_cons (pe_op op_mod (pe_op op_sub (pv 5) (pv 8)) (pv 1)) (pa_cons pe_int pa_nil)))) pa_nil))))) pss_nil)))) pss_nil))))))
  (pss_one (ps_ret pe_non))))), ?_⟩)
  subst ed hds
  obtain ⟨v, u, rfl, k1, k2⟩ := dpAll_two hv
  rw [dp_int k2]
  match left, h1 with
  | [l0, l1, l2, l3, l4], _ => exact pu_pair_of h2 h3 h4 k1 q
end
end K41
set_option Elab.async false
set_option linter.all false
set_option maxRecDepth 100000
set_option maxHeartbeats 4000000
namespace K41
open PySem PySem.Spec PyProof.Rows L2 Evl
local macro_rules | `(tactic| walk_at "cc") => `(tactic| first
  | assumption
  | (with_reducible show (0 : Int) < _; omega)
  | exact Or.inl ⟨by omega, by omega⟩
  | exact Or.inr ⟨by omega, by omega⟩
  | exact And.intro (by omega) (by omega)
  | (show (0 : Int) < _; omega)
  | omega)
local macro_rules | `(tactic| walk_at "ev") => `(tactic| first
  | assumption
  | with_reducible exact ev_c
  | exact ev_var rfl
  | ((with_reducible refine' ev_op ?ka ?kb rv_I0); (case ka => walk_at "ev"); (case kb => walk_at "ev"))
  | ((with_reducible refine' ev_op ?ka ?kb (rv_I ?kc)); (case ka => walk_at "ev"); (case kb => walk_at "ev"); (case kc => walk_at "cc"))
  | ((with_reducible refine' ev_op (r := rEq) ?ka ?kb ?kd); (case ka => walk_at "ev"); (case kb => walk_at "ev"); (case kd => refine' rv_eq ?kc; rfl))
  | ((with_reducible refine' ev_op (r := rNe) ?ka ?kb ?kd); (case ka => walk_at "ev"); (case kb => walk_at "ev"); (case kd => refine' rv_ne ?kc; rfl))
  | ((with_reducible refine' ev_un ?ka ru_neg); (case ka => walk_at "ev"))
  | ((with_reducible refine' et_test ?ka); (case ka => walk_at "ev")))

/-! ### equality of data -/
def OkD (d : PyData) (n : Nat) : Prop := d.canLay0 = true ∧ d.depth ≤ n
theorem canAll : ∀ {ds : List PyData} {n : Nat}, (∀ d ∈ ds, OkD d n) → PyData.canLayAll0 ds = true ∧ PyData.depthAll ds ≤ n
  | [], n, _ => ⟨by simp [PyData.canLayAll0], by simp [PyData.depthAll]⟩
  | d :: ds, n, h => by
    obtain ⟨h1, h2⟩ := h d List.mem_cons_self
    obtain ⟨h3, h4⟩ := canAll fun e he => h e (List.mem_cons_of_mem _ he)
    refine ⟨by unfold PyData.canLayAll0; rw [h1, h3]; rfl, ?_⟩
    unfold PyData.depthAll
    exact Nat.max_le.mpr ⟨h2, h4⟩
theorem okD_tup {ds : List PyData} {n : Nat} (h : ∀ d ∈ ds, OkD d n) : OkD (.tuple ds) (n + 1) := by
  obtain ⟨h1, h2⟩ := canAll h
  exact ⟨by unfold PyData.canLay0; exact h1, by unfold PyData.depth; omega⟩
theorem okD_lst {ds : List PyData} {n : Nat} (h : ∀ d ∈ ds, OkD d n) : OkD (.list ds) (n + 1) := by
  obtain ⟨h1, h2⟩ := canAll h
  exact ⟨by unfold PyData.canLay0; exact h1, by unfold PyData.depth; omega⟩
theorem okD_int (i : Int) (n : Nat) : OkD (.int i) n := ⟨by simp [PyData.canLay0], by simp [PyData.depth]⟩
theorem okD_none (n : Nat) : OkD .none n := ⟨by simp [PyData.canLay0], by simp [PyData.depth]⟩
theorem OkD.mono {d : PyData} {n m : Nat} (h : OkD d n) (l : n ≤ m) : OkD d m := ⟨h.1, Nat.le_trans h.2 l⟩
theorem okD_R (l : List Int) : OkD (dR l) 1 := okD_tup fun d h => by
  obtain ⟨i, _, rfl⟩ := List.mem_map.mp h
  exact okD_int i 0
theorem okD_T (t : List (List Int)) : OkD (dT t) 2 := okD_tup fun d h => by
  obtain ⟨l, _, rfl⟩ := List.mem_map.mp h
  exact okD_R l
theorem OkD.shaped {d : PyData} {n : Nat} (h : OkD d n) (hn : n ≤ 64) : SeqAt.shaped d = true := by
  unfold SeqAt.shaped
  rw [h.1, decide_eq_true (Nat.le_trans h.2 hn)]
  rfl
theorem eqv_ints : ∀ (l m : List Int), PyData.eqvAll (l.map .int) (m.map .int) = decide (l = m)
  | [], [] => by simp [PyData.eqvAll]
  | [], _ :: _ => by simp [PyData.eqvAll]
  | _ :: _, [] => by simp [PyData.eqvAll]
  | a :: l, b :: m => by
    show PyData.eqvAll (PyData.int a :: l.map .int) (PyData.int b :: m.map .int) = _
    unfold PyData.eqvAll
    rw [eqv_ints l m]
    unfold PyData.eqv
    by_cases h : a = b
    · subst h; simp
    · simp [h]
theorem eqv_R (l m : List Int) : PyData.eqv (dR l) (dR m) = decide (l = m) := by
  unfold dR PyData.eqv
  exact eqv_ints l m
section
variable {K : PySem.W.Frag} {σ : L2.St} {H : Hp} {ta tb te : TE} {ds es : List PyData} {d e : PyData}
theorem ev_eqD {n m : Nat} (ha : EvD K ta σ H d) (hb : EvD K tb σ H e) (h1 : OkD d n) (h2 : OkD e m) (hn : n ≤ 64) (hm : m ≤ 64) : Ev (tOp (rEqD K) ta tb) σ H (.bl (PyData.eqv d e)) := fun H1 a Q q =>
  ha H1 a _ fun x H2 e2 px => hb H2 (a.trans e2) _ fun y H3 e3 py => ⟨d, e, dp_ex e3 px, py, h1.shaped hn, h2.shaped hm, q H3 (e2.trans e3)⟩
theorem ev_neD {n m : Nat} (ha : EvD K ta σ H d) (hb : EvD K tb σ H e) (h1 : OkD d n) (h2 : OkD e m) (hn : n ≤ 64) (hm : m ≤ 64) : Ev (tOp (rNeD K) ta tb) σ H (.bl (!PyData.eqv d e)) := fun H1 a Q q =>
  ha H1 a _ fun x H2 e2 px => hb H2 (a.trans e2) _ fun y H3 e3 py => ⟨d, e, dp_ex e3 px, py, h1.shaped hn, h2.shaped hm, q H3 (e2.trans e3)⟩
/-- a list that stands, and a new one -/
theorem n_catV {l : Addr} {xs : List V} (hl : H l = some (.lst xs)) (hx : DpAll K H xs ds) (ha : Ev ta σ H (.ref l)) (hb : EvN K tb σ H es) (hz : ds.length + es.length ≤ 100000) : EvN K (tOp rCat ta tb) σ H (ds ++ es) := fun H1 e Q q =>
  ha H1 e _ fun H2 e2 => hb H2 (e.trans e2) _ fun b ys H3 nb e3 hb3 k =>
    ⟨l, b, xs, ys, rfl, rfl, (e2.trans e3) l _ (e l _ hl), hb3, by rw [dpAll_len hx, dpAll_len k]; exact sz_of hz, fun p hp => q p _ _ (fresh_back (e2.trans e3) hp) ((e2.trans e3).trans (Ex.new hp)) upd_same (dpAll_ex (Ex.new hp) (dpAll_app (dpAll_ex ((e.trans e2).trans e3) hx) k))⟩
end
section
variable {P : Program} {w : World} {K : PySem.W.Frag} {mg : Str → Option Value} {base : Heap}
/-! ### rootless -/
theorem firstUp_hit {α : Type} {f : Nat → Option α} : ∀ {n s : Nat} {r : α}, M.firstUp f s n = some r → ∃ i, s ≤ i ∧ i < s + n ∧ f i = some r
  | 0, _, _, h => by cases h
  | n + 1, s, r, h => by
    cases e : f s with
    | some x =>
      rw [firstUp_some e] at h
      cases h
      exact ⟨s, Nat.le_refl _, by omega, e⟩
    | none =>
      rw [firstUp_none e] at h
      obtain ⟨i, h1, h2, h3⟩ := firstUp_hit h
      exact ⟨i, by omega, by omega, h3⟩
/-- two monic polynomials of degree two, their places from 0 to p - 1 -/
def Quad (p : Int) (g : List Int) : Prop := ∃ b a : Int, g = [b, a, 1] ∧ 0 ≤ b ∧ b < p ∧ 0 ≤ a ∧ a < p
theorem pairOf_quad {left : List Int} {p : Int} {g h : List Int} (hp : 2 ≤ p) (e : M.pairOf left p = some (g, h)) : Quad p g ∧ Quad p h := by
  unfold M.pairOf at e
  obtain ⟨i, _, hi, e⟩ := firstUp_hit e
  have em : ∀ x : Int, 0 ≤ x % p ∧ x % p < p := fun x => ⟨Int.emod_nonneg x (by omega), Int.emod_lt_of_pos x (by omega)⟩
  have key : ∀ {two three b d a : Int}, 0 ≤ b → b < p → 0 ≤ d → d < p → 0 ≤ a → a < p → M.pairA p two three b d a = some (g, h) → Quad p g ∧ Quad p h := by
    intro two three b d a b0 b1 d0 d1 a0 a1 e
    unfold M.pairA at e
    split at e
    · cases e
      exact ⟨⟨b, a, rfl, b0, b1, a0, a1⟩, ⟨d, _, rfl, d0, d1, (em _).1, (em _).2⟩⟩
    · cases e
  unfold M.pairTry at e
  have bb : 0 ≤ 1 + (i : Int) ∧ 1 + (i : Int) < p := by omega
  split at e
  · exact key bb.1 bb.2 (em _).1 (em _).2 (em _).1 (em _).2 e
  · split at e
    · obtain ⟨j, _, hj, e⟩ := firstUp_hit e
      exact key bb.1 bb.2 (em _).1 (em _).2 (by omega) (by omega) e
    · cases e
def dGK (r : List Int × Nat) : PyData := .tuple [dR r.1, .int (r.2 : Int)]
def dmRootless : List PyData → List PyData → Prop := fun ds es => ∃ (left : List Int) (p : Int), left.length ≤ 5 ∧ (∀ c ∈ left, 0 ≤ c ∧ c ≤ 1000) ∧ 2 ≤ p ∧ p ≤ 199 ∧ ds = [dR left, .int p] ∧ es = (M.rootless left p).map dGK
abbrev sp_rootless (K : PySem.W.Frag) : Sp := spN (onD K dmRootless) K
def rd_rootless (K : PySem.W.Frag) : TS := (tSeq (tAsg (tC .non) (gName 2))
  (tCut (tIfS (tTest (tOp rEq (tCB (rLenS K) (tCons (tVar 0) tNil)) (tC (.int 5)))) (tAsg (tCall (sp_pair_of K) [] E0 (tCons (tVar 0) (tCons (tVar 1) tNil))) (gName 2)) tNext)
  (tSeq (tIfS (tTest (tOp oIsN (tVar 2) (tC .non))) (tRet (tLst (tCons (tTup (tCons (tVar 0) (tCons (tC (.int 1)) tNil))) tNil))) tNext)
  (tSeq (tIfS (tTest (tOp (rEqD K) (tOp (rIxL K) (tVar 2) (tC (.int 0))) (tOp (rIxL K) (tVar 2) (tC (.int 1))))) (tRet (tLst (tCons (tTup (tCons (tOp (rIxL K) (tVar 2) (tC (.int 0))) (tCons (tC (.int 2)) tNil))) tNil))) tNext)
  (tRet (tLc (iList K (tCB (rSortU K 3 200) (tCons (tVar 2) tNil))) (gName 3) tYes (tTup (tCons (tVar 3) (tCons (tC (.int 1)) tNil))) [3]))))))
theorem n_sort {σ : L2.St} {H : Hp} {ta : TE} {p : Int} {g h : List Int} (hp : p ≤ 199) (hg : Quad p g) (hh : Quad p h) (ha : EvD K ta σ H (.list [dR g, dR h])) (ne : g ≠ h) :
    EvN K (tCB (rSortU K 3 200) (tCons ta tNil)) σ H (if M.code3 g ≤ M.code3 h then [dR g, dR h] else [dR h, dR g]) := fun H1 e Q q => ha H1 e _ fun v H2 e2 pv => by
  obtain ⟨a, xs, rfl, h1, h2⟩ := dp_lst pv
  obtain ⟨x1, x2, rfl, p1, p2⟩ := dpAll_two h2
  obtain ⟨a1, rfl, t1⟩ := dp_R p1
  obtain ⟨a2, rfl, t2⟩ := dp_R p2
  have bd : ∀ {g : List Int}, Quad p g → g.length = 3 ∧ TS.Bd 200 g := by
    rintro g ⟨b, c, rfl, b0, b1, c0, c1⟩
    refine ⟨rfl, fun m hm => ?_⟩
    simp at hm
    omega
  have cd : ∀ {g : List Int}, Quad p g → TS.code 200 g = M.code3 g + 1 := by
    rintro g ⟨b, c, rfl, _⟩
    show b * 200 ^ 2 + (c * 200 ^ 1 + (1 * 200 ^ 0 + 0)) = b * 40000 + c * 200 + 1
    have e0 : (200 : Int) ^ 2 = 40000 := by decide
    have e1 : (200 : Int) ^ 1 = 200 := by decide
    have e2 : (200 : Int) ^ 0 = 1 := by decide
    rw [e0, e1, e2]
    omega
  refine ⟨a, [.ref a1, .ref a2], rfl, h1, Nat.lt_of_lt_of_le (Nat.lt_succ_self 2) (by decide), fun x hx => ?_, fun ys l perm pw nl => ?_⟩
  · simp at hx
    rcases hx with rfl | rfl
    · exact ⟨g, ⟨a1, rfl, t1⟩, bd hg⟩
    · exact ⟨h, ⟨a2, rfl, t2⟩, bd hh⟩
  · have hlen := perm.length_eq
    match ys, hlen with
    | [y1, y2], _ =>
      have k : DpAll K (upd H2 l (.lst [y1, y2])) [y1, y2] (if M.code3 g ≤ M.code3 h then [dR g, dR h] else [dR h, dR g]) := by
        have m1 := perm.mem_iff (a := y1)
        have m2 := perm.mem_iff (a := V.ref a1)
        have m3 := perm.mem_iff (a := V.ref a2)
        simp at m1 m2 m3
        have pw1 := (List.pairwise_cons.mp pw).1 y2 (by simp)
        have ex := Ex.new (o := .lst [y1, y2]) nl
        rcases m1 with rfl | rfl
        · have e2 : y2 = .ref a2 := by
            rcases m3 with z | z
            · have z' : V.ref a2 = V.ref a1 := z
              rw [z'] at perm
              have := perm.mem_iff (a := y2)
              simp at this
              rw [this, z']
            · exact z.symm
          subst e2
          have c := pw1 g h ⟨a1, rfl, t1⟩ ⟨a2, rfl, t2⟩
          rw [cd hg, cd hh] at c
          rw [if_pos (by omega)]
          exact .cons (dp_ex ex p1) (.cons (dp_ex ex p2) .nil)
        · have e2 : y2 = .ref a1 := by
            rcases m2 with z | z
            · have z' : V.ref a1 = V.ref a2 := z
              rw [z'] at perm
              have := perm.mem_iff (a := y2)
              simp at this
              rw [this, z']
            · exact z.symm
          subst e2
          have c := pw1 h g ⟨a2, rfl, t2⟩ ⟨a1, rfl, t1⟩
          rw [cd hg, cd hh] at c
          by_cases c2 : M.code3 g ≤ M.code3 h
          · exfalso
            apply ne
            obtain ⟨b, a, rfl, b0, b1, a0, a1⟩ := hg
            obtain ⟨b', a', rfl, b0', b1', a0', a1'⟩ := hh
            have k1 : M.code3 [b, a, 1] = b * 40000 + a * 200 := rfl
            have k2 : M.code3 [b', a', 1] = b' * 40000 + a' * 200 := rfl
            rw [k1, k2] at c c2
            have : b = b' := by omega
            have : a = a' := by omega
            subst_vars
            rfl
          · rw [if_neg c2]
            exact .cons (dp_ex ex p2) (.cons (dp_ex ex p1) .nil)
      exact q l _ _ (fresh_back e2 nl) (e2.trans (Ex.new nl)) upd_same k
theorem pu_rootless {H : Hp} {v : V} {left : List Int} {p : Int} {Q : VK} (hl : left.length ≤ 5) (hs : ∀ c ∈ left, 0 ≤ c ∧ c ≤ 1000) (hp : 2 ≤ p) (hp2 : p ≤ 199) (hv : Dp K H v (dR left))
    (q : ∀ l xs H2, H l = none → Ex H H2 → H2 l = some (.lst xs) → DpAll K H2 xs ((M.rootless left p).map dGK) → Q (.ref l) H2) :
    rd_rootless K { nx := fun _ H' => Q .non H', rt := Q } (start ["left", "p", "pair", "g"] [v, .int p]) H := by
  refine q_asg ev_c fun H1 e1 => ?_
  refine q_cut (M := fun σ' H' => ∃ u, σ' = [some v, some (.int p), some u, none] ∧ Ex H H' ∧ Dp K H' u (dPair (if left.length = 5 then M.pairOf left p else none))) (s_when (b := decide (left.length = 5)) (et_is (et_test (ev_op (ev_lenD ((d_var rfl hv).mono e1) (.inl rfl)) ev_c (rv_eq rfl))) (by rw [List.length_map]; simp; omega)) (fun hc H2 e2 => ?_) (fun hc H2 e2 => ?_)) ?_
  · have hc := of_decide_eq_true hc
    refine s_asgD (d_call (dom := dmPairOf) (d := dPair (if left.length = 5 then M.pairOf left p else none)) (a_cons (d_var rfl (dp_ex (e1.trans e2) hv)) (a_cons (d_int (ev_var rfl)) a_nil)) ⟨left, p, hc, hs, hp, by omega, rfl, by rw [if_pos hc]⟩) fun u H3 e3 pu => ⟨u, rfl, (e1.trans e2).trans e3, pu⟩
  · have hc := of_decide_eq_false hc
    exact ⟨.non, rfl, e1.trans e2, by rw [if_neg hc]; exact .non⟩
  · rintro σ' H2 ⟨u, rfl, e2, pu⟩
    have er : M.rootless left p = (match (if left.length = 5 then M.pairOf left p else none) with
      | none => [(left, 1)]
      | some (g, h) => if g = h then [(g, 2)] else if M.code3 g ≤ M.code3 h then [(g, 1), (h, 1)] else [(h, 1), (g, 1)]) := rfl
    have qd : ∀ g h, (if left.length = 5 then M.pairOf left p else none) = some (g, h) → Quad p g ∧ Quad p h := fun g h e => by
      split at e
      · exact pairOf_quad hp e
      · cases e
    generalize (if left.length = 5 then M.pairOf left p else none) = r at *
    match r with
    | none =>
      have eu : u = .non := dp_none pu
      subst eu
      refine q_when (b := true) (fun H3 e3 Q' q' => ⟨.non, rfl, rfl, true, rfl, q' H3 (Ex.refl H3)⟩) (fun _ H3 e3 => ?_) (fun h => by cases h)
      refine s_retN (n_lst (a_cons (d_tup (K := K) (a_cons (d_var rfl (dp_ex (e2.trans e3) hv)) (a_cons (d_int ev_c) a_nil)) (len2 _ _)) a_nil) (len1 _)) fun l xs H4 nl e4 hl4 hx => q l xs H4 (fresh_back (e2.trans e3) nl) ((e2.trans e3).trans e4) hl4 (by rw [er]; exact hx)
    | some (g, h) =>
      obtain ⟨qg, qh⟩ := qd g h rfl
      have er' : M.rootless left p = if g = h then [(g, 2)] else if M.code3 g ≤ M.code3 h then [(g, 1), (h, 1)] else [(h, 1), (g, 1)] := er
      clear er
      obtain ⟨a, xs, rfl, h1, h2⟩ := dp_lst pu
      refine q_when (b := false) (fun H3 e3 Q' q' => ⟨.ref a, rfl, rfl, false, rfl, q' H3 (Ex.refl H3)⟩) (fun h => by cases h) (fun _ H3 e3 => ?_)
      have pu3 := dp_ex e3 pu
      have it : ∀ {H4 : Hp} {σ : L2.St} {i : Nat} {d : PyData}, Dp K H4 (.ref a) (dPair (some (g, h))) → σ[2]? = some (some (.ref a)) → [dR g, dR h][i]? = some d → EvD K (tOp (rIxL K) (tVar 2) (tC (.int (i : Int)))) σ H4 d := fun pu hσ hi => d_ixL (d_var hσ pu) ev_c (atI_nat hi)
      refine q_when (b := decide (g = h)) (et_is (et_test (ev_eqD (n := 1) (m := 1) (it (i := 0) pu3 rfl rfl) (it (i := 1) pu3 rfl rfl) (okD_R _) (okD_R _) (by decide) (by decide))) (eqv_R g h)) (fun hc H4 e4 => ?_) (fun hc H4 e4 => ?_)
      · have hc := of_decide_eq_true hc
        refine s_retN (n_lst (a_cons (d_tup (K := K) (a_cons (it (i := 0) (dp_ex e4 pu3) rfl rfl) (a_cons (d_int ev_c) a_nil)) (len2 _ _)) a_nil) (len1 _)) fun l xs H5 nl e5 hl5 hx => q l xs H5 (fresh_back ((e2.trans e3).trans e4) nl) (((e2.trans e3).trans e4).trans e5) hl5 (by rw [er', if_pos hc]; exact hx)
      · have hc := of_decide_eq_false hc
        have hs := n_sort (K := K) hp2 qg qh (d_var (σ := [some v, some (.int p), some (.ref a), none]) (i := 2) rfl (dp_ex e4 pu3)) hc
        have hc2 := n_lcNL (K := K) (tl := tCB (rSortU K 3 200) (tCons (tVar 2) tNil)) (te := tTup (tCons (tVar 3) (tCons (tC (.int 1)) tNil))) (t := tYes) (vs := [3]) (j := 3) (fun i => ((if M.code3 g ≤ M.code3 h then [dR g, dR h] else [dR h, dR g]).take i).map fun d => PyData.tuple [d, .int 1]) hs rfl
          (fun i hi => ⟨by rw [List.length_map, List.length_take]; split <;> (simp; omega), tOs_all fun d hd => by
            obtain ⟨c, hc, rfl⟩ := List.mem_map.mp hd
            have := List.mem_of_mem_take hc
            have tc : tO c = true := by
              split at this <;> (simp at this; rcases this with rfl | rfl <;> exact tO_R _)
            simp [tO, tOs, tc]⟩) (fun x => rfl)
          (fun i x dx H1 e1 hdx pdx => ⟨true, t_yes, fun _ => ⟨.tuple [dx, .int 1], by
              have := List.mem_of_getElem? hdx
              have tc : tO dx = true := by
                split at this <;> (simp at this; rcases this with rfl | rfl <;> exact tO_R _)
              simp [tO, tOs, tc], d_tup (K := K) (a_cons (d_var rfl pdx) (a_cons (d_int ev_c) a_nil)) (len2 _ _), by
              rw [List.take_add_one, hdx, List.map_append]
              rfl⟩, fun h => by cases h⟩)
        refine s_retN hc2 fun l xs H5 nl e5 hl5 hx => q l xs H5 (fresh_back ((e2.trans e3).trans e4) nl) (((e2.trans e3).trans e4).trans e5) hl5 ?_
        rw [List.take_length] at hx
        rw [er', if_neg hc]
        split
        · rename_i c
          rw [if_pos c] at hx
          exact hx
        · rename_i c
          rw [if_neg c] at hx
          exact hx
theorem ok_rootless (T : Tx K mg) : Ok P w K mg base CX0 "rootless" ["left", "p"] 3 (sp_rootless K) := by
  have O_pair_of := ok_pair_of (P := P) (w := w) (base := base) T
  refine ok_ofN T.g_rootless T.f_rootless sc_rootless (fun _ _ _ _ _ _ us hl => match us, hl with | [_, _], _ => rfl) (fun vs H d ⟨ds, ⟨left, p, _, _, _, _, e, _⟩, hd⟩ => by rw [dpAll_len hd, e]; rfl) (fun cdv A outer s H vs Q E d hr ⟨ds, ⟨left, p, h1, h2, h3, h4, hds, ed⟩, hv⟩ q => ⟨rd_rootless K, PSs.nox ((pss_cons (ps_set (i := 2) sc_rootless.nd rfl (Or.inl rfl) pe_non)
  (pss_cut (ps_if (pt_cmpR op_eq (pe_len T.b_len (pv 0)) pe_int (nomark _)) (pss_one (ps_set (i := 2) sc_rootless.nd rfl (Or.inl rfl) (pe_fn O_pair_of (hr.mono (by decide)) (pa_cons (pv 0) (pa_cons (pv 1) pa_nil))))) pss_nil)
  (pss_cons (ps_if (pt_cmpR op_isN (pv 2) pe_non (nomark _)) (pss_one (ps_ret (pe_lst (pa_cons (pe_tup (pa_cons (pv 0) (pa_cons pe_int pa_nil))) pa_nil)))) pss_nil)
  (pss_cons (ps_if (pt_cmpR (op_eqD hr.units) (pe_ix ix_list (pv 2) pe_int (fun _ _ => rfl)) (pe_ix ix_list (pv 2) pe_int (fun _ _ => rfl)) (nomark _)) (pss_one (ps_ret (pe_lst (pa_cons (pe_tup (pa_cons (pe_ix ix_list (pv 2) pe_int (fun _ _ => rfl)) (pa_cons pe_int pa_nil))) pa_nil)))) pss_nil)
  (pss_one (ps_ret (pe_lc (own := [("g", 3)]) (g := gName 3) (tt := tYes) rfl sc_rootless.nd (pi_list (pe_callB (cr_sortT (d := 3) (B := 200) (by decide)) (by rfl) T.b_sorted PyProof.Rows.boot_sorted (pa_cons (pv 2) pa_nil))) (blkOk_by (own := [("g", 3)]) (N := ["left", "p", "pair", "g"]) (sc := defScope s_rootless) (by decide +kernel)) (fun _ _ _ _ _ => (pg_name (i := 3) sc_rootless.nd rfl (Or.inl rfl))) (fun _ _ _ _ _ => pts_nil) (fun _ _ _ _ _ => (pe_tup (pa_cons (pv 3) (pa_cons pe_int pa_nil)))))))))))), ?_⟩)
  subst ed hds
  obtain ⟨v, u, rfl, k1, k2⟩ := dpAll_two hv
  rw [dp_int k2]
  exact pu_rootless h1 h2 h3 h4 k1 q
end
end K41
set_option Elab.async false
set_option linter.all false
set_option maxRecDepth 100000
set_option maxHeartbeats 4000000
namespace K41
open PySem PySem.Spec PyProof.Rows L2 Evl
local macro_rules | `(tactic| walk_at "cc") => `(tactic| first
  | assumption
  | (with_reducible show (0 : Int) < _; omega)
  | exact Or.inl ⟨by omega, by omega⟩
  | exact Or.inr ⟨by omega, by omega⟩
  | exact And.intro (by omega) (by omega)
  | (show (0 : Int) < _; omega)
  | omega)
local macro_rules | `(tactic| walk_at "ev") => `(tactic| first
  | assumption
  | with_reducible exact ev_c
  | exact ev_var rfl
  | ((with_reducible refine' ev_op ?ka ?kb rv_I0); (case ka => walk_at "ev"); (case kb => walk_at "ev"))
  | ((with_reducible refine' ev_op ?ka ?kb (rv_I ?kc)); (case ka => walk_at "ev"); (case kb => walk_at "ev"); (case kc => walk_at "cc"))
  | ((with_reducible refine' ev_op (r := rEq) ?ka ?kb ?kd); (case ka => walk_at "ev"); (case kb => walk_at "ev"); (case kd => refine' rv_eq ?kc; rfl))
  | ((with_reducible refine' ev_op (r := rNe) ?ka ?kb ?kd); (case ka => walk_at "ev"); (case kb => walk_at "ev"); (case kd => refine' rv_ne ?kc; rfl))
  | ((with_reducible refine' ev_un ?ka ru_neg); (case ka => walk_at "ev"))
  | ((with_reducible refine' et_test ?ka); (case ka => walk_at "ev")))

section
variable {P : Program} {w : World} {K : PySem.W.Frag} {mg : Str → Option Value} {base : Heap}
/-! ### split_by -/
theorem cut_mem : ∀ {l : List Int} {c : Int}, c ∈ M.cut l → c ∈ l
  | [], _, h => h
  | a :: l, c, h => by
    unfold M.cut at h
    cases e : M.cut l with
    | nil =>
      rw [e] at h
      simp only at h
      split at h
      · cases h
      · simp at h; subst h; exact List.mem_cons_self
    | cons d r =>
      rw [e] at h
      simp only at h
      rcases List.mem_cons.mp h with rfl | h
      · exact List.mem_cons_self
      · exact List.mem_cons_of_mem _ (cut_mem (by rw [e]; exact h))
theorem cut_last : ∀ {l : List Int}, l.getLast? ≠ some 0 → M.cut l = l
  | [], _ => rfl
  | [a], h => by
    unfold M.cut M.cut
    simp only
    rw [if_neg (by intro z; subst z; exact h rfl)]
  | a :: b :: l, h => by
    have ih := cut_last (l := b :: l) (by rw [List.getLast?_cons_cons] at h; exact h)
    unfold M.cut
    rw [ih]
theorem modPoly_small {l : List Int} {p : Int} (hp : 0 < p) : ∀ c ∈ M.modPoly l p, 0 ≤ c ∧ c < p := fun c h => by
  have := cut_mem h
  obtain ⟨x, _, rfl⟩ := List.mem_map.mp this
  exact ⟨Int.emod_nonneg x (by omega), Int.emod_lt_of_pos x hp⟩
theorem modPoly_lin {low p : Int} (h0 : 0 ≤ low) (h1 : low < p) (hp : 2 ≤ p) : M.modPoly [low, 1] p = [low, 1] := by
  unfold M.modPoly
  show M.cut [low % p, 1 % p] = _
  rw [Int.emod_eq_of_lt h0 h1, Int.emod_eq_of_lt (by omega) (by omega)]
  exact cut_last (by simp)
theorem mdivTo_small {p back : Int} {g : List Int} {d k : Nat} {l : List Int} (hp : 0 < p) : ∀ i, ∀ c ∈ (M.mdivTo p back g d k l i).2, 0 ≤ c ∧ c < p
  | 0, c, h => by cases h
  | i + 1, c, h => by
    rcases List.mem_append.mp (show c ∈ (M.mdivTo p back g d k l i).2 ++ [_] from h) with h | h
    · exact mdivTo_small hp i c h
    · simp at h
      subst h
      exact ⟨Int.emod_nonneg _ (by omega), Int.emod_lt_of_pos _ hp⟩
theorem mdiv_small {p back : Int} {g l : List Int} (hp : 0 < p) : ∀ c ∈ (M.mdiv p back g l).1, 0 ≤ c ∧ c < p := fun c h => mdivTo_small hp _ c (List.mem_reverse.mp (cut_mem h))
theorem mdiv_len (p back : Int) (g l : List Int) : (M.mdiv p back g l).1.length ≤ l.length + 1 - g.length := by
  refine Nat.le_trans (cut_len _) ?_
  rw [List.length_reverse, (mdivTo_len p back g _ _ l _).2]
  exact Nat.le_refl _
theorem peel_len {left : List Int} {low p : Int} (h0 : 0 ≤ low) (h1 : low < p) (hp : 2 ≤ p) : (M.modParted left [low, 1] p).1.length ≤ left.length - 1 := by
  refine Nat.le_trans (mdiv_len _ _ _ _) ?_
  rw [modPoly_lin h0 h1 hp]
  have := modPoly_len left p
  show (M.modPoly left p).length + 1 - 2 ≤ _
  omega
theorem peel_small {left : List Int} {low p : Int} (hp : 0 < p) : ∀ c ∈ (M.modParted left [low, 1] p).1, 0 ≤ c ∧ c < p := mdiv_small hp
/-- a row with places from 0 to p - 1 -/
def Sm (p : Int) (l : List Int) : Prop := l.length ≤ 5 ∧ ∀ c ∈ l, 0 ≤ c ∧ c < p
theorem sm_peel {p low : Int} (h0 : 0 ≤ low) (h1 : low < p) (hp : 2 ≤ p) : ∀ (n : Nat) (left : List Int), Sm p left → Sm p (M.peel n p low left).2
  | 0, _, h => h
  | n + 1, left, h => by
    unfold M.peel
    split
    · refine sm_peel h0 h1 hp n _ ⟨?_, peel_small (by omega)⟩
      have := peel_len (left := left) h0 h1 hp
      have := h.1
      omega
    · exact h
theorem splitRoots_succ (p : Int) (left : List Int) (n : Nat) : M.splitRoots p left (n + 1) = M.splitStep p (M.splitRoots p left n) n := by
  unfold M.splitRoots
  rw [List.range_succ, List.foldl_append]
  rfl
theorem sm_roots {p : Int} (hp : 2 ≤ p) {left : List Int} (h : Sm p left) : ∀ n : Nat, (n : Int) ≤ p → Sm p (M.splitRoots p left n).2 ∧ (M.splitRoots p left n).1.length ≤ n
  | 0, _ => ⟨h, Nat.le_refl _⟩
  | n + 1, hn => by
    obtain ⟨h1, h2⟩ := sm_roots hp h n (by omega)
    rw [splitRoots_succ]
    refine ⟨sm_peel (by omega) (by omega) hp _ _ h1, ?_⟩
    show ((M.splitRoots p left n).1 ++ (if _ = 0 then [] else [_] : List (List Int × Nat))).length ≤ _
    rw [List.length_append]
    split
    · simp; omega
    · simp; omega
theorem tO_GK (l : List (List Int × Nat)) : tOs (l.map dGK) = true := tOs_all fun d h => by
  obtain ⟨r, _, rfl⟩ := List.mem_map.mp h
  simp [dGK, tO, tOs, tO_R]
theorem inPrimes {p : Int} (h : p ∈ primes) : inV (.int p) (primes.map V.int) = true := by
  unfold inV
  rw [List.any_map, List.any_eq_true]
  exact ⟨p, h, by simp [eqV]⟩
def dmSplit : List PyData → List PyData → Prop := fun ds es => ∃ (f : List Int) (p : Int), f.length ≤ 5 ∧ p ∈ primes ∧ ds = [dR f, .int p] ∧ es = (M.split f p).map dGK
abbrev sp_split_by (K : PySem.W.Frag) : Sp := spN (onD K dmSplit) K
def rd_split_by (K : PySem.W.Frag) : TS := (tSeq (tIfS (tTest (tOp (rIn K true) (tVar 1) (tC (.ref (He.ga K "PRIMES"))))) tNever tNext)
  (tSeq (tAsg (tCall (sp_mod_poly K) [] E0 (tCons (tVar 0) (tCons (tVar 1) tNil))) (gName 2))
  (tSeq (tAsg (tLst tNil) (gName 3))
  (tSeq (tFor (iRng1 (tCons (tVar 1) tNil)) (gName 4)
  (tSeq (tAsg (tC (.int 0)) (gName 5))
  (tSeq (tWhile (tAnd (tTest (tOp oGt (tCB (rLenS K) (tCons (tVar 2) tNil)) (tC (.int 1)))) (tTest (tOp rEq (tCall (sp_mod_at K) [] E0 (tCons (tVar 2) (tCons (tUn uNeg (tVar 4)) (tCons (tVar 1) tNil)))) (tC (.int 0))))) (tSeq (tAsg (tOp (rIxT K) (tCall (sp_mod_parted K) [] E0 (tCons (tVar 2) (tCons (tTup (tCons (tVar 4) (tCons (tC (.int 1)) tNil))) (tCons (tVar 1) tNil)))) (tC (.int 0))) (gName 2))
  (tAug 5 (tC (.int 1)) (ipI fun i j => i + j))))
  (tIfS (tTest (tOp oGt (tVar 5) (tC (.int 0)))) (tDrop (tBM K "list" rAppend (tVar 3) (tCons (tTup (tCons (tTup (tCons (tVar 4) (tCons (tC (.int 1)) tNil))) (tCons (tVar 5) tNil))) tNil))) tNext))))
  (tSeq (tIfS (tTest (tOp oGt (tCB (rLenS K) (tCons (tVar 2) tNil)) (tC (.int 1)))) (tAsg (tOp rCat (tVar 3) (tCall (sp_rootless K) [] E0 (tCons (tVar 2) (tCons (tVar 1) tNil)))) (gName 3)) tNext)
  (tRet (tVar 3)))))))
set_option maxHeartbeats 8000000 in
theorem pu_split_by {H : Hp} {v : V} {f : List Int} {p : Int} {Q : VK} (hf : f.length ≤ 5) (hpr : p ∈ primes) (hP : ∀ H, SqT K H (He.ga K "PRIMES") (primes.map V.int)) (hv : Dp K H v (dR f))
    (q : ∀ l xs H2, H l = none → Ex H H2 → H2 l = some (.lst xs) → DpAll K H2 xs ((M.split f p).map dGK) → Q (.ref l) H2) :
    rd_split_by K { nx := fun _ H' => Q .non H', rt := Q } (start ["poly", "p", "left", "parts", "low", "often"] [v, .int p]) H := by
  obtain ⟨hp, hp2⟩ := primes_ge p hpr
  have hp0 : 0 < p := by omega
  refine q_when (b := false) (et_is (et_test (ev_op (ev_var rfl) ev_c (rv_niT (hP H) rfl (by decide)))) (by rw [inPrimes hpr]; rfl)) (fun h => by cases h) (fun _ H1 e1 => ?_)
  refine q_asgD (d_call (dom := dmModPoly) (d := dR (M.modPoly f p)) (a_cons (d_var rfl (dp_ex e1 hv)) (a_cons (d_int (ev_var rfl)) a_nil)) ⟨f, p, by omega, hp0, rfl, rfl⟩) fun ul H2 e2 pul => ?_
  have sm0 : Sm p (M.modPoly f p) := ⟨Nat.le_trans (modPoly_len f p) hf, modPoly_small hp0⟩
  have es : M.split f p = (M.splitRoots p (M.modPoly f p) p.toNat).1 ++ (if 1 < (M.splitRoots p (M.modPoly f p) p.toNat).2.length then M.rootless (M.splitRoots p (M.modPoly f p) p.toNat).2 p else []) := rfl
  generalize M.modPoly f p = left0 at *
  refine q_asgL (el_lst (vs := []) ea_nil (by decide)) fun pp H3 np e3 hpp => ?_
  have np0 : H pp = none := fresh_back (e1.trans e2) np
  refine q_forR1 (n := p) (ea_cons (ev_var rfl) ea_nil) ⟨by omega, by omega⟩
    (fun i σ' H' => ∃ (u : V) (y z : Option V) (xs : List V), σ' = [some v, some (.int p), some u, some (.ref pp), y, z] ∧ Ex H H' ∧ Dp K H' u (dR (M.splitRoots p left0 i).2) ∧ H' pp = some (.lst xs) ∧ DpAll K H' xs ((M.splitRoots p left0 i).1.map dGK))
    (fun H4 e4 => ⟨ul, none, none, [], rfl, ((e1.trans e2).trans e3).trans e4, dp_ex (e3.trans e4) pul, e4 _ _ hpp, .nil⟩) ?_ ?_
  · rintro i σ' H' hi ⟨u, y, z, xs, rfl, e', pu, hp', hxs⟩
    obtain ⟨smi, leni⟩ := sm_roots hp sm0 i (by omega)
    have et := splitRoots_succ p left0 i
    generalize M.splitRoots p left0 (i + 1) = S' at et ⊢
    generalize M.splitRoots p left0 i = S at et smi leni hxs pu ⊢
    subst et
    refine q_asg ev_c fun H4 e4 => ?_
    refine q_while (fun k σ' H' => ∃ (o : Nat) (u : V) (l : List Int), σ' = [some v, some (.int p), some u, some (.ref pp), some (.int (i : Int)), some (.int (o : Int))] ∧ Ex H H' ∧ Dp K H' u (dR l) ∧ Sm p l ∧ H' pp = some (.lst xs) ∧ DpAll K H' xs (S.1.map dGK) ∧ l.length ≤ k ∧ M.peel S.2.length p (i : Int) S.2 = (o + (M.peel k p (i : Int) l).1, (M.peel k p (i : Int) l).2)) S.2.length ⟨0, u, S.2, rfl, e'.trans e4, dp_ex e4 pu, smi, e4 _ _ hp', dpAll_ex e4 hxs, Nat.le_refl _, by rw [Nat.zero_add]⟩ ?_
    rintro k σ2 H5 ⟨o, u2, l, rfl, e5, pu2, sml, hp5, hxs5, lk, eo⟩
    have vl : ∀ {H6 : Hp} {σ : L2.St}, Ex H5 H6 → σ[2]? = some (some u2) → EvD K (tVar 2) σ H6 (dR l) := fun e h => d_var h (dp_ex e pu2)
    refine ⟨decide (1 < l.length) && decide (M.val l (-(i : Int)) % p = 0), et_and (et_is (et_test (ev_op (ev_lenD (vl (Ex.refl _) rfl) (.inl rfl)) ev_c rv_I0)) (by rw [List.length_map]; simp; omega)) fun _ => ?_, fun hb H6 e6 => ?_, fun hb H6 e6 => ?_⟩
    · exact et_is (et_test (ev_op (ev_int (d_call (dom := dmModAt) (a_cons (vl (Ex.refl _) rfl) (a_cons (d_int (ev_un (ev_var rfl) ru_neg)) (a_cons (d_int (ev_var rfl)) a_nil))) ⟨l, -(i : Int), p, by have := sml.1; omega, by omega, hp0, rfl, rfl⟩)) ev_c (rv_eq rfl))) (by simp)
    · simp only [Bool.and_eq_true, decide_eq_true_eq] at hb
      obtain ⟨k', rfl⟩ : ∃ k', k = k' + 1 := ⟨k - 1, by omega⟩
      have pl := peel_len (left := l) (low := (i : Int)) (by omega) (by omega) hp
      have ep : M.peel (k' + 1) p (i : Int) l = ((M.peel k' p (i : Int) (M.modParted l [(i : Int), 1] p).1).1 + 1, (M.peel k' p (i : Int) (M.modParted l [(i : Int), 1] p).1).2) := by
        conv => lhs; unfold M.peel
        rw [if_pos hb]
      have sm2 : Sm p (M.modParted l [(i : Int), 1] p).1 := ⟨by have := sml.1; omega, peel_small hp0⟩
      refine ⟨fun σ2 H6 => (∃ u3, σ2 = [some v, some (.int p), some u3, some (.ref pp), some (.int (i : Int)), some (.int ((o + 1 : Nat) : Int))] ∧ Dp K H6 u3 (dR (M.modParted l [(i : Int), 1] p).1)) ∧ Ex H H6 ∧ H6 pp = some (.lst xs) ∧ DpAll K H6 xs (S.1.map dGK), ?_, ?_⟩
      · rintro σ3 H7 ⟨⟨u3, rfl, pu3⟩, e7, hp7, hxs7⟩
        refine ⟨k', by omega, o + 1, u3, _, rfl, e7, pu3, sm2, hp7, hxs7, by omega, ?_⟩
        rw [eo, ep]
        exact Prod.ext (by show o + (_ + 1) = o + 1 + _; omega) rfl
      · refine q_asgD (d_ixT (d_call (dom := dmModParted) (d := .tuple [dR (M.modParted l [(i : Int), 1] p).1, dR (M.modParted l [(i : Int), 1] p).2]) (a_cons (vl e6 rfl) (a_cons (d_tup (ds := [.int (i : Int), .int 1]) (a_cons (d_int (ev_var rfl)) (a_cons (d_int ev_c) a_nil)) (len2 _ _)) (a_cons (d_int (ev_var rfl)) a_nil))) ⟨l, [(i : Int), 1], p, by have := sml.1; omega, by show 2 ≤ 1000; decide, by rw [modPoly_lin (by omega) (by omega) hp]; show 1 ≤ 2; decide, hp0, by omega, rfl, rfl⟩) ev_c (atI_nat (j := 0) rfl)) fun u3 H7 e7 pu3 => ?_
        refine s_aug (f := fun i j => i + j) rfl ev_c fun H8 e8 => ⟨⟨u3, rfl, dp_ex e8 pu3⟩, ((e5.trans e6).trans e7).trans e8, ((e6.trans e7).trans e8) _ _ hp5, dpAll_ex ((e6.trans e7).trans e8) hxs5⟩
    · have ep : M.peel k p (i : Int) l = (0, l) := by
        cases k with
        | zero => rfl
        | succ k =>
          unfold M.peel
          rw [if_neg]
          rintro ⟨c1, c2⟩
          rw [decide_eq_true c1, decide_eq_true c2] at hb
          cases hb
      rw [ep] at eo
      have e05 := e5.trans e6
      refine s_when (b := decide (0 < o)) (et_is (et_test (ev_op (ev_var rfl) ev_c rv_I0)) (by simp)) (fun hc H7 e7 => ?_) (fun hc H7 e7 => ?_)
      · have hc := of_decide_eq_true hc
        have h6 := (e6.trans e7) _ _ hp5
        refine s_appD h6 (ev_var rfl) (d_tup (K := K) (a_cons (d_tup (ds := [.int (i : Int), .int 1]) (a_cons (d_int (ev_var rfl)) (a_cons (d_int ev_c) a_nil)) (len2 _ _)) (a_cons (d_int (ev_var rfl)) a_nil)) (len2 _ _)) (by rw [dpAll_len hxs5, List.length_map]; omega) fun v' H8 e8 pv => ?_
        have k8 : KT K H8 (upd H8 pp (.lst (xs ++ [v']))) := KT.updL (e8 _ _ h6)
        refine ⟨u2, some (.int (i : Int)), some (.int (o : Int)), _, rfl, Ex.mut ((e05.trans e7).trans e8) np0, ?_, upd_same, ?_⟩
        · rw [show (M.splitStep p S i).2 = l from congrArg Prod.snd eo]
          exact dp_kt k8 (tO_R _) (dp_ex ((e6.trans e7).trans e8) pu2)
        · have ep : (M.splitStep p S i).1 = S.1 ++ [([(i : Int), 1], o)] := by
            show S.1 ++ (if (M.peel S.2.length p (i : Int) S.2).1 = 0 then [] else [([(i : Int), 1], (M.peel S.2.length p (i : Int) S.2).1)]) = _
            rw [eo, if_neg (show ¬ (o + 0 = 0) by omega)]
            rfl
          rw [ep, List.map_append]
          exact dpAll_app (dpAll_kt k8 (tO_GK _) (dpAll_ex ((e6.trans e7).trans e8) hxs5)) (.cons (dp_kt (d := .tuple [.tuple [.int (i : Int), .int 1], .int (o : Int)]) k8 (by simp [tO, tOs]) pv) .nil)
      · have hc : o = 0 := by have := of_decide_eq_false hc; omega
        refine ⟨u2, some (.int (i : Int)), some (.int (o : Int)), xs, rfl, e05.trans e7, ?_, (e6.trans e7) _ _ hp5, ?_⟩
        · rw [show (M.splitStep p S i).2 = l from congrArg Prod.snd eo]
          exact dp_ex (e6.trans e7) pu2
        · have ep : (M.splitStep p S i).1 = S.1 := by
            show S.1 ++ (if (M.peel S.2.length p (i : Int) S.2).1 = 0 then [] else [([(i : Int), 1], (M.peel S.2.length p (i : Int) S.2).1)]) = _
            rw [eo, if_pos (show o + 0 = 0 by omega), List.append_nil]
          rw [ep]
          exact dpAll_ex (e6.trans e7) hxs5
  · rintro σ' H' ⟨u, y, z, xs, rfl, e', pu, hp', hxs⟩
    obtain ⟨smi, leni⟩ := sm_roots hp sm0 p.toNat (by omega)
    generalize M.splitRoots p left0 p.toNat = S at *
    refine q_when (b := decide (1 < S.2.length)) (et_is (et_test (ev_op (ev_lenD (d_var rfl pu) (.inl rfl)) ev_c rv_I0)) (by rw [List.length_map]; simp; omega)) (fun hc H4 e4 => ?_) (fun hc H4 e4 => ?_)
    · have hc := of_decide_eq_true hc
      have sz : (M.rootless S.2 p).length ≤ 2 := by
        unfold M.rootless
        split
        · exact Nat.le_succ 1
        · split
          · exact Nat.le_succ 1
          · split <;> exact Nat.le_refl _
      refine q_asgN (n_catV (e4 _ _ hp') (dpAll_ex e4 hxs) (ev_var rfl) (n_call (dom := dmRootless) (a_cons (d_var rfl (dp_ex e4 pu)) (a_cons (d_int (ev_var rfl)) a_nil)) ⟨S.2, p, smi.1, fun c h => by have := smi.2 c h; omega, hp, hp2, rfl, rfl⟩) (by rw [List.length_map, List.length_map]; omega)) fun l xs' H5 nl e5 hl hx => ?_
      refine s_ret (ev_var rfl) fun H6 e6 => q l xs' H6 (fresh_back (e'.trans e4) nl) (((e'.trans e4).trans e5).trans e6) (e6 _ _ hl) ?_
      rw [es, if_pos hc, List.map_append]
      exact dpAll_ex e6 hx
    · have hc := of_decide_eq_false hc
      refine s_ret (ev_var rfl) fun H6 e6 => q pp xs H6 np0 ((e'.trans e4).trans e6) ((e4.trans e6) _ _ hp') ?_
      rw [es, if_neg hc, List.append_nil]
      exact dpAll_ex (e4.trans e6) hxs
theorem ok_split_by (T : Tx K mg) : Ok P w K mg base CX0 "split_by" ["poly", "p"] 4 (sp_split_by K) := by
  have O_mod_poly := ok_mod_poly (P := P) (w := w) (base := base) T
  have O_mod_at := ok_mod_at (P := P) (w := w) (base := base) T
  have O_mod_parted := ok_mod_parted (P := P) (w := w) (base := base) T
  have O_rootless := ok_rootless (P := P) (w := w) (base := base) T
  refine ok_ofN T.g_split_by T.f_split_by sc_split_by (fun _ _ _ _ _ _ us hl => match us, hl with | [_, _], _ => rfl) (fun vs H d ⟨ds, ⟨f, p, _, _, e, _⟩, hd⟩ => by rw [dpAll_len hd, e]; rfl) (fun cdv A outer s H vs Q E d hr ⟨ds, ⟨f, p, h1, h2, hds, ed⟩, hv⟩ q => ⟨rd_split_by K, PSs.nox ((pss_cons (ps_if (pt_cmpR op_notIn_seq (pv 1) (pe_glob rfl T.g_PRIMES rfl) (by rfl)) (pss_one ps_never) pss_nil)
  (pss_cons (ps_set (i := 2) sc_split_by.nd rfl (Or.inl rfl) (pe_fn O_mod_poly (hr.mono (by decide)) (pa_cons (pv 0) (pa_cons (pv 1) pa_nil))))
  (pss_cons (ps_set (i := 3) sc_split_by.nd rfl (Or.inl rfl) (pe_lst pa_nil))
  (pss_cons (ps_for PassesOwn.never rfl (pi_range1 (by rfl) T.b_range (pa_cons (pv 1) pa_nil)) (pg_name (i := 4) sc_split_by.nd rfl (Or.inl rfl))
  (pss_cons (ps_set (i := 5) sc_split_by.nd rfl (Or.inl rfl) pe_int)
  (pss_cons (ps_while PassesOwn.never (PW.pt (pw_and (pt_cmpR op_gt (pe_len T.b_len (pv 2)) pe_int (nomark _)) (pw_and1 (pt_cmpR op_eq (pe_fn O_mod_at (hr.mono (by decide)) (pa_cons (pv 2) (pa_cons (pe_un un_neg (pv 4)) (pa_cons (pv 1) pa_nil)))) pe_int (nomark _))))) (pss_cons (ps_set (i := 2) sc_split_by.nd rfl (Or.inl rfl) (pe_ix ix_tup (pe_fn O_mod_parted (hr.mono (by decide)) (pa_cons (pv 2) (pa_cons (pe_tup (pa_cons (pv 4) (pa_cons pe_int pa_nil))) (pa_cons (pv 1) pa_nil)))) pe_int (fun _ _ => rfl)))
  (pss_one (ps_aug (i := 5) sc_split_by.nd rfl (Or.inl rfl) pe_int ip_add))))
  (pss_one (ps_if (pt_cmpR op_gt (pv 5) pe_int (nomark _)) (pss_one (ps_expr (pe_bm PySem.F.plainAttrs_list PySem.F.slot_list_append PySem.F.type_list_append mt_append (pv 3) (pa_cons (pe_tup (pa_cons (pe_tup (pa_cons (pv 4) (pa_cons pe_int pa_nil))) (pa_cons (pv 5) pa_nil))) pa_nil)))) pss_nil)))))
  (pss_cons (ps_if (pt_cmpR op_gt (pe_len T.b_len (pv 2)) pe_int (nomark _)) (pss_one (ps_set (i := 3) sc_split_by.nd rfl (Or.inl rfl) (pe_op op_cat (pv 3) (pe_fn O_rootless (hr.mono (by decide)) (pa_cons (pv 2) (pa_cons (pv 1) pa_nil)))))) pss_nil)
  (pss_one (ps_ret (pv 3))))))))), ?_⟩)
  subst ed hds
  obtain ⟨v, u, rfl, k1, k2⟩ := dpAll_two hv
  rw [dp_int k2]
  exact pu_split_by h1 h2 T.primesT k1 q
end
end K41
set_option Elab.async false
set_option linter.all false
set_option maxRecDepth 100000
set_option maxHeartbeats 4000000
namespace K41
open PySem PySem.Spec PyProof.Rows L2 Evl
local macro_rules | `(tactic| walk_at "cc") => `(tactic| first
  | assumption
  | (with_reducible show (0 : Int) < _; omega)
  | exact Or.inl ⟨by omega, by omega⟩
  | exact Or.inr ⟨by omega, by omega⟩
  | exact And.intro (by omega) (by omega)
  | (show (0 : Int) < _; omega)
  | omega)
local macro_rules | `(tactic| walk_at "ev") => `(tactic| first
  | assumption
  | with_reducible exact ev_c
  | exact ev_var rfl
  | ((with_reducible refine' ev_op ?ka ?kb rv_I0); (case ka => walk_at "ev"); (case kb => walk_at "ev"))
  | ((with_reducible refine' ev_op ?ka ?kb (rv_I ?kc)); (case ka => walk_at "ev"); (case kb => walk_at "ev"); (case kc => walk_at "cc"))
  | ((with_reducible refine' ev_op (r := rEq) ?ka ?kb ?kd); (case ka => walk_at "ev"); (case kb => walk_at "ev"); (case kd => refine' rv_eq ?kc; rfl))
  | ((with_reducible refine' ev_op (r := rNe) ?ka ?kb ?kd); (case ka => walk_at "ev"); (case kb => walk_at "ev"); (case kd => refine' rv_ne ?kc; rfl))
  | ((with_reducible refine' ev_un ?ka ru_neg); (case ka => walk_at "ev"))
  | ((with_reducible refine' et_test ?ka); (case ka => walk_at "ev")))

section
variable {P : Program} {w : World} {K : PySem.W.Frag} {mg : Str → Option Value} {base : Heap}
/-! ### parts_of -/
theorem rootless_shape {left : List Int} {p : Int} (hp : 2 ≤ p) (sm : Sm p left) (hl : 1 < left.length) : ∀ r ∈ M.rootless left p, 2 ≤ r.1.length ∧ Sm p r.1 := by
  have q : ∀ g, Quad p g → 2 ≤ g.length ∧ Sm p g := by
    rintro g ⟨b, a, rfl, b0, b1, a0, a1⟩
    refine ⟨Nat.le_succ 2, Nat.le_of_ble_eq_true rfl, fun c h => ?_⟩
    simp at h
    omega
  intro r hr
  unfold M.rootless at hr
  split at hr
  · simp at hr; subst hr; exact ⟨hl, sm⟩
  · rename_i g h e
    have qd : Quad p g ∧ Quad p h := by
      split at e
      · exact pairOf_quad hp e
      · cases e
    split at hr
    · simp at hr; subst hr; exact q _ qd.1
    · split at hr
      · simp at hr
        rcases hr with rfl | rfl
        · exact q _ qd.1
        · exact q _ qd.2
      · simp at hr
        rcases hr with rfl | rfl
        · exact q _ qd.2
        · exact q _ qd.1
theorem roots_shape {p : Int} (hp : 2 ≤ p) {left : List Int} : ∀ n : Nat, (n : Int) ≤ p → ∀ r ∈ (M.splitRoots p left n).1, ∃ low : Int, 0 ≤ low ∧ low < p ∧ r.1 = [low, 1]
  | 0, _, r, h => by cases h
  | n + 1, hn, r, h => by
    rw [splitRoots_succ] at h
    rcases List.mem_append.mp (show r ∈ (M.splitRoots p left n).1 ++ (if _ = 0 then [] else [_] : List (List Int × Nat)) from h) with h | h
    · exact roots_shape hp n (by omega) r h
    · split at h
      · cases h
      · simp at h
        subst h
        exact ⟨(n : Int), by omega, by omega, rfl⟩
theorem split_shape {f : List Int} {p : Int} (hf : f.length ≤ 5) (hp : 2 ≤ p) : ∀ r ∈ M.split f p, 2 ≤ r.1.length ∧ Sm p r.1 := fun r h => by
  have sm0 : Sm p (M.modPoly f p) := ⟨Nat.le_trans (modPoly_len f p) hf, modPoly_small (by omega)⟩
  rcases List.mem_append.mp (show r ∈ (M.splitRoots p (M.modPoly f p) p.toNat).1 ++ _ from h) with h | h
  · obtain ⟨low, h0, h1, e⟩ := roots_shape hp p.toNat (by omega) r h
    rw [e]
    exact ⟨Nat.le_refl _, Nat.le_of_ble_eq_true rfl, fun c hc => by simp at hc; omega⟩
  · split at h
    · rename_i c
      exact rootless_shape hp (sm_roots hp sm0 p.toNat (by omega)).1 c r h
    · cases h
theorem split_len {f : List Int} {p : Int} (hf : f.length ≤ 5) (hp : 2 ≤ p) (hp2 : p ≤ 199) : (M.split f p).length ≤ 300 := by
  have sm0 : Sm p (M.modPoly f p) := ⟨Nat.le_trans (modPoly_len f p) hf, modPoly_small (by omega)⟩
  have h := (sm_roots hp sm0 p.toNat (by omega)).2
  have h2 : ∀ l : List Int, (M.rootless l p).length ≤ 2 := fun l => by
    unfold M.rootless
    split
    · exact Nat.le_succ 1
    · split
      · exact Nat.le_succ 1
      · split <;> exact Nat.le_refl _
  show ((M.splitRoots p (M.modPoly f p) p.toNat).1 ++ _).length ≤ _
  rw [List.length_append]
  split
  · have := h2 (M.splitRoots p (M.modPoly f p) p.toNat).2
    omega
  · simp; omega
def dGKR (f : List Int) (r : List Int × Nat) : PyData := .tuple [dR r.1, .int (r.2 : Int), dR (M.polyParted f r.1).2]
theorem tO_GKR (f : List Int) (l : List (List Int × Nat)) : tOs (l.map (dGKR f)) = true := tOs_all fun d h => by
  obtain ⟨r, _, rfl⟩ := List.mem_map.mp h
  simp [dGKR, tO, tOs, tO_R]
def dmPartsOf : List PyData → List PyData → Prop := fun ds es => ∃ (f : List Int) (p : Int), f.length ≤ 5 ∧ p ∈ primes ∧ ds = [dR f, .int p] ∧ es = (M.split f p).map (dGKR f)
abbrev sp_parts_of (K : PySem.W.Frag) : Sp := spN (onD K dmPartsOf) K
def rd_parts_of (K : PySem.W.Frag) : TS := (tSeq (tAsg (tLst tNil) (gName 2))
  (tSeq (tFor (iList K (tCall (sp_split_by K) [] E0 (tCons (tVar 0) (tCons (tVar 1) tNil)))) (gTup K 2 (gCons (gName 3) (gCons (gName 4) gNil)))
  (tDrop (tBM K "list" rAppend (tVar 2) (tCons (tTup (tCons (tVar 3) (tCons (tVar 4) (tCons (tOp (rIxT K) (tCall (sp_poly_parted K) [] E0 (tCons (tVar 0) (tCons (tVar 3) tNil))) (tC (.int 1))) tNil)))) tNil))))
  (tRet (tVar 2))))
theorem sm_abs {p : Int} {g : List Int} (hp : p ≤ 199) (h : Sm p g) : ∀ c ∈ g, c.natAbs < 2 ^ 60 := fun c hc => by
  have := h.2 c hc
  omega
theorem pu_parts_of {H : Hp} {v : V} {f : List Int} {p : Int} {Q : VK} (hf : f.length ≤ 5) (hpr : p ∈ primes) (hv : Dp K H v (dR f))
    (q : ∀ l xs H2, H l = none → Ex H H2 → H2 l = some (.lst xs) → DpAll K H2 xs ((M.split f p).map (dGKR f)) → Q (.ref l) H2) :
    rd_parts_of K { nx := fun _ H' => Q .non H', rt := Q } (start ["poly", "p", "parts", "g", "often"] [v, .int p]) H := by
  obtain ⟨hp, hp2⟩ := primes_ge p hpr
  have shape := split_shape (f := f) (p := p) hf hp
  have len := split_len (f := f) (p := p) hf hp hp2
  refine q_asgL (el_lst (vs := []) ea_nil (by decide)) fun pp H1 np e1 hpp => ?_
  refine q_forN (n_call (dom := dmSplit) (a_cons (d_var rfl (dp_ex e1 hv)) (a_cons (d_int (ev_var rfl)) a_nil)) ⟨f, p, hf, hpr, rfl, rfl⟩)
    (fun l xs i σ' H' => ∃ (y z : Option V) (ys : List V), σ' = [some v, some (.int p), some (.ref pp), y, z] ∧ Ex H H' ∧ l ≠ pp ∧ H' l = some (.lst xs) ∧ DpAll K H' xs ((M.split f p).map dGK) ∧ H' pp = some (.lst ys) ∧ DpAll K H' ys (((M.split f p).take i).map (dGKR f)))
    (fun l xs H2 nl e2 hl hx => ⟨none, none, [], rfl, e1.trans e2, (fun e => by rw [e, hpp] at nl; cases nl), hl, hx, e2 _ _ hpp, .nil⟩)
    (fun l xs i σ' H' ⟨_, _, _, _, _, _, h1, h2, _⟩ => ⟨h1, h2⟩) ?_ ?_
  · rintro l xs i x dx σ' H' hdx pdx ⟨y, z, ys, rfl, e', ne, hl, hx, hp', hy⟩
    rw [List.getElem?_map] at hdx
    cases er : (M.split f p)[i]? with
    | none => rw [er] at hdx; cases hdx
    | some r =>
      rw [er] at hdx
      cases hdx
      obtain ⟨sh1, sh2⟩ := shape r (List.mem_of_getElem? er)
      have et : (M.split f p).take (i + 1) = (M.split f p).take i ++ [r] := by rw [List.take_add_one, er]; rfl
      have il : ((M.split f p).take i).length ≤ 300 := by rw [List.length_take]; omega
      refine g_tup2 (d1 := dR r.1) (d2 := .int (r.2 : Int)) pdx fun u1 u2 k1 k2 => ?_
      rw [dp_int k2]
      refine s_appD hp' (ev_var rfl) (d_tup (K := K) (a_cons (d_var rfl k1) (a_cons (d_int (ev_var rfl)) (a_cons (d_ixT (d_call (dom := dmPolyParted) (d := .tuple [dR (M.polyParted f r.1).1, dR (M.polyParted f r.1).2]) (a_cons (d_var rfl (dp_ex e' hv)) (a_cons (d_var rfl k1) a_nil)) ⟨f, r.1, by omega, by have := sh2.1; omega, by omega, sm_abs hp2 sh2, rfl, rfl⟩) ev_c (atI_nat (j := 1) rfl)) a_nil))) (len3 _ _ _)) (by rw [dpAll_len hy, List.length_map]; omega) fun v' H8 e8 pv => ?_
      have k8 : KT K H8 (upd H8 pp (.lst (ys ++ [v']))) := KT.updL (e8 _ _ hp')
      refine ⟨some u1, some (.int (r.2 : Int)), _, rfl, Ex.mut (e'.trans e8) np, ne, ?_, ?_, upd_same, ?_⟩
      · rw [upd_ne ne]; exact e8 _ _ hl
      · exact dpAll_kt k8 (tO_GK _) (dpAll_ex e8 hx)
      · rw [et, List.map_append]
        exact dpAll_app (dpAll_kt k8 (tO_GKR f _) (dpAll_ex e8 hy)) (.cons (dp_kt (d := dGKR f r) k8 (by simp [dGKR, tO, tOs, tO_R]) pv) .nil)
  · rintro l xs σ' H' ⟨y, z, ys, rfl, e', ne, hl, hx, hp', hy⟩
    rw [List.length_map, List.take_length] at hy
    exact s_ret (ev_var rfl) fun H6 e6 => q pp ys H6 np (e'.trans e6) (e6 _ _ hp') (dpAll_ex e6 hy)
theorem ok_parts_of (T : Tx K mg) : Ok P w K mg base CX0 "parts_of" ["poly", "p"] 5 (sp_parts_of K) := by
  have O_split_by := ok_split_by (P := P) (w := w) (base := base) T
  have O_poly_parted := ok_poly_parted (P := P) (w := w) (base := base) T
  refine ok_ofN T.g_parts_of T.f_parts_of sc_parts_of (fun _ _ _ _ _ _ us hl => match us, hl with | [_, _], _ => rfl) (fun vs H d ⟨ds, ⟨f, p, _, _, e, _⟩, hd⟩ => by rw [dpAll_len hd, e]; rfl) (fun cdv A outer s H vs Q E d hr ⟨ds, ⟨f, p, h1, h2, hds, ed⟩, hv⟩ q => ⟨rd_parts_of K, PSs.nox ((pss_cons (ps_set (i := 2) sc_parts_of.nd rfl (Or.inl rfl) (pe_lst pa_nil))
  (pss_cons (ps_for PassesOwn.never rfl (pi_list (pe_fn O_split_by (hr.mono (by decide)) (pa_cons (pv 0) (pa_cons (pv 1) pa_nil)))) (pg_tup rfl (pgs_cons (pg_name (i := 3) sc_parts_of.nd rfl (Or.inl rfl)) (pgs_cons (pg_name (i := 4) sc_parts_of.nd rfl (Or.inl rfl)) pgs_nil)))
  (pss_one (ps_expr (pe_bm PySem.F.plainAttrs_list PySem.F.slot_list_append PySem.F.type_list_append mt_append (pv 2) (pa_cons (pe_tup (pa_cons (pv 3) (pa_cons (pv 4) (pa_cons (pe_ix ix_tup (pe_fn O_poly_parted (hr.mono (by decide)) (pa_cons (pv 0) (pa_cons (pv 3) pa_nil))) pe_int (fun _ _ => rfl)) pa_nil)))) pa_nil)))))
  (pss_one (ps_ret (pv 2)))))), ?_⟩)
  subst ed hds
  obtain ⟨v, u, rfl, k1, k2⟩ := dpAll_two hv
  rw [dp_int k2]
  exact pu_parts_of h1 h2 k1 q
/-! ### outside -/
def hitB (f : List Int) (p : Int) (r : List Int × Nat) : Bool := decide (2 ≤ r.2) && (M.polyParted f r.1).2.all fun c => decide (c % (p * p) = 0)
def outB (f : List Int) (size : Int) : Bool := (sqp size).any fun p => (M.split f p).any (hitB f p)
def outR (f : List Int) (size : Int) : PyData → Prop := fun d => if outB f size = true then ∃ d1 d2, d = .tuple [d1, d2] else d = .none
def dmOutside : List PyData → (PyData → Prop) → Prop := fun ds R => ∃ (f : List Int) (size : Int), 1 ≤ f.length ∧ f.length ≤ 5 ∧ ds = [dR f, .int size] ∧ R = outR f size
abbrev sp_outside (K : PySem.W.Frag) : Sp := spR (onD K dmOutside) K
def rd_outside (K : PySem.W.Frag) : TS := (tSeq (tFor (iList K (tCall (sp_square_primes K) [] E0 (tCons (tVar 1) tNil))) (gName 2)
  (tFor (iList K (tCall (sp_parts_of K) [] E0 (tCons (tVar 0) (tCons (tVar 2) tNil)))) (gTup K 3 (gCons (gName 3) (gCons (gName 4) (gCons (gName 5) gNil))))
  (tIfS (tAnd (tTest (tOp oGe (tVar 4) (tC (.int 2)))) (tB (tCall (sp_divides_all K) [] E0 (tCons (tOp oMul (tVar 2) (tVar 2)) (tCons (tVar 5) tNil))))) (tSeq (tAsg (tLc (iTup K (tOp (rIxT K) (tCall (sp_poly_parted K) [] E0 (tCons (tVar 0) (tCons (tVar 3) tNil))) (tC (.int 0)))) (gName 7) tYes (tOp oMod (tVar 7) (tVar 2)) [7]) (gName 6))
  (tSeq (tWhile (tTest (tOp oLt (tCB (rLenS K) (tCons (tVar 6) tNil)) (tOp oSub (tCB (rLenS K) (tCons (tVar 0) tNil)) (tC (.int 1))))) (tDrop (tBM K "list" rAppend (tVar 6) (tCons (tC (.int 0)) tNil))))
  (tRet (tTup (tCons (tVar 2) (tCons (tCB (rTupleS K) (tCons (tVar 6) tNil)) tNil)))))) tNext)))
  (tRet (tC .non)))
theorem polyParted_len (f g : List Int) : (M.polyParted f g).1.length ≤ f.length + 1 ∧ (M.polyParted f g).2.length ≤ f.length := by
  refine ⟨Nat.le_trans (cut_len _) ?_, Nat.le_trans (cut_len _) ?_⟩
  · rw [List.length_reverse, (divTo_len g _ _ f _).2]; omega
  · rw [List.length_take, (divTo_len g _ _ f _).1]; omega
theorem sqp_mem {size p : Int} (h : p ∈ sqp size) : p ∈ primes := (List.mem_filter.mp h).1
theorem any_take {α : Type} {l : List α} {g : α → Bool} {i : Nat} {x : α} (h : l[i]? = some x) : (l.take (i + 1)).any g = ((l.take i).any g || g x) := by
  rw [List.take_add_one, h, List.any_append]
  simp
set_option maxHeartbeats 8000000 in
theorem pu_outside {H : Hp} {v : V} {f : List Int} {size : Int} {Q : VK} (hf1 : 1 ≤ f.length) (hf : f.length ≤ 5) (hv : Dp K H v (dR f))
    (q : ∀ v d H2, Ex H H2 → outR f size d → Dp K H2 v d → Q v H2) :
    rd_outside K { nx := fun _ H' => Q .non H', rt := Q } (start ["poly", "size", "p", "g", "often", "rest_by", "row", "place"] [v, .int size]) H := by
  have ls : (sqp size).length ≤ 46 := Nat.le_trans (List.length_filter_le _ _) (by decide)
  refine q_forN (n_call (dom := dmSqp) (a_cons (d_int (ev_var rfl)) a_nil) ⟨size, rfl, rfl⟩)
    (fun l xs i σ' H' => ∃ (y1 y2 y3 y4 y5 : Option V), σ' = [some v, some (.int size), y1, y2, y3, y4, y5, none] ∧ Ex H H' ∧ H' l = some (.lst xs) ∧ DpAll K H' xs ((sqp size).map .int) ∧ ((sqp size).take i).any (fun p => (M.split f p).any (hitB f p)) = false)
    (fun l xs H1 nl e1 hl hx => ⟨none, none, none, none, none, rfl, e1, hl, hx, rfl⟩) (fun l xs i σ' H' ⟨_, _, _, _, _, _, _, h1, h2, _⟩ => ⟨h1, h2⟩) ?_ ?_
  · rintro l xs i x dx σ' H' hdx pdx ⟨y1, y2, y3, y4, y5, rfl, e', hl, hx, no⟩
    rw [List.getElem?_map] at hdx
    cases er : (sqp size)[i]? with
    | none => rw [er] at hdx; cases hdx
    | some p =>
      rw [er] at hdx
      cases hdx
      have hpr := sqp_mem (List.mem_of_getElem? er)
      obtain ⟨hp, hp2⟩ := primes_ge p hpr
      have shape := split_shape (f := f) (p := p) hf hp
      have em := List.mem_of_getElem? er
      rw [dp_int pdx]
      show tFor _ _ _ _ ((_ : L2.St)) H'
      refine s_forN (n_call (dom := dmPartsOf) (a_cons (d_var rfl (dp_ex e' hv)) (a_cons (d_int (ev_var rfl)) a_nil)) ⟨f, p, hf, hpr, rfl, rfl⟩)
        (fun l2 xs2 j σ' H' => ∃ (y2 y3 y4 y5 : Option V), σ' = [some v, some (.int size), some (.int p), y2, y3, y4, y5, none] ∧ Ex H H' ∧ H' l = some (.lst xs) ∧ DpAll K H' xs ((sqp size).map .int) ∧ H' l2 = some (.lst xs2) ∧ DpAll K H' xs2 ((M.split f p).map (dGKR f)) ∧ ((M.split f p).take j).any (hitB f p) = false)
        (fun l2 xs2 H1 nl e1 hl2 hx2 => ⟨y2, y3, y4, y5, rfl, e'.trans e1, e1 _ _ hl, dpAll_ex e1 hx, hl2, hx2, rfl⟩) (fun l2 xs2 j σ' H' ⟨_, _, _, _, _, _, _, _, h1, h2, _⟩ => ⟨h1, h2⟩) ?_ ?_
      · rintro l2 xs2 j x2 dx2 σ' H2 hdx2 pdx2 ⟨y2, y3, y4, y5, rfl, e2, hl', hx', hl2, hx2, no2⟩
        rw [List.getElem?_map] at hdx2
        cases er2 : (M.split f p)[j]? with
        | none => rw [er2] at hdx2; cases hdx2
        | some r =>
          rw [er2] at hdx2
          cases hdx2
          have em2 := List.mem_of_getElem? er2
          obtain ⟨sh1, sh2⟩ := shape r em2
          have pl := polyParted_len f r.1
          have at2 := any_take (g := hitB f p) er2
          refine g_tup3 (d1 := dR r.1) (d2 := .int (r.2 : Int)) (d3 := dR (M.polyParted f r.1).2) pdx2 fun u1 u2 u3 k1 k2 k3 => ?_
          rw [dp_int k2]
          have hpp : (0 : Int) < p * p := Int.mul_pos (by omega) (by omega)
          refine s_when (b := hitB f p r) (et_and (et_is (b := decide (2 ≤ r.2)) (et_test (ev_op (ev_var rfl) ev_c rv_I0)) (by simp; omega)) fun _ => et_B (ev_bool (d_call (dom := dmDivAll) (a_cons (d_int (ev_op (ev_var rfl) (ev_var rfl) (rv_I (.inl ⟨by omega, by omega⟩)))) (a_cons (d_var rfl k3) a_nil)) ⟨p * p, _, hpp, by omega, rfl, rfl⟩))) (fun hc H3 e3 => ?_) (fun hc H3 e3 => ?_)
          · have hout : outB f size = true := List.any_eq_true.mpr ⟨p, em, List.any_eq_true.mpr ⟨r, em2, hc⟩⟩
            refine q_asgN (n_lcTD (K := K) (xds := (M.polyParted f r.1).1.map .int) (fun i => ((M.polyParted f r.1).1.take i).map fun c => PyData.int (c % p)) (d_ixT (d_call (dom := dmPolyParted) (d := .tuple [dR (M.polyParted f r.1).1, dR (M.polyParted f r.1).2]) (a_cons (d_var rfl (dp_ex (e2.trans e3) hv)) (a_cons (d_var rfl (dp_ex e3 k1)) a_nil)) ⟨f, r.1, by omega, by have := sh2.1; omega, by omega, sm_abs hp2 sh2, rfl, rfl⟩) ev_c (atI_nat (j := 0) rfl)) rfl
              (fun i hi => ⟨by rw [List.length_map, List.length_take]; omega, tOs_all fun d hd => by
                obtain ⟨c, _, rfl⟩ := List.mem_map.mp hd
                simp [tO]⟩) (fun x => rfl) (fun i x dx H1 e1 hdx pdx => ⟨true, t_yes, fun _ => by
                  rw [List.getElem?_map] at hdx
                  cases ec : (M.polyParted f r.1).1[i]? with
                  | none => rw [ec] at hdx; cases hdx
                  | some c =>
                    rw [ec] at hdx
                    cases hdx
                    rw [dp_int pdx]
                    exact ⟨.int (c % p), by simp [tO], d_int (ev_op (ev_var rfl) (ev_var rfl) (rv_I (by omega))), by
                      rw [List.take_add_one, ec, List.map_append]
                      rfl⟩, fun h => by cases h⟩)) fun rp zs H4 nr e4 hr hz => ?_
            have nr0 : H rp = none := fresh_back (e2.trans e3) nr
            have zl : zs.length ≤ 6 := by rw [dpAll_len hz, List.length_map, List.length_map, List.length_take]; omega
            have hzi : ∃ zi : List Int, zs = zi.map V.int := by
              rw [show ((M.polyParted f r.1).1.take ((M.polyParted f r.1).1.map PyData.int).length).map (fun c => PyData.int (c % p)) = (((M.polyParted f r.1).1.take ((M.polyParted f r.1).1.map PyData.int).length).map (· % p)).map PyData.int from by rw [List.map_map]; rfl] at hz
              exact ⟨_, dpAll_intsV hz⟩
            obtain ⟨zi, rfl⟩ := hzi
            rw [List.length_map] at zl
            clear hz
            refine q_while (fun k σ' H' => ∃ zi : List Int, σ' = [some v, some (.int size), some (.int p), some u1, some (.int (r.2 : Int)), some u3, some (.ref rp), none] ∧ Ex H H' ∧ H' rp = some (.lst (zi.map V.int)) ∧ zi.length ≤ 6 ∧ f.length - zi.length ≤ k) 6 ⟨zi, rfl, (e2.trans e3).trans e4, hr, zl, by omega⟩ ?_
            rintro k σ2 H5 ⟨zi, rfl, e5, hr5, zl5, kz⟩
            refine ⟨decide (zi.length < f.length - 1), et_is (et_test (ev_op (ev_lenD (d_ev (ev_var rfl) (.lst (sq_of hr5) (dpAll_ints zi))) (.inr rfl)) (ev_op (ev_lenD (d_var rfl (dp_ex e5 hv)) (.inl rfl)) ev_c rv_I0) rv_I0)) (by rw [List.length_map, List.length_map]; simp; omega), fun hb H6 e6 => ?_, fun hb H6 e6 => ?_⟩
            · have hb := of_decide_eq_true hb
              refine ⟨fun σ' H' => σ' = [some v, some (.int size), some (.int p), some u1, some (.int (r.2 : Int)), some u3, some (.ref rp), none] ∧ Ex H H' ∧ H' rp = some (.lst ((zi ++ [0]).map V.int)), ?_, ?_⟩
              · rintro σ3 H7 ⟨rfl, e7, h7⟩
                exact ⟨k - 1, by omega, zi ++ [0], rfl, e7, h7, by rw [List.length_append]; simp; omega, by rw [List.length_append]; simp; omega⟩
              · refine s_appD (e6 _ _ hr5) (ev_var rfl) (d_int (K := K) ev_c) (by rw [List.length_map]; omega) fun v' H7 e7 pv => ⟨rfl, Ex.mut ((e5.trans e6).trans e7) nr0, ?_⟩
                rw [dp_int pv, List.map_append]
                exact upd_same
            · refine s_retD (d_tup (K := K) (a_cons (d_int (ev_var rfl)) (a_cons (d_tuple (d_ev (ev_var rfl) (.lst (sq_of (e6 _ _ hr5)) (dpAll_ints zi))) (.inr rfl)) a_nil)) (len2 _ _)) fun v' H7 e7 pv => q _ _ _ ((e5.trans e6).trans e7) ?_ pv
              unfold outR
              rw [if_pos hout]
              exact ⟨_, _, rfl⟩
          · refine ⟨some u1, some (.int (r.2 : Int)), some u3, y5, rfl, e2.trans e3, e3 _ _ hl', dpAll_ex e3 hx', e3 _ _ hl2, dpAll_ex e3 hx2, ?_⟩
            rw [at2, no2, hc]
            rfl
      · rintro l2 xs2 σ' H2 ⟨y2, y3, y4, y5, rfl, e2, hl', hx', hl2, hx2, no2⟩
        refine ⟨some (.int p), y2, y3, y4, y5, rfl, e2, hl', hx', ?_⟩
        rw [List.length_map, List.take_length] at no2
        rw [any_take er, no, no2]
        rfl
  · rintro l xs σ' H' ⟨y1, y2, y3, y4, y5, rfl, e', hl, hx, no⟩
    rw [List.length_map, List.take_length] at no
    refine s_ret ev_c fun H6 e6 => q _ _ _ (e'.trans e6) ?_ .non
    unfold outR outB
    rw [no]
    rfl
theorem ok_outside (T : Tx K mg) : Ok P w K mg base CX0 "outside" ["poly", "size"] 6 (sp_outside K) := by
  have O_square_primes := ok_square_primes (P := P) (w := w) (base := base) T
  have O_parts_of := ok_parts_of (P := P) (w := w) (base := base) T
  have O_divides_all := ok_divides_all (P := P) (w := w) (base := base) T
  have O_poly_parted := ok_poly_parted (P := P) (w := w) (base := base) T
  refine ok_ofR T.g_outside T.f_outside sc_outside (fun _ _ _ _ _ _ us hl => match us, hl with | [_, _], _ => rfl) (fun vs H d ⟨ds, ⟨f, p, _, _, e, _⟩, hd⟩ => by rw [dpAll_len hd, e]; rfl) (fun cdv A outer s H vs Q E d hr ⟨ds, ⟨f, p, h1, h2, hds, ed⟩, hv⟩ q => ⟨rd_outside K, PSs.nox ((pss_cons (ps_for PassesOwn.never rfl (pi_list (pe_fn O_square_primes (hr.mono (by decide)) (pa_cons (pv 1) pa_nil))) (pg_name (i := 2) sc_outside.nd rfl (Or.inr rfl))
  (pss_one (ps_for PassesOwn.never rfl (pi_list (pe_fn O_parts_of (hr.mono (by decide)) (pa_cons (pv 0) (pa_cons (pv 2) pa_nil)))) (pg_tup rfl (pgs_cons (pg_name (i := 3) sc_outside.nd rfl (Or.inl rfl)) (pgs_cons (pg_name (i := 4) sc_outside.nd rfl (Or.inl rfl)) (pgs_cons (pg_name (i := 5) sc_outside.nd rfl (Or.inl rfl)) pgs_nil))))
  (pss_one (ps_if (PW.pt (pw_and (pt_cmpR op_ge (pv 4) pe_int (nomark _)) (pw_and1 (pt_val (pe_fn O_divides_all (hr.mono (by decide)) (pa_cons (pe_op op_mul (pv 2) (pv 2)) (pa_cons (pv 5) pa_nil))))))) (pss_cons (ps_setLc (i := 6) (own := [("place", 7)]) (g := gName 7) (tt := tYes) rfl sc_outside.nd rfl rfl (sw_true rfl rfl rfl (by decide +kernel)) (pi_tup (pe_ix ix_tup (pe_fn O_poly_parted (hr.mono (by decide)) (pa_cons (pv 0) (pa_cons (pv 3) pa_nil))) pe_int (fun _ _ => rfl))) (blkOk_by (own := [("place", 7)]) (N := ["poly", "size", "p", "g", "often", "rest_by", "row", "place"]) (sc := defScope s_outside) (by decide +kernel)) (fun _ _ _ _ _ => (pg_name (i := 7) sc_outside.nd rfl (Or.inl rfl))) (fun _ _ _ _ _ => pts_nil) (fun _ _ _ _ _ => (pe_op op_mod (pv 7) (pv 2))))
  (pss_cons (ps_while PassesOwn.never (pt_cmpR op_lt (pe_len T.b_len (pv 6)) (pe_op op_sub (pe_len T.b_len (pv 0)) pe_int) (nomark _)) (pss_one (ps_expr (pe_bm PySem.F.plainAttrs_list PySem.F.slot_list_append PySem.F.type_list_append mt_append (pv 6) (pa_cons pe_int pa_nil)))))
  (pss_one (ps_ret (pe_tup (pa_cons (pv 2) (pa_cons (pe_tuplec T.b_tuple (pv 6)) pa_nil))))))) pss_nil)))))
  (pss_one (ps_ret pe_non)))), ?_⟩)
  subst ed hds
  obtain ⟨v, u, rfl, k1, k2⟩ := dpAll_two hv
  rw [dp_int k2]
  exact pu_outside h1 h2 k1 q
end
end K41
set_option Elab.async false
set_option linter.all false
set_option maxRecDepth 100000
set_option maxHeartbeats 4000000
namespace K41
open PySem PySem.Spec PyProof.Rows L2 Evl
local macro_rules | `(tactic| walk_at "cc") => `(tactic| first
  | assumption
  | (with_reducible show (0 : Int) < _; omega)
  | exact Or.inl ⟨by omega, by omega⟩
  | exact Or.inr ⟨by omega, by omega⟩
  | exact And.intro (by omega) (by omega)
  | (show (0 : Int) < _; omega)
  | omega)
local macro_rules | `(tactic| walk_at "ev") => `(tactic| first
  | assumption
  | with_reducible exact ev_c
  | exact ev_var rfl
  | ((with_reducible refine' ev_op ?ka ?kb rv_I0); (case ka => walk_at "ev"); (case kb => walk_at "ev"))
  | ((with_reducible refine' ev_op ?ka ?kb (rv_I ?kc)); (case ka => walk_at "ev"); (case kb => walk_at "ev"); (case kc => walk_at "cc"))
  | ((with_reducible refine' ev_op (r := rEq) ?ka ?kb ?kd); (case ka => walk_at "ev"); (case kb => walk_at "ev"); (case kd => refine' rv_eq ?kc; rfl))
  | ((with_reducible refine' ev_op (r := rNe) ?ka ?kb ?kd); (case ka => walk_at "ev"); (case kb => walk_at "ev"); (case kd => refine' rv_ne ?kc; rfl))
  | ((with_reducible refine' ev_un ?ka ru_neg); (case ka => walk_at "ev"))
  | ((with_reducible refine' et_test ?ka); (case ka => walk_at "ev")))

section
variable {P : Program} {w : World} {K : PySem.W.Frag} {mg : Str → Option Value} {base : Heap}
theorem cutD_pre (ds : List PyData) (m : Nat) : cutD ds none (some (m : Int)) = ds.take m := by
  unfold cutD
  rw [HT.sIx_none, HT.sIx_nat, List.drop_zero, Nat.sub_zero]
  rcases Nat.le_total m ds.length with h | h
  · rw [Nat.min_eq_left h]
  · rw [Nat.min_eq_right h, List.take_length, List.take_of_length_le h]
theorem cutD_suf (ds : List PyData) (m : Nat) : cutD ds (some (m : Int)) none = ds.drop m := by
  unfold cutD
  rw [HT.sIx_none, HT.sIx_nat]
  rcases Nat.le_total m ds.length with h | h
  · rw [Nat.min_eq_left h]
    exact List.take_of_length_le (by rw [List.length_drop]; omega)
  · rw [Nat.min_eq_right h, List.drop_length, List.drop_of_length_le h, List.take_nil]
/-! ### power_sums -/
def absSum (l : List Int) : Nat := (l.map Int.natAbs).sum
theorem absSum_app (l m : List Int) : absSum (l ++ m) = absSum l + absSum m := by unfold absSum; rw [List.map_append, List.sum_append]
theorem absSum_mem : ∀ {l : List Int} {c : Int}, c ∈ l → c.natAbs ≤ absSum l
  | a :: l, c, h => by
    show c.natAbs ≤ a.natAbs + absSum l
    rcases List.mem_cons.mp h with rfl | h
    · omega
    · have := absSum_mem h; omega
theorem powTo_len (f : List Int) (d : Nat) : ∀ k, (M.powTo f d k).length = k + 1
  | 0 => rfl
  | k + 1 => by
    show (M.powTo f d k ++ [_]).length = _
    rw [List.length_append, powTo_len f d k]
    rfl
theorem getD_small {l : List Int} {B : Nat} (h : ∀ c ∈ l, c.natAbs ≤ B) (i : Nat) : (l.getD i 0).natAbs ≤ B := by
  rcases Nat.lt_or_ge i l.length with h1 | h1
  · rw [getD_at h1]; exact h _ (List.getElem_mem _)
  · rw [getD_none h1]; exact Nat.zero_le _
theorem fold_small {f sums : List Int} {d k : Nat} (h : ∀ c ∈ f, c.natAbs ≤ 499) (hk : sums.length = k) : ∀ n, n ≤ k →
    ((List.range n).foldl (fun t i => t - f.getD (d - (i + 1)) 0 * sums.getD (k - (i + 1)) 0) 0).natAbs ≤ 499 * absSum (sums.drop (k - n))
  | 0, _ => by
    show (0 : Int).natAbs ≤ _
    exact Nat.zero_le _
  | n + 1, hn => by
    have ih := fold_small (d := d) h hk n (by omega)
    rw [List.range_succ, List.foldl_append]
    show (_ - _ * _ : Int).natAbs ≤ _
    have e1 : sums.drop (k - (n + 1)) = sums.getD (k - (n + 1)) 0 :: sums.drop (k - n) := by
      rw [List.drop_eq_getElem_cons (by omega), getD_at (by omega)]
      congr 2
      omega
    rw [e1]
    show _ ≤ 499 * ((sums.getD (k - (n + 1)) 0).natAbs + absSum (sums.drop (k - n)))
    have e2 := getD_small h (d - (n + 1))
    generalize (List.range n).foldl (fun t i => t - f.getD (d - (i + 1)) 0 * sums.getD (k - (i + 1)) 0) 0 = T at ih ⊢
    generalize f.getD (d - (n + 1)) 0 = a at e2 ⊢
    generalize sums.getD (k - (n + 1)) 0 = b
    have e3 : (a * b).natAbs ≤ 499 * b.natAbs := by rw [Int.natAbs_mul]; exact Nat.mul_le_mul_right _ e2
    omega
theorem powStep_small {f sums : List Int} {d k : Nat} (h : ∀ c ∈ f, c.natAbs ≤ 499) (hk : sums.length = k) (hk1 : 1 ≤ k) : (M.powStep f d k sums).natAbs ≤ 499 * absSum sums + 499 * k := by
  have e1 := fold_small (d := d) h hk (min (k - 1) d) (by omega)
  have e2 : absSum (sums.drop (k - min (k - 1) d)) ≤ absSum sums := by
    have := absSum_app (sums.take (k - min (k - 1) d)) (sums.drop (k - min (k - 1) d))
    rw [List.take_append_drop] at this
    omega
  have e3 : (if k ≤ d then (k : Int) * f.getD (d - k) 0 else 0).natAbs ≤ 499 * k := by
    split
    · rw [Int.natAbs_mul, Int.natAbs_natCast, Nat.mul_comm]
      exact Nat.mul_le_mul_right _ (getD_small h _)
    · exact Nat.zero_le _
  unfold M.powStep
  omega
def powB : Nat → Nat
  | 0 => 4
  | k + 1 => 500 * powB k + 499 * (k + 1)
theorem powTo_small {f : List Int} {d : Nat} (h : ∀ c ∈ f, c.natAbs ≤ 499) (hd : d ≤ 4) : ∀ k, absSum (M.powTo f d k) ≤ powB k
  | 0 => by
    show (d : Int).natAbs + 0 ≤ 4
    omega
  | k + 1 => by
    have ih := powTo_small h hd k
    show absSum (M.powTo f d k ++ [_]) ≤ 500 * powB k + 499 * (k + 1)
    rw [absSum_app]
    have := powStep_small (d := d) h (powTo_len f d k) (by omega)
    show _ + (_ + 0) ≤ _
    omega
theorem powB_mono {j k : Nat} (h : j ≤ k) : powB j ≤ powB k := by
  induction h with
  | refl => exact Nat.le_refl _
  | step _ ih => exact Nat.le_trans ih (by show _ ≤ 500 * _ + _; omega)
def dmPower : List PyData → List PyData → Prop := fun ds es => ∃ (f : List Int) (n : Nat), 1 ≤ f.length ∧ f.length ≤ 100 ∧ (∀ c ∈ f, c.natAbs ≤ 499) ∧ n ≤ 100 ∧ ds = [dR f, .int ((n : Int) + 1)] ∧ es = (M.powTo f (f.length - 1) n).map .int
abbrev sp_power_sums (K : PySem.W.Frag) : Sp := spN (onD K dmPower) K
def rd_power_sums (K : PySem.W.Frag) : TS := (tSeq (tAsg (tOp oSub (tCB (rLenS K) (tCons (tVar 0) tNil)) (tC (.int 1))) (gName 2))
  (tSeq (tAsg (tLst (tCons (tVar 2) tNil)) (gName 3))
  (tSeq (tFor (iRng2 (tCons (tC (.int 1)) (tCons (tVar 1) tNil))) (gName 4)
  (tSeq (tAsg (tC (.int 0)) (gName 5))
  (tSeq (tFor (iRng2 (tCons (tC (.int 1)) (tCons (tCB rMin2 (tCons (tVar 4) (tCons (tOp oAdd (tVar 2) (tC (.int 1))) tNil))) tNil))) (gName 6)
  (tAsg (tOp oSub (tVar 5) (tOp oMul (tOp (rIxT K) (tVar 0) (tOp oSub (tVar 2) (tVar 6))) (tOp (rIxL K) (tVar 3) (tOp oSub (tVar 4) (tVar 6))))) (gName 5)))
  (tCut (tIfS (tTest (tOp oLe (tVar 4) (tVar 2))) (tAsg (tOp oSub (tVar 5) (tOp oMul (tVar 4) (tOp (rIxT K) (tVar 0) (tOp oSub (tVar 2) (tVar 4))))) (gName 5)) tNext)
  (tDrop (tBM K "list" rAppend (tVar 3) (tCons (tVar 5) tNil)))))))
  (tRet (tVar 3)))))
theorem pu_power_sums {H : Hp} {v : V} {f : List Int} {n : Nat} {Q : VK} (hf1 : 1 ≤ f.length) (hf : f.length ≤ 100) (hs : ∀ c ∈ f, c.natAbs ≤ 499) (hn : n ≤ 100) (hv : Dp K H v (dR f))
    (q : ∀ l xs H2, H l = none → Ex H H2 → H2 l = some (.lst xs) → DpAll K H2 xs ((M.powTo f (f.length - 1) n).map .int) → Q (.ref l) H2) :
    rd_power_sums K { nx := fun _ H' => Q .non H', rt := Q } (start ["poly", "many", "degree", "sums", "k", "total", "i"] [v, .int ((n : Int) + 1)]) H := by
  obtain ⟨d, hd⟩ : ∃ d, f.length = d + 1 := ⟨f.length - 1, by omega⟩
  have ed : f.length - 1 = d := by omega
  rw [ed] at q
  refine q_asg (v := .int (d : Int)) (ev_is (ev_op (ev_lenD (d_var rfl hv) (.inl rfl)) ev_c rv_I0) (by rw [List.length_map, hd]; simp)) fun H1 e1 => ?_
  refine q_asgL (el_lst (vs := [.int (d : Int)]) (ea_cons (ev_var rfl) ea_nil) (Nat.le_of_ble_eq_true rfl)) fun sp H2 ns e2 hsp => ?_
  have ns0 : H sp = none := fresh_back e1 ns
  refine q_forR2 (lo := 1) (n := (n : Int) + 1) (ea_cons ev_c (ea_cons (ev_var rfl) ea_nil)) ⟨by omega, by omega, by omega, by omega⟩
    (fun i σ' H' => ∃ (y1 y2 y3 : Option V), σ' = [some v, some (.int ((n : Int) + 1)), some (.int (d : Int)), some (.ref sp), y1, y2, y3] ∧ Ex H H' ∧ H' sp = some (.lst ((M.powTo f d i).map V.int)))
    (fun H3 e3 => ⟨none, none, none, rfl, (e1.trans e2).trans e3, e3 _ _ hsp⟩) ?_ ?_
  · rintro i σ' H' hi ⟨y1, y2, y3, rfl, e', hp'⟩
    have hi : i < n := by omega
    have ek : (1 : Int) + (i : Int) = ((i + 1 : Nat) : Int) := by omega
    have hlen := powTo_len f d i
    rw [ek]
    refine q_asg ev_c fun H3 e3 => ?_
    have emin : (min ((i + 1 : Nat) : Int) ((d : Int) + 1)) = 1 + ((min i d : Nat) : Int) := by omega
    refine q_forR2 (lo := 1) (n := 1 + ((min i d : Nat) : Int)) (ea_cons ev_c (ea_cons (ev_is (ev_min2 (ev_var rfl) (ev_op (ev_var rfl) ev_c rv_I0)) (congrArg V.int emin)) ea_nil)) ⟨by omega, by omega, by omega, by omega⟩
      (fun j σ' H' => ∃ (y3 : Option V), σ' = [some v, some (.int ((n : Int) + 1)), some (.int (d : Int)), some (.ref sp), some (.int ((i + 1 : Nat) : Int)), some (.int ((List.range j).foldl (fun t i' => t - f.getD (d - (i' + 1)) 0 * (M.powTo f d i).getD (i + 1 - (i' + 1)) 0) 0)), y3] ∧ Ex H H' ∧ H' sp = some (.lst ((M.powTo f d i).map V.int)))
      (fun H4 e4 => ⟨y3, rfl, (e'.trans e3).trans e4, (e3.trans e4) _ _ hp'⟩) ?_ ?_
    · rintro j σ' H4 hj ⟨y4, rfl, e4, hp4⟩
      have hj : j < min i d := by omega
      have ejk : (1 : Int) + (j : Int) = ((j + 1 : Nat) : Int) := by omega
      rw [ejk]
      have c1 : f.getD (d - (j + 1)) 0 < 2 ^ 64 ∧ -(2 ^ 64) < f.getD (d - (j + 1)) 0 := by
        have := getD_small hs (d - (j + 1))
        omega
      refine s_asg (ev_op (ev_var rfl) (ev_op (ev_row (i := d - (j + 1)) (d_var rfl (dp_ex e4 hv)) (ev_is (ev_op (ev_var rfl) (ev_var rfl) rv_I0) (congrArg V.int (by omega))) (by omega)) (ev_lst (i := i + 1 - (j + 1)) hp4 (ev_var rfl) (ev_is (ev_op (ev_var rfl) (ev_var rfl) rv_I0) (congrArg V.int (by omega))) (by rw [hlen]; omega)) (rv_I (.inl ⟨c1.2, c1.1⟩))) rv_I0) fun H5 e5 => ⟨some (.int ((j + 1 : Nat) : Int)), ?_, e4.trans e5, e5 _ _ hp4⟩
      rw [List.range_succ, List.foldl_append]
      rfl
    · rintro σ' H4 ⟨y4, rfl, e4, hp4⟩
      rw [show (1 + ((min i d : Nat) : Int) - 1).toNat = min i d by omega]
      refine q_cut (M := fun σ' H' => σ' = [some v, some (.int ((n : Int) + 1)), some (.int (d : Int)), some (.ref sp), some (.int ((i + 1 : Nat) : Int)), some (.int (M.powStep f d (i + 1) (M.powTo f d i))), y4] ∧ Ex H H' ∧ H' sp = some (.lst ((M.powTo f d i).map V.int)))
        (s_when (b := decide (i + 1 ≤ d)) (et_is (et_test (ev_op (ev_var rfl) (ev_var rfl) rv_I0)) (by simp; omega)) (fun hc H5 e5 => ?_) (fun hc H5 e5 => ?_)) ?_
      · have hc := of_decide_eq_true hc
        refine s_asg (ev_op (ev_var rfl) (ev_op (ev_var rfl) (ev_row (i := d - (i + 1)) (d_var rfl (dp_ex (e4.trans e5) hv)) (ev_is (ev_op (ev_var rfl) (ev_var rfl) rv_I0) (congrArg V.int (by omega))) (by omega)) (rv_I (.inl ⟨by omega, by omega⟩))) rv_I0) fun H6 e6 => ⟨?_, (e4.trans e5).trans e6, (e5.trans e6) _ _ hp4⟩
        unfold M.powStep
        rw [if_pos hc]
        rfl
      · have hc := of_decide_eq_false hc
        refine ⟨?_, e4.trans e5, e5 _ _ hp4⟩
        unfold M.powStep
        rw [if_neg hc, Int.sub_zero]
        rfl
      · rintro σ' H5 ⟨rfl, e5, hp5⟩
        refine s_app hp5 (ev_var rfl) (ev_var rfl) (by rw [List.length_map, hlen]; omega) fun H6 e6 => ⟨some (.int ((i + 1 : Nat) : Int)), _, y4, rfl, Ex.mut (e5.trans e6) ns0, ?_⟩
        show _ = some (HO.lst ((M.powTo f d i ++ [_]).map V.int))
        rw [List.map_append]
        exact upd_same
  · rintro σ' H' ⟨y1, y2, y3, rfl, e', hp'⟩
    rw [show ((n : Int) + 1 - 1).toNat = n by omega] at hp'
    exact s_ret (ev_var rfl) fun H6 e6 => q sp _ H6 ns0 (e'.trans e6) (e6 _ _ hp') (dpAll_ints _)
theorem ok_power_sums (T : Tx K mg) : Ok P w K mg base CX0 "power_sums" ["poly", "many"] 1 (sp_power_sums K) := by
  refine ok_ofN T.g_power_sums T.f_power_sums sc_power_sums (fun _ _ _ _ _ _ us hl => match us, hl with | [_, _], _ => rfl) (fun vs H d ⟨ds, ⟨f, p, _, _, _, _, e, _⟩, hd⟩ => by rw [dpAll_len hd, e]; rfl) (fun cdv A outer s H vs Q E d hr ⟨ds, ⟨f, n, h1, h2, h3, h4, hds, ed⟩, hv⟩ q => ⟨rd_power_sums K, PSs.nox ((pss_cons (ps_set (i := 2) sc_power_sums.nd rfl (Or.inl rfl) (pe_op op_sub (pe_len T.b_len (pv 0)) pe_int))
  (pss_cons (ps_set (i := 3) sc_power_sums.nd rfl (Or.inl rfl) (pe_lst (pa_cons (pv 2) pa_nil)))
  (pss_cons (ps_for PassesOwn.never rfl (pi_range2 (by rfl) T.b_range (pa_cons pe_int (pa_cons (pv 1) pa_nil))) (pg_name (i := 4) sc_power_sums.nd rfl (Or.inl rfl))
  (pss_cons (ps_set (i := 5) sc_power_sums.nd rfl (Or.inl rfl) pe_int)
  (pss_cons (ps_for PassesOwn.never rfl (pi_range2 (by rfl) T.b_range (pa_cons pe_int (pa_cons (pe_min2 T.b_min (pv 4) (pe_op op_add (pv 2) pe_int)) pa_nil))) (pg_name (i := 6) sc_power_sums.nd rfl (Or.inl rfl))
  (pss_one (ps_set (i := 5) sc_power_sums.nd rfl (Or.inl rfl) (pe_op op_sub (pv 5) (pe_op op_mul (pe_ix ix_tup (pv 0) (pe_op op_sub (pv 2) (pv 6)) (fun _ _ => rfl)) (pe_ix ix_list (pv 3) (pe_op op_sub (pv 4) (pv 6)) (fun _ _ => rfl)))))))
  (pss_cut (ps_if (pt_cmpR op_le (pv 4) (pv 2) (nomark _)) (pss_one (ps_set (i := 5) sc_power_sums.nd rfl (Or.inl rfl) (pe_op op_sub (pv 5) (pe_op op_mul (pv 4) (pe_ix ix_tup (pv 0) (pe_op op_sub (pv 2) (pv 4)) (fun _ _ => rfl)))))) pss_nil)
  (pss_one (ps_expr (pe_bm PySem.F.plainAttrs_list PySem.F.slot_list_append PySem.F.type_list_append mt_append (pv 3) (pa_cons (pv 5) pa_nil))))))))
  (pss_one (ps_ret (pv 3))))))), ?_⟩)
  subst ed hds
  obtain ⟨v, u, rfl, k1, k2⟩ := dpAll_two hv
  rw [dp_int k2]
  exact pu_power_sums h1 h2 h3 h4 k1 q
/-! ### det -/
def detTerm (t : List (List Int)) (n i : Nat) : Int := (if i % 2 = 1 then -1 else 1) * ((t.getD i []).getD 0 0 * M.detN n ((t.eraseIdx i).map List.tail))
theorem det_one {t : List (List Int)} (h : t.length = 1) : M.det t = (t.getD 0 []).getD 0 0 := by
  unfold M.det
  rw [h]
  unfold M.detN
  rw [if_pos h]
theorem det_more {t : List (List Int)} {n : Nat} (h : t.length = n + 2) : M.det t = ((List.range (n + 2)).map (detTerm t (n + 1))).sum := by
  unfold M.det
  rw [h]
  unfold M.detN
  rw [if_neg (by omega), h]
  rfl
theorem det_minor {t : List (List Int)} {n i : Nat} (h : t.length = n + 2) (hi : i < n + 2) : M.detN (n + 1) ((t.eraseIdx i).map List.tail) = M.det ((t.eraseIdx i).map List.tail) := by
  unfold M.det
  rw [List.length_map, List.length_eraseIdx, if_pos (by omega), h]
  rfl
theorem rowsAt {t : List (List Int)} {i : Nat} (h : i < t.length) : (t.map dR)[i]? = some (dR (t.getD i [])) := by
  rw [List.getElem?_map, List.getElem?_eq_getElem h, List.getD, List.getElem?_eq_getElem h]
  rfl
theorem memAt {t : List (List Int)} {i : Nat} (h : i < t.length) : t.getD i [] ∈ t := by
  rw [List.getD, List.getElem?_eq_getElem h]
  exact List.getElem_mem _
/-- a square table of n rows, of small numbers -/
def Sq (n : Nat) (t : List (List Int)) : Prop := t.length = n ∧ ∀ r ∈ t, r.length = n ∧ ∀ c ∈ r, c.natAbs < 2 ^ 64
theorem Sq.minor {n i : Nat} {t : List (List Int)} (h : Sq (n + 1) t) (hi : i < n + 1) : Sq n ((t.eraseIdx i).map List.tail) := by
  refine ⟨by rw [List.length_map, List.length_eraseIdx, h.1, if_pos hi]; rfl, fun r hr => ?_⟩
  obtain ⟨r0, hr0, rfl⟩ := List.mem_map.mp hr
  obtain ⟨h1, h2⟩ := h.2 r0 (List.mem_of_mem_eraseIdx hr0)
  exact ⟨by rw [List.length_tail, h1]; rfl, fun c hc => h2 c (List.mem_of_mem_tail hc)⟩
def dmDet (n : Nat) : List PyData → PyData → Prop := fun ds d => ∃ (t : List (List Int)) (m : Nat), 1 ≤ m ∧ m ≤ n ∧ n ≤ 100 ∧ Sq m t ∧ (ds = [dT t] ∨ ds = [.list (t.map dR)]) ∧ d = .int (M.det t)
abbrev sp_detN (K : PySem.W.Frag) (n : Nat) : Sp := spG (onD K (dmDet n)) K
def rd_detT (K : PySem.W.Frag) (sp_det : PySem.W.Frag → Sp) : TS := (tSeq (tIfS (tTest (tOp rEq (tCB (rLenS K) (tCons (tVar 0) tNil)) (tC (.int 1)))) (tRet (tOp (rIxT K) (tOp (rIxT K) (tVar 0) (tC (.int 0))) (tC (.int 0)))) tNext)
  (tSeq (tAsg (tC (.int 0)) (gName 1))
  (tSeq (tFor (iRng1 (tCons (tCB (rLenS K) (tCons (tVar 0) tNil)) tNil)) (gName 2)
  (tIfS (tTest (tOp rNe (tOp (rIxT K) (tOp (rIxT K) (tVar 0) (tVar 2)) (tC (.int 0))) (tC (.int 0)))) (tSeq (tAsg (tLc (iTup K (tOp (rCatA K) (tSl (rSlA K) (tVar 0) tNoPart (tPart (tVar 2))) (tSl (rSlA K) (tVar 0) (tPart (tOp oAdd (tVar 2) (tC (.int 1)))) tNoPart))) (gName 5) tYes (tSl (rSlA K) (tVar 5) (tPart (tC (.int 1))) tNoPart) [5]) (gName 3))
  (tSeq (tAsg (tOp oMul (tOp (rIxT K) (tOp (rIxT K) (tVar 0) (tVar 2)) (tC (.int 0))) (tCall (sp_det K) [] E0 (tCons (tVar 3) tNil))) (gName 4))
  (tCut (tIfS (tTest (tOp rEq (tOp oMod (tVar 2) (tC (.int 2))) (tC (.int 1)))) (tAsg (tUn uNeg (tVar 4)) (gName 4)) tNext)
  (tAug 1 (tVar 4) (ipI fun i j => i + j))))) tNext))
  (tRet (tVar 1)))))
theorem pu_detT {H : Hp} {v : V} {t : List (List Int)} {m n : Nat} {Q : VK} (hm1 : 1 ≤ m) (hmn : m ≤ n + 1) (hn : n ≤ 99) (sq : Sq m t) (hv : Dp K H v (dT t))
    (q : ∀ v H2, Ex H H2 → Dp K H2 v (.int (M.det t)) → Q v H2) :
    rd_detT K (fun K => sp_detN K n) { nx := fun _ H' => Q .non H', rt := Q } (start ["table", "total", "i", "lower", "part", "row"] [v]) H := by
  have tl : ∀ {H1 : Hp} {σ : L2.St}, Ex H H1 → σ[0]? = some (some v) → EvD K (tVar 0) σ H1 (dT t) := fun e h => d_var h (dp_ex e hv)
  have it : ∀ {H1 : Hp} {σ : L2.St} {te : TE} {i : Nat}, Ex H H1 → σ[0]? = some (some v) → Ev te σ H1 (.int (i : Int)) → i < t.length → Ev (tOp (rIxT K) (tOp (rIxT K) (tVar 0) te) (tC (.int 0))) σ H1 (.int ((t.getD i []).getD 0 0)) := fun {H1 σ te i} e h hi hl => ev_row (i := 0) (d_ixT (tl e h) hi (atI_nat (rowsAt hl))) ev_c (by rw [(sq.2 _ (memAt hl)).1]; omega)
  have lt := sq.1
  refine q_when (b := decide (m = 1)) (et_is (et_test (ev_op (ev_lenD (tl (Ex.refl _) rfl) (.inl rfl)) ev_c (rv_eq rfl))) (by rw [List.length_map, lt]; simp; omega)) (fun hc H1 e1 => ?_) (fun hc H1 e1 => ?_)
  · have hc := of_decide_eq_true hc
    refine s_ret (it (i := 0) e1 rfl ev_c (by omega)) fun H2 e2 => q _ _ (e1.trans e2) ?_
    rw [det_one (by omega)]
    exact .int _
  · have hc := of_decide_eq_false hc
    obtain ⟨k, rfl⟩ : ∃ k, m = k + 2 := ⟨m - 2, by omega⟩
    have em := det_more lt
    refine q_asg ev_c fun H2 e2 => ?_
    refine q_forR1 (n := (((k + 2 : Nat)) : Int)) (ea_cons (ev_is (ev_lenD (tl (e1.trans e2) rfl) (.inl rfl)) (by rw [List.length_map, lt])) ea_nil) ⟨by omega, by omega⟩
      (fun i σ' H' => ∃ (y1 y2 y3 : Option V), σ' = [some v, some (.int (((List.range i).map (detTerm t (k + 1))).sum)), y1, y2, y3, none] ∧ Ex H H')
      (fun H3 e3 => ⟨none, none, none, rfl, (e1.trans e2).trans e3⟩) ?_ ?_
    · rintro i σ' H' hi ⟨y1, y2, y3, rfl, e'⟩
      have hi : i < k + 2 := by omega
      have esum : ((List.range (i + 1)).map (detTerm t (k + 1))).sum = ((List.range i).map (detTerm t (k + 1))).sum + detTerm t (k + 1) i := by
        rw [List.range_succ, List.map_append, List.sum_append]
        simp
      have sqm := sq.minor hi
      have edt : detTerm t (k + 1) i = (if i % 2 = 1 then -1 else 1) * ((t.getD i []).getD 0 0 * M.det ((t.eraseIdx i).map List.tail)) := by
        unfold detTerm
        rw [det_minor lt hi]
      have c0 : (t.getD i []).getD 0 0 < 2 ^ 64 ∧ -(2 ^ 64) < (t.getD i []).getD 0 0 := by
        obtain ⟨r1, r2⟩ := sq.2 _ (memAt (t := t) (i := i) (by omega))
        have := r2 _ (show (t.getD i []).getD 0 0 ∈ t.getD i [] by rw [getD_at (by omega)]; exact List.getElem_mem _)
        omega
      refine s_when (b := decide ((t.getD i []).getD 0 0 ≠ 0)) (et_is (et_test (ev_op (it e' rfl (ev_var rfl) (by omega)) ev_c (rv_ne rfl))) (by simp)) (fun hc H3 e3 => ?_) (fun hc H3 e3 => ?_)
      · have e03 := e'.trans e3
        have hcat : EvD K (tOp (rCatA K) (tSl (rSlA K) (tVar 0) tNoPart (tPart (tVar 2))) (tSl (rSlA K) (tVar 0) (tPart (tOp oAdd (tVar 2) (tC (.int 1)))) tNoPart)) [some v, some (.int (((List.range i).map (detTerm t (k + 1))).sum)), some (.int (i : Int)), y2, y3, none] H3 (.tuple ((t.eraseIdx i).map dR)) := by
          have hi1 : Ev (tOp oAdd (tVar 2) (tC (.int 1))) [some v, some (.int (((List.range i).map (detTerm t (k + 1))).sum)), some (.int (i : Int)), y2, y3, none] H3 (.int ((i + 1 : Nat) : Int)) := ev_op (ev_var rfl) ev_c rv_I0
          have h0 := d_catT (K := K) (d_slT (tl e03 rfl) eo_none (eo_some (ev_var (σ := [some v, some (.int (((List.range i).map (detTerm t (k + 1))).sum)), some (.int (i : Int)), y2, y3, none]) (i := 2) rfl))) (d_slT (tl e03 rfl) (eo_some hi1) eo_none) (by rw [cutD_pre, cutD_suf, List.length_take, List.length_drop, List.length_map, lt]; omega)
          rw [cutD_pre, cutD_suf, ← List.eraseIdx_eq_take_drop_succ, show (t.map dR).eraseIdx i = (t.eraseIdx i).map dR from by rw [List.eraseIdx_eq_take_drop_succ, List.eraseIdx_eq_take_drop_succ, List.map_append, List.map_take, List.map_drop]] at h0
          exact h0
        refine q_asgN (n_lcTD (K := K) (xds := (t.eraseIdx i).map dR) (fun j => ((t.eraseIdx i).take j).map fun r => dR r.tail) hcat rfl
          (fun j hj => ⟨by rw [List.length_map, List.length_take, List.length_eraseIdx, lt]; split <;> omega, tOs_all fun d hd => by
            obtain ⟨r, _, rfl⟩ := List.mem_map.mp hd
            exact tO_R _⟩) (fun x => rfl) (fun j x dx H1 e1 hdx pdx => ⟨true, t_yes, fun _ => by
              rw [List.getElem?_map] at hdx
              cases er : (t.eraseIdx i)[j]? with
              | none => rw [er] at hdx; cases hdx
              | some r =>
                rw [er] at hdx
                cases hdx
                refine ⟨dR r.tail, tO_R _, d_cast (d_slT (d_var rfl pdx) (eo_some ev_c) eo_none) ?_, ?_⟩
                · have := cutD_suf (r.map PyData.int) 1
                  rw [show ((1 : Nat) : Int) = 1 from rfl] at this
                  rw [this, ← List.map_drop, List.drop_one]
                  rfl
                · rw [List.take_add_one, er, List.map_append]
                  rfl, fun h => by cases h⟩)) fun lp zs H4 nl e4 hl hz => ?_
        rw [List.length_map, List.take_length] at hz
        have hz2 : DpAll K H4 zs (((t.eraseIdx i).map List.tail).map dR) := by rw [List.map_map]; exact hz
        refine q_asg (ev_op (it (i := i) (e03.trans e4) rfl (ev_var rfl) (by omega)) (ev_int (d_call (dom := dmDet n) (d := .int (M.det ((t.eraseIdx i).map List.tail))) (a_cons (d_ev (ev_var rfl) (.lst (sq_of hl) hz2)) a_nil) ⟨_, k + 1, by omega, by omega, by omega, sqm, .inr rfl, rfl⟩)) (rv_I (.inl ⟨c0.2, c0.1⟩))) fun H5 e5 => ?_
        refine q_cut (M := fun σ' H' => σ' = [some v, some (.int (((List.range i).map (detTerm t (k + 1))).sum)), some (.int (i : Int)), some (.ref lp), some (.int (detTerm t (k + 1) i)), none] ∧ Ex H H') (s_when (b := decide (i % 2 = 1)) (et_is (et_test (ev_op (ev_op (ev_var rfl) ev_c (rv_I (by decide))) ev_c (rv_eq rfl))) (by simp; omega)) (fun hc H6 e6 => ?_) (fun hc H6 e6 => ?_)) ?_
        · have hc := of_decide_eq_true hc
          refine s_asg (ev_is (ev_un (ev_var rfl) ru_neg) (congrArg V.int ?_)) fun H7 e7 => ⟨rfl, (((e03.trans e4).trans e5).trans e6).trans e7⟩
          rw [edt, if_pos hc]
          omega
        · have hc := of_decide_eq_false hc
          refine ⟨?_, ((e03.trans e4).trans e5).trans e6⟩
          rw [edt, if_neg hc, Int.one_mul]
          rfl
        · rintro σ' H6 ⟨rfl, e6⟩
          refine s_aug (f := fun i j => i + j) rfl (ev_var rfl) fun H7 e7 => ⟨some (.int (i : Int)), some (.ref lp), some (.int (detTerm t (k + 1) i)), ?_, e6.trans e7⟩
          rw [esum]
          rfl
      · have hc := of_decide_eq_false hc
        refine ⟨some (.int (i : Int)), y2, y3, ?_, e'.trans e3⟩
        rw [esum, edt, show (t.getD i []).getD 0 0 = 0 by omega, Int.zero_mul, Int.mul_zero, Int.add_zero]
        rfl
    · rintro σ' H' ⟨y1, y2, y3, rfl, e'⟩
      refine s_ret (ev_var rfl) fun H6 e6 => q _ _ (e'.trans e6) ?_
      rw [em, Int.toNat_natCast]
      exact .int _
def rd_detL (K : PySem.W.Frag) (sp_det : PySem.W.Frag → Sp) : TS := (tSeq (tIfS (tTest (tOp rEq (tCB (rLenS K) (tCons (tVar 0) tNil)) (tC (.int 1)))) (tRet (tOp (rIxT K) (tOp (rIxL K) (tVar 0) (tC (.int 0))) (tC (.int 0)))) tNext)
  (tSeq (tAsg (tC (.int 0)) (gName 1))
  (tSeq (tFor (iRng1 (tCons (tCB (rLenS K) (tCons (tVar 0) tNil)) tNil)) (gName 2)
  (tIfS (tTest (tOp rNe (tOp (rIxT K) (tOp (rIxL K) (tVar 0) (tVar 2)) (tC (.int 0))) (tC (.int 0)))) (tSeq (tAsg (tLc (iList K (tOp rCat (tSl (rSlL K) (tVar 0) tNoPart (tPart (tVar 2))) (tSl (rSlL K) (tVar 0) (tPart (tOp oAdd (tVar 2) (tC (.int 1)))) tNoPart))) (gName 5) tYes (tSl (rSlA K) (tVar 5) (tPart (tC (.int 1))) tNoPart) [5]) (gName 3))
  (tSeq (tAsg (tOp oMul (tOp (rIxT K) (tOp (rIxL K) (tVar 0) (tVar 2)) (tC (.int 0))) (tCall (sp_det K) [] E0 (tCons (tVar 3) tNil))) (gName 4))
  (tCut (tIfS (tTest (tOp rEq (tOp oMod (tVar 2) (tC (.int 2))) (tC (.int 1)))) (tAsg (tUn uNeg (tVar 4)) (gName 4)) tNext)
  (tAug 1 (tVar 4) (ipI fun i j => i + j))))) tNext))
  (tRet (tVar 1)))))
theorem pu_detL {H : Hp} {v : V} {t : List (List Int)} {m n : Nat} {Q : VK} (hm1 : 1 ≤ m) (hmn : m ≤ n + 1) (hn : n ≤ 99) (sq : Sq m t) (hv : Dp K H v (.list (t.map dR)))
    (q : ∀ v H2, Ex H H2 → Dp K H2 v (.int (M.det t)) → Q v H2) :
    rd_detL K (fun K => sp_detN K n) { nx := fun _ H' => Q .non H', rt := Q } (start ["table", "total", "i", "lower", "part", "row"] [v]) H := by
  have tl : ∀ {H1 : Hp} {σ : L2.St}, Ex H H1 → σ[0]? = some (some v) → EvD K (tVar 0) σ H1 (.list (t.map dR)) := fun e h => d_var h (dp_ex e hv)
  have it : ∀ {H1 : Hp} {σ : L2.St} {te : TE} {i : Nat}, Ex H H1 → σ[0]? = some (some v) → Ev te σ H1 (.int (i : Int)) → i < t.length → Ev (tOp (rIxT K) (tOp (rIxL K) (tVar 0) te) (tC (.int 0))) σ H1 (.int ((t.getD i []).getD 0 0)) := fun {H1 σ te i} e h hi hl => ev_row (i := 0) (d_ixL (tl e h) hi (atI_nat (rowsAt hl))) ev_c (by rw [(sq.2 _ (memAt hl)).1]; omega)
  have lt := sq.1
  refine q_when (b := decide (m = 1)) (et_is (et_test (ev_op (ev_lenD (tl (Ex.refl _) rfl) (.inr rfl)) ev_c (rv_eq rfl))) (by rw [List.length_map, lt]; simp; omega)) (fun hc H1 e1 => ?_) (fun hc H1 e1 => ?_)
  · have hc := of_decide_eq_true hc
    refine s_ret (it (i := 0) e1 rfl ev_c (by omega)) fun H2 e2 => q _ _ (e1.trans e2) ?_
    rw [det_one (by omega)]
    exact .int _
  · have hc := of_decide_eq_false hc
    obtain ⟨k, rfl⟩ : ∃ k, m = k + 2 := ⟨m - 2, by omega⟩
    have em := det_more lt
    refine q_asg ev_c fun H2 e2 => ?_
    refine q_forR1 (n := (((k + 2 : Nat)) : Int)) (ea_cons (ev_is (ev_lenD (tl (e1.trans e2) rfl) (.inr rfl)) (by rw [List.length_map, lt])) ea_nil) ⟨by omega, by omega⟩
      (fun i σ' H' => ∃ (y1 y2 y3 : Option V), σ' = [some v, some (.int (((List.range i).map (detTerm t (k + 1))).sum)), y1, y2, y3, none] ∧ Ex H H')
      (fun H3 e3 => ⟨none, none, none, rfl, (e1.trans e2).trans e3⟩) ?_ ?_
    · rintro i σ' H' hi ⟨y1, y2, y3, rfl, e'⟩
      have hi : i < k + 2 := by omega
      have esum : ((List.range (i + 1)).map (detTerm t (k + 1))).sum = ((List.range i).map (detTerm t (k + 1))).sum + detTerm t (k + 1) i := by
        rw [List.range_succ, List.map_append, List.sum_append]
        simp
      have sqm := sq.minor hi
      have edt : detTerm t (k + 1) i = (if i % 2 = 1 then -1 else 1) * ((t.getD i []).getD 0 0 * M.det ((t.eraseIdx i).map List.tail)) := by
        unfold detTerm
        rw [det_minor lt hi]
      have c0 : (t.getD i []).getD 0 0 < 2 ^ 64 ∧ -(2 ^ 64) < (t.getD i []).getD 0 0 := by
        obtain ⟨r1, r2⟩ := sq.2 _ (memAt (t := t) (i := i) (by omega))
        have := r2 _ (show (t.getD i []).getD 0 0 ∈ t.getD i [] by rw [getD_at (by omega)]; exact List.getElem_mem _)
        omega
      refine s_when (b := decide ((t.getD i []).getD 0 0 ≠ 0)) (et_is (et_test (ev_op (it e' rfl (ev_var rfl) (by omega)) ev_c (rv_ne rfl))) (by simp)) (fun hc H3 e3 => ?_) (fun hc H3 e3 => ?_)
      · have e03 := e'.trans e3
        have hcat : EvN K (tOp rCat (tSl (rSlL K) (tVar 0) tNoPart (tPart (tVar 2))) (tSl (rSlL K) (tVar 0) (tPart (tOp oAdd (tVar 2) (tC (.int 1)))) tNoPart)) [some v, some (.int (((List.range i).map (detTerm t (k + 1))).sum)), some (.int (i : Int)), y2, y3, none] H3 ((t.eraseIdx i).map dR) := by
          have hi1 : Ev (tOp oAdd (tVar 2) (tC (.int 1))) [some v, some (.int (((List.range i).map (detTerm t (k + 1))).sum)), some (.int (i : Int)), y2, y3, none] H3 (.int ((i + 1 : Nat) : Int)) := ev_op (ev_var rfl) ev_c rv_I0
          have h0 := n_cat (K := K) (n_slL (tl e03 rfl) eo_none (eo_some (ev_var (σ := [some v, some (.int (((List.range i).map (detTerm t (k + 1))).sum)), some (.int (i : Int)), y2, y3, none]) (i := 2) rfl))) (n_slL (tl e03 rfl) (eo_some hi1) eo_none) (by rw [cutD_pre, cutD_suf, List.length_take, List.length_drop, List.length_map, lt]; omega)
          rw [cutD_pre, cutD_suf, ← List.eraseIdx_eq_take_drop_succ, show (t.map dR).eraseIdx i = (t.eraseIdx i).map dR from by rw [List.eraseIdx_eq_take_drop_succ, List.eraseIdx_eq_take_drop_succ, List.map_append, List.map_take, List.map_drop]] at h0
          exact h0
        refine q_asgN (n_lcNL (K := K) (xds := (t.eraseIdx i).map dR) (fun j => ((t.eraseIdx i).take j).map fun r => dR r.tail) hcat rfl
          (fun j hj => ⟨by rw [List.length_map, List.length_take, List.length_eraseIdx, lt]; split <;> omega, tOs_all fun d hd => by
            obtain ⟨r, _, rfl⟩ := List.mem_map.mp hd
            exact tO_R _⟩) (fun x => rfl) (fun j x dx H1 e1 hdx pdx => ⟨true, t_yes, fun _ => by
              rw [List.getElem?_map] at hdx
              cases er : (t.eraseIdx i)[j]? with
              | none => rw [er] at hdx; cases hdx
              | some r =>
                rw [er] at hdx
                cases hdx
                refine ⟨dR r.tail, tO_R _, d_cast (d_slT (d_var rfl pdx) (eo_some ev_c) eo_none) ?_, ?_⟩
                · have := cutD_suf (r.map PyData.int) 1
                  rw [show ((1 : Nat) : Int) = 1 from rfl] at this
                  rw [this, ← List.map_drop, List.drop_one]
                  rfl
                · rw [List.take_add_one, er, List.map_append]
                  rfl, fun h => by cases h⟩)) fun lp zs H4 nl e4 hl hz => ?_
        rw [List.length_map, List.take_length] at hz
        have hz2 : DpAll K H4 zs (((t.eraseIdx i).map List.tail).map dR) := by rw [List.map_map]; exact hz
        refine q_asg (ev_op (it (i := i) (e03.trans e4) rfl (ev_var rfl) (by omega)) (ev_int (d_call (dom := dmDet n) (d := .int (M.det ((t.eraseIdx i).map List.tail))) (a_cons (d_ev (ev_var rfl) (.lst (sq_of hl) hz2)) a_nil) ⟨_, k + 1, by omega, by omega, by omega, sqm, .inr rfl, rfl⟩)) (rv_I (.inl ⟨c0.2, c0.1⟩))) fun H5 e5 => ?_
        refine q_cut (M := fun σ' H' => σ' = [some v, some (.int (((List.range i).map (detTerm t (k + 1))).sum)), some (.int (i : Int)), some (.ref lp), some (.int (detTerm t (k + 1) i)), none] ∧ Ex H H') (s_when (b := decide (i % 2 = 1)) (et_is (et_test (ev_op (ev_op (ev_var rfl) ev_c (rv_I (by decide))) ev_c (rv_eq rfl))) (by simp; omega)) (fun hc H6 e6 => ?_) (fun hc H6 e6 => ?_)) ?_
        · have hc := of_decide_eq_true hc
          refine s_asg (ev_is (ev_un (ev_var rfl) ru_neg) (congrArg V.int ?_)) fun H7 e7 => ⟨rfl, (((e03.trans e4).trans e5).trans e6).trans e7⟩
          rw [edt, if_pos hc]
          omega
        · have hc := of_decide_eq_false hc
          refine ⟨?_, ((e03.trans e4).trans e5).trans e6⟩
          rw [edt, if_neg hc, Int.one_mul]
          rfl
        · rintro σ' H6 ⟨rfl, e6⟩
          refine s_aug (f := fun i j => i + j) rfl (ev_var rfl) fun H7 e7 => ⟨some (.int (i : Int)), some (.ref lp), some (.int (detTerm t (k + 1) i)), ?_, e6.trans e7⟩
          rw [esum]
          rfl
      · have hc := of_decide_eq_false hc
        refine ⟨some (.int (i : Int)), y2, y3, ?_, e'.trans e3⟩
        rw [esum, edt, show (t.getD i []).getD 0 0 = 0 by omega, Int.zero_mul, Int.mul_zero, Int.add_zero]
        rfl
    · rintro σ' H' ⟨y1, y2, y3, rfl, e'⟩
      refine s_ret (ev_var rfl) fun H6 e6 => q _ _ (e'.trans e6) ?_
      rw [em, Int.toNat_natCast]
      exact .int _
theorem ok_det (T : Tx K mg) : ∀ n : Nat, n ≤ 100 → Ok P w K mg base CX0 "det" ["table"] (n + 1) (sp_detN K n)
  | 0, _ => ok_ofG T.g_det T.f_det sc_det (fun _ _ _ _ _ _ us hl => match us, hl with | [_], _ => rfl) (fun vs H d ⟨ds, ⟨t, m, h1, h2, _⟩, hd⟩ => by omega) (fun cdv A outer s H vs Q E d hr ⟨ds, ⟨t, m, h1, h2, _⟩, hv⟩ q => by omega)
  | n + 1, hn => by
    have O_det := ok_det T n (by omega)
    refine ok_ofG T.g_det T.f_det sc_det (fun _ _ _ _ _ _ us hl => match us, hl with | [_], _ => rfl) (fun vs H d ⟨ds, ⟨t, m, _, _, _, _, e, _⟩, hd⟩ => by rcases e with e | e <;> (rw [dpAll_len hd, e]; rfl)) (fun cdv A outer s H vs Q E d hr ⟨ds, ⟨t, m, h1, h2, h3, h4, hds, ed⟩, hv⟩ q => ?_)
    subst ed
    rcases hds with rfl | rfl
    · obtain ⟨v, rfl, k1⟩ := dpAll_one hv
      exact ⟨rd_detT K (fun K => sp_detN K n), PSs.nox ((pss_cons (ps_if (pt_cmpR op_eq (pe_len T.b_len (pv 0)) pe_int (nomark _)) (pss_one (ps_ret (pe_ix ix_tup (pe_ix ix_tup (pv 0) pe_int (fun _ _ => rfl)) pe_int (fun _ _ => rfl)))) pss_nil)
  (pss_cons (ps_set (i := 1) sc_det.nd rfl (Or.inl rfl) pe_int)
  (pss_cons (ps_for PassesOwn.never rfl (pi_range1 (by rfl) T.b_range (pa_cons (pe_len T.b_len (pv 0)) pa_nil)) (pg_name (i := 2) sc_det.nd rfl (Or.inl rfl))
  (pss_one (ps_if (pt_cmpR op_ne (pe_ix ix_tup (pe_ix ix_tup (pv 0) (pv 2) (fun _ _ => rfl)) pe_int (fun _ _ => rfl)) pe_int (nomark _)) (pss_cons (ps_setLc (i := 3) (own := [("row", 5)]) (g := gName 5) (tt := tYes) rfl sc_det.nd rfl rfl (sw_true rfl rfl rfl (by decide +kernel)) (pi_tup (pe_op op_catA (pe_slice sl_tupA (pv 0) po_none (po_some (pv 2))) (pe_slice sl_tupA (pv 0) (po_some (pe_op op_add (pv 2) pe_int)) po_none))) (blkOk_by (own := [("row", 5)]) (N := ["table", "total", "i", "lower", "part", "row"]) (sc := defScope s_det) (by decide +kernel)) (fun _ _ _ _ _ => (pg_name (i := 5) sc_det.nd rfl (Or.inl rfl))) (fun _ _ _ _ _ => pts_nil) (fun _ _ _ _ _ => (pe_slice sl_tupA (pv 5) (po_some pe_int) po_none)))
  (pss_cons (ps_set (i := 4) sc_det.nd rfl (Or.inl rfl) (pe_op op_mul (pe_ix ix_tup (pe_ix ix_tup (pv 0) (pv 2) (fun _ _ => rfl)) pe_int (fun _ _ => rfl)) (pe_fn O_det (hr.mono (Nat.le_refl _)) (pa_cons (pv 3) pa_nil))))
  (pss_cut (ps_if (pt_cmpR op_eq (pe_op op_mod (pv 2) pe_int) pe_int (nomark _)) (pss_one (ps_set (i := 4) sc_det.nd rfl (Or.inl rfl) (pe_un un_neg (pv 4)))) pss_nil)
  (pss_one (ps_aug (i := 1) sc_det.nd rfl (Or.inl rfl) (pv 4) ip_add))))) pss_nil)))
  (pss_one (ps_ret (pv 1))))))), pu_detT h1 h2 (by omega) h4 k1 q⟩
    · obtain ⟨v, rfl, k1⟩ := dpAll_one hv
      exact ⟨rd_detL K (fun K => sp_detN K n), PSs.nox ((pss_cons (ps_if (pt_cmpR op_eq (pe_len T.b_len (pv 0)) pe_int (nomark _)) (pss_one (ps_ret (pe_ix ix_tup (pe_ix ix_list (pv 0) pe_int (fun _ _ => rfl)) pe_int (fun _ _ => rfl)))) pss_nil)
  (pss_cons (ps_set (i := 1) sc_det.nd rfl (Or.inl rfl) pe_int)
  (pss_cons (ps_for PassesOwn.never rfl (pi_range1 (by rfl) T.b_range (pa_cons (pe_len T.b_len (pv 0)) pa_nil)) (pg_name (i := 2) sc_det.nd rfl (Or.inl rfl))
  (pss_one (ps_if (pt_cmpR op_ne (pe_ix ix_tup (pe_ix ix_list (pv 0) (pv 2) (fun _ _ => rfl)) pe_int (fun _ _ => rfl)) pe_int (nomark _)) (pss_cons (ps_setLc (i := 3) (own := [("row", 5)]) (g := gName 5) (tt := tYes) rfl sc_det.nd rfl rfl (sw_true rfl rfl rfl (by decide +kernel)) (pi_list (pe_op op_cat (pe_slice sl_list (pv 0) po_none (po_some (pv 2))) (pe_slice sl_list (pv 0) (po_some (pe_op op_add (pv 2) pe_int)) po_none))) (blkOk_by (own := [("row", 5)]) (N := ["table", "total", "i", "lower", "part", "row"]) (sc := defScope s_det) (by decide +kernel)) (fun _ _ _ _ _ => (pg_name (i := 5) sc_det.nd rfl (Or.inl rfl))) (fun _ _ _ _ _ => pts_nil) (fun _ _ _ _ _ => (pe_slice sl_tupA (pv 5) (po_some pe_int) po_none)))
  (pss_cons (ps_set (i := 4) sc_det.nd rfl (Or.inl rfl) (pe_op op_mul (pe_ix ix_tup (pe_ix ix_list (pv 0) (pv 2) (fun _ _ => rfl)) pe_int (fun _ _ => rfl)) (pe_fn O_det (hr.mono (Nat.le_refl _)) (pa_cons (pv 3) pa_nil))))
  (pss_cut (ps_if (pt_cmpR op_eq (pe_op op_mod (pv 2) pe_int) pe_int (nomark _)) (pss_one (ps_set (i := 4) sc_det.nd rfl (Or.inl rfl) (pe_un un_neg (pv 4)))) pss_nil)
  (pss_one (ps_aug (i := 1) sc_det.nd rfl (Or.inl rfl) (pv 4) ip_add))))) pss_nil)))
  (pss_one (ps_ret (pv 1))))))), pu_detL h1 h2 (by omega) h4 k1 q⟩
end
end K41
set_option Elab.async false
set_option linter.all false
set_option maxRecDepth 100000
set_option maxHeartbeats 4000000
namespace K41
open PySem PySem.Spec PyProof.Rows L2 Evl
local macro_rules | `(tactic| walk_at "cc") => `(tactic| first
  | assumption
  | (with_reducible show (0 : Int) < _; omega)
  | exact Or.inl ⟨by omega, by omega⟩
  | exact Or.inr ⟨by omega, by omega⟩
  | exact And.intro (by omega) (by omega)
  | (show (0 : Int) < _; omega)
  | omega)
local macro_rules | `(tactic| walk_at "ev") => `(tactic| first
  | assumption
  | with_reducible exact ev_c
  | exact ev_var rfl
  | ((with_reducible refine' ev_op ?ka ?kb rv_I0); (case ka => walk_at "ev"); (case kb => walk_at "ev"))
  | ((with_reducible refine' ev_op ?ka ?kb (rv_I ?kc)); (case ka => walk_at "ev"); (case kb => walk_at "ev"); (case kc => walk_at "cc"))
  | ((with_reducible refine' ev_op (r := rEq) ?ka ?kb ?kd); (case ka => walk_at "ev"); (case kb => walk_at "ev"); (case kd => refine' rv_eq ?kc; rfl))
  | ((with_reducible refine' ev_op (r := rNe) ?ka ?kb ?kd); (case ka => walk_at "ev"); (case kb => walk_at "ev"); (case kd => refine' rv_ne ?kc; rfl))
  | ((with_reducible refine' ev_un ?ka ru_neg); (case ka => walk_at "ev"))
  | ((with_reducible refine' et_test ?ka); (case ka => walk_at "ev")))

section
variable {P : Program} {w : World} {K : PySem.W.Frag} {mg : Str → Option Value} {base : Heap}
theorem atI_last {α : Type} {l : List α} (h : 1 ≤ l.length) : atI l (-1) = l[l.length - 1]? := by
  unfold atI ixN
  have e : (-1 + (l.length : Int)).toNat = l.length - 1 := by omega
  simp [e]
  rw [if_pos (by omega)]
  rfl
theorem ev_chain {σ : L2.St} {H : Hp} {ta tb tc : TE} {i j k : Int} (ha : Ev ta σ H (.int i)) (hb : Ev tb σ H (.int j)) (hc : Ev tc σ H (.int k)) : Ev (tChain oLe oLe ta tb tc) σ H (.bl (decide (i ≤ j) && decide (j ≤ k))) := fun H1 e Q q =>
  ha H1 e _ fun H2 e2 => hb H2 (e.trans e2) _ fun H3 e3 => ⟨i, j, rfl, rfl, decide (i ≤ j), rfl, by
    by_cases h : i ≤ j
    · rw [decide_eq_true h]
      refine hc H3 ((e.trans e2).trans e3) _ fun H4 e4 => ⟨j, k, rfl, rfl, ?_⟩
      rw [decide_eq_true h] at q
      exact q H4 ((e2.trans e3).trans e4)
    · rw [decide_eq_false h]
      rw [decide_eq_false h] at q
      exact q H3 (e2.trans e3)⟩
/-! ### check_poly -/
/-- lets out an error of the ring -/
def Bad (K : PySem.W.Frag) (E : XK) (H : Hp) : Prop := ∀ (x : Str) (d : Option Addr) (H2 : Hp), (x = "NoPolynomial" ∨ x = "TooGreat" ∨ x = "FallsApart" ∨ x = "NotWhole") → Ex H H2 → E (.ref (He.ga K x)) d H2
def smallB (c : Int) : Bool := decide (-499 ≤ c) && decide (c ≤ 499)
def goodP (f : List Int) : Bool := (decide (3 ≤ f.length) && decide (f.length ≤ 5) && decide (f.getD (f.length - 1) 0 = 1)) && f.all smallB
theorem goodP_is {f : List Int} (h : goodP f = true) : 3 ≤ f.length ∧ f.length ≤ 5 ∧ f.getD (f.length - 1) 0 = 1 ∧ ∀ c ∈ f, c.natAbs ≤ 499 := by
  unfold goodP at h
  simp only [Bool.and_eq_true, decide_eq_true_eq, List.all_eq_true] at h
  obtain ⟨⟨⟨h1, h2⟩, h3⟩, h4⟩ := h
  refine ⟨h1, h2, h3, fun c hc => ?_⟩
  have := h4 c hc
  unfold smallB at this
  simp only [Bool.and_eq_true, decide_eq_true_eq] at this
  omega
def sp_check (K : PySem.W.Frag) : Sp := fun vs H Q E => ∃ v f, vs = [v] ∧ Dp K H v (dR f) ∧ 1 ≤ f.length ∧ (goodP f = true → ∀ H2, Ex H H2 → Q .non H2) ∧ (goodP f = false → Bad K E H)
def rd_check (K : PySem.W.Frag) (E : XK) : TS := (tSeq (tAsg (tAndV (tChain oLe oLe (tC (.int 3)) (tCB (rLenS K) (tCons (tVar 0) tNil)) (tC (.int 5))) (tOp rEq (tOp (rIxT K) (tVar 0) (tUn uNeg (tC (.int 1)))) (tC (.int 1)))) (gName 1))
  (tCut (tIfS (tB (tVar 1)) (tFor (iTup K (tVar 0)) (gName 2)
  (tIfS (tOr (tTest (tOp oLt (tVar 2) (tUn uNeg (tC (.int 499))))) (tTest (tOp oGt (tVar 2) (tC (.int 499))))) (tAsg (tC (.bl false)) (gName 1)) tNext)) tNext)
  (tIfS (tNot (tB (tVar 1))) (fun _ _ H => E (.ref (He.ga K "NoPolynomial")) none H) tNext)))
theorem pu_check {H : Hp} {v : V} {f : List Int} {Q : VK} {E : XK} (hf : 1 ≤ f.length) (hv : Dp K H v (dR f)) (q : goodP f = true → ∀ H2, Ex H H2 → Q .non H2) (b : goodP f = false → Bad K E H) :
    rd_check K E { nx := fun _ H' => Q .non H', rt := Q } (start ["poly", "good", "place"] [v]) H := by
  obtain ⟨a, rfl, ha⟩ := dp_R hv
  refine q_asg (v := .bl (decide (3 ≤ f.length) && decide (f.length ≤ 5) && decide (f.getD (f.length - 1) 0 = 1))) (ev_is (ev_andV (ev_chain ev_c (ev_lenD (d_var rfl hv) (.inl rfl)) ev_c) fun h => ev_op (ev_int (d_ixT (i := -1) (d := .int (f.getD (f.length - 1) 0)) (d_var rfl hv) (ev_un ev_c ru_neg) ?_)) ev_c (rv_eq rfl)) ?_) fun H1 e1 => ?_
  · rw [atI_last (by rw [List.length_map]; exact hf), List.length_map]
    exact at_P (by omega)
  · rw [List.length_map]
    rw [decide_eq_decide.mpr (show (3 : Int) ≤ (f.length : Int) ↔ 3 ≤ f.length by omega), decide_eq_decide.mpr (show (f.length : Int) ≤ 5 ↔ f.length ≤ 5 by omega), decide_eq_decide.mpr (show V.int (f.getD (f.length - 1) 0) = V.int 1 ↔ f.getD (f.length - 1) 0 = 1 by simp)]
  · have eg : goodP f = ((decide (3 ≤ f.length) && decide (f.length ≤ 5) && decide (f.getD (f.length - 1) 0 = 1)) && f.all smallB) := rfl
    generalize (decide (3 ≤ f.length) && decide (f.length ≤ 5) && decide (f.getD (f.length - 1) 0 = 1)) = g at eg ⊢
    refine q_cut (M := fun σ' H' => ∃ y, σ' = [some (.ref a), some (.bl (g && f.all smallB)), y] ∧ Ex H H') (s_when (b := g) (et_B (ev_var rfl)) (fun hc H2 e2 => ?_) (fun hc H2 e2 => ⟨none, by rw [hc]; rfl, e1.trans e2⟩)) ?_
    · subst hc
      refine s_forT (ev_var rfl) (ex_t (e1.trans e2) ha) (fun i σ' H' => ∃ y, σ' = [some (.ref a), some (.bl ((f.take i).all smallB)), y] ∧ Ex H H') (fun H3 e3 => ⟨none, rfl, (e1.trans e2).trans e3⟩) (fun i σ' H' _ ⟨_, _, e⟩ => ex_t e ha) ?_ ?_
      · rintro i x σ' H' hx ⟨y, rfl, e'⟩
        obtain ⟨hi, rfl⟩ := of_V hx
        have et : (f.take (i + 1)).all smallB = ((f.take i).all smallB && smallB (f.getD i 0)) := by
          rw [List.take_add_one, List.getElem?_eq_getElem hi, List.all_append, getD_at hi]
          simp
        show tIfS _ _ _ _ _ _
        refine s_when (b := !smallB (f.getD i 0)) (et_is (et_or (et_test (ev_op (ev_var rfl) (ev_un ev_c ru_neg) rv_I0)) fun _ => et_test (ev_op (ev_var rfl) ev_c rv_I0)) ?_) (fun hc H3 e3 => s_asg ev_c fun H4 e4 => ⟨some (.int (f.getD i 0)), ?_, (e'.trans e3).trans e4⟩) (fun hc H3 e3 => ⟨some (.int (f.getD i 0)), ?_, e'.trans e3⟩)
        · unfold smallB
          rw [Bool.not_and]
          congr 1 <;> (rw [← decide_not]; congr 1; simp)
        · rw [et, show smallB (f.getD i 0) = false by simpa using hc, Bool.and_false]
          rfl
        · rw [et, show smallB (f.getD i 0) = true by simpa using hc, Bool.and_true]
          rfl
      · rintro σ' H' ⟨y, rfl, e'⟩
        exact ⟨y, by rw [List.length_map, List.take_length, Bool.true_and], e'⟩
    · rintro σ' H2 ⟨y, rfl, e2⟩
      rw [← eg]
      refine s_when (b := !goodP f) (et_not (et_B (ev_var rfl))) (fun hc H3 e3 => ?_) (fun hc H3 e3 => q (by simpa using hc) H3 (e2.trans e3))
      exact b (by simpa using hc) _ _ _ (.inl rfl) (e2.trans e3)
theorem ok_check (T : Tx K mg) : Ok P w K mg base (L2.CX P w) "check_poly" ["poly"] 1 (sp_check K) := by
  obtain ⟨iLt, iL⟩ := T.i_LARGEST
  refine ok_of T.g_check_poly T.f_check_poly sc_check_poly (fun _ _ _ _ _ _ us hl => match us, hl with | [_], _ => rfl) (fun vs H Q E ⟨v, f, h, _⟩ => by rw [h]; rfl) (fun cdv A outer s H vs Q E hr ⟨v, f, hvs, hv, hf, q, b⟩ => ⟨rd_check K E, (pss_cons (ps_set (i := 1) sc_check_poly.nd rfl (Or.inl rfl) (pe_and (pe_chain op_le op_le pe_int (pe_len T.b_len (pv 0)) pe_int) (pe_one (pe_cmpR op_eq (pe_ix ix_tup (pv 0) (pe_un un_neg pe_int) (fun _ _ => rfl)) pe_int (nomark _)))))
  (pss_cut (ps_if (pt_val (pv 1)) (pss_one (ps_for (passes_of rfl) rfl (pi_tup (pv 0)) (pg_name (i := 2) sc_check_poly.nd rfl (Or.inl rfl))
  (pss_one (ps_if (PW.pt (pw_or (pt_cmpR op_lt (pv 2) (pe_un un_neg (pe_glob rfl iL ⟨_, rfl⟩)) (nomark _)) (pw_or1 (pt_cmpR op_gt (pv 2) (pe_glob rfl iL ⟨_, rfl⟩) (nomark _))))) (pss_one (ps_set (i := 1) sc_check_poly.nd rfl (Or.inl rfl) pe_bl)) pss_nil)))) pss_nil)
  (pss_one (ps_if (pt_not (pt_val (pv 1))) (pss_one (ps_raise rfl (takes_of rfl rfl rfl rfl) (pmk_own PySem.F.excBase_ValueError T.e_NoPolynomial.1 T.g_NoPolynomial T.e_NoPolynomial.2.1 (raises_own T.e_NoPolynomial.2.2.1 T.e_NoPolynomial.2.2.2) (by exact rfl)))) pss_nil)))), ?_⟩)
  subst hvs
  exact pu_check hf hv q b
end
end K41
set_option Elab.async false
set_option linter.all false
set_option maxRecDepth 100000
set_option maxHeartbeats 4000000
namespace K41
open PySem PySem.Spec PyProof.Rows L2 Evl
local macro_rules | `(tactic| walk_at "cc") => `(tactic| first
  | assumption
  | (with_reducible show (0 : Int) < _; omega)
  | exact Or.inl ⟨by omega, by omega⟩
  | exact Or.inr ⟨by omega, by omega⟩
  | exact And.intro (by omega) (by omega)
  | (show (0 : Int) < _; omega)
  | omega)
local macro_rules | `(tactic| walk_at "ev") => `(tactic| first
  | assumption
  | with_reducible exact ev_c
  | exact ev_var rfl
  | ((with_reducible refine' ev_op ?ka ?kb rv_I0); (case ka => walk_at "ev"); (case kb => walk_at "ev"))
  | ((with_reducible refine' ev_op ?ka ?kb (rv_I ?kc)); (case ka => walk_at "ev"); (case kb => walk_at "ev"); (case kc => walk_at "cc"))
  | ((with_reducible refine' ev_op (r := rEq) ?ka ?kb ?kd); (case ka => walk_at "ev"); (case kb => walk_at "ev"); (case kd => refine' rv_eq ?kc; rfl))
  | ((with_reducible refine' ev_op (r := rNe) ?ka ?kb ?kd); (case ka => walk_at "ev"); (case kb => walk_at "ev"); (case kd => refine' rv_ne ?kc; rfl))
  | ((with_reducible refine' ev_un ?ka ru_neg); (case ka => walk_at "ev"))
  | ((with_reducible refine' et_test ?ka); (case ka => walk_at "ev")))

section
variable {P : Program} {w : World} {K : PySem.W.Frag} {mg : Str → Option Value} {base : Heap}
/-- over a tuple that is reckoned -/
theorem s_forTN {σ : L2.St} {H : Hp} {tl : TE} {D : Ends} {tu : TS} {g : TG} {xds : List PyData} (h : EvD K tl σ H (.tuple xds)) (Pv : Hp → Nat → L2.St → Hp → Prop) (h0 : ∀ H1, Ex H H1 → Pv H1 0 σ H1) (hk : ∀ H1 i σ' H', Pv H1 i σ' H' → Ex H1 H')
    (hs : ∀ H1 i x dx σ' H', Ex H H1 → xds[i]? = some dx → Dp K H' x dx → Pv H1 i σ' H' → g x σ' H' fun σ2 H2 => tu { D with nx := Pv H1 (i + 1), ct := Pv H1 (i + 1), bk := D.nx } σ2 H2) (hd : ∀ H1 σ' H', Ex H H1 → Pv H1 xds.length σ' H' → D.nx σ' H') : tFor (iTup K tl) g tu D σ H :=
  h H (Ex.refl H) _ fun v H1 e pv => by
    obtain ⟨a, xs, rfl, ha, hx⟩ := dp_tup pv
    refine ⟨a, rfl, ⟨xs, ha⟩, for_tup (Pv H1) (h0 H1 e) (fun i σ' H' _ q => ex_t (hk _ _ _ _ q) ha) (fun i x σ' H' hi q => ?_) (fun σ' H' q => hd H1 σ' H' e (by rw [← dpAll_len hx]; exact q))⟩
    obtain ⟨dx, hdx, pdx⟩ := dpAll_get' hx hi
    exact hs H1 i x dx σ' H' e hdx (dp_ex (hk _ _ _ _ q) pdx) q
/-! ### whole_root -/
def wholeTry (f : List Int) (s : Nat) : Option Int := if (f.getD 0 0).natAbs % s = 0 then (if M.val f (s : Int) = 0 then some (s : Int) else if M.val f (-(s : Int)) = 0 then some (-(s : Int)) else none) else none
def wholeRoot (f : List Int) : Option Int := if (f.getD 0 0).natAbs = 0 then some 0 else M.firstUp (wholeTry f) 1 (f.getD 0 0).natAbs
def dOpt : Option Int → PyData
  | none => .none
  | some r => .int r
def dmWhole : List PyData → PyData → Prop := fun ds d => ∃ f : List Int, 1 ≤ f.length ∧ f.length ≤ 1000 ∧ (∀ c ∈ f, c.natAbs ≤ 499) ∧ ds = [dR f] ∧ d = dOpt (wholeRoot f)
abbrev sp_whole_root (K : PySem.W.Frag) : Sp := spG (onD K dmWhole) K
def rd_whole_root (K : PySem.W.Frag) : TS := (tSeq (tAsg (tCB rAbs (tCons (tOp (rIxT K) (tVar 0) (tC (.int 0))) tNil)) (gName 1))
  (tSeq (tIfS (tTest (tOp rEq (tVar 1) (tC (.int 0)))) (tRet (tC (.int 0))) tNext)
  (tSeq (tFor (iRng2 (tCons (tC (.int 1)) (tCons (tOp oAdd (tVar 1) (tC (.int 1))) tNil))) (gName 2)
  (tIfS (tTest (tOp rEq (tOp oMod (tVar 1) (tVar 2)) (tC (.int 0)))) (tSeq (tIfS (tTest (tOp rEq (tCall (sp_poly_at K) [] E0 (tCons (tVar 0) (tCons (tVar 2) tNil))) (tC (.int 0)))) (tRet (tVar 2)) tNext)
  (tIfS (tTest (tOp rEq (tCall (sp_poly_at K) [] E0 (tCons (tVar 0) (tCons (tUn uNeg (tVar 2)) tNil))) (tC (.int 0)))) (tRet (tUn uNeg (tVar 2))) tNext)) tNext))
  (tRet (tC .non)))))
theorem ev_mod {te tf : TE} {σ : L2.St} {H : Hp} {a b : Nat} (h : Ev te σ H (.int (a : Int))) (h' : Ev tf σ H (.int (b : Int))) (hb : 0 < b) : Ev (tOp oMod te tf) σ H (.int ((a % b : Nat) : Int)) := ev_is (ev_op h h' (rv_I (by omega))) (by simp)
theorem pu_whole_root {H : Hp} {v : V} {f : List Int} {Q : VK} (hf1 : 1 ≤ f.length) (hf : f.length ≤ 1000) (hs : ∀ c ∈ f, c.natAbs ≤ 499) (hv : Dp K H v (dR f)) (q : ∀ v H2, Ex H H2 → Dp K H2 v (dOpt (wholeRoot f)) → Q v H2) :
    rd_whole_root K { nx := fun _ H' => Q .non H', rt := Q } (start ["poly", "last", "size"] [v]) H := by
  have c0 := getD_small hs 0
  have ef : wholeRoot f = if (f.getD 0 0).natAbs = 0 then some 0 else M.firstUp (wholeTry f) 1 (f.getD 0 0).natAbs := rfl
  have et : wholeTry f = fun s => if (f.getD 0 0).natAbs % s = 0 then (if M.val f (s : Int) = 0 then some (s : Int) else if M.val f (-(s : Int)) = 0 then some (-(s : Int)) else none) else none := rfl
  refine q_asg (ev_abs (ev_row (i := 0) (d_var rfl hv) ev_c (by omega))) fun H1 e1 => ?_
  generalize (f.getD 0 0).natAbs = n at *
  refine q_when (b := decide (n = 0)) (et_is (et_test (ev_op (ev_var rfl) ev_c (rv_eq rfl))) (by simp)) (fun hc H2 e2 => ?_) (fun hc H2 e2 => ?_)
  · have hc := of_decide_eq_true hc
    rw [ef, if_pos hc] at q
    exact s_ret ev_c fun H3 e3 => q _ _ ((e1.trans e2).trans e3) (.int 0)
  · have hc := of_decide_eq_false hc
    rw [if_neg hc] at ef
    refine q_forR2 (lo := 1) (n := (n : Int) + 1) (ea_cons ev_c (ea_cons (ev_op (ev_var rfl) ev_c rv_I0) ea_nil)) ⟨by omega, by omega, by omega, by omega⟩
      (fun i σ' H' => ∃ y, σ' = [some v, some (.int (n : Int)), y] ∧ Ex H H' ∧ M.firstUp (wholeTry f) (1 + i) (n - i) = wholeRoot f) (fun H3 e3 => ⟨none, rfl, (e1.trans e2).trans e3, ef.symm⟩) ?_ ?_
    · rintro i σ' H' hi ⟨y, rfl, e', ei⟩
      have hi : i < n := by omega
      obtain ⟨m, hm⟩ : ∃ m, n - i = m + 1 := ⟨n - i - 1, by omega⟩
      have hm' : n - (i + 1) = m := by omega
      rw [hm] at ei
      have esz : (1 : Int) + (i : Int) = ((1 + i : Nat) : Int) := by omega
      rw [esz]
      have nxt : ∀ {H2 : Hp} {σ2 : L2.St}, Ex H H2 → σ2 = [some v, some (.int (n : Int)), some (.int ((1 + i : Nat) : Int))] → wholeTry f (1 + i) = none → ∃ y, σ2 = [some v, some (.int (n : Int)), y] ∧ Ex H H2 ∧ M.firstUp (wholeTry f) (1 + (i + 1)) (n - (i + 1)) = wholeRoot f := fun e2 hσ h => ⟨_, hσ, e2, by rw [hm', ← ei, firstUp_none h]; rfl⟩
      have rt : ∀ r, wholeTry f (1 + i) = some r → wholeRoot f = some r := fun r h => by rw [← ei, firstUp_some h]
      have et2 : wholeTry f (1 + i) = if n % (1 + i) = 0 then (if M.val f ((1 + i : Nat) : Int) = 0 then some ((1 + i : Nat) : Int) else if M.val f (-((1 + i : Nat) : Int)) = 0 then some (-((1 + i : Nat) : Int)) else none) else none := by rw [et]
      have hs1 : 0 < 1 + i := by omega
      have hs2 : 1 + i ≤ 499 := by omega
      generalize 1 + i = s at *
      refine s_when (b := decide (n % s = 0)) (et_is (et_test (ev_op (ev_mod (ev_var rfl) (ev_var rfl) hs1) ev_c (rv_eq rfl))) (by simp; omega)) (fun hc H3 e3 => ?_) (fun hc H3 e3 => nxt (e'.trans e3) rfl (by rw [et2, if_neg (of_decide_eq_false hc)]))
      rw [if_pos (of_decide_eq_true hc)] at et2
      refine q_when (b := decide (M.val f (s : Int) = 0)) (et_is (et_test (ev_op (ev_int (d_call (dom := dmPolyAt) (a_cons (d_var rfl (dp_ex (e'.trans e3) hv)) (a_cons (d_int (ev_var rfl)) a_nil)) ⟨f, (s : Int), by omega, by omega, rfl, rfl⟩)) ev_c (rv_eq rfl))) (by simp)) (fun hc H4 e4 => ?_) (fun hc H4 e4 => ?_)
      · refine s_ret (ev_var rfl) fun H5 e5 => q _ _ (((e'.trans e3).trans e4).trans e5) ?_
        rw [rt _ (by rw [et2, if_pos (of_decide_eq_true hc)])]
        exact .int _
      · rw [if_neg (of_decide_eq_false hc)] at et2
        refine s_when (b := decide (M.val f (-(s : Int)) = 0)) (et_is (et_test (ev_op (ev_int (d_call (dom := dmPolyAt) (a_cons (d_var rfl (dp_ex ((e'.trans e3).trans e4) hv)) (a_cons (d_int (ev_un (ev_var rfl) ru_neg)) a_nil)) ⟨f, -(s : Int), by omega, by omega, rfl, rfl⟩)) ev_c (rv_eq rfl))) (by simp)) (fun hc H5 e5 => ?_) (fun hc H5 e5 => nxt (((e'.trans e3).trans e4).trans e5) rfl (by rw [et2, if_neg (of_decide_eq_false hc)]))
        refine s_ret (ev_un (ev_var rfl) ru_neg) fun H6 e6 => q _ _ ((((e'.trans e3).trans e4).trans e5).trans e6) ?_
        rw [rt _ (by rw [et2, if_pos (of_decide_eq_true hc)])]
        exact .int _
    · rintro σ' H' ⟨y, rfl, e', ei⟩
      rw [show ((n : Int) + 1 - 1).toNat = n by omega, Nat.sub_self] at ei
      refine s_ret ev_c fun H6 e6 => q _ _ (e'.trans e6) ?_
      rw [← ei]
      exact .non
theorem ok_whole_root (T : Tx K mg) : Ok P w K mg base CX0 "whole_root" ["poly"] 2 (sp_whole_root K) := by
  have O_poly_at := ok_poly_at (P := P) (w := w) (base := base) T
  refine ok_ofG T.g_whole_root T.f_whole_root sc_whole_root (fun _ _ _ _ _ _ us hl => match us, hl with | [_], _ => rfl) (fun vs H d ⟨ds, ⟨f, _, _, _, e, _⟩, hd⟩ => by rw [dpAll_len hd, e]; rfl) (fun cdv A outer s H vs Q E d hr ⟨ds, ⟨f, h1, h2, h3, hds, ed⟩, hv⟩ q => ⟨rd_whole_root K, PSs.nox ((pss_cons (ps_set (i := 1) sc_whole_root.nd rfl (Or.inl rfl) (pe_absc T.b_abs (pe_ix ix_tup (pv 0) pe_int (fun _ _ => rfl))))
  (pss_cons (ps_if (pt_cmpR op_eq (pv 1) pe_int (nomark _)) (pss_one (ps_ret pe_int)) pss_nil)
  (pss_cons (ps_for PassesOwn.never rfl (pi_range2 (by rfl) T.b_range (pa_cons pe_int (pa_cons (pe_op op_add (pv 1) pe_int) pa_nil))) (pg_name (i := 2) sc_whole_root.nd rfl (Or.inl rfl))
  (pss_one (ps_if (pt_cmpR op_eq (pe_op op_mod (pv 1) (pv 2)) pe_int (nomark _)) (pss_cons (ps_if (pt_cmpR op_eq (pe_fn O_poly_at (hr.mono (by decide)) (pa_cons (pv 0) (pa_cons (pv 2) pa_nil))) pe_int (nomark _)) (pss_one (ps_ret (pv 2))) pss_nil)
  (pss_one (ps_if (pt_cmpR op_eq (pe_fn O_poly_at (hr.mono (by decide)) (pa_cons (pv 0) (pa_cons (pe_un un_neg (pv 2)) pa_nil))) pe_int (nomark _)) (pss_one (ps_ret (pe_un un_neg (pv 2)))) pss_nil))) pss_nil)))
  (pss_one (ps_ret pe_non)))))), ?_⟩)
  subst ed hds
  obtain ⟨v, rfl, k1⟩ := dpAll_one hv
  exact pu_whole_root h1 h2 h3 k1 q
/-! ### pair_by -/
def isq : Nat → Nat
  | 0 => 0
  | n + 1 => if (isq n + 1) * (isq n + 1) ≤ n + 1 then isq n + 1 else isq n
theorem isq_is : ∀ n : Nat, isq n * isq n ≤ n ∧ n < (isq n + 1) * (isq n + 1)
  | 0 => ⟨Nat.le_refl _, Nat.succ_pos _⟩
  | n + 1 => by
    obtain ⟨h1, h2⟩ := isq_is n
    show (if _ then _ else _) * (if _ then _ else _) ≤ _ ∧ _ < ((if _ then _ else _) + 1) * ((if _ then _ else _) + 1)
    split
    · rename_i c
      refine ⟨c, ?_⟩
      have e : (isq n + 1 + 1) * (isq n + 1 + 1) = (isq n + 1) * (isq n + 1) + 2 * isq n + 3 := by grind
      omega
    · rename_i c
      exact ⟨by omega, by omega⟩
def pairByB (f : List Int) (b d : Int) : Bool :=
  if b ≠ d then decide ((f.getD 1 0 - b * f.getD 3 0).fmod (d - b) = 0) && decide ((f.getD 1 0 - b * f.getD 3 0).fdiv (d - b) * (f.getD 3 0 - (f.getD 1 0 - b * f.getD 3 0).fdiv (d - b)) = f.getD 2 0 - b - d)
  else decide (f.getD 1 0 = b * f.getD 3 0) && (decide (0 ≤ f.getD 3 0 * f.getD 3 0 - 4 * (f.getD 2 0 - b - d)) && decide ((isq (f.getD 3 0 * f.getD 3 0 - 4 * (f.getD 2 0 - b - d)).toNat : Int) * (isq (f.getD 3 0 * f.getD 3 0 - 4 * (f.getD 2 0 - b - d)).toNat : Int) = f.getD 3 0 * f.getD 3 0 - 4 * (f.getD 2 0 - b - d)))
def pairR (b : Bool) : PyData → Prop := fun d => if b = true then ∃ d1 d2, d = .tuple [d1, d2] else d = .none
theorem pairR_t {b : Bool} (h : b = true) (d1 d2 : PyData) : pairR b (.tuple [d1, d2]) := by
  unfold pairR
  rw [if_pos h]
  exact ⟨_, _, rfl⟩
theorem pairR_f {b : Bool} (h : b = false) : pairR b .none := by
  unfold pairR
  rw [h, if_neg (by decide)]
def dmPairBy : List PyData → (PyData → Prop) → Prop := fun ds R => ∃ (f : List Int) (b d : Int), f.length = 5 ∧ (∀ c ∈ f, c.natAbs ≤ 499) ∧ b ≠ 0 ∧ b.natAbs ≤ 499 ∧ f.getD 0 0 = b * d ∧ ds = [dR f, .int b] ∧ R = pairR (pairByB f b d)
abbrev sp_pair_by (K : PySem.W.Frag) : Sp := spR (onD K dmPairBy) K
def rd_pair_by (K : PySem.W.Frag) : TS := (tSeq (tAsg (tOp oDivN (tOp (rIxT K) (tVar 0) (tC (.int 0))) (tVar 1)) (gName 2))
  (tSeq (tAsg (tOp oSub (tOp oSub (tOp (rIxT K) (tVar 0) (tC (.int 2))) (tVar 1)) (tVar 2)) (gName 3))
  (tSeq (tIfS (tTest (tOp rNe (tVar 1) (tVar 2))) (tSeq (tAsg (tOp oSub (tOp (rIxT K) (tVar 0) (tC (.int 1))) (tOp oMul (tVar 1) (tOp (rIxT K) (tVar 0) (tC (.int 3))))) (gName 4))
  (tSeq (tIfS (tTest (tOp rNe (tOp oModN (tVar 4) (tOp oSub (tVar 2) (tVar 1))) (tC (.int 0)))) (tRet (tC .non)) tNext)
  (tSeq (tAsg (tOp oDivN (tVar 4) (tOp oSub (tVar 2) (tVar 1))) (gName 5))
  (tSeq (tIfS (tTest (tOp rNe (tOp oMul (tVar 5) (tOp oSub (tOp (rIxT K) (tVar 0) (tC (.int 3))) (tVar 5))) (tVar 3))) (tRet (tC .non)) tNext)
  (tRet (tTup (tCons (tTup (tCons (tVar 1) (tCons (tVar 5) (tCons (tC (.int 1)) tNil)))) (tCons (tTup (tCons (tVar 2) (tCons (tOp oSub (tOp (rIxT K) (tVar 0) (tC (.int 3))) (tVar 5)) (tCons (tC (.int 1)) tNil)))) tNil)))))))) tNext)
  (tSeq (tIfS (tTest (tOp rNe (tOp (rIxT K) (tVar 0) (tC (.int 1))) (tOp oMul (tVar 1) (tOp (rIxT K) (tVar 0) (tC (.int 3)))))) (tRet (tC .non)) tNext)
  (tSeq (tAsg (tOp oSub (tOp oMul (tOp (rIxT K) (tVar 0) (tC (.int 3))) (tOp (rIxT K) (tVar 0) (tC (.int 3)))) (tOp oMul (tC (.int 4)) (tVar 3))) (gName 6))
  (tSeq (tIfS (tOr (tTest (tOp oLt (tVar 6) (tC (.int 0)))) (tTest (tOp rNe (tOp oMul (tCall (sp_root K) [] E0 (tCons (tVar 6) tNil)) (tCall (sp_root K) [] E0 (tCons (tVar 6) tNil))) (tVar 6)))) (tRet (tC .non)) tNext)
  (tSeq (tAsg (tOp oDiv (tOp oAdd (tOp (rIxT K) (tVar 0) (tC (.int 3))) (tCall (sp_root K) [] E0 (tCons (tVar 6) tNil))) (tC (.int 2))) (gName 5))
  (tRet (tTup (tCons (tTup (tCons (tVar 1) (tCons (tVar 5) (tCons (tC (.int 1)) tNil)))) (tCons (tTup (tCons (tVar 2) (tCons (tOp oSub (tOp (rIxT K) (tVar 0) (tC (.int 3))) (tVar 5)) (tCons (tC (.int 1)) tNil)))) tNil)))))))))))
set_option maxHeartbeats 8000000 in
theorem pu_pair_by {H : Hp} {v : V} {f : List Int} {b d : Int} {Q : VK} (hf : f.length = 5) (hs : ∀ c ∈ f, c.natAbs ≤ 499) (hb : b ≠ 0) (hb2 : b.natAbs ≤ 499) (h0 : f.getD 0 0 = b * d) (hv : Dp K H v (dR f)) (q : ∀ v e H2, Ex H H2 → pairR (pairByB f b d) e → Dp K H2 v e → Q v H2) :
    rd_pair_by K { nx := fun _ H' => Q .non H', rt := Q } (start ["poly", "b", "d", "amid", "top", "a", "square"] [v, .int b]) H := by
  have c0 := getD_small hs 0
  have c1 := getD_small hs 1
  have c2 := getD_small hs 2
  have c3 := getD_small hs 3
  have hd : d.natAbs ≤ 499 := by
    have : (b * d).natAbs ≤ 499 := by rw [← h0]; exact c0
    rw [Int.natAbs_mul] at this
    have : 1 * d.natAbs ≤ b.natAbs * d.natAbs := Nat.mul_le_mul_right _ (by omega)
    omega
  have at_ : ∀ {H1 : Hp} {σ : L2.St} {te : TE} {i : Nat}, Ex H H1 → σ[0]? = some (some v) → Ev te σ H1 (.int (i : Int)) → i < 5 → Ev (tOp (rIxT K) (tVar 0) te) σ H1 (.int (f.getD i 0)) := fun e h1 h2 h3 => ev_row (d_var h1 (dp_ex e hv)) h2 (by omega)
  have eb : pairByB f b d = if b ≠ d then decide ((f.getD 1 0 - b * f.getD 3 0).fmod (d - b) = 0) && decide ((f.getD 1 0 - b * f.getD 3 0).fdiv (d - b) * (f.getD 3 0 - (f.getD 1 0 - b * f.getD 3 0).fdiv (d - b)) = f.getD 2 0 - b - d)
    else decide (f.getD 1 0 = b * f.getD 3 0) && (decide (0 ≤ f.getD 3 0 * f.getD 3 0 - 4 * (f.getD 2 0 - b - d)) && decide ((isq (f.getD 3 0 * f.getD 3 0 - 4 * (f.getD 2 0 - b - d)).toNat : Int) * (isq (f.getD 3 0 * f.getD 3 0 - 4 * (f.getD 2 0 - b - d)).toNat : Int) = f.getD 3 0 * f.getD 3 0 - 4 * (f.getD 2 0 - b - d))) := rfl
  refine q_asg (v := .int d) (ev_is (ev_op (at_ (i := 0) (Ex.refl H) rfl ev_c (by decide)) (ev_var rfl) (rv_I ⟨hb, by omega⟩)) (by rw [h0, Int.mul_fdiv_cancel_left _ hb])) fun H1 e1 => ?_
  refine q_asg (ev_op (ev_op (at_ (i := 2) e1 rfl ev_c (by decide)) (ev_var rfl) rv_I0) (ev_var rfl) rv_I0) fun H2 e2 => ?_
  have e02 := e1.trans e2
  have hm : (b * f.getD 3 0).natAbs ≤ 499 * 499 := by rw [Int.natAbs_mul]; exact Nat.mul_le_mul hb2 c3
  have mb : CMul b (f.getD 3 0) := .inl ⟨by omega, by omega⟩
  refine q_when (b := decide (b ≠ d)) (et_is (et_test (ev_op (ev_var rfl) (ev_var rfl) (rv_ne rfl))) (by simp)) (fun hc H3 e3 => ?_) (fun hc H3 e3 => ?_)
  · have hc := of_decide_eq_true hc
    rw [if_pos hc] at eb
    have e03 := e02.trans e3
    refine q_asg (ev_op (at_ (i := 1) e03 rfl ev_c (by decide)) (ev_op (ev_var rfl) (at_ (i := 3) e03 rfl ev_c (by decide)) (rv_I mb)) rv_I0) fun H4 e4 => ?_
    have ht : (f.getD 1 0 - b * f.getD 3 0).natAbs ≤ 250000 := by omega
    generalize f.getD 1 0 - b * f.getD 3 0 = top at *
    have hdb : d - b ≠ 0 := by omega
    refine q_when (b := decide (top.fmod (d - b) ≠ 0)) (et_is (et_test (ev_op (ev_op (ev_var rfl) (ev_op (ev_var rfl) (ev_var rfl) rv_I0) (rv_I hdb)) ev_c (rv_ne rfl))) (by simp)) (fun hc2 H5 e5 => ?_) (fun hc2 H5 e5 => ?_)
    · have hc2 := of_decide_eq_true hc2
      refine s_ret ev_c fun H6 e6 => q _ .none _ (((e03.trans e4).trans e5).trans e6) (pairR_f ?_) .non
      rw [eb, decide_eq_false hc2]
      rfl
    · have hc2 : top.fmod (d - b) = 0 := by simpa using hc2
      rw [decide_eq_true hc2, Bool.true_and] at eb
      refine q_asg (ev_op (ev_var rfl) (ev_op (ev_var rfl) (ev_var rfl) rv_I0) (rv_I ⟨hdb, by omega⟩)) fun H6 e6 => ?_
      have ha : (top.fdiv (d - b)).natAbs ≤ 250000 := by
        have e := Int.mul_fdiv_add_fmod top (d - b)
        rw [hc2, Int.add_zero] at e
        have : ((d - b) * top.fdiv (d - b)).natAbs ≤ 250000 := by rw [e]; exact ht
        rw [Int.natAbs_mul] at this
        have : 1 * (top.fdiv (d - b)).natAbs ≤ (d - b).natAbs * (top.fdiv (d - b)).natAbs := Nat.mul_le_mul_right _ (by omega)
        omega
      generalize top.fdiv (d - b) = a at *
      have e06 := ((e03.trans e4).trans e5).trans e6
      refine q_when (b := decide (a * (f.getD 3 0 - a) ≠ f.getD 2 0 - b - d)) (et_is (et_test (ev_op (ev_op (ev_var rfl) (ev_op (at_ (i := 3) e06 rfl ev_c (by decide)) (ev_var rfl) rv_I0) (rv_I (.inl ⟨by omega, by omega⟩))) (ev_var rfl) (rv_ne rfl))) (by simp)) (fun hc3 H7 e7 => ?_) (fun hc3 H7 e7 => ?_)
      · have hc3 := of_decide_eq_true hc3
        refine s_ret ev_c fun H8 e8 => q _ .none _ ((e06.trans e7).trans e8) (pairR_f ?_) .non
        rw [eb, decide_eq_false hc3]
      · have hc3 : a * (f.getD 3 0 - a) = f.getD 2 0 - b - d := by simpa using hc3
        refine s_retD (d_tup (K := K) (a_cons (d_tup (a_cons (d_int (ev_var rfl)) (a_cons (d_int (ev_var rfl)) (a_cons (d_int ev_c) a_nil))) (len3 _ _ _)) (a_cons (d_tup (a_cons (d_int (ev_var rfl)) (a_cons (d_int (ev_op (at_ (i := 3) (e06.trans e7) rfl ev_c (by decide)) (ev_var rfl) rv_I0)) (a_cons (d_int ev_c) a_nil))) (len3 _ _ _)) a_nil)) (len2 _ _)) fun u H8 e8 pu => q _ _ _ ((e06.trans e7).trans e8) (pairR_t ?_ _ _) pu
        rw [eb, decide_eq_true hc3]
  · have hc : b = d := by simpa using hc
    rw [if_neg (by simpa using hc)] at eb
    have e03 := e02.trans e3
    refine q_when (b := decide (f.getD 1 0 ≠ b * f.getD 3 0)) (et_is (et_test (ev_op (at_ (i := 1) e03 rfl ev_c (by decide)) (ev_op (ev_var rfl) (at_ (i := 3) e03 rfl ev_c (by decide)) (rv_I mb)) (rv_ne rfl))) (by simp)) (fun hc2 H5 e5 => ?_) (fun hc2 H5 e5 => ?_)
    · have hc2 := of_decide_eq_true hc2
      refine s_ret ev_c fun H6 e6 => q _ .none _ ((e03.trans e5).trans e6) (pairR_f ?_) .non
      rw [eb, decide_eq_false hc2]
      rfl
    · have hc2 : f.getD 1 0 = b * f.getD 3 0 := by simpa using hc2
      rw [decide_eq_true hc2, Bool.true_and] at eb
      have e05 := e03.trans e5
      have h33 : (f.getD 3 0 * f.getD 3 0).natAbs ≤ 499 * 499 := by rw [Int.natAbs_mul]; exact Nat.mul_le_mul c3 c3
      refine q_asg (ev_op (ev_op (at_ (i := 3) e05 rfl ev_c (by decide)) (at_ (i := 3) e05 rfl ev_c (by decide)) (rv_I (.inl ⟨by omega, by omega⟩))) (ev_op ev_c (ev_var rfl) (rv_I (.inl ⟨by omega, by omega⟩))) rv_I0) fun H6 e6 => ?_
      have e06 := e05.trans e6
      have hsq : (f.getD 3 0 * f.getD 3 0 - 4 * (f.getD 2 0 - b - d)).natAbs ≤ 300000 := by omega
      generalize f.getD 3 0 * f.getD 3 0 - 4 * (f.getD 2 0 - b - d) = sq at *
      obtain ⟨i1, i2⟩ := isq_is sq.toNat
      generalize isq sq.toNat = r at *
      have rt : ∀ {H7 : Hp} {σ : L2.St}, 0 ≤ sq → σ[6]? = some (some (.int sq)) → Ev (tCall (sp_root K) [] E0 (tCons (tVar 6) tNil)) σ H7 (.int (r : Int)) := fun h0 h => ev_int (d_call (dom := dmRoot) (a_cons (d_int (ev_var h)) a_nil) ⟨sq, (r : Int), h0, by omega, by omega, by
        have : ((r * r : Nat) : Int) ≤ (sq.toNat : Int) := Int.ofNat_le.mpr i1
        rw [Int.natCast_mul] at this
        omega, by
        have : (sq.toNat : Int) < (((r + 1) * (r + 1) : Nat) : Int) := Int.ofNat_lt.mpr i2
        rw [Int.natCast_mul] at this
        rw [show ((r + 1 : Nat) : Int) = (r : Int) + 1 from rfl] at this
        omega, rfl, rfl⟩)
      have r1 : r ≤ 300000 := by
        have : r * 1 ≤ r * r ∨ r = 0 := by
          rcases Nat.eq_zero_or_pos r with h | h
          · exact .inr h
          · exact .inl (Nat.mul_le_mul_left _ h)
        omega
      refine q_when (b := !(decide (0 ≤ sq) && decide ((r : Int) * (r : Int) = sq))) (et_is (et_or (et_is (b := !decide (0 ≤ sq)) (et_test (ev_op (ev_var rfl) ev_c rv_I0)) (by rw [← decide_not]; exact decide_eq_decide.mpr (by omega))) fun h => et_test (ev_op (ev_op (rt (by simpa using h) rfl) (rt (by simpa using h) rfl) (rv_I (.inl ⟨by omega, by omega⟩))) (ev_var rfl) (rv_ne rfl))) ?_) (fun hc3 H7 e7 => ?_) (fun hc3 H7 e7 => ?_)
      · rw [Bool.not_and]
        congr 1
        simp
      · refine s_ret ev_c fun H8 e8 => q _ .none _ ((e06.trans e7).trans e8) (pairR_f ?_) .non
        rw [eb]
        simpa only [Bool.not_eq_true'] using hc3
      · have hc3 : (decide (0 ≤ sq) && decide ((r : Int) * (r : Int) = sq)) = true := by simpa using hc3
        have hc4 := hc3
        simp only [Bool.and_eq_true, decide_eq_true_eq] at hc4
        refine q_asg (ev_op (ev_op (at_ (i := 3) (e06.trans e7) rfl ev_c (by decide)) (rt hc4.1 rfl) rv_I0) ev_c (rv_I ⟨by omega, by omega⟩)) fun H8 e8 => ?_
        refine s_retD (d_tup (K := K) (a_cons (d_tup (a_cons (d_int (ev_var rfl)) (a_cons (d_int (ev_var rfl)) (a_cons (d_int ev_c) a_nil))) (len3 _ _ _)) (a_cons (d_tup (a_cons (d_int (ev_var rfl)) (a_cons (d_int (ev_op (at_ (i := 3) ((e06.trans e7).trans e8) rfl ev_c (by decide)) (ev_var rfl) rv_I0)) (a_cons (d_int ev_c) a_nil))) (len3 _ _ _)) a_nil)) (len2 _ _)) fun u H9 e9 pu => q _ _ _ (((e06.trans e7).trans e8).trans e9) (pairR_t ?_ _ _) pu
        rw [eb]
        exact hc3
theorem ok_pair_by (T : Tx K mg) : Ok P w K mg base CX0 "pair_by" ["poly", "b"] 2 (sp_pair_by K) := by
  have O_root := ok_root (P := P) (w := w) (base := base) T
  refine ok_ofR T.g_pair_by T.f_pair_by sc_pair_by (fun _ _ _ _ _ _ us hl => match us, hl with | [_, _], _ => rfl) (fun vs H d ⟨ds, ⟨f, p, _, _, _, _, _, _, e, _⟩, hd⟩ => by rw [dpAll_len hd, e]; rfl) (fun cdv A outer s H vs Q E d hr ⟨ds, ⟨f, b, d', h1, h2, h3, h4, h5, hds, ed⟩, hv⟩ q => ⟨rd_pair_by K, PSs.nox ((pss_cons (ps_set (i := 2) sc_pair_by.nd rfl (Or.inl rfl) (pe_op op_fdivN (pe_ix ix_tup (pv 0) pe_int (fun _ _ => rfl)) (pv 1)))
  (pss_cons (ps_set (i := 3) sc_pair_by.nd rfl (Or.inl rfl) (pe_op op_sub (pe_op op_sub (pe_ix ix_tup (pv 0) pe_int (fun _ _ => rfl)) (pv 1)) (pv 2)))
  (pss_cons (ps_if (pt_cmpR op_ne (pv 1) (pv 2) (nomark _)) (pss_cons (ps_set (i := 4) sc_pair_by.nd rfl (Or.inl rfl) (pe_op op_sub (pe_ix ix_tup (pv 0) pe_int (fun _ _ => rfl)) (pe_op op_mul (pv 1) (pe_ix ix_tup (pv 0) pe_int (fun _ _ => rfl)))))
  (pss_cons (ps_if (pt_cmpR op_ne (pe_op op_modN (pv 4) (pe_op op_sub (pv 2) (pv 1))) pe_int (nomark _)) (pss_one (ps_ret pe_non)) pss_nil)
  (pss_cons (ps_set (i := 5) sc_pair_by.nd rfl (Or.inl rfl) (pe_op op_fdivN (pv 4) (pe_op op_sub (pv 2) (pv 1))))
  (pss_cons (ps_if (pt_cmpR op_ne (pe_op op_mul (pv 5) (pe_op op_sub (pe_ix ix_tup (pv 0) pe_int (fun _ _ => rfl)) (pv 5))) (pv 3) (nomark _)) (pss_one (ps_ret pe_non)) pss_nil)
  (pss_one (ps_ret (pe_tup (pa_cons (pe_tup (pa_cons (pv 1) (pa_cons (pv 5) (pa_cons pe_int pa_nil)))) (pa_cons (pe_tup (pa_cons (pv 2) (pa_cons (pe_op op_sub (pe_ix ix_tup (pv 0) pe_int (fun _ _ => rfl)) (pv 5)) (pa_cons pe_int pa_nil)))) pa_nil))))))))) pss_nil)
  (pss_cons (ps_if (pt_cmpR op_ne (pe_ix ix_tup (pv 0) pe_int (fun _ _ => rfl)) (pe_op op_mul (pv 1) (pe_ix ix_tup (pv 0) pe_int (fun _ _ => rfl))) (nomark _)) (pss_one (ps_ret pe_non)) pss_nil)
  (pss_cons (ps_set (i := 6) sc_pair_by.nd rfl (Or.inl rfl) (pe_op op_sub (pe_op op_mul (pe_ix ix_tup (pv 0) pe_int (fun _ _ => rfl)) (pe_ix ix_tup (pv 0) pe_int (fun _ _ => rfl))) (pe_op op_mul pe_int (pv 3))))
  (pss_cons (ps_if (PW.pt (pw_or (pt_cmpR op_lt (pv 6) pe_int (nomark _)) (pw_or1 (pt_cmpR op_ne (pe_op op_mul (pe_fn O_root (hr.mono (by decide)) (pa_cons (pv 6) pa_nil)) (pe_fn O_root (hr.mono (by decide)) (pa_cons (pv 6) pa_nil))) (pv 6) (nomark _))))) (pss_one (ps_ret pe_non)) pss_nil)
  (pss_cons (ps_set (i := 5) sc_pair_by.nd rfl (Or.inl rfl) (pe_op op_fdiv (pe_op op_add (pe_ix ix_tup (pv 0) pe_int (fun _ _ => rfl)) (pe_fn O_root (hr.mono (by decide)) (pa_cons (pv 6) pa_nil))) pe_int))
  (pss_one (ps_ret (pe_tup (pa_cons (pe_tup (pa_cons (pv 1) (pa_cons (pv 5) (pa_cons pe_int pa_nil)))) (pa_cons (pe_tup (pa_cons (pv 2) (pa_cons (pe_op op_sub (pe_ix ix_tup (pv 0) pe_int (fun _ _ => rfl)) (pv 5)) (pa_cons pe_int pa_nil)))) pa_nil))))))))))))), ?_⟩)
  subst ed hds
  obtain ⟨v, u, rfl, k1, k2⟩ := dpAll_two hv
  rw [dp_int k2]
  exact pu_pair_by h1 h2 h3 h4 h5 k1 q
end
end K41
set_option Elab.async false
set_option linter.all false
set_option maxRecDepth 100000
set_option maxHeartbeats 4000000
namespace K41
open PySem PySem.Spec PyProof.Rows L2 Evl
local macro_rules | `(tactic| walk_at "cc") => `(tactic| first
  | assumption
  | (with_reducible show (0 : Int) < _; omega)
  | exact Or.inl ⟨by omega, by omega⟩
  | exact Or.inr ⟨by omega, by omega⟩
  | exact And.intro (by omega) (by omega)
  | (show (0 : Int) < _; omega)
  | omega)
local macro_rules | `(tactic| walk_at "ev") => `(tactic| first
  | assumption
  | with_reducible exact ev_c
  | exact ev_var rfl
  | ((with_reducible refine' ev_op ?ka ?kb rv_I0); (case ka => walk_at "ev"); (case kb => walk_at "ev"))
  | ((with_reducible refine' ev_op ?ka ?kb (rv_I ?kc)); (case ka => walk_at "ev"); (case kb => walk_at "ev"); (case kc => walk_at "cc"))
  | ((with_reducible refine' ev_op (r := rEq) ?ka ?kb ?kd); (case ka => walk_at "ev"); (case kb => walk_at "ev"); (case kd => refine' rv_eq ?kc; rfl))
  | ((with_reducible refine' ev_op (r := rNe) ?ka ?kb ?kd); (case ka => walk_at "ev"); (case kb => walk_at "ev"); (case kd => refine' rv_ne ?kc; rfl))
  | ((with_reducible refine' ev_un ?ka ru_neg); (case ka => walk_at "ev"))
  | ((with_reducible refine' et_test ?ka); (case ka => walk_at "ev")))

section
variable {P : Program} {w : World} {K : PySem.W.Frag} {mg : Str → Option Value} {base : Heap}
/-! ### apart -/
def bothB (f : List Int) (s : Nat) : Bool := decide ((f.getD 0 0).natAbs % s = 0) && (pairByB f (s : Int) (f.getD 0 0 / (s : Int)) || pairByB f (-(s : Int)) (-(f.getD 0 0 / (s : Int))))
def apartB (f : List Int) : Bool := (wholeRoot f).isSome || (decide (f.length = 5) && (List.range (f.getD 0 0).natAbs).any fun i => bothB f (1 + i))
def sp_apart (K : PySem.W.Frag) : Sp := fun vs H Q E => ∃ v f, vs = [v] ∧ Dp K H v (dR f) ∧ 1 ≤ f.length ∧ (goodP f = true → ∀ u d H2, Ex H H2 → pairR (apartB f) d → Dp K H2 u d → Q u H2) ∧ (goodP f = false → Bad K E H)
def rd_apart (K : PySem.W.Frag) (E : XK) : TS := (tSeq (tDrop (tCallS (sp_check K) (fun _ cls d H => E cls d H) (tCons (tVar 0) tNil)))
  (tSeq (tAsg (tCall (sp_whole_root K) [] E0 (tCons (tVar 0) tNil)) (gName 1))
  (tSeq (tIfS (tTest (tOp oNotN (tVar 1) (tC .non))) (tRet (tTup (tCons (tTup (tCons (tUn uNeg (tVar 1)) (tCons (tC (.int 1)) tNil))) (tCons (tOp (rIxT K) (tCall (sp_poly_parted K) [] E0 (tCons (tVar 0) (tCons (tTup (tCons (tUn uNeg (tVar 1)) (tCons (tC (.int 1)) tNil))) tNil))) (tC (.int 0))) tNil)))) tNext)
  (tCut (tIfS (tTest (tOp rEq (tCB (rLenS K) (tCons (tVar 0) tNil)) (tC (.int 5)))) (tSeq (tAsg (tCB rAbs (tCons (tOp (rIxT K) (tVar 0) (tC (.int 0))) tNil)) (gName 2))
  (tFor (iRng2 (tCons (tC (.int 1)) (tCons (tOp oAdd (tVar 2) (tC (.int 1))) tNil))) (gName 3)
  (tIfS (tTest (tOp rEq (tOp oMod (tVar 2) (tVar 3)) (tC (.int 0)))) (tFor (iTup K (tTup (tCons (tVar 3) (tCons (tUn uNeg (tVar 3)) tNil)))) (gName 4)
  (tSeq (tAsg (tCall (sp_pair_by K) [] E0 (tCons (tVar 0) (tCons (tVar 4) tNil))) (gName 5))
  (tIfS (tTest (tOp oNotN (tVar 5) (tC .non))) (tRet (tVar 5)) tNext))) tNext))) tNext)
  (tRet (tC .non))))))
theorem Bad.mono {E : XK} {H H' : Hp} (b : Bad K E H) (e : Ex H H') : Bad K E H' := fun x d H2 h e2 => b x d H2 h (e.trans e2)
set_option maxHeartbeats 8000000 in
theorem pu_apart {H : Hp} {v : V} {f : List Int} {Q : VK} {E : XK} (hf : 1 ≤ f.length) (hv : Dp K H v (dR f)) (q : goodP f = true → ∀ u d H2, Ex H H2 → pairR (apartB f) d → Dp K H2 u d → Q u H2) (b : goodP f = false → Bad K E H) :
    rd_apart K E { nx := fun _ H' => Q .non H', rt := Q } (start ["poly", "at", "last", "size", "b", "found"] [v]) H := by
  refine ⟨v, rfl, ⟨v, f, rfl, hv, hf, fun hg H1 e1 => ?_, b⟩⟩
  have q := q hg
  obtain ⟨g1, g2, g3, gs⟩ := goodP_is hg
  have ea : apartB f = ((wholeRoot f).isSome || (decide (f.length = 5) && (List.range (f.getD 0 0).natAbs).any fun i => bothB f (1 + i))) := rfl
  refine q_asgD (d_call (dom := dmWhole) (a_cons (d_var rfl (dp_ex e1 hv)) a_nil) ⟨f, by omega, by omega, gs, rfl, rfl⟩) fun at_ H2 e2 pat => ?_
  have e02 := e1.trans e2
  cases er : wholeRoot f with
  | some r =>
    rw [er] at pat ea
    rw [dp_int pat]
    have ea : apartB f = true := ea
    refine q_when (b := true) (fun H3 e3 Q' q' => ⟨.int r, rfl, rfl, true, rfl, q' H3 (Ex.refl H3)⟩) (fun _ H3 e3 => ?_) (fun h => by cases h)
    have hr : r.natAbs ≤ 499 := by
      unfold wholeRoot at er
      have c0 := getD_small gs 0
      split at er
      · cases er; decide
      · obtain ⟨i, h1, h2, h3⟩ := firstUp_hit er
        unfold wholeTry at h3
        split at h3
        · split at h3
          · cases h3; omega
          · split at h3
            · cases h3; omega
            · cases h3
        · cases h3
    refine s_retD (d_tup (K := K) (a_cons (d_tup (ds := [.int (-r), .int 1]) (a_cons (d_int (ev_un (ev_var rfl) ru_neg)) (a_cons (d_int ev_c) a_nil)) (len2 _ _)) (a_cons (d_ixT (d_call (dom := dmPolyParted) (d := .tuple [dR (M.polyParted f [-r, 1]).1, dR (M.polyParted f [-r, 1]).2]) (a_cons (d_var rfl (dp_ex (e02.trans e3) hv)) (a_cons (d_tup (ds := [.int (-r), .int 1]) (a_cons (d_int (ev_un (ev_var rfl) ru_neg)) (a_cons (d_int ev_c) a_nil)) (len2 _ _)) a_nil)) ⟨f, [-r, 1], by omega, Nat.le_of_ble_eq_true rfl, Nat.le_of_ble_eq_true rfl, fun c hc => by simp at hc; omega, rfl, rfl⟩) ev_c (atI_nat (j := 0) rfl)) a_nil)) (len2 _ _)) fun u H4 e4 pu => q u _ H4 ((e02.trans e3).trans e4) (pairR_t ea _ _) pu
  | none =>
    rw [er] at pat ea
    rw [dp_none pat]
    have ea : apartB f = (decide (f.length = 5) && (List.range (f.getD 0 0).natAbs).any fun i => bothB f (1 + i)) := ea
    refine q_when (b := false) (fun H3 e3 Q' q' => ⟨.non, rfl, rfl, false, rfl, q' H3 (Ex.refl H3)⟩) (fun h => by cases h) (fun _ H3 e3 => ?_)
    have e03 := e02.trans e3
    refine q_cut (M := fun σ' H' => Ex H H' ∧ apartB f = false) (s_when (b := decide (f.length = 5)) (et_is (et_test (ev_op (ev_lenD (d_var rfl (dp_ex e03 hv)) (.inl rfl)) ev_c (rv_eq rfl))) (by rw [List.length_map]; simp; omega)) (fun hc H4 e4 => ?_) (fun hc H4 e4 => ⟨e03.trans e4, by rw [ea, hc]; rfl⟩)) ?_
    · rw [hc, Bool.true_and] at ea
      have hc := of_decide_eq_true hc
      have e04 := e03.trans e4
      have c0 := getD_small gs 0
      have eB : ∀ s, bothB f s = (decide ((f.getD 0 0).natAbs % s = 0) && (pairByB f (s : Int) (f.getD 0 0 / (s : Int)) || pairByB f (-(s : Int)) (-(f.getD 0 0 / (s : Int))))) := fun s => rfl
      refine q_asg (ev_abs (ev_row (i := 0) (d_var rfl (dp_ex e04 hv)) ev_c (by omega))) fun H5 e5 => ?_
      have hdv : ∀ s : Nat, (f.getD 0 0).natAbs % s = 0 → f.getD 0 0 = (s : Int) * (f.getD 0 0 / (s : Int)) := fun s h => by
        have : (s : Int) ∣ f.getD 0 0 := Int.ofNat_dvd_left.mpr (Nat.dvd_of_mod_eq_zero h)
        exact (Int.mul_ediv_cancel' this).symm
      have hf0 : f.getD 0 0 = f.getD 0 0 := rfl
      generalize en : (f.getD 0 0).natAbs = n at *
      have e05 := e04.trans e5
      refine s_forR2 (lo := 1) (n := (n : Int) + 1) (ea_cons ev_c (ea_cons (ev_op (ev_var rfl) ev_c rv_I0) ea_nil)) ⟨by omega, by omega, by omega, by omega⟩
        (fun i σ' H' => (∃ y1 y2 y3, σ' = [some v, some .non, some (.int (n : Int)), y1, y2, y3]) ∧ Ex H H' ∧ ((List.range i).any fun i => bothB f (1 + i)) = false) (fun H6 e6 => ⟨⟨none, none, none, rfl⟩, e05.trans e6, rfl⟩) ?_ ?_
      · rintro i σ' H' hi ⟨⟨y1, y2, y3, rfl⟩, e', no⟩
        have hi : i < n := by omega
        have esz : (1 : Int) + (i : Int) = ((1 + i : Nat) : Int) := by omega
        rw [esz]
        have enx : ((List.range (i + 1)).any fun i => bothB f (1 + i)) = bothB f (1 + i) := by
          rw [List.range_succ, List.any_append, no]
          simp
        have hit : bothB f (1 + i) = true → apartB f = true := fun h => by
          rw [ea]
          exact List.any_eq_true.mpr ⟨i, List.mem_range.mpr hi, h⟩
        rw [enx]
        have hs1 : 0 < 1 + i := by omega
        have hs2 : 1 + i ≤ 499 := by omega
        generalize 1 + i = s at *
        have eB := eB s
        have hdv := hdv s
        show tIfS _ _ _ _ _ _
        refine s_when (b := decide (n % s = 0)) (et_is (et_test (ev_op (ev_mod (ev_var rfl) (ev_var rfl) hs1) ev_c (rv_eq rfl))) (by simp; omega)) (fun hc3 H6 e6 => ?_) (fun hc3 H6 e6 => ⟨⟨_, _, _, rfl⟩, e'.trans e6, by rw [eB, hc3]; rfl⟩)
        rw [hc3, Bool.true_and] at eB
        have hdv := hdv (of_decide_eq_true hc3)
        generalize f.getD 0 0 / (s : Int) = d at *
        have e06 := e'.trans e6
        refine s_forTN (xds := [.int (s : Int), .int (-(s : Int))]) (d_tup (K := K) (a_cons (d_int (ev_var rfl)) (a_cons (d_int (ev_un (ev_var rfl) ru_neg)) a_nil)) (len2 _ _))
          (fun H7 j σ' H' => (∃ y2 y3, σ' = [some v, some .non, some (.int (n : Int)), some (.int (s : Int)), y2, y3]) ∧ Ex H7 H' ∧ Ex H H' ∧ (1 ≤ j → pairByB f (s : Int) d = false) ∧ (2 ≤ j → pairByB f (-(s : Int)) (-d) = false))
          (fun H7 e7 => ⟨⟨_, _, rfl⟩, Ex.refl _, e06.trans e7, fun h => by omega, fun h => by omega⟩) (fun _ _ _ _ h => h.2.1) ?_ (fun H7 σ' H' _ h => ⟨⟨_, h.1.choose, h.1.choose_spec.choose, h.1.choose_spec.choose_spec⟩, h.2.2.1, by rw [eB, h.2.2.2.1 (by simp), h.2.2.2.2 (by simp)]; rfl⟩)
        rintro H7 j x dx σ' H8 e7 hdx pdx ⟨⟨y2, y3, rfl⟩, e8, e08, no1, no2⟩
        have key : ∃ b d' : Int, dx = .int b ∧ b ≠ 0 ∧ b.natAbs ≤ 499 ∧ f.getD 0 0 = b * d' ∧ (pairByB f b d' = true → bothB f s = true) ∧ (pairByB f b d' = false → (1 ≤ j + 1 → pairByB f (s : Int) d = false) ∧ (2 ≤ j + 1 → pairByB f (-(s : Int)) (-d) = false)) := by
          match j, hdx with
          | 0, hdx =>
            cases hdx
            exact ⟨(s : Int), d, rfl, by omega, by omega, hdv, fun h => by rw [eB, h]; rfl, fun h => ⟨fun _ => h, fun h => by omega⟩⟩
          | 1, hdx =>
            cases hdx
            exact ⟨-(s : Int), -d, rfl, by omega, by omega, by rw [hdv]; exact (Int.neg_mul_neg _ _).symm, fun h => by rw [eB, h, Bool.or_true], fun h => ⟨fun _ => no1 (by omega), fun _ => h⟩⟩
          | j + 2, hdx => exact absurd (List.getElem?_eq_some_iff.mp hdx).1 (by simp)
        obtain ⟨b, d', rfl, hb, hb2, hbd, hy, hn⟩ := key
        rw [dp_int pdx]
        show tSeq _ _ _ _ _
        refine q_asgP (r_call (K := K) (dom := dmPairBy) (R := pairR (pairByB f b d')) (a_cons (d_var rfl (dp_ex e08 hv)) (a_cons (d_int (ev_var rfl)) a_nil)) ⟨f, b, d', hc, gs, hb, hb2, hbd, rfl, rfl⟩) fun u H9 e9 ⟨du, hdu, pu⟩ => ?_
        show tIfS _ _ _ _ [some v, some .non, some (.int (n : Int)), some (.int (s : Int)), some (.int b), some u] H9
        unfold pairR at hdu
        cases ep : pairByB f b d' with
        | true =>
          rw [ep, if_pos rfl] at hdu
          obtain ⟨d1, d2, rfl⟩ := hdu
          obtain ⟨a, xs, rfl, _⟩ := dp_tup pu
          refine s_when (b := true) (fun H3 e3 Q' q' => ⟨.ref a, rfl, rfl, true, rfl, q' H3 (Ex.refl H3)⟩) (fun _ H10 e10 => ?_) (fun h => by cases h)
          exact s_ret (ev_var rfl) fun H11 e11 => q _ _ H11 (((e08.trans e9).trans e10).trans e11) (pairR_t (hit (hy ep)) _ _) (dp_ex (e10.trans e11) pu)
        | false =>
          rw [ep, if_neg (by decide)] at hdu
          rw [hdu] at pu
          rw [dp_none pu]
          refine s_when (b := false) (fun H3 e3 Q' q' => ⟨.non, rfl, rfl, false, rfl, q' H3 (Ex.refl H3)⟩) (fun h => by cases h) (fun _ H10 e10 => ?_)
          exact ⟨⟨_, _, rfl⟩, (e8.trans e9).trans e10, (e08.trans e9).trans e10, hn ep⟩
      · rintro σ' H' ⟨_, e', no⟩
        rw [show ((n : Int) + 1 - 1).toNat = n by omega] at no
        exact ⟨e', by rw [ea, no]⟩
    · rintro σ' H4 ⟨e4, no⟩
      exact s_ret ev_c fun H5 e5 => q _ .none H5 (e4.trans e5) (pairR_f no) .non
theorem ok_apart (T : Tx K mg) : Ok P w K mg base (L2.CX P w) "apart" ["poly"] 3 (sp_apart K) := by
  have O_check := ok_check (P := P) (w := w) (base := base) T
  have O_whole_root := ok_whole_root (P := P) (w := w) (base := base) T
  have O_pair_by := ok_pair_by (P := P) (w := w) (base := base) T
  have O_poly_parted := ok_poly_parted (P := P) (w := w) (base := base) T
  refine ok_of T.g_apart T.f_apart sc_apart (fun _ _ _ _ _ _ us hl => match us, hl with | [_], _ => rfl) (fun vs H Q E ⟨v, f, h, _⟩ => by rw [h]; rfl) (fun cdv A outer s H vs Q E hr ⟨v, f, hvs, hv, hf, q, b⟩ => ⟨rd_apart K E, (pss_cons (ps_expr (pe_fnS O_check (hr.mono (by decide)) (fun σ => passAt (takes_of rfl rfl rfl rfl) σ) (pa_cons (pv 0) pa_nil)))
  (pss_cons (ps_set (i := 1) sc_apart.nd rfl (Or.inl rfl) (pe_fn O_whole_root (hr.mono (by decide)) (pa_cons (pv 0) pa_nil)))
  (pss_cons (ps_if (pt_cmpR op_notN (pv 1) pe_non (nomark _)) (pss_one (ps_ret (pe_tup (pa_cons (pe_tup (pa_cons (pe_un un_neg (pv 1)) (pa_cons pe_int pa_nil))) (pa_cons (pe_ix ix_tup (pe_fn O_poly_parted (hr.mono (by decide)) (pa_cons (pv 0) (pa_cons (pe_tup (pa_cons (pe_un un_neg (pv 1)) (pa_cons pe_int pa_nil))) pa_nil))) pe_int (fun _ _ => rfl)) pa_nil))))) pss_nil)
  (pss_cut (ps_if (pt_cmpR op_eq (pe_len T.b_len (pv 0)) pe_int (nomark _)) (pss_cons (ps_set (i := 2) sc_apart.nd rfl (Or.inl rfl) (pe_absc T.b_abs (pe_ix ix_tup (pv 0) pe_int (fun _ _ => rfl))))
  (pss_one (ps_for (passes_of rfl) rfl (pi_range2 (by rfl) T.b_range (pa_cons pe_int (pa_cons (pe_op op_add (pv 2) pe_int) pa_nil))) (pg_name (i := 3) sc_apart.nd rfl (Or.inl rfl))
  (pss_one (ps_if (pt_cmpR op_eq (pe_op op_mod (pv 2) (pv 3)) pe_int (nomark _)) (pss_one (ps_for (passes_of rfl) rfl (pi_tup (pe_tup (pa_cons (pv 3) (pa_cons (pe_un un_neg (pv 3)) pa_nil)))) (pg_name (i := 4) sc_apart.nd rfl (Or.inl rfl))
  (pss_cons (ps_set (i := 5) sc_apart.nd rfl (Or.inl rfl) (pe_fn O_pair_by (hr.mono (by decide)) (pa_cons (pv 0) (pa_cons (pv 4) pa_nil))))
  (pss_one (ps_if (pt_cmpR op_notN (pv 5) pe_non (nomark _)) (pss_one (ps_ret (pv 5))) pss_nil))))) pss_nil))))) pss_nil)
  (pss_one (ps_ret pe_non)))))), ?_⟩)
  subst hvs
  exact pu_apart hf hv q b
/-! ### measure -/
def dmMeasure : List PyData → PyData → Prop := fun ds d => ∃ f : List Int, goodP f = true ∧ ds = [dR f] ∧ d = .int (M.measure f)
abbrev sp_measure (K : PySem.W.Frag) : Sp := spG (onD K dmMeasure) K
def rd_measure (K : PySem.W.Frag) (sp_det : PySem.W.Frag → Sp) : TS := (tSeq (tDrop (tCall (sp_check K) [] E0 (tCons (tVar 0) tNil)))
  (tSeq (tAsg (tOp oSub (tCB (rLenS K) (tCons (tVar 0) tNil)) (tC (.int 1))) (gName 1))
  (tSeq (tAsg (tCall (sp_power_sums K) [] E0 (tCons (tVar 0) (tCons (tOp oSub (tOp oMul (tC (.int 2)) (tVar 1)) (tC (.int 1))) tNil))) (gName 2))
  (tSeq (tAsg (tLst tNil) (gName 3))
  (tSeq (tFor (iRng1 (tCons (tVar 1) tNil)) (gName 4)
  (tDrop (tBM K "list" rAppend (tVar 3) (tCons (tCB (rTupleS K) (tCons (tLc (iRng1 (tCons (tVar 1) tNil)) (gName 5) tYes (tOp (rIxL K) (tVar 2) (tOp oAdd (tVar 4) (tVar 5))) [5]) tNil)) tNil))))
  (tRet (tCall (sp_det K) [] E0 (tCons (tCB (rTupleS K) (tCons (tVar 3) tNil)) tNil))))))))
theorem pu_measure {H : Hp} {v : V} {f : List Int} {Q : VK} (hg : goodP f = true) (hv : Dp K H v (dR f)) (q : ∀ v H2, Ex H H2 → Dp K H2 v (.int (M.measure f)) → Q v H2) :
    rd_measure K (fun K => sp_detN K 4) { nx := fun _ H' => Q .non H', rt := Q } (start ["poly", "degree", "sums", "rows", "i", "j"] [v]) H := by
  obtain ⟨g1, g2, g3, gs⟩ := goodP_is hg
  obtain ⟨d, hd⟩ : ∃ d, f.length = d + 1 := ⟨f.length - 1, by omega⟩
  refine ⟨v, rfl, ⟨v, f, rfl, hv, by omega, fun _ H1 e1 => ?_, fun h => by rw [hg] at h; cases h⟩⟩
  have em : M.measure f = M.det ((List.range d).map fun i => (List.range d).map fun j => (M.powTo f d (2 * d - 2)).getD (i + j) 0) := by
    unfold M.measure
    rw [show f.length - 1 = d by omega]
  have hsm := powTo_small (f := f) (d := d) gs (by omega) (2 * d - 2)
  have hlen := powTo_len f d (2 * d - 2)
  have hB : powB (2 * d - 2) < 2 ^ 64 := Nat.lt_of_le_of_lt (powB_mono (show 2 * d - 2 ≤ 6 by omega)) (by decide)
  refine q_asg (v := .int (d : Int)) (ev_is (ev_op (ev_lenD (d_var rfl (dp_ex e1 hv)) (.inl rfl)) ev_c rv_I0) (by rw [List.length_map, hd]; simp)) fun H2 e2 => ?_
  refine q_asgN (n_call (dom := dmPower) (ds := (M.powTo f d (2 * d - 2)).map .int) (a_cons (d_var rfl (dp_ex (e1.trans e2) hv)) (a_cons (d_int (ev_op (ev_op ev_c (ev_var rfl) (rv_I (.inl ⟨by omega, by omega⟩))) ev_c rv_I0)) a_nil)) ⟨f, 2 * d - 2, by omega, by omega, gs, by omega, by rw [show (2 : Int) * (d : Int) - 1 = ((2 * d - 2 : Nat) : Int) + 1 by omega], by rw [show f.length - 1 = d by omega]⟩) fun sp xs H3 ns e3 hsp hxs => ?_
  rw [dpAll_intsV hxs] at hsp
  generalize M.powTo f d (2 * d - 2) = sums at *
  have e03 := (e1.trans e2).trans e3
  have ns0 : H sp = none := fresh_back (e1.trans e2) ns
  refine q_asgL (el_lst (vs := []) ea_nil (Nat.le_of_ble_eq_true rfl)) fun rp H4 nr e4 hrp => ?_
  have nr0 : H rp = none := fresh_back e03 nr
  have nsr : sp ≠ rp := fun e => by rw [e, nr] at hsp; cases hsp
  refine q_forR1 (n := (d : Int)) (ea_cons (ev_var rfl) ea_nil) ⟨by omega, by omega⟩
    (fun i σ' H' => ∃ y zs, σ' = [some v, some (.int (d : Int)), some (.ref sp), some (.ref rp), y, none] ∧ Ex H H' ∧ H' sp = some (.lst (sums.map V.int)) ∧ H' rp = some (.lst zs) ∧ DpAll K H' zs (((List.range i).map fun i => (List.range d).map fun j => sums.getD (i + j) 0).map dR))
    (fun H5 e5 => ⟨none, [], rfl, (e03.trans e4).trans e5, (e4.trans e5) _ _ hsp, e5 _ _ hrp, .nil⟩) ?_ ?_
  · rintro i σ' H' hi ⟨y, zs, rfl, e', hsp', hrp', hz⟩
    have hi : i < d := by omega
    show tDrop _ _ [some v, some (.int (d : Int)), some (.ref sp), some (.ref rp), some (.int (i : Int)), none] _
    refine s_appD hrp' (ev_var rfl) (d_tuple (K := K) (d := .list (((List.range d).map fun j => sums.getD (i + j) 0).map PyData.int)) (d_ofN (n_cast (n_lcR1 (K := K) (n := d) (fun k => ((List.range k).map fun j => sums.getD (i + j) 0).map PyData.int) (ea_cons (ev_var rfl) ea_nil) (by omega) rfl (fun k hk => ⟨by rw [List.length_map, List.length_map, List.length_range]; omega, tOs_ints _⟩) (fun x => rfl) (fun k H1 e1 hk => ⟨true, t_yes, fun _ => ⟨.int (sums.getD (i + k) 0), by simp [tO], d_int (ev_lst (i := i + k) (e1 _ _ hsp') (ev_var rfl) (ev_is (ev_op (ev_var rfl) (ev_var rfl) rv_I0) rfl) (by rw [hlen]; omega)), by
        rw [List.range_succ, List.map_append, List.map_append]
        rfl⟩, fun h => by cases h⟩)) rfl)) (.inr rfl)) (by rw [dpAll_len hz, List.length_map, List.length_map, List.length_range]; omega) fun u H5 e5 pu => ?_
    have k5 : KT K H5 (upd H5 rp (.lst (zs ++ [u]))) := KT.updL (e5 _ _ hrp')
    refine ⟨some (.int (i : Int)), _, rfl, Ex.mut (e'.trans e5) nr0, ?_, upd_same, ?_⟩
    · rw [upd_ne nsr]; exact e5 _ _ hsp'
    · rw [List.range_succ, List.map_append, List.map_append]
      exact dpAll_app (dpAll_kt k5 (tOs_all fun x hx => by obtain ⟨l, _, rfl⟩ := List.mem_map.mp hx; exact tO_R l) (dpAll_ex e5 hz)) (.cons (dp_kt (d := dR ((List.range d).map fun j => sums.getD (i + j) 0)) k5 (tO_R _) pu) .nil)
  · rintro σ' H' ⟨y, zs, rfl, e', hsp', hrp', hz⟩
    rw [Int.toNat_natCast] at hz
    refine s_retD (d_call (dom := dmDet 4) (d := .int (M.measure f)) (a_cons (d_tuple (d_ev (ev_var rfl) (.lst (sq_of hrp') hz)) (.inr rfl)) a_nil) ⟨_, d, by omega, by omega, by decide, ⟨by rw [List.length_map, List.length_range], fun r hr => ?_⟩, .inl rfl, by rw [em]⟩) fun u H5 e5 pu => q u H5 (e'.trans e5) pu
    obtain ⟨i, _, rfl⟩ := List.mem_map.mp hr
    refine ⟨by rw [List.length_map, List.length_range], fun c hc => ?_⟩
    obtain ⟨j, _, rfl⟩ := List.mem_map.mp hc
    refine Nat.lt_of_le_of_lt (Nat.le_trans ?_ hsm) hB
    rcases Nat.lt_or_ge (i + j) sums.length with h | h
    · rw [getD_at h]; exact absSum_mem (List.getElem_mem _)
    · rw [getD_none h]; exact Nat.zero_le _
theorem ok_measure (T : Tx K mg) : Ok P w K mg base CX0 "measure" ["poly"] 6 (sp_measure K) := by
  have O_check_poly := ok_check (P := P) (w := w) (base := base) T
  have O_power_sums := ok_power_sums (P := P) (w := w) (base := base) T
  have O_det := ok_det (P := P) (w := w) (base := base) T 4 (by decide)
  refine ok_ofG T.g_measure T.f_measure sc_measure (fun _ _ _ _ _ _ us hl => match us, hl with | [_], _ => rfl) (fun vs H d ⟨ds, ⟨f, _, e, _⟩, hd⟩ => by rw [dpAll_len hd, e]; rfl) (fun cdv A outer s H vs Q E d hr ⟨ds, ⟨f, h1, hds, ed⟩, hv⟩ q => ⟨rd_measure K (fun K => sp_detN K 4), PSs.nox ((pss_cons (ps_expr (pe_fnL O_check_poly (hr.mono (by decide)) (pa_cons (pv 0) pa_nil)))
  (pss_cons (ps_set (i := 1) sc_measure.nd rfl (Or.inl rfl) (pe_op op_sub (pe_len T.b_len (pv 0)) pe_int))
  (pss_cons (ps_set (i := 2) sc_measure.nd rfl (Or.inr rfl) (pe_fn O_power_sums (hr.mono (by decide)) (pa_cons (pv 0) (pa_cons (pe_op op_sub (pe_op op_mul pe_int (pv 1)) pe_int) pa_nil))))
  (pss_cons (ps_set (i := 3) sc_measure.nd rfl (Or.inl rfl) (pe_lst pa_nil))
  (pss_cons (ps_for PassesOwn.never rfl (pi_range1 (by rfl) T.b_range (pa_cons (pv 1) pa_nil)) (pg_name (i := 4) sc_measure.nd rfl (Or.inr rfl))
  (pss_one (ps_expr (pe_bm PySem.F.plainAttrs_list PySem.F.slot_list_append PySem.F.type_list_append mt_append (pv 3) (pa_cons (pe_tuplec T.b_tuple (pe_lc (own := [("j", 5)]) (g := gName 5) (tt := tYes) rfl sc_measure.nd (pi_range1 (by rfl) T.b_range (pa_cons (pv 1) pa_nil)) (blkOk_by (own := [("j", 5)]) (N := ["poly", "degree", "sums", "rows", "i", "j"]) (sc := defScope s_measure) (by decide +kernel)) (fun _ _ _ _ _ => (pg_name (i := 5) sc_measure.nd rfl (Or.inl rfl))) (fun _ _ _ _ _ => pts_nil) (fun _ _ _ _ _ => (pe_ix ix_list (pv 2) (pe_op op_add (pv 4) (pv 5)) (fun _ _ => rfl))))) pa_nil)))))
  (pss_one (ps_ret (pe_fn O_det (hr.mono (by decide)) (pa_cons (pe_tuplec T.b_tuple (pv 3)) pa_nil)))))))))), ?_⟩)
  subst ed hds
  obtain ⟨v, rfl, k1⟩ := dpAll_one hv
  exact pu_measure h1 k1 q
end
end K41
set_option Elab.async false
set_option linter.all false
set_option maxRecDepth 100000
set_option maxHeartbeats 4000000
namespace K41
open PySem PySem.Spec PyProof.Rows L2 Evl
local macro_rules | `(tactic| walk_at "cc") => `(tactic| first
  | assumption
  | (with_reducible show (0 : Int) < _; omega)
  | exact Or.inl ⟨by omega, by omega⟩
  | exact Or.inr ⟨by omega, by omega⟩
  | exact And.intro (by omega) (by omega)
  | (show (0 : Int) < _; omega)
  | omega)
local macro_rules | `(tactic| walk_at "ev") => `(tactic| first
  | assumption
  | with_reducible exact ev_c
  | exact ev_var rfl
  | ((with_reducible refine' ev_op ?ka ?kb rv_I0); (case ka => walk_at "ev"); (case kb => walk_at "ev"))
  | ((with_reducible refine' ev_op ?ka ?kb (rv_I ?kc)); (case ka => walk_at "ev"); (case kb => walk_at "ev"); (case kc => walk_at "cc"))
  | ((with_reducible refine' ev_op (r := rEq) ?ka ?kb ?kd); (case ka => walk_at "ev"); (case kb => walk_at "ev"); (case kd => refine' rv_eq ?kc; rfl))
  | ((with_reducible refine' ev_op (r := rNe) ?ka ?kb ?kd); (case ka => walk_at "ev"); (case kb => walk_at "ev"); (case kd => refine' rv_ne ?kc; rfl))
  | ((with_reducible refine' ev_un ?ka ru_neg); (case ka => walk_at "ev"))
  | ((with_reducible refine' et_test ?ka); (case ka => walk_at "ev")))

section
variable {P : Program} {w : World} {K : PySem.W.Frag} {mg : Str → Option Value} {base : Heap}
theorem mt_of {CX : CXT} {nm q : Str} {fa : Addr} {st : Stmt} {N ps : List Str} {k : Nat} {sp : Sp} (F : ∃ fd, FunD K nm q (defArgs st) (defBody st) (defScope st) [] [] fa fd) (S : FnScope N ps (defScope st))
    (hb : ∀ (kV doc pm : Value) (an : Option Addr) (cdv ct : Value) (us : List Value), us.length = ps.length → bindArgs (PySem.W.fnOf nm q (defArgs st) (defBody st) (defScope st) .none kV doc pm an cdv ct) ⟨us, []⟩ = pure (ps.zip us))
    (len : ∀ vs H Q E, sp vs H Q E → vs.length = ps.length)
    (hbody : ∀ (cdv : Value) (A : Around) (outer : List Env) (s : Shared) (H : Hp) (vs : List V) (Q : VK) (E : XK), Room k (A.deeper (envOfC q (defScope st) s.heap.objs.size fa cdv)) → sp vs H Q E →
      ∃ t, PSs (cxOf CX P w K mg base N q (defScope st) fa cdv A outer s H E) (defBody st) t ∧ t { nx := fun _ H' => Q .non H', rt := Q } (start N vs) H) :
    ∃ fd, Binds K fd ps [] ∧ FnOk P w K mg base CX (k + 1) fa fd ps sp := by
  obtain ⟨fd, F⟩ := F
  exact ⟨fd, F.bindsN hb, F.ok S len hbody⟩
/-! ### the errors with two fields -/
def sp_two (C : Addr) : Sp := fun vs H Q E => ∃ a l r, vs = [.ref a, l, r] ∧ H a = some (exo a C none) ∧
  ∀ d fs H2, H d = none → d ≠ a → H2 a = some (exo a C (some d)) → H2 d = some (exd d fs) → (∀ b, b ≠ a → b ≠ d → H2 b = H b) → Q .non H2
theorem more_is (T : Tx K mg) : (OexC K (He.ga K "FallsApart") ∧ PySem.W.findIn K (.ref (He.ga K "FallsApart")) "__init__" = some (some (.ref (He.ma K (He.ga K "FallsApart") "__init__"))) ∧ PySem.W.typeIn K (.ref (He.ma K (He.ga K "FallsApart") "__init__")) = some (.type "function") ∧ PySem.W.findIn K (.ref (He.ga K "FallsApart")) "left" = some none ∧ PySem.W.findIn K (.ref (He.ga K "FallsApart")) "right" = some none) ∧
    (OexC K (He.ga K "NotWhole") ∧ PySem.W.findIn K (.ref (He.ga K "NotWhole")) "__init__" = some (some (.ref (He.ma K (He.ga K "NotWhole") "__init__"))) ∧ PySem.W.typeIn K (.ref (He.ma K (He.ga K "NotWhole") "__init__")) = some (.type "function") ∧ PySem.W.findIn K (.ref (He.ga K "NotWhole")) "prime" = some none ∧ PySem.W.findIn K (.ref (He.ga K "NotWhole")) "number" = some none) := by
  have h := T.more.1
  unfold ex1 at h
  obtain ⟨h1, h⟩ := He.ba h
  obtain ⟨h2, h⟩ := He.ba h
  obtain ⟨h3, h⟩ := He.ba h
  obtain ⟨h4, h⟩ := He.ba h
  obtain ⟨h5, h⟩ := He.ba h
  obtain ⟨h6, h⟩ := He.ba h
  obtain ⟨h7, h8⟩ := He.ba h
  obtain ⟨h31, h32⟩ := He.ba h3
  obtain ⟨h41, h42⟩ := He.ba h4
  exact ⟨⟨oex_of h1, of_decide_eq_true h31, of_decide_eq_true h32, of_decide_eq_true h5, of_decide_eq_true h6⟩, ⟨oex_of h2, of_decide_eq_true h41, of_decide_eq_true h42, of_decide_eq_true h7, of_decide_eq_true h8⟩⟩
theorem pu_two {C : Addr} {f g : Str} {H : Hp} {vs : List V} {Q : VK} {E : XK} (O : OexC K C) (nf : PySem.W.findIn K (.ref C) f = some none) (ng : PySem.W.findIn K (.ref C) g = some none) (h : sp_two C vs H Q E) {N : List Str} (hN : N.length = 3) :
    tSeq (tOst K f (tVar 0) (tVar 1)) (tOst K g (tVar 0) (tVar 2)) { nx := fun _ H' => Q .non H', rt := Q } (start N vs) H := by
  obtain ⟨a, l, r, rfl, ha, q⟩ := h
  match N, hN with
  | [_, _, _], _ =>
    refine ⟨l, rfl, .ref a, rfl, a, C, rfl, O, nf, .inl ⟨ha, fun d hd ne => ?_⟩⟩
    refine ⟨r, rfl, .ref a, rfl, a, C, rfl, O, ng, .inr ⟨d, _, upd_same, by rw [upd_ne ne]; exact upd_same, Nat.le_of_ble_eq_true rfl, ?_⟩⟩
    refine q d _ _ hd ne (by rw [upd_ne (Ne.symm ne)]; exact upd_same) upd_same fun b hb hbd => ?_
    rw [upd_ne hbd, upd_ne hb, upd_ne hbd]
theorem ok_falls (T : Tx K mg) : ∃ fd, Binds K fd ["self", "left", "right"] [] ∧ FnOk P w K mg base CX0 1 (He.ma K (He.ga K "FallsApart") "__init__") fd ["self", "left", "right"] (sp_two (He.ga K "FallsApart")) := by
  obtain ⟨⟨O, _, _, n1, n2⟩, _⟩ := more_is T
  exact mt_of T.f_FallsApartinit sc_FallsApartinit (fun _ _ _ _ _ _ us hl => match us, hl with | [_, _, _], _ => rfl) (fun vs H Q E ⟨a, l, r, h, _⟩ => by rw [h]; rfl) (fun cdv A outer s H vs Q E hr h => ⟨_, PSs.nox (pss_cons (ps_ost (pv 0) (pv 1)) (pss_one (ps_ost (pv 0) (pv 2)))), pu_two O n1 n2 h rfl⟩)
theorem ok_notwhole (T : Tx K mg) : ∃ fd, Binds K fd ["self", "prime", "number"] [] ∧ FnOk P w K mg base CX0 1 (He.ma K (He.ga K "NotWhole") "__init__") fd ["self", "prime", "number"] (sp_two (He.ga K "NotWhole")) := by
  obtain ⟨_, ⟨O, _, _, n1, n2⟩⟩ := more_is T
  exact mt_of T.f_NotWholeinit sc_NotWholeinit (fun _ _ _ _ _ _ us hl => match us, hl with | [_, _, _], _ => rfl) (fun vs H Q E ⟨a, l, r, h, _⟩ => by rw [h]; rfl) (fun cdv A outer s H vs Q E hr h => ⟨_, PSs.nox (pss_cons (ps_ost (pv 0) (pv 1)) (pss_one (ps_ost (pv 0) (pv 2)))), pu_two O n1 n2 h rfl⟩)
/-! ### Ring -/
def ringB (f : List Int) : Bool := goodP f && (!apartB f && (decide ((M.measure f).natAbs ≤ 39999) && !outB f (M.measure f)))
/-- the same but at x -/
def Exx (x : Addr) (H H' : Hp) : Prop := ∀ a u, a ≠ x → H a = some u → H' a = some u
def ringF (v : V) (f : List Int) : List (Str × V) := [("poly", v), ("degree", .int ((f.length : Int) - 1)), ("measure", .int (M.measure f))]
def sp_Ring (K : PySem.W.Frag) : Sp := fun vs H Q E => ∃ x dx v f, vs = [.ref x, v] ∧ Dp K H v (dR f) ∧ 1 ≤ f.length ∧ H x = some (.ins (He.ga K "Ring") dx []) ∧
  (ringB f = true → ∀ H2, Exx x H H2 → H2 x = some (.ins (He.ga K "Ring") dx (ringF v f)) → Q .non H2) ∧ (ringB f = false → Bad K E H)
def rd_Ring (K : PySem.W.Frag) (E : XK) : TS := (tSeq (tAsg (tCallS (sp_apart K) (fun _ cls d H => E cls d H) (tCons (tVar 1) tNil)) (gName 2))
  (tSeq (tIfS (tTest (tOp oNotN (tVar 2) (tC .non))) (fun _ σ H => tMkO (He.ga K "FallsApart") (sp_two (He.ga K "FallsApart")) [] (tCons (tOp (rIxT K) (tVar 2) (tC (.int 0))) (tCons (tOp (rIxT K) (tVar 2) (tC (.int 1))) tNil)) σ H fun cls d H => E cls d H) tNext)
  (tSeq (tAsg (tCall (sp_measure K) [] E0 (tCons (tVar 1) tNil)) (gName 3))
  (tSeq (tIfS (tTest (tOp oGt (tCB rAbs (tCons (tVar 3) tNil)) (tC (.int 39999)))) (fun _ _ H => E (.ref (He.ga K "TooGreat")) none H) tNext)
  (tSeq (tAsg (tCall (sp_outside K) [] E0 (tCons (tVar 1) (tCons (tVar 3) tNil))) (gName 4))
  (tSeq (tIfS (tTest (tOp oNotN (tVar 4) (tC .non))) (fun _ σ H => tMkO (He.ga K "NotWhole") (sp_two (He.ga K "NotWhole")) [] (tCons (tOp (rIxT K) (tVar 4) (tC (.int 0))) (tCons (tOp (rIxT K) (tVar 4) (tC (.int 1))) tNil)) σ H fun cls d H => E cls d H) tNext)
  (tSeq (sFld K (tVar 0) (tVar 1) "poly")
  (tSeq (sFld K (tVar 0) (tOp oSub (tCB (rLenS K) (tCons (tVar 1) tNil)) (tC (.int 1))) "degree")
  (sFld K (tVar 0) (tVar 3) "measure")))))))))
theorem mk_two {σ : L2.St} {H : Hp} {i : Nat} {x : Str} {E : XK} {u : V} {d1 d2 : PyData} (hx : x = "NoPolynomial" ∨ x = "TooGreat" ∨ x = "FallsApart" ∨ x = "NotWhole") (h : σ[i]? = some (some u)) (p : Dp K H u (.tuple [d1, d2])) (b : Bad K E H) :
    tMkO (He.ga K x) (sp_two (He.ga K x)) [] (tCons (tOp (rIxT K) (tVar i) (tC (.int 0))) (tCons (tOp (rIxT K) (tVar i) (tC (.int 1))) tNil)) σ H fun cls d H => E cls d H := by
  refine (a_cons (d_ixT (d_var h p) ev_c (atI_nat (j := 0) rfl)) (a_cons (d_ixT (d_var h p) ev_c (atI_nat (j := 1) rfl)) a_nil)) H (Ex.refl H) _ fun vs H1 e1 pv => ?_
  obtain ⟨v1, v2, rfl, _, _⟩ := dpAll_two pv
  refine ⟨Nat.le_of_ble_eq_true rfl, fun a na => ⟨a, v1, v2, rfl, upd_same, fun d fs H2 nd ne h1 h2 hk => ⟨rfl, d, fs, h1, h2, by rw [upd_ne ne] at nd; exact nd, ?_⟩⟩⟩
  rw [upd_ne ne] at nd
  refine b x _ _ hx fun c o hc => ?_
  have hc1 := e1 c o hc
  have ca : c ≠ a := fun e => by rw [e, na] at hc1; cases hc1
  have cd : c ≠ d := fun e => by rw [e, nd] at hc1; cases hc1
  rw [upd_ne cd, del_ne ca, hk c ca cd, upd_ne ca]
  exact hc1
theorem Exx.upd {x : Addr} {H H' : Hp} (e : Exx x H H') (o : HO) : Exx x H (upd H' x o) := fun a u ne h => by rw [upd_ne ne]; exact e a u ne h
theorem Exx.trans {x : Addr} {H H' H2 : Hp} (e : Exx x H H') (e2 : Ex H' H2) : Exx x H H2 := fun a u ne h => e2 a u (e a u ne h)
/-- tuples stand where but an instance changes -/
theorem Exx.kt {x C dx : Addr} {fs : List (Str × V)} {H H' : Hp} (e : Exx x H H') (h : H x = some (.ins C dx fs)) : KT K H H' := fun a xs p => by
  rcases p with (p | ⟨f, p⟩) | p
  · exact .inl (.inl (e a _ (fun z => by rw [z, h] at p; cases p) p))
  · exact .inl (.inr ⟨f, e a _ (fun z => by rw [z, h] at p; cases p) p⟩)
  · exact .inr p
theorem p_apart {σ : L2.St} {H : Hp} {ta : TA} {f : List Int} {E : XK} (h : EvAD K ta σ H [dR f]) (hf : 1 ≤ f.length) (b : goodP f = false → Bad K E H) :
    EvP (tCallS (sp_apart K) (fun _ cls d H => E cls d H) ta) σ H (fun u H2 => goodP f = true ∧ ∃ d, pairR (apartB f) d ∧ Dp K H2 u d) := fun H1 e Q q => h H1 e _ fun vs H2 e2 pv => by
  obtain ⟨v, rfl, p⟩ := dpAll_one pv
  exact ⟨v, f, rfl, p, hf, fun hg u d H3 e3 hd pu => q u H3 (e2.trans e3) ⟨hg, d, hd, pu⟩, fun hg => (b hg).mono (e.trans e2)⟩
set_option maxHeartbeats 8000000 in
theorem pu_Ring {H : Hp} {x dx : Addr} {v : V} {f : List Int} {Q : VK} {E : XK} (T : Tx K mg) (hf : 1 ≤ f.length) (hv : Dp K H v (dR f)) (hx : H x = some (.ins (He.ga K "Ring") dx [])) (q : ringB f = true → ∀ H2, Exx x H H2 → H2 x = some (.ins (He.ga K "Ring") dx (ringF v f)) → Q .non H2) (b : ringB f = false → Bad K E H) :
    rd_Ring K E { nx := fun _ H' => Q .non H', rt := Q } (start ["self", "poly", "found", "size", "lack"] [.ref x, v]) H := by
  have er : ringB f = (goodP f && (!apartB f && (decide ((M.measure f).natAbs ≤ 39999) && !outB f (M.measure f)))) := rfl
  refine q_asgD (p_apart (K := K) (E := E) (a_cons (d_var rfl hv) a_nil) hf fun hg => b (by rw [er, hg]; rfl)) fun u H1 e1 ⟨hg, d, hd, pu⟩ => ?_
  rw [hg, Bool.true_and] at er
  obtain ⟨g1, g2, g3, gs⟩ := goodP_is hg
  unfold pairR at hd
  cases ea : apartB f with
  | true =>
    rw [ea, if_pos rfl] at hd
    obtain ⟨d1, d2, rfl⟩ := hd
    have b := b (by rw [er, ea]; rfl)
    obtain ⟨a, xs, rfl, _⟩ := dp_tup pu
    refine q_when (b := true) (fun H3 e3 Q' q' => ⟨.ref a, rfl, rfl, true, rfl, q' H3 (Ex.refl H3)⟩) (fun _ H2 e2 => ?_) (fun h => by cases h)
    exact mk_two (.inr (.inr (.inl rfl))) rfl (dp_ex e2 pu) (b.mono (e1.trans e2))
  | false =>
    rw [ea, if_neg (by decide)] at hd
    rw [hd] at pu
    rw [dp_none pu]
    rw [ea, Bool.not_false, Bool.true_and] at er
    refine q_when (b := false) (fun H3 e3 Q' q' => ⟨.non, rfl, rfl, false, rfl, q' H3 (Ex.refl H3)⟩) (fun h => by cases h) (fun _ H2 e2 => ?_)
    have e02 := e1.trans e2
    refine q_asg (ev_int (d_call (dom := dmMeasure) (a_cons (d_var rfl (dp_ex e02 hv)) a_nil) ⟨f, hg, rfl, rfl⟩)) fun H3 e3 => ?_
    have e03 := e02.trans e3
    refine q_when (b := !decide ((M.measure f).natAbs ≤ 39999)) (et_is (et_test (ev_op (ev_abs (ev_var rfl)) ev_c rv_I0)) (by rw [← decide_not]; exact decide_eq_decide.mpr (by omega))) (fun hc H4 e4 => ?_) (fun hc H4 e4 => ?_)
    · have hc : decide ((M.measure f).natAbs ≤ 39999) = false := by simpa only [Bool.not_eq_true'] using hc
      exact b (by rw [er, hc]; rfl) _ _ _ (.inr (.inl rfl)) (e03.trans e4)
    · have hc : decide ((M.measure f).natAbs ≤ 39999) = true := by simpa only [Bool.not_eq_false'] using hc
      rw [hc, Bool.true_and] at er
      have e04 := e03.trans e4
      refine q_asgD (r_call (K := K) (dom := dmOutside) (R := outR f (M.measure f)) (a_cons (d_var rfl (dp_ex e04 hv)) (a_cons (d_int (ev_var rfl)) a_nil)) ⟨f, M.measure f, hf, g2, rfl, rfl⟩) fun u2 H5 e5 ⟨du, hdu, pu2⟩ => ?_
      have e05 := e04.trans e5
      unfold outR at hdu
      cases eo : outB f (M.measure f) with
      | true =>
        rw [eo, if_pos rfl] at hdu
        obtain ⟨d1, d2, rfl⟩ := hdu
        have b := b (by rw [er, eo]; rfl)
        obtain ⟨a, xs, rfl, _⟩ := dp_tup pu2
        refine q_when (b := true) (fun H3 e3 Q' q' => ⟨.ref a, rfl, rfl, true, rfl, q' H3 (Ex.refl H3)⟩) (fun _ H6 e6 => ?_) (fun h => by cases h)
        exact mk_two (.inr (.inr (.inr rfl))) rfl (dp_ex e6 pu2) (b.mono (e05.trans e6))
      | false =>
        rw [eo, if_neg (by decide)] at hdu
        rw [hdu] at pu2
        rw [dp_none pu2]
        rw [eo] at er
        have q := q er
        refine q_when (b := false) (fun H3 e3 Q' q' => ⟨.non, rfl, rfl, false, rfl, q' H3 (Ex.refl H3)⟩) (fun h => by cases h) (fun _ H6 e6 => ?_)
        have e06 := e05.trans e6
        refine ⟨v, rfl, .ref x, rfl, x, _, dx, _, rfl, e06 _ _ hx, T.c_Ring, T.n_poly, Nat.le_of_ble_eq_true rfl, ?_⟩
        have x7 : Exx x H (upd H6 x (.ins (He.ga K "Ring") dx [("poly", v)])) := Exx.upd (fun a u _ h => e06 a u h) _
        have pv7 := dp_kt (x7.kt (K := K) hx) (tO_R f) hv
        refine (show EvP (tOp oSub (tCB (rLenS K) (tCons (tVar 1) tNil)) (tC (.int 1))) _ (upd H6 x (.ins (He.ga K "Ring") dx [("poly", v)])) (fun y _ => y = .int ((f.length : Int) - 1)) from p_ev (ev_is (ev_op (ev_lenD (d_var rfl pv7) (.inl rfl)) ev_c rv_I0) (by rw [List.length_map])) fun _ _ => rfl) _ (Ex.refl _) _ fun y H8 e8 ey => ?_
        subst ey
        refine ⟨.ref x, rfl, x, _, dx, _, rfl, e8 _ _ upd_same, T.c_Ring, T.n_degree, Nat.le_of_ble_eq_true rfl, ?_⟩
        refine ⟨.int (M.measure f), rfl, .ref x, rfl, x, _, dx, _, rfl, upd_same, T.c_Ring, T.n_measure, Nat.le_of_ble_eq_true rfl, ?_⟩
        exact q _ (((x7.trans e8).upd _).upd _) upd_same
theorem ok_Ring (T : Tx K mg) : ∃ fd, Binds K fd ["self", "poly"] [] ∧ FnOk P w K mg base (L2.CX P w) 7 (He.ma K (He.ga K "Ring") "__init__") fd ["self", "poly"] (sp_Ring K) := by
  have O_apart := ok_apart (P := P) (w := w) (base := base) T
  have O_measure := ok_measure (P := P) (w := w) (base := base) T
  have O_outside := ok_outside (P := P) (w := w) (base := base) T
  obtain ⟨fd1, b1, F1⟩ := ok_falls (P := P) (w := w) (base := base) T
  obtain ⟨fd2, b2, F2⟩ := ok_notwhole (P := P) (w := w) (base := base) T
  obtain ⟨⟨O1, i1, t1, _⟩, ⟨O2, i2, t2, _⟩⟩ := more_is T
  obtain ⟨iGt, iG⟩ := T.i_GREATEST
  refine mt_of T.f_Ringinit sc_Ringinit (fun _ _ _ _ _ _ us hl => match us, hl with | [_, _], _ => rfl) (fun vs H Q E ⟨x, dx, v, f, h, _⟩ => by rw [h]; rfl) (fun cdv A outer s H vs Q E hr ⟨x, dx, v, f, hvs, hv, hf, hx, q, b⟩ => ⟨rd_Ring K E, (pss_cons (ps_set (i := 2) sc_Ringinit.nd rfl (Or.inl rfl) (pe_fnS O_apart (hr.mono (by decide)) (fun σ => passAt (takes_of rfl rfl rfl rfl) σ) (pa_cons (pv 1) pa_nil)))
  (pss_cons (ps_if (pt_cmpR op_notN (pv 2) pe_non (nomark _)) (pss_one (ps_raise rfl (takes_of rfl rfl rfl rfl) (pmk_oex O1 i1 t1 F1 (hr.mono (by decide)) b1 .nil (fun _ _ _ _ _ _ _ h => h.elim) (by exact rfl) T.g_FallsApart (pa_cons (pe_ix ix_tup (pv 2) pe_int (fun _ _ => rfl)) (pa_cons (pe_ix ix_tup (pv 2) pe_int (fun _ _ => rfl)) pa_nil))))) pss_nil)
  (pss_cons (ps_set (i := 3) sc_Ringinit.nd rfl (Or.inl rfl) (pe_fn O_measure (hr.mono (by decide)) (pa_cons (pv 1) pa_nil)))
  (pss_cons (ps_if (pt_cmpR op_gt (pe_absc T.b_abs (pv 3)) (pe_glob rfl iG ⟨_, rfl⟩) (nomark _)) (pss_one (ps_raise rfl (takes_of rfl rfl rfl rfl) (pmk_own PySem.F.excBase_ValueError T.e_TooGreat.1 T.g_TooGreat T.e_TooGreat.2.1 (raises_own T.e_TooGreat.2.2.1 T.e_TooGreat.2.2.2) (by exact rfl)))) pss_nil)
  (pss_cons (ps_set (i := 4) sc_Ringinit.nd rfl (Or.inl rfl) (pe_fn O_outside (hr.mono (by decide)) (pa_cons (pv 1) (pa_cons (pv 3) pa_nil))))
  (pss_cons (ps_if (pt_cmpR op_notN (pv 4) pe_non (nomark _)) (pss_one (ps_raise rfl (takes_of rfl rfl rfl rfl) (pmk_oex O2 i2 t2 F2 (hr.mono (by decide)) b2 .nil (fun _ _ _ _ _ _ _ h => h.elim) (by exact rfl) T.g_NotWhole (pa_cons (pe_ix ix_tup (pv 4) pe_int (fun _ _ => rfl)) (pa_cons (pe_ix ix_tup (pv 4) pe_int (fun _ _ => rfl)) pa_nil))))) pss_nil)
  (pss_cons (ps_fld (pv 0) (pv 1) rfl)
  (pss_cons (ps_fld (pv 0) (pe_op op_sub (pe_len T.b_len (pv 1)) pe_int) rfl)
  (pss_one (ps_fld (pv 0) (pv 3) rfl)))))))))), ?_⟩)
  subst hvs
  exact pu_Ring T hf hv hx q b
/-- a ring at x -/
def RingAt (K : PySem.W.Frag) (H : Hp) (u : V) (f : List Int) : Prop := ∃ x dx v, u = .ref x ∧ Dp K H v (dR f) ∧ H x = some (.ins (He.ga K "Ring") dx (ringF v f))
theorem RingAt.mono {H H' : Hp} {u : V} {f : List Int} (h : RingAt K H u f) (e : Ex H H') : RingAt K H' u f := by
  obtain ⟨x, dx, v, h1, h2, h3⟩ := h
  exact ⟨x, dx, v, h1, dp_ex e h2, e _ _ h3⟩
/-- Ring(e) -/
theorem p_make {σ : L2.St} {H : Hp} {te : TE} {f : List Int} {E : XK} (h : EvD K te σ H (dR f)) (hf : 1 ≤ f.length) (b : ringB f = false → Bad K E H) (H1 : Hp) (e1 : Ex H H1) (Q : VK) (q : ringB f = true → ∀ u H2, Ex H1 H2 → RingAt K H2 u f → Q u H2) :
    tMake (He.ga K "Ring") (sp_Ring K) [] E (tCons te tNil) σ H1 Q :=
  (a_cons h a_nil) H1 e1 _ fun vs H2 e2 pv x dx nx nd ne => by
    obtain ⟨v, rfl, p⟩ := dpAll_one pv
    have e3 : Ex H2 (upd (upd H2 dx (.own x)) x (.ins (He.ga K "Ring") dx [])) := Ex.mut (Ex.new nd) nx
    refine ⟨x, dx, v, f, rfl, dp_ex e3 p, hf, upd_same, fun hr H4 e4 hx4 => ⟨rfl, ?_⟩, fun hr => (b hr).mono ((e1.trans e2).trans e3)⟩
    have e5 : Ex H2 H4 := fun a u h => e4 a u (fun e => by rw [e, nx] at h; cases h) (e3 a u h)
    exact q hr _ H4 (e2.trans e5) ⟨x, dx, v, rfl, dp_ex e5 p, hx4⟩
/-- ring.poly .. -/
theorem d_poly {σ : L2.St} {H : Hp} {te : TE} {u : V} {f : List Int} (T : Tx K mg) (h : Ev te σ H u) (hu : RingAt K H u f) : EvD K (tFld K te "poly") σ H (dR f) := fun H1 e Q q => h H1 e _ fun H2 e2 => by
  obtain ⟨x, dx, v, rfl, h2, h3⟩ := hu.mono (e.trans e2)
  exact ⟨x, _, dx, _, v, rfl, h3, T.c_Ring, T.n_poly, rfl, q v H2 e2 h2⟩
theorem ev_degree {σ : L2.St} {H : Hp} {te : TE} {u : V} {f : List Int} (T : Tx K mg) (h : Ev te σ H u) (hu : RingAt K H u f) : Ev (tFld K te "degree") σ H (.int ((f.length : Int) - 1)) := fun H1 e Q q => h H1 e _ fun H2 e2 => by
  obtain ⟨x, dx, v, rfl, h2, h3⟩ := hu.mono (e.trans e2)
  exact ⟨x, _, dx, _, _, rfl, h3, T.c_Ring, T.n_degree, rfl, q H2 e2⟩
end
end K41
set_option Elab.async false
set_option linter.all false
set_option maxRecDepth 100000
set_option maxHeartbeats 4000000
namespace K41
open PySem PySem.Spec PyProof.Rows L2 Evl
local macro_rules | `(tactic| walk_at "cc") => `(tactic| first
  | assumption
  | (with_reducible show (0 : Int) < _; omega)
  | exact Or.inl ⟨by omega, by omega⟩
  | exact Or.inr ⟨by omega, by omega⟩
  | exact And.intro (by omega) (by omega)
  | (show (0 : Int) < _; omega)
  | omega)
local macro_rules | `(tactic| walk_at "ev") => `(tactic| first
  | assumption
  | with_reducible exact ev_c
  | exact ev_var rfl
  | ((with_reducible refine' ev_op ?ka ?kb rv_I0); (case ka => walk_at "ev"); (case kb => walk_at "ev"))
  | ((with_reducible refine' ev_op ?ka ?kb (rv_I ?kc)); (case ka => walk_at "ev"); (case kb => walk_at "ev"); (case kc => walk_at "cc"))
  | ((with_reducible refine' ev_op (r := rEq) ?ka ?kb ?kd); (case ka => walk_at "ev"); (case kb => walk_at "ev"); (case kd => refine' rv_eq ?kc; rfl))
  | ((with_reducible refine' ev_op (r := rNe) ?ka ?kb ?kd); (case ka => walk_at "ev"); (case kb => walk_at "ev"); (case kd => refine' rv_ne ?kc; rfl))
  | ((with_reducible refine' ev_un ?ka ru_neg); (case ka => walk_at "ev"))
  | ((with_reducible refine' et_test ?ka); (case ka => walk_at "ev")))

/-! ### zip of a list and a tuple the list no longer -/
def ItzM (K : PySem.W.Frag) (a b : Addr) : It :=
  ⟨fun i H => ∃ (xs ys : List V) (x y : V), SqL K H a xs ∧ SqT K H b ys ∧ xs[i]? = some x ∧ ys[i]? = some y,
    fun i H v H' => ∃ T x y, v = .ref T ∧ H T = none ∧ H' = upd H T (.tup [x, y]) ∧ (∀ xs, SqL K H a xs → xs[i]? = some x) ∧ ∀ ys, SqT K H b ys → ys[i]? = some y,
    fun i H => ∃ xs ys : List V, SqL K H a xs ∧ SqT K H b ys ∧ xs.length = i ∧ i ≤ ys.length⟩
theorem turn_zipM {P : Program} {w : World} {K : PySem.W.Frag} {elts : List Expr} {kk : Nat} {tpos : Pos} {a b z TI TO i1 i2 : Addr} (D : ZipSep2 z TI TO i1 i2 [i1, a] [i2, b]) (hn : a ≠ i1 ∧ b ≠ i2 ∧ i1 ≠ z ∧ i2 ≠ z) :
    Turn P w K (.Tuple elts kk tpos) (ItzM K a b) [z, TI, TO, i1, i2] z (fun i h => IsZip h z TI TO .none ∧ IsTupOf2 h TI (.ref i1) (.ref i2) ∧ (∃ x y, IsTupOf2 h TO x y) ∧ h.IsListIter i1 a i ∧ h.IsTupleIter i2 b i) where
  mem := by simp
  obj := fun i h st c hc => by
    obtain ⟨hz, hTI, ⟨x, y, hTO⟩, ⟨o1, e1, _, d1⟩, ⟨o2, e2, _, d2⟩⟩ := st
    have e' : c = z ∨ c = TI ∨ c = TO ∨ c = i1 ∨ c = i2 := by simpa using hc
    rcases e' with q | q | q | q | q
    · rw [q]; exact ⟨_, hz, fun v q => nomatch q⟩
    · rw [q]; exact ⟨_, hTI, fun v q => nomatch q⟩
    · rw [q]; exact ⟨_, hTO, fun v q => nomatch q⟩
    · rw [q]; exact ⟨o1, e1, fun v q => by rw [d1] at q; cases q⟩
    · rw [q]; exact ⟨o2, e2, fun v q => by rw [d2] at q; cases q⟩
  keep := fun i h h' st k => by
    obtain ⟨hz, hTI, ⟨x, y, hTO⟩, h1, h2⟩ := st
    exact ⟨k z (by simp) _ hz, k TI (by simp) _ hTI, ⟨x, y, k TO (by simp) _ hTO⟩, h1.at fun o q => k i1 (by simp) o q, h2.at fun o q => k i2 (by simp) o q⟩
  item := by
    intro X hP hw hK hc i pins s σ H E I hf st hg
    subst hP hw hK
    obtain ⟨hz, hTI, hTO, h1, h2⟩ := st
    obtain ⟨xs, ys, x, y, hqx, hqy, hx, hy⟩ := hg
    obtain ⟨its, rv, p, _⟩ := I.list hqx
    obtain ⟨its2, rv2, p2, _⟩ := I.tuple hqy
    have hh : X.A.in1.handled = none := I.ok.hd hc
    have W := GoesN.zip2 (prog := X.prog) (w := X.w) (A := X.A) (elts := elts) (x1 := kk) (pos := tpos) D (Draws.list hh i1 a hn.1 its.toArray) (Draws.tuple hh i2 b hn.2.1 its2.toArray)
    have l1 := rv.length
    have l2 := rv2.length
    have b1 := (List.getElem?_eq_some_iff.mp hx).1
    have b2 := (List.getElem?_eq_some_iff.mp hy).1
    refine wpAny_mono (W.goes i s (fun v s2 => ∃ x H', Inv X pins σ H' s2 ∧ RelV x v ∧ (ItzM X.K a b).yld i H x H' ∧ (IsZip s2.heap z TI TO .none ∧ IsTupOf2 s2.heap TI (.ref i1) (.ref i2) ∧ (∃ x y, IsTupOf2 s2.heap TO x y) ∧ s2.heap.IsListIter i1 a (i + 1) ∧ s2.heap.IsTupleIter i2 b (i + 1)) ∧ ∀ c ∈ [z, TI, TO, i1, i2], H' c = none) E ?_ ⟨hz, hTI, hTO, ⟨h1, p.isList⟩, ⟨h2, p2⟩⟩ ?_) (fun r s1 h => h) (fun _ _ h => h)
    · simp
      omega
    · rintro v h' tk ⟨T, u, u2, rfl, hTsz, hu, hu2, hT⟩ ⟨g1, g2, g3, ⟨g4, _⟩, ⟨g5, _⟩⟩ hk htk
      obtain ⟨w1, hw1, ru⟩ := rv.get hx
      obtain ⟨w2, hw2, ru2⟩ := rv2.get hy
      have eu : u = w1 := by
        have : its.toArray[i]? = some w1 := by simpa using hw1
        rw [this] at hu
        exact (Option.some.inj hu).symm
      have eu2 : u2 = w2 := by
        have : its2.toArray[i]? = some w2 := by simpa using hw2
        rw [this] at hu2
        exact (Option.some.inj hu2).symm
      subst eu eu2
      obtain ⟨o, ho, hoc, n, hod⟩ := hT
      have new : ObjOk X.prog X.w (upd H T (.tup [x, y])) h' T (.tup [x, y]) := ⟨by show 2 ≤ sizeLine; decide, [u, u2], .cons ru (.cons ru2 .nil), ⟨o, ho, hoc, n, hod⟩⟩
      have I1 : Inv X pins σ (upd H T (.tup [x, y])) { s with heap := h', toks := tk } :=
        I.turnedNew (t' := tk) (ch := [z, TI, TO, i1, i2]) (fun c o hb q => hk c o (fun q' => hb (by simp at q'; rcases q' with q' | q' | q' | q' <;> simp [q'])) q) hf hTsz new
      refine ⟨.ref T, _, I1, rfl, ⟨T, x, y, rfl, I.hok.fresh hTsz, rfl, fun l hl => by rw [I.list_inj hl hqx]; exact hx, fun l hl => by rw [I.tuple_inj hl hqy]; exact hy⟩, ⟨g1, g2, g3, g4, g5⟩, fun c hcm => ?_⟩
      have hlt : c < s.heap.objs.size := by
        have e' : c = z ∨ c = TI ∨ c = TO ∨ c = i1 ∨ c = i2 := by simpa using hcm
        obtain ⟨_, _, hTO⟩ := hTO
        rcases e' with q | q | q | q | q
        · rw [q]; exact Heap.lt_size hz
        · rw [q]; exact Heap.lt_size hTI
        · rw [q]; exact Heap.lt_size hTO
        · rw [q]; obtain ⟨_, e1, _⟩ := h1; exact Heap.lt_size e1
        · rw [q]; obtain ⟨_, e1, _⟩ := h2; exact Heap.lt_size e1
      rw [upd_ne (Nat.ne_of_lt (Nat.lt_of_lt_of_le hlt hTsz))]
      exact (hf c hcm).1
  done := by
    intro X hP hw hK hc i pins s σ H E I hf st hg
    subst hP hw hK
    obtain ⟨hz, hTI, hTO, h1, h2⟩ := st
    obtain ⟨xs, ys, hqx, hqy, hl1, hl2⟩ := hg
    obtain ⟨its, rv, p, _⟩ := I.list hqx
    obtain ⟨its2, rv2, p2, _⟩ := I.tuple hqy
    have hh : X.A.in1.handled = none := I.ok.hd hc
    have W := GoesN.zip2 (prog := X.prog) (w := X.w) (A := X.A) (elts := elts) (x1 := kk) (pos := tpos) D (Draws.list hh i1 a hn.1 its.toArray) (Draws.tuple hh i2 b hn.2.1 its2.toArray)
    have l1 := rv.length
    have l2 := rv2.length
    have em : min its.toArray.size its2.toArray.size = i := by
      simp
      omega
    rw [em] at W
    refine W.stops s (fun s1 => Inv X pins σ H s1) E ⟨hz, hTI, hTO, ⟨h1, p.isList⟩, ⟨h2, p2⟩⟩ fun h' tk hk _ => I.turnedL (t' := tk) (ch := [z, TI, TO, i1, i2]) (fun c o hb q => hk c o (fun q' => hb (by simp at q'; rcases q' with q' | q' | q' | q' <;> simp [q'])) q) hf
  self := fun A i s Q E st h => wpAny_pyIter_zip st.1 h
def iZipM (K : PySem.W.Frag) (ta : TA) : TI := fun σ H R => ta σ H fun vs H1 => ∃ a b xs ys, vs = [.ref a, .ref b] ∧ SqL K H1 a xs ∧ SqT K H1 b ys ∧ R (ItzM K a b) H1
theorem pi_zipM {X : Cx} {e e2 : Expr} {ta : TA} {p pos tpos : Pos} {elts : List Expr} {kk : Nat} (hg : Gl X "zip") (hm : X.mg "zip" = none) (ha : PA X [e, e2] ta)
    (hs : starEach [e, e2] X.env = (false, eval e X.env) :: starEach [e2] X.env := by rfl) (hpl : (backTo pos (starEach [e2] X.env)).any (·.1) = false := by rfl) :
    PI X (.Tuple elts kk tpos) (.Call (.Name "zip" p) [e, e2] [] pos) (iZipM X.K ta) := by
  refine ⟨fun pins s σ H R I h => ?_⟩
  refine Call_ (ld_blt I hg hm PyProof.Rows.boot_zip (PyProof.Rows.callWith_type1 (thn (ha.run pos pins s σ H _ I h) fun us s1 ⟨vs, H1, I1, r1, q1⟩ => ?_) hs hpl))
  obtain ⟨a, b, xs, ys, ex, hqx, hqy, q⟩ := q1
  subst ex
  cases r1 with
  | cons r rr =>
    cases rr with
    | cons r' rr =>
      cases rr
      cases r
      cases r'
      obtain ⟨its, rv, p1, _⟩ := I1.list hqx
      obtain ⟨its2, rv2, p2, _⟩ := I1.tuple hqy
      have la : a < s1.heap.objs.size := p1.lt
      obtain ⟨o2, ho2, _⟩ := id p2
      have lb : b < s1.heap.objs.size := Heap.lt_size ho2
      refine zip_begins2 (begins_list a its.toArray) (begins_tuple b its2.toArray) p1.isList p2 fun h' hz hTI hTO h1 h2 hsz hk => wpAny_pyIter_zip hz ?_
      have I2 : Inv X pins σ H1 { s1 with heap := h' } := I1.kept (t' := s1.toks) hk
      have fresh5 : ∀ c, c ∈ [s1.heap.objs.size + 4, s1.heap.objs.size + 2, s1.heap.objs.size + 3, s1.heap.objs.size, s1.heap.objs.size + 1] → FpOk X pins H1 c := fun c hcm => by
        have hle : s1.heap.objs.size ≤ c := by
          simp at hcm
          omega
        exact I1.fpOk hle (I1.hok.fresh hle)
      exact ⟨s1.heap.objs.size + 4, [s1.heap.objs.size + 4, s1.heap.objs.size + 2, s1.heap.objs.size + 3, s1.heap.objs.size, s1.heap.objs.size + 1], _, _, H1, rfl, I2,
        turn_zipM (zip_sep2 (N := s1.heap.objs.size) (fp1 := [a]) (fp2 := [b]) (fun c hc => by simp at hc; rw [hc]; exact la) (fun c hc => by simp at hc; rw [hc]; exact lb)) ⟨Nat.ne_of_lt la, Nat.ne_of_lt (Nat.lt_succ_of_lt lb), Nat.ne_of_lt (Nat.lt_add_of_pos_right (by decide)), Nat.ne_of_lt (Nat.add_lt_add_left (by decide) _)⟩,
        ⟨hz, hTI, ⟨_, _, hTO⟩, ⟨_, h1, rfl, rfl⟩, ⟨_, h2, rfl, rfl⟩⟩, fresh5, q⟩
theorem lc_zipM {K : PySem.W.Frag} {a b : Addr} {xs ys : List V} {g : TG} {tt : TT} {te : TE} {vs : List Nat} {σ : L2.St} {H1 : Hp} {D : Addr} {Qd : Hp → Prop} (hxy : xs.length ≤ ys.length) (Pv : Nat → Hp → Prop) (h0 : Pv 0 (upd H1 D (.lst []))) (hl : ∀ i H, i ≤ xs.length → Pv i H → SqL K H a xs ∧ SqT K H b ys)
    (hs : ∀ i x y T H, xs[i]? = some x → ys[i]? = some y → H T = none → Pv i H → g (.ref T) (wipe σ vs) (upd H T (.tup [x, y])) fun σ2 H2 => wipe σ2 vs = wipe σ vs ∧ tt σ2 H2 fun b H3 =>
      if b = true then te σ2 H3 fun y H4 => ∃ acc, H4 D = some (.lst acc) ∧ acc.length < sizeLine ∧ Pv (i + 1) (upd H4 D (.lst (acc ++ [y]))) else Pv (i + 1) H3) (hd : ∀ H, Pv xs.length H → Qd H) :
    ∃ W : Nat → Nat → Hp → Prop, (∃ m, W 0 m (upd H1 D (.lst []))) ∧ ∀ i m H, W i m H →
      ((ItzM K a b).stop i H ∧ Qd H) ∨ ((ItzM K a b).go i H ∧ ∃ Nx : Hp → Prop, (∀ H', Nx H' → ∃ m', m' < m ∧ W (i + 1) m' H') ∧ ∀ x H', (ItzM K a b).yld i H x H' → g x (wipe σ vs) H' fun σ2 H2 => wipe σ2 vs = wipe σ vs ∧ tt σ2 H2 fun b H3 =>
        if b = true then te σ2 H3 fun y H4 => ∃ acc, H4 D = some (.lst acc) ∧ acc.length < sizeLine ∧ Nx (upd H4 D (.lst (acc ++ [y]))) else Nx H3) := by
  refine ⟨fun i m H => m = xs.length - i ∧ i ≤ xs.length ∧ Pv i H, ⟨xs.length, by simp, Nat.zero_le _, h0⟩, ?_⟩
  rintro i m H ⟨rfl, hi, p⟩
  obtain ⟨qx, qy⟩ := hl i H hi p
  by_cases hlt : i < xs.length
  · have hlt2 : i < ys.length := by omega
    refine .inr ⟨⟨xs, ys, xs[i], ys[i], qx, qy, by simp [hlt], by simp [hlt2]⟩, Pv (i + 1), fun H' p' => ⟨xs.length - (i + 1), by omega, rfl, hlt, p'⟩, fun x H' y => ?_⟩
    obtain ⟨T, x', y', rfl, hT, rfl, f1, f2⟩ := y
    exact hs i x' y' T H (f1 xs qx) (f2 ys qy) hT p
  · have e : i = xs.length := by omega
    subst e
    exact .inl ⟨⟨xs, ys, qx, qy, rfl, hxy⟩, hd H p⟩
end K41
set_option Elab.async false
set_option linter.all false
set_option maxRecDepth 100000
set_option maxHeartbeats 4000000
namespace K41
open PySem PySem.Spec PyProof.Rows L2 Evl
local macro_rules | `(tactic| walk_at "cc") => `(tactic| first
  | assumption
  | (with_reducible show (0 : Int) < _; omega)
  | exact Or.inl ⟨by omega, by omega⟩
  | exact Or.inr ⟨by omega, by omega⟩
  | exact And.intro (by omega) (by omega)
  | (show (0 : Int) < _; omega)
  | omega)
local macro_rules | `(tactic| walk_at "ev") => `(tactic| first
  | assumption
  | with_reducible exact ev_c
  | exact ev_var rfl
  | ((with_reducible refine' ev_op ?ka ?kb rv_I0); (case ka => walk_at "ev"); (case kb => walk_at "ev"))
  | ((with_reducible refine' ev_op ?ka ?kb (rv_I ?kc)); (case ka => walk_at "ev"); (case kb => walk_at "ev"); (case kc => walk_at "cc"))
  | ((with_reducible refine' ev_op (r := rEq) ?ka ?kb ?kd); (case ka => walk_at "ev"); (case kb => walk_at "ev"); (case kd => refine' rv_eq ?kc; rfl))
  | ((with_reducible refine' ev_op (r := rNe) ?ka ?kb ?kd); (case ka => walk_at "ev"); (case kb => walk_at "ev"); (case kd => refine' rv_ne ?kc; rfl))
  | ((with_reducible refine' ev_un ?ka ru_neg); (case ka => walk_at "ev"))
  | ((with_reducible refine' et_test ?ka); (case ka => walk_at "ev")))

section
variable {P : Program} {w : World} {K : PySem.W.Frag} {mg : Str → Option Value} {base : Heap}
/-! ### root_times -/
theorem n_lcZipM {σ : L2.St} {H : Hp} {ta : TA} {te : TE} {i j : Nat} {vs : List Nat} {xds yds : List PyData} (es : Nat → List PyData) (h : EvAP ta σ H (fun vs H2 => ∃ a b, vs = [.ref a, .ref b] ∧ Dp K H2 (.ref a) (.list xds) ∧ Dp K H2 (.ref b) (.tuple yds))) (hxy : xds.length ≤ yds.length)
    (h0 : es 0 = []) (hz : ∀ i, i ≤ xds.length → (es i).length < 100000 ∧ tOs (es i) = true) (hw : ∀ x y, wipe (((wipe σ vs).set i (some x)).set j (some y)) vs = wipe σ vs)
    (ht : ∀ (k : Nat) (x y : V) (dx dy : PyData) H1, Ex H H1 → xds[k]? = some dx → yds[k]? = some dy → Dp K H1 x dx → Dp K H1 y dy → ∃ d, tO d = true ∧ EvD K te (((wipe σ vs).set i (some x)).set j (some y)) H1 d ∧ es (k + 1) = es k ++ [d]) :
    EvN K (tLc (iZipM K ta) (gTup K 2 (gCons (gName i) (gCons (gName j) gNil))) tYes te vs) σ H (es xds.length) := fun H0 e Q q => h H0 e _ fun ws H1 e1 hws => by
  obtain ⟨a, b, rfl, pa, pb⟩ := hws
  obtain ⟨_, xs, ea, ha, hxs⟩ := dp_lst pa
  cases ea
  obtain ⟨_, ys, eb, hb, hys⟩ := dp_tup pb
  cases eb
  have l1 := dpAll_len hxs
  have l2 := dpAll_len hys
  refine ⟨a, b, xs, ys, rfl, ha, hb, fun Dl hD => ?_⟩
  rw [← l1] at hz
  refine lc_zipM (K := K) (g := gTup K 2 (gCons (gName i) (gCons (gName j) gNil))) (tt := tYes) (te := te) (vs := vs) (σ := σ) (D := Dl) (Qd := fun H' => Q (.ref Dl) H') (xs := xs) (ys := ys) (by omega) (Cd K H1 es Dl) ⟨hD, Ex.new hD, [], upd_same, by rw [h0]; exact .nil⟩
    (fun i H' _ p => ⟨ex_l p.2.1 ha, ex_t p.2.1 hb⟩) (fun k x y T H' hx hy hT p => ?_) (fun H' p => ?_)
  · obtain ⟨dx, hdx, pdx⟩ := dpAll_get' hxs hx
    obtain ⟨dy, hdy, pdy⟩ := dpAll_get' hys hy
    obtain ⟨p1, p2, acc, p3, p4⟩ := p
    have eT : Ex H' (upd H' T (.tup [x, y])) := Ex.new hT
    have e12 := (e.trans e1)
    refine ⟨T, [x, y], rfl, st_of upd_same, rfl, x, [y], rfl, y, [], rfl, rfl, ?_⟩
    refine ⟨hw x y, ?_⟩
    obtain ⟨d, td, hd, hes⟩ := ht k x y dx dy H1 e12 hdx hdy pdx pdy
    have hl := (List.getElem?_eq_some_iff.mp hx).1
    have z := hz k (Nat.le_of_lt hl)
    exact cd_step (K := K) (es := es) (t := tYes) ⟨p1, p2.trans eT, acc, eT Dl _ p3, dpAll_ex eT p4⟩ z.1 z.2 (b := true) t_yes (fun _ => ⟨d, td, hd, hes⟩) (fun h => by cases h)
  · obtain ⟨p1, p2, acc, p3, p4⟩ := p
    rw [l1] at p4
    exact q Dl acc H' (fresh_back e1 p1) (e1.trans p2) p3 p4
def dmRootT : List PyData → PyData → Prop := fun ds d => ∃ f row : List Int, 1 ≤ row.length ∧ row.length ≤ 1000 ∧ row.length ≤ f.length ∧ (∀ c ∈ f, c.natAbs ≤ 499) ∧ ds = [dR f, dR row] ∧ d = dR (M.rootTimes f row)
abbrev sp_root_times (K : PySem.W.Frag) : Sp := spG (onD K dmRootT) K
def rd_root_times (K : PySem.W.Frag) : TS := (tSeq (tAsg (tOp (rIxT K) (tVar 1) (tOp oSub (tCB (rLenS K) (tCons (tVar 1) tNil)) (tC (.int 1)))) (gName 2))
  (tSeq (tAsg (tOp rCat (tLst (tCons (tC (.int 0)) tNil)) (tCB (rListS K) (tCons (tSl (rSlA K) (tVar 1) tNoPart (tPart (tOp oSub (tCB (rLenS K) (tCons (tVar 1) tNil)) (tC (.int 1))))) tNil))) (gName 3))
  (tRet (tCB (rTupleS K) (tCons (tLc (iZipM K (tCons (tVar 3) (tCons (tVar 0) tNil))) (gTup K 2 (gCons (gName 4) (gCons (gName 5) gNil))) tYes (tOp oSub (tVar 4) (tOp oMul (tVar 2) (tVar 5))) [4, 5]) tNil)))))
theorem pu_root_times {H : Hp} {v u : V} {f row : List Int} {Q : VK} (hr1 : 1 ≤ row.length) (hr : row.length ≤ 1000) (hf : row.length ≤ f.length) (hs : ∀ c ∈ f, c.natAbs ≤ 499) (hv : Dp K H v (dR f)) (hu : Dp K H u (dR row)) (q : ∀ v H2, Ex H H2 → Dp K H2 v (dR (M.rootTimes f row)) → Q v H2) :
    rd_root_times K { nx := fun _ H' => Q .non H', rt := Q } (start ["poly", "row", "last", "ahead", "a", "c"] [v, u]) H := by
  have hl1 : ∀ {σ : L2.St} {H1 : Hp}, Ex H H1 → σ[1]? = some (some u) → Ev (tOp oSub (tCB (rLenS K) (tCons (tVar 1) tNil)) (tC (.int 1))) σ H1 (.int ((row.length - 1 : Nat) : Int)) := fun e h => ev_is (ev_op (ev_lenD (d_var h (dp_ex e hu)) (.inl rfl)) ev_c rv_I0) (congrArg V.int (by rw [List.length_map]; omega))
  refine q_asg (ev_row (i := row.length - 1) (d_var rfl hu) (hl1 (Ex.refl H) rfl) (by omega)) fun H1 e1 => ?_
  refine q_asgN (n_cat (K := K) (n_lst (ds := [.int 0]) (a_cons (d_int ev_c) a_nil) (len1 _)) (n_list (d_slT (lo := none) (hi := some ((row.length - 1 : Nat) : Int)) (d_var rfl (dp_ex e1 hu)) eo_none (eo_some (hl1 e1 rfl))) (.inl rfl)) (by rw [cutD_to, List.length_map, List.length_take]; simp; omega)) fun ap xs H2 na e2 hap hxs => ?_
  rw [cutD_to] at hxs
  have e02 := e1.trans e2
  have elen : ([PyData.int 0] ++ (row.take (row.length - 1)).map PyData.int).length = row.length := by rw [List.length_append, List.length_map, List.length_take]; simp; omega
  have hat : ∀ k, k < row.length → ([PyData.int 0] ++ (row.take (row.length - 1)).map PyData.int)[k]? = some (.int ((0 :: row).getD k 0)) := fun k hk => by
    match k with
    | 0 => rfl
    | k + 1 =>
      show ((row.take (row.length - 1)).map PyData.int)[k]? = some (.int (row.getD k 0))
      rw [at_P (by rw [List.length_take]; omega)]
      congr 2
      rw [List.getD_eq_getElem?_getD, List.getD_eq_getElem?_getD, List.getElem?_take_of_lt (by omega)]
  have key := n_lcZipM (K := K) (i := 4) (j := 5) (vs := [4, 5]) (te := tOp oSub (tVar 4) (tOp oMul (tVar 2) (tVar 5))) (σ := [some v, some u, some (.int (row.getD (row.length - 1) 0)), some (.ref ap), none, none]) (H := H2) (ta := tCons (tVar 3) (tCons (tVar 0) tNil)) (xds := [.int 0] ++ (row.take (row.length - 1)).map .int) (yds := f.map .int)
    (fun k => ((List.range k).map fun i => (0 :: row).getD i 0 - row.getD (row.length - 1) 0 * f.getD i 0).map .int)
    (by
      obtain ⟨b, rfl, hb⟩ := dp_R (dp_ex e02 hv)
      refine fun H3 e3 Q' q' => ⟨.ref ap, rfl, .ref b, rfl, q' _ H3 (Ex.refl _) ⟨ap, b, rfl, .lst (sq_of (e3 _ _ hap)) (dpAll_ex e3 hxs), dp_ex e3 (dp_ofR hb)⟩⟩)
    (by rw [elen, List.length_map]; exact hf) rfl (fun k hk => ⟨by rw [List.length_map, List.length_map, List.length_range]; omega, tOs_ints _⟩) (fun x y => rfl)
    (fun k x y dx dy H3 e3 hdx hdy px py => by
      have hk := (List.getElem?_eq_some_iff.mp hdx).1
      rw [elen] at hk
      rw [hat k hk] at hdx
      cases hdx
      rw [at_P (show k < f.length by omega)] at hdy
      cases hdy
      rw [dp_int px, dp_int py]
      have cs := getD_small hs k
      refine ⟨.int ((0 :: row).getD k 0 - row.getD (row.length - 1) 0 * f.getD k 0), by simp [tO], d_int (ev_op (ev_var rfl) (ev_op (ev_var rfl) (ev_var rfl) (rv_I (.inr ⟨by omega, by omega⟩))) rv_I0), ?_⟩
      rw [List.range_succ, List.map_append, List.map_append]
      rfl)
  rw [elen] at key
  exact s_retD (d_tuple (d_ofN key) (.inr rfl)) fun w' H3 e3 pw => q w' H3 (e02.trans e3) pw
theorem ok_root_times (T : Tx K mg) : Ok P w K mg base CX0 "root_times" ["poly", "row"] 1 (sp_root_times K) := by
  refine ok_ofG T.g_root_times T.f_root_times sc_root_times (fun _ _ _ _ _ _ us hl => match us, hl with | [_, _], _ => rfl) (fun vs H d ⟨ds, ⟨f, r, _, _, _, _, e, _⟩, hd⟩ => by rw [dpAll_len hd, e]; rfl) (fun cdv A outer s H vs Q E d hr ⟨ds, ⟨f, r, h1, h2, h3, h4, hds, ed⟩, hv⟩ q => ⟨rd_root_times K, PSs.nox ((pss_cons (ps_set (i := 2) sc_root_times.nd rfl (Or.inr rfl) (pe_ix ix_tup (pv 1) (pe_op op_sub (pe_len T.b_len (pv 1)) pe_int) (fun _ _ => rfl)))
  (pss_cons (ps_set (i := 3) sc_root_times.nd rfl (Or.inl rfl) (pe_op op_cat (pe_lst (pa_cons pe_int pa_nil)) (pe_listc T.b_list (pe_slice sl_tupA (pv 1) po_none (po_some (pe_op op_sub (pe_len T.b_len (pv 1)) pe_int))))))
  (pss_one (ps_ret (pe_tuplec T.b_tuple (pe_lc (own := [("a", 4), ("c", 5)]) (tt := tYes) rfl sc_root_times.nd (pi_zipM (by rfl) T.b_zip (pa_cons (pv 3) (pa_cons (pv 0) pa_nil))) (blkOk_by (own := [("a", 4), ("c", 5)]) (N := ["poly", "row", "last", "ahead", "a", "c"]) (sc := defScope s_root_times) (by decide +kernel)) (fun _ _ _ _ _ => (pg_tup rfl (pgs_cons (pg_name (i := 4) sc_root_times.nd rfl (Or.inl rfl)) (pgs_cons (pg_name (i := 5) sc_root_times.nd rfl (Or.inl rfl)) pgs_nil)))) (fun _ _ _ _ _ => pts_nil) (fun _ _ _ _ _ => (pe_op op_sub (pv 4) (pe_op op_mul (pv 2) (pv 5))))))))))), ?_⟩)
  subst ed hds
  obtain ⟨v, u, rfl, k1, k2⟩ := dpAll_two hv
  exact pu_root_times h1 h2 h3 h4 k1 k2 q
/-! ### poly_table -/
theorem rootTimes_len (f row : List Int) : (M.rootTimes f row).length = row.length := by unfold M.rootTimes; rw [List.length_map, List.length_range]
def rootPow (f row : List Int) : Nat → List Int
  | 0 => row
  | n + 1 => M.rootTimes f (rootPow f row n)
theorem rootPow_len (f row : List Int) : ∀ n, (rootPow f row n).length = row.length
  | 0 => rfl
  | n + 1 => by
    show (M.rootTimes f _).length = _
    rw [rootTimes_len, rootPow_len f row n]
theorem rootPow_in (f row : List Int) : ∀ n, rootPow f (M.rootTimes f row) n = rootPow f row (n + 1)
  | 0 => rfl
  | n + 1 => by
    show M.rootTimes f _ = M.rootTimes f _
    rw [rootPow_in f row n]
theorem tableTo_is (f : List Int) : ∀ (n : Nat) (row : List Int), M.tableTo f row n = (List.range n).map (rootPow f row)
  | 0, _ => rfl
  | n + 1, row => by
    show row :: M.tableTo f (M.rootTimes f row) n = _
    rw [tableTo_is f n, List.range_succ_eq_map, List.map_cons, List.map_map]
    congr 1
    exact List.map_congr_left fun i _ => rootPow_in f row i
def dmPolyT : List PyData → PyData → Prop := fun ds d => ∃ f x : List Int, 1 ≤ x.length ∧ x.length ≤ 100 ∧ x.length ≤ f.length ∧ (∀ c ∈ f, c.natAbs ≤ 499) ∧ (ds = [dR f, dR x] ∨ ds = [dR f, .list (x.map .int)]) ∧ d = dT (M.polyTable f x)
abbrev sp_poly_table (K : PySem.W.Frag) : Sp := spG (onD K dmPolyT) K
def rd_poly_table (K : PySem.W.Frag) : TS := (tSeq (tAsg (tLst tNil) (gName 2))
  (tSeq (tAsg (tCB (rTupleS K) (tCons (tVar 1) tNil)) (gName 3))
  (tSeq (tFor (iRng1 (tCons (tCB (rLenS K) (tCons (tVar 1) tNil)) tNil)) (gName 4)
  (tSeq (tDrop (tBM K "list" rAppend (tVar 2) (tCons (tVar 3) tNil)))
  (tAsg (tCall (sp_root_times K) [] E0 (tCons (tVar 0) (tCons (tVar 3) tNil))) (gName 3))))
  (tRet (tCB (rTupleS K) (tCons (tVar 2) tNil))))))
theorem pu_poly_table {H : Hp} {v u : V} {f x : List Int} {dx : PyData} {Q : VK} (hx1 : 1 ≤ x.length) (hx : x.length ≤ 100) (hf : x.length ≤ f.length) (hs : ∀ c ∈ f, c.natAbs ≤ 499) (hv : Dp K H v (dR f)) (hu : Dp K H u dx) (hdx : dx = .tuple (x.map .int) ∨ dx = .list (x.map .int)) (q : ∀ v H2, Ex H H2 → Dp K H2 v (dT (M.polyTable f x)) → Q v H2) :
    rd_poly_table K { nx := fun _ H' => Q .non H', rt := Q } (start ["poly", "x", "rows", "row", "k"] [v, u]) H := by
  refine q_asgL (el_lst (vs := []) ea_nil (Nat.le_of_ble_eq_true rfl)) fun rp H1 nr e1 hrp => ?_
  refine q_asgD (d_tuple (d_var rfl (dp_ex e1 hu)) hdx) fun r0 H2 e2 pr0 => ?_
  refine q_forR1 (n := (x.length : Int)) (ea_cons (ev_is (ev_lenD (d_var rfl (dp_ex (e1.trans e2) hu)) hdx) (by rw [List.length_map])) ea_nil) ⟨by omega, by omega⟩
    (fun i σ' H' => ∃ (r : V) (y : Option V) (zs : List V), σ' = [some v, some u, some (.ref rp), some r, y] ∧ Ex H H' ∧ Dp K H' r (dR (rootPow f x i)) ∧ H' rp = some (.lst zs) ∧ DpAll K H' zs (((List.range i).map (rootPow f x)).map dR))
    (fun H3 e3 => ⟨r0, none, [], rfl, (e1.trans e2).trans e3, dp_ex e3 pr0, (e2.trans e3) _ _ hrp, .nil⟩) ?_ ?_
  · rintro i σ' H' hi ⟨r, y, zs, rfl, e', pr, hrp', hz⟩
    show tSeq _ _ _ _ _
    refine q_appD hrp' (ev_var rfl) (d_var rfl pr) (by rw [dpAll_len hz, List.length_map, List.length_map, List.length_range]; omega) fun r' H4 e4 pr' => ?_
    have k4 : KT K H4 (upd H4 rp (.lst (zs ++ [r']))) := KT.updL (e4 _ _ hrp')
    have ex4 : Ex H (upd H4 rp (.lst (zs ++ [r']))) := Ex.mut (e'.trans e4) nr
    refine s_asgD (d_call (dom := dmRootT) (a_cons (d_var rfl (dp_ex ex4 hv)) (a_cons (d_var rfl (dp_kt k4 (tO_R _) (dp_ex e4 pr))) a_nil)) ⟨f, rootPow f x i, by rw [rootPow_len]; exact hx1, by rw [rootPow_len]; omega, by rw [rootPow_len]; exact hf, hs, rfl, rfl⟩) fun r2 H5 e5 pr2 => ?_
    refine ⟨r2, some (.int (i : Int)), _, rfl, ex4.trans e5, pr2, e5 _ _ upd_same, dpAll_ex e5 ?_⟩
    rw [List.range_succ, List.map_append, List.map_append]
    exact dpAll_app (dpAll_kt k4 (tOs_all fun x hx => by obtain ⟨l, _, rfl⟩ := List.mem_map.mp hx; exact tO_R l) (dpAll_ex e4 hz)) (.cons (dp_kt (d := dR (rootPow f x i)) k4 (tO_R _) pr') .nil)
  · rintro σ' H' ⟨r, y, zs, rfl, e', pr, hrp', hz⟩
    rw [Int.toNat_natCast] at hz
    refine s_retD (d_tuple (d_ev (ev_var rfl) (.lst (sq_of hrp') hz)) (.inr rfl)) fun w' H3 e3 pw => q w' H3 (e'.trans e3) ?_
    unfold M.polyTable dT
    rw [tableTo_is]
    exact pw
theorem ok_poly_table (T : Tx K mg) : Ok P w K mg base CX0 "poly_table" ["poly", "x"] 2 (sp_poly_table K) := by
  have O_root_times := ok_root_times (P := P) (w := w) (base := base) T
  refine ok_ofG T.g_poly_table T.f_poly_table sc_poly_table (fun _ _ _ _ _ _ us hl => match us, hl with | [_, _], _ => rfl) (fun vs H d ⟨ds, ⟨f, r, _, _, _, _, e, _⟩, hd⟩ => by rcases e with e | e <;> (rw [dpAll_len hd, e]; rfl)) (fun cdv A outer s H vs Q E d hr ⟨ds, ⟨f, r, h1, h2, h3, h4, hds, ed⟩, hv⟩ q => ⟨rd_poly_table K, PSs.nox ((pss_cons (ps_set (i := 2) sc_poly_table.nd rfl (Or.inl rfl) (pe_lst pa_nil))
  (pss_cons (ps_set (i := 3) sc_poly_table.nd rfl (Or.inl rfl) (pe_tuplec T.b_tuple (pv 1)))
  (pss_cons (ps_for PassesOwn.never rfl (pi_range1 (by rfl) T.b_range (pa_cons (pe_len T.b_len (pv 1)) pa_nil)) (pg_name (i := 4) sc_poly_table.nd rfl (Or.inl rfl))
  (pss_cons (ps_expr (pe_bm PySem.F.plainAttrs_list PySem.F.slot_list_append PySem.F.type_list_append mt_append (pv 2) (pa_cons (pv 3) pa_nil)))
  (pss_one (ps_set (i := 3) sc_poly_table.nd rfl (Or.inl rfl) (pe_fn O_root_times (hr.mono (by decide)) (pa_cons (pv 0) (pa_cons (pv 3) pa_nil)))))))
  (pss_one (ps_ret (pe_tuplec T.b_tuple (pv 2)))))))), ?_⟩)
  subst ed
  rcases hds with rfl | rfl
  · obtain ⟨v, u, rfl, k1, k2⟩ := dpAll_two hv
    exact pu_poly_table h1 h2 h3 h4 k1 k2 (.inl rfl) q
  · obtain ⟨v, u, rfl, k1, k2⟩ := dpAll_two hv
    exact pu_poly_table h1 h2 h3 h4 k1 k2 (.inr rfl) q
/-! ### combined -/
def addTo (a : Int) (row total : List Int) (k : Nat) : List Int := (List.range total.length).map fun i => if i < k then total.getD i 0 + a * row.getD i 0 else total.getD i 0
theorem addTo_len (a : Int) (row total : List Int) (k : Nat) : (addTo a row total k).length = total.length := by unfold addTo; rw [List.length_map, List.length_range]
theorem addTo_at {a : Int} {row total : List Int} {k i : Nat} (h : i < total.length) : (addTo a row total k).getD i 0 = if i < k then total.getD i 0 + a * row.getD i 0 else total.getD i 0 := by
  unfold addTo
  rw [List.getD_eq_getElem?_getD, List.getElem?_map, List.getElem?_range h]
  rfl
theorem addTo_zero (a : Int) (row total : List Int) : addTo a row total 0 = total := by
  apply List.ext_getElem
  · exact addTo_len ..
  · intro i h1 h2
    rw [← getD_at h1, addTo_at h2, ← getD_at h2]
    rfl
theorem addTo_all (a : Int) (row total : List Int) : addTo a row total total.length = M.addMul a row total := by
  unfold addTo M.addMul
  exact List.map_congr_left fun i h => by rw [if_pos (List.mem_range.mp h)]
theorem addTo_set {a : Int} {row total : List Int} {k : Nat} (h : k < total.length) : (addTo a row total k).set k (total.getD k 0 + a * row.getD k 0) = addTo a row total (k + 1) := by
  apply List.ext_getElem
  · rw [List.length_set, addTo_len, addTo_len]
  · intro i h1 h2
    rw [addTo_len] at h2
    rw [List.getElem_set, ← getD_at (by rw [addTo_len]; exact h2), ← getD_at (l := addTo a row total (k + 1)) (by rw [addTo_len]; exact h2), addTo_at h2, addTo_at h2]
    by_cases e : k = i
    · subst e
      rw [if_pos rfl, if_pos (by omega)]
    · rw [if_neg e]
      by_cases c : i < k
      · rw [if_pos c, if_pos (by omega)]
      · rw [if_neg c, if_neg (by omega)]
theorem combTo_more : ∀ {x : List Int} {t : List (List Int)} {tot : List Int} {i : Nat}, i < x.length → i < t.length → M.combTo (x.take (i + 1)) (t.take (i + 1)) tot = M.addMul (x.getD i 0) (t.getD i []) (M.combTo (x.take i) (t.take i) tot)
  | a :: x, r :: t, tot, 0, _, _ => by
    cases x <;> rfl
  | a :: x, r :: t, tot, i + 1, h1, h2 => by
    show M.combTo (x.take (i + 1)) (t.take (i + 1)) (M.addMul a r tot) = M.addMul (x.getD i 0) (t.getD i []) (M.combTo (x.take i) (t.take i) (M.addMul a r tot))
    exact combTo_more (by simpa using h1) (by simpa using h2)
theorem addMul_len (a : Int) (row total : List Int) : (M.addMul a row total).length = total.length := by unfold M.addMul; rw [List.length_map, List.length_range]
theorem combTo_len : ∀ (x : List Int) (t : List (List Int)) (tot : List Int), (M.combTo x t tot).length = tot.length
  | [], _, _ => by unfold M.combTo; rfl
  | _ :: _, [], _ => by unfold M.combTo; rfl
  | a :: x, r :: t, tot => by
    show (M.combTo x t (M.addMul a r tot)).length = _
    rw [combTo_len x t, addMul_len]
def dmComb : List PyData → PyData → Prop := fun ds d => ∃ (x : List Int) (t : List (List Int)) (m : Nat), x.length = t.length ∧ 1 ≤ t.length ∧ t.length ≤ 1000 ∧ m ≤ 1000 ∧ (∀ r ∈ t, r.length = m) ∧ (∀ c ∈ x, c.natAbs ≤ 1000) ∧ ds = [dR x, dT t] ∧ d = dR (M.combined x t)
abbrev sp_combined (K : PySem.W.Frag) : Sp := spG (onD K dmComb) K
def rd_combined (K : PySem.W.Frag) : TS := (tSeq (tAsg (tCB (rLenS K) (tCons (tOp (rIxT K) (tVar 1) (tC (.int 0))) tNil)) (gName 2))
  (tSeq (tAsg (tOp rRep (tLst (tCons (tC (.int 0)) tNil)) (tVar 2)) (gName 3))
  (tSeq (tFor (RZ.iZipA K (tCons (tVar 0) (tCons (tVar 1) tNil))) (gTup K 2 (gCons (gName 4) (gCons (gName 5) gNil)))
  (tFor (iRng1 (tCons (tVar 2) tNil)) (gName 6)
  (tAsg (tOp oAdd (tOp (rIxL K) (tVar 3) (tVar 6)) (tOp oMul (tVar 4) (tOp (rIxT K) (tVar 5) (tVar 6)))) (gSub (tVar 3) (tVar 6) rSetL))))
  (tRet (tCB (rTupleS K) (tCons (tVar 3) tNil))))))
theorem getD_small' {l : List Int} {B : Nat} (h : ∀ c ∈ l, c.natAbs ≤ B) (i : Nat) : (l.getD i 0).natAbs ≤ B := getD_small h i
set_option maxHeartbeats 8000000 in
theorem pu_combined {H : Hp} {v u : V} {x : List Int} {t : List (List Int)} {m : Nat} {Q : VK} (hxt : x.length = t.length) (ht1 : 1 ≤ t.length) (ht : t.length ≤ 1000) (hm : m ≤ 1000) (hr : ∀ r ∈ t, r.length = m) (hs : ∀ c ∈ x, c.natAbs ≤ 1000) (hv : Dp K H v (dR x)) (hu : Dp K H u (dT t)) (q : ∀ v H2, Ex H H2 → Dp K H2 v (dR (M.combined x t)) → Q v H2) :
    rd_combined K { nx := fun _ H' => Q .non H', rt := Q } (start ["numbers", "rows", "many", "total", "often", "row", "k"] [v, u]) H := by
  have e0 : (t.getD 0 []).length = m := hr _ (memAt ht1)
  have ec : M.combined x t = M.combTo x t (List.replicate m 0) := by unfold M.combined; rw [e0]
  refine q_asg (v := .int (m : Int)) (ev_is (ev_lenD (d_ixT (d := dR (t.getD 0 [])) (d_var rfl hu) ev_c (atI_nat (j := 0) (rowsAt ht1))) (.inl rfl)) (by rw [List.length_map, e0])) fun H1 e1 => ?_
  refine q_asgN (n_rep (K := K) (d := .int 0) (n_lst (a_cons (d_int ev_c) a_nil) (len1 _)) (ev_var rfl) (by omega)) fun tp xs H2 nt e2 htp hxs => ?_
  have nt0 : H tp = none := fresh_back e1 nt
  have exs : xs = (List.replicate m (0 : Int)).map V.int := dpAll_intsV (by rw [List.map_replicate]; exact hxs)
  subst exs
  have e02 := e1.trans e2
  obtain ⟨b, ys, rfl, hb, hys⟩ := dp_tup (dp_ex e02 hu)
  obtain ⟨a, rfl, ha⟩ := dp_R (dp_ex e02 hv)
  have lys : ys.length = t.length := by rw [dpAll_len hys, List.length_map]
  have nta : ∀ {H' : Hp} {c : Addr} {zs : List V} {ws : List V}, H' tp = some (.lst ws) → True := fun _ => trivial
  refine ⟨.ref a, rfl, .ref b, rfl, a, b, x.map V.int, ys, rfl, .inr ⟨ha, hb, ?_⟩⟩
  refine RZ.for_zipT (K := K) (xs := x.map V.int) (ys := ys) (by rw [List.length_map, lys, hxt]) (fun i σ' H' => ∃ y1 y2 y3, σ' = [some (.ref a), some (.ref b), some (.int (m : Int)), some (.ref tp), y1, y2, y3] ∧ Ex H H' ∧ KT K H2 H' ∧ H' tp = some (.lst ((M.combTo (x.take i) (t.take i) (List.replicate m 0)).map V.int)))
    ⟨none, none, none, rfl, e02, KT.refl, htp⟩ (fun i σ' H' ⟨_, _, _, _, _, k, _⟩ => ⟨k _ _ ha, k _ _ hb⟩) ?_ ?_
  · rintro i xi yi Tt σ' H' hxi hyi ⟨y1, y2, y3, rfl, e', k', htp'⟩ hT
    obtain ⟨hi, rfl⟩ := of_V hxi
    obtain ⟨dy, hdy, pdy⟩ := dpAll_get' hys hyi
    rw [rowsAt (show i < t.length by omega)] at hdy
    cases hdy
    have eT : Ex H' (upd H' Tt (.tup [.int (x.getD i 0), yi])) := Ex.new hT
    have mem := memAt (t := t) (i := i) (by omega)
    have lr := hr _ mem
    have pyi : Dp K (upd H' Tt (.tup [.int (x.getD i 0), yi])) yi (dR (t.getD i [])) := dp_ex eT (dp_kt k' (tO_R _) pdy)
    refine g_tup2 (d1 := .int (x.getD i 0)) (d2 := dR (t.getD i [])) (.tup (st_of upd_same) (.cons (.int _) (.cons pyi .nil))) fun u1 u2 p1 p2 => ?_
    rw [dp_int p1]
    have eH := e'.trans eT
    have htpT := eT _ _ htp'
    have kT : KT K H2 (upd H' Tt (.tup [.int (x.getD i 0), yi])) := k'.trans (KT.ofEx eT)
    have em := combTo_more (x := x) (t := t) (tot := List.replicate m 0) hi (by omega)
    have clen : (M.combTo (x.take i) (t.take i) (List.replicate m 0)).length = m := by rw [combTo_len, List.length_replicate]
    have cx := getD_small hs i
    generalize M.combTo (x.take (i + 1)) (t.take (i + 1)) (List.replicate m 0) = tot' at em ⊢
    generalize M.combTo (x.take i) (t.take i) (List.replicate m 0) = tot at *
    subst em
    generalize t.getD i [] = row at *
    generalize x.getD i 0 = ax at *
    show tFor _ _ _ _ _ _
    refine s_forR1 (n := (m : Int)) (ea_cons (ev_var rfl) ea_nil) ⟨by omega, by omega⟩
      (fun k σ' H' => ∃ y3, σ' = [some (.ref a), some (.ref b), some (.int (m : Int)), some (.ref tp), some (.int ax), some u2, y3] ∧ Ex H H' ∧ KT K H2 H' ∧ Dp K H' u2 (dR row) ∧ H' tp = some (.lst ((addTo ax row tot k).map V.int)))
      (fun H3 e3 => ⟨y3, rfl, eH.trans e3, kT.trans (KT.ofEx e3), dp_ex e3 p2, by rw [addTo_zero]; exact e3 _ _ htpT⟩) ?_ ?_
    · rintro k σ2 H3 hk ⟨y4, rfl, e3, k3, pu2, htp3⟩
      have hk : k < m := by omega
      have hkt : k < tot.length := by omega
      have hat := addTo_at (a := ax) (row := row) (k := k) hkt
      rw [if_neg (Nat.lt_irrefl k)] at hat
      refine s_asgP (ev_op (z := .int (tot.getD k 0 + ax * row.getD k 0)) (ev_is (ev_lst (i := k) htp3 (ev_var rfl) (ev_var rfl) (by rw [addTo_len]; exact hkt)) (congrArg V.int hat)) (ev_op (ev_var rfl) (ev_row (i := k) (d_var rfl pu2) (ev_var rfl) (by omega)) (rv_I (.inl ⟨by omega, by omega⟩))) rv_I0 |> fun h => p_ev (P := fun w _ => w = .int (tot.getD k 0 + ax * row.getD k 0)) h fun _ _ => rfl) fun w' H4 e4 ew => ?_
      subst ew
      refine ⟨.ref tp, rfl, .int (k : Int), rfl, tp, _, (k : Int), k, rfl, rfl, e4 _ _ htp3, ixN_nat (by rw [List.length_map, addTo_len]; exact hkt), ?_⟩
      have k4 : KT K H4 (upd H4 tp (.lst (((addTo ax row tot k).map V.int).set k (.int (tot.getD k 0 + ax * row.getD k 0))))) := KT.updL (e4 _ _ htp3)
      refine ⟨some (.int (k : Int)), rfl, Ex.mut (e3.trans e4) nt0, (k3.trans (KT.ofEx e4)).trans k4, dp_kt k4 (tO_R _) (dp_ex e4 pu2), ?_⟩
      rw [upd_same, ← List.map_set, addTo_set hkt]
    · rintro σ2 H3 ⟨y4, rfl, e3, k3, pu2, htp3⟩
      refine ⟨some (.int ax), some u2, y4, rfl, e3, k3, ?_⟩
      rw [Int.toNat_natCast] at htp3
      rw [htp3, ← clen, addTo_all]
  · rintro σ' H' ⟨y1, y2, y3, rfl, e', k', htp'⟩
    rw [List.length_map, List.take_length, hxt, List.take_length, ← ec] at htp'
    exact s_retD (d_tuple (d_ev (ev_var rfl) (.lst (sq_of htp') (dpAll_ints _))) (.inr rfl)) fun w' H3 e3 pw => q w' H3 (e'.trans e3) pw
theorem ok_combined (T : Tx K mg) : Ok P w K mg base CX0 "combined" ["numbers", "rows"] 1 (sp_combined K) := by
  refine ok_ofG T.g_combined T.f_combined sc_combined (fun _ _ _ _ _ _ us hl => match us, hl with | [_, _], _ => rfl) (fun vs H d ⟨ds, ⟨f, r, _, _, _, _, _, _, _, e, _⟩, hd⟩ => by rw [dpAll_len hd, e]; rfl) (fun cdv A outer s H vs Q E d hr ⟨ds, ⟨f, r, m, h1, h2, h3, h4, h5, h6, hds, ed⟩, hv⟩ q => ⟨rd_combined K, PSs.nox ((pss_cons (ps_set (i := 2) sc_combined.nd rfl (Or.inl rfl) (pe_len T.b_len (pe_ix ix_tup (pv 1) pe_int (fun _ _ => rfl))))
  (pss_cons (ps_set (i := 3) sc_combined.nd rfl (Or.inl rfl) (pe_op op_rep (pe_lst (pa_cons pe_int pa_nil)) (pv 2)))
  (pss_cons (ps_for PassesOwn.never rfl (RZ.pi_zipA (by rfl) T.b_zip (pa_cons (pv 0) (pa_cons (pv 1) pa_nil))) (pg_tup rfl (pgs_cons (pg_name (i := 4) sc_combined.nd rfl (Or.inl rfl)) (pgs_cons (pg_name (i := 5) sc_combined.nd rfl (Or.inl rfl)) pgs_nil)))
  (pss_one (ps_for PassesOwn.never rfl (pi_range1 (by rfl) T.b_range (pa_cons (pv 2) pa_nil)) (pg_name (i := 6) sc_combined.nd rfl (Or.inl rfl))
  (pss_one (ps_asg (pe_op op_add (pe_ix ix_list (pv 3) (pv 6) (fun _ _ => rfl)) (pe_op op_mul (pv 4) (pe_ix ix_tup (pv 5) (pv 6) (fun _ _ => rfl)))) (pg_sub (pv 3) (pv 6) set_list))))))
  (pss_one (ps_ret (pe_tuplec T.b_tuple (pv 3)))))))), ?_⟩)
  subst ed hds
  obtain ⟨v, u, rfl, k1, k2⟩ := dpAll_two hv
  exact pu_combined h1 h2 h3 h4 h5 h6 k1 k2 q
/-! ### product_by, times -/
theorem polyTable_len (f x : List Int) : (M.polyTable f x).length = x.length := by unfold M.polyTable; rw [tableTo_is, List.length_map, List.length_range]
theorem polyTable_row (f x : List Int) : ∀ r ∈ M.polyTable f x, r.length = x.length := fun r h => by
  unfold M.polyTable at h
  rw [tableTo_is] at h
  obtain ⟨i, _, rfl⟩ := List.mem_map.mp h
  exact rootPow_len f x i
def TimesIn (f h x : List Int) : Prop := 1 ≤ x.length ∧ x.length ≤ 100 ∧ x.length ≤ f.length ∧ h.length = x.length ∧ (∀ c ∈ f, c.natAbs ≤ 499) ∧ (∀ c ∈ h, c.natAbs ≤ 1000)
def dmProd : List PyData → PyData → Prop := fun ds d => ∃ f h x : List Int, TimesIn f h x ∧ (ds = [dR f, dR h, dR x] ∨ ds = [dR f, dR h, .list (x.map .int)]) ∧ d = dR (M.times f h x)
abbrev sp_product_by (K : PySem.W.Frag) : Sp := spG (onD K dmProd) K
def rd_product_by (K : PySem.W.Frag) : TS := (tRet (tCall (sp_combined K) [] E0 (tCons (tVar 1) (tCons (tCall (sp_poly_table K) [] E0 (tCons (tVar 0) (tCons (tVar 2) tNil))) tNil))))
theorem ok_product_by (T : Tx K mg) : Ok P w K mg base CX0 "product_by" ["poly", "x", "y"] 3 (sp_product_by K) := by
  have O_poly_table := ok_poly_table (P := P) (w := w) (base := base) T
  have O_combined := ok_combined (P := P) (w := w) (base := base) T
  refine ok_ofG T.g_product_by T.f_product_by sc_product_by (fun _ _ _ _ _ _ us hl => match us, hl with | [_, _, _], _ => rfl) (fun vs H d ⟨ds, ⟨f, h, x, _, e, _⟩, hd⟩ => by rcases e with e | e <;> (rw [dpAll_len hd, e]; rfl)) (fun cdv A outer s H vs Q E d hr ⟨ds, ⟨f, h, x, hin, hds, ed⟩, hv⟩ q => ⟨rd_product_by K, PSs.nox ((pss_one (ps_ret (pe_fn O_combined (hr.mono (by decide)) (pa_cons (pv 1) (pa_cons (pe_fn O_poly_table (hr.mono (by decide)) (pa_cons (pv 0) (pa_cons (pv 2) pa_nil))) pa_nil)))))), ?_⟩)
  subst ed
  obtain ⟨h1, h2, h3, h4, h5, h6⟩ := hin
  have key : ∀ {dx : PyData} {v1 v2 v3 : V}, Dp K H v1 (dR f) → Dp K H v2 (dR h) → Dp K H v3 dx → ([dR f, dx] = [dR f, dR x] ∨ [dR f, dx] = [dR f, .list (x.map .int)]) → rd_product_by K { nx := fun _ H' => Q .non H', rt := Q } (start ["poly", "x", "y"] [v1, v2, v3]) H := fun k1 k2 k3 hd =>
    s_retD (d_call (dom := dmComb) (d := dR (M.times f h x)) (a_cons (d_var rfl k2) (a_cons (d_call (dom := dmPolyT) (d := dT (M.polyTable f x)) (a_cons (d_var rfl k1) (a_cons (d_var rfl k3) a_nil)) ⟨f, x, h1, h2, h3, h5, hd, rfl⟩) a_nil)) ⟨h, M.polyTable f x, x.length, by rw [polyTable_len, h4], by rw [polyTable_len]; exact h1, by rw [polyTable_len]; omega, by omega, polyTable_row f x, h6, rfl, rfl⟩) q
  rcases hds with rfl | rfl
  · obtain ⟨v1, v2, v3, rfl, k1, k2, k3⟩ := dpAll_three hv
    exact key k1 k2 k3 (.inl rfl)
  · obtain ⟨v1, v2, v3, rfl, k1, k2, k3⟩ := dpAll_three hv
    exact key k1 k2 k3 (.inr rfl)
/-- ring first, then data -/
def onRing (K : PySem.W.Frag) {α : Type} (dom : List Int → List PyData → α → Prop) : List V → Hp → α → Prop := fun vs H d => ∃ u us f ds, vs = u :: us ∧ RingAt K H u f ∧ dom f ds d ∧ DpAll K H us ds
theorem d_callR {σ : L2.St} {H : Hp} {ta : TA} {te : TE} {u : V} {f : List Int} {ds : List PyData} {d : PyData} {E : XK} {dom : List Int → List PyData → PyData → Prop} (hu : Ev te σ H u) (hr : RingAt K H u f) (h : EvAD K ta σ H ds) (hd : dom f ds d) : EvD K (tCall (spG (onRing K dom) K) [] E (tCons te ta)) σ H d :=
  d_callG (a_consV hu h) fun vs H2 e2 ⟨us, e, p⟩ => ⟨u, us, f, ds, e, hr.mono e2, hd, p⟩
def dmTimes : List Int → List PyData → PyData → Prop := fun f ds d => ∃ h x : List Int, TimesIn f h x ∧ (ds = [dR h, dR x] ∨ ds = [dR h, .list (x.map .int)]) ∧ d = dR (M.times f h x)
abbrev sp_times (K : PySem.W.Frag) : Sp := spG (onRing K dmTimes) K
def rd_times (K : PySem.W.Frag) : TS := (tRet (tCall (sp_product_by K) [] E0 (tCons (tFld K (tVar 0) "poly") (tCons (tVar 1) (tCons (tVar 2) tNil)))))
theorem ok_times (T : Tx K mg) : Ok P w K mg base CX0 "times" ["ring", "x", "y"] 4 (sp_times K) := by
  have O_product_by := ok_product_by (P := P) (w := w) (base := base) T
  refine ok_ofG T.g_times T.f_times sc_times (fun _ _ _ _ _ _ us hl => match us, hl with | [_, _, _], _ => rfl) (fun vs H d ⟨u, us, f, ds, e, _, ⟨h, x, _, e2, _⟩, hd⟩ => by rcases e2 with e2 | e2 <;> (rw [e, List.length_cons, dpAll_len hd, e2]; rfl)) (fun cdv A outer s H vs Q E d hr ⟨u, us, f, ds, e, hR, ⟨h, x, hin, hds, ed⟩, hd⟩ q => ⟨rd_times K, PSs.nox ((pss_one (ps_ret (pe_fn O_product_by (hr.mono (by decide)) (pa_cons (pe_fld (pv 0) rfl) (pa_cons (pv 1) (pa_cons (pv 2) pa_nil))))))), ?_⟩)
  subst ed e
  have key : ∀ {dx : PyData} {v2 v3 : V}, Dp K H v2 (dR h) → Dp K H v3 dx → ([dR f, dR h, dx] = [dR f, dR h, dR x] ∨ [dR f, dR h, dx] = [dR f, dR h, .list (x.map .int)]) → rd_times K { nx := fun _ H' => Q .non H', rt := Q } (start ["ring", "x", "y"] [u, v2, v3]) H := fun k2 k3 hd =>
    s_retD (d_call (dom := dmProd) (d := dR (M.times f h x)) (a_cons (d_poly T (ev_var rfl) hR) (a_cons (d_var rfl k2) (a_cons (d_var rfl k3) a_nil))) ⟨f, h, x, hin, hd, rfl⟩) q
  rcases hds with rfl | rfl
  · obtain ⟨v2, v3, rfl, k2, k3⟩ := dpAll_two hd
    exact key k2 k3 (.inl rfl)
  · obtain ⟨v2, v3, rfl, k2, k3⟩ := dpAll_two hd
    exact key k2 k3 (.inr rfl)
end
end K41
set_option Elab.async false
set_option linter.all false
set_option maxRecDepth 100000
set_option maxHeartbeats 4000000
namespace K41
open PySem PySem.Spec PyProof.Rows L2 Evl
local macro_rules | `(tactic| walk_at "cc") => `(tactic| first
  | assumption
  | (with_reducible show (0 : Int) < _; omega)
  | exact Or.inl ⟨by omega, by omega⟩
  | exact Or.inr ⟨by omega, by omega⟩
  | exact And.intro (by omega) (by omega)
  | (show (0 : Int) < _; omega)
  | omega)
local macro_rules | `(tactic| walk_at "ev") => `(tactic| first
  | assumption
  | with_reducible exact ev_c
  | exact ev_var rfl
  | ((with_reducible refine' ev_op ?ka ?kb rv_I0); (case ka => walk_at "ev"); (case kb => walk_at "ev"))
  | ((with_reducible refine' ev_op ?ka ?kb (rv_I ?kc)); (case ka => walk_at "ev"); (case kb => walk_at "ev"); (case kc => walk_at "cc"))
  | ((with_reducible refine' ev_op (r := rEq) ?ka ?kb ?kd); (case ka => walk_at "ev"); (case kb => walk_at "ev"); (case kd => refine' rv_eq ?kc; rfl))
  | ((with_reducible refine' ev_op (r := rNe) ?ka ?kb ?kd); (case ka => walk_at "ev"); (case kb => walk_at "ev"); (case kd => refine' rv_ne ?kc; rfl))
  | ((with_reducible refine' ev_un ?ka ru_neg); (case ka => walk_at "ev"))
  | ((with_reducible refine' et_test ?ka); (case ka => walk_at "ev")))

section
variable {P : Program} {w : World} {K : PySem.W.Frag} {mg : Str → Option Value} {base : Heap}
/-! ### prime_table -/
def pLeft (g : List Int) (p : Int) (i : Nat) : List Int := (M.modParted (List.replicate i 0 ++ [1]) g p).2
def negTo (p : Int) (left : List Int) (many : Nat) (k : Nat) : List Int := (List.range many).map fun j => if j < k then -left.getD j 0 % p else 0
theorem negTo_len (p : Int) (left : List Int) (many k : Nat) : (negTo p left many k).length = many := by unfold negTo; rw [List.length_map, List.length_range]
theorem negTo_at {p : Int} {left : List Int} {many k j : Nat} (h : j < many) : (negTo p left many k).getD j 0 = if j < k then -left.getD j 0 % p else 0 := by
  unfold negTo
  rw [List.getD_eq_getElem?_getD, List.getElem?_map, List.getElem?_range h]
  rfl
theorem negTo_zero (p : Int) (left : List Int) (many : Nat) : negTo p left many 0 = List.replicate many 0 := by
  apply List.ext_getElem
  · rw [negTo_len, List.length_replicate]
  · intro i h1 h2
    rw [← getD_at h1, negTo_at (by rw [negTo_len] at h1; exact h1), List.getElem_replicate]
    rfl
theorem negTo_set {p : Int} {left : List Int} {many k : Nat} (h : k < many) : (negTo p left many k).set k (-left.getD k 0 % p) = negTo p left many (k + 1) := by
  apply List.ext_getElem
  · rw [List.length_set, negTo_len, negTo_len]
  · intro i h1 h2
    rw [negTo_len] at h2
    rw [List.getElem_set, ← getD_at (by rw [negTo_len]; exact h2), ← getD_at (l := negTo p left many (k + 1)) (by rw [negTo_len]; exact h2), negTo_at h2, negTo_at h2]
    by_cases e : k = i
    · subst e
      rw [if_pos rfl, if_pos (by omega)]
    · rw [if_neg e]
      by_cases c : i < k
      · rw [if_pos c, if_pos (by omega)]
      · rw [if_neg c, if_neg (by omega)]
def primeRow (many : Nat) (g : List Int) (p : Int) (i : Nat) : List Int :=
  if i < g.length - 1 then (List.replicate many 0).set i p else (negTo p (pLeft g p i) many (pLeft g p i).length).set i 1
def primeTable (many : Nat) (g : List Int) (p : Int) : List (List Int) := (List.range many).map (primeRow many g p)
theorem primeRow_len (many : Nat) (g : List Int) (p : Int) (i : Nat) : (primeRow many g p i).length = many := by
  unfold primeRow
  split
  · rw [List.length_set, List.length_replicate]
  · rw [List.length_set, negTo_len]
theorem pLeft_len (g : List Int) {p : Int} (i : Nat) : (pLeft g p i).length ≤ (M.modPoly g p).length - 1 := by
  unfold pLeft M.modParted M.mdiv
  refine Nat.le_trans (cut_len _) ?_
  rw [List.length_take]
  exact Nat.min_le_left _ _
def dmPrimeT : List PyData → PyData → Prop := fun ds d => ∃ (many : Nat) (g : List Int) (p : Int), many ≤ 500 ∧ 1 ≤ g.length ∧ g.length ≤ 500 ∧ 1 ≤ (M.modPoly g p).length ∧ 0 < p ∧ p ≤ 1000 ∧ ds = [.int (many : Int), dR g, .int p] ∧ d = dT (primeTable many g p)
abbrev sp_prime_table (K : PySem.W.Frag) : Sp := spG (onD K dmPrimeT) K
def rd_prime_table (K : PySem.W.Frag) : TS := (tSeq (tAsg (tOp oSub (tCB (rLenS K) (tCons (tVar 1) tNil)) (tC (.int 1))) (gName 3))
  (tSeq (tAsg (tLst tNil) (gName 4))
  (tSeq (tFor (iRng1 (tCons (tVar 0) tNil)) (gName 5)
  (tSeq (tAsg (tOp rRep (tLst (tCons (tC (.int 0)) tNil)) (tVar 0)) (gName 6))
  (tCut (tIfS (tTest (tOp oLt (tVar 5) (tVar 3))) (tAsg (tVar 2) (gSub (tVar 6) (tVar 5) rSetL)) (tSeq (tAsg (tOp (rIxT K) (tCall (sp_mod_parted K) [] E0 (tCons (tCB (rTupleS K) (tCons (tOp rCat (tOp rRep (tLst (tCons (tC (.int 0)) tNil)) (tVar 5)) (tLst (tCons (tC (.int 1)) tNil))) tNil)) (tCons (tVar 1) (tCons (tVar 2) tNil)))) (tC (.int 1))) (gName 7))
  (tSeq (tFor (iRng1 (tCons (tCB (rLenS K) (tCons (tVar 7) tNil)) tNil)) (gName 8)
  (tAsg (tOp oMod (tUn uNeg (tOp (rIxT K) (tVar 7) (tVar 8))) (tVar 2)) (gSub (tVar 6) (tVar 8) rSetL)))
  (tAsg (tC (.int 1)) (gSub (tVar 6) (tVar 5) rSetL)))))
  (tDrop (tBM K "list" rAppend (tVar 4) (tCons (tCB (rTupleS K) (tCons (tVar 6) tNil)) tNil))))))
  (tRet (tCB (rTupleS K) (tCons (tVar 4) tNil))))))
set_option maxHeartbeats 8000000 in
theorem pu_prime_table {H : Hp} {u : V} {many : Nat} {g : List Int} {p : Int} {Q : VK} (hm : many ≤ 500) (hg1 : 1 ≤ g.length) (hg : g.length ≤ 500) (hq1 : 1 ≤ (M.modPoly g p).length) (hp : 0 < p) (hp2 : p ≤ 1000) (hu : Dp K H u (dR g)) (q : ∀ v H2, Ex H H2 → Dp K H2 v (dT (primeTable many g p)) → Q v H2) :
    rd_prime_table K { nx := fun _ H' => Q .non H', rt := Q } (start ["many", "g", "p", "low", "rows", "i", "row", "left", "j"] [.int (many : Int), u, .int p]) H := by
  refine q_asg (v := .int ((g.length - 1 : Nat) : Int)) (ev_is (ev_op (ev_lenD (d_var rfl hu) (.inl rfl)) ev_c rv_I0) (congrArg V.int (by rw [List.length_map]; omega))) fun H1 e1 => ?_
  refine q_asgL (el_lst (vs := []) ea_nil (Nat.le_of_ble_eq_true rfl)) fun rp H2 nr e2 hrp => ?_
  have nr0 : H rp = none := fresh_back e1 nr
  refine q_forR1 (n := (many : Int)) (ea_cons (ev_var rfl) ea_nil) ⟨by omega, by omega⟩
    (fun i σ' H' => ∃ (y1 y2 y3 y4 : Option V) (zs : List V), σ' = [some (.int (many : Int)), some u, some (.int p), some (.int ((g.length - 1 : Nat) : Int)), some (.ref rp), y1, y2, y3, y4] ∧ Ex H H' ∧ H' rp = some (.lst zs) ∧ DpAll K H' zs (((List.range i).map (primeRow many g p)).map dR))
    (fun H3 e3 => ⟨none, none, none, none, [], rfl, (e1.trans e2).trans e3, e3 _ _ hrp, .nil⟩) ?_ ?_
  · rintro i σ' H' hi ⟨y1, y2, y3, y4, zs, rfl, e', hrp', hz⟩
    have hi : i < many := by omega
    refine q_asgN (n_rep (K := K) (d := .int 0) (n_lst (a_cons (d_int ev_c) a_nil) (len1 _)) (ev_var rfl) (by omega)) fun tp xs H3 nt e3 htp hxs => ?_
    have nt0 : H tp = none := fresh_back e' nt
    have exs : xs = (List.replicate many (0 : Int)).map V.int := dpAll_intsV (by rw [List.map_replicate]; exact hxs)
    subst exs
    have e03 := e'.trans e3
    have ntr : tp ≠ rp := fun e => by rw [e, hrp'] at nt; cases nt
    have hrp3 := e3 _ _ hrp'
    have hz3 := dpAll_ex e3 hz
    have tOz : tOs (((List.range i).map (primeRow many g p)).map dR) = true := tOs_all fun x hx => by obtain ⟨l, _, rfl⟩ := List.mem_map.mp hx; exact tO_R l
    have hzl : zs.length ≤ many := by rw [dpAll_len hz, List.length_map, List.length_map, List.length_range]; omega
    have ezd : ((List.range (i + 1)).map (primeRow many g p)).map dR = ((List.range i).map (primeRow many g p)).map dR ++ [dR (primeRow many g p i)] := by
      rw [List.range_succ, List.map_append, List.map_append]
      rfl
    rw [ezd]
    generalize ((List.range i).map (primeRow many g p)).map dR = zd at *
    refine q_cut (M := fun σ' H' => ∃ y3 y4, σ' = [some (.int (many : Int)), some u, some (.int p), some (.int ((g.length - 1 : Nat) : Int)), some (.ref rp), some (.int (i : Int)), some (.ref tp), y3, y4] ∧ Ex H H' ∧ H' rp = some (.lst zs) ∧ DpAll K H' zs zd ∧ H' tp = some (.lst ((primeRow many g p i).map V.int)))
      (s_if (b := decide (i < g.length - 1)) (et_is (et_test (ev_op (ev_var rfl) (ev_var rfl) rv_I0)) (by simp)) (fun hc H4 e4 => ?_) (fun hc H4 e4 => ?_)) ?_
    · have hc := of_decide_eq_true hc
      refine s_setL (v := .int p) (j := i) (e4 _ _ htp) (ev_var rfl) (ev_var rfl) (ev_var rfl) (by rw [List.length_map, List.length_replicate]; exact hi) fun H5 e5 => ?_
      have k5 : KT K H5 (upd H5 tp (.lst (((List.replicate many (0 : Int)).map V.int).set i (.int p)))) := KT.updL ((e4.trans e5) _ _ htp)
      refine ⟨y3, y4, rfl, Ex.mut ((e03.trans e4).trans e5) nt0, ?_, dpAll_kt k5 tOz (dpAll_ex (e4.trans e5) hz3), ?_⟩
      · rw [upd_ne (Ne.symm ntr)]; exact (e4.trans e5) _ _ hrp3
      · rw [upd_same]
        unfold primeRow
        rw [if_pos hc, List.map_set]
    · have hc := of_decide_eq_false hc
      have e04 := e03.trans e4
      have pl := pLeft_len g (p := p) i
      have ml := modPoly_len g p
      refine q_asgD (d_ixT (d_call (dom := dmModParted) (d := .tuple [dR (M.modParted (List.replicate i 0 ++ [1]) g p).1, dR (pLeft g p i)]) (a_cons (d_cast (e := dR (List.replicate i 0 ++ [1])) (d_tuple (ds := List.replicate i (.int 0) ++ [.int 1]) (d_ofN (n_cat (K := K) (n_rep (K := K) (d := .int 0) (n_lst (a_cons (d_int ev_c) a_nil) (len1 _)) (ev_var rfl) (by omega)) (n_lst (ds := [.int 1]) (a_cons (d_int ev_c) a_nil) (len1 _)) (by rw [List.length_replicate]; simp; omega))) (.inr rfl)) (by unfold dR; rw [List.map_append, List.map_replicate]; rfl)) (a_cons (d_var rfl (dp_ex e04 hu)) (a_cons (d_int (ev_var rfl)) a_nil))) ⟨List.replicate i 0 ++ [1], g, p, by rw [List.length_append, List.length_replicate]; simp; omega, by omega, hq1, hp, hp2, rfl, rfl⟩) ev_c (atI_nat (j := 1) rfl)) fun lv H5 e5 plv => ?_
      have e05 := e04.trans e5
      have htp5 := (e4.trans e5) _ _ htp
      have hrp5 := (e4.trans e5) _ _ hrp3
      have hz5 := dpAll_ex (e4.trans e5) hz3
      have epr : primeRow many g p i = (negTo p (pLeft g p i) many (pLeft g p i).length).set i 1 := by unfold primeRow; rw [if_neg hc]
      rw [epr]
      generalize pLeft g p i = left at *
      refine q_forR1 (n := (left.length : Int)) (ea_cons (ev_is (ev_lenD (d_var rfl plv) (.inl rfl)) (by rw [List.length_map])) ea_nil) ⟨by omega, by omega⟩
        (fun k σ' H' => ∃ y4, σ' = [some (.int (many : Int)), some u, some (.int p), some (.int ((g.length - 1 : Nat) : Int)), some (.ref rp), some (.int (i : Int)), some (.ref tp), some lv, y4] ∧ Ex H H' ∧ H' rp = some (.lst zs) ∧ DpAll K H' zs zd ∧ Dp K H' lv (dR left) ∧ H' tp = some (.lst ((negTo p left many k).map V.int)))
        (fun H6 e6 => ⟨y4, rfl, e05.trans e6, e6 _ _ hrp5, dpAll_ex e6 hz5, dp_ex e6 plv, by rw [negTo_zero]; exact e6 _ _ htp5⟩) ?_ ?_
      · rintro k σ2 H6 hk ⟨y5, rfl, e6, hrp6, hz6, plv6, htp6⟩
        have hk : k < left.length := by omega
        have hkm : k < many := by omega
        refine s_setL (v := .int (-left.getD k 0 % p)) (j := k) htp6 (ev_op (ev_un (ev_row (i := k) (d_var rfl plv6) (ev_var rfl) hk) ru_neg) (ev_var rfl) (rv_I hp)) (ev_var rfl) (ev_var rfl) (by rw [List.length_map, negTo_len]; exact hkm) fun H7 e7 => ?_
        have k7 : KT K H7 (upd H7 tp (.lst (((negTo p left many k).map V.int).set k (.int (-left.getD k 0 % p))))) := KT.updL (e7 _ _ htp6)
        refine ⟨some (.int (k : Int)), rfl, Ex.mut (e6.trans e7) nt0, ?_, dpAll_kt k7 tOz (dpAll_ex e7 hz6), dp_kt k7 (tO_R _) (dp_ex e7 plv6), ?_⟩
        · rw [upd_ne (Ne.symm ntr)]; exact e7 _ _ hrp6
        · rw [upd_same, ← List.map_set, negTo_set hkm]
      · rintro σ2 H6 ⟨y5, rfl, e6, hrp6, hz6, plv6, htp6⟩
        rw [Int.toNat_natCast] at htp6
        refine s_setL (v := .int 1) (j := i) htp6 ev_c (ev_var rfl) (ev_var rfl) (by rw [List.length_map, negTo_len]; exact hi) fun H7 e7 => ?_
        have k7 : KT K H7 (upd H7 tp (.lst (((negTo p left many left.length).map V.int).set i (.int 1)))) := KT.updL (e7 _ _ htp6)
        refine ⟨some lv, y5, rfl, Ex.mut (e6.trans e7) nt0, ?_, dpAll_kt k7 tOz (dpAll_ex e7 hz6), ?_⟩
        · rw [upd_ne (Ne.symm ntr)]; exact e7 _ _ hrp6
        · rw [upd_same, List.map_set]
    · rintro σ' H4 ⟨y5, y6, rfl, e4, hrp4, hz4, htp4⟩
      refine s_appD hrp4 (ev_var rfl) (d_tuple (K := K) (ds := (primeRow many g p i).map .int) (d_ev (ev_var rfl) (.lst (sq_of htp4) (dpAll_ints _))) (.inr rfl)) (by omega) fun v' H5 e5 pv => ?_
      have k5 : KT K H5 (upd H5 rp (.lst (zs ++ [v']))) := KT.updL (e5 _ _ hrp4)
      exact ⟨some (.int (i : Int)), some (.ref tp), y5, y6, _, rfl, Ex.mut (e4.trans e5) nr0, upd_same, dpAll_app (dpAll_kt k5 tOz (dpAll_ex e5 hz4)) (.cons (dp_kt (d := dR (primeRow many g p i)) k5 (tO_R _) pv) .nil)⟩
  · rintro σ' H' ⟨y1, y2, y3, y4, zs, rfl, e', hrp', hz⟩
    rw [Int.toNat_natCast] at hz
    exact s_retD (d_tuple (d_ev (ev_var rfl) (.lst (sq_of hrp') hz)) (.inr rfl)) fun w' H3 e3 pw => q w' H3 (e'.trans e3) pw
theorem ok_prime_table (T : Tx K mg) : Ok P w K mg base CX0 "prime_table" ["many", "g", "p"] 4 (sp_prime_table K) := by
  have O_mod_parted := ok_mod_parted (P := P) (w := w) (base := base) T
  refine ok_ofG T.g_prime_table T.f_prime_table sc_prime_table (fun _ _ _ _ _ _ us hl => match us, hl with | [_, _, _], _ => rfl) (fun vs H d ⟨ds, ⟨f, h, x, _, _, _, _, _, _, e, _⟩, hd⟩ => by rw [dpAll_len hd, e]; rfl) (fun cdv A outer s H vs Q E d hr ⟨ds, ⟨many, g, p, h1, h2, h3, h4, h5, h6, hds, ed⟩, hv⟩ q => ⟨rd_prime_table K, PSs.nox ((pss_cons (ps_set (i := 3) sc_prime_table.nd rfl (Or.inl rfl) (pe_op op_sub (pe_len T.b_len (pv 1)) pe_int))
  (pss_cons (ps_set (i := 4) sc_prime_table.nd rfl (Or.inl rfl) (pe_lst pa_nil))
  (pss_cons (ps_for PassesOwn.never rfl (pi_range1 (by rfl) T.b_range (pa_cons (pv 0) pa_nil)) (pg_name (i := 5) sc_prime_table.nd rfl (Or.inl rfl))
  (pss_cons (ps_set (i := 6) sc_prime_table.nd rfl (Or.inl rfl) (pe_op op_rep (pe_lst (pa_cons pe_int pa_nil)) (pv 0)))
  (pss_cut (ps_if (pt_cmpR op_lt (pv 5) (pv 3) (nomark _)) (pss_one (ps_asg (pv 2) (pg_sub (pv 6) (pv 5) set_list))) (pss_cons (ps_set (i := 7) sc_prime_table.nd rfl (Or.inl rfl) (pe_ix ix_tup (pe_fn O_mod_parted (hr.mono (by decide)) (pa_cons (pe_tuplec T.b_tuple (pe_op op_cat (pe_op op_rep (pe_lst (pa_cons pe_int pa_nil)) (pv 5)) (pe_lst (pa_cons pe_int pa_nil)))) (pa_cons (pv 1) (pa_cons (pv 2) pa_nil)))) pe_int (fun _ _ => rfl)))
  (pss_cons (ps_for PassesOwn.never rfl (pi_range1 (by rfl) T.b_range (pa_cons (pe_len T.b_len (pv 7)) pa_nil)) (pg_name (i := 8) sc_prime_table.nd rfl (Or.inl rfl))
  (pss_one (ps_asg (pe_op op_mod (pe_un un_neg (pe_ix ix_tup (pv 7) (pv 8) (fun _ _ => rfl))) (pv 2)) (pg_sub (pv 6) (pv 8) set_list))))
  (pss_one (ps_asg pe_int (pg_sub (pv 6) (pv 5) set_list))))))
  (pss_one (ps_expr (pe_bm PySem.F.plainAttrs_list PySem.F.slot_list_append PySem.F.type_list_append mt_append (pv 4) (pa_cons (pe_tuplec T.b_tuple (pv 6)) pa_nil)))))))
  (pss_one (ps_ret (pe_tuplec T.b_tuple (pv 4)))))))), ?_⟩)
  subst ed hds
  obtain ⟨v1, v2, v3, rfl, k1, k2, k3⟩ := dpAll_three hv
  rw [dp_int k1, dp_int k3]
  exact pu_prime_table h1 h2 h3 h4 h5 h6 k2 q
end
end K41
set_option Elab.async false
set_option linter.all false
set_option maxRecDepth 100000
set_option maxHeartbeats 4000000
namespace K41
open PySem PySem.Spec PyProof.Rows L2 Evl
local macro_rules | `(tactic| walk_at "cc") => `(tactic| first
  | assumption
  | (with_reducible show (0 : Int) < _; omega)
  | exact Or.inl ⟨by omega, by omega⟩
  | exact Or.inr ⟨by omega, by omega⟩
  | exact And.intro (by omega) (by omega)
  | (show (0 : Int) < _; omega)
  | omega)
local macro_rules | `(tactic| walk_at "ev") => `(tactic| first
  | assumption
  | with_reducible exact ev_c
  | exact ev_var rfl
  | ((with_reducible refine' ev_op ?ka ?kb rv_I0); (case ka => walk_at "ev"); (case kb => walk_at "ev"))
  | ((with_reducible refine' ev_op ?ka ?kb (rv_I ?kc)); (case ka => walk_at "ev"); (case kb => walk_at "ev"); (case kc => walk_at "cc"))
  | ((with_reducible refine' ev_op (r := rEq) ?ka ?kb ?kd); (case ka => walk_at "ev"); (case kb => walk_at "ev"); (case kd => refine' rv_eq ?kc; rfl))
  | ((with_reducible refine' ev_op (r := rNe) ?ka ?kb ?kd); (case ka => walk_at "ev"); (case kb => walk_at "ev"); (case kd => refine' rv_ne ?kc; rfl))
  | ((with_reducible refine' ev_un ?ka ru_neg); (case ka => walk_at "ev"))
  | ((with_reducible refine' et_test ?ka); (case ka => walk_at "ev")))

section
variable {P : Program} {w : World} {K : PySem.W.Frag} {mg : Str → Option Value} {base : Heap}
/-! ### above -/
theorem cut_cut : ∀ l : List Int, M.cut (M.cut l) = M.cut l
  | [] => rfl
  | c :: f => by
    have ih := cut_cut f
    have e : M.cut (c :: f) = (match M.cut f with | [] => if c = 0 then [] else [c] | d :: r => c :: d :: r) := rfl
    rw [e]
    cases h : M.cut f with
    | nil =>
      by_cases hc : c = 0
      · simp only [if_pos hc]; rfl
      · simp only [if_neg hc]
        show (match M.cut [] with | [] => if c = 0 then [] else [c] | d :: r => c :: d :: r) = [c]
        rw [show M.cut [] = [] from rfl]
        simp only [if_neg hc]
    | cons d r =>
      show (match M.cut (d :: r) with | [] => if c = 0 then [] else [c] | d :: r => c :: d :: r) = c :: d :: r
      rw [← h, ih, h]
theorem peel_cut {p low : Int} : ∀ (n : Nat) (left : List Int), M.cut left = left → M.cut (M.peel n p low left).2 = (M.peel n p low left).2
  | 0, _, h => h
  | n + 1, left, h => by
    unfold M.peel
    split
    · exact peel_cut n _ (cut_cut _)
    · exact h
theorem roots_cut {p : Int} {left : List Int} (h : M.cut left = left) : ∀ n : Nat, M.cut (M.splitRoots p left n).2 = (M.splitRoots p left n).2
  | 0 => h
  | n + 1 => by
    rw [splitRoots_succ]
    exact peel_cut _ _ (roots_cut h n)
theorem modPoly_self {p : Int} {g : List Int} (h : ∀ c ∈ g, 0 ≤ c ∧ c < p) (hc : M.cut g = g) : M.modPoly g p = g := by
  unfold M.modPoly
  have e : g.map (· % p) = g := by
    conv => rhs; rw [← List.map_id g]
    exact List.map_congr_left fun c hc => Int.emod_eq_of_lt (h c hc).1 (h c hc).2
  rw [e, hc]
theorem rootless_cut {left : List Int} {p : Int} (hp : 2 ≤ p) (hl : M.cut left = left) : ∀ r ∈ M.rootless left p, M.cut r.1 = r.1 := by
  have q : ∀ g, Quad p g → M.cut g = g := by
    rintro g ⟨b, a, rfl, _⟩
    exact cut_last (by simp)
  intro r hr
  unfold M.rootless at hr
  split at hr
  · simp at hr; subst hr; exact hl
  · rename_i g h e
    have qd : Quad p g ∧ Quad p h := by
      split at e
      · exact pairOf_quad hp e
      · cases e
    split at hr
    · simp at hr; subst hr; exact q _ qd.1
    · split at hr
      · simp at hr
        rcases hr with rfl | rfl
        · exact q _ qd.1
        · exact q _ qd.2
      · simp at hr
        rcases hr with rfl | rfl
        · exact q _ qd.2
        · exact q _ qd.1
theorem split_cut {f : List Int} {p : Int} (hp : 2 ≤ p) : ∀ r ∈ M.split f p, M.cut r.1 = r.1 := fun r h => by
  rcases List.mem_append.mp (show r ∈ (M.splitRoots p (M.modPoly f p) p.toNat).1 ++ _ from h) with h | h
  · obtain ⟨low, h0, h1, e⟩ := roots_shape hp p.toNat (by omega) r h
    rw [e]
    exact cut_last (by simp)
  · split at h
    · exact rootless_cut hp (roots_cut (cut_cut _) _) r h
    · cases h
def dAb (f : List Int) (p : Int) (r : List Int × Nat) : PyData := .tuple [dT (primeTable (f.length - 1) r.1 p), .int (r.2 : Int), .int ((r.1.length - 1 : Nat) : Int)]
theorem tO_Ab (f : List Int) (p : Int) (l : List (List Int × Nat)) : tOs (l.map (dAb f p)) = true := tOs_all fun d h => by
  obtain ⟨r, _, rfl⟩ := List.mem_map.mp h
  simp [dAb, tO, tOs, tO_T]
def dmAbove : List Int → List PyData → List PyData → Prop := fun f ds es => ∃ p : Int, 1 ≤ f.length ∧ f.length ≤ 5 ∧ p ∈ primes ∧ ds = [.int p] ∧ es = (M.split f p).map (dAb f p)
abbrev sp_above (K : PySem.W.Frag) : Sp := spN (onRing K dmAbove) K
theorem n_callR {σ : L2.St} {H : Hp} {ta : TA} {te : TE} {u : V} {f : List Int} {ds es : List PyData} {E : XK} {dom : List Int → List PyData → List PyData → Prop} (hu : Ev te σ H u) (hr : RingAt K H u f) (h : EvAD K ta σ H ds) (hd : dom f ds es) : EvN K (tCall (spN (onRing K dom) K) [] E (tCons te ta)) σ H es :=
  n_callG (a_consV hu h) fun vs H2 e2 ⟨us, e, p⟩ => ⟨u, us, f, ds, e, hr.mono e2, hd, p⟩
def rd_above (K : PySem.W.Frag) : TS := (tSeq (tAsg (tLst tNil) (gName 2))
  (tSeq (tFor (iList K (tCall (sp_split_by K) [] E0 (tCons (tFld K (tVar 0) "poly") (tCons (tVar 1) tNil)))) (gTup K 2 (gCons (gName 3) (gCons (gName 4) gNil)))
  (tDrop (tBM K "list" rAppend (tVar 2) (tCons (tTup (tCons (tCall (sp_prime_table K) [] E0 (tCons (tFld K (tVar 0) "degree") (tCons (tVar 3) (tCons (tVar 1) tNil)))) (tCons (tVar 4) (tCons (tOp oSub (tCB (rLenS K) (tCons (tVar 3) tNil)) (tC (.int 1))) tNil)))) tNil))))
  (tRet (tVar 2))))
theorem pu_above {H : Hp} {u : V} {f : List Int} {p : Int} {Q : VK} (T : Tx K mg) (hf1 : 1 ≤ f.length) (hf : f.length ≤ 5) (hpr : p ∈ primes) (hR : RingAt K H u f)
    (q : ∀ l xs H2, H l = none → Ex H H2 → H2 l = some (.lst xs) → DpAll K H2 xs ((M.split f p).map (dAb f p)) → Q (.ref l) H2) :
    rd_above K { nx := fun _ H' => Q .non H', rt := Q } (start ["ring", "p", "found", "g", "often"] [u, .int p]) H := by
  obtain ⟨hp, hp2⟩ := primes_ge p hpr
  have shape := split_shape (f := f) (p := p) hf hp
  have cutd := split_cut (f := f) hp
  have len := split_len (f := f) (p := p) hf hp hp2
  refine q_asgL (el_lst (vs := []) ea_nil (Nat.le_of_ble_eq_true rfl)) fun pp H1 np e1 hpp => ?_
  refine q_forN (n_call (dom := dmSplit) (a_cons (d_poly T (ev_var rfl) (hR.mono e1)) (a_cons (d_int (ev_var rfl)) a_nil)) ⟨f, p, hf, hpr, rfl, rfl⟩)
    (fun l xs i σ' H' => ∃ (y z : Option V) (ys : List V), σ' = [some u, some (.int p), some (.ref pp), y, z] ∧ Ex H H' ∧ l ≠ pp ∧ H' l = some (.lst xs) ∧ DpAll K H' xs ((M.split f p).map dGK) ∧ H' pp = some (.lst ys) ∧ DpAll K H' ys (((M.split f p).take i).map (dAb f p)))
    (fun l xs H2 nl e2 hl hx => ⟨none, none, [], rfl, e1.trans e2, (fun e => by rw [e, hpp] at nl; cases nl), hl, hx, e2 _ _ hpp, .nil⟩)
    (fun l xs i σ' H' ⟨_, _, _, _, _, _, h1, h2, _⟩ => ⟨h1, h2⟩) ?_ ?_
  · rintro l xs i x dx σ' H' hdx pdx ⟨y, z, ys, rfl, e', ne, hl, hx, hp', hy⟩
    rw [List.getElem?_map] at hdx
    cases er : (M.split f p)[i]? with
    | none => rw [er] at hdx; cases hdx
    | some r =>
      rw [er] at hdx
      cases hdx
      obtain ⟨sh1, sh2⟩ := shape r (List.mem_of_getElem? er)
      have mp := modPoly_self sh2.2 (cutd r (List.mem_of_getElem? er))
      have et : (M.split f p).take (i + 1) = (M.split f p).take i ++ [r] := by rw [List.take_add_one, er]; rfl
      have il : ((M.split f p).take i).length ≤ 300 := by rw [List.length_take]; omega
      refine g_tup2 (d1 := dR r.1) (d2 := .int (r.2 : Int)) pdx fun u1 u2 k1 k2 => ?_
      rw [dp_int k2]
      have s5 := sh2.1
      refine s_appD hp' (ev_var rfl) (d_tup (K := K) (ds := [dT (primeTable (f.length - 1) r.1 p), .int (r.2 : Int), .int ((r.1.length - 1 : Nat) : Int)]) (a_cons (d_call (dom := dmPrimeT) (a_cons (d_int (ev_is (ev_degree T (ev_var rfl) (hR.mono e')) (show _ = V.int ((f.length - 1 : Nat) : Int) from congrArg V.int (by omega)))) (a_cons (d_var rfl k1) (a_cons (d_int (ev_var rfl)) a_nil))) ⟨f.length - 1, r.1, p, by omega, by omega, by omega, by rw [mp]; omega, by omega, by omega, rfl, rfl⟩) (a_cons (d_int (ev_var rfl)) (a_cons (d_int (ev_is (ev_op (ev_lenD (d_var rfl k1) (.inl rfl)) ev_c rv_I0) (congrArg V.int (by rw [List.length_map]; omega)))) a_nil))) (len3 _ _ _)) (by rw [dpAll_len hy, List.length_map]; omega) fun v' H8 e8 pv => ?_
      have k8 : KT K H8 (upd H8 pp (.lst (ys ++ [v']))) := KT.updL (e8 _ _ hp')
      refine ⟨some u1, some (.int (r.2 : Int)), _, rfl, Ex.mut (e'.trans e8) np, ne, ?_, ?_, upd_same, ?_⟩
      · rw [upd_ne ne]; exact e8 _ _ hl
      · exact dpAll_kt k8 (tO_GK _) (dpAll_ex e8 hx)
      · rw [et, List.map_append]
        exact dpAll_app (dpAll_kt k8 (tO_Ab f p _) (dpAll_ex e8 hy)) (.cons (dp_kt (d := dAb f p r) k8 (by simp [dAb, tO, tOs, tO_T]) pv) .nil)
  · rintro l xs σ' H' ⟨y, z, ys, rfl, e', ne, hl, hx, hp', hy⟩
    rw [List.length_map, List.take_length] at hy
    exact s_ret (ev_var rfl) fun H6 e6 => q pp ys H6 np (e'.trans e6) (e6 _ _ hp') (dpAll_ex e6 hy)
theorem ok_above (T : Tx K mg) : Ok P w K mg base CX0 "above" ["ring", "p"] 5 (sp_above K) := by
  have O_split_by := ok_split_by (P := P) (w := w) (base := base) T
  have O_prime_table := ok_prime_table (P := P) (w := w) (base := base) T
  refine ok_ofN T.g_above T.f_above sc_above (fun _ _ _ _ _ _ us hl => match us, hl with | [_, _], _ => rfl) (fun vs H d ⟨u, us, f, ds, e, _, ⟨p, _, _, _, e2, _⟩, hd⟩ => by rw [e, List.length_cons, dpAll_len hd, e2]; rfl) (fun cdv A outer s H vs Q E d hr ⟨u, us, f, ds, e, hR, ⟨p, h1, h2, h3, hds, ed⟩, hd⟩ q => ⟨rd_above K, PSs.nox ((pss_cons (ps_set (i := 2) sc_above.nd rfl (Or.inl rfl) (pe_lst pa_nil))
  (pss_cons (ps_for PassesOwn.never rfl (pi_list (pe_fn O_split_by (hr.mono (by decide)) (pa_cons (pe_fld (pv 0) rfl) (pa_cons (pv 1) pa_nil)))) (pg_tup rfl (pgs_cons (pg_name (i := 3) sc_above.nd rfl (Or.inl rfl)) (pgs_cons (pg_name (i := 4) sc_above.nd rfl (Or.inl rfl)) pgs_nil)))
  (pss_one (ps_expr (pe_bm PySem.F.plainAttrs_list PySem.F.slot_list_append PySem.F.type_list_append mt_append (pv 2) (pa_cons (pe_tup (pa_cons (pe_fn O_prime_table (hr.mono (by decide)) (pa_cons (pe_fld (pv 0) rfl) (pa_cons (pv 3) (pa_cons (pv 1) pa_nil)))) (pa_cons (pv 4) (pa_cons (pe_op op_sub (pe_len T.b_len (pv 3)) pe_int) pa_nil)))) pa_nil)))))
  (pss_one (ps_ret (pv 2)))))), ?_⟩)
  subst ed hds e
  obtain ⟨v, rfl, k1⟩ := dpAll_one hd
  rw [dp_int k1]
  exact pu_above T h1 h2 h3 hR q
/-! ### turner -/
def t00 (t : List (List Int)) : Int := (t.getD 0 []).getD 0 0
def diagP (t : List (List Int)) (n : Nat) : List Nat := (List.range n).filter fun k => decide ((t.getD k []).getD k 0 = t00 t)
def turnG (f : List Int) (t : List (List Int)) : List Int := if (diagP t (f.length - 1)).length < f.length - 1 then (t.getD (diagP t (f.length - 1)).length []).take ((diagP t (f.length - 1)).length + 1) else f
def turnerM (f : List Int) (t : List (List Int)) : List Int := (M.modParted f (turnG f t) (t00 t)).1 ++ List.replicate (f.length - 1 - (M.modParted f (turnG f t) (t00 t)).1.length) 0
def TurnIn (f : List Int) (t : List (List Int)) : Prop := 2 ≤ f.length ∧ f.length ≤ 100 ∧ t.length = f.length - 1 ∧ (∀ r ∈ t, r.length = f.length - 1) ∧ 0 < t00 t ∧ t00 t ≤ 1000 ∧ 2 ≤ (M.modPoly (turnG f t) (t00 t)).length
def dmTurner : List Int → List PyData → PyData → Prop := fun f ds d => ∃ t, TurnIn f t ∧ ds = [dT t] ∧ d = dR (turnerM f t)
abbrev sp_turner (K : PySem.W.Frag) : Sp := spG (onRing K dmTurner) K
def rd_turner (K : PySem.W.Frag) : TS := (tSeq (tAsg (tOp (rIxT K) (tOp (rIxT K) (tVar 1) (tC (.int 0))) (tC (.int 0))) (gName 2))
  (tSeq (tAsg (tCB (rLenS K) (tCons (tLc (iRng1 (tCons (tFld K (tVar 0) "degree") tNil)) (gName 6) (tTest (tOp rEq (tOp (rIxT K) (tOp (rIxT K) (tVar 1) (tVar 6)) (tVar 6)) (tVar 2))) (tVar 6) [6]) tNil)) (gName 3))
  (tSeq (tAsg (tFld K (tVar 0) "poly") (gName 4))
  (tCut (tIfS (tTest (tOp oLt (tVar 3) (tFld K (tVar 0) "degree"))) (tAsg (tSl (rSlA K) (tOp (rIxT K) (tVar 1) (tVar 3)) tNoPart (tPart (tOp oAdd (tVar 3) (tC (.int 1))))) (gName 4)) tNext)
  (tSeq (tAsg (tOp (rIxT K) (tCall (sp_mod_parted K) [] E0 (tCons (tFld K (tVar 0) "poly") (tCons (tVar 4) (tCons (tVar 2) tNil)))) (tC (.int 0))) (gName 5))
  (tRet (tCB (rTupleS K) (tCons (tOp rCat (tCB (rListS K) (tCons (tVar 5) tNil)) (tOp rRep (tLst (tCons (tC (.int 0)) tNil)) (tOp oSub (tFld K (tVar 0) "degree") (tCB (rLenS K) (tCons (tVar 5) tNil))))) tNil))))))))
theorem ev_cell {σ : L2.St} {H : Hp} {ta tb tc : TE} {t : List (List Int)} {i j : Nat} (h : EvD K ta σ H (dT t)) (hi : Ev tb σ H (.int (i : Int))) (hj : Ev tc σ H (.int (j : Int))) (h1 : i < t.length) (h2 : j < (t.getD i []).length) : Ev (tOp (rIxT K) (tOp (rIxT K) ta tb) tc) σ H (.int ((t.getD i []).getD j 0)) :=
  ev_row (i := j) (d_ixT h hi (atI_nat (rowsAt h1))) hj h2
set_option maxHeartbeats 8000000 in
theorem pu_turner {H : Hp} {u v : V} {f : List Int} {t : List (List Int)} {Q : VK} (T : Tx K mg) (hin : TurnIn f t) (hR : RingAt K H u f) (hv : Dp K H v (dT t)) (q : ∀ v H2, Ex H H2 → Dp K H2 v (dR (turnerM f t)) → Q v H2) :
    rd_turner K { nx := fun _ H' => Q .non H', rt := Q } (start ["ring", "P", "p", "low", "g", "places", "k"] [u, v]) H := by
  obtain ⟨hf1, hf, ht, hrow, hp, hp2, hg⟩ := hin
  have lrow : ∀ i, i < f.length - 1 → (t.getD i []).length = f.length - 1 := fun i hi => hrow _ (memAt (by omega))
  have egg : turnG f t = if (diagP t (f.length - 1)).length < f.length - 1 then (t.getD (diagP t (f.length - 1)).length []).take ((diagP t (f.length - 1)).length + 1) else f := rfl
  have ett : turnerM f t = (M.modParted f (turnG f t) (t00 t)).1 ++ List.replicate (f.length - 1 - (M.modParted f (turnG f t) (t00 t)).1.length) 0 := rfl
  have hlow : (diagP t (f.length - 1)).length ≤ f.length - 1 := Nat.le_trans (List.length_filter_le _ _) (by rw [List.length_range]; exact Nat.le_refl _)
  have hpl : (M.modParted f (turnG f t) (t00 t)).1.length ≤ f.length - 1 := by
    refine Nat.le_trans (mdiv_len _ _ _ _) ?_
    have := modPoly_len f (t00 t)
    omega
  have hglen : (turnG f t).length ≤ 101 := by
    rw [egg]
    split
    · rw [List.length_take]; omega
    · omega
  have edeg : (f.length : Int) - 1 = ((f.length - 1 : Nat) : Int) := by omega
  refine q_asg (v := .int (t00 t)) (ev_cell (i := 0) (j := 0) (d_var rfl hv) ev_c ev_c (by omega) (by rw [lrow 0 (by omega)]; omega)) fun H1 e1 => ?_
  have hdg : diagP t (f.length - 1) = (List.range (f.length - 1)).filter fun k => decide ((t.getD k []).getD k 0 = t00 t) := rfl
  refine q_asg (v := .int ((diagP t (f.length - 1)).length : Int)) (ev_is (ev_lenD (d_ofN (n_lcR1 (K := K) (n := f.length - 1) (fun i => ((List.range i).filter fun k => decide ((t.getD k []).getD k 0 = t00 t)).map fun k : Nat => PyData.int (k : Int)) (ea_cons (ev_is (ev_degree T (ev_var rfl) (hR.mono e1)) (congrArg V.int edeg)) ea_nil) (by omega) rfl
    (fun i hi => ⟨by rw [List.length_map]; exact Nat.lt_of_le_of_lt (List.length_filter_le _ _) (by rw [List.length_range]; omega), tOs_all fun d hd => by
      obtain ⟨c, _, rfl⟩ := List.mem_map.mp hd
      simp [tO]⟩) (fun x => rfl)
    (fun i H2 e2 hi => ⟨decide ((t.getD i []).getD i 0 = t00 t), et_is (et_test (ev_op (ev_cell (i := i) (j := i) (d_var rfl (dp_ex (e1.trans e2) hv)) (ev_var rfl) (ev_var rfl) (by omega) (by rw [lrow i hi]; exact hi)) (ev_var rfl) (rv_eq rfl))) (by simp), fun hb => ⟨.int (i : Int), by simp [tO], d_int (ev_var rfl), by
      rw [List.range_succ, List.filter_append, List.map_append]
      congr 1
      show (List.filter _ [i]).map _ = _
      rw [List.filter_cons, if_pos hb]
      rfl⟩, fun hb => by
      rw [List.range_succ, List.filter_append, List.map_append]
      show _ ++ (List.filter _ [i]).map _ = _
      rw [List.filter_cons, if_neg (by rw [hb]; decide)]
      exact List.append_nil _⟩))) (.inr rfl)) (by rw [List.length_map, ← hdg])) fun H2 e2 => ?_
  have e02 := e1.trans e2
  refine q_asgD (d_poly T (ev_var rfl) (hR.mono e02)) fun g0 H3 e3 pg0 => ?_
  have e03 := e02.trans e3
  generalize (diagP t (f.length - 1)).length = low at *
  refine q_cut (M := fun σ' H' => ∃ gv, σ' = [some u, some v, some (.int (t00 t)), some (.int (low : Int)), some gv, none, none] ∧ Ex H H' ∧ Dp K H' gv (dR (turnG f t))) (s_when (b := decide (low < f.length - 1)) (et_is (et_test (ev_op (ev_var rfl) (ev_degree T (ev_var rfl) (hR.mono e03)) rv_I0)) (by simp; omega)) (fun hc H4 e4 => ?_) (fun hc H4 e4 => ?_)) ?_
  · have hc := of_decide_eq_true hc
    rw [if_pos hc] at egg
    have h1 : Ev (tOp oAdd (tVar 3) (tC (.int 1))) [some u, some v, some (.int (t00 t)), some (.int (low : Int)), some g0, none, none] H4 (.int ((low + 1 : Nat) : Int)) := ev_op (ev_var rfl) ev_c rv_I0
    refine s_asgD (d_slT (ds := (t.getD low []).map .int) (lo := none) (hi := some ((low + 1 : Nat) : Int)) (d_ixT (d := dR (t.getD low [])) (d_var rfl (dp_ex (e03.trans e4) hv)) (ev_var rfl) (atI_nat (rowsAt (by omega)))) eo_none (eo_some h1)) fun gv H5 e5 pg => ⟨gv, rfl, (e03.trans e4).trans e5, ?_⟩
    rw [cutD_to] at pg
    rw [egg]
    exact pg
  · have hc := of_decide_eq_false hc
    rw [if_neg hc] at egg
    exact ⟨g0, rfl, e03.trans e4, by rw [egg]; exact dp_ex e4 pg0⟩
  · rintro σ' H4 ⟨gv, rfl, e4, pgv⟩
    refine q_asgD (d_ixT (d_call (dom := dmModParted) (d := .tuple [dR (M.modParted f (turnG f t) (t00 t)).1, dR (M.modParted f (turnG f t) (t00 t)).2]) (a_cons (d_poly T (ev_var rfl) (hR.mono e4)) (a_cons (d_var rfl pgv) (a_cons (d_int (ev_var rfl)) a_nil))) ⟨f, turnG f t, t00 t, by omega, by omega, by omega, hp, hp2, rfl, rfl⟩) ev_c (atI_nat (j := 0) rfl)) fun pv H5 e5 ppv => ?_
    have e05 := e4.trans e5
    rw [ett] at q
    generalize (M.modParted f (turnG f t) (t00 t)).1 = places at *
    refine s_retD (d_tuple (ds := places.map .int ++ List.replicate (f.length - 1 - places.length) (.int 0)) (d_ofN (n_cat (K := K) (n_list (d_var rfl ppv) (.inl rfl)) (n_rep (K := K) (d := .int 0) (n := f.length - 1 - places.length) (n_lst (a_cons (d_int ev_c) a_nil) (len1 _)) (ev_is (ev_op (ev_degree T (ev_var rfl) (hR.mono e05)) (ev_lenD (d_var rfl ppv) (.inl rfl)) rv_I0) (congrArg V.int (by rw [List.length_map]; omega))) (by omega)) (by rw [List.length_map, List.length_replicate]; omega))) (.inr rfl)) fun w' H6 e6 pw => q w' H6 (e05.trans e6) ?_
    unfold dR
    rw [List.map_append, List.map_replicate]
    exact pw
theorem ok_turner (T : Tx K mg) : Ok P w K mg base CX0 "turner" ["ring", "P"] 4 (sp_turner K) := by
  have O_mod_parted := ok_mod_parted (P := P) (w := w) (base := base) T
  refine ok_ofG T.g_turner T.f_turner sc_turner (fun _ _ _ _ _ _ us hl => match us, hl with | [_, _], _ => rfl) (fun vs H d ⟨u, us, f, ds, e, _, ⟨t, _, e2, _⟩, hd⟩ => by rw [e, List.length_cons, dpAll_len hd, e2]; rfl) (fun cdv A outer s H vs Q E d hr ⟨u, us, f, ds, e, hR, ⟨t, h1, hds, ed⟩, hd⟩ q => ⟨rd_turner K, PSs.nox ((pss_cons (ps_set (i := 2) sc_turner.nd rfl (Or.inr rfl) (pe_ix ix_tup (pe_ix ix_tup (pv 1) pe_int (fun _ _ => rfl)) pe_int (fun _ _ => rfl)))
  (pss_cons (ps_set (i := 3) sc_turner.nd rfl (Or.inl rfl) (pe_len T.b_len (pe_lc (own := [("k", 6)]) (g := gName 6) rfl sc_turner.nd (pi_range1 (by rfl) T.b_range (pa_cons (pe_fld (pv 0) rfl) pa_nil)) (blkOk_by (own := [("k", 6)]) (N := ["ring", "P", "p", "low", "g", "places", "k"]) (sc := defScope s_turner) (by decide +kernel)) (fun _ _ _ _ _ => (pg_name (i := 6) sc_turner.nd rfl (Or.inl rfl))) (fun _ _ _ _ _ => pts_one (pt_cmpR op_eq (pe_ix ix_tup (pe_ix ix_tup (pv 1) (pv 6) (fun _ _ => rfl)) (pv 6) (fun _ _ => rfl)) (pv 2) (nomark _))) (fun _ _ _ _ _ => (pv 6)))))
  (pss_cons (ps_set (i := 4) sc_turner.nd rfl (Or.inl rfl) (pe_fld (pv 0) rfl))
  (pss_cut (ps_if (pt_cmpR op_lt (pv 3) (pe_fld (pv 0) rfl) (nomark _)) (pss_one (ps_set (i := 4) sc_turner.nd rfl (Or.inl rfl) (pe_slice sl_tupA (pe_ix ix_tup (pv 1) (pv 3) (fun _ _ => rfl)) po_none (po_some (pe_op op_add (pv 3) pe_int))))) pss_nil)
  (pss_cons (ps_set (i := 5) sc_turner.nd rfl (Or.inl rfl) (pe_ix ix_tup (pe_fn O_mod_parted (hr.mono (by decide)) (pa_cons (pe_fld (pv 0) rfl) (pa_cons (pv 4) (pa_cons (pv 2) pa_nil)))) pe_int (fun _ _ => rfl)))
  (pss_one (ps_ret (pe_tuplec T.b_tuple (pe_op op_cat (pe_listc T.b_list (pv 5)) (pe_op op_rep (pe_lst (pa_cons pe_int pa_nil)) (pe_op op_sub (pe_fld (pv 0) rfl) (pe_len T.b_len (pv 5)))))))))))))), ?_⟩)
  subst ed hds e
  obtain ⟨v, rfl, k1⟩ := dpAll_one hd
  exact pu_turner T h1 hR k1 q
end
end K41
set_option Elab.async false
set_option linter.all false
set_option maxRecDepth 100000
set_option maxHeartbeats 4000000
namespace K41
open PySem PySem.Spec PyProof.Rows L2 Evl
local macro_rules | `(tactic| walk_at "cc") => `(tactic| first
  | assumption
  | (with_reducible show (0 : Int) < _; omega)
  | exact Or.inl ⟨by omega, by omega⟩
  | exact Or.inr ⟨by omega, by omega⟩
  | exact And.intro (by omega) (by omega)
  | (show (0 : Int) < _; omega)
  | omega)
local macro_rules | `(tactic| walk_at "ev") => `(tactic| first
  | assumption
  | with_reducible exact ev_c
  | exact ev_var rfl
  | ((with_reducible refine' ev_op ?ka ?kb rv_I0); (case ka => walk_at "ev"); (case kb => walk_at "ev"))
  | ((with_reducible refine' ev_op ?ka ?kb (rv_I ?kc)); (case ka => walk_at "ev"); (case kb => walk_at "ev"); (case kc => walk_at "cc"))
  | ((with_reducible refine' ev_op (r := rEq) ?ka ?kb ?kd); (case ka => walk_at "ev"); (case kb => walk_at "ev"); (case kd => refine' rv_eq ?kc; rfl))
  | ((with_reducible refine' ev_op (r := rNe) ?ka ?kb ?kd); (case ka => walk_at "ev"); (case kb => walk_at "ev"); (case kd => refine' rv_ne ?kc; rfl))
  | ((with_reducible refine' ev_un ?ka ru_neg); (case ka => walk_at "ev"))
  | ((with_reducible refine' et_test ?ka); (case ka => walk_at "ev")))

section
variable {P : Program} {w : World} {K : PySem.W.Frag} {mg : Str → Option Value} {base : Heap}
/-! ### often_by -/
def Cn (f h : List Int) (p : Int) : Nat → List Int → Prop
  | 0, y => (y.all fun c => decide (c % p = 0)) = false
  | k + 1, y => (y.all fun c => decide (c % p = 0)) = true ∧ Cn f h p k (M.times f h (y.map (· / p)))
/-- how often h can be multiplied to x and p divided out -/
def Cnt (f h : List Int) (p : Int) (x : List Int) (k : Nat) : Prop := Cn f h p k (M.times f h x)
theorem times_len {f h x : List Int} (hx : 1 ≤ x.length) : (M.times f h x).length = x.length := by
  have e0 : ((M.polyTable f x).getD 0 []).length = x.length := polyTable_row f x _ (memAt (by rw [polyTable_len]; exact hx))
  unfold M.times M.combined
  rw [combTo_len, List.length_replicate, e0]
theorem TimesIn.to {f h x y : List Int} (t : TimesIn f h x) (e : y.length = x.length) : TimesIn f h y := by
  obtain ⟨h1, h2, h3, h4, h5, h6⟩ := t
  exact ⟨by omega, by omega, by omega, by omega, h5, h6⟩
def dmOftenBy : List Int → List PyData → PyData → Prop := fun f ds d => ∃ (p : Int) (h x : List Int) (k : Nat), 0 < p ∧ p ≤ 1000 ∧ TimesIn f h x ∧ Cnt f h p x k ∧ ds = [.int p, dR h, dR x] ∧ d = .int (k : Int)
abbrev sp_often_by (K : PySem.W.Frag) : Sp := spG (onRing K dmOftenBy) K
def rd_often_by (K : PySem.W.Frag) : TS := (tSeq (tAsg (tC (.int 0)) (gName 4))
  (tSeq (tAsg (tCall (sp_times K) [] E0 (tCons (tVar 0) (tCons (tVar 2) (tCons (tVar 3) tNil)))) (gName 3))
  (tSeq (tWhile (tB (tCB (rAll K) (tCons (tLc (iTup K (tVar 3)) (gName 5) tYes (tOp rEq (tOp oMod (tVar 5) (tVar 1)) (tC (.int 0))) [5]) tNil))) (tSeq (tAug 4 (tC (.int 1)) (ipI fun i j => i + j))
  (tAsg (tCall (sp_times K) [] E0 (tCons (tVar 0) (tCons (tVar 2) (tCons (tLc (iTup K (tVar 3)) (gName 5) tYes (tOp oDiv (tVar 5) (tVar 1)) [5]) tNil)))) (gName 3))))
  (tRet (tVar 4)))))
theorem pu_often_by {H : Hp} {u v2 v3 : V} {f h x : List Int} {p : Int} {k : Nat} {Q : VK} (T : Tx K mg) (hR : RingAt K H u f) (hp : 0 < p) (hp2 : p ≤ 1000) (hin : TimesIn f h x) (hc : Cnt f h p x k) (hv2 : Dp K H v2 (dR h)) (hv3 : Dp K H v3 (dR x)) (q : ∀ v H2, Ex H H2 → Dp K H2 v (.int (k : Int)) → Q v H2) :
    rd_often_by K { nx := fun _ H' => Q .non H', rt := Q } (start ["ring", "p", "h", "x", "found", "place"] [u, .int p, v2, v3]) H := by
  refine q_asg ev_c fun H1 e1 => ?_
  refine q_asgD (d_callR (K := K) (dom := dmTimes) (d := dR (M.times f h x)) (ev_var rfl) (hR.mono e1) (a_cons (d_var rfl (dp_ex e1 hv2)) (a_cons (d_var rfl (dp_ex e1 hv3)) a_nil)) ⟨h, x, hin, .inl rfl, rfl⟩) fun y0 H2 e2 py0 => ?_
  refine q_while (fun j σ' H' => ∃ (o : Nat) (yv : V) (y : List Int), σ' = [some u, some (.int p), some v2, some yv, some (.int (o : Int)), none] ∧ Ex H H' ∧ Dp K H' yv (dR y) ∧ y.length = x.length ∧ o + j = k ∧ Cn f h p j y) k ⟨0, y0, M.times f h x, rfl, e1.trans e2, py0, times_len hin.1, by omega, hc⟩ ?_
  rintro j σ2 H5 ⟨o, yv, y, rfl, e5, py, ly, hoj, hcn⟩
  have hlx := hin.2.1
  obtain ⟨a, rfl, ha⟩ := dp_R py
  have allE : Ev (tCB (rAll K) (tCons (tLc (iTup K (tVar 3)) (gName 5) tYes (tOp rEq (tOp oMod (tVar 5) (tVar 1)) (tC (.int 0))) [5]) tNil)) [some u, some (.int p), some v2, some (.ref a), some (.int (o : Int)), none] H5 (.bl (y.all fun c => decide (c % p = 0))) := by
    have hl : EvN K (tLc (iTup K (tVar 3)) (gName 5) tYes (tOp rEq (tOp oMod (tVar 5) (tVar 1)) (tC (.int 0))) [5]) [some u, some (.int p), some v2, some (.ref a), some (.int (o : Int)), none] H5 ((y.map fun c => decide (c % p = 0)).map PyData.bool) := by
      rw [List.map_map]
      exact lc_map (K := K) (δ := fun c => .bool (decide (c % p = 0))) (ev_var rfl) ha (by omega) (fun c => by simp [tO]) (fun x => rfl) (fun i H1 e1 hi => d_ev (ev_is (ev_op (ev_op (ev_var rfl) (ev_var rfl) (rv_I hp)) ev_c (rv_eq rfl)) (by simp)) (.bl _))
    have := ev_allN hl
    rw [List.all_map] at this
    exact this
  refine ⟨y.all fun c => decide (c % p = 0), et_B allE, fun hb H6 e6 => ?_, fun hb H6 e6 => ?_⟩
  · match j, hcn with
    | 0, hcn =>
      exfalso
      have hcn : (y.all fun c => decide (c % p = 0)) = false := hcn
      rw [hb] at hcn
      cases hcn
    | j + 1, hcn =>
      refine ⟨fun σ2 H7 => (∃ yv2, σ2 = [some u, some (.int p), some v2, some yv2, some (.int ((o + 1 : Nat) : Int)), none] ∧ Dp K H7 yv2 (dR (M.times f h (y.map (· / p))))) ∧ Ex H H7, ?_, ?_⟩
      · rintro σ3 H7 ⟨⟨yv2, rfl, py2⟩, e7⟩
        exact ⟨j, Nat.lt_succ_self _, o + 1, yv2, _, rfl, e7, py2, by rw [times_len (by rw [List.length_map]; have := hin.1; omega), List.length_map, ly], by omega, hcn.2⟩
      · refine q_aug (f := fun i j => i + j) rfl ev_c fun H7 e7 => ?_
        have e57 := (e5.trans e6).trans e7
        refine s_asgD (d_callR (K := K) (dom := dmTimes) (d := dR (M.times f h (y.map (· / p)))) (ev_var rfl) (hR.mono e57) (a_cons (d_var rfl (dp_ex e57 hv2)) (a_cons (d_ofN (lc_map (K := K) (l := y) (δ := fun c => .int (c / p)) (ev_var rfl) (ex_t (e6.trans e7) ha) (by omega) (fun c => by simp [tO]) (fun x => rfl) (fun i H1 e1 hi => d_int (ev_op (ev_var rfl) (ev_var rfl) (rv_I ⟨hp, by omega⟩))))) a_nil)) ⟨h, y.map (· / p), hin.to (by rw [List.length_map, ly]), .inr (by rw [List.map_map]; rfl), rfl⟩) fun yv2 H8 e8 py2 => ⟨⟨yv2, rfl, py2⟩, e57.trans e8⟩
  · match j, hcn with
    | 0, hcn =>
      have ho : o = k := by omega
      subst ho
      exact s_ret (ev_var rfl) fun H7 e7 => q _ _ ((e5.trans e6).trans e7) (.int _)
    | j + 1, hcn =>
      exfalso
      have := hcn.1
      rw [hb] at this
      cases this
theorem ok_often_by (T : Tx K mg) : Ok P w K mg base CX0 "often_by" ["ring", "p", "h", "x"] 5 (sp_often_by K) := by
  have O_times := ok_times (P := P) (w := w) (base := base) T
  refine ok_ofG T.g_often_by T.f_often_by sc_often_by (fun _ _ _ _ _ _ us hl => match us, hl with | [_, _, _, _], _ => rfl) (fun vs H d ⟨u, us, f, ds, e, _, ⟨p, h, x, k, _, _, _, _, e2, _⟩, hd⟩ => by rw [e, List.length_cons, dpAll_len hd, e2]; rfl) (fun cdv A outer s H vs Q E d hr ⟨u, us, f, ds, e, hR, ⟨p, h, x, k, h1, h2, h3, h4, hds, ed⟩, hd⟩ q => ⟨rd_often_by K, PSs.nox ((pss_cons (ps_set (i := 4) sc_often_by.nd rfl (Or.inl rfl) pe_int)
  (pss_cons (ps_set (i := 3) sc_often_by.nd rfl (Or.inl rfl) (pe_fn O_times (hr.mono (by decide)) (pa_cons (pv 0) (pa_cons (pv 2) (pa_cons (pv 3) pa_nil)))))
  (pss_cons (ps_while PassesOwn.never (pt_val (pe_allc T.b_all (pe_lc (own := [("place", 5)]) (g := gName 5) (tt := tYes) rfl sc_often_by.nd (pi_tup (pv 3)) (blkOk_by (own := [("place", 5)]) (N := ["ring", "p", "h", "x", "found", "place"]) (sc := defScope s_often_by) (by decide +kernel)) (fun _ _ _ _ _ => (pg_name (i := 5) sc_often_by.nd rfl (Or.inl rfl))) (fun _ _ _ _ _ => pts_nil) (fun _ _ _ _ _ => (pe_cmpR op_eq (pe_op op_mod (pv 5) (pv 1)) pe_int (nomark _)))))) (pss_cons (ps_aug (i := 4) sc_often_by.nd rfl (Or.inl rfl) pe_int ip_add)
  (pss_one (ps_set (i := 3) sc_often_by.nd rfl (Or.inl rfl) (pe_fn O_times (hr.mono (by decide)) (pa_cons (pv 0) (pa_cons (pv 2) (pa_cons (pe_lc (own := [("place", 5)]) (g := gName 5) (tt := tYes) rfl sc_often_by.nd (pi_tup (pv 3)) (blkOk_by (own := [("place", 5)]) (N := ["ring", "p", "h", "x", "found", "place"]) (sc := defScope s_often_by) (by decide +kernel)) (fun _ _ _ _ _ => (pg_name (i := 5) sc_often_by.nd rfl (Or.inl rfl))) (fun _ _ _ _ _ => pts_nil) (fun _ _ _ _ _ => (pe_op op_fdiv (pv 5) (pv 1)))) pa_nil))))))))
  (pss_one (ps_ret (pv 4))))))), ?_⟩)
  subst ed hds e
  obtain ⟨v1, v2, v3, rfl, k1, k2, k3⟩ := dpAll_three hd
  rw [dp_int k1]
  exact pu_often_by T hR h1 h2 h3 h4 k2 k3 q
/-! ### often -/
/-- m is how often the prime of t goes into a -/
def OftenIs (f : List Int) (t a : List (List Int)) (m : Nat) : Prop := TurnIn f t ∧ 1 ≤ a.length ∧ a.length ≤ 1000 ∧ ∃ ks : List Nat, ks.length = a.length ∧
  (∀ i, i < a.length → TimesIn f (turnerM f t) (a.getD i []) ∧ Cnt f (turnerM f t) (t00 t) (a.getD i []) (ks.getD i 0)) ∧ m ∈ ks ∧ ∀ k ∈ ks, m ≤ k
def dmOften : List Int → List PyData → PyData → Prop := fun f ds d => ∃ (t a : List (List Int)) (m : Nat), OftenIs f t a m ∧ ds = [dT t, dT a] ∧ d = .int (m : Int)
abbrev sp_often (K : PySem.W.Frag) : Sp := spG (onRing K dmOften) K
def rd_often (K : PySem.W.Frag) : TS := (tSeq (tAsg (tCall (sp_turner K) [] E0 (tCons (tVar 0) (tCons (tVar 1) tNil))) (gName 3))
  (tRet (tCB (rMin K) (tCons (tLc (iTup K (tVar 2)) (gName 4) tYes (tCall (sp_often_by K) [] E0 (tCons (tVar 0) (tCons (tOp (rIxT K) (tOp (rIxT K) (tVar 1) (tC (.int 0))) (tC (.int 0))) (tCons (tVar 3) (tCons (tVar 4) tNil))))) [4]) tNil))))
theorem getDn_at {l : List Nat} {i : Nat} (h : i < l.length) : l.getD i 0 = l[i] := by simp [List.getD, List.getElem?_eq_getElem h]
theorem pu_often {H : Hp} {u v1 v2 : V} {f : List Int} {t a : List (List Int)} {m : Nat} {Q : VK} (T : Tx K mg) (hR : RingAt K H u f) (ho : OftenIs f t a m) (hv1 : Dp K H v1 (dT t)) (hv2 : Dp K H v2 (dT a)) (q : ∀ v H2, Ex H H2 → Dp K H2 v (.int (m : Int)) → Q v H2) :
    rd_often K { nx := fun _ H' => Q .non H', rt := Q } (start ["ring", "P", "A", "h", "row"] [u, v1, v2]) H := by
  obtain ⟨hin, ha1, ha, ks, lks, hks, hm1, hm2⟩ := ho
  have hf1 := hin.1
  have htl := hin.2.2.1
  have hrow := hin.2.2.2.1
  have hp := hin.2.2.2.2.1
  have hp2 := hin.2.2.2.2.2.1
  refine q_asgD (d_callR (K := K) (dom := dmTurner) (d := dR (turnerM f t)) (ev_var rfl) hR (a_cons (d_var rfl hv1) a_nil) ⟨t, hin, rfl, rfl⟩) fun hvv H1 e1 phv => ?_
  obtain ⟨b, ys, rfl, hb, hys⟩ := dp_tup (dp_ex e1 hv2)
  have lys : ys.length = a.length := by rw [dpAll_len hys, List.length_map]
  have hc := n_lcT (K := K) (tl := tVar 2) (te := tCall (sp_often_by K) [] E0 (tCons (tVar 0) (tCons (tOp (rIxT K) (tOp (rIxT K) (tVar 1) (tC (.int 0))) (tC (.int 0))) (tCons (tVar 3) (tCons (tVar 4) tNil))))) (t := tYes) (vs := [4]) (j := 4) (σ := [some u, some v1, some (.ref b), some hvv, none]) (H := H1)
    (fun i => (ks.take i).map fun k : Nat => PyData.int (k : Int)) (ev_var rfl) hb rfl (fun i hi => ⟨by rw [List.length_map, List.length_take]; omega, tOs_all fun d hd => by
      obtain ⟨c, _, rfl⟩ := List.mem_map.mp hd
      simp [tO]⟩) (fun x => rfl)
    (fun i x H2 e2 hx => ⟨true, t_yes, fun _ => by
      obtain ⟨dx, hdx, pdx⟩ := dpAll_get' hys hx
      have hi := (List.getElem?_eq_some_iff.mp hx).1
      rw [rowsAt (show i < a.length by omega)] at hdx
      cases hdx
      obtain ⟨t1, t2⟩ := hks i (by omega)
      refine ⟨.int (ks.getD i 0 : Int), by simp [tO], d_callR (K := K) (dom := dmOftenBy) (ev_var rfl) (hR.mono (e1.trans e2)) (a_cons (d_int (ev_cell (i := 0) (j := 0) (d_var rfl (dp_ex (e1.trans e2) hv1)) ev_c ev_c (by omega) (by rw [hrow _ (memAt (by omega))]; omega))) (a_cons (d_var rfl (dp_ex e2 phv)) (a_cons (d_var rfl (dp_ex e2 pdx)) a_nil))) ⟨t00 t, turnerM f t, a.getD i [], ks.getD i 0, hp, hp2, t1, t2, rfl, rfl⟩, ?_⟩
      rw [List.take_add_one, List.getElem?_eq_getElem (by omega), getDn_at (by omega), List.map_append]
      rfl, fun h => by cases h⟩)
  rw [lys, ← lks, List.take_length] at hc
  have hc2 : EvN K (tLc (iTup K (tVar 2)) (gName 4) tYes (tCall (sp_often_by K) [] E0 (tCons (tVar 0) (tCons (tOp (rIxT K) (tOp (rIxT K) (tVar 1) (tC (.int 0))) (tC (.int 0))) (tCons (tVar 3) (tCons (tVar 4) tNil))))) [4]) [some u, some v1, some (.ref b), some hvv, none] H1 ((ks.map fun k : Nat => (k : Int)).map PyData.int) := by
    rw [List.map_map]
    exact hc
  refine s_ret (ev_minN (m := (m : Int)) hc2 (by rw [List.length_map]; omega) fun m' h1 h2 => ?_) fun H2 e2 => q _ _ (e1.trans e2) (.int _)
  obtain ⟨k, hk, rfl⟩ := List.mem_map.mp h1
  have a1 := hm2 k hk
  have a2 := h2 (m : Int) (List.mem_map.mpr ⟨m, hm1, rfl⟩)
  omega
theorem ok_often (T : Tx K mg) : Ok P w K mg base CX0 "often" ["ring", "P", "A"] 6 (sp_often K) := by
  have O_turner := ok_turner (P := P) (w := w) (base := base) T
  have O_often_by := ok_often_by (P := P) (w := w) (base := base) T
  refine ok_ofG T.g_often T.f_often sc_often (fun _ _ _ _ _ _ us hl => match us, hl with | [_, _, _], _ => rfl) (fun vs H d ⟨u, us, f, ds, e, _, ⟨t, a, m, _, e2, _⟩, hd⟩ => by rw [e, List.length_cons, dpAll_len hd, e2]; rfl) (fun cdv A outer s H vs Q E d hr ⟨u, us, f, ds, e, hR, ⟨t, a, m, h1, hds, ed⟩, hd⟩ q => ⟨rd_often K, PSs.nox ((pss_cons (ps_set (i := 3) sc_often.nd rfl (Or.inr rfl) (pe_fn O_turner (hr.mono (by decide)) (pa_cons (pv 0) (pa_cons (pv 1) pa_nil))))
  (pss_one (ps_ret (pe_min1 T.b_min (pe_lc (own := [("row", 4)]) (g := gName 4) (tt := tYes) rfl sc_often.nd (pi_tup (pv 2)) (blkOk_by (own := [("row", 4)]) (N := ["ring", "P", "A", "h", "row"]) (sc := defScope s_often) (by decide +kernel)) (fun _ _ _ _ _ => (pg_name (i := 4) sc_often.nd rfl (Or.inl rfl))) (fun _ _ _ _ _ => pts_nil) (fun _ _ _ _ _ => (pe_fn O_often_by (hr.mono (by decide)) (pa_cons (pv 0) (pa_cons (pe_ix ix_tup (pe_ix ix_tup (pv 1) pe_int (fun _ _ => rfl)) pe_int (fun _ _ => rfl)) (pa_cons (pv 3) (pa_cons (pv 4) pa_nil)))))))))))), ?_⟩)
  subst ed hds e
  obtain ⟨v1, v2, rfl, k1, k2⟩ := dpAll_two hd
  exact pu_often T hR h1 k1 k2 q
/-! ### taken -/
def takenS (f : List Int) (cnt : Int → List Int → Nat) (p : Int) (r : List Int × Nat) : List PyData := if 0 < cnt p r.1 then [.tuple [dT (primeTable (f.length - 1) r.1 p), .int (cnt p r.1 : Int)]] else []
def takenP (f : List Int) (cnt : Int → List Int → Nat) (p : Int) : List PyData := (M.split f p).flatMap (takenS f cnt p)
def takenL (f : List Int) (cnt : Int → List Int → Nat) (rows : List (Int × Nat)) : List PyData := rows.flatMap fun pk => takenP f cnt pk.1
def sp_taken (K : PySem.W.Frag) : Sp := fun vs H Q E => ∃ u v f a, vs = [u, v] ∧ RingAt K H u f ∧ Dp K H v (dT a) ∧ 2 ≤ f.length ∧ f.length ≤ 5 ∧ 1 ≤ a.length ∧ 1 ≤ (a.getD 0 []).length ∧ 1 ≤ t00 a ∧
  (1 < (M.parts primes (t00 a)).2 → ∀ H2, Ex H H2 → E (.ref (He.ga K "TooFar")) none H2) ∧
  ((M.parts primes (t00 a)).2 ≤ 1 → ∃ cnt : Int → List Int → Nat, (∀ pk ∈ (M.parts primes (t00 a)).1, ∀ r ∈ M.split f pk.1, OftenIs f (primeTable (f.length - 1) r.1 pk.1) a (cnt pk.1 r.1)) ∧
    ∀ l xs H2, H l = none → Ex H H2 → H2 l = some (.lst xs) → DpAll K H2 xs (takenL f cnt (M.parts primes (t00 a)).1) → Q (.ref l) H2)
def rd_taken (K : PySem.W.Frag) (E : XK) : TS := (tSeq (tAsg (tCall (sp_parted K) [] E0 (tCons (tOp (rIxT K) (tOp (rIxT K) (tVar 1) (tC (.int 0))) (tC (.int 0))) tNil)) (gTup K 2 (gCons (gName 2) (gCons (gName 3) gNil))))
  (tSeq (tIfS (tTest (tOp oGt (tVar 3) (tC (.int 1)))) (fun _ _ H => E (.ref (He.ga K "TooFar")) none H) tNext)
  (tSeq (tAsg (tLst tNil) (gName 4))
  (tSeq (tFor (iList K (tVar 2)) (gTup K 2 (gCons (gName 5) (gCons (gName 6) gNil)))
  (tFor (iList K (tCall (sp_above K) [] E0 (tCons (tVar 0) (tCons (tVar 5) tNil)))) (gTup K 3 (gCons (gName 7) (gCons (gName 8) (gCons (gName 9) gNil))))
  (tSeq (tAsg (tCall (sp_often K) [] E0 (tCons (tVar 0) (tCons (tVar 7) (tCons (tVar 1) tNil)))) (gName 10))
  (tIfS (tTest (tOp oGt (tVar 10) (tC (.int 0)))) (tDrop (tBM K "list" rAppend (tVar 4) (tCons (tTup (tCons (tVar 7) (tCons (tVar 10) tNil))) tNil))) tNext))))
  (tRet (tVar 4))))))
theorem parts_in {m : Int} : ∀ i, i ≤ primes.length → ∀ pk ∈ (M.parts (primes.take i) m).1, pk.1 ∈ primes
  | 0, _, pk, h => by cases h
  | i + 1, hi, pk, h => by
    rw [parts_take (by omega)] at h
    rcases List.mem_append.mp (show pk ∈ (M.parts (primes.take i) m).1 ++ (if _ = 0 then [] else [_] : List (Int × Nat)) from h) with h | h
    · exact parts_in i (by omega) pk h
    · split at h
      · cases h
      · simp at h
        subst h
        show primes.getD i 0 ∈ primes
        rw [getD_at (by omega)]
        exact List.getElem_mem _
theorem tO_takenS (f : List Int) (cnt : Int → List Int → Nat) (p : Int) (r : List Int × Nat) : tOs (takenS f cnt p r) = true := by
  unfold takenS
  split
  · simp [tO, tOs, tO_T]
  · simp [tOs]
theorem tOs_app {a b : List PyData} (h1 : tOs a = true) (h2 : tOs b = true) : tOs (a ++ b) = true := tOs_all fun d h => by
  rcases List.mem_append.mp h with h | h
  · exact tOs_get h1 h
  · exact tOs_get h2 h
theorem tOs_flat {α : Type} {l : List α} {g : α → List PyData} (h : ∀ x, tOs (g x) = true) : tOs (l.flatMap g) = true := tOs_all fun d hd => by
  obtain ⟨x, _, hx⟩ := List.mem_flatMap.mp hd
  exact tOs_get (h x) hx
theorem flat_len {α : Type} {g : α → List PyData} {n : Nat} : ∀ {l : List α}, (∀ x ∈ l, (g x).length ≤ n) → (l.flatMap g).length ≤ l.length * n
  | [], _ => by simp
  | a :: l, h => by
    rw [List.flatMap_cons, List.length_append, List.length_cons]
    have h1 := h a List.mem_cons_self
    have h2 := flat_len fun x hx => h x (List.mem_cons_of_mem _ hx)
    have : (l.length + 1) * n = l.length * n + n := Nat.succ_mul _ _
    omega
theorem takenS_len (f : List Int) (cnt : Int → List Int → Nat) (p : Int) (r : List Int × Nat) : (takenS f cnt p r).length ≤ 1 := by
  unfold takenS
  split
  · exact Nat.le_refl _
  · exact Nat.zero_le _
theorem flat_take {α : Type} {l : List α} {g : α → List PyData} {i : Nat} {x : α} (h : l[i]? = some x) : (l.take (i + 1)).flatMap g = (l.take i).flatMap g ++ g x := by
  rw [List.take_add_one, h, List.flatMap_append]
  simp
set_option maxHeartbeats 8000000 in
theorem pu_taken {H : Hp} {u v : V} {f : List Int} {a : List (List Int)} {Q : VK} {E : XK} (T : Tx K mg) (hR : RingAt K H u f) (hv : Dp K H v (dT a)) (hf1 : 2 ≤ f.length) (hf : f.length ≤ 5) (ha1 : 1 ≤ a.length) (ha0 : 1 ≤ (a.getD 0 []).length) (hm : 1 ≤ t00 a)
    (b : 1 < (M.parts primes (t00 a)).2 → ∀ H2, Ex H H2 → E (.ref (He.ga K "TooFar")) none H2)
    (q : (M.parts primes (t00 a)).2 ≤ 1 → ∃ cnt : Int → List Int → Nat, (∀ pk ∈ (M.parts primes (t00 a)).1, ∀ r ∈ M.split f pk.1, OftenIs f (primeTable (f.length - 1) r.1 pk.1) a (cnt pk.1 r.1)) ∧
      ∀ l xs H2, H l = none → Ex H H2 → H2 l = some (.lst xs) → DpAll K H2 xs (takenL f cnt (M.parts primes (t00 a)).1) → Q (.ref l) H2) :
    rd_taken K E { nx := fun _ H' => Q .non H', rt := Q } (start ["ring", "A", "rows", "far", "found", "p", "most", "P", "again", "degree", "many"] [u, v]) H := by
  have hin := parts_in (m := t00 a) primes.length (Nat.le_refl _)
  have hlen := (parts_pos hm primes.length (Nat.le_refl _)).2
  rw [List.take_length] at hin hlen
  refine q_asgP (d_call (dom := dmParted) (d := .tuple [.list ((M.parts primes (t00 a)).1.map dPK), .int (M.parts primes (t00 a)).2]) (a_cons (d_int (ev_cell (i := 0) (j := 0) (d_var rfl hv) ev_c ev_c ha1 ha0)) a_nil) ⟨t00 a, hm, rfl, rfl⟩) fun x H1 e1 px => ?_
  refine g_tup2 (K := K) px fun u1 u2 p1 p2 => ?_
  rw [dp_int p2]
  generalize (M.parts primes (t00 a)).2 = far at *
  generalize (M.parts primes (t00 a)).1 = rows at *
  obtain ⟨ra, rxs, rfl, hra, hrx⟩ := dp_lst p1
  show tSeq (tIfS _ _ _) _ _ _ _
  refine q_when (b := decide (1 < far)) (et_is (et_test (ev_op (ev_var rfl) ev_c rv_I0)) (by simp)) (fun hc H2 e2 => b (of_decide_eq_true hc) _ (e1.trans e2)) (fun hc H2 e2 => ?_)
  obtain ⟨cnt, hcnt, q⟩ := q (by have := of_decide_eq_false hc; omega)
  refine q_asgL (el_lst (vs := []) ea_nil (Nat.le_of_ble_eq_true rfl)) fun pp H3 np e3 hpp => ?_
  have e02 := e1.trans e2
  have np0 : H pp = none := fresh_back e02 np
  have hr46 : rows.length ≤ 46 := hlen
  have lP : ∀ p, p ∈ primes → (takenP f cnt p).length ≤ 300 := fun p hp => by
    obtain ⟨g1, g2⟩ := primes_ge p hp
    have := flat_len (g := takenS f cnt p) (n := 1) (l := M.split f p) fun x _ => takenS_len f cnt p x
    have := split_len (f := f) (p := p) hf g1 g2
    unfold takenP
    omega
  have lL : ∀ i, (takenL f cnt (rows.take i)).length ≤ 46 * 300 := fun i => by
    have h1 := flat_len (g := fun pk : Int × Nat => takenP f cnt pk.1) (n := 300) (l := rows.take i) fun x hx => lP _ (hin x (List.mem_of_mem_take hx))
    have h2 : (rows.take i).length * 300 ≤ 46 * 300 := Nat.mul_le_mul_right _ (by rw [List.length_take]; omega)
    unfold takenL
    omega
  have tOL : ∀ i, tOs (takenL f cnt (rows.take i)) = true := fun i => tOs_flat fun pk => tOs_flat fun r => tO_takenS f cnt _ r
  refine q_forV (xds := rows.map dPK) (p := ra) (xs := rxs) (ev_var rfl) (ex_l (e2.trans e3) hra)
    (fun i σ' H' => ∃ (y1 y2 y3 y4 y5 y6 : Option V) (zs : List V), σ' = [some u, some v, some (.ref ra), some (.int far), some (.ref pp), y1, y2, y3, y4, y5, y6] ∧ Ex H2 H' ∧ H' pp = some (.lst zs) ∧ DpAll K H' zs (takenL f cnt (rows.take i)))
    (fun H4 e4 => ⟨none, none, none, none, none, none, [], rfl, e3.trans e4, e4 _ _ hpp, .nil⟩) (fun i σ' H' ⟨_, _, _, _, _, _, _, _, e, _⟩ => ⟨ex_l (e2.trans e) hra, dpAll_ex (e2.trans e) hrx⟩) ?_ ?_
  · rintro i x2 dx σ' H' hdx pdx ⟨y1, y2, y3, y4, y5, y6, zs, rfl, e', hp', hz⟩
    rw [List.getElem?_map] at hdx
    cases er : rows[i]? with
    | none => rw [er] at hdx; cases hdx
    | some pk =>
      rw [er] at hdx
      cases hdx
      have mem := List.mem_of_getElem? er
      have hpr := hin pk mem
      obtain ⟨g1, g2⟩ := primes_ge _ hpr
      have hoft := hcnt pk mem
      have eL : takenL f cnt (rows.take (i + 1)) = takenL f cnt (rows.take i) ++ takenP f cnt pk.1 := flat_take er
      rw [eL]
      have lLi := lL i
      have tLi := tOL i
      generalize takenL f cnt (rows.take i) = Li at *
      refine g_tup2 (d1 := .int pk.1) (d2 := .int (pk.2 : Int)) pdx fun w1 w2 k1 k2 => ?_
      rw [dp_int k1, dp_int k2]
      show tFor _ _ _ _ _ _
      have e0' := e02.trans e'
      refine s_forN (xds := (M.split f pk.1).map (dAb f pk.1)) (n_callR (K := K) (dom := dmAbove) (ev_var rfl) (hR.mono e0') (a_cons (d_int (ev_var rfl)) a_nil) ⟨pk.1, by omega, hf, hpr, rfl, rfl⟩)
        (fun l xs j σ' H' => ∃ (y3 y4 y5 y6 : Option V) (zs : List V), σ' = [some u, some v, some (.ref ra), some (.int far), some (.ref pp), some (.int pk.1), some (.int (pk.2 : Int)), y3, y4, y5, y6] ∧ Ex H2 H' ∧ l ≠ pp ∧ H' l = some (.lst xs) ∧ DpAll K H' xs ((M.split f pk.1).map (dAb f pk.1)) ∧ H' pp = some (.lst zs) ∧ DpAll K H' zs (Li ++ ((M.split f pk.1).take j).flatMap (takenS f cnt pk.1)))
        (fun l xs H4 nl e4 hl hx => ⟨y3, y4, y5, y6, zs, rfl, e'.trans e4, (fun e => by rw [e, hp'] at nl; cases nl), hl, hx, e4 _ _ hp', by
          rw [List.take_zero, List.flatMap_nil, List.append_nil]
          exact dpAll_ex e4 hz⟩) (fun l xs j σ' H' ⟨_, _, _, _, _, _, _, _, h1, h2, _⟩ => ⟨h1, h2⟩) ?_ ?_
      · rintro l xs j x3 dx3 σ' H4 hdx3 pdx3 ⟨y3, y4, y5, y6, zs, rfl, e4, ne, hl, hx, hp4, hz4⟩
        rw [List.getElem?_map] at hdx3
        cases er3 : (M.split f pk.1)[j]? with
        | none => rw [er3] at hdx3; cases hdx3
        | some r =>
          rw [er3] at hdx3
          cases hdx3
          have mem3 := List.mem_of_getElem? er3
          have ho := hoft r mem3
          have eF := flat_take (g := takenS f cnt pk.1) er3
          rw [eF, ← List.append_assoc]
          have lF : (((M.split f pk.1).take j).flatMap (takenS f cnt pk.1)).length ≤ 300 := by
            have h1 := flat_len (g := takenS f cnt pk.1) (n := 1) (l := (M.split f pk.1).take j) fun x _ => takenS_len f cnt _ x
            have h2 := split_len (f := f) (p := pk.1) hf g1 g2
            rw [List.length_take] at h1
            omega
          have tF : tOs (((M.split f pk.1).take j).flatMap (takenS f cnt pk.1)) = true := tOs_flat fun r => tO_takenS f cnt _ r
          generalize ((M.split f pk.1).take j).flatMap (takenS f cnt pk.1) = Fj at *
          refine g_tup3 (d1 := dT (primeTable (f.length - 1) r.1 pk.1)) (d2 := .int (r.2 : Int)) (d3 := .int ((r.1.length - 1 : Nat) : Int)) pdx3 fun w1 w2 w3 k1 k2 k3 => ?_
          rw [dp_int k2, dp_int k3]
          show tSeq _ _ _ _ _
          have e04 := e02.trans e4
          refine q_asg (ev_int (d_callR (K := K) (dom := dmOften) (d := .int (cnt pk.1 r.1 : Int)) (ev_var rfl) (hR.mono e04) (a_cons (d_var rfl k1) (a_cons (d_var rfl (dp_ex e04 hv)) a_nil)) ⟨_, a, _, ho, rfl, rfl⟩)) fun H5 e5 => ?_
          have k15 := dp_ex e5 k1
          have hp5 := e5 _ _ hp4
          have hz5 := dpAll_ex e5 hz4
          refine s_when (b := decide (0 < cnt pk.1 r.1)) (et_is (et_test (ev_op (ev_var rfl) ev_c rv_I0)) (by simp)) (fun hc H6 e6 => ?_) (fun hc H6 e6 => ?_)
          · have hc := of_decide_eq_true hc
            refine s_appD (e6 _ _ hp5) (ev_var rfl) (d_tup (K := K) (ds := [dT (primeTable (f.length - 1) r.1 pk.1), .int (cnt pk.1 r.1 : Int)]) (a_cons (d_var rfl (dp_ex e6 k15)) (a_cons (d_int (ev_var rfl)) a_nil)) (len2 _ _)) (by rw [dpAll_len hz4, List.length_append]; omega) fun v' H7 e7 pv => ?_
            have e57 := (e4.trans e5).trans (e6.trans e7)
            have k7 : KT K H7 (upd H7 pp (.lst (zs ++ [v']))) := KT.updL ((e6.trans e7) _ _ hp5)
            refine ⟨some w1, some (.int (r.2 : Int)), some (.int ((r.1.length - 1 : Nat) : Int)), some (.int (cnt pk.1 r.1 : Int)), _, rfl, Ex.mut e57 np, ne, ?_, ?_, upd_same, ?_⟩
            · rw [upd_ne ne]; exact ((e5.trans e6).trans e7) _ _ hl
            · exact dpAll_kt k7 (tO_Ab f _ _) (dpAll_ex ((e5.trans e6).trans e7) hx)
            · refine dpAll_app (dpAll_kt k7 (tOs_app tLi tF) (dpAll_ex (e6.trans e7) hz5)) ?_
              unfold takenS
              rw [if_pos hc]
              exact .cons (dp_kt k7 (by simp [tO, tOs, tO_T]) pv) .nil
          · have hc := of_decide_eq_false hc
            refine ⟨some w1, some (.int (r.2 : Int)), some (.int ((r.1.length - 1 : Nat) : Int)), some (.int (cnt pk.1 r.1 : Int)), zs, rfl, (e4.trans e5).trans e6, ne, (e5.trans e6) _ _ hl, dpAll_ex (e5.trans e6) hx, e6 _ _ hp5, ?_⟩
            unfold takenS
            rw [if_neg hc, List.append_nil]
            exact dpAll_ex e6 hz5
      · rintro l xs σ' H4 ⟨y3, y4, y5, y6, zs, rfl, e4, ne, hl, hx, hp4, hz4⟩
        rw [List.length_map, List.take_length] at hz4
        exact ⟨_, _, y3, y4, y5, y6, zs, rfl, e4, hp4, hz4⟩
  · rintro σ' H' ⟨y1, y2, y3, y4, y5, y6, zs, rfl, e', hp', hz⟩
    have lr : rxs.length = rows.length := by rw [dpAll_len hrx, List.length_map]
    rw [lr, List.take_length] at hz
    exact s_ret (ev_var rfl) fun H6 e6 => q pp zs H6 np0 ((e02.trans e').trans e6) (e6 _ _ hp') (dpAll_ex e6 hz)
theorem ok_taken (T : Tx K mg) : Ok P w K mg base (L2.CX P w) "taken" ["ring", "A"] 7 (sp_taken K) := by
  have O_parted := ok_parted (P := P) (w := w) (base := base) T
  have O_above := ok_above (P := P) (w := w) (base := base) T
  have O_often := ok_often (P := P) (w := w) (base := base) T
  refine ok_of T.g_taken T.f_taken sc_taken (fun _ _ _ _ _ _ us hl => match us, hl with | [_, _], _ => rfl) (fun vs H Q E ⟨u, v, f, a, h, _⟩ => by rw [h]; rfl) (fun cdv A outer s H vs Q E hr ⟨u, v, f, a, hvs, hR, hv, h1, h2, h3, h4, h5, b, q⟩ => ⟨rd_taken K E, (pss_cons (ps_asg (pe_fn O_parted (hr.mono (by decide)) (pa_cons (pe_ix ix_tup (pe_ix ix_tup (pv 1) pe_int (fun _ _ => rfl)) pe_int (fun _ _ => rfl)) pa_nil)) (pg_tup rfl (pgs_cons (pg_name (i := 2) sc_taken.nd rfl (Or.inl rfl)) (pgs_cons (pg_name (i := 3) sc_taken.nd rfl (Or.inl rfl)) pgs_nil))))
  (pss_cons (ps_if (pt_cmpR op_gt (pv 3) pe_int (nomark _)) (pss_one (ps_raise rfl (takes_of rfl rfl rfl rfl) (pmk_own PySem.F.excBase_ValueError T.e_TooFar.1 T.g_TooFar T.e_TooFar.2.1 (raises_own T.e_TooFar.2.2.1 T.e_TooFar.2.2.2) (by exact rfl)))) pss_nil)
  (pss_cons (ps_set (i := 4) sc_taken.nd rfl (Or.inl rfl) (pe_lst pa_nil))
  (pss_cons (ps_for (passes_of rfl) rfl (pi_list (pv 2)) (pg_tup rfl (pgs_cons (pg_name (i := 5) sc_taken.nd rfl (Or.inl rfl)) (pgs_cons (pg_name (i := 6) sc_taken.nd rfl (Or.inl rfl)) pgs_nil)))
  (pss_one (ps_for (passes_of rfl) rfl (pi_list (pe_fn O_above (hr.mono (by decide)) (pa_cons (pv 0) (pa_cons (pv 5) pa_nil)))) (pg_tup rfl (pgs_cons (pg_name (i := 7) sc_taken.nd rfl (Or.inl rfl)) (pgs_cons (pg_name (i := 8) sc_taken.nd rfl (Or.inl rfl)) (pgs_cons (pg_name (i := 9) sc_taken.nd rfl (Or.inl rfl)) pgs_nil))))
  (pss_cons (ps_set (i := 10) sc_taken.nd rfl (Or.inl rfl) (pe_fn O_often (hr.mono (by decide)) (pa_cons (pv 0) (pa_cons (pv 7) (pa_cons (pv 1) pa_nil)))))
  (pss_one (ps_if (pt_cmpR op_gt (pv 10) pe_int (nomark _)) (pss_one (ps_expr (pe_bm PySem.F.plainAttrs_list PySem.F.slot_list_append PySem.F.type_list_append mt_append (pv 4) (pa_cons (pe_tup (pa_cons (pv 7) (pa_cons (pv 10) pa_nil))) pa_nil)))) pss_nil))))))
  (pss_one (ps_ret (pv 4))))))), ?_⟩)
  subst hvs
  exact pu_taken T hR hv h1 h2 h3 h4 h5 b q
end
end K41
set_option Elab.async false
set_option linter.all false
set_option maxRecDepth 100000
set_option maxHeartbeats 4000000
namespace K41
open PySem PySem.Spec PyProof.Rows L2 Evl
local macro_rules | `(tactic| walk_at "cc") => `(tactic| first
  | assumption
  | (with_reducible show (0 : Int) < _; omega)
  | exact Or.inl ⟨by omega, by omega⟩
  | exact Or.inr ⟨by omega, by omega⟩
  | exact And.intro (by omega) (by omega)
  | (show (0 : Int) < _; omega)
  | omega)
local macro_rules | `(tactic| walk_at "ev") => `(tactic| first
  | assumption
  | with_reducible exact ev_c
  | exact ev_var rfl
  | ((with_reducible refine' ev_op ?ka ?kb rv_I0); (case ka => walk_at "ev"); (case kb => walk_at "ev"))
  | ((with_reducible refine' ev_op ?ka ?kb (rv_I ?kc)); (case ka => walk_at "ev"); (case kb => walk_at "ev"); (case kc => walk_at "cc"))
  | ((with_reducible refine' ev_op (r := rEq) ?ka ?kb ?kd); (case ka => walk_at "ev"); (case kb => walk_at "ev"); (case kd => refine' rv_eq ?kc; rfl))
  | ((with_reducible refine' ev_op (r := rNe) ?ka ?kb ?kd); (case ka => walk_at "ev"); (case kb => walk_at "ev"); (case kd => refine' rv_ne ?kc; rfl))
  | ((with_reducible refine' ev_un ?ka ru_neg); (case ka => walk_at "ev"))
  | ((with_reducible refine' et_test ?ka); (case ka => walk_at "ev")))

section
variable {P : Program} {w : World} {K : PySem.W.Frag} {mg : Str → Option Value} {base : Heap}
/-! ### the law's own defs: cells, draws -/
def cellM (ns : List Int) (k : Nat) : Int := if ns.length = 0 then 7919 * ((k : Int) + 1) else if k < ns.length then ns.getD k 0 else ns.getD (k % ns.length) 0 + 104729 * (k : Int)
def preCell (K : PySem.W.Frag) : List V → Hp → PyData → Prop := fun vs H d => ∃ (a : Addr) (ns : List Int) (k : Nat), vs = [.ref a, .int (k : Int)] ∧ SqL K H a (ns.map V.int) ∧ k ≤ 1000 ∧ d = .int (cellM ns k)
abbrev sp_L_cell (K : PySem.W.Frag) : Sp := spG (preCell K) K
def rd_L_cell (K : PySem.W.Frag) : TS := (tSeq (tIfS (tTest (tOp rEq (tCB (rLenS K) (tCons (tVar 0) tNil)) (tC (.int 0)))) (tRet (tOp oMul (tC (.int 7919)) (tOp oAdd (tVar 1) (tC (.int 1))))) tNext)
  (tSeq (tIfS (tTest (tOp oLt (tVar 1) (tCB (rLenS K) (tCons (tVar 0) tNil)))) (tRet (tOp (rIxL K) (tVar 0) (tVar 1))) tNext)
  (tRet (tOp oAdd (tOp (rIxL K) (tVar 0) (tOp oMod (tVar 1) (tCB (rLenS K) (tCons (tVar 0) tNil)))) (tOp oMul (tC (.int 104729)) (tVar 1))))))
theorem ev_lstS {ta tb : TE} {σ : L2.St} {H : Hp} {p : Addr} {l : List Int} {i : Nat} (hp : SqL K H p (l.map V.int)) (h : Ev ta σ H (.ref p)) (hi : Ev tb σ H (.int (i : Int))) (hl : i < l.length) : Ev (tOp (rIxL K) ta tb) σ H (.int (l.getD i 0)) :=
  ev_op h hi (rv_ixL hp (atI_nat (at_V hl)))
theorem pu_L_cell {H : Hp} {a : Addr} {ns : List Int} {k : Nat} {Q : VK} (ha : SqL K H a (ns.map V.int)) (hk : k ≤ 1000) (q : ∀ v H2, Ex H H2 → Dp K H2 v (.int (cellM ns k)) → Q v H2) :
    rd_L_cell K { nx := fun _ H' => Q .non H', rt := Q } (start ["_law_script", "_law_k"] [.ref a, .int (k : Int)]) H := by
  have hlen : ∀ {H1 : Hp} {σ : L2.St}, Ex H H1 → σ[0]? = some (some (.ref a)) → Ev (tCB (rLenS K) (tCons (tVar 0) tNil)) σ H1 (.int (ns.length : Int)) := fun e h => ev_is (ev_len (ev_var h) (ex_l e ha)) (by rw [List.length_map])
  have ec : cellM ns k = if ns.length = 0 then 7919 * ((k : Int) + 1) else if k < ns.length then ns.getD k 0 else ns.getD (k % ns.length) 0 + 104729 * (k : Int) := rfl
  refine q_when (b := decide (ns.length = 0)) (et_is (et_test (ev_op (hlen (Ex.refl H) rfl) ev_c (rv_eq rfl))) (by simp)) (fun hc H1 e1 => ?_) (fun hc H1 e1 => ?_)
  · rw [if_pos (of_decide_eq_true hc)] at ec
    refine s_ret (ev_op ev_c (ev_op (ev_var rfl) ev_c rv_I0) (rv_I (.inl ⟨by omega, by omega⟩))) fun H2 e2 => q _ _ (e1.trans e2) ?_
    rw [ec]
    exact .int _
  · have hc := of_decide_eq_false hc
    rw [if_neg hc] at ec
    refine q_when (b := decide (k < ns.length)) (et_is (et_test (ev_op (ev_var rfl) (hlen e1 rfl) rv_I0)) (by simp)) (fun hc2 H2 e2 => ?_) (fun hc2 H2 e2 => ?_)
    · have hc2 := of_decide_eq_true hc2
      rw [if_pos hc2] at ec
      refine s_ret (ev_lstS (ex_l (e1.trans e2) ha) (ev_var rfl) (ev_var rfl) hc2) fun H3 e3 => q _ _ ((e1.trans e2).trans e3) ?_
      rw [ec]
      exact .int _
    · rw [if_neg (of_decide_eq_false hc2)] at ec
      refine s_ret (ev_op (ev_lstS (i := k % ns.length) (ex_l (e1.trans e2) ha) (ev_var rfl) (ev_mod (ev_var rfl) (hlen (e1.trans e2) rfl) (by omega)) (Nat.mod_lt _ (by omega))) (ev_op ev_c (ev_var rfl) (rv_I (.inl ⟨by omega, by omega⟩))) rv_I0) fun H3 e3 => q _ _ ((e1.trans e2).trans e3) ?_
      rw [ec]
      exact .int _
theorem ok_L_cell (T : Tx K mg) : Ok P w K mg base CX0 "_law_cell" ["_law_script", "_law_k"] 1 (sp_L_cell K) := by
  refine ok_ofG T.g_L_cell T.f_L_cell sc_L_cell (fun _ _ _ _ _ _ us hl => match us, hl with | [_, _], _ => rfl) (fun vs H d ⟨a, ns, k, e, _⟩ => by rw [e]; rfl) (fun cdv A outer s H vs Q E d hr ⟨a, ns, k, e, h1, h2, ed⟩ q => ⟨rd_L_cell K, PSs.nox ((pss_cons (ps_if (pt_cmpR op_eq (pe_len T.b_len (pv 0)) pe_int (nomark _)) (pss_one (ps_ret (pe_op op_mul pe_int (pe_op op_add (pv 1) pe_int)))) pss_nil)
  (pss_cons (ps_if (pt_cmpR op_lt (pv 1) (pe_len T.b_len (pv 0)) (nomark _)) (pss_one (ps_ret (pe_ix ix_list (pv 0) (pv 1) (fun _ _ => rfl)))) pss_nil)
  (pss_one (ps_ret (pe_op op_add (pe_ix ix_list (pv 0) (pe_op op_mod (pv 1) (pe_len T.b_len (pv 0))) (fun _ _ => rfl)) (pe_op op_mul pe_int (pv 1)))))))), ?_⟩)
  subst ed e
  exact pu_L_cell h1 h2 q
def mixedM (c : Int) (k : Nat) (p : Int) : Int := ((c + 7 * (k : Int) * (k : Int) + 13 * (k : Int) + 5) * 48271 % 2147483647) * ((c + 7 * (k : Int) * (k : Int) + 13 * (k : Int) + 5) * 48271 % 2147483647) % 2147483629 * 39373 % p
def dmMixed : List PyData → PyData → Prop := fun ds d => ∃ (c : Int) (k : Nat) (p : Int), k ≤ 1000 ∧ 0 < p ∧ ds = [.int c, .int (k : Int), .int p] ∧ d = .int (mixedM c k p)
abbrev sp_L_mixed (K : PySem.W.Frag) : Sp := spG (onD K dmMixed) K
def rd_L_mixed (K : PySem.W.Frag) : TS := (tSeq (tAsg (tOp oMod (tOp oMul (tOp oAdd (tOp oAdd (tOp oAdd (tVar 0) (tOp oMul (tOp oMul (tC (.int 7)) (tVar 1)) (tVar 1))) (tOp oMul (tC (.int 13)) (tVar 1))) (tC (.int 5))) (tC (.int 48271))) (tC (.int 2147483647))) (gName 3))
  (tSeq (tAsg (tOp oMod (tOp oMul (tVar 3) (tVar 3)) (tC (.int 2147483629))) (gName 3))
  (tRet (tOp oMod (tOp oMul (tVar 3) (tC (.int 39373))) (tVar 2)))))
theorem pu_L_mixed {H : Hp} {c p : Int} {k : Nat} {Q : VK} (hk : k ≤ 1000) (hp : 0 < p) (q : ∀ v H2, Ex H H2 → Dp K H2 v (.int (mixedM c k p)) → Q v H2) :
    rd_L_mixed K { nx := fun _ H' => Q .non H', rt := Q } (start ["_law_cell_here", "_law_k", "_law_prime", "_law_far"] [.int c, .int (k : Int), .int p]) H := by
  have em : mixedM c k p = ((c + 7 * (k : Int) * (k : Int) + 13 * (k : Int) + 5) * 48271 % 2147483647) * ((c + 7 * (k : Int) * (k : Int) + 13 * (k : Int) + 5) * 48271 % 2147483647) % 2147483629 * 39373 % p := rfl
  refine q_asg (v := .int ((c + 7 * (k : Int) * (k : Int) + 13 * (k : Int) + 5) * 48271 % 2147483647)) (ev_op (ev_op (ev_op (ev_op (ev_op (ev_var rfl) (ev_op (ev_op ev_c (ev_var rfl) (rv_I (.inl ⟨by omega, by omega⟩))) (ev_var rfl) (rv_I (.inl ⟨by omega, by omega⟩))) rv_I0) (ev_op ev_c (ev_var rfl) (rv_I (.inl ⟨by omega, by omega⟩))) rv_I0) ev_c rv_I0) ev_c (rv_I (.inr ⟨by omega, by omega⟩))) ev_c (rv_I (by decide))) fun H1 e1 => ?_
  generalize (c + 7 * (k : Int) * (k : Int) + 13 * (k : Int) + 5) * 48271 = z at *
  have z0 := Int.emod_nonneg z (show (2147483647 : Int) ≠ 0 by decide)
  have z1 := Int.emod_lt_of_pos z (show (0 : Int) < 2147483647 by decide)
  generalize z % 2147483647 = y at *
  refine q_asg (v := .int (y * y % 2147483629)) (ev_op (ev_op (ev_var rfl) (ev_var rfl) (rv_I (.inl ⟨by omega, by omega⟩))) ev_c (rv_I (by decide))) fun H2 e2 => ?_
  refine s_ret (ev_op (ev_op (ev_var rfl) ev_c (rv_I (.inr ⟨by omega, by omega⟩))) (ev_var rfl) (rv_I hp)) fun H3 e3 => q _ _ ((e1.trans e2).trans e3) ?_
  rw [em]
  exact .int _
theorem ok_L_mixed (T : Tx K mg) : Ok P w K mg base CX0 "_law_mixed" ["_law_cell_here", "_law_k", "_law_prime"] 1 (sp_L_mixed K) := by
  refine ok_ofG T.g_L_mixed T.f_L_mixed sc_L_mixed (fun _ _ _ _ _ _ us hl => match us, hl with | [_, _, _], _ => rfl) (fun vs H d ⟨ds, ⟨c, k, p, _, _, e, _⟩, hd⟩ => by rw [dpAll_len hd, e]; rfl) (fun cdv A outer s H vs Q E d hr ⟨ds, ⟨c, k, p, h1, h2, hds, ed⟩, hv⟩ q => ⟨rd_L_mixed K, PSs.nox ((pss_cons (ps_set (i := 3) sc_L_mixed.nd rfl (Or.inl rfl) (pe_op op_mod (pe_op op_mul (pe_op op_add (pe_op op_add (pe_op op_add (pv 0) (pe_op op_mul (pe_op op_mul pe_int (pv 1)) (pv 1))) (pe_op op_mul pe_int (pv 1))) pe_int) pe_int) pe_int))
  (pss_cons (ps_set (i := 3) sc_L_mixed.nd rfl (Or.inl rfl) (pe_op op_mod (pe_op op_mul (pv 3) (pv 3)) pe_int))
  (pss_one (ps_ret (pe_op op_mod (pe_op op_mul (pv 3) pe_int) (pv 2))))))), ?_⟩)
  subst ed hds
  obtain ⟨v1, v2, v3, rfl, k1, k2, k3⟩ := dpAll_three hv
  rw [dp_int k1, dp_int k2, dp_int k3]
  exact pu_L_mixed h1 h2 q
def drawTo (c : Int) (ws : List Int) (p : Int) (left : Int) : Nat → Int × List Int
  | 0 => (left, [])
  | i + 1 => if 1 < (drawTo c ws p left i).1 then ((drawTo c ws p left i).1 / ws.getD i 0, (drawTo c ws p left i).2 ++ [(drawTo c ws p left i).1 % ws.getD i 0])
    else ((drawTo c ws p left i).1, (drawTo c ws p left i).2 ++ [mixedM c i p % ws.getD i 0])
def drawsM (c : Int) (ws : List Int) (p : Int) : List Int := (drawTo c ws p (if 1000000000000000000 ≤ c then c - 1000000000000000000 else 0) ws.length).2
theorem getD_l {l m : List Int} {k : Nat} (h : k < l.length) : (l ++ m).getD k 0 = l.getD k 0 := by simp [List.getD, List.getElem?_append_left h]
theorem getD_r {l m : List Int} {k : Nat} (h : l.length ≤ k) : (l ++ m).getD k 0 = m.getD (k - l.length) 0 := by simp [List.getD, List.getElem?_append_right h]
theorem drawTo_is {c : Int} {ws : List Int} {p left : Int} : ∀ i, i ≤ ws.length → (∀ x ∈ ws, 0 < x) → (drawTo c ws p left i).2.length = i ∧ ∀ k, k < i → 0 ≤ (drawTo c ws p left i).2.getD k 0 ∧ (drawTo c ws p left i).2.getD k 0 < ws.getD k 0
  | 0, _, _ => ⟨rfl, fun k h => by omega⟩
  | i + 1, hi, hw => by
    obtain ⟨h1, h2⟩ := drawTo_is (c := c) (ws := ws) (p := p) (left := left) i (by omega) hw
    have hwi : 0 < ws.getD i 0 := by rw [getD_at (by omega)]; exact hw _ (List.getElem_mem _)
    have key : ∀ x : Int, ((drawTo c ws p left i).2 ++ [x % ws.getD i 0]).length = i + 1 ∧ ∀ k, k < i + 1 → 0 ≤ ((drawTo c ws p left i).2 ++ [x % ws.getD i 0]).getD k 0 ∧ ((drawTo c ws p left i).2 ++ [x % ws.getD i 0]).getD k 0 < ws.getD k 0 := fun x => by
      refine ⟨by rw [List.length_append, h1]; rfl, fun k hk => ?_⟩
      rcases Nat.lt_or_ge k i with h | h
      · rw [getD_l (by omega)]
        exact h2 k h
      · have e : k = i := by omega
        subst e
        rw [getD_r (by omega), h1, Nat.sub_self]
        show 0 ≤ x % _ ∧ x % _ < _
        exact ⟨Int.emod_nonneg _ (by omega), Int.emod_lt_of_pos _ hwi⟩
    unfold drawTo
    split
    · exact key _
    · exact key _
theorem drawsM_is {c : Int} {ws : List Int} {p : Int} (hw : ∀ x ∈ ws, 0 < x) : (drawsM c ws p).length = ws.length ∧ ∀ k, k < ws.length → 0 ≤ (drawsM c ws p).getD k 0 ∧ (drawsM c ws p).getD k 0 < ws.getD k 0 := drawTo_is _ (Nat.le_refl _) hw
def dmDraws : List PyData → List PyData → Prop := fun ds es => ∃ (c : Int) (ws : List Int) (p : Int), ws.length ≤ 50 ∧ (∀ x ∈ ws, 0 < x ∧ x < 1000000000) ∧ 0 < p ∧ ds = [.int c, .list (ws.map .int), .int p] ∧ es = (drawsM c ws p).map .int
abbrev sp_L_draws (K : PySem.W.Frag) : Sp := spN (onD K dmDraws) K
def rd_L_draws (K : PySem.W.Frag) : TS := (tSeq (tAsg (tC (.int 0)) (gName 3))
  (tCut (tIfS (tTest (tOp oGe (tVar 0) (tOp oPow (tC (.int 10)) (tC (.int 18))))) (tAsg (tOp oSub (tVar 0) (tOp oPow (tC (.int 10)) (tC (.int 18)))) (gName 3)) tNext)
  (tSeq (tAsg (tLst tNil) (gName 4))
  (tSeq (tFor (iRng1 (tCons (tCB (rLenS K) (tCons (tVar 1) tNil)) tNil)) (gName 5)
  (tIfS (tTest (tOp oGt (tVar 3) (tC (.int 1)))) (tSeq (tDrop (tBM K "list" rAppend (tVar 4) (tCons (tOp oMod (tVar 3) (tOp (rIxL K) (tVar 1) (tVar 5))) tNil)))
  (tAsg (tOp oDiv (tVar 3) (tOp (rIxL K) (tVar 1) (tVar 5))) (gName 3))) (tDrop (tBM K "list" rAppend (tVar 4) (tCons (tOp oMod (tCall (sp_L_mixed K) [] E0 (tCons (tVar 0) (tCons (tVar 5) (tCons (tVar 2) tNil)))) (tOp (rIxL K) (tVar 1) (tVar 5))) tNil)))))
  (tRet (tVar 4))))))
theorem pu_L_draws {H : Hp} {c p : Int} {v : V} {ws : List Int} {Q : VK} (hl : ws.length ≤ 50) (hw : ∀ x ∈ ws, 0 < x ∧ x < 1000000000) (hp : 0 < p) (hv : Dp K H v (.list (ws.map .int)))
    (q : ∀ l xs H2, H l = none → Ex H H2 → H2 l = some (.lst xs) → DpAll K H2 xs ((drawsM c ws p).map .int) → Q (.ref l) H2) :
    rd_L_draws K { nx := fun _ H' => Q .non H', rt := Q } (start ["_law_cell_here", "_law_widths", "_law_prime", "_law_left", "_law_found", "_law_k"] [.int c, v, .int p]) H := by
  obtain ⟨wa, wxs, rfl, hwa, hwx⟩ := dp_lst hv
  rw [dpAll_intsV hwx] at hwa
  refine q_asg ev_c fun H1 e1 => ?_
  have e18 : Ev (tOp oPow (tC (.int 10)) (tC (.int 18))) [some (.int c), some (.ref wa), some (.int p), some (.int 0), none, none] H1 (.int 1000000000000000000) := ev_is (ev_op ev_c ev_c (rv_I ⟨by decide, by decide, by decide⟩)) (congrArg V.int (by decide))
  have edr : drawsM c ws p = (drawTo c ws p (if 1000000000000000000 ≤ c then c - 1000000000000000000 else 0) ws.length).2 := rfl
  refine q_cut (M := fun σ' H' => σ' = [some (.int c), some (.ref wa), some (.int p), some (.int (if 1000000000000000000 ≤ c then c - 1000000000000000000 else 0)), none, none] ∧ Ex H H') (s_when (b := decide (1000000000000000000 ≤ c)) (et_is (et_test (ev_op (ev_var rfl) e18 rv_I0)) (by simp)) (fun hc H2 e2 => ?_) (fun hc H2 e2 => ⟨by rw [if_neg (of_decide_eq_false hc)]; rfl, e1.trans e2⟩)) ?_
  · exact s_asg (ev_op (ev_var rfl) (e18.mono e2) rv_I0) fun H3 e3 => ⟨by rw [if_pos (of_decide_eq_true hc)]; rfl, (e1.trans e2).trans e3⟩
  · rintro σ' H2 ⟨rfl, e2⟩
    generalize (if 1000000000000000000 ≤ c then c - 1000000000000000000 else 0 : Int) = left at *
    refine q_asgL (el_lst (vs := []) ea_nil (Nat.le_of_ble_eq_true rfl)) fun pp H3 np e3 hpp => ?_
    have np0 : H pp = none := fresh_back e2 np
    refine q_forR1 (n := (ws.length : Int)) (ea_cons (ev_is (ev_len (ev_var rfl) (ex_l (e2.trans e3) hwa)) (by rw [List.length_map])) ea_nil) ⟨by omega, by omega⟩
      (fun i σ' H' => ∃ y, σ' = [some (.int c), some (.ref wa), some (.int p), some (.int (drawTo c ws p left i).1), some (.ref pp), y] ∧ Ex H H' ∧ H' pp = some (.lst ((drawTo c ws p left i).2.map V.int)))
      (fun H4 e4 => ⟨none, rfl, (e2.trans e3).trans e4, e4 _ _ hpp⟩) ?_ ?_
    · rintro i σ' H' hi ⟨y, rfl, e', hp'⟩
      have hi : i < ws.length := by omega
      have hlen := (drawTo_is (c := c) (ws := ws) (p := p) (left := left) i (by omega) fun x hx => (hw x hx).1).1
      have hwi : 0 < ws.getD i 0 ∧ ws.getD i 0 < 1000000000 := by rw [getD_at hi]; exact hw _ (List.getElem_mem _)
      have wat : ∀ {H1 : Hp} {σ : L2.St}, Ex H H1 → σ[1]? = some (some (.ref wa)) → σ[5]? = some (some (.int (i : Int))) → Ev (tOp (rIxL K) (tVar 1) (tVar 5)) σ H1 (.int (ws.getD i 0)) := fun e h1 h2 => ev_lstS (ex_l e hwa) (ev_var h1) (ev_var h2) hi
      have est : drawTo c ws p left (i + 1) = if 1 < (drawTo c ws p left i).1 then ((drawTo c ws p left i).1 / ws.getD i 0, (drawTo c ws p left i).2 ++ [(drawTo c ws p left i).1 % ws.getD i 0])
        else ((drawTo c ws p left i).1, (drawTo c ws p left i).2 ++ [mixedM c i p % ws.getD i 0]) := rfl
      generalize drawTo c ws p left (i + 1) = S' at est ⊢
      generalize drawTo c ws p left i = S at *
      show tIfS _ _ _ _ _ _
      refine s_if (b := decide (1 < S.1)) (et_test (ev_op (ev_var rfl) ev_c rv_I0)) (fun hc H4 e4 => ?_) (fun hc H4 e4 => ?_)
      · have hc := of_decide_eq_true hc
        rw [if_pos hc] at est
        subst est
        refine q_app (v := .int (S.1 % ws.getD i 0)) (e4 _ _ hp') (ev_var rfl) (ev_op (ev_var rfl) (wat (e'.trans e4) rfl rfl) (rv_I hwi.1)) (by rw [List.length_map]; omega) fun H5 e5 => ?_
        have ex5 : Ex H (upd H5 pp (.lst (S.2.map V.int ++ [.int (S.1 % ws.getD i 0)]))) := Ex.mut ((e'.trans e4).trans e5) np0
        refine s_asg (ev_op (ev_var rfl) (wat ex5 rfl rfl) (rv_I ⟨hwi.1, by omega⟩)) fun H6 e6 => ⟨some (.int (i : Int)), rfl, ex5.trans e6, ?_⟩
        rw [e6 _ _ upd_same, List.map_append]
        rfl
      · rw [if_neg (of_decide_eq_false hc)] at est
        subst est
        refine s_app (v := .int (mixedM c i p % ws.getD i 0)) (e4 _ _ hp') (ev_var rfl) (ev_op (ev_int (d_call (dom := dmMixed) (a_cons (d_int (ev_var rfl)) (a_cons (d_int (ev_var rfl)) (a_cons (d_int (ev_var rfl)) a_nil))) ⟨c, i, p, by omega, hp, rfl, rfl⟩)) (wat (e'.trans e4) rfl rfl) (rv_I hwi.1)) (by rw [List.length_map]; omega) fun H5 e5 => ⟨some (.int (i : Int)), rfl, Ex.mut ((e'.trans e4).trans e5) np0, ?_⟩
        rw [upd_same, List.map_append]
        rfl
    · rintro σ' H' ⟨y, rfl, e', hp'⟩
      rw [Int.toNat_natCast, ← edr] at hp'
      exact s_ret (ev_var rfl) fun H6 e6 => q pp _ H6 np0 (e'.trans e6) (e6 _ _ hp') (dpAll_ints _)
theorem ok_L_draws (T : Tx K mg) : Ok P w K mg base CX0 "_law_draws" ["_law_cell_here", "_law_widths", "_law_prime"] 2 (sp_L_draws K) := by
  have O_L_mixed := ok_L_mixed (P := P) (w := w) (base := base) T
  refine ok_ofN T.g_L_draws T.f_L_draws sc_L_draws (fun _ _ _ _ _ _ us hl => match us, hl with | [_, _, _], _ => rfl) (fun vs H d ⟨ds, ⟨c, ws, p, _, _, _, e, _⟩, hd⟩ => by rw [dpAll_len hd, e]; rfl) (fun cdv A outer s H vs Q E d hr ⟨ds, ⟨c, ws, p, h1, h2, h3, hds, ed⟩, hv⟩ q => ⟨rd_L_draws K, PSs.nox ((pss_cons (ps_set (i := 3) sc_L_draws.nd rfl (Or.inl rfl) pe_int)
  (pss_cut (ps_if (pt_cmpR op_ge (pv 0) (pe_op op_pow pe_int pe_int) (nomark _)) (pss_one (ps_set (i := 3) sc_L_draws.nd rfl (Or.inl rfl) (pe_op op_sub (pv 0) (pe_op op_pow pe_int pe_int)))) pss_nil)
  (pss_cons (ps_set (i := 4) sc_L_draws.nd rfl (Or.inl rfl) (pe_lst pa_nil))
  (pss_cons (ps_for PassesOwn.never rfl (pi_range1 (by rfl) T.b_range (pa_cons (pe_len T.b_len (pv 1)) pa_nil)) (pg_name (i := 5) sc_L_draws.nd rfl (Or.inl rfl))
  (pss_one (ps_if (pt_cmpR op_gt (pv 3) pe_int (nomark _)) (pss_cons (ps_expr (pe_bm PySem.F.plainAttrs_list PySem.F.slot_list_append PySem.F.type_list_append mt_append (pv 4) (pa_cons (pe_op op_mod (pv 3) (pe_ix ix_list (pv 1) (pv 5) (fun _ _ => rfl))) pa_nil)))
  (pss_one (ps_set (i := 3) sc_L_draws.nd rfl (Or.inl rfl) (pe_op op_fdiv (pv 3) (pe_ix ix_list (pv 1) (pv 5) (fun _ _ => rfl)))))) (pss_one (ps_expr (pe_bm PySem.F.plainAttrs_list PySem.F.slot_list_append PySem.F.type_list_append mt_append (pv 4) (pa_cons (pe_op op_mod (pe_fn O_L_mixed (hr.mono (by decide)) (pa_cons (pv 0) (pa_cons (pv 5) (pa_cons (pv 2) pa_nil)))) (pe_ix ix_list (pv 1) (pv 5) (fun _ _ => rfl))) pa_nil)))))))
  (pss_one (ps_ret (pv 4)))))))), ?_⟩)
  subst ed hds
  obtain ⟨v1, v2, v3, rfl, k1, k2, k3⟩ := dpAll_three hv
  rw [dp_int k1, dp_int k3]
  exact pu_L_draws h1 h2 h3 k2 q
/-! ### shifted, poly -/
def isRow (n : Nat) : PyData → Prop := fun d => ∃ g : List Int, g.length = n ∧ d = dR g
def dmShift : List PyData → (PyData → Prop) → Prop := fun ds R => ∃ (f : List Int) (s : Int), 2 ≤ f.length ∧ f.length ≤ 10 ∧ s.natAbs ≤ 1000 ∧ ds = [dR f, .int s] ∧ R = isRow f.length
abbrev sp_L_shifted (K : PySem.W.Frag) : Sp := spR (onD K dmShift) K
def rd_L_shifted (K : PySem.W.Frag) : TS := (tSeq (tAsg (tCB (rListS K) (tCons (tVar 0) tNil)) (gName 2))
  (tSeq (tFor (iRng1 (tCons (tOp oSub (tCB (rLenS K) (tCons (tVar 2) tNil)) (tC (.int 1))) tNil)) (gName 3)
  (tFor (iRng3 (tCons (tOp oSub (tCB (rLenS K) (tCons (tVar 2) tNil)) (tC (.int 2))) (tCons (tOp oSub (tVar 3) (tC (.int 1))) (tCons (tUn uNeg (tC (.int 1))) tNil)))) (gName 4)
  (tAsg (tOp oAdd (tOp (rIxL K) (tVar 2) (tVar 4)) (tOp oMul (tVar 1) (tOp (rIxL K) (tVar 2) (tOp oAdd (tVar 4) (tC (.int 1)))))) (gSub (tVar 2) (tVar 4) rSetL))))
  (tRet (tCB (rTupleS K) (tCons (tVar 2) tNil)))))
theorem pu_L_shifted {H : Hp} {v : V} {f : List Int} {s : Int} {Q : VK} (hf1 : 2 ≤ f.length) (hf : f.length ≤ 10) (hs : s.natAbs ≤ 1000) (hv : Dp K H v (dR f)) (q : ∀ v d H2, Ex H H2 → isRow f.length d → Dp K H2 v d → Q v H2) :
    rd_L_shifted K { nx := fun _ H' => Q .non H', rt := Q } (start ["_law_poly_here", "_law_s", "_law_row", "_law_low", "_law_at"] [v, .int s]) H := by
  refine q_asgN (n_list (K := K) (d_var rfl hv) (.inl rfl)) fun rp xs H1 nr e1 hrp hxs => ?_
  rw [dpAll_intsV hxs] at hrp
  have lenE : ∀ {H2 : Hp} {σ : L2.St} {row : List Int} {c : Int}, row.length = f.length → H2 rp = some (.lst (row.map V.int)) → σ[2]? = some (some (.ref rp)) → Ev (tOp oSub (tCB (rLenS K) (tCons (tVar 2) tNil)) (tC (.int c))) σ H2 (.int ((f.length : Int) - c)) := fun hl h1 h2 => ev_is (ev_op (ev_len (ev_var h2) (sq_of h1)) ev_c rv_I0) (by rw [List.length_map, hl])
  refine q_forR1 (n := (f.length : Int) - 1) (ea_cons (lenE rfl hrp rfl) ea_nil) ⟨by omega, by omega⟩
    (fun i σ' H' => ∃ (y1 y2 : Option V) (row : List Int), σ' = [some v, some (.int s), some (.ref rp), y1, y2] ∧ Ex H H' ∧ row.length = f.length ∧ H' rp = some (.lst (row.map V.int)))
    (fun H2 e2 => ⟨none, none, f, rfl, e1.trans e2, rfl, e2 _ _ hrp⟩) ?_ ?_
  · rintro i σ' H' hi ⟨y1, y2, row, rfl, e', hl, hp'⟩
    show tFor _ _ _ _ _ _
    refine s_forDn (a := (f.length : Int) - 2) (b := (i : Int) - 1) (ea_cons (lenE hl hp' rfl) (ea_cons (ev_op (ev_var rfl) ev_c rv_I0) (ea_cons (ev_un ev_c ru_neg) ea_nil))) ⟨by omega, by omega, by omega, by omega⟩
      (fun j σ' H' => ∃ (y2 : Option V) (row : List Int), σ' = [some v, some (.int s), some (.ref rp), some (.int (i : Int)), y2] ∧ Ex H H' ∧ row.length = f.length ∧ H' rp = some (.lst (row.map V.int)))
      (fun H2 e2 => ⟨y2, row, rfl, e'.trans e2, hl, e2 _ _ hp'⟩) ?_ (fun σ2 H2 ⟨y3, row2, hσ, e2, hl2, hp2⟩ => ⟨_, y3, row2, hσ, e2, hl2, hp2⟩)
    rintro j σ2 H2 hj ⟨y3, row2, rfl, e2, hl2, hp2⟩
    obtain ⟨m, hm⟩ : ∃ m : Nat, (f.length : Int) - 2 - (j : Int) = (m : Int) := ⟨((f.length : Int) - 2 - (j : Int)).toNat, by omega⟩
    rw [hm]
    have hm1 : m + 1 < row2.length := by omega
    have h1 : Ev (tOp oAdd (tVar 4) (tC (.int 1))) [some v, some (.int s), some (.ref rp), some (.int (i : Int)), some (.int (m : Int))] H2 (.int ((m + 1 : Nat) : Int)) := ev_op (ev_var rfl) ev_c rv_I0
    refine s_setL (v := .int (row2.getD m 0 + s * row2.getD (m + 1) 0)) (j := m) hp2 (ev_op (ev_lst (i := m) hp2 (ev_var rfl) (ev_var rfl) (by omega)) (ev_op (ev_var rfl) (ev_lst (i := m + 1) hp2 (ev_var rfl) h1 hm1) (rv_I (.inl ⟨by omega, by omega⟩))) rv_I0) (ev_var rfl) (ev_var rfl) (by rw [List.length_map]; omega) fun H3 e3 => ?_
    refine ⟨some (.int (m : Int)), row2.set m (row2.getD m 0 + s * row2.getD (m + 1) 0), rfl, Ex.mut (e2.trans e3) nr, by rw [List.length_set, hl2], ?_⟩
    rw [upd_same, List.map_set]
  · rintro σ' H' ⟨y1, y2, row, rfl, e', hl, hp'⟩
    exact s_retD (d_tuple (d_ev (ev_var rfl) (.lst (sq_of hp') (dpAll_ints row))) (.inr rfl)) fun w' H3 e3 pw => q w' _ H3 (e'.trans e3) ⟨row, hl, rfl⟩ pw
theorem ok_L_shifted (T : Tx K mg) : Ok P w K mg base CX0 "_law_shifted" ["_law_poly_here", "_law_s"] 1 (sp_L_shifted K) := by
  refine ok_ofR T.g_L_shifted T.f_L_shifted sc_L_shifted (fun _ _ _ _ _ _ us hl => match us, hl with | [_, _], _ => rfl) (fun vs H d ⟨ds, ⟨f, s, _, _, _, e, _⟩, hd⟩ => by rw [dpAll_len hd, e]; rfl) (fun cdv A outer s H vs Q E d hr ⟨ds, ⟨f, s', h1, h2, h3, hds, ed⟩, hv⟩ q => ⟨rd_L_shifted K, PSs.nox ((pss_cons (ps_set (i := 2) sc_L_shifted.nd rfl (Or.inl rfl) (pe_listc T.b_list (pv 0)))
  (pss_cons (ps_for PassesOwn.never rfl (pi_range1 (by rfl) T.b_range (pa_cons (pe_op op_sub (pe_len T.b_len (pv 2)) pe_int) pa_nil)) (pg_name (i := 3) sc_L_shifted.nd rfl (Or.inl rfl))
  (pss_one (ps_for PassesOwn.never rfl (pi_range3 (by rfl) T.b_range (pa_cons (pe_op op_sub (pe_len T.b_len (pv 2)) pe_int) (pa_cons (pe_op op_sub (pv 3) pe_int) (pa_cons (pe_un un_neg pe_int) pa_nil)))) (pg_name (i := 4) sc_L_shifted.nd rfl (Or.inl rfl))
  (pss_one (ps_asg (pe_op op_add (pe_ix ix_list (pv 2) (pv 4) (fun _ _ => rfl)) (pe_op op_mul (pv 1) (pe_ix ix_list (pv 2) (pe_op op_add (pv 4) pe_int) (fun _ _ => rfl)))) (pg_sub (pv 2) (pv 4) set_list))))))
  (pss_one (ps_ret (pe_tuplec T.b_tuple (pv 2))))))), ?_⟩)
  subst ed hds
  obtain ⟨v, u, rfl, k1, k2⟩ := dpAll_two hv
  rw [dp_int k2]
  exact pu_L_shifted h1 h2 h3 k1 q
def anyRow : PyData → Prop := fun d => ∃ g : List Int, 1 ≤ g.length ∧ d = dR g
def dmPoly : List PyData → (PyData → Prop) → Prop := fun ds R => ∃ c p : Int, 0 < p ∧ ds = [.int c, .int p] ∧ R = anyRow
abbrev sp_L_poly (K : PySem.W.Frag) : Sp := spR (onD K dmPoly) K
def rd_L_poly (K : PySem.W.Frag) : TS := (tSeq (tAsg (tCall (sp_L_draws K) [] E0 (tCons (tVar 0) (tCons (tLst (tCons (tC (.int 3)) (tCons (tC (.int 8)) tNil))) (tCons (tVar 1) tNil)))) (gName 2))
  (tSeq (tAsg (tSl (rSlL K) (tCall (sp_L_draws K) [] E0 (tCons (tVar 0) (tCons (tLst (tCons (tC (.int 3)) (tCons (tC (.int 8)) (tCons (tC (.int 999)) (tCons (tC (.int 999)) (tCons (tC (.int 999)) (tCons (tC (.int 999)) tNil))))))) (tCons (tVar 1) tNil)))) (tPart (tC (.int 2))) (tPart (tOp oAdd (tOp (rIxL K) (tVar 2) (tC (.int 0))) (tC (.int 4))))) (gName 3))
  (tSeq (tIfS (tTest (tOp rEq (tOp (rIxL K) (tVar 2) (tC (.int 1))) (tC (.int 7)))) (tRet (tCB (rTupleS K) (tCons (tOp rCat (tLc (iList K (tVar 3)) (gName 5) tYes (tOp oSub (tVar 5) (tC (.int 499))) [5]) (tLst (tCons (tC (.int 1)) tNil))) tNil))) tNext)
  (tSeq (tAsg (tCall (sp_L_draws K) [] E0 (tCons (tVar 0) (tCons (tLst (tCons (tC (.int 3)) (tCons (tC (.int 8)) (tCons (tC (.int 9)) (tCons (tC (.int 9)) (tCons (tC (.int 9)) (tCons (tC (.int 5)) (tCons (tC (.int 7)) tNil)))))))) (tCons (tVar 1) tNil)))) (gName 4))
  (tSeq (tIfS (tTest (tOp rEq (tOp (rIxL K) (tVar 2) (tC (.int 0))) (tC (.int 0)))) (tSeq (tAsg (tCall (sp_L_draws K) [] E0 (tCons (tVar 0) (tCons (tLst (tCons (tC (.int 3)) (tCons (tC (.int 8)) (tCons (tC (.int 161)) (tCons (tC (.int 41)) tNil))))) (tCons (tVar 1) tNil)))) (gName 4))
  (tRet (tTup (tCons (tOp oSub (tOp (rIxL K) (tVar 4) (tC (.int 2))) (tC (.int 80))) (tCons (tOp oSub (tOp (rIxL K) (tVar 4) (tC (.int 3))) (tC (.int 20))) (tCons (tC (.int 1)) tNil)))))) tNext)
  (tSeq (tIfS (tTest (tOp rEq (tOp (rIxL K) (tVar 2) (tC (.int 0))) (tC (.int 1)))) (tRet (tCall (sp_L_shifted K) [] E0 (tCons (tTup (tCons (tOp oSub (tOp (rIxL K) (tVar 4) (tC (.int 2))) (tC (.int 4))) (tCons (tOp oSub (tOp (rIxL K) (tVar 4) (tC (.int 3))) (tC (.int 4))) (tCons (tOp oSub (tOp (rIxL K) (tVar 4) (tC (.int 4))) (tC (.int 4))) (tCons (tC (.int 1)) tNil))))) (tCons (tOp oSub (tOp (rIxL K) (tVar 4) (tC (.int 5))) (tC (.int 2))) tNil)))) tNext)
  (tSeq (tAsg (tCall (sp_L_draws K) [] E0 (tCons (tVar 0) (tCons (tLst (tCons (tC (.int 3)) (tCons (tC (.int 8)) (tCons (tC (.int 7)) (tCons (tC (.int 7)) (tCons (tC (.int 7)) (tCons (tC (.int 5)) (tCons (tC (.int 7)) tNil)))))))) (tCons (tVar 1) tNil)))) (gName 4))
  (tRet (tCall (sp_L_shifted K) [] E0 (tCons (tTup (tCons (tOp oSub (tOp (rIxL K) (tVar 4) (tC (.int 2))) (tC (.int 3))) (tCons (tOp oSub (tOp (rIxL K) (tVar 4) (tC (.int 3))) (tC (.int 3))) (tCons (tOp oSub (tOp (rIxL K) (tVar 4) (tC (.int 4))) (tC (.int 3))) (tCons (tOp oSub (tOp (rIxL K) (tVar 4) (tC (.int 6))) (tC (.int 3))) (tCons (tC (.int 1)) tNil)))))) (tCons (tOp oSub (tOp (rIxL K) (tVar 4) (tC (.int 5))) (tC (.int 2))) tNil)))))))))))
theorem cutD_map (l : List Int) (lo hi : Option Int) : ∃ m : List Int, cutD (l.map PyData.int) lo hi = m.map PyData.int ∧ m.length ≤ l.length := by
  refine ⟨(l.drop (HT.sIx l.length 0 lo)).take (HT.sIx l.length l.length hi - HT.sIx l.length 0 lo), ?_, ?_⟩
  · unfold cutD
    rw [List.length_map, ← List.map_drop, ← List.map_take]
  · rw [List.length_take, List.length_drop]
    omega
set_option maxHeartbeats 8000000 in
theorem pu_L_poly {H : Hp} {c p : Int} {Q : VK} (hp : 0 < p) (q : ∀ v d H2, Ex H H2 → anyRow d → Dp K H2 v d → Q v H2) :
    rd_L_poly K { nx := fun _ H' => Q .non H', rt := Q } (start ["_law_cell_here", "_law_prime", "_law_deep", "_law_wide", "_law_found", "_law_place"] [.int c, .int p]) H := by
  refine q_asgN (n_call (K := K) (dom := dmDraws) (a_cons (d_int (ev_var rfl)) (a_cons (d_ofN (n_lst (ds := [.int 3, .int 8]) (a_cons (d_int ev_c) (a_cons (d_int ev_c) a_nil)) (len2 _ _))) (a_cons (d_int (ev_var rfl)) a_nil))) ⟨c, [3, 8], p, by decide, by decide, hp, rfl, rfl⟩) fun dp xs H1 nd e1 hdp hxs => ?_
  rw [dpAll_intsV hxs] at hdp
  obtain ⟨dl, dw⟩ := drawsM_is (c := c) (ws := [3, 8]) (p := p) (by decide)
  have dl2 : (drawsM c [3, 8] p).length = 2 := dl
  have dw0 : 0 ≤ (drawsM c [3, 8] p).getD 0 0 ∧ (drawsM c [3, 8] p).getD 0 0 < 3 := dw 0 (by decide)
  generalize drawsM c [3, 8] p = deep at *
  obtain ⟨wide, hwide, lwide⟩ := cutD_map (drawsM c [3, 8, 999, 999, 999, 999] p) (some 2) (some (deep.getD 0 0 + 4))
  rw [(drawsM_is (c := c) (ws := [3, 8, 999, 999, 999, 999]) (p := p) (by decide)).1] at lwide
  have lw6 : wide.length ≤ 6 := lwide
  have deepE : ∀ {H2 : Hp} {σ : L2.St} {i : Nat}, Ex H1 H2 → σ[2]? = some (some (.ref dp)) → i < 2 → Ev (tOp (rIxL K) (tVar 2) (tC (.int (i : Int)))) σ H2 (.int (deep.getD i 0)) := fun e h1 h2 => ev_lst (e _ _ hdp) (ev_var h1) ev_c (by omega)
  refine q_asgN (n_cast (n_slL (K := K) (d_ofN (n_call (dom := dmDraws) (a_cons (d_int (ev_var rfl)) (a_cons (d_ofN (n_lst (ds := [.int 3, .int 8, .int 999, .int 999, .int 999, .int 999]) (a_cons (d_int ev_c) (a_cons (d_int ev_c) (a_cons (d_int ev_c) (a_cons (d_int ev_c) (a_cons (d_int ev_c) (a_cons (d_int ev_c) a_nil)))))) (Nat.le_of_ble_eq_true rfl))) (a_cons (d_int (ev_var rfl)) a_nil))) ⟨c, [3, 8, 999, 999, 999, 999], p, by decide, by decide, hp, rfl, rfl⟩)) (eo_some ev_c) (eo_some (ev_op (deepE (i := 0) (Ex.refl _) rfl (by decide)) ev_c rv_I0))) hwide) fun wp xs2 H2 nw e2 hwp hxs2 => ?_
  rw [dpAll_intsV hxs2] at hwp
  have e02 := e1.trans e2
  refine q_when (b := decide (deep.getD 1 0 = 7)) (et_is (et_test (ev_op (deepE (i := 1) e2 rfl (by decide)) ev_c (rv_eq rfl))) (by simp)) (fun hc H3 e3 => ?_) (fun hc H3 e3 => ?_)
  · have key := n_lcL (K := K) (tl := tVar 3) (te := tOp oSub (tVar 5) (tC (.int 499))) (t := tYes) (vs := [5]) (j := 5) (σ := [some (.int c), some (.int p), some (.ref dp), some (.ref wp), none, none]) (H := H3) (a := wp) (xs := wide.map V.int) (fun i => ((wide.take i).map fun x => x - 499).map PyData.int) (ev_var rfl) (sq_of (e3 _ _ hwp)) rfl
      (fun i hi => ⟨by rw [List.length_map, List.length_map, List.length_take]; omega, tOs_ints _⟩) (fun x => rfl) (fun i x H4 e4 hx => ⟨true, t_yes, fun _ => by
        obtain ⟨hi, rfl⟩ := of_V hx
        refine ⟨.int (wide.getD i 0 - 499), by simp [tO], d_int (ev_op (ev_var rfl) ev_c rv_I0), ?_⟩
        rw [List.take_add_one, List.getElem?_eq_getElem hi, getD_at hi, List.map_append, List.map_append]
        rfl, fun h => by cases h⟩)
    rw [List.length_map, List.take_length] at key
    refine s_retD (d_tuple (d_ofN (n_cat (K := K) key (n_lst (ds := [.int 1]) (a_cons (d_int ev_c) a_nil) (len1 _)) (by rw [List.length_map, List.length_map]; simp; omega))) (.inr rfl)) fun w' H4 e4 pw => q w' _ H4 ((e02.trans e3).trans e4) ⟨(wide.map fun x => x - 499) ++ [1], by rw [List.length_append]; simp, ?_⟩ pw
    unfold dR
    rw [List.map_append]
    rfl
  · have e03 := e02.trans e3
    have drawE : ∀ {H2 : Hp} {σ : L2.St} {ta : TA} (ws : List Int), σ[0]? = some (some (.int c)) → σ[1]? = some (some (.int p)) → EvAD K ta σ H2 (ws.map .int) → ws.length ≤ 50 → (∀ x ∈ ws, 0 < x ∧ x < 1000000000) → EvN K (tCall (sp_L_draws K) [] E0 (tCons (tVar 0) (tCons (tLst ta) (tCons (tVar 1) tNil)))) σ H2 ((drawsM c ws p).map .int) := fun ws h0 h1 ha hl hw =>
      n_call (K := K) (dom := dmDraws) (a_cons (d_int (ev_var h0)) (a_cons (d_ofN (n_lst ha (by rw [List.length_map]; omega))) (a_cons (d_int (ev_var h1)) a_nil))) ⟨c, ws, p, hl, hw, hp, rfl, rfl⟩
    have foundE : ∀ {H2 : Hp} {σ : L2.St} {i : Nat} {l : List Int} {fp : Addr} {z : Int}, H2 fp = some (.lst (l.map V.int)) → σ[4]? = some (some (.ref fp)) → i < l.length → Ev (tOp oSub (tOp (rIxL K) (tVar 4) (tC (.int (i : Int)))) (tC (.int z))) σ H2 (.int (l.getD i 0 - z)) := fun h h1 h2 => ev_op (ev_lst h (ev_var h1) ev_c h2) ev_c rv_I0
    refine q_asgN (drawE [3, 8, 9, 9, 9, 5, 7] rfl rfl (a_cons (d_int ev_c) (a_cons (d_int ev_c) (a_cons (d_int ev_c) (a_cons (d_int ev_c) (a_cons (d_int ev_c) (a_cons (d_int ev_c) (a_cons (d_int ev_c) a_nil))))))) (by decide) (by decide)) fun fp xs3 H4 nf e4 hfp hxs3 => ?_
    rw [dpAll_intsV hxs3] at hfp
    obtain ⟨fl, fw⟩ := drawsM_is (c := c) (ws := [3, 8, 9, 9, 9, 5, 7]) (p := p) (by decide)
    have fl7 : (drawsM c [3, 8, 9, 9, 9, 5, 7] p).length = 7 := fl
    have fw5 : 0 ≤ (drawsM c [3, 8, 9, 9, 9, 5, 7] p).getD 5 0 ∧ (drawsM c [3, 8, 9, 9, 9, 5, 7] p).getD 5 0 < 5 := fw 5 (by decide)
    generalize drawsM c [3, 8, 9, 9, 9, 5, 7] p = found at *
    have e04 := e03.trans e4
    refine q_when (b := decide (deep.getD 0 0 = 0)) (et_is (et_test (ev_op (deepE (i := 0) ((e2.trans e3).trans e4) rfl (by decide)) ev_c (rv_eq rfl))) (by simp)) (fun hc2 H5 e5 => ?_) (fun hc2 H5 e5 => ?_)
    · refine q_asgN (drawE [3, 8, 161, 41] rfl rfl (a_cons (d_int ev_c) (a_cons (d_int ev_c) (a_cons (d_int ev_c) (a_cons (d_int ev_c) a_nil)))) (by decide) (by decide)) fun gp xs4 H6 ng e6 hgp hxs4 => ?_
      rw [dpAll_intsV hxs4] at hgp
      have gl4 : (drawsM c [3, 8, 161, 41] p).length = 4 := (drawsM_is (c := c) (ws := [3, 8, 161, 41]) (p := p) (by decide)).1
      generalize drawsM c [3, 8, 161, 41] p = gs at *
      refine s_retD (d_tup (K := K) (ds := [.int (gs.getD 2 0 - 80), .int (gs.getD 3 0 - 20), .int 1]) (a_cons (d_int (foundE (i := 2) hgp rfl (by omega))) (a_cons (d_int (foundE (i := 3) hgp rfl (by omega))) (a_cons (d_int ev_c) a_nil))) (len3 _ _ _)) fun w' H7 e7 pw => q w' _ H7 (((e04.trans e5).trans e6).trans e7) ⟨[gs.getD 2 0 - 80, gs.getD 3 0 - 20, 1], by simp, rfl⟩ pw
    · have e05 := e04.trans e5
      have hfp5 := e5 _ _ hfp
      refine q_when (b := decide (deep.getD 0 0 = 1)) (et_is (et_test (ev_op (deepE (i := 0) (((e2.trans e3).trans e4).trans e5) rfl (by decide)) ev_c (rv_eq rfl))) (by simp)) (fun hc3 H6 e6 => ?_) (fun hc3 H6 e6 => ?_)
      · have hfp6 := e6 _ _ hfp5
        refine s_retD (r_call (K := K) (dom := dmShift) (R := isRow 4) (a_cons (d_tup (K := K) (ds := [.int (found.getD 2 0 - 4), .int (found.getD 3 0 - 4), .int (found.getD 4 0 - 4), .int 1]) (a_cons (d_int (foundE (i := 2) hfp6 rfl (by omega))) (a_cons (d_int (foundE (i := 3) hfp6 rfl (by omega))) (a_cons (d_int (foundE (i := 4) hfp6 rfl (by omega))) (a_cons (d_int ev_c) a_nil)))) (Nat.le_of_ble_eq_true rfl)) (a_cons (d_int (foundE (i := 5) (z := 2) hfp6 rfl (by omega))) a_nil)) ⟨[found.getD 2 0 - 4, found.getD 3 0 - 4, found.getD 4 0 - 4, 1], found.getD 5 0 - 2, by simp, by simp, by omega, rfl, rfl⟩) fun w' H7 e7 ⟨dw', ⟨g, lg, eg⟩, pw⟩ => q w' dw' H7 ((e05.trans e6).trans e7) ⟨g, by omega, eg⟩ pw
      · refine q_asgN (drawE [3, 8, 7, 7, 7, 5, 7] rfl rfl (a_cons (d_int ev_c) (a_cons (d_int ev_c) (a_cons (d_int ev_c) (a_cons (d_int ev_c) (a_cons (d_int ev_c) (a_cons (d_int ev_c) (a_cons (d_int ev_c) a_nil))))))) (by decide) (by decide)) fun gp xs4 H7 ng e7 hgp hxs4 => ?_
        rw [dpAll_intsV hxs4] at hgp
        obtain ⟨gl, gw⟩ := drawsM_is (c := c) (ws := [3, 8, 7, 7, 7, 5, 7]) (p := p) (by decide)
        have gl7 : (drawsM c [3, 8, 7, 7, 7, 5, 7] p).length = 7 := gl
        have gw5 : 0 ≤ (drawsM c [3, 8, 7, 7, 7, 5, 7] p).getD 5 0 ∧ (drawsM c [3, 8, 7, 7, 7, 5, 7] p).getD 5 0 < 5 := gw 5 (by decide)
        generalize drawsM c [3, 8, 7, 7, 7, 5, 7] p = gs at *
        refine s_retD (r_call (K := K) (dom := dmShift) (R := isRow 5) (a_cons (d_tup (K := K) (ds := [.int (gs.getD 2 0 - 3), .int (gs.getD 3 0 - 3), .int (gs.getD 4 0 - 3), .int (gs.getD 6 0 - 3), .int 1]) (a_cons (d_int (foundE (i := 2) hgp rfl (by omega))) (a_cons (d_int (foundE (i := 3) hgp rfl (by omega))) (a_cons (d_int (foundE (i := 4) hgp rfl (by omega))) (a_cons (d_int (foundE (i := 6) hgp rfl (by omega))) (a_cons (d_int ev_c) a_nil))))) (Nat.le_of_ble_eq_true rfl)) (a_cons (d_int (foundE (i := 5) (z := 2) hgp rfl (by omega))) a_nil)) ⟨[gs.getD 2 0 - 3, gs.getD 3 0 - 3, gs.getD 4 0 - 3, gs.getD 6 0 - 3, 1], gs.getD 5 0 - 2, by simp, by simp, by omega, rfl, rfl⟩) fun w' H8 e8 ⟨dw', ⟨g, lg, eg⟩, pw⟩ => q w' dw' H8 (((e05.trans e6).trans e7).trans e8) ⟨g, by omega, eg⟩ pw
theorem ok_L_poly (T : Tx K mg) : Ok P w K mg base CX0 "_law_poly" ["_law_cell_here", "_law_prime"] 3 (sp_L_poly K) := by
  have O_L_draws := ok_L_draws (P := P) (w := w) (base := base) T
  have O_L_shifted := ok_L_shifted (P := P) (w := w) (base := base) T
  refine ok_ofR T.g_L_poly T.f_L_poly sc_L_poly (fun _ _ _ _ _ _ us hl => match us, hl with | [_, _], _ => rfl) (fun vs H d ⟨ds, ⟨c, p, _, e, _⟩, hd⟩ => by rw [dpAll_len hd, e]; rfl) (fun cdv A outer s H vs Q E d hr ⟨ds, ⟨c, p, h1, hds, ed⟩, hv⟩ q => ⟨rd_L_poly K, PSs.nox ((pss_cons (ps_set (i := 2) sc_L_poly.nd rfl (Or.inl rfl) (pe_fn O_L_draws (hr.mono (by decide)) (pa_cons (pv 0) (pa_cons (pe_lst (pa_cons pe_int (pa_cons pe_int pa_nil))) (pa_cons (pv 1) pa_nil)))))
  (pss_cons (ps_set (i := 3) sc_L_poly.nd rfl (Or.inl rfl) (pe_slice sl_list (pe_fn O_L_draws (hr.mono (by decide)) (pa_cons (pv 0) (pa_cons (pe_lst (pa_cons pe_int (pa_cons pe_int (pa_cons pe_int (pa_cons pe_int (pa_cons pe_int (pa_cons pe_int pa_nil))))))) (pa_cons (pv 1) pa_nil)))) (po_some pe_int) (po_some (pe_op op_add (pe_ix ix_list (pv 2) pe_int (fun _ _ => rfl)) pe_int))))
  (pss_cons (ps_if (pt_cmpR op_eq (pe_ix ix_list (pv 2) pe_int (fun _ _ => rfl)) pe_int (nomark _)) (pss_one (ps_ret (pe_tuplec T.b_tuple (pe_op op_cat (pe_lc (own := [("_law_place", 5)]) (g := gName 5) (tt := tYes) rfl sc_L_poly.nd (pi_list (pv 3)) (blkOk_by (own := [("_law_place", 5)]) (N := ["_law_cell_here", "_law_prime", "_law_deep", "_law_wide", "_law_found", "_law_place"]) (sc := defScope s_L_poly) (by decide +kernel)) (fun _ _ _ _ _ => (pg_name (i := 5) sc_L_poly.nd rfl (Or.inl rfl))) (fun _ _ _ _ _ => pts_nil) (fun _ _ _ _ _ => (pe_op op_sub (pv 5) pe_int))) (pe_lst (pa_cons pe_int pa_nil)))))) pss_nil)
  (pss_cons (ps_set (i := 4) sc_L_poly.nd rfl (Or.inl rfl) (pe_fn O_L_draws (hr.mono (by decide)) (pa_cons (pv 0) (pa_cons (pe_lst (pa_cons pe_int (pa_cons pe_int (pa_cons pe_int (pa_cons pe_int (pa_cons pe_int (pa_cons pe_int (pa_cons pe_int pa_nil)))))))) (pa_cons (pv 1) pa_nil)))))
  (pss_cons (ps_if (pt_cmpR op_eq (pe_ix ix_list (pv 2) pe_int (fun _ _ => rfl)) pe_int (nomark _)) (pss_cons (ps_set (i := 4) sc_L_poly.nd rfl (Or.inl rfl) (pe_fn O_L_draws (hr.mono (by decide)) (pa_cons (pv 0) (pa_cons (pe_lst (pa_cons pe_int (pa_cons pe_int (pa_cons pe_int (pa_cons pe_int pa_nil))))) (pa_cons (pv 1) pa_nil)))))
  (pss_one (ps_ret (pe_tup (pa_cons (pe_op op_sub (pe_ix ix_list (pv 4) pe_int (fun _ _ => rfl)) pe_int) (pa_cons (pe_op op_sub (pe_ix ix_list (pv 4) pe_int (fun _ _ => rfl)) pe_int) (pa_cons pe_int pa_nil))))))) pss_nil)
  (pss_cons (ps_if (pt_cmpR op_eq (pe_ix ix_list (pv 2) pe_int (fun _ _ => rfl)) pe_int (nomark _)) (pss_one (ps_ret (pe_fn O_L_shifted (hr.mono (by decide)) (pa_cons (pe_tup (pa_cons (pe_op op_sub (pe_ix ix_list (pv 4) pe_int (fun _ _ => rfl)) pe_int) (pa_cons (pe_op op_sub (pe_ix ix_list (pv 4) pe_int (fun _ _ => rfl)) pe_int) (pa_cons (pe_op op_sub (pe_ix ix_list (pv 4) pe_int (fun _ _ => rfl)) pe_int) (pa_cons pe_int pa_nil))))) (pa_cons (pe_op op_sub (pe_ix ix_list (pv 4) pe_int (fun _ _ => rfl)) pe_int) pa_nil))))) pss_nil)
  (pss_cons (ps_set (i := 4) sc_L_poly.nd rfl (Or.inl rfl) (pe_fn O_L_draws (hr.mono (by decide)) (pa_cons (pv 0) (pa_cons (pe_lst (pa_cons pe_int (pa_cons pe_int (pa_cons pe_int (pa_cons pe_int (pa_cons pe_int (pa_cons pe_int (pa_cons pe_int pa_nil)))))))) (pa_cons (pv 1) pa_nil)))))
  (pss_one (ps_ret (pe_fn O_L_shifted (hr.mono (by decide)) (pa_cons (pe_tup (pa_cons (pe_op op_sub (pe_ix ix_list (pv 4) pe_int (fun _ _ => rfl)) pe_int) (pa_cons (pe_op op_sub (pe_ix ix_list (pv 4) pe_int (fun _ _ => rfl)) pe_int) (pa_cons (pe_op op_sub (pe_ix ix_list (pv 4) pe_int (fun _ _ => rfl)) pe_int) (pa_cons (pe_op op_sub (pe_ix ix_list (pv 4) pe_int (fun _ _ => rfl)) pe_int) (pa_cons pe_int pa_nil)))))) (pa_cons (pe_op op_sub (pe_ix ix_list (pv 4) pe_int (fun _ _ => rfl)) pe_int) pa_nil))))))))))))), ?_⟩)
  subst ed hds
  obtain ⟨v, u, rfl, k1, k2⟩ := dpAll_two hv
  rw [dp_int k1, dp_int k2]
  exact pu_L_poly h1 q
/-! ### known_ring -/
def knowns1 : List (List Int) := [[5, 0, 1], [-10, 0, 1], [6, 1, 1], [-3, 0, 1], [-1, -1, 0, 1], [-2, 0, 0, 1], [-1, 4, 0, 1]]
def knowns2 : List (List Int) := [[1, 0, 0, 0, 1], [-1, -1, 0, 0, 1], [1, 1, 1, 1, 1], [-2, 0, 0, 0, 1], [1, 0, -1, 0, 1]]
def knowns : List (List Int) := knowns1 ++ knowns2
def isKnown : PyData → Prop := fun d => ∃ f ∈ knowns, d = dR f
def dmKnownR : List PyData → (PyData → Prop) → Prop := fun ds R => ∃ c : Int, ds = [.int c] ∧ R = isKnown
abbrev sp_L_known_ring (K : PySem.W.Frag) : Sp := spR (onD K dmKnownR) K
def rd_L_known_ring (K : PySem.W.Frag) : TS := (tSeq (tAsg (tLst (tCons (tTup (tCons (tC (.int 5)) (tCons (tC (.int 0)) (tCons (tC (.int 1)) tNil)))) (tCons (tTup (tCons (tUn uNeg (tC (.int 10))) (tCons (tC (.int 0)) (tCons (tC (.int 1)) tNil)))) (tCons (tTup (tCons (tC (.int 6)) (tCons (tC (.int 1)) (tCons (tC (.int 1)) tNil)))) (tCons (tTup (tCons (tUn uNeg (tC (.int 3))) (tCons (tC (.int 0)) (tCons (tC (.int 1)) tNil)))) (tCons (tTup (tCons (tUn uNeg (tC (.int 1))) (tCons (tUn uNeg (tC (.int 1))) (tCons (tC (.int 0)) (tCons (tC (.int 1)) tNil))))) (tCons (tTup (tCons (tUn uNeg (tC (.int 2))) (tCons (tC (.int 0)) (tCons (tC (.int 0)) (tCons (tC (.int 1)) tNil))))) (tCons (tTup (tCons (tUn uNeg (tC (.int 1))) (tCons (tC (.int 4)) (tCons (tC (.int 0)) (tCons (tC (.int 1)) tNil))))) tNil)))))))) (gName 1))
  (tSeq (tAsg (tOp rCat (tVar 1) (tLst (tCons (tTup (tCons (tC (.int 1)) (tCons (tC (.int 0)) (tCons (tC (.int 0)) (tCons (tC (.int 0)) (tCons (tC (.int 1)) tNil)))))) (tCons (tTup (tCons (tUn uNeg (tC (.int 1))) (tCons (tUn uNeg (tC (.int 1))) (tCons (tC (.int 0)) (tCons (tC (.int 0)) (tCons (tC (.int 1)) tNil)))))) (tCons (tTup (tCons (tC (.int 1)) (tCons (tC (.int 1)) (tCons (tC (.int 1)) (tCons (tC (.int 1)) (tCons (tC (.int 1)) tNil)))))) (tCons (tTup (tCons (tUn uNeg (tC (.int 2))) (tCons (tC (.int 0)) (tCons (tC (.int 0)) (tCons (tC (.int 0)) (tCons (tC (.int 1)) tNil)))))) (tCons (tTup (tCons (tC (.int 1)) (tCons (tC (.int 0)) (tCons (tUn uNeg (tC (.int 1))) (tCons (tC (.int 0)) (tCons (tC (.int 1)) tNil)))))) tNil))))))) (gName 1))
  (tRet (tOp (rIxL K) (tVar 1) (tOp oMod (tCall (sp_L_mixed K) [] E0 (tCons (tVar 0) (tCons (tC (.int 3)) (tCons (tC (.int 998244353)) tNil)))) (tC (.int 12)))))))
theorem pu_L_known_ring {H : Hp} {c : Int} {Q : VK} (q : ∀ v d H2, Ex H H2 → isKnown d → Dp K H2 v d → Q v H2) :
    rd_L_known_ring K { nx := fun _ H' => Q .non H', rt := Q } (start ["_law_cell_here", "_law_known_here"] [.int c]) H := by
  refine q_asgN (ds := knowns1.map dR) (n_lst (K := K) (ds := [dR [5, 0, 1], dR [-10, 0, 1], dR [6, 1, 1], dR [-3, 0, 1], dR [-1, -1, 0, 1], dR [-2, 0, 0, 1], dR [-1, 4, 0, 1]]) (a_cons (d_tup (K := K) (ds := [.int 5, .int 0, .int 1]) (a_cons (d_int ev_c) (a_cons (d_int ev_c) (a_cons (d_int ev_c) a_nil))) (Nat.le_of_ble_eq_true rfl)) (a_cons (d_tup (K := K) (ds := [.int (-10), .int 0, .int 1]) (a_cons (d_int (ev_un ev_c ru_neg)) (a_cons (d_int ev_c) (a_cons (d_int ev_c) a_nil))) (Nat.le_of_ble_eq_true rfl)) (a_cons (d_tup (K := K) (ds := [.int 6, .int 1, .int 1]) (a_cons (d_int ev_c) (a_cons (d_int ev_c) (a_cons (d_int ev_c) a_nil))) (Nat.le_of_ble_eq_true rfl)) (a_cons (d_tup (K := K) (ds := [.int (-3), .int 0, .int 1]) (a_cons (d_int (ev_un ev_c ru_neg)) (a_cons (d_int ev_c) (a_cons (d_int ev_c) a_nil))) (Nat.le_of_ble_eq_true rfl)) (a_cons (d_tup (K := K) (ds := [.int (-1), .int (-1), .int 0, .int 1]) (a_cons (d_int (ev_un ev_c ru_neg)) (a_cons (d_int (ev_un ev_c ru_neg)) (a_cons (d_int ev_c) (a_cons (d_int ev_c) a_nil)))) (Nat.le_of_ble_eq_true rfl)) (a_cons (d_tup (K := K) (ds := [.int (-2), .int 0, .int 0, .int 1]) (a_cons (d_int (ev_un ev_c ru_neg)) (a_cons (d_int ev_c) (a_cons (d_int ev_c) (a_cons (d_int ev_c) a_nil)))) (Nat.le_of_ble_eq_true rfl)) (a_cons (d_tup (K := K) (ds := [.int (-1), .int 4, .int 0, .int 1]) (a_cons (d_int (ev_un ev_c ru_neg)) (a_cons (d_int ev_c) (a_cons (d_int ev_c) (a_cons (d_int ev_c) a_nil)))) (Nat.le_of_ble_eq_true rfl)) a_nil))))))) (Nat.le_of_ble_eq_true rfl)) fun p1 xs H1 n1 e1 h1 hx1 => ?_
  refine q_asgN (n_catV (K := K) (es := knowns2.map dR) h1 hx1 (ev_var rfl) (n_lst (K := K) (ds := [dR [1, 0, 0, 0, 1], dR [-1, -1, 0, 0, 1], dR [1, 1, 1, 1, 1], dR [-2, 0, 0, 0, 1], dR [1, 0, -1, 0, 1]]) (a_cons (d_tup (K := K) (ds := [.int 1, .int 0, .int 0, .int 0, .int 1]) (a_cons (d_int ev_c) (a_cons (d_int ev_c) (a_cons (d_int ev_c) (a_cons (d_int ev_c) (a_cons (d_int ev_c) a_nil))))) (Nat.le_of_ble_eq_true rfl)) (a_cons (d_tup (K := K) (ds := [.int (-1), .int (-1), .int 0, .int 0, .int 1]) (a_cons (d_int (ev_un ev_c ru_neg)) (a_cons (d_int (ev_un ev_c ru_neg)) (a_cons (d_int ev_c) (a_cons (d_int ev_c) (a_cons (d_int ev_c) a_nil))))) (Nat.le_of_ble_eq_true rfl)) (a_cons (d_tup (K := K) (ds := [.int 1, .int 1, .int 1, .int 1, .int 1]) (a_cons (d_int ev_c) (a_cons (d_int ev_c) (a_cons (d_int ev_c) (a_cons (d_int ev_c) (a_cons (d_int ev_c) a_nil))))) (Nat.le_of_ble_eq_true rfl)) (a_cons (d_tup (K := K) (ds := [.int (-2), .int 0, .int 0, .int 0, .int 1]) (a_cons (d_int (ev_un ev_c ru_neg)) (a_cons (d_int ev_c) (a_cons (d_int ev_c) (a_cons (d_int ev_c) (a_cons (d_int ev_c) a_nil))))) (Nat.le_of_ble_eq_true rfl)) (a_cons (d_tup (K := K) (ds := [.int 1, .int 0, .int (-1), .int 0, .int 1]) (a_cons (d_int ev_c) (a_cons (d_int ev_c) (a_cons (d_int (ev_un ev_c ru_neg)) (a_cons (d_int ev_c) (a_cons (d_int ev_c) a_nil))))) (Nat.le_of_ble_eq_true rfl)) a_nil))))) (Nat.le_of_ble_eq_true rfl)) (Nat.le_of_ble_eq_true rfl)) fun p2 xs2 H2 n2 e2 h2 hx2 => ?_
  rw [← List.map_append] at hx2
  have m0 := Int.emod_nonneg (mixedM c 3 998244353) (show (12 : Int) ≠ 0 by decide)
  have m1 := Int.emod_lt_of_pos (mixedM c 3 998244353) (show (0 : Int) < 12 by decide)
  obtain ⟨j, hj⟩ : ∃ j : Nat, mixedM c 3 998244353 % 12 = (j : Int) := ⟨(mixedM c 3 998244353 % 12).toNat, by omega⟩
  have hj12 : j < knowns.length := show j < 12 by omega
  refine s_retD (d_ixL (K := K) (d := dR (knowns.getD j [])) (ds := (knowns1 ++ knowns2).map dR) (d_ev (ev_var rfl) (.lst (sq_of h2) hx2)) (ev_is (ev_op (ev_int (d_call (dom := dmMixed) (a_cons (d_int (ev_var rfl)) (a_cons (d_int ev_c) (a_cons (d_int ev_c) a_nil))) ⟨c, 3, 998244353, by decide, by decide, rfl, rfl⟩)) ev_c (rv_I (by decide))) (congrArg V.int hj)) (atI_nat (rowsAt hj12))) fun w' H3 e3 pw => q w' _ H3 ((e1.trans e2).trans e3) ⟨_, memAt hj12, rfl⟩ pw
theorem ok_L_known_ring (T : Tx K mg) : Ok P w K mg base CX0 "_law_known_ring" ["_law_cell_here"] 2 (sp_L_known_ring K) := by
  have O_L_mixed := ok_L_mixed (P := P) (w := w) (base := base) T
  refine ok_ofR T.g_L_known_ring T.f_L_known_ring sc_L_known_ring (fun _ _ _ _ _ _ us hl => match us, hl with | [_], _ => rfl) (fun vs H d ⟨ds, ⟨c, e, _⟩, hd⟩ => by rw [dpAll_len hd, e]; rfl) (fun cdv A outer s H vs Q E d hr ⟨ds, ⟨c, hds, ed⟩, hv⟩ q => ⟨rd_L_known_ring K, PSs.nox ((pss_cons (ps_set (i := 1) sc_L_known_ring.nd rfl (Or.inl rfl) (pe_lst (pa_cons (pe_tup (pa_cons pe_int (pa_cons pe_int (pa_cons pe_int pa_nil)))) (pa_cons (pe_tup (pa_cons (pe_un un_neg pe_int) (pa_cons pe_int (pa_cons pe_int pa_nil)))) (pa_cons (pe_tup (pa_cons pe_int (pa_cons pe_int (pa_cons pe_int pa_nil)))) (pa_cons (pe_tup (pa_cons (pe_un un_neg pe_int) (pa_cons pe_int (pa_cons pe_int pa_nil)))) (pa_cons (pe_tup (pa_cons (pe_un un_neg pe_int) (pa_cons (pe_un un_neg pe_int) (pa_cons pe_int (pa_cons pe_int pa_nil))))) (pa_cons (pe_tup (pa_cons (pe_un un_neg pe_int) (pa_cons pe_int (pa_cons pe_int (pa_cons pe_int pa_nil))))) (pa_cons (pe_tup (pa_cons (pe_un un_neg pe_int) (pa_cons pe_int (pa_cons pe_int (pa_cons pe_int pa_nil))))) pa_nil)))))))))
  (pss_cons (ps_set (i := 1) sc_L_known_ring.nd rfl (Or.inl rfl) (pe_op op_cat (pv 1) (pe_lst (pa_cons (pe_tup (pa_cons pe_int (pa_cons pe_int (pa_cons pe_int (pa_cons pe_int (pa_cons pe_int pa_nil)))))) (pa_cons (pe_tup (pa_cons (pe_un un_neg pe_int) (pa_cons (pe_un un_neg pe_int) (pa_cons pe_int (pa_cons pe_int (pa_cons pe_int pa_nil)))))) (pa_cons (pe_tup (pa_cons pe_int (pa_cons pe_int (pa_cons pe_int (pa_cons pe_int (pa_cons pe_int pa_nil)))))) (pa_cons (pe_tup (pa_cons (pe_un un_neg pe_int) (pa_cons pe_int (pa_cons pe_int (pa_cons pe_int (pa_cons pe_int pa_nil)))))) (pa_cons (pe_tup (pa_cons pe_int (pa_cons pe_int (pa_cons (pe_un un_neg pe_int) (pa_cons pe_int (pa_cons pe_int pa_nil)))))) pa_nil))))))))
  (pss_one (ps_ret (pe_ix ix_list (pv 1) (pe_op op_mod (pe_fn O_L_mixed (hr.mono (by decide)) (pa_cons (pv 0) (pa_cons pe_int (pa_cons pe_int pa_nil)))) pe_int) (fun _ _ => rfl))))))), ?_⟩)
  subst ed hds
  obtain ⟨v, rfl, k1⟩ := dpAll_one hv
  rw [dp_int k1]
  exact pu_L_known_ring q
end
end K41
set_option Elab.async false
set_option linter.all false
set_option maxRecDepth 100000
set_option maxHeartbeats 4000000
namespace K41
open PySem PySem.Spec PyProof.Rows L2 Evl
local macro_rules | `(tactic| walk_at "cc") => `(tactic| first
  | assumption
  | (with_reducible show (0 : Int) < _; omega)
  | exact Or.inl ⟨by omega, by omega⟩
  | exact Or.inr ⟨by omega, by omega⟩
  | exact And.intro (by omega) (by omega)
  | (show (0 : Int) < _; omega)
  | omega)
local macro_rules | `(tactic| walk_at "ev") => `(tactic| first
  | assumption
  | with_reducible exact ev_c
  | exact ev_var rfl
  | ((with_reducible refine' ev_op ?ka ?kb rv_I0); (case ka => walk_at "ev"); (case kb => walk_at "ev"))
  | ((with_reducible refine' ev_op ?ka ?kb (rv_I ?kc)); (case ka => walk_at "ev"); (case kb => walk_at "ev"); (case kc => walk_at "cc"))
  | ((with_reducible refine' ev_op (r := rEq) ?ka ?kb ?kd); (case ka => walk_at "ev"); (case kb => walk_at "ev"); (case kd => refine' rv_eq ?kc; rfl))
  | ((with_reducible refine' ev_op (r := rNe) ?ka ?kb ?kd); (case ka => walk_at "ev"); (case kb => walk_at "ev"); (case kd => refine' rv_ne ?kc; rfl))
  | ((with_reducible refine' ev_un ?ka ru_neg); (case ka => walk_at "ev"))
  | ((with_reducible refine' et_test ?ka); (case ka => walk_at "ev")))

section
variable {P : Program} {w : World} {K : PySem.W.Frag} {mg : Str → Option Value} {base : Heap}
/-! ### shared -/
def isShared (a b : Int) : PyData → Prop := fun d => ∃ g : Int, d = .int g ∧ 1 ≤ g ∧ g ∣ a ∧ g ≤ b
def dmShared : List PyData → (PyData → Prop) → Prop := fun ds R => ∃ a b : Int, 1 ≤ a ∧ 1 ≤ b ∧ ds = [.int a, .int b] ∧ R = isShared a b
abbrev sp_L_shared (K : PySem.W.Frag) : Sp := spR (onD K dmShared) K
def rd_L_shared (K : PySem.W.Frag) : TS := (tSeq (tWhile (tTest (tOp rNe (tVar 1) (tC (.int 0)))) (tPar 0 1 (tCons (tVar 1) (tCons (tOp oMod (tVar 0) (tVar 1)) tNil))))
  (tRet (tCB rAbs (tCons (tVar 0) tNil))))
theorem pu_L_shared {H : Hp} {a b : Int} {Q : VK} (ha : 1 ≤ a) (hb : 1 ≤ b) (q : ∀ v d H2, Ex H H2 → isShared a b d → Dp K H2 v d → Q v H2) :
    rd_L_shared K { nx := fun _ H' => Q .non H', rt := Q } (start ["_law_a", "_law_b"] [.int a, .int b]) H := by
  refine q_while (fun k σ' H' => ∃ x y : Int, σ' = [some (.int x), some (.int y)] ∧ Ex H H' ∧ 1 ≤ x ∧ 0 ≤ y ∧ y.toNat ≤ k ∧ ∀ g, g ∣ x → g ∣ y → g ∣ a ∧ g ∣ b) b.toNat ⟨a, b, rfl, Ex.refl H, ha, by omega, Nat.le_refl _, fun g h1 h2 => ⟨h1, h2⟩⟩ ?_
  rintro k σ2 H1 ⟨x, y, rfl, e1, hx, hy, hk, hg⟩
  refine ⟨decide (y ≠ 0), et_is (et_test (ev_op (ev_var rfl) ev_c (rv_ne rfl))) (by simp), fun hc H2 e2 => ?_, fun hc H2 e2 => ?_⟩
  · have hc := of_decide_eq_true hc
    have hy0 : 0 < y := by omega
    refine ⟨fun σ2 H3 => σ2 = [some (.int y), some (.int (x % y))] ∧ Ex H H3, ?_, ?_⟩
    · rintro σ3 H3 ⟨rfl, e3⟩
      have m0 := Int.emod_nonneg x (show y ≠ 0 by omega)
      have m1 := Int.emod_lt_of_pos x hy0
      refine ⟨(x % y).toNat, by omega, y, x % y, rfl, e3, by omega, m0, Nat.le_refl _, fun g h1 h2 => hg g ?_ h1⟩
      have e := Int.emod_add_mul_ediv x y
      rw [← e]
      exact Int.dvd_add h2 (Int.dvd_trans h1 (Int.dvd_mul_right _ _))
    · exact s_par (ea_cons (ev_var rfl) (ea_cons (ev_op (ev_var rfl) (ev_var rfl) (rv_I hy0)) ea_nil)) fun H3 e3 => ⟨rfl, (e1.trans e2).trans e3⟩
  · have hc : y = 0 := by simpa using hc
    subst hc
    obtain ⟨h1, h2⟩ := hg x (Int.dvd_refl _) (Int.dvd_zero _)
    refine s_ret (ev_abs (ev_var rfl)) fun H3 e3 => q _ _ _ ((e1.trans e2).trans e3) ⟨x, rfl, hx, h1, Int.le_of_dvd (by omega) h2⟩ ?_
    rw [show ((x.natAbs : Nat) : Int) = x by omega]
    exact .int _
theorem ok_L_shared (T : Tx K mg) : Ok P w K mg base CX0 "_law_shared" ["_law_a", "_law_b"] 1 (sp_L_shared K) := by
  refine ok_ofR T.g_L_shared T.f_L_shared sc_L_shared (fun _ _ _ _ _ _ us hl => match us, hl with | [_, _], _ => rfl) (fun vs H d ⟨ds, ⟨c, p, _, _, e, _⟩, hd⟩ => by rw [dpAll_len hd, e]; rfl) (fun cdv A outer s H vs Q E d hr ⟨ds, ⟨a, b, h1, h2, hds, ed⟩, hv⟩ q => ⟨rd_L_shared K, PSs.nox ((pss_cons (ps_while PassesOwn.never (pt_cmpR op_ne (pv 1) pe_int (nomark _)) (pss_one (ps_par (i := 0) (j := 1) rfl sc_L_shared.nd rfl rfl (by decide) rfl rfl (pa_cons (pv 1) (pa_cons (pe_op op_mod (pv 0) (pv 1)) pa_nil)) (by rfl))))
  (pss_one (ps_ret (pe_absc T.b_abs (pv 0)))))), ?_⟩)
  subst ed hds
  obtain ⟨v, u, rfl, k1, k2⟩ := dpAll_two hv
  rw [dp_int k1, dp_int k2]
  exact pu_L_shared h1 h2 q
/-! ### value -/
theorem val_small {r : Int} (hr : r.natAbs < 2 ^ 2000) : ∀ {l : List Int}, (∀ c ∈ l, c.natAbs ≤ 1000) → (M.val l r).natAbs < 2 ^ (2011 * l.length)
  | [], _ => by
    show (0 : Int).natAbs < _
    exact Nat.two_pow_pos _
  | c :: l, h => by
    have ih := val_small hr (l := l) fun x hx => h x (List.mem_cons_of_mem _ hx)
    have hc := h c List.mem_cons_self
    show (c + r * M.val l r).natAbs < 2 ^ (2011 * (l.length + 1))
    have h1 : (r * M.val l r).natAbs ≤ 2 ^ 2000 * 2 ^ (2011 * l.length) := by
      rw [Int.natAbs_mul]
      exact Nat.mul_le_mul (by omega) (by omega)
    have h2 : 2 ^ (2011 * (l.length + 1)) = 2 ^ 11 * (2 ^ 2000 * 2 ^ (2011 * l.length)) := by
      rw [← Nat.pow_add, ← Nat.pow_add]
      congr 1
      omega
    have h3 : 0 < 2 ^ 2000 * 2 ^ (2011 * l.length) := Nat.mul_pos (Nat.two_pow_pos _) (Nat.two_pow_pos _)
    rw [h2]
    generalize 2 ^ 2000 * 2 ^ (2011 * l.length) = B at *
    have h4 : (c + r * M.val l r).natAbs ≤ c.natAbs + (r * M.val l r).natAbs := Int.natAbs_add_le _ _
    have h5 : 2 ^ 11 * B = 2048 * B := rfl
    omega
theorem log_lt {n k : Nat} (h : n < 2 ^ k) (hk : 0 < k) : n.log2 < k := by
  by_cases e : n = 0
  · subst e; simpa using hk
  · exact (Nat.log2_lt e).mpr h
def dmValue : List PyData → PyData → Prop := fun ds d => ∃ (f : List Int) (r : Int), f.length ≤ 10 ∧ (∀ c ∈ f, c.natAbs ≤ 1000) ∧ r.natAbs < 2 ^ 2000 ∧ ds = [dR f, .int r] ∧ d = .int (M.val f r)
abbrev sp_L_value (K : PySem.W.Frag) : Sp := spG (onD K dmValue) K
def rd_L_value (K : PySem.W.Frag) : TS := (tSeq (tAsg (tC (.int 0)) (gName 2))
  (tSeq (tFor (RT.iRevA K (tVar 0)) (gName 3)
  (tAsg (tOp oAdd (tOp oMulW (tVar 2) (tVar 1)) (tVar 3)) (gName 2)))
  (tRet (tVar 2))))
theorem pu_L_value {H : Hp} {v : V} {f : List Int} {r : Int} {Q : VK} (hf : f.length ≤ 10) (hs : ∀ c ∈ f, c.natAbs ≤ 1000) (hr : r.natAbs < 2 ^ 2000) (hv : Dp K H v (dR f)) (q : ∀ v H2, Ex H H2 → Dp K H2 v (.int (M.val f r)) → Q v H2) :
    rd_L_value K { nx := fun _ H' => Q .non H', rt := Q } (start ["_law_poly_here", "_law_r", "_law_total", "_law_place"] [v, .int r]) H := by
  obtain ⟨a, rfl, ha⟩ := dp_R hv
  refine q_asg ev_c fun H1 e1 => ?_
  refine q_forRT (ev_var rfl) (ex_t e1 ha) (fun i σ' H' => ∃ y, σ' = [some (.ref a), some (.int r), some (.int (M.val (f.drop (f.length - i)) r)), y] ∧ Ex H H') (fun H2 e2 => ⟨none, by rw [Nat.sub_zero, List.drop_length]; rfl, e1.trans e2⟩) (fun i σ' H' ⟨_, _, e⟩ => ex_t e ha) ?_ ?_
  · rintro i x σ' H' hi hx ⟨y, rfl, e'⟩
    rw [List.length_map] at hi hx
    obtain ⟨h1, rfl⟩ := of_V hx
    have e3 := val_step f r (i := f.length - 1 - i) h1
    rw [show f.length - 1 - i + 1 = f.length - i by omega] at e3
    have sm := val_small hr (l := f.drop (f.length - i)) fun c hc => hs c (List.mem_of_mem_drop hc)
    have l1 : (M.val (f.drop (f.length - i)) r).natAbs.log2 < 30000 := log_lt (Nat.lt_of_lt_of_le sm (Nat.pow_le_pow_right (by decide) (by rw [List.length_drop]; omega))) (by decide)
    have l2 : r.natAbs.log2 < 2000 := log_lt hr (by decide)
    refine s_asg (ev_op (ev_op (ev_var rfl) (ev_var rfl) (rv_I (show _ + _ < 1000000 by omega))) (ev_var rfl) rv_I0) fun H2 e2 => ⟨some (.int (f.getD (f.length - 1 - i) 0)), ?_, e'.trans e2⟩
    rw [show f.length - (i + 1) = f.length - 1 - i by omega, e3, Int.add_comm, Int.mul_comm r]
    rfl
  · rintro σ' H' ⟨y, rfl, e'⟩
    rw [List.length_map, Nat.sub_self, List.drop_zero]
    exact s_ret (ev_var rfl) fun H2 e2 => q _ _ (e'.trans e2) (.int _)
theorem ok_L_value (T : Tx K mg) : Ok P w K mg base CX0 "_law_value" ["_law_poly_here", "_law_r"] 1 (sp_L_value K) := by
  refine ok_ofG T.g_L_value T.f_L_value sc_L_value (fun _ _ _ _ _ _ us hl => match us, hl with | [_, _], _ => rfl) (fun vs H d ⟨ds, ⟨c, p, _, _, _, e, _⟩, hd⟩ => by rw [dpAll_len hd, e]; rfl) (fun cdv A outer s H vs Q E d hr ⟨ds, ⟨a, b, h1, h2, h3, hds, ed⟩, hv⟩ q => ⟨rd_L_value K, PSs.nox ((pss_cons (ps_set (i := 2) sc_L_value.nd rfl (Or.inl rfl) pe_int)
  (pss_cons (ps_for PassesOwn.never rfl (RT.pi_revA (by rfl) T.b_reversed (pv 0)) (pg_name (i := 3) sc_L_value.nd rfl (Or.inl rfl))
  (pss_one (ps_set (i := 2) sc_L_value.nd rfl (Or.inl rfl) (pe_op op_add (pe_op op_mulW (pv 2) (pv 1)) (pv 3)))))
  (pss_one (ps_ret (pv 2)))))), ?_⟩)
  subst ed hds
  obtain ⟨v, u, rfl, k1, k2⟩ := dpAll_two hv
  rw [dp_int k2]
  exact pu_L_value h1 h2 h3 k1 q
/-! ### known -/
def farM (r m : Int) : Nat → Int
  | 0 => 1
  | i + 1 => farM r m i * r % m
def knownRow (many : Nat) (m r : Int) (i : Nat) : List Int := if i = 0 then (List.replicate many 0).set 0 m else ((List.replicate many 0).set 0 (-farM r m i % m)).set i 1
def knownT (many : Nat) (m r : Int) : List (List Int) := (List.range many).map (knownRow many m r)
theorem farM_small {r m : Int} (hm : 1 ≤ m) : ∀ i, 0 ≤ farM r m i ∧ farM r m i ≤ m
  | 0 => ⟨by show (0 : Int) ≤ 1; decide, hm⟩
  | i + 1 => ⟨Int.emod_nonneg _ (by omega), Int.le_of_lt (Int.emod_lt_of_pos _ (by omega))⟩
theorem knownRow_len (many : Nat) (m r : Int) (i : Nat) : (knownRow many m r i).length = many := by
  unfold knownRow
  split
  · rw [List.length_set, List.length_replicate]
  · rw [List.length_set, List.length_set, List.length_replicate]
def dmKnown : List PyData → PyData → Prop := fun ds d => ∃ (many : Nat) (m r : Int), 1 ≤ many ∧ many ≤ 100 ∧ 1 ≤ m ∧ m.natAbs < 2 ^ 30000 ∧ r.natAbs < 2 ^ 2000 ∧ ds = [.int (many : Int), .int m, .int r] ∧ d = dT (knownT many m r)
abbrev sp_L_known (K : PySem.W.Frag) : Sp := spG (onD K dmKnown) K
def rd_L_known (K : PySem.W.Frag) : TS := (tSeq (tAsg (tLst tNil) (gName 3))
  (tSeq (tAsg (tC (.int 1)) (gName 4))
  (tSeq (tFor (iRng1 (tCons (tVar 0) tNil)) (gName 5)
  (tSeq (tAsg (tOp rRep (tLst (tCons (tC (.int 0)) tNil)) (tVar 0)) (gName 6))
  (tCut (tIfS (tTest (tOp rEq (tVar 5) (tC (.int 0)))) (tAsg (tVar 1) (gSub (tVar 6) (tC (.int 0)) rSetL)) (tSeq (tAsg (tOp oMod (tOp oMulW (tVar 4) (tVar 2)) (tVar 1)) (gName 4))
  (tSeq (tAsg (tOp oMod (tUn uNeg (tVar 4)) (tVar 1)) (gSub (tVar 6) (tC (.int 0)) rSetL))
  (tAsg (tC (.int 1)) (gSub (tVar 6) (tVar 5) rSetL)))))
  (tDrop (tBM K "list" rAppend (tVar 3) (tCons (tCB (rTupleS K) (tCons (tVar 6) tNil)) tNil))))))
  (tRet (tCB (rTupleS K) (tCons (tVar 3) tNil))))))
set_option maxHeartbeats 8000000 in
theorem pu_L_known {H : Hp} {many : Nat} {m r : Int} {Q : VK} (hm0 : 1 ≤ many) (hm : many ≤ 100) (hm1 : 1 ≤ m) (hm2 : m.natAbs < 2 ^ 30000) (hr : r.natAbs < 2 ^ 2000) (q : ∀ v H2, Ex H H2 → Dp K H2 v (dT (knownT many m r)) → Q v H2) :
    rd_L_known K { nx := fun _ H' => Q .non H', rt := Q } (start ["_law_many", "_law_m", "_law_r", "_law_rows", "_law_far", "_law_i", "_law_row"] [.int (many : Int), .int m, .int r]) H := by
  refine q_asgL (el_lst (vs := []) ea_nil (Nat.le_of_ble_eq_true rfl)) fun rp H1 nr0 e1 hrp => ?_
  refine q_asg ev_c fun H2 e2 => ?_
  have hm0' : 0 < m := by omega
  refine q_forR1 (n := (many : Int)) (ea_cons (ev_var rfl) ea_nil) ⟨by omega, by omega⟩
    (fun i σ' H' => ∃ (y1 y2 : Option V) (zs : List V), σ' = [some (.int (many : Int)), some (.int m), some (.int r), some (.ref rp), some (.int (farM r m (i - 1))), y1, y2] ∧ Ex H H' ∧ H' rp = some (.lst zs) ∧ DpAll K H' zs (((List.range i).map (knownRow many m r)).map dR))
    (fun H3 e3 => ⟨none, none, [], rfl, (e1.trans e2).trans e3, (e2.trans e3) _ _ hrp, .nil⟩) ?_ ?_
  · rintro i σ' H' hi ⟨y1, y2, zs, rfl, e', hrp', hz⟩
    have hi : i < many := by omega
    refine q_asgN (n_rep (K := K) (d := .int 0) (n_lst (a_cons (d_int ev_c) a_nil) (len1 _)) (ev_var rfl) (by omega)) fun tp xs H3 nt e3 htp hxs => ?_
    have nt0 : H tp = none := fresh_back e' nt
    have exs : xs = (List.replicate many (0 : Int)).map V.int := dpAll_intsV (by rw [List.map_replicate]; exact hxs)
    subst exs
    have e03 := e'.trans e3
    have ntr : tp ≠ rp := fun e => by rw [e, hrp'] at nt; cases nt
    have hrp3 := e3 _ _ hrp'
    have hz3 := dpAll_ex e3 hz
    have tOz : tOs (((List.range i).map (knownRow many m r)).map dR) = true := tOs_all fun x hx => by obtain ⟨l, _, rfl⟩ := List.mem_map.mp hx; exact tO_R l
    have hzl : zs.length ≤ many := by rw [dpAll_len hz, List.length_map, List.length_map, List.length_range]; omega
    have ezd : ((List.range (i + 1)).map (knownRow many m r)).map dR = ((List.range i).map (knownRow many m r)).map dR ++ [dR (knownRow many m r i)] := by
      rw [List.range_succ, List.map_append, List.map_append]
      rfl
    rw [ezd]
    generalize ((List.range i).map (knownRow many m r)).map dR = zd at *
    refine q_cut (M := fun σ' H' => σ' = [some (.int (many : Int)), some (.int m), some (.int r), some (.ref rp), some (.int (farM r m i)), some (.int (i : Int)), some (.ref tp)] ∧ Ex H H' ∧ H' rp = some (.lst zs) ∧ DpAll K H' zs zd ∧ H' tp = some (.lst ((knownRow many m r i).map V.int)))
      (s_if (b := decide (i = 0)) (et_is (et_test (ev_op (ev_var rfl) ev_c (rv_eq rfl))) (by simp)) (fun hc H4 e4 => ?_) (fun hc H4 e4 => ?_)) ?_
    · have hc := of_decide_eq_true hc
      subst hc
      refine s_setL (v := .int m) (j := 0) (e4 _ _ htp) (ev_var rfl) (ev_var rfl) ev_c (by rw [List.length_map, List.length_replicate]; exact hi) fun H5 e5 => ?_
      have k5 : KT K H5 (upd H5 tp (.lst (((List.replicate many (0 : Int)).map V.int).set 0 (.int m)))) := KT.updL ((e4.trans e5) _ _ htp)
      refine ⟨rfl, Ex.mut ((e03.trans e4).trans e5) nt0, ?_, dpAll_kt k5 tOz (dpAll_ex (e4.trans e5) hz3), ?_⟩
      · rw [upd_ne (Ne.symm ntr)]; exact (e4.trans e5) _ _ hrp3
      · rw [upd_same]
        unfold knownRow
        rw [if_pos rfl, List.map_set]
    · have hc := of_decide_eq_false hc
      obtain ⟨j, rfl⟩ : ∃ j, i = j + 1 := ⟨i - 1, by omega⟩
      rw [show j + 1 - 1 = j from rfl]
      obtain ⟨f0, f1⟩ := farM_small (r := r) hm1 j
      have l1 : (farM r m j).natAbs.log2 < 30000 := log_lt (Nat.lt_of_le_of_lt (by omega) hm2) (by decide)
      have l2 : r.natAbs.log2 < 2000 := log_lt hr (by decide)
      refine q_asg (v := .int (farM r m (j + 1))) (ev_op (ev_op (ev_var rfl) (ev_var rfl) (rv_I (show _ + _ < 1000000 by omega))) (ev_var rfl) (rv_I hm0')) fun H5 e5 => ?_
      have htp5 := (e4.trans e5) _ _ htp
      refine q_setL (v := .int (-farM r m (j + 1) % m)) (j := 0) htp5 (ev_op (ev_un (ev_var rfl) ru_neg) (ev_var rfl) (rv_I hm0')) (ev_var rfl) ev_c (by rw [List.length_map, List.length_replicate]; omega) fun H6 e6 => ?_
      have k6 : KT K H6 (upd H6 tp (.lst (((List.replicate many (0 : Int)).map V.int).set 0 (.int (-farM r m (j + 1) % m))))) := KT.updL (e6 _ _ htp5)
      refine s_setL (v := .int 1) (j := j + 1) upd_same ev_c (ev_var rfl) (ev_var rfl) (by rw [List.length_set, List.length_map, List.length_replicate]; exact hi) fun H7 e7 => ?_
      have k7 : KT K H7 (upd H7 tp (.lst ((((List.replicate many (0 : Int)).map V.int).set 0 (.int (-farM r m (j + 1) % m))).set (j + 1) (.int 1)))) := KT.updL (e7 _ _ upd_same)
      have ex6 : Ex H (upd H6 tp (.lst (((List.replicate many (0 : Int)).map V.int).set 0 (.int (-farM r m (j + 1) % m))))) := Ex.mut (((e03.trans e4).trans e5).trans e6) nt0
      refine ⟨rfl, Ex.mut (ex6.trans e7) nt0, ?_, ?_, ?_⟩
      · rw [upd_ne (Ne.symm ntr)]
        refine e7 _ _ ?_
        rw [upd_ne (Ne.symm ntr)]
        exact ((e4.trans e5).trans e6) _ _ hrp3
      · exact dpAll_kt k7 tOz (dpAll_ex e7 (dpAll_kt k6 tOz (dpAll_ex ((e4.trans e5).trans e6) hz3)))
      · rw [upd_same]
        unfold knownRow
        rw [if_neg (by omega), List.map_set, List.map_set]
    · rintro σ' H4 ⟨rfl, e4, hrp4, hz4, htp4⟩
      refine s_appD hrp4 (ev_var rfl) (d_tuple (K := K) (ds := (knownRow many m r i).map .int) (d_ev (ev_var rfl) (.lst (sq_of htp4) (dpAll_ints _))) (.inr rfl)) (by omega) fun v' H5 e5 pv => ?_
      have k5 : KT K H5 (upd H5 rp (.lst (zs ++ [v']))) := KT.updL (e5 _ _ hrp4)
      exact ⟨some (.int (i : Int)), some (.ref tp), _, rfl, Ex.mut (e4.trans e5) nr0, upd_same, dpAll_app (dpAll_kt k5 tOz (dpAll_ex e5 hz4)) (.cons (dp_kt (d := dR (knownRow many m r i)) k5 (tO_R _) pv) .nil)⟩
  · rintro σ' H' ⟨y1, y2, zs, rfl, e', hrp', hz⟩
    rw [Int.toNat_natCast] at hz
    exact s_retD (d_tuple (d_ev (ev_var rfl) (.lst (sq_of hrp') hz)) (.inr rfl)) fun w' H3 e3 pw => q w' H3 (e'.trans e3) pw
theorem ok_L_known (T : Tx K mg) : Ok P w K mg base CX0 "_law_known" ["_law_many", "_law_m", "_law_r"] 1 (sp_L_known K) := by
  refine ok_ofG T.g_L_known T.f_L_known sc_L_known (fun _ _ _ _ _ _ us hl => match us, hl with | [_, _, _], _ => rfl) (fun vs H d ⟨ds, ⟨c, p, r, _, _, _, _, _, e, _⟩, hd⟩ => by rw [dpAll_len hd, e]; rfl) (fun cdv A outer s H vs Q E d hr ⟨ds, ⟨many, m, r, h1, h2, h3, h4, h5, hds, ed⟩, hv⟩ q => ⟨rd_L_known K, PSs.nox ((pss_cons (ps_set (i := 3) sc_L_known.nd rfl (Or.inl rfl) (pe_lst pa_nil))
  (pss_cons (ps_set (i := 4) sc_L_known.nd rfl (Or.inl rfl) pe_int)
  (pss_cons (ps_for PassesOwn.never rfl (pi_range1 (by rfl) T.b_range (pa_cons (pv 0) pa_nil)) (pg_name (i := 5) sc_L_known.nd rfl (Or.inl rfl))
  (pss_cons (ps_set (i := 6) sc_L_known.nd rfl (Or.inl rfl) (pe_op op_rep (pe_lst (pa_cons pe_int pa_nil)) (pv 0)))
  (pss_cut (ps_if (pt_cmpR op_eq (pv 5) pe_int (nomark _)) (pss_one (ps_asg (pv 1) (pg_sub (pv 6) pe_int set_list))) (pss_cons (ps_set (i := 4) sc_L_known.nd rfl (Or.inl rfl) (pe_op op_mod (pe_op op_mulW (pv 4) (pv 2)) (pv 1)))
  (pss_cons (ps_asg (pe_op op_mod (pe_un un_neg (pv 4)) (pv 1)) (pg_sub (pv 6) pe_int set_list))
  (pss_one (ps_asg pe_int (pg_sub (pv 6) (pv 5) set_list))))))
  (pss_one (ps_expr (pe_bm PySem.F.plainAttrs_list PySem.F.slot_list_append PySem.F.type_list_append mt_append (pv 3) (pa_cons (pe_tuplec T.b_tuple (pv 6)) pa_nil)))))))
  (pss_one (ps_ret (pe_tuplec T.b_tuple (pv 3)))))))), ?_⟩)
  subst ed hds
  obtain ⟨v1, v2, v3, rfl, k1, k2, k3⟩ := dpAll_three hv
  rw [dp_int k1, dp_int k2, dp_int k3]
  exact pu_L_known h1 h2 h3 h4 h5 q
/-! ### is_prime, primes -/
def isPrimeB (m : Int) : Bool := ((List.range 13).map fun k : Nat => decide (m % (2 + (k : Int)) ≠ 0) || decide (m = 2 + (k : Int))).all id
def dmIsPrime : List PyData → PyData → Prop := fun ds d => ∃ m : Int, ds = [.int m] ∧ d = .bool (isPrimeB m)
abbrev sp_L_is_prime (K : PySem.W.Frag) : Sp := spG (onD K dmIsPrime) K
def rd_L_is_prime (K : PySem.W.Frag) : TS := (tRet (tCB (rAll K) (tCons (tLc (iRng2 (tCons (tC (.int 2)) (tCons (tC (.int 15)) tNil))) (gName 1) tYes (tOrV (tOp rNe (tOp oMod (tVar 0) (tVar 1)) (tC (.int 0))) (tOp rEq (tVar 0) (tVar 1))) [1]) tNil)))
theorem pu_L_is_prime {H : Hp} {m : Int} {Q : VK} (q : ∀ v H2, Ex H H2 → Dp K H2 v (.bool (isPrimeB m)) → Q v H2) :
    rd_L_is_prime K { nx := fun _ H' => Q .non H', rt := Q } (start ["_law_m", "_law_k"] [.int m]) H := by
  have key := n_lcR2 (K := K) (te := tOrV (tOp rNe (tOp oMod (tVar 0) (tVar 1)) (tC (.int 0))) (tOp rEq (tVar 0) (tVar 1))) (t := tYes) (vs := [1]) (j := 1) (lo := 2) (hi := 15) (σ := [some (.int m), none]) (H := H) (ta := tCons (tC (.int 2)) (tCons (tC (.int 15)) tNil))
    (fun i => ((List.range i).map fun k : Nat => decide (m % (2 + (k : Int)) ≠ 0) || decide (m = 2 + (k : Int))).map PyData.bool) (ea_cons ev_c (ea_cons ev_c ea_nil)) ⟨by decide, by decide, by decide⟩ rfl
    (fun i hi => ⟨by rw [List.length_map, List.length_map, List.length_range]; omega, tOs_all fun d hd => by
      obtain ⟨c, _, rfl⟩ := List.mem_map.mp hd
      simp [tO]⟩) (fun x => rfl) (fun i H1 e1 hi => ⟨true, t_yes, fun _ => ⟨.bool (decide (m % (2 + (i : Int)) ≠ 0) || decide (m = 2 + (i : Int))), by simp [tO], d_ev (ev_is (ev_orV (ev_op (ev_op (ev_var rfl) (ev_var rfl) (rv_I (show (0 : Int) < 2 + (i : Int) by omega))) ev_c (rv_ne rfl)) fun _ => ev_op (ev_var rfl) (ev_var rfl) (rv_eq rfl)) (by simp)) (.bl _), by
        rw [List.range_succ, List.map_append, List.map_append]
        rfl⟩, fun h => by cases h⟩)
  exact s_ret (ev_allN key) fun H1 e1 => q _ _ e1 (.bl _)
theorem ok_L_is_prime (T : Tx K mg) : Ok P w K mg base CX0 "_law_is_prime" ["_law_m"] 1 (sp_L_is_prime K) := by
  refine ok_ofG T.g_L_is_prime T.f_L_is_prime sc_L_is_prime (fun _ _ _ _ _ _ us hl => match us, hl with | [_], _ => rfl) (fun vs H d ⟨ds, ⟨c, e, _⟩, hd⟩ => by rw [dpAll_len hd, e]; rfl) (fun cdv A outer s H vs Q E d hr ⟨ds, ⟨m, hds, ed⟩, hv⟩ q => ⟨rd_L_is_prime K, PSs.nox ((pss_one (ps_ret (pe_allc T.b_all (pe_lc (own := [("_law_k", 1)]) (g := gName 1) (tt := tYes) rfl sc_L_is_prime.nd (pi_range2 (by rfl) T.b_range (pa_cons pe_int (pa_cons pe_int pa_nil))) (blkOk_by (own := [("_law_k", 1)]) (N := ["_law_m", "_law_k"]) (sc := defScope s_L_is_prime) (by decide +kernel)) (fun _ _ _ _ _ => (pg_name (i := 1) sc_L_is_prime.nd rfl (Or.inl rfl))) (fun _ _ _ _ _ => pts_nil) (fun _ _ _ _ _ => (pe_or (pe_cmpR op_ne (pe_op op_mod (pv 0) (pv 1)) pe_int (nomark _)) (pe_one (pe_cmpR op_eq (pv 0) (pv 1) (nomark _)))))))))), ?_⟩)
  subst ed hds
  obtain ⟨v1, rfl, k1⟩ := dpAll_one hv
  rw [dp_int k1]
  exact pu_L_is_prime q
def dmPrimes : List PyData → List PyData → Prop := fun ds es => ds = [] ∧ es = primes.map .int
abbrev sp_L_primes (K : PySem.W.Frag) : Sp := spN (onD K dmPrimes) K
def rd_L_primes (K : PySem.W.Frag) : TS := (tRet (tLc (iRng2 (tCons (tC (.int 2)) (tCons (tC (.int 200)) tNil))) (gName 0) (tB (tCall (sp_L_is_prime K) [] E0 (tCons (tVar 0) tNil))) (tVar 0) [0]))
theorem primes_is : ((List.range 198).map fun k : Nat => (2 : Int) + (k : Int)).filter isPrimeB = primes := by decide +kernel
theorem pu_L_primes {H : Hp} {Q : VK} (q : ∀ l xs H2, H l = none → Ex H H2 → H2 l = some (.lst xs) → DpAll K H2 xs (primes.map .int) → Q (.ref l) H2) :
    rd_L_primes K { nx := fun _ H' => Q .non H', rt := Q } (start ["_law_m"] []) H := by
  have key := n_lcR2 (K := K) (te := tVar 0) (t := tB (tCall (sp_L_is_prime K) [] E0 (tCons (tVar 0) tNil))) (vs := [0]) (j := 0) (lo := 2) (hi := 200) (σ := [none]) (H := H) (ta := tCons (tC (.int 2)) (tCons (tC (.int 200)) tNil))
    (fun i => (((List.range i).map fun k : Nat => (2 : Int) + (k : Int)).filter isPrimeB).map PyData.int) (ea_cons ev_c (ea_cons ev_c ea_nil)) ⟨by decide, by decide, by decide⟩ rfl
    (fun i hi => ⟨by rw [List.length_map]; exact Nat.lt_of_le_of_lt (List.length_filter_le _ _) (by rw [List.length_map, List.length_range]; omega), tOs_ints _⟩) (fun x => rfl) (fun i H1 e1 hi => ⟨isPrimeB (2 + (i : Int)), et_B (ev_bool (d_call (dom := dmIsPrime) (a_cons (d_int (ev_var rfl)) a_nil) ⟨_, rfl, rfl⟩)), fun hb => ⟨.int (2 + (i : Int)), by simp [tO], d_int (ev_var rfl), by
        rw [List.range_succ, List.map_append, List.filter_append, List.map_append]
        show _ ++ (List.filter isPrimeB [2 + (i : Int)]).map PyData.int = _
        rw [List.filter_cons, if_pos hb]
        rfl⟩, fun hb => by
        rw [List.range_succ, List.map_append, List.filter_append, List.map_append]
        show _ ++ (List.filter isPrimeB [2 + (i : Int)]).map PyData.int = _
        rw [List.filter_cons, if_neg (by rw [hb]; decide)]
        exact List.append_nil _⟩)
  refine s_retN (n_cast key ?_) q
  show (((List.range 198).map fun k : Nat => (2 : Int) + (k : Int)).filter isPrimeB).map PyData.int = _
  rw [primes_is]
theorem ok_L_primes (T : Tx K mg) : Ok P w K mg base CX0 "_law_primes" [] 2 (sp_L_primes K) := by
  have O_L_is_prime := ok_L_is_prime (P := P) (w := w) (base := base) T
  refine ok_ofN T.g_L_primes T.f_L_primes sc_L_primes (fun _ _ _ _ _ _ us hl => match us, hl with | [], _ => rfl) (fun vs H d ⟨ds, ⟨e, _⟩, hd⟩ => by rw [dpAll_len hd, e]; rfl) (fun cdv A outer s H vs Q E d hr ⟨ds, ⟨hds, ed⟩, hv⟩ q => ⟨rd_L_primes K, PSs.nox ((pss_one (ps_ret (pe_lc (own := [("_law_m", 0)]) (g := gName 0) rfl sc_L_primes.nd (pi_range2 (by rfl) T.b_range (pa_cons pe_int (pa_cons pe_int pa_nil))) (blkOk_by (own := [("_law_m", 0)]) (N := ["_law_m"]) (sc := defScope s_L_primes) (by decide +kernel)) (fun _ _ _ _ _ => (pg_name (i := 0) sc_L_primes.nd rfl (Or.inl rfl))) (fun _ _ _ _ _ => pts_one (pt_val (pe_fn O_L_is_prime (hr.mono (by decide)) (pa_cons (pv 0) pa_nil)))) (fun _ _ _ _ _ => (pv 0)))))), ?_⟩)
  subst ed hds
  rw [dpAll_nil hv]
  exact pu_L_primes q
/-! ### parts -/
theorem n_call0 {σ : L2.St} {H : Hp} {dom : List PyData → List PyData → Prop} {E : XK} {ds : List PyData} (hd : dom [] ds) : EvN K (tCall (spN (onD K dom) K) [] E tNil) σ H ds := n_call a_nil hd
def dmLParts : List PyData → List PyData → Prop := fun ds es => ∃ m : Int, 1 ≤ m ∧ ds = [.int m] ∧ es = [.list ((M.parts primes m).1.map dPK), .int (M.parts primes m).2]
abbrev sp_L_parts (K : PySem.W.Frag) : Sp := spN (onD K dmLParts) K
def rd_L_parts (K : PySem.W.Frag) : TS := (tSeq (tAsg (tLst tNil) (gName 1))
  (tSeq (tFor (iList K (tCall (sp_L_primes K) [] E0 tNil)) (gName 2)
  (tSeq (tAsg (tC (.int 0)) (gName 3))
  (tSeq (tWhile (tTest (tOp rEq (tOp oMod (tVar 0) (tVar 2)) (tC (.int 0)))) (tSeq (tAsg (tOp oDiv (tVar 0) (tVar 2)) (gName 0))
  (tAug 3 (tC (.int 1)) (ipI fun i j => i + j))))
  (tIfS (tTest (tOp oGt (tVar 3) (tC (.int 0)))) (tDrop (tBM K "list" rAppend (tVar 1) (tCons (tTup (tCons (tVar 2) (tCons (tVar 3) tNil))) tNil))) tNext))))
  (tRet (tLst (tCons (tVar 1) (tCons (tVar 0) tNil))))))
theorem getPr {i : Nat} {dx : PyData} (h : (primes.map PyData.int)[i]? = some dx) : i < primes.length ∧ dx = .int (primes.getD i 0) := by
  have hi := (List.getElem?_eq_some_iff.mp h).1
  rw [List.length_map] at hi
  rw [at_P hi] at h
  exact ⟨hi, (Option.some.inj h).symm⟩
set_option maxHeartbeats 8000000 in
theorem pu_L_parts {H : Hp} {m : Int} {Q : VK} (hm : 1 ≤ m) (q : ∀ l xs H2, H l = none → Ex H H2 → H2 l = some (.lst xs) → DpAll K H2 xs [.list ((M.parts primes m).1.map dPK), .int (M.parts primes m).2] → Q (.ref l) H2) :
    rd_L_parts K { nx := fun _ H' => Q .non H', rt := Q } (start ["_law_m", "_law_rows", "_law_p", "_law_k"] [.int m]) H := by
  refine q_asgL (el_lst (vs := []) ea_nil (by decide)) fun pr H1 nr e1 hr => ?_
  refine q_forN (n_call0 (K := K) (dom := dmPrimes) ⟨rfl, rfl⟩) (fun l ls i σ' H' => ∃ (y z : Option V) (xs : List V), σ' = [some (.int (M.parts (primes.take i) m).2), some (.ref pr), y, z] ∧ Ex H H' ∧ l ≠ pr ∧ H' l = some (.lst ls) ∧ DpAll K H' ls (primes.map .int) ∧ H' pr = some (.lst xs) ∧ DpAll K H' xs ((M.parts (primes.take i) m).1.map dPK))
    (fun l ls H2 nl e2 hl hls => ⟨none, none, [], rfl, e1.trans e2, (fun e => by rw [e, hr] at nl; cases nl), hl, hls, e2 _ _ hr, .nil⟩) (fun l ls i σ' H' ⟨_, _, _, _, _, _, h1, h2, _⟩ => ⟨h1, h2⟩) ?_ ?_
  · rintro l ls i x dx σ' H' hdx pdx ⟨y, z, xs, rfl, e', ne, hl, hls, hpr, hxs⟩
    obtain ⟨hi, rfl⟩ := getPr hdx
    rw [dp_int pdx]
    obtain ⟨hp, hp2⟩ := primes_ge (primes.getD i 0) (by rw [getD_at hi]; exact List.getElem_mem _)
    obtain ⟨pos, len⟩ := parts_pos hm i (Nat.le_of_lt hi)
    have hi46 : i < 46 := hi
    have et := parts_take (m := m) hi
    generalize M.parts (primes.take (i + 1)) m = S' at et ⊢
    generalize M.parts (primes.take i) m = S at et pos len hxs ⊢
    subst et
    generalize primes.getD i 0 = p at hp hp2 ⊢
    show tSeq _ _ _ _ _
    refine q_asg ev_c fun H3 e3 => ?_
    refine q_while (fun k σ' H' => ∃ (o : Nat) (r : Int), σ' = [some (.int r), some (.ref pr), some (.int p), some (.int (o : Int))] ∧ Ex H H' ∧ H' l = some (.lst ls) ∧ DpAll K H' ls (primes.map .int) ∧ H' pr = some (.lst xs) ∧ DpAll K H' xs (S.1.map dPK) ∧ 1 ≤ r ∧ r.toNat ≤ k ∧ M.out p S.2 = (o + (M.out p r).1, (M.out p r).2)) S.2.toNat ⟨0, S.2, rfl, e'.trans e3, e3 _ _ hl, dpAll_ex e3 hls, e3 _ _ hpr, dpAll_ex e3 hxs, pos, Nat.le_refl _, by rw [Nat.zero_add]⟩ ?_
    rintro k σ2 H4 ⟨o, r, rfl, e4, hl4, hls4, hpr4, hxs4, r1, r2, eo⟩
    refine ⟨decide (r % p = 0), et_is (et_test (ev_op (ev_op (ev_var rfl) (ev_var rfl) (rv_I (by omega))) ev_c (rv_eq rfl))) (by simp), fun hb H5 e5 => ?_, fun hb H5 e5 => ?_⟩
    · have hb := of_decide_eq_true hb
      obtain ⟨d1, d2, d3⟩ := out_div hp r1 hb
      refine ⟨fun σ2 H6 => σ2 = [some (.int (r / p)), some (.ref pr), some (.int p), some (.int ((o + 1 : Nat) : Int))] ∧ Ex H4 H6, ?_, ?_⟩
      · rintro σ3 H6 ⟨rfl, e6⟩
        refine ⟨(r / p).toNat, by omega, o + 1, r / p, rfl, e4.trans e6, e6 _ _ hl4, dpAll_ex e6 hls4, e6 _ _ hpr4, dpAll_ex e6 hxs4, d1, Nat.le_refl _, ?_⟩
        rw [eo, out_yes hp r1 hb]
        exact Prod.ext (by show o + (_ + 1) = o + 1 + _; omega) rfl
      · refine q_asg (ev_op (ev_var rfl) (ev_var rfl) (rv_I ⟨by omega, by omega⟩)) fun H6 e6 => ?_
        refine s_aug (f := fun i j => i + j) rfl ev_c fun H7 e7 => ⟨?_, (e5.trans e6).trans e7⟩
        rfl
    · have hb := of_decide_eq_false hb
      rw [out_no r1 hb] at eo
      have e05 := e4.trans e5
      refine s_when (b := decide (0 < o)) (et_is (et_test (ev_op (ev_var rfl) ev_c rv_I0)) (by simp)) (fun hc H6 e6 => ?_) (fun hc H6 e6 => ?_)
      · have hc := of_decide_eq_true hc
        have h6 := (e5.trans e6) _ _ hpr4
        refine s_appD h6 (ev_var rfl) (d_tup (K := K) (a_cons (d_int (ev_var rfl)) (a_cons (d_int (ev_var rfl)) a_nil)) (len2 _ _)) (by rw [dpAll_len hxs4, List.length_map]; omega) fun v H7 e7 pv => ?_
        have k7 : KT K H7 (upd H7 pr (.lst (xs ++ [v]))) := KT.updL (e7 _ _ h6)
        refine ⟨some (.int p), some (.int (o : Int)), _, ?_, Ex.mut ((e05.trans e6).trans e7) nr, ne, ?_, ?_, upd_same, ?_⟩
        · rw [show (M.partStep S p).2 = r from congrArg Prod.snd eo]
        · rw [upd_ne ne]; exact ((e5.trans e6).trans e7) _ _ hl4
        · exact dpAll_kt k7 (tOs_ints _) (dpAll_ex ((e5.trans e6).trans e7) hls4)
        · have ep : (M.partStep S p).1 = S.1 ++ [(p, o)] := by
            show S.1 ++ (if (M.out p S.2).1 = 0 then [] else [(p, (M.out p S.2).1)]) = _
            rw [eo, if_neg (show ¬ (o + 0 = 0) by omega)]
            rfl
          rw [ep, List.map_append]
          exact dpAll_app (dpAll_kt k7 (tO_PK _) (dpAll_ex ((e5.trans e6).trans e7) hxs4)) (.cons (dp_kt (d := .tuple [.int p, .int (o : Int)]) k7 (by simp [tO, tOs]) pv) .nil)
      · have hc : o = 0 := by have := of_decide_eq_false hc; omega
        refine ⟨some (.int p), some (.int (o : Int)), xs, ?_, e05.trans e6, ne, (e5.trans e6) _ _ hl4, dpAll_ex (e5.trans e6) hls4, (e5.trans e6) _ _ hpr4, ?_⟩
        · rw [show (M.partStep S p).2 = r from congrArg Prod.snd eo]
        · have ep : (M.partStep S p).1 = S.1 := by
            show S.1 ++ (if (M.out p S.2).1 = 0 then [] else [(p, (M.out p S.2).1)]) = _
            rw [eo, if_pos (show o + 0 = 0 by omega), List.append_nil]
          rw [ep]
          exact dpAll_ex (e5.trans e6) hxs4
  · rintro l ls σ' H' ⟨y, z, xs, rfl, e', ne, hl, hls, hpr, hxs⟩
    rw [List.length_map, List.take_length] at hxs
    rw [List.length_map, List.take_length]
    exact s_retN (n_lst (K := K) (a_cons (d_ev (ev_var rfl) (.lst (sq_of hpr) hxs)) (a_cons (d_int (ev_var rfl)) a_nil)) (len2 _ _)) fun l xs H4 nl e4 hl hx => q l xs H4 (fresh_back e' nl) (e'.trans e4) hl hx
theorem ok_L_parts (T : Tx K mg) : Ok P w K mg base CX0 "_law_parts" ["_law_m"] 3 (sp_L_parts K) := by
  have O_L_primes := ok_L_primes (P := P) (w := w) (base := base) T
  refine ok_ofN T.g_L_parts T.f_L_parts sc_L_parts (fun _ _ _ _ _ _ us hl => match us, hl with | [_], _ => rfl) (fun vs H d ⟨ds, ⟨m, _, e, _⟩, hd⟩ => by rw [dpAll_len hd, e]; rfl) (fun cdv A outer s H vs Q E d hr ⟨ds, ⟨m, h1, hds, ed⟩, hv⟩ q => ⟨rd_L_parts K, PSs.nox ((pss_cons (ps_set (i := 1) sc_L_parts.nd rfl (Or.inl rfl) (pe_lst pa_nil))
  (pss_cons (ps_for PassesOwn.never rfl (pi_list (pe_fn0 O_L_primes (hr.mono (by decide)))) (pg_name (i := 2) sc_L_parts.nd rfl (Or.inl rfl))
  (pss_cons (ps_set (i := 3) sc_L_parts.nd rfl (Or.inl rfl) pe_int)
  (pss_cons (ps_while PassesOwn.never (pt_cmpR op_eq (pe_op op_mod (pv 0) (pv 2)) pe_int (nomark _)) (pss_cons (ps_set (i := 0) sc_L_parts.nd rfl (Or.inl rfl) (pe_op op_fdiv (pv 0) (pv 2)))
  (pss_one (ps_aug (i := 3) sc_L_parts.nd rfl (Or.inl rfl) pe_int ip_add))))
  (pss_one (ps_if (pt_cmpR op_gt (pv 3) pe_int (nomark _)) (pss_one (ps_expr (pe_bm PySem.F.plainAttrs_list PySem.F.slot_list_append PySem.F.type_list_append mt_append (pv 1) (pa_cons (pe_tup (pa_cons (pv 2) (pa_cons (pv 3) pa_nil))) pa_nil)))) pss_nil)))))
  (pss_one (ps_ret (pe_lst (pa_cons (pv 1) (pa_cons (pv 0) pa_nil)))))))), ?_⟩)
  subst ed hds
  obtain ⟨v, rfl, k1⟩ := dpAll_one hv
  rw [dp_int k1]
  exact pu_L_parts h1 q
/-! ### lifted -/
def isSmallInt : PyData → Prop := fun d => ∃ r : Int, d = .int r ∧ r.natAbs < 2 ^ 1000
def dmLifted : List PyData → (PyData → Prop) → Prop := fun ds R => ∃ (f : List Int) (p : Int) (n : Nat), f.length ≤ 10 ∧ (∀ c ∈ f, c.natAbs ≤ 1000) ∧ 2 ≤ p ∧ p ≤ 1000 ∧ n ≤ 1000 ∧ p ^ (n + 2) < 2 ^ 1000 ∧ ds = [dR f, .int p, .int (n : Int)] ∧ R = isSmallInt
abbrev sp_L_lifted (K : PySem.W.Frag) : Sp := spR (onD K dmLifted) K
def rd_L_lifted (K : PySem.W.Frag) : TS := (tSeq (tFor (iRng1 (tCons (tVar 1) tNil)) (gName 3)
  (tIfS (tTest (tOp rEq (tOp oMod (tCall (sp_L_value K) [] E0 (tCons (tVar 0) (tCons (tVar 3) tNil))) (tVar 1)) (tC (.int 0)))) (tSeq (tAsg (tVar 1) (gName 4))
  (tSeq (tFor (iRng1 (tCons (tVar 2) tNil)) (gName 5)
  (tSeq (tFor (iRng1 (tCons (tVar 1) tNil)) (gName 6)
  (tIfS (tTest (tOp rEq (tOp oMod (tCall (sp_L_value K) [] E0 (tCons (tVar 0) (tCons (tOp oAdd (tVar 3) (tOp oMul (tVar 4) (tVar 6))) tNil))) (tOp oMul (tVar 4) (tVar 1))) (tC (.int 0)))) (tSeq (tAsg (tOp oAdd (tVar 3) (tOp oMul (tVar 4) (tVar 6))) (gName 3))
  tBreak) tNext))
  (tAsg (tOp oMul (tVar 4) (tVar 1)) (gName 4))))
  (tRet (tVar 3)))) tNext))
  (tRet (tC (.int 1))))
theorem pow_le {p : Int} (hp : 2 ≤ p) {a b : Nat} (h : a ≤ b) : p ^ a ≤ p ^ b := by
  induction h with
  | refl => exact Int.le_refl _
  | @step m _ ih =>
    have h1 : 0 ≤ p ^ m := Int.pow_nonneg (by omega)
    have h2 : p ^ m * 1 ≤ p ^ m * p := Int.mul_le_mul_of_nonneg_left (by omega) h1
    rw [Int.pow_succ]
    omega
set_option maxHeartbeats 8000000 in
theorem pu_L_lifted {H : Hp} {v : V} {f : List Int} {p : Int} {n : Nat} {Q : VK} (hf : f.length ≤ 10) (hs : ∀ c ∈ f, c.natAbs ≤ 1000) (hp : 2 ≤ p) (hp2 : p ≤ 1000) (hn : n ≤ 1000) (hpow : p ^ (n + 2) < 2 ^ 1000) (hv : Dp K H v (dR f)) (q : ∀ v d H2, Ex H H2 → isSmallInt d → Dp K H2 v d → Q v H2) :
    rd_L_lifted K { nx := fun _ H' => Q .non H', rt := Q } (start ["_law_poly_here", "_law_p", "_law_steps", "_law_r", "_law_far", "_law_step", "_law_j"] [v, .int p, .int (n : Int)]) H := by
  have hp0 : 0 < p := by omega
  have big : ∀ {t : Nat} {r : Int}, t ≤ n + 2 → 0 ≤ r → r < p ^ t → r.natAbs < 2 ^ 1000 := fun {t r} ht h0 h1 => by
    have := pow_le hp ht
    omega
  have big2 : ∀ {r : Int}, r.natAbs < 2 ^ 1000 → r.natAbs < 2 ^ 2000 := fun h => Nat.lt_trans h (Nat.pow_lt_pow_right (by decide) (by decide))
  have valE : ∀ {H1 : Hp} {σ : L2.St} {te : TE} {r : Int}, Ex H H1 → σ[0]? = some (some v) → Ev te σ H1 (.int r) → r.natAbs < 2 ^ 2000 → Ev (tCall (sp_L_value K) [] E0 (tCons (tVar 0) (tCons te tNil))) σ H1 (.int (M.val f r)) := fun e h he hr => ev_int (d_call (dom := dmValue) (a_cons (d_var h (dp_ex e hv)) (a_cons (d_int he) a_nil)) ⟨f, _, hf, hs, hr, rfl, rfl⟩)
  refine q_forR1 (n := p) (ea_cons (ev_var rfl) ea_nil) ⟨by omega, by omega⟩ (fun i σ' H' => ∃ y1 y2 y3 y4, σ' = [some v, some (.int p), some (.int (n : Int)), y1, y2, y3, y4] ∧ Ex H H') (fun H1 e1 => ⟨none, none, none, none, rfl, e1⟩) ?_ ?_
  · rintro i σ' H' hi ⟨y1, y2, y3, y4, rfl, e'⟩
    have hi1 : ((i : Int)).natAbs < 2 ^ 1000 := big (t := 1) (by omega) (by omega) (by rw [Int.pow_succ, Int.pow_zero, Int.one_mul]; exact hi)
    show tIfS _ _ _ _ _ _
    refine s_when (b := decide (M.val f (i : Int) % p = 0)) (et_is (et_test (ev_op (ev_op (valE e' rfl (ev_var rfl) (big2 hi1)) (ev_var rfl) (rv_I hp0)) ev_c (rv_eq rfl))) (by simp)) (fun hc H1 e1 => ?_) (fun hc H1 e1 => ⟨_, y2, y3, y4, rfl, e'.trans e1⟩)
    refine q_asg (v := .int (p ^ (0 + 1))) (ev_is (ev_var rfl) (congrArg V.int (by rw [Int.pow_succ, Int.pow_zero, Int.one_mul]))) fun H2 e2 => ?_
    refine q_forR1 (n := (n : Int)) (ea_cons (ev_var rfl) ea_nil) ⟨by omega, by omega⟩ (fun t σ' H' => ∃ (r : Int) (y3 y4 : Option V), σ' = [some v, some (.int p), some (.int (n : Int)), some (.int r), some (.int (p ^ (t + 1))), y3, y4] ∧ Ex H H' ∧ 0 ≤ r ∧ r < p ^ (t + 1)) (fun H3 e3 => ⟨(i : Int), y3, y4, rfl, ((e'.trans e1).trans e2).trans e3, by omega, by rw [Int.pow_succ, Int.pow_zero, Int.one_mul]; exact hi⟩) ?_ ?_
    · rintro t σ2 H3 ht ⟨r, y5, y6, rfl, e3, r0, r1⟩
      have ht : t < n := by omega
      have pt : 0 < p ^ (t + 1) := Int.pow_pos hp0
      have epow : p ^ (t + 1 + 1) = p ^ (t + 1) * p := Int.pow_succ _ _
      have hle : p ^ (t + 1) * 1 ≤ p ^ (t + 1) * p := Int.mul_le_mul_of_nonneg_left (by omega) (Int.le_of_lt pt)
      have hbig := big (t := t + 1 + 1) (r := p ^ (t + 1)) (by omega)
      have big3 : ∀ {x : Int}, 0 ≤ x → x < p ^ (t + 1 + 1) → x.natAbs < 2 ^ 1000 := fun h0 h1 => big (t := t + 1 + 1) (by omega) h0 h1
      generalize p ^ (t + 1 + 1) = far2 at *
      generalize p ^ (t + 1) = far at *
      show tSeq _ _ _ _ _
      refine q_forR1 (n := p) (ea_cons (ev_var rfl) ea_nil) ⟨by omega, by omega⟩ (fun j σ' H' => ∃ (y6 : Option V), σ' = [some v, some (.int p), some (.int (n : Int)), some (.int r), some (.int far), some (.int (t : Int)), y6] ∧ Ex H H') (fun H4 e4 => ⟨y6, rfl, e3.trans e4⟩) ?_ ?_
      · rintro j σ3 H4 hj ⟨y7, rfl, e4⟩
        have hfj : 0 ≤ far * (j : Int) := Int.mul_nonneg (by omega) (by omega)
        have hfj2 : far * (j : Int) ≤ far * (p - 1) := Int.mul_le_mul_of_nonneg_left (by omega) (by omega)
        rw [Int.mul_sub, Int.mul_one] at hfj2
        have mj : CMul far (j : Int) := .inr ⟨by omega, by omega⟩
        have sj := big3 (x := r + far * (j : Int)) (by omega) (by omega)
        have f2 : 0 < far * p := Int.mul_pos pt hp0
        show tIfS _ _ _ _ _ _
        refine s_when (b := decide (M.val f (r + far * (j : Int)) % (far * p) = 0)) (et_is (et_test (ev_op (ev_op (valE e4 rfl (ev_op (ev_var rfl) (ev_op (ev_var rfl) (ev_var rfl) (rv_I mj)) rv_I0) (big2 sj)) (ev_op (ev_var rfl) (ev_var rfl) (rv_I (.inr ⟨by omega, by omega⟩))) (rv_I f2)) ev_c (rv_eq rfl))) (by simp)) (fun hc2 H5 e5 => ?_) (fun hc2 H5 e5 => ⟨_, rfl, e4.trans e5⟩)
        refine q_asg (ev_op (ev_var rfl) (ev_op (ev_var rfl) (ev_var rfl) (rv_I mj)) rv_I0) fun H6 e6 => ?_
        unfold tBreak
        refine s_asg (ev_op (ev_var rfl) (ev_var rfl) (rv_I (.inr ⟨by omega, by omega⟩))) fun H7 e7 => ⟨r + far * (j : Int), some (.int (t : Int)), some (.int (j : Int)), by rw [epow]; rfl, ((e4.trans e5).trans e6).trans e7, by omega, by omega⟩
      · rintro σ3 H4 ⟨y7, rfl, e4⟩
        refine s_asg (ev_op (ev_var rfl) (ev_var rfl) (rv_I (.inr ⟨by omega, by omega⟩))) fun H7 e7 => ⟨r, some (.int (t : Int)), y7, by rw [epow]; rfl, e4.trans e7, r0, by omega⟩
    · rintro σ2 H3 ⟨r, y5, y6, rfl, e3, r0, r1⟩
      rw [Int.toNat_natCast] at r1
      exact s_ret (ev_var rfl) fun H4 e4 => q _ _ _ (e3.trans e4) ⟨r, rfl, big (t := n + 1) (by omega) r0 r1⟩ (.int _)
  · rintro σ' H' ⟨y1, y2, y3, y4, rfl, e'⟩
    exact s_ret ev_c fun H4 e4 => q _ _ _ (e'.trans e4) ⟨1, rfl, Nat.one_lt_two_pow (by decide)⟩ (.int _)
theorem ok_L_lifted (T : Tx K mg) : Ok P w K mg base CX0 "_law_lifted" ["_law_poly_here", "_law_p", "_law_steps"] 2 (sp_L_lifted K) := by
  have O_L_value := ok_L_value (P := P) (w := w) (base := base) T
  refine ok_ofR T.g_L_lifted T.f_L_lifted sc_L_lifted (fun _ _ _ _ _ _ us hl => match us, hl with | [_, _, _], _ => rfl) (fun vs H d ⟨ds, ⟨f, p, n, _, _, _, _, _, _, e, _⟩, hd⟩ => by rw [dpAll_len hd, e]; rfl) (fun cdv A outer s H vs Q E d hr ⟨ds, ⟨f, p, n, h1, h2, h3, h4, h5, h6, hds, ed⟩, hv⟩ q => ⟨rd_L_lifted K, PSs.nox ((pss_cons (ps_for PassesOwn.never rfl (pi_range1 (by rfl) T.b_range (pa_cons (pv 1) pa_nil)) (pg_name (i := 3) sc_L_lifted.nd rfl (Or.inl rfl))
  (pss_one (ps_if (pt_cmpR op_eq (pe_op op_mod (pe_fn O_L_value (hr.mono (by decide)) (pa_cons (pv 0) (pa_cons (pv 3) pa_nil))) (pv 1)) pe_int (nomark _)) (pss_cons (ps_set (i := 4) sc_L_lifted.nd rfl (Or.inl rfl) (pv 1))
  (pss_cons (ps_for PassesOwn.never rfl (pi_range1 (by rfl) T.b_range (pa_cons (pv 2) pa_nil)) (pg_name (i := 5) sc_L_lifted.nd rfl (Or.inl rfl))
  (pss_cons (ps_for PassesOwn.never rfl (pi_range1 (by rfl) T.b_range (pa_cons (pv 1) pa_nil)) (pg_name (i := 6) sc_L_lifted.nd rfl (Or.inl rfl))
  (pss_one (ps_if (pt_cmpR op_eq (pe_op op_mod (pe_fn O_L_value (hr.mono (by decide)) (pa_cons (pv 0) (pa_cons (pe_op op_add (pv 3) (pe_op op_mul (pv 4) (pv 6))) pa_nil))) (pe_op op_mul (pv 4) (pv 1))) pe_int (nomark _)) (pss_cons (ps_set (i := 3) sc_L_lifted.nd rfl (Or.inl rfl) (pe_op op_add (pv 3) (pe_op op_mul (pv 4) (pv 6))))
  (pss_one ps_break)) pss_nil)))
  (pss_one (ps_set (i := 4) sc_L_lifted.nd rfl (Or.inl rfl) (pe_op op_mul (pv 4) (pv 1))))))
  (pss_one (ps_ret (pv 3))))) pss_nil)))
  (pss_one (ps_ret pe_int)))), ?_⟩)
  subst ed hds
  obtain ⟨v1, v2, v3, rfl, k1, k2, k3⟩ := dpAll_three hv
  rw [dp_int k2, dp_int k3]
  exact pu_L_lifted h1 h2 h3 h4 h5 h6 k1 q
end
end K41
set_option Elab.async false
set_option linter.all false
set_option maxRecDepth 100000
set_option maxHeartbeats 4000000
namespace K41
open PySem PySem.Spec PyProof.Rows L2 Evl
local macro_rules | `(tactic| walk_at "cc") => `(tactic| first
  | assumption
  | (with_reducible show (0 : Int) < _; omega)
  | exact Or.inl ⟨by omega, by omega⟩
  | exact Or.inr ⟨by omega, by omega⟩
  | exact And.intro (by omega) (by omega)
  | (show (0 : Int) < _; omega)
  | omega)
local macro_rules | `(tactic| walk_at "ev") => `(tactic| first
  | assumption
  | with_reducible exact ev_c
  | exact ev_var rfl
  | ((with_reducible refine' ev_op ?ka ?kb rv_I0); (case ka => walk_at "ev"); (case kb => walk_at "ev"))
  | ((with_reducible refine' ev_op ?ka ?kb (rv_I ?kc)); (case ka => walk_at "ev"); (case kb => walk_at "ev"); (case kc => walk_at "cc"))
  | ((with_reducible refine' ev_op (r := rEq) ?ka ?kb ?kd); (case ka => walk_at "ev"); (case kb => walk_at "ev"); (case kd => refine' rv_eq ?kc; rfl))
  | ((with_reducible refine' ev_op (r := rNe) ?ka ?kb ?kd); (case ka => walk_at "ev"); (case kb => walk_at "ev"); (case kd => refine' rv_ne ?kc; rfl))
  | ((with_reducible refine' ev_un ?ka ru_neg); (case ka => walk_at "ev"))
  | ((with_reducible refine' et_test ?ka); (case ka => walk_at "ev")))

section
variable {P : Program} {w : World} {K : PySem.W.Frag} {mg : Str → Option Value} {base : Heap}
/-! ### a class made where its errors are wished for -/
def tMakeS (C : Addr) (sp : Sp) (E : L2.St → XK) (t : TA) : TE := fun σ H Q => tMake C sp [] (E σ) t σ H Q
theorem pe_makeS {X : Cx} {CX : CXT} {k : Nat} {f C : Addr} {fd : FuncData} {ps : List Str} {sp : Sp} {E : L2.St → XK} {x : Str} {p pos : Pos} {e : Expr} {es : List Expr} {t : TA}
    (M : Mk X.K C f) (F : FnOk X.prog X.w X.K X.mg X.base CX k f fd ps sp) (hr : Room (k + 1) X.A) (hg : Gl X x) (hm : X.mg x = some (.ref C)) (hb : Binds X.K fd ps []) (hx : ∀ σ, PassesAt CX X σ (E σ)) (ha : PA X (e :: es) t)
    (hdb : (x == ("__debug__" : Str)) = false := by decide) (hst : starEach (e :: es) X.env = (false, eval e X.env) :: starEach es X.env := by rfl) (hpl : (backTo pos (starEach es X.env)).any (·.1) = false := by rfl) :
    PE X (.Call (.Name x p) (e :: es) [] pos) (tMakeS C sp E t) := by
  constructor
  intro pins s0 σ H0 Q I0 hq0
  refine wpAny_Call_Name_kw (ld_glob I0 hg hm ?_ hdb)
  refine PySem.W.callWith_K (h₀ := X.base) I0.ok.mod.kin M.kp (thn (ha.run pos pins s0 σ H0 _ I0 hq0) ?_) hst hpl
  rintro us s1 ⟨vs, H1, I1, rv, q1⟩
  refine ⟨I1.kIn, ?_⟩
  have q2 := q1 (s1.heap.objs.size + 1) s1.heap.objs.size (I1.hok.fresh (Nat.le_succ _)) (I1.hok.fresh (Nat.le_refl _)) (Nat.ne_of_lt (Nat.lt_succ_self _))
  rw [List.append_nil] at q2
  have I2 := Inv.made (C := C) I1
  have rv2 : Vals (V.ref (s1.heap.objs.size + 1) :: vs) (Value.ref (s1.heap.objs.size + 1) :: us) := .cons rfl rv
  have len2 : (Value.ref (s1.heap.objs.size + 1) :: us).length = ps.length := by
    rw [← rv2.length, F.len _ _ _ _ q2]
  have bnd := hb _ (Value.ref (s1.heap.objs.size + 1) :: us) I2.kIn (by rw [List.append_nil]; exact len2)
  rw [List.append_nil] at bnd
  refine wpAny_call (make_map (f := f) I1.kIn M.makes M.init (beq_iff_eq.mp M.fn) (codeAny_mono (F.run _ X.stack _ _ ⟨Value.ref (s1.heap.objs.size + 1) :: us, []⟩ _ _ _ (E σ) (hr.make C us []) (I2.env0.make C us []) bnd rv2 q2) ?_))
  intro r s2 h2
  match r, h2 with
  | .error er, h2 => exact hx σ pins _ _ er s2 I2 h2
  | .ok (.ret u), h2 =>
    obtain ⟨v, H3, I3, ru, ev, q3⟩ := I2.after h2
    subst ev
    exact ⟨ru, ⟨V.ref (s1.heap.objs.size + 1), H3, I3, rfl, q3⟩⟩
  | .ok .next, h2 => exact h2.elim
  | .ok .brk, h2 => exact h2.elim
  | .ok .cont, h2 => exact h2.elim
/-- Ring(e), e one of several -/
theorem p_makeR {σ : L2.St} {H : Hp} {te : TE} {R : PyData → Prop} {E : XK} (h : EvR K te σ H R) (hR : ∀ d, R d → ∃ f : List Int, 1 ≤ f.length ∧ d = dR f ∧ (ringB f = false → Bad K E H)) (H1 : Hp) (e1 : Ex H H1) (Q : VK) (q : ∀ f u H2, ringB f = true → Ex H1 H2 → RingAt K H2 u f → Q u H2) :
    tMake (He.ga K "Ring") (sp_Ring K) [] E (tCons te tNil) σ H1 Q :=
  h H1 e1 _ fun v H2 e2 ⟨d, hd, p⟩ => fun x dx nx nd ne => by
    obtain ⟨f, hf, rfl, b⟩ := hR d hd
    have e3 : Ex H2 (upd (upd H2 dx (.own x)) x (.ins (He.ga K "Ring") dx [])) := Ex.mut (Ex.new nd) nx
    refine ⟨x, dx, v, f, rfl, dp_ex e3 p, hf, upd_same, fun hr H4 e4 hx4 => ⟨rfl, ?_⟩, fun hr => (b hr).mono ((e1.trans e2).trans e3)⟩
    have e5 : Ex H2 H4 := fun a u h => e4 a u (fun e => by rw [e, nx] at h; cases h) (e3 a u h)
    exact q f _ H4 hr (e2.trans e5) ⟨x, dx, v, rfl, dp_ex e5 p, hx4⟩
theorem s_mkS {σ : L2.St} {H : Hp} {te : TE} {R : PyData → Prop} {W : WX} {D : Ends} {i : Nat} (h : EvR K te σ H R) (hR : ∀ d, R d → ∃ f : List Int, 1 ≤ f.length ∧ d = dR f ∧ (ringB f = false → Bad K (WE W σ) H))
    (k : ∀ f u H2, ringB f = true → Ex H H2 → RingAt K H2 u f → D.nx (σ.set i (some u)) H2) : tAsg (tMakeS (He.ga K "Ring") (sp_Ring K) (WE W) (tCons te tNil)) (gName i) D σ H := p_makeR h hR H (Ex.refl H) _ k
theorem s_mk0 {σ : L2.St} {H : Hp} {te : TE} {R : PyData → Prop} {D : Ends} {i : Nat} {E : XK} (h : EvR K te σ H R) (hR : ∀ d, R d → ∃ f : List Int, 1 ≤ f.length ∧ d = dR f ∧ (ringB f = false → Bad K E H))
    (k : ∀ f u H2, ringB f = true → Ex H H2 → RingAt K H2 u f → D.nx (σ.set i (some u)) H2) : tAsg (tMake (He.ga K "Ring") (sp_Ring K) [] E (tCons te tNil)) (gName i) D σ H := p_makeR h hR H (Ex.refl H) _ k
/-! ### _law_ring -/
theorem known_ring : ∀ f ∈ knowns, ringB f = true := by decide +kernel
def sp_L_ring (K : PySem.W.Frag) : Sp := fun vs H Q E => ∃ (a : Addr) (ns : List Int) (k : Nat) (p : Int), vs = [.ref a, .int (k : Int), .int p] ∧ SqL K H a (ns.map V.int) ∧ k ≤ 500 ∧ 0 < p ∧ ∀ u f H2, Ex H H2 → ringB f = true → RingAt K H2 u f → Q u H2
def tbRing (K : PySem.W.Frag) (W : WX) : TS := tAsg (tMakeS (He.ga K "Ring") (sp_Ring K) (WE W) (tCons (tCall (sp_L_poly K) [] E0 (tCons (tCall (sp_L_cell K) [] E0 (tCons (tVar 0) (tCons (tOp oAdd (tVar 1) (tVar 4)) tNil))) (tCons (tVar 2) tNil))) tNil)) (gName 3)
def rd_L_ring (K : PySem.W.Frag) : TS := (tSeq (tAsg (tC .non) (gName 3))
  (tCut (tFor (iRng1 (tCons (tC (.int 3)) tNil)) (gName 4)
  (tIfS (tTest (tOp oIsN (tVar 3) (tC .non))) (fun D σ H => tbRing K (wOnly K (.ref (He.ga K "RingError")) (fun _ _ _ => tAsg (tC .non) (gName 3)) (fun _ _ _ _ => False) D) D σ H) tNext))
  (tCut (tIfS (tTest (tOp oIsN (tVar 3) (tC .non))) (tAsg (tMake (He.ga K "Ring") (sp_Ring K) [] E0 (tCons (tCall (sp_L_known_ring K) [] E0 (tCons (tCall (sp_L_cell K) [] E0 (tCons (tVar 0) (tCons (tVar 1) tNil))) tNil)) tNil)) (gName 3)) tNext)
  (tRet (tVar 3)))))
/-- found: nothing, or a ring -/
def FoundR (K : PySem.W.Frag) (H : Hp) (u : V) : Prop := u = .non ∨ ∃ f, ringB f = true ∧ RingAt K H u f
theorem FoundR.mono {H H' : Hp} {u : V} (h : FoundR K H u) (e : Ex H H') : FoundR K H' u := by
  rcases h with h | ⟨f, h1, h2⟩
  · exact .inl h
  · exact .inr ⟨f, h1, h2.mono e⟩
theorem et_isN {σ : L2.St} {H : Hp} {i : Nat} {u : V} (h : σ[i]? = some (some u)) : EvT (tTest (tOp oIsN (tVar i) (tC .non))) σ H (decide (u = .non)) := fun H1 e Q q => ⟨u, h, rfl, decide (u = .non), rfl, q H1 (Ex.refl H1)⟩
theorem pu_L_ring {H : Hp} {a : Addr} {ns : List Int} {k : Nat} {p : Int} {Q : VK} (T : Tx K mg) (ha : SqL K H a (ns.map V.int)) (hk : k ≤ 500) (hp : 0 < p) (q : ∀ u f H2, Ex H H2 → ringB f = true → RingAt K H2 u f → Q u H2) :
    rd_L_ring K { nx := fun _ H' => Q .non H', rt := Q } (start ["_law_script", "_law_k", "_law_prime", "_law_found", "_law_j"] [.ref a, .int (k : Int), .int p]) H := by
  have cellE : ∀ {H1 : Hp} {σ : L2.St} {te : TE} {j : Nat}, Ex H H1 → σ[0]? = some (some (.ref a)) → Ev te σ H1 (.int (j : Int)) → j ≤ 1000 → EvD K (tCall (sp_L_cell K) [] E0 (tCons (tVar 0) (tCons te tNil))) σ H1 (.int (cellM ns j)) := fun {H1 σ te j} e h he hj =>
    d_callG (K := K) (pre := preCell K) (a_consV (ev_var h) (a_cons (K := K) (d_int he) a_nil)) fun vs H2 e2 ⟨us, eu, hus⟩ => by
      obtain ⟨x, rfl, px⟩ := dpAll_one hus
      exact ⟨a, ns, j, by rw [eu, dp_int px], ex_l (e.trans e2) ha, hj, rfl⟩
  refine q_asg ev_c fun H1 e1 => ?_
  refine q_cut (M := fun σ' H' => ∃ (u : V) (y : Option V), σ' = [some (.ref a), some (.int (k : Int)), some (.int p), some u, y] ∧ Ex H H' ∧ FoundR K H' u) (s_forR1 (n := 3) (ea_cons ev_c ea_nil) ⟨by decide, by decide⟩
    (fun i σ' H' => ∃ (u : V) (y : Option V), σ' = [some (.ref a), some (.int (k : Int)), some (.int p), some u, y] ∧ Ex H H' ∧ FoundR K H' u) (fun H2 e2 => ⟨.non, none, rfl, e1.trans e2, .inl rfl⟩) ?_ (fun σ' H' h => h)) ?_
  · rintro i σ' H' hi ⟨u, y, rfl, e', hu⟩
    show tIfS _ _ _ _ _ _
    refine s_when (b := decide (u = .non)) (et_isN rfl) (fun hc H2 e2 => ?_) (fun hc H2 e2 => ⟨u, _, rfl, e'.trans e2, hu.mono e2⟩)
    have e02 := e'.trans e2
    unfold tbRing
    have hpoly : EvR K (tCall (sp_L_poly K) [] E0 (tCons (tCall (sp_L_cell K) [] E0 (tCons (tVar 0) (tCons (tOp oAdd (tVar 1) (tVar 4)) tNil))) (tCons (tVar 2) tNil))) [some (.ref a), some (.int (k : Int)), some (.int p), some u, some (.int (i : Int))] H2 anyRow :=
      r_call (K := K) (dom := dmPoly) (R := anyRow) (a_cons (cellE (j := k + i) e02 rfl (ev_is (ev_op (ev_var rfl) (ev_var rfl) rv_I0) rfl) (by omega)) (a_cons (d_int (ev_var rfl)) a_nil)) ⟨_, p, hp, rfl, rfl⟩
    refine s_mkS (K := K) (R := anyRow) hpoly (fun d ⟨f, hf, ed⟩ => ⟨f, hf, ed, fun _ x dd H3 hx e3 => ⟨true, ?_, fun _ a na => ?_, fun h => by cases h⟩⟩) fun f u' H3 hr e3 hR => ?_
    · rcases hx with rfl | rfl | rfl | rfl
      · exact T.m_NoPolynomial_RingError
      · exact T.m_TooGreat_RingError
      · exact T.m_FallsApart_RingError
      · exact T.m_NotWhole_RingError
    · exact s_asg ev_c fun H4 e4 => ⟨.non, some (.int (i : Int)), rfl, (e02.trans e3).trans e4, .inl rfl⟩
    · exact ⟨u', some (.int (i : Int)), rfl, e02.trans e3, .inr ⟨f, hr, hR⟩⟩
  · rintro σ' H' ⟨u, y, rfl, e', hu⟩
    refine q_cut (M := fun σ' H' => ∃ (f : List Int) (u : V) (y : Option V), σ' = [some (.ref a), some (.int (k : Int)), some (.int p), some u, y] ∧ Ex H H' ∧ ringB f = true ∧ RingAt K H' u f) (s_when (b := decide (u = .non)) (et_isN rfl) (fun hc H2 e2 => ?_) (fun hc H2 e2 => ?_)) ?_
    · have e02 := e'.trans e2
      have hkn : EvR K (tCall (sp_L_known_ring K) [] E0 (tCons (tCall (sp_L_cell K) [] E0 (tCons (tVar 0) (tCons (tVar 1) tNil))) tNil)) [some (.ref a), some (.int (k : Int)), some (.int p), some u, y] H2 isKnown :=
        r_call (K := K) (dom := dmKnownR) (R := isKnown) (a_cons (cellE (j := k) e02 rfl (ev_var rfl) (by omega)) a_nil) ⟨_, rfl, rfl⟩
      refine s_mk0 (K := K) (R := isKnown) hkn (fun d ⟨f, hf, ed⟩ => ⟨f, ?_, ed, fun h => ?_⟩) fun f u' H3 hr e3 hR => ?_
      · have h0 := known_ring f hf
        unfold ringB at h0
        have := (goodP_is (He.ba h0).1).1
        omega
      · rw [known_ring f hf] at h
        cases h
      · exact ⟨f, u', y, rfl, e02.trans e3, hr, hR⟩
    · have hc : u ≠ .non := of_decide_eq_false hc
      rcases hu with hu | ⟨f, hr, hR⟩
      · exact absurd hu hc
      · exact ⟨f, u, y, rfl, e'.trans e2, hr, hR.mono e2⟩
    · rintro σ' H' ⟨f, u, y, rfl, e', hr, hR⟩
      exact s_ret (ev_var rfl) fun H2 e2 => q u f H2 (e'.trans e2) hr (hR.mono e2)
theorem ok_L_ring (T : Tx K mg) : Ok P w K mg base CX0 "_law_ring" ["_law_script", "_law_k", "_law_prime"] 9 (sp_L_ring K) := by
  have O_L_cell := ok_L_cell (P := P) (w := w) (base := base) T
  have O_L_poly := ok_L_poly (P := P) (w := w) (base := base) T
  have O_L_known_ring := ok_L_known_ring (P := P) (w := w) (base := base) T
  obtain ⟨fdR, bR, FR⟩ := ok_Ring (P := P) (w := w) (base := base) T
  refine ok_of T.g_L_ring T.f_L_ring sc_L_ring (fun _ _ _ _ _ _ us hl => match us, hl with | [_, _, _], _ => rfl) (fun vs H Q E ⟨a, ns, k, p, h, _⟩ => by rw [h]; rfl) (fun cdv A outer s H vs Q E hr ⟨a, ns, k, p, hvs, ha, hk, hp, q⟩ => ⟨rd_L_ring K, PSs.nox ((pss_cons (ps_set (i := 3) sc_L_ring.nd rfl (Or.inl rfl) pe_non)
  (pss_cut (ps_for PassesOwn.never rfl (pi_range1 (by rfl) T.b_range (pa_cons pe_int pa_nil)) (pg_name (i := 4) sc_L_ring.nd rfl (Or.inl rfl))
  (pss_one (ps_if (pt_cmpR op_isN (pv 3) pe_non (nomark _)) (pss_one (ps_try_only (tb := tbRing K) (ts := fun _ _ _ => tAsg (tC .non) (gName 3)) (Wout := fun _ _ _ _ => False) rfl rfl ⟨rfl, by decide, Or.inl T.g_RingError⟩ takes0
      (fun W pn xe tk _ => pss_one (ps_set (i := 3) sc_L_ring.nd rfl (Or.inl rfl) (pe_makeS T.mk_Ring FR (hr.mono (by decide)) rfl T.g_Ring bR (fun σ => passAt tk σ) (by exact (pa_cons (pe_fn O_L_poly (hr.mono (by decide)) (pa_cons (pe_fn O_L_cell (hr.mono (by decide)) (pa_cons (pv 0) (pa_cons (pe_op op_add (pv 1) (pv 4)) pa_nil))) (pa_cons (pv 2) pa_nil))) pa_nil)))))
      (fun _ _ _ _ _ _ _ => pss_one (ps_set (i := 3) sc_L_ring.nd rfl (Or.inl rfl) pe_non)))) pss_nil)))
  (pss_cut (ps_if (pt_cmpR op_isN (pv 3) pe_non (nomark _)) (pss_one (ps_set (i := 3) sc_L_ring.nd rfl (Or.inl rfl) (pe_make T.mk_Ring FR (hr.mono (by decide)) rfl T.g_Ring bR .nil passL (pa_cons (pe_fn O_L_known_ring (hr.mono (by decide)) (pa_cons (pe_fn O_L_cell (hr.mono (by decide)) (pa_cons (pv 0) (pa_cons (pv 1) pa_nil))) pa_nil)) pa_nil)))) pss_nil)
  (pss_one (ps_ret (pv 3))))))), ?_⟩)
  subst hvs
  exact pu_L_ring T ha hk hp q
end
end K41
set_option Elab.async false
set_option linter.all false
set_option maxRecDepth 100000
set_option maxHeartbeats 4000000
namespace K41
open PySem PySem.Spec PyProof.Rows L2 Evl
local macro_rules | `(tactic| walk_at "cc") => `(tactic| first
  | assumption
  | (with_reducible show (0 : Int) < _; omega)
  | exact Or.inl ⟨by omega, by omega⟩
  | exact Or.inr ⟨by omega, by omega⟩
  | exact And.intro (by omega) (by omega)
  | (show (0 : Int) < _; omega)
  | omega)
local macro_rules | `(tactic| walk_at "ev") => `(tactic| first
  | assumption
  | with_reducible exact ev_c
  | exact ev_var rfl
  | ((with_reducible refine' ev_op ?ka ?kb rv_I0); (case ka => walk_at "ev"); (case kb => walk_at "ev"))
  | ((with_reducible refine' ev_op ?ka ?kb (rv_I ?kc)); (case ka => walk_at "ev"); (case kb => walk_at "ev"); (case kc => walk_at "cc"))
  | ((with_reducible refine' ev_op (r := rEq) ?ka ?kb ?kd); (case ka => walk_at "ev"); (case kb => walk_at "ev"); (case kd => refine' rv_eq ?kc; rfl))
  | ((with_reducible refine' ev_op (r := rNe) ?ka ?kb ?kd); (case ka => walk_at "ev"); (case kb => walk_at "ev"); (case kd => refine' rv_ne ?kc; rfl))
  | ((with_reducible refine' ev_un ?ka ru_neg); (case ka => walk_at "ev"))
  | ((with_reducible refine' et_test ?ka); (case ka => walk_at "ev")))

section
variable {P : Program} {w : World} {K : PySem.W.Frag} {mg : Str → Option Value} {base : Heap}
/-! ### isinstance of several classes -/
def rIsT (K : PySem.W.Frag) (D a : Addr) : List V → Hp → VK → Prop := fun xs H Q => ∃ (tp : Addr) (cs : List Addr) (b : Bool), xs = [.ref a, .ref tp] ∧ H tp = some (.tup (cs.map V.ref)) ∧ PySem.W.kitAny K (.ref D) (cs.map Value.ref) = some b ∧ Q (.bl b) H
theorem vals_refs : ∀ {cs : List Addr} {us : List Value}, Vals (cs.map V.ref) us → us = cs.map Value.ref
  | [], us, h => by cases h; rfl
  | c :: cs, us, h => by
    cases h with
    | cons h1 h2 =>
      rw [vals_refs h2, show _ = Value.ref c from h1]
      rfl
theorem call_isT {X : Cx} {a D : Addr} {oe : Obj} {pn : List (Addr × Obj)} (C : ExcC X.K D) (hz : Zc (.ref D) none oe) (hf : ∃ vs, oe.data = .fields vs) : CallR (X.suite a ((a, oe) :: pn)) (.builtin "isinstance") (rIsT X.K D a) := by
  intro pins s0 σ H xs us Q I0 rv hq
  obtain ⟨tp, cs, b, rfl, htp, e, q⟩ := hq
  match us, rv with
  | [u1, u2], .cons r1 (.cons r2 .nil) =>
    have e1 : u1 = Value.ref a := r1
    have e2 : u2 = Value.ref tp := r2
    subst e1 e2
    obtain ⟨hget, _⟩ := I0.pin (a, oe) (List.mem_append.mpr (.inl List.mem_cons_self))
    obtain ⟨vs, hv⟩ := hf
    have J : PySem.W.InstAt s0.heap a oe D none := by
      match oe, hz, hv, hget with
      | ⟨_, _, _, _⟩, ⟨z1, z2⟩, z3, z4 =>
        dsimp only at z1 z2 z3
        subst z1 z2 z3
        exact ⟨z4, rfl, rfl, trivial⟩
    obtain ⟨its, rv2, ⟨o, ho, hoc, n, hod⟩, _⟩ := I0.tuple (st_of htp)
    rw [vals_refs rv2] at hod
    match o, ho, hoc, hod with
    | ⟨oc, od, odt, osl⟩, ho, hoc, hod =>
      dsimp only at hoc hod
      subst hoc hod
      exact PySem.W.kia_tup (PySem.W.handS_kitx_exc C.hg C.hk C.hs C.hd C.ha C.hn C.ht C.hm) I0.kIn J ho e (fun z => nomatch z) fun tk => ⟨.bl b, H, I0.kept (t' := tk) fun _ _ z => z, rfl, q⟩
/-! ### _law_asked -/
def sp_L_asked (K : PySem.W.Frag) : Sp := fun vs H Q E => ∃ u v f a, vs = [u, v] ∧ RingAt K H u f ∧ Dp K H v (dT a) ∧ 2 ≤ f.length ∧ f.length ≤ 5 ∧ 1 ≤ a.length ∧ 1 ≤ (a.getD 0 []).length ∧ 1 ≤ t00 a ∧
  (1 < (M.parts primes (t00 a)).2 → ∀ p H2, H p = none → Ex H H2 → H2 p = some (.lst [.str "far", .non]) → Q (.ref p) H2) ∧
  ((M.parts primes (t00 a)).2 ≤ 1 → ∃ cnt : Int → List Int → Nat, (∀ pk ∈ (M.parts primes (t00 a)).1, ∀ r ∈ M.split f pk.1, OftenIs f (primeTable (f.length - 1) r.1 pk.1) a (cnt pk.1 r.1)) ∧
    ∀ p l zs H2, H p = none → H l = none → Ex H H2 → H2 p = some (.lst [.str "told", .ref l]) → H2 l = some (.lst zs) → DpAll K H2 zs (takenL f cnt (M.parts primes (t00 a)).1) → Q (.ref p) H2)
def tIsErr (K : PySem.W.Frag) (a : Addr) : TE := tIf (tAnd (tB (tCB (rIsE K (He.ga K "TooFar") a) (tCons (tVar 4) (tCons (tC (.ty "ValueError")) tNil)))) (tNot (tB (tCB (rIsT K (He.ga K "TooFar") a) (tCons (tVar 4) (tCons (tTup (tCons (tC (.ref (He.ga K "TooGreat"))) (tCons (tC (.ref (He.ga K "NoPrime"))) tNil))) tNil)))))) (tC (.str "far")) (tC (.str ""))
def tsAsk (K : PySem.W.Frag) (a : Addr) (cls : Value) (d : Option Addr) : TS := fun D σ H => (cls = .ref (He.ga K "TooFar") ∧ d = none) ∧ tAsg (tIsErr K a) (gName 2) D σ H
def tbAsk (K : PySem.W.Frag) (W : WX) : TS := tAsg (tCallS (sp_taken K) (WE W) (tCons (tVar 0) (tCons (tVar 1) tNil))) (gName 3)
def rd_L_asked (K : PySem.W.Frag) : TS := (tSeq (tAsg (tC (.str "told")) (gName 2))
  (tSeq (tAsg (tC .non) (gName 3))
  (tCut (fun D σ H => tbAsk K (wAs K (.ref (He.ga K "TooFar")) 4 (tsAsk K) (fun _ _ _ _ => False) D) D σ H)
  (tRet (tLst (tCons (tVar 2) (tCons (tVar 3) tNil)))))))
theorem is_facts (T : Tx K mg) : ExcC K (He.ga K "TooFar") ∧ PySem.W.kitOne K (.ref (He.ga K "TooFar")) (.type "ValueError") = some true ∧ PySem.W.kitAny K (.ref (He.ga K "TooFar")) [.ref (He.ga K "TooGreat"), .ref (He.ga K "NoPrime")] = some false := by
  have h := T.more.2
  unfold ex2 at h
  obtain ⟨h1, h⟩ := He.ba h
  obtain ⟨h2, h⟩ := He.ba h
  obtain ⟨h3, h4⟩ := He.ba h
  have k3 : PySem.W.kitOne K (.ref (He.ga K "TooFar")) (.ref (He.ga K "TooGreat")) = some false := of_decide_eq_true h3
  have k4 : PySem.W.kitOne K (.ref (He.ga K "TooFar")) (.ref (He.ga K "NoPrime")) = some false := of_decide_eq_true h4
  refine ⟨excC_of h1, of_decide_eq_true h2, ?_⟩
  unfold PySem.W.kitAny
  rw [k3]
  show (match PySem.W.kitOne K _ _ with | some true => _ | some false => _ | none => _) = _
  rw [k4]
  rfl
theorem pu_L_asked {H : Hp} {u v : V} {f : List Int} {a : List (List Int)} {Q : VK} (T : Tx K mg) (hR : RingAt K H u f) (hv : Dp K H v (dT a)) (hf1 : 2 ≤ f.length) (hf : f.length ≤ 5) (ha1 : 1 ≤ a.length) (ha0 : 1 ≤ (a.getD 0 []).length) (hm : 1 ≤ t00 a)
    (b : 1 < (M.parts primes (t00 a)).2 → ∀ p H2, H p = none → Ex H H2 → H2 p = some (.lst [.str "far", .non]) → Q (.ref p) H2)
    (q : (M.parts primes (t00 a)).2 ≤ 1 → ∃ cnt : Int → List Int → Nat, (∀ pk ∈ (M.parts primes (t00 a)).1, ∀ r ∈ M.split f pk.1, OftenIs f (primeTable (f.length - 1) r.1 pk.1) a (cnt pk.1 r.1)) ∧
      ∀ p l zs H2, H p = none → H l = none → Ex H H2 → H2 p = some (.lst [.str "told", .ref l]) → H2 l = some (.lst zs) → DpAll K H2 zs (takenL f cnt (M.parts primes (t00 a)).1) → Q (.ref p) H2) :
    rd_L_asked K { nx := fun _ H' => Q .non H', rt := Q } (start ["_law_ring_here", "_law_table", "_law_word", "_law_found", "e"] [u, v]) H := by
  obtain ⟨_, i1, i2⟩ := is_facts T
  refine q_asg ev_c fun H1 e1 => q_asg ev_c fun H2 e2 => ?_
  have e02 := e1.trans e2
  refine q_cut (M := fun σ' H' => ∃ s x, σ' = [some u, some v, some (.str s), some x, none] ∧ Ex H H' ∧ ((1 < (M.parts primes (t00 a)).2 ∧ s = "far" ∧ x = .non) ∨
    ((M.parts primes (t00 a)).2 ≤ 1 ∧ s = "told" ∧ ∃ l zs, x = .ref l ∧ H l = none ∧ H' l = some (.lst zs) ∧ ∀ p H2, H p = none → Ex H' H2 → H2 p = some (.lst [.str "told", .ref l]) → Q (.ref p) H2))) ?_ ?_
  · refine ⟨u, rfl, v, rfl, ⟨u, v, f, a, rfl, hR.mono e02, dp_ex e02 hv, hf1, hf, ha1, ha0, hm, fun hfar H3 e3 => ?_, fun hfar => ?_⟩⟩
    · refine ⟨true, T.m_TooFar_TooFar, fun _ x nx => ⟨⟨rfl, rfl⟩, ?_⟩, fun h => by cases h⟩
      have hE : Ev (tIsErr K x) [some u, some v, some (.str "told"), some .non, some (.ref x)] H3 (.str "far") := by
        refine ev_if (b := true) (et_is (et_and (a := true) (b := true) (et_B fun H4 e4 Q' q' => ⟨.ref x, rfl, ⟨.ty "ValueError", .type "ValueError", true, rfl, fun u hu => hu, i1, q' H4 (Ex.refl _)⟩⟩) fun _ => et_is (et_not (a := false) (et_B fun H4 e4 Q' q' => ⟨.ref x, rfl, show 2 ≤ sizeLine by decide, fun p hp => ⟨p, [He.ga K "TooGreat", He.ga K "NoPrime"], false, rfl, upd_same, i2, q' _ (Ex.new hp)⟩⟩)) rfl) rfl) (fun _ => ev_c) (fun h => by cases h)
      refine s_asg hE fun H4 e4 => ⟨"far", .non, rfl, (e02.trans e3).trans e4, .inl ⟨hfar, rfl, rfl⟩⟩
    · obtain ⟨cnt, hcnt, q⟩ := q hfar
      refine ⟨cnt, hcnt, fun l xs H3 nl e3 hl hx => ⟨"told", .ref l, rfl, e02.trans e3, .inr ⟨hfar, rfl, l, xs, rfl, fresh_back e02 nl, hl, fun p H4 np e4 hp => ?_⟩⟩⟩
      exact q p l xs H4 np (fresh_back e02 nl) ((e02.trans e3).trans e4) hp (e4 _ _ hl) (dpAll_ex e4 hx)
  · rintro σ' H3 ⟨s, x, rfl, e3, hx⟩
    have hl2 : EvL (tLst (tCons (tVar 2) (tCons (tVar 3) tNil))) [some u, some v, some (.str s), some x, none] H3 [.str s, x] := el_lst (ea_cons (ev_var rfl) (ea_cons (ev_var rfl) ea_nil)) (Nat.le_of_ble_eq_true rfl)
    refine s_retL hl2 fun p H4 np e4 hp => ?_
    rcases hx with ⟨hfar, rfl, rfl⟩ | ⟨hfar, rfl, l, zs, rfl, nl, hl, k⟩
    · exact b hfar p H4 (fresh_back e3 np) (e3.trans e4) hp
    · exact k p H4 (fresh_back e3 np) e4 hp
theorem ok_L_asked (T : Tx K mg) : Ok P w K mg base CX0 "_law_asked" ["_law_ring_here", "_law_table"] 8 (sp_L_asked K) := by
  have O_taken := ok_taken (P := P) (w := w) (base := base) T
  have hC := (is_facts T).1
  refine ok_of T.g_L_asked T.f_L_asked sc_L_asked (fun _ _ _ _ _ _ us hl => match us, hl with | [_, _], _ => rfl) (fun vs H Q E ⟨u, v, f, a, h, _⟩ => by rw [h]; rfl) (fun cdv A outer s H vs Q E hr ⟨u, v, f, a, hvs, hR, hv, h1, h2, h3, h4, h5, b, q⟩ => ⟨rd_L_asked K, PSs.nox ((pss_cons (ps_set (i := 2) sc_L_asked.nd rfl (Or.inl rfl) pe_str)
  (pss_cons (ps_set (i := 3) sc_L_asked.nd rfl (Or.inl rfl) pe_non)
  (pss_cut (ps_try_as (i := 4) (n := "e") (tb := tbAsk K) (ts := tsAsk K) (Wout := fun _ _ _ _ => False) rfl rfl sc_L_asked.nd rfl rfl ⟨rfl, by decide, Or.inl T.g_TooFar⟩ takes0
      (fun W pn xe tk _ => pss_one (ps_set (i := 3) sc_L_asked.nd rfl (Or.inl rfl) (pe_fnS O_taken (hr.mono (by decide)) (fun σ => passAt tk σ) (by exact (pa_cons (pv 0) (pa_cons (pv 1) pa_nil))))))
      (fun a oe cls d pn hz hfd => ⟨fun pins s σ H D I h => by
        obtain ⟨⟨rfl, rfl⟩, h⟩ := h
        exact (pss_one (ps_set (i := 2) sc_L_asked.nd rfl (Or.inl rfl) (pe_ifExp (PW.pt (pw_and (pt_val (pe_callB (call_isE hC hz hfd) (by exact rfl) T.b_isinstance (by decide +kernel) (by exact (pa_cons (pv 4) (pa_cons (pe_bltn (v := .ty "ValueError") (u := .type "ValueError") (by exact rfl) T.b_ValueError (by decide +kernel) (by exact rfl)) pa_nil))))) (pw_and1 (pt_not (pt_val (pe_callB (call_isT hC hz hfd) (by exact rfl) T.b_isinstance (by decide +kernel) (by exact (pa_cons (pv 4) (pa_cons (pe_tup (pa_cons (pe_glob (by exact rfl) T.g_TooGreat (by exact rfl)) (pa_cons (pe_glob (by exact rfl) T.g_NoPrime (by exact rfl)) pa_nil))) pa_nil))))))))) pe_str pe_str))).run pins s σ H D I h⟩))
  (pss_one (ps_ret (pe_lst (pa_cons (pv 2) (pa_cons (pv 3) pa_nil))))))))), ?_⟩)
  subst hvs
  exact pu_L_asked T hR hv h1 h2 h3 h4 h5 b q
end
end K41
set_option Elab.async false
set_option linter.all false
set_option maxRecDepth 100000
set_option maxHeartbeats 4000000
namespace K41
open PySem PySem.Spec PyProof.Rows L2 Evl
local macro_rules | `(tactic| walk_at "cc") => `(tactic| first
  | assumption
  | (with_reducible show (0 : Int) < _; omega)
  | exact Or.inl ⟨by omega, by omega⟩
  | exact Or.inr ⟨by omega, by omega⟩
  | exact And.intro (by omega) (by omega)
  | (show (0 : Int) < _; omega)
  | omega)
local macro_rules | `(tactic| walk_at "ev") => `(tactic| first
  | assumption
  | with_reducible exact ev_c
  | exact ev_var rfl
  | ((with_reducible refine' ev_op ?ka ?kb rv_I0); (case ka => walk_at "ev"); (case kb => walk_at "ev"))
  | ((with_reducible refine' ev_op ?ka ?kb (rv_I ?kc)); (case ka => walk_at "ev"); (case kb => walk_at "ev"); (case kc => walk_at "cc"))
  | ((with_reducible refine' ev_op (r := rEq) ?ka ?kb ?kd); (case ka => walk_at "ev"); (case kb => walk_at "ev"); (case kd => refine' rv_eq ?kc; rfl))
  | ((with_reducible refine' ev_op (r := rNe) ?ka ?kb ?kd); (case ka => walk_at "ev"); (case kb => walk_at "ev"); (case kd => refine' rv_ne ?kc; rfl))
  | ((with_reducible refine' ev_un ?ka ru_neg); (case ka => walk_at "ev"))
  | ((with_reducible refine' et_test ?ka); (case ka => walk_at "ev")))

section
variable {P : Program} {w : World} {K : PySem.W.Frag} {mg : Str → Option Value} {base : Heap}
/-! ### law -/
/-- the plain law: what is left to show -/
def dueOf (f : List Int) (r : Int) (pk : Int × Nat) : PyData := .tuple [dT (knownT (f.length - 1) pk.1 r), .int (pk.2 : Int)]
structure Plain : Prop where
  root : ∀ (f : List Int) (r : Int), ringB f = true → M.val f r ≠ 0
  taken : ∀ (f : List Int) (r m : Int), ringB f = true → 1 ≤ m → m ∣ M.val f r → (M.parts primes m).2 ≤ 1 →
    ∃ cnt : Int → List Int → Nat, (∀ pk ∈ (M.parts primes m).1, ∀ s ∈ M.split f pk.1, OftenIs f (primeTable (f.length - 1) s.1 pk.1) (knownT (f.length - 1) m r) (cnt pk.1 s.1)) ∧
      takenL f cnt (M.parts primes m).1 = (M.parts primes m).1.map (dueOf f r)
theorem val_smallB {B : Nat} {r : Int} (hr : r.natAbs < 2 ^ B) : ∀ {l : List Int}, (∀ c ∈ l, c.natAbs ≤ 1000) → (M.val l r).natAbs < 2 ^ ((B + 11) * l.length)
  | [], _ => by
    show (0 : Int).natAbs < _
    exact Nat.two_pow_pos _
  | c :: l, h => by
    have ih := val_smallB hr (l := l) fun x hx => h x (List.mem_cons_of_mem _ hx)
    have hc := h c List.mem_cons_self
    show (c + r * M.val l r).natAbs < 2 ^ ((B + 11) * (l.length + 1))
    have h1 : (r * M.val l r).natAbs ≤ 2 ^ B * 2 ^ ((B + 11) * l.length) := by
      rw [Int.natAbs_mul]
      exact Nat.mul_le_mul (by omega) (by omega)
    have h2 : 2 ^ ((B + 11) * (l.length + 1)) = 2 ^ 11 * (2 ^ B * 2 ^ ((B + 11) * l.length)) := by
      rw [← Nat.pow_add, ← Nat.pow_add]
      congr 1
      rw [Nat.mul_add, Nat.mul_one]
      omega
    have h3 : 0 < 2 ^ B * 2 ^ ((B + 11) * l.length) := Nat.mul_pos (Nat.two_pow_pos _) (Nat.two_pow_pos _)
    rw [h2]
    generalize 2 ^ B * 2 ^ ((B + 11) * l.length) = C at *
    have h4 : (c + r * M.val l r).natAbs ≤ c.natAbs + (r * M.val l r).natAbs := Int.natAbs_add_le _ _
    have h5 : 2 ^ 11 * C = 2048 * C := rfl
    omega
theorem outN_dvd {p : Int} (hp : 2 ≤ p) : ∀ (n : Nat) (m : Int), 1 ≤ m → (M.outN n p m).2 ∣ m
  | 0, m, h => Int.dvd_refl _
  | n + 1, m, h => by
    show (if m % p = 0 then _ else _ : Nat × Int).2 ∣ m
    by_cases c : m % p = 0
    · rw [if_pos c]
      obtain ⟨d1, d2, d3⟩ := out_div hp h c
      have := outN_dvd hp n (m / p) d1
      have h2 : m / p ∣ m := ⟨p, by rw [Int.mul_comm]; exact d3.symm⟩
      exact Int.dvd_trans this h2
    · rw [if_neg c]
      exact Int.dvd_refl _
theorem parts_dvd {m : Int} (h : 1 ≤ m) : ∀ i, i ≤ primes.length → (M.parts (primes.take i) m).2 ∣ m
  | 0, _ => Int.dvd_refl _
  | i + 1, hi => by
    have h1 := (parts_pos h i (by omega)).1
    have hp := (primes_ge (primes.getD i 0) (by rw [getD_at (by omega)]; exact List.getElem_mem _)).1
    rw [parts_take (by omega)]
    exact Int.dvd_trans (outN_dvd hp _ _ h1) (parts_dvd h i (by omega))
theorem t00_known {n : Nat} (hn : 1 ≤ n) (m r : Int) : t00 (knownT n m r) = m := by
  obtain ⟨k, rfl⟩ : ∃ k, n = k + 1 := ⟨n - 1, by omega⟩
  unfold t00 knownT
  rw [List.range_succ_eq_map]
  rfl
theorem knownT_len (n : Nat) (m r : Int) : (knownT n m r).length = n := by unfold knownT; rw [List.length_map, List.length_range]
theorem pow_small {p : Int} {n b e : Nat} (hp : 2 ≤ p) (hb : p ≤ (b : Int)) (he : n + 2 ≤ e) (h : b ^ e < 2 ^ 1000) : p ^ (n + 2) < 2 ^ 1000 := by
  obtain ⟨k, rfl⟩ : ∃ k : Nat, p = (k : Int) := ⟨p.toNat, by omega⟩
  have h1 : k ^ (n + 2) ≤ b ^ (n + 2) := Nat.pow_le_pow_left (by omega) _
  have h2 : b ^ (n + 2) ≤ b ^ e := Nat.pow_le_pow_right (by omega) he
  have h3 : k ^ (n + 2) < 2 ^ 1000 := by omega
  have h4 := Int.ofNat_lt.mpr h3
  rw [Int.natCast_pow, Int.natCast_pow] at h4
  exact h4
/-- comprehension over a list of pairs -/
theorem n_lcL2 {σ : L2.St} {H : Hp} {te tl : TE} {a : Addr} {xs : List V} {i j : Nat} {vs : List Nat} {xds : List PyData} (es : Nat → List PyData) (h : Ev tl σ H (.ref a)) (hx : SqL K H a xs) (hd : DpAll K H xs xds) (h0 : es 0 = []) (hz : ∀ i, i ≤ xds.length → (es i).length < 100000 ∧ tOs (es i) = true)
    (hw : ∀ x y, wipe (((wipe σ vs).set i (some x)).set j (some y)) vs = wipe σ vs)
    (ht : ∀ (k : Nat) (dx : PyData) H1, Ex H H1 → xds[k]? = some dx → ∃ d1 d2, dx = .tuple [d1, d2] ∧ ∀ x y, Dp K H1 x d1 → Dp K H1 y d2 → ∃ d, tO d = true ∧ EvD K te (((wipe σ vs).set i (some x)).set j (some y)) H1 d ∧ es (k + 1) = es k ++ [d]) :
    EvN K (tLc (iList K tl) (gTup K 2 (gCons (gName i) (gCons (gName j) gNil))) tYes te vs) σ H (es xds.length) := fun H0 e Q q => h H0 e _ fun H1 e1 => ⟨a, rfl, ⟨xs, ex_l (e.trans e1) hx⟩, fun Dl hD => by
  have hlen := dpAll_len hd
  rw [← hlen] at hz
  have e01 := e.trans e1
  refine lc_list (K := K) (g := gTup K 2 (gCons (gName i) (gCons (gName j) gNil))) (tt := tYes) (te := te) (vs := vs) (σ := σ) (D := Dl) (Qd := fun H' => Q (.ref Dl) H') (xs := xs) (Cd K H1 es Dl) ⟨hD, Ex.new hD, [], upd_same, by rw [h0]; exact .nil⟩ (fun i H' _ p => ex_l (e01.trans p.2.1) hx) (fun k x H' hi p => ?_)
    (fun H' p => by
      obtain ⟨p1, p2, acc, p3, p4⟩ := p
      rw [hlen] at p4
      exact q Dl acc H' (fresh_back e1 p1) (e1.trans p2) p3 p4)
  obtain ⟨dx, hdx, pdx⟩ := dpAll_get' hd hi
  obtain ⟨d1, d2, rfl, hk⟩ := ht k dx H1 e01 hdx
  have pdx' := dp_ex e01 pdx
  obtain ⟨p1, p2, acc, p3, p4⟩ := p
  have hl := (List.getElem?_eq_some_iff.mp hi).1
  have z := hz k (Nat.le_of_lt hl)
  obtain ⟨b, ys, rfl, g1, g2⟩ := dp_tup pdx'
  obtain ⟨u1, u2, rfl, k1, k2⟩ := dpAll_two g2
  obtain ⟨d, td, hd', hes⟩ := hk u1 u2 k1 k2
  refine ⟨b, _, rfl, ex_t p2 g1, rfl, u1, [u2], rfl, u2, [], rfl, rfl, hw u1 u2, ?_⟩
  exact cd_step (K := K) (es := es) (t := tYes) ⟨p1, p2, acc, p3, p4⟩ z.1 z.2 (b := true) t_yes (fun _ => ⟨d, td, hd', hes⟩) (fun h => by cases h)⟩
theorem okD_str (x : Str) (n : Nat) (h : PyData.strOk x = true) : OkD (.str x) n := ⟨by simp [PyData.canLay0, h], by simp [PyData.depth]⟩
abbrev lawS (v0 v1 v2 v3 : V) (r y5 f6 m7 r8 l9 d10 t11 f12 : Option V) : L2.St := [some v0, some v1, some v2, some v3, r, y5, f6, m7, r8, l9, d10, t11, f12, none, none]
def sp_law (K : PySem.W.Frag) : Sp := fun vs H Q E => ∃ (a : Addr) (ns : List Int), vs = [.ref a] ∧ SqL K H a (ns.map V.int) ∧ ∀ H2, Q (.bl true) H2
def rd_law (K : PySem.W.Frag) : TS := (tSeq (tAsg (tCall (sp_L_ring K) [] E0 (tCons (tVar 0) (tCons (tC (.int 0)) (tCons (tC (.int 999999937)) tNil)))) (gName 1))
  (tSeq (tAsg (tFld K (tVar 1) "poly") (gName 2))
  (tSeq (tAsg (tCall (sp_L_draws K) [] E0 (tCons (tCall (sp_L_cell K) [] E0 (tCons (tVar 0) (tCons (tC (.int 3)) tNil))) (tCons (tLst (tCons (tC (.int 4)) (tCons (tC (.int 46)) (tCons (tC (.int 6)) (tCons (tC (.int 2)) (tCons (tOp oPow (tC (.int 10)) (tC (.int 6))) (tCons (tOp oPow (tC (.int 10)) (tC (.int 4))) (tCons (tOp oPow (tC (.int 10)) (tC (.int 8))) (tCons (tC (.int 3)) (tCons (tC (.int 16)) tNil)))))))))) (tCons (tC (.int 999999929)) tNil)))) (gName 3))
  (tSeq (tAsg (tOp oAdd (tOp (rIxL K) (tVar 3) (tC (.int 4))) (tOp oMul (tOp oMul (tOp oPow (tC (.int 10)) (tC (.int 6))) (tOp (rIxL K) (tVar 3) (tC (.int 5)))) (tCB rInt1 (tCons (tOp rEq (tOp (rIxL K) (tVar 3) (tC (.int 7))) (tC (.int 2))) tNil)))) (gName 4))
  (tSeq (tAsg (tOp oMul (tVar 4) (tOp oSub (tC (.int 1)) (tOp oMul (tC (.int 2)) (tOp (rIxL K) (tVar 3) (tC (.int 3)))))) (gName 4))
  (tCut (tIfS (tTest (tOp rEq (tOp (rIxL K) (tVar 3) (tC (.int 0))) (tC (.int 0)))) (tAsg (tCall (sp_L_lifted K) [] E0 (tCons (tVar 2) (tCons (tOp (rIxL K) (tCall (sp_L_primes K) [] E0 tNil) (tOp (rIxL K) (tVar 3) (tC (.int 1)))) (tCons (tOp oAdd (tC (.int 1)) (tOp (rIxL K) (tVar 3) (tC (.int 2)))) tNil)))) (gName 4)) tNext)
  (tCut (tIfS (tTest (tOp rEq (tOp (rIxL K) (tVar 3) (tC (.int 0))) (tC (.int 1)))) (tAsg (tCall (sp_L_lifted K) [] E0 (tCons (tVar 2) (tCons (tOp (rIxL K) (tCall (sp_L_primes K) [] E0 tNil) (tOp oMod (tOp (rIxL K) (tVar 3) (tC (.int 1))) (tC (.int 5)))) (tCons (tOp oAdd (tC (.int 1)) (tOp (rIxL K) (tVar 3) (tC (.int 2)))) tNil)))) (gName 4)) tNext)
  (tCut (tIfS (tTest (tOp rEq (tOp (rIxL K) (tVar 3) (tC (.int 8))) (tC (.int 0)))) (tSeq (tAsg (tOp (rIxL K) (tLst (tCons (tC (.int 200)) (tCons (tC (.int 100)) tNil))) (tOp oMod (tOp (rIxL K) (tVar 3) (tC (.int 1))) (tC (.int 2)))) (gName 5))
  (tAsg (tCall (sp_L_lifted K) [] E0 (tCons (tVar 2) (tCons (tOp oAdd (tC (.int 2)) (tOp oMod (tOp (rIxL K) (tVar 3) (tC (.int 1))) (tC (.int 2)))) (tCons (tOp oAdd (tVar 5) (tOp oMod (tOp (rIxL K) (tVar 3) (tC (.int 4))) (tOp oDiv (tVar 5) (tC (.int 2))))) tNil)))) (gName 4))) tNext)
  (tSeq (tAsg (tCB rAbs (tCons (tCall (sp_L_value K) [] E0 (tCons (tVar 2) (tCons (tVar 4) tNil))) tNil)) (gName 6))
  (tSeq (tAsg (tOp oDivW (tVar 6) (tOp (rIxL K) (tCall (sp_L_parts K) [] E0 (tCons (tVar 6) tNil)) (tC (.int 1)))) (gName 7))
  (tCut (tIfS (tTest (tOp rEq (tOp (rIxL K) (tVar 3) (tC (.int 7))) (tC (.int 0)))) (tAsg (tOp oDiv (tVar 7) (tCall (sp_L_shared K) [] E0 (tCons (tVar 7) (tCons (tOp oAdd (tC (.int 1)) (tOp (rIxL K) (tVar 3) (tC (.int 6)))) tNil)))) (gName 7)) tNext)
  (tCut (tIfS (tAnd (tTest (tOp rEq (tOp (rIxL K) (tVar 3) (tC (.int 0))) (tC (.int 3)))) (tTest (tOp rEq (tOp oMod (tOp (rIxL K) (tVar 3) (tC (.int 6))) (tC (.int 3))) (tC (.int 0))))) (tAsg (tVar 6) (gName 7)) tNext)
  (tSeq (tAsg (tCall (sp_L_parts K) [] E0 (tCons (tVar 7) tNil)) (gLst K 2 (gCons (gName 8) (gCons (gName 9) gNil))))
  (tSeq (tAsg (tLst (tCons (tC (.str "told")) (tCons (tLc (iList K (tVar 8)) (gTup K 2 (gCons (gName 13) (gCons (gName 14) gNil))) tYes (tTup (tCons (tCall (sp_L_known K) [] E0 (tCons (tFld K (tVar 1) "degree") (tCons (tVar 13) (tCons (tVar 4) tNil)))) (tCons (tVar 14) tNil))) [13, 14]) tNil))) (gName 10))
  (tCut (tIfS (tTest (tOp oGt (tVar 9) (tC (.int 1)))) (tAsg (tLst (tCons (tC (.str "far")) (tCons (tC .non) tNil))) (gName 10)) tNext)
  (tSeq (tAsg (tCall (sp_L_known K) [] E0 (tCons (tFld K (tVar 1) "degree") (tCons (tVar 7) (tCons (tVar 4) tNil)))) (gName 11))
  (tSeq (tAsg (tCall (sp_L_asked K) [] E0 (tCons (tVar 1) (tCons (tVar 11) tNil))) (gName 12))
  (tSeq (tIfS (tTest (tOp (rNeD K) (tVar 12) (tVar 10))) (tRet (tC (.bl false))) tNext)
  (tCut (tIfS (tTest (tOp rEq (tVar 9) (tC (.int 1)))) (tDrop (tBM K "list" rAppend (tOp (rIxL K) (tVar 12) (tC (.int 1))) (tCons (tC (.int 0)) tNil))) tNext)
  (tRet (tOp (rEqD K) (tCall (sp_L_asked K) [] E0 (tCons (tVar 1) (tCons (tVar 11) tNil))) (tVar 10))))))))))))))))))))))
def widths : List Int := [4, 46, 6, 2, 1000000, 10000, 100000000, 3, 16]
theorem p_lring {σ : L2.St} {H : Hp} {a : Addr} {ns : List Int} {ta : TA} {k : Nat} {p : Int} (h : EvA ta σ H [.ref a, .int (k : Int), .int p]) (ha : SqL K H a (ns.map V.int)) (hk : k ≤ 500) (hp : 0 < p) : EvP (tCall (sp_L_ring K) [] E0 ta) σ H (fun u H2 => ∃ f, ringB f = true ∧ RingAt K H2 u f) := fun H1 e Q q =>
  h H1 e _ fun H2 e2 => ⟨a, ns, k, p, rfl, ex_l (e.trans e2) ha, hk, hp, fun u f H3 e3 hr hR => q u H3 (e2.trans e3) ⟨f, hr, hR⟩⟩
/-- what the due is, what is asked -/
def dueD (f : List Int) (r m : Int) : PyData := if 1 < (M.parts primes m).2 then .list [.str "far", .none] else .list [.str "told", .list ((M.parts primes m).1.map (dueOf f r))]
theorem okD_due (f : List Int) (r m : Int) : OkD (dueD f r m) 5 := by
  unfold dueD
  split
  · exact okD_lst fun d hd => by
      simp at hd
      rcases hd with rfl | rfl
      · exact okD_str _ _ (by decide +kernel)
      · exact okD_none _
  · exact okD_lst fun d hd => by
      simp only [List.mem_cons, List.not_mem_nil, or_false] at hd
      rcases hd with rfl | rfl
      · exact okD_str _ _ (by decide +kernel)
      · exact okD_lst fun d hd => by
          obtain ⟨pk, _, rfl⟩ := List.mem_map.mp hd
          exact okD_tup fun d hd => by
            simp only [List.mem_cons, List.not_mem_nil, or_false] at hd
            rcases hd with rfl | rfl
            · exact okD_T _
            · exact okD_int _ _
def AskedR (K : PySem.W.Frag) (f : List Int) (r m : Int) (H : Hp) (v : V) (H2 : Hp) : Prop :=
  (1 < (M.parts primes m).2 ∧ ∃ p, v = .ref p ∧ H p = none ∧ H2 p = some (.lst [.str "far", .non])) ∨
  ((M.parts primes m).2 ≤ 1 ∧ ∃ p l zs, v = .ref p ∧ H p = none ∧ H l = none ∧ H2 p = some (.lst [.str "told", .ref l]) ∧ H2 l = some (.lst zs) ∧ DpAll K H2 zs ((M.parts primes m).1.map (dueOf f r)))
theorem AskedR.dp {f : List Int} {r m : Int} {H H2 : Hp} {v : V} (h : AskedR K f r m H v H2) : Dp K H2 v (dueD f r m) := by
  unfold dueD
  rcases h with ⟨hf, p, rfl, _, hp⟩ | ⟨hf, p, l, zs, rfl, _, _, hp, hl, hz⟩
  · rw [if_pos hf]
    exact .lst (sq_of hp) (.cons (.str _) (.cons .non .nil))
  · rw [if_neg (by omega)]
    exact .lst (sq_of hp) (.cons (.str _) (.cons (.lst (sq_of hl) hz) .nil))
theorem knownT_row {n : Nat} {m r : Int} {i : Nat} (h : i < n) : ((knownT n m r).getD i []).length = n := by
  have e : (knownT n m r).getD i [] = knownRow n m r i := by
    unfold knownT
    rw [List.getD_eq_getElem?_getD, List.getElem?_map, List.getElem?_range h]
    rfl
  rw [e, knownRow_len]
theorem p_asked {σ : L2.St} {H : Hp} {ta : TA} {te : TE} {u : V} {f : List Int} {r m : Int} (PL : Plain) (hu : Ev te σ H u) (hR : RingAt K H u f) (hr : ringB f = true) (hm : 1 ≤ m) (hv : m ∣ M.val f r) (h : EvAD K ta σ H [dT (knownT (f.length - 1) m r)]) :
    EvP (tCall (sp_L_asked K) [] E0 (tCons te ta)) σ H (AskedR K f r m H) := fun H1 e Q q =>
  (a_consV hu h) H1 e _ fun vs H2 e2 pv => by
    obtain ⟨us, rfl, hus⟩ := pv
    obtain ⟨v, rfl, p⟩ := dpAll_one hus
    have h0 := hr
    unfold ringB at h0
    obtain ⟨g1, g2, _, _⟩ := goodP_is (He.ba h0).1
    have e3 := t00_known (n := f.length - 1) (by omega) m r
    refine ⟨u, v, f, knownT (f.length - 1) m r, rfl, hR.mono (e.trans e2), p, by omega, g2, by rw [knownT_len]; omega, by rw [knownT_row (by omega)]; omega, by rw [e3]; exact hm, fun hf p' H3 np e4 hp => ?_, fun hf => ?_⟩
    · rw [e3] at hf
      exact q _ H3 (e2.trans e4) (.inl ⟨hf, p', rfl, fresh_back (e.trans e2) np, hp⟩)
    · rw [e3] at hf ⊢
      obtain ⟨cnt, h1, h2⟩ := PL.taken f r m hr hm hv hf
      refine ⟨cnt, h1, fun p' l zs H3 np nl e4 hp hl hz => ?_⟩
      rw [h2] at hz
      exact q _ H3 (e2.trans e4) (.inr ⟨hf, p', l, zs, rfl, fresh_back (e.trans e2) np, fresh_back (e.trans e2) nl, hp, hl, hz⟩)
theorem r_lifted {σ : L2.St} {H : Hp} {t1 t2 t3 : TE} {f : List Int} {p : Int} {n : Nat} (h1 : EvD K t1 σ H (dR f)) (h2 : Ev t2 σ H (.int p)) (h3 : Ev t3 σ H (.int (n : Int))) (hf : f.length ≤ 10) (hs : ∀ c ∈ f, c.natAbs ≤ 1000) (hp : 2 ≤ p) (hp2 : p ≤ 1000) (hn : n ≤ 1000) (hpow : p ^ (n + 2) < 2 ^ 1000) :
    EvR K (tCall (sp_L_lifted K) [] E0 (tCons t1 (tCons t2 (tCons t3 tNil)))) σ H isSmallInt := r_call (K := K) (dom := dmLifted) (R := isSmallInt) (a_cons h1 (a_cons (d_int h2) (a_cons (d_int h3) a_nil))) ⟨f, p, n, hf, hs, hp, hp2, hn, hpow, rfl, rfl⟩
theorem primes_small {p : Int} (h : p ∈ primes) {n : Nat} (hn : n ≤ 6) : p ^ (n + 2) < 2 ^ 1000 := by
  obtain ⟨g1, g2⟩ := primes_ge p h
  exact pow_small (b := 199) (e := 8) g1 (by omega) (by omega) (by decide)
set_option maxHeartbeats 16000000 in
theorem pu_law {H : Hp} {a : Addr} {ns : List Int} {Q : VK} (T : Tx K mg) (PL : Plain) (ha : SqL K H a (ns.map V.int)) (q : ∀ H2, Q (.bl true) H2) :
    rd_law K { nx := fun _ H' => Q .non H', rt := Q } (start ["_law_script", "_law_ring_here", "_law_poly_here", "_law_draws_here", "_law_r", "_law_deep", "_law_full", "_law_m", "_law_rows", "_law_left", "_law_due", "_law_table", "_law_first", "_law_p", "_law_k"] [.ref a]) H := by
  refine q_asgD (p_lring (K := K) (k := 0) (p := 999999937) (ea_cons (ev_var rfl) (ea_cons ev_c (ea_cons ev_c ea_nil))) ha (by decide) (by decide)) fun u H1 e1 ⟨f, hr, hR⟩ => ?_
  have h0 := hr
  unfold ringB at h0
  obtain ⟨g1, g2, g3, gs⟩ := goodP_is (He.ba h0).1
  have gs1 : ∀ c ∈ f, c.natAbs ≤ 1000 := fun c hc => Nat.le_trans (gs c hc) (by decide)
  clear h0
  refine q_asgD (d_poly T (ev_var rfl) hR) fun pv H2 e2 ppv => ?_
  have hcell : EvD K (tCall (sp_L_cell K) [] E0 (tCons (tVar 0) (tCons (tC (.int 3)) tNil))) [some (.ref a), some u, some pv, none, none, none, none, none, none, none, none, none, none, none, none] H2 (.int (cellM ns 3)) :=
    d_callG (K := K) (pre := preCell K) (a_consV (ev_var rfl) (a_cons (K := K) (d_int ev_c) a_nil)) fun vs H3 e3 ⟨us, eu, hus⟩ => by
      obtain ⟨x, rfl, px⟩ := dpAll_one hus
      exact ⟨a, ns, 3, by rw [eu, dp_int px]; rfl, ex_l ((e1.trans e2).trans e3) ha, by decide, rfl⟩
  generalize cellM ns 3 = cell at hcell
  refine q_asgN (n_call (K := K) (dom := dmDraws) (a_cons hcell (a_cons (d_ofN (n_lst (ds := widths.map .int) (a_cons (d_int ev_c) (a_cons (d_int ev_c) (a_cons (d_int ev_c) (a_cons (d_int ev_c) (a_cons (d_int (ev_is (ev_op ev_c ev_c (rv_I ⟨by decide, by decide, by decide⟩)) (congrArg V.int (by decide)))) (a_cons (d_int (ev_is (ev_op ev_c ev_c (rv_I ⟨by decide, by decide, by decide⟩)) (congrArg V.int (by decide)))) (a_cons (d_int (ev_is (ev_op ev_c ev_c (rv_I ⟨by decide, by decide, by decide⟩)) (congrArg V.int (by decide)))) (a_cons (d_int ev_c) (a_cons (d_int ev_c) a_nil))))))))) (Nat.le_of_ble_eq_true rfl))) (a_cons (d_int ev_c) a_nil))) ⟨cell, widths, 999999929, by decide, by decide, by decide, rfl, rfl⟩) fun dp xs H3 nd e3 hdp hxs => ?_
  rw [dpAll_intsV hxs] at hdp
  obtain ⟨dl, dw⟩ := drawsM_is (c := cell) (ws := widths) (p := 999999929) (by decide)
  have dl9 : (drawsM cell widths 999999929).length = 9 := dl
  have dw : ∀ i, i < 9 → 0 ≤ (drawsM cell widths 999999929).getD i 0 ∧ (drawsM cell widths 999999929).getD i 0 < widths.getD i 0 := dw
  generalize drawsM cell widths 999999929 = D at *
  have w0 : 0 ≤ D.getD 0 0 ∧ D.getD 0 0 < 4 := dw 0 (by decide)
  have w1 : 0 ≤ D.getD 1 0 ∧ D.getD 1 0 < 46 := dw 1 (by decide)
  have w2 : 0 ≤ D.getD 2 0 ∧ D.getD 2 0 < 6 := dw 2 (by decide)
  have w3 : 0 ≤ D.getD 3 0 ∧ D.getD 3 0 < 2 := dw 3 (by decide)
  have w4 : 0 ≤ D.getD 4 0 ∧ D.getD 4 0 < 1000000 := dw 4 (by decide)
  have w5 : 0 ≤ D.getD 5 0 ∧ D.getD 5 0 < 10000 := dw 5 (by decide)
  have w6 : 0 ≤ D.getD 6 0 ∧ D.getD 6 0 < 100000000 := dw 6 (by decide)
  clear dw dl
  have hR3 := hR.mono (e2.trans e3)
  have ppv3 := dp_ex e3 ppv
  clear hR ppv hcell hxs
  -- from here on what is at H3 stands
  have dE : ∀ {H' : Hp} {σ : L2.St} {i : Nat}, Ex H3 H' → σ[3]? = some (some (.ref dp)) → i < 9 → Ev (tOp (rIxL K) (tVar 3) (tC (.int (i : Int)))) σ H' (.int (D.getD i 0)) := fun e h1 h2 => ev_lst (e _ _ hdp) (ev_var h1) ev_c (by omega)
  have pE : ∀ {H' : Hp} {σ : L2.St}, Ex H3 H' → σ[2]? = some (some pv) → EvD K (tVar 2) σ H' (dR f) := fun e h => d_var h (dp_ex e ppv3)
  have prE : ∀ {H' : Hp} {σ : L2.St} {te : TE} {i : Nat}, Ev te σ H' (.int (i : Int)) → i < 46 → Ev (tOp (rIxL K) (tCall (sp_L_primes K) [] E0 tNil) te) σ H' (.int (primes.getD i 0)) := fun h hi => ev_int (d_ixL (d_ofN (n_call0 (K := K) (dom := dmPrimes) ⟨rfl, rfl⟩)) h (atI_nat (at_P (show _ < primes.length from hi))))
  have e6 : ∀ {H' : Hp} {σ : L2.St}, Ev (tOp oPow (tC (.int 10)) (tC (.int 6))) σ H' (.int 1000000) := fun {H' σ} => ev_is (ev_op ev_c ev_c (rv_I ⟨by decide, by decide, by decide⟩)) (congrArg V.int (by decide))
  -- r
  refine q_asg (v := .int (D.getD 4 0 + 1000000 * D.getD 5 0 * (if decide (D.getD 7 0 = 2) = true then 1 else 0))) (ev_op (dE (i := 4) (Ex.refl _) rfl (by decide)) (ev_op (ev_op e6 (dE (i := 5) (Ex.refl _) rfl (by decide)) (rv_I (.inl ⟨by omega, by omega⟩))) (ev_intB (ev_is (ev_op (dE (i := 7) (Ex.refl _) rfl (by decide)) ev_c (rv_eq rfl)) (by simp))) (rv_I (.inl ⟨by omega, by omega⟩))) rv_I0) fun H4 e4 => ?_
  have hr0 : (D.getD 4 0 + 1000000 * D.getD 5 0 * (if decide (D.getD 7 0 = 2) = true then 1 else 0)).natAbs < 2 ^ 40 := by split <;> omega
  generalize D.getD 4 0 + 1000000 * D.getD 5 0 * (if decide (D.getD 7 0 = 2) = true then 1 else 0) = r0 at *
  have hr1 : (r0 * (1 - 2 * D.getD 3 0)).natAbs < 2 ^ 1000 := by
    have h3 : D.getD 3 0 = 0 ∨ D.getD 3 0 = 1 := by omega
    rcases h3 with h | h
    · rw [h]
      exact Nat.lt_of_le_of_lt (by omega) (Nat.lt_trans hr0 (Nat.pow_lt_pow_right (by decide) (by decide)))
    · rw [h]
      exact Nat.lt_of_le_of_lt (show _ ≤ r0.natAbs by omega) (Nat.lt_trans hr0 (Nat.pow_lt_pow_right (by decide) (by decide)))
  refine q_asg (v := .int (r0 * (1 - 2 * D.getD 3 0))) (ev_op (ev_var rfl) (ev_op ev_c (ev_op ev_c (dE (i := 3) e4 rfl (by decide)) (rv_I (.inl ⟨by omega, by omega⟩))) rv_I0) (rv_I (.inl ⟨by omega, by omega⟩))) fun H5 e5 => ?_
  generalize r0 * (1 - 2 * D.getD 3 0) = r1 at *
  have e35 := e4.trans e5
  clear hr0 e4 e5 e6
  -- if draws[0] == 0
  refine q_cut (M := fun σ' H' => ∃ r : Int, σ' = lawS (.ref a) u pv (.ref dp) (some (.int r)) none none none none none none none none ∧ Ex H3 H' ∧ r.natAbs < 2 ^ 1000) (s_when (b := decide (D.getD 0 0 = 0)) (et_is (et_test (ev_op (dE (i := 0) e35 rfl (by decide)) ev_c (rv_eq rfl))) (by simp)) (fun hc H6 e6 => ?_) (fun hc H6 e6 => ⟨r1, rfl, e35.trans e6, hr1⟩)) ?_
  · obtain ⟨i, hi⟩ : ∃ i : Nat, D.getD 1 0 = (i : Int) := ⟨(D.getD 1 0).toNat, by omega⟩
    obtain ⟨n, hn⟩ : ∃ n : Nat, (1 : Int) + D.getD 2 0 = (n : Int) := ⟨(1 + D.getD 2 0).toNat, by omega⟩
    have hpr : primes.getD i 0 ∈ primes := by rw [getD_at (show i < primes.length from show i < 46 by omega)]; exact List.getElem_mem _
    have hg := primes_ge _ hpr
    refine s_asgD (r_lifted (K := K) (n := n) (pE (e35.trans e6) rfl) (prE (ev_is (dE (i := 1) (e35.trans e6) rfl (by decide)) (congrArg V.int hi)) (by omega)) (ev_is (ev_op ev_c (dE (i := 2) (e35.trans e6) rfl (by decide)) rv_I0) (congrArg V.int hn)) (by omega) gs1 hg.1 (by omega) (by omega) (primes_small hpr (by omega))) fun x H7 e7 ⟨d, ⟨r, ed, hr⟩, px⟩ => ?_
    rw [ed] at px
    rw [dp_int px]
    exact ⟨r, rfl, (e35.trans e6).trans e7, hr⟩
  rintro σ' H6 ⟨r2, rfl, e36, hr2⟩
  clear hr1 r1 e35
  -- if draws[0] == 1
  refine q_cut (M := fun σ' H' => ∃ r : Int, σ' = lawS (.ref a) u pv (.ref dp) (some (.int r)) none none none none none none none none ∧ Ex H3 H' ∧ r.natAbs < 2 ^ 1000) (s_when (b := decide (D.getD 0 0 = 1)) (et_is (et_test (ev_op (dE (i := 0) e36 rfl (by decide)) ev_c (rv_eq rfl))) (by simp)) (fun hc H7 e7 => ?_) (fun hc H7 e7 => ⟨r2, rfl, e36.trans e7, hr2⟩)) ?_
  · obtain ⟨i, hi⟩ : ∃ i : Nat, D.getD 1 0 % 5 = (i : Int) := ⟨(D.getD 1 0 % 5).toNat, by omega⟩
    obtain ⟨n, hn⟩ : ∃ n : Nat, (1 : Int) + D.getD 2 0 = (n : Int) := ⟨(1 + D.getD 2 0).toNat, by omega⟩
    have hpr : primes.getD i 0 ∈ primes := by rw [getD_at (show i < primes.length from show i < 46 by omega)]; exact List.getElem_mem _
    have hg := primes_ge _ hpr
    refine s_asgD (r_lifted (K := K) (n := n) (pE (e36.trans e7) rfl) (prE (ev_is (ev_op (dE (i := 1) (e36.trans e7) rfl (by decide)) ev_c (rv_I (by decide))) (congrArg V.int hi)) (by omega)) (ev_is (ev_op ev_c (dE (i := 2) (e36.trans e7) rfl (by decide)) rv_I0) (congrArg V.int hn)) (by omega) gs1 hg.1 (by omega) (by omega) (primes_small hpr (by omega))) fun x H8 e8 ⟨d, ⟨r, ed, hr⟩, px⟩ => ?_
    rw [ed] at px
    rw [dp_int px]
    exact ⟨r, rfl, (e36.trans e7).trans e8, hr⟩
  rintro σ' H7 ⟨r3, rfl, e37, hr3⟩
  clear hr2 r2 e36 H6
  -- if draws[8] == 0
  refine q_cut (M := fun σ' H' => ∃ (r : Int) (y : Option V), σ' = lawS (.ref a) u pv (.ref dp) (some (.int r)) y none none none none none none none ∧ Ex H3 H' ∧ r.natAbs < 2 ^ 1000) (s_when (b := decide (D.getD 8 0 = 0)) (et_is (et_test (ev_op (dE (i := 8) e37 rfl (by decide)) ev_c (rv_eq rfl))) (by simp)) (fun hc H8 e8 => ?_) (fun hc H8 e8 => ⟨r3, none, rfl, e37.trans e8, hr3⟩)) ?_
  · have e38 := e37.trans e8
    obtain ⟨i, hi⟩ : ∃ i : Nat, D.getD 1 0 % 2 = (i : Int) := ⟨(D.getD 1 0 % 2).toNat, by omega⟩
    have hi2 : i < 2 := by omega
    have hm2 : ∀ {H' : Hp} {σ : L2.St}, Ex H3 H' → σ[3]? = some (some (.ref dp)) → Ev (tOp oMod (tOp (rIxL K) (tVar 3) (tC (.int 1))) (tC (.int 2))) σ H' (.int (i : Int)) := fun e h => ev_is (ev_op (dE (i := 1) e h (by decide)) ev_c (rv_I (by decide))) (congrArg V.int hi)
    have hdeep : ([.int 200, .int 100] : List PyData)[i]? = some (.int (if i = 0 then 200 else 100)) := by
      match i, hi2 with
      | 0, _ => rfl
      | 1, _ => rfl
    refine q_asg (ev_int (d_ixL (K := K) (d_ofN (n_lst (ds := [.int 200, .int 100]) (a_cons (d_int ev_c) (a_cons (d_int ev_c) a_nil)) (len2 _ _))) (hm2 e38 rfl) (atI_nat hdeep))) fun H9 e9 => ?_
    obtain ⟨n, hn⟩ : ∃ n : Nat, (if i = 0 then 200 else 100 : Int) + D.getD 4 0 % ((if i = 0 then 200 else 100 : Int) / 2) = (n : Int) := ⟨((if i = 0 then 200 else 100 : Int) + D.getD 4 0 % ((if i = 0 then 200 else 100 : Int) / 2)).toNat, by split <;> omega⟩
    have hn3 : n ≤ 299 := by
      have : (if i = 0 then 200 else 100 : Int) + D.getD 4 0 % ((if i = 0 then 200 else 100 : Int) / 2) ≤ 299 := by split <;> omega
      omega
    have hd0 : (0 : Int) < (if i = 0 then 200 else 100 : Int) / 2 := by split <;> decide
    refine s_asgD (r_lifted (K := K) (p := 2 + (i : Int)) (n := n) (pE (e38.trans e9) rfl) (ev_op ev_c (hm2 (e38.trans e9) rfl) rv_I0) (ev_is (ev_op (ev_var rfl) (ev_op (dE (i := 4) (e38.trans e9) rfl (by decide)) (ev_op (ev_var rfl) ev_c (rv_I ⟨by decide, by decide⟩)) (rv_I hd0)) rv_I0) (congrArg V.int hn)) (by omega) gs1 (by omega) (by omega) (by omega) (pow_small (b := 4) (e := 301) (by omega) (by omega) (by omega) (by decide))) fun x H10 e10 ⟨d, ⟨r, ed, hr⟩, px⟩ => ?_
    rw [ed] at px
    rw [dp_int px]
    exact ⟨r, _, rfl, (e38.trans e9).trans e10, hr⟩
  rintro σ' H8 ⟨r, y5, rfl, e38, hrr⟩
  clear hr3 r3 e37 H7 prE
  -- full
  have hval := PL.root f r hr
  have hsm := val_smallB hrr gs1
  have hfull2 : (M.val f r).natAbs < 2 ^ 5055 := Nat.lt_of_lt_of_le hsm (Nat.pow_le_pow_right (by decide) (by omega))
  refine q_asg (ev_abs (ev_int (d_call (dom := dmValue) (a_cons (pE e38 rfl) (a_cons (d_int (ev_var rfl)) a_nil)) ⟨f, r, by omega, gs1, Nat.lt_trans hrr (Nat.pow_lt_pow_right (by decide) (by decide)), rfl, rfl⟩))) fun H9 e9 => ?_
  have hF1 : 1 ≤ ((M.val f r).natAbs : Int) := by omega
  have hFv : ((M.val f r).natAbs : Int) ∣ M.val f r := Int.natAbs_dvd.mpr (Int.dvd_refl _)
  have hF2 : ((M.val f r).natAbs : Int).natAbs < 2 ^ 5055 := hfull2
  generalize ((M.val f r).natAbs : Int) = F at *
  have hl1 := (parts_pos hF1 primes.length (Nat.le_refl _)).1
  have hl2 := parts_dvd hF1 primes.length (Nat.le_refl _)
  rw [List.take_length] at hl1 hl2
  have hl3 := Int.le_of_dvd (show 0 < F by omega) hl2
  have e39 := e38.trans e9
  refine q_asg (v := .int (F / (M.parts primes F).2)) (ev_op (ev_var rfl) (ev_int (d_ixL (K := K) (d_ofN (n_call (dom := dmLParts) (a_cons (d_int (ev_var rfl)) a_nil) ⟨F, hF1, rfl, rfl⟩)) ev_c (atI_nat (j := 1) rfl))) (rv_I ⟨by omega, log_lt (Nat.lt_of_le_of_lt (show _ ≤ F.natAbs by omega) (Nat.lt_trans hF2 (Nat.pow_lt_pow_right (by decide) (by decide)))) (by decide)⟩)) fun H10 e10 => ?_
  have divs : ∀ {x g : Int}, 1 ≤ x → 1 ≤ g → g ∣ x → 1 ≤ x / g ∧ x / g ∣ x := fun {x g} h1 h2 h3 => by
    obtain ⟨k, rfl⟩ := h3
    rw [Int.mul_ediv_cancel_left _ (by omega)]
    refine ⟨?_, Int.dvd_mul_left _ _⟩
    rcases Int.lt_or_le k 1 with h | h
    · have : g * k ≤ 0 := Int.mul_nonpos_of_nonneg_of_nonpos (by omega) (by omega)
      omega
    · exact h
  obtain ⟨hm0, hm0d⟩ := divs hF1 hl1 hl2
  generalize F / (M.parts primes F).2 = m0 at *
  have e310 := e39.trans e10
  clear e39 e9 e10 e38 hl1 hl2 hl3 hval hsm
  -- if draws[7] == 0
  refine q_cut (M := fun σ' H' => ∃ m : Int, σ' = lawS (.ref a) u pv (.ref dp) (some (.int r)) y5 (some (.int F)) (some (.int m)) none none none none none ∧ Ex H3 H' ∧ 1 ≤ m ∧ m ∣ F) (s_when (b := decide (D.getD 7 0 = 0)) (et_is (et_test (ev_op (dE (i := 7) e310 rfl (by decide)) ev_c (rv_eq rfl))) (by simp)) (fun hc H11 e11 => ?_) (fun hc H11 e11 => ⟨m0, rfl, e310.trans e11, hm0, hm0d⟩)) ?_
  · refine (r_call (K := K) (E := E0) (dom := dmShared) (R := isShared m0 (1 + D.getD 6 0)) (ta := tCons (tVar 7) (tCons (tOp oAdd (tC (.int 1)) (tOp (rIxL K) (tVar 3) (tC (.int 6)))) tNil)) (σ := lawS (.ref a) u pv (.ref dp) (some (.int r)) y5 (some (.int F)) (some (.int m0)) none none none none none) (H := H11) (a_cons (d_int (ev_var rfl)) (a_cons (d_int (ev_op ev_c (dE (i := 6) (e310.trans e11) rfl (by decide)) rv_I0)) a_nil)) ⟨m0, 1 + D.getD 6 0, hm0, by omega, rfl, rfl⟩ : EvR K _ _ _ _) |> fun hs => ?_
    refine s_asgD (p_op (P := fun v _ => v = .int m0) (P'' := fun v _ => ∃ g : Int, v = .int (m0 / g) ∧ 1 ≤ g ∧ g ∣ m0) (p_ev (ev_var rfl) fun _ _ => rfl) hs fun x y H12 H13 _ hx _ hy => ?_) fun x H12 e12 ⟨g, ex, hg1, hg2⟩ => ?_
    · obtain ⟨d, ⟨g, rfl, hg1, hg2, hg3⟩, py⟩ := hy
      rw [hx, dp_int py]
      exact fun Q' q' => ⟨m0, g, rfl, rfl, ⟨by omega, by omega⟩, q' _ _ (Ex.refl _) ⟨g, rfl, hg1, hg2⟩⟩
    · subst ex
      obtain ⟨h1, h2⟩ := divs hm0 hg1 hg2
      exact ⟨m0 / g, rfl, (e310.trans e11).trans e12, h1, Int.dvd_trans h2 hm0d⟩
  rintro σ' H11 ⟨m1, rfl, e311, hm1, hm1d⟩
  clear hm0 hm0d m0 e310 divs
  -- if draws[0] == 3 and ..
  refine q_cut (M := fun σ' H' => ∃ m : Int, σ' = lawS (.ref a) u pv (.ref dp) (some (.int r)) y5 (some (.int F)) (some (.int m)) none none none none none ∧ Ex H3 H' ∧ 1 ≤ m ∧ m ∣ F) (s_when (b := decide (D.getD 0 0 = 3) && decide (D.getD 6 0 % 3 = 0)) (et_and (et_is (et_test (ev_op (dE (i := 0) e311 rfl (by decide)) ev_c (rv_eq rfl))) (by simp)) fun _ => et_is (et_test (ev_op (ev_op (dE (i := 6) e311 rfl (by decide)) ev_c (rv_I (by decide))) ev_c (rv_eq rfl))) (by simp)) (fun hc H12 e12 => s_asg (ev_var rfl) fun H13 e13 => ⟨F, rfl, (e311.trans e12).trans e13, hF1, Int.dvd_refl _⟩) (fun hc H12 e12 => ⟨m1, rfl, e311.trans e12, hm1, hm1d⟩)) ?_
  rintro σ' H12 ⟨m, rfl, e312, hm, hmd⟩
  have hmv : m ∣ M.val f r := Int.dvd_trans hmd hFv
  have hm2 : m.natAbs < 2 ^ 5055 := by
    have := Int.le_of_dvd (show 0 < F by omega) hmd
    omega
  clear hm1 hm1d m1 e311 H11
  -- rows, left
  have hleft := (parts_pos hm primes.length (Nat.le_refl _)).1
  have hin := parts_in (m := m) primes.length (Nat.le_refl _)
  have hlen := (parts_pos hm primes.length (Nat.le_refl _)).2
  rw [List.take_length] at hleft hin hlen
  have hdue : dueD f r m = if 1 < (M.parts primes m).2 then .list [.str "far", .none] else .list [.str "told", .list ((M.parts primes m).1.map (dueOf f r))] := rfl
  have pa := fun {σ : L2.St} {H : Hp} {ta : TA} {te : TE} {u : V} => p_asked (K := K) (σ := σ) (H := H) (ta := ta) (te := te) (u := u) (f := f) (r := r) (m := m) PL
  refine q_asgP (d_ofN (n_call (K := K) (dom := dmLParts) (ds := [.list ((M.parts primes m).1.map dPK), .int (M.parts primes m).2]) (a_cons (d_int (ev_var rfl)) a_nil) ⟨m, hm, rfl, rfl⟩)) fun x H13 e13 px => ?_
  refine g_lst2 (K := K) px fun u1 u2 p1 p2 => ?_
  rw [dp_int p2]
  obtain ⟨ra, rxs, rfl, hra, hrx⟩ := dp_lst p1
  have e313 := e312.trans e13
  have hr2 : r.natAbs < 2 ^ 2000 := Nat.lt_trans hrr (Nat.pow_lt_pow_right (by decide) (by decide))
  have knE : ∀ {H' : Hp} {σ : L2.St} {te : TE} {x : Int}, Ex H3 H' → σ[1]? = some (some u) → σ[4]? = some (some (.int r)) → Ev te σ H' (.int x) → 1 ≤ x → x.natAbs < 2 ^ 30000 → EvD K (tCall (sp_L_known K) [] E0 (tCons (tFld K (tVar 1) "degree") (tCons te (tCons (tVar 4) tNil)))) σ H' (dT (knownT (f.length - 1) x r)) := fun e h1 h4 hx x1 x2 =>
    d_call (dom := dmKnown) (a_cons (d_int (ev_is (ev_degree T (ev_var h1) (hR3.mono e)) (show _ = V.int ((f.length - 1 : Nat) : Int) from congrArg V.int (by omega)))) (a_cons (d_int hx) (a_cons (d_int (ev_var h4)) a_nil))) ⟨f.length - 1, _, r, by omega, by omega, x1, x2, hr2, rfl, rfl⟩
  -- due
  have hlc : EvN K (tLc (iList K (tVar 8)) (gTup K 2 (gCons (gName 13) (gCons (gName 14) gNil))) tYes (tTup (tCons (tCall (sp_L_known K) [] E0 (tCons (tFld K (tVar 1) "degree") (tCons (tVar 13) (tCons (tVar 4) tNil)))) (tCons (tVar 14) tNil))) [13, 14]) (lawS (.ref a) u pv (.ref dp) (some (.int r)) y5 (some (.int F)) (some (.int m)) (some (.ref ra)) (some (.int (M.parts primes m).2)) none none none) H13 ((M.parts primes m).1.map (dueOf f r)) := by
    have key := n_lcL2 (K := K) (tl := tVar 8) (te := tTup (tCons (tCall (sp_L_known K) [] E0 (tCons (tFld K (tVar 1) "degree") (tCons (tVar 13) (tCons (tVar 4) tNil)))) (tCons (tVar 14) tNil))) (i := 13) (j := 14) (vs := [13, 14]) (σ := lawS (.ref a) u pv (.ref dp) (some (.int r)) y5 (some (.int F)) (some (.int m)) (some (.ref ra)) (some (.int (M.parts primes m).2)) none none none) (H := H13) (a := ra) (xs := rxs) (xds := (M.parts primes m).1.map dPK)
      (fun i => ((M.parts primes m).1.take i).map (dueOf f r)) (ev_var rfl) hra hrx rfl (fun i hi => ⟨by
        have h46 : primes.length = 46 := rfl
        rw [List.length_map, List.length_take]; omega, tOs_all fun d hd => by
          obtain ⟨c, _, rfl⟩ := List.mem_map.mp hd
          simp [dueOf, tO, tOs, tO_T]⟩) (fun x y => rfl) (fun k dx H14 e14 hdx => by
        rw [List.getElem?_map] at hdx
        cases er : (M.parts primes m).1[k]? with
        | none => rw [er] at hdx; cases hdx
        | some pk =>
          rw [er] at hdx
          cases hdx
          have hpk := primes_ge _ (hin pk (List.mem_of_getElem? er))
          refine ⟨.int pk.1, .int (pk.2 : Int), rfl, fun x y hx hy => ⟨dueOf f r pk, by simp [dueOf, tO, tOs, tO_T], ?_, ?_⟩⟩
          · rw [dp_int hx, dp_int hy]
            have h2k : (1000 : Nat) < 2 ^ 30000 := Nat.lt_of_lt_of_le (show 1000 < 2 ^ 10 by decide) (Nat.pow_le_pow_right (by decide) (by decide))
            exact d_tup (K := K) (a_cons (knE (e313.trans e14) rfl rfl (ev_var rfl) (by omega) (Nat.lt_of_le_of_lt (show _ ≤ 1000 by omega) h2k)) (a_cons (d_int (ev_var rfl)) a_nil)) (len2 _ _)
          · rw [List.take_add_one, er, List.map_append]
            rfl)
    rw [List.length_map, List.take_length] at key
    exact key
  refine q_asgD (d_ofN (n_lst (K := K) (ds := [.str "told", .list ((M.parts primes m).1.map (dueOf f r))]) (a_cons (d_ev ev_c (.str _)) (a_cons (d_ofN hlc) a_nil)) (len2 _ _))) fun du H14 e14 pdu => ?_
  have e314 := e313.trans e14
  clear hlc hrx hra px p1 p2 hin hlen e13 e14
  refine q_cut (M := fun σ' H' => ∃ du : V, σ' = lawS (.ref a) u pv (.ref dp) (some (.int r)) y5 (some (.int F)) (some (.int m)) (some (.ref ra)) (some (.int (M.parts primes m).2)) (some du) none none ∧ Ex H3 H' ∧ Dp K H' du (dueD f r m)) (s_when (b := decide (1 < (M.parts primes m).2)) (et_is (et_test (ev_op (ev_var rfl) ev_c rv_I0)) (by simp)) (fun hc H15 e15 => ?_) (fun hc H15 e15 => ?_)) ?_
  · have hc := of_decide_eq_true hc
    rw [if_pos hc] at hdue
    refine s_asgD (d_ofN (n_lst (K := K) (ds := [.str "far", .none]) (a_cons (d_ev ev_c (.str _)) (a_cons (d_ev ev_c .non) a_nil)) (len2 _ _))) fun du2 H16 e16 pdu2 => ⟨du2, rfl, (e314.trans e15).trans e16, by rw [hdue]; exact pdu2⟩
  · have hc := of_decide_eq_false hc
    rw [if_neg hc] at hdue
    exact ⟨du, rfl, e314.trans e15, by rw [hdue]; exact dp_ex e15 pdu⟩
  rintro σ' H15 ⟨du2, rfl, e315, pdu2⟩
  clear pdu e314 hdue
  -- table
  refine q_asgD (knE e315 rfl rfl (ev_var rfl) hm (Nat.lt_trans hm2 (Nat.pow_lt_pow_right (by decide) (by decide)))) fun tv H16 e16 ptv => ?_
  have e316 := e315.trans e16
  have pdu6 := dp_ex e16 pdu2
  have hR6 := hR3.mono e316
  clear pdu2 e315 e16 knE
  -- first
  refine q_asgD (pa (ev_var rfl) hR6 hr hm hmv (a_cons (d_var rfl ptv) a_nil)) fun fv H17 e17 hfv => ?_
  have hdp := hfv.dp
  have pdu7 := dp_ex e17 pdu6
  have eqT : PyData.eqv (dueD f r m) (dueD f r m) = true := PySem.SeqAt.eqv_refl _ (okD_due f r m).1
  refine q_when (b := false) (et_is (et_test (ev_neD (n := 5) (m := 5) (d_var rfl hdp) (d_var rfl pdu7) (okD_due _ _ _) (okD_due _ _ _) (by decide) (by decide))) (by rw [eqT]; rfl)) (fun h => by cases h) (fun _ H18 e18 => ?_)
  refine q_cut (M := fun σ' H' => σ' = lawS (.ref a) u pv (.ref dp) (some (.int r)) y5 (some (.int F)) (some (.int m)) (some (.ref ra)) (some (.int (M.parts primes m).2)) (some du2) (some tv) (some fv) ∧ Ex H16 H') (s_when (b := decide ((M.parts primes m).2 = 1)) (et_is (et_test (ev_op (ev_var rfl) ev_c (rv_eq rfl))) (by simp)) (fun hc H19 e19 => ?_) (fun hc H19 e19 => ⟨rfl, (e17.trans e18).trans e19⟩)) ?_
  · have hc := of_decide_eq_true hc
    rcases hfv with ⟨hf, _⟩ | ⟨hf, p, l, zs, rfl, np, nl, hp, hl, hz⟩
    · omega
    · have hp19 := (e18.trans e19) _ _ hp
      have hl19 := (e18.trans e19) _ _ hl
      refine s_app (v := .int 0) hl19 (ev_op (ev_var rfl) ev_c (rv_ixL (sq_of hp19) (atI_nat (j := 1) rfl))) ev_c ?_ fun H20 e20 => ⟨rfl, Ex.mut (((e17.trans e18).trans e19).trans e20) nl⟩
      rw [dpAll_len hz, List.length_map]
      have h46 := (parts_pos hm primes.length (Nat.le_refl _)).2
      rw [List.take_length] at h46
      have h46' : primes.length = 46 := rfl
      omega
  · rintro σ' H19 ⟨rfl, e19⟩
    refine s_ret (v := .bl true) (ev_is (ev_eqD (n := 5) (m := 5) ((pa (ev_var rfl) (hR6.mono e19) hr hm hmv (a_cons (d_var rfl (dp_ex e19 ptv)) a_nil)).imp fun v H2 _ h => h.dp) (d_var rfl (dp_ex e19 pdu6)) (okD_due _ _ _) (okD_due _ _ _) (by decide) (by decide)) (by rw [eqT])) fun H20 e20 => q H20
theorem fn_law {fd : FuncData} (F : FunD K "law" "law" (defArgs s_law) (defBody s_law) (defScope s_law) [] [] (He.ga K "law") fd) (T : Tx K mg) (PL : Plain) : FnOk P w K mg base CX0 10 (He.ga K "law") fd ["_law_script"] (sp_law K) := by
  have O_L_ring := ok_L_ring (P := P) (w := w) (base := base) T
  have O_L_draws := ok_L_draws (P := P) (w := w) (base := base) T
  have O_L_cell := ok_L_cell (P := P) (w := w) (base := base) T
  have O_L_lifted := ok_L_lifted (P := P) (w := w) (base := base) T
  have O_L_primes := ok_L_primes (P := P) (w := w) (base := base) T
  have O_L_value := ok_L_value (P := P) (w := w) (base := base) T
  have O_L_parts := ok_L_parts (P := P) (w := w) (base := base) T
  have O_L_shared := ok_L_shared (P := P) (w := w) (base := base) T
  have O_L_known := ok_L_known (P := P) (w := w) (base := base) T
  have O_L_asked := ok_L_asked (P := P) (w := w) (base := base) T
  refine F.ok sc_law (fun vs H Q E ⟨a, ns, h, _⟩ => by rw [h]; rfl) (fun cdv A outer s H vs Q E hr ⟨a, ns, hvs, ha, q⟩ => ⟨rd_law K, PSs.nox ((pss_cons (ps_set (i := 1) sc_law.nd rfl (Or.inr rfl) (pe_fn O_L_ring (hr.mono (by decide)) (pa_cons (pv 0) (pa_cons pe_int (pa_cons pe_int pa_nil)))))
  (pss_cons (ps_set (i := 2) sc_law.nd rfl (Or.inl rfl) (pe_fld (pv 1) rfl))
  (pss_cons (ps_set (i := 3) sc_law.nd rfl (Or.inl rfl) (pe_fn O_L_draws (hr.mono (by decide)) (pa_cons (pe_fn O_L_cell (hr.mono (by decide)) (pa_cons (pv 0) (pa_cons pe_int pa_nil))) (pa_cons (pe_lst (pa_cons pe_int (pa_cons pe_int (pa_cons pe_int (pa_cons pe_int (pa_cons (pe_op op_pow pe_int pe_int) (pa_cons (pe_op op_pow pe_int pe_int) (pa_cons (pe_op op_pow pe_int pe_int) (pa_cons pe_int (pa_cons pe_int pa_nil)))))))))) (pa_cons pe_int pa_nil)))))
  (pss_cons (ps_set (i := 4) sc_law.nd rfl (Or.inr rfl) (pe_op op_add (pe_ix ix_list (pv 3) pe_int (fun _ _ => rfl)) (pe_op op_mul (pe_op op_mul (pe_op op_pow pe_int pe_int) (pe_ix ix_list (pv 3) pe_int (fun _ _ => rfl))) (pe_intc T.b_int (pe_cmpR op_eq (pe_ix ix_list (pv 3) pe_int (fun _ _ => rfl)) pe_int (nomark _))))))
  (pss_cons (ps_set (i := 4) sc_law.nd rfl (Or.inr rfl) (pe_op op_mul (pv 4) (pe_op op_sub pe_int (pe_op op_mul pe_int (pe_ix ix_list (pv 3) pe_int (fun _ _ => rfl))))))
  (pss_cut (ps_if (pt_cmpR op_eq (pe_ix ix_list (pv 3) pe_int (fun _ _ => rfl)) pe_int (nomark _)) (pss_one (ps_set (i := 4) sc_law.nd rfl (Or.inr rfl) (pe_fn O_L_lifted (hr.mono (by decide)) (pa_cons (pv 2) (pa_cons (pe_ix ix_list (pe_fn0 O_L_primes (hr.mono (by decide))) (pe_ix ix_list (pv 3) pe_int (fun _ _ => rfl)) (fun _ _ => rfl)) (pa_cons (pe_op op_add pe_int (pe_ix ix_list (pv 3) pe_int (fun _ _ => rfl))) pa_nil)))))) pss_nil)
  (pss_cut (ps_if (pt_cmpR op_eq (pe_ix ix_list (pv 3) pe_int (fun _ _ => rfl)) pe_int (nomark _)) (pss_one (ps_set (i := 4) sc_law.nd rfl (Or.inr rfl) (pe_fn O_L_lifted (hr.mono (by decide)) (pa_cons (pv 2) (pa_cons (pe_ix ix_list (pe_fn0 O_L_primes (hr.mono (by decide))) (pe_op op_mod (pe_ix ix_list (pv 3) pe_int (fun _ _ => rfl)) pe_int) (fun _ _ => rfl)) (pa_cons (pe_op op_add pe_int (pe_ix ix_list (pv 3) pe_int (fun _ _ => rfl))) pa_nil)))))) pss_nil)
  (pss_cut (ps_if (pt_cmpR op_eq (pe_ix ix_list (pv 3) pe_int (fun _ _ => rfl)) pe_int (nomark _)) (pss_cons (ps_set (i := 5) sc_law.nd rfl (Or.inl rfl) (pe_ix ix_list (pe_lst (pa_cons pe_int (pa_cons pe_int pa_nil))) (pe_op op_mod (pe_ix ix_list (pv 3) pe_int (fun _ _ => rfl)) pe_int) (fun _ _ => rfl)))
  (pss_one (ps_set (i := 4) sc_law.nd rfl (Or.inr rfl) (pe_fn O_L_lifted (hr.mono (by decide)) (pa_cons (pv 2) (pa_cons (pe_op op_add pe_int (pe_op op_mod (pe_ix ix_list (pv 3) pe_int (fun _ _ => rfl)) pe_int)) (pa_cons (pe_op op_add (pv 5) (pe_op op_mod (pe_ix ix_list (pv 3) pe_int (fun _ _ => rfl)) (pe_op op_fdiv (pv 5) pe_int))) pa_nil))))))) pss_nil)
  (pss_cons (ps_set (i := 6) sc_law.nd rfl (Or.inl rfl) (pe_absc T.b_abs (pe_fn O_L_value (hr.mono (by decide)) (pa_cons (pv 2) (pa_cons (pv 4) pa_nil)))))
  (pss_cons (ps_set (i := 7) sc_law.nd rfl (Or.inl rfl) (pe_op op_fdivW (pv 6) (pe_ix ix_list (pe_fn O_L_parts (hr.mono (by decide)) (pa_cons (pv 6) pa_nil)) pe_int (fun _ _ => rfl))))
  (pss_cut (ps_if (pt_cmpR op_eq (pe_ix ix_list (pv 3) pe_int (fun _ _ => rfl)) pe_int (nomark _)) (pss_one (ps_set (i := 7) sc_law.nd rfl (Or.inl rfl) (pe_op op_fdiv (pv 7) (pe_fn O_L_shared (hr.mono (by decide)) (pa_cons (pv 7) (pa_cons (pe_op op_add pe_int (pe_ix ix_list (pv 3) pe_int (fun _ _ => rfl))) pa_nil)))))) pss_nil)
  (pss_cut (ps_if (PW.pt (pw_and (pt_cmpR op_eq (pe_ix ix_list (pv 3) pe_int (fun _ _ => rfl)) pe_int (nomark _)) (pw_and1 (pt_cmpR op_eq (pe_op op_mod (pe_ix ix_list (pv 3) pe_int (fun _ _ => rfl)) pe_int) pe_int (nomark _))))) (pss_one (ps_set (i := 7) sc_law.nd rfl (Or.inl rfl) (pv 6))) pss_nil)
  (pss_cons (ps_asg (pe_fn O_L_parts (hr.mono (by decide)) (pa_cons (pv 7) pa_nil)) (pg_lst rfl (pgs_cons (pg_name (i := 8) sc_law.nd rfl (Or.inl rfl)) (pgs_cons (pg_name (i := 9) sc_law.nd rfl (Or.inl rfl)) pgs_nil))))
  (pss_cons (ps_set (i := 10) sc_law.nd rfl (Or.inl rfl) (pe_lst (pa_cons pe_str (pa_cons (pe_lc (own := [("_law_p", 13), ("_law_k", 14)]) (tt := tYes) rfl sc_law.nd (pi_list (pv 8)) (blkOk_by (own := [("_law_p", 13), ("_law_k", 14)]) (N := ["_law_script", "_law_ring_here", "_law_poly_here", "_law_draws_here", "_law_r", "_law_deep", "_law_full", "_law_m", "_law_rows", "_law_left", "_law_due", "_law_table", "_law_first", "_law_p", "_law_k"]) (sc := defScope s_law) (by decide +kernel)) (fun _ _ _ _ _ => (pg_tup rfl (pgs_cons (pg_name (i := 13) sc_law.nd rfl (Or.inl rfl)) (pgs_cons (pg_name (i := 14) sc_law.nd rfl (Or.inl rfl)) pgs_nil)))) (fun _ _ _ _ _ => pts_nil) (fun _ _ _ _ _ => (pe_tup (pa_cons (pe_fn O_L_known (hr.mono (by decide)) (pa_cons (pe_fld (pv 1) rfl) (pa_cons (pv 13) (pa_cons (pv 4) pa_nil)))) (pa_cons (pv 14) pa_nil))))) pa_nil))))
  (pss_cut (ps_if (pt_cmpR op_gt (pv 9) pe_int (nomark _)) (pss_one (ps_set (i := 10) sc_law.nd rfl (Or.inl rfl) (pe_lst (pa_cons pe_str (pa_cons pe_non pa_nil))))) pss_nil)
  (pss_cons (ps_set (i := 11) sc_law.nd rfl (Or.inl rfl) (pe_fn O_L_known (hr.mono (by decide)) (pa_cons (pe_fld (pv 1) rfl) (pa_cons (pv 7) (pa_cons (pv 4) pa_nil)))))
  (pss_cons (ps_set (i := 12) sc_law.nd rfl (Or.inl rfl) (pe_fn O_L_asked (hr.mono (by decide)) (pa_cons (pv 1) (pa_cons (pv 11) pa_nil))))
  (pss_cons (ps_if (pt_cmpR (op_neD hr.units) (pv 12) (pv 10) (nomark _)) (pss_one (ps_ret pe_bl)) pss_nil)
  (pss_cut (ps_if (pt_cmpR op_eq (pv 9) pe_int (nomark _)) (pss_one (ps_expr (pe_bm PySem.F.plainAttrs_list PySem.F.slot_list_append PySem.F.type_list_append mt_append (pe_ix ix_list (pv 12) pe_int (fun _ _ => rfl)) (pa_cons pe_int pa_nil)))) pss_nil)
  (pss_one (ps_ret (pe_cmpR (op_eqD hr.units) (pe_fn O_L_asked (hr.mono (by decide)) (pa_cons (pv 1) (pa_cons (pv 11) pa_nil))) (pv 10) (nomark _)))))))))))))))))))))))), ?_⟩)
  subst hvs
  exact pu_law T PL ha q
end
end K41
set_option Elab.async false
set_option linter.all false
set_option maxRecDepth 100000
set_option maxHeartbeats 4000000
namespace K41
/-! the measure, explicitly -/
theorem measure2 (a b : Int) : M.measure [a, b, 1] = b * b - 4 * a := by
  simp [M.measure, M.powTo, M.powStep, M.det, M.detN, List.range, List.range.loop]
  grind
theorem measure3 (a b c : Int) : M.measure [a, b, c, 1] = b * b * c * c - 4 * b * b * b - 4 * a * c * c * c + 18 * a * b * c - 27 * a * a := by
  simp [M.measure, M.powTo, M.powStep, M.det, M.detN, List.range, List.range.loop]
  grind
def disc4 (a b c d : Int) : Int := 256 * a * a * a - 192 * d * b * a * a - 128 * c * c * a * a + 144 * c * b * b * a - 27 * b * b * b * b + 144 * d * d * c * a * a - 6 * d * d * b * b * a - 80 * d * c * c * b * a + 18 * d * c * b * b * b + 16 * c * c * c * c * a - 4 * c * c * c * b * b - 27 * d * d * d * d * a * a + 18 * d * d * d * c * b * a - 4 * d * d * d * b * b * b - 4 * d * d * c * c * c * a + d * d * c * c * b * b
theorem measure4 (a b c d : Int) : M.measure [a, b, c, d, 1] = disc4 a b c d := by
  simp [M.measure, M.powTo, M.powStep, M.det, M.detN, List.range, List.range.loop]
  unfold disc4
  grind
theorem shift4 (a b c d s : Int) : disc4 (s * s * s * s + d * s * s * s + c * s * s + b * s + a) (4 * s * s * s + 3 * d * s * s + 2 * c * s + b) (6 * s * s + 3 * d * s + c) (4 * s + d) = disc4 a b c d := by
  unfold disc4
  grind
theorem disc4_dvd {p b0 b1 c d : Int} (h0 : p * p ∣ b0) (h1 : p ∣ b1) : p * p ∣ disc4 b0 b1 c d := by
  obtain ⟨u, rfl⟩ := h0
  obtain ⟨v, rfl⟩ := h1
  unfold disc4
  exact ⟨256 * u * (p * p * u) * (p * p * u) - 192 * d * (p * v) * (p * p * u) * u - 128 * c * c * (p * p * u) * u + 144 * c * (p * v) * (p * v) * u - 27 * v * v * (p * v) * (p * v) + 144 * d * d * c * (p * p * u) * u - 6 * d * d * (p * v) * (p * v) * u - 80 * d * c * c * (p * v) * u + 18 * d * c * v * v * (p * v) + 16 * c * c * c * c * u - 4 * c * c * c * v * v - 27 * d * d * d * d * (p * p * u) * u + 18 * d * d * d * c * (p * v) * u - 4 * d * d * d * v * v * (p * v) - 4 * d * d * c * c * c * u + d * d * c * c * v * v, by grind⟩
/-- a double root mod p, a root mod p * p: then p * p divides the measure -/
theorem measure_dvd4 {p a b c d s : Int} (h0 : p * p ∣ s * s * s * s + d * s * s * s + c * s * s + b * s + a) (h1 : p ∣ 4 * s * s * s + 3 * d * s * s + 2 * c * s + b) : p * p ∣ M.measure [a, b, c, d, 1] := by
  rw [measure4, ← shift4 a b c d s]
  exact disc4_dvd h0 h1
theorem measure_dvd3 {p a b c s : Int} (h0 : p * p ∣ s * s * s + c * s * s + b * s + a) (h1 : p ∣ 3 * s * s + 2 * c * s + b) : p * p ∣ M.measure [a, b, c, 1] := by
  rw [measure3]
  obtain ⟨u, hu⟩ := h0
  obtain ⟨v, hv⟩ := h1
  have e : b * b * c * c - 4 * b * b * b - 4 * a * c * c * c + 18 * a * b * c - 27 * a * a = (3 * s * s + 2 * c * s + b) * (3 * s * s + 2 * c * s + b) * ((3 * s + c) * (3 * s + c)) - 4 * (3 * s * s + 2 * c * s + b) * (3 * s * s + 2 * c * s + b) * (3 * s * s + 2 * c * s + b) - 4 * (s * s * s + c * s * s + b * s + a) * (3 * s + c) * (3 * s + c) * (3 * s + c) + 18 * (s * s * s + c * s * s + b * s + a) * (3 * s * s + 2 * c * s + b) * (3 * s + c) - 27 * (s * s * s + c * s * s + b * s + a) * (s * s * s + c * s * s + b * s + a) := by grind
  rw [e, hu, hv]
  exact ⟨v * v * ((3 * s + c) * (3 * s + c)) - 4 * v * v * (p * v) - 4 * u * (3 * s + c) * (3 * s + c) * (3 * s + c) + 18 * u * (p * v) * (3 * s + c) - 27 * u * (p * p * u), by grind⟩
theorem measure_dvd2 {p a b s : Int} (h0 : p * p ∣ s * s + b * s + a) (h1 : p ∣ 2 * s + b) : p * p ∣ M.measure [a, b, 1] := by
  rw [measure2]
  obtain ⟨u, hu⟩ := h0
  obtain ⟨v, hv⟩ := h1
  have e : b * b - 4 * a = (2 * s + b) * (2 * s + b) - 4 * (s * s + b * s + a) := by grind
  rw [e, hu, hv]
  exact ⟨v * v - 4 * u, by grind⟩
end K41
set_option Elab.async false
set_option linter.all false
set_option maxRecDepth 100000
set_option maxHeartbeats 4000000
namespace K41
/-! apart is complete -/
theorem firstUp_nil {α : Type} {f : Nat → Option α} : ∀ {n s : Nat}, M.firstUp f s n = none → ∀ i, s ≤ i → i < s + n → f i = none
  | 0, _, _, i, h1, h2 => by omega
  | n + 1, s, h, i, h1, h2 => by
    cases e : f s with
    | some x =>
      rw [firstUp_some e] at h
      cases h
    | none =>
      rw [firstUp_none e] at h
      rcases Nat.eq_or_lt_of_le h1 with h3 | h3
      · rw [← h3]; exact e
      · exact firstUp_nil h i h3 (by omega)
theorem val_cons (c : Int) (f : List Int) (x : Int) : M.val (c :: f) x = c + x * M.val f x := rfl
theorem no_root {f : List Int} (h : wholeRoot f = none) (r : Int) : M.val f r ≠ 0 := by
  intro hv
  unfold wholeRoot at h
  split at h
  · cases h
  · rename_i h0
    cases f with
    | nil => exact h0 rfl
    | cons c f =>
      have hd : r ∣ c := ⟨-M.val f r, by rw [val_cons] at hv; grind⟩
      have hn := Int.natAbs_dvd_natAbs.mpr hd
      have hc : (c :: f).getD 0 0 = c := rfl
      rw [hc] at h h0
      have hle := Nat.le_of_dvd (by omega) hn
      have hr0 : r.natAbs ≠ 0 := fun e => by
        rw [e] at hn
        have := Nat.eq_zero_of_zero_dvd hn
        omega
      have ht := firstUp_nil h r.natAbs (by omega) (by omega)
      unfold wholeTry at ht
      rw [hc, if_pos (Nat.mod_eq_zero_of_dvd hn)] at ht
      split at ht
      · cases ht
      · split at ht
        · cases ht
        · rename_i h1 h2
          rcases Int.natAbs_eq r with e | e
          · rw [← e] at h1; exact h1 hv
          · rw [show -((r.natAbs : Nat) : Int) = r by omega] at h2; exact h2 hv
theorem isq_sq {m : Int} (x : Int) (h : m = x * x) : 0 ≤ m ∧ ((isq m.toNat : Int)) * (isq m.toNat : Int) = m := by
  have h0 : 0 ≤ m := by rw [h, ← Int.natAbs_mul_self]; omega
  refine ⟨h0, ?_⟩
  have e : m.toNat = x.natAbs * x.natAbs := by
    have h1 : m = ((x.natAbs * x.natAbs : Nat) : Int) := by rw [h, Int.natAbs_mul_self]
    omega
  obtain ⟨i1, i2⟩ := isq_is m.toNat
  have e2 : isq m.toNat = x.natAbs := by
    rw [e] at i1 i2 ⊢
    have a1 : isq (x.natAbs * x.natAbs) ≤ x.natAbs := Nat.mul_self_le_mul_self_iff.mp i1
    have a2 : x.natAbs < isq (x.natAbs * x.natAbs) + 1 := Nat.mul_self_lt_mul_self_iff.mp i2
    omega
  rw [e2]
  have h1 : m = ((x.natAbs * x.natAbs : Nat) : Int) := by rw [h, Int.natAbs_mul_self]
  rw [h1]
  exact (Int.natCast_mul _ _).symm
theorem pairByB_yes {c0 c1 c2 c3 b a b' a' : Int} (h1 : c1 = a * b' + a' * b) (h2 : c2 = b + b' + a * a') (h3 : c3 = a + a') : pairByB [c0, c1, c2, c3, 1] b b' = true := by
  unfold pairByB
  show (if b ≠ b' then decide ((c1 - b * c3).fmod (b' - b) = 0) && decide ((c1 - b * c3).fdiv (b' - b) * (c3 - (c1 - b * c3).fdiv (b' - b)) = c2 - b - b')
    else decide (c1 = b * c3) && (decide (0 ≤ c3 * c3 - 4 * (c2 - b - b')) && decide ((isq (c3 * c3 - 4 * (c2 - b - b')).toNat : Int) * (isq (c3 * c3 - 4 * (c2 - b - b')).toNat : Int) = c3 * c3 - 4 * (c2 - b - b')))) = true
  split
  · rename_i hb
    have e : c1 - b * c3 = (b' - b) * a := by rw [h1, h3]; grind
    have e2 : ((b' - b) * a).fdiv (b' - b) = a := Int.mul_fdiv_cancel_left _ (by omega)
    have e3 : ((b' - b) * a).fmod (b' - b) = 0 := Int.mul_fmod_right _ _
    rw [e, e2, e3, decide_eq_true rfl, Bool.true_and, decide_eq_true_eq, h2, h3]
    grind
  · rename_i hb
    have hb : b = b' := Decidable.not_not.mp hb
    subst hb
    have e : c3 * c3 - 4 * (c2 - b - b) = (a - a') * (a - a') := by rw [h2, h3]; grind
    obtain ⟨i1, i2⟩ := isq_sq (a - a') e
    rw [decide_eq_true i1, decide_eq_true i2, decide_eq_true (show c1 = b * c3 by rw [h1, h3]; grind)]
    rfl
theorem no_quad {c0 c1 c2 c3 b a b' a' : Int} (h : apartB [c0, c1, c2, c3, 1] = false) (h0 : c0 = b * b') (h1 : c1 = a * b' + a' * b) (h2 : c2 = b + b' + a * a') (h3 : c3 = a + a') : False := by
  unfold apartB at h
  rw [Bool.or_eq_false_iff] at h
  obtain ⟨hr, hq⟩ := h
  have hw : wholeRoot [c0, c1, c2, c3, 1] = none := by
    cases e : wholeRoot [c0, c1, c2, c3, 1] with
    | none => rfl
    | some x => rw [e] at hr; cases hr
  have hc0 : c0 ≠ 0 := fun e => by
    have := no_root hw 0
    rw [val_cons, Int.zero_mul] at this
    exact this (by omega)
  rw [show decide ([c0, c1, c2, c3, 1].length = 5) = true from rfl, Bool.true_and] at hq
  have hall := List.any_eq_false.mp hq
  have hb0 : b ≠ 0 := fun e => by rw [e, Int.zero_mul] at h0; exact hc0 h0
  have hdv : b ∣ c0 := ⟨b', h0⟩
  have hn := Int.natAbs_dvd_natAbs.mpr hdv
  have hle := Nat.le_of_dvd (by omega) hn
  have hx := hall (b.natAbs - 1) (List.mem_range.mpr (by show _ < c0.natAbs; omega))
  rw [show 1 + (b.natAbs - 1) = b.natAbs by omega] at hx
  apply hx
  unfold bothB
  show (decide (c0.natAbs % b.natAbs = 0) && (pairByB [c0, c1, c2, c3, 1] (b.natAbs : Int) (c0 / (b.natAbs : Int)) || pairByB [c0, c1, c2, c3, 1] (-(b.natAbs : Int)) (-(c0 / (b.natAbs : Int))))) = true
  rw [decide_eq_true (Nat.mod_eq_zero_of_dvd hn), Bool.true_and]
  have key := pairByB_yes (c0 := c0) h1 h2 h3
  rcases Int.natAbs_eq b with e | e
  · rw [← e, h0, Int.mul_ediv_cancel_left _ hb0, ← h0, key]
    rfl
  · have e2 : (b.natAbs : Int) = -b := by omega
    rw [e2, Int.neg_neg, show c0 / -b = -b' by rw [h0, Int.ediv_neg, Int.mul_ediv_cancel_left _ hb0], Int.neg_neg, key, Bool.or_true]
end K41
set_option Elab.async false
set_option linter.all false
set_option maxRecDepth 100000
set_option maxHeartbeats 4000000
namespace K41
/-! primes, exponents -/
theorem primes_gcd : ∀ p ∈ primes, ∀ x < p.toNat, x = 0 ∨ Nat.gcd x p.toNat = 1 := by decide +kernel
def Pr (p : Int) : Prop := 2 ≤ p ∧ ∀ a b : Int, p ∣ a * b → p ∣ a ∨ p ∣ b
theorem prime_of {p : Int} (h : p ∈ primes) : Pr p := by
  obtain ⟨hp, _⟩ := primes_ge p h
  refine ⟨hp, fun a b hab => ?_⟩
  obtain ⟨q, rfl⟩ : ∃ q : Nat, p = (q : Int) := ⟨p.toNat, by omega⟩
  have hg := primes_gcd _ h
  rw [Int.toNat_natCast] at hg
  rcases hg (a.natAbs % q) (Nat.mod_lt _ (by omega)) with h0 | h1
  · exact .inl (Int.ofNat_dvd_left.mpr (Nat.dvd_of_mod_eq_zero h0))
  · right
    have hc : Nat.Coprime q a.natAbs := by
      show Nat.gcd q a.natAbs = 1
      rw [Nat.gcd_rec]
      exact h1
    have hd : q ∣ a.natAbs * b.natAbs := by
      rw [← Int.natAbs_mul]
      exact Int.ofNat_dvd_left.mp hab
    exact Int.ofNat_dvd_left.mpr (hc.dvd_of_dvd_mul_left hd)
theorem Pr.pow {p : Int} (h : Pr p) {a : Int} (ha : ¬ p ∣ a) : ∀ k : Nat, ¬ p ∣ a ^ k
  | 0 => fun hd => by
    rw [Int.pow_zero] at hd
    have := Int.le_of_dvd (by decide) hd
    have := h.1
    omega
  | k + 1 => fun hd => by
    rw [Int.pow_succ] at hd
    rcases h.2 _ _ hd with h1 | h1
    · exact h.pow ha k h1
    · exact ha h1
/-- what is coprime drops out -/
theorem Pr.drop {p a : Int} (h : Pr p) (ha : ¬ p ∣ a) : ∀ (k : Nat) (x : Int), p ^ k ∣ a * x → p ^ k ∣ x
  | 0, x, _ => ⟨x, by rw [Int.pow_zero, Int.one_mul]⟩
  | k + 1, x, hd => by
    have hp := h.1
    have h1 : p ∣ a * x := Int.dvd_trans ⟨p ^ k, by rw [Int.pow_succ, Int.mul_comm]⟩ hd
    rcases h.2 _ _ h1 with h2 | ⟨y, rfl⟩
    · exact absurd h2 ha
    · have h3 : p ^ k ∣ a * y := by
        obtain ⟨z, hz⟩ := hd
        refine ⟨z, Int.eq_of_mul_eq_mul_left (show p ≠ 0 by omega) ?_⟩
        rw [Int.pow_succ] at hz
        grind
      obtain ⟨z, rfl⟩ := h.drop ha k y h3
      exact ⟨z, by rw [Int.pow_succ]; grind⟩
/-- the exponent is one -/
theorem exp_one {p m : Int} {a b : Nat} (h1 : p ^ a ∣ m) (h2 : ¬ p ^ (a + 1) ∣ m) (h3 : p ^ b ∣ m) (h4 : ¬ p ^ (b + 1) ∣ m) : a = b := by
  have mono : ∀ {i j : Nat}, i ≤ j → p ^ i ∣ p ^ j := fun {i j} h => ⟨p ^ (j - i), by rw [← Int.pow_add]; congr 1; omega⟩
  rcases Nat.lt_trichotomy a b with h | h | h
  · exact absurd (Int.dvd_trans (mono h) h3) h2
  · exact h
  · exact absurd (Int.dvd_trans (mono h) h1) h4
theorem outN_is {p : Int} (hp : 2 ≤ p) : ∀ (n : Nat) (m : Int), 1 ≤ m → m.toNat ≤ n → m = p ^ (M.outN n p m).1 * (M.outN n p m).2 ∧ ¬ p ∣ (M.outN n p m).2
  | 0, m, h, h2 => by omega
  | n + 1, m, h, h2 => by
    show m = p ^ (if m % p = 0 then _ else _ : Nat × Int).1 * (if m % p = 0 then _ else _ : Nat × Int).2 ∧ ¬ p ∣ (if m % p = 0 then _ else _ : Nat × Int).2
    by_cases c : m % p = 0
    · rw [if_pos c]
      obtain ⟨d1, d2, d3⟩ := out_div hp h c
      obtain ⟨i1, i2⟩ := outN_is hp n (m / p) d1 (by omega)
      refine ⟨?_, i2⟩
      show m = p ^ ((M.outN n p (m / p)).1 + 1) * (M.outN n p (m / p)).2
      rw [Int.pow_succ, Int.mul_assoc, Int.mul_comm p, ← Int.mul_assoc, ← i1, Int.mul_comm]
      exact d3.symm
    · rw [if_neg c]
      exact ⟨by show m = p ^ 0 * m; rw [Int.pow_zero, Int.one_mul], fun hd => c (Int.emod_eq_zero_of_dvd hd)⟩
theorem out_is {p : Int} (hp : 2 ≤ p) {m : Int} (h : 1 ≤ m) : m = p ^ (M.out p m).1 * (M.out p m).2 ∧ ¬ p ∣ (M.out p m).2 := outN_is hp _ _ h (Nat.le_refl _)
theorem out_exp {p : Int} (hp : Pr p) {m : Int} (h : 1 ≤ m) : p ^ (M.out p m).1 ∣ m ∧ ¬ p ^ ((M.out p m).1 + 1) ∣ m := by
  obtain ⟨h1, h2⟩ := out_is hp.1 h
  have hp0 := hp.1
  refine ⟨⟨_, h1⟩, fun ⟨z, hz⟩ => h2 ⟨z, ?_⟩⟩
  have hpp : p ^ (M.out p m).1 ≠ 0 := Int.ne_of_gt (Int.pow_pos (by omega))
  refine Int.eq_of_mul_eq_mul_left hpp ?_
  rw [← h1, hz, Int.pow_succ]
  grind
theorem primes_sorted : ∀ i, i < 46 → ∀ j, j < i → primes.getD j 0 < primes.getD i 0 := by decide +kernel
theorem primes_apart {i j : Nat} (hi : i < 46) (hj : j < i) : ¬ primes.getD i 0 ∣ primes.getD j 0 := fun h => by
  have h1 := primes_sorted i hi j hj
  have h2 := (primes_ge (primes.getD j 0) (by rw [getD_at (show j < primes.length from show j < 46 by omega)]; exact List.getElem_mem _)).1
  have := Int.le_of_dvd (by omega) h
  omega
/-- what the parts say of m -/
theorem parts_is {m : Int} (h : 1 ≤ m) : ∀ i, i ≤ 46 → (∃ A : Int, m = A * (M.parts (primes.take i) m).2 ∧ ∀ j, i ≤ j → j < 46 → ¬ primes.getD j 0 ∣ A) ∧
    ∀ pk ∈ (M.parts (primes.take i) m).1, pk.1 ∈ primes ∧ 1 ≤ pk.2 ∧ pk.1 ^ pk.2 ∣ m ∧ ¬ pk.1 ^ (pk.2 + 1) ∣ m
  | 0, _ => ⟨⟨1, (Int.one_mul _).symm, fun j _ hj hd => by
    have h2 := (primes_ge (primes.getD j 0) (by rw [getD_at (show j < primes.length from hj)]; exact List.getElem_mem _)).1
    have := Int.le_of_dvd (by decide) hd
    omega⟩, fun pk hpk => by cases hpk⟩
  | i + 1, hi => by
    obtain ⟨⟨A, hA, hAp⟩, hl⟩ := parts_is h i (by omega)
    have hi46 : i < primes.length := show i < 46 by omega
    have hmem : primes.getD i 0 ∈ primes := by rw [getD_at hi46]; exact List.getElem_mem _
    have hpos := (parts_pos h i (by omega)).1
    have hpr := prime_of hmem
    rw [parts_take hi46]
    have hap := fun j (hj : i + 1 ≤ j) (hj2 : j < 46) => primes_apart hj2 (show i < j by omega)
    have hAi := hAp i (Nat.le_refl _) (by omega)
    generalize primes.getD i 0 = p at *
    generalize M.parts (primes.take i) m = S at *
    obtain ⟨o1, o2⟩ := out_is hpr.1 hpos
    refine ⟨⟨A * p ^ (M.out p S.2).1, ?_, fun j hj hj2 hd => ?_⟩, fun pk hpk => ?_⟩
    · show m = A * p ^ (M.out p S.2).1 * (M.out p S.2).2
      rw [Int.mul_assoc, ← o1, ← hA]
    · have hq := prime_of (show primes.getD j 0 ∈ primes by rw [getD_at (show j < primes.length from hj2)]; exact List.getElem_mem _)
      rcases hq.2 _ _ hd with h1 | h1
      · exact hAp j (by omega) hj2 h1
      · exact hq.pow (hap j hj hj2) _ h1
    · rcases List.mem_append.mp (show pk ∈ S.1 ++ (if (M.out p S.2).1 = 0 then [] else [(p, (M.out p S.2).1)]) from hpk) with h1 | h1
      · exact hl pk h1
      · split at h1
        · cases h1
        · rename_i ho
          simp at h1
          subst h1
          refine ⟨hmem, by show 1 ≤ (M.out p S.2).1; omega, ?_, ?_⟩
          · show p ^ (M.out p S.2).1 ∣ m
            rw [hA]
            exact Int.dvd_trans (out_exp hpr hpos).1 (Int.dvd_mul_left _ _)
          · show ¬ p ^ ((M.out p S.2).1 + 1) ∣ m
            rw [hA]
            exact fun hd => (out_exp hpr hpos).2 (hpr.drop hAi _ _ hd)
theorem parts_exp {m : Int} (h : 1 ≤ m) {pk : Int × Nat} (hpk : pk ∈ (M.parts primes m).1) : pk.1 ∈ primes ∧ 1 ≤ pk.2 ∧ pk.1 ^ pk.2 ∣ m ∧ ¬ pk.1 ^ (pk.2 + 1) ∣ m := by
  have := (parts_is h 46 (Nat.le_refl _)).2 pk
  rw [show primes.take 46 = primes from rfl] at this
  exact this hpk
end K41
set_option Elab.async false
set_option linter.all false
set_option maxRecDepth 100000
set_option maxHeartbeats 4000000
namespace K41
namespace N
/-! vectors, the multiplication by t modulo a monic f, polynomials in it -/
abbrev Ve := Nat → Int
def tt (n : Nat) (c : Ve) (x : Ve) : Ve := fun i => if i < n then (if i = 0 then 0 else x (i - 1)) - x (n - 1) * c i else 0
section
variable {n : Nat} {c : Ve}
theorem tt_add (x y : Ve) : tt n c (fun i => x i + y i) = fun i => tt n c x i + tt n c y i := by
  funext i
  unfold tt
  by_cases h : i < n <;> by_cases h0 : i = 0 <;> simp [h, h0] <;> grind
theorem tt_sub (x y : Ve) : tt n c (fun i => x i - y i) = fun i => tt n c x i - tt n c y i := by
  funext i
  unfold tt
  by_cases h : i < n <;> by_cases h0 : i = 0 <;> simp [h, h0] <;> grind
theorem tt_smul (k : Int) (x : Ve) : tt n c (fun i => k * x i) = fun i => k * tt n c x i := by
  funext i
  unfold tt
  by_cases h : i < n <;> by_cases h0 : i = 0 <;> simp [h, h0] <;> grind
theorem tt_zero : tt n c (fun _ => 0) = fun _ => 0 := by
  funext i
  unfold tt
  by_cases h : i < n <;> by_cases h0 : i = 0 <;> simp [h, h0]
end
def act (n : Nat) (c : Ve) : List Int → Ve → Ve
  | [], _ => fun _ => 0
  | a :: g, x => fun i => a * x i + tt n c (act n c g x) i
section
variable {n : Nat} {c : Ve}
theorem act_cons (a : Int) (g : List Int) (x : Ve) : act n c (a :: g) x = fun i => a * x i + tt n c (act n c g x) i := rfl
theorem act_add : ∀ (g : List Int) (x y : Ve), act n c g (fun i => x i + y i) = fun i => act n c g x i + act n c g y i
  | [], x, y => by funext i; rfl
  | a :: g, x, y => by
    rw [act_cons, act_add g x y, tt_add, act_cons, act_cons]
    funext i
    grind
theorem act_sub : ∀ (g : List Int) (x y : Ve), act n c g (fun i => x i - y i) = fun i => act n c g x i - act n c g y i
  | [], x, y => by funext i; rfl
  | a :: g, x, y => by
    rw [act_cons, act_sub g x y, tt_sub, act_cons, act_cons]
    funext i
    grind
theorem act_smul : ∀ (g : List Int) (k : Int) (x : Ve), act n c g (fun i => k * x i) = fun i => k * act n c g x i
  | [], k, x => by funext i; exact (Int.mul_zero k).symm
  | a :: g, k, x => by
    rw [act_cons, act_smul g k x, tt_smul, act_cons]
    funext i
    grind
theorem act_zero : ∀ (g : List Int), act n c g (fun _ => 0) = fun _ => 0
  | [] => rfl
  | a :: g => by
    rw [act_cons, act_zero g, tt_zero]
    funext i
    grind
theorem act_tt : ∀ (g : List Int) (x : Ve), act n c g (tt n c x) = tt n c (act n c g x)
  | [], x => by
    show (fun _ => (0 : Int)) = tt n c (fun _ => 0)
    rw [tt_zero]
  | a :: g, x => by
    rw [act_cons, act_tt g x, act_cons, tt_add, tt_smul]
theorem act_act : ∀ (g h : List Int) (x : Ve), act n c g (act n c h x) = act n c h (act n c g x)
  | [], h, x => by
    show (fun _ => (0 : Int)) = act n c h (fun _ => 0)
    rw [act_zero]
  | a :: g, h, x => by
    rw [act_cons, act_act g h x, act_cons, act_add, act_smul, act_tt]
/-- .. of t - a -/
def bb (n : Nat) (c : Ve) (a : Int) (x : Ve) : Ve := fun i => tt n c x i - a * x i
theorem act_bb (g : List Int) (a : Int) (x : Ve) : act n c g (bb n c a x) = bb n c a (act n c g x) := by
  unfold bb
  rw [act_sub, act_smul, act_tt]
theorem bb_smul (a k : Int) (x : Ve) : bb n c a (fun i => k * x i) = fun i => k * bb n c a x i := by
  unfold bb
  rw [tt_smul]
  funext i
  grind
theorem bb_add (a : Int) (x y : Ve) : bb n c a (fun i => x i + y i) = fun i => bb n c a x i + bb n c a y i := by
  unfold bb
  rw [tt_add]
  funext i
  grind
theorem bb_zero (a : Int) : bb n c a (fun _ => 0) = fun _ => 0 := by
  unfold bb
  rw [tt_zero]
  funext i
  grind
def Sup (n : Nat) (x : Ve) : Prop := ∀ i, n ≤ i → x i = 0
theorem sup_tt (x : Ve) : Sup n (tt n c x) := fun i h => by
  unfold tt
  rw [if_neg (by omega)]
theorem sup_act : ∀ (g : List Int) {x : Ve}, Sup n x → Sup n (act n c g x)
  | [], x, _ => fun i _ => rfl
  | a :: g, x, h => fun i hi => by
    show a * x i + tt n c _ i = 0
    rw [h i hi, sup_tt _ i hi]
    grind
/-- all places are divided -/
def Dv (p : Int) (x : Ve) : Prop := ∀ i, p ∣ x i
theorem Dv.tt {p : Int} {x : Ve} (h : Dv p x) : Dv p (N.tt n c x) := fun i => by
  unfold N.tt
  split
  · split
    · exact Int.dvd_sub (Int.dvd_zero _) (Int.dvd_trans (h _) (Int.dvd_mul_right _ _))
    · exact Int.dvd_sub (h _) (Int.dvd_trans (h _) (Int.dvd_mul_right _ _))
  · exact Int.dvd_zero _
theorem Dv.act {p : Int} : ∀ (g : List Int) {x : Ve}, Dv p x → Dv p (N.act n c g x)
  | [], x, _ => fun i => Int.dvd_zero _
  | a :: g, x, h => fun i => Int.dvd_add (Int.dvd_trans (h i) (Int.dvd_mul_left _ _)) ((Dv.act g h).tt i)
theorem act_congr {p : Int} : ∀ {g h : List Int}, g.length = h.length → (∀ i, p ∣ g.getD i 0 - h.getD i 0) → ∀ (x : Ve) (i : Nat), p ∣ act n c g x i - act n c h x i
  | [], [], _, _, x, i => ⟨0, by show (0 : Int) - 0 = _; omega⟩
  | a :: g, b :: h, hl, hd, x, i => by
    have ih := act_congr (g := g) (h := h) (by simpa using hl) (fun j => hd (j + 1)) x
    have h0 : p ∣ a - b := hd 0
    have h1 : Dv p (tt n c fun i => act n c g x i - act n c h x i) := Dv.tt (x := fun i => act n c g x i - act n c h x i) ih
    rw [tt_sub] at h1
    show p ∣ (a * x i + tt n c (act n c g x) i) - (b * x i + tt n c (act n c h x) i)
    obtain ⟨u, hu⟩ := h0
    obtain ⟨v, hv⟩ := h1 i
    exact ⟨u * x i + v, by grind⟩
/-! values -/
def vl : Nat → Ve → Int → Int
  | 0, _, _ => 0
  | k + 1, x, a => vl k x a + x k * a ^ k
theorem vl_add (k : Nat) (x y : Ve) (a : Int) : vl k (fun i => x i + y i) a = vl k x a + vl k y a := by
  induction k with
  | zero => rfl
  | succ k ih =>
    show vl k (fun i => x i + y i) a + (x k + y k) * a ^ k = _ + x k * a ^ k + (_ + y k * a ^ k)
    rw [ih]
    grind
theorem vl_smul (k : Nat) (u : Int) (x : Ve) (a : Int) : vl k (fun i => u * x i) a = u * vl k x a := by
  induction k with
  | zero => exact (Int.mul_zero u).symm
  | succ k ih =>
    show vl k (fun i => u * x i) a + (u * x k) * a ^ k = u * (_ + x k * a ^ k)
    rw [ih]
    grind
theorem vl_dvd {p : Int} {x : Ve} (h : Dv p x) (k : Nat) (a : Int) : p ∣ vl k x a := by
  induction k with
  | zero => exact Int.dvd_zero _
  | succ k ih => exact Int.dvd_add ih (Int.dvd_trans (h k) (Int.dvd_mul_right _ _))
theorem vl_tt0 (x : Ve) (a : Int) : ∀ k, 1 ≤ k → k ≤ n → vl k (tt n c x) a = a * vl (k - 1) x a - x (n - 1) * vl k c a
  | 0, h, _ => by omega
  | 1, _, h => by
    show 0 + tt n c x 0 * a ^ 0 = a * 0 - x (n - 1) * (0 + c 0 * a ^ 0)
    unfold tt
    rw [if_pos (by omega), if_pos rfl, Int.pow_zero]
    grind
  | k + 2, _, h => by
    have ih := vl_tt0 x a (k + 1) (by omega) (by omega)
    show vl (k + 1) (tt n c x) a + tt n c x (k + 1) * a ^ (k + 1) = a * (vl k x a + x k * a ^ k) - x (n - 1) * (vl (k + 1) c a + c (k + 1) * a ^ (k + 1))
    rw [ih, show k + 1 - 1 = k from rfl]
    have e : tt n c x (k + 1) = x k - x (n - 1) * c (k + 1) := by
      unfold tt
      rw [if_pos (by omega), if_neg (by omega)]
      rfl
    rw [e, Int.pow_succ]
    grind
/-- f at a, f monic of degree n with the places c -/
def fa (n : Nat) (c : Ve) (a : Int) : Int := vl n c a + a ^ n
theorem vl_tt (hn : 1 ≤ n) (x : Ve) (a : Int) : vl n (tt n c x) a = a * vl n x a - x (n - 1) * fa n c a := by
  rw [vl_tt0 x a n hn (Nat.le_refl _)]
  obtain ⟨m, rfl⟩ : ∃ m, n = m + 1 := ⟨n - 1, by omega⟩
  unfold fa
  rw [show m + 1 - 1 = m from rfl]
  show a * vl m x a - x m * vl (m + 1) c a = a * (vl m x a + x m * a ^ m) - x m * (vl (m + 1) c a + a ^ (m + 1))
  rw [Int.pow_succ]
  grind
theorem vl_bb (hn : 1 ≤ n) (x : Ve) (a : Int) : vl n (bb n c a x) a = -(x (n - 1) * fa n c a) := by
  have h1 := vl_add n (tt n c x) (fun i => -a * x i) a
  rw [vl_smul, vl_tt hn] at h1
  have e : bb n c a x = fun i => tt n c x i + -a * x i := by
    unfold bb
    funext i
    grind
  rw [e, h1]
  grind
theorem vl_act (hn : 1 ≤ n) (x : Ve) (a : Int) : ∀ g : List Int, ∃ z, vl n (act n c g x) a = M.val g a * vl n x a + fa n c a * z
  | [] => ⟨0, by
    show vl n (fun _ => 0) a = 0 * _ + _
    have := vl_smul n 0 (fun _ => 0) a
    grind⟩
  | b :: g => by
    obtain ⟨z, hz⟩ := vl_act hn x a g
    rw [act_cons, vl_add, vl_smul, vl_tt hn, hz]
    exact ⟨a * z - act n c g x (n - 1), by
      show _ = (b + a * M.val g a) * _ + _
      grind⟩
/-! synthetic division -/
def syn (a : Int) : List Int → List Int
  | [] => []
  | [_] => []
  | _ :: d :: g => M.val (d :: g) a :: syn a (d :: g)
theorem syn_len (a : Int) : ∀ g : List Int, (syn a g).length = g.length - 1
  | [] => rfl
  | [_] => rfl
  | _ :: d :: g => by
    show (syn a (d :: g)).length + 1 = _
    rw [syn_len a (d :: g)]
    simp
theorem syn_act (a : Int) (x : Ve) : ∀ g : List Int, act n c g x = fun i => M.val g a * x i + bb n c a (act n c (syn a g) x) i
  | [] => by
    funext i
    show (0 : Int) = 0 * x i + bb n c a (fun _ => 0) i
    rw [bb_zero]
    grind
  | [b] => by
    funext i
    show b * x i + tt n c (fun _ => 0) i = (b + a * 0) * x i + bb n c a (fun _ => 0) i
    rw [bb_zero, tt_zero]
    grind
  | b :: d :: g => by
    have ih := syn_act a x (d :: g)
    have e : act n c (syn a (b :: d :: g)) x = fun i => M.val (d :: g) a * x i + tt n c (act n c (syn a (d :: g)) x) i := rfl
    rw [act_cons, ih, e, bb_add, bb_smul, tt_add, tt_smul]
    funext i
    show b * x i + (M.val (d :: g) a * tt n c x i + tt n c (bb n c a (act n c (syn a (d :: g)) x)) i) = (b + a * M.val (d :: g) a) * x i + (M.val (d :: g) a * bb n c a x i + bb n c a (tt n c (act n c (syn a (d :: g)) x)) i)
    unfold bb
    rw [tt_sub, tt_smul]
    grind
/-! short lists, f itself -/
def toV (l : List Int) : Ve := fun i => l.getD i 0
def e0 : Ve := fun i => if i = 0 then 1 else 0
theorem act_short : ∀ {g : List Int}, g.length ≤ n → act n c g e0 = toV g
  | [], _ => by
    funext i
    show (0 : Int) = [].getD i 0
    simp
  | a :: g, h => by
    have h1 : g.length + 1 ≤ n := h
    rw [act_cons, act_short (g := g) (by omega)]
    funext i
    have hz : toV g (n - 1) = 0 := getD_none (by omega)
    unfold tt
    rw [hz]
    by_cases h0 : i = 0
    · subst h0
      rw [if_pos (by omega), if_pos rfl]
      show a * 1 + (0 - 0 * c 0) = a
      grind
    · obtain ⟨j, rfl⟩ : ∃ j, i = j + 1 := ⟨i - 1, by omega⟩
      have ez : e0 (j + 1) = 0 := if_neg (by omega)
      rw [ez, if_neg h0, show j + 1 - 1 = j from rfl]
      show a * 0 + (if j + 1 < n then g.getD j 0 - 0 * c (j + 1) else 0) = g.getD j 0
      by_cases hj : j + 1 < n
      · rw [if_pos hj]; grind
      · rw [if_neg hj, getD_none (by omega)]; grind
/-- f e0 is nothing -/
theorem act_self0 (hn : 1 ≤ n) {f : List Int} (hl : f.length = n + 1) (h1 : f.getD n 0 = 1) : act n (toV f) f e0 = fun _ => 0 := by
  match f, hl with
  | a :: g, hl =>
    have hg : g.length = n := by simpa using hl
    rw [act_cons, act_short (by omega)]
    funext i
    have hz : toV g (n - 1) = 1 := by
      have : (a :: g).getD (n - 1 + 1) 0 = 1 := by rw [show n - 1 + 1 = n by omega]; exact h1
      exact this
    unfold tt
    rw [hz]
    by_cases h0 : i = 0
    · subst h0
      rw [if_pos (by omega), if_pos rfl]
      show a * 1 + (0 - 1 * a) = 0
      grind
    · obtain ⟨j, rfl⟩ : ∃ j, i = j + 1 := ⟨i - 1, by omega⟩
      have ez : e0 (j + 1) = 0 := if_neg (by omega)
      rw [ez, if_neg h0, show j + 1 - 1 = j from rfl]
      show a * 0 + (if j + 1 < n then g.getD j 0 - 1 * g.getD j 0 else 0) = 0
      split <;> grind
theorem toV_of {x : Ve} (h : Sup n x) : toV ((List.range n).map x) = x := by
  funext i
  show ((List.range n).map x).getD i 0 = x i
  by_cases hi : i < n
  · rw [List.getD_eq_getElem?_getD, List.getElem?_map, List.getElem?_range hi]
    rfl
  · rw [getD_none (by rw [List.length_map, List.length_range]; omega), h i (by omega)]
theorem act_e0 {x : Ve} (h : Sup n x) : act n c ((List.range n).map x) e0 = x := by
  rw [act_short (by rw [List.length_map, List.length_range]; exact Nat.le_refl _), toV_of h]
theorem act_self (hn : 1 ≤ n) {f : List Int} (hl : f.length = n + 1) (h1 : f.getD n 0 = 1) {x : Ve} (h : Sup n x) : act n (toV f) f x = fun _ => 0 := by
  rw [← act_e0 (c := toV f) h, act_act, act_self0 hn hl h1, act_zero]
theorem fa_val : ∀ {f : List Int} (a : Int), M.val f a = vl f.length (toV f) a := by
  intro f a
  have key : ∀ (g : List Int) (k : Nat) (x : Ve), (∀ i, g.getD i 0 = x (k + i)) → vl (k + g.length) x a = vl k x a + a ^ k * M.val g a := by
    intro g
    induction g with
    | nil =>
      intro k x _
      show vl k x a = _ + a ^ k * 0
      grind
    | cons b g ih =>
      intro k x hx
      have h1 := ih (k + 1) x (fun i => by rw [show k + 1 + i = k + (i + 1) by omega, ← hx (i + 1)]; rfl)
      rw [List.length_cons, show k + (g.length + 1) = k + 1 + g.length by omega, h1]
      have h0 : b = x k := hx 0
      show vl k x a + x k * a ^ k + a ^ (k + 1) * M.val g a = _ + a ^ k * (b + a * M.val g a)
      rw [← h0, Int.pow_succ]
      grind
  have := key f 0 (toV f) (fun i => by rw [Nat.zero_add]; rfl)
  rw [Nat.zero_add] at this
  rw [this]
  show _ = 0 + a ^ 0 * _
  rw [Int.pow_zero]
  grind
/-- f at a, by the list -/
theorem fa_is {f : List Int} (hl : f.length = n + 1) (h1 : f.getD n 0 = 1) (a : Int) : fa n (toV f) a = M.val f a := by
  rw [fa_val, hl]
  show vl n (toV f) a + a ^ n = vl n (toV f) a + f.getD n 0 * a ^ n
  rw [h1]
  grind
/-! the program's products -/
theorem toV_rootTimes {f row : List Int} (h1 : 1 ≤ row.length) : toV (M.rootTimes f row) = tt row.length (toV f) (toV row) := by
  funext i
  unfold toV M.rootTimes tt
  by_cases h : i < row.length
  · rw [List.getD_eq_getElem?_getD, List.getElem?_map, List.getElem?_range h, if_pos h]
    by_cases h0 : i = 0
    · subst h0
      rfl
    · obtain ⟨j, rfl⟩ : ∃ j, i = j + 1 := ⟨i - 1, by omega⟩
      rw [if_neg h0]
      rfl
  · rw [getD_none (by rw [List.length_map, List.length_range]; omega), if_neg h]
theorem toV_addMul {a : Int} {row total : List Int} (h : row.length = total.length) : toV (M.addMul a row total) = fun i => toV total i + a * toV row i := by
  funext i
  unfold toV M.addMul
  by_cases hi : i < total.length
  · rw [List.getD_eq_getElem?_getD, List.getElem?_map, List.getElem?_range hi]
    rfl
  · rw [getD_none (by rw [List.length_map, List.length_range]; omega), getD_none (by omega), getD_none (by omega)]
    grind
theorem toV_comb {f : List Int} {n : Nat} (hn : 1 ≤ n) : ∀ (h : List Int) (x total : List Int), x.length = n → total.length = n → toV (M.combTo h (M.tableTo f x h.length) total) = fun i => toV total i + act n (toV f) h (toV x) i
  | [], x, total, _, _ => by
    funext i
    show toV total i = toV total i + 0
    grind
  | a :: h, x, total, hx, ht => by
    show toV (M.combTo h (M.tableTo f (M.rootTimes f x) h.length) (M.addMul a x total)) = _
    rw [toV_comb hn h _ _ (by rw [rootTimes_len, hx]) (by rw [addMul_len, ht]), toV_addMul (by rw [hx, ht]), toV_rootTimes (by omega), hx, act_tt]
    funext i
    show _ + _ = _ + (_ + _)
    grind
theorem toV_times {f h x : List Int} (hx : 1 ≤ x.length) (hh : h.length = x.length) : toV (M.times f h x) = act x.length (toV f) h (toV x) := by
  have e0' : ((M.polyTable f x).getD 0 []).length = x.length := polyTable_row f x _ (memAt (by rw [polyTable_len]; exact hx))
  unfold M.times M.combined
  rw [e0']
  unfold M.polyTable
  rw [← hh, toV_comb (by omega) h x _ hh.symm (by rw [List.length_replicate]), hh]
  funext i
  have hz : toV (List.replicate x.length (0 : Int)) i = 0 := by
    show (List.replicate x.length (0 : Int)).getD i 0 = 0
    by_cases hi : i < x.length
    · rw [getD_at (by rw [List.length_replicate]; exact hi), List.getElem_replicate]
    · rw [getD_none (by rw [List.length_replicate]; omega)]
  rw [hz]
  grind
end
end N
end K41
set_option Elab.async false
set_option linter.all false
set_option maxRecDepth 100000
set_option maxHeartbeats 4000000
namespace K41
namespace N
/-! how often: by powers -/
def it (n : Nat) (c : Ve) (h : List Int) : Nat → Ve → Ve
  | 0, x => x
  | k + 1, x => act n c h (it n c h k x)
section
variable {n : Nat} {c : Ve} {h : List Int}
theorem it_act (g : List Int) : ∀ (k : Nat) (x : Ve), it n c h k (act n c g x) = act n c g (it n c h k x)
  | 0, _ => rfl
  | k + 1, x => by
    show act n c h (it n c h k (act n c g x)) = act n c g (act n c h (it n c h k x))
    rw [it_act g k x, act_act]
theorem it_smul (u : Int) : ∀ (k : Nat) (x : Ve), it n c h k (fun i => u * x i) = fun i => u * it n c h k x i
  | 0, _ => rfl
  | k + 1, x => by
    show act n c h (it n c h k fun i => u * x i) = fun i => u * act n c h (it n c h k x) i
    rw [it_smul u k x, act_smul]
theorem it_add : ∀ (k : Nat) (x y : Ve), it n c h k (fun i => x i + y i) = fun i => it n c h k x i + it n c h k y i
  | 0, _, _ => rfl
  | k + 1, x, y => by
    show act n c h (it n c h k fun i => x i + y i) = fun i => act n c h (it n c h k x) i + act n c h (it n c h k y) i
    rw [it_add k x y, act_add]
theorem it_bb (a : Int) : ∀ (k : Nat) (x : Ve), it n c h k (bb n c a x) = bb n c a (it n c h k x)
  | 0, _ => rfl
  | k + 1, x => by
    show act n c h (it n c h k (bb n c a x)) = bb n c a (act n c h (it n c h k x))
    rw [it_bb a k x, act_bb]
theorem it_succ (k : Nat) (x : Ve) : it n c h (k + 1) x = it n c h k (act n c h x) := (it_act h k x).symm
theorem sup_it {x : Ve} (hx : Sup n x) : ∀ k, Sup n (it n c h k x)
  | 0 => hx
  | k + 1 => sup_act h (sup_it hx k)
theorem Dv.it {p : Int} {x : Ve} (hx : Dv p x) : ∀ k, Dv p (N.it n c h k x)
  | 0 => hx
  | k + 1 => Dv.act h (Dv.it hx k)
end
theorem dv_mul {p q : Int} {x : Ve} (hp : p ≠ 0) (h : Dv (q * p) fun i => p * x i) : Dv q x := fun i => by
  obtain ⟨z, hz⟩ := h i
  exact ⟨z, Int.eq_of_mul_eq_mul_left hp (by grind)⟩
theorem all_dv {p : Int} {y : List Int} : (y.all fun c => decide (c % p = 0)) = true ↔ Dv p (toV y) := by
  rw [List.all_eq_true]
  refine ⟨fun h i => ?_, fun h c hc => ?_⟩
  · show p ∣ y.getD i 0
    by_cases hi : i < y.length
    · rw [getD_at hi]
      exact Int.dvd_of_emod_eq_zero (of_decide_eq_true (h _ (List.getElem_mem _)))
    · rw [getD_none (by omega)]
      exact Int.dvd_zero _
  · obtain ⟨i, hi, rfl⟩ := List.getElem_of_mem hc
    have := h i
    rw [show toV y i = y[i] from getD_at hi] at this
    exact decide_eq_true (Int.emod_eq_zero_of_dvd this)
theorem toV_div {p : Int} {y : List Int} (hp : p ≠ 0) (h : Dv p (toV y)) : toV y = fun i => p * toV (y.map (· / p)) i := by
  funext i
  have h1 := h i
  show y.getD i 0 = p * (y.map (· / p)).getD i 0
  by_cases hi : i < y.length
  · rw [List.getD_eq_getElem?_getD, List.getD_eq_getElem?_getD, List.getElem?_map, List.getElem?_eq_getElem hi]
    rw [show toV y i = y[i] from getD_at hi] at h1
    show y[i] = p * (y[i] / p)
    exact (Int.mul_ediv_cancel' h1).symm
  · rw [getD_none (by omega), getD_none (by rw [List.length_map]; omega)]
    grind
theorem cn_of {f h : List Int} {p : Int} {n : Nat} (hn : 1 ≤ n) (hh : h.length = n) (hp : p ≠ 0) : ∀ (k : Nat) (y : List Int), y.length = n → (∀ j, j < k → Dv (p ^ (j + 1)) (it n (toV f) h j (toV y))) → ¬ Dv (p ^ (k + 1)) (it n (toV f) h k (toV y)) → Cn f h p k y
  | 0, y, hy, _, h2 => by
    show (y.all fun c => decide (c % p = 0)) = false
    cases e : y.all fun c => decide (c % p = 0) with
    | false => rfl
    | true =>
      exfalso
      have := all_dv.mp e
      rw [Int.pow_succ, Int.pow_zero, Int.one_mul] at h2
      exact h2 this
  | k + 1, y, hy, h1, h2 => by
    have hd : Dv p (toV y) := by
      have := h1 0 (by omega)
      rw [Int.pow_succ, Int.pow_zero, Int.one_mul] at this
      exact this
    refine ⟨all_dv.mpr hd, ?_⟩
    have hl : (y.map (· / p)).length = n := by rw [List.length_map, hy]
    have ez : toV (M.times f h (y.map (· / p))) = act n (toV f) h (toV (y.map (· / p))) := by
      have := toV_times (f := f) (h := h) (x := y.map (· / p)) (by omega) (by rw [hl, hh])
      rw [hl] at this
      exact this
    have key : ∀ j, it n (toV f) h (j + 1) (toV y) = fun i => p * it n (toV f) h j (toV (M.times f h (y.map (· / p)))) i := fun j => by
      rw [toV_div hp hd, it_smul, it_succ, ← ez]
    refine cn_of hn hh hp k _ (by rw [times_len (by omega), hl]) (fun j hj => ?_) (fun hd2 => h2 ?_)
    · have := h1 (j + 1) (by omega)
      rw [key, Int.pow_succ] at this
      exact dv_mul hp this
    · rw [key, Int.pow_succ]
      intro i
      obtain ⟨z, hz⟩ := hd2 i
      exact ⟨z, by show p * it n (toV f) h k (toV (M.times f h (y.map (· / p)))) i = _; rw [hz]; grind⟩
/-- the count, by powers of h -/
theorem cnt_of {f h x : List Int} {p : Int} {n : Nat} (hn : 1 ≤ n) (hh : h.length = n) (hx : x.length = n) (hp : p ≠ 0) {k : Nat} (h1 : ∀ j, j < k → Dv (p ^ (j + 1)) (it n (toV f) h (j + 1) (toV x))) (h2 : ¬ Dv (p ^ (k + 1)) (it n (toV f) h (k + 1) (toV x))) : Cnt f h p x k := by
  have ez : toV (M.times f h x) = act n (toV f) h (toV x) := by
    have := toV_times (f := f) (h := h) (x := x) (by omega) (by rw [hh, hx])
    rw [hx] at this
    exact this
  have key : ∀ j, it n (toV f) h (j + 1) (toV x) = it n (toV f) h j (toV (M.times f h x)) := fun j => by rw [it_succ, ← ez]
  refine cn_of hn hh hp k _ (by rw [times_len (by omega), hx]) (fun j hj => ?_) ?_
  · rw [← key]; exact h1 j hj
  · rw [← key]; exact h2
/-- .. there is one where some power stops -/
theorem cnt_ex {f h x : List Int} {p : Int} {n : Nat} (hn : 1 ≤ n) (hh : h.length = n) (hx : x.length = n) (hp : p ≠ 0) : ∀ j : Nat, ¬ Dv (p ^ (j + 1)) (it n (toV f) h (j + 1) (toV x)) → ∃ k, k ≤ j ∧ Cnt f h p x k ∧ ∀ i, i < k → Dv (p ^ (i + 1)) (it n (toV f) h (i + 1) (toV x)) := by
  intro j
  induction j using Nat.strongRecOn with
  | _ j ih =>
    intro hj
    by_cases hall : ∀ i, i < j → Dv (p ^ (i + 1)) (it n (toV f) h (i + 1) (toV x))
    · exact ⟨j, Nat.le_refl _, cnt_of hn hh hx hp hall hj, hall⟩
    · obtain ⟨i, hi⟩ := Classical.not_forall.mp hall
      obtain ⟨hij, hi2⟩ := Classical.not_imp.mp hi
      obtain ⟨k, h1, h2, h3⟩ := ih i hij hi2
      exact ⟨k, by omega, h2, h3⟩
end N
end K41
set_option Elab.async false
set_option linter.all false
set_option maxRecDepth 100000
set_option maxHeartbeats 4000000
namespace K41
namespace N
/-! over a root a of f mod p -/
theorem syn_top (a : Int) : ∀ (g : List Int), 2 ≤ g.length → (syn a g).getD (g.length - 2) 0 = g.getD (g.length - 1) 0
  | [], h => by simp at h
  | [_], h => by simp at h
  | [b, d], _ => by
    show d + a * 0 = d
    grind
  | b :: d :: e :: g, _ => by
    have := syn_top a (d :: e :: g) (by simp)
    exact this
/-- what is asked of f, p, a and h: h is f / (t - a) mod p -/
structure Lin (n : Nat) (f : List Int) (p a : Int) (h : List Int) : Prop where
  hn : 1 ≤ n
  hl : f.length = n + 1
  h1 : f.getD n 0 = 1
  pr : Pr p
  hh : h.length = n
  hq : ∀ i, p ∣ h.getD i 0 - (syn a f).getD i 0
  rt : p ∣ M.val f a
section
variable {n : Nat} {f h : List Int} {p a : Int}
theorem Lin.top (L : Lin n f p a h) : (syn a f).getD (n - 1) 0 = 1 := by
  have hn := L.hn
  have hl := L.hl
  have := syn_top a f (by omega)
  rw [show f.length - 2 = n - 1 by omega, show f.length - 1 = n by omega, L.h1] at this
  exact this
theorem Lin.syn_len (L : Lin n f p a h) : (syn a f).length = n := by rw [N.syn_len, L.hl]; rfl
/-- x = x(a) + (t - a) x' -/
def rest (n : Nat) (f : List Int) (a : Int) (x : Ve) : Ve := act n (toV f) (syn a ((List.range n).map x)) e0
theorem sup_e0 (hn : 1 ≤ n) : Sup n e0 := fun i hi => if_neg (by omega)
theorem vl_list {x : Ve} (hx : Sup n x) (a : Int) : M.val ((List.range n).map x) a = vl n x a := by
  rw [fa_val, toV_of hx, List.length_map, List.length_range]
theorem rest_is (L : Lin n f p a h) {x : Ve} (hx : Sup n x) : x = fun i => vl n x a * e0 i + bb n (toV f) a (rest n f a x) i := by
  have h1 := syn_act (n := n) (c := toV f) a e0 ((List.range n).map x)
  rw [act_e0 hx, vl_list hx] at h1
  exact h1
theorem act_syn (L : Lin n f p a h) {x : Ve} (hx : Sup n x) : act n (toV f) (syn a f) x = fun i => vl n x a * (syn a f).getD i 0 - M.val f a * rest n f a x i := by
  have hs : Sup n (rest n f a x) := sup_act _ (sup_e0 L.hn)
  have hz := act_self L.hn L.hl L.h1 hs
  rw [syn_act a (rest n f a x) f] at hz
  have h2 : act n (toV f) (syn a f) x = fun i => vl n x a * (syn a f).getD i 0 + bb n (toV f) a (act n (toV f) (syn a f) (rest n f a x)) i := by
    conv => lhs; rw [rest_is L hx]
    rw [act_add, act_smul, act_bb, act_short (by rw [L.syn_len]; exact Nat.le_refl _)]
    rfl
  rw [h2]
  funext i
  have h3 : M.val f a * rest n f a x i + bb n (toV f) a (act n (toV f) (syn a f) (rest n f a x)) i = 0 := congrFun hz i
  grind
/-- h x is nothing mod p just where x(a) is -/
theorem Lin.ker (L : Lin n f p a h) {x : Ve} (hx : Sup n x) : Dv p (act n (toV f) h x) ↔ p ∣ vl n x a := by
  have hc : ∀ i, p ∣ act n (toV f) h x i - act n (toV f) (syn a f) x i := act_congr (by rw [L.hh, L.syn_len]) L.hq x
  have hs := act_syn L hx
  obtain ⟨u, hu⟩ := L.rt
  constructor
  · intro hd
    obtain ⟨z, hz⟩ := hc (n - 1)
    obtain ⟨y, hy⟩ := hd (n - 1)
    rw [hs] at hz
    simp only at hz
    rw [L.top, hy, hu] at hz
    exact ⟨y - z + u * rest n f a x (n - 1), by grind⟩
  · rintro ⟨v, hv⟩ i
    obtain ⟨z, hz⟩ := hc i
    rw [hs] at hz
    simp only at hz
    rw [hv, hu] at hz
    exact ⟨z + v * (syn a f).getD i 0 - u * rest n f a x i, by grind⟩
theorem Lin.val (L : Lin n f p a h) (x : Ve) : ∃ z, vl n (act n (toV f) h x) a = M.val h a * vl n x a + M.val f a * z := by
  obtain ⟨z, hz⟩ := vl_act L.hn x a (c := toV f) h
  rw [fa_is L.hl L.h1] at hz
  exact ⟨z, hz⟩
/-- x(a) is nothing mod p ^ k: k times -/
theorem Lin.low (L : Lin n f p a h) : ∀ (k : Nat) (x : Ve), Sup n x → p ^ k ∣ M.val f a → p ^ k ∣ vl n x a → ∀ j, j ≤ k → Dv (p ^ j) (it n (toV f) h j x)
  | _, x, _, _, _, 0, _ => fun i => ⟨it n (toV f) h 0 x i, by rw [Int.pow_zero]; grind⟩
  | k + 1, x, hx, hf, hv, j + 1, hj => by
    have hp := L.pr.1
    have hp0 : p ≠ 0 := by omega
    have hd : Dv p (act n (toV f) h x) := (L.ker hx).mpr (Int.dvd_trans ⟨p ^ k, by rw [Int.pow_succ, Int.mul_comm]⟩ hv)
    have hsx : Sup n (act n (toV f) h x) := sup_act h hx
    have hy : act n (toV f) h x = fun i => p * (act n (toV f) h x i / p) := by
      funext i
      exact (Int.mul_ediv_cancel' (hd i)).symm
    have hsy : Sup n (fun i => act n (toV f) h x i / p) := fun i hi => by
      show act n (toV f) h x i / p = 0
      rw [hsx i hi]
      exact Int.zero_ediv _
    have hvy : p ^ k ∣ vl n (fun i => act n (toV f) h x i / p) a := by
      obtain ⟨z, hz⟩ := L.val x
      rw [hy, vl_smul] at hz
      obtain ⟨u, hu⟩ := hf
      obtain ⟨v, hv⟩ := hv
      rw [hu, hv, Int.pow_succ] at hz
      exact ⟨M.val h a * v + u * z, Int.eq_of_mul_eq_mul_left hp0 (by rw [hz]; grind)⟩
    have ih := L.low k _ hsy (Int.dvd_trans ⟨p, Int.pow_succ _ _⟩ hf) hvy j (by omega)
    rw [it_succ, hy, it_smul]
    intro i
    obtain ⟨z, hz⟩ := ih i
    exact ⟨z, by show p * it n (toV f) h j (fun i => act n (toV f) h x i / p) i = _; rw [hz, Int.pow_succ]; grind⟩
theorem vl_e0 (hn : 1 ≤ n) (a : Int) : vl n e0 a = 1 := by
  have key : ∀ k, vl (k + 1) e0 a = 1 := fun k => by
    induction k with
    | zero =>
      show 0 + e0 0 * a ^ 0 = 1
      rw [Int.pow_zero]
      rfl
    | succ k ih =>
      show vl (k + 1) e0 a + e0 (k + 1) * a ^ (k + 1) = 1
      rw [ih, show e0 (k + 1) = 0 from if_neg (by omega)]
      grind
  obtain ⟨m, rfl⟩ : ∃ m, n = m + 1 := ⟨n - 1, by omega⟩
  exact key m
/-- powers of h at a -/
theorem Lin.pow (L : Lin n f p a h) (x : Ve) : ∀ j, p ∣ vl n (it n (toV f) h j x) a - M.val h a ^ j * vl n x a
  | 0 => ⟨0, by show vl n x a - _ = _; rw [Int.pow_zero]; grind⟩
  | j + 1 => by
    obtain ⟨y, hy⟩ := L.pow x j
    obtain ⟨z, hz⟩ := L.val (it n (toV f) h j x)
    obtain ⟨u, hu⟩ := L.rt
    refine ⟨M.val h a * y + u * z, ?_⟩
    show vl n (act n (toV f) h (it n (toV f) h j x)) a - _ = _
    rw [hz, hu, Int.pow_succ]
    grind
theorem Lin.unit (L : Lin n f p a h) (hu : ¬ p ∣ M.val h a) (j : Nat) : ¬ Dv p (it n (toV f) h j e0) := fun hd => by
  have h1 := vl_dvd hd n a
  have h2 := L.pow e0 j
  rw [vl_e0 L.hn, Int.mul_one] at h2
  have h3 := Int.dvd_sub h1 h2
  rw [show vl n (it n (toV f) h j e0) a - (vl n (it n (toV f) h j e0) a - M.val h a ^ j) = M.val h a ^ j by grind] at h3
  exact L.pr.pow hu j h3
/-- the powers of h end: whatever power of p is given -/
def Ends (n : Nat) (c : Ve) (p : Int) (h : List Int) : Prop := ∀ v : Nat, ∃ j, ¬ Dv (p ^ j) (it n c h (v + j) e0)
theorem Lin.ends (L : Lin n f p a h) (hu : ¬ p ∣ M.val h a) : Ends n (toV f) p h := fun v => ⟨1, by
  rw [Int.pow_succ, Int.pow_zero, Int.one_mul]
  exact L.unit hu _⟩
/-- so they end on x, where a multiple of x is an integer -/
theorem ends_on {c : Ve} (pr : Pr p) (E : Ends n c p h) {x : Ve} {y : List Int} {N : Int} (hN : N ≠ 0) (hy : act n c y x = fun i => N * e0 i) : ∃ j, ¬ Dv (p ^ (j + 1)) (it n c h (j + 1) x) := by
  obtain ⟨o1, o2⟩ := out_is pr.1 (show 1 ≤ (N.natAbs : Int) by omega)
  obtain ⟨j, hj⟩ := E (M.out p (N.natAbs : Int)).1
  generalize (M.out p (N.natAbs : Int)).1 = v at *
  generalize (M.out p (N.natAbs : Int)).2 = M' at *
  have hp := pr.1
  have main : ¬ Dv (p ^ (v + j)) (it n c h (v + j) x) := fun hd => hj fun i => by
    have h1 := Dv.act (n := n) (c := c) y hd i
    rw [← it_act, hy, it_smul] at h1
    have h2 : p ^ (v + j) ∣ p ^ v * (M' * it n c h (v + j) e0 i) := by
      rw [← Int.mul_assoc, ← o1]
      rcases Int.natAbs_eq N with e | e
      · rw [← e]; exact h1
      · have e2 : (N.natAbs : Int) = -N := by omega
        rw [e2, Int.neg_mul]
        exact Int.dvd_neg.mpr h1
    obtain ⟨z, hz⟩ := h2
    rw [Int.pow_add] at hz
    have hpv : p ^ v ≠ 0 := Int.ne_of_gt (Int.pow_pos (by omega))
    have h3 : p ^ j ∣ M' * it n c h (v + j) e0 i := ⟨z, Int.eq_of_mul_eq_mul_left hpv (by rw [hz]; grind)⟩
    exact pr.drop o2 j _ h3
  have hpos : v + j ≠ 0 := fun e => main (by
    rw [e]
    intro i
    exact ⟨it n c h 0 x i, by rw [Int.pow_zero]; grind⟩)
  exact ⟨v + j - 1, by rw [show v + j - 1 + 1 = v + j by omega]; exact main⟩
end
end N
end K41
set_option Elab.async false
set_option linter.all false
set_option maxRecDepth 100000
set_option maxHeartbeats 4000000
namespace K41
namespace N
/-! over a double root, f(a) but once divided by p -/
/-- an operator that commutes with t, and is s at a -/
structure Op (n : Nat) (c : Ve) (p a : Int) (φ : Ve → Ve) (s : Int) : Prop where
  add : ∀ x y : Ve, φ (fun i => x i + y i) = fun i => φ x i + φ y i
  smul : ∀ (k : Int) (x : Ve), φ (fun i => k * x i) = fun i => k * φ x i
  tt : ∀ x : Ve, φ (N.tt n c x) = N.tt n c (φ x)
  sup : ∀ x, Sup n x → Sup n (φ x)
  at_ : ∀ x, Sup n x → p ∣ vl n (φ x) a - s * vl n x a
section
variable {n : Nat} {c : Ve} {p a : Int} {φ ψ : Ve → Ve} {s u : Int}
theorem Op.zero (o : Op n c p a φ s) : φ (fun _ => 0) = fun _ => 0 := by
  have h := o.smul 0 (fun _ => 0)
  simp only [Int.zero_mul] at h
  exact h
theorem Op.act (o : Op n c p a φ s) : ∀ (g : List Int) (x : Ve), φ (N.act n c g x) = N.act n c g (φ x)
  | [], x => o.zero
  | b :: g, x => by rw [act_cons, o.add, o.smul, o.tt, o.act g x]; rfl
theorem Op.bb (o : Op n c p a φ s) (b : Int) (x : Ve) : φ (N.bb n c b x) = N.bb n c b (φ x) := by
  have e : N.bb n c b x = fun i => N.tt n c x i + -b * x i := by
    unfold N.bb
    funext i
    grind
  rw [e, o.add, o.smul, o.tt]
  unfold N.bb
  funext i
  grind
theorem Op.one (n : Nat) (c : Ve) (p a : Int) : Op n c p a (fun x => x) 1 := ⟨fun _ _ => rfl, fun _ _ => rfl, fun _ => rfl, fun _ h => h, fun x _ => ⟨0, by grind⟩⟩
theorem Op.comp (o : Op n c p a φ s) (o' : Op n c p a ψ u) : Op n c p a (fun x => φ (ψ x)) (s * u) where
  add x y := by show φ (ψ _) = _; rw [o'.add, o.add]
  smul k x := by show φ (ψ _) = _; rw [o'.smul, o.smul]
  tt x := by show φ (ψ _) = _; rw [o'.tt, o.tt]
  sup x h := o.sup _ (o'.sup _ h)
  at_ x h := by
    obtain ⟨y, hy⟩ := o.at_ _ (o'.sup _ h)
    obtain ⟨z, hz⟩ := o'.at_ x h
    exact ⟨y + s * z, by grind⟩
theorem Op.scale (o : Op n c p a φ s) (k : Int) : Op n c p a (fun x => fun i => k * φ x i) (k * s) where
  add x y := by
    show (fun i => k * φ _ i) = _
    rw [o.add]
    funext i
    grind
  smul m x := by
    show (fun i => k * φ _ i) = _
    rw [o.smul]
    funext i
    grind
  tt x := by
    show (fun i => k * φ _ i) = _
    rw [o.tt, tt_smul]
  sup x h := fun i hi => by
    show k * φ x i = 0
    rw [o.sup x h i hi]
    grind
  at_ x h := by
    obtain ⟨y, hy⟩ := o.at_ x h
    exact ⟨k * y, by rw [vl_smul]; grind⟩
theorem Op.sum (o : Op n c p a φ s) (o' : Op n c p a ψ u) : Op n c p a (fun x => fun i => φ x i + ψ x i) (s + u) where
  add x y := by
    show (fun i => φ _ i + ψ _ i) = _
    rw [o.add, o'.add]
    funext i
    grind
  smul m x := by
    show (fun i => φ _ i + ψ _ i) = _
    rw [o.smul, o'.smul]
    funext i
    grind
  tt x := by
    show (fun i => φ _ i + ψ _ i) = _
    rw [o.tt, o'.tt, tt_add]
  sup x h := fun i hi => by
    show φ x i + ψ x i = 0
    rw [o.sup x h i hi, o'.sup x h i hi]
    grind
  at_ x h := by
    obtain ⟨y, hy⟩ := o.at_ x h
    obtain ⟨z, hz⟩ := o'.at_ x h
    exact ⟨y + z, by rw [vl_add]; grind⟩
theorem sup_bb {x : Ve} (h : Sup n x) (b : Int) : Sup n (N.bb n c b x) := fun i hi => by
  unfold N.bb
  rw [sup_tt x i hi, h i hi]
  grind
/-- (t - a) ^ k -/
def bp (n : Nat) (c : Ve) (a : Int) : Nat → Ve → Ve
  | 0, x => x
  | k + 1, x => N.bb n c a (bp n c a k x)
theorem sup_bp {x : Ve} (h : Sup n x) : ∀ k, Sup n (bp n c a k x)
  | 0 => h
  | k + 1 => sup_bb (sup_bp h k) a
theorem bp_in (k : Nat) (x : Ve) : bp n c a k (N.bb n c a x) = bp n c a (k + 1) x := by
  induction k with
  | zero => rfl
  | succ k ih =>
    show N.bb n c a (bp n c a k (N.bb n c a x)) = N.bb n c a (bp n c a (k + 1) x)
    rw [ih]
theorem bp_plus (j k : Nat) (x : Ve) : bp n c a (j + k) x = bp n c a j (bp n c a k x) := by
  induction j with
  | zero => rw [Nat.zero_add]; rfl
  | succ j ih =>
    rw [show j + 1 + k = (j + k) + 1 by omega]
    show N.bb n c a (bp n c a (j + k) x) = N.bb n c a (bp n c a j (bp n c a k x))
    rw [ih]
theorem bp_smul (u : Int) (x : Ve) : ∀ k, bp n c a k (fun i => u * x i) = fun i => u * bp n c a k x i
  | 0 => rfl
  | k + 1 => by
    show N.bb n c a (bp n c a k fun i => u * x i) = _
    rw [bp_smul u x k, bb_smul]
    rfl
theorem Op.bp (o : Op n c p a φ s) (x : Ve) : ∀ k, φ (N.bp n c a k x) = N.bp n c a k (φ x)
  | 0 => rfl
  | k + 1 => by
    show φ (N.bb n c a (N.bp n c a k x)) = N.bb n c a (N.bp n c a k (φ x))
    rw [o.bb, o.bp x k]
theorem bp_act (g : List Int) (x : Ve) : ∀ k, act n c g (bp n c a k x) = bp n c a k (act n c g x)
  | 0 => rfl
  | k + 1 => by
    show act n c g (N.bb n c a (bp n c a k x)) = N.bb n c a (bp n c a k (act n c g x))
    rw [act_bb, bp_act g x k]
end
section
variable {n : Nat} {f h : List Int} {p a w : Int}
theorem Lin.dv (L : Lin n f p a h) : p ∣ fa n (toV f) a := by rw [fa_is L.hl L.h1]; exact L.rt
theorem Lin.opAct (L : Lin n f p a h) (g : List Int) : Op n (toV f) p a (act n (toV f) g) (M.val g a) where
  add := act_add g
  smul := act_smul g
  tt := act_tt g
  sup _ hx := sup_act g hx
  at_ x _ := by
    obtain ⟨z, hz⟩ := vl_act L.hn x a (c := toV f) g
    obtain ⟨u, hu⟩ := L.dv
    exact ⟨u * z, by rw [hz, hu]; grind⟩
theorem Lin.opBp (L : Lin n f p a h) (k : Nat) : Op n (toV f) p a (bp n (toV f) a (k + 1)) 0 where
  add x y := by
    have key : ∀ j, bp n (toV f) a j (fun i => x i + y i) = fun i => bp n (toV f) a j x i + bp n (toV f) a j y i := fun j => by
      induction j with
      | zero => rfl
      | succ j ih =>
        show N.bb n (toV f) a (bp n (toV f) a j fun i => x i + y i) = _
        rw [ih, bb_add]
        rfl
    exact key _
  smul u x := bp_smul u x _
  tt x := by
    have key : ∀ j, bp n (toV f) a j (tt n (toV f) x) = tt n (toV f) (bp n (toV f) a j x) := fun j => by
      induction j with
      | zero => rfl
      | succ j ih =>
        show N.bb n (toV f) a (bp n (toV f) a j (tt n (toV f) x)) = tt n (toV f) (N.bb n (toV f) a (bp n (toV f) a j x))
        rw [ih]
        unfold N.bb
        rw [tt_sub, tt_smul]
    exact key _
  sup x hx := sup_bp hx _
  at_ x _ := by
    obtain ⟨u, hu⟩ := L.dv
    show p ∣ vl n (N.bb n (toV f) a (bp n (toV f) a k x)) a - _
    rw [vl_bb L.hn, hu]
    exact ⟨-(bp n (toV f) a k x (n - 1) * u), by grind⟩
/-- (t - a) q = - f(a) -/
theorem Lin.bq (L : Lin n f p a h) {x : Ve} (hx : Sup n x) : bb n (toV f) a (act n (toV f) (syn a f) x) = fun i => -M.val f a * x i := by
  have hz := act_self L.hn L.hl L.h1 hx
  rw [syn_act a x f] at hz
  funext i
  have h3 : M.val f a * x i + bb n (toV f) a (act n (toV f) (syn a f) x) i = 0 := congrFun hz i
  grind
/-- t - a is no divisor of nothing -/
theorem Lin.cancel (L : Lin n f p a h) (h0 : M.val f a ≠ 0) {x y : Ve} (hx : Sup n x) (hy : Sup n y) (e : bb n (toV f) a x = bb n (toV f) a y) : x = y := by
  have h1 := L.bq hx
  have h2 := L.bq hy
  rw [← act_bb] at h1 h2
  rw [e, h2] at h1
  funext i
  have h3 : -M.val f a * y i = -M.val f a * x i := congrFun h1 i
  exact (Int.eq_of_mul_eq_mul_left (by omega) h3).symm
theorem Lin.cancels (L : Lin n f p a h) (h0 : M.val f a ≠ 0) : ∀ (k : Nat) {x y : Ve}, Sup n x → Sup n y → bp n (toV f) a k x = bp n (toV f) a k y → x = y
  | 0, _, _, _, _, e => e
  | k + 1, x, y, hx, hy, e => L.cancels h0 k hx hy (L.cancel h0 (sup_bp hx k) (sup_bp hy k) e)
/-- how q goes by t - a -/
theorem Lin.chain (L : Lin n f p a h) (hw : M.val f a = p * w) (hpw : ¬ p ∣ w) : ∀ (g : List Int) (e : Nat) (σ ω : Ve → Ve) (s u : Int), g ≠ [] → g.getD (g.length - 1) 0 = 1 → Op n (toV f) p a σ s → Op n (toV f) p a ω u → ¬ p ∣ s → ¬ p ∣ u →
    (∀ x, Sup n x → act n (toV f) (syn a f) (σ x) = bp n (toV f) a e (act n (toV f) g (ω x))) →
    ∃ (d : Nat) (σ ω : Ve → Ve) (s u : Int), d < e + g.length ∧ Op n (toV f) p a σ s ∧ Op n (toV f) p a ω u ∧ ¬ p ∣ u ∧ ∀ x, Sup n x → act n (toV f) (syn a f) (σ x) = bp n (toV f) a d (ω x)
  | [], _, _, _, _, _, h, _, _, _, _, _, _ => absurd rfl h
  | g0 :: g, e, σ, ω, s, u, _, ht, oσ, oω, hs, hu, hq => by
    by_cases hg : p ∣ M.val (g0 :: g) a
    · match g, ht, hg with
      | [], ht, hg =>
        exfalso
        have h1 : g0 = 1 := ht
        rw [h1] at hg
        have h2 : M.val [1] a = 1 := by show (1 : Int) + a * 0 = 1; grind
        rw [h2] at hg
        have := Int.le_of_dvd (by decide) hg
        have := L.pr.1
        omega
      | g1 :: g, ht, hg =>
        obtain ⟨wi, hwi⟩ := hg
        -- the next
        have oB := L.opBp e
        have oS := (oσ.scale w).sum ((oB.comp oω).scale wi)
        have hnext : ∀ x, Sup n x → act n (toV f) (g0 :: g1 :: g) (fun i => w * σ x i + wi * bp n (toV f) a (e + 1) (ω x) i) = fun i => w * bb n (toV f) a (act n (toV f) (syn a (g0 :: g1 :: g)) (σ x)) i := fun x hx => by
          have e1 := syn_act (n := n) (c := toV f) a (σ x) (g0 :: g1 :: g)
          have e2 := L.bq (oσ.sup x hx)
          rw [hq x hx] at e2
          have e3 : bb n (toV f) a (bp n (toV f) a e (act n (toV f) (g0 :: g1 :: g) (ω x))) = bp n (toV f) a (e + 1) (act n (toV f) (g0 :: g1 :: g) (ω x)) := rfl
          rw [e3] at e2
          rw [act_add, act_smul, act_smul, bp_act, e2, e1, hw, hwi]
          funext i
          grind
        have := L.chain hw hpw (syn a (g0 :: g1 :: g)) (e + 1) (fun x => σ (fun i => w * σ x i + wi * bp n (toV f) a (e + 1) (ω x) i)) (fun x => fun i => w * ω (σ x) i) _ _ (by simp [syn]) (by
            have h5 := syn_top a (g0 :: g1 :: g) (by simp)
            rw [N.syn_len]
            exact h5.trans ht) (oσ.comp oS) ((oω.comp oσ).scale w) ?_ ?_ ?_
        · obtain ⟨d, σ', ω', s', u', h1, h2⟩ := this
          rw [N.syn_len] at h1
          exact ⟨d, σ', ω', s', u', by simp at h1 ⊢; omega, h2⟩
        · intro hd
          rcases L.pr.2 _ _ hd with h1 | h1
          · exact hs h1
          · rw [show w * s + wi * (0 * u) = w * s by grind] at h1
            rcases L.pr.2 _ _ h1 with h1 | h1
            · exact hpw h1
            · exact hs h1
        · intro hd
          rcases L.pr.2 _ _ hd with h1 | h1
          · exact hpw h1
          · rcases L.pr.2 _ _ h1 with h1 | h1
            · exact hu h1
            · exact hs h1
        · intro x hx
          rw [hq _ (oS.sup x hx), ← oω.act, hnext x hx, oω.smul, oω.bb, bp_smul, bp_in, oω.act, act_smul, bp_smul]
    · exact ⟨e, σ, fun x => act n (toV f) (g0 :: g) (ω x), s, M.val (g0 :: g) a * u, by simp, oσ, (L.opAct (g0 :: g)).comp oω, fun hd => by
        rcases L.pr.2 _ _ hd with h1 | h1
        · exact hg h1
        · exact hu h1, hq⟩
  termination_by g => g.length
  decreasing_by simp [N.syn_len]
theorem Lin.no_bp (L : Lin n f p a h) (hw : M.val f a = p * w) (hpw : ¬ p ∣ w) {d : Nat} {S W : Ve → Ve} {s u : Int} (hd : d < n) (oS : Op n (toV f) p a S s) (oW : Op n (toV f) p a W u) (hu : ¬ p ∣ u) (hq : ∀ x, Sup n x → act n (toV f) (syn a f) (S x) = bp n (toV f) a d (W x)) :
    ∀ (v J : Nat) (X y : Ve), Sup n X → Sup n y → ¬ p ∣ vl n X a → n * v < J → (fun i => p ^ v * X i) = bp n (toV f) a J y → False
  | 0, J, X, y, hX, hy, hv, hJ, e => by
    obtain ⟨k, rfl⟩ : ∃ k, J = k + 1 := ⟨J - 1, by omega⟩
    obtain ⟨z, hz⟩ := (L.opBp k).at_ y hy
    rw [← e, vl_smul, Int.pow_zero] at hz
    exact hv ⟨z, by grind⟩
  | v + 1, J, X, y, hX, hy, hv, hJ, e => by
    have hp := L.pr.1
    have h0 : M.val f a ≠ 0 := fun e => by
      rw [hw] at e
      rcases Int.mul_eq_zero.mp e with h1 | h1
      · omega
      · exact hpw ⟨0, by rw [h1]; grind⟩
    have hJ2 : n * v + n < J := by rw [Nat.mul_succ] at hJ; exact hJ
    obtain ⟨k, rfl⟩ : ∃ k, J = 1 + (d + k) := ⟨J - 1 - d, by omega⟩
    have hs : Sup n (fun i => p ^ v * X i) := fun i hi => by
      show p ^ v * X i = 0
      rw [hX i hi, Int.mul_zero]
    have h1 : act n (toV f) (syn a f) (fun i => p ^ v * X i) = bp n (toV f) a (d + k) (fun i => -w * y i) := by
      refine L.cancel h0 (sup_act _ hs) (sup_bp (fun i hi => by show -w * y i = 0; rw [hy i hi, Int.mul_zero]) _) ?_
      rw [L.bq hs]
      have e2 : bb n (toV f) a (bp n (toV f) a (d + k) (fun i => -w * y i)) = bp n (toV f) a (1 + (d + k)) (fun i => -w * y i) := by
        rw [Nat.add_comm 1]
        rfl
      rw [e2, bp_smul, ← e, hw]
      funext i
      rw [Int.pow_succ]
      grind
    have h2 : act n (toV f) (syn a f) (S fun i => p ^ v * X i) = S (bp n (toV f) a (d + k) (fun i => -w * y i)) := by rw [← oS.act, h1]
    rw [hq _ hs, oS.bp, bp_plus] at h2
    have hsy : Sup n (fun i => -w * y i) := fun i hi => by show -w * y i = 0; rw [hy i hi, Int.mul_zero]
    have h3 := L.cancels h0 d (oW.sup _ hs) (sup_bp (oS.sup _ hsy) k) h2
    rw [oW.smul] at h3
    obtain ⟨z, hz⟩ := oW.at_ X hX
    refine L.no_bp hw hpw hd oS oW hu hq v k (W X) _ (oW.sup _ hX) (oS.sup _ hsy) (fun hd2 => ?_) (by omega) h3
    have h4 : p ∣ u * vl n X a := by
      have h5 := Int.dvd_sub hd2 ⟨z, hz⟩
      rw [show vl n (W X) a - (vl n (W X) a - u * vl n X a) = u * vl n X a by grind] at h5
      exact h5
    rcases L.pr.2 _ _ h4 with h6 | h6
    · exact hu h6
    · exact hv h6
def up (n : Nat) (f : List Int) (p a : Int) (h : List Int) (x : Ve) : Ve := fun i => bb n (toV f) a (act n (toV f) h x) i / p
theorem Lin.up_is (L : Lin n f p a h) (hw : M.val f a = p * w) {x : Ve} (hx : Sup n x) : bb n (toV f) a (act n (toV f) h x) = (fun i => p * up n f p a h x i) ∧ Sup n (up n f p a h x) ∧ p ∣ vl n (up n f p a h x) a - -w * vl n x a := by
  have hp := L.pr.1
  have hc : Dv p (fun i => act n (toV f) h x i - act n (toV f) (syn a f) x i) := act_congr (by rw [L.hh, L.syn_len]) L.hq x
  have hq := L.bq hx
  have h1 : Dv p (bb n (toV f) a (act n (toV f) h x)) := fun i => by
    have h2 : p ∣ bb n (toV f) a (fun i => act n (toV f) h x i - act n (toV f) (syn a f) x i) i := Int.dvd_sub (hc.tt i) (Int.dvd_trans (hc i) (Int.dvd_mul_left _ _))
    obtain ⟨y, hy⟩ := h2
    have h3 : bb n (toV f) a (act n (toV f) (syn a f) x) i = -M.val f a * x i := congrFun hq i
    unfold N.bb at hy h3 ⊢
    rw [tt_sub] at hy
    exact ⟨y - w * x i, by grind⟩
  have h2 : bb n (toV f) a (act n (toV f) h x) = fun i => p * up n f p a h x i := funext fun i => (Int.mul_ediv_cancel' (h1 i)).symm
  have hs : Sup n (act n (toV f) h x) := sup_act h hx
  refine ⟨h2, fun i hi => ?_, ?_⟩
  · show bb n (toV f) a (act n (toV f) h x) i / p = 0
    rw [sup_bb hs a i hi]
    exact Int.zero_ediv _
  · have h3 := vl_bb L.hn (act n (toV f) h x) a (c := toV f)
    rw [h2, vl_smul, fa_is L.hl L.h1, hw] at h3
    obtain ⟨y, hy⟩ := hc (n - 1)
    have h4 : act n (toV f) (syn a f) x (n - 1) = vl n x a * (syn a f).getD (n - 1) 0 - M.val f a * rest n f a x (n - 1) := congrFun (act_syn L hx) (n - 1)
    rw [L.top, hw] at h4
    have h5 : vl n (up n f p a h x) a = -(act n (toV f) h x (n - 1) * w) := Int.eq_of_mul_eq_mul_left (show p ≠ 0 by omega) (by rw [h3]; grind)
    exact ⟨-(y - w * rest n f a x (n - 1)) * w, by grind⟩
def ups (n : Nat) (f : List Int) (p a : Int) (h : List Int) : Nat → Ve
  | 0 => e0
  | j + 1 => up n f p a h (ups n f p a h j)
theorem Lin.ups_is (L : Lin n f p a h) (hw : M.val f a = p * w) (hpw : ¬ p ∣ w) : ∀ j, Sup n (ups n f p a h j) ∧ ¬ p ∣ vl n (ups n f p a h j) a ∧ bp n (toV f) a j (it n (toV f) h j e0) = fun i => p ^ j * ups n f p a h j i
  | 0 => by
    refine ⟨sup_e0 L.hn, fun hd => ?_, ?_⟩
    · have h1 : vl n (ups n f p a h 0) a = 1 := vl_e0 L.hn a
      rw [h1] at hd
      have := Int.le_of_dvd (by decide) hd
      have := L.pr.1
      omega
    · funext i
      show e0 i = p ^ 0 * e0 i
      rw [Int.pow_zero]
      grind
  | j + 1 => by
    obtain ⟨h1, h2, h3⟩ := L.ups_is hw hpw j
    obtain ⟨k1, k2, k3⟩ := L.up_is hw h1
    refine ⟨k2, fun hd => ?_, ?_⟩
    · have h5 := Int.dvd_sub hd k3
      rw [show vl n (ups n f p a h (j + 1)) a - (vl n (up n f p a h (ups n f p a h j)) a - -w * vl n (ups n f p a h j) a) = -w * vl n (ups n f p a h j) a by show vl n (up n f p a h (ups n f p a h j)) a - _ = _; grind] at h5
      rcases L.pr.2 _ _ h5 with h6 | h6
      · exact hpw (Int.dvd_neg.mp h6)
      · exact h2 h6
    · show bb n (toV f) a (bp n (toV f) a j (act n (toV f) h (it n (toV f) h j e0))) = _
      rw [← bp_act, h3, act_smul, bb_smul, k1]
      funext i
      show p ^ j * (p * up n f p a h (ups n f p a h j) i) = p ^ (j + 1) * up n f p a h (ups n f p a h j) i
      rw [Int.pow_succ]
      grind
/-- the powers of h end there too -/
theorem Lin.ram (L : Lin n f p a h) (hw : M.val f a = p * w) (hpw : ¬ p ∣ w) : Ends n (toV f) p h := fun v => ⟨n * v + 1, fun hd => by
  have hp := L.pr.1
  have hn := L.hn
  have hne : syn a f ≠ [] := fun e => by
    have := L.syn_len
    rw [e] at this
    simp at this
    omega
  obtain ⟨d, S, W, s, u, h1, oS, oW, hu, hq⟩ := L.chain hw hpw (syn a f) 0 (fun x => x) (fun x => x) 1 1 hne (by rw [L.syn_len]; exact L.top) (Op.one _ _ _ _) (Op.one _ _ _ _) (fun hd => by have := Int.le_of_dvd (by decide) hd; omega) (fun hd => by have := Int.le_of_dvd (by decide) hd; omega) (fun x hx => rfl)
  rw [L.syn_len, Nat.zero_add] at h1
  obtain ⟨k1, k2, k3⟩ := L.ups_is hw hpw (v + (n * v + 1))
  have hpj : p ^ (n * v + 1) ≠ 0 := Int.ne_of_gt (Int.pow_pos (by omega))
  have hy : it n (toV f) h (v + (n * v + 1)) e0 = fun i => p ^ (n * v + 1) * (it n (toV f) h (v + (n * v + 1)) e0 i / p ^ (n * v + 1)) := funext fun i => (Int.mul_ediv_cancel' (hd i)).symm
  have hsy : Sup n (fun i => it n (toV f) h (v + (n * v + 1)) e0 i / p ^ (n * v + 1)) := fun i hi => by
    show it n (toV f) h (v + (n * v + 1)) e0 i / p ^ (n * v + 1) = 0
    rw [sup_it (sup_e0 hn) _ i hi]
    exact Int.zero_ediv _
  rw [hy, bp_smul] at k3
  refine L.no_bp hw hpw h1 oS oW hu hq v (v + (n * v + 1)) _ _ k1 hsy k2 (by omega) ?_
  funext i
  have h5 : p ^ (n * v + 1) * bp n (toV f) a (v + (n * v + 1)) (fun i => it n (toV f) h (v + (n * v + 1)) e0 i / p ^ (n * v + 1)) i = p ^ (v + (n * v + 1)) * ups n f p a h (v + (n * v + 1)) i := congrFun k3 i
  refine Int.eq_of_mul_eq_mul_left hpj ?_
  rw [h5, Int.pow_add]
  grind⟩
end
end N
end K41
set_option Elab.async false
set_option linter.all false
set_option maxRecDepth 100000
set_option maxHeartbeats 4000000
namespace K41
namespace N
/-! the row t + s -/
def rw1 (n : Nat) (c : Ve) (s : Int) : Ve := fun i => tt n c e0 i + s * e0 i
section
variable {n : Nat} {f h : List Int} {p a w s : Int}
theorem sup_rw1 {c : Ve} (hn : 1 ≤ n) : Sup n (rw1 n c s) := fun i hi => by
  show tt n c e0 i + s * e0 i = 0
  rw [sup_tt _ i hi, sup_e0 hn i hi]
  grind
theorem vl_rw1 {c : Ve} (hn : 2 ≤ n) (a : Int) : vl n (rw1 n c s) a = a + s := by
  show vl n (fun i => tt n c e0 i + s * e0 i) a = _
  have hz : e0 (n - 1) = 0 := if_neg (by omega)
  have h1 := vl_add n (tt n c e0) (fun i => s * e0 i) a
  rw [vl_smul, vl_tt (by omega), vl_e0 (by omega), hz] at h1
  rw [h1]
  grind
theorem act_rw1 {c : Ve} (g : List Int) (hg : g.length ≤ n) : act n c g (rw1 n c s) = fun i => tt n c (toV g) i + s * toV g i := by
  show act n c g (fun i => tt n c e0 i + s * e0 i) = _
  have h1 := act_add (n := n) (c := c) g (tt n c e0) (fun i => s * e0 i)
  rw [act_smul, act_tt, act_short hg] at h1
  exact h1
theorem Lin.htop (L : Lin n f p a h) : p ∣ h.getD (n - 1) 0 - 1 := by
  have := L.hq (n - 1)
  rw [L.top] at this
  exact this
theorem Lin.hval (L : Lin n f p a h) : vl n (toV h) a = M.val h a := by rw [fa_val, L.hh]
/-- over a double root the row t + s goes once -/
theorem Lin.once (L : Lin n f p a h) (hn : 2 ≤ n) (hw : M.val f a = p * w) (hpw : ¬ p ∣ w) (hha : p ∣ M.val h a) (hs : p ∣ a + s) : ¬ Dv (p ^ 2) (it n (toV f) h 2 (rw1 n (toV f) s)) := fun hd => by
  have hp := L.pr.1
  have hsx : Sup n (rw1 n (toV f) s) := sup_rw1 L.hn
  have hd1 : Dv p (act n (toV f) h (rw1 n (toV f) s)) := (L.ker hsx).mpr (by rw [vl_rw1 hn]; exact hs)
  have hy : act n (toV f) h (rw1 n (toV f) s) = fun i => p * (act n (toV f) h (rw1 n (toV f) s) i / p) := funext fun i => (Int.mul_ediv_cancel' (hd1 i)).symm
  have hsy : Sup n (fun i => act n (toV f) h (rw1 n (toV f) s) i / p) := fun i hi => by
    show act n (toV f) h (rw1 n (toV f) s) i / p = 0
    rw [sup_act h hsx i hi]
    exact Int.zero_ediv _
  have hd2 : Dv p (act n (toV f) h (fun i => act n (toV f) h (rw1 n (toV f) s) i / p)) := by
    refine dv_mul (p := p) (by omega) ?_
    have e : it n (toV f) h 2 (rw1 n (toV f) s) = fun i => p * act n (toV f) h (fun i => act n (toV f) h (rw1 n (toV f) s) i / p) i := by
      show act n (toV f) h (act n (toV f) h (rw1 n (toV f) s)) = _
      conv => lhs; rw [hy]
      rw [act_smul]
    rw [e] at hd
    rw [show (2 : Nat) = 1 + 1 from rfl, Int.pow_succ, Int.pow_succ, Int.pow_zero, Int.one_mul] at hd
    exact hd
  obtain ⟨z, hz⟩ := (L.ker hsy).mp hd2
  have h1 : vl n (act n (toV f) h (rw1 n (toV f) s)) a = p * (p * z) := by
    rw [hy, vl_smul, hz]
  rw [act_rw1 h (by rw [L.hh]; exact Nat.le_refl _), vl_add, vl_smul, vl_tt L.hn, L.hval, fa_is L.hl L.h1, hw] at h1
  obtain ⟨u, hu⟩ := hha
  obtain ⟨v, hv⟩ := hs
  obtain ⟨t, ht⟩ := L.htop
  have ht2 : toV h (n - 1) = 1 + p * t := by show h.getD (n - 1) 0 = _; grind
  rw [hu, ht2] at h1
  have h2 : p * (w * (1 + p * t)) = p * (p * (v * u - z)) := by grind
  have h3 := Int.eq_of_mul_eq_mul_left (show p ≠ 0 by omega) h2
  exact hpw ⟨v * u - z - w * t, by grind⟩
/-- over another root it does not go -/
theorem Lin.none (L : Lin n f p a h) (hn : 2 ≤ n) (hs : ¬ p ∣ a + s) : ¬ Dv p (act n (toV f) h (rw1 n (toV f) s)) := fun hd => by
  have := (L.ker (sup_rw1 L.hn)).mp hd
  rw [vl_rw1 hn] at this
  exact hs this
/-- where h is shorter and has the top 1 it does not go -/
theorem short_none {c : Ve} (hp : 2 ≤ p) {d : Nat} (hd : d + 1 < n) (hl : h.length ≤ n) (h1 : p ∣ h.getD d 0 - 1) (h0 : ∀ i, d < i → h.getD i 0 = 0) : ¬ Dv p (act n c h (rw1 n c s)) := fun hdv => by
  have h2 := hdv (d + 1)
  rw [act_rw1 h hl] at h2
  have e1 : toV h (n - 1) = 0 := h0 _ (by omega)
  have e2 : toV h (d + 1) = 0 := h0 _ (by omega)
  have e3 : tt n c (toV h) (d + 1) = h.getD d 0 := by
    unfold tt
    rw [if_pos hd, if_neg (by omega), e1]
    show h.getD d 0 - 0 * c (d + 1) = _
    grind
  have h3 : p ∣ tt n c (toV h) (d + 1) + s * toV h (d + 1) := h2
  rw [e2, e3] at h3
  obtain ⟨u, hu⟩ := h3
  obtain ⟨v, hv⟩ := h1
  have : p ∣ 1 := ⟨u - v, by grind⟩
  have := Int.le_of_dvd (by decide) this
  omega
end
end N
end K41
set_option Elab.async false
set_option linter.all false
set_option maxRecDepth 100000
set_option maxHeartbeats 4000000
namespace K41
namespace N
/-! what is a multiple of x -/
def In (n : Nat) (c : Ve) (x z : Ve) : Prop := ∃ y : List Int, act n c y x = z
def ladd : List Int → List Int → List Int
  | [], h => h
  | a :: g, [] => a :: g
  | a :: g, b :: h => (a + b) :: ladd g h
section
variable {n : Nat} {c : Ve} {x y z : Ve}
theorem act_ladd : ∀ (g h : List Int) (x : Ve), act n c (ladd g h) x = fun i => act n c g x i + act n c h x i
  | [], h, x => by
    funext i
    show act n c h x i = 0 + _
    grind
  | a :: g, [], x => by
    funext i
    show act n c (a :: g) x i = _ + 0
    grind
  | a :: g, b :: h, x => by
    show act n c ((a + b) :: ladd g h) x = _
    rw [act_cons, act_ladd g h x, tt_add, act_cons, act_cons]
    funext i
    grind
theorem act_map (k : Int) : ∀ (g : List Int) (x : Ve), act n c (g.map (k * ·)) x = fun i => k * act n c g x i
  | [], x => by
    funext i
    exact (Int.mul_zero k).symm
  | a :: g, x => by
    rw [List.map_cons, act_cons, act_map k g x, tt_smul, act_cons]
    funext i
    grind
theorem In.self : In n c x x := ⟨[1], by
  rw [act_cons]
  funext i
  show 1 * x i + tt n c (fun _ => 0) i = x i
  rw [tt_zero]
  grind⟩
theorem In.add (h : In n c x y) (h' : In n c x z) : In n c x (fun i => y i + z i) := by
  obtain ⟨g, rfl⟩ := h
  obtain ⟨g', rfl⟩ := h'
  exact ⟨ladd g g', act_ladd g g' x⟩
theorem In.smul (k : Int) (h : In n c x y) : In n c x (fun i => k * y i) := by
  obtain ⟨g, rfl⟩ := h
  exact ⟨g.map (k * ·), act_map k g x⟩
theorem In.tt (h : In n c x y) : In n c x (N.tt n c y) := by
  obtain ⟨g, rfl⟩ := h
  refine ⟨0 :: g, ?_⟩
  rw [act_cons]
  funext i
  grind
theorem In.act (g : List Int) (h : In n c x y) : In n c x (N.act n c g y) := by
  obtain ⟨g', rfl⟩ := h
  induction g with
  | nil => exact ⟨[], rfl⟩
  | cons a g ih => exact (In.smul a ⟨g', rfl⟩).add ih.tt
/-- a whole number but nought in the multiples of x -/
def Whole (n : Nat) (c : Ve) (x : Ve) : Prop := ∃ N : Int, N ≠ 0 ∧ In n c x (fun i => N * e0 i)
end
/-- t + s -/
theorem whole1 {n : Nat} {f : List Int} (hn : 1 ≤ n) (hl : f.length = n + 1) (h1 : f.getD n 0 = 1) {s : Int} (hs : M.val f (-s) ≠ 0) : Whole n (toV f) (rw1 n (toV f) s) := by
  refine ⟨-M.val f (-s), by omega, syn (-s) f, ?_⟩
  have e : rw1 n (toV f) s = bb n (toV f) (-s) e0 := by
    unfold rw1 bb
    funext i
    grind
  have hz := act_self hn hl h1 (sup_e0 hn)
  rw [syn_act (-s) e0 f] at hz
  rw [e, act_bb]
  funext i
  have h3 : M.val f (-s) * e0 i + bb n (toV f) (-s) (act n (toV f) (syn (-s) f) e0) i = 0 := congrFun hz i
  grind
/-- square roots, cube roots of whole numbers -/
theorem pow_root {E O s : Int} {k : Nat} (hk : k ≠ 0) (hO : O ≠ 0) (h : E ^ k = s * O ^ k) : ∃ w, E = O * w ∧ w ^ k = s := by
  have h1 : O.natAbs ^ k ∣ E.natAbs ^ k := by
    rw [← Int.natAbs_pow, ← Int.natAbs_pow]
    exact Int.natAbs_dvd_natAbs.mpr ⟨s, by rw [h, Int.mul_comm]⟩
  obtain ⟨w, rfl⟩ := Int.natAbs_dvd_natAbs.mp ((Nat.pow_dvd_pow_iff hk).mp h1)
  refine ⟨w, rfl, ?_⟩
  rw [Int.mul_pow, Int.mul_comm] at h
  exact Int.eq_of_mul_eq_mul_right (Int.pow_ne_zero hO) h
section
variable {n : Nat} {c x : Ve}
abbrev t1 (n : Nat) (c : Ve) : Ve := tt n c e0
abbrev t2 (n : Nat) (c : Ve) : Ve := tt n c (t1 n c)
abbrev t3 (n : Nat) (c : Ve) : Ve := tt n c (t2 n c)
/-- the row t ^ 2 + s -/
def rw2 (n : Nat) (c : Ve) (s : Int) : Ve := fun i => t2 n c i + s * e0 i
/-- the row t ^ 3 + s -/
def rw3 (n : Nat) (c : Ve) (s : Int) : Ve := fun i => t3 n c i + s * e0 i
theorem conj2 {s O E : Int} (h : In n c (rw2 n c s) (fun i => O * t1 n c i + E * e0 i)) : In n c (rw2 n c s) (fun i => (E * E + s * (O * O)) * e0 i) := by
  have h1 := (h.smul E).add ((h.tt.smul (-O)).add ((In.self (n := n) (c := c) (x := rw2 n c s)).smul (O * O)))
  obtain ⟨y, hy⟩ := h1
  refine ⟨y, hy.trans ?_⟩
  rw [tt_add, tt_smul, tt_smul]
  unfold rw2
  funext i
  grind
end
theorem rel3 {c0 c1 c2 : Int} (i : Nat) : tt 3 (toV [c0, c1, c2, 1]) (t2 3 (toV [c0, c1, c2, 1])) i = -c0 * e0 i - c1 * t1 3 (toV [c0, c1, c2, 1]) i - c2 * t2 3 (toV [c0, c1, c2, 1]) i := by
  have hz := act_self0 (n := 3) (by decide) (f := [c0, c1, c2, 1]) rfl rfl
  rw [act_cons, act_cons, act_cons, act_cons] at hz
  have e : act 3 (toV [c0, c1, c2, 1]) [] e0 = fun _ => 0 := rfl
  rw [e] at hz
  simp only [tt_add, tt_smul, tt_zero] at hz
  have h3 := congrFun hz i
  grind
theorem rel4 {c0 c1 c2 c3 : Int} (i : Nat) : tt 4 (toV [c0, c1, c2, c3, 1]) (t3 4 (toV [c0, c1, c2, c3, 1])) i = -c0 * e0 i - c1 * t1 4 (toV [c0, c1, c2, c3, 1]) i - c2 * t2 4 (toV [c0, c1, c2, c3, 1]) i - c3 * t3 4 (toV [c0, c1, c2, c3, 1]) i := by
  have hz := act_self0 (n := 4) (by decide) (f := [c0, c1, c2, c3, 1]) rfl rfl
  rw [act_cons, act_cons, act_cons, act_cons, act_cons] at hz
  have e : act 4 (toV [c0, c1, c2, c3, 1]) [] e0 = fun _ => 0 := rfl
  rw [e] at hz
  simp only [tt_add, tt_smul, tt_zero] at hz
  have h3 := congrFun hz i
  grind
theorem val3 (c0 c1 c2 a : Int) : M.val [c0, c1, c2, 1] a = c0 + c1 * a + c2 * a * a + a * a * a := by
  simp only [val_cons, M.val]
  grind
theorem val4 (c0 c1 c2 c3 a : Int) : M.val [c0, c1, c2, c3, 1] a = c0 + c1 * a + c2 * a * a + c3 * a * a * a + a * a * a * a := by
  simp only [val_cons, M.val]
  grind
theorem sq_root {E O s : Int} (hO : O ≠ 0) (h : E * E + s * (O * O) = 0) : ∃ w, E = O * w ∧ w * w = -s := by
  obtain ⟨w, h1, h2⟩ := pow_root (k := 2) (E := E) (O := O) (s := -s) (by decide) hO (by grind)
  exact ⟨w, h1, by grind⟩
theorem whole2_3 {c0 c1 c2 s : Int} (hr : ∀ a, M.val [c0, c1, c2, 1] a ≠ 0) : Whole 3 (toV [c0, c1, c2, 1]) (rw2 3 (toV [c0, c1, c2, 1]) s) := by
  refine ⟨(c2 * s - c0) * (c2 * s - c0) + s * ((s - c1) * (s - c1)), fun hz => ?_, conj2 ?_⟩
  · by_cases hO : s - c1 = 0
    · rw [hO] at hz
      have hE : c2 * s - c0 = 0 := by
        have : (c2 * s - c0) * (c2 * s - c0) = 0 := by grind
        rcases Int.mul_eq_zero.mp this with h | h <;> exact h
      apply hr (-c2)
      rw [val3]
      grind
    · obtain ⟨w, h1, h2⟩ := sq_root hO hz
      apply hr (-w)
      rw [val3]
      grind
  · have h1 := (In.self (n := 3) (c := toV [c0, c1, c2, 1]) (x := rw2 3 (toV [c0, c1, c2, 1]) s)).tt.add ((In.self (n := 3) (c := toV [c0, c1, c2, 1]) (x := rw2 3 (toV [c0, c1, c2, 1]) s)).smul c2)
    obtain ⟨y, hy⟩ := h1
    refine ⟨y, hy.trans ?_⟩
    unfold rw2
    rw [tt_add, tt_smul]
    funext i
    have := rel3 (c0 := c0) (c1 := c1) (c2 := c2) i
    grind
theorem whole2_4 {c0 c1 c2 c3 s : Int} (hr : ∀ a, M.val [c0, c1, c2, c3, 1] a ≠ 0) (hq : ∀ b a b' a', c0 = b * b' → c1 = a * b' + a' * b → c2 = b + b' + a * a' → c3 = a + a' → False) : Whole 4 (toV [c0, c1, c2, c3, 1]) (rw2 4 (toV [c0, c1, c2, c3, 1]) s) := by
  refine ⟨((c2 - s) * s - c0) * ((c2 - s) * s - c0) + s * ((c3 * s - c1) * (c3 * s - c1)), fun hz => ?_, conj2 ?_⟩
  · by_cases hO : c3 * s - c1 = 0
    · rw [hO] at hz
      have hE : (c2 - s) * s - c0 = 0 := by
        have : ((c2 - s) * s - c0) * ((c2 - s) * s - c0) = 0 := by grind
        rcases Int.mul_eq_zero.mp this with h | h <;> exact h
      exact hq s 0 (c2 - s) c3 (by grind) (by grind) (by grind) (by grind)
    · obtain ⟨w, h1, h2⟩ := sq_root hO hz
      apply hr (-w)
      rw [val4]
      grind
  · have hx := In.self (n := 4) (c := toV [c0, c1, c2, c3, 1]) (x := rw2 4 (toV [c0, c1, c2, c3, 1]) s)
    have h1 := hx.tt.tt.add ((hx.tt.smul c3).add (hx.smul (c2 - s)))
    obtain ⟨y, hy⟩ := h1
    refine ⟨y, hy.trans ?_⟩
    unfold rw2
    simp only [tt_add, tt_smul]
    funext i
    have := rel4 (c0 := c0) (c1 := c1) (c2 := c2) (c3 := c3) i
    grind
theorem whole_lin {c0 c1 c2 c3 s γ δ : Int} (hr : ∀ a, M.val [c0, c1, c2, c3, 1] a ≠ 0) (h : In 4 (toV [c0, c1, c2, c3, 1]) (rw3 4 (toV [c0, c1, c2, c3, 1]) s) (fun i => γ * t1 4 (toV [c0, c1, c2, c3, 1]) i + δ * e0 i)) (hne : ¬ (γ = 0 ∧ δ = 0)) :
    Whole 4 (toV [c0, c1, c2, c3, 1]) (rw3 4 (toV [c0, c1, c2, c3, 1]) s) := by
  by_cases hγ : γ = 0
  · refine ⟨δ, fun e => hne ⟨hγ, e⟩, ?_⟩
    rw [hγ] at h
    obtain ⟨y, hy⟩ := h
    refine ⟨y, hy.trans ?_⟩
    funext i
    grind
  · by_cases hc : δ ^ 3 = s * γ ^ 3
    · obtain ⟨w, h1, h2⟩ := pow_root (by decide) hγ hc
      refine ⟨-(γ * M.val [c0, c1, c2, c3, 1] (-w)), ?_, ?_⟩
      · intro e
        rcases Int.mul_eq_zero.mp (Int.neg_eq_zero.mp e) with h3 | h3
        · exact hγ h3
        · exact hr _ h3
      · have h3 := h.act (syn (-w) [c0, c1, c2, c3, 1])
        have e : (fun i => γ * t1 4 (toV [c0, c1, c2, c3, 1]) i + δ * e0 i) = fun i => γ * bb 4 (toV [c0, c1, c2, c3, 1]) (-w) e0 i := by
          unfold bb
          funext i
          rw [h1]
          grind
        rw [e, act_smul, act_bb] at h3
        obtain ⟨y, hy⟩ := h3
        refine ⟨y, hy.trans ?_⟩
        have hz := act_self (n := 4) (by decide) (f := [c0, c1, c2, c3, 1]) rfl rfl (sup_e0 (by decide))
        rw [syn_act (-w) e0 [c0, c1, c2, c3, 1]] at hz
        funext i
        have h5 : M.val [c0, c1, c2, c3, 1] (-w) * e0 i + bb 4 (toV [c0, c1, c2, c3, 1]) (-w) (act 4 (toV [c0, c1, c2, c3, 1]) (syn (-w) [c0, c1, c2, c3, 1]) e0) i = 0 := congrFun hz i
        grind
    · refine ⟨δ ^ 3 - s * γ ^ 3, by omega, ?_⟩
      have hx := In.self (n := 4) (c := toV [c0, c1, c2, c3, 1]) (x := rw3 4 (toV [c0, c1, c2, c3, 1]) s)
      have h1 := (h.tt.tt.smul (γ * γ)).add ((h.tt.smul (-(γ * δ))).add ((h.smul (δ * δ)).add (hx.smul (-(γ * γ * γ)))))
      obtain ⟨y, hy⟩ := h1
      refine ⟨y, hy.trans ?_⟩
      unfold rw3
      simp only [tt_add, tt_smul]
      funext i
      grind
theorem whole3_4 {c0 c1 c2 c3 s : Int} (hr : ∀ a, M.val [c0, c1, c2, c3, 1] a ≠ 0) (hq : ∀ b a b' a', c0 = b * b' → c1 = a * b' + a' * b → c2 = b + b' + a * a' → c3 = a + a' → False) : Whole 4 (toV [c0, c1, c2, c3, 1]) (rw3 4 (toV [c0, c1, c2, c3, 1]) s) := by
  have hx := In.self (n := 4) (c := toV [c0, c1, c2, c3, 1]) (x := rw3 4 (toV [c0, c1, c2, c3, 1]) s)
  have hR : In 4 (toV [c0, c1, c2, c3, 1]) (rw3 4 (toV [c0, c1, c2, c3, 1]) s) (fun i => c2 * t2 4 (toV [c0, c1, c2, c3, 1]) i + ((c1 - s) * t1 4 (toV [c0, c1, c2, c3, 1]) i + (c0 - c3 * s) * e0 i)) := by
    have h1 := (hx.tt.add (hx.smul c3)).smul (-1)
    obtain ⟨y, hy⟩ := h1
    refine ⟨y, hy.trans ?_⟩
    unfold rw3
    simp only [tt_add, tt_smul]
    funext i
    have := rel4 (c0 := c0) (c1 := c1) (c2 := c2) (c3 := c3) i
    grind
  by_cases h2 : c2 = 0
  · refine whole_lin hr (γ := c1 - s) (δ := c0 - c3 * s) ?_ (fun ⟨h3, h4⟩ => ?_)
    · rw [h2] at hR
      obtain ⟨y, hy⟩ := hR
      refine ⟨y, ?_⟩
      rw [h2]
      refine hy.trans ?_
      funext i
      grind
    · apply hr (-c3)
      rw [val4]
      grind
  · refine whole_lin hr (γ := c2 * (c0 - c3 * s) - (c1 - s) * (c1 - s)) (δ := -((c1 - s) * (c0 - c3 * s) + c2 * c2 * s)) ?_ (fun ⟨h3, h4⟩ => ?_)
    · have h1 := (hR.tt.smul c2).add ((hR.smul (-(c1 - s))).add (hx.smul (-(c2 * c2))))
      obtain ⟨y, hy⟩ := h1
      refine ⟨y, hy.trans ?_⟩
      unfold rw3
      simp only [tt_add, tt_smul]
      funext i
      grind
    · have h5 : (c1 - s) ^ 3 = -s * c2 ^ 3 := by grind
      obtain ⟨w, k1, k2⟩ := pow_root (by decide) h2 h5
      have k3 : c0 - c3 * s = c2 * (w * w) := Int.eq_of_mul_eq_mul_left h2 (by grind)
      exact hq (w * w) w (c2 - w * c3) (c3 - w) (by grind) (by grind) (by grind) (by grind)
end N
end K41
set_option Elab.async false
set_option linter.all false
set_option maxRecDepth 100000
set_option maxHeartbeats 4000000
namespace K41
namespace N
/-! division mod p, as operators -/
theorem turned_one {p : Int} (hp : 2 ≤ p) : M.turned 1 p = 1 := by
  have h1 : (1 : Int) % p = 1 := Int.emod_eq_of_lt (by decide) (by omega)
  unfold M.turned
  obtain ⟨k, hk⟩ : ∃ k, p.toNat = k + 1 := ⟨p.toNat - 1, by omega⟩
  rw [h1, hk]
  show (if (1 : Int) < 1 then _ else (1 : Int)) % p = 1
  rw [if_neg (by decide), h1]
def tp (n : Nat) (c : Ve) : Nat → Ve → Ve
  | 0, x => x
  | k + 1, x => tt n c (tp n c k x)
section
variable {n : Nat} {c : Ve}
theorem tp_add (k : Nat) (x y : Ve) : tp n c k (fun i => x i + y i) = fun i => tp n c k x i + tp n c k y i := by
  induction k with
  | zero => rfl
  | succ k ih => show tt n c (tp n c k _) = _; rw [ih, tt_add]; rfl
theorem tp_smul (k : Nat) (u : Int) (x : Ve) : tp n c k (fun i => u * x i) = fun i => u * tp n c k x i := by
  induction k with
  | zero => rfl
  | succ k ih => show tt n c (tp n c k _) = _; rw [ih, tt_smul]; rfl
theorem tp_tt (k : Nat) (x : Ve) : tp n c k (tt n c x) = tt n c (tp n c k x) := by
  induction k with
  | zero => rfl
  | succ k ih => show tt n c (tp n c k _) = _; rw [ih]; rfl
theorem act_set : ∀ (l : List Int) (m : Nat) (v : Int) (x : Ve), m < l.length → act n c (l.set m v) x = fun i => act n c l x i + (v - l.getD m 0) * tp n c m x i
  | a :: l, 0, v, x, _ => by
    show act n c (v :: l) x = _
    rw [act_cons, act_cons]
    funext i
    show _ = _ + (v - a) * x i
    grind
  | a :: l, m + 1, v, x, h => by
    show act n c (a :: l.set m v) x = _
    rw [act_cons, act_set l m v x (by simpa using h), act_cons, tt_add, tt_smul]
    funext i
    show _ = _ + (v - l.getD m 0) * tt n c (tp n c m x) i
    grind
theorem act_take : ∀ (g : List Int) (j : Nat) (x : Ve), act n c (g.take (j + 1)) x = fun i => act n c (g.take j) x i + g.getD j 0 * tp n c j x i
  | [], j, x => by
    funext i
    show (0 : Int) = (act n c (List.take j []) x i) + _
    rw [List.take_nil]
    show (0 : Int) = 0 + [].getD j 0 * _
    rw [show ([] : List Int).getD j 0 = 0 by simp]
    grind
  | a :: g, 0, x => by
    funext i
    show a * x i + tt n c (fun _ => 0) i = 0 + a * x i
    rw [tt_zero]
    grind
  | a :: g, j + 1, x => by
    show act n c (a :: g.take (j + 1)) x = _
    rw [act_cons, act_take g j x, tt_add, tt_smul]
    funext i
    show a * x i + (tt n c (act n c (g.take j) x) i + g.getD j 0 * tt n c (tp n c j x) i) = (a * x i + tt n c (act n c (g.take j) x) i) + g.getD j 0 * tt n c (tp n c j x) i
    grind
theorem tp_plus (j k : Nat) (x : Ve) : tp n c (j + k) x = tp n c j (tp n c k x) := by
  induction j with
  | zero => rw [Nat.zero_add]; rfl
  | succ j ih =>
    rw [show j + 1 + k = (j + k) + 1 by omega]
    show tt n c (tp n c (j + k) x) = tt n c (tp n c j (tp n c k x))
    rw [ih]
theorem act_msub (p : Int) (g : List Int) (part : Int) (at_ : Nat) (l : List Int) (x : Ve) (i : Nat) : ∀ j, at_ + j ≤ l.length → p ∣ act n c (M.msubTo p g part at_ j l) x i - (act n c l x i - part * tp n c at_ (act n c (g.take j) x) i)
  | 0, _ => ⟨0, by
    show act n c l x i - (act n c l x i - part * tp n c at_ (fun _ => 0) i) = _
    have h := tp_smul (n := n) (c := c) at_ 0 (fun _ => 0)
    simp only [Int.zero_mul] at h
    rw [h]
    grind⟩
  | j + 1, h => by
    obtain ⟨z, hz⟩ := act_msub p g part at_ l x i j (by omega)
    have hl : at_ + j < (M.msubTo p g part at_ j l).length := by rw [msubTo_len]; omega
    show p ∣ act n c ((M.msubTo p g part at_ j l).set (at_ + j) (((M.msubTo p g part at_ j l).getD (at_ + j) 0 - part * g.getD j 0) % p)) x i - _
    rw [act_set _ _ _ _ hl, act_take, tp_add, tp_smul, ← tp_plus]
    show p ∣ (act n c (M.msubTo p g part at_ j l) x i + (((M.msubTo p g part at_ j l).getD (at_ + j) 0 - part * g.getD j 0) % p - (M.msubTo p g part at_ j l).getD (at_ + j) 0) * tp n c (at_ + j) x i) - (act n c l x i - part * (tp n c at_ (act n c (List.take j g) x) i + g.getD j 0 * tp n c (at_ + j) x i))
    have hm := Int.emod_add_mul_ediv ((M.msubTo p g part at_ j l).getD (at_ + j) 0 - part * g.getD j 0) p
    generalize (M.msubTo p g part at_ j l).getD (at_ + j) 0 = u at *
    generalize act n c (M.msubTo p g part at_ j l) x i = A at *
    generalize tp n c at_ (act n c (List.take j g) x) i = Bq at *
    exact ⟨z - (u - part * g.getD j 0) / p * tp n c (at_ + j) x i, by grind⟩
theorem act_tp (g : List Int) (x : Ve) : ∀ k, act n c g (tp n c k x) = tp n c k (act n c g x)
  | 0 => rfl
  | k + 1 => by
    show act n c g (tt n c (tp n c k x)) = tt n c (tp n c k (act n c g x))
    rw [act_tt, act_tp g x k]
theorem act_mdivTo {p back : Int} {g : List Int} {k : Nat} {l : List Int} (hg : 1 ≤ g.length) (hl : l.length = k + (g.length - 1)) (x : Ve) (m : Nat) : ∀ i, i ≤ k → p ∣ act n c l x m - (act n c (M.mdivTo p back g (g.length - 1) k l i).1 x m + act n c g (tp n c (k - i) (act n c (M.mdivTo p back g (g.length - 1) k l i).2.reverse x)) m)
  | 0, _ => ⟨0, by
    show act n c l x m - (act n c l x m + act n c g (tp n c (k - 0) (fun _ => 0)) m) = _
    have h := tp_smul (n := n) (c := c) (k - 0) 0 (fun _ => 0)
    simp only [Int.zero_mul] at h
    rw [h, act_zero]
    grind⟩
  | i + 1, hi => by
    obtain ⟨z, hz⟩ := act_mdivTo (p := p) (back := back) hg hl x m i (by omega)
    have hlen := (mdivTo_len p back g (g.length - 1) k l i).1
    have h1 := act_msub (n := n) (c := c) p g ((M.mdivTo p back g (g.length - 1) k l i).1.getD (k - 1 - i + (g.length - 1)) 0 * back % p) (k - 1 - i) (M.mdivTo p back g (g.length - 1) k l i).1 x m (g.length - 1 + 1) (by rw [hlen]; omega)
    rw [List.take_of_length_le (show g.length ≤ g.length - 1 + 1 by omega)] at h1
    show p ∣ act n c l x m - (act n c (M.msubTo p g ((M.mdivTo p back g (g.length - 1) k l i).1.getD (k - 1 - i + (g.length - 1)) 0 * back % p) (k - 1 - i) (g.length - 1 + 1) (M.mdivTo p back g (g.length - 1) k l i).1) x m + act n c g (tp n c (k - (i + 1)) (act n c ((M.mdivTo p back g (g.length - 1) k l i).2 ++ [(M.mdivTo p back g (g.length - 1) k l i).1.getD (k - 1 - i + (g.length - 1)) 0 * back % p]).reverse x)) m)
    generalize (M.mdivTo p back g (g.length - 1) k l i).1.getD (k - 1 - i + (g.length - 1)) 0 * back % p = part at *
    generalize (M.mdivTo p back g (g.length - 1) k l i) = S at *
    rw [List.reverse_append]
    show p ∣ act n c l x m - (act n c (M.msubTo p g part (k - 1 - i) (g.length - 1 + 1) S.1) x m + act n c g (tp n c (k - (i + 1)) (act n c (part :: S.2.reverse) x)) m)
    have e : tp n c (k - (i + 1)) (act n c (part :: S.2.reverse) x) = fun j => part * tp n c (k - 1 - i) x j + tp n c (k - i) (act n c S.2.reverse x) j := by
      rw [act_cons, tp_add, tp_smul, tp_tt, show k - (i + 1) = k - 1 - i by omega, show k - i = (k - 1 - i) + 1 by omega]
      rfl
    rw [e, act_add, act_smul, act_tp g x]
    obtain ⟨y, hy⟩ := h1
    exact ⟨z - y, by grind⟩
theorem act_cut : ∀ (l : List Int) (x : Ve), act n c (M.cut l) x = act n c l x
  | [], _ => rfl
  | a :: l, x => by
    have ih := act_cut l x
    unfold M.cut
    cases e : M.cut l with
    | nil =>
      rw [e] at ih
      have ih : (fun _ => 0) = act n c l x := ih
      rw [act_cons, ← ih, tt_zero]
      by_cases ha : a = 0
      · rw [if_pos ha, ha]
        show (fun _ => (0 : Int)) = _
        funext i
        grind
      · rw [if_neg ha]
        show (fun i => a * x i + tt n c (fun _ => 0) i) = _
        rw [tt_zero]
    | cons d r =>
      rw [e] at ih
      show act n c (a :: d :: r) x = _
      rw [act_cons, ih, act_cons]
end
theorem getD_set_ne {l : List Int} {i m : Nat} {v : Int} (h : i ≠ m) : (l.set i v).getD m 0 = l.getD m 0 := by
  rw [List.getD_eq_getElem?_getD, List.getD_eq_getElem?_getD, List.getElem?_set_ne h]
theorem getD_set_eq {l : List Int} {i : Nat} {v : Int} (h : i < l.length) : (l.set i v).getD i 0 = v := by
  rw [List.getD_eq_getElem?_getD, List.getElem?_set_self h]
  rfl
theorem msubTo_far (p : Int) (g : List Int) (part : Int) (at_ : Nat) (l : List Int) {m : Nat} : ∀ j, at_ + j ≤ m → (M.msubTo p g part at_ j l).getD m 0 = l.getD m 0
  | 0, _ => rfl
  | j + 1, h => by
    show ((M.msubTo p g part at_ j l).set (at_ + j) _).getD m 0 = _
    rw [getD_set_ne (by omega), msubTo_far p g part at_ l j (by omega)]
theorem mdivTo_top {p : Int} {g : List Int} {k : Nat} {l : List Int} (hg : 1 ≤ g.length) (hl : l.length = k + (g.length - 1)) (h1 : g.getD (g.length - 1) 0 = 1) : ∀ i, i ≤ k → ∀ m, k - i + (g.length - 1) ≤ m → p ∣ (M.mdivTo p 1 g (g.length - 1) k l i).1.getD m 0
  | 0, _, m, hm => by
    show p ∣ l.getD m 0
    rw [getD_none (by omega)]
    exact Int.dvd_zero _
  | i + 1, hi, m, hm => by
    have ih := mdivTo_top (p := p) hg hl h1 i (by omega)
    have hlen := (mdivTo_len p 1 g (g.length - 1) k l i).1
    show p ∣ (M.msubTo p g ((M.mdivTo p 1 g (g.length - 1) k l i).1.getD (k - 1 - i + (g.length - 1)) 0 * 1 % p) (k - 1 - i) (g.length - 1 + 1) (M.mdivTo p 1 g (g.length - 1) k l i).1).getD m 0
    generalize (M.mdivTo p 1 g (g.length - 1) k l i).1 = L at *
    by_cases e : m = k - 1 - i + (g.length - 1)
    · subst e
      show p ∣ ((M.msubTo p g _ (k - 1 - i) (g.length - 1) L).set (k - 1 - i + (g.length - 1)) (((M.msubTo p g _ (k - 1 - i) (g.length - 1) L).getD (k - 1 - i + (g.length - 1)) 0 - _ * g.getD (g.length - 1) 0) % p)).getD (k - 1 - i + (g.length - 1)) 0
      rw [getD_set_eq (by rw [msubTo_len]; omega), msubTo_far _ _ _ _ _ _ (Nat.le_refl _), h1, Int.mul_one, Int.mul_one]
      have e2 := Int.emod_add_mul_ediv (L.getD (k - 1 - i + (g.length - 1)) 0) p
      generalize L.getD (k - 1 - i + (g.length - 1)) 0 = u at *
      rw [show u - u % p = p * (u / p) by omega, Int.mul_emod_right]
      exact Int.dvd_zero _
    · rw [msubTo_far _ _ _ _ _ _ (by omega)]
      exact ih m (by omega)
theorem act_top {n : Nat} {c : Ve} {p : Int} {l : List Int} {d : Nat} (h : ∀ m, d ≤ m → p ∣ l.getD m 0) (x : Ve) (i : Nat) : ∀ j, p ∣ act n c (l.take (d + j)) x i - act n c (l.take d) x i
  | 0 => ⟨0, by rw [Nat.add_zero]; grind⟩
  | j + 1 => by
    obtain ⟨z, hz⟩ := act_top (n := n) (c := c) h x i j
    obtain ⟨u, hu⟩ := h (d + j) (by omega)
    rw [show d + (j + 1) = d + j + 1 by omega, act_take]
    show p ∣ (act n c (l.take (d + j)) x i + l.getD (d + j) 0 * tp n c (d + j) x i) - act n c (l.take d) x i
    rw [hu]
    exact ⟨z + u * tp n c (d + j) x i, by grind⟩
/-- division mod p -/
theorem act_mdiv {n : Nat} {c : Ve} {p : Int} {g l : List Int} (hg : 1 ≤ g.length) (h1 : g.getD (g.length - 1) 0 = 1) (hl : g.length ≤ l.length + 1) (x : Ve) (i : Nat) : p ∣ act n c l x i - (act n c g (act n c (M.mdiv p 1 g l).1 x) i + act n c (M.mdiv p 1 g l).2 x i) := by
  have hk : l.length = (l.length + 1 - g.length) + (g.length - 1) := by omega
  obtain ⟨z, hz⟩ := act_mdivTo (n := n) (c := c) (p := p) (back := 1) hg hk x i (l.length + 1 - g.length) (Nat.le_refl _)
  have ht := mdivTo_top (p := p) hg hk h1 (l.length + 1 - g.length) (Nat.le_refl _)
  rw [Nat.sub_self, Nat.zero_add] at ht
  unfold M.mdiv
  show p ∣ act n c l x i - (act n c g (act n c (M.cut _) x) i + act n c (M.cut _) x i)
  rw [act_cut, act_cut]
  obtain ⟨y, hy⟩ := act_top (n := n) (c := c) ht x i (M.mdivTo p 1 g (g.length - 1) (l.length + 1 - g.length) l (l.length + 1 - g.length)).1.length
  rw [List.take_of_length_le (Nat.le_add_left _ _)] at hy
  rw [Nat.sub_self] at hz
  have hz2 : act n c l x i - (act n c (M.mdivTo p 1 g (g.length - 1) (l.length + 1 - g.length) l (l.length + 1 - g.length)).1 x i + act n c g (act n c (M.mdivTo p 1 g (g.length - 1) (l.length + 1 - g.length) l (l.length + 1 - g.length)).2.reverse x) i) = p * z := hz
  exact ⟨z + y, by grind⟩
end N
end K41
set_option Elab.async false
set_option linter.all false
set_option maxRecDepth 100000
set_option maxHeartbeats 4000000
namespace K41
namespace N
/-! the product of t - a over a list of a -/
def bbs (n : Nat) (c : Ve) : List Int → Ve → Ve
  | [], x => x
  | a :: as, x => bb n c a (bbs n c as x)
def syns (n : Nat) (c : Ve) (g : List Int) : List Int → Ve → Ve
  | [], x => x
  | a :: as, x => syns n c g as (act n c (syn a g) x)
def vals (g : List Int) : List Int → Int
  | [] => 1
  | a :: as => -M.val g a * vals g as
section
variable {n : Nat} {c : Ve}
theorem bbs_smul (k : Int) : ∀ (as : List Int) (x : Ve), bbs n c as (fun i => k * x i) = fun i => k * bbs n c as x i
  | [], x => rfl
  | a :: as, x => by
    show bb n c a (bbs n c as fun i => k * x i) = _
    rw [bbs_smul k as x, bb_smul]
    rfl
end
/-- x at t modulo another polynomial: sum of x_i t^i e0 -/
def rho (d : Nat) (b : Ve) : Nat → Ve → Ve
  | 0, _ => fun _ => 0
  | k + 1, x => fun i => rho d b k x i + x k * tp d b k e0 i
section
variable {n d : Nat} {b c : Ve}
theorem rho_add (x y : Ve) : ∀ k, rho d b k (fun i => x i + y i) = fun i => rho d b k x i + rho d b k y i
  | 0 => rfl
  | k + 1 => by
    show (fun i => rho d b k (fun i => x i + y i) i + (x k + y k) * tp d b k e0 i) = _
    rw [rho_add x y k]
    funext i
    show _ = rho d b k x i + x k * tp d b k e0 i + (rho d b k y i + y k * tp d b k e0 i)
    grind
theorem rho_smul (u : Int) (x : Ve) : ∀ k, rho d b k (fun i => u * x i) = fun i => u * rho d b k x i
  | 0 => by
    funext i
    exact (Int.mul_zero u).symm
  | k + 1 => by
    show (fun i => rho d b k (fun i => u * x i) i + (u * x k) * tp d b k e0 i) = _
    rw [rho_smul u x k]
    funext i
    show _ = u * (rho d b k x i + x k * tp d b k e0 i)
    grind
theorem rho_tt0 (x : Ve) : ∀ k, 1 ≤ k → k ≤ n → rho d b k (tt n c x) = fun i => tt d b (rho d b (k - 1) x) i - x (n - 1) * rho d b k c i
  | 0, h, _ => by omega
  | 1, _, h => by
    funext i
    show 0 + tt n c x 0 * e0 i = tt d b (fun _ => 0) i - x (n - 1) * (0 + c 0 * e0 i)
    have e : tt n c x 0 = 0 - x (n - 1) * c 0 := by
      unfold tt
      rw [if_pos (by omega), if_pos rfl]
    rw [e, tt_zero]
    grind
  | k + 2, _, h => by
    have ih := rho_tt0 x (k + 1) (by omega) (by omega)
    show (fun i => rho d b (k + 1) (tt n c x) i + tt n c x (k + 1) * tp d b (k + 1) e0 i) = _
    have e : tt n c x (k + 1) = x k - x (n - 1) * c (k + 1) := by
      unfold tt
      rw [if_pos (by omega), if_neg (by omega)]
      rfl
    rw [ih, e, show k + 1 - 1 = k from rfl, show k + 2 - 1 = k + 1 from rfl]
    have e2 : rho d b (k + 1) x = fun i => rho d b k x i + x k * tp d b k e0 i := rfl
    rw [e2, tt_add, tt_smul]
    funext i
    show tt d b (rho d b k x) i - x (n - 1) * rho d b (k + 1) c i + (x k - x (n - 1) * c (k + 1)) * tt d b (tp d b k e0) i = tt d b (rho d b k x) i + x k * tt d b (tp d b k e0) i - x (n - 1) * (rho d b (k + 1) c i + c (k + 1) * tt d b (tp d b k e0) i)
    grind
end
section
variable {n d : Nat} {b c : Ve}
theorem rho_tt (hn : 1 ≤ n) (x : Ve) : rho d b n (tt n c x) = fun i => tt d b (rho d b n x) i - x (n - 1) * (rho d b n c i + tp d b n e0 i) := by
  obtain ⟨m, rfl⟩ : ∃ m, n = m + 1 := ⟨n - 1, by omega⟩
  rw [rho_tt0 x (m + 1) hn (Nat.le_refl _), show m + 1 - 1 = m from rfl]
  have e2 : rho d b (m + 1) x = fun i => rho d b m x i + x m * tp d b m e0 i := rfl
  rw [e2, tt_add, tt_smul]
  funext i
  show _ = tt d b (rho d b m x) i + x m * tt d b (tp d b m e0) i - x m * (rho d b (m + 1) c i + tt d b (tp d b m e0) i)
  grind
end
section
variable {n d : Nat} {b c : Ve} {p : Int}
theorem Dv.congr {n : Nat} {b : Ve} {p : Int} {x y : Ve} (h : Dv p (fun i => x i - y i)) : Dv p (fun i => N.tt n b x i - N.tt n b y i) := fun i => by
  have h1 := Dv.tt (n := n) (c := b) (x := fun i => x i - y i) h i
  rw [tt_sub] at h1
  exact h1
theorem Dv.congrA {n : Nat} {b : Ve} {p : Int} {x y : Ve} (g : List Int) (h : Dv p (fun i => x i - y i)) : Dv p (fun i => N.act n b g x i - N.act n b g y i) := fun i => by
  have h1 := Dv.act (n := n) (c := b) g (x := fun i => x i - y i) h i
  rw [act_sub] at h1
  exact h1
theorem rho_act (hn : 1 ≤ n) (hf : Dv p (fun i => rho d b n c i + tp d b n e0 i)) (x : Ve) : ∀ g : List Int, Dv p (fun i => rho d b n (act n c g x) i - act d b g (rho d b n x) i)
  | [] => fun i => ⟨0, by
    have h := rho_smul (d := d) (b := b) 0 (fun _ => 0) n
    simp only [Int.zero_mul] at h
    show rho d b n (fun _ => 0) i - 0 = _
    rw [h]
    grind⟩
  | a :: g => fun i => by
    have ih := rho_act hn hf x g
    obtain ⟨z, hz⟩ := (Dv.congr (n := d) (b := b) ih) i
    obtain ⟨u, hu⟩ := hf i
    have hu2 : rho d b n c i + tp d b n e0 i = p * u := hu
    have hz2 : tt d b (rho d b n (act n c g x)) i - tt d b (act d b g (rho d b n x)) i = p * z := hz
    rw [act_cons, rho_add, rho_smul, rho_tt hn, act_cons]
    show p ∣ (a * rho d b n x i + (tt d b (rho d b n (act n c g x)) i - act n c g x (n - 1) * (rho d b n c i + tp d b n e0 i))) - (a * rho d b n x i + tt d b (act d b g (rho d b n x)) i)
    rw [hu2]
    exact ⟨z - act n c g x (n - 1) * u, by grind⟩
theorem rho_it (hn : 1 ≤ n) (hf : Dv p (fun i => rho d b n c i + tp d b n e0 i)) (h : List Int) (x : Ve) : ∀ j, Dv p (fun i => rho d b n (it n c h j x) i - it d b h j (rho d b n x) i)
  | 0 => fun i => ⟨0, by show rho d b n x i - rho d b n x i = _; grind⟩
  | j + 1 => fun i => by
    obtain ⟨y, hy⟩ := rho_act (d := d) (b := b) hn hf (it n c h j x) h i
    obtain ⟨z, hz⟩ := (Dv.congrA (n := d) (b := b) h (rho_it hn hf h x j)) i
    show p ∣ rho d b n (act n c h (it n c h j x)) i - act d b h (it d b h j (rho d b n x)) i
    exact ⟨y + z, by grind⟩
theorem rho_dv {x : Ve} (h : Dv p x) : ∀ k, Dv p (rho d b k x)
  | 0 => fun i => Int.dvd_zero _
  | k + 1 => fun i => Int.dvd_add (rho_dv h k i) (Int.dvd_trans (h k) (Int.dvd_mul_right _ _))
theorem rho_e0 : ∀ k, rho d b (k + 1) e0 = e0
  | 0 => by
    funext i
    show 0 + e0 0 * e0 i = e0 i
    rw [show e0 0 = 1 from rfl]
    grind
  | k + 1 => by
    show (fun i => rho d b (k + 1) e0 i + e0 (k + 1) * tp d b (k + 1) e0 i) = _
    rw [rho_e0 k, show e0 (k + 1) = 0 from if_neg (by omega)]
    funext i
    grind
end
section
variable {d : Nat} {g : List Int} {p : Int}
theorem bb_inj (pr : Pr p) (hd : 1 ≤ d) (hl : g.length = d + 1) (h1 : g.getD d 0 = 1) {a : Int} (ha : ¬ p ∣ M.val g a) {y : Ve} (hy : Sup d y) (h : Dv p (bb d (toV g) a y)) : Dv p y := fun i => by
  have h2 := Dv.act (n := d) (c := toV g) (syn a g) h i
  have hz := act_self hd hl h1 hy
  rw [syn_act a y g] at hz
  rw [act_bb] at h2
  have h3 : M.val g a * y i + bb d (toV g) a (act d (toV g) (syn a g) y) i = 0 := congrFun hz i
  obtain ⟨z, hz2⟩ := h2
  have h4 : p ∣ M.val g a * y i := ⟨-z, by grind⟩
  rcases pr.2 _ _ h4 with h5 | h5
  · exact absurd h5 ha
  · exact h5
theorem sup_bbs {c : Ve} {x : Ve} (hx : Sup d x) : ∀ as : List Int, Sup d (bbs d c as x)
  | [] => hx
  | a :: as => sup_bb (sup_bbs hx as) a
theorem bbs_inj (pr : Pr p) (hd : 1 ≤ d) (hl : g.length = d + 1) (h1 : g.getD d 0 = 1) {y : Ve} (hy : Sup d y) : ∀ as : List Int, (∀ a ∈ as, ¬ p ∣ M.val g a) → Dv p (bbs d (toV g) as y) → Dv p y
  | [], _, h => h
  | a :: as, ha, h => bbs_inj pr hd hl h1 hy as (fun b hb => ha b (List.mem_cons_of_mem _ hb)) (bb_inj pr hd hl h1 (ha a List.mem_cons_self) (sup_bbs hy as) h)
/-- the powers of h end, where h is a product of t - a modulo g, g(a) not nought -/
theorem left_ends {n : Nat} {c : Ve} {h as : List Int} (pr : Pr p) (hn : 1 ≤ n) (hd : 1 ≤ d) (hl : g.length = d + 1) (h1 : g.getD d 0 = 1) (hf : Dv p (fun i => rho d (toV g) n c i + tp d (toV g) n e0 i)) (ha : ∀ a ∈ as, ¬ p ∣ M.val g a)
    (hh : ∀ x, Sup d x → Dv p (fun i => act d (toV g) h x i - bbs d (toV g) as x i)) : Ends n c p h := fun v => ⟨1, fun hdv => by
  rw [Int.pow_succ, Int.pow_zero, Int.one_mul] at hdv
  have key : ∀ j, Dv p (it d (toV g) h j e0) → False := fun j => by
    induction j with
    | zero =>
      intro h0
      have h2 : p ∣ (1 : Int) := h0 0
      have := Int.le_of_dvd (by decide) h2
      have := pr.1
      omega
    | succ j ih =>
      intro h0
      refine ih (bbs_inj pr hd hl h1 (sup_it (sup_e0 hd) j) as ha fun i => ?_)
      have h2 := Int.dvd_sub (h0 i) (hh _ (sup_it (h := h) (c := toV g) (sup_e0 hd) j) i)
      have e : it d (toV g) h (j + 1) e0 i - (act d (toV g) h (it d (toV g) h j e0) i - bbs d (toV g) as (it d (toV g) h j e0) i) = bbs d (toV g) as (it d (toV g) h j e0) i := by
        show act d (toV g) h (it d (toV g) h j e0) i - _ = _
        grind
      rw [← e]
      exact h2
  refine key (v + 1) fun i => ?_
  have h2 := rho_it (d := d) (b := toV g) (n := n) (c := c) hn hf h e0 (v + 1) i
  have h3 := rho_dv (d := d) (b := toV g) hdv n i
  have h4 := Int.dvd_sub h3 h2
  obtain ⟨m, rfl⟩ : ∃ m, n = m + 1 := ⟨n - 1, by omega⟩
  rw [rho_e0] at h4
  have e : rho d (toV g) (m + 1) (it (m + 1) c h (v + 1) e0) i - (rho d (toV g) (m + 1) (it (m + 1) c h (v + 1) e0) i - it d (toV g) h (v + 1) e0 i) = it d (toV g) h (v + 1) e0 i := by grind
  rw [← e]
  exact h4⟩
end
end N
end K41
set_option Elab.async false
set_option linter.all false
set_option maxRecDepth 100000
set_option maxHeartbeats 4000000
namespace K41
namespace N
/-! monic rows mod p, their quotients -/
structure Gd (p : Int) (l : List Int) : Prop where
  len : 1 ≤ l.length
  top : l.getD (l.length - 1) 0 = 1
  sm : ∀ c ∈ l, 0 ≤ c ∧ c < p
theorem top_last {l : List Int} (h : 1 ≤ l.length) (h1 : l.getD (l.length - 1) 0 = 1) : l.getLast? ≠ some 0 := by
  rw [List.getLast?_eq_getElem?, List.getElem?_eq_getElem (by omega)]
  rw [getD_at (by omega)] at h1
  rw [h1]
  simp
theorem Gd.self {p : Int} {l : List Int} (g : Gd p l) : M.modPoly l p = l := modPoly_self g.sm (cut_last (top_last g.len g.top))
theorem mdivTo_first (p back : Int) (g : List Int) (d k : Nat) (l : List Int) : ∀ i, (M.mdivTo p back g d k l (i + 1)).2.getD 0 0 = l.getD (k - 1 + d) 0 * back % p
  | 0 => by
    show ([] ++ [(l.getD (k - 1 - 0 + d) 0) * back % p]).getD 0 0 = _
    rfl
  | i + 1 => by
    have ih := mdivTo_first p back g d k l i
    have hl := (mdivTo_len p back g d k l (i + 1)).2
    show ((M.mdivTo p back g d k l (i + 1)).2 ++ [_]).getD 0 0 = _
    rw [List.getD_eq_getElem?_getD, List.getElem?_append_left (by rw [hl]; omega), ← List.getD_eq_getElem?_getD]
    exact ih
theorem mdiv_gd {p : Int} {g l : List Int} (hp : 2 ≤ p) (hl : Gd p l) (hg : 1 ≤ g.length) (hgl : g.length ≤ l.length) : Gd p (M.mdiv p 1 g l).1 ∧ (M.mdiv p 1 g l).1.length = l.length + 1 - g.length := by
  have h1 := (mdivTo_len p 1 g (g.length - 1) (l.length + 1 - g.length) l (l.length + 1 - g.length)).2
  have h2 := mdivTo_first p 1 g (g.length - 1) (l.length + 1 - g.length) l (l.length - g.length)
  rw [show l.length - g.length + 1 = l.length + 1 - g.length by omega, show l.length + 1 - g.length - 1 + (g.length - 1) = l.length - 1 by omega, hl.top, Int.one_mul, Int.emod_eq_of_lt (by decide) (by omega)] at h2
  have h3 := mdivTo_small (p := p) (back := 1) (g := g) (d := g.length - 1) (k := l.length + 1 - g.length) (l := l) (by omega) (l.length + 1 - g.length)
  have e : (M.mdiv p 1 g l).1 = M.cut (M.mdivTo p 1 g (g.length - 1) (l.length + 1 - g.length) l (l.length + 1 - g.length)).2.reverse := rfl
  generalize (M.mdivTo p 1 g (g.length - 1) (l.length + 1 - g.length) l (l.length + 1 - g.length)).2 = q at *
  have ht : q.reverse.getD (q.reverse.length - 1) 0 = 1 := by
    rw [List.length_reverse, List.getD_eq_getElem?_getD, List.getElem?_reverse (by omega), show q.length - 1 - (q.length - 1) = 0 by omega, ← List.getD_eq_getElem?_getD]
    exact h2
  have hc := cut_last (top_last (by rw [List.length_reverse]; omega) ht)
  rw [e, hc]
  exact ⟨⟨by rw [List.length_reverse]; omega, ht, fun c hc => h3 c (List.mem_reverse.mp hc)⟩, by rw [List.length_reverse, h1]⟩
theorem modParted_gd {p : Int} {g f : List Int} (hp : 2 ≤ p) (hg : Gd p g) : M.modParted f g p = M.mdiv p 1 g (M.modPoly f p) := by
  unfold M.modParted
  rw [hg.self, hg.top, turned_one hp]
theorem gd_lin {p low : Int} (hp : 2 ≤ p) (h0 : 0 ≤ low) (h1 : low < p) : Gd p [low, 1] := ⟨by simp, rfl, fun c hc => by
  simp at hc
  rcases hc with rfl | rfl
  · exact ⟨h0, h1⟩
  · exact ⟨by decide, by omega⟩⟩
theorem gd_of {p : Int} {f : List Int} (hp : 2 ≤ p) (hl : 1 ≤ f.length) (h1 : f.getD (f.length - 1) 0 = 1) : Gd p (M.modPoly f p) ∧ (M.modPoly f p).length = f.length ∧ ∀ i, p ∣ f.getD i 0 - (M.modPoly f p).getD i 0 := by
  have ha : ∀ i, (f.map (· % p)).getD i 0 = f.getD i 0 % p := fun i => by
    rw [List.getD_eq_getElem?_getD, List.getD_eq_getElem?_getD, List.getElem?_map]
    cases f[i]? with
    | none => exact (Int.zero_emod p).symm
    | some v => rfl
  have ht : (f.map (· % p)).getD ((f.map (· % p)).length - 1) 0 = 1 := by
    rw [List.length_map, ha, h1]
    exact Int.emod_eq_of_lt (by decide) (by omega)
  have hc := cut_last (top_last (by rw [List.length_map]; exact hl) ht)
  unfold M.modPoly
  rw [hc]
  refine ⟨⟨by rw [List.length_map]; exact hl, ht, fun c hc => ?_⟩, List.length_map _, fun i => ?_⟩
  · obtain ⟨x, _, rfl⟩ := List.mem_map.mp hc
    exact ⟨Int.emod_nonneg _ (by omega), Int.emod_lt_of_pos _ (by omega)⟩
  · rw [ha]
    have := Int.emod_add_mul_ediv (f.getD i 0) p
    exact ⟨f.getD i 0 / p, by omega⟩
/-! values, by the modulus t - a -/
theorem act_at (a : Int) : ∀ (g : List Int) (x : Ve), act 1 (fun _ => -a) g x 0 = M.val g a * x 0
  | [], x => by
    show (0 : Int) = 0 * x 0
    grind
  | b :: g, x => by
    have ih := act_at a g x
    show b * x 0 + tt 1 (fun _ => -a) (act 1 (fun _ => -a) g x) 0 = (b + a * M.val g a) * x 0
    unfold tt
    rw [if_pos (by decide), if_pos rfl, show 1 - 1 = 0 from rfl, ih]
    grind
/-- the product of a - b -/
def pv (a : Int) : List Int → Int
  | [] => 1
  | b :: as => (a - b) * pv a as
theorem bbs_at (a : Int) : ∀ (as : List Int) (x : Ve), bbs 1 (fun _ => -a) as x 0 = pv a as * x 0
  | [], x => by
    show x 0 = 1 * x 0
    grind
  | b :: as, x => by
    have ih := bbs_at a as x
    show tt 1 (fun _ => -a) (bbs 1 (fun _ => -a) as x) 0 - b * bbs 1 (fun _ => -a) as x 0 = (a - b) * pv a as * x 0
    unfold tt
    rw [if_pos (by decide), if_pos rfl, show 1 - 1 = 0 from rfl, ih]
    grind
theorem pv_not {p a : Int} (pr : Pr p) : ∀ as : List Int, (∀ b ∈ as, ¬ p ∣ a - b) → ¬ p ∣ pv a as
  | [], _, h => by
    have := Int.le_of_dvd (by decide) (show p ∣ 1 from h)
    have := pr.1
    omega
  | b :: as, h, hd => by
    rcases pr.2 _ _ (show p ∣ (a - b) * pv a as from hd) with h1 | h1
    · exact h b List.mem_cons_self h1
    · exact pv_not pr as (fun c hc => h c (List.mem_cons_of_mem _ hc)) h1
/-- l is the product of t - a over as, times q, mod p: as operators for every modulus -/
def Fac (p : Int) (l as q : List Int) : Prop := ∀ (n : Nat) (c x : Ve) (i : Nat), p ∣ act n c l x i - bbs n c as (act n c q x) i
theorem Fac.val {p : Int} {l as q : List Int} (h : Fac p l as q) (a : Int) : p ∣ M.val l a - pv a as * M.val q a := by
  have := h 1 (fun _ => -a) (fun _ => 1) 0
  rw [act_at, bbs_at, act_at, Int.mul_one, Int.mul_one] at this
  exact this
theorem bb_bb {n : Nat} {c : Ve} (a b : Int) (y : Ve) : bb n c a (bb n c b y) = bb n c b (bb n c a y) := by
  unfold bb
  rw [tt_sub, tt_smul, tt_sub, tt_smul]
  funext i
  grind
theorem bbs_bb {n : Nat} {c : Ve} (a : Int) (y : Ve) : ∀ as : List Int, bbs n c as (bb n c a y) = bb n c a (bbs n c as y)
  | [] => rfl
  | b :: as => by
    show bb n c b (bbs n c as (bb n c a y)) = bb n c a (bb n c b (bbs n c as y))
    rw [bbs_bb a y as, bb_bb]
theorem bbs_app {n : Nat} {c : Ve} (y : Ve) : ∀ as bs : List Int, bbs n c (as ++ bs) y = bbs n c as (bbs n c bs y)
  | [], _ => rfl
  | a :: as, bs => by
    show bb n c a (bbs n c (as ++ bs) y) = bb n c a (bbs n c as (bbs n c bs y))
    rw [bbs_app y as bs]
theorem Dv.congrB {n : Nat} {c : Ve} {p : Int} {x y : Ve} (h : Dv p (fun i => x i - y i)) (a : Int) : Dv p (fun i => bb n c a x i - bb n c a y i) := fun i => by
  obtain ⟨u, hu⟩ := Dv.congr (n := n) (b := c) h i
  obtain ⟨v, hv⟩ := h i
  show p ∣ (N.tt n c x i - a * x i) - (N.tt n c y i - a * y i)
  have hu2 : N.tt n c x i - N.tt n c y i = p * u := hu
  have hv2 : x i - y i = p * v := hv
  exact ⟨u - a * v, by grind⟩
theorem Dv.congrBs {n : Nat} {c : Ve} {p : Int} {x y : Ve} (h : Dv p (fun i => x i - y i)) : ∀ as : List Int, Dv p (fun i => bbs n c as x i - bbs n c as y i)
  | [] => h
  | a :: as => Dv.congrB (Dv.congrBs h as) a
theorem Fac.trans {p : Int} {l as q bs r : List Int} (h : Fac p l as q) (h' : Fac p q bs r) : Fac p l (as ++ bs) r := fun n c x i => by
  obtain ⟨u, hu⟩ := h n c x i
  obtain ⟨v, hv⟩ := Dv.congrBs (n := n) (c := c) (fun i => h' n c x i) as i
  have hv2 : bbs n c as (act n c q x) i - bbs n c as (bbs n c bs (act n c r x)) i = p * v := hv
  rw [bbs_app]
  exact ⟨u + v, by grind⟩
theorem Fac.refl (p : Int) (l : List Int) : Fac p l [] l := fun n c x i => ⟨0, by show act n c l x i - act n c l x i = _; grind⟩
theorem act_lin {n : Nat} {c : Ve} (low : Int) (y : Ve) : act n c [low, 1] y = bb n c (-low) y := by
  funext i
  show low * y i + tt n c (fun j => 1 * y j + tt n c (fun _ => 0) j) i = tt n c y i - -low * y i
  rw [tt_zero, show (fun j => 1 * y j + 0) = y by funext j; grind]
  grind
/-! the derivative, by the modulus (t - a)^2 -/
def c2 (a : Int) : Ve := fun i => if i = 0 then a * a else -2 * a
theorem vl_two (x : Ve) (a : Int) : vl 2 x a = x 0 + x 1 * a := by
  show 0 + x 0 * a ^ 0 + x 1 * a ^ 1 = _
  grind
theorem fa_two (a : Int) : fa 2 (c2 a) a = 0 := by
  unfold fa
  rw [vl_two]
  show a * a + -2 * a * a + a ^ 2 = 0
  grind
theorem bb_one (a : Int) (x : Ve) : bb 2 (c2 a) a x 1 = vl 2 x a := by
  rw [vl_two]
  show (if 1 < 2 then (if 1 = 0 then 0 else x (1 - 1)) - x (2 - 1) * (c2 a) 1 else 0) - a * x 1 = _
  rw [if_pos (by decide), if_neg (by decide)]
  show x 0 - x 1 * (-2 * a) - a * x 1 = _
  grind
theorem vl2_act (a : Int) (g : List Int) (x : Ve) : vl 2 (act 2 (c2 a) g x) a = M.val g a * vl 2 x a := by
  obtain ⟨z, hz⟩ := vl_act (n := 2) (c := c2 a) (by decide) x a g
  rw [hz, fa_two]
  grind
theorem vl2_bbs (a : Int) (x : Ve) : ∀ as : List Int, vl 2 (bbs 2 (c2 a) as x) a = pv a as * vl 2 x a
  | [] => by
    show vl 2 x a = 1 * vl 2 x a
    grind
  | b :: as => by
    have ih := vl2_bbs a x as
    have h1 : vl 2 (bb 2 (c2 a) b (bbs 2 (c2 a) as x)) a = (a - b) * vl 2 (bbs 2 (c2 a) as x) a := by
      have h2 := vl_tt (n := 2) (c := c2 a) (by decide) (bbs 2 (c2 a) as x) a
      rw [fa_two] at h2
      rw [vl_two] at *
      show (tt 2 (c2 a) (bbs 2 (c2 a) as x) 0 - b * bbs 2 (c2 a) as x 0) + (tt 2 (c2 a) (bbs 2 (c2 a) as x) 1 - b * bbs 2 (c2 a) as x 1) * a = _
      rw [vl_two] at *
      grind
    show vl 2 (bb 2 (c2 a) b (bbs 2 (c2 a) as x)) a = (a - b) * pv a as * vl 2 x a
    rw [h1, ih]
    grind
theorem Fac.deriv {p : Int} {f as q : List Int} {a : Int} (h : Fac p f (as ++ [a]) q) : p ∣ M.val (syn a f) a - pv a as * M.val q a := by
  have h1 := h 2 (c2 a) e0 1
  have e1 : vl 2 e0 a = 1 := vl_e0 (by decide) a
  rw [syn_act a e0 f, bbs_app] at h1
  have h2 : p ∣ (M.val f a * e0 1 + bb 2 (c2 a) a (act 2 (c2 a) (syn a f) e0) 1) - bbs 2 (c2 a) as (bb 2 (c2 a) a (act 2 (c2 a) q e0)) 1 := h1
  rw [bbs_bb, bb_one, bb_one, vl2_act, vl2_bbs, vl2_act, e1, show e0 1 = 0 from rfl] at h2
  rw [show M.val (syn a f) a - pv a as * M.val q a = M.val f a * 0 + M.val (syn a f) a * 1 - pv a as * (M.val q a * 1) by grind]
  exact h2
/-! one turn of the peeling -/
theorem act_rem {n : Nat} {c : Ve} {p a : Int} {r : List Int} (hr : r.length ≤ 1) (h : p ∣ M.val r a) (x : Ve) (i : Nat) : p ∣ act n c r x i := by
  match r, hr with
  | [], _ => exact Int.dvd_zero _
  | [b], _ =>
    have h1 : p ∣ b + a * 0 := h
    rw [Int.mul_zero, Int.add_zero] at h1
    show p ∣ b * x i + tt n c (fun _ => 0) i
    rw [tt_zero, Int.add_zero]
    exact Int.dvd_trans h1 (Int.dvd_mul_right _ _)
theorem fac_lin {p low : Int} {l : List Int} (hp : 2 ≤ p) (hl : Gd p l) (h2 : 2 ≤ l.length) (h : p ∣ M.val l (-low)) : Fac p l [-low] (M.mdiv p 1 [low, 1] l).1 := by
  have hg := fun n c x i => act_mdiv (n := n) (c := c) (p := p) (g := [low, 1]) (l := l) (by simp) rfl (by show 2 ≤ _; omega) x i
  have hr : (M.mdiv p 1 [low, 1] l).2.length ≤ 1 := by
    refine Nat.le_trans (cut_len _) ?_
    rw [List.length_take]
    exact Nat.min_le_left _ _
  have hv : p ∣ M.val (M.mdiv p 1 [low, 1] l).2 (-low) := by
    have h1 := hg 1 (fun _ => - -low) (fun _ => 1) 0
    rw [act_at, act_at, act_at, act_at] at h1
    have e : M.val [low, 1] (-low) = 0 := by
      show low + -low * (1 + -low * 0) = 0
      grind
    rw [e] at h1
    have h2 := Int.dvd_sub h h1
    rw [show M.val l (-low) - (M.val l (-low) * 1 - (0 * (M.val (M.mdiv p 1 [low, 1] l).1 (-low) * 1) + M.val (M.mdiv p 1 [low, 1] l).2 (-low) * 1)) = M.val (M.mdiv p 1 [low, 1] l).2 (-low) by grind] at h2
    exact h2
  intro n c x i
  obtain ⟨u, hu⟩ := hg n c x i
  obtain ⟨v, hv2⟩ := act_rem (n := n) (c := c) hr hv x i
  rw [act_lin] at hu
  show p ∣ act n c l x i - bb n c (-low) (act n c (M.mdiv p 1 [low, 1] l).1 x) i
  exact ⟨u + v, by grind⟩
theorem peel_is {p low : Int} (hp : 2 ≤ p) (h0 : 0 ≤ low) (h1 : low < p) : ∀ (n : Nat) (left : List Int), Gd p left → left.length ≤ n →
    Gd p (M.peel n p low left).2 ∧ left.length = (M.peel n p low left).2.length + (M.peel n p low left).1 ∧ Fac p left (List.replicate (M.peel n p low left).1 (-low)) (M.peel n p low left).2 ∧ ¬ p ∣ M.val (M.peel n p low left).2 (-low)
  | 0, left, hg, hl => by have := hg.len; omega
  | n + 1, left, hg, hl => by
    unfold M.peel
    split
    · rename_i hc
      rw [modParted_gd hp (gd_lin hp h0 h1), hg.self]
      obtain ⟨g1, g2⟩ := mdiv_gd hp hg (g := [low, 1]) (by simp) (by show 2 ≤ _; omega)
      have g2 : (M.mdiv p 1 [low, 1] left).1.length = left.length + 1 - 2 := g2
      obtain ⟨i1, i2, i3, i4⟩ := peel_is hp h0 h1 n _ g1 (by omega)
      exact ⟨i1, (show left.length = (M.peel n p low (M.mdiv p 1 [low, 1] left).1).2.length + ((M.peel n p low (M.mdiv p 1 [low, 1] left).1).1 + 1) by omega), (fac_lin hp hg (by omega) (Int.dvd_of_emod_eq_zero hc.2)).trans i3, i4⟩
    · rename_i hc
      refine ⟨hg, (show left.length = left.length + 0 by omega), Fac.refl p left, fun hd => hc ⟨?_, Int.emod_eq_zero_of_dvd hd⟩⟩
      have := hg.len
      by_cases e : left.length = 1
      · exfalso
        match left, e with
        | [b], _ =>
          have hb : b = 1 := hg.top
          have hd2 : p ∣ b + -low * 0 := hd
          rw [hb, Int.mul_zero] at hd2
          have := Int.le_of_dvd (by decide) hd2
          omega
      · omega
end N
end K41
set_option Elab.async false
set_option linter.all false
set_option maxRecDepth 100000
set_option maxHeartbeats 4000000
namespace K41
namespace N
/-! the split -/
def rtL (p : Int) (l : List Int) (s : Nat) : List Int := (M.splitRoots p l s).2
def rtE (p : Int) (l : List Int) (s : Nat) : Nat := (M.peel (rtL p l s).length p s (rtL p l s)).1
def rtA (p : Int) (l : List Int) : Nat → List Int
  | 0 => []
  | s + 1 => rtA p l s ++ List.replicate (rtE p l s) (-(s : Int))
def rtG (p : Int) (l : List Int) (low : Nat) : List (List Int × Nat) := if rtE p l low = 0 then [] else [([(low : Int), 1], rtE p l low)]
theorem rtL_succ (p : Int) (l : List Int) (s : Nat) : rtL p l (s + 1) = (M.peel (rtL p l s).length p s (rtL p l s)).2 := by
  unfold rtL
  rw [splitRoots_succ]
  rfl
theorem roots_list (p : Int) (l : List Int) : ∀ s : Nat, (M.splitRoots p l s).1 = (List.range s).flatMap (rtG p l)
  | 0 => rfl
  | s + 1 => by
    rw [splitRoots_succ, List.range_succ, List.flatMap_append, ← roots_list p l s]
    show (M.splitRoots p l s).1 ++ _ = _
    rw [List.flatMap_singleton]
    rfl
section
variable {p : Int} {l : List Int}
theorem rt_step (pr : Pr p) {s : Nat} (hs : (s : Int) < p) (hg : Gd p (rtL p l s)) : Gd p (rtL p l (s + 1)) ∧ (rtL p l s).length = (rtL p l (s + 1)).length + rtE p l s ∧ Fac p (rtL p l s) (List.replicate (rtE p l s) (-(s : Int))) (rtL p l (s + 1)) ∧ ¬ p ∣ M.val (rtL p l (s + 1)) (-(s : Int)) := by
  have h := peel_is pr.1 (show (0 : Int) ≤ (s : Int) by omega) hs _ _ hg (Nat.le_refl _)
  rw [rtL_succ]
  exact h
theorem roots_is (pr : Pr p) (hl : Gd p l) : ∀ s : Nat, (s : Int) ≤ p → Gd p (rtL p l s) ∧ l.length = (rtL p l s).length + (rtA p l s).length ∧ Fac p l (rtA p l s) (rtL p l s) ∧ (∀ low : Nat, low < s → ¬ p ∣ M.val (rtL p l s) (-(low : Int))) ∧ ∀ b ∈ rtA p l s, ∃ low : Nat, low < s ∧ b = -(low : Int)
  | 0, _ => ⟨hl, by show _ = l.length + 0; omega, Fac.refl p l, fun low h => absurd h (Nat.not_lt_zero _), fun b hb => by cases hb⟩
  | s + 1, hs => by
    obtain ⟨h1, h2, h3, h4, h5⟩ := roots_is pr hl s (by omega)
    obtain ⟨i1, i2, i3, i4⟩ := rt_step (s := s) pr (by omega) h1
    refine ⟨i1, ?_, h3.trans i3, fun low hlow => ?_, fun b hb => ?_⟩
    · show l.length = _ + (rtA p l s ++ List.replicate (rtE p l s) _).length
      rw [List.length_append, List.length_replicate]
      omega
    · by_cases e : low = s
      · subst e; exact i4
      · intro hd
        refine h4 low (by omega) ?_
        have h6 := i3.val (-(low : Int))
        have h7 := Int.dvd_add h6 (Int.dvd_trans hd (Int.dvd_mul_left (pv (-(low : Int)) (List.replicate (rtE p l s) (-(s : Int)))) _))
        rw [Int.sub_add_cancel] at h7
        exact h7
    · rcases List.mem_append.mp (show b ∈ rtA p l s ++ List.replicate (rtE p l s) (-(s : Int)) from hb) with h | h
      · obtain ⟨low, hlow, e⟩ := h5 b h
        exact ⟨low, by omega, e⟩
      · exact ⟨s, by omega, List.eq_of_mem_replicate h⟩
theorem as_not (pr : Pr p) (hl : Gd p l) {low : Nat} (h : (low : Int) < p) : ¬ p ∣ pv (-(low : Int)) (rtA p l low) := pv_not pr _ fun b hb hd => by
  obtain ⟨j, hj, rfl⟩ := (roots_is pr hl low (by omega)).2.2.2.2 b hb
  have hd2 : p ∣ (low : Int) - (j : Int) := by
    rw [show (low : Int) - j = -(-(low : Int) - -(j : Int)) by omega]
    exact Int.dvd_neg.mpr hd
  have := Int.le_of_dvd (by omega) hd2
  omega
theorem root_in (pr : Pr p) (hl : Gd p l) {low : Nat} (h : (low : Int) < p) (hv : p ∣ M.val l (-(low : Int))) : 1 ≤ rtE p l low := by
  obtain ⟨h1, h2, h3, h4, h5⟩ := roots_is pr hl low (by omega)
  obtain ⟨i1, i2, i3, i4⟩ := rt_step (s := low) pr h h1
  rcases Nat.eq_zero_or_pos (rtE p l low) with e | e
  · exfalso
    rw [e] at i3
    have h6 := h3.val (-(low : Int))
    have h7 := Int.dvd_sub hv h6
    rw [Int.sub_sub_self] at h7
    rcases pr.2 _ _ h7 with h8 | h8
    · exact as_not pr hl h h8
    · have h9 := Int.dvd_sub h8 (i3.val (-(low : Int)))
      rw [Int.sub_sub_self] at h9
      have h10 : p ∣ 1 * M.val (rtL p l (low + 1)) (-(low : Int)) := h9
      rw [Int.one_mul] at h10
      exact i4 h10
  · exact e
end
theorem pv_app (a : Int) : ∀ as bs : List Int, pv a (as ++ bs) = pv a as * pv a bs
  | [], bs => by
    show pv a bs = 1 * pv a bs
    rw [Int.one_mul]
  | b :: as, bs => by
    show (a - b) * pv a (as ++ bs) = (a - b) * pv a as * pv a bs
    rw [pv_app a as bs, Int.mul_assoc]
theorem Fac.of {p : Int} {f l as q : List Int} (hl : f.length = l.length) (hc : ∀ i, p ∣ f.getD i 0 - l.getD i 0) (h : Fac p l as q) : Fac p f as q := fun n c x i => by
  obtain ⟨u, hu⟩ := act_congr (n := n) (c := c) hl hc x i
  obtain ⟨v, hv⟩ := h n c x i
  exact ⟨u + v, by grind⟩
theorem val_syn (f : List Int) (a b : Int) : M.val f a = M.val f b + (a - b) * M.val (syn b f) a := by
  have h := congrFun (syn_act (n := 1) (c := fun _ => -a) b (fun _ => 1) f) 0
  rw [act_at] at h
  have h2 : M.val f a * 1 = M.val f b * 1 + (tt 1 (fun _ => -a) (act 1 (fun _ => -a) (syn b f) fun _ => 1) 0 - b * act 1 (fun _ => -a) (syn b f) (fun _ => 1) 0) := h
  rw [act_at] at h2
  have h3 : tt 1 (fun _ => -a) (act 1 (fun _ => -a) (syn b f) fun _ => 1) 0 = a * (M.val (syn b f) a * 1) := by
    unfold tt
    rw [if_pos (by decide), if_pos rfl, show 1 - 1 = 0 from rfl, act_at]
    grind
  rw [h3] at h2
  grind
theorem val_mod {p a b : Int} (h : p ∣ a - b) (f : List Int) : p ∣ M.val f a - M.val f b := by
  rw [val_syn f a b, show M.val f b + (a - b) * M.val (syn b f) a - M.val f b = (a - b) * M.val (syn b f) a by omega]
  exact Int.dvd_trans h (Int.dvd_mul_right _ _)
theorem val_coef {p : Int} {f l : List Int} (hl : f.length = l.length) (hc : ∀ i, p ∣ f.getD i 0 - l.getD i 0) (a : Int) : p ∣ M.val f a - M.val l a := by
  have h := act_congr (n := 1) (c := fun _ => -a) hl hc (fun _ => 1) 0
  rw [act_at, act_at, Int.mul_one, Int.mul_one] at h
  exact h
/-- what is known of f -/
structure Mo (n : Nat) (p : Int) (f : List Int) : Prop where
  pr : Pr p
  hn : 2 ≤ n
  n4 : n ≤ 4
  hl : f.length = n + 1
  h1 : f.getD n 0 = 1
/-- the place of -a from 0 to p - 1 -/
def lo (p a : Int) : Nat := ((-a) % p).toNat
section
variable {n : Nat} {p : Int} {f : List Int}
theorem lo_is (hp : 2 ≤ p) (a : Int) : (lo p a : Int) = (-a) % p ∧ (lo p a : Int) < p ∧ p ∣ a - -(lo p a : Int) := by
  have h1 := Int.emod_nonneg (-a) (show p ≠ 0 by omega)
  have h2 := Int.emod_lt_of_pos (-a) (show 0 < p by omega)
  have e : (lo p a : Int) = (-a) % p := Int.toNat_of_nonneg h1
  refine ⟨e, by omega, ?_⟩
  have := Int.emod_add_mul_ediv (-a) p
  rw [e]
  exact ⟨-((-a) / p), by grind⟩
theorem Mo.gd (m : Mo n p f) : Gd p (M.modPoly f p) ∧ (M.modPoly f p).length = f.length ∧ ∀ i, p ∣ f.getD i 0 - (M.modPoly f p).getD i 0 :=
  gd_of m.pr.1 (by rw [m.hl]; omega) (by rw [m.hl]; exact m.h1)
theorem Mo.root (m : Mo n p f) {low : Nat} (h : (low : Int) < p) : p ∣ M.val f (-(low : Int)) ↔ 1 ≤ rtE p (M.modPoly f p) low := by
  obtain ⟨g1, g2, g3⟩ := m.gd
  have hc := val_coef g2.symm g3 (-(low : Int))
  constructor
  · intro hv
    have := Int.dvd_sub hv hc
    rw [Int.sub_sub_self] at this
    exact root_in m.pr g1 h this
  · intro he
    obtain ⟨h1, h2, h3, h4, h5⟩ := roots_is m.pr g1 (low + 1) (by omega)
    have h6 := h3.val (-(low : Int))
    have e : pv (-(low : Int)) (rtA p (M.modPoly f p) (low + 1)) = 0 := by
      show pv (-(low : Int)) (rtA p (M.modPoly f p) low ++ List.replicate (rtE p (M.modPoly f p) low) (-(low : Int))) = 0
      rw [pv_app]
      obtain ⟨k, hk⟩ : ∃ k, rtE p (M.modPoly f p) low = k + 1 := ⟨rtE p (M.modPoly f p) low - 1, by omega⟩
      rw [hk]
      show _ * ((-(low : Int) - -(low : Int)) * _) = 0
      grind
    rw [e, Int.zero_mul, Int.sub_zero] at h6
    have := Int.dvd_add hc h6
    rw [Int.sub_add_cancel] at this
    exact this
theorem Mo.twice (m : Mo n p f) {low : Nat} (h : (low : Int) < p) (hv : p ∣ M.val f (-(low : Int))) (hd : p ∣ M.val (syn (-(low : Int)) f) (-(low : Int))) : 2 ≤ rtE p (M.modPoly f p) low := by
  obtain ⟨g1, g2, g3⟩ := m.gd
  have h1 := (m.root h).mp hv
  by_cases e : rtE p (M.modPoly f p) low = 1
  · exfalso
    obtain ⟨i1, i2, i3, i4, i5⟩ := roots_is m.pr g1 low (by omega)
    obtain ⟨j1, j2, j3, j4⟩ := rt_step (s := low) m.pr h i1
    rw [e] at j3
    have h6 : Fac p f (rtA p (M.modPoly f p) low ++ [-(low : Int)]) (rtL p (M.modPoly f p) (low + 1)) := Fac.of g2.symm g3 (i3.trans j3)
    have h7 := Int.dvd_sub hd h6.deriv
    rw [Int.sub_sub_self] at h7
    rcases m.pr.2 _ _ h7 with h8 | h8
    · exact as_not m.pr g1 h h8
    · exact j4 h8
  · omega
/-- what stays when all roots are out -/
def lf (f : List Int) (p : Int) : List Int := rtL p (M.modPoly f p) p.toNat
def lfA (f : List Int) (p : Int) : List Int := rtA p (M.modPoly f p) p.toNat
theorem rtA_len {l : List Int} {low : Nat} : ∀ s, low < s → rtE p l low ≤ (rtA p l s).length
  | 0, h => by omega
  | s + 1, h => by
    show _ ≤ (rtA p l s ++ List.replicate (rtE p l s) _).length
    rw [List.length_append, List.length_replicate]
    by_cases e : low = s
    · subst e; omega
    · have := rtA_len (l := l) s (show low < s by omega); omega
theorem Mo.left (m : Mo n p f) : Gd p (lf f p) ∧ n + 1 = (lf f p).length + (lfA f p).length ∧ Fac p f (lfA f p) (lf f p) ∧ (∀ a : Int, ¬ p ∣ M.val (lf f p) a) ∧ (lf f p).length ≠ 2 ∧ ∀ a : Int, p ∣ M.val f a → (lf f p).length ≤ n := by
  have hp := m.pr.1
  obtain ⟨g1, g2, g3⟩ := m.gd
  have hP : (p.toNat : Int) = p := Int.toNat_of_nonneg (by omega)
  obtain ⟨i1, i2, i3, i4, i5⟩ := roots_is m.pr g1 p.toNat (by omega)
  have hr : ∀ a : Int, ¬ p ∣ M.val (lf f p) a := fun a hd => by
    obtain ⟨l1, l2, l3⟩ := lo_is hp a
    refine i4 (lo p a) (by omega) ?_
    have h1 := Int.dvd_sub hd (val_mod l3 (lf f p))
    rw [Int.sub_sub_self] at h1
    exact h1
  refine ⟨i1, by rw [← m.hl, ← g2]; exact i2, Fac.of g2.symm g3 i3, hr, fun e => ?_, fun a ha => ?_⟩
  · have ht := i1.top
    have e' : (rtL p (M.modPoly f p) p.toNat).length = 2 := e
    unfold lf at hr
    generalize rtL p (M.modPoly f p) p.toNat = q at *
    match q, e' with
    | [c, b], _ =>
      have hb : b = 1 := ht
      subst hb
      exact hr (-c) ⟨0, by show c + -c * (1 + -c * 0) = _; grind⟩
  · obtain ⟨l1, l2, l3⟩ := lo_is hp a
    have h1 := Int.dvd_sub ha (val_mod l3 f)
    rw [Int.sub_sub_self] at h1
    have h2 := (m.root l2).mp h1
    have h3 := rtA_len (p := p) (l := M.modPoly f p) p.toNat (show lo p a < p.toNat by omega)
    have h4 := m.hl
    unfold lf
    omega
/-- the split, where f has a root mod p -/
theorem Mo.split (m : Mo n p f) {a : Int} (ha : p ∣ M.val f a) : M.split f p = (List.range p.toNat).flatMap (rtG p (M.modPoly f p)) ++ (if 1 < (lf f p).length then [(lf f p, 1)] else []) := by
  obtain ⟨g1, g2, g3, g4, g5, g6⟩ := m.left
  have h6 := g6 a ha
  have h4 := m.n4
  unfold M.split
  rw [roots_list]
  have e : (M.splitRoots p (M.modPoly f p) p.toNat).2 = lf f p := rfl
  rw [e]
  have e2 : M.rootless (lf f p) p = [(lf f p, 1)] := by
    unfold M.rootless
    rw [if_neg (by omega)]
  rw [e2]
theorem rtG_mem {l : List Int} {P : Nat} {s : List Int × Nat} (h : s ∈ (List.range P).flatMap (rtG p l)) : ∃ low : Nat, low < P ∧ 1 ≤ rtE p l low ∧ s = ([(low : Int), 1], rtE p l low) := by
  obtain ⟨low, h1, h2⟩ := List.mem_flatMap.mp h
  refine ⟨low, List.mem_range.mp h1, ?_⟩
  unfold rtG at h2
  split at h2
  · cases h2
  · exact ⟨by omega, List.mem_singleton.mp h2⟩
theorem Mo.mem (m : Mo n p f) {a : Int} (ha : p ∣ M.val f a) {s : List Int × Nat} (hs : s ∈ M.split f p) : (∃ low : Nat, (low : Int) < p ∧ p ∣ M.val f (-(low : Int)) ∧ s.1 = [(low : Int), 1]) ∨ (s.1 = lf f p ∧ 3 ≤ (lf f p).length) := by
  have hp := m.pr.1
  rw [m.split ha] at hs
  rcases List.mem_append.mp hs with h | h
  · obtain ⟨low, h1, h2, h3⟩ := rtG_mem h
    left
    refine ⟨low, by omega, (m.root (by omega)).mpr h2, by rw [h3]⟩
  · right
    split at h
    · have := m.left.2.2.2.2.1
      rw [List.mem_singleton.mp h]
      exact ⟨rfl, by omega⟩
    · cases h
end
end N
end K41
set_option Elab.async false
set_option linter.all false
set_option maxRecDepth 100000
set_option maxHeartbeats 4000000
namespace K41
namespace N
/-! cancelling a monic row mod p, in a free module -/
theorem tt_free {N : Nat} (x : Ve) {i : Nat} (h : i + 1 < N) : tt N (fun _ => 0) x (i + 1) = x i := by
  unfold tt
  rw [if_pos h, if_neg (by omega)]
  show x i - x (N - 1) * 0 = x i
  grind
theorem top_place {N : Nat} {p : Int} {y : Ve} {j : Nat} (h0 : ∀ i, j < i → p ∣ y i) : ∀ g : List Int, 1 ≤ g.length → j + (g.length - 1) < N → p ∣ act N (fun _ => 0) g y (j + (g.length - 1)) - g.getD (g.length - 1) 0 * y j
  | [], h, _ => by simp at h
  | [b], _, _ => by
    show p ∣ (b * y j + tt N (fun _ => 0) (fun _ => 0) j) - b * y j
    rw [tt_zero]
    exact ⟨0, by grind⟩
  | b :: b2 :: g, _, h => by
    have hlt : j + (g.length + 1) < N := h
    obtain ⟨u, hu⟩ := top_place h0 (b2 :: g) (by simp) (by show j + g.length < N; omega)
    have hu2 : act N (fun _ => 0) (b2 :: g) y (j + g.length) - (b2 :: g).getD g.length 0 * y j = p * u := hu
    obtain ⟨v, hv⟩ := h0 (j + (g.length + 1)) (by omega)
    show p ∣ (b * y (j + (g.length + 1)) + tt N (fun _ => 0) (act N (fun _ => 0) (b2 :: g) y) (j + (g.length + 1))) - (b2 :: g).getD g.length 0 * y j
    rw [show j + (g.length + 1) = j + g.length + 1 by omega, tt_free _ (by omega)]
    rw [show j + (g.length + 1) = j + g.length + 1 by omega] at hv
    exact ⟨b * v + u, by rw [hv]; grind⟩
theorem cancel {N d m : Nat} {p : Int} {y : Ve} {g : List Int} (hl : g.length = d + 1) (h1 : g.getD d 0 = 1) (hm : m + d ≤ N) (h0 : ∀ i, m ≤ i → p ∣ y i) (h : ∀ i, d ≤ i → p ∣ act N (fun _ => 0) g y i) : Dv p y := by
  have key : ∀ k, k ≤ m → ∀ i, m - k ≤ i → p ∣ y i := fun k => by
    induction k with
    | zero => exact fun _ i hi => h0 i hi
    | succ k ih =>
      intro hk i hi
      by_cases e : i = m - (k + 1)
      · have h2 := top_place (N := N) (p := p) (y := y) (j := i) (fun i' hi' => ih (by omega) i' (by omega)) g (by omega) (by omega)
        rw [hl, Nat.add_sub_cancel, h1, Int.one_mul] at h2
        have h3 := Int.dvd_sub (h (i + d) (by omega)) h2
        rw [Int.sub_sub_self] at h3
        exact h3
      · exact ih (by omega) i (by omega)
  exact fun i => key m (Nat.le_refl _) i (by omega)
/-! the product of t - a, as a row -/
def lm (a : Int) : Int → List Int → List Int
  | v, [] => [v]
  | v, x :: l => (v - a * x) :: lm a x l
def pr_ : List Int → List Int
  | [] => [1]
  | a :: as => lm a 0 (pr_ as)
theorem lm_len (a : Int) : ∀ (v : Int) (l : List Int), (lm a v l).length = l.length + 1
  | _, [] => rfl
  | v, x :: l => by
    show (lm a x l).length + 1 = _
    rw [lm_len a x l]
    rfl
theorem pr_len : ∀ as : List Int, (pr_ as).length = as.length + 1
  | [] => rfl
  | a :: as => by
    show (lm a 0 (pr_ as)).length = _
    rw [lm_len, pr_len as]
    rfl
section
variable {n : Nat} {c : Ve}
theorem lm_act (a : Int) (y : Ve) : ∀ (v : Int) (l : List Int), act n c (lm a v l) y = fun i => v * y i + bb n c a (act n c l y) i
  | v, [] => by
    funext i
    show v * y i + tt n c (fun _ => 0) i = v * y i + bb n c a (fun _ => 0) i
    rw [tt_zero, bb_zero]
  | v, x :: l => by
    show act n c ((v - a * x) :: lm a x l) y = _
    rw [act_cons, lm_act a y x l, tt_add, tt_smul]
    funext i
    show (v - a * x) * y i + (x * tt n c y i + tt n c (bb n c a (act n c l y)) i) = v * y i + (tt n c (fun i => x * y i + tt n c (act n c l y) i) i - a * (x * y i + tt n c (act n c l y) i))
    rw [tt_add, tt_smul]
    unfold bb
    rw [tt_sub, tt_smul]
    grind
theorem pr_act (y : Ve) : ∀ as : List Int, act n c (pr_ as) y = bbs n c as y
  | [] => by
    funext i
    show 1 * y i + tt n c (fun _ => 0) i = y i
    rw [tt_zero]
    grind
  | a :: as => by
    show act n c (lm a 0 (pr_ as)) y = bb n c a (bbs n c as y)
    rw [lm_act, pr_act y as]
    funext i
    grind
theorem act_bbs (g : List Int) (y : Ve) : ∀ as : List Int, act n c g (bbs n c as y) = bbs n c as (act n c g y)
  | [] => rfl
  | a :: as => by
    show act n c g (bb n c a (bbs n c as y)) = bb n c a (bbs n c as (act n c g y))
    rw [act_bb, act_bbs g y as]
theorem act_nil (y : Ve) : ∀ k : Nat, act n c (List.replicate k 0) y = fun _ => 0
  | 0 => rfl
  | k + 1 => by
    show act n c (0 :: List.replicate k 0) y = _
    rw [act_cons, act_nil y k, tt_zero]
    funext i
    grind
theorem act_pad (y : Ve) (k : Nat) : ∀ g : List Int, act n c (g ++ List.replicate k 0) y = act n c g y
  | [] => act_nil y k
  | a :: g => by
    show act n c (a :: (g ++ List.replicate k 0)) y = _
    rw [act_cons, act_pad y k g, act_cons]
end
theorem getD_pad (g : List Int) (k i : Nat) : (g ++ List.replicate k 0).getD i 0 = g.getD i 0 := by
  by_cases h : i < g.length
  · rw [List.getD_eq_getElem?_getD, List.getD_eq_getElem?_getD, List.getElem?_append_left h]
  · rw [getD_none (l := g) (by omega), List.getD_eq_getElem?_getD, List.getElem?_append_right (by omega)]
    by_cases h2 : i - g.length < k
    · rw [List.getElem?_replicate, if_pos h2]
      rfl
    · rw [List.getElem?_replicate, if_neg h2]
      rfl
/-! the quotient over a root a -/
section
variable {n : Nat} {p : Int} {f : List Int}
/-- the quotient of f by g mod p -/
def qu (f : List Int) (p : Int) (g : List Int) : List Int := (M.mdiv p 1 g (M.modPoly f p)).1
def quP (n : Nat) (f : List Int) (p : Int) (g : List Int) : List Int := qu f p g ++ List.replicate (n - (qu f p g).length) 0
theorem Mo.qu_is (m : Mo n p f) {g : List Int} {d : Nat} (hg : g.length = d + 1) (hd : d ≤ n) : Gd p (qu f p g) ∧ (qu f p g).length = n + 1 - d := by
  obtain ⟨g1, g2, g3⟩ := m.gd
  have h := mdiv_gd m.pr.1 g1 (g := g) (by omega) (by rw [g2, m.hl]; omega)
  rw [g2, m.hl, hg] at h
  exact ⟨h.1, by rw [show n + 1 - d = n + 1 + 1 - (d + 1) by omega]; exact h.2⟩
theorem Mo.quP_len (m : Mo n p f) {g : List Int} {d : Nat} (hg : g.length = d + 1) (h1 : 1 ≤ d) (hd : d ≤ n) : (quP n f p g).length = n := by
  unfold quP
  rw [List.length_append, List.length_replicate, (m.qu_is hg hd).2]
  omega
theorem Mo.quP_sm (m : Mo n p f) {g : List Int} {d : Nat} (hg : g.length = d + 1) (hd : d ≤ n) : ∀ c ∈ quP n f p g, 0 ≤ c ∧ c < p := fun c hc => by
  rcases List.mem_append.mp hc with h | h
  · exact (m.qu_is hg hd).1.sm c h
  · rw [List.eq_of_mem_replicate h]
    have := m.pr.1
    exact ⟨by decide, by omega⟩
theorem bb_mod {n : Nat} {c : Ve} {p a b : Int} (h : p ∣ a - b) (y : Ve) (i : Nat) : p ∣ bb n c a y i - bb n c b y i := by
  obtain ⟨u, hu⟩ := h
  exact ⟨-(u * y i), by
    show (tt n c y i - a * y i) - (tt n c y i - b * y i) = _
    grind⟩
/-- over a root: it is f / (t - a) -/
theorem Mo.lin (m : Mo n p f) {low : Nat} {a : Int} (hlow : (low : Int) < p) (ha : p ∣ a - -(low : Int)) (hv : p ∣ M.val f a) : Lin n f p a (quP n f p [(low : Int), 1]) := by
  obtain ⟨g1, g2, g3⟩ := m.gd
  obtain ⟨q1, q2⟩ := m.qu_is (g := [(low : Int), 1]) (d := 1) rfl (by have := m.hn; omega)
  have hn := m.hn
  refine ⟨by omega, m.hl, m.h1, m.pr, m.quP_len (d := 1) rfl (by omega) (by omega), fun i => ?_, hv⟩
  have hvl : p ∣ M.val (M.modPoly f p) (-(low : Int)) := by
    have h1 := Int.dvd_sub hv (val_mod ha f)
    rw [Int.sub_sub_self] at h1
    have h2 := Int.dvd_sub h1 (val_coef g2.symm g3 (-(low : Int)))
    rw [Int.sub_sub_self] at h2
    exact h2
  have hfac : Fac p f [-(low : Int)] (qu f p [(low : Int), 1]) := Fac.of g2.symm g3 (fac_lin m.pr.1 g1 (by rw [g2, m.hl]; omega) hvl)
  have hs : (syn a f).length = n := by rw [N.syn_len, m.hl]; rfl
  have hD : Dv p (fun i => toV (qu f p [(low : Int), 1]) i - toV (syn a f) i) := by
    refine cancel (N := n + 1) (d := 1) (m := n) (g := [-a, 1]) rfl rfl (by omega) (fun i hi => ?_) (fun i hi => ?_)
    · rw [show toV (qu f p [(low : Int), 1]) i = 0 from getD_none (by omega), show toV (syn a f) i = 0 from getD_none (by omega)]
      exact ⟨0, by grind⟩
    · rw [act_lin, Int.neg_neg]
      have h1 := hfac (n + 1) (fun _ => 0) e0 i
      rw [act_short (g := qu f p [(low : Int), 1]) (by omega)] at h1
      have h1 : p ∣ act (n + 1) (fun _ => 0) f e0 i - bb (n + 1) (fun _ => 0) (-(low : Int)) (toV (qu f p [(low : Int), 1])) i := h1
      have h2 := congrFun (syn_act (n := n + 1) (c := fun _ => 0) a e0 f) i
      rw [act_short (g := syn a f) (by omega)] at h2
      have h3 := bb_mod (n := n + 1) (c := fun _ => 0) ha (toV (qu f p [(low : Int), 1])) i
      obtain ⟨u, hu⟩ := h1
      obtain ⟨v, hv2⟩ := h3
      obtain ⟨w, hw⟩ := hv
      have e : bb (n + 1) (fun _ => 0) a (fun i => toV (qu f p [(low : Int), 1]) i - toV (syn a f) i) i = bb (n + 1) (fun _ => 0) a (toV (qu f p [(low : Int), 1])) i - bb (n + 1) (fun _ => 0) a (toV (syn a f)) i := by
        unfold bb
        rw [tt_sub]
        grind
      rw [e]
      have h2 : act (n + 1) (fun _ => 0) f e0 i = M.val f a * e0 i + bb (n + 1) (fun _ => 0) a (toV (syn a f)) i := h2
      exact ⟨v - u + w * e0 i, by grind⟩
  unfold quP
  rw [getD_pad]
  exact hD i
/-! .. by what stays -/
theorem bbs_far {N : Nat} : ∀ (as : List Int) (i : Nat), as.length < i → bbs N (fun _ => 0) as e0 i = 0
  | [], i, h => if_neg (by show i ≠ 0; have : 0 < i := h; omega)
  | a :: as, i, h => by
    have h2 : as.length + 1 < i := h
    obtain ⟨j, rfl⟩ : ∃ j, i = j + 1 := ⟨i - 1, by omega⟩
    have h3 := bbs_far (N := N) as j (by omega)
    have h4 := bbs_far (N := N) as (j + 1) (by omega)
    show tt N (fun _ => 0) (bbs N (fun _ => 0) as e0) (j + 1) - a * bbs N (fun _ => 0) as e0 (j + 1) = 0
    rw [h4]
    unfold tt
    split
    · rw [if_neg (by omega), show j + 1 - 1 = j from rfl, h3]
      grind
    · grind
theorem Mo.qu_left (m : Mo n p f) {g as : List Int} {d : Nat} (hg : Gd p g) (hgl : g.length = d + 1) (hd : d ≤ n) (has : as.length + d = n) (hf : Fac p f as g) : ∀ (k : Nat) (c x : Ve) (i : Nat), p ∣ act k c (quP n f p g) x i - bbs k c as x i := by
  obtain ⟨g1, g2, g3⟩ := m.gd
  obtain ⟨q1, q2⟩ := m.qu_is hgl hd
  have hgt : g.getD d 0 = 1 := by
    have := hg.top
    rw [hgl] at this
    exact this
  have hR : (M.mdiv p 1 g (M.modPoly f p)).2.length ≤ d := by
    refine Nat.le_trans (cut_len _) ?_
    rw [List.length_take, hgl]
    exact Nat.min_le_left _ _
  have hD : Dv p (fun i => toV (qu f p g) i - toV (pr_ as) i) := by
    refine cancel (N := n + 1) (d := d) (m := n + 1 - d) (g := g) hgl hgt (by omega) (fun i hi => ?_) (fun i hi => ?_)
    · rw [show toV (qu f p g) i = 0 from getD_none (by omega), show toV (pr_ as) i = 0 from getD_none (by rw [pr_len]; omega)]
      exact ⟨0, by grind⟩
    · obtain ⟨u, hu⟩ := act_mdiv (n := n + 1) (c := fun _ => 0) (p := p) (g := g) (l := M.modPoly f p) hg.len hg.top (by rw [g2, m.hl]; omega) e0 i
      obtain ⟨v, hv⟩ := hf (n + 1) (fun _ => 0) e0 i
      obtain ⟨w, hw⟩ := act_congr (n := n + 1) (c := fun _ => 0) g2.symm g3 e0 i
      have eQ : act (n + 1) (fun _ => 0) (M.mdiv p 1 g (M.modPoly f p)).1 e0 = toV (qu f p g) := act_short (g := qu f p g) (by omega)
      have eR : act (n + 1) (fun _ => 0) (M.mdiv p 1 g (M.modPoly f p)).2 e0 i = 0 := by
        rw [act_short (by omega)]
        exact getD_none (by omega)
      have eP : toV (pr_ as) = bbs (n + 1) (fun _ => 0) as e0 := by
        rw [← pr_act, act_short (by rw [pr_len]; omega)]
      rw [eQ, eR] at hu
      rw [act_sub, eP, act_bbs]
      exact ⟨v - w - u, by grind⟩
  intro k c x i
  unfold quP
  rw [act_pad, ← pr_act]
  exact act_congr (by rw [pr_len, q2]; omega) hD x i
end
end N
end K41
set_option Elab.async false
set_option linter.all false
set_option maxRecDepth 100000
set_option maxHeartbeats 4000000
namespace K41
namespace N
/-! the tables: the prime's table gives back its row, the known table's rows -/
theorem cut_at : ∀ (l : List Int) (i : Nat), (M.cut l).getD i 0 = l.getD i 0
  | [], _ => rfl
  | a :: l, i => by
    have ih := cut_at l
    unfold M.cut
    cases e : M.cut l with
    | nil =>
      have hz : ∀ j, l.getD j 0 = 0 := fun j => by
        rw [← ih j, e]
        simp
      by_cases ha : a = 0
      · simp only [if_pos ha]
        cases i with
        | zero => exact ha.symm
        | succ i =>
          show _ = l.getD i 0
          rw [hz]
          simp
      · simp only [if_neg ha]
        cases i with
        | zero => rfl
        | succ i =>
          show ([] : List Int).getD i 0 = l.getD i 0
          rw [hz]
          simp
    | cons d r =>
      cases i with
      | zero => rfl
      | succ i =>
        show (d :: r).getD i 0 = l.getD i 0
        rw [← e]
        exact ih i
theorem msub_at (p : Int) (g : List Int) (part : Int) (at_ : Nat) (l : List Int) : ∀ J, at_ + J ≤ l.length → ∀ j, j < J → (M.msubTo p g part at_ J l).getD (at_ + j) 0 = (l.getD (at_ + j) 0 - part * g.getD j 0) % p
  | 0, _, j, h => by omega
  | J + 1, hl, j, h => by
    show ((M.msubTo p g part at_ J l).set (at_ + J) (((M.msubTo p g part at_ J l).getD (at_ + J) 0 - part * g.getD J 0) % p)).getD (at_ + j) 0 = _
    by_cases e : j = J
    · subst e
      rw [getD_set_eq (by rw [msubTo_len]; omega), msubTo_far _ _ _ _ _ _ (Nat.le_refl _)]
    · rw [getD_set_ne (by omega), msub_at p g part at_ l J (by omega) j (by omega)]
theorem take_at {l : List Int} {D j : Nat} (h : j < D) : (l.take D).getD j 0 = l.getD j 0 := by
  rw [List.getD_eq_getElem?_getD, List.getD_eq_getElem?_getD, List.getElem?_take_of_lt h]
theorem nul_at (k j : Nat) : (List.replicate k (0 : Int)).getD j 0 = 0 := by
  have := getD_pad [] k j
  rw [List.nil_append] at this
  rw [this]
  simp
theorem ext_at {l m : List Int} (hl : l.length = m.length) (h : ∀ i, i < l.length → l.getD i 0 = m.getD i 0) : l = m := List.ext_getElem hl fun i h1 h2 => by
  rw [← getD_at h1, ← getD_at h2]
  exact h i h1
theorem mod_is {p a b : Int} (h : p ∣ a - b) (h0 : 0 ≤ b) (h1 : b < p) : a % p = b := by
  obtain ⟨u, hu⟩ := h
  rw [show a = b + p * u by omega, Int.add_mul_emod_self_left]
  exact Int.emod_eq_of_lt h0 h1
theorem gd_mono {p : Int} (hp : 2 ≤ p) (i : Nat) : Gd p (List.replicate i 0 ++ [1]) := ⟨by rw [List.length_append]; exact Nat.le_add_left _ _, by
  rw [List.length_append, List.length_replicate]
  show (List.replicate i (0 : Int) ++ [1]).getD (i + 1 - 1) 0 = 1
  rw [Nat.add_sub_cancel, getD_r (by rw [List.length_replicate]; exact Nat.le_refl _), List.length_replicate, Nat.sub_self]
  rfl, fun c hc => by
  rcases List.mem_append.mp hc with h | h
  · rw [List.eq_of_mem_replicate h]; exact ⟨by decide, by omega⟩
  · rw [List.mem_singleton.mp h]; exact ⟨by decide, by omega⟩⟩
section
variable {p : Int} {g : List Int} {D : Nat}
theorem pLeft_is (hp : 2 ≤ p) (hg : Gd p g) (i : Nat) : pLeft g p i = (M.mdiv p 1 g (List.replicate i 0 ++ [1])).2 := by
  unfold pLeft
  rw [modParted_gd hp hg, (gd_mono hp i).self]
theorem pLeft_at (hp : 2 ≤ p) (hg : Gd p g) (hl : g.length = D + 1) {j : Nat} (hj : j < D) : (pLeft g p D).getD j 0 = -g.getD j 0 % p := by
  have e0' : (List.replicate D (0 : Int) ++ [1]).length = D + 1 := by rw [List.length_append, List.length_replicate]; rfl
  rw [pLeft_is hp hg]
  unfold M.mdiv
  rw [hl, e0', show D + 1 + 1 - (D + 1) = 1 by omega, show D + 1 - 1 = D by omega]
  show (M.cut ((M.msubTo p g ((List.replicate D (0 : Int) ++ [1]).getD (1 - 1 - 0 + D) 0 * 1 % p) (1 - 1 - 0) (D + 1) (List.replicate D (0 : Int) ++ [1])).take D)).getD j 0 = _
  rw [cut_at, take_at hj, show 1 - 1 - 0 + D = D by omega, show 1 - 1 - 0 = 0 by omega, getD_r (by rw [List.length_replicate]; exact Nat.le_refl _), List.length_replicate, Nat.sub_self]
  have h := msub_at p g (([1] : List Int).getD 0 0 * 1 % p) 0 (List.replicate D (0 : Int) ++ [1]) (D + 1) (by rw [e0']; omega) j (by omega)
  rw [Nat.zero_add] at h
  rw [h, getD_l (by rw [List.length_replicate]; exact hj), nul_at, show (([1] : List Int).getD 0 0 * 1 % p) = 1 from Int.emod_eq_of_lt (by decide) (by show (1 : Int) * 1 < p; omega)]
  rw [Int.one_mul, Int.zero_sub]
theorem row_take {n : Nat} (hp : 2 ≤ p) (hg : Gd p g) (hl : g.length = D + 1) (hD : D < n) : (primeRow n g p D).take (D + 1) = g := by
  have hlen := primeRow_len n g p D
  refine ext_at (by rw [List.length_take, hlen, hl]; omega) fun i hi => ?_
  rw [List.length_take, hlen] at hi
  have hi2 : i < D + 1 := by omega
  rw [take_at hi2]
  unfold primeRow
  rw [if_neg (by omega)]
  by_cases e : i = D
  · subst e
    have := hg.top
    rw [hl] at this
    rw [getD_set_eq (by rw [negTo_len]; exact hD)]
    exact this.symm
  · rw [getD_set_ne (fun h => e h.symm), negTo_at (by omega)]
    have h1 := pLeft_at hp hg hl (show i < D by omega)
    have hs := hg.sm (g.getD i 0) (by rw [getD_at (by omega)]; exact List.getElem_mem _)
    generalize g.getD i 0 = v at *
    have h2 := Int.emod_add_mul_ediv (-v) p
    split
    · rw [h1]
      exact mod_is ⟨-v / p, by grind⟩ hs.1 hs.2
    · rename_i h3
      rw [getD_none (by omega)] at h1
      rw [← h1] at h2
      have h4 : v = p * -(-v / p) := by grind
      have : p ∣ v := ⟨_, h4⟩
      rcases (show v ≤ 0 ∨ 0 < v by omega) with h5 | h5
      · omega
      · have := Int.le_of_dvd h5 this
        omega
theorem prime_at {n i : Nat} (h : i < n) : (primeTable n g p).getD i [] = primeRow n g p i := by
  unfold primeTable
  rw [List.getD_eq_getElem?_getD, List.getElem?_map, List.getElem?_range h]
  rfl
theorem prime_diag {n k : Nat} (h : k < n) : ((primeTable n g p).getD k []).getD k 0 = if k < g.length - 1 then p else 1 := by
  rw [prime_at h]
  unfold primeRow
  split
  · rw [getD_set_eq (by rw [List.length_replicate]; exact h)]
  · rw [getD_set_eq (by rw [negTo_len]; exact h)]
theorem prime_t00 {n : Nat} (h : 1 ≤ n) (hD : 1 ≤ g.length - 1) : t00 (primeTable n g p) = p := by
  unfold t00
  rw [prime_diag (by omega), if_pos (by omega)]
theorem upto_len (D : Nat) : ∀ n, D ≤ n → ((List.range n).filter fun k => decide (k < D)).length = D
  | 0, h => by
    have : D = 0 := by omega
    subst this
    rfl
  | n + 1, h => by
    rw [List.range_succ, List.filter_append, List.length_append]
    by_cases e : D ≤ n
    · rw [upto_len D n e, List.filter_cons_of_neg (by simp; omega)]
      rfl
    · have h2 : D = n + 1 := by omega
      rw [List.filter_cons_of_pos (by simp; omega)]
      have : (List.range n).filter (fun k => decide (k < D)) = List.range n := List.filter_eq_self.mpr fun k hk => decide_eq_true (by have := List.mem_range.mp hk; omega)
      rw [this, List.length_range]
      show n + 1 = D
      omega
theorem prime_turn {f : List Int} {n : Nat} (hp : 2 ≤ p) (hf : f.length = n + 1) (hg : Gd p g) (hl : g.length = D + 1) (h1 : 1 ≤ D) (hD : D < n) : turnG f (primeTable n g p) = g := by
  have hd : (diagP (primeTable n g p) n).length = D := by
    unfold diagP
    rw [prime_t00 (by omega) (by omega)]
    rw [← upto_len D n (by omega)]
    congr 1
    refine List.filter_congr fun k hk => ?_
    have hk := List.mem_range.mp hk
    rw [prime_diag hk, hl]
    by_cases e : k < D
    · rw [if_pos (by omega), decide_eq_true rfl, decide_eq_true e]
    · rw [if_neg (by omega), decide_eq_false (show ¬ (1 : Int) = p by omega), decide_eq_false e]
  unfold turnG
  rw [hf, Nat.add_sub_cancel, hd, if_pos hD, prime_at hD]
  exact row_take hp hg hl hD
theorem Mo.turner {f : List Int} {n : Nat} (m : Mo n p f) (hg : Gd p g) (hl : g.length = D + 1) (h1 : 1 ≤ D) (hD : D < n) : turnerM f (primeTable n g p) = quP n f p g := by
  unfold turnerM
  rw [prime_turn m.pr.1 m.hl hg hl h1 hD, prime_t00 (by omega) (by omega), modParted_gd m.pr.1 hg, m.hl, Nat.add_sub_cancel]
  rfl
theorem Mo.turnIn {f : List Int} {n : Nat} (m : Mo n p f) (hp : p ≤ 1000) (hg : Gd p g) (hl : g.length = D + 1) (h1 : 1 ≤ D) (hD : D < n) : TurnIn f (primeTable n g p) := by
  have h4 := m.n4
  have h5 := m.hl
  have h2 := m.pr.1
  refine ⟨by omega, by omega, ?_, fun r hr => ?_, ?_, ?_, ?_⟩
  · unfold primeTable
    rw [List.length_map, List.length_range, h5, Nat.add_sub_cancel]
  · obtain ⟨i, _, rfl⟩ := List.mem_map.mp hr
    rw [primeRow_len, h5, Nat.add_sub_cancel]
  · rw [prime_t00 (by omega) (by omega)]; omega
  · rw [prime_t00 (by omega) (by omega)]; omega
  · rw [prime_turn m.pr.1 m.hl hg hl h1 hD, prime_t00 (by omega) (by omega), hg.self]
    omega
theorem Mo.timesIn {f x : List Int} {n : Nat} (m : Mo n p f) (hp : p ≤ 1000) (hs : ∀ c ∈ f, c.natAbs ≤ 499) (hl : g.length = D + 1) (h1 : 1 ≤ D) (hD : D < n) (hx : x.length = n) : TimesIn f (quP n f p g) x := by
  have h4 := m.n4
  have h5 := m.hl
  have h2 := m.hn
  refine ⟨by omega, by omega, by omega, by rw [m.quP_len hl h1 (by omega), hx], hs, fun c hc => ?_⟩
  have := m.quP_sm hl (by omega) c hc
  omega
end
/-! the known table -/
theorem far_pow (m r : Int) : ∀ i, m ∣ farM r m i - r ^ i
  | 0 => ⟨0, by show 1 - r ^ 0 = _; grind⟩
  | i + 1 => by
    obtain ⟨u, hu⟩ := far_pow m r i
    have h2 := Int.emod_add_mul_ediv (farM r m i * r) m
    show m ∣ farM r m i * r % m - r ^ (i + 1)
    rw [Int.pow_succ]
    exact ⟨u * r - farM r m i * r / m, by grind⟩
theorem known_at {n : Nat} {m r : Int} {i : Nat} (h : i < n) : (knownT n m r).getD i [] = knownRow n m r i := by
  unfold knownT
  rw [List.getD_eq_getElem?_getD, List.getElem?_map, List.getElem?_range h]
  rfl
theorem known0 {n : Nat} {m r : Int} (h : 1 ≤ n) : toV (knownRow n m r 0) = fun j => m * e0 j := by
  funext j
  show ((List.replicate n 0).set 0 m).getD j 0 = m * (if j = 0 then 1 else 0)
  by_cases e : j = 0
  · subst e
    rw [getD_set_eq (by rw [List.length_replicate]; exact h), if_pos rfl, Int.mul_one]
  · rw [getD_set_ne (fun z => e z.symm), nul_at, if_neg e, Int.mul_zero]
theorem tp_e0 {n : Nat} {c : Ve} : ∀ k, k < n → tp n c k e0 = fun j => if j = k then 1 else 0
  | 0, _ => rfl
  | k + 1, h => by
    show tt n c (tp n c k e0) = _
    rw [tp_e0 k (by omega)]
    funext j
    unfold tt
    by_cases h1 : j < n
    · rw [if_pos h1]
      show (if j = 0 then 0 else if j - 1 = k then 1 else 0) - (if n - 1 = k then 1 else 0) * c j = if j = k + 1 then 1 else 0
      rw [if_neg (show ¬ n - 1 = k by omega)]
      by_cases h2 : j = 0
      · rw [if_pos h2, if_neg (by omega)]; grind
      · rw [if_neg h2]
        by_cases h3 : j = k + 1
        · rw [if_pos (by omega), if_pos h3]; grind
        · rw [if_neg (by omega), if_neg h3]; grind
    · rw [if_neg h1]
      show 0 = if j = k + 1 then 1 else 0
      rw [if_neg (by omega)]
/-- t^i + s -/
theorem known_up {n : Nat} {c : Ve} {m r : Int} {i : Nat} (h0 : 1 ≤ i) (h : i < n) : toV (knownRow n m r i) = fun j => tp n c i e0 j + (-farM r m i % m) * e0 j := by
  rw [tp_e0 i h]
  funext j
  unfold knownRow
  rw [if_neg (by omega)]
  show (((List.replicate n 0).set 0 (-farM r m i % m)).set i 1).getD j 0 = (if j = i then 1 else 0) + (-farM r m i % m) * (if j = 0 then 1 else 0)
  by_cases e : j = i
  · subst e
    rw [getD_set_eq (by rw [List.length_set, List.length_replicate]; exact h), if_pos rfl, if_neg (by omega)]
    grind
  · rw [getD_set_ne (fun z => e z.symm), if_neg e]
    by_cases e1 : j = 0
    · subst e1
      rw [getD_set_eq (by rw [List.length_replicate]; omega), if_pos rfl]
      grind
    · rw [getD_set_ne (fun z => e1 z.symm), nul_at, if_neg e1]
      grind
theorem vl_tp {n : Nat} {c : Ve} (a : Int) : ∀ k, k < n → vl n (tp n c k e0) a = a ^ k
  | 0, h => by
    rw [Int.pow_zero]
    exact vl_e0 (by omega) a
  | k + 1, h => by
    show vl n (tt n c (tp n c k e0)) a = _
    rw [vl_tt (by omega), vl_tp a k (by omega), tp_e0 k (by omega), Int.pow_succ]
    show a * a ^ k - (if n - 1 = k then 1 else 0) * _ = _
    rw [if_neg (by omega)]
    grind
theorem known_s (m r : Int) (i : Nat) : m ∣ r ^ i + -farM r m i % m := by
  obtain ⟨u, hu⟩ := far_pow m r i
  have h2 := Int.emod_add_mul_ediv (-farM r m i) m
  exact ⟨-u - -farM r m i / m, by grind⟩
theorem known_vl {n : Nat} {m r : Int} (hn : 1 ≤ n) : ∀ i, i < n → m ∣ vl n (toV (knownRow n m r i)) r
  | 0, h => by
    rw [known0 hn, vl_smul]
    exact Int.dvd_mul_right _ _
  | i + 1, h => by
    rw [known_up (c := fun _ => 0) (by omega) h, vl_add, vl_smul, vl_tp r _ h, vl_e0 hn, Int.mul_one]
    exact known_s m r (i + 1)
/-- over a root the two tables are one -/
theorem val_mono (a : Int) : ∀ i, M.val (List.replicate i 0 ++ [1]) a = a ^ i
  | 0 => by
    show 1 + a * 0 = _
    grind
  | i + 1 => by
    show 0 + a * M.val (List.replicate i 0 ++ [1]) a = _
    rw [val_mono a i, Int.pow_succ]
    grind
theorem prime_known {n : Nat} {p : Int} (pr : Pr p) (r : Int) : primeTable n [(lo p r : Int), 1] p = knownT n p r := by
  have hp := pr.1
  obtain ⟨l1, l2, l3⟩ := lo_is hp r
  have hg : Gd p [(lo p r : Int), 1] := gd_lin hp (by omega) l2
  unfold primeTable knownT
  refine List.map_congr_left fun i hi => ?_
  have hi := List.mem_range.mp hi
  unfold primeRow knownRow
  show (if i < 1 then _ else _) = _
  by_cases e : i = 0
  · subst e
    rw [if_pos (by decide), if_pos rfl]
  · rw [if_neg (by omega), if_neg e]
    congr 1
    have hlen : (pLeft [(lo p r : Int), 1] p i).length ≤ 1 := by
      have := pLeft_len [(lo p r : Int), 1] (p := p) i
      rw [hg.self] at this
      exact this
    have hv : p ∣ (pLeft [(lo p r : Int), 1] p i).getD 0 0 - r ^ i := by
      have h1 := act_mdiv (n := 1) (c := fun _ => -r) (p := p) (g := [(lo p r : Int), 1]) (l := List.replicate i 0 ++ [1]) (by simp) rfl (by rw [List.length_append]; show 2 ≤ _ + 1 + 1; omega) (fun _ => 1) 0
      rw [act_at, act_at, act_at, act_at, val_mono, ← pLeft_is hp hg] at h1
      have e2 : M.val [(lo p r : Int), 1] r = r - -(lo p r : Int) := by
        show (lo p r : Int) + r * (1 + r * 0) = _
        grind
      have e3 : M.val (pLeft [(lo p r : Int), 1] p i) r = (pLeft [(lo p r : Int), 1] p i).getD 0 0 := by
        generalize pLeft [(lo p r : Int), 1] p i = q at *
        match q, hlen with
        | [], _ => rfl
        | [b], _ =>
          show b + r * 0 = b
          grind
      rw [e2, e3] at h1
      obtain ⟨u, hu⟩ := h1
      obtain ⟨v, hv⟩ := l3
      rw [hv] at hu
      exact ⟨-u - v * M.val (M.mdiv p 1 [(lo p r : Int), 1] (List.replicate i 0 ++ [1])).1 r, by grind⟩
    obtain ⟨u, hu⟩ := hv
    obtain ⟨w, hw⟩ := far_pow p r i
    have hm := Int.emod_add_mul_ediv (-farM r p i) p
    have h0 := Int.emod_nonneg (-farM r p i) (show p ≠ 0 by omega)
    have h1 := Int.emod_lt_of_pos (-farM r p i) (show 0 < p by omega)
    have hval : -(pLeft [(lo p r : Int), 1] p i).getD 0 0 % p = -farM r p i % p := mod_is ⟨w - u + -farM r p i / p, by grind⟩ h0 h1
    rw [← hval]
    rcases Nat.le_one_iff_eq_zero_or_eq_one.mp hlen with h2 | h2
    · rw [h2, negTo_zero, getD_none (by omega)]
      refine ext_at (by rw [List.length_set]) fun j _ => ?_
      by_cases e5 : 0 = j
      · subst e5
        rw [getD_set_eq (by rw [List.length_replicate]; omega), nul_at]
        exact (Int.zero_emod p).symm
      · rw [getD_set_ne e5]
    · rw [h2, ← negTo_set (by omega), negTo_zero]
end N
end K41
set_option Elab.async false
set_option linter.all false
set_option maxRecDepth 100000
set_option maxHeartbeats 4000000
namespace K41
namespace N
/-! what the ring's check gives: p^2 does not divide f at a double root -/
theorem dd_same (f : List Int) {a b : Int} : M.val (syn b f) a = M.val (syn a f) b := by
  have h1 := val_syn f a b
  have h2 := val_syn f b a
  by_cases e : a = b
  · subst e; rfl
  · have h3 : (a - b) * (M.val (syn b f) a - M.val (syn a f) b) = 0 := by grind
    rcases Int.mul_eq_zero.mp h3 with h4 | h4 <;> omega
theorem cut_one {c d : Int} (h : c ∈ M.cut [d]) : c = d := by
  have := cut_mem h
  exact List.mem_singleton.mp this
theorem poly_rem {f : List Int} {low : Int} (h3 : 3 ≤ f.length) (h5 : f.length ≤ 5) : ∀ c ∈ (M.polyParted f [low, 1]).2, c = M.val f (-low) := by
  match f, h3, h5 with
  | [c0, c1, c2], _, _ =>
    intro c hc
    have e : (M.polyParted [c0, c1, c2] [low, 1]).2 = M.cut [c0 - (c1 - c2 * low) * low] := rfl
    rw [e] at hc
    rw [cut_one hc]
    show _ = c0 + -low * (c1 + -low * (c2 + -low * 0))
    grind
  | [c0, c1, c2, c3], _, _ =>
    intro c hc
    have e : (M.polyParted [c0, c1, c2, c3] [low, 1]).2 = M.cut [c0 - (c1 - (c2 - c3 * low) * low) * low] := rfl
    rw [e] at hc
    rw [cut_one hc]
    show _ = c0 + -low * (c1 + -low * (c2 + -low * (c3 + -low * 0)))
    grind
  | [c0, c1, c2, c3, c4], _, _ =>
    intro c hc
    have e : (M.polyParted [c0, c1, c2, c3, c4] [low, 1]).2 = M.cut [c0 - (c1 - (c2 - (c3 - c4 * low) * low) * low) * low] := rfl
    rw [e] at hc
    rw [cut_one hc]
    show _ = c0 + -low * (c1 + -low * (c2 + -low * (c3 + -low * (c4 + -low * 0))))
    grind
theorem meas {n : Nat} {p a : Int} {f : List Int} (m : Mo n p f) (h1 : p * p ∣ M.val f a) (h2 : p ∣ M.val (syn a f) a) : p * p ∣ M.measure f := by
  have hl := m.hl
  have ht := m.h1
  have hn := m.hn
  have h4 := m.n4
  match f, hl with
  | [], hl => simp at hl
  | [_], hl => simp at hl; omega
  | [_, _], hl => simp at hl; omega
  | [c0, c1, c2], hl =>
    have e : n = 2 := by simp at hl; omega
    subst e
    have e2 : c2 = 1 := ht
    subst e2
    have v1 : M.val [c0, c1, 1] a = a * a + c1 * a + c0 := by
      show c0 + a * (c1 + a * (1 + a * 0)) = _
      grind
    have v2 : M.val (syn a [c0, c1, 1]) a = 2 * a + c1 := by
      show (c1 + a * (1 + a * 0)) + a * ((1 + a * 0) + a * 0) = _
      grind
    exact measure_dvd2 (v1 ▸ h1) (v2 ▸ h2)
  | [c0, c1, c2, c3], hl =>
    have e : n = 3 := by simp at hl; omega
    subst e
    have e2 : c3 = 1 := ht
    subst e2
    have v1 : M.val [c0, c1, c2, 1] a = a * a * a + c2 * a * a + c1 * a + c0 := by
      show c0 + a * (c1 + a * (c2 + a * (1 + a * 0))) = _
      grind
    have v2 : M.val (syn a [c0, c1, c2, 1]) a = 3 * a * a + 2 * c2 * a + c1 := by
      show (c1 + a * (c2 + a * (1 + a * 0))) + a * ((c2 + a * (1 + a * 0)) + a * ((1 + a * 0) + a * 0)) = _
      grind
    exact measure_dvd3 (v1 ▸ h1) (v2 ▸ h2)
  | [c0, c1, c2, c3, c4], hl =>
    have e : n = 4 := by simp at hl; omega
    subst e
    have e2 : c4 = 1 := ht
    subst e2
    have v1 : M.val [c0, c1, c2, c3, 1] a = a * a * a * a + c3 * a * a * a + c2 * a * a + c1 * a + c0 := by
      show c0 + a * (c1 + a * (c2 + a * (c3 + a * (1 + a * 0)))) = _
      grind
    have v2 : M.val (syn a [c0, c1, c2, c3, 1]) a = 4 * a * a * a + 3 * c3 * a * a + 2 * c2 * a + c1 := by
      show (c1 + a * (c2 + a * (c3 + a * (1 + a * 0)))) + a * ((c2 + a * (c3 + a * (1 + a * 0))) + a * ((c3 + a * (1 + a * 0)) + a * ((1 + a * 0) + a * 0))) = _
      grind
    exact measure_dvd4 (v1 ▸ h1) (v2 ▸ h2)
  | _ :: _ :: _ :: _ :: _ :: _ :: _, hl => simp at hl; omega
theorem Mo.dede {n : Nat} {p a : Int} {f : List Int} (m : Mo n p f) (hp : p ∈ primes) (ho : outB f (M.measure f) = false) (h1 : p ∣ M.val f a) (h2 : p ∣ M.val (syn a f) a) : ¬ p * p ∣ M.val f a := fun h3 => by
  have hm := meas m h3 h2
  have hl := m.hl
  have hn := m.hn
  have h4 := m.n4
  obtain ⟨l1, l2, l3⟩ := lo_is m.pr.1 a
  generalize hb : -(lo p a : Int) = b at *
  have d1 : p ∣ M.val (syn b f) a := by
    rw [dd_same f]
    have := Int.dvd_sub h2 (val_mod l3 (syn a f))
    rw [Int.sub_sub_self] at this
    exact this
  have d2 : p ∣ M.val (syn b f) b := by
    have := Int.dvd_sub d1 (val_mod l3 (syn b f))
    rw [Int.sub_sub_self] at this
    exact this
  have d3 : p * p ∣ M.val f b := by
    have e := val_syn f a b
    obtain ⟨u, hu⟩ := d1
    obtain ⟨v, hv⟩ := l3
    obtain ⟨w, hw⟩ := h3
    exact ⟨w - v * u, by grind⟩
  have d4 : p ∣ M.val f b := Int.dvd_trans (Int.dvd_mul_right p p) d3
  subst hb
  have tw := m.twice l2 d4 d2
  have hin : ([(lo p a : Int), 1], rtE p (M.modPoly f p) (lo p a)) ∈ M.split f p := by
    rw [m.split h1]
    refine List.mem_append_left _ (List.mem_flatMap.mpr ⟨lo p a, List.mem_range.mpr (by omega), ?_⟩)
    unfold rtG
    rw [if_neg (by omega)]
    exact List.mem_singleton.mpr rfl
  have hsq : p ∈ sqp (M.measure f) := List.mem_filter.mpr ⟨hp, decide_eq_true (Int.emod_eq_zero_of_dvd hm)⟩
  have h5 := List.any_eq_false.mp ho p hsq
  have h6 := List.any_eq_false.mp (Bool.eq_false_iff.mpr h5) _ hin
  refine h6 ?_
  unfold hitB
  rw [Bool.and_eq_true]
  refine ⟨decide_eq_true tw, List.all_eq_true.mpr fun c hc => decide_eq_true (Int.emod_eq_zero_of_dvd ?_)⟩
  rw [poly_rem (by omega) (by omega) c hc]
  exact d3
/-! the rows hold whole numbers -/
theorem known_whole {n : Nat} {f : List Int} (hn : 2 ≤ n) (h4 : n ≤ 4) (hl : f.length = n + 1) (h1 : f.getD n 0 = 1) (hr : ∀ a, M.val f a ≠ 0) (ha : apartB f = false) {m : Int} (hm : 1 ≤ m) (r : Int) {i : Nat} (hi : i < n) : Whole n (toV f) (toV (knownRow n m r i)) := by
  match i with
  | 0 =>
    rw [known0 (by omega)]
    exact ⟨m, by omega, In.self⟩
  | 1 =>
    rw [known_up (c := toV f) (by omega) hi]
    exact whole1 (by omega) hl h1 (hr _)
  | 2 =>
    rw [known_up (c := toV f) (by omega) hi]
    match f, hl with
    | [], hl => simp at hl
    | [_], hl => simp at hl; omega
    | [_, _], hl => simp at hl; omega
    | [_, _, _], hl => simp at hl; omega
    | [c0, c1, c2, c3], hl =>
      have e : n = 3 := by simp at hl; omega
      subst e
      have e2 : c3 = 1 := h1
      subst e2
      exact whole2_3 hr
    | [c0, c1, c2, c3, c4], hl =>
      have e : n = 4 := by simp at hl; omega
      subst e
      have e2 : c4 = 1 := h1
      subst e2
      exact whole2_4 hr fun b a b' a' q0 q1 q2 q3 => no_quad ha q0 q1 q2 q3
    | _ :: _ :: _ :: _ :: _ :: _ :: _, hl => simp at hl; omega
  | 3 =>
    rw [known_up (c := toV f) (by omega) hi]
    have e : n = 4 := by omega
    subst e
    match f, hl with
    | [c0, c1, c2, c3, c4], hl =>
      have e2 : c4 = 1 := h1
      subst e2
      exact whole3_4 hr fun b a b' a' q0 q1 q2 q3 => no_quad ha q0 q1 q2 q3
  | i + 4 => omega
/-! counts -/
theorem cnt_ex2 {f h x : List Int} {p : Int} {n : Nat} (hn : 1 ≤ n) (hh : h.length = n) (hx : x.length = n) (hp : p ≠ 0) : ∀ j : Nat, ¬ Dv (p ^ (j + 1)) (it n (toV f) h (j + 1) (toV x)) → ∃ k, Cnt f h p x k ∧ ¬ Dv (p ^ (k + 1)) (it n (toV f) h (k + 1) (toV x)) := by
  intro j
  induction j using Nat.strongRecOn with
  | _ j ih =>
    intro hj
    by_cases hall : ∀ i, i < j → Dv (p ^ (i + 1)) (it n (toV f) h (i + 1) (toV x))
    · exact ⟨j, cnt_of hn hh hx hp hall hj, hj⟩
    · obtain ⟨i, hi⟩ := Classical.not_forall.mp hall
      obtain ⟨hij, hi2⟩ := Classical.not_imp.mp hi
      exact ih i hij hi2
theorem often_of {f : List Int} {t : List (List Int)} {h : List Int} {n : Nat} {p m r : Int} {k : Nat} (hn : n ≤ 1000) (ti : TurnIn f t) (ht : turnerM f t = h) (h0 : t00 t = p) (tm : ∀ x : List Int, x.length = n → TimesIn f h x)
    (hall : ∀ i, i < n → ∃ q, Cnt f h p (knownRow n m r i) q ∧ k ≤ q) (hone : ∃ i, i < n ∧ Cnt f h p (knownRow n m r i) k) : OftenIs f t (knownT n m r) k := by
  obtain ⟨i0, hi0, h1⟩ := hone
  have hex : ∀ i, ∃ q, i < n → Cnt f h p (knownRow n m r i) q ∧ k ≤ q ∧ (i = i0 → q = k) := fun i => by
    by_cases hi : i < n
    · by_cases e : i = i0
      · exact ⟨k, fun _ => ⟨e ▸ h1, Nat.le_refl _, fun _ => rfl⟩⟩
      · obtain ⟨q, q1, q2⟩ := hall i hi
        exact ⟨q, fun _ => ⟨q1, q2, fun z => absurd z e⟩⟩
    · exact ⟨0, fun z => absurd z hi⟩
  have hκ := fun i => Classical.choose_spec (hex i)
  generalize hk : (fun i => Classical.choose (hex i)) = κ at *
  have hκ : ∀ i, i < n → Cnt f h p (knownRow n m r i) (κ i) ∧ k ≤ κ i ∧ (i = i0 → κ i = k) := fun i hi => by
    have := hκ i hi
    have e : κ i = Classical.choose (hex i) := by rw [← hk]
    rw [e]
    exact this
  have hlen := knownT_len n m r
  refine ⟨ti, by omega, by omega, (List.range n).map κ, by rw [List.length_map, List.length_range, hlen], fun i hi => ?_, ?_, fun q hq => ?_⟩
  · rw [hlen] at hi
    rw [known_at hi, ht, h0]
    have e : ((List.range n).map κ).getD i 0 = κ i := by
      rw [List.getD_eq_getElem?_getD, List.getElem?_map, List.getElem?_range hi]
      rfl
    rw [e]
    exact ⟨tm _ (knownRow_len n m r i), (hκ i hi).1⟩
  · exact List.mem_map.mpr ⟨i0, List.mem_range.mpr hi0, (hκ i0 hi0).2.2 rfl⟩
  · obtain ⟨i, hi, rfl⟩ := List.mem_map.mp hq
    exact (hκ i (List.mem_range.mp hi)).2.1
/-- all that is known -/
structure All (n : Nat) (p : Int) (f : List Int) : Prop extends Mo n p f where
  inp : p ∈ primes
  sm : ∀ c ∈ f, c.natAbs ≤ 499
  root : ∀ a, M.val f a ≠ 0
  apart : apartB f = false
  outside : outB f (M.measure f) = false
section
variable {n : Nat} {p : Int} {f : List Int}
theorem primes_small : ∀ p ∈ primes, p ≤ 199 := by decide +kernel
theorem dd_h {a : Int} {h : List Int} (L : Lin n f p a h) (hd : p ∣ M.val h a) : p ∣ M.val (syn a f) a := by
  have := val_coef (p := p) (f := h) (l := syn a f) (by rw [L.hh, L.syn_len]) L.hq a
  have := Int.dvd_sub hd this
  rw [Int.sub_sub_self] at this
  exact this
theorem All.ends (A : All n p f) {a : Int} {h : List Int} (L : Lin n f p a h) : Ends n (toV f) p h := by
  by_cases hd : p ∣ M.val h a
  · obtain ⟨w, hw⟩ := L.rt
    exact L.ram hw fun hpw => A.dede A.inp A.outside L.rt (dd_h L hd) (by
      obtain ⟨z, hz⟩ := hpw
      exact ⟨z, by rw [hw, hz, Int.mul_assoc]⟩)
  · exact L.ends hd
theorem All.row_ex (A : All n p f) {h : List Int} (hh : h.length = n) (E : Ends n (toV f) p h) {m : Int} (hm : 1 ≤ m) (r : Int) {i : Nat} (hi : i < n) : ∃ k, Cnt f h p (knownRow n m r i) k ∧ ¬ Dv (p ^ (k + 1)) (it n (toV f) h (k + 1) (toV (knownRow n m r i))) := by
  obtain ⟨N', hN, y, hy⟩ := known_whole A.hn A.n4 A.hl A.h1 A.root A.apart hm r hi
  obtain ⟨j, hj⟩ := ends_on A.pr E hN hy
  have := A.hn
  have := A.pr.1
  exact cnt_ex2 (by omega) hh (knownRow_len n m r i) (by omega) j hj
theorem sup_row (m r : Int) (i : Nat) : Sup n (toV (knownRow n m r i)) := fun j hj => getD_none (by rw [knownRow_len]; exact hj)
theorem All.p1000 (A : All n p f) : p ≤ 1000 := by have := primes_small p A.inp; omega
theorem lo_one {a b : Int} (hp : 2 ≤ p) (h : p ∣ a - b) : lo p a = lo p b := by
  obtain ⟨l1, l2, l3⟩ := lo_is hp a
  obtain ⟨k1, k2, k3⟩ := lo_is hp b
  obtain ⟨u, hu⟩ := h
  have : (lo p a : Int) = (lo p b : Int) := by
    rw [l1]
    exact mod_is (by
      obtain ⟨v, hv⟩ := k3
      exact ⟨-u - v, by grind⟩) (by omega) k2
  omega
/-- over r: k times -/
theorem All.over (A : All n p f) {m r : Int} {k : Nat} (hm : 1 ≤ m) (hk : 1 ≤ k) (h1 : p ^ k ∣ m) (h2 : ¬ p ^ (k + 1) ∣ m) (hmr : m ∣ M.val f r) : OftenIs f (primeTable n [(lo p r : Int), 1] p) (knownT n m r) k := by
  have hp := A.pr.1
  have hn := A.hn
  have h4 := A.n4
  obtain ⟨l1, l2, l3⟩ := lo_is hp r
  have hpk : p ∣ p ^ k := ⟨p ^ (k - 1), by rw [Int.mul_comm, ← Int.pow_succ, Nat.succ_eq_add_one, Nat.sub_add_cancel hk]⟩
  have hf : p ^ k ∣ M.val f r := Int.dvd_trans h1 hmr
  have hpm : p ∣ m := Int.dvd_trans hpk h1
  have hg : Gd p [(lo p r : Int), 1] := gd_lin hp (by omega) l2
  have L := A.lin l2 l3 (Int.dvd_trans hpk hf)
  have hD : 1 < n := by omega
  have ht := A.turner hg rfl (Nat.le_refl 1) hD
  have hlow : ∀ i, i < n → ∀ j, j ≤ k → Dv (p ^ j) (it n (toV f) (quP n f p [(lo p r : Int), 1]) j (toV (knownRow n m r i))) := fun i hi => L.low k _ (sup_row m r i) hf (Int.dvd_trans h1 (known_vl (by omega) i hi))
  refine often_of (by omega) (A.turnIn A.p1000 hg rfl (Nat.le_refl 1) hD) ht (prime_t00 (by omega) (by show 1 ≤ 1; omega)) (fun x hx => A.timesIn A.p1000 A.sm rfl (Nat.le_refl 1) hD hx) (fun i hi => ?_) ?_
  · obtain ⟨q, q1, q2⟩ := A.row_ex L.hh (A.ends L) hm r hi
    refine ⟨q, q1, ?_⟩
    rcases Nat.lt_or_ge q k with h | h
    · exact absurd (hlow i hi (q + 1) h) q2
    · exact h
  · by_cases hd : p ∣ M.val (quP n f p [(lo p r : Int), 1]) r
    · have hno := A.dede A.inp A.outside L.rt (dd_h L hd)
      have hk1 : k = 1 := by
        rcases Nat.lt_or_ge 1 k with h | h
        · exfalso
          refine hno (Int.dvd_trans ?_ hf)
          exact ⟨p ^ (k - 2), by rw [show p * p = p ^ 2 by grind, ← Int.pow_add, show 2 + (k - 2) = k by omega]⟩
        · omega
      subst hk1
      obtain ⟨w, hw⟩ := L.rt
      refine ⟨1, hD, cnt_of (by omega) L.hh (knownRow_len n m r 1) (by omega) (fun j hj => hlow 1 hD (j + 1) (by omega)) ?_⟩
      rw [known_up (c := toV f) (Nat.le_refl 1) hD]
      refine L.once hn hw (fun hpw => hno ?_) hd ?_
      · obtain ⟨z, hz⟩ := hpw
        exact ⟨z, by rw [hw, hz, Int.mul_assoc]⟩
      · have := known_s m r 1
        rw [Int.pow_succ, Int.pow_zero, Int.one_mul] at this
        exact Int.dvd_trans hpm this
    · refine ⟨0, by omega, cnt_of (by omega) L.hh (knownRow_len n m r 0) (by omega) (fun j hj => hlow 0 (by omega) (j + 1) (by omega)) fun hdv => ?_⟩
      rw [known0 (by omega), it_smul] at hdv
      refine L.unit hd (k + 1) fun i => ?_
      obtain ⟨m', hm'⟩ := h1
      obtain ⟨z, hz⟩ := hdv i
      have hz : m * it n (toV f) (quP n f p [(lo p r : Int), 1]) (k + 1) e0 i = p ^ (k + 1) * z := hz
      have hpk0 : p ^ k ≠ 0 := Int.ne_of_gt (Int.pow_pos (by omega))
      have h3 : p ∣ m' * it n (toV f) (quP n f p [(lo p r : Int), 1]) (k + 1) e0 i := ⟨z, Int.eq_of_mul_eq_mul_left hpk0 (by rw [← Int.mul_assoc, ← hm', hz, Int.pow_succ, Int.mul_assoc])⟩
      rcases A.pr.2 _ _ h3 with h5 | h5
      · exfalso
        obtain ⟨v, hv⟩ := h5
        exact h2 ⟨v, by rw [hm', hv, Int.pow_succ, Int.mul_assoc]⟩
      · exact h5
theorem none_of {f h x : List Int} (hn : 1 ≤ n) (hh : h.length = n) (hx : x.length = n) (hp : p ≠ 0) (h2 : ¬ Dv p (act n (toV f) h (toV x))) : Cnt f h p x 0 := cnt_of hn hh hx hp (fun j hj => absurd hj (Nat.not_lt_zero _)) fun hd => h2 (by
  rw [Int.pow_succ, Int.pow_zero, Int.one_mul] at hd
  exact hd)
/-- over another root: not at all -/
theorem All.other (A : All n p f) {m r : Int} (hm : 1 ≤ m) (hpm : p ∣ m) {low : Nat} (hl : (low : Int) < p) (hv : p ∣ M.val f (-(low : Int))) (hne : low ≠ lo p r) : OftenIs f (primeTable n [(low : Int), 1] p) (knownT n m r) 0 := by
  have hp := A.pr.1
  have hn := A.hn
  have h4 := A.n4
  have hD : 1 < n := by omega
  have hg : Gd p [(low : Int), 1] := gd_lin hp (by omega) hl
  have L := A.lin (a := -(low : Int)) hl ⟨0, by omega⟩ hv
  have ht := A.turner hg rfl (Nat.le_refl 1) hD
  refine often_of (by omega) (A.turnIn A.p1000 hg rfl (Nat.le_refl 1) hD) ht (prime_t00 (by omega) (by show 1 ≤ 1; omega)) (fun x hx => A.timesIn A.p1000 A.sm rfl (Nat.le_refl 1) hD hx) (fun i hi => ?_) ⟨1, hD, ?_⟩
  · obtain ⟨q, q1, q2⟩ := A.row_ex L.hh (A.ends L) hm r hi
    exact ⟨q, q1, Nat.zero_le _⟩
  · refine none_of (by omega) L.hh (knownRow_len n m r 1) (by omega) ?_
    rw [known_up (c := toV f) (Nat.le_refl 1) hD]
    refine L.none hn fun hd => hne ?_
    have h5 := Int.dvd_trans hpm (known_s m r 1)
    rw [Int.pow_succ, Int.pow_zero, Int.one_mul] at h5
    have h6 := Int.dvd_sub h5 hd
    have h7 := lo_one (p := p) (a := r) (b := -(low : Int)) hp (by
      obtain ⟨u, hu⟩ := h6
      exact ⟨u, by grind⟩)
    rw [h7]
    have h8 := (lo_is hp (-(low : Int))).1
    rw [Int.neg_neg, Int.emod_eq_of_lt (by omega) hl] at h8
    omega
theorem rho_take {d : Nat} {b : Ve} (l : List Int) : ∀ k, rho d b k (toV l) = act d b (l.take k) e0
  | 0 => rfl
  | k + 1 => by
    rw [act_take, ← rho_take l k]
    rfl
/-- over what stays: not at all -/
theorem All.stays (A : All n p f) {m r a : Int} (hm : 1 ≤ m) (ha : p ∣ M.val f a) (h3 : 3 ≤ (lf f p).length) : OftenIs f (primeTable n (lf f p) p) (knownT n m r) 0 := by
  have hp := A.pr.1
  have hn := A.hn
  have h4 := A.n4
  obtain ⟨g1, g2, g3, g4, g5, g6⟩ := A.left
  have g6 := g6 a ha
  obtain ⟨d, hd⟩ : ∃ d, (lf f p).length = d + 1 := ⟨(lf f p).length - 1, by omega⟩
  have hD : d < n := by omega
  have ht := A.turner g1 hd (by omega) hD
  have hgt : (lf f p).getD d 0 = 1 := by
    have := g1.top
    rw [hd] at this
    exact this
  obtain ⟨q1, q2⟩ := A.qu_is hd (by omega)
  have hql := A.quP_len hd (by omega) (by omega)
  have hQ := A.qu_left g1 hd (by omega) (by omega) g3
  have E : Ends n (toV f) p (quP n f p (lf f p)) := by
    refine left_ends (d := d) (g := lf f p) (as := lfA f p) A.pr (by omega) (by omega) hd hgt (fun i => ?_) (fun b _ => g4 b) (fun x _ i => hQ d (toV (lf f p)) x i)
    have h5 := g3 d (toV (lf f p)) e0 i
    rw [act_self0 (by omega) hd hgt] at h5
    have h6 : bbs d (toV (lf f p)) (lfA f p) (fun _ => 0) i = 0 := by
      have h := bbs_smul (n := d) (c := toV (lf f p)) 0 (lfA f p) (fun _ => 0)
      simp only [Int.zero_mul] at h
      rw [h]
    rw [h6, Int.sub_zero] at h5
    have h7 := act_take (n := d) (c := toV (lf f p)) f n e0
    rw [List.take_of_length_le (by rw [A.hl]; exact Nat.le_refl _), A.h1, ← rho_take] at h7
    rw [h7] at h5
    have h5 : p ∣ rho d (toV (lf f p)) n (toV f) i + 1 * tp d (toV (lf f p)) n e0 i := h5
    rw [Int.one_mul] at h5
    exact h5
  refine often_of (by omega) (A.turnIn A.p1000 g1 hd (by omega) hD) ht (prime_t00 (by omega) (by omega)) (fun x hx => A.timesIn A.p1000 A.sm hd (by omega) hD hx) (fun i hi => ?_) ⟨1, by omega, ?_⟩
  · obtain ⟨q, k1, k2⟩ := A.row_ex hql E hm r hi
    exact ⟨q, k1, Nat.zero_le _⟩
  · refine none_of (by omega) hql (knownRow_len n m r 1) (by omega) ?_
    rw [known_up (c := toV f) (Nat.le_refl 1) (by omega)]
    refine short_none hp (d := n - d) (by omega) (by omega) ?_ (fun i hi => ?_)
    · unfold quP
      have := q1.top
      rw [q2, show n + 1 - d - 1 = n - d by omega] at this
      rw [getD_pad, this]
      exact ⟨0, by omega⟩
    · unfold quP
      rw [getD_pad]
      exact getD_none (by omega)
end
end N
end K41
set_option Elab.async false
set_option linter.all false
set_option maxRecDepth 100000
set_option maxHeartbeats 4000000
namespace K41
namespace N
theorem ring_all {f : List Int} (h : ringB f = true) : 2 ≤ f.length - 1 ∧ f.length - 1 ≤ 4 ∧ f.length = f.length - 1 + 1 ∧ f.getD (f.length - 1) 0 = 1 ∧ (∀ c ∈ f, c.natAbs ≤ 499) ∧ (∀ a, M.val f a ≠ 0) ∧ apartB f = false ∧ outB f (M.measure f) = false := by
  unfold ringB at h
  rw [Bool.and_eq_true, Bool.and_eq_true, Bool.and_eq_true] at h
  obtain ⟨h1, h2, _, h4⟩ := h
  obtain ⟨g1, g2, g3, g4⟩ := goodP_is h1
  have ha : apartB f = false := by
    cases e : apartB f with
    | false => rfl
    | true => rw [e] at h2; cases h2
  have ho : outB f (M.measure f) = false := by
    cases e : outB f (M.measure f) with
    | false => rfl
    | true => rw [e] at h4; cases h4
  have hw : wholeRoot f = none := by
    have h5 := ha
    unfold apartB at h5
    rw [Bool.or_eq_false_iff] at h5
    cases e : wholeRoot f with
    | none => rfl
    | some x => rw [e] at h5; cases h5.1
  exact ⟨by omega, by omega, by omega, g3, g4, no_root hw, ha, ho⟩
theorem all_of {f : List Int} (h : ringB f = true) {p : Int} (hp : p ∈ primes) : All (f.length - 1) p f := by
  obtain ⟨h1, h2, h3, h4, h5, h6, h7, h8⟩ := ring_all h
  exact { pr := prime_of hp, hn := h1, n4 := h2, hl := h3, h1 := h4, inp := hp, sm := h5, root := h6, apart := h7, outside := h8 }
theorem pick {α : Type} (X : α) {a : Nat} : ∀ P : Nat, (List.range P).flatMap (fun low => if low = a then [X] else []) = if a < P then [X] else []
  | 0 => rfl
  | P + 1 => by
    rw [List.range_succ, List.flatMap_append, pick X P]
    show _ ++ ((if P = a then [X] else []) ++ []) = _
    rw [List.append_nil]
    by_cases e : P = a
    · subst e
      rw [if_neg (by omega), if_pos rfl, if_pos (by omega)]
      rfl
    · rw [if_neg e, List.append_nil]
      by_cases h : a < P
      · rw [if_pos h, if_pos (by omega)]
      · rw [if_neg h, if_neg (by omega)]
theorem flat_one {α β : Type} {F : α → List β} {G : α → β} : ∀ l : List α, (∀ x ∈ l, F x = [G x]) → l.flatMap F = l.map G
  | [], _ => rfl
  | a :: l, h => by
    rw [List.flatMap_cons, h a List.mem_cons_self, flat_one l fun x hx => h x (List.mem_cons_of_mem _ hx)]
    rfl
/-- how often, by the prime and the row -/
def cntR (m r p : Int) (g : List Int) : Nat := if g = [(lo p r : Int), 1] then (M.out p m).1 else 0
theorem lin_ne {a b : Nat} (h : a ≠ b) : [(a : Int), 1] ≠ [(b : Int), 1] := fun e => by
  have := List.head_eq_of_cons_eq e
  omega
theorem taken_one {f : List Int} (hR : ringB f = true) {m r : Int} (hm : 1 ≤ m) (hmr : m ∣ M.val f r) {pk : Int × Nat} (hpk : pk ∈ (M.parts primes m).1) :
    (∀ s ∈ M.split f pk.1, OftenIs f (primeTable (f.length - 1) s.1 pk.1) (knownT (f.length - 1) m r) (cntR m r pk.1 s.1)) ∧ takenP f (cntR m r) pk.1 = [dueOf f r pk] := by
  obtain ⟨h1, h2, h3, h4⟩ := parts_exp hm hpk
  obtain ⟨p, k⟩ := pk
  have A := all_of hR h1
  have h1 : p ∈ primes := h1
  have h2 : 1 ≤ k := h2
  have h3 : p ^ k ∣ m := h3
  have h4 : ¬ p ^ (k + 1) ∣ m := h4
  have A : All (f.length - 1) p f := A
  show (∀ s ∈ M.split f p, OftenIs f (primeTable (f.length - 1) s.1 p) (knownT (f.length - 1) m r) (cntR m r p s.1)) ∧ takenP f (cntR m r) p = [dueOf f r (p, k)]
  have hp := A.pr.1
  obtain ⟨l1, l2, l3⟩ := lo_is hp r
  have hk : (M.out p m).1 = k := by
    obtain ⟨o1, o2⟩ := out_exp A.pr hm
    exact exp_one o1 o2 h3 h4
  have hpm : p ∣ m := Int.dvd_trans ⟨p ^ (k - 1), by rw [Int.mul_comm, ← Int.pow_succ, Nat.succ_eq_add_one, Nat.sub_add_cancel h2]⟩ h3
  have hv : p ∣ M.val f r := Int.dvd_trans hpm hmr
  have hlf : ∀ {j : Int}, 3 ≤ (lf f p).length → lf f p ≠ [j, 1] := fun {j} h e => by
    rw [e] at h
    have : 3 ≤ 2 := h
    omega
  constructor
  · intro s hs
    rcases A.mem hv hs with ⟨low, q1, q2, q3⟩ | ⟨q1, q2⟩
    · rw [q3]
      by_cases e : low = lo p r
      · subst e
        unfold cntR
        rw [if_pos rfl, hk]
        exact A.over hm h2 h3 h4 hmr
      · unfold cntR
        rw [if_neg (lin_ne e)]
        exact A.other hm hpm q1 q2 e
    · rw [q1]
      unfold cntR
      rw [if_neg (hlf q2)]
      exact A.stays hm hv q2
  · unfold takenP
    rw [A.split hv, List.flatMap_append, List.flatMap_assoc]
    have e1 : ((if 1 < (lf f p).length then [(lf f p, 1)] else [] : List (List Int × Nat)).flatMap (takenS f (cntR m r) p)) = [] := by
      split
      · rename_i h
        have := A.left.2.2.2.2.1
        rw [List.flatMap_singleton]
        unfold takenS cntR
        rw [if_neg]
        rw [if_neg (hlf (by omega))]
        exact Nat.lt_irrefl 0
      · rfl
    have e2 : ∀ low ∈ List.range p.toNat, (rtG p (M.modPoly f p) low).flatMap (takenS f (cntR m r) p) = if low = lo p r then [dueOf f r (p, k)] else [] := fun low hlow => by
      have hlow := List.mem_range.mp hlow
      by_cases e : low = lo p r
      · subst e
        have hvl : p ∣ M.val f (-(lo p r : Int)) := by
          have := Int.dvd_sub hv (val_mod l3 f)
          rw [Int.sub_sub_self] at this
          exact this
        have hE := (A.toMo.root l2).mp hvl
        unfold rtG
        rw [if_neg (by omega), if_pos rfl, List.flatMap_singleton]
        unfold takenS cntR
        rw [if_pos]
        · rw [if_pos rfl, hk, prime_known A.pr r]
          rfl
        · rw [if_pos rfl, hk]
          exact h2
      · rw [if_neg e]
        unfold rtG
        split
        · rfl
        · rw [List.flatMap_singleton]
          unfold takenS cntR
          rw [if_neg]
          rw [if_neg (lin_ne e)]
          exact Nat.lt_irrefl 0
    rw [e1, List.append_nil]
    have e3 : (List.range p.toNat).flatMap (fun low => (rtG p (M.modPoly f p) low).flatMap (takenS f (cntR m r) p)) = (List.range p.toNat).flatMap (fun low => if low = lo p r then [dueOf f r (p, k)] else []) := by
      rw [List.flatMap_def, List.flatMap_def, List.map_congr_left e2]
    rw [e3, pick, if_pos (by omega)]
end N
theorem plain : Plain where
  root := fun f r h => (N.ring_all h).2.2.2.2.2.1 r
  taken := fun f r m h hm hmr _ => ⟨N.cntR m r, fun pk hpk => (N.taken_one h hm hmr hpk).1, N.flat_one _ fun pk hpk => (N.taken_one h hm hmr hpk).2⟩
end K41
set_option Elab.async false
set_option linter.all false
set_option maxRecDepth 100000
set_option maxHeartbeats 4000000
namespace K41
open PySem PySem.Spec PyProof.Rows L2 Evl
theorem law_facts (PL : Plain) {P : Program} {w : World} {K : PySem.W.Frag} {h : Heap} {mg : Str → Option Value} {f : Addr} (X : K.In h) (G : h.Ns mainGlobals mg) (hfa : mg ("law" : Str) = some (.ref f)) (c : SaysZ K) :
    ∃ fd : FuncData, (∀ (s : Shared) (v : Value), BindsTo s fd ⟨[v], []⟩ [("_law_script", v)]) ∧ ∀ base : Heap, K.In base → base.Ns mainGlobals mg → FnOk P w K mg base CX0 10 f fd ["_law_script"] (sp_law K) := by
  have T := tx_of X G c
  have e := hfa.symm.trans T.g_law
  cases e
  obtain ⟨fd, F⟩ := T.f_law
  have b := FunD.bindsA (ps := ["_law_script"]) F fun _ _ _ _ _ _ us hl => match us, hl with | [_], _ => rfl
  refine ⟨fd, fun s v => b s [v] rfl, fun base X2 G2 => ?_⟩
  have T2 := tx_of X2 G2 c
  exact fn_law F T2 PL
end K41
open PySem PySem.W PySem.Calls PyProof.Rows
theorem PySem.Challenge.cw_ringhouse_k41_whole_taken_of_known_holds : PySem.Challenge.rw_ringhouse_k41_whole_taken_of_known.Holds := by
  w_on; o_law
  refine HandSHeadRun.head_any (r := OpenLaw.row PySem.Challenge.rw_ringhouse_k41_whole_taken_of_known) (q := view (OpenLaw.row PySem.Challenge.rw_ringhouse_k41_whole_taken_of_known).prog [K41.lawAt]) (H := K41.hk) (ob := K41.ob) (M := 4000) (loose := K41.names)
    (d := HandSHeadRun.topDef (OpenLaw.row PySem.Challenge.rw_ringhouse_k41_whole_taken_of_known).prog K41.lawAt) (kwd := []) K41.ob_eq (by kernel_rfl) (fun s => by kernel_rfl) K41.run (by kernel_rfl) (by kernel_rfl) (by kernel_rfl) (by rfl) (by first | assumption | decide +kernel) (by decide +kernel) ⟨rfl, rfl, rfl, rfl, rfl, by decide +kernel⟩ ?hw ?hc
  case hw => w_witness2
  case hc =>
    refine L2.walk_ofE (l := PySem.Challenge.rw_ringhouse_k41_whole_taken_of_known) (n := 63) (k := 10) (x := "_law_script") (CX := L2.CX0) rfl (by decide) (by kernel_rfl) ⟨rfl, by decide, by decide⟩ ?F (fun _ _ _ _ z => z)
    intro w mg fa h Y G hmg0
    obtain ⟨K, KX, c⟩ := Y
    have hmg : mg ("law" : PySem.Str) = some (.ref fa) := by
      have en : (HandSHeadRun.topDef (OpenLaw.row PySem.Challenge.rw_ringhouse_k41_whole_taken_of_known).prog K41.lawAt).name = ("law" : PySem.Str) := by kernel_rfl
      rw [← en]
      exact hmg0
    obtain ⟨fd, hb, hF⟩ := K41.law_facts K41.plain (P := (PySem.Challenge.rw_ringhouse_k41_whole_taken_of_known).prog) (w := w) KX G hmg c
    exact ⟨K, fd, K41.sp_law K, KX, hb, fun H a ns hl _ hS => ⟨a, ns, rfl, hS, fun _ => rfl⟩, hF⟩
