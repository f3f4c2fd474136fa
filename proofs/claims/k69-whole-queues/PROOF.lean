import PyProof.Rows.All
import Wide.All
import OpenK.AllK
import Wide.FinOn
import HandS.ForMost
import HandS.More
import HandS.WordsExc
import HandS.Defaults
import KE.KStateDown
import Lean
import HandS.Head0
import HandS.Head1
import HandS.Head2
import HandS.Head3
import HandS.HeadEnd
import HandS.HeadHook1
import HandS.HeadHook2
import HandS.Wide
import HandS.IsInst
import HandS.TupAny
import HandS.Zip
import HandS.SortInts
import HandS.Style
import HandS.Conv
import PyProof.Rows.Range3
import PyProof.Walk
import PyProof.WalkLemmas
import PyProof.RulesTry
import PyProof.RangeIter
import HandS.WideBits
import HandS.Text
import HandS.SortOrd
import PyProof.Rows.SortShell
import KE.KEqSeq
import HandS.TryOnly
import PySem.Challenge.RW_quitsways_k69_whole_queues_against_all_o
set_option Elab.async false
set_option linter.all false
set_option maxRecDepth 100000
set_option maxHeartbeats 4000000
set_option exponentiation.threshold 100000
/-! QT: the text by places, the facts of the top -/
namespace QH
open PySem PySem.Spec PyProof.Rows L2
def top (i : Nat) : Stmt := PySem.Challenge.pw_quitsways_k69_whole_queues_against_all_o.main.body.getD i (.Pass ⟨0, 0, 0, 0⟩)
abbrev s_is_integer : Stmt := top 8
abbrev s_is_within : Stmt := top 9
abbrev s_is_pair : Stmt := top 10
abbrev s_are_ascending : Stmt := top 11
abbrev s_is_lot_below : Stmt := top 12
abbrev s_check_most : Stmt := top 13
abbrev s_common_divisor : Stmt := top 16
abbrev s_made : Stmt := top 17
abbrev s_plus : Stmt := top 18
abbrev s_minus : Stmt := top 19
abbrev s_over : Stmt := top 20
abbrev s_is_less : Stmt := top 21
abbrev s_least_of : Stmt := top 22
abbrev s_total_of : Stmt := top 23
abbrev s_measure_of : Stmt := top 24
abbrev s_is_fraction : Stmt := top 25
abbrev s_is_amount : Stmt := top 26
abbrev s_are_sums : Stmt := top 29
abbrev s_Evening_init : Stmt := inClass (top 30) 0
abbrev s_all_sums : Stmt := top 31
abbrev s_people : Stmt := top 32
abbrev s_measure : Stmt := top 33
abbrev s_State_init : Stmt := inClass (top 35) 0
abbrev s_State_amount_of : Stmt := inClass (top 35) 1
abbrev s_State_go : Stmt := inClass (top 35) 2
abbrev s_is_order : Stmt := top 38
abbrev s_sorted_numbers : Stmt := top 39
abbrev s_check_orders : Stmt := top 40
abbrev s_way_of_queues : Stmt := top 41
abbrev s_queue_way : Stmt := top 42
abbrev s_queue_number : Stmt := top 43
abbrev s_whole_sums : Stmt := top 44
abbrev s_sums_behind : Stmt := top 45
abbrev s_joints_of : Stmt := top 46
abbrev s_best_orders : Stmt := top 47
abbrev s_queue_least : Stmt := top 48
abbrev s_queue_most : Stmt := top 49
abbrev s_units_of : Stmt := top 52
abbrev s_check_people : Stmt := top 53
abbrev s_sums_by_mask : Stmt := top 54
abbrev s_best_of : Stmt := top 55
abbrev s_best_by_mask : Stmt := top 56
abbrev s_greatest_of : Stmt := top 58
abbrev s_fewest_of : Stmt := top 60
abbrev s_fewest : Stmt := top 61
abbrev s_greatest : Stmt := top 62
abbrev s_law_is_integer : Stmt := top 64
abbrev s_law_source : Stmt := top 65
abbrev s_law_draw : Stmt := top 66
abbrev s_law_made : Stmt := top 67
abbrev s_law_unit : Stmt := top 68
abbrev s_law_times : Stmt := top 69
abbrev s_law_split : Stmt := top 70
abbrev s_law_perm : Stmt := top 71
abbrev s_law_side : Stmt := top 72
abbrev s_law_sums : Stmt := top 73
abbrev s_law_crowd : Stmt := top 74
abbrev s_law_evening : Stmt := top 75
abbrev s_law_pay : Stmt := top 76
abbrev s_law_same : Stmt := top 77
abbrev s_law_orders : Stmt := top 78
abbrev s_law_queue_way : Stmt := top 79
abbrev s_law_best : Stmt := top 80
abbrev s_law_greater_hold : Stmt := top 81
abbrev s_law : Stmt := top 82
/-- a def of the top, where it stands -/
def Df (K : PySem.W.Frag) (mg : Str → Option Value) (x : Str) (st : Stmt) : Prop := ∃ (f : Addr) (fd : FuncData), mg x = some (.ref f) ∧ FunD K x x (defArgs st) (defBody st) (defScope st) [] [] f fd
/-- a method of the class at C -/
def Dm (K : PySem.W.Frag) (C : Addr) (m qual : Str) (st : Stmt) : Prop := ∃ (f : Addr) (fd : FuncData), Meth K C m f ∧ FunD K m qual (defArgs st) (defBody st) (defScope st) [] [] f fd
/-- a class that is made by its __init__ -/
def Di (K : PySem.W.Frag) (C : Addr) (qual : Str) (st : Stmt) : Prop := ∃ (f : Addr) (fd : FuncData), Mk K C f ∧ FunD K "__init__" qual (defArgs st) (defBody st) (defScope st) [] [] f fd
structure Tx (K : PySem.W.Frag) (mg : Str → Option Value) (CE CS : Addr) : Prop where
  is_integer : Df K mg "is_integer" s_is_integer
  is_within : Df K mg "is_within" s_is_within
  is_pair : Df K mg "is_pair" s_is_pair
  are_ascending : Df K mg "are_ascending" s_are_ascending
  is_lot_below : Df K mg "is_lot_below" s_is_lot_below
  check_most : Df K mg "check_most" s_check_most
  common_divisor : Df K mg "common_divisor" s_common_divisor
  made : Df K mg "made" s_made
  plus : Df K mg "plus" s_plus
  minus : Df K mg "minus" s_minus
  over : Df K mg "over" s_over
  is_less : Df K mg "is_less" s_is_less
  least_of : Df K mg "least_of" s_least_of
  total_of : Df K mg "total_of" s_total_of
  measure_of : Df K mg "measure_of" s_measure_of
  is_fraction : Df K mg "is_fraction" s_is_fraction
  is_amount : Df K mg "is_amount" s_is_amount
  are_sums : Df K mg "are_sums" s_are_sums
  Evening_init : Di K CE "Evening.__init__" s_Evening_init
  all_sums : Df K mg "all_sums" s_all_sums
  people : Df K mg "people" s_people
  measure : Df K mg "measure" s_measure
  State_init : Di K CS "State.__init__" s_State_init
  State_amount_of : Dm K CS "amount_of" "State.amount_of" s_State_amount_of
  State_go : Dm K CS "go" "State.go" s_State_go
  is_order : Df K mg "is_order" s_is_order
  sorted_numbers : Df K mg "sorted_numbers" s_sorted_numbers
  check_orders : Df K mg "check_orders" s_check_orders
  way_of_queues : Df K mg "way_of_queues" s_way_of_queues
  queue_way : Df K mg "queue_way" s_queue_way
  queue_number : Df K mg "queue_number" s_queue_number
  whole_sums : Df K mg "whole_sums" s_whole_sums
  sums_behind : Df K mg "sums_behind" s_sums_behind
  joints_of : Df K mg "joints_of" s_joints_of
  best_orders : Df K mg "best_orders" s_best_orders
  queue_least : Df K mg "queue_least" s_queue_least
  queue_most : Df K mg "queue_most" s_queue_most
  units_of : Df K mg "units_of" s_units_of
  check_people : Df K mg "check_people" s_check_people
  sums_by_mask : Df K mg "sums_by_mask" s_sums_by_mask
  best_of : Df K mg "best_of" s_best_of
  best_by_mask : Df K mg "best_by_mask" s_best_by_mask
  greatest_of : Df K mg "greatest_of" s_greatest_of
  fewest_of : Df K mg "fewest_of" s_fewest_of
  fewest : Df K mg "fewest" s_fewest
  greatest : Df K mg "greatest" s_greatest
  law_is_integer : Df K mg "_law_is_integer" s_law_is_integer
  law_source : Df K mg "_law_source" s_law_source
  law_draw : Df K mg "_law_draw" s_law_draw
  law_made : Df K mg "_law_made" s_law_made
  law_unit : Df K mg "_law_unit" s_law_unit
  law_times : Df K mg "_law_times" s_law_times
  law_split : Df K mg "_law_split" s_law_split
  law_perm : Df K mg "_law_perm" s_law_perm
  law_side : Df K mg "_law_side" s_law_side
  law_sums : Df K mg "_law_sums" s_law_sums
  law_crowd : Df K mg "_law_crowd" s_law_crowd
  law_evening : Df K mg "_law_evening" s_law_evening
  law_pay : Df K mg "_law_pay" s_law_pay
  law_same : Df K mg "_law_same" s_law_same
  law_orders : Df K mg "_law_orders" s_law_orders
  law_queue_way : Df K mg "_law_queue_way" s_law_queue_way
  law_best : Df K mg "_law_best" s_law_best
  law_greater_hold : Df K mg "_law_greater_hold" s_law_greater_hold
  law : Df K mg "law" s_law
  b_len : mg "len" = none
  b_abs : mg "abs" = none
  b_isinstance : mg "isinstance" = none
  b_all : mg "all" = none
  b_range : mg "range" = none
  b_int : mg "int" = none
  b_list : mg "list" = none
  b_tuple : mg "tuple" = none
  b_sorted : mg "sorted" = none
  b_min : mg "min" = none
  b_max : mg "max" = none
  b_sum : mg "sum" = none
  b_zip : mg "zip" = none
  b_bool : mg "bool" = none
  b_str : mg "str" = none
  mSide : ∃ t, mg "MOST_SIDE" = some (.int 100 t)
  mOrd : ∃ t, mg "MOST_ORDERED" = some (.int 9 t)
  mPeo : ∃ t, mg "MOST_PEOPLE" = some (.int 14 t)
  mEv : mg "Evening" = some (.ref CE)
  mSt : mg "State" = some (.ref CS)
  cE : Cls K CE
  cS : Cls K CS
  nOwed : NoAttr K CE "owed"
  nDue : NoAttr K CE "due"
  nOL : NoAttr K CS "owed_left"
  nDL : NoAttr K CS "due_left"
  perm : mg "permutations" = some (.type "itertools.permutations")
  zero : ∃ z, mg "ZERO" = some (.ref z) ∧ ∀ H : Hp, SqT K H z [.int 0, .int 1]
end QH

section
set_option maxHeartbeats 0
/-! QH: the head by facts, over the modules Head0 to Head2, HeadHook1, HeadHook2 (after the kit's worked example 47_heads) -/
namespace QH
open PySem PySem.Spec PyProof.Rows L2
def d_is_integer : He.DefD := ⟨("is_integer", none), "is_integer", "is_integer", defArgs s_is_integer, defBody s_is_integer, defScope s_is_integer, [], []⟩
def d_is_within : He.DefD := ⟨("is_within", none), "is_within", "is_within", defArgs s_is_within, defBody s_is_within, defScope s_is_within, [], []⟩
def d_is_pair : He.DefD := ⟨("is_pair", none), "is_pair", "is_pair", defArgs s_is_pair, defBody s_is_pair, defScope s_is_pair, [], []⟩
def d_are_ascending : He.DefD := ⟨("are_ascending", none), "are_ascending", "are_ascending", defArgs s_are_ascending, defBody s_are_ascending, defScope s_are_ascending, [], []⟩
def d_is_lot_below : He.DefD := ⟨("is_lot_below", none), "is_lot_below", "is_lot_below", defArgs s_is_lot_below, defBody s_is_lot_below, defScope s_is_lot_below, [], []⟩
def d_check_most : He.DefD := ⟨("check_most", none), "check_most", "check_most", defArgs s_check_most, defBody s_check_most, defScope s_check_most, [], []⟩
def d_common_divisor : He.DefD := ⟨("common_divisor", none), "common_divisor", "common_divisor", defArgs s_common_divisor, defBody s_common_divisor, defScope s_common_divisor, [], []⟩
def d_made : He.DefD := ⟨("made", none), "made", "made", defArgs s_made, defBody s_made, defScope s_made, [], []⟩
def d_plus : He.DefD := ⟨("plus", none), "plus", "plus", defArgs s_plus, defBody s_plus, defScope s_plus, [], []⟩
def d_minus : He.DefD := ⟨("minus", none), "minus", "minus", defArgs s_minus, defBody s_minus, defScope s_minus, [], []⟩
def d_over : He.DefD := ⟨("over", none), "over", "over", defArgs s_over, defBody s_over, defScope s_over, [], []⟩
def d_is_less : He.DefD := ⟨("is_less", none), "is_less", "is_less", defArgs s_is_less, defBody s_is_less, defScope s_is_less, [], []⟩
def d_least_of : He.DefD := ⟨("least_of", none), "least_of", "least_of", defArgs s_least_of, defBody s_least_of, defScope s_least_of, [], []⟩
def d_total_of : He.DefD := ⟨("total_of", none), "total_of", "total_of", defArgs s_total_of, defBody s_total_of, defScope s_total_of, [], []⟩
def d_measure_of : He.DefD := ⟨("measure_of", none), "measure_of", "measure_of", defArgs s_measure_of, defBody s_measure_of, defScope s_measure_of, [], []⟩
def d_is_fraction : He.DefD := ⟨("is_fraction", none), "is_fraction", "is_fraction", defArgs s_is_fraction, defBody s_is_fraction, defScope s_is_fraction, [], []⟩
def d_is_amount : He.DefD := ⟨("is_amount", none), "is_amount", "is_amount", defArgs s_is_amount, defBody s_is_amount, defScope s_is_amount, [], []⟩
def d_are_sums : He.DefD := ⟨("are_sums", none), "are_sums", "are_sums", defArgs s_are_sums, defBody s_are_sums, defScope s_are_sums, [], []⟩
def d_Evening_init : He.DefD := ⟨("Evening", some "__init__"), "__init__", "Evening.__init__", defArgs s_Evening_init, defBody s_Evening_init, defScope s_Evening_init, [], []⟩
def d_all_sums : He.DefD := ⟨("all_sums", none), "all_sums", "all_sums", defArgs s_all_sums, defBody s_all_sums, defScope s_all_sums, [], []⟩
def d_people : He.DefD := ⟨("people", none), "people", "people", defArgs s_people, defBody s_people, defScope s_people, [], []⟩
def d_measure : He.DefD := ⟨("measure", none), "measure", "measure", defArgs s_measure, defBody s_measure, defScope s_measure, [], []⟩
def d_State_init : He.DefD := ⟨("State", some "__init__"), "__init__", "State.__init__", defArgs s_State_init, defBody s_State_init, defScope s_State_init, [], []⟩
def d_State_amount_of : He.DefD := ⟨("State", some "amount_of"), "amount_of", "State.amount_of", defArgs s_State_amount_of, defBody s_State_amount_of, defScope s_State_amount_of, [], []⟩
def d_State_go : He.DefD := ⟨("State", some "go"), "go", "State.go", defArgs s_State_go, defBody s_State_go, defScope s_State_go, [], []⟩
def d_is_order : He.DefD := ⟨("is_order", none), "is_order", "is_order", defArgs s_is_order, defBody s_is_order, defScope s_is_order, [], []⟩
def d_sorted_numbers : He.DefD := ⟨("sorted_numbers", none), "sorted_numbers", "sorted_numbers", defArgs s_sorted_numbers, defBody s_sorted_numbers, defScope s_sorted_numbers, [], []⟩
def d_check_orders : He.DefD := ⟨("check_orders", none), "check_orders", "check_orders", defArgs s_check_orders, defBody s_check_orders, defScope s_check_orders, [], []⟩
def d_way_of_queues : He.DefD := ⟨("way_of_queues", none), "way_of_queues", "way_of_queues", defArgs s_way_of_queues, defBody s_way_of_queues, defScope s_way_of_queues, [], []⟩
def d_queue_way : He.DefD := ⟨("queue_way", none), "queue_way", "queue_way", defArgs s_queue_way, defBody s_queue_way, defScope s_queue_way, [], []⟩
def d_queue_number : He.DefD := ⟨("queue_number", none), "queue_number", "queue_number", defArgs s_queue_number, defBody s_queue_number, defScope s_queue_number, [], []⟩
def d_whole_sums : He.DefD := ⟨("whole_sums", none), "whole_sums", "whole_sums", defArgs s_whole_sums, defBody s_whole_sums, defScope s_whole_sums, [], []⟩
def d_sums_behind : He.DefD := ⟨("sums_behind", none), "sums_behind", "sums_behind", defArgs s_sums_behind, defBody s_sums_behind, defScope s_sums_behind, [], []⟩
def d_joints_of : He.DefD := ⟨("joints_of", none), "joints_of", "joints_of", defArgs s_joints_of, defBody s_joints_of, defScope s_joints_of, [], []⟩
def d_best_orders : He.DefD := ⟨("best_orders", none), "best_orders", "best_orders", defArgs s_best_orders, defBody s_best_orders, defScope s_best_orders, [], []⟩
def d_queue_least : He.DefD := ⟨("queue_least", none), "queue_least", "queue_least", defArgs s_queue_least, defBody s_queue_least, defScope s_queue_least, [], []⟩
def d_queue_most : He.DefD := ⟨("queue_most", none), "queue_most", "queue_most", defArgs s_queue_most, defBody s_queue_most, defScope s_queue_most, [], []⟩
def d_units_of : He.DefD := ⟨("units_of", none), "units_of", "units_of", defArgs s_units_of, defBody s_units_of, defScope s_units_of, [], []⟩
def d_check_people : He.DefD := ⟨("check_people", none), "check_people", "check_people", defArgs s_check_people, defBody s_check_people, defScope s_check_people, [], []⟩
def d_sums_by_mask : He.DefD := ⟨("sums_by_mask", none), "sums_by_mask", "sums_by_mask", defArgs s_sums_by_mask, defBody s_sums_by_mask, defScope s_sums_by_mask, [], []⟩
def d_best_of : He.DefD := ⟨("best_of", none), "best_of", "best_of", defArgs s_best_of, defBody s_best_of, defScope s_best_of, [], []⟩
def d_best_by_mask : He.DefD := ⟨("best_by_mask", none), "best_by_mask", "best_by_mask", defArgs s_best_by_mask, defBody s_best_by_mask, defScope s_best_by_mask, [], []⟩
def d_greatest_of : He.DefD := ⟨("greatest_of", none), "greatest_of", "greatest_of", defArgs s_greatest_of, defBody s_greatest_of, defScope s_greatest_of, [], []⟩
def d_fewest_of : He.DefD := ⟨("fewest_of", none), "fewest_of", "fewest_of", defArgs s_fewest_of, defBody s_fewest_of, defScope s_fewest_of, [], []⟩
def d_fewest : He.DefD := ⟨("fewest", none), "fewest", "fewest", defArgs s_fewest, defBody s_fewest, defScope s_fewest, [], []⟩
def d_greatest : He.DefD := ⟨("greatest", none), "greatest", "greatest", defArgs s_greatest, defBody s_greatest, defScope s_greatest, [], []⟩
def d_law_is_integer : He.DefD := ⟨("_law_is_integer", none), "_law_is_integer", "_law_is_integer", defArgs s_law_is_integer, defBody s_law_is_integer, defScope s_law_is_integer, [], []⟩
def d_law_source : He.DefD := ⟨("_law_source", none), "_law_source", "_law_source", defArgs s_law_source, defBody s_law_source, defScope s_law_source, [], []⟩
def d_law_draw : He.DefD := ⟨("_law_draw", none), "_law_draw", "_law_draw", defArgs s_law_draw, defBody s_law_draw, defScope s_law_draw, [], []⟩
def d_law_made : He.DefD := ⟨("_law_made", none), "_law_made", "_law_made", defArgs s_law_made, defBody s_law_made, defScope s_law_made, [], []⟩
def d_law_unit : He.DefD := ⟨("_law_unit", none), "_law_unit", "_law_unit", defArgs s_law_unit, defBody s_law_unit, defScope s_law_unit, [], []⟩
def d_law_times : He.DefD := ⟨("_law_times", none), "_law_times", "_law_times", defArgs s_law_times, defBody s_law_times, defScope s_law_times, [], []⟩
def d_law_split : He.DefD := ⟨("_law_split", none), "_law_split", "_law_split", defArgs s_law_split, defBody s_law_split, defScope s_law_split, [], []⟩
def d_law_perm : He.DefD := ⟨("_law_perm", none), "_law_perm", "_law_perm", defArgs s_law_perm, defBody s_law_perm, defScope s_law_perm, [], []⟩
def d_law_side : He.DefD := ⟨("_law_side", none), "_law_side", "_law_side", defArgs s_law_side, defBody s_law_side, defScope s_law_side, [], []⟩
def d_law_sums : He.DefD := ⟨("_law_sums", none), "_law_sums", "_law_sums", defArgs s_law_sums, defBody s_law_sums, defScope s_law_sums, [], []⟩
def d_law_crowd : He.DefD := ⟨("_law_crowd", none), "_law_crowd", "_law_crowd", defArgs s_law_crowd, defBody s_law_crowd, defScope s_law_crowd, [], []⟩
def d_law_evening : He.DefD := ⟨("_law_evening", none), "_law_evening", "_law_evening", defArgs s_law_evening, defBody s_law_evening, defScope s_law_evening, [], []⟩
def d_law_pay : He.DefD := ⟨("_law_pay", none), "_law_pay", "_law_pay", defArgs s_law_pay, defBody s_law_pay, defScope s_law_pay, [], []⟩
def d_law_same : He.DefD := ⟨("_law_same", none), "_law_same", "_law_same", defArgs s_law_same, defBody s_law_same, defScope s_law_same, [], []⟩
def d_law_orders : He.DefD := ⟨("_law_orders", none), "_law_orders", "_law_orders", defArgs s_law_orders, defBody s_law_orders, defScope s_law_orders, [], []⟩
def d_law_queue_way : He.DefD := ⟨("_law_queue_way", none), "_law_queue_way", "_law_queue_way", defArgs s_law_queue_way, defBody s_law_queue_way, defScope s_law_queue_way, [], []⟩
def d_law_best : He.DefD := ⟨("_law_best", none), "_law_best", "_law_best", defArgs s_law_best, defBody s_law_best, defScope s_law_best, [], []⟩
def d_law_greater_hold : He.DefD := ⟨("_law_greater_hold", none), "_law_greater_hold", "_law_greater_hold", defArgs s_law_greater_hold, defBody s_law_greater_hold, defScope s_law_greater_hold, [], []⟩
def d_law : He.DefD := ⟨("law", none), "law", "law", defArgs s_law, defBody s_law, defScope s_law, [], []⟩
def fn0 : List He.DefD := [d_is_integer, d_is_within, d_is_pair, d_are_ascending, d_is_lot_below, d_check_most, d_common_divisor, d_made, d_plus, d_minus]
def fn1 : List He.DefD := [d_over, d_is_less, d_least_of, d_total_of, d_measure_of, d_is_fraction, d_is_amount, d_are_sums, d_Evening_init, d_all_sums]
def fn2 : List He.DefD := [d_people, d_measure, d_State_init, d_State_amount_of, d_State_go, d_is_order, d_sorted_numbers, d_check_orders, d_way_of_queues, d_queue_way]
def fn3 : List He.DefD := [d_queue_number, d_whole_sums, d_sums_behind, d_joints_of, d_best_orders, d_queue_least, d_queue_most, d_units_of, d_check_people, d_sums_by_mask]
def fn4 : List He.DefD := [d_best_of, d_best_by_mask, d_greatest_of, d_fewest_of, d_fewest, d_greatest, d_law_is_integer, d_law_source, d_law_draw, d_law_made]
def fn5 : List He.DefD := [d_law_unit, d_law_times, d_law_split, d_law_perm, d_law_side, d_law_sums, d_law_crowd, d_law_evening, d_law_pay, d_law_same]
def fn6 : List He.DefD := [d_law_orders, d_law_queue_way, d_law_best, d_law_greater_hold, d_law]
def fn : List He.DefD := fn0 ++ fn1 ++ fn2 ++ fn3 ++ fn4 ++ fn5 ++ fn6
def fa0 : List He.Fa := [.glo "is_integer", .glo "is_within", .glo "is_pair", .glo "are_ascending", .glo "is_lot_below", .glo "check_most", .glo "common_divisor", .glo "made", .glo "plus", .glo "minus", .glo "over", .glo "is_less"]
def fa1 : List He.Fa := [.glo "least_of", .glo "total_of", .glo "measure_of", .glo "is_fraction", .glo "is_amount", .glo "are_sums", .glo "Evening", .glo "all_sums", .glo "people", .glo "measure", .glo "State", .glo "is_order"]
def fa2 : List He.Fa := [.glo "sorted_numbers", .glo "check_orders", .glo "way_of_queues", .glo "queue_way", .glo "queue_number", .glo "whole_sums", .glo "sums_behind", .glo "joints_of", .glo "best_orders", .glo "queue_least", .glo "queue_most", .glo "units_of"]
def fa3 : List He.Fa := [.glo "check_people", .glo "sums_by_mask", .glo "best_of", .glo "best_by_mask", .glo "greatest_of", .glo "fewest_of", .glo "fewest", .glo "greatest", .glo "_law_is_integer", .glo "_law_source", .glo "_law_draw", .glo "_law_made"]
def fa4 : List He.Fa := [.glo "_law_unit", .glo "_law_times", .glo "_law_split", .glo "_law_perm", .glo "_law_side", .glo "_law_sums", .glo "_law_crowd", .glo "_law_evening", .glo "_law_pay", .glo "_law_same", .glo "_law_orders", .glo "_law_queue_way"]
def fa5 : List He.Fa := [.glo "_law_best", .glo "_law_greater_hold", .glo "law", .free "len", .free "abs", .free "isinstance", .free "all", .free "range", .free "int", .free "list", .free "tuple", .free "sorted"]
def fa6 : List He.Fa := [.free "min", .free "max", .free "sum", .free "zip", .free "bool", .free "str", .int "MOST_SIDE" 100, .int "MOST_ORDERED" 9, .int "MOST_PEOPLE" 14, .cls "Evening", .mkr "Evening", .noat "Evening" "owed"]
def fa7 : List He.Fa := [.noat "Evening" "due", .cls "State", .mkr "State", .noat "State" "owed_left", .noat "State" "due_left", .meth "State" "amount_of", .meth "State" "go"]
def fa : List He.Fa := fa0 ++ fa1 ++ fa2 ++ fa3 ++ fa4 ++ fa5 ++ fa6 ++ fa7
def names0 : List PySem.Str := ["_wall", "QuitsError", "BadEvening", "TooMany", "NoOrder", "is_integer", "is_within", "is_pair", "are_ascending", "is_lot_below", "check_most", "ZERO"]
def names1 : List PySem.Str := ["common_divisor", "made", "plus", "minus", "over", "is_less", "least_of", "total_of", "measure_of", "is_fraction", "is_amount", "MOST_SIDE"]
def names2 : List PySem.Str := ["are_sums", "Evening", "all_sums", "people", "measure", "State", "MOST_ORDERED", "is_order", "sorted_numbers", "check_orders", "way_of_queues", "queue_way"]
def names3 : List PySem.Str := ["queue_number", "whole_sums", "sums_behind", "joints_of", "best_orders", "queue_least", "queue_most", "MOST_PEOPLE", "units_of", "check_people", "sums_by_mask", "best_of"]
def names4 : List PySem.Str := ["best_by_mask", "greatest_of", "fewest_of", "fewest", "greatest", "_law_is_integer", "_law_source", "_law_draw", "_law_made", "_law_unit", "_law_times", "_law_split"]
def names5 : List PySem.Str := ["_law_perm", "_law_side", "_law_sums", "_law_crowd", "_law_evening", "_law_pay", "_law_same", "_law_orders", "_law_queue_way", "_law_best", "_law_greater_hold"]
def names : List PySem.Str := names0 ++ names1 ++ names2 ++ names3 ++ names4 ++ names5
/-- besides: permutations is the built-in class, ZERO a pair of whole numbers -/
def exB (K : PySem.W.Frag) : Bool := He.eqO (PySem.W.nsIn K mainGlobals "permutations") (some (some (.type "itertools.permutations"))) && (He.eqO (PySem.W.nsIn K mainGlobals "ZERO") (some (some (.ref (He.ga K "ZERO")))) && He.tupB K "ZERO" [.int 0, .int 1])
abbrev AlQ : Type := He.AlD × Bool
def obsQ (n : Nat) (g : Addr → Option Obj) : AlQ := (He.obsD fa fn (He.frG g (He.asD g n)), exB (He.frG g (He.asD g n)))
def SaysQ (K : PySem.W.Frag) : Prop := He.SaysD fa fn K ∧ exB K = true
def hk : PySem.W.Hook where
  α := AlQ
  obs := fun s => obsQ 5 s.heap.get?
  val := fun _ => (He.valD fn, true)
  says := fun _ h => ∃ K : PySem.W.Frag, K.In h ∧ SaysQ K
  of := fun _ _ e => ⟨_, He.frG_in, congrArg (fun z : AlQ => z.1) e, congrArg (fun z : AlQ => z.2) e⟩
  keeps := fun _ _ _ ⟨K, hK, c⟩ k => ⟨K, PySem.W.Frag.In.keeps hK k, c⟩
abbrev R : PySem.W.OpenRow := PySem.W.OpenLaw.row PySem.Challenge.rw_quitsways_k69_whole_queues_against_all_o
def ob (s : PySem.W.SharedT) : AlQ := obsQ 5 (HandSHeadRun.getT s)
theorem ob_eq (s : PySem.W.SharedT) : ob s = hk.obs s.abs := by
  have e : HandSHeadRun.getT s = s.abs.heap.get? := funext fun a => HandSHeadRun.getT_eq s a
  unfold ob
  rw [e] <;> rfl
theorem run (w : World) : HandSHeadRun.RunEqI R (PySem.W.view R.prog [0, 82]) hk ob 20000 names w := by
  unfold HandSHeadRun.RunEqI
  kernel_rfl
end QH
open PySem PySem.W PySem.Calls PyProof.Rows
theorem QH.head (call : WalkO (view QH.R.prog [0, 82]) QH.names (XL (view QH.R.prog [0, 82]) []) QH.hk.says QH.R.toRowW (HandSHeadRun.topDef QH.R.prog 82) [] fun f vs => PySem.call f vs) : PySem.Challenge.rw_quitsways_k69_whole_queues_against_all_o.Holds := by
  w_on; o_law
  refine HandSHeadRun.head_imp (r := OpenLaw.row PySem.Challenge.rw_quitsways_k69_whole_queues_against_all_o) (q := view (OpenLaw.row PySem.Challenge.rw_quitsways_k69_whole_queues_against_all_o).prog [0, 82]) (H := QH.hk) (ob := QH.ob) (M := 20000) (loose := QH.names) (d := HandSHeadRun.topDef (OpenLaw.row PySem.Challenge.rw_quitsways_k69_whole_queues_against_all_o).prog 82) (kwd := []) QH.ob_eq
    QH.run (by kernel_rfl) (by kernel_rfl) (by kernel_rfl) (by rfl) (by first | assumption | decide +kernel) (by decide +kernel) ⟨rfl, rfl, rfl, rfl, rfl, by decide +kernel⟩ ?hw ?hc
  case hw => w_witness2
  case hc => exact call

end
/-! QM1: two queues of positive whole sums: the number of payments (qn), the joints, their sum; scaling. Plain Lean. -/
namespace QM
/-- the sums of the first ones, from c on -/
def ps : Int → List Int → List Int
  | _, [] => []
  | c, a :: as => (c + a) :: ps (c + a) as
/-- how many sums of the first ones both have -/
def com (c : Int) (as bs : List Int) : Nat := ((ps c as).filter fun x => decide (x ∈ ps c bs)).length
abbrev joints (as bs : List Int) : Nat := com 0 as bs
def Pos (as : List Int) : Prop := ∀ a ∈ as, 0 < a
theorem Pos.tail {a : Int} {as : List Int} (h : Pos (a :: as)) : Pos as := fun x hx => h x (List.mem_cons_of_mem _ hx)
theorem Pos.head {a : Int} {as : List Int} (h : Pos (a :: as)) : 0 < a := h a List.mem_cons_self
theorem Pos.cons {a : Int} {as : List Int} (h0 : 0 < a) (h : Pos as) : Pos (a :: as) := fun x hx => by
  rcases List.mem_cons.mp hx with e | e
  · rw [e]; exact h0
  · exact h x e
theorem Pos.sum_nonneg : ∀ {as : List Int}, Pos as → 0 ≤ as.sum
  | [], _ => Int.le_refl _
  | a :: as, h => by
    have := Pos.sum_nonneg h.tail
    have := h.head
    rw [List.sum_cons]; omega
theorem Pos.sum_pos {a : Int} {as : List Int} (h : Pos (a :: as)) : 0 < (a :: as).sum := by
  have := Pos.sum_nonneg h.tail
  have := h.head
  rw [List.sum_cons]; omega
theorem Pos.nil_of {as : List Int} (h : Pos as) (e : as.sum = 0) : as = [] := by
  cases as with
  | nil => rfl
  | cons a as => have := h.sum_pos; omega
theorem ps_gt : ∀ {c : Int} {as : List Int}, Pos as → ∀ x ∈ ps c as, c < x
  | _, [], _, _, h => nomatch h
  | c, a :: as, hp, x, h => by
    have h0 := hp.head
    rcases List.mem_cons.mp h with e | e
    · omega
    · have := ps_gt (c := c + a) hp.tail x e
      omega
theorem ps_ge_head {c a : Int} {as : List Int} (hp : Pos (a :: as)) : ∀ x ∈ ps c (a :: as), c + a ≤ x := fun x h => by
  rcases List.mem_cons.mp h with e | e
  · omega
  · have := ps_gt hp.tail x e
    omega
theorem ps_le : ∀ {c : Int} {as : List Int}, Pos as → ∀ x ∈ ps c as, x ≤ c + as.sum
  | _, [], _, _, h => nomatch h
  | c, a :: as, hp, x, h => by
    rw [List.sum_cons]
    have h0 := hp.head
    have h1 := Pos.sum_nonneg hp.tail
    rcases List.mem_cons.mp h with e | e
    · omega
    · have := ps_le (c := c + a) hp.tail x e
      omega
theorem ps_snoc : ∀ (c : Int) (as : List Int) (a : Int), ps c (as ++ [a]) = ps c as ++ [c + as.sum + a]
  | c, [], a => by simp [ps]
  | c, b :: as, a => by
    show (c + b) :: ps (c + b) (as ++ [a]) = (c + b) :: ps (c + b) as ++ _
    rw [ps_snoc (c + b) as a, List.sum_cons]
    simp only [List.cons_append]
    congr 2
    simp only [List.cons.injEq, and_true]
    omega
theorem ps_length : ∀ (c : Int) (as : List Int), (ps c as).length = as.length
  | _, [] => rfl
  | c, a :: as => by simp [ps, ps_length (c + a) as]
theorem ps_sum_mem {c a : Int} {as : List Int} : c + (a :: as).sum ∈ ps c (a :: as) := by
  have e : a :: as = (a :: as).dropLast ++ [(a :: as).getLast (by simp)] := (List.dropLast_concat_getLast _).symm
  rw [e, ps_snoc]
  simp only [List.sum_append, List.sum_cons, List.sum_nil, List.mem_append, List.mem_cons]
  right; left; omega
/-- the number of payments of two queues -/
def qn : List Int → List Int → Nat
  | [], _ => 0
  | _ :: _, [] => 0
  | a :: as, b :: bs => if a < b then 1 + qn as ((b - a) :: bs) else if b < a then 1 + qn ((a - b) :: as) bs else 1 + qn as bs
termination_by as bs => as.length + bs.length
theorem qn_nil (bs : List Int) : qn [] bs = 0 := by rw [qn]
theorem qn_lt {a b : Int} {as bs : List Int} (h : a < b) : qn (a :: as) (b :: bs) = 1 + qn as ((b - a) :: bs) := by rw [qn, if_pos h]
theorem qn_gt {a b : Int} {as bs : List Int} (h : b < a) : qn (a :: as) (b :: bs) = 1 + qn ((a - b) :: as) bs := by rw [qn, if_neg (by omega), if_pos h]
theorem qn_eq {a : Int} {as bs : List Int} : qn (a :: as) (a :: bs) = 1 + qn as bs := by rw [qn, if_neg (by omega), if_neg (by omega)]
theorem com_drop_l {c a : Int} {as bs : List Int} (h : c + a ∉ ps c bs) : com c (a :: as) bs = ((ps (c + a) as).filter fun x => decide (x ∈ ps c bs)).length := by
  unfold com
  rw [show ps c (a :: as) = (c + a) :: ps (c + a) as from rfl, List.filter_cons_of_neg (by simpa using h)]
theorem filter_congr_mem {xs ys zs : List Int} (h : ∀ x ∈ xs, (x ∈ ys ↔ x ∈ zs)) : xs.filter (fun x => decide (x ∈ ys)) = xs.filter (fun x => decide (x ∈ zs)) :=
  List.filter_congr fun x hx => by simp only [decide_eq_decide]; exact h x hx
/-- payments and joints together are the people -/
theorem qn_com : ∀ (n : Nat) (c : Int) (as bs : List Int), as.length + bs.length ≤ n → Pos as → Pos bs → as.sum = bs.sum → qn as bs + com c as bs = as.length + bs.length
  | _, c, [], bs, _, _, hb, e => by
    have : bs = [] := hb.nil_of (by simpa using e.symm)
    subst this
    simp [qn_nil, com, ps]
  | _, c, a :: as, [], _, ha, _, e => by
    have := ha.sum_pos
    simp at e this; omega
  | 0, _, a :: as, b :: bs, hn, _, _, _ => by simp at hn
  | n + 1, c, a :: as, b :: bs, hn, ha, hb, e => by
    have ha0 := ha.head
    have hb0 := hb.head
    simp only [List.sum_cons] at e
    simp only [List.length_cons] at hn
    rcases Int.lt_trichotomy a b with h | h | h
    · have ih := qn_com n (c + a) as ((b - a) :: bs) (by simp only [List.length_cons]; omega) ha.tail (Pos.cons (by omega) hb.tail) (by rw [List.sum_cons]; omega)
      have e2 : ps c (b :: bs) = ps (c + a) ((b - a) :: bs) := by
        show (c + b) :: ps (c + b) bs = (c + a + (b - a)) :: ps (c + a + (b - a)) bs
        rw [show c + a + (b - a) = c + b by omega]
      rw [qn_lt h, com_drop_l (fun z => by have := ps_ge_head hb _ z; omega)]
      unfold com at ih
      rw [e2]
      simp only [List.length_cons] at ih ⊢
      omega
    · subst h
      have ih := qn_com n (c + a) as bs (by omega) ha.tail hb.tail (by omega)
      rw [qn_eq]
      have e2 : com c (a :: as) (a :: bs) = com (c + a) as bs + 1 := by
        unfold com
        rw [show ps c (a :: as) = (c + a) :: ps (c + a) as from rfl, show ps c (a :: bs) = (c + a) :: ps (c + a) bs from rfl, List.filter_cons_of_pos (by simp), List.length_cons]
        congr 2
        refine filter_congr_mem fun x hx => ?_
        have := ps_gt ha.tail x hx
        simp only [List.mem_cons]
        constructor
        · rintro (z | z)
          · omega
          · exact z
        · exact .inr
      rw [e2]
      simp only [List.length_cons]
      omega
    · have ih := qn_com n (c + b) ((a - b) :: as) bs (by simp only [List.length_cons]; omega) (Pos.cons (by omega) ha.tail) hb.tail (by rw [List.sum_cons]; omega)
      have e2 : ps c (a :: as) = ps (c + b) ((a - b) :: as) := by
        show (c + a) :: ps (c + a) as = (c + b + (a - b)) :: ps (c + b + (a - b)) as
        rw [show c + b + (a - b) = c + a by omega]
      have e3 : com c (a :: as) (b :: bs) = com (c + b) ((a - b) :: as) bs := by
        unfold com
        rw [e2]
        congr 1
        refine filter_congr_mem fun x hx => ?_
        rw [← e2] at hx
        have := ps_ge_head ha x hx
        show x ∈ (c + b) :: ps (c + b) bs ↔ _
        simp only [List.mem_cons]
        constructor
        · rintro (z | z)
          · omega
          · exact z
        · exact .inr
      rw [qn_gt h, e3]
      simp only [List.length_cons] at ih ⊢
      omega
theorem qn_joints {as bs : List Int} (ha : Pos as) (hb : Pos bs) (e : as.sum = bs.sum) : qn as bs + joints as bs = as.length + bs.length := qn_com _ 0 as bs (Nat.le_refl _) ha hb e
/-- each payment is one unit or more -/
theorem qn_le_sum : ∀ (n : Nat) (as bs : List Int), as.length + bs.length ≤ n → Pos as → Pos bs → as.sum = bs.sum → (qn as bs : Int) ≤ as.sum
  | _, [], bs, _, _, _, _ => by simp [qn_nil]
  | _, a :: as, [], _, ha, _, e => by
    have := ha.sum_pos
    simp at e this; omega
  | 0, a :: as, b :: bs, hn, _, _, _ => by simp at hn
  | n + 1, a :: as, b :: bs, hn, ha, hb, e => by
    have ha0 := ha.head
    have hb0 := hb.head
    simp only [List.sum_cons] at e
    simp only [List.length_cons] at hn
    rcases Int.lt_trichotomy a b with h | h | h
    · have ih := qn_le_sum n as ((b - a) :: bs) (by simp only [List.length_cons]; omega) ha.tail (Pos.cons (by omega) hb.tail) (by rw [List.sum_cons]; omega)
      rw [qn_lt h, List.sum_cons]
      omega
    · subst h
      have ih := qn_le_sum n as bs (by omega) ha.tail hb.tail (by omega)
      rw [qn_eq, List.sum_cons]
      omega
    · have ih := qn_le_sum n ((a - b) :: as) bs (by simp only [List.length_cons]; omega) (Pos.cons (by omega) ha.tail) hb.tail (by rw [List.sum_cons]; omega)
      rw [qn_gt h, List.sum_cons]
      rw [List.sum_cons] at ih
      omega
/-- the totals are a joint -/
theorem joints_pos {a b : Int} {as bs : List Int} (e : (a :: as).sum = (b :: bs).sum) : 1 ≤ joints (a :: as) (b :: bs) := by
  have h1 : (0 : Int) + (a :: as).sum ∈ ps 0 (a :: as) := ps_sum_mem
  have h2 : (0 : Int) + (a :: as).sum ∈ ps 0 (b :: bs) := by rw [e]; exact ps_sum_mem
  unfold joints com
  exact List.length_pos_of_mem (List.mem_filter.mpr ⟨h1, by simpa using h2⟩)
theorem qn_scale {g : Int} (hg : 0 < g) : ∀ (n : Nat) (as bs : List Int), as.length + bs.length ≤ n → qn (as.map (g * ·)) (bs.map (g * ·)) = qn as bs
  | _, [], bs, _ => by simp [qn_nil]
  | _, a :: as, [], _ => by simp [qn]
  | 0, a :: as, b :: bs, hn => by simp at hn
  | n + 1, a :: as, b :: bs, hn => by
    simp only [List.length_cons] at hn
    simp only [List.map_cons]
    rcases Int.lt_trichotomy a b with h | h | h
    · have ih := qn_scale hg n as ((b - a) :: bs) (by simp only [List.length_cons]; omega)
      rw [qn_lt h, qn_lt (Int.mul_lt_mul_of_pos_left h hg), ← ih, List.map_cons, Int.mul_sub]
    · subst h
      rw [qn_eq, qn_eq, qn_scale hg n as bs (by omega)]
    · have ih := qn_scale hg n ((a - b) :: as) bs (by simp only [List.length_cons]; omega)
      rw [qn_gt h, qn_gt (Int.mul_lt_mul_of_pos_left h hg), ← ih, List.map_cons, Int.mul_sub]
theorem qn_scaled {g : Int} (hg : 0 < g) (as bs : List Int) : qn (as.map (g * ·)) (bs.map (g * ·)) = qn as bs := qn_scale hg _ as bs (Nat.le_refl _)
/-! ### the joints of orders that end in one more -/
theorem com_snoc_l {as bs : List Int} {a : Int} (hnot : as.sum + a ∉ ps 0 bs) : joints (as ++ [a]) bs = joints as bs := by
  unfold joints com
  rw [ps_snoc, List.filter_append, List.length_append]
  rw [List.filter_cons_of_neg (by simpa using hnot)]
  simp
theorem com_snoc_l1 {as bs : List Int} {a : Int} (hin : as.sum + a ∈ ps 0 bs) : joints (as ++ [a]) bs = joints as bs + 1 := by
  unfold joints com
  rw [ps_snoc, List.filter_append, List.length_append]
  rw [List.filter_cons_of_pos (by simpa using hin)]
  simp
theorem com_snoc_r {as bs : List Int} {b : Int} (hnot : bs.sum + b ∉ ps 0 as) : joints as (bs ++ [b]) = joints as bs := by
  unfold joints com
  congr 1
  refine filter_congr_mem fun x hx => ?_
  rw [ps_snoc]
  simp only [List.mem_append, List.mem_cons, List.not_mem_nil, or_false]
  constructor
  · rintro (z | z)
    · exact z
    · exact (hnot (by rw [Int.zero_add] at z; rw [← z]; exact hx)).elim
  · exact .inl
theorem joints_nil_r (as : List Int) : joints as [] = 0 := by simp [com, ps]
theorem joints_nil_l (bs : List Int) : joints [] bs = 0 := by simp [com, ps]
theorem joints_mono_r {as bs : List Int} {b : Int} : joints as bs ≤ joints as (bs ++ [b]) := by
  unfold joints com
  rw [← List.countP_eq_length_filter, ← List.countP_eq_length_filter]
  refine List.countP_mono_left fun x _ h => ?_
  rw [ps_snoc]
  simp only [decide_eq_true_eq, List.mem_append] at h ⊢
  exact .inl h
theorem joints_snoc_r1 {as bs : List Int} {b : Int} (ha : Pos as) (hb : Pos (bs ++ [b])) (e : as.sum = (bs ++ [b]).sum) (hne : as ≠ []) : joints as bs + 1 ≤ joints as (bs ++ [b]) := by
  obtain ⟨as', x, rfl⟩ : ∃ as' x, as = as' ++ [x] := ⟨as.dropLast, as.getLast hne, (List.dropLast_concat_getLast hne).symm⟩
  have hb' : Pos bs := fun y hy => hb y (List.mem_append_left _ hy)
  have hb0 : 0 < b := hb b (by simp)
  simp only [List.sum_append, List.sum_cons, List.sum_nil, Int.add_zero] at e
  have h1 : as'.sum + x ∉ ps 0 bs := fun z => by have := ps_le hb' _ z; omega
  have h2 : as'.sum + x ∈ ps 0 (bs ++ [b]) := by rw [ps_snoc]; simp; right; omega
  rw [com_snoc_l h1, com_snoc_l1 h2]
  exact Nat.succ_le_succ joints_mono_r
end QM

/-! QM2: lots by bits; the sums by masks; the most even masks in a chain; against orders. Plain Lean. -/
namespace QM
/-- weights by bits from o on -/
def wt : List Int → Nat → Nat → Int
  | [], _, _ => 0
  | w :: ws, o, m => (if m.testBit o then w else 0) + wt ws (o + 1) m
/-- the doubling list -/
def dbl (f : List Int) (w : Int) : List Int := f ++ f.map fun x => x + w
def dbls (f : List Int) (ws : List Int) : List Int := ws.foldl dbl f
theorem dbl_length (f : List Int) (w : Int) : (dbl f w).length = 2 * f.length := by simp [dbl]; omega
theorem dbls_length : ∀ (ws f : List Int), (dbls f ws).length = f.length * 2 ^ ws.length
  | [], f => by simp [dbls]
  | w :: ws, f => by
    show (dbls (dbl f w) ws).length = _
    rw [dbls_length ws, dbl_length, List.length_cons, Nat.pow_succ]
    rw [Nat.mul_comm 2 f.length, Nat.mul_assoc, Nat.mul_comm 2]
theorem dbls_get : ∀ (ws f : List Int) (o m : Nat), f.length = 2 ^ o → m < 2 ^ (o + ws.length) → (dbls f ws).getD m 0 = f.getD (m % 2 ^ o) 0 + wt ws o m
  | [], f, o, m, hf, hm => by
    rw [show m % 2 ^ o = m from Nat.mod_eq_of_lt (by simpa using hm)]
    simp [dbls, wt]
  | w :: ws, f, o, m, hf, hm => by
    show (dbls (dbl f w) ws).getD m 0 = _
    rw [dbls_get ws (dbl f w) (o + 1) m (by rw [dbl_length, hf, Nat.pow_succ, Nat.mul_comm]) (by rw [List.length_cons] at hm; rw [show o + 1 + ws.length = o + (ws.length + 1) by omega]; exact hm)]
    have hp : 0 < 2 ^ o := Nat.two_pow_pos o
    have key : (dbl f w).getD (m % 2 ^ (o + 1)) 0 = f.getD (m % 2 ^ o) 0 + (if m.testBit o then w else 0) := by
      have e1 : m % 2 ^ (o + 1) = m % 2 ^ o + 2 ^ o * (m / 2 ^ o % 2) := by rw [Nat.pow_succ]; exact Nat.mod_mul
      have hr : m % 2 ^ o < 2 ^ o := Nat.mod_lt _ hp
      rw [e1, Nat.testBit_eq_decide_div_mod_eq]
      rcases Nat.mod_two_eq_zero_or_one (m / 2 ^ o) with h | h
      · rw [h]
        simp only [Nat.mul_zero, Nat.add_zero]
        have : ¬ ((0 : Nat) = 1) := by decide
        simp only [this, decide_false, Bool.false_eq_true, if_false, Int.add_zero]
        unfold dbl
        rw [List.getD_eq_getElem?_getD, List.getElem?_append_left (by omega), ← List.getD_eq_getElem?_getD]
      · rw [h]
        simp only [Nat.mul_one, decide_true, if_true]
        unfold dbl
        rw [List.getD_eq_getElem?_getD, List.getElem?_append_right (by omega), hf, Nat.add_sub_cancel, List.getElem?_map]
        have hl : m % 2 ^ o < f.length := by omega
        rw [List.getElem?_eq_getElem hl, List.getD_eq_getElem?_getD, List.getElem?_eq_getElem hl]
        rfl
    rw [key]
    show _ = _ + ((if m.testBit o then w else 0) + wt ws (o + 1) m)
    omega
/-- two masks that differ in one bit -/
theorem wt_differ : ∀ (ws : List Int) (o m m' p : Nat), (∀ q, q ≠ p → m'.testBit q = m.testBit q) → m.testBit p = true → m'.testBit p = false →
    wt ws o m = wt ws o m' + (if o ≤ p ∧ p < o + ws.length then ws.getD (p - o) 0 else 0)
  | [], o, m, m', p, _, _, _ => by
    have : ¬ (o ≤ p ∧ p < o + ([] : List Int).length) := by simp
    rw [if_neg this]; simp [wt]
  | w :: ws, o, m, m', p, h, h1, h0 => by
    have ih := wt_differ ws (o + 1) m m' p h h1 h0
    show (if m.testBit o then w else 0) + wt ws (o + 1) m = ((if m'.testBit o then w else 0) + wt ws (o + 1) m') + _
    rw [ih]
    by_cases e : o = p
    · subst e
      have n1 : ¬ (o + 1 ≤ o ∧ o < o + 1 + ws.length) := by omega
      have n2 : o ≤ o ∧ o < o + (w :: ws).length := by simp
      rw [if_neg n1, if_pos n2, h1, h0]
      simp
      omega
    · rw [h o e]
      by_cases c : o + 1 ≤ p ∧ p < o + 1 + ws.length
      · have c2 : o ≤ p ∧ p < o + (w :: ws).length := by rw [List.length_cons]; omega
        rw [if_pos c, if_pos c2]
        have : p - o = (p - (o + 1)) + 1 := by omega
        rw [this, List.getD_cons_succ]
        omega
      · have c2 : ¬ (o ≤ p ∧ p < o + (w :: ws).length) := by rw [List.length_cons]; omega
        rw [if_neg c, if_neg c2]
        omega
theorem wt_zero : ∀ (ws : List Int) (o m : Nat), (∀ q, m.testBit q = false) → wt ws o m = 0
  | [], _, _, _ => rfl
  | w :: ws, o, m, h => by
    show (if m.testBit o then w else 0) + wt ws (o + 1) m = 0
    rw [h o, wt_zero ws (o + 1) m h]; simp
/-! ### the most even masks in a chain down -/
/-- one mask's number, from those below it -/
def stepB (z : Nat → Bool) (n : Nat) (f : List Nat) (m : Nat) : Nat :=
  (List.range n).foldl (fun best p => if m.testBit p = true ∧ f.getD (m ^^^ 2 ^ p) 0 > best then f.getD (m ^^^ 2 ^ p) 0 else best) 0 + (if z m then 1 else 0)
/-- the list for the masks below k -/
def bestL (z : Nat → Bool) (n : Nat) : Nat → List Nat
  | 0 => []
  | k + 1 => bestL z n k ++ [if k = 0 then 0 else stepB z n (bestL z n k) k]
theorem bestL_length (z : Nat → Bool) (n : Nat) : ∀ k, (bestL z n k).length = k
  | 0 => rfl
  | k + 1 => by simp [bestL, bestL_length z n k]
def bst (z : Nat → Bool) (n m : Nat) : Nat := (bestL z n (m + 1)).getD m 0
theorem bestL_get (z : Nat → Bool) (n : Nat) : ∀ (k m : Nat), m < k → (bestL z n k).getD m 0 = bst z n m
  | 0, m, h => by omega
  | k + 1, m, h => by
    by_cases e : m = k
    · subst e; rfl
    · rw [show bestL z n (k + 1) = bestL z n k ++ [if k = 0 then 0 else stepB z n (bestL z n k) k] from rfl, List.getD_eq_getElem?_getD, List.getElem?_append_left (by rw [bestL_length]; omega), ← List.getD_eq_getElem?_getD]
      exact bestL_get z n k m (by omega)
theorem bst_zero (z : Nat → Bool) (n : Nat) : bst z n 0 = 0 := rfl
theorem bst_eq (z : Nat → Bool) (n : Nat) {m : Nat} (h : m ≠ 0) : bst z n m = stepB z n (bestL z n m) m := by
  unfold bst
  rw [show bestL z n (m + 1) = bestL z n m ++ [if m = 0 then 0 else stepB z n (bestL z n m) m] from rfl, List.getD_eq_getElem?_getD, List.getElem?_append_right (by rw [bestL_length]; omega), bestL_length, if_neg h]
  simp
/-- off one set bit -/
theorem off_bit {m p : Nat} (h : m.testBit p = true) : (∀ q, q ≠ p → (m ^^^ 2 ^ p).testBit q = m.testBit q) ∧ (m ^^^ 2 ^ p).testBit p = false ∧ m ^^^ 2 ^ p < m := by
  have e1 : ∀ q, q ≠ p → (m ^^^ 2 ^ p).testBit q = m.testBit q := fun q hq => by
    rw [Nat.testBit_xor, Nat.testBit_two_pow_of_ne (Ne.symm hq)]; simp
  have e2 : (m ^^^ 2 ^ p).testBit p = false := by
    rw [Nat.testBit_xor, h, Nat.testBit_two_pow_self]; rfl
  refine ⟨e1, e2, ?_⟩
  have hle : m ^^^ 2 ^ p ≤ m := Nat.le_of_testBit fun i hi => by
    by_cases e : i = p
    · rw [e, e2] at hi; cases hi
    · rw [← e1 i e]; exact hi
  have hne : m ^^^ 2 ^ p ≠ m := fun e => by rw [e, h] at e2; cases e2
  omega
theorem foldl_max_ge {P : Nat → Prop} [DecidablePred P] (g : Nat → Nat) : ∀ (l : List Nat) (b : Nat), b ≤ l.foldl (fun best p => if P p ∧ g p > best then g p else best) b ∧ ∀ p ∈ l, P p → g p ≤ l.foldl (fun best p => if P p ∧ g p > best then g p else best) b
  | [], b => ⟨Nat.le_refl _, fun _ h => nomatch h⟩
  | x :: l, b => by
    show b ≤ l.foldl _ (if P x ∧ g x > b then g x else b) ∧ _
    obtain ⟨h1, h2⟩ := foldl_max_ge (P := P) g l (if P x ∧ g x > b then g x else b)
    refine ⟨?_, fun p hp hP => ?_⟩
    · refine Nat.le_trans ?_ h1
      split <;> omega
    · rcases List.mem_cons.mp hp with e | hp
      · subst e
        refine Nat.le_trans ?_ h1
        split
        · omega
        · rename_i hn
          have : ¬ g p > b := fun z => hn ⟨hP, z⟩
          omega
      · exact h2 p hp hP
theorem foldl_max_is {P : Nat → Prop} [DecidablePred P] (g : Nat → Nat) : ∀ (l : List Nat) (b : Nat), l.foldl (fun best p => if P p ∧ g p > best then g p else best) b = b ∨ ∃ p ∈ l, P p ∧ g p = l.foldl (fun best p => if P p ∧ g p > best then g p else best) b
  | [], b => .inl rfl
  | x :: l, b => by
    show l.foldl _ (if P x ∧ g x > b then g x else b) = b ∨ ∃ p ∈ x :: l, P p ∧ g p = l.foldl _ (if P x ∧ g x > b then g x else b)
    rcases foldl_max_is (P := P) g l (if P x ∧ g x > b then g x else b) with h | ⟨p, hp, hP, e⟩
    · rw [h]
      split
      · rename_i hc
        exact .inr ⟨x, List.mem_cons_self, hc.1, rfl⟩
      · exact .inl rfl
    · exact .inr ⟨p, List.mem_cons_of_mem _ hp, hP, e⟩
theorem bst_ge (z : Nat → Bool) {n m p : Nat} (hp : p < n) (h : m.testBit p = true) : bst z n (m ^^^ 2 ^ p) + (if z m then 1 else 0) ≤ bst z n m := by
  have h0 : m ≠ 0 := fun e => by rw [e, Nat.zero_testBit] at h; cases h
  rw [bst_eq z n h0]
  unfold stepB
  have := (foldl_max_ge (P := fun p => m.testBit p = true) (fun p => (bestL z n m).getD (m ^^^ 2 ^ p) 0) (List.range n) 0).2 p (List.mem_range.mpr hp) h
  rw [bestL_get z n m _ (off_bit h).2.2] at this
  omega
theorem exists_bit {m : Nat} (h : m ≠ 0) : ∃ p, m.testBit p = true := by
  obtain ⟨p, hp⟩ := Nat.exists_testBit_of_ne_zero h
  exact ⟨p, hp⟩
theorem bst_is (z : Nat → Bool) {n m : Nat} (h0 : m ≠ 0) (hm : m < 2 ^ n) : ∃ p, p < n ∧ m.testBit p = true ∧ bst z n m = bst z n (m ^^^ 2 ^ p) + (if z m then 1 else 0) := by
  have hlt : ∀ p, m.testBit p = true → p < n := fun p hp => by
    rcases Nat.lt_or_ge p n with e | e
    · exact e
    · have := Nat.testBit_lt_two_pow (Nat.lt_of_lt_of_le hm (Nat.pow_le_pow_right (by decide) e))
      rw [this] at hp; cases hp
  have e := bst_eq z n h0
  unfold stepB at e
  rcases foldl_max_is (P := fun p => m.testBit p = true) (fun p => (bestL z n m).getD (m ^^^ 2 ^ p) 0) (List.range n) 0 with h | ⟨p, hp, hP, h⟩
  · obtain ⟨p, hp⟩ := exists_bit h0
    refine ⟨p, hlt p hp, hp, ?_⟩
    have h2 := (foldl_max_ge (P := fun p => m.testBit p = true) (fun p => (bestL z n m).getD (m ^^^ 2 ^ p) 0) (List.range n) 0).2 p (List.mem_range.mpr (hlt p hp)) hp
    rw [h, bestL_get z n m _ (off_bit hp).2.2] at h2
    rw [e, h]
    omega
  · refine ⟨p, List.mem_range.mp hp, hP, ?_⟩
    rw [bestL_get z n m _ (off_bit hP).2.2] at h
    rw [e, ← h]
end QM

/-! QM3: the most joints of two orders are the most even masks in a chain. Plain Lean. -/
namespace QM
/-- what an order's people have -/
def vals (ks : List Int) (A : List Nat) : List Int := A.map fun a => ks.getD a 0
theorem vals_snoc (ks : List Int) (A : List Nat) (a : Nat) : vals ks (A ++ [a]) = vals ks A ++ [ks.getD a 0] := by simp [vals]
theorem vals_pos {ks : List Int} (h : Pos ks) {A : List Nat} (hA : ∀ a ∈ A, a < ks.length) : Pos (vals ks A) := fun x hx => by
  obtain ⟨a, ha, rfl⟩ := List.mem_map.mp hx
  rw [List.getD_eq_getElem?_getD, List.getElem?_eq_getElem (hA a ha)]
  exact h _ (List.getElem_mem _)
/-- a mask of an order of owers and one of takers -/
structure Lot (m t : Nat) (M : Nat) (A B : List Nat) : Prop where
  na : A.Nodup
  nb : B.Nodup
  la : ∀ a ∈ A, a < m
  lb : ∀ b ∈ B, b < t
  bit : ∀ p, M.testBit p = true ↔ (p < m ∧ p ∈ A) ∨ (m ≤ p ∧ p - m ∈ B)
/-- the weights: owers, then takers -/
def wts (os ds : List Int) : List Int := os ++ ds.map fun d => -d
theorem wts_length (os ds : List Int) : (wts os ds).length = os.length + ds.length := by simp [wts]
theorem wts_l {os ds : List Int} {a : Nat} (h : a < os.length) : (wts os ds).getD a 0 = os.getD a 0 := by
  unfold wts
  rw [List.getD_eq_getElem?_getD, List.getElem?_append_left h, ← List.getD_eq_getElem?_getD]
theorem wts_r {os ds : List Int} {b : Nat} (h : b < ds.length) : (wts os ds).getD (os.length + b) 0 = - ds.getD b 0 := by
  unfold wts
  rw [List.getD_eq_getElem?_getD, List.getElem?_append_right (by omega), Nat.add_sub_cancel_left, List.getElem?_map, List.getD_eq_getElem?_getD, List.getElem?_eq_getElem h]
  rfl
theorem Lot.nil {m t M : Nat} (h : ∀ q, M.testBit q = false) : Lot m t M [] [] :=
  ⟨List.nodup_nil, List.nodup_nil, (fun _ h => nomatch h), (fun _ h => nomatch h), fun p => by rw [h p]; simp⟩
section
variable {m t M : Nat} {A B : List Nat} {a b : Nat}
theorem Lot.bit_l (L : Lot m t M (A ++ [a]) B) : M.testBit a = true := (L.bit a).mpr (.inl ⟨L.la a (by simp), by simp⟩)
theorem Lot.bit_r (L : Lot m t M A (B ++ [b])) : M.testBit (m + b) = true := (L.bit (m + b)).mpr (.inr ⟨by omega, by rw [Nat.add_sub_cancel_left]; simp⟩)
theorem Lot.off_l (L : Lot m t M (A ++ [a]) B) : Lot m t (M ^^^ 2 ^ a) A B := by
  obtain ⟨e1, e2, _⟩ := off_bit L.bit_l
  have hna : A.Nodup ∧ a ∉ A := by
    have := L.na
    rw [List.nodup_append] at this
    refine ⟨this.1, fun h => this.2.2 a h a (by simp) rfl⟩
  have ham := L.la a (by simp)
  refine ⟨hna.1, L.nb, fun x hx => L.la x (by simp [hx]), L.lb, fun p => ?_⟩
  by_cases e : p = a
  · subst e
    rw [e2]
    constructor
    · intro h; cases h
    · rintro (h | h)
      · exact (hna.2 h.2).elim
      · omega
  · rw [e1 p e, L.bit p]
    simp [e]
theorem Lot.off_r (L : Lot m t M A (B ++ [b])) : Lot m t (M ^^^ 2 ^ (m + b)) A B := by
  obtain ⟨e1, e2, _⟩ := off_bit L.bit_r
  have hnb : B.Nodup ∧ b ∉ B := by
    have := L.nb
    rw [List.nodup_append] at this
    refine ⟨this.1, fun h => this.2.2 b h b (by simp) rfl⟩
  refine ⟨L.na, hnb.1, L.la, fun x hx => L.lb x (by simp [hx]), fun p => ?_⟩
  by_cases e : p = m + b
  · subst e
    rw [e2]
    constructor
    · intro h; cases h
    · rintro (h | h)
      · omega
      · rw [Nat.add_sub_cancel_left] at h
        exact (hnb.2 h.2).elim
  · rw [e1 p e, L.bit p]
    have : m ≤ p → ¬ (p - m = b) := by omega
    constructor
    · rintro (h | h)
      · exact .inl h
      · refine .inr ⟨h.1, ?_⟩
        have h2 := h.2
        simp only [List.mem_append, List.mem_cons, List.not_mem_nil, or_false] at h2
        rcases h2 with z | z
        · exact z
        · exact (this h.1 z).elim
    · rintro (h | h)
      · exact .inl h
      · exact .inr ⟨h.1, by simp [h.2]⟩
theorem Lot.on_l (L : Lot m t (M ^^^ 2 ^ a) A B) (hb : M.testBit a = true) (h : a < m) : Lot m t M (A ++ [a]) B := by
  obtain ⟨e1, e2, _⟩ := off_bit hb
  have hna : a ∉ A := fun z => by
    have := (L.bit a).mpr (.inl ⟨h, z⟩)
    rw [e2] at this; cases this
  refine ⟨?_, L.nb, fun x hx => ?_, L.lb, fun p => ?_⟩
  · rw [List.nodup_append]
    refine ⟨L.na, by simp, fun x hx y hy e => ?_⟩
    simp at hy
    exact hna (by rw [← hy, ← e]; exact hx)
  · simp at hx
    rcases hx with hx | hx
    · exact L.la x hx
    · omega
  · by_cases e : p = a
    · subst e
      simp [hb, h]
    · rw [← e1 p e, L.bit p]
      simp [e]
theorem Lot.on_r (L : Lot m t (M ^^^ 2 ^ (m + b)) A B) (hb : M.testBit (m + b) = true) (h : b < t) : Lot m t M A (B ++ [b]) := by
  obtain ⟨e1, e2, _⟩ := off_bit hb
  have hnb : b ∉ B := fun z => by
    have := (L.bit (m + b)).mpr (.inr ⟨by omega, by rw [Nat.add_sub_cancel_left]; exact z⟩)
    rw [e2] at this; cases this
  refine ⟨L.na, ?_, L.la, fun x hx => ?_, fun p => ?_⟩
  · rw [List.nodup_append]
    refine ⟨L.nb, by simp, fun x hx y hy e => ?_⟩
    simp at hy
    exact hnb (by rw [← hy, ← e]; exact hx)
  · simp at hx
    rcases hx with hx | hx
    · exact L.lb x hx
    · omega
  · by_cases e : p = m + b
    · subst e
      rw [hb]
      constructor
      · intro _; right; refine ⟨by omega, ?_⟩; rw [Nat.add_sub_cancel_left]; simp
      · intro _; rfl
    · rw [← e1 p e, L.bit p]
      constructor
      · rintro (z | z)
        · exact .inl z
        · exact .inr ⟨z.1, by simp [z.2]⟩
      · rintro (z | z)
        · exact .inl z
        · have h2 := z.2
          simp only [List.mem_append, List.mem_cons, List.not_mem_nil, or_false] at h2
          rcases h2 with w | w
          · exact .inr ⟨z.1, w⟩
          · omega
end
section
variable {os ds : List Int}
theorem wt_off_l {M a : Nat} (h : M.testBit a = true) (ha : a < os.length) : wt (wts os ds) 0 M = wt (wts os ds) 0 (M ^^^ 2 ^ a) + os.getD a 0 := by
  obtain ⟨e1, e2, _⟩ := off_bit h
  rw [wt_differ _ 0 M (M ^^^ 2 ^ a) a e1 h e2, if_pos (by rw [wts_length]; omega), Nat.sub_zero, wts_l ha]
theorem wt_off_r {M b : Nat} (h : M.testBit (os.length + b) = true) (hb : b < ds.length) : wt (wts os ds) 0 M = wt (wts os ds) 0 (M ^^^ 2 ^ (os.length + b)) - ds.getD b 0 := by
  obtain ⟨e1, e2, _⟩ := off_bit h
  rw [wt_differ _ 0 M (M ^^^ 2 ^ (os.length + b)) _ e1 h e2, if_pos (by rw [wts_length]; omega), Nat.sub_zero, wts_r hb]
  omega
theorem snoc_of {α : Type} {l : List α} (h : l ≠ []) : ∃ l' x, l = l' ++ [x] := ⟨l.dropLast, l.getLast h, (List.dropLast_concat_getLast h).symm⟩
/-- a lot's weight -/
theorem Lot.wt_eq : ∀ (n : Nat) {M : Nat} {A B : List Nat}, A.length + B.length = n → Lot os.length ds.length M A B → wt (wts os ds) 0 M = (vals os A).sum - (vals ds B).sum
  | 0, M, A, B, hn, L => by
    have e1 : A = [] := List.length_eq_zero_iff.mp (by omega)
    have e2 : B = [] := List.length_eq_zero_iff.mp (by omega)
    subst e1 e2
    rw [wt_zero _ 0 M fun q => by
      cases h : M.testBit q with
      | false => rfl
      | true => have := (L.bit q).mp h; simp at this]
    rfl
  | n + 1, M, A, B, hn, L => by
    by_cases hA : A = []
    · have hB : B ≠ [] := fun e => by subst hA e; simp at hn
      obtain ⟨B', b, rfl⟩ := snoc_of hB
      rw [wt_off_r L.bit_r (L.lb b (by simp)), Lot.wt_eq n (by simp at hn ⊢; omega) L.off_r, vals_snoc, List.sum_append]
      simp; omega
    · obtain ⟨A', a, rfl⟩ := snoc_of hA
      rw [wt_off_l L.bit_l (L.la a (by simp)), Lot.wt_eq n (by simp at hn ⊢; omega) L.off_l, vals_snoc, List.sum_append]
      simp; omega
/-- even masks -/
def ev (os ds : List Int) (M : Nat) : Bool := decide (wt (wts os ds) 0 M = 0)
/-- the most even masks in a chain down from M -/
abbrev best (os ds : List Int) (M : Nat) : Nat := bst (ev os ds) (os.length + ds.length) M
/-- no pair of orders has more joints -/
theorem joints_le (ho : Pos os) (hd : Pos ds) : ∀ (n : Nat) {M : Nat} {A B : List Nat}, A.length + B.length = n → Lot os.length ds.length M A B → joints (vals os A) (vals ds B) ≤ best os ds M
  | 0, M, A, B, hn, L => by
    have e1 : A = [] := List.length_eq_zero_iff.mp (by omega)
    subst e1
    show joints [] _ ≤ _
    rw [joints_nil_l]; omega
  | n + 1, M, A, B, hn, L => by
    by_cases hA : A = []
    · subst hA
      show joints [] _ ≤ _
      rw [joints_nil_l]; omega
    by_cases hB : B = []
    · subst hB
      show joints _ [] ≤ _
      rw [joints_nil_r]; omega
    obtain ⟨A', a, rfl⟩ := snoc_of hA
    obtain ⟨B', b, rfl⟩ := snoc_of hB
    have pA : Pos (vals os (A' ++ [a])) := vals_pos ho L.la
    have pB : Pos (vals ds (B' ++ [b])) := vals_pos hd L.lb
    have gl := bst_ge (ev os ds) (n := os.length + ds.length) (m := M) (p := a) (by have := L.la a (by simp); omega) L.bit_l
    have gr := bst_ge (ev os ds) (n := os.length + ds.length) (m := M) (p := os.length + b) (by have := L.lb b (by simp); omega) L.bit_r
    have il := joints_le ho hd n (by simp at hn ⊢; omega) L.off_l
    have ir := joints_le ho hd n (by simp at hn ⊢; omega) L.off_r
    have ew := L.wt_eq _ rfl
    have a0 : 0 < os.getD a 0 := by rw [vals_snoc] at pA; exact pA _ (by simp)
    have b0 : 0 < ds.getD b 0 := by rw [vals_snoc] at pB; exact pB _ (by simp)
    have pA' : Pos (vals os A') := fun x hx => pA x (by rw [vals_snoc]; exact List.mem_append_left _ hx)
    have pB' : Pos (vals ds B') := fun x hx => pB x (by rw [vals_snoc]; exact List.mem_append_left _ hx)
    have sA : (vals os (A' ++ [a])).sum = (vals os A').sum + os.getD a 0 := by rw [vals_snoc, List.sum_append]; simp
    have sB : (vals ds (B' ++ [b])).sum = (vals ds B').sum + ds.getD b 0 := by rw [vals_snoc, List.sum_append]; simp
    rcases Int.lt_trichotomy (vals os (A' ++ [a])).sum (vals ds (B' ++ [b])).sum with h | h | h
    · -- the takers' whole is no joint
      have e : joints (vals os (A' ++ [a])) (vals ds (B' ++ [b])) = joints (vals os (A' ++ [a])) (vals ds B') := by
        rw [vals_snoc ds]
        refine com_snoc_r fun z => ?_
        have := ps_le pA _ z
        omega
      rw [e]
      show _ ≤ bst _ _ _
      have : joints (vals os (A' ++ [a])) (vals ds B') ≤ bst (ev os ds) (os.length + ds.length) (M ^^^ 2 ^ (os.length + b)) := ir
      omega
    · have ez : ev os ds M = true := by
        unfold ev
        rw [ew]
        exact decide_eq_true (by omega)
      have e : joints (vals os (A' ++ [a])) (vals ds (B' ++ [b])) ≤ joints (vals os A') (vals ds (B' ++ [b])) + 1 := by
        rw [vals_snoc os]
        by_cases z : (vals os A').sum + os.getD a 0 ∈ ps 0 (vals ds (B' ++ [b]))
        · rw [com_snoc_l1 z]; exact Nat.le_refl _
        · rw [com_snoc_l z]; omega
      rw [ez, if_pos rfl] at gl
      have : joints (vals os A') (vals ds (B' ++ [b])) ≤ bst (ev os ds) (os.length + ds.length) (M ^^^ 2 ^ a) := il
      show _ ≤ bst _ _ _
      omega
    · have e : joints (vals os (A' ++ [a])) (vals ds (B' ++ [b])) = joints (vals os A') (vals ds (B' ++ [b])) := by
        rw [vals_snoc os]
        refine com_snoc_l fun z => ?_
        have := ps_le pB _ z
        omega
      rw [e]
      have : joints (vals os A') (vals ds (B' ++ [b])) ≤ bst (ev os ds) (os.length + ds.length) (M ^^^ 2 ^ a) := il
      show _ ≤ bst _ _ _
      omega
/-- a pair of orders has so many -/
theorem joints_ge (ho : Pos os) (hd : Pos ds) : ∀ (n M : Nat), M ≤ n → M < 2 ^ (os.length + ds.length) → ∃ A B, Lot os.length ds.length M A B ∧ best os ds M ≤ joints (vals os A) (vals ds B)
  | n, M, hn, hM => by
    by_cases h0 : M = 0
    · subst h0
      exact ⟨[], [], Lot.nil fun q => Nat.zero_testBit q, by show bst _ _ 0 ≤ _; rw [bst_zero]; omega⟩
    · cases n with
      | zero => omega
      | succ n =>
      obtain ⟨p, hp, hb, e⟩ := bst_is (ev os ds) (n := os.length + ds.length) h0 hM
      have hlt := (off_bit hb).2.2
      obtain ⟨A, B, L, q⟩ := joints_ge ho hd n (M ^^^ 2 ^ p) (by omega) (by omega)
      have q' : bst (ev os ds) (os.length + ds.length) (M ^^^ 2 ^ p) ≤ joints (vals os A) (vals ds B) := q
      by_cases hpm : p < os.length
      · have L' := L.on_l hb hpm
        refine ⟨A ++ [p], B, L', ?_⟩
        show bst _ _ M ≤ _
        rw [e]
        have ew := L'.wt_eq _ rfl
        have sA : (vals os (A ++ [p])).sum = (vals os A).sum + os.getD p 0 := by rw [vals_snoc, List.sum_append]; simp
        have pA : Pos (vals os (A ++ [p])) := vals_pos ho L'.la
        have pB : Pos (vals ds B) := vals_pos hd L'.lb
        have p0 : 0 < os.getD p 0 := by rw [vals_snoc] at pA; exact pA _ (by simp)
        have pA' : Pos (vals os A) := fun x hx => pA x (by rw [vals_snoc]; exact List.mem_append_left _ hx)
        have nA := pA'.sum_nonneg
        by_cases z : ev os ds M = true
        · rw [if_pos z]
          have z' : wt (wts os ds) 0 M = 0 := of_decide_eq_true z
          have hin : (vals os A).sum + os.getD p 0 ∈ ps 0 (vals ds B) := by
            have es : (vals os A).sum + os.getD p 0 = 0 + (vals ds B).sum := by omega
            rw [es]
            cases hB : vals ds B with
            | nil =>
              rw [hB, List.sum_nil] at es
              omega
            | cons x r => exact ps_sum_mem
          rw [vals_snoc, com_snoc_l1 hin]
          omega
        · rw [if_neg z]
          rw [vals_snoc]
          have : joints (vals os A) (vals ds B) ≤ joints (vals os A ++ [os.getD p 0]) (vals ds B) := by
            by_cases y : (vals os A).sum + os.getD p 0 ∈ ps 0 (vals ds B)
            · rw [com_snoc_l1 y]; omega
            · rw [com_snoc_l y]; omega
          omega
      · obtain ⟨b, rfl⟩ : ∃ b, p = os.length + b := ⟨p - os.length, by omega⟩
        have L' := L.on_r hb (by omega)
        refine ⟨A, B ++ [b], L', ?_⟩
        show bst _ _ M ≤ _
        rw [e]
        have ew := L'.wt_eq _ rfl
        have sB : (vals ds (B ++ [b])).sum = (vals ds B).sum + ds.getD b 0 := by rw [vals_snoc, List.sum_append]; simp
        have pA : Pos (vals os A) := vals_pos ho L'.la
        have pB : Pos (vals ds (B ++ [b])) := vals_pos hd L'.lb
        have p0 : 0 < ds.getD b 0 := by rw [vals_snoc] at pB; exact pB _ (by simp)
        have pB' : Pos (vals ds B) := fun x hx => pB x (by rw [vals_snoc]; exact List.mem_append_left _ hx)
        have nB := pB'.sum_nonneg
        by_cases z : ev os ds M = true
        · rw [if_pos z]
          have z' : wt (wts os ds) 0 M = 0 := of_decide_eq_true z
          have hne : vals os A ≠ [] := fun y => by rw [y] at ew; simp at ew; omega
          have := joints_snoc_r1 (b := ds.getD b 0) pA (by rw [← vals_snoc]; exact pB) (by rw [← vals_snoc]; omega) hne
          rw [vals_snoc]
          omega
        · rw [if_neg z, vals_snoc]
          have := joints_mono_r (as := vals os A) (bs := vals ds B) (b := ds.getD b 0)
          omega
end
/-! ### orders of all -/
structure Ord (m : Nat) (A : List Nat) : Prop where
  nd : A.Nodup
  lt : ∀ a ∈ A, a < m
  len : A.length = m
theorem nodup_le {m : Nat} : ∀ {A : List Nat}, A.Nodup → (∀ a ∈ A, a < m) → A.length ≤ m := by
  induction m with
  | zero =>
    intro A _ h
    cases A with
    | nil => simp
    | cons a r => exact absurd (h a (by simp)) (by omega)
  | succ m ih =>
    intro A hn h
    have h1 : (A.erase m).Nodup := hn.erase m
    have h2 : ∀ a ∈ A.erase m, a < m := fun a ha => by
      have := (hn.mem_erase_iff.mp ha)
      have := h a this.2
      have := this
      omega
    have := ih h1 h2
    rw [List.length_erase] at this
    split at this <;> omega
theorem Ord.all {m : Nat} {A : List Nat} (h : Ord m A) {p : Nat} (hp : p < m) : p ∈ A := by
  refine Classical.byContradiction fun hn => ?_
  have h1 : (p :: A).Nodup := List.nodup_cons.mpr ⟨hn, h.nd⟩
  have := nodup_le h1 (m := m) fun a ha => by
    rcases List.mem_cons.mp ha with e | e
    · omega
    · exact h.lt a e
  rw [List.length_cons, h.len] at this
  omega
theorem full_bit (n p : Nat) : (2 ^ n - 1).testBit p = decide (p < n) := Nat.testBit_two_pow_sub_one n p
theorem Ord.lot {m t : Nat} {A B : List Nat} (hA : Ord m A) (hB : Ord t B) : Lot m t (2 ^ (m + t) - 1) A B :=
  ⟨hA.nd, hB.nd, hA.lt, hB.lt, fun p => by
    rw [full_bit]
    simp only [decide_eq_true_eq]
    constructor
    · intro h
      by_cases e : p < m
      · exact .inl ⟨e, hA.all e⟩
      · exact .inr ⟨by omega, hB.all (by omega)⟩
    · rintro (h | h)
      · omega
      · have := hB.lt _ h.2
        omega⟩
theorem full_le : ∀ {m : Nat} {A : List Nat}, (∀ p, p < m → p ∈ A) → m ≤ A.length
  | 0, _, _ => Nat.zero_le _
  | m + 1, A, h => by
    have h1 := full_le (m := m) (A := A.erase m) fun p hp => (List.mem_erase_of_ne (by omega)).mpr (h p (by omega))
    have h2 := h m (by omega)
    rw [List.length_erase_of_mem h2] at h1
    have h3 := List.length_pos_of_mem h2
    omega
theorem nodup_full {m : Nat} {A : List Nat} (hn : A.Nodup) (hl : ∀ a ∈ A, a < m) (hall : ∀ p, p < m → p ∈ A) : Ord m A :=
  ⟨hn, hl, by
    have h1 := nodup_le hn hl
    have h2 : m ≤ A.length := full_le hall
    omega⟩
theorem Lot.ords {m t : Nat} {A B : List Nat} (L : Lot m t (2 ^ (m + t) - 1) A B) : Ord m A ∧ Ord t B := by
  constructor
  · refine nodup_full L.na L.la fun p hp => ?_
    have := (L.bit p).mp (by rw [full_bit]; exact decide_eq_true (by omega))
    rcases this with h | h
    · exact h.2
    · omega
  · refine nodup_full L.nb L.lb fun p hp => ?_
    have := (L.bit (m + p)).mp (by rw [full_bit]; exact decide_eq_true (by omega))
    rcases this with h | h
    · omega
    · rw [Nat.add_sub_cancel_left] at h; exact h.2
/-- the full mask's number -/
abbrev most (os ds : List Int) : Nat := best os ds (2 ^ (os.length + ds.length) - 1)
theorem most_ge {os ds : List Int} (ho : Pos os) (hd : Pos ds) {A B : List Nat} (hA : Ord os.length A) (hB : Ord ds.length B) : joints (vals os A) (vals ds B) ≤ most os ds := joints_le ho hd _ rfl (hA.lot hB)
theorem most_is {os ds : List Int} (ho : Pos os) (hd : Pos ds) : ∃ A B, Ord os.length A ∧ Ord ds.length B ∧ joints (vals os A) (vals ds B) = most os ds := by
  have hp : 0 < 2 ^ (os.length + ds.length) := Nat.two_pow_pos _
  obtain ⟨A, B, L, h⟩ := joints_ge ho hd _ (2 ^ (os.length + ds.length) - 1) (Nat.le_refl _) (by omega)
  obtain ⟨hA, hB⟩ := L.ords
  exact ⟨A, B, hA, hB, Nat.le_antisymm (most_ge ho hd hA hB) h⟩
end QM

/-! QM4: the list of all orders, the walk of permutations, the search through pairs. Plain Lean. -/
namespace QM
/-- one more person behind a row -/
def grow1 (m : Nat) (row : List Nat) : List (List Nat) := ((List.range m).filter fun i => decide (i ∉ row)).map fun i => row ++ [i]
def ords (m : Nat) : Nat → List (List Nat)
  | 0 => [[]]
  | k + 1 => (ords m k).flatMap (grow1 m)
theorem mem_grow1 {m : Nat} {row A : List Nat} : A ∈ grow1 m row ↔ ∃ i, i < m ∧ i ∉ row ∧ A = row ++ [i] := by
  unfold grow1
  simp only [List.mem_map, List.mem_filter, List.mem_range, decide_eq_true_eq]
  constructor
  · rintro ⟨i, ⟨h1, h2⟩, h3⟩
    exact ⟨i, h1, h2, h3.symm⟩
  · rintro ⟨i, h1, h2, h3⟩
    exact ⟨i, ⟨h1, h2⟩, h3.symm⟩
theorem mem_ords {m : Nat} : ∀ {k : Nat} {A : List Nat}, A ∈ ords m k ↔ A.Nodup ∧ (∀ a ∈ A, a < m) ∧ A.length = k
  | 0, A => by
    show A ∈ [[]] ↔ _
    rw [List.mem_singleton]
    constructor
    · rintro rfl
      exact ⟨List.nodup_nil, (fun _ h => nomatch h), rfl⟩
    · rintro ⟨_, _, h⟩
      exact List.length_eq_zero_iff.mp h
  | k + 1, A => by
    show A ∈ (ords m k).flatMap (grow1 m) ↔ _
    rw [List.mem_flatMap]
    constructor
    · rintro ⟨row, hr, hA⟩
      obtain ⟨h1, h2, h3⟩ := mem_ords.mp hr
      obtain ⟨i, hi, hn, rfl⟩ := mem_grow1.mp hA
      refine ⟨?_, fun a ha => ?_, by simp [h3]⟩
      · rw [List.nodup_append]
        refine ⟨h1, by simp, fun x hx y hy e => ?_⟩
        simp at hy
        exact hn (by rw [← hy, ← e]; exact hx)
      · simp at ha
        rcases ha with ha | ha
        · exact h2 a ha
        · omega
    · rintro ⟨h1, h2, h3⟩
      have hne : A ≠ [] := fun e => by subst e; simp at h3
      obtain ⟨row, i, rfl⟩ := snoc_of hne
      rw [List.nodup_append] at h1
      refine ⟨row, mem_ords.mpr ⟨h1.1, fun a ha => h2 a (by simp [ha]), by simpa using h3⟩, mem_grow1.mpr ⟨i, h2 i (by simp), fun z => h1.2.2 i z i (by simp) rfl, rfl⟩⟩
theorem mem_ords_iff {m : Nat} {A : List Nat} : A ∈ ords m m ↔ Ord m A := by
  rw [mem_ords]
  exact ⟨fun h => ⟨h.1, h.2.1, h.2.2⟩, fun h => ⟨h.nd, h.lt, h.len⟩⟩
/-! ### the walk of permutations: indices and cycles -/
def nxt (n : Nat) : Nat → List Nat → List Nat → Option (List Nat × List Nat)
  | 0, _, _ => none
  | j + 1, xs, cs =>
    let d := cs.getD j 0 - 1
    if d == 0 then
      nxt n j (xs.take j ++ xs.drop (j + 1) ++ [xs.getD j 0])
        (cs.set j (n - j))
    else
      some ((xs.set j (xs.getD (n - d) 0)).set (n - d)
        (xs.getD j 0), cs.set j d)
def states (n : Nat) : Nat → List Nat → List Nat → List (List Nat × List Nat)
  | 0, _, _ => []
  | f + 1, xs, cs => (xs, cs) :: match nxt n n xs cs with
    | some (ys, ds) => states n f ys ds
    | none => []
theorem states_length_le (n : Nat) : ∀ (f : Nat) (xs cs : List Nat), (states n f xs cs).length ≤ f
  | 0, _, _ => Nat.le_refl _
  | f + 1, xs, cs => by
    show (_ :: _).length ≤ _
    rw [List.length_cons]
    cases nxt n n xs cs with
    | none => simp
    | some r => exact Nat.succ_le_succ (states_length_le n f r.1 r.2)
theorem states_next (n : Nat) : ∀ (f : Nat) (xs cs : List Nat), (states n f xs cs).length < f → ∀ (i : Nat) (s : List Nat × List Nat), (states n f xs cs)[i]? = some s → (states n f xs cs)[i + 1]? = nxt n n s.1 s.2
  | 0, _, _, h, _, _, _ => by simp [states] at h
  | f + 1, xs, cs, h, i, s, hs => by
    rw [show states n (f + 1) xs cs = (xs, cs) :: (match nxt n n xs cs with | some (ys, ds) => states n f ys ds | none => []) from rfl] at h hs ⊢
    cases i with
    | zero =>
      have e : (xs, cs) = s := by simpa using hs
      subst e
      rw [List.getElem?_cons_succ]
      cases hn : nxt n n xs cs with
      | none => simp
      | some r =>
        obtain ⟨ys, ds⟩ := r
        rw [hn] at h
        have h' : (states n f ys ds).length < f := by simpa using h
        cases f with
        | zero => omega
        | succ f => show (states n (f + 1) ys ds)[0]? = _; rfl
    | succ i =>
      rw [List.getElem?_cons_succ] at hs ⊢
      cases hn : nxt n n xs cs with
      | none => rw [hn] at hs; simp at hs
      | some r =>
        obtain ⟨ys, ds⟩ := r
        rw [hn] at h hs
        have h' : (states n f ys ds).length < f := by simpa using h
        exact states_next n f ys ds h' i s hs
def cyc0 (n : Nat) : List Nat := (List.range n).map fun i => n - i
def sts (n : Nat) : List (List Nat × List Nat) := states n 800 (List.range n) (cyc0 n)
theorem sts_ords : ∀ n, n ≤ 6 → (sts n).map (·.1) = ords n n ∧ (sts n).length < 800 := by
  intro n hn
  have : ∀ n ∈ List.range 7, (sts n).map (·.1) = ords n n ∧ (sts n).length < 800 := by decide +kernel
  exact this n (List.mem_range.mpr (by omega))
/-! ### the search -/
abbrev Bst := Option (Int × List Nat × List Nat)
def better (few : Bool) (x y : Int) : Bool := if few then decide (x < y) else decide (y < x)
def take1 (few : Bool) (x : Int) (A B : List Nat) : Bst → Bst
  | none => some (x, A, B)
  | some (y, C, D) => if better few x y = true then some (x, A, B) else some (y, C, D)
def inner (few : Bool) (g : List Nat → List Nat → Int) (A : List Nat) (LB : List (List Nat)) (b : Bst) : Bst := LB.foldl (fun b B => take1 few (g A B) A B b) b
def search (few : Bool) (g : List Nat → List Nat → Int) (LA LB : List (List Nat)) : Bst := LA.foldl (fun b A => inner few g A LB b) none
/-- x is as good as y -/
def good (few : Bool) (x y : Int) : Prop := if few then x ≤ y else y ≤ x
theorem good_refl (few : Bool) (x : Int) : good few x x := by cases few <;> simp [good]
theorem good_trans {few : Bool} {x y z : Int} (h : good few x y) (k : good few y z) : good few x z := by
  cases few <;> simp only [good, if_true, Bool.false_eq_true, if_false] at * <;> omega
theorem better_good {few : Bool} {x y : Int} (h : better few x y = true) : good few x y := by
  cases few <;> simp [better, good] at * <;> omega
theorem not_better_good {few : Bool} {x y : Int} (h : ¬ better few x y = true) : good few y x := by
  cases few <;> simp [better, good] at * <;> omega
/-- what a search has found among the pairs P -/
structure Found (few : Bool) (g : List Nat → List Nat → Int) (P : List Nat → List Nat → Prop) (b : Bst) : Prop where
  is : ∀ x A B, b = some (x, A, B) → P A B ∧ x = g A B ∧ ∀ C D, P C D → good few x (g C D)
  no : b = none → ∀ C D, ¬ P C D
theorem Found.congr {few : Bool} {g : List Nat → List Nat → Int} {P P' : List Nat → List Nat → Prop} {b : Bst} (h : Found few g P b) (e : ∀ A B, P A B ↔ P' A B) : Found few g P' b :=
  ⟨fun x A B hb => let ⟨p, q, r⟩ := h.is x A B hb; ⟨(e A B).mp p, q, fun C D z => r C D ((e C D).mpr z)⟩, fun hb C D z => h.no hb C D ((e C D).mpr z)⟩
theorem Found.take1 {few : Bool} {g : List Nat → List Nat → Int} {P : List Nat → List Nat → Prop} {b : Bst} (h : Found few g P b) (A B : List Nat) : Found few g (fun C D => P C D ∨ (C = A ∧ D = B)) (take1 few (g A B) A B b) := by
  cases b with
  | none =>
    refine ⟨fun x C D e => ?_, fun e => by cases e⟩
    have e' : (g A B, A, B) = (x, C, D) := Option.some.inj e
    obtain ⟨rfl, rfl, rfl⟩ : g A B = x ∧ A = C ∧ B = D := by simpa using e'
    refine ⟨.inr ⟨rfl, rfl⟩, rfl, fun C D z => ?_⟩
    rcases z with z | ⟨rfl, rfl⟩
    · exact (h.no rfl C D z).elim
    · exact good_refl _ _
  | some r =>
    obtain ⟨y, C0, D0⟩ := r
    obtain ⟨p0, q0, r0⟩ := h.is y C0 D0 rfl
    show Found few g _ (if better few (g A B) y = true then some (g A B, A, B) else some (y, C0, D0))
    by_cases hb : better few (g A B) y = true
    · rw [if_pos hb]
      refine ⟨fun x C D e => ?_, fun e => by cases e⟩
      have e' : (g A B, A, B) = (x, C, D) := Option.some.inj e
      obtain ⟨rfl, rfl, rfl⟩ : g A B = x ∧ A = C ∧ B = D := by simpa using e'
      refine ⟨.inr ⟨rfl, rfl⟩, rfl, fun C D z => ?_⟩
      rcases z with z | ⟨rfl, rfl⟩
      · exact good_trans (better_good hb) (r0 C D z)
      · exact good_refl _ _
    · rw [if_neg hb]
      refine ⟨fun x C D e => ?_, fun e => by cases e⟩
      have e' : (y, C0, D0) = (x, C, D) := Option.some.inj e
      obtain ⟨rfl, rfl, rfl⟩ : y = x ∧ C0 = C ∧ D0 = D := by simpa using e'
      refine ⟨.inl p0, q0, fun C D z => ?_⟩
      rcases z with z | ⟨rfl, rfl⟩
      · exact r0 C D z
      · exact not_better_good hb
theorem Found.inner {few : Bool} {g : List Nat → List Nat → Int} (A : List Nat) : ∀ (LB : List (List Nat)) {P : List Nat → List Nat → Prop} {b : Bst}, Found few g P b → Found few g (fun C D => P C D ∨ (C = A ∧ D ∈ LB)) (inner few g A LB b)
  | [], P, b, h => h.congr fun C D => by simp
  | B :: LB, P, b, h => (Found.inner A LB (h.take1 A B)).congr fun C D => by
    simp only [List.mem_cons]
    constructor
    · rintro ((z | ⟨z, w⟩) | ⟨z, w⟩)
      · exact .inl z
      · exact .inr ⟨z, .inl w⟩
      · exact .inr ⟨z, .inr w⟩
    · rintro (z | ⟨z, w | w⟩)
      · exact .inl (.inl z)
      · exact .inl (.inr ⟨z, w⟩)
      · exact .inr ⟨z, w⟩
theorem found_foldl {few : Bool} {g : List Nat → List Nat → Int} (LB : List (List Nat)) : ∀ (LA : List (List Nat)) {P : List Nat → List Nat → Prop} {b : Bst}, Found few g P b →
    Found few g (fun C D => P C D ∨ (C ∈ LA ∧ D ∈ LB)) (LA.foldl (fun b A => inner few g A LB b) b)
  | [], P, b, h => h.congr fun C D => by simp
  | A :: LA, P, b, h => (found_foldl LB LA (h.inner A LB)).congr fun C D => by
    simp only [List.mem_cons]
    constructor
    · rintro ((z | ⟨z, w⟩) | ⟨z, w⟩)
      · exact .inl z
      · exact .inr ⟨.inl z, w⟩
      · exact .inr ⟨.inr z, w⟩
    · rintro (z | ⟨z | z, w⟩)
      · exact .inl (.inl z)
      · exact .inl (.inr ⟨z, w⟩)
      · exact .inr ⟨z, w⟩
theorem search_found (few : Bool) (g : List Nat → List Nat → Int) (LA LB : List (List Nat)) : Found few g (fun C D => C ∈ LA ∧ D ∈ LB) (search few g LA LB) :=
  (found_foldl (few := few) (g := g) LB LA (P := fun _ _ => False) (b := none) ⟨fun x A B e => (by cases e), fun _ _ _ z => z⟩).congr fun C D => by simp
/-! ### what the law asks -/
/-- the number of payments of two orders -/
def gq (os ds : List Int) (A B : List Nat) : Int := (qn (vals os A) (vals ds B) : Int)
structure Even (os ds : List Int) : Prop where
  po : Pos os
  pd : Pos ds
  no : os ≠ []
  sum : os.sum = ds.sum
theorem Even.nd {os ds : List Int} (h : Even os ds) : ds ≠ [] := fun e => by
  obtain ⟨a, r, hr⟩ : ∃ a r, os = a :: r := by
    cases ho : os with
    | nil => exact absurd ho h.no
    | cons a r => exact ⟨a, r, rfl⟩
  have hp := h.po
  have hs := h.sum
  rw [e] at hs
  rw [hr] at hp hs
  have := hp.sum_pos
  rw [hs] at this
  simp at this
theorem sum_erase : ∀ {l : List Nat} {a : Nat}, a ∈ l → ∀ f : Nat → Int, (l.map f).sum = f a + ((l.erase a).map f).sum
  | x :: l, a, h, f => by
    by_cases e : x = a
    · subst e
      rw [List.erase_cons_head, List.map_cons, List.sum_cons]
    · have h' : a ∈ l := by
        rcases List.mem_cons.mp h with z | z
        · exact absurd z.symm e
        · exact z
      rw [List.erase_cons_tail (by simpa using e), List.map_cons, List.map_cons, List.sum_cons, List.sum_cons, sum_erase h' f]
      omega
/-- an order's whole is the side's whole -/
theorem ord_sum_f : ∀ (m : Nat) {A : List Nat}, Ord m A → ∀ f : Nat → Int, (A.map f).sum = ((List.range m).map f).sum
  | 0, A, h, f => by
    have e : A = [] := List.length_eq_zero_iff.mp h.len
    subst e; rfl
  | m + 1, A, h, f => by
    have hm : m ∈ A := h.all (by omega)
    have hE : Ord m (A.erase m) := ⟨h.nd.erase m, fun a ha => by
      have h1 := h.nd.mem_erase_iff.mp ha
      have h2 := h.lt a h1.2
      have h3 := h1.1
      omega, by rw [List.length_erase_of_mem hm, h.len]; omega⟩
    rw [sum_erase hm f, ord_sum_f m hE f, List.range_succ, List.map_append, List.sum_append]
    simp
    omega
theorem vals_range (ks : List Int) : vals ks (List.range ks.length) = ks := by
  unfold vals
  apply List.ext_getElem?
  intro i
  rw [List.getElem?_map]
  by_cases h : i < ks.length
  · rw [List.getElem?_range h, List.getElem?_eq_getElem h]
    simp [List.getElem?_eq_getElem h]
  · rw [List.getElem?_eq_none (by simp; omega), List.getElem?_eq_none (by omega)]; rfl
theorem ord_sum {ks : List Int} {A : List Nat} (h : Ord ks.length A) : (vals ks A).sum = ks.sum := by
  have := ord_sum_f ks.length h fun a => ks.getD a 0
  show (A.map fun a => ks.getD a 0).sum = _
  rw [this]
  show (vals ks (List.range ks.length)).sum = _
  rw [vals_range]
section
variable {os ds : List Int}
theorem gq_joints (E : Even os ds) {A B : List Nat} (hA : Ord os.length A) (hB : Ord ds.length B) : gq os ds A B + (joints (vals os A) (vals ds B) : Int) = os.length + ds.length := by
  have := qn_joints (vals_pos E.po hA.lt) (vals_pos E.pd hB.lt) (by rw [ord_sum hA, ord_sum hB, E.sum])
  have e1 : (vals os A).length = os.length := by simp [vals, hA.len]
  have e2 : (vals ds B).length = ds.length := by simp [vals, hB.len]
  unfold gq
  omega
/-- the least number is the people less the most even masks -/
theorem least_is (E : Even os ds) : ∃ A B, search true (gq os ds) (ords os.length os.length) (ords ds.length ds.length) = some ((os.length : Int) + ds.length - most os ds, A, B) ∧ Ord os.length A ∧ Ord ds.length B ∧ gq os ds A B = (os.length : Int) + ds.length - most os ds := by
  have F := search_found true (gq os ds) (ords os.length os.length) (ords ds.length ds.length)
  obtain ⟨A0, B0, hA0, hB0, e0⟩ := most_is E.po E.pd
  cases hs : search true (gq os ds) (ords os.length os.length) (ords ds.length ds.length) with
  | none => exact (F.no hs A0 B0 ⟨mem_ords_iff.mpr hA0, mem_ords_iff.mpr hB0⟩).elim
  | some r =>
    obtain ⟨x, A, B⟩ := r
    obtain ⟨⟨hA, hB⟩, hx, hg⟩ := F.is x A B hs
    have hA := mem_ords_iff.mp hA
    have hB := mem_ords_iff.mp hB
    have h1 : x ≤ gq os ds A0 B0 := hg A0 B0 ⟨mem_ords_iff.mpr hA0, mem_ords_iff.mpr hB0⟩
    have h2 := gq_joints E hA0 hB0
    have h3 := gq_joints E hA hB
    have h4 : (joints (vals os A) (vals ds B) : Int) ≤ most os ds := by exact_mod_cast most_ge E.po E.pd hA hB
    have e0' : (joints (vals os A0) (vals ds B0) : Int) = most os ds := by exact_mod_cast e0
    have ex : x = (os.length : Int) + ds.length - most os ds := by omega
    subst hx
    exact ⟨A, B, by rw [← ex], hA, hB, ex⟩
/-- the greatest number is at most the people less one, and at most the whole -/
theorem most_le (E : Even os ds) : ∃ y A B, search false (gq os ds) (ords os.length os.length) (ords ds.length ds.length) = some (y, A, B) ∧ Ord os.length A ∧ Ord ds.length B ∧ gq os ds A B = y ∧ y ≤ (os.length : Int) + ds.length - 1 ∧ y ≤ os.sum := by
  have F := search_found false (gq os ds) (ords os.length os.length) (ords ds.length ds.length)
  obtain ⟨A0, B0, hA0, hB0, e0⟩ := most_is E.po E.pd
  cases hs : search false (gq os ds) (ords os.length os.length) (ords ds.length ds.length) with
  | none => exact (F.no hs A0 B0 ⟨mem_ords_iff.mpr hA0, mem_ords_iff.mpr hB0⟩).elim
  | some r =>
    obtain ⟨x, A, B⟩ := r
    obtain ⟨⟨hA, hB⟩, hx, hg⟩ := F.is x A B hs
    have hA := mem_ords_iff.mp hA
    have hB := mem_ords_iff.mp hB
    have h3 := gq_joints E hA hB
    have pA := vals_pos E.po hA.lt
    have pB := vals_pos E.pd hB.lt
    have sA := ord_sum hA
    have sB := ord_sum hB
    have lA : (vals os A).length = os.length := by simp [vals, hA.len]
    have lB : (vals ds B).length = ds.length := by simp [vals, hB.len]
    have hj : 1 ≤ joints (vals os A) (vals ds B) := by
      cases ha : vals os A with
      | nil => rw [ha] at lA; exact absurd (List.length_eq_zero_iff.mp lA.symm) E.no
      | cons a r =>
        cases hb : vals ds B with
        | nil => rw [hb] at lB; exact absurd (List.length_eq_zero_iff.mp lB.symm) E.nd
        | cons b q => exact joints_pos (by rw [← ha, ← hb, sA, sB, E.sum])
    have hq := qn_le_sum _ _ _ (Nat.le_refl _) pA pB (by rw [sA, sB, E.sum])
    have hj' : (1 : Int) ≤ joints (vals os A) (vals ds B) := by exact_mod_cast hj
    refine ⟨x, A, B, rfl, hA, hB, hx.symm, by omega, ?_⟩
    rw [hx]
    unfold gq
    omega
end
theorem vals_map (g : Int) (ks : List Int) (A : List Nat) : vals (ks.map (g * ·)) A = (vals ks A).map (g * ·) := by
  unfold vals
  rw [List.map_map]
  refine List.map_congr_left fun a _ => ?_
  show (ks.map (g * ·)).getD a 0 = g * ks.getD a 0
  rw [List.getD_eq_getElem?_getD, List.getElem?_map, List.getD_eq_getElem?_getD]
  cases ks[a]? <;> simp
theorem gq_scale {g : Int} (hg : 0 < g) (os ds : List Int) (A B : List Nat) : gq (os.map (g * ·)) (ds.map (g * ·)) A B = gq os ds A B := by
  unfold gq
  rw [vals_map, vals_map, qn_scaled hg]
end QM

/-! QM5: the steps of the queues by indices. Plain Lean. -/
namespace QM
def mn (a b : Int) : Int := if b < a then b else a
theorem vals_cons (ks : List Int) (a : Nat) (A : List Nat) : vals ks (a :: A) = ks.getD a 0 :: vals ks A := rfl
theorem vals_set {ks : List Int} {a : Nat} {v : Int} {A : List Nat} (h : a ∉ A) : vals (ks.set a v) A = vals ks A := by
  unfold vals
  refine List.map_congr_left fun b hb => ?_
  have : a ≠ b := fun z => h (z ▸ hb)
  rw [List.getD_eq_getElem?_getD, List.getElem?_set_ne this, ← List.getD_eq_getElem?_getD]
theorem getD_set {ks : List Int} {a : Nat} {v : Int} (h : a < ks.length) : (ks.set a v).getD a 0 = v := by
  rw [List.getD_eq_getElem?_getD, List.getElem?_set_self h]; rfl
/-- what stands while the queues are walked: n pairs so far -/
structure QI (N : Nat) (as bs : List Int) (A B : List Nat) (n : Nat) : Prop where
  cnt : n + qn (vals as A) (vals bs B) = N
  pa : Pos (vals as A)
  pb : Pos (vals bs B)
  sm : (vals as A).sum = (vals bs B).sum
  bd : (vals as A).sum ≤ 1000
  na : A.Nodup
  nb : B.Nodup
  la : ∀ a ∈ A, a < as.length
  lb : ∀ b ∈ B, b < bs.length
theorem Pos.cons' {a : Int} {l : List Int} (h : 0 < a) (p : Pos l) : Pos (a :: l) := fun x hx => (List.mem_cons.mp hx).elim (fun e => e ▸ h) (p x)
theorem Pos.sum0 {l : List Int} (p : Pos l) : 0 ≤ l.sum := p.sum_nonneg
theorem QI.step {N n : Nat} {as bs : List Int} {a : Nat} {A B : List Nat} (I : QI N as bs (a :: A) B n) : ∃ b B', B = b :: B' ∧ a < as.length ∧ b < bs.length ∧ 0 < as.getD a 0 ∧ as.getD a 0 ≤ 1000 ∧ 0 < bs.getD b 0 ∧ bs.getD b 0 ≤ 1000 ∧
    QI N (as.set a (as.getD a 0 - mn (as.getD a 0) (bs.getD b 0))) (bs.set b (bs.getD b 0 - mn (as.getD a 0) (bs.getD b 0)))
      (if as.getD a 0 - mn (as.getD a 0) (bs.getD b 0) = 0 then A else a :: A) (if bs.getD b 0 - mn (as.getD a 0) (bs.getD b 0) = 0 then B' else b :: B') (n + 1) := by
  obtain ⟨cnt, pa, pb, sm, bd, na, nb, la, lb⟩ := I
  rw [vals_cons] at cnt pa sm bd
  have hx : 0 < as.getD a 0 := pa.head
  have p1 := pa.tail
  have s1 := p1.sum0
  rw [List.sum_cons] at sm bd
  cases B with
  | nil =>
    have : (vals bs []).sum = 0 := rfl
    omega
  | cons b B' =>
    rw [vals_cons] at cnt pb sm
    have hy : 0 < bs.getD b 0 := pb.head
    have p2 := pb.tail
    have s2 := p2.sum0
    rw [List.sum_cons] at sm
    have ha := la a List.mem_cons_self
    have hb := lb b List.mem_cons_self
    obtain ⟨na1, na2⟩ := List.nodup_cons.mp na
    obtain ⟨nb1, nb2⟩ := List.nodup_cons.mp nb
    have la' : ∀ c ∈ A, c < as.length := fun c hc => la c (List.mem_cons_of_mem _ hc)
    have lb' : ∀ c ∈ B', c < bs.length := fun c hc => lb c (List.mem_cons_of_mem _ hc)
    refine ⟨b, B', rfl, ha, hb, hx, by omega, hy, by omega, ?_⟩
    have va := fun v => vals_set (ks := as) (v := v) na1
    have vb := fun v => vals_set (ks := bs) (v := v) nb1
    have ga := fun v => getD_set (v := v) ha
    have gb := fun v => getD_set (v := v) hb
    generalize as.getD a 0 = x at *
    generalize bs.getD b 0 = y at *
    rcases Int.lt_trichotomy x y with h | h | h
    · have em : mn x y = x := if_neg (by omega)
      rw [em, if_pos (by omega), if_neg (by omega)]
      rw [qn_lt h] at cnt
      have e1 : vals (bs.set b (y - x)) (b :: B') = (y - x) :: vals bs B' := by rw [vals_cons, gb, vb]
      exact ⟨by rw [va, e1]; omega, by rw [va]; exact p1, by rw [e1]; exact Pos.cons' (by omega) p2, by rw [va, e1, List.sum_cons]; omega, by rw [va]; omega, na2, nb, by rw [List.length_set]; exact la', by rw [List.length_set]; exact lb⟩
    · subst h
      have em : mn x x = x := if_neg (by omega)
      rw [em, if_pos (by omega), if_pos (by omega)]
      rw [qn_eq] at cnt
      exact ⟨by rw [va, vb]; omega, by rw [va]; exact p1, by rw [vb]; exact p2, by rw [va, vb]; omega, by rw [va]; omega, na2, nb2, by rw [List.length_set]; exact la', by rw [List.length_set]; exact lb'⟩
    · have em : mn x y = y := if_pos h
      rw [em, if_neg (by omega), if_pos (by omega)]
      rw [qn_gt h] at cnt
      have e1 : vals (as.set a (x - y)) (a :: A) = (x - y) :: vals as A := by rw [vals_cons, ga, va]
      exact ⟨by rw [vb, e1]; omega, by rw [e1]; exact Pos.cons' (by omega) p1, by rw [vb]; exact p2, by rw [vb, e1, List.sum_cons]; omega, by rw [e1, List.sum_cons]; omega, na, nb2, by rw [List.length_set]; exact la, by rw [List.length_set]; exact lb'⟩
theorem QI.first {os ds : List Int} {A B : List Nat} (E : Even os ds) (hb : os.sum ≤ 1000) (hA : Ord os.length A) (hB : Ord ds.length B) : QI (qn (vals os A) (vals ds B)) os ds A B 0 :=
  ⟨Nat.zero_add _, vals_pos E.po hA.lt, vals_pos E.pd hB.lt, by rw [ord_sum hA, ord_sum hB, E.sum], by rw [ord_sum hA]; exact hb, hA.nd, hB.nd, hA.lt, hB.lt⟩
theorem QI.last {N n : Nat} {as bs : List Int} {B : List Nat} (I : QI N as bs [] B n) : n = N := by
  have := I.cnt
  rw [show vals as [] = [] from rfl, qn_nil] at this
  exact this
end QM

/-! QF: fractions as pairs in lowest terms. Plain Lean. -/
namespace QF
def gcdI (a b : Int) : Int := (Int.gcd a b : Int)
def red (t b : Int) : Int × Int := (t / gcdI t b, b / gcdI t b)
theorem gcd_step {a b : Int} (ha : 0 ≤ a) (hb : 0 < b) : gcdI b (a % b) = gcdI a b := by
  unfold gcdI
  congr 1
  rw [Int.gcd_comm a b]
  show Nat.gcd b.natAbs (a % b).natAbs = Nat.gcd b.natAbs a.natAbs
  have e : (a % b).natAbs = a.natAbs % b.natAbs := by
    obtain ⟨m, rfl⟩ := Int.eq_ofNat_of_zero_le ha
    obtain ⟨n, rfl⟩ := Int.eq_ofNat_of_zero_le (Int.le_of_lt hb)
    show ((m : Int) % (n : Int)).natAbs = m % n
    rw [← Int.natCast_emod]
    rfl
  rw [e, Nat.gcd_comm b.natAbs (a.natAbs % b.natAbs), ← Nat.gcd_rec]
theorem gcd_zero {a : Int} (ha : 0 ≤ a) : gcdI a 0 = a := by
  unfold gcdI
  rw [Int.gcd_zero_right]
  omega
theorem gcd_abs (a b : Int) : gcdI (if a < 0 then -a else a) (if b < 0 then -b else b) = gcdI a b := by
  unfold gcdI
  congr 1
  have h : ∀ x : Int, (if x < 0 then -x else x).natAbs = x.natAbs := fun x => by split <;> omega
  show Nat.gcd _ _ = Nat.gcd _ _
  rw [h, h]
theorem gcd_pos {t b : Int} (hb : 0 < b) : 0 < gcdI t b := by
  unfold gcdI
  have : Int.gcd t b ≠ 0 := fun e => by
    have := (Int.gcd_eq_zero_iff.mp e).2
    omega
  omega
theorem gcd_le {t b : Int} (hb : 0 < b) : gcdI t b ≤ b := Int.le_of_dvd hb (Int.gcd_dvd_right t b)
theorem dvd_l (t b : Int) : gcdI t b ∣ t := Int.gcd_dvd_left t b
theorem dvd_r (t b : Int) : gcdI t b ∣ b := Int.gcd_dvd_right t b
section
variable {t b : Int}
theorem red_mul_l : (red t b).1 * gcdI t b = t := Int.ediv_mul_cancel (dvd_l t b)
theorem red_mul_r : (red t b).2 * gcdI t b = b := Int.ediv_mul_cancel (dvd_r t b)
theorem red_pos (hb : 0 < b) : 0 < (red t b).2 := by
  have h1 := gcd_pos (t := t) hb
  have h2 := red_mul_r (t := t) (b := b)
  refine Int.lt_of_not_ge fun h => ?_
  have : (red t b).2 * gcdI t b ≤ 0 := Int.mul_nonpos_of_nonpos_of_nonneg h (Int.le_of_lt h1)
  omega
theorem red_pos_l (ht : 0 < t) (hb : 0 < b) : 0 < (red t b).1 := by
  have h1 := gcd_pos (t := t) hb
  have h2 := red_mul_l (t := t) (b := b)
  refine Int.lt_of_not_ge fun h => ?_
  have : (red t b).1 * gcdI t b ≤ 0 := Int.mul_nonpos_of_nonpos_of_nonneg h (Int.le_of_lt h1)
  omega
/-- the cross product -/
theorem red_cross : (red t b).1 * b = t * (red t b).2 := by
  have h1 := red_mul_l (t := t) (b := b)
  have h2 := red_mul_r (t := t) (b := b)
  generalize (red t b).1 = x at *
  generalize (red t b).2 = y at *
  generalize gcdI t b = g at *
  subst h1 h2
  grind
theorem red_coprime (hb : 0 < b) : gcdI (red t b).1 (red t b).2 = 1 := by
  unfold gcdI red
  have h := gcd_pos (t := t) hb
  unfold gcdI at h ⊢
  have := Int.gcd_ediv_gcd_ediv_gcd (i := t) (j := b) (by omega)
  simp only at this ⊢
  rw [this]; rfl
end
theorem dvd_of {a k n : Int} (h : k ∣ a * n) (g : Int.gcd a k = 1) : k ∣ n := by
  have h1 : k.natAbs ∣ a.natAbs * n.natAbs := by rw [← Int.natAbs_mul]; exact Int.natAbs_dvd_natAbs.mpr h
  have h2 : Nat.Coprime k.natAbs a.natAbs := by
    show Nat.gcd _ _ = 1
    rw [Nat.gcd_comm]; exact g
  exact Int.natAbs_dvd_natAbs.mp (h2.dvd_of_dvd_mul_left h1)
/-- equal values are equal pairs -/
theorem red_eq {t b t' b' : Int} (hb : 0 < b) (hb' : 0 < b') (h : t * b' = t' * b) : red t b = red t' b' := by
  have x1 := red_cross (t := t) (b := b)
  have x2 := red_cross (t := t') (b := b')
  have p1 := red_pos (t := t) hb
  have p2 := red_pos (t := t') hb'
  have c1 := red_coprime (t := t) hb
  have c2 := red_coprime (t := t') hb'
  generalize hx : red t b = x at *
  generalize hy : red t' b' = y at *
  obtain ⟨a1, a2⟩ := x
  obtain ⟨d1, d2⟩ := y
  simp only at x1 x2 p1 p2 c1 c2
  -- a1 * d2 = d1 * a2
  have e : a1 * d2 = d1 * a2 := by
    have : (a1 * d2 - d1 * a2) * (b * b') = 0 := by grind
    rcases Int.mul_eq_zero.mp this with z | z
    · omega
    · rcases Int.mul_eq_zero.mp z with z | z <;> omega
  have g1 : Int.gcd a1 a2 = 1 := by unfold gcdI at c1; omega
  have g2 : Int.gcd d1 d2 = 1 := by unfold gcdI at c2; omega
  have h1 : a2 ∣ d2 := by
    exact dvd_of (a := a1) ⟨d1, by rw [e, Int.mul_comm]⟩ g1
  have h2 : d2 ∣ a2 := by
    exact dvd_of (a := d1) ⟨a1, by rw [← e, Int.mul_comm]⟩ g2
  have e2 : a2 = d2 := Int.le_antisymm (Int.le_of_dvd p2 h1) (Int.le_of_dvd p1 h2)
  subst e2
  have e1 : a1 = d1 := by
    have : (a1 - d1) * a2 = 0 := by grind
    rcases Int.mul_eq_zero.mp this with z | z <;> omega
  rw [e1]
/-! ### the program's operations on sums of one unit p / q -/
section
variable {a c p q : Int}
/-- so many units -/
def fr (p q k : Int) : Int × Int := red (k * p) q
theorem fr_cross (k : Int) : (fr p q k).1 * q = k * p * (fr p q k).2 := red_cross
theorem fr_pos (hq : 0 < q) (k : Int) : 0 < (fr p q k).2 := red_pos hq
theorem fr_plus (hq : 0 < q) : red ((fr p q a).1 * (fr p q c).2 + (fr p q c).1 * (fr p q a).2) ((fr p q a).2 * (fr p q c).2) = fr p q (a + c) := by
  refine red_eq (Int.mul_pos (fr_pos hq a) (fr_pos hq c)) hq ?_
  have h1 := fr_cross (p := p) (q := q) a
  have h2 := fr_cross (p := p) (q := q) c
  generalize (fr p q a).1 = x1 at *
  generalize (fr p q a).2 = x2 at *
  generalize (fr p q c).1 = y1 at *
  generalize (fr p q c).2 = y2 at *
  grind
theorem fr_minus (hq : 0 < q) : red ((fr p q a).1 * (fr p q c).2 - (fr p q c).1 * (fr p q a).2) ((fr p q a).2 * (fr p q c).2) = fr p q (a - c) := by
  refine red_eq (Int.mul_pos (fr_pos hq a) (fr_pos hq c)) hq ?_
  have h1 := fr_cross (p := p) (q := q) a
  have h2 := fr_cross (p := p) (q := q) c
  generalize (fr p q a).1 = x1 at *
  generalize (fr p q a).2 = x2 at *
  generalize (fr p q c).1 = y1 at *
  generalize (fr p q c).2 = y2 at *
  grind
theorem fr_less (hp : 0 < p) (hq : 0 < q) : (fr p q a).1 * (fr p q c).2 < (fr p q c).1 * (fr p q a).2 ↔ a < c := by
  have h1 := fr_cross (p := p) (q := q) a
  have h2 := fr_cross (p := p) (q := q) c
  have p1 := fr_pos (p := p) hq a
  have p2 := fr_pos (p := p) hq c
  generalize (fr p q a).1 = x1 at *
  generalize (fr p q a).2 = x2 at *
  generalize (fr p q c).1 = y1 at *
  generalize (fr p q c).2 = y2 at *
  have e1 : (x1 * y2) * q = a * (p * (x2 * y2)) := by grind
  have e2 : (y1 * x2) * q = c * (p * (x2 * y2)) := by grind
  have hm : 0 < p * (x2 * y2) := Int.mul_pos hp (Int.mul_pos p1 p2)
  constructor
  · intro h
    have h3 := Int.mul_lt_mul_of_pos_right h hq
    rw [e1, e2] at h3
    exact Int.lt_of_mul_lt_mul_right h3 (Int.le_of_lt hm)
  · intro h
    have h3 := Int.mul_lt_mul_of_pos_right h hm
    rw [← e1, ← e2] at h3
    exact Int.lt_of_mul_lt_mul_right h3 (Int.le_of_lt hq)
theorem fr_zero (hq : 0 < q) : fr p q 0 = (0, 1) := by
  have : fr p q 0 = red 0 1 := red_eq hq (by decide) (by rw [Int.zero_mul, Int.zero_mul, Int.zero_mul])
  rw [this]; rfl
theorem fr_inj (hp : 0 < p) (hq : 0 < q) (h : fr p q a = fr p q c) : a = c := by
  have h1 : ¬ a < c := fun z => by
    have := (fr_less (a := a) (c := c) hp hq).mpr z
    rw [h] at this
    exact Int.lt_irrefl _ this
  have h2 : ¬ c < a := fun z => by
    have := (fr_less (a := c) (c := a) hp hq).mpr z
    rw [h] at this
    exact Int.lt_irrefl _ this
  omega
theorem gcd_mul_right (a b c : Int) (hc : 0 ≤ c) : gcdI (a * c) (b * c) = gcdI a b * c := by
  unfold gcdI
  rw [Int.gcd_mul_right]
  push_cast
  rw [show ((c.natAbs : Nat) : Int) = c by omega]
/-- the common measure -/
theorem fr_measure (hp : 0 < p) (hq : 0 < q) : red (gcdI ((fr p q a).1 * (fr p q c).2) ((fr p q c).1 * (fr p q a).2)) ((fr p q a).2 * (fr p q c).2) = fr p q (gcdI a c) := by
  have h1 := fr_cross (p := p) (q := q) a
  have h2 := fr_cross (p := p) (q := q) c
  have p1 := fr_pos (p := p) hq a
  have p2 := fr_pos (p := p) hq c
  refine red_eq (Int.mul_pos p1 p2) hq ?_
  generalize (fr p q a).1 = x1 at *
  generalize (fr p q a).2 = x2 at *
  generalize (fr p q c).1 = y1 at *
  generalize (fr p q c).2 = y2 at *
  have e1 : (x1 * y2) * q = a * (p * (x2 * y2)) := by grind
  have e2 : (y1 * x2) * q = c * (p * (x2 * y2)) := by grind
  have hm : 0 < p * (x2 * y2) := Int.mul_pos hp (Int.mul_pos p1 p2)
  rw [← gcd_mul_right _ _ _ (Int.le_of_lt hq), e1, e2, gcd_mul_right _ _ _ (Int.le_of_lt hm)]
  grind
/-- a sum by the measure -/
theorem fr_over {g : Int} (hp : 0 < p) (hq : 0 < q) (hg : 0 < g) (k : Int) : red ((fr p q (k * g)).1 * (fr p q g).2) ((fr p q (k * g)).2 * (fr p q g).1) = (k, 1) := by
  have h1 := fr_cross (p := p) (q := q) (k * g)
  have h2 := fr_cross (p := p) (q := q) g
  have p1 := fr_pos (p := p) hq (k * g)
  have p2 := fr_pos (p := p) hq g
  have p3 : 0 < (fr p q g).1 := red_pos_l (Int.mul_pos hg hp) hq
  have : red ((fr p q (k * g)).1 * (fr p q g).2) ((fr p q (k * g)).2 * (fr p q g).1) = red k 1 := by
    refine red_eq (Int.mul_pos p1 p3) (by decide) ?_
    generalize (fr p q (k * g)).1 = x1 at *
    generalize (fr p q (k * g)).2 = x2 at *
    generalize (fr p q g).1 = y1 at *
    generalize (fr p q g).2 = y2 at *
    have : (x1 * y2 - k * (x2 * y1)) * (q * p) = 0 := by grind
    rcases Int.mul_eq_zero.mp this with z | z
    · omega
    · rcases Int.mul_eq_zero.mp z with z | z <;> omega
  rw [this]
  unfold red gcdI
  have : Int.gcd k 1 = 1 := Int.gcd_one_right k
  rw [this]
  simp
theorem fr_one (hc : gcdI p q = 1) : fr p q 1 = (p, q) := by
  unfold fr red
  rw [Int.one_mul, hc]
  simp
/-! sizes -/
theorem red_small_l {t b : Int} (hb : 0 < b) : (red t b).1.natAbs ≤ t.natAbs := by
  have h := red_mul_l (t := t) (b := b)
  have g := gcd_pos (t := t) hb
  generalize (red t b).1 = x at *
  generalize gcdI t b = y at *
  rw [← h, Int.natAbs_mul]
  exact Nat.le_mul_of_pos_right _ (by omega)
theorem red_small_r {t b : Int} (hb : 0 < b) : (red t b).2.natAbs ≤ b.natAbs := by
  have h := red_mul_r (t := t) (b := b)
  have g := gcd_pos (t := t) hb
  generalize (red t b).2 = x at *
  generalize gcdI t b = y at *
  rw [← h, Int.natAbs_mul]
  exact Nat.le_mul_of_pos_right _ (by omega)
end
end QF

/-! QB: what the walks share: a def's promise as one fact, calls, readings step by step -/
namespace QH
open PySem PySem.Spec L2
section
variable {P : Program} {w : World} {K : PySem.W.Frag} {mg : Str → Option Value} {base : Heap}
/-- the def x keeps the promise sp, by at most level k -/
structure OkF (P : Program) (w : World) (K : PySem.W.Frag) (mg : Str → Option Value) (base : Heap) (x : Str) (ps : List Str) (k : Nat) (sp : Sp) : Prop where
  ex : ∃ (f : Addr) (fd : FuncData), mg x = some (.ref f) ∧ PySem.W.keepIn K (.ref f) = true ∧ Binds K fd ps [] ∧ FnOk P w K mg base CX0 k f fd ps sp
/-- the method m of the class at C -/
structure OkM (P : Program) (w : World) (K : PySem.W.Frag) (mg : Str → Option Value) (base : Heap) (C : Addr) (m : Str) (ps : List Str) (k : Nat) (sp : Sp) : Prop where
  ex : ∃ (f : Addr) (fd : FuncData), Meth K C m f ∧ Binds K fd ps [] ∧ FnOk P w K mg base CX0 k f fd ps sp
/-- the class's __init__ -/
structure OkI (P : Program) (w : World) (K : PySem.W.Frag) (mg : Str → Option Value) (base : Heap) (C : Addr) (ps : List Str) (k : Nat) (sp : Sp) : Prop where
  ex : ∃ (f : Addr) (fd : FuncData), Mk K C f ∧ Binds K fd ps [] ∧ FnOk P w K mg base CX0 k f fd ps sp
/-- where a def's body runs -/
abbrev BX (P : Program) (w : World) (K : PySem.W.Frag) (mg : Str → Option Value) (base : Heap) (N : List Str) (qual : Str) (scope : Scope) (f : Addr) (cd : Value) (A : Around) (outer : List Env) (s : Shared) (H : Hp) (E : XK) : Cx :=
  (cxOf CX0 P w K mg base N qual scope f cd A outer s H E).nox
/-- a def's body, walked -/
def Body (P : Program) (w : World) (K : PySem.W.Frag) (mg : Str → Option Value) (base : Heap) (N : List Str) (qual : Str) (st : Stmt) (k : Nat) (sp : Sp) : Prop :=
  ∀ (f : Addr) (cd : Value) (A : Around) (outer : List Env) (s : Shared) (H : Hp) (vs : List V) (Q : VK) (E : XK), Room k (BX P w K mg base N qual (defScope st) f cd A outer s H E).A → sp vs H Q E →
    ∃ t, PSs (BX P w K mg base N qual (defScope st) f cd A outer s H E) (defBody st) t ∧ t { nx := fun _ H' => Q .non H', rt := Q } (start N vs) H
theorem Body.fn {x qual : Str} {st : Stmt} {N ps : List Str} {k : Nat} {sp : Sp} {f : Addr} {fd : FuncData} (F : FunD K x qual (defArgs st) (defBody st) (defScope st) [] [] f fd) (S : FnScope N ps (defScope st))
    (len : ∀ vs H Q E, sp vs H Q E → vs.length = ps.length) (h : Body P w K mg base N qual st k sp) : FnOk P w K mg base CX0 (k + 1) f fd ps sp := by
  refine F.ok S len fun cdv A outer s H vs Q E hr hsp => ?_
  obtain ⟨t, h, q⟩ := h f cdv A outer s H vs Q E hr hsp
  exact ⟨t, h.nox, q⟩
abbrev BindsBy (st : Stmt) (x qual : Str) (ps : List Str) : Prop := ∀ (kV doc pm : Value) (an : Option Addr) (cdv ct : Value) (us : List Value), us.length = ps.length →
  bindArgs (PySem.W.fnOf x qual (defArgs st) (defBody st) (defScope st) .none kV doc pm an cdv ct) ⟨us, []⟩ = pure (ps.zip us)
theorem okF {x : Str} {st : Stmt} {N ps : List Str} {k : Nat} {sp : Sp} (D : Df K mg x st) (S : FnScope N ps (defScope st)) (b : BindsBy st x x ps)
    (len : ∀ vs H Q E, sp vs H Q E → vs.length = ps.length) (h : Body P w K mg base N x st k sp) : OkF P w K mg base x ps (k + 1) sp := by
  obtain ⟨f, fd, e, F⟩ := D
  exact ⟨f, fd, e, F.kp, F.bindsN b, Body.fn F S len h⟩
theorem okM {C : Addr} {m qual : Str} {st : Stmt} {N ps : List Str} {k : Nat} {sp : Sp} (D : Dm K C m qual st) (S : FnScope N ps (defScope st)) (b : BindsBy st m qual ps)
    (len : ∀ vs H Q E, sp vs H Q E → vs.length = ps.length) (h : Body P w K mg base N qual st k sp) : OkM P w K mg base C m ps (k + 1) sp := by
  obtain ⟨f, fd, e, F⟩ := D
  exact ⟨f, fd, e, F.bindsN b, Body.fn F S len h⟩
theorem okI {C : Addr} {qual : Str} {st : Stmt} {N ps : List Str} {k : Nat} {sp : Sp} (D : Di K C qual st) (S : FnScope N ps (defScope st)) (b : BindsBy st "__init__" qual ps)
    (len : ∀ vs H Q E, sp vs H Q E → vs.length = ps.length) (h : Body P w K mg base N qual st k sp) : OkI P w K mg base C ps (k + 1) sp := by
  obtain ⟨f, fd, e, F⟩ := D
  exact ⟨f, fd, e, F.bindsN b, Body.fn F S len h⟩
end
section
variable {X : Cx} {x m : Str} {ps : List Str} {j k : Nat} {sp : Sp} {e o : Expr} {es : List Expr} {t : TA} {ta : TE} {p pos apos : Pos} {C : Addr}
/-- f(e, ..) -/
theorem OkF.call (F : OkF X.prog X.w X.K X.mg X.base x ps k sp) (hr : Room j X.A) (ha : PA X (e :: es) t) (hk : k ≤ j := by decide) (hg : Gl X x := by rfl) (hdb : (x == ("__debug__" : Str)) = false := by decide)
    (he : starEach (e :: es) X.env = (false, eval e X.env) :: starEach es X.env := by rfl) (hpl : (backTo pos (starEach es X.env)).any (·.1) = false := by rfl) : PE X (.Call (.Name x p) (e :: es) [] pos) (tCall sp [] E0 t) := by
  obtain ⟨f, fd, h1, h2, h3, h4⟩ := F.ex
  exact pe_call h4 (hr.mono hk) hg h1 h2 h3 .nil pass0 ha hdb he hpl
theorem OkI.make (F : OkI X.prog X.w X.K X.mg X.base C ps k sp) (hm : X.mg x = some (.ref C)) (hr : Room j X.A) (ha : PA X (e :: es) t) (hk : k + 1 ≤ j := by decide) (hg : Gl X x := by rfl) (hdb : (x == ("__debug__" : Str)) = false := by decide)
    (he : starEach (e :: es) X.env = (false, eval e X.env) :: starEach es X.env := by rfl) (hpl : (backTo pos (starEach es X.env)).any (·.1) = false := by rfl) : PE X (.Call (.Name x p) (e :: es) [] pos) (tMake C sp [] E0 t) := by
  obtain ⟨f, fd, h1, h3, h4⟩ := F.ex
  exact pe_make h1 h4 (hr.mono hk) hg hm h3 .nil pass0 ha hdb he hpl
theorem OkM.call {pl : Sem Bool} (F : OkM X.prog X.w X.K X.mg X.base C m ps k sp) (c : Cls X.K C) (hr : Room j X.A) (ho : PE X o ta) (ha : PA X (e :: es) t) (hk : k ≤ j := by decide)
    (hst : starEach (e :: es) X.env = (false, eval e X.env) :: starEach es X.env := by rfl) (hpl : (backTo pos (starEach es X.env)).any (·.1) = false := by rfl)
    (ht : eval (.Call (.Attribute o m apos) (e :: es) [] pos) X.env = (do
      let ov ← eval o X.env
      standAt apos.atName
      let (f, first) ← holding [ov] (getMethod ov m pl)
      callWith pos f first (backTo pos (starEach (e :: es) X.env)) (backToKw pos (keywordEach [] X.env))) := by rfl) : PE X (.Call (.Attribute o m apos) (e :: es) [] pos) (tMeth C m sp [] E0 ta t) := by
  obtain ⟨f, fd, h1, h3, h4⟩ := F.ex
  exact pe_meth ho c h1 h4 (hr.mono hk) h3 .nil pass0 ha hst hpl ht
end
/-! ### readings, step by step (all by definition) -/
section
variable {σ : St} {H : Hp} {Q : VK} {D : Ends} {te ta tb tc : TE} {tt tu : TT} {ts tr : TS} {i : Nat} {v y : V} {g : TG} {gs : TGs} {tl : TA}
theorem r_seq (h : ts { D with nx := tr D } σ H) : tSeq ts tr D σ H := h
theorem r_asg (h : te σ H fun x H1 => g x σ H1 D.nx) : tAsg te g D σ H := h
theorem r_name {Q : St → Hp → Prop} (h : Q (σ.set i (some v)) H) : gName i v σ H Q := h
theorem r_ret (h : te σ H D.rt) : tRet te D σ H := h
theorem r_drop (h : te σ H fun _ H1 => D.nx σ H1) : tDrop te D σ H := h
theorem r_ifs (h : tt σ H fun b H1 => if b = true then ts D σ H1 else tr D σ H1) : tIfS tt ts tr D σ H := h
theorem r_next (h : D.nx σ H) : tNext D σ H := h
theorem r_nx {f : St → Hp → Prop} {a : VK} {b c : St → Hp → Prop} (h : f σ H) : Ends.nx ⟨f, a, b, c⟩ σ H := h
theorem r_rt {f : St → Hp → Prop} {a : VK} {b c : St → Hp → Prop} (h : a v H) : Ends.rt ⟨f, a, b, c⟩ v H := h
theorem r_var (e : σ[i]? = some (some v)) (h : Q v H) : tVar i σ H Q := ⟨v, e, h⟩
theorem r_c (h : Q v H) : tC v σ H Q := h
theorem r_op {r : R2} (h : ta σ H fun x H1 => tb σ H1 fun y H2 => r x y H2 Q) : tOp r ta tb σ H Q := h
theorem r_un {r : V → Hp → VK → Prop} (h : ta σ H fun x H1 => r x H1 Q) : tUn r ta σ H Q := h
theorem r_I0 {f : Int → Int → V} {a b : Int} (h : Q (f a b) H) : rI0 f (.int a) (.int b) H Q := ⟨a, b, rfl, rfl, h⟩
theorem r_I {c : Int → Int → Prop} {f : Int → Int → V} {a b : Int} (hc : c a b) (h : Q (f a b) H) : rI c f (.int a) (.int b) H Q := ⟨a, b, rfl, rfl, hc, h⟩
theorem r_test {Q : Bool → Hp → Prop} (h : te σ H fun x H1 => ∃ k, x = .bl k ∧ Q k H1) : tTest te σ H Q := h
theorem r_B {Q : Bool → Hp → Prop} (h : te σ H fun x H1 => ∃ k, x = .bl k ∧ Q k H1) : tB te σ H Q := h
theorem r_bl {Q : Bool → Prop} {b : Bool} (h : Q b) : ∃ k, V.bl b = .bl k ∧ Q k := ⟨b, rfl, h⟩
theorem r_not {Q : Bool → Hp → Prop} (h : tt σ H fun c H1 => Q (!c) H1) : tNot tt σ H Q := h
theorem r_and {Q : Bool → Hp → Prop} (h : tt σ H fun c H1 => if c = true then tu σ H1 Q else Q false H1) : tAnd tt tu σ H Q := h
theorem r_or {Q : Bool → Hp → Prop} (h : tt σ H fun c H1 => if c = true then Q true H1 else tu σ H1 Q) : tOr tt tu σ H Q := h
theorem r_andV (h : ta σ H fun x H1 => ∃ c, x = .bl c ∧ if c = true then tb σ H1 Q else Q (.bl false) H1) : tAndV ta tb σ H Q := h
theorem r_orV (h : ta σ H fun x H1 => ∃ c, x = .bl c ∧ if c = true then Q (.bl true) H1 else tb σ H1 Q) : tOrV ta tb σ H Q := h
theorem r_notV (h : ta σ H fun x H1 => ∃ c, x = .bl c ∧ Q (.bl (!c)) H1) : tNotV ta σ H Q := h
theorem r_if (h : tt σ H fun c H1 => if c = true then ta σ H1 Q else tb σ H1 Q) : tIf tt ta tb σ H Q := h
theorem r_nil {Q : List V → Hp → Prop} (h : Q [] H) : tNil σ H Q := h
theorem r_cons {Q : List V → Hp → Prop} (h : te σ H fun x H1 => tl σ H1 fun xs H2 => Q (x :: xs) H2) : tCons te tl σ H Q := h
theorem r_cb {r : List V → Hp → VK → Prop} (h : tl σ H fun xs H1 => r xs H1 Q) : tCB r tl σ H Q := h
theorem r_call {sp : Sp} {dvs : List V} {E : XK} (h : tl σ H fun vs H1 => sp (vs ++ dvs) H1 Q E) : tCall sp dvs E tl σ H Q := h
theorem r_par {i j : Nat} (h : tl σ H fun vs H1 => ∃ v w, vs = [v, w] ∧ D.nx ((σ.set i (some v)).set j (some w)) H1) : tPar i j tl D σ H := h
theorem r_par2 {Q : V → V → Prop} {v w : V} (h : Q v w) : ∃ v' w', [v, w] = [v', w'] ∧ Q v' w' := ⟨v, w, rfl, h⟩
theorem r_aug {ti : TIp} (e : σ[i]? = some (some v)) (h : te σ H fun y H1 => ti v y H1 fun z H2 => D.nx (σ.set i (some z)) H2) : tAug i te ti D σ H := ⟨v, e, h⟩
theorem r_ipI {f : Int → Int → Int} {a b : Int} (h : Q (.int (f a b)) H) : ipI f (.int a) (.int b) H Q := ⟨a, b, rfl, rfl, h⟩
theorem r_iteT {A B : Prop} (h : A) : if true = true then A else B := by rw [if_pos rfl]; exact h
theorem r_iteF {A B : Prop} (h : B) : if false = true then A else B := by rw [if_neg Bool.false_ne_true]; exact h
theorem r_ite {A B : Prop} {b : Bool} (h1 : b = true → A) (h2 : b = false → B) : if b = true then A else B := by
  cases b with
  | true => rw [if_pos rfl]; exact h1 rfl
  | false => rw [if_neg Bool.false_ne_true]; exact h2 rfl
theorem r_iteNT {A B : Prop} (h : B) : if (!true) = true then A else B := by rw [if_neg (by decide)]; exact h
theorem r_iteNF {A B : Prop} (h : A) : if (!false) = true then A else B := by rw [if_pos (by decide)]; exact h
theorem r_iteD {A B : Prop} {c : Prop} {d : Decidable c} (h1 : c → A) (h2 : ¬ c → B) : if decide c = true then A else B := r_ite (fun h => h1 (of_decide_eq_true h)) (fun h => h2 (of_decide_eq_false h))
theorem r_iteN {A B : Prop} {c : Prop} {d : Decidable c} (h1 : ¬ c → A) (h2 : c → B) : if (!decide c) = true then A else B := r_ite (fun h => h1 (by simpa using h)) (fun h => h2 (by simpa using h))
theorem r_iteNb {A B : Prop} {b : Bool} (h1 : b = false → A) (h2 : b = true → B) : if (!b) = true then A else B := r_ite (fun h => h1 (by simpa using h)) (fun h => h2 (by simpa using h))
theorem r_sl {r : V → Option Int → Option Int → Hp → VK → Prop} {tlo thi : TO} (h : te σ H fun x H1 => tlo σ H1 fun l H2 => thi σ H2 fun u H3 => r x l u H3 Q) : tSl r te tlo thi σ H Q := h
theorem r_nopart {Q : Option Int → Hp → Prop} (h : Q none H) : tNoPart σ H Q := h
theorem r_part {Q : Option Int → Hp → Prop} (h : te σ H fun x H1 => ∃ i, x = .int i ∧ Q (some i) H1) : tPart te σ H Q := h
theorem r_int1 {Q : Int → Prop} {i : Int} (h : Q i) : ∃ k, V.int i = .int k ∧ Q k := ⟨i, rfl, h⟩
/-- an item of a tuple, of a list -/
theorem r_ixT {K : PySem.W.Frag} {a : Addr} {xs : List V} {k : Nat} {z : Int} (hs : SqT K H a xs) (ez : z = (k : Int)) (e : xs[k]? = some v) (h : Q v H) : rIxT K (.ref a) (.int z) H Q := ⟨a, xs, z, v, rfl, rfl, hs, by rw [ez]; exact atI_nat e, h⟩
theorem r_ixL {K : PySem.W.Frag} {a : Addr} {xs : List V} {k : Nat} {z : Int} (hs : SqL K H a xs) (ez : z = (k : Int)) (e : xs[k]? = some v) (h : Q v H) : rIxL K (.ref a) (.int z) H Q := ⟨a, xs, z, v, rfl, rfl, hs, by rw [ez]; exact atI_nat e, h⟩
/-- a new tuple, a new list -/
theorem r_tup (h : tl σ H fun xs H1 => xs.length ≤ sizeLine ∧ ∀ p, H1 p = none → Q (.ref p) (upd H1 p (.tup xs))) : tTup tl σ H Q := h
theorem r_lst (h : tl σ H fun xs H1 => xs.length ≤ sizeLine ∧ ∀ p, H1 p = none → Q (.ref p) (upd H1 p (.lst xs))) : tLst tl σ H Q := h
theorem r_new {n : Nat} {P : Addr → Prop} (hl : n ≤ 1000) (h : ∀ p, H p = none → P p) : n ≤ sizeLine ∧ ∀ p, H p = none → P p := ⟨Nat.le_trans hl (by decide), h⟩
theorem r_abs {i : Int} (h : Q (.int (if i < 0 then -i else i)) H) : (fun (xs : List V) (H : Hp) (Q : VK) => ∃ i, xs = [V.int i] ∧ Q (.int (if i < 0 then -i else i)) H) [.int i] H Q := ⟨i, rfl, h⟩
/-- a field -/
theorem r_fld {K : PySem.W.Frag} {f : Str} (h : ta σ H fun x H1 => ∃ a C dx fs v, x = .ref a ∧ H1 a = some (.ins C dx fs) ∧ Cls K C ∧ NoAttr K C f ∧ fs.lookup f = some v ∧ Q v H1) : tFld K ta f σ H Q := h
theorem r_fld2 {K : PySem.W.Frag} {f : Str} {a C dx : Addr} {fs : List (Str × V)} {A : V → Prop} (h1 : H a = some (.ins C dx fs)) (c : Cls K C) (n : NoAttr K C f) (l : fs.lookup f = some v) (h : A v) :
    ∃ a' C dx fs v, V.ref a = .ref a' ∧ H a' = some (.ins C dx fs) ∧ Cls K C ∧ NoAttr K C f ∧ fs.lookup f = some v ∧ A v := ⟨a, C, dx, fs, v, rfl, h1, c, n, l, h⟩
theorem r_itup {K : PySem.W.Frag} {R : It → Hp → Prop} (h : te σ H fun x H1 => ∃ a, x = .ref a ∧ (∃ xs, SqT K H1 a xs) ∧ R (Itt K a) H1) : iTup K te σ H R := h
theorem r_ilist {K : PySem.W.Frag} {R : It → Hp → Prop} (h : te σ H fun x H1 => ∃ a, x = .ref a ∧ (∃ xs, SqL K H1 a xs) ∧ R (Itl K a) H1) : iList K te σ H R := h
theorem r_irng1 {R : It → Hp → Prop} (h : tl σ H fun vs H1 => ∃ j : Int, vs = [.int j] ∧ -(2 ^ 62) ≤ j ∧ j < 2 ^ 62 ∧ R (Itr 0 j.toNat) H1) : iRng1 tl σ H R := h
theorem r_irng2 {R : It → Hp → Prop} (h : tl σ H fun vs H1 => ∃ i j : Int, vs = [.int i, .int j] ∧ (-(2 ^ 62) ≤ i ∧ i < 2 ^ 62 ∧ -(2 ^ 62) ≤ j ∧ j < 2 ^ 62) ∧ R (Itr i (j - i).toNat) H1) : iRng2 tl σ H R := h
theorem r_for {wi : TI} (h : wi σ H fun J H1 => ∃ W : Nat → Nat → L2.St → Hp → Prop, (∃ m, W 0 m σ H1) ∧ ∀ i m σ H, W i m σ H →
    (J.stop i H ∧ D.nx σ H) ∨ (J.go i H ∧ ∃ N : L2.St → Hp → Prop, (∀ σ' H', N σ' H' → ∃ m', m' < m ∧ W (i + 1) m' σ' H') ∧ ∀ x H', J.yld i H x H' → g x σ H' fun σ2 H2 => ts { D with nx := N, ct := N, bk := D.nx } σ2 H2)) : tFor wi g ts D σ H := h
theorem r_lc {wi : TI} {vs : List Nat} (h : wi σ H fun J H1 => ∀ L, H1 L = none → ∃ W : Nat → Nat → Hp → Prop, (∃ m, W 0 m (upd H1 L (.lst []))) ∧ ∀ i m H, W i m H →
    (J.stop i H ∧ Q (.ref L) H) ∨ (J.go i H ∧ ∃ Nx : Hp → Prop, (∀ H', Nx H' → ∃ m', m' < m ∧ W (i + 1) m' H') ∧ ∀ x H', J.yld i H x H' → g x (wipe σ vs) H' fun σ2 H2 => wipe σ2 vs = wipe σ vs ∧ tt σ2 H2 fun b H3 =>
      if b = true then te σ2 H3 fun y H4 => ∃ acc, H4 L = some (.lst acc) ∧ acc.length < sizeLine ∧ Nx (upd H4 L (.lst (acc ++ [y]))) else Nx H3)) : tLc wi g tt te vs σ H Q := h
theorem r_gtup {K : PySem.W.Frag} {a : Addr} {xs : List V} {n : Nat} {Q : L2.St → Hp → Prop} (hs : SqT K H a xs) (hl : xs.length = n) (h : gs xs σ H Q) : gTup K n gs (.ref a) σ H Q := ⟨a, xs, rfl, hs, hl, h⟩
theorem r_gcons {r : List V} {Q : L2.St → Hp → Prop} (h : g v σ H fun σ' H' => gs r σ' H' Q) : gCons g gs (v :: r) σ H Q := ⟨v, r, rfl, h⟩
theorem r_gnil {Q : L2.St → Hp → Prop} (h : Q σ H) : gNil [] σ H Q := ⟨rfl, h⟩
theorem r_gsub {to ti : TE} {t : TSet} {Q : L2.St → Hp → Prop} (h : to σ H fun o H1 => ti σ H1 fun i H2 => t o i v H2 fun H3 => Q σ H3) : gSub to ti t v σ H Q := h
theorem r_meth {C : Addr} {m : Str} {sp : Sp} {dvs : List V} {E : XK} (h : ta σ H fun x H1 => ∃ a dx fs, x = .ref a ∧ H1 a = some (.ins C dx fs) ∧ fs.lookup m = none ∧ tl σ H1 fun vs H2 => sp (x :: (vs ++ dvs)) H2 Q E) : tMeth C m sp dvs E ta tl σ H Q := h
theorem r_make {C : Addr} {sp : Sp} {dvs : List V} {E : XK} (h : tl σ H fun vs H1 => ∀ x dx, H1 x = none → H1 dx = none → dx ≠ x → sp (.ref x :: (vs ++ dvs)) (upd (upd H1 dx (.own x)) x (.ins C dx [])) (fun v H2 => v = .non ∧ Q (.ref x) H2) E) : tMake C sp dvs E tl σ H Q := h
theorem r_sfld {K : PySem.W.Frag} {f : Str} (h : tb σ H fun y H1 => ta σ H1 fun x H2 => ∃ a C dx fs, x = .ref a ∧ H2 a = some (.ins C dx fs) ∧ Cls K C ∧ NoAttr K C f ∧ fs.length < 1000 ∧ D.nx σ (upd H2 a (.ins C dx (putF f y fs)))) : sFld K ta tb f D σ H := h
theorem r_bm {K : PySem.W.Frag} {T : String} {r : V → List V → Hp → VK → Prop} (h : te σ H fun x H1 => tyV K T x H1 ∧ tl σ H1 fun xs H2 => r x xs H2 Q) : tBM K T r te tl σ H Q := h
theorem r_tylist {K : PySem.W.Frag} {a : Addr} {xs : List V} {A : Prop} (hs : SqL K H a xs) (h : A) : tyV K "list" (.ref a) H ∧ A := ⟨.inl ⟨rfl, _, hs⟩, h⟩
end
/-! ### heaps -/
theorem same_new {H : Hp} {p : Addr} {o : HO} (h : H p = none) : Same H (upd H p o) := fun b u e => by
  rw [upd_ne (ne_of_none e h)]
  exact e
theorem Same.mut {H H' : Hp} {p : Addr} {o : HO} (e : Same H H') (h : H p = none) : Same H (upd H' p o) := fun a u ha => by
  rw [upd_ne (ne_of_none ha h)]
  exact e a u ha
theorem Same.tup {K : PySem.W.Frag} {H H' : Hp} {a : Addr} {xs : List V} (e : Same H H') (h : SqT K H a xs) : SqT K H' a xs := by
  rcases h with (h | ⟨o, h⟩) | h
  · exact .inl (.inl (e _ _ h))
  · exact .inl (.inr ⟨o, e _ _ h⟩)
  · exact .inr h
theorem sqt_new {K : PySem.W.Frag} {H : Hp} {a : Addr} {xs : List V} : SqT K (upd H a (.tup xs)) a xs := .inl (.inl upd_same)
theorem sql_new {K : PySem.W.Frag} {H : Hp} {a : Addr} {xs : List V} : SqL K (upd H a (.lst xs)) a xs := .inl (.inl upd_same)
end QH

local macro_rules | `(tactic| walk_at "go1") => `(tactic| first
  | (with_reducible first
    | refine QH.r_seq ?_ | refine QH.r_asg ?_ | refine QH.r_name ?_ | refine QH.r_ret ?_ | refine QH.r_drop ?_ | refine QH.r_ifs ?_ | refine QH.r_next ?_ | refine QH.r_nx ?_ | refine QH.r_rt ?_
    | refine QH.r_c ?_ | refine QH.r_op ?_ | refine QH.r_un ?_ | refine QH.r_I0 ?_ | refine QH.r_test ?_ | refine QH.r_B ?_ | refine QH.r_bl ?_ | refine QH.r_not ?_ | refine QH.r_and ?_ | refine QH.r_or ?_
    | refine QH.r_andV ?_ | refine QH.r_orV ?_ | refine QH.r_notV ?_ | refine QH.r_if ?_ | refine QH.r_nil ?_ | refine QH.r_cons ?_ | refine QH.r_cb ?_ | refine QH.r_call ?_ | refine QH.r_par ?_ | refine QH.r_par2 ?_
    | refine QH.r_ipI ?_ | refine QH.r_iteT ?_ | refine QH.r_iteF ?_ | refine QH.r_iteNT ?_ | refine QH.r_iteNF ?_ | refine QH.r_sl ?_ | refine QH.r_nopart ?_ | refine QH.r_part ?_ | refine QH.r_int1 ?_ | refine QH.r_tup ?_ | refine QH.r_lst ?_ | refine QH.r_fld ?_
    | refine QH.r_itup ?_ | refine QH.r_ilist ?_ | refine QH.r_irng1 ?_ | refine QH.r_irng2 ?_ | refine QH.r_for ?_ | refine QH.r_lc ?_ | refine QH.r_gcons ?_ | refine QH.r_gnil ?_ | refine QH.r_gsub ?_ | refine QH.r_meth ?_ | refine QH.r_make ?_ | refine QH.r_sfld ?_ | refine QH.r_bm ?_)
  | ((with_reducible refine QH.r_new ?hl ?_); (case hl => exact Nat.le_of_ble_eq_true rfl))
  | ((with_reducible refine QH.r_var (v := ?v) ?e ?_); (case e => exact rfl))
  | ((with_reducible refine QH.r_aug (v := ?v) ?e ?_); (case e => exact rfl))
  | ((with_reducible refine QH.r_I ?hc ?_); (case hc => first | assumption | decide | omega | exact Or.inr ⟨by decide, by decide⟩ | exact Or.inl ⟨by decide, by decide⟩ | exact ⟨by decide, by decide⟩))
  | ((with_reducible refine QH.r_gtup (xs := ?xs) ?hs ?hl ?_); (case hs => first | assumption | exact QH.sqt_new | exact QH.Same.tup (by assumption) (by assumption)); (case hl => rfl))
  | ((with_reducible refine QH.r_fld2 (C := ?C) (dx := ?dx) (fs := ?fs) (v := ?v) ?h1 ?c ?n ?l ?_); (case h1 => first | assumption | exact (by assumption : L2.Same _ _) _ _ (by assumption)); (case c => first | exact QH.Tx.cE (by assumption) | exact QH.Tx.cS (by assumption)); (case n => first | exact QH.Tx.nOwed (by assumption) | exact QH.Tx.nDue (by assumption) | exact QH.Tx.nOL (by assumption) | exact QH.Tx.nDL (by assumption)); (case l => assumption))
  | ((with_reducible refine QH.r_ixT (xs := ?xs) (k := ?k) (v := ?v) ?hs ?ez ?e ?_); (case hs => first | assumption | exact QH.sqt_new | exact QH.Same.tup (by assumption) (by assumption)); (case ez => exact rfl); (case e => exact rfl))
  | ((with_reducible refine QH.r_ixL (xs := ?xs) (k := ?k) (v := ?v) ?hs ?ez ?e ?_); (case hs => first | assumption | exact QH.sql_new | exact L2.Same.seq (by assumption) (by assumption)); (case ez => exact rfl); (case e => exact rfl)))
local macro_rules | `(tactic| walk_at "go") => `(tactic| repeat (walk_at "go1"))

/-! QC: lists made by comprehensions; fractions by units; evenings -/
namespace QH
open PySem PySem.Spec L2 QF
/-- the list at D so far: i items, the j-th as R j says -/
def LcInv (H1 : Hp) (D : Addr) (R : Nat → V → Hp → Prop) (i : Nat) (H : Hp) : Prop := Same H1 H ∧ ∃ acc, H D = some (.lst acc) ∧ acc.length = i ∧ ∀ j y, acc[j]? = some y → R j y H
/-- R does not lean on the list at D itself -/
def Apart (D : Addr) (R : Nat → V → Hp → Prop) : Prop := ∀ i y (H H' : Hp) acc, H D = some (.lst acc) → (∀ b o, b ≠ D → H b = some o → H' b = some o) → R i y H → R i y H'
section
variable {H1 H H4 : Hp} {D : Addr} {R : Nat → V → Hp → Prop} {i : Nat} {y : V}
theorem LcInv.zero (hD : H1 D = none) : LcInv H1 D R 0 (upd H1 D (.lst [])) := ⟨same_new hD, [], upd_same, rfl, fun j y e => by simp at e⟩
theorem LcInv.step (hD : H1 D = none) (hR : Apart D R) (I : LcInv H1 D R i H) (hi : i < 10000) (s : Same H H4) (r : R i y H4) :
    ∃ acc, H4 D = some (.lst acc) ∧ acc.length < sizeLine ∧ LcInv H1 D R (i + 1) (upd H4 D (.lst (acc ++ [y]))) := by
  obtain ⟨s1, acc, e, l, q⟩ := I
  have e4 := s _ _ e
  refine ⟨acc, e4, by rw [l, sizeLine_eq]; omega, Same.mut (s1.trans s) hD, acc ++ [y], upd_same, by simp [l], fun j z hz => ?_⟩
  have up : ∀ b o, b ≠ D → H4 b = some o → upd H4 D (.lst (acc ++ [y])) b = some o := fun b o hb ho => by rw [upd_ne hb]; exact ho
  by_cases hj : j < acc.length
  · rw [List.getElem?_append_left hj] at hz
    exact hR j z H _ acc e (fun b o hb ho => up b o hb (s b o ho)) (q j z hz)
  · rw [List.getElem?_append_right (by omega)] at hz
    have hj0 : j = acc.length := by
      have := (List.getElem?_eq_some_iff.mp hz).1
      simp at this
      omega
    subst hj0
    simp at hz
    subst hz
    rw [l]
    exact hR i y H4 _ acc e4 up r
end
theorem yes_ok {te : TE} {σ : L2.St} {H : Hp} {Qv : VK} {Nx : Hp → Prop} (h : te σ H Qv) : tYes σ H (fun b H3 => if b = true then te σ H3 Qv else Nx H3) := by
  show (if true = true then te σ H Qv else Nx H)
  rw [if_pos rfl]
  exact h
section
variable {K : PySem.W.Frag} {a D : Addr} {xs : List V} {g : TG} {te : TE} {vs : List Nat} {σ : L2.St} {H1 : Hp} {Qd : Hp → Prop}
theorem lc_tupR (R : Nat → V → Hp → Prop) (hR : Apart D R) (hx : SqT K H1 a xs) (hD : H1 D = none) (hlen : xs.length ≤ 1000)
    (hs : ∀ i x H (Q : VK), xs[i]? = some x → Same H1 H → (∀ y H4, Same H H4 → R i y H4 → Q y H4) → g x (wipe σ vs) H fun σ2 H2 => wipe σ2 vs = wipe σ vs ∧ te σ2 H2 Q)
    (hd : ∀ H ys, Same H1 H → H D = some (.lst ys) → ys.length = xs.length → (∀ i y, ys[i]? = some y → R i y H) → Qd H)
    (hg : ∀ x σ H (Q Q' : L2.St → Hp → Prop), (∀ σ' H', Q σ' H' → Q' σ' H') → g x σ H Q → g x σ H Q') :
    ∃ W : Nat → Nat → Hp → Prop, (∃ m, W 0 m (upd H1 D (.lst []))) ∧ ∀ i m H, W i m H →
      ((Itt K a).stop i H ∧ Qd H) ∨ ((Itt K a).go i H ∧ ∃ Nx : Hp → Prop, (∀ H', Nx H' → ∃ m', m' < m ∧ W (i + 1) m' H') ∧ ∀ x H', (Itt K a).yld i H x H' → g x (wipe σ vs) H' fun σ2 H2 => wipe σ2 vs = wipe σ vs ∧ tYes σ2 H2 fun b H3 =>
        if b = true then te σ2 H3 fun y H4 => ∃ acc, H4 D = some (.lst acc) ∧ acc.length < sizeLine ∧ Nx (upd H4 D (.lst (acc ++ [y]))) else Nx H3) := by
  refine lc_tup (fun i H => LcInv H1 D R i H) (LcInv.zero hD) (fun i H _ I => Same.tup I.1 hx) (fun i x H hi I => ?_) (fun H ⟨s, acc, e, l, q⟩ => hd H acc s e l q)
  have hlt := (List.getElem?_eq_some_iff.mp hi).1
  refine hg _ _ _ _ _ (fun σ' H' h => ⟨h.1, yes_ok h.2⟩) (hs i x H _ hi I.1 fun y H4 s r => LcInv.step hD hR I (by omega) s r)
theorem lc_listR (R : Nat → V → Hp → Prop) (hR : Apart D R) (hx : SqL K H1 a xs) (hD : H1 D = none) (hlen : xs.length ≤ 1000)
    (hs : ∀ i x H (Q : VK), xs[i]? = some x → Same H1 H → (∀ y H4, Same H H4 → R i y H4 → Q y H4) → g x (wipe σ vs) H fun σ2 H2 => wipe σ2 vs = wipe σ vs ∧ te σ2 H2 Q)
    (hd : ∀ H ys, Same H1 H → H D = some (.lst ys) → ys.length = xs.length → (∀ i y, ys[i]? = some y → R i y H) → Qd H)
    (hg : ∀ x σ H (Q Q' : L2.St → Hp → Prop), (∀ σ' H', Q σ' H' → Q' σ' H') → g x σ H Q → g x σ H Q') :
    ∃ W : Nat → Nat → Hp → Prop, (∃ m, W 0 m (upd H1 D (.lst []))) ∧ ∀ i m H, W i m H →
      ((Itl K a).stop i H ∧ Qd H) ∨ ((Itl K a).go i H ∧ ∃ Nx : Hp → Prop, (∀ H', Nx H' → ∃ m', m' < m ∧ W (i + 1) m' H') ∧ ∀ x H', (Itl K a).yld i H x H' → g x (wipe σ vs) H' fun σ2 H2 => wipe σ2 vs = wipe σ vs ∧ tYes σ2 H2 fun b H3 =>
        if b = true then te σ2 H3 fun y H4 => ∃ acc, H4 D = some (.lst acc) ∧ acc.length < sizeLine ∧ Nx (upd H4 D (.lst (acc ++ [y]))) else Nx H3) := by
  refine lc_list (fun i H => LcInv H1 D R i H) (LcInv.zero hD) (fun i H _ I => Same.seq I.1 hx) (fun i x H hi I => ?_) (fun H ⟨s, acc, e, l, q⟩ => hd H acc s e l q)
  have hlt := (List.getElem?_eq_some_iff.mp hi).1
  refine hg _ _ _ _ _ (fun σ' H' h => ⟨h.1, yes_ok h.2⟩) (hs i x H _ hi I.1 fun y H4 s r => LcInv.step hD hR I (by omega) s r)
theorem lc_rangeR {lo : Int} {n : Nat} (R : Nat → V → Hp → Prop) (hR : Apart D R) (hD : H1 D = none) (hlen : n ≤ 1000)
    (hs : ∀ i H (Q : VK), i < n → Same H1 H → (∀ y H4, Same H H4 → R i y H4 → Q y H4) → g (.int (lo + i)) (wipe σ vs) H fun σ2 H2 => wipe σ2 vs = wipe σ vs ∧ te σ2 H2 Q)
    (hd : ∀ H ys, Same H1 H → H D = some (.lst ys) → ys.length = n → (∀ i y, ys[i]? = some y → R i y H) → Qd H)
    (hg : ∀ x σ H (Q Q' : L2.St → Hp → Prop), (∀ σ' H', Q σ' H' → Q' σ' H') → g x σ H Q → g x σ H Q') :
    ∃ W : Nat → Nat → Hp → Prop, (∃ m, W 0 m (upd H1 D (.lst []))) ∧ ∀ i m H, W i m H →
      ((Itr lo n).stop i H ∧ Qd H) ∨ ((Itr lo n).go i H ∧ ∃ Nx : Hp → Prop, (∀ H', Nx H' → ∃ m', m' < m ∧ W (i + 1) m' H') ∧ ∀ x H', (Itr lo n).yld i H x H' → g x (wipe σ vs) H' fun σ2 H2 => wipe σ2 vs = wipe σ vs ∧ tYes σ2 H2 fun b H3 =>
        if b = true then te σ2 H3 fun y H4 => ∃ acc, H4 D = some (.lst acc) ∧ acc.length < sizeLine ∧ Nx (upd H4 D (.lst (acc ++ [y]))) else Nx H3) := by
  refine lc_range (fun i H => LcInv H1 D R i H) (LcInv.zero hD) (fun i H hi I => ?_) (fun H ⟨s, acc, e, l, q⟩ => hd H acc s e l q)
  refine hg _ _ _ _ _ (fun σ' H' h => ⟨h.1, yes_ok h.2⟩) (hs i H _ hi I.1 fun y H4 s r => LcInv.step hD hR I (by omega) s r)
end
theorem gname_mono {j : Nat} (x : V) (σ : L2.St) (H : Hp) (Q Q' : L2.St → Hp → Prop) (h : ∀ σ' H', Q σ' H' → Q' σ' H') (q : gName j x σ H Q) : gName j x σ H Q' := h _ _ q
/-- a value alone -/
theorem apart_val {D : Addr} {f : Nat → V → Prop} : Apart D fun i y _ => f i y := fun _ _ _ _ _ _ _ h => h
/-- the values are known -/
theorem list_of_vals {ys : List V} {n : Nat} {f : Nat → V} (hl : ys.length = n) (h : ∀ (i : Nat) (y : V), ys[i]? = some y → y = f i) : ys = (List.range n).map f := by
  apply List.ext_getElem?
  intro i
  rw [List.getElem?_map]
  by_cases hi : i < n
  · rw [List.getElem?_range hi, List.getElem?_eq_getElem (by omega)]
    have := h i _ (List.getElem?_eq_getElem (by omega))
    rw [this]; rfl
  · rw [List.getElem?_eq_none (by omega), List.getElem?_eq_none (by simp; omega)]; rfl
theorem list_of_map {α : Type} {ys : List V} {ks : List α} {f : α → V} (hl : ys.length = ks.length) (h : ∀ (i : Nat) (y : V), ys[i]? = some y → ∀ k, ks[i]? = some k → y = f k) : ys = ks.map f := by
  apply List.ext_getElem?
  intro i
  rw [List.getElem?_map]
  by_cases hi : i < ks.length
  · have e1 : ys[i]? = some ys[i] := List.getElem?_eq_getElem (by omega)
    have e2 : ks[i]? = some ks[i] := List.getElem?_eq_getElem hi
    rw [e1, e2, h i _ e1 _ e2]; rfl
  · rw [List.getElem?_eq_none (by omega), List.getElem?_eq_none (by omega)]; rfl
/-! ### fractions by units -/
def Fr (K : PySem.W.Frag) (H : Hp) (v : V) (x : Int × Int) : Prop := ∃ a, v = .ref a ∧ SqT K H a [.int x.1, .int x.2]
theorem Fr.same {K : PySem.W.Frag} {H H' : Hp} {v : V} {x : Int × Int} (e : Same H H') (h : Fr K H v x) : Fr K H' v x := let ⟨a, h1, h2⟩ := h; ⟨a, h1, Same.tup e h2⟩
theorem Fr.new {K : PySem.W.Frag} {H : Hp} {p : Addr} {x : Int × Int} : Fr K (upd H p (.tup [.int x.1, .int x.2])) (.ref p) x := ⟨p, rfl, sqt_new⟩
theorem Fr.apart {K : PySem.W.Frag} {H H' : Hp} {D : Addr} {acc : List V} {v : V} {x : Int × Int} (hD : H D = some (.lst acc)) (k : ∀ b o, b ≠ D → H b = some o → H' b = some o) (h : Fr K H v x) : Fr K H' v x := by
  obtain ⟨a, e, h⟩ := h
  refine ⟨a, e, ?_⟩
  rcases h with (h | ⟨o, h⟩) | h
  · exact .inl (.inl (k a _ (fun z => by rw [z, hD] at h; cases h) h))
  · exact .inl (.inr ⟨o, k a _ (fun z => by rw [z, hD] at h; cases h) h⟩)
  · exact .inr h
def Sm (x : Int × Int) : Prop := x.1.natAbs < 2 ^ 4000 ∧ x.2.natAbs < 2 ^ 4000 ∧ 0 < x.2
/-- a unit -/
structure Un (p q : Int) : Prop where
  hp : 0 < p
  hq : 0 < q
  bp : p.natAbs < 2 ^ 200
  bq : q.natAbs < 2 ^ 200
theorem fr_sm {p q k : Int} (U : Un p q) (h0 : 0 ≤ k) (h1 : k ≤ 1000) : Sm (fr p q k) := by
  have hk : k.natAbs < 2 ^ 10 := by omega
  have h2 : (k * p).natAbs < 2 ^ 210 := wide_lt hk U.bp
  have l1 : (fr p q k).1.natAbs ≤ (k * p).natAbs := red_small_l U.hq
  have l2 : (fr p q k).2.natAbs ≤ q.natAbs := red_small_r U.hq
  have e1 : (2 : Nat) ^ 210 ≤ 2 ^ 4000 := Nat.pow_le_pow_right (by decide) (by decide)
  have e2 : (2 : Nat) ^ 200 ≤ 2 ^ 4000 := Nat.pow_le_pow_right (by decide) (by decide)
  exact ⟨Nat.lt_of_le_of_lt l1 (Nat.lt_of_lt_of_le h2 e1), Nat.lt_of_le_of_lt l2 (Nat.lt_of_lt_of_le U.bq e2), fr_pos U.hq k⟩
/-- values that are so many units each -/
structure Frs (K : PySem.W.Frag) (H : Hp) (vs : List V) (p q : Int) (ks : List Int) : Prop where
  len : vs.length = ks.length
  at_ : ∀ (i : Nat) (v : V) (k : Int), vs[i]? = some v → ks[i]? = some k → Fr K H v (fr p q k)
theorem Frs.same {K : PySem.W.Frag} {H H' : Hp} {vs : List V} {p q : Int} {ks : List Int} (e : Same H H') (h : Frs K H vs p q ks) : Frs K H' vs p q ks := ⟨h.len, fun i v k a b => (h.at_ i v k a b).same e⟩
theorem Frs.get {K : PySem.W.Frag} {H : Hp} {vs : List V} {p q : Int} {ks : List Int} (h : Frs K H vs p q ks) {i : Nat} {k : Int} (hk : ks[i]? = some k) : ∃ v, vs[i]? = some v ∧ Fr K H v (fr p q k) := by
  have := (List.getElem?_eq_some_iff.mp hk).1
  have hlt : i < vs.length := by rw [h.len]; exact this
  have e : vs[i]? = some vs[i] := List.getElem?_eq_getElem hlt
  exact ⟨_, e, h.at_ i _ k e hk⟩
theorem Frs.getv {K : PySem.W.Frag} {H : Hp} {vs : List V} {p q : Int} {ks : List Int} (h : Frs K H vs p q ks) {i : Nat} {v : V} (hv : vs[i]? = some v) : ∃ k, ks[i]? = some k ∧ Fr K H v (fr p q k) := by
  have := (List.getElem?_eq_some_iff.mp hv).1
  have hlt : i < ks.length := by rw [← h.len]; exact this
  have e : ks[i]? = some ks[i] := List.getElem?_eq_getElem hlt
  exact ⟨_, e, h.at_ i v _ hv e⟩
theorem Frs.append {K : PySem.W.Frag} {H : Hp} {vs ws : List V} {p q : Int} {ks ls : List Int} (h : Frs K H vs p q ks) (h' : Frs K H ws p q ls) : Frs K H (vs ++ ws) p q (ks ++ ls) := by
  refine ⟨by simp [h.len, h'.len], fun i v k hv hk => ?_⟩
  have hl := h.len
  by_cases hi : i < vs.length
  · rw [List.getElem?_append_left hi] at hv
    rw [List.getElem?_append_left (by omega)] at hk
    exact h.at_ i v k hv hk
  · rw [List.getElem?_append_right (by omega)] at hv
    rw [List.getElem?_append_right (by omega)] at hk
    exact h'.at_ (i - vs.length) v k hv (by rw [hl]; exact hk)
theorem Frs.set {K : PySem.W.Frag} {H : Hp} {vs : List V} {p q : Int} {ks : List Int} (h : Frs K H vs p q ks) {i : Nat} {v : V} {k : Int} (hv : Fr K H v (fr p q k)) : Frs K H (vs.set i v) p q (ks.set i k) := by
  refine ⟨by simp [h.len], fun j u l hu hl => ?_⟩
  by_cases e : i = j
  · subst e
    have h1 := (List.getElem?_eq_some_iff.mp hu).1
    have h2 := (List.getElem?_eq_some_iff.mp hl).1
    rw [List.getElem?_set_self (by simpa using h1)] at hu
    rw [List.getElem?_set_self (by simpa using h2)] at hl
    cases hu
    cases hl
    exact hv
  · rw [List.getElem?_set_ne e] at hu hl
    exact h.at_ j u l hu hl
/-- an evening stands at e -/
structure EvAt (K : PySem.W.Frag) (CE : Addr) (H : Hp) (e : Addr) (p q : Int) (os ds : List Int) : Prop where
  ex : ∃ (dx : Addr) (fs : List (Str × V)) (ao ad : Addr) (vo vd : List V), H e = some (.ins CE dx fs) ∧ fs.lookup ("owed" : Str) = some (.ref ao) ∧ fs.lookup ("due" : Str) = some (.ref ad) ∧ SqT K H ao vo ∧ SqT K H ad vd ∧ Frs K H vo p q os ∧ Frs K H vd p q ds
theorem EvAt.same {K : PySem.W.Frag} {CE : Addr} {H H' : Hp} {e : Addr} {p q : Int} {os ds : List Int} (s : Same H H') (h : EvAt K CE H e p q os ds) : EvAt K CE H' e p q os ds := by
  obtain ⟨dx, fs, ao, ad, vo, vd, h1, h2, h3, h4, h5, h6, h7⟩ := h
  exact ⟨dx, fs, ao, ad, vo, vd, s _ _ h1, h2, h3, Same.tup s h4, Same.tup s h5, h6.same s, h7.same s⟩
/-- the evenings that the law makes -/
structure Gd (p q : Int) (os ds : List Int) : Prop where
  un : Un p q
  ev : QM.Even os ds
  bd : os.sum ≤ 1000
  lo : os.length ≤ 6
  ld : ds.length ≤ 6
  le : os.length + ds.length ≤ 8
theorem pos_le_sum : ∀ {ks : List Int}, QM.Pos ks → ∀ k ∈ ks, k ≤ ks.sum
  | [], _, _, h => nomatch h
  | a :: r, hp, k, h => by
    have h1 := QM.Pos.sum_nonneg hp.tail
    have h2 := hp.head
    rw [List.sum_cons]
    rcases List.mem_cons.mp h with e | e
    · omega
    · have := pos_le_sum hp.tail k e
      omega
theorem take_sum {ks : List Int} (hp : QM.Pos ks) (i : Nat) : 0 ≤ (ks.take i).sum ∧ (ks.take i).sum ≤ ks.sum := by
  have h1 : QM.Pos (ks.take i) := fun x hx => hp x (List.mem_of_mem_take hx)
  have h2 : QM.Pos (ks.drop i) := fun x hx => hp x (List.mem_of_mem_drop hx)
  have e : ks.sum = (ks.take i).sum + (ks.drop i).sum := by
    conv => lhs; rw [← List.take_append_drop i ks]
    rw [List.sum_append]
  have := h1.sum_nonneg
  have := h2.sum_nonneg
  omega
/-- the greatest common divisor of a list -/
def gL : List Int → Int
  | [] => 0
  | a :: r => r.foldl gcdI a
theorem foldl_gcd : ∀ (r : List Int) (a : Int), 0 < a → 0 < r.foldl gcdI a ∧ r.foldl gcdI a ∣ a ∧ r.foldl gcdI a ≤ a ∧ ∀ x ∈ r, r.foldl gcdI a ∣ x
  | [], a, h => ⟨h, Int.dvd_refl a, Int.le_refl a, fun _ h => nomatch h⟩
  | b :: r, a, h => by
    have hg : 0 < gcdI a b := by
      unfold gcdI
      have : Int.gcd a b ≠ 0 := fun e => by
        have := (Int.gcd_eq_zero_iff.mp e).1
        omega
      omega
    obtain ⟨h1, h2, h3, h4⟩ := foldl_gcd r (gcdI a b) hg
    have d1 : gcdI a b ∣ a := dvd_l a b
    refine ⟨h1, Int.dvd_trans h2 d1, Int.le_trans h3 (Int.le_of_dvd h d1), fun x hx => ?_⟩
    rcases List.mem_cons.mp hx with e | e
    · rw [e]; exact Int.dvd_trans h2 (dvd_r a b)
    · exact h4 x e
theorem gL_facts {ks : List Int} (hp : QM.Pos ks) (hn : ks ≠ []) : 0 < gL ks ∧ ∀ k ∈ ks, gL ks ∣ k ∧ gL ks ≤ k := by
  cases ks with
  | nil => exact absurd rfl hn
  | cons a r =>
    obtain ⟨h1, h2, h3, h4⟩ := foldl_gcd r a hp.head
    refine ⟨h1, fun k hk => ?_⟩
    rcases List.mem_cons.mp hk with e | e
    · rw [e]; exact ⟨h2, h3⟩
    · exact ⟨h4 k e, Int.le_of_dvd (hp k hk) (h4 k e)⟩
end QH

/-! QP: itertools.permutations of a range, walked -/
namespace QP
open PySem PySem.Spec L2
open Sem (wp)
theorem p_mro : mroOf (.type "itertools.permutations") = pure [.type "itertools.permutations", .type "object"] := by rw [mroOf_type]; kernel_rfl
theorem p_new : typeLookup (.type "itertools.permutations") "__new__" = pure (some (.builtin "itertools.permutations.__new__")) := by rw [typeLookup_type, builtinLookup_eq_fast]; kernel_rfl
theorem p_sub : isSubtype (.type "itertools.permutations") (.type "itertools.permutations") = pure true := by rw [isSubtype_type]; kernel_rfl
theorem p_init : Slot "itertools.permutations" "__init__" "object.__init__" :=
  .of (owner := "object") (n := "__init__") (by rw [typeLookup_type, builtinLookup_eq_fast]; kernel_rfl) (by decide +kernel) (by decide +kernel)
    (by decide +kernel) (by first | exact .inl (by decide +kernel) | exact .inr (by decide +kernel)) (by rw [isSubtype_type]; kernel_rfl)
theorem p_called : TypeCalled "itertools.permutations" "itertools.permutations.__new__" "object.__init__" :=
  ⟨by decide +kernel, by decide +kernel, ⟨_, _, p_mro⟩, madeBy_type p_mro p_new (by decide +kernel), by decide +kernel, p_sub, p_init⟩
theorem p_typeCall (a : Value) : checkTypeCall "itertools.permutations" ⟨[a], []⟩ = pure () := by kernel_rfl
theorem p_newCall (a : Value) : checkBuiltinCall "itertools.permutations.__new__" ⟨[.type "itertools.permutations", a], []⟩ = pure () := by kernel_rfl
theorem p_entry : entryFor table "itertools.permutations.__new__" = some Builtin.«itertools.permutations.__new__» := entryFor_of_tree (by kernel_rfl)
theorem p_slot_iter : Slot "itertools.permutations" "__iter__" "itertools.permutations.__iter__" :=
  .of (owner := "itertools.permutations") (n := "__iter__") (by rw [typeLookup_type, builtinLookup_eq_fast]; kernel_rfl) (by decide +kernel)
    (by decide +kernel) (by decide +kernel) (by first | exact .inl (by decide +kernel) | exact .inr (by decide +kernel)) p_sub
theorem p_slot_next : Slot "itertools.permutations" "__next__" "itertools.permutations.__next__" :=
  .of (owner := "itertools.permutations") (n := "__next__") (by rw [typeLookup_type, builtinLookup_eq_fast]; kernel_rfl) (by decide +kernel)
    (by decide +kernel) (by decide +kernel) (by first | exact .inl (by decide +kernel) | exact .inr (by decide +kernel)) p_sub
theorem p_entry_next : entryFor table "itertools.permutations.__next__" = some Builtin.«itertools.permutations.__next__» := entryFor_of_tree (by kernel_rfl)
theorem p_entry_iter : entryFor table "itertools.permutations.__iter__" = some Builtin.«dict_keyiterator.__iter__» :=
  entryFor_alias (id' := "dict_keyiterator.__iter__") (by kernel_rfl) (by first | rfl | decide +kernel | (unfold String.splitOn; simp +decide [String.splitOnAux]))
    (by decide +kernel) (by kernel_rfl)
theorem p_owner : Manifest.owners.lookup (String.ofList ['s', 'n', 'o', 'i', 't', 'a', 't', 'u', 'm', 'r', 'e', 'p', '.', 's', 'l', 'o', 'o', 't', 'r', 'e', 't', 'i'].reverse) = some Manifest.sig_itertools_permutations := by kernel_rfl
theorem p_args_iter (a : Value) : argsOk "itertools.permutations.__iter__" ⟨[a], []⟩ := by
  unfold argsOk
  rw [signature?_of (id := "itertools.permutations.__iter__") (n := ['_', '_', 'r', 'e', 't', 'i', '_', '_']) (o := ['s', 'n', 'o', 'i', 't', 'a', 't', 'u', 'm', 'r', 'e', 'p', '.', 's', 'l', 'o', 'o', 't', 'r', 'e', 't', 'i']) (by kernel_rfl) p_owner]
  kernel_rfl
theorem p_args_next (a : Value) : argsOk "itertools.permutations.__next__" ⟨[a], []⟩ := by
  unfold argsOk
  rw [signature?_of (id := "itertools.permutations.__next__") (n := ['_', '_', 't', 'x', 'e', 'n', '_', '_']) (o := ['s', 'n', 'o', 'i', 't', 'a', 't', 'u', 'm', 'r', 'e', 'p', '.', 's', 'l', 'o', 'o', 't', 'r', 'e', 't', 'i']) (by kernel_rfl) p_owner]
  kernel_rfl
theorem p_noDict : typeHasDict (.type "itertools.permutations") = false := by decide +kernel
end QP

/-! QPb: permutations made, its next item -/
namespace QP
open PySem PySem.Spec L2
open Sem (wp)
section
variable {prog : Program} {w : World}
theorem meets_new (r : Addr) (n : Nat) (hn : n ≤ 6) : MeetsIn prog w (Builtin.«itertools.permutations.__new__» ⟨[.type "itertools.permutations", .ref r], []⟩)
    (fun A R s => A.handled = none ∧ (∃ t u v, IsRange s.heap r 0 n 1 t u v) ∧ ∀ (h' : Heap) (tk : Nat) (acc : Array Value), (∀ b o, s.heap.get? b = some o → h'.get? b = some o) → ItemsOf (fun i v => ∃ t, v = .int (0 + i * 1) t) acc n →
      R (.ok (.ret (.ref (h'.objs.size + 1)))) { s with heap := (h'.push { cls := .type "tuple", data := .seq acc.toList.toArray }).push { cls := .type "itertools.permutations", data := .fields ([.ref h'.objs.size, rawInt 0, rawInt n, .none] ++ (List.range n).map (fun (i : Nat) => rawInt i) ++ (List.range n).map fun (i : Nat) => rawInt ((n : Int) - i)).toArray }, toks := tk }) :=
  .of_wp fun A R s h => by
    obtain ⟨hh, ⟨t, u, v, hr⟩, hQ⟩ := h
    have hsub := p_sub
    have hd := p_noDict
    have hh1 : A.in1.handled = none := hh
    have hsm : Builtin.Range.small 0 n 1 = true := PySem.small_one (by omega) (by omega) (by omega) (by omega)
    have hrs : Builtin.Range.rangeSize 0 n 1 = n := by rw [rangeSize_one]; split <;> omega
    wp_walk using collect_range (A := A.in1) hh1 hr hsm hrs (by omega)
    rw [show ("itertools." ++ "permutations" : String) = "itertools.permutations" from by decide +kernel]
    refine wpAny_of_eq hsub ?_
    wp_walk using collect_range (A := A.in1) hh1 hr hsm hrs (by omega)
    intro h' tk acc hk hi
    have hl : acc.toList.length = n := by rw [Array.length_toList]; exact hi.1
    try dsimp only
    rw [hl]
    show wpAny _ A.in1 ((pure (n : Int) : Sem Int) >>= _) _ _ _
    refine wpAny_bind (wpAny_pure ?_)
    rw [if_neg (show ¬ ((n : Int) < 0) by omega)]
    rw [if_neg (show ¬ (Builtin.Itertools.itTooMany (n : Int) = true) by unfold Builtin.Itertools.itTooMany; simp; omega)]
    try dsimp only
    rw [show ((n : Int)).toNat = n from Int.toNat_natCast n, if_neg (show ¬ (n > n) by omega)]
    refine wpAny_bind (wpAny_newObj_type ?_ (by show acc.toList.toArray.size ≤ sizeLine; rw [List.size_toArray, hl, sizeLine_eq]; omega))
    unfold Builtin.Itertools.itNewRecord
    rw [hd]
    have e1 : ∀ o : Obj, (h'.push o).objs.size = h'.objs.size + 1 := fun o => by simp [Heap.push]
    refine wpAny_bind ?_
    rw [if_pos (show (!false) = true from rfl)]
    refine wpAny_newObj_type ?_ (by show Array.size _ ≤ sizeLine + 2; rw [List.size_toArray]; simp only [List.length_append, List.length_map, List.length_range, List.length_cons, List.length_nil]; rw [sizeLine_eq]; omega)
    refine wpAny_pure ⟨_, rfl, ?_⟩
    have q := hQ h' tk acc hk hi
    rw [← e1] at q
    exact q
end
end QP

/-! QPc: the next item of a walk of permutations -/
namespace QP
open PySem PySem.Spec L2
open Sem (wp)
/-- numbers kept as they are -/
def rawL (xs : List Nat) : List Value := xs.map fun (i : Nat) => rawInt i
def pF (pool : Addr) (st : Int) (n : Nat) (prev : Value) (xs cs : List Nat) : Array Value := ([.ref pool, rawInt st, rawInt n, prev] ++ rawL xs ++ rawL cs).toArray
abbrev IsP (h : Heap) (it pool : Addr) (st : Int) (n : Nat) (prev : Value) (xs cs : List Nat) : Prop :=
  h.get? it = some { cls := .type "itertools.permutations", dict := none, data := .fields (pF pool st n prev xs cs), slots := #[] }
theorem numbers_back (xs : List Nat) : (rawL xs).map (fun v => match v with | .int n _ => n.toNat | _ => 0) = xs := by
  unfold rawL
  rw [List.map_map]
  induction xs with
  | nil => rfl
  | cons x r ih => rw [List.map_cons, ih]; rfl
section
variable {prog : Program} {w : World} {A : Around} {E : Value → Shared → Prop} {s : Shared} {it pool : Addr} {n : Nat} {prev : Value} {xs cs : List Nat} {items : Array Value}
theorem p_iter {st : Int} {Q : Value → Shared → Prop} (hit : IsP s.heap it pool st n prev xs cs) (h : Q (.ref it) s) : wpAny (model prog w) A (pyIter (.ref it)) Q E s := by
  have hT : s.TypeIs (.ref it) "itertools.permutations" := ⟨_, hit, rfl⟩
  refine wpAny_pyIter_slot hT p_slot_iter (wpAny_call_entry p_slot_iter hT p_entry_iter ?_ (p_args_iter _))
  exact wpAny_pure (a := Fin.done (Flow.ret (Value.ref it))) ⟨_, rfl, "itertools.permutations", _, hT, p_slot_next.lookup, h⟩
theorem pF_2 {st : Int} : (pF pool st n prev xs cs)[2]? = some (rawInt n) := by unfold pF; simp
theorem pF_1 {st : Int} : (pF pool st n prev xs cs)[1]? = some (rawInt st) := by unfold pF; simp
theorem pF_3 {st : Int} : (pF pool st n prev xs cs)[3]? = some prev := by unfold pF; simp
theorem pF_back {st : Int} {f : Value → Nat} (hf : ∀ i : Nat, f (rawInt i) = i) : List.map f (List.drop 4 (pF pool st n prev xs cs).toList) = xs ++ cs := by
  have e : List.drop 4 (pF pool st n prev xs cs).toList = rawL xs ++ rawL cs := by unfold pF; simp
  have h : ∀ l : List Nat, (rawL l).map f = l := fun l => by
    unfold rawL
    rw [List.map_map]
    induction l with
    | nil => rfl
    | cons x r ih => rw [List.map_cons, ih]; show f (rawInt x) :: r = _; rw [hf]
  rw [e, List.map_append, h, h]
theorem pF_set1 {st st' : Int} : (pF pool st n prev xs cs).setIfInBounds 1 (rawInt st') = pF pool st' n prev xs cs := by unfold pF; simp [Array.setIfInBounds]
theorem pF_set3 {st : Int} {v : Value} : (pF pool st n prev xs cs).setIfInBounds 3 v = pF pool st n v xs cs := by unfold pF; simp [Array.setIfInBounds]
theorem pF_size {st : Int} : (pF pool st n prev xs cs).size = 4 + xs.length + cs.length := by unfold pF rawL; simp; omega
/-- the tuple is laid, kept and handed out -/
theorem p_tail {st : Int} {Qf : PySem.Fin → Shared → Prop} {Ef : Value → Shared → Prop} {l : List Value} (hit : IsP s.heap it pool st n prev xs cs) (hl : l.length ≤ 1000)
    (hQ : ∀ h' : Heap, IsP h' it pool st n (.ref s.heap.objs.size) xs cs → (∀ b o, b ≠ it → s.heap.get? b = some o → h'.get? b = some o) → PyProof.Rows.IsTup h' s.heap.objs.size l.toArray →
      h'.objs.size = s.heap.objs.size + 1 → Qf (Fin.done (Flow.ret (.ref s.heap.objs.size))) { s with heap := h' }) :
    wpAny (model prog w) A (newTuple l >>= fun t => field (.ref it) 3 >>= fun before => setField (.ref it) 3 t >>= fun _ => letGo [before] [t] >>= fun _ => ret t) Qf Ef s := by
  unfold newTuple
  refine wpAny_bind (wpAny_newObj_type ?_ (by show l.toArray.size ≤ sizeLine; rw [List.size_toArray, sizeLine_eq]; omega))
  have hit1 : IsP (s.heap.push { cls := .type "tuple", data := .seq l.toArray }) it pool st n prev xs cs := Heap.get?_push_of_some _ hit
  have ne : s.heap.objs.size ≠ it := Nat.ne_of_gt (Heap.lt_size hit)
  refine wpAny_bind (wpAny_field hit1 rfl (x := prev) pF_3 ?_)
  refine wpAny_bind (wpAny_setField hit1 rfl (by rw [pF_size]; omega) ?_)
  refine wpAny_bind (wpAny_letGo ?_)
  have sb := Heap.SameBut.update (s.heap.push { cls := .type "tuple", data := .seq l.toArray }) it (Obj.mapFields (·.setIfInBounds 3 (.ref s.heap.objs.size)))
  refine wpAny_pure (hQ _ ?_ (fun b o hb e => (sb.2 b hb).trans (Heap.get?_push_of_some _ e)) ?_ ?_)
  · have e := Heap.get?_update_self (Obj.mapFields (·.setIfInBounds 3 (.ref s.heap.objs.size))) hit1 rfl
    exact e.trans (congrArg (fun f => some ({ cls := .type "itertools.permutations", data := .fields f } : Obj)) pF_set3)
  · exact ⟨_, (sb.2 _ ne).trans (Heap.get?_push_size _ rfl), rfl, 0, rfl⟩
  · rw [sb.1]; simp [Heap.push]
/-- the first item -/
theorem p_item0 {Q : Option Value → Shared → Prop} (hit : IsP s.heap it pool 0 n prev xs cs) (hpool : PyProof.Rows.IsTup s.heap pool items) (hx : xs.length = n) (hn : n ≤ 1000)
    (hQ : ∀ h' : Heap, IsP h' it pool 1 n (.ref s.heap.objs.size) xs cs → (∀ b o, b ≠ it → s.heap.get? b = some o → h'.get? b = some o) → PyProof.Rows.IsTup h' s.heap.objs.size (xs.map fun i => items.getD i .none).toArray →
      h'.objs.size = s.heap.objs.size + 1 → Q (some (.ref s.heap.objs.size)) { s with heap := h' }) : wpAny (model prog w) A (pyNext (.ref it)) Q E s := by
  have hT : s.TypeIs (.ref it) "itertools.permutations" := ⟨_, hit, rfl⟩
  obtain ⟨op, ep, cp, np, dp⟩ := hpool
  unfold pyNext
  refine wpAny_bind (wpAny_attempt (wpAny_callSpecial?_slot (name := Str.ofString "__next__") hT p_slot_next (wpAny_call_entry p_slot_next hT p_entry_next ?_ (p_args_next _))))
  show wpAny _ _ (field (.ref it) 0 >>= _) _ _ s
  refine wpAny_bind (wpAny_field hit rfl (x := .ref pool) rfl ?_)
  refine wpAny_bind ?_
  show wpAny _ _ (seqItems? (.ref pool) >>= _) _ _ s
  refine wpAny_bind (wpAny_seqItems ep dp (wpAny_pure ?_))
  refine wpAny_bind ?_
  show wpAny _ _ (field (.ref it) 2 >>= _) _ _ s
  refine wpAny_bind (wpAny_field hit rfl (x := rawInt n) pF_2 (wpAny_pure ?_))
  refine wpAny_bind ?_
  show wpAny _ _ (load it >>= _) _ _ s
  refine wpAny_bind (wpAny_load hit (wpAny_pure ?_))
  rw [pF_back fun i => rfl]
  refine wpAny_bind ?_
  show wpAny _ _ (field (.ref it) 1 >>= _) _ _ s
  refine wpAny_bind (wpAny_field hit rfl (x := rawInt 0) pF_1 (wpAny_pure ?_))
  show wpAny _ _ (setField (.ref it) 1 (rawInt 1) >>= _) _ _ s
  refine wpAny_bind (wpAny_setField hit rfl (by rw [pF_size]; omega) ?_)
  show wpAny _ _ (newTuple (List.map (fun i => items.getD i .none) (List.take ((n : Nat) : Int).toNat (xs ++ cs))) >>= _) _ _ _
  rw [show ((n : Nat) : Int).toNat = n from Int.toNat_natCast n, show List.take n (xs ++ cs) = xs by rw [← hx]; simp]
  have sb := Heap.SameBut.update s.heap it (Obj.mapFields (·.setIfInBounds 1 (rawInt 1)))
  have hit2 : IsP (s.heap.update it (Obj.mapFields (·.setIfInBounds 1 (rawInt 1)))) it pool 1 n prev xs cs := by
    have e := Heap.get?_update_self (Obj.mapFields (·.setIfInBounds 1 (rawInt 1))) hit rfl
    exact e.trans (congrArg (fun f => some ({ cls := .type "itertools.permutations", data := .fields f } : Obj)) pF_set1)
  refine p_tail (s := { s with heap := s.heap.update it (Obj.mapFields (·.setIfInBounds 1 (rawInt 1))) }) hit2 (by rw [List.length_map]; omega) fun h' h1 h2 h3 h4 => ⟨_, rfl, wpAny_pure ?_⟩
  have es : ({ s with heap := s.heap.update it (Obj.mapFields (·.setIfInBounds 1 (rawInt 1))) } : Shared).heap.objs.size = s.heap.objs.size := sb.1
  rw [es] at h1 h3 h4 ⊢
  exact hQ h' h1 (fun b o hb e => h2 b o hb ((sb.2 b hb).trans e)) h3 h4
theorem pF_setN {st : Int} {ys ds : List Nat} : (pF pool st n prev xs cs).extract 0 4 ++ ((ys ++ ds).map fun (i : Nat) => rawInt i).toArray = pF pool st n prev ys ds := by
  unfold pF rawL
  simp
/-- a function that steps as the walk does is the walk's -/
theorem nxt_of (f : Nat → Nat → List Nat → List Nat → Option (List Nat × List Nat)) (h0 : ∀ n xs cs, f n 0 xs cs = none)
    (hS : ∀ n j xs cs, f n (j + 1) xs cs = if (cs.getD j 0 - 1 == 0) = true then f n j (xs.take j ++ xs.drop (j + 1) ++ [xs.getD j 0]) (cs.set j (n - j))
      else some ((xs.set j (xs.getD (n - (cs.getD j 0 - 1)) 0)).set (n - (cs.getD j 0 - 1)) (xs.getD j 0), cs.set j (cs.getD j 0 - 1))) : ∀ (j n : Nat) (xs cs : List Nat), f n j xs cs = QM.nxt n j xs cs
  | 0, n, xs, cs => h0 n xs cs
  | j + 1, n, xs, cs => by
    rw [hS]
    unfold QM.nxt
    dsimp only
    split
    · exact nxt_of f h0 hS j n _ _
    · rfl
/-- a later item -/
theorem p_itemS {Q : Option Value → Shared → Prop} {ys ds : List Nat} (hit : IsP s.heap it pool 1 n prev xs cs) (hpool : PyProof.Rows.IsTup s.heap pool items) (hx : xs.length = n) (hi : items.size = n)
    (hnx : QM.nxt n n xs cs = some (ys, ds)) (hy : ys.length = n) (hd : ds.length ≤ 1000) (hn : n ≤ 1000)
    (hQ : ∀ h' : Heap, IsP h' it pool 1 n (.ref s.heap.objs.size) ys ds → (∀ b o, b ≠ it → s.heap.get? b = some o → h'.get? b = some o) → PyProof.Rows.IsTup h' s.heap.objs.size (ys.map fun i => items.getD i .none).toArray →
      h'.objs.size = s.heap.objs.size + 1 → Q (some (.ref s.heap.objs.size)) { s with heap := h' }) : wpAny (model prog w) A (pyNext (.ref it)) Q E s := by
  have hT : s.TypeIs (.ref it) "itertools.permutations" := ⟨_, hit, rfl⟩
  obtain ⟨op, ep, cp, np, dp⟩ := hpool
  unfold pyNext
  refine wpAny_bind (wpAny_attempt (wpAny_callSpecial?_slot (name := Str.ofString "__next__") hT p_slot_next (wpAny_call_entry p_slot_next hT p_entry_next ?_ (p_args_next _))))
  show wpAny _ _ (field (.ref it) 0 >>= _) _ _ s
  refine wpAny_bind (wpAny_field hit rfl (x := .ref pool) rfl ?_)
  refine wpAny_bind ?_
  show wpAny _ _ (seqItems? (.ref pool) >>= _) _ _ s
  refine wpAny_bind (wpAny_seqItems ep dp (wpAny_pure ?_))
  refine wpAny_bind ?_
  show wpAny _ _ (field (.ref it) 2 >>= _) _ _ s
  refine wpAny_bind (wpAny_field hit rfl (x := rawInt n) pF_2 (wpAny_pure ?_))
  refine wpAny_bind ?_
  show wpAny _ _ (load it >>= _) _ _ s
  refine wpAny_bind (wpAny_load hit (wpAny_pure ?_))
  rw [pF_back fun i => rfl]
  refine wpAny_bind ?_
  show wpAny _ _ (field (.ref it) 1 >>= _) _ _ s
  refine wpAny_bind (wpAny_field hit rfl (x := rawInt 1) pF_1 (wpAny_pure ?_))
  dsimp only
  rw [show ((n : Nat) : Int).toNat = n from Int.toNat_natCast n, hi, show List.take n (xs ++ cs) = xs by rw [← hx]; simp, show List.drop n (xs ++ cs) = cs by rw [← hx]; simp]
  split
  · rename_i h; exact absurd h (by decide)
  · split
    next a b heq =>
      have h2 : some (a, b) = QM.nxt n n xs cs := by
        refine heq.symm.trans (nxt_of _ ?_ ?_ _ _ _ _)
        · intros; rfl
        · intros; rfl
      rw [hnx] at h2
      have h3 : (a, b) = (ys, ds) := Option.some.inj h2
      obtain ⟨rfl, rfl⟩ := Prod.mk.inj h3
      refine wpAny_bind ?_
      show wpAny _ _ (Builtin.Itertools.itSetNumbersFrom (.ref it) 4 (a ++ b)) _ _ s
      refine wpAny_updateFields hit rfl ?_ (by rw [pF_setN, pF_size, sizeLine_eq]; omega)
      have sb := Heap.SameBut.update s.heap it (Obj.mapFields fun fs => fs.extract 0 4 ++ ((a ++ b).map fun (i : Nat) => rawInt i).toArray)
      have hit2 : IsP (s.heap.update it (Obj.mapFields fun fs => fs.extract 0 4 ++ ((a ++ b).map fun (i : Nat) => rawInt i).toArray)) it pool 1 n prev a b := by
        have e := Heap.get?_update_self (Obj.mapFields fun fs => fs.extract 0 4 ++ ((a ++ b).map fun (i : Nat) => rawInt i).toArray) hit rfl
        exact e.trans (congrArg (fun f => some ({ cls := .type "itertools.permutations", data := .fields f } : Obj)) pF_setN)
      show wpAny _ _ (newTuple (List.map (fun i => items.getD i .none) (List.take n a)) >>= _) _ _ _
      rw [show List.take n a = a by rw [← hy]; simp]
      refine p_tail (s := { s with heap := s.heap.update it (Obj.mapFields fun fs => fs.extract 0 4 ++ ((a ++ b).map fun (i : Nat) => rawInt i).toArray) }) hit2 (by rw [List.length_map]; omega) fun h' h1 h2 h3 h4 => ⟨_, rfl, wpAny_pure ?_⟩
      have es : ({ s with heap := s.heap.update it (Obj.mapFields fun fs => fs.extract 0 4 ++ ((a ++ b).map fun (i : Nat) => rawInt i).toArray) } : Shared).heap.objs.size = s.heap.objs.size := sb.1
      rw [es] at h1 h3 h4 ⊢
      exact hQ h' h1 (fun b o hb e => h2 b o hb ((sb.2 b hb).trans e)) h3 h4
    next heq =>
      have h2 : none = QM.nxt n n xs cs := by
        refine heq.symm.trans (nxt_of _ ?_ ?_ _ _ _ _)
        · intros; rfl
        · intros; rfl
      rw [hnx] at h2
      cases h2
  · rename_i h1 h2; exact absurd rfl h2
/-- the end -/
theorem p_end {Q : Option Value → Shared → Prop} (hh : A.handled = none) (hit : IsP s.heap it pool 1 n prev xs cs) (hpool : PyProof.Rows.IsTup s.heap pool items) (hx : xs.length = n) (hi : items.size = n)
    (hnx : QM.nxt n n xs cs = none) (hQ : ∀ h', Heap.ExtBut it s.heap h' → Q none { s with heap := h' }) : wpAny (model prog w) A (pyNext (.ref it)) Q E s := by
  have hT : s.TypeIs (.ref it) "itertools.permutations" := ⟨_, hit, rfl⟩
  obtain ⟨op, ep, cp, np, dp⟩ := hpool
  unfold pyNext
  refine wpAny_bind (wpAny_attempt (wpAny_callSpecial?_slot (name := Str.ofString "__next__") hT p_slot_next (wpAny_call_entry p_slot_next hT p_entry_next ?_ (p_args_next _))))
  show wpAny _ _ (field (.ref it) 0 >>= _) _ _ s
  refine wpAny_bind (wpAny_field hit rfl (x := .ref pool) rfl ?_)
  refine wpAny_bind ?_
  show wpAny _ _ (seqItems? (.ref pool) >>= _) _ _ s
  refine wpAny_bind (wpAny_seqItems ep dp (wpAny_pure ?_))
  refine wpAny_bind ?_
  show wpAny _ _ (field (.ref it) 2 >>= _) _ _ s
  refine wpAny_bind (wpAny_field hit rfl (x := rawInt n) pF_2 (wpAny_pure ?_))
  refine wpAny_bind ?_
  show wpAny _ _ (load it >>= _) _ _ s
  refine wpAny_bind (wpAny_load hit (wpAny_pure ?_))
  rw [pF_back fun i => rfl]
  refine wpAny_bind ?_
  show wpAny _ _ (field (.ref it) 1 >>= _) _ _ s
  refine wpAny_bind (wpAny_field hit rfl (x := rawInt 1) pF_1 (wpAny_pure ?_))
  dsimp only
  rw [show ((n : Nat) : Int).toNat = n from Int.toNat_natCast n, hi, show List.take n (xs ++ cs) = xs by rw [← hx]; simp, show List.drop n (xs ++ cs) = cs by rw [← hx]; simp]
  split
  · rename_i h; exact absurd h (by decide)
  · split
    next a b heq =>
      have h2 : some (a, b) = QM.nxt n n xs cs := by
        refine heq.symm.trans (nxt_of _ ?_ ?_ _ _ _ _)
        · intros; rfl
        · intros; rfl
      rw [hnx] at h2
      cases h2
    next heq =>
      show wpAny _ _ (setField (.ref it) 1 (rawInt 2) >>= _) _ _ s
      refine wpAny_bind (wpAny_setField hit rfl (by rw [pF_size]; omega) ?_)
      have sb := Heap.SameBut.update s.heap it (Obj.mapFields (·.setIfInBounds 1 (rawInt 2)))
      have x0 : Heap.ExtBut it s.heap (s.heap.update it (Obj.mapFields (·.setIfInBounds 1 (rawInt 2)))) := fun b o hb e => (sb.2 b hb).trans e
      unfold Builtin.Itertools.itStop
      show wpAny _ _ (newExc (.type "StopIteration") [] >>= _) _ _ _
      refine wpAny_bind ?_
      simp only [newExc, newTuple]
      refine wpAny_bind (wpAny_newObj_type ?_ (by size_fits))
      refine wpAny_bind (m := firstArgMember _ _) (wpAny_of_eq (a := Value.none) (by first | rfl | (simp only [firstArgMember]; rfl)) ?_)
      refine wpAny_newObj_type ?_ (by size_fits)
      simp only [raiseNew]
      refine wpAny_bind (wpAny_handled ?_)
      rw [show A.in1.handled = none from hh]
      refine wpAny_bind (wpAny_pure (wpAny_throw ?_))
      refine wpAny_bind (wpAny_isInstance (T := "StopIteration") (b := true) ⟨_, Heap.get?_push_size _ rfl, rfl⟩ isSubtype_stop ?_)
      exact wpAny_pure (hQ _ ((x0.push _).push _))
  · rename_i h1 h2; exact absurd rfl h2
end
end QP

/-! QPd: permutations(range(n)) as what a loop walks -/
namespace QP
open PySem PySem.Spec L2
/-- the orders of n, one behind another, each a new tuple -/
def Itp (n : Nat) : It := ⟨fun i _ => i < (QM.ords n n).length, fun i H x H' => ∃ t A, x = .ref t ∧ H t = none ∧ (QM.ords n n)[i]? = some A ∧ H' = upd H t (.tup (A.map fun (a : Nat) => V.int a)), fun i _ => (QM.ords n n).length ≤ i⟩
/-- the walk's record ahead of turn i -/
def PSt (it pool : Addr) (n i : Nat) (h : Heap) : Prop :=
  (∃ items : Array Value, PyProof.Rows.IsTup h pool items ∧ ItemsOf (fun i v => ∃ t, v = .int (0 + i * 1) t) items n) ∧
    ((i = 0 ∧ ∃ prev, IsP h it pool 0 n prev (List.range n) (QM.cyc0 n)) ∨ (0 < i ∧ ∃ prev s, (QM.sts n)[i - 1]? = some s ∧ IsP h it pool 1 n prev s.1 s.2))
theorem nxt_length (n : Nat) : ∀ (j : Nat) (xs cs ys ds : List Nat), j ≤ xs.length → j ≤ cs.length → QM.nxt n j xs cs = some (ys, ds) → ys.length = xs.length ∧ ds.length = cs.length
  | 0, xs, cs, ys, ds, _, _, h => by simp [QM.nxt] at h
  | j + 1, xs, cs, ys, ds, h1, h2, h => by
    unfold QM.nxt at h
    dsimp only at h
    split at h
    · have e : (xs.take j ++ xs.drop (j + 1) ++ [xs.getD j 0]).length = xs.length := by simp; omega
      have := nxt_length n j _ _ ys ds (by rw [e]; omega) (by simp; omega) h
      rw [e] at this
      simpa using this
    · have h3 := Option.some.inj h
      obtain ⟨rfl, rfl⟩ := Prod.mk.inj h3
      simp
theorem states_length (n : Nat) : ∀ (f : Nat) (xs cs : List Nat), xs.length = n → cs.length = n → ∀ s ∈ QM.states n f xs cs, s.1.length = n ∧ s.2.length = n
  | 0, _, _, _, _, s, h => by simp [QM.states] at h
  | f + 1, xs, cs, h1, h2, s, h => by
    rw [show QM.states n (f + 1) xs cs = (xs, cs) :: (match QM.nxt n n xs cs with | some (ys, ds) => QM.states n f ys ds | none => []) from rfl] at h
    rcases List.mem_cons.mp h with e | h
    · rw [e]; exact ⟨h1, h2⟩
    · cases hn : QM.nxt n n xs cs with
      | none => rw [hn] at h; simp at h
      | some r =>
        obtain ⟨ys, ds⟩ := r
        rw [hn] at h
        have := nxt_length n n xs cs ys ds (by omega) (by omega) hn
        exact states_length n f ys ds (by omega) (by omega) s h
theorem sts_length {n i : Nat} {s : List Nat × List Nat} (h : (QM.sts n)[i]? = some s) : s.1.length = n ∧ s.2.length = n :=
  states_length n 800 _ _ (by simp) (by simp [QM.cyc0]) s (List.mem_of_getElem? h)
theorem sts_zero {n : Nat} : (QM.sts n)[0]? = some (List.range n, QM.cyc0 n) := rfl
theorem sts_at {n : Nat} (hn : n ≤ 6) (i : Nat) : (QM.ords n n)[i]? = ((QM.sts n)[i]?).map (·.1) := by
  rw [← (QM.sts_ords n hn).1, List.getElem?_map]
theorem sts_next {n : Nat} (hn : n ≤ 6) {i : Nat} {s : List Nat × List Nat} (h : (QM.sts n)[i]? = some s) : (QM.sts n)[i + 1]? = QM.nxt n n s.1 s.2 :=
  QM.states_next n 800 _ _ (QM.sts_ords n hn).2 i s h
theorem sts_len {n : Nat} (hn : n ≤ 6) : (QM.ords n n).length = (QM.sts n).length := by rw [← (QM.sts_ords n hn).1, List.length_map]
/-- the items at an order's places are the order's numbers -/
theorem vals_items {n : Nat} {items : Array Value} (hi : ItemsOf (fun i v => ∃ t, v = .int (0 + i * 1) t) items n) : ∀ {A : List Nat}, (∀ a ∈ A, a < n) → Vals (A.map fun (a : Nat) => V.int a) (A.map fun i => items.getD i .none)
  | [], _ => .nil
  | a :: A, h => by
    refine .cons ?_ (vals_items hi fun x hx => h x (List.mem_cons_of_mem _ hx))
    have ha := h a List.mem_cons_self
    have hs : a < items.size := by rw [hi.1]; exact ha
    have e : items[a]? = some items[a] := Array.getElem?_eq_getElem hs
    obtain ⟨t, ht⟩ := hi.2 a _ e
    show RelV (V.int a) (items.getD a .none)
    rw [Array.getD_eq_getD_getElem?, e, Option.getD_some, ht]
    exact ⟨t, by simp⟩
theorem turn_perm {P : Program} {w : World} {K : PySem.W.Frag} {tg : Expr} (it pool : Addr) (hne : pool ≠ it) (n : Nat) (hn : n ≤ 6) : Turn P w K tg (Itp n) [it, pool] it (PSt it pool n) where
  mem := by simp
  obj := fun i h st b hb => by
    obtain ⟨⟨items, ⟨o, e, c, k, d⟩, _⟩, hst⟩ := st
    have hb' : b = it ∨ b = pool := by simpa using hb
    rcases hb' with z | z
    · rw [z]
      rcases hst with ⟨_, prev, q⟩ | ⟨_, prev, s, _, q⟩
      · exact ⟨_, q, fun v z => nomatch z⟩
      · exact ⟨_, q, fun v z => nomatch z⟩
    · rw [z]
      exact ⟨o, e, fun v q => by rw [d] at q; cases q⟩
  keep := fun i h h' st k => by
    obtain ⟨⟨items, ⟨o, e, c, m, d⟩, hi⟩, hst⟩ := st
    refine ⟨⟨items, ⟨o, k pool (by simp) _ e, c, m, d⟩, hi⟩, ?_⟩
    rcases hst with ⟨z, prev, q⟩ | ⟨z, prev, s, e2, q⟩
    · exact .inl ⟨z, prev, k it (by simp) _ q⟩
    · exact .inr ⟨z, prev, s, e2, k it (by simp) _ q⟩
  item := by
    intro X hP hw hK hc i pins s σ H E I hf st hg
    subst hP hw hK
    obtain ⟨⟨items, hpool, hi⟩, hst⟩ := st
    have hg' : i < (QM.ords n n).length := hg
    obtain ⟨S, hS⟩ : ∃ S, (QM.sts n)[i]? = some S := ⟨_, List.getElem?_eq_getElem (by rw [sts_len hn] at hg'; exact hg')⟩
    have hA : (QM.ords n n)[i]? = some S.1 := by rw [sts_at hn, hS]; rfl
    have hOrd := QM.mem_ords_iff.mp (List.mem_of_getElem? hA)
    have hSl := sts_length hS
    have hnew := I.hok.fresh (Nat.le_refl s.heap.objs.size)
    obtain ⟨op, ep, cp, kp, dp⟩ := id hpool
    have fin : ∀ h' : Heap, IsP h' it pool 1 n (.ref s.heap.objs.size) S.1 S.2 → (∀ b o, b ≠ it → s.heap.get? b = some o → h'.get? b = some o) → PyProof.Rows.IsTup h' s.heap.objs.size (S.1.map fun i => items.getD i .none).toArray →
        h'.objs.size = s.heap.objs.size + 1 → ∃ u, (some (Value.ref s.heap.objs.size)) = some u ∧
          wpAny (model X.prog X.w) X.A (letOwnedTupleGo tg (.ref it) u) (fun _ s2 => ∃ x H', Inv X pins σ H' s2 ∧ RelV x u ∧ (Itp n).yld i H x H' ∧ PSt it pool n (i + 1) s2.heap ∧ ∀ b ∈ [it, pool], H' b = none) E { s with heap := h' } := by
      intro h' h1 h2 h3 h4
      refine ⟨_, rfl, go_of (s := { s with heap := h' }) h1 rfl rfl (by decide) ?_⟩
      have lit : it < s.heap.objs.size := by
        rcases hst with ⟨_, prev, q⟩ | ⟨_, prev, s', _, q⟩ <;> exact Heap.lt_size q
      have lpool : pool < s.heap.objs.size := Heap.lt_size ep
      have new : ObjOk X.prog X.w (upd H s.heap.objs.size (.tup (S.1.map fun (a : Nat) => V.int a))) h' s.heap.objs.size (.tup (S.1.map fun (a : Nat) => V.int a)) :=
        ⟨by rw [List.length_map, hSl.1, sizeLine_eq]; omega, _, vals_items hi hOrd.lt, h3⟩
      have I1 : Inv X pins σ (upd H s.heap.objs.size (.tup (S.1.map fun (a : Nat) => V.int a))) { s with heap := h' } :=
        I.turnedNew (t' := s.toks) (ch := [it, pool]) (fun b ob hb q => h2 b ob (fun z => hb (by simp [z])) q) hf (Nat.le_refl _) new
      refine ⟨.ref s.heap.objs.size, _, I1, rfl, ⟨_, S.1, rfl, hnew, hA, rfl⟩, ⟨⟨items, ⟨op, h2 pool op hne ep, cp, kp, dp⟩, hi⟩, .inr ⟨by omega, _, S, hS, h1⟩⟩, fun b hb => ?_⟩
      have hb' : b < s.heap.objs.size := by
        have e' : b = it ∨ b = pool := by simpa using hb
        rcases e' with z | z
        · rw [z]; exact lit
        · rw [z]; exact lpool
      rw [upd_ne (Nat.ne_of_lt hb')]
      exact (hf b hb).1
    rcases hst with ⟨z, prev, q⟩ | ⟨z, prev, S0, hS0, q⟩
    · subst z
      rw [sts_zero] at hS
      have e := Option.some.inj hS
      subst e
      exact p_item0 q hpool (by simp) (by omega) fun h' h1 h2 h3 h4 => fin h' h1 h2 h3 h4
    · obtain ⟨j, rfl⟩ : ∃ j, i = j + 1 := ⟨i - 1, by omega⟩
      rw [Nat.add_sub_cancel] at hS0
      have hn2 := sts_next hn hS0
      rw [hS] at hn2
      obtain ⟨ys, ds⟩ := S
      have l0 := sts_length hS0
      exact p_itemS q hpool l0.1 hi.1 hn2.symm hSl.1 (by have := hSl.2; simp only at this; omega) (by omega) fun h' h1 h2 h3 h4 => fin h' h1 h2 h3 h4
  done := by
    intro X hP hw hK hc i pins s σ H E I hf st hg
    subst hP hw hK
    obtain ⟨⟨items, hpool, hi⟩, hst⟩ := st
    have hg' : (QM.ords n n).length ≤ i := hg
    rw [sts_len hn] at hg'
    obtain ⟨f0, f1, f2, f3, f4, f5⟩ := hf it (by simp)
    rcases hst with ⟨z, prev, q⟩ | ⟨z, prev, S0, hS0, q⟩
    · subst z
      have := (List.getElem?_eq_some_iff.mp (sts_zero (n := n))).1
      omega
    · have hn2 := sts_next hn hS0
      rw [List.getElem?_eq_none (by omega)] at hn2
      have l0 := sts_length hS0
      exact p_end (I.ok.hd hc) q hpool l0.1 hi.1 hn2.symm fun h' eb => ⟨rfl, I.turned (t' := s.toks) (fun b o hb q => eb b o hb q) f0 f1 f3 f4 f5⟩
  self := fun A i s Q E st h => by
    obtain ⟨_, hst⟩ := st
    rcases hst with ⟨_, prev, q⟩ | ⟨_, prev, s', _, q⟩
    · exact p_iter q h
    · exact p_iter q h
def iPerm (te : L2.St → Hp → (Int → Int → Hp → Prop) → Prop) : TI := fun σ H R => te σ H fun a b H1 => a = 0 ∧ ∃ n : Nat, b = n ∧ n ≤ 6 ∧ R (Itp n) H1
theorem pi_perm {X : Cx} {tg e : Expr} {te : L2.St → Hp → (Int → Int → Hp → Prop) → Prop} {p pos : Pos} (hc : X.calm = true) (hg : Gl X "permutations") (hm : X.mg "permutations" = some (.type "itertools.permutations")) (he : PRg X e te)
    (na : starEach [e] X.env = (false, eval e X.env) :: starEach [] X.env := by rfl) : PI X tg (.Call (.Name "permutations" p) [e] [] pos) (iPerm te) := by
  refine ⟨fun pins s σ H R I h => ?_⟩
  refine PyProof.Rows.Call_ (ld_glob I hg hm (PyProof.Rows.callWith_type1 (PyProof.Rows.args_cons (thn (he pins s σ H _ I h) fun x s1 ⟨r, a, b, t, u, v, H1, ex, hr, I1, e0, n, e1, hn, q⟩ => PyProof.Rows.args_nil ?_) na) na))
  subst ex e0 e1
  refine callType_newIn p_called (by decide) (p_typeCall _) (p_newCall _) (fun obj => F.args_object_init_2 obj _) p_entry (meets_new r n hn) ⟨I1.ok.hd hc, ⟨t, u, v, hr⟩, fun h' tk acc hk hi => ?_⟩
  have hit : (((h'.push { cls := .type "tuple", data := .seq acc.toList.toArray }).push { cls := .type "itertools.permutations", data := .fields ([.ref h'.objs.size, rawInt 0, rawInt n, .none] ++ (List.range n).map (fun (i : Nat) => rawInt i) ++ (List.range n).map fun (i : Nat) => rawInt ((n : Int) - i)).toArray })).get? (h'.objs.size + 1) = some { cls := .type "itertools.permutations", data := .fields ([.ref h'.objs.size, rawInt 0, rawInt n, .none] ++ (List.range n).map (fun (i : Nat) => rawInt i) ++ (List.range n).map fun (i : Nat) => rawInt ((n : Int) - i)).toArray } := by
    have e := Heap.get?_push_size (h'.push { cls := .type "tuple", data := .seq acc.toList.toArray }) (o := { cls := .type "itertools.permutations", data := .fields ([.ref h'.objs.size, rawInt 0, rawInt n, .none] ++ (List.range n).map (fun (i : Nat) => rawInt i) ++ (List.range n).map fun (i : Nat) => rawInt ((n : Int) - i)).toArray }) rfl
    rw [Heap.size_push] at e
    exact e
  refine ⟨⟨_, hit, rfl⟩, ?_⟩
  have ec : ((List.range n).map fun (i : Nat) => rawInt ((n : Int) - i)) = rawL (QM.cyc0 n) := by
    unfold rawL QM.cyc0
    rw [List.map_map]
    refine List.map_congr_left fun i hi => ?_
    have : i < n := List.mem_range.mp hi
    show rawInt ((n : Int) - i) = rawInt ((n - i : Nat) : Int)
    rw [show ((n - i : Nat) : Int) = (n : Int) - i by omega]
  have hit2 : IsP (((h'.push { cls := .type "tuple", data := .seq acc.toList.toArray }).push { cls := .type "itertools.permutations", data := .fields ([.ref h'.objs.size, rawInt 0, rawInt n, .none] ++ (List.range n).map (fun (i : Nat) => rawInt i) ++ (List.range n).map fun (i : Nat) => rawInt ((n : Int) - i)).toArray })) (h'.objs.size + 1) h'.objs.size 0 n .none (List.range n) (QM.cyc0 n) := by
    rw [ec] at hit ⊢
    exact hit
  refine p_iter (s := { s1 with heap := _, toks := tk }) hit2 ?_
  have I2 : Inv X pins σ H1 { s1 with heap := h', toks := tk } := I1.kept hk
  have I3 : Inv X pins σ H1 { s1 with heap := (h'.push { cls := .type "tuple", data := .seq acc.toList.toArray }).push { cls := .type "itertools.permutations", data := .fields ([.ref h'.objs.size, rawInt 0, rawInt n, .none] ++ (List.range n).map (fun (i : Nat) => rawInt i) ++ (List.range n).map fun (i : Nat) => rawInt ((n : Int) - i)).toArray }, toks := tk } :=
    I2.kept (t' := tk) fun b o e => Heap.get?_push_of_some _ (Heap.get?_push_of_some _ e)
  refine ⟨h'.objs.size + 1, [h'.objs.size + 1, h'.objs.size], _, _, H1, rfl, I3, turn_perm (h'.objs.size + 1) h'.objs.size (Nat.ne_of_lt (Nat.lt_succ_self _)) n hn, ⟨⟨acc.toList.toArray, ⟨_, Heap.get?_push_of_some _ (Heap.get?_push_size _ rfl), rfl, 0, rfl⟩, by simpa using hi⟩, .inl ⟨rfl, _, hit2⟩⟩, fun b hb => ?_, q⟩
  have e' : b = h'.objs.size + 1 ∨ b = h'.objs.size := by simpa using hb
  have hb2 : h'.objs.size ≤ b := by
    rcases e' with z | z
    · rw [z]; exact Nat.le_succ _
    · rw [z]; exact Nat.le_refl _
  exact I2.fpOk hb2 (I2.hok.fresh hb2)
end QP

namespace QH
open PySem PySem.Spec L2 QF
variable {P : Program} {w : World} {K : PySem.W.Frag} {mg : Str → Option Value} {base : Heap} {CE CS : Addr}
theorem mulW {i j : Int} (h1 : i.natAbs < 2 ^ 4000) (h2 : j.natAbs < 2 ^ 4000) : CMulW i j := wide_mul h1 h2 (by decide) (by decide) (by decide)
theorem mul_lt {i j : Int} (h1 : i.natAbs < 2 ^ 4000) (h2 : j.natAbs < 2 ^ 4000) : (i * j).natAbs < 2 ^ 8000 := wide_lt h1 h2
/-! ### common_divisor, made -/
def sp_common_divisor : Sp := fun vs H Q _ => ∃ a b : Int, vs = [.int a, .int b] ∧ Q (.int (gcdI a b)) H
theorem sc_common_divisor : FnScope ["one", "other"] ["one", "other"] (defScope s_common_divisor) := ⟨rfl, rfl, rfl, by decide +kernel, rfl, by decide +kernel, by decide +kernel⟩
theorem ok_common_divisor (T : Tx K mg CE CS) : OkF P w K mg base "common_divisor" ["one", "other"] 1 sp_common_divisor := by
  refine okF T.common_divisor sc_common_divisor (fun _ _ _ _ _ _ us hl => match us, hl with | [_, _], _ => rfl) (fun vs H Q E h => ?_) (fun f cd A outer s H vs Q E hr h => ?_)
  · obtain ⟨a, b, rfl, _⟩ := h; rfl
  obtain ⟨a, b, rfl, q⟩ := h
  refine ⟨_, pss_cons (ps_par (i := 0) (j := 1) rfl sc_common_divisor.nd rfl rfl (by decide) rfl rfl (pa_cons (pe_callB call_abs (by rfl) T.b_abs (by decide +kernel) (pa_cons (pv 0) pa_nil)) (pa_cons (pe_callB call_abs (by rfl) T.b_abs (by decide +kernel) (pa_cons (pv 1) pa_nil)) pa_nil)) rfl) 
    (pss_cons (ps_while PassesOwn.never (pt_cmpR op_gt (pv 1) pe_int (nomark _)) (pss_one (ps_par (i := 0) (j := 1) rfl sc_common_divisor.nd rfl rfl (by decide) rfl rfl (pa_cons (pv 1) (pa_cons (pe_op op_mod (pv 0) (pv 1)) pa_nil)) rfl))) 
    (pss_one (ps_ret (pv 0)))), ?_⟩
  walk_at "go"
  refine ⟨a, rfl, ?_⟩
  walk_at "go"
  refine ⟨b, rfl, ?_⟩
  walk_at "go"
  refine while_by (fun σ H' => ∃ x y : Int, σ = [some (.int x), some (.int y)] ∧ 0 ≤ x ∧ 0 ≤ y ∧ gcdI x y = gcdI a b ∧ H' = H) (fun σ _ => match σ with | [_, some (.int y)] => y.toNat | _ => 0) ?_ ?_ ?_
  · exact ⟨_, _, rfl, by split <;> omega, by split <;> omega, gcd_abs a b, rfl⟩
  · rintro σ H' ⟨x, y, rfl, hx, hy, e, rfl⟩
    walk_at "go"
    refine r_iteD (fun hpos => ?_) (fun hn => ?_)
    · walk_at "go"
      refine ⟨⟨y, x % y, rfl, hy, Int.emod_nonneg _ (by omega), (gcd_step hx hpos).trans e, rfl⟩, ?_⟩
      show (x % y).toNat < y.toNat
      have := Int.emod_lt_of_pos x hpos
      have := Int.emod_nonneg x (show y ≠ 0 by omega)
      omega
    · walk_at "go"
      have : y = 0 := by omega
      subst this
      rw [gcd_zero hx] at e
      rw [e]
      exact q
  · intro σ H' Q Q' hQ h
    obtain ⟨v, h1, i, j, h2, h3, k, h4, h5⟩ := h
    exact ⟨v, h1, i, j, h2, h3, k, h4, hQ _ _ h5⟩
/-- a pair of whole numbers in lowest terms -/
def sp_made : Sp := fun vs H Q _ => ∃ a b : Int, vs = [.int a, .int b] ∧ 0 < b ∧ b.natAbs < 2 ^ 8000 ∧ ∀ p, H p = none → Q (.ref p) (upd H p (.tup [.int (red a b).1, .int (red a b).2]))
theorem sc_made : FnScope ["top", "bottom", "divisor"] ["top", "bottom"] (defScope s_made) := ⟨rfl, rfl, rfl, by decide +kernel, rfl, by decide +kernel, by decide +kernel⟩
theorem ok_made (T : Tx K mg CE CS) (C_common_divisor : OkF P w K mg base "common_divisor" ["one", "other"] 1 sp_common_divisor) : OkF P w K mg base "made" ["top", "bottom"] 2 sp_made := by
  refine okF T.made sc_made (fun _ _ _ _ _ _ us hl => match us, hl with | [_, _], _ => rfl) (fun vs H Q E h => ?_) (fun f cd A outer s H vs Q E hr h => ?_)
  · obtain ⟨a, b, rfl, _⟩ := h; rfl
  obtain ⟨a, b, rfl, hb, hlt, q⟩ := h
  refine ⟨_, pss_cons (ps_set (i := 2) sc_made.nd rfl (Or.inl rfl) (C_common_divisor.call hr (pa_cons (pv 0) (pa_cons (pv 1) pa_nil)))) 
    (pss_one (ps_ret (pe_tup (pa_cons (pe_op op_fdivW (pv 0) (pv 2)) (pa_cons (pe_op op_fdivW (pv 1) (pv 2)) pa_nil))))), ?_⟩
  have hg : 0 < gcdI a b := gcd_pos hb
  have hd : CDivW a (gcdI a b) := wide_div hg (b := 8000) (by have := gcd_le (t := a) hb; omega) (by decide) (by decide)
  have hd2 : CDivW b (gcdI a b) := hd
  walk_at "go"
  refine ⟨a, b, rfl, ?_⟩
  walk_at "go"
  exact q
/-! ### plus, minus, over -/
def spOp (C : Int × Int → Int × Int → Prop) (f : Int × Int → Int × Int → Int × Int) (K : PySem.W.Frag) : Sp := fun vs H Q _ => ∃ (v1 v2 : V) (x y : Int × Int), vs = [v1, v2] ∧ Fr K H v1 x ∧ Fr K H v2 y ∧ Sm x ∧ Sm y ∧ C x y ∧
  ∀ p, H p = none → Q (.ref p) (upd H p (.tup [.int (f x y).1, .int (f x y).2]))
def CT (_ _ : Int × Int) : Prop := True
def CPos (_ y : Int × Int) : Prop := 0 < y.1
def fplus (x y : Int × Int) : Int × Int := red (x.1 * y.2 + y.1 * x.2) (x.2 * y.2)
def fminus (x y : Int × Int) : Int × Int := red (x.1 * y.2 - y.1 * x.2) (x.2 * y.2)
def fover (x y : Int × Int) : Int × Int := red (x.1 * y.2) (x.2 * y.1)
theorem sc_plus : FnScope ["one", "other"] ["one", "other"] (defScope s_plus) := ⟨rfl, rfl, rfl, by decide +kernel, rfl, by decide +kernel, by decide +kernel⟩
theorem ok_plus (T : Tx K mg CE CS) (C_made : OkF P w K mg base "made" ["top", "bottom"] 2 sp_made) : OkF P w K mg base "plus" ["one", "other"] 3 (spOp CT fplus K) := by
  refine okF T.plus sc_plus (fun _ _ _ _ _ _ us hl => match us, hl with | [_, _], _ => rfl) (fun vs H Q E h => ?_) (fun f cd A outer s H vs Q E hr h => ?_)
  · obtain ⟨a, b, x, y, rfl, _⟩ := h; rfl
  obtain ⟨_, _, ⟨x1, x2⟩, ⟨y1, y2⟩, rfl, ⟨a, rfl, ha⟩, ⟨b, rfl, hb⟩, ⟨l1, l2, l3⟩, ⟨m1, m2, m3⟩, _, q⟩ := h
  have c1 := mulW l1 m2
  have c2 := mulW m1 l2
  have c3 := mulW l2 m2
  refine ⟨_, pss_one (ps_ret (C_made.call hr (pa_cons (pe_op op_add (pe_op op_mulW (pe_ix ix_tup (pv 0) pe_int (fun _ _ => rfl)) (pe_ix ix_tup (pv 1) pe_int (fun _ _ => rfl))) (pe_op op_mulW (pe_ix ix_tup (pv 1) pe_int (fun _ _ => rfl)) (pe_ix ix_tup (pv 0) pe_int (fun _ _ => rfl)))) (pa_cons (pe_op op_mulW (pe_ix ix_tup (pv 0) pe_int (fun _ _ => rfl)) (pe_ix ix_tup (pv 1) pe_int (fun _ _ => rfl))) pa_nil)))), ?_⟩
  walk_at "go"
  exact ⟨_, _, rfl, Int.mul_pos l3 m3, mul_lt l2 m2, q⟩
theorem sc_minus : FnScope ["one", "other"] ["one", "other"] (defScope s_minus) := ⟨rfl, rfl, rfl, by decide +kernel, rfl, by decide +kernel, by decide +kernel⟩
theorem ok_minus (T : Tx K mg CE CS) (C_made : OkF P w K mg base "made" ["top", "bottom"] 2 sp_made) : OkF P w K mg base "minus" ["one", "other"] 3 (spOp CT fminus K) := by
  refine okF T.minus sc_minus (fun _ _ _ _ _ _ us hl => match us, hl with | [_, _], _ => rfl) (fun vs H Q E h => ?_) (fun f cd A outer s H vs Q E hr h => ?_)
  · obtain ⟨a, b, x, y, rfl, _⟩ := h; rfl
  obtain ⟨_, _, ⟨x1, x2⟩, ⟨y1, y2⟩, rfl, ⟨a, rfl, ha⟩, ⟨b, rfl, hb⟩, ⟨l1, l2, l3⟩, ⟨m1, m2, m3⟩, _, q⟩ := h
  have c1 := mulW l1 m2
  have c2 := mulW m1 l2
  have c3 := mulW l2 m2
  refine ⟨_, pss_one (ps_ret (C_made.call hr (pa_cons (pe_op op_sub (pe_op op_mulW (pe_ix ix_tup (pv 0) pe_int (fun _ _ => rfl)) (pe_ix ix_tup (pv 1) pe_int (fun _ _ => rfl))) (pe_op op_mulW (pe_ix ix_tup (pv 1) pe_int (fun _ _ => rfl)) (pe_ix ix_tup (pv 0) pe_int (fun _ _ => rfl)))) (pa_cons (pe_op op_mulW (pe_ix ix_tup (pv 0) pe_int (fun _ _ => rfl)) (pe_ix ix_tup (pv 1) pe_int (fun _ _ => rfl))) pa_nil)))), ?_⟩
  walk_at "go"
  exact ⟨_, _, rfl, Int.mul_pos l3 m3, mul_lt l2 m2, q⟩
theorem sc_over : FnScope ["one", "other"] ["one", "other"] (defScope s_over) := ⟨rfl, rfl, rfl, by decide +kernel, rfl, by decide +kernel, by decide +kernel⟩
theorem ok_over (T : Tx K mg CE CS) (C_made : OkF P w K mg base "made" ["top", "bottom"] 2 sp_made) : OkF P w K mg base "over" ["one", "other"] 3 (spOp CPos fover K) := by
  refine okF T.over sc_over (fun _ _ _ _ _ _ us hl => match us, hl with | [_, _], _ => rfl) (fun vs H Q E h => ?_) (fun f cd A outer s H vs Q E hr h => ?_)
  · obtain ⟨a, b, x, y, rfl, _⟩ := h; rfl
  obtain ⟨_, _, ⟨x1, x2⟩, ⟨y1, y2⟩, rfl, ⟨a, rfl, ha⟩, ⟨b, rfl, hb⟩, ⟨l1, l2, l3⟩, ⟨m1, m2, m3⟩, hp, q⟩ := h
  have c1 := mulW l1 m2
  have c2 := mulW l2 m1
  refine ⟨_, pss_one (ps_ret (C_made.call hr (pa_cons (pe_op op_mulW (pe_ix ix_tup (pv 0) pe_int (fun _ _ => rfl)) (pe_ix ix_tup (pv 1) pe_int (fun _ _ => rfl))) (pa_cons (pe_op op_mulW (pe_ix ix_tup (pv 0) pe_int (fun _ _ => rfl)) (pe_ix ix_tup (pv 1) pe_int (fun _ _ => rfl))) pa_nil)))), ?_⟩
  walk_at "go"
  exact ⟨_, _, rfl, Int.mul_pos l3 hp, mul_lt l2 m1, q⟩
/-! ### is_less, least_of -/
def sp_is_less (K : PySem.W.Frag) : Sp := fun vs H Q _ => ∃ (v1 v2 : V) (x y : Int × Int), vs = [v1, v2] ∧ Fr K H v1 x ∧ Fr K H v2 y ∧ Sm x ∧ Sm y ∧ Q (.bl (decide (x.1 * y.2 < y.1 * x.2))) H
theorem sc_is_less : FnScope ["one", "other"] ["one", "other"] (defScope s_is_less) := ⟨rfl, rfl, rfl, by decide +kernel, rfl, by decide +kernel, by decide +kernel⟩
theorem ok_is_less (T : Tx K mg CE CS) : OkF P w K mg base "is_less" ["one", "other"] 1 (sp_is_less K) := by
  refine okF T.is_less sc_is_less (fun _ _ _ _ _ _ us hl => match us, hl with | [_, _], _ => rfl) (fun vs H Q E h => ?_) (fun f cd A outer s H vs Q E hr h => ?_)
  · obtain ⟨a, b, x, y, rfl, _⟩ := h; rfl
  obtain ⟨_, _, ⟨x1, x2⟩, ⟨y1, y2⟩, rfl, ⟨a, rfl, ha⟩, ⟨b, rfl, hb⟩, ⟨l1, l2, l3⟩, ⟨m1, m2, m3⟩, q⟩ := h
  have c1 := mulW l1 m2
  have c2 := mulW m1 l2
  refine ⟨_, pss_one (ps_ret (pe_cmpR op_lt (pe_op op_mulW (pe_ix ix_tup (pv 0) pe_int (fun _ _ => rfl)) (pe_ix ix_tup (pv 1) pe_int (fun _ _ => rfl))) (pe_op op_mulW (pe_ix ix_tup (pv 1) pe_int (fun _ _ => rfl)) (pe_ix ix_tup (pv 0) pe_int (fun _ _ => rfl))) (nomark _))), ?_⟩
  walk_at "go"
  exact q
def sp_least_of (K : PySem.W.Frag) : Sp := fun vs H Q _ => ∃ (v1 v2 : V) (x y : Int × Int), vs = [v1, v2] ∧ Fr K H v1 x ∧ Fr K H v2 y ∧ Sm x ∧ Sm y ∧ Q (if y.1 * x.2 < x.1 * y.2 then v2 else v1) H
theorem sc_least_of : FnScope ["one", "other"] ["one", "other"] (defScope s_least_of) := ⟨rfl, rfl, rfl, by decide +kernel, rfl, by decide +kernel, by decide +kernel⟩
theorem ok_least_of (T : Tx K mg CE CS) (C_is_less : OkF P w K mg base "is_less" ["one", "other"] 1 (sp_is_less K)) : OkF P w K mg base "least_of" ["one", "other"] 2 (sp_least_of K) := by
  refine okF T.least_of sc_least_of (fun _ _ _ _ _ _ us hl => match us, hl with | [_, _], _ => rfl) (fun vs H Q E h => ?_) (fun f cd A outer s H vs Q E hr h => ?_)
  · obtain ⟨a, b, x, y, rfl, _⟩ := h; rfl
  obtain ⟨v1, v2, x, y, rfl, hx, hy, sx, sy, q⟩ := h
  refine ⟨_, pss_one (ps_ret (pe_ifExp (pt_val (C_is_less.call hr (pa_cons (pv 1) (pa_cons (pv 0) pa_nil)))) (pv 1) (pv 0))), ?_⟩
  walk_at "go"
  refine ⟨v2, v1, y, x, rfl, hy, hx, sy, sx, ?_⟩
  walk_at "go"
  refine r_iteD (fun h => ?_) (fun h => ?_)
  · rw [if_pos h] at q
    walk_at "go"
    exact q
  · rw [if_neg h] at q
    walk_at "go"
    exact q
end QH

/-! QW2: the walks of totals, measures, people -/
namespace QH
open PySem PySem.Spec L2 QF
variable {P : Program} {w : World} {K : PySem.W.Frag} {mg : Str → Option Value} {base : Heap} {CE CS : Addr}
theorem fplus_fr {p q a c : Int} (U : Un p q) : fplus (fr p q a) (fr p q c) = fr p q (a + c) := fr_plus U.hq
theorem fminus_fr {p q a c : Int} (U : Un p q) : fminus (fr p q a) (fr p q c) = fr p q (a - c) := fr_minus U.hq
/-! ### total_of -/
def sp_total_of (K : PySem.W.Frag) : Sp := fun vs H Q _ => ∃ (a : Addr) (xs : List V) (p q : Int) (ks : List Int), vs = [.ref a] ∧ SqT K H a xs ∧ Frs K H xs p q ks ∧ Un p q ∧ QM.Pos ks ∧ ks.sum ≤ 1000 ∧ ∀ v H', Same H H' → Fr K H' v (fr p q ks.sum) → Q v H'
theorem sc_total_of : FnScope ["fractions", "found", "fraction"] ["fractions"] (defScope s_total_of) := ⟨rfl, rfl, rfl, by decide +kernel, rfl, by decide +kernel, by decide +kernel⟩
theorem ok_total_of (T : Tx K mg CE CS) (C_plus : OkF P w K mg base "plus" ["one", "other"] 3 (spOp CT fplus K)) : OkF P w K mg base "total_of" ["fractions"] 4 (sp_total_of K) := by
  refine okF T.total_of sc_total_of (fun _ _ _ _ _ _ us hl => match us, hl with | [_], _ => rfl) (fun vs H Q E h => ?_) (fun f cd A outer s H vs Q E hr h => ?_)
  · obtain ⟨a, xs, p, q, ks, rfl, _⟩ := h; rfl
  obtain ⟨a, xs, p, q, ks, rfl, hx, hf, U, hp, hb, qq⟩ := h
  obtain ⟨z, mz, hz⟩ := T.zero
  refine ⟨_, pss_cons (ps_set (i := 1) sc_total_of.nd rfl (Or.inl rfl) (pe_glob (v := .ref z) rfl mz rfl)) 
    (pss_cons (ps_for PassesOwn.never rfl (pi_tup (pv 0)) (pg_name (i := 2) sc_total_of.nd rfl (Or.inl rfl)) (pss_one (ps_set (i := 1) sc_total_of.nd rfl (Or.inl rfl) (C_plus.call hr (pa_cons (pv 1) (pa_cons (pv 2) pa_nil)))))) 
    (pss_one (ps_ret (pv 1)))), ?_⟩
  walk_at "go"
  refine ⟨a, rfl, ⟨_, hx⟩, for_tup (xs := xs) (fun i σ H' => ∃ v y, σ = [some (.ref a), some v, y] ∧ Same H H' ∧ Fr K H' v (fr p q (ks.take i).sum)) ?_ ?_ ?_ ?_⟩
  · refine ⟨.ref z, none, rfl, Same.refl H, z, rfl, ?_⟩
    have e : fr p q ([] : List Int).sum = (0, 1) := fr_zero U.hq
    rw [List.take_zero, e]
    exact hz H
  · rintro i σ H' _ ⟨v, y, rfl, s1, _⟩
    exact Same.tup s1 hx
  · rintro i x σ H' hi ⟨v, y, rfl, s1, hv⟩
    obtain ⟨k, hk, hfk⟩ := hf.getv hi
    have tk := take_sum hp i
    have hk0 := hp k (List.mem_of_getElem? hk)
    have hk1 := pos_le_sum hp k (List.mem_of_getElem? hk)
    walk_at "go"
    refine ⟨v, x, _, _, rfl, hv, hfk.same s1, fr_sm U tk.1 (by omega), fr_sm U (by omega) (by omega), trivial, fun p' np => ?_⟩
    walk_at "go"
    refine ⟨.ref p', some x, rfl, s1.trans (same_new np), ?_⟩
    have e : (ks.take (i + 1)).sum = (ks.take i).sum + k := L2.sum_take hk
    rw [e, fplus_fr U]
    exact Fr.new
  · rintro σ H' ⟨v, y, rfl, s1, hv⟩
    walk_at "go"
    refine qq v H' s1 ?_
    rw [List.take_of_length_le (by rw [hf.len]; exact Nat.le_refl _)] at hv
    exact hv
/-! ### all_sums, people -/
def EvIn (K : PySem.W.Frag) (CE : Addr) (vs : List V) (H : Hp) (p q : Int) (os ds : List Int) : Prop := ∃ e, vs = [.ref e] ∧ EvAt K CE H e p q os ds ∧ Gd p q os ds
def sp_all_sums (K : PySem.W.Frag) (CE : Addr) : Sp := fun vs H Q _ => ∃ (p q : Int) (os ds : List Int), EvIn K CE vs H p q os ds ∧ ∀ a xs H', Same H H' → SqT K H' a xs → Frs K H' xs p q (os ++ ds) → Q (.ref a) H'
theorem sc_all_sums : FnScope ["evening"] ["evening"] (defScope s_all_sums) := ⟨rfl, rfl, rfl, by decide +kernel, rfl, by decide +kernel, by decide +kernel⟩
theorem ok_all_sums (T : Tx K mg CE CS) : OkF P w K mg base "all_sums" ["evening"] 1 (sp_all_sums K CE) := by
  refine okF T.all_sums sc_all_sums (fun _ _ _ _ _ _ us hl => match us, hl with | [_], _ => rfl) (fun vs H Q E h => ?_) (fun f cd A outer s H vs Q E hr h => ?_)
  · obtain ⟨p, q, os, ds, ⟨e, rfl, _⟩, _⟩ := h; rfl
  obtain ⟨p, q, os, ds, ⟨e, rfl, ⟨dx, fs, ao, ad, vo, vd, h1, h2, h3, h4, h5, h6, h7⟩, G⟩, qq⟩ := h
  refine ⟨_, pss_one (ps_ret (pe_op op_catA (pe_fld (pv 0) rfl) (pe_fld (pv 0) rfl))), ?_⟩
  walk_at "go"
  have l1 := h6.len
  have l2 := h7.len
  have e1 := G.lo
  have e2 := G.ld
  have n1 : vo ≠ [] := fun z => G.ev.no (List.length_eq_zero_iff.mp (by rw [← l1, z]; rfl))
  have n2 : vd ≠ [] := fun z => G.ev.nd (List.length_eq_zero_iff.mp (by rw [← l2, z]; rfl))
  refine ⟨ao, ad, vo, vd, rfl, rfl, h4, h5, by rw [sizeLine_eq]; omega, fun z => absurd z n1, fun _ z => absurd z n2, fun _ _ p' np => ?_⟩
  exact qq p' (vo ++ vd) _ (same_new np) sqt_new ((h6.append h7).same (same_new np))
def sp_people (K : PySem.W.Frag) (CE : Addr) : Sp := fun vs H Q _ => ∃ (p q : Int) (os ds : List Int), EvIn K CE vs H p q os ds ∧ Q (.int ((os.length : Int) + ds.length)) H
theorem sc_people : FnScope ["evening"] ["evening"] (defScope s_people) := ⟨rfl, rfl, rfl, by decide +kernel, rfl, by decide +kernel, by decide +kernel⟩
theorem ok_people (T : Tx K mg CE CS) : OkF P w K mg base "people" ["evening"] 1 (sp_people K CE) := by
  refine okF T.people sc_people (fun _ _ _ _ _ _ us hl => match us, hl with | [_], _ => rfl) (fun vs H Q E h => ?_) (fun f cd A outer s H vs Q E hr h => ?_)
  · obtain ⟨p, q, os, ds, ⟨e, rfl, _⟩, _⟩ := h; rfl
  obtain ⟨p, q, os, ds, ⟨e, rfl, ⟨dx, fs, ao, ad, vo, vd, h1, h2, h3, h4, h5, h6, h7⟩, G⟩, qq⟩ := h
  refine ⟨_, pss_one (ps_ret (pe_op op_add (pe_callB call_len_seq (by rfl) T.b_len PySem.boot_len (pa_cons (pe_fld (pv 0) rfl) pa_nil)) (pe_callB call_len_seq (by rfl) T.b_len PySem.boot_len (pa_cons (pe_fld (pv 0) rfl) pa_nil)))), ?_⟩
  walk_at "go"
  refine ⟨ao, vo, rfl, .inr h4, ?_⟩
  walk_at "go"
  refine ⟨ad, vd, rfl, .inr h5, ?_⟩
  walk_at "go"
  rw [h6.len, h7.len]
  exact qq
/-! ### measure_of, measure -/
def sp_measure_of (K : PySem.W.Frag) : Sp := fun vs H Q _ => ∃ (a : Addr) (xs : List V) (p q : Int) (ks : List Int), vs = [.ref a] ∧ SqT K H a xs ∧ Frs K H xs p q ks ∧ Un p q ∧ QM.Pos ks ∧ (∀ k ∈ ks, k ≤ 1000) ∧ ks ≠ [] ∧ ks.length ≤ 1000 ∧ ∀ v H', Same H H' → Fr K H' v (fr p q (gL ks)) → Q v H'
theorem gL_take {ks : List Int} {i : Nat} {k : Int} (h : ks[i + 1]? = some k) : gL (ks.take (i + 2)) = gcdI (gL (ks.take (i + 1))) k := by
  cases ks with
  | nil => simp at h
  | cons a r =>
    have h' : r[i]? = some k := by simpa using h
    show (r.take (i + 1)).foldl gcdI a = gcdI ((r.take i).foldl gcdI a) k
    rw [List.take_add_one, h', List.foldl_append]
    rfl
theorem gL_bd {ks : List Int} (hp : QM.Pos ks) (hb : ∀ k ∈ ks, k ≤ 1000) (i : Nat) (hn : ks ≠ []) : 0 < gL (ks.take (i + 1)) ∧ gL (ks.take (i + 1)) ≤ 1000 := by
  cases ks with
  | nil => exact absurd rfl hn
  | cons a r =>
    have hp' : QM.Pos ((a :: r).take (i + 1)) := fun x hx => hp x (List.mem_of_mem_take hx)
    obtain ⟨h1, h2⟩ := gL_facts hp' (by simp)
    have := (h2 a (by simp)).2
    have := hb a (by simp)
    exact ⟨h1, by omega⟩
theorem cut_one (xs : List V) : cutV xs (some 1) none = xs.drop 1 := by
  unfold cutV
  rw [show HT.sIx xs.length 0 (some 1) = min 1 xs.length from HT.sIx_nat xs.length 0 1, HT.sIx_none]
  cases xs with
  | nil => rfl
  | cons x r =>
    rw [show min 1 (x :: r).length = 1 by rw [List.length_cons]; omega]
    show List.take ((x :: r).length - 1) r = r
    rw [List.length_cons, Nat.add_sub_cancel]
    exact List.take_length
theorem sc_measure_of : FnScope ["amounts", "top", "bottom", "amount"] ["amounts"] (defScope s_measure_of) := ⟨rfl, rfl, rfl, by decide +kernel, rfl, by decide +kernel, by decide +kernel⟩
theorem ok_measure_of (T : Tx K mg CE CS) (C_common_divisor : OkF P w K mg base "common_divisor" ["one", "other"] 1 sp_common_divisor) (C_made : OkF P w K mg base "made" ["top", "bottom"] 2 sp_made) : OkF P w K mg base "measure_of" ["amounts"] 3 (sp_measure_of K) := by
  refine okF T.measure_of sc_measure_of (fun _ _ _ _ _ _ us hl => match us, hl with | [_], _ => rfl) (fun vs H Q E h => ?_) (fun f cd A outer s H vs Q E hr h => ?_)
  · obtain ⟨a, xs, p, q, ks, rfl, _⟩ := h; rfl
  obtain ⟨a, xs, p, q, ks, rfl, hx, hf, U, hp, hb, hn, hlen, qq⟩ := h
  refine ⟨_, pss_cons (ps_asg (pe_ix ix_tup (pv 0) pe_int (fun _ _ => rfl)) (pg_tup rfl (pgs_cons (pg_name (i := 1) sc_measure_of.nd rfl (Or.inl rfl)) (pgs_cons (pg_name (i := 2) sc_measure_of.nd rfl (Or.inl rfl)) pgs_nil)))) 
    (pss_cons (ps_for PassesOwn.never rfl (pi_tup (pe_slice sl_tupA (pv 0) (po_some pe_int) po_none)) (pg_name (i := 3) sc_measure_of.nd rfl (Or.inl rfl)) (pss_one (ps_asg (C_made.call hr (pa_cons (C_common_divisor.call hr (pa_cons (pe_op op_mulW (pv 1) (pe_ix ix_tup (pv 3) pe_int (fun _ _ => rfl))) (pa_cons (pe_op op_mulW (pe_ix ix_tup (pv 3) pe_int (fun _ _ => rfl)) (pv 2)) pa_nil))) (pa_cons (pe_op op_mulW (pv 2) (pe_ix ix_tup (pv 3) pe_int (fun _ _ => rfl))) pa_nil))) (pg_tup rfl (pgs_cons (pg_name (i := 1) sc_measure_of.nd rfl (Or.inl rfl)) (pgs_cons (pg_name (i := 2) sc_measure_of.nd rfl (Or.inl rfl)) pgs_nil)))))) 
    (pss_one (ps_ret (pe_tup (pa_cons (pv 1) (pa_cons (pv 2) pa_nil)))))), ?_⟩
  obtain ⟨k0, kr, rfl⟩ : ∃ k0 kr, ks = k0 :: kr := by
    cases ks with
    | nil => exact absurd rfl hn
    | cons a r => exact ⟨a, r, rfl⟩
  obtain ⟨x0, hx0, a0, rfl, ha0⟩ := hf.get (i := 0) (k := k0) rfl
  walk_at "go"
  refine ⟨a, xs, 0, .ref a0, rfl, rfl, hx, atI_nat (j := 0) hx0, ?_⟩
  walk_at "go"
  have hl := hf.len
  have hlx : 0 < xs.length := by rw [hl]; exact Nat.succ_pos _
  refine ⟨a, xs, rfl, hx, fun hw => ?_, fun _ b nb => ?_⟩
  · have := hw.1
    rw [show HT.sIx xs.length 0 (some 1) = min 1 xs.length from HT.sIx_nat xs.length 0 1] at this
    omega
  rw [cut_one]
  have s1 := same_new (o := .tup (xs.drop 1)) nb
  refine ⟨b, rfl, ⟨_, sqt_new⟩, for_tup (K := K) (xs := xs.drop 1) (fun i σ H' => ∃ y, σ = [some (.ref a), some (.int (fr p q (gL ((k0 :: kr).take (i + 1)))).1), some (.int (fr p q (gL ((k0 :: kr).take (i + 1)))).2), y] ∧ Same (upd H b (.tup (xs.drop 1))) H') ?_ ?_ ?_ ?_⟩
  · exact ⟨none, rfl, Same.refl _⟩
  · rintro i σ H' _ ⟨y, rfl, s2⟩
    exact Same.tup s2 sqt_new
  · rintro i x σ H' hi ⟨y, rfl, s2⟩
    rw [List.getElem?_drop, Nat.add_comm] at hi
    obtain ⟨k, hk, hfk⟩ := hf.getv hi
    obtain ⟨ax, rfl, hax⟩ := hfk.same (s1.trans s2)
    have hk0 := hp k (List.mem_of_getElem? hk)
    have hk1 := hb k (List.mem_of_getElem? hk)
    obtain ⟨g0, g1⟩ := gL_bd hp hb i hn
    obtain ⟨l1, l2, l3⟩ := fr_sm U (Int.le_of_lt g0) g1
    obtain ⟨m1, m2, m3⟩ := fr_sm U (Int.le_of_lt hk0) hk1
    have c1 := mulW l1 m2
    have c2 := mulW m1 l2
    have c3 := mulW l2 m2
    walk_at "go"
    refine ⟨_, _, rfl, ?_⟩
    walk_at "go"
    refine ⟨_, _, rfl, Int.mul_pos l3 m3, mul_lt l2 m2, fun p' np => ?_⟩
    have e : red (gcdI ((fr p q (gL ((k0 :: kr).take (i + 1)))).1 * (fr p q k).2) ((fr p q k).1 * (fr p q (gL ((k0 :: kr).take (i + 1)))).2)) ((fr p q (gL ((k0 :: kr).take (i + 1)))).2 * (fr p q k).2) = fr p q (gL ((k0 :: kr).take (i + 1 + 1))) := by
      rw [gL_take hk]
      exact fr_measure U.hp U.hq
    rw [e]
    walk_at "go"
    exact ⟨_, rfl, s2.trans (same_new np)⟩
  · rintro σ H' ⟨y, rfl, s2⟩
    walk_at "go"
    intro p' np
    refine qq _ _ ((s1.trans s2).trans (same_new np)) ?_
    rw [List.take_of_length_le (by rw [List.length_drop, hl]; simp)]
    exact Fr.new
def sp_measure (K : PySem.W.Frag) (CE : Addr) : Sp := fun vs H Q _ => ∃ (p q : Int) (os ds : List Int), EvIn K CE vs H p q os ds ∧ ∀ v H', Same H H' → Fr K H' v (fr p q (gL (os ++ ds))) → Q v H'
theorem pos_append {os ds : List Int} (h : QM.Pos os) (h' : QM.Pos ds) : QM.Pos (os ++ ds) := fun x hx => (List.mem_append.mp hx).elim (h x) (h' x)
theorem Gd.all {p q : Int} {os ds : List Int} (G : Gd p q os ds) : QM.Pos (os ++ ds) ∧ (∀ k ∈ os ++ ds, k ≤ 1000) ∧ os ++ ds ≠ [] ∧ (os ++ ds).length ≤ 1000 := by
  refine ⟨pos_append G.ev.po G.ev.pd, fun k hk => ?_, fun e => G.ev.no (List.append_eq_nil_iff.mp e).1, by have := G.le; simp; omega⟩
  have hb := G.bd
  have hs := G.ev.sum
  rcases List.mem_append.mp hk with e | e
  · have := pos_le_sum G.ev.po k e; omega
  · have := pos_le_sum G.ev.pd k e; omega
theorem sc_measure : FnScope ["evening"] ["evening"] (defScope s_measure) := ⟨rfl, rfl, rfl, by decide +kernel, rfl, by decide +kernel, by decide +kernel⟩
theorem ok_measure (T : Tx K mg CE CS) (C_all_sums : OkF P w K mg base "all_sums" ["evening"] 1 (sp_all_sums K CE)) (C_measure_of : OkF P w K mg base "measure_of" ["amounts"] 3 (sp_measure_of K)) : OkF P w K mg base "measure" ["evening"] 4 (sp_measure K CE) := by
  refine okF T.measure sc_measure (fun _ _ _ _ _ _ us hl => match us, hl with | [_], _ => rfl) (fun vs H Q E h => ?_) (fun f cd A outer s H vs Q E hr h => ?_)
  · obtain ⟨p, q, os, ds, ⟨e, rfl, _⟩, _⟩ := h; rfl
  obtain ⟨p, q, os, ds, ⟨e, rfl, he, G⟩, qq⟩ := h
  refine ⟨_, pss_one (ps_ret (C_measure_of.call hr (pa_cons (C_all_sums.call hr (pa_cons (pv 0) pa_nil)) pa_nil))), ?_⟩
  walk_at "go"
  refine ⟨p, q, os, ds, ⟨e, rfl, he, G⟩, fun a xs H' s1 hx hf => ?_⟩
  walk_at "go"
  obtain ⟨h1, h2, h3, h4⟩ := G.all
  exact ⟨a, xs, p, q, _, rfl, hx, hf, G.un, h1, h2, h3, h4, fun v H2 s2 hv => qq v H2 (s1.trans s2) hv⟩
/-! ### check_most, check_people -/
def sp_check_most : Sp := fun vs H Q _ => ∃ a b : Int, vs = [.int a, .int b] ∧ a ≤ b ∧ Q .non H
theorem sc_check_most : FnScope ["many", "most"] ["many", "most"] (defScope s_check_most) := ⟨rfl, rfl, rfl, by decide +kernel, rfl, by decide +kernel, by decide +kernel⟩
theorem ok_check_most (T : Tx K mg CE CS) : OkF P w K mg base "check_most" ["many", "most"] 1 sp_check_most := by
  refine okF T.check_most sc_check_most (fun _ _ _ _ _ _ us hl => match us, hl with | [_, _], _ => rfl) (fun vs H Q E h => ?_) (fun f cd A outer s H vs Q E hr h => ?_)
  · obtain ⟨a, b, rfl, _⟩ := h; rfl
  obtain ⟨a, b, rfl, hab, q⟩ := h
  refine ⟨_, pss_one (ps_if (pt_cmpR op_gt (pv 0) (pv 1) (nomark _)) (pss_one (ps_never)) (pss_nil)), ?_⟩
  walk_at "go"
  refine r_iteD (fun h => ?_) (fun h => ?_)
  · omega
  · walk_at "go"
    exact q
def sp_check_people (K : PySem.W.Frag) (CE : Addr) : Sp := fun vs H Q _ => ∃ (p q : Int) (os ds : List Int) (v : V) (m : Int), vs = [v, .int m] ∧ EvIn K CE [v] H p q os ds ∧ 8 ≤ m ∧ Q .non H
theorem sc_check_people : FnScope ["evening", "most"] ["evening", "most"] (defScope s_check_people) := ⟨rfl, rfl, rfl, by decide +kernel, rfl, by decide +kernel, by decide +kernel⟩
theorem ok_check_people (T : Tx K mg CE CS) (C_check_most : OkF P w K mg base "check_most" ["many", "most"] 1 sp_check_most) (C_people : OkF P w K mg base "people" ["evening"] 1 (sp_people K CE)) : OkF P w K mg base "check_people" ["evening", "most"] 2 (sp_check_people K CE) := by
  refine okF T.check_people sc_check_people (fun _ _ _ _ _ _ us hl => match us, hl with | [_, _], _ => rfl) (fun vs H Q E h => ?_) (fun f cd A outer s H vs Q E hr h => ?_)
  · obtain ⟨p, q, os, ds, v, m, rfl, _⟩ := h; rfl
  obtain ⟨p, q, os, ds, v, m, rfl, he, hm, qq⟩ := h
  refine ⟨_, pss_one (ps_expr (C_check_most.call hr (pa_cons (C_people.call hr (pa_cons (pv 0) pa_nil)) (pa_cons (pv 1) pa_nil)))), ?_⟩
  obtain ⟨e, ev, h1, G⟩ := id he
  walk_at "go"
  refine ⟨p, q, os, ds, he, ?_⟩
  walk_at "go"
  refine ⟨_, _, rfl, by have := G.le; omega, ?_⟩
  walk_at "go"
  exact qq
/-! ### whole_sums, units_of -/
/-- both sides by their measure -/
def sp_wholes (K : PySem.W.Frag) (CE : Addr) : Sp := fun vs H Q _ => ∃ (p q : Int) (os ds : List Int), EvIn K CE vs H p q os ds ∧ ∀ t a b H', Same H H' → SqT K H' t [.ref a, .ref b] → H' a = some (.lst ((os.map (· / gL (os ++ ds))).map V.int)) → H' b = some (.lst ((ds.map (· / gL (os ++ ds))).map V.int)) → Q (.ref t) H'
theorem fover_fr {p q g k : Int} (U : Un p q) (hg : 0 < g) (hd : g ∣ k) : fover (fr p q k) (fr p q g) = (k / g, 1) := by
  obtain ⟨c, rfl⟩ := hd
  rw [Int.mul_ediv_cancel_left _ (by omega), Int.mul_comm g c]
  exact fr_over U.hp U.hq hg c
end QH

/-! QW3: the walks of the sides by their measure -/
namespace QH
open PySem PySem.Spec L2 QF
variable {P : Program} {w : World} {K : PySem.W.Frag} {mg : Str → Option Value} {base : Heap} {CE CS : Addr}
theorem by_measure {K : PySem.W.Frag} {H : Hp} {xs ys : List V} {p q g : Int} {ks : List Int} (hf : Frs K H xs p q ks) (hl : ys.length = xs.length) (h : ∀ (i : Nat) (y : V), ys[i]? = some y → ∀ k, ks[i]? = some k → y = .int (k / g)) : ys = (ks.map (· / g)).map V.int := by
  rw [List.map_map]
  exact list_of_map (by rw [hl, hf.len]) fun i y hy k hk => h i y hy k hk
theorem sc_whole_sums : FnScope ["evening", "unit", "item"] ["evening"] (defScope s_whole_sums) := ⟨rfl, rfl, rfl, by decide +kernel, rfl, by decide +kernel, by decide +kernel⟩
theorem ok_whole_sums (T : Tx K mg CE CS) (C_measure : OkF P w K mg base "measure" ["evening"] 4 (sp_measure K CE)) (C_over : OkF P w K mg base "over" ["one", "other"] 3 (spOp CPos fover K)) : OkF P w K mg base "whole_sums" ["evening"] 5 (sp_wholes K CE) := by
  refine okF T.whole_sums sc_whole_sums (fun _ _ _ _ _ _ us hl => match us, hl with | [_], _ => rfl) (fun vs H Q E h => ?_) (fun f cd A outer s H vs Q E hr h => ?_)
  · obtain ⟨p, q, os, ds, ⟨e, rfl, _⟩, _⟩ := h; rfl
  obtain ⟨p, q, os, ds, ⟨e, rfl, he, G⟩, qq⟩ := h
  refine ⟨_, pss_cons (ps_set (i := 1) sc_whole_sums.nd rfl (Or.inr rfl) (C_measure.call hr (pa_cons (pv 0) pa_nil))) 
    (pss_one (ps_ret (pe_tup (pa_cons (pe_lc (own := [("item", 2)]) (g := gName 2) (tt := tYes) rfl sc_whole_sums.nd (pi_tup (pe_fld (pv 0) rfl)) (blkOk_by (own := [("item", 2)]) (N := ["evening", "unit", "item"]) (sc := defScope s_whole_sums) (by decide +kernel)) (fun _ _ _ _ _ => (pg_name (i := 2) sc_whole_sums.nd rfl (Or.inl rfl))) (fun _ _ _ _ _ => pts_nil) (fun _ _ _ _ _ => (pe_ix (r := rIxT K) ix_tup (C_over.call hr (pa_cons (pv 2) (pa_cons (pv 1) pa_nil))) pe_int (fun _ _ => rfl)))) (pa_cons (pe_lc (own := [("item", 2)]) (g := gName 2) (tt := tYes) rfl sc_whole_sums.nd (pi_tup (pe_fld (pv 0) rfl)) (blkOk_by (own := [("item", 2)]) (N := ["evening", "unit", "item"]) (sc := defScope s_whole_sums) (by decide +kernel)) (fun _ _ _ _ _ => (pg_name (i := 2) sc_whole_sums.nd rfl (Or.inl rfl))) (fun _ _ _ _ _ => pts_nil) (fun _ _ _ _ _ => (pe_ix (r := rIxT K) ix_tup (C_over.call hr (pa_cons (pv 2) (pa_cons (pv 1) pa_nil))) pe_int (fun _ _ => rfl)))) pa_nil))))), ?_⟩
  obtain ⟨a1, a2, a3, a4⟩ := G.all
  obtain ⟨g0, gd⟩ := gL_facts a1 a3
  have U := G.un
  have g1 : gL (os ++ ds) ≤ 1000 := by
    obtain ⟨k, hk⟩ : ∃ k, k ∈ os ++ ds := List.exists_mem_of_ne_nil _ a3
    have := (gd k hk).2
    have := a2 k hk
    omega
  have sg := fr_sm U (Int.le_of_lt g0) g1
  have pg : 0 < (fr p q (gL (os ++ ds))).1 := red_pos_l (Int.mul_pos g0 U.hp) U.hq
  walk_at "go"
  refine ⟨p, q, os, ds, ⟨e, rfl, he, G⟩, fun v H1 s1 hv => ?_⟩
  obtain ⟨dx, fs, ao, ad, vo, vd, h1, h2, h3, h4, h5, h6, h7⟩ := he.same s1
  have l1 := h6.len
  have l2 := h7.len
  have e1 := G.lo
  have e2 := G.ld
  walk_at "go"
  refine ⟨ao, rfl, ⟨_, h4⟩, fun D nD => lc_tupR (fun i y _ => ∀ k, os[i]? = some k → y = .int (k / gL (os ++ ds))) apart_val h4 nD (by omega) (fun i x H2 Q2 hi s2 hQ => ?_) (fun H2 ys s2 hD hl hR => ?_) gname_mono⟩
  · obtain ⟨k, hk, hfk⟩ := h6.getv hi
    have hm : k ∈ os ++ ds := List.mem_append_left _ (List.mem_of_getElem? hk)
    refine ⟨rfl, ?_⟩
    walk_at "go"
    refine ⟨x, v, _, _, rfl, hfk.same s2, hv.same s2, fr_sm U (Int.le_of_lt (a1 k hm)) (a2 k hm), sg, pg, fun p' np => ?_⟩
    walk_at "go"
    refine hQ _ _ (same_new np) fun k' hk' => ?_
    rw [hk] at hk'
    cases hk'
    rw [fover_fr U g0 (gd k hm).1]
  have eo := by_measure (K := K) h6 hl hR
  subst eo
  walk_at "go"
  refine ⟨ad, rfl, ⟨_, Same.tup s2 h5⟩, fun D2 nD2 => lc_tupR (fun i y _ => ∀ k, ds[i]? = some k → y = .int (k / gL (os ++ ds))) apart_val (Same.tup s2 h5) nD2 (by omega) (fun i x H3 Q3 hi s3 hQ => ?_) (fun H3 ys s3 hD3 hl3 hR3 => ?_) gname_mono⟩
  · obtain ⟨k, hk, hfk⟩ := h7.getv hi
    have hm : k ∈ os ++ ds := List.mem_append_right _ (List.mem_of_getElem? hk)
    refine ⟨rfl, ?_⟩
    walk_at "go"
    refine ⟨x, v, _, _, rfl, hfk.same (s2.trans s3), hv.same (s2.trans s3), fr_sm U (Int.le_of_lt (a1 k hm)) (a2 k hm), sg, pg, fun p' np => ?_⟩
    walk_at "go"
    refine hQ _ _ (same_new np) fun k' hk' => ?_
    rw [hk] at hk'
    cases hk'
    rw [fover_fr U g0 (gd k hm).1]
  have ed := by_measure (K := K) h7 hl3 hR3
  subst ed
  walk_at "go"
  intro t nt
  have s4 := same_new (o := .tup [V.ref D, V.ref D2]) nt
  exact qq t D D2 _ (((s1.trans s2).trans s3).trans s4) sqt_new (s4 _ _ (s3 _ _ hD)) (s4 _ _ hD3)
end QH

/-! QW4: the walks of units_of, sums_behind, joints_of -/
namespace QH
open PySem PySem.Spec L2 QF
variable {P : Program} {w : World} {K : PySem.W.Frag} {mg : Str → Option Value} {base : Heap} {CE CS : Addr}
theorem sc_units_of : FnScope ["evening", "unit", "item"] ["evening"] (defScope s_units_of) := ⟨rfl, rfl, rfl, by decide +kernel, rfl, by decide +kernel, by decide +kernel⟩
theorem ok_units_of (T : Tx K mg CE CS) (C_all_sums : OkF P w K mg base "all_sums" ["evening"] 1 (sp_all_sums K CE)) (C_measure_of : OkF P w K mg base "measure_of" ["amounts"] 3 (sp_measure_of K)) (C_over : OkF P w K mg base "over" ["one", "other"] 3 (spOp CPos fover K)) : OkF P w K mg base "units_of" ["evening"] 4 (sp_wholes K CE) := by
  refine okF T.units_of sc_units_of (fun _ _ _ _ _ _ us hl => match us, hl with | [_], _ => rfl) (fun vs H Q E h => ?_) (fun f cd A outer s H vs Q E hr h => ?_)
  · obtain ⟨p, q, os, ds, ⟨e, rfl, _⟩, _⟩ := h; rfl
  obtain ⟨p, q, os, ds, ⟨e, rfl, he, G⟩, qq⟩ := h
  refine ⟨_, pss_cons (ps_set (i := 1) sc_units_of.nd rfl (Or.inr rfl) (C_measure_of.call hr (pa_cons (C_all_sums.call hr (pa_cons (pv 0) pa_nil)) pa_nil))) 
    (pss_one (ps_ret (pe_tup (pa_cons (pe_lc (own := [("item", 2)]) (g := gName 2) (tt := tYes) rfl sc_units_of.nd (pi_tup (pe_fld (pv 0) rfl)) (blkOk_by (own := [("item", 2)]) (N := ["evening", "unit", "item"]) (sc := defScope s_units_of) (by decide +kernel)) (fun _ _ _ _ _ => (pg_name (i := 2) sc_units_of.nd rfl (Or.inl rfl))) (fun _ _ _ _ _ => pts_nil) (fun _ _ _ _ _ => (pe_ix (r := rIxT K) ix_tup (C_over.call hr (pa_cons (pv 2) (pa_cons (pv 1) pa_nil))) pe_int (fun _ _ => rfl)))) (pa_cons (pe_lc (own := [("item", 2)]) (g := gName 2) (tt := tYes) rfl sc_units_of.nd (pi_tup (pe_fld (pv 0) rfl)) (blkOk_by (own := [("item", 2)]) (N := ["evening", "unit", "item"]) (sc := defScope s_units_of) (by decide +kernel)) (fun _ _ _ _ _ => (pg_name (i := 2) sc_units_of.nd rfl (Or.inl rfl))) (fun _ _ _ _ _ => pts_nil) (fun _ _ _ _ _ => (pe_ix (r := rIxT K) ix_tup (C_over.call hr (pa_cons (pv 2) (pa_cons (pv 1) pa_nil))) pe_int (fun _ _ => rfl)))) pa_nil))))), ?_⟩
  obtain ⟨a1, a2, a3, a4⟩ := G.all
  obtain ⟨g0, gd⟩ := gL_facts a1 a3
  have U := G.un
  have g1 : gL (os ++ ds) ≤ 1000 := by
    obtain ⟨k, hk⟩ : ∃ k, k ∈ os ++ ds := List.exists_mem_of_ne_nil _ a3
    have := (gd k hk).2
    have := a2 k hk
    omega
  have sg := fr_sm U (Int.le_of_lt g0) g1
  have pg : 0 < (fr p q (gL (os ++ ds))).1 := red_pos_l (Int.mul_pos g0 U.hp) U.hq
  walk_at "go"
  refine ⟨p, q, os, ds, ⟨e, rfl, he, G⟩, fun aa xx H0 s0 hx0 hf0 => ?_⟩
  walk_at "go"
  refine ⟨aa, xx, p, q, _, rfl, hx0, hf0, U, a1, a2, a3, a4, fun v H1 s01 hv => ?_⟩
  have s1 := s0.trans s01
  obtain ⟨dx, fs, ao, ad, vo, vd, h1, h2, h3, h4, h5, h6, h7⟩ := he.same s1
  have l1 := h6.len
  have l2 := h7.len
  have e1 := G.lo
  have e2 := G.ld
  walk_at "go"
  refine ⟨ao, rfl, ⟨_, h4⟩, fun D nD => lc_tupR (fun i y _ => ∀ k, os[i]? = some k → y = .int (k / gL (os ++ ds))) apart_val h4 nD (by omega) (fun i x H2 Q2 hi s2 hQ => ?_) (fun H2 ys s2 hD hl hR => ?_) gname_mono⟩
  · obtain ⟨k, hk, hfk⟩ := h6.getv hi
    have hm : k ∈ os ++ ds := List.mem_append_left _ (List.mem_of_getElem? hk)
    refine ⟨rfl, ?_⟩
    walk_at "go"
    refine ⟨x, v, _, _, rfl, hfk.same s2, hv.same s2, fr_sm U (Int.le_of_lt (a1 k hm)) (a2 k hm), sg, pg, fun p' np => ?_⟩
    walk_at "go"
    refine hQ _ _ (same_new np) fun k' hk' => ?_
    rw [hk] at hk'
    cases hk'
    rw [fover_fr U g0 (gd k hm).1]
  have eo := by_measure (K := K) h6 hl hR
  subst eo
  walk_at "go"
  refine ⟨ad, rfl, ⟨_, Same.tup s2 h5⟩, fun D2 nD2 => lc_tupR (fun i y _ => ∀ k, ds[i]? = some k → y = .int (k / gL (os ++ ds))) apart_val (Same.tup s2 h5) nD2 (by omega) (fun i x H3 Q3 hi s3 hQ => ?_) (fun H3 ys s3 hD3 hl3 hR3 => ?_) gname_mono⟩
  · obtain ⟨k, hk, hfk⟩ := h7.getv hi
    have hm : k ∈ os ++ ds := List.mem_append_right _ (List.mem_of_getElem? hk)
    refine ⟨rfl, ?_⟩
    walk_at "go"
    refine ⟨x, v, _, _, rfl, hfk.same (s2.trans s3), hv.same (s2.trans s3), fr_sm U (Int.le_of_lt (a1 k hm)) (a2 k hm), sg, pg, fun p' np => ?_⟩
    walk_at "go"
    refine hQ _ _ (same_new np) fun k' hk' => ?_
    rw [hk] at hk'
    cases hk'
    rw [fover_fr U g0 (gd k hm).1]
  have ed := by_measure (K := K) h7 hl3 hR3
  subst ed
  walk_at "go"
  intro t nt
  have s4 := same_new (o := .tup [V.ref D, V.ref D2]) nt
  exact qq t D D2 _ (((s1.trans s2).trans s3).trans s4) sqt_new (s4 _ _ (s3 _ _ hD)) (s4 _ _ hD3)
/-! ### dicts of sums -/
def mkD (ss : List Int) : List (Key × V) := ss.map fun s => (Sum.inl s, V.bl true)
theorem valV_mk (s : Int) : ∀ ss : List Int, (valV (mkD ss) (Sum.inl s : Key)).isSome = decide (s ∈ ss)
  | [] => rfl
  | t :: r => by
    by_cases e : t = s
    · subst e
      rw [show mkD (t :: r) = (Sum.inl t, V.bl true) :: mkD r from rfl, valV_pos rfl]
      simp
    · rw [show mkD (t :: r) = (Sum.inl t, V.bl true) :: mkD r from rfl, valV_neg (fun z => e (Sum.inl.inj z)), valV_mk s r]
      simp [Ne.symm e]
theorem put_mk {s : Int} {ss : List Int} (h : s ∉ ss) : putK (mkD ss) (Sum.inl s : Key) (V.bl true) = mkD (ss ++ [s]) := by
  have e : valV (mkD ss) (Sum.inl s : Key) = none := by
    have := valV_mk s ss
    rw [decide_eq_false h] at this
    exact Option.isSome_eq_false_iff.mp this |> Option.isNone_iff_eq_none.mp
  rw [putK_new _ e]
  unfold mkD
  rw [List.map_append]
  rfl
def intsV (A : List Nat) : List V := A.map fun (a : Nat) => V.int a
def sp_sums_behind (K : PySem.W.Frag) : Sp := fun vs H Q _ => ∃ (a o : Addr) (ks : List Int) (A : List Nat), vs = [.ref a, .ref o] ∧ SqL K H a (ks.map V.int) ∧ SqT K H o (intsV A) ∧ (∀ x ∈ A, x < ks.length) ∧ QM.Pos ks ∧ A.length ≤ 1000 ∧
  ∀ d H', Same H H' → H d = none → H' d = some (.dK (mkD (QM.ps 0 (QM.vals ks A)))) → Q (.ref d) H'
theorem sc_sums_behind : FnScope ["numbers", "order", "found", "whole_sum", "item"] ["numbers", "order"] (defScope s_sums_behind) := ⟨rfl, rfl, rfl, by decide +kernel, rfl, by decide +kernel, by decide +kernel⟩
theorem take_snoc {α : Type} {l : List α} {i : Nat} {x : α} (h : l[i]? = some x) : l.take (i + 1) = l.take i ++ [x] := by rw [List.take_add_one, h]; rfl
theorem ok_sums_behind (T : Tx K mg CE CS) : OkF P w K mg base "sums_behind" ["numbers", "order"] 1 (sp_sums_behind K) := by
  refine okF T.sums_behind sc_sums_behind (fun _ _ _ _ _ _ us hl => match us, hl with | [_, _], _ => rfl) (fun vs H Q E h => ?_) (fun f cd A outer s H vs Q E hr h => ?_)
  · obtain ⟨a, o, ks, A, rfl, _⟩ := h; rfl
  obtain ⟨a, o, ks, A', rfl, ha, ho, hA, hp, hl, qq⟩ := h
  have hu := hu_of hr
  refine ⟨_, pss_cons (ps_set (i := 2) sc_sums_behind.nd rfl (Or.inl rfl) pe_dnewK) 
    (pss_cons (ps_set (i := 3) sc_sums_behind.nd rfl (Or.inl rfl) pe_int) 
    (pss_cons (ps_for PassesOwn.never rfl (pi_tup (pv 1)) (pg_name (i := 4) sc_sums_behind.nd rfl (Or.inl rfl)) (pss_cons (ps_aug (i := 3) sc_sums_behind.nd rfl (Or.inl rfl) (pe_ix ix_list (pv 0) (pv 4) (fun _ _ => rfl)) ip_add) 
        (pss_one (ps_dput hu (pv 2) (pv 3) pe_bl rfl)))) 
    (pss_one (ps_ret (pv 2))))), ?_⟩
  walk_at "go"
  intro d nd
  have s0 := same_new (o := .dK []) nd
  walk_at "go"
  have pA := QM.vals_pos hp hA
  refine ⟨o, rfl, ⟨_, Same.tup s0 ho⟩, for_tup (xs := intsV A') (fun i σ H' => ∃ y, σ = [some (.ref a), some (.ref o), some (.ref d), some (.int (QM.vals ks (A'.take i)).sum), y] ∧ Same H H' ∧ H' d = some (.dK (mkD (QM.ps 0 (QM.vals ks (A'.take i)))))) ?_ ?_ ?_ ?_⟩
  · exact ⟨none, rfl, s0, upd_same⟩
  · rintro i σ H' _ ⟨y, rfl, s1, _⟩
    exact Same.tup s1 ho
  · rintro i x σ H' hi ⟨y, rfl, s1, hd⟩
    obtain ⟨n, hn, rfl⟩ : ∃ n, A'[i]? = some n ∧ x = .int (n : Int) := by
      unfold intsV at hi
      rw [List.getElem?_map] at hi
      cases hA' : A'[i]? with
      | none => rw [hA'] at hi; cases hi
      | some n => rw [hA'] at hi; exact ⟨n, rfl, (Option.some.inj hi).symm⟩
    have hlt := hA n (List.mem_of_getElem? hn)
    have hk : (ks.map V.int)[n]? = some (.int (ks.getD n 0)) := by
      rw [List.getElem?_map, List.getElem?_eq_getElem hlt, List.getD_eq_getElem?_getD, List.getElem?_eq_getElem hlt]; rfl
    have et : QM.vals ks (A'.take (i + 1)) = QM.vals ks (A'.take i) ++ [ks.getD n 0] := by rw [take_snoc hn, QM.vals_snoc]
    have pT : QM.Pos (QM.vals ks (A'.take (i + 1))) := QM.vals_pos hp fun x hx => hA x (List.mem_of_mem_take hx)
    have k0 : 0 < ks.getD n 0 := by rw [et] at pT; exact pT _ (by simp)
    have pT0 : QM.Pos (QM.vals ks (A'.take i)) := QM.vals_pos hp fun x hx => hA x (List.mem_of_mem_take hx)
    walk_at "go"
    refine ⟨a, _, _, _, rfl, rfl, s1.seq ha, atI_nat hk, ?_⟩
    walk_at "go"
    refine ⟨_, rfl, _, rfl, d, _, rfl, DPut.k (k := Sum.inl _) hd ?_, ?_⟩
    · unfold mkD
      rw [List.length_map, QM.ps_length]
      simp only [QM.vals, List.length_map, List.length_take]
      rw [sizeLine_eq]; omega
    · refine ⟨some (.int (n : Int)), ?_, Same.mut s1 nd, ?_⟩
      · rw [et, List.sum_append]
        simp
      · rw [upd_same, put_mk, et, QM.ps_snoc, Int.zero_add]
        intro z
        have := QM.ps_le pT0 _ z
        omega
  · rintro σ H' ⟨y, rfl, s1, hd⟩
    walk_at "go"
    refine qq d H' s1 nd ?_
    rw [List.take_of_length_le (by simp [intsV])] at hd
    exact hd
/-! ### joints_of -/
theorem lc_keys {d D : Addr} {o : Obj} {kvs : List (Key × V)} {g : TG} {tt : TT} {te : TE} {vs : List Nat} {σ : L2.St} {H1 : Hp} {Qd : Hp → Prop} (Pv : Nat → Hp → Prop) (h0 : Pv 0 (upd H1 D (.lst []))) (hl : ∀ i H, Pv i H → H d = some (.frz o (.dK kvs)))
    (hs : ∀ (i : Nat) (k : Key) (v : V) H, kvs[i]? = some (k, v) → Pv i H → g (kV k) (wipe σ vs) H fun σ2 H2 => wipe σ2 vs = wipe σ vs ∧ tt σ2 H2 fun b H3 =>
      if b = true then te σ2 H3 fun y H4 => ∃ acc, H4 D = some (.lst acc) ∧ acc.length < sizeLine ∧ Pv (i + 1) (upd H4 D (.lst (acc ++ [y]))) else Pv (i + 1) H3) (hd : ∀ H, Pv kvs.length H → Qd H) :
    ∃ W : Nat → Nat → Hp → Prop, (∃ m, W 0 m (upd H1 D (.lst []))) ∧ ∀ i m H, W i m H →
      ((Itk d o kvs).stop i H ∧ Qd H) ∨ ((Itk d o kvs).go i H ∧ ∃ Nx : Hp → Prop, (∀ H', Nx H' → ∃ m', m' < m ∧ W (i + 1) m' H') ∧ ∀ x H', (Itk d o kvs).yld i H x H' → g x (wipe σ vs) H' fun σ2 H2 => wipe σ2 vs = wipe σ vs ∧ tt σ2 H2 fun b H3 =>
        if b = true then te σ2 H3 fun y H4 => ∃ acc, H4 D = some (.lst acc) ∧ acc.length < sizeLine ∧ Nx (upd H4 D (.lst (acc ++ [y]))) else Nx H3) := by
  refine ⟨fun i m H => m = kvs.length - i ∧ i ≤ kvs.length ∧ Pv i H, ⟨kvs.length, by simp, Nat.zero_le _, h0⟩, ?_⟩
  rintro i m H ⟨rfl, hi, p⟩
  have q := hl i H p
  by_cases hlt : i < kvs.length
  · refine .inr ⟨⟨q, hlt⟩, Pv (i + 1), fun H' p' => ⟨kvs.length - (i + 1), by omega, rfl, hlt, p'⟩, fun x H' y => ?_⟩
    obtain ⟨e, k, v, hk, ex⟩ := y
    subst e ex
    exact hs i k v _ hk p
  · have e : i = kvs.length := by omega
    subst e
    exact .inl ⟨⟨q, Nat.le_refl _⟩, hd H p⟩
def sp_joints_of : Sp := fun vs H Q _ => ∃ (d1 d2 : Addr) (ss ts : List Int), vs = [.ref d1, .ref d2] ∧ d1 ≠ d2 ∧ H d1 = some (.dK (mkD ss)) ∧ H d2 = some (.dK (mkD ts)) ∧ ss.length ≤ 1000 ∧ ∀ H', Same H H' → Q (.int ((ss.filter fun x => decide (x ∈ ts)).length : Nat)) H'
theorem sc_joints_of : FnScope ["one", "other", "whole_sum"] ["one", "other"] (defScope s_joints_of) := ⟨rfl, rfl, rfl, by decide +kernel, rfl, by decide +kernel, by decide +kernel⟩
theorem ok_joints_of (T : Tx K mg CE CS) : OkF P w K mg base "joints_of" ["one", "other"] 1 sp_joints_of := by
  refine okF T.joints_of sc_joints_of (fun _ _ _ _ _ _ us hl => match us, hl with | [_, _], _ => rfl) (fun vs H Q E h => ?_) (fun f cd A outer s H vs Q E hr h => ?_)
  · obtain ⟨a, o, ks, A, rfl, _⟩ := h; rfl
  obtain ⟨d1, d2, ss, ts, rfl, ne, h1, h2, hl, qq⟩ := h
  have hu := hu_of hr
  refine ⟨_, pss_one (ps_ret (pe_callB call_len_seq (by rfl) T.b_len PySem.boot_len (pa_cons (pe_lock (pe_lc (own := [("whole_sum", 2)]) (g := gName 2) rfl sc_joints_of.nd (pi_keys (pv 0)) (blkOk_by (own := [("whole_sum", 2)]) (N := ["one", "other", "whole_sum"]) (sc := defScope s_joints_of) (by decide +kernel)) (fun _ _ _ _ _ => (pg_name (i := 2) sc_joints_of.nd rfl (Or.inl rfl))) (fun _ _ _ _ _ => pts_one (pt_cmp (pc_din hu (pv 2) (pv 1)))) (fun _ _ _ _ _ => (pv 2)))) pa_nil))), ?_⟩
  walk_at "go"
  refine ⟨d1, _, h1, trivial, fun od => ?_⟩
  walk_at "go"
  refine ⟨_, rfl, d1, od, rfl, .inl ⟨_, upd_same, fun D nD => lc_keys (fun i H' => Same (upd H d1 (.frz od (.dK (mkD ss)))) H' ∧ H' D = some (.lst (((ss.take i).filter fun x => decide (x ∈ ts)).map V.int))) ⟨same_new nD, upd_same⟩ (fun i H' ⟨s1, _⟩ => s1 _ _ upd_same) (fun i k v H' hk ⟨s1, hD⟩ => ?_) (fun H' ⟨s1, hD⟩ => ?_)⟩⟩
  · obtain ⟨x, hx, rfl, rfl⟩ : ∃ x, ss[i]? = some x ∧ (Sum.inl x : Key) = k ∧ V.bl true = v := by
      unfold mkD at hk
      rw [List.getElem?_map] at hk
      cases hs : ss[i]? with
      | none => rw [hs] at hk; cases hk
      | some x => rw [hs] at hk; cases hk; exact ⟨x, rfl, rfl, rfl⟩
    have hd2 : H' d2 = some (.dK (mkD ts)) := s1 _ _ (by rw [upd_ne (Ne.symm ne)]; exact h2)
    have ne2 : ∀ b o, upd H d1 (.frz od (.dK (mkD ss))) b = some o → b ≠ D := fun b o e z => by
      rw [z, nD] at e; cases e
    have eT : (ss.take (i + 1)).filter (fun x => decide (x ∈ ts)) = (ss.take i).filter (fun x => decide (x ∈ ts)) ++ (if x ∈ ts then [x] else []) := by
      rw [take_snoc hx, List.filter_append]
      congr 1
      by_cases hm : x ∈ ts <;> simp [hm]
    refine ⟨rfl, ?_⟩
    walk_at "go"
    refine ⟨_, rfl, _, rfl, d2, _, rfl, DGet.k (k := Sum.inl x) hd2, ?_⟩
    rw [valV_mk]
    walk_at "go"
    refine r_iteD (fun hm => ?_) (fun hm => ?_)
    · walk_at "go"
      refine ⟨_, hD, ?_, fun b o e => ?_, ?_⟩
      · rw [List.length_map, sizeLine_eq]
        have := List.length_filter_le (fun x => decide (x ∈ ts)) (ss.take i)
        rw [List.length_take] at this
        omega
      · rw [upd_ne (ne2 b o e)]
        exact s1 b o e
      · rw [upd_same, eT, if_pos hm, List.map_append]; rfl
    · refine ⟨s1, ?_⟩
      rw [eT, if_neg hm, List.append_nil]
      exact hD
  · refine ⟨s1 _ _ upd_same, ?_⟩
    have neD : D ≠ d1 := fun z => by rw [z, upd_same] at nD; cases nD
    walk_at "go"
    refine ⟨D, _, rfl, .inl (SqL.of (by rw [upd_ne neD]; exact hD)), ?_⟩
    rw [List.length_map, List.take_of_length_le (by simp [mkD])]
    refine qq _ fun b o e => ?_
    by_cases hb : b = d1
    · subst hb
      rw [upd_same, ← e, h1]
    · rw [upd_ne hb]
      exact s1 b o (by rw [upd_ne hb]; exact e)
end QH

/-! QW5: the walk of best_orders -/
namespace QH
open PySem PySem.Spec L2 QF
variable {P : Program} {w : World} {K : PySem.W.Frag} {mg : Str → Option Value} {base : Heap} {CE CS : Addr}
/-! ### both sides by their measure: the plain part -/
theorem scaled_back {g : Int} {ks : List Int} (h : ∀ k ∈ ks, g ∣ k) : (ks.map (· / g)).map (g * ·) = ks := by
  rw [List.map_map]
  have : ∀ k ∈ ks, ((fun x => g * x) ∘ fun x => x / g) k = k := fun k hk => Int.mul_ediv_cancel' (h k hk)
  rw [List.map_congr_left this, List.map_id']
theorem sum_map_mul (g : Int) : ∀ ks : List Int, (ks.map (g * ·)).sum = g * ks.sum
  | [] => by simp
  | k :: r => by rw [List.map_cons, List.sum_cons, List.sum_cons, sum_map_mul g r, Int.mul_add]
theorem scaled_even {g : Int} {os ds : List Int} (hg : 0 < g) (E : QM.Even os ds) (ho : ∀ k ∈ os, g ∣ k) (hd : ∀ k ∈ ds, g ∣ k) : QM.Even (os.map (· / g)) (ds.map (· / g)) := by
  have pos : ∀ ks : List Int, QM.Pos ks → (∀ k ∈ ks, g ∣ k) → QM.Pos (ks.map (· / g)) := fun ks hp hd x hx => by
    obtain ⟨k, hk, rfl⟩ := List.mem_map.mp hx
    exact Int.ediv_pos_of_pos_of_dvd (hp k hk) (Int.le_of_lt hg) (hd k hk)
  refine ⟨pos os E.po ho, pos ds E.pd hd, fun e => E.no (List.map_eq_nil_iff.mp e), ?_⟩
  have e := E.sum
  rw [← scaled_back ho, ← scaled_back hd, sum_map_mul, sum_map_mul] at e
  exact Int.eq_of_mul_eq_mul_left (by omega) e
theorem scaled_gq {g : Int} {os ds : List Int} (hg : 0 < g) (ho : ∀ k ∈ os, g ∣ k) (hd : ∀ k ∈ ds, g ∣ k) (A B : List Nat) : QM.gq (os.map (· / g)) (ds.map (· / g)) A B = QM.gq os ds A B := by
  have := QM.gq_scale hg (os.map (· / g)) (ds.map (· / g)) A B
  rw [scaled_back ho, scaled_back hd] at this
  exact this.symm
/-! ### walks over permutations -/
theorem lc_perm {n : Nat} {D : Addr} {g : TG} {tt : TT} {te : TE} {vs : List Nat} {σ : L2.St} {H1 : Hp} {Qd : Hp → Prop} (Pv : Nat → Hp → Prop) (h0 : Pv 0 (upd H1 D (.lst [])))
    (hs : ∀ (i : Nat) A t H, (QM.ords n n)[i]? = some A → H t = none → Pv i H → g (.ref t) (wipe σ vs) (upd H t (.tup (intsV A))) fun σ2 H2 => wipe σ2 vs = wipe σ vs ∧ tt σ2 H2 fun b H3 =>
      if b = true then te σ2 H3 fun y H4 => ∃ acc, H4 D = some (.lst acc) ∧ acc.length < sizeLine ∧ Pv (i + 1) (upd H4 D (.lst (acc ++ [y]))) else Pv (i + 1) H3) (hd : ∀ H, Pv (QM.ords n n).length H → Qd H) :
    ∃ W : Nat → Nat → Hp → Prop, (∃ m, W 0 m (upd H1 D (.lst []))) ∧ ∀ i m H, W i m H →
      ((QP.Itp n).stop i H ∧ Qd H) ∨ ((QP.Itp n).go i H ∧ ∃ Nx : Hp → Prop, (∀ H', Nx H' → ∃ m', m' < m ∧ W (i + 1) m' H') ∧ ∀ x H', (QP.Itp n).yld i H x H' → g x (wipe σ vs) H' fun σ2 H2 => wipe σ2 vs = wipe σ vs ∧ tt σ2 H2 fun b H3 =>
        if b = true then te σ2 H3 fun y H4 => ∃ acc, H4 D = some (.lst acc) ∧ acc.length < sizeLine ∧ Nx (upd H4 D (.lst (acc ++ [y]))) else Nx H3) := by
  refine ⟨fun i m H => m = (QM.ords n n).length - i ∧ i ≤ (QM.ords n n).length ∧ Pv i H, ⟨(QM.ords n n).length, by simp, Nat.zero_le _, h0⟩, ?_⟩
  rintro i m H ⟨rfl, hi, p⟩
  by_cases hlt : i < (QM.ords n n).length
  · refine .inr ⟨hlt, Pv (i + 1), fun H' p' => ⟨(QM.ords n n).length - (i + 1), by omega, rfl, hlt, p'⟩, fun x H' y => ?_⟩
    obtain ⟨t, A, ex, nt, hA, e⟩ := y
    subst e ex
    exact hs i A t H hA nt p
  · have e : i = (QM.ords n n).length := by omega
    subst e
    exact .inl ⟨Nat.le_refl _, hd H p⟩
theorem for_perm {n : Nat} {g : TG} {tb : TS} {D : Ends} {σ : L2.St} {H : Hp} (Pv : Nat → L2.St → Hp → Prop) (h0 : Pv 0 σ H)
    (hs : ∀ (i : Nat) A t σ H, (QM.ords n n)[i]? = some A → H t = none → Pv i σ H → g (.ref t) σ (upd H t (.tup (intsV A))) fun σ2 H2 => tb { D with nx := Pv (i + 1), ct := Pv (i + 1), bk := D.nx } σ2 H2) (hd : ∀ σ H, Pv (QM.ords n n).length σ H → D.nx σ H) :
    ∃ W : Nat → Nat → L2.St → Hp → Prop, (∃ m, W 0 m σ H) ∧ ∀ i m σ H, W i m σ H →
      ((QP.Itp n).stop i H ∧ D.nx σ H) ∨ ((QP.Itp n).go i H ∧ ∃ N : L2.St → Hp → Prop, (∀ σ' H', N σ' H' → ∃ m', m' < m ∧ W (i + 1) m' σ' H') ∧ ∀ x H', (QP.Itp n).yld i H x H' → g x σ H' fun σ2 H2 => tb { D with nx := N, ct := N, bk := D.nx } σ2 H2) := by
  refine ⟨fun i m σ H => m = (QM.ords n n).length - i ∧ i ≤ (QM.ords n n).length ∧ Pv i σ H, ⟨(QM.ords n n).length, by simp, Nat.zero_le _, h0⟩, ?_⟩
  rintro i m σ H ⟨rfl, hi, p⟩
  by_cases hlt : i < (QM.ords n n).length
  · refine .inr ⟨hlt, Pv (i + 1), fun σ' H' p' => ⟨(QM.ords n n).length - (i + 1), by omega, rfl, hlt, p'⟩, fun x H' y => ?_⟩
    obtain ⟨t, A, ex, nt, hA, e⟩ := y
    subst e ex
    exact hs i A t σ H hA nt p
  · have e : i = (QM.ords n n).length := by omega
    subst e
    exact .inl ⟨Nat.le_refl _, hd σ H p⟩
/-! ### a choice as a test -/
def tIfT (t ta tb : TT) : TT := fun σ H Q => t σ H fun c H1 => if c = true then ta σ H1 Q else tb σ H1 Q
theorem pt_ifT {X : Cx} {c a b : Expr} {tc ta tb : TT} {pos : PySem.Pos} (hc : PT X c tc) (ha : PT X a ta) (hb : PT X b tb) : PT X (.IfExp c a b pos) (tIfT tc ta tb) := by
  refine ⟨fun pins s σ H Q I h => ?_⟩
  refine PyProof.Rows.isTrue_IfExp (thn (hc.run pins s σ H _ I h) fun d s1 ⟨H1, I1, q1⟩ => ?_)
  cases d with
  | true => exact ha.run pins s1 σ H1 Q I1 q1
  | false => exact hb.run pins s1 σ H1 Q I1 q1
theorem r_ifT {tc ta tb : TT} {σ : L2.St} {H : Hp} {Q : Bool → Hp → Prop} (h : tc σ H fun c H1 => if c = true then ta σ H1 Q else tb σ H1 Q) : tIfT tc ta tb σ H Q := h
theorem r_rg1 {ta : TE} {σ : L2.St} {H : Hp} {R : Int → Int → Hp → Prop} (h : ta σ H fun x H1 => ∃ n, x = .int n ∧ R 0 n H1) : tRg1 ta σ H R := h
theorem ords_len {n : Nat} (h : n ≤ 6) : (QM.ords n n).length < 800 := by
  obtain ⟨e, l⟩ := QM.sts_ords n h
  rw [← e, List.length_map]; exact l
theorem r_iperm {te : L2.St → Hp → (Int → Int → Hp → Prop) → Prop} {σ : L2.St} {H : Hp} {R : It → Hp → Prop} (h : te σ H fun a b H1 => a = 0 ∧ ∃ n : Nat, b = n ∧ n ≤ 6 ∧ R (QP.Itp n) H1) : QP.iPerm te σ H R := h
/-! ### what a search has found, as a value -/
def IsB (H : Hp) (v : V) (x : Int) (A B : List Nat) : Prop := ∃ t t2 a b, v = .ref t ∧ H t = some (.tup [.int x, .ref t2]) ∧ H t2 = some (.tup [.ref a, .ref b]) ∧ H a = some (.tup (intsV A)) ∧ H b = some (.tup (intsV B))
def IsBest (H : Hp) (v : V) : QM.Bst → Prop
  | none => v = .non
  | some (x, A, B) => IsB H v x A B
theorem IsB.same {H H' : Hp} {v : V} {x : Int} {A B : List Nat} (s : Same H H') (h : IsB H v x A B) : IsB H' v x A B := by
  obtain ⟨t, t2, a, b, e, h1, h2, h3, h4⟩ := h
  exact ⟨t, t2, a, b, e, s _ _ h1, s _ _ h2, s _ _ h3, s _ _ h4⟩
theorem IsBest.same {H H' : Hp} {v : V} {b : QM.Bst} (s : Same H H') (h : IsBest H v b) : IsBest H' v b := by
  cases b with
  | none => exact h
  | some r => obtain ⟨x, A, B⟩ := r; exact IsB.same s h
theorem foldl_take {α β : Type} {f : β → α → β} {l : List α} {i : Nat} {x : α} (b : β) (h : l[i]? = some x) : (l.take (i + 1)).foldl f b = f ((l.take i).foldl f b) x := by
  rw [take_snoc h, List.foldl_append]; rfl
/-- an item of takers -/
def TkAt (ds : List Int) (t : Nat) (i : Nat) (y : V) (H : Hp) : Prop := ∃ B p o d, (QM.ords t t)[i]? = some B ∧ y = .ref p ∧ H p = some (.tup [.ref o, .ref d]) ∧ H o = some (.tup (intsV B)) ∧ H d = some (.dK (mkD (QM.ps 0 (QM.vals ds B))))
theorem TkAt.apart {ds : List Int} {t : Nat} {D : Addr} : Apart D (TkAt ds t) := fun i y H H' acc hD k h => by
  obtain ⟨B, p, o, d, h0, h1, h2, h3, h4⟩ := h
  exact ⟨B, p, o, d, h0, h1, k p _ (fun z => by rw [z, hD] at h2; cases h2) h2, k o _ (fun z => by rw [z, hD] at h3; cases h3) h3, k d _ (fun z => by rw [z, hD] at h4; cases h4) h4⟩
theorem TkAt.same {ds : List Int} {t i : Nat} {y : V} {H H' : Hp} (s : Same H H') (h : TkAt ds t i y H) : TkAt ds t i y H' := by
  obtain ⟨B, p, o, d, h0, h1, h2, h3, h4⟩ := h
  exact ⟨B, p, o, d, h0, h1, s _ _ h2, s _ _ h3, s _ _ h4⟩
theorem take1_none {few : Bool} {x : Int} {A B : List Nat} : QM.take1 few x A B none = some (x, A, B) := rfl
theorem take1_some {few : Bool} {x y : Int} {A B C D : List Nat} : QM.take1 few x A B (some (y, C, D)) = if QM.better few x y = true then some (x, A, B) else some (y, C, D) := rfl
def sp_best (K : PySem.W.Frag) (CE : Addr) (few : Bool) (e : Addr) (H : Hp) (Q : VK) : Prop := ∃ (p q : Int) (os ds : List Int), EvAt K CE H e p q os ds ∧ Gd p q os ds ∧
  ∀ v H' x A B, Same H H' → QM.search few (QM.gq os ds) (QM.ords os.length os.length) (QM.ords ds.length ds.length) = some (x, A, B) → IsB H' v x A B → Q v H'
def sp_best_orders (K : PySem.W.Frag) (CE : Addr) : Sp := fun vs H Q _ => ∃ (e : Addr) (few : Bool), vs = [.ref e, .bl few] ∧ sp_best K CE few e H Q
theorem sc_best_orders : FnScope ["evening", "wants_few", "owed", "due", "order", "takers", "best", "owers", "known", "sums", "number"] ["evening", "wants_few"] (defScope s_best_orders) := ⟨rfl, rfl, rfl, by decide +kernel, rfl, by decide +kernel, by decide +kernel⟩
theorem ok_best_orders (T : Tx K mg CE CS) (C_check_most : OkF P w K mg base "check_most" ["many", "most"] 1 sp_check_most) (C_people : OkF P w K mg base "people" ["evening"] 1 (sp_people K CE)) (C_whole_sums : OkF P w K mg base "whole_sums" ["evening"] 5 (sp_wholes K CE))
    (C_sums_behind : OkF P w K mg base "sums_behind" ["numbers", "order"] 1 (sp_sums_behind K)) (C_joints_of : OkF P w K mg base "joints_of" ["one", "other"] 1 sp_joints_of) : OkF P w K mg base "best_orders" ["evening", "wants_few"] 6 (sp_best_orders K CE) := by
  refine okF T.best_orders sc_best_orders (fun _ _ _ _ _ _ us hl => match us, hl with | [_, _], _ => rfl) (fun vs H Q E h => ?_) (fun f cd A outer s H vs Q E hr h => ?_)
  · obtain ⟨v, few, rfl, _⟩ := h; rfl
  obtain ⟨e, few, rfl, p, q, os, ds, he, G, qq⟩ := h
  obtain ⟨tO, mOrd⟩ := T.mOrd
  refine ⟨_, pss_cons (ps_expr (C_check_most.call hr (pa_cons (C_people.call hr (pa_cons (pv 0) pa_nil)) (pa_cons (pe_glob (v := .int 9) rfl mOrd ⟨_, rfl⟩) pa_nil)))) 
    (pss_cons (ps_asg (C_whole_sums.call hr (pa_cons (pv 0) pa_nil)) (pg_tup rfl (pgs_cons (pg_name (i := 2) sc_best_orders.nd rfl (Or.inl rfl)) (pgs_cons (pg_name (i := 3) sc_best_orders.nd rfl (Or.inr rfl)) pgs_nil)))) 
    (pss_cons (ps_setLc (i := 5) (own := [("order", 4)]) (g := gName 4) (tt := tYes) rfl sc_best_orders.nd rfl rfl (sw_true rfl rfl rfl (by decide +kernel)) (QP.pi_perm rfl (by rfl) T.perm (prg_1 (by rfl) T.b_range (pe_callB call_len_seq (by rfl) T.b_len PySem.boot_len (pa_cons (pv 3) pa_nil)))) (blkOk_by (own := [("order", 4)]) (N := ["evening", "wants_few", "owed", "due", "order", "takers", "best", "owers", "known", "sums", "number"]) (sc := defScope s_best_orders) (by decide +kernel)) (fun _ _ _ _ _ => (pg_name (i := 4) sc_best_orders.nd rfl (Or.inl rfl))) (fun _ _ _ _ _ => pts_nil) (fun _ _ _ _ _ => (pe_tup (pa_cons (pv 4) (pa_cons (C_sums_behind.call hr (pa_cons (pv 3) (pa_cons (pv 4) pa_nil))) pa_nil))))) 
    (pss_cons (ps_set (i := 6) sc_best_orders.nd rfl (Or.inl rfl) pe_non) 
    (pss_cons (ps_for PassesOwn.never rfl (QP.pi_perm rfl (by rfl) T.perm (prg_1 (by rfl) T.b_range (pe_callB call_len_seq (by rfl) T.b_len PySem.boot_len (pa_cons (pv 2) pa_nil)))) (pg_name (i := 7) sc_best_orders.nd rfl (Or.inl rfl)) (pss_cons (ps_set (i := 8) sc_best_orders.nd rfl (Or.inl rfl) (C_sums_behind.call hr (pa_cons (pv 2) (pa_cons (pv 7) pa_nil)))) 
        (pss_one (ps_for PassesOwn.never rfl (pi_list (pv 5)) (pg_tup rfl (pgs_cons (pg_name (i := 4) sc_best_orders.nd rfl (Or.inl rfl)) (pgs_cons (pg_name (i := 9) sc_best_orders.nd rfl (Or.inl rfl)) pgs_nil))) (pss_cons (ps_set (i := 10) sc_best_orders.nd rfl (Or.inl rfl) (pe_op op_sub (C_people.call hr (pa_cons (pv 0) pa_nil)) (C_joints_of.call hr (pa_cons (pv 8) (pa_cons (pv 9) pa_nil))))) 
            (pss_one (ps_if (PW.pt (pw_or (pt_cmpR op_isN (pv 6) pe_non (nomark _)) (pw_or1 (pt_ifT (pt_val (pv 1)) (pt_cmpR op_lt (pv 10) (pe_ix ix_tup (pv 6) pe_int (fun _ _ => rfl)) (nomark _)) (pt_cmpR op_gt (pv 10) (pe_ix ix_tup (pv 6) pe_int (fun _ _ => rfl)) (nomark _)))))) (pss_one (ps_set (i := 6) sc_best_orders.nd rfl (Or.inl rfl) (pe_tup (pa_cons (pv 10) (pa_cons (pe_tup (pa_cons (pv 7) (pa_cons (pv 4) pa_nil))) pa_nil))))) (pss_nil)))))))) 
    (pss_one (ps_ret (pv 6))))))), ?_⟩
  obtain ⟨a1, a2, a3, a4⟩ := G.all
  have e1 := G.lo
  have e2 := G.ld
  have e3 := G.le
  walk_at "go"
  refine ⟨p, q, os, ds, ⟨e, rfl, he, G⟩, ?_⟩
  walk_at "go"
  refine ⟨_, _, rfl, by omega, ?_⟩
  walk_at "go"
  refine ⟨p, q, os, ds, ⟨e, rfl, he, G⟩, fun t0 aO aD H1 s1 ht hO hD => ?_⟩
  walk_at "go"
  have g0 := (gL_facts a1 a3).1
  have go : ∀ k ∈ os, gL (os ++ ds) ∣ k := fun k hk => ((gL_facts a1 a3).2 k (List.mem_append_left _ hk)).1
  have gd : ∀ k ∈ ds, gL (os ++ ds) ∣ k := fun k hk => ((gL_facts a1 a3).2 k (List.mem_append_right _ hk)).1
  have E' := scaled_even g0 G.ev go gd
  have gqe := scaled_gq g0 go gd
  have lo' : (os.map (· / gL (os ++ ds))).length = os.length := List.length_map _
  have ld' : (ds.map (· / gL (os ++ ds))).length = ds.length := List.length_map _
  generalize os.map (· / gL (os ++ ds)) = os' at *
  generalize ds.map (· / gL (os ++ ds)) = ds' at *
  refine r_iperm (r_rg1 ?_)
  walk_at "go"
  refine ⟨aD, _, rfl, .inl (SqL.of hD), ?_⟩
  walk_at "go"
  refine ⟨rfl, ds.length, by rw [List.length_map, ld'], e2, fun D nD => ?_⟩
  refine lc_perm (fun i H' => LcInv H1 D (TkAt ds' ds.length) i H') (LcInv.zero nD) (fun i B t H' hB nt I => ?_) (fun H2 I => ?_)
  · have oB := QM.mem_ords_iff.mp (List.mem_of_getElem? hB)
    have hi := (List.getElem?_eq_some_iff.mp hB).1
    have ll := ords_len e2
    refine ⟨rfl, yes_ok ?_⟩
    walk_at "go"
    refine ⟨aD, t, ds', B, rfl, (SqL.of (same_new nt _ _ (I.1 _ _ hD))), sqt_new, fun x hx => by rw [ld']; exact oB.lt x hx, E'.pd, by rw [oB.len]; omega, fun d H3 s3 nd hd => ?_⟩
    walk_at "go"
    intro p np
    have s4 := same_new (o := .tup [V.ref t, V.ref d]) np
    exact LcInv.step nD TkAt.apart I (by omega) (((same_new nt).trans s3).trans s4) ⟨B, p, t, d, hB, rfl, upd_same, s4 _ _ (s3 _ _ upd_same), s4 _ _ hd⟩
  obtain ⟨s2, acc, hL, lL, hT⟩ := I
  walk_at "go"
  refine r_iperm (r_rg1 ?_)
  walk_at "go"
  refine ⟨aO, _, rfl, .inl (SqL.of (s2 _ _ hO)), ?_⟩
  walk_at "go"
  refine ⟨rfl, os.length, by rw [List.length_map, lo'], e1, ?_⟩
  refine for_perm (fun i σ H' => ∃ v y4 y7 y8 y9 y10, σ = [some (.ref e), some (.bl few), some (.ref aO), some (.ref aD), y4, some (.ref D), some v, y7, y8, y9, y10] ∧ Same H2 H' ∧
    IsBest H' v (((QM.ords os.length os.length).take i).foldl (fun b A => QM.inner few (QM.gq os ds) A (QM.ords ds.length ds.length) b) none)) ?_ ?_ ?_
  · exact ⟨.non, _, _, _, _, _, rfl, Same.refl H2, rfl⟩
  · rintro i A t σ H' hA nt ⟨v, y4, y7, y8, y9, y10, rfl, s3, hv⟩
    have oA := QM.mem_ords_iff.mp (List.mem_of_getElem? hA)
    have st := same_new (o := .tup (intsV A)) nt
    walk_at "go"
    refine ⟨aO, t, os', A, rfl, (SqL.of (st _ _ (s3 _ _ (s2 _ _ hO)))), sqt_new, fun x hx => by rw [lo']; exact oA.lt x hx, E'.po, by rw [oA.len]; omega, fun d H3 s4 nd hd => ?_⟩
    walk_at "go"
    have s5 := s3.trans (st.trans s4)
    have ht3 := s4 _ _ (upd_same (H := H') (a := t) (o := .tup (intsV A)))
    rw [foldl_take none hA]
    generalize ((QM.ords os.length os.length).take i).foldl (fun b A => QM.inner few (QM.gq os ds) A (QM.ords ds.length ds.length) b) none = b0 at *
    have hv3 := hv.same (st.trans s4)
    refine ⟨D, rfl, ⟨_, SqL.of (s5 _ _ hL)⟩, for_list (xs := acc) (fun j σ H' => ∃ v y4 y9 y10, σ = [some (.ref e), some (.bl few), some (.ref aO), some (.ref aD), y4, some (.ref D), some v, some (.ref t), some (.ref d), y9, y10] ∧ Same H3 H' ∧
      IsBest H' v (((QM.ords ds.length ds.length).take j).foldl (fun b B => QM.take1 few (QM.gq os ds A B) A B b) b0)) ?_ ?_ ?_ ?_⟩
    · exact ⟨v, _, _, _, rfl, Same.refl H3, hv3⟩
    · rintro j σ H4 _ ⟨v, y4, y9, y10, rfl, s6, _⟩
      exact SqL.of (s6 _ _ (s5 _ _ hL))
    · rintro j x σ H4 hx ⟨v, y4, y9, y10, rfl, s6, hv4⟩
      obtain ⟨B, pp, o, dd, hB, rfl, hp, ho, hdd0⟩ := hT j x hx
      have oB := QM.mem_ords_iff.mp (List.mem_of_getElem? hB)
      have s7 := s5.trans s6
      have hp4 : SqT K H4 pp [.ref o, .ref dd] := .inl (.inl (s7 _ _ hp))
      have ne : d ≠ dd := fun z => by
        rw [z] at nd
        have := st _ _ (s3 _ _ hdd0)
        rw [nd] at this; cases this
      rw [foldl_take b0 hB]
      generalize ((QM.ords ds.length ds.length).take j).foldl (fun b B => QM.take1 few (QM.gq os ds A B) A B b) b0 = b1 at *
      walk_at "go"
      refine ⟨p, q, os, ds, ⟨e, rfl, he.same (s1.trans (s2.trans s7)), G⟩, ?_⟩
      walk_at "go"
      refine ⟨d, dd, _, _, rfl, ne, s6 _ _ hd, s7 _ _ hdd0, by rw [QM.ps_length]; simp only [QM.vals, List.length_map]; rw [oA.len]; omega, fun H5 s8 => ?_⟩
      walk_at "go"
      have en : (os.length : Int) + ds.length - (((QM.ps 0 (QM.vals os' A)).filter fun x => decide (x ∈ QM.ps 0 (QM.vals ds' B))).length : Nat) = QM.gq os ds A B := by
        have := QM.gq_joints E' (lo' ▸ oA) (ld' ▸ oB)
        rw [gqe, lo', ld'] at this
        show (os.length : Int) + ds.length - (QM.joints (QM.vals os' A) (QM.vals ds' B) : Nat) = _
        omega
      rw [en]
      have hv5 := hv4.same s8
      have ho5 := (s7.trans s8) _ _ ho
      have ht5 := (s6.trans s8) _ _ ht3
      cases b1 with
      | none =>
        obtain rfl : v = .non := hv5
        rw [take1_none]
        walk_at "go"
        refine ⟨rfl, _, rfl, r_iteD (fun _ => ?_) (fun h => absurd rfl h)⟩
        walk_at "go"
        intro t5 n5
        walk_at "go"
        intro t6 n6
        walk_at "go"
        have s9 := same_new (o := .tup [V.ref t, V.ref o]) n5
        have s10 := same_new (o := .tup [V.int (QM.gq os ds A B), V.ref t5]) n6
        exact ⟨_, _, _, _, rfl, s6.trans (s8.trans (s9.trans s10)), t6, t5, t, o, rfl, upd_same, s10 _ _ upd_same, s10 _ _ (s9 _ _ ht5), s10 _ _ (s9 _ _ ho5)⟩
      | some r =>
        obtain ⟨y, C, E1⟩ := r
        rw [take1_some]
        have hv6 : IsB H5 v y C E1 := hv5
        obtain ⟨tq, tq2, ta, tb, rfl, hq1, hq2, hq3, hq4⟩ := hv6
        have hqs : SqT K H5 tq [.int y, .ref tq2] := .inl (.inl hq1)
        walk_at "go"
        refine ⟨rfl, _, rfl, r_iteD (fun h => nomatch h) (fun _ => r_ifT ?_)⟩
        walk_at "go"
        cases few with
        | true =>
          walk_at "go"
          refine r_iteD (fun h => ?_) (fun h => ?_)
          · rw [if_pos (show QM.better true (QM.gq os ds A B) y = true from decide_eq_true h)]
            walk_at "go"
            intro t5 n5
            walk_at "go"
            intro t6 n6
            walk_at "go"
            have s9 := same_new (o := .tup [V.ref t, V.ref o]) n5
            have s10 := same_new (o := .tup [V.int (QM.gq os ds A B), V.ref t5]) n6
            exact ⟨_, _, _, _, rfl, s6.trans (s8.trans (s9.trans s10)), t6, t5, t, o, rfl, upd_same, s10 _ _ upd_same, s10 _ _ (s9 _ _ ht5), s10 _ _ (s9 _ _ ho5)⟩
          · rw [if_neg (show ¬ QM.better true (QM.gq os ds A B) y = true from fun z => h (of_decide_eq_true z))]
            walk_at "go"
            exact ⟨_, _, _, _, rfl, s6.trans s8, tq, tq2, ta, tb, rfl, hq1, hq2, hq3, hq4⟩
        | false =>
          walk_at "go"
          refine r_iteD (fun h => ?_) (fun h => ?_)
          · rw [if_pos (show QM.better false (QM.gq os ds A B) y = true from decide_eq_true h)]
            walk_at "go"
            intro t5 n5
            walk_at "go"
            intro t6 n6
            walk_at "go"
            have s9 := same_new (o := .tup [V.ref t, V.ref o]) n5
            have s10 := same_new (o := .tup [V.int (QM.gq os ds A B), V.ref t5]) n6
            exact ⟨_, _, _, _, rfl, s6.trans (s8.trans (s9.trans s10)), t6, t5, t, o, rfl, upd_same, s10 _ _ upd_same, s10 _ _ (s9 _ _ ht5), s10 _ _ (s9 _ _ ho5)⟩
          · rw [if_neg (show ¬ QM.better false (QM.gq os ds A B) y = true from fun z => h (of_decide_eq_true z))]
            walk_at "go"
            exact ⟨_, _, _, _, rfl, s6.trans s8, tq, tq2, ta, tb, rfl, hq1, hq2, hq3, hq4⟩
    · rintro σ H4 ⟨v, y4, y9, y10, rfl, s6, hv4⟩
      refine ⟨v, _, _, _, _, _, rfl, s5.trans s6, ?_⟩
      rw [List.take_of_length_le (by rw [lL]; exact Nat.le_refl _)] at hv4
      exact hv4
  · rintro σ H' ⟨v, y4, y7, y8, y9, y10, rfl, s3, hv⟩
    walk_at "go"
    rw [List.take_length] at hv
    have hs : ∃ x A B, QM.search few (QM.gq os ds) (QM.ords os.length os.length) (QM.ords ds.length ds.length) = some (x, A, B) := by
      cases few with
      | true => obtain ⟨A, B, h, _⟩ := QM.least_is G.ev; exact ⟨_, _, _, h⟩
      | false => obtain ⟨y, A, B, h, _⟩ := QM.most_le G.ev; exact ⟨_, _, _, h⟩
    obtain ⟨x, A, B, hs⟩ := hs
    refine qq v H' x A B (s1.trans (s2.trans s3)) hs ?_
    have e : IsBest H' v (QM.search few (QM.gq os ds) (QM.ords os.length os.length) (QM.ords ds.length ds.length)) := hv
    rw [hs] at e
    exact e
end QH

/-! QW6: queue_least, queue_most; the sums by masks and the most even masks; fewest, greatest -/
namespace QH
open PySem PySem.Spec L2 QF
variable {P : Program} {w : World} {K : PySem.W.Frag} {mg : Str → Option Value} {base : Heap} {CE CS : Addr}
def sp_queue (K : PySem.W.Frag) (CE : Addr) (few : Bool) : Sp := fun vs H Q _ => ∃ e : Addr, vs = [.ref e] ∧ sp_best K CE few e H Q
theorem sc_queue_least : FnScope ["evening"] ["evening"] (defScope s_queue_least) := ⟨rfl, rfl, rfl, by decide +kernel, rfl, by decide +kernel, by decide +kernel⟩
theorem ok_queue_least (T : Tx K mg CE CS) (C_best_orders : OkF P w K mg base "best_orders" ["evening", "wants_few"] 6 (sp_best_orders K CE)) : OkF P w K mg base "queue_least" ["evening"] 7 (sp_queue K CE true) := by
  refine okF T.queue_least sc_queue_least (fun _ _ _ _ _ _ us hl => match us, hl with | [_], _ => rfl) (fun vs H Q E h => ?_) (fun f cd A outer s H vs Q E hr h => ?_)
  · obtain ⟨e, rfl, _⟩ := h; rfl
  obtain ⟨e, rfl, h⟩ := h
  refine ⟨_, pss_one (ps_ret (C_best_orders.call hr (pa_cons (pv 0) (pa_cons pe_bl pa_nil)))), ?_⟩
  walk_at "go"
  exact ⟨e, true, rfl, h⟩
theorem sc_queue_most : FnScope ["evening"] ["evening"] (defScope s_queue_most) := ⟨rfl, rfl, rfl, by decide +kernel, rfl, by decide +kernel, by decide +kernel⟩
theorem ok_queue_most (T : Tx K mg CE CS) (C_best_orders : OkF P w K mg base "best_orders" ["evening", "wants_few"] 6 (sp_best_orders K CE)) : OkF P w K mg base "queue_most" ["evening"] 7 (sp_queue K CE false) := by
  refine okF T.queue_most sc_queue_most (fun _ _ _ _ _ _ us hl => match us, hl with | [_], _ => rfl) (fun vs H Q E h => ?_) (fun f cd A outer s H vs Q E hr h => ?_)
  · obtain ⟨e, rfl, _⟩ := h; rfl
  obtain ⟨e, rfl, h⟩ := h
  refine ⟨_, pss_one (ps_ret (C_best_orders.call hr (pa_cons (pv 0) (pa_cons pe_bl pa_nil)))), ?_⟩
  walk_at "go"
  exact ⟨e, false, rfl, h⟩
/-! ### sums_by_mask -/
theorem map_int_get {l : List Int} {i : Nat} {y : V} (h : (l.map V.int)[i]? = some y) : ∃ k, l[i]? = some k ∧ y = .int k := by
  rw [List.getElem?_map] at h
  cases e : l[i]? with
  | none => rw [e] at h; cases h
  | some k => rw [e] at h; exact ⟨k, rfl, (Option.some.inj h).symm⟩
theorem dbls_take {f : List Int} {ws : List Int} {i : Nat} {x : Int} (h : ws[i]? = some x) : QM.dbls f (ws.take (i + 1)) = QM.dbl (QM.dbls f (ws.take i)) x := foldl_take f h
theorem pow_small {a b : Nat} (h : a ≤ b) (hb : b ≤ 8) : 2 ^ a ≤ 256 := Nat.le_trans (Nat.pow_le_pow_right (by decide) (Nat.le_trans h hb)) (by decide)
def sp_sums_by_mask (K : PySem.W.Frag) (CE : Addr) : Sp := fun vs H Q _ => ∃ (p q : Int) (os ds : List Int), EvIn K CE vs H p q os ds ∧
  ∀ L H', Same H H' → H' L = some (.lst ((QM.dbls [0] (QM.wts (os.map (· / gL (os ++ ds))) (ds.map (· / gL (os ++ ds))))).map V.int)) → Q (.ref L) H'
theorem sc_sums_by_mask : FnScope ["evening", "owed", "due", "found", "item", "before"] ["evening"] (defScope s_sums_by_mask) := ⟨rfl, rfl, rfl, by decide +kernel, rfl, by decide +kernel, by decide +kernel⟩
theorem ok_sums_by_mask (T : Tx K mg CE CS) (C_units_of : OkF P w K mg base "units_of" ["evening"] 4 (sp_wholes K CE)) : OkF P w K mg base "sums_by_mask" ["evening"] 5 (sp_sums_by_mask K CE) := by
  refine okF T.sums_by_mask sc_sums_by_mask (fun _ _ _ _ _ _ us hl => match us, hl with | [_], _ => rfl) (fun vs H Q E h => ?_) (fun f cd A outer s H vs Q E hr h => ?_)
  · obtain ⟨p, q, os, ds, ⟨e, rfl, _⟩, _⟩ := h; rfl
  obtain ⟨p, q, os, ds, ⟨e, rfl, he, G⟩, qq⟩ := h
  refine ⟨_, pss_cons (ps_asg (C_units_of.call hr (pa_cons (pv 0) pa_nil)) (pg_tup rfl (pgs_cons (pg_name (i := 1) sc_sums_by_mask.nd rfl (Or.inl rfl)) (pgs_cons (pg_name (i := 2) sc_sums_by_mask.nd rfl (Or.inl rfl)) pgs_nil)))) 
    (pss_cons (ps_set (i := 3) sc_sums_by_mask.nd rfl (Or.inl rfl) (pe_lst (pa_cons pe_int pa_nil))) 
    (pss_cons (ps_for PassesOwn.never rfl (pi_list (pv 1)) (pg_name (i := 4) sc_sums_by_mask.nd rfl (Or.inr rfl)) (pss_one (ps_set (i := 3) sc_sums_by_mask.nd rfl (Or.inl rfl) (pe_op op_cat (pv 3) (pe_lc (own := [("before", 5)]) (g := gName 5) (tt := tYes) rfl sc_sums_by_mask.nd (pi_list (pv 3)) (blkOk_by (own := [("before", 5)]) (N := ["evening", "owed", "due", "found", "item", "before"]) (sc := defScope s_sums_by_mask) (by decide +kernel)) (fun _ _ _ _ _ => (pg_name (i := 5) sc_sums_by_mask.nd rfl (Or.inl rfl))) (fun _ _ _ _ _ => pts_nil) (fun _ _ _ _ _ => (pe_op op_add (pv 5) (pv 4)))))))) 
    (pss_cons (ps_for PassesOwn.never rfl (pi_list (pv 2)) (pg_name (i := 4) sc_sums_by_mask.nd rfl (Or.inr rfl)) (pss_one (ps_set (i := 3) sc_sums_by_mask.nd rfl (Or.inl rfl) (pe_op op_cat (pv 3) (pe_lc (own := [("before", 5)]) (g := gName 5) (tt := tYes) rfl sc_sums_by_mask.nd (pi_list (pv 3)) (blkOk_by (own := [("before", 5)]) (N := ["evening", "owed", "due", "found", "item", "before"]) (sc := defScope s_sums_by_mask) (by decide +kernel)) (fun _ _ _ _ _ => (pg_name (i := 5) sc_sums_by_mask.nd rfl (Or.inl rfl))) (fun _ _ _ _ _ => pts_nil) (fun _ _ _ _ _ => (pe_op op_sub (pv 5) (pv 4)))))))) 
    (pss_one (ps_ret (pv 3)))))), ?_⟩
  have e3 := G.le
  walk_at "go"
  refine ⟨p, q, os, ds, ⟨e, rfl, he, G⟩, fun t0 aO aD H1 s1 ht hO hD => ?_⟩
  have lo' : (os.map (· / gL (os ++ ds))).length = os.length := List.length_map _
  have ld' : (ds.map (· / gL (os ++ ds))).length = ds.length := List.length_map _
  generalize os.map (· / gL (os ++ ds)) = os' at *
  generalize ds.map (· / gL (os ++ ds)) = ds' at *
  walk_at "go"
  intro L0 n0
  have s2 := same_new (o := .lst [V.int 0]) n0
  walk_at "go"
  refine ⟨aO, rfl, ⟨_, SqL.of (s2 _ _ hO)⟩, for_list (xs := os'.map V.int) (fun i σ H' => ∃ L y4, σ = [some (.ref e), some (.ref aO), some (.ref aD), some (.ref L), y4, none] ∧ Same H1 H' ∧ H' L = some (.lst ((QM.dbls [0] (os'.take i)).map V.int))) ?_ ?_ ?_ ?_⟩
  · exact ⟨L0, none, rfl, s2, upd_same⟩
  · rintro i σ H' _ ⟨L, y4, rfl, s3, _⟩
    exact SqL.of (s3 _ _ hO)
  · rintro i x σ H' hi ⟨L, y4, rfl, s3, hL⟩
    obtain ⟨k, hk, rfl⟩ := map_int_get hi
    have hlt := (List.getElem?_eq_some_iff.mp hk).1
    have ll : (QM.dbls [0] (os'.take i)).length ≤ 256 := by
      rw [QM.dbls_length]
      have := pow_small (a := (os'.take i).length) (b := os'.length) (by rw [List.length_take]; omega) (by omega)
      simpa using this
    rw [dbls_take hk]
    generalize QM.dbls [0] (os'.take i) = cur at *
    walk_at "go"
    refine ⟨L, rfl, ⟨_, SqL.of hL⟩, fun D nD => lc_listR (fun i y _ => ∀ z, cur[i]? = some z → y = .int (z + k)) apart_val (SqL.of hL) nD (by rw [List.length_map]; omega) (fun i x H2 Q2 hi s4 hQ => ?_) (fun H2 ys s4 hD2 hl hR => ?_) gname_mono⟩
    · obtain ⟨z, hz, rfl⟩ := map_int_get hi
      refine ⟨rfl, ?_⟩
      walk_at "go"
      exact hQ _ _ (Same.refl _) fun z' hz' => by rw [hz] at hz'; cases hz'; rfl
    · have ey : ys = (cur.map fun x => x + k).map V.int := by
        rw [List.map_map]
        exact list_of_map (by rw [hl, List.length_map]) fun i y hy z hz => hR i y hy z hz
      subst ey
      refine ⟨L, D, _, _, rfl, rfl, s4 _ _ hL, hD2, by rw [List.length_map, List.length_map, List.length_map, sizeLine_eq]; omega, fun L2 n2 => ?_⟩
      walk_at "go"
      refine ⟨L2, _, rfl, (s3.trans s4).trans (same_new n2), ?_⟩
      rw [upd_same, ← List.map_append]
      rfl
  · rintro σ H' ⟨L, y4, rfl, s3, hL⟩
    rw [List.take_of_length_le (by rw [List.length_map]; exact Nat.le_refl _)] at hL
    walk_at "go"
    refine ⟨aD, rfl, ⟨_, SqL.of (s3 _ _ hD)⟩, for_list (xs := ds'.map V.int) (fun i σ H' => ∃ L y4, σ = [some (.ref e), some (.ref aO), some (.ref aD), some (.ref L), y4, none] ∧ Same H1 H' ∧ H' L = some (.lst ((QM.dbls (QM.dbls [0] os') ((ds'.map fun d => -d).take i)).map V.int))) ?_ ?_ ?_ ?_⟩
    · exact ⟨L, y4, rfl, s3, hL⟩
    · rintro i σ H' _ ⟨L, y4, rfl, s3, _⟩
      exact SqL.of (s3 _ _ hD)
    · rintro i x σ H' hi ⟨L, y4, rfl, s3, hL⟩
      obtain ⟨k, hk, rfl⟩ := map_int_get hi
      have hlt := (List.getElem?_eq_some_iff.mp hk).1
      have hk2 : (ds'.map fun d => -d)[i]? = some (-k) := by rw [List.getElem?_map, hk]; rfl
      have ll : (QM.dbls (QM.dbls [0] os') ((ds'.map fun d => -d).take i)).length ≤ 256 := by
        rw [QM.dbls_length, QM.dbls_length]
        have := pow_small (a := os'.length + ((ds'.map fun d => -d).take i).length) (b := 8) (by rw [List.length_take, List.length_map]; omega) (by omega)
        rw [Nat.pow_add] at this
        simpa using this
      rw [dbls_take hk2]
      generalize QM.dbls (QM.dbls [0] os') ((ds'.map fun d => -d).take i) = cur at *
      walk_at "go"
      refine ⟨L, rfl, ⟨_, SqL.of hL⟩, fun D nD => lc_listR (fun i y _ => ∀ z, cur[i]? = some z → y = .int (z + -k)) apart_val (SqL.of hL) nD (by rw [List.length_map]; omega) (fun i x H2 Q2 hi s4 hQ => ?_) (fun H2 ys s4 hD2 hl hR => ?_) gname_mono⟩
      · obtain ⟨z, hz, rfl⟩ := map_int_get hi
        refine ⟨rfl, ?_⟩
        walk_at "go"
        exact hQ _ _ (Same.refl _) fun z' hz' => by rw [hz] at hz'; cases hz'; rw [Int.sub_eq_add_neg]
      · have ey : ys = (cur.map fun x => x + -k).map V.int := by
          rw [List.map_map]
          exact list_of_map (by rw [hl, List.length_map]) fun i y hy z hz => hR i y hy z hz
        subst ey
        refine ⟨L, D, _, _, rfl, rfl, s4 _ _ hL, hD2, by rw [List.length_map, List.length_map, List.length_map, sizeLine_eq]; omega, fun L2 n2 => ?_⟩
        walk_at "go"
        refine ⟨L2, _, rfl, (s3.trans s4).trans (same_new n2), ?_⟩
        rw [upd_same, ← List.map_append]
        rfl
    · rintro σ H' ⟨L, y4, rfl, s3, hL⟩
      walk_at "go"
      refine qq L H' (s1.trans s3) ?_
      rw [List.take_of_length_le (by rw [List.length_map, List.length_map]; exact Nat.le_refl _)] at hL
      rw [hL]
      unfold QM.wts QM.dbls
      rw [List.foldl_append]
/-! ### best_of -/
def nV (n : Nat) : V := .int n
theorem and_bit (m p : Nat) : Builtin.bitAnd (m : Int) ((2 : Int) ^ p) = ((m &&& 2 ^ p : Nat) : Int) := by
  rw [show ((2 : Int) ^ p) = ((2 ^ p : Nat) : Int) by simp, PyProof.Rows.bitAnd_pp (Int.natCast_nonneg _) (Int.natCast_nonneg _), Int.toNat_natCast, Int.toNat_natCast]
theorem xor_bit (m p : Nat) : Builtin.bitXor (m : Int) ((2 : Int) ^ p) = ((m ^^^ 2 ^ p : Nat) : Int) := by
  rw [show ((2 : Int) ^ p) = ((2 ^ p : Nat) : Int) by simp, Bits.bitXor_pp (Int.natCast_nonneg _) (Int.natCast_nonneg _), Int.toNat_natCast, Int.toNat_natCast]
theorem bit_ne (m p : Nat) : (!decide (V.int (Builtin.bitAnd (m : Int) ((2 : Int) ^ p)) = V.int 0)) = m.testBit p := by
  rw [and_bit, dec_int]
  cases h : m.testBit p with
  | false =>
    have e : m &&& 2 ^ p = 0 := Nat.eq_of_testBit_eq fun i => by
      rw [Nat.testBit_and, Nat.zero_testBit, Nat.testBit_two_pow]
      by_cases z : p = i
      · subst z; rw [h]; rfl
      · simp [z]
    rw [e]; rfl
  | true =>
    have e : m &&& 2 ^ p ≠ 0 := fun e => by
      have := congrArg (fun x => x.testBit p) e
      simp [h] at this
    simp [e]
def sp_best_of (K : PySem.W.Frag) : Sp := fun vs H Q _ => ∃ (a : Addr) (n : Nat) (fs : List Int), vs = [.ref a, .int n] ∧ n ≤ 8 ∧ SqL K H a (fs.map V.int) ∧ fs.length = 2 ^ n ∧
  ∀ L H', Same H H' → H' L = some (.lst ((QM.bestL (fun m => decide (fs.getD m 0 = 0)) n (2 ^ n)).map nV)) → Q (.ref L) H'
theorem sc_best_of : FnScope ["sums", "many", "bits", "found", "mask", "best", "bit", "person"] ["sums", "many"] (defScope s_best_of) := ⟨rfl, rfl, rfl, by decide +kernel, rfl, by decide +kernel, by decide +kernel⟩
theorem ok_best_of (T : Tx K mg CE CS) : OkF P w K mg base "best_of" ["sums", "many"] 1 (sp_best_of K) := by
  refine okF T.best_of sc_best_of (fun _ _ _ _ _ _ us hl => match us, hl with | [_, _], _ => rfl) (fun vs H Q E h => ?_) (fun f cd A outer s H vs Q E hr h => ?_)
  · obtain ⟨a, n, fs, rfl, _⟩ := h; rfl
  obtain ⟨a, n, fs, rfl, hn, ha, hl, qq⟩ := h
  refine ⟨_, pss_cons (ps_setLc (i := 2) (own := [("person", 7)]) (g := gName 7) (tt := tYes) rfl sc_best_of.nd rfl rfl (sw_true rfl rfl rfl (by decide +kernel)) (pi_range1 (by rfl) T.b_range (pa_cons (pv 1) pa_nil)) (blkOk_by (own := [("person", 7)]) (N := ["sums", "many", "bits", "found", "mask", "best", "bit", "person"]) (sc := defScope s_best_of) (by decide +kernel)) (fun _ _ _ _ _ => (pg_name (i := 7) sc_best_of.nd rfl (Or.inl rfl))) (fun _ _ _ _ _ => pts_nil) (fun _ _ _ _ _ => (pe_op op_oneShl pe_int (pv 7)))) 
    (pss_cons (ps_set (i := 3) sc_best_of.nd rfl (Or.inl rfl) (pe_lst (pa_cons pe_int pa_nil))) 
    (pss_cons (ps_for PassesOwn.never rfl (pi_range2 (by rfl) T.b_range (pa_cons pe_int (pa_cons (pe_callB call_len_seq (by rfl) T.b_len PySem.boot_len (pa_cons (pv 0) pa_nil)) pa_nil))) (pg_name (i := 4) sc_best_of.nd rfl (Or.inl rfl)) (pss_cons (ps_set (i := 5) sc_best_of.nd rfl (Or.inl rfl) pe_int) 
        (pss_cons (ps_for PassesOwn.never rfl (pi_list (pv 2)) (pg_name (i := 6) sc_best_of.nd rfl (Or.inl rfl)) (pss_one (ps_if (PW.pt (pw_and (pt_cmpR op_ne (pe_op op_and (pv 4) (pv 6)) pe_int (nomark _)) (pw_and1 (pt_cmpR op_gt (pe_ix ix_list (pv 3) (pe_op op_xor (pv 4) (pv 6)) (fun _ _ => rfl)) (pv 5) (nomark _))))) (pss_one (ps_set (i := 5) sc_best_of.nd rfl (Or.inl rfl) (pe_ix ix_list (pv 3) (pe_op op_xor (pv 4) (pv 6)) (fun _ _ => rfl)))) (pss_nil)))) 
        (pss_one (ps_expr (pe_bm PySem.F.plainAttrs_list PySem.F.slot_list_append PySem.F.type_list_append mt_append (pv 3) (pa_cons (pe_op op_add (pv 5) (pe_callTy call_int1 (by rfl) T.b_int (by decide +kernel) (pa_cons (pe_cmpR op_eq (pe_ix ix_list (pv 0) (pv 4) (fun _ _ => rfl)) pe_int (nomark _)) pa_nil))) pa_nil))))))) 
    (pss_one (ps_ret (pv 3))))), ?_⟩
  obtain ⟨N, hN, N0, N1⟩ : ∃ N, 2 ^ n = N ∧ 1 ≤ N ∧ N ≤ 256 := ⟨_, rfl, Nat.two_pow_pos n, pow_small hn (Nat.le_refl _)⟩
  rw [hN] at hl qq
  generalize hz : (fun m => decide (fs.getD m 0 = 0)) = z at qq
  have hz' : ∀ m, z m = decide (fs.getD m 0 = 0) := fun m => by rw [← hz]
  walk_at "go"
  refine ⟨_, rfl, by omega, by omega, fun B nB => ?_⟩
  rw [Int.toNat_natCast]
  refine lc_rangeR (fun i y _ => y = .int (2 ^ i)) apart_val nB (by omega) (fun i H1 Q1 hi s1 hQ => ?_) (fun H1 ys s1 hB hly hR => ?_) gname_mono
  · refine ⟨rfl, ?_⟩
    walk_at "go"
    exact ⟨i, rfl, by rw [Int.zero_add], by omega, hQ _ _ (Same.refl _) rfl⟩
  obtain rfl : ys = (List.range n).map fun p => V.int (2 ^ p) := list_of_vals hly hR
  walk_at "go"
  intro L nL
  have s2 := same_new (o := .lst [V.int 0]) nL
  walk_at "go"
  refine ⟨a, _, rfl, .inl ((s1.trans s2).seq ha), ?_⟩
  walk_at "go"
  rw [List.length_map, hl]
  refine ⟨_, _, rfl, ⟨by omega, by omega, by omega, by omega⟩, ?_⟩
  rw [show ((N : Int) - 1).toNat = N - 1 by omega]
  refine for_range (fun i σ H' => ∃ y4 y5 y6, σ = [some (.ref a), some (.int n), some (.ref B), some (.ref L), y4, y5, y6, none] ∧ Same H1 H' ∧ H' L = some (.lst ((QM.bestL z n (i + 1)).map nV))) ?_ ?_ ?_
  · exact ⟨none, none, none, rfl, s2, upd_same⟩
  · rintro i σ H' hi ⟨y4, y5, y6, rfl, s3, hL⟩
    have em : (1 : Int) + (i : Nat) = ((i + 1 : Nat) : Int) := by omega
    rw [em]
    walk_at "go"
    have hB' := s3 _ _ hB
    have lf := QM.bestL_length z n (i + 1)
    have ef : QM.bestL z n (i + 1 + 1) = QM.bestL z n (i + 1) ++ [QM.stepB z n (QM.bestL z n (i + 1)) (i + 1)] := by
      show QM.bestL z n (i + 1) ++ [if i + 1 = 0 then 0 else QM.stepB z n (QM.bestL z n (i + 1)) (i + 1)] = _
      rw [if_neg (Nat.succ_ne_zero i)]
    have hms : i + 1 < fs.length := by omega
    have hz1 := hz' (i + 1)
    rw [ef]
    generalize QM.bestL z n (i + 1) = f at *
    generalize i + 1 = m at *
    refine ⟨B, rfl, ⟨_, SqL.of hB'⟩, for_list (xs := (List.range n).map fun p => V.int (2 ^ p)) (fun j σ H'' => ∃ y6, σ = [some (.ref a), some (.int n), some (.ref B), some (.ref L), some (.int (m : Nat)), some (.int ((((List.range n).take j).foldl (fun best p => if m.testBit p = true ∧ f.getD (m ^^^ 2 ^ p) 0 > best then f.getD (m ^^^ 2 ^ p) 0 else best) 0 : Nat) : Int)), y6, none] ∧ H'' = H') ?_ ?_ ?_ ?_⟩
    · exact ⟨y6, rfl, rfl⟩
    · rintro j σ H'' _ ⟨y6, rfl, rfl⟩
      exact SqL.of hB'
    · rintro j x σ H'' hx ⟨y6, rfl, rfl⟩
      obtain ⟨p, hp, rfl⟩ : ∃ p, (List.range n)[j]? = some p ∧ x = .int (2 ^ p) := by
        rw [List.getElem?_map] at hx
        cases e : (List.range n)[j]? with
        | none => rw [e] at hx; cases hx
        | some p => rw [e] at hx; exact ⟨p, rfl, (Option.some.inj hx).symm⟩
      rw [foldl_take 0 hp]
      generalize ((List.range n).take j).foldl (fun best p => if m.testBit p = true ∧ f.getD (m ^^^ 2 ^ p) 0 > best then f.getD (m ^^^ 2 ^ p) 0 else best) 0 = bb at *
      walk_at "go"
      refine ⟨rfl, ?_⟩
      walk_at "go"
      rw [bit_ne]
      cases hb : m.testBit p with
      | false =>
        rw [if_neg (show ¬ (false = true ∧ f.getD (m ^^^ 2 ^ p) 0 > bb) from fun z => Bool.false_ne_true z.1)]
        walk_at "go"
        exact ⟨_, rfl, rfl⟩
      | true =>
        have hlt : m ^^^ 2 ^ p < f.length := by rw [lf]; exact (QM.off_bit hb).2.2
        have hg : (f.map nV)[m ^^^ 2 ^ p]? = some (.int ((f.getD (m ^^^ 2 ^ p) 0 : Nat) : Int)) := by
          rw [List.getElem?_map, List.getElem?_eq_getElem hlt, List.getD_eq_getElem?_getD, List.getElem?_eq_getElem hlt]; rfl
        generalize f.getD (m ^^^ 2 ^ p) 0 = g at *
        walk_at "go"
        refine ⟨L, _, _, _, rfl, rfl, SqL.of hL, by rw [xor_bit]; exact atI_nat hg, ?_⟩
        walk_at "go"
        refine r_iteD (fun h => ?_) (fun h => ?_)
        · rw [if_pos ⟨rfl, by omega⟩]
          walk_at "go"
          refine ⟨L, _, _, _, rfl, rfl, SqL.of hL, by rw [xor_bit]; exact atI_nat hg, ?_⟩
          walk_at "go"
          exact ⟨_, rfl, rfl⟩
        · rw [if_neg (fun z => h (by have := z.2; omega))]
          walk_at "go"
          exact ⟨_, rfl, rfl⟩
    · rintro σ H'' ⟨y6, rfl, rfl⟩
      rw [List.take_of_length_le (by simp)]
      walk_at "go"
      refine r_tylist (SqL.of hL) ?_
      have hs : (fs.map V.int)[m]? = some (.int (fs.getD m 0)) := by
        rw [List.getElem?_map, List.getElem?_eq_getElem hms, List.getD_eq_getElem?_getD, List.getElem?_eq_getElem hms]; rfl
      walk_at "go"
      refine ⟨a, _, _, _, rfl, rfl, (s1.trans s3).seq ha, atI_nat hs, ?_⟩
      walk_at "go"
      refine ⟨rfl, ?_⟩
      walk_at "go"
      refine .inr ⟨_, rfl, ?_⟩
      walk_at "go"
      refine ⟨L, _, _, rfl, rfl, hL, by rw [List.length_map, lf, sizeLine_eq]; omega, ?_⟩
      refine ⟨_, _, _, rfl, Same.mut s3 nL, ?_⟩
      rw [upd_same, List.map_append]
      congr 1
      unfold QM.stepB nV
      rw [dec_int, hz1]
      by_cases h0 : fs.getD m 0 = 0
      · rw [if_pos (beq_iff_eq.mpr h0), if_pos (decide_eq_true h0)]; rfl
      · rw [if_neg (fun z => h0 (beq_iff_eq.mp z)), if_neg (fun z => h0 (of_decide_eq_true z))]; rfl
  · rintro σ H' ⟨y4, y5, y6, rfl, s3, hL⟩
    walk_at "go"
    refine qq L H' (s1.trans s3) ?_
    rw [show N - 1 + 1 = N by omega] at hL
    exact hL
/-! ### best_by_mask, fewest, greatest -/
theorem bestL_congr {z z' : Nat → Bool} {n : Nat} : ∀ k : Nat, (∀ m, m < k → z m = z' m) → QM.bestL z n k = QM.bestL z' n k
  | 0, _ => rfl
  | k + 1, h => by
    show QM.bestL z n k ++ [if k = 0 then 0 else QM.stepB z n (QM.bestL z n k) k] = QM.bestL z' n k ++ [if k = 0 then 0 else QM.stepB z' n (QM.bestL z' n k) k]
    rw [bestL_congr k fun m hm => h m (by omega)]
    unfold QM.stepB
    rw [h k (by omega)]
theorem dbls_even {os ds : List Int} {m : Nat} (h : m < 2 ^ (os.length + ds.length)) : decide ((QM.dbls [0] (QM.wts os ds)).getD m 0 = 0) = QM.ev os ds m := by
  have e := QM.dbls_get (QM.wts os ds) [0] 0 m rfl (by rw [QM.wts_length, Nat.zero_add]; exact h)
  rw [e, show m % 2 ^ 0 = 0 by simp [Nat.mod_one]]
  unfold QM.ev
  rw [show ([0] : List Int).getD 0 0 = 0 from rfl, Int.zero_add]
def sp_best_by_mask (K : PySem.W.Frag) (CE : Addr) : Sp := fun vs H Q _ => ∃ (p q : Int) (os ds : List Int), EvIn K CE vs H p q os ds ∧
  ∀ L H' fs, Same H H' → H' L = some (.lst (fs ++ [.int (QM.most os ds : Nat)])) → Q (.ref L) H'
theorem most_scaled {os ds : List Int} (E : QM.Even os ds) : QM.most (os.map (· / gL (os ++ ds))) (ds.map (· / gL (os ++ ds))) = QM.most os ds := by
  have hp : QM.Pos (os ++ ds) := fun x hx => (List.mem_append.mp hx).elim (E.po x) (E.pd x)
  have hn : os ++ ds ≠ [] := fun e => E.no (List.append_eq_nil_iff.mp e).1
  have g0 := (gL_facts hp hn).1
  have go : ∀ k ∈ os, gL (os ++ ds) ∣ k := fun k hk => ((gL_facts hp hn).2 k (List.mem_append_left _ hk)).1
  have gd : ∀ k ∈ ds, gL (os ++ ds) ∣ k := fun k hk => ((gL_facts hp hn).2 k (List.mem_append_right _ hk)).1
  have E' := scaled_even g0 E go gd
  have gqe : QM.gq (os.map (· / gL (os ++ ds))) (ds.map (· / gL (os ++ ds))) = QM.gq os ds := funext fun A => funext fun B => scaled_gq g0 go gd A B
  obtain ⟨A, B, h, _⟩ := QM.least_is E
  obtain ⟨A', B', h', _⟩ := QM.least_is E'
  rw [gqe, List.length_map, List.length_map, h] at h'
  have := congrArg (fun x => x.map fun r => r.1) h'
  simp only [Option.map_some, Option.some.injEq] at this
  omega
theorem sc_best_by_mask : FnScope ["evening"] ["evening"] (defScope s_best_by_mask) := ⟨rfl, rfl, rfl, by decide +kernel, rfl, by decide +kernel, by decide +kernel⟩
theorem ok_best_by_mask (T : Tx K mg CE CS) (C_sums_by_mask : OkF P w K mg base "sums_by_mask" ["evening"] 5 (sp_sums_by_mask K CE)) (C_best_of : OkF P w K mg base "best_of" ["sums", "many"] 1 (sp_best_of K)) (C_people : OkF P w K mg base "people" ["evening"] 1 (sp_people K CE)) :
    OkF P w K mg base "best_by_mask" ["evening"] 6 (sp_best_by_mask K CE) := by
  refine okF T.best_by_mask sc_best_by_mask (fun _ _ _ _ _ _ us hl => match us, hl with | [_], _ => rfl) (fun vs H Q E h => ?_) (fun f cd A outer s H vs Q E hr h => ?_)
  · obtain ⟨p, q, os, ds, ⟨e, rfl, _⟩, _⟩ := h; rfl
  obtain ⟨p, q, os, ds, ⟨e, rfl, he, G⟩, qq⟩ := h
  refine ⟨_, pss_one (ps_ret (C_best_of.call hr (pa_cons (C_sums_by_mask.call hr (pa_cons (pv 0) pa_nil)) (pa_cons (C_people.call hr (pa_cons (pv 0) pa_nil)) pa_nil)))), ?_⟩
  have e3 := G.le
  have e4 : 1 ≤ os.length := List.length_pos_iff.mpr G.ev.no
  have em := most_scaled G.ev
  walk_at "go"
  refine ⟨p, q, os, ds, ⟨e, rfl, he, G⟩, fun L H1 s1 hL => ?_⟩
  have lo' : (os.map (· / gL (os ++ ds))).length = os.length := List.length_map _
  have ld' : (ds.map (· / gL (os ++ ds))).length = ds.length := List.length_map _
  generalize os.map (· / gL (os ++ ds)) = os' at *
  generalize ds.map (· / gL (os ++ ds)) = ds' at *
  walk_at "go"
  refine ⟨p, q, os, ds, ⟨e, rfl, he.same s1, G⟩, ?_⟩
  walk_at "go"
  refine ⟨L, os.length + ds.length, _, by rw [Int.natCast_add]; rfl, e3, SqL.of hL, by rw [QM.dbls_length, QM.wts_length, lo', ld']; simp, fun L2 H2 s2 hL2 => ?_⟩
  obtain ⟨N, hN⟩ : ∃ N, 2 ^ (os.length + ds.length) = N + 1 := ⟨2 ^ (os.length + ds.length) - 1, by have := Nat.two_pow_pos (os.length + ds.length); omega⟩
  have hb : QM.bestL (fun m => decide ((QM.dbls [0] (QM.wts os' ds')).getD m 0 = 0)) (os.length + ds.length) (2 ^ (os.length + ds.length)) = QM.bestL (QM.ev os' ds') (os'.length + ds'.length) (2 ^ (os'.length + ds'.length)) := by
    rw [lo', ld']
    refine bestL_congr _ fun m hm => dbls_even ?_
    rw [lo', ld']; exact hm
  rw [hb] at hL2
  rw [← lo', ← ld'] at hN
  have hlast : QM.bestL (QM.ev os' ds') (os'.length + ds'.length) (N + 1) = QM.bestL (QM.ev os' ds') (os'.length + ds'.length) N ++ [QM.most os' ds'] := by
    have e := QM.bestL_get (QM.ev os' ds') (os'.length + ds'.length) (N + 1) N (Nat.lt_succ_self N)
    have e2 : QM.most os' ds' = QM.bst (QM.ev os' ds') (os'.length + ds'.length) N := by
      show QM.bst _ _ (2 ^ (os'.length + ds'.length) - 1) = _
      rw [hN, Nat.add_sub_cancel]
    rw [e2, ← e]
    show QM.bestL _ _ N ++ [_] = QM.bestL _ _ N ++ [(QM.bestL _ _ N ++ [_]).getD N 0]
    congr 2
    rw [List.getD_eq_getElem?_getD, List.getElem?_append_right (by rw [QM.bestL_length]; exact Nat.le_refl _), QM.bestL_length, Nat.sub_self]
    rfl
  rw [hN, hlast, List.map_append, em] at hL2
  exact qq L2 H2 _ (s1.trans s2) hL2
def sp_fewest (K : PySem.W.Frag) (CE : Addr) : Sp := fun vs H Q _ => ∃ (p q : Int) (os ds : List Int), EvIn K CE vs H p q os ds ∧ ∀ H', Same H H' → Q (.int ((os.length : Int) + ds.length - (QM.most os ds : Nat))) H'
theorem sc_fewest_of : FnScope ["evening"] ["evening"] (defScope s_fewest_of) := ⟨rfl, rfl, rfl, by decide +kernel, rfl, by decide +kernel, by decide +kernel⟩
theorem ok_fewest_of (T : Tx K mg CE CS) (C_people : OkF P w K mg base "people" ["evening"] 1 (sp_people K CE)) (C_best_by_mask : OkF P w K mg base "best_by_mask" ["evening"] 6 (sp_best_by_mask K CE)) : OkF P w K mg base "fewest_of" ["evening"] 7 (sp_fewest K CE) := by
  refine okF T.fewest_of sc_fewest_of (fun _ _ _ _ _ _ us hl => match us, hl with | [_], _ => rfl) (fun vs H Q E h => ?_) (fun f cd A outer s H vs Q E hr h => ?_)
  · obtain ⟨p, q, os, ds, ⟨e, rfl, _⟩, _⟩ := h; rfl
  obtain ⟨p, q, os, ds, ⟨e, rfl, he, G⟩, qq⟩ := h
  refine ⟨_, pss_one (ps_ret (pe_op op_sub (C_people.call hr (pa_cons (pv 0) pa_nil)) (pe_ix ix_list (C_best_by_mask.call hr (pa_cons (pv 0) pa_nil)) (pe_un un_neg pe_int) (fun _ _ => rfl)))), ?_⟩
  walk_at "go"
  refine ⟨p, q, os, ds, ⟨e, rfl, he, G⟩, ?_⟩
  walk_at "go"
  refine ⟨p, q, os, ds, ⟨e, rfl, he, G⟩, fun L H1 fs s1 hL => ?_⟩
  walk_at "go"
  refine ⟨_, rfl, ⟨L, _, _, _, rfl, rfl, SqL.of hL, atI_last _ _, ?_⟩⟩
  walk_at "go"
  exact qq H1 s1
theorem sc_fewest : FnScope ["evening"] ["evening"] (defScope s_fewest) := ⟨rfl, rfl, rfl, by decide +kernel, rfl, by decide +kernel, by decide +kernel⟩
theorem ok_fewest (T : Tx K mg CE CS) (C_check_people : OkF P w K mg base "check_people" ["evening", "most"] 2 (sp_check_people K CE)) (C_fewest_of : OkF P w K mg base "fewest_of" ["evening"] 7 (sp_fewest K CE)) : OkF P w K mg base "fewest" ["evening"] 8 (sp_fewest K CE) := by
  refine okF T.fewest sc_fewest (fun _ _ _ _ _ _ us hl => match us, hl with | [_], _ => rfl) (fun vs H Q E h => ?_) (fun f cd A outer s H vs Q E hr h => ?_)
  · obtain ⟨p, q, os, ds, ⟨e, rfl, _⟩, _⟩ := h; rfl
  obtain ⟨p, q, os, ds, ⟨e, rfl, he, G⟩, qq⟩ := h
  obtain ⟨tP, mPeo⟩ := T.mPeo
  refine ⟨_, pss_cons (ps_expr (C_check_people.call hr (pa_cons (pv 0) (pa_cons (pe_glob (v := .int 14) rfl mPeo ⟨_, rfl⟩) pa_nil)))) 
    (pss_one (ps_ret (C_fewest_of.call hr (pa_cons (pv 0) pa_nil)))), ?_⟩
  walk_at "go"
  refine ⟨p, q, os, ds, _, _, rfl, ⟨e, rfl, he, G⟩, by decide, ?_⟩
  walk_at "go"
  exact ⟨p, q, os, ds, ⟨e, rfl, he, G⟩, qq⟩
def sp_greatest (K : PySem.W.Frag) (CE : Addr) : Sp := fun vs H Q _ => ∃ (p q : Int) (os ds : List Int), EvIn K CE vs H p q os ds ∧
  ∀ m H', Same H H' → (∀ y A B, QM.search false (QM.gq os ds) (QM.ords os.length os.length) (QM.ords ds.length ds.length) = some (y, A, B) → y ≤ m) → Q (.int m) H'
theorem sc_greatest_of : FnScope ["evening"] ["evening"] (defScope s_greatest_of) := ⟨rfl, rfl, rfl, by decide +kernel, rfl, by decide +kernel, by decide +kernel⟩
theorem ok_greatest_of (T : Tx K mg CE CS) (C_people : OkF P w K mg base "people" ["evening"] 1 (sp_people K CE)) (C_units_of : OkF P w K mg base "units_of" ["evening"] 4 (sp_wholes K CE)) : OkF P w K mg base "greatest_of" ["evening"] 5 (sp_greatest K CE) := by
  refine okF T.greatest_of sc_greatest_of (fun _ _ _ _ _ _ us hl => match us, hl with | [_], _ => rfl) (fun vs H Q E h => ?_) (fun f cd A outer s H vs Q E hr h => ?_)
  · obtain ⟨p, q, os, ds, ⟨e, rfl, _⟩, _⟩ := h; rfl
  obtain ⟨p, q, os, ds, ⟨e, rfl, he, G⟩, qq⟩ := h
  refine ⟨_, pss_one (ps_ret (pe_callB (call_min2 rfl) (by rfl) T.b_min (by decide +kernel) (pa_cons (pe_op op_sub (C_people.call hr (pa_cons (pv 0) pa_nil)) pe_int) (pa_cons (pe_callB (cr_sum rfl) (by rfl) T.b_sum (by decide +kernel) (pa_cons (pe_ix ix_tup (C_units_of.call hr (pa_cons (pv 0) pa_nil)) pe_int (fun _ _ => rfl)) pa_nil)) pa_nil)))), ?_⟩
  obtain ⟨a1, a2, a3, a4⟩ := G.all
  have g0 := (gL_facts a1 a3).1
  have go : ∀ k ∈ os, gL (os ++ ds) ∣ k := fun k hk => ((gL_facts a1 a3).2 k (List.mem_append_left _ hk)).1
  have gd : ∀ k ∈ ds, gL (os ++ ds) ∣ k := fun k hk => ((gL_facts a1 a3).2 k (List.mem_append_right _ hk)).1
  have E' := scaled_even g0 G.ev go gd
  have gqe : QM.gq (os.map (· / gL (os ++ ds))) (ds.map (· / gL (os ++ ds))) = QM.gq os ds := funext fun A => funext fun B => scaled_gq g0 go gd A B
  obtain ⟨y, A1, B1, hs, _, _, _, y1, y2⟩ := QM.most_le E'
  rw [gqe, List.length_map, List.length_map] at hs
  rw [List.length_map, List.length_map] at y1
  have key : ∀ y' A B, QM.search false (QM.gq os ds) (QM.ords os.length os.length) (QM.ords ds.length ds.length) = some (y', A, B) → y' = y := fun y' A B h => by
    rw [hs] at h
    have := congrArg (fun x => x.map fun r => r.1) h
    simp only [Option.map_some, Option.some.injEq] at this
    exact this.symm
  walk_at "go"
  refine ⟨p, q, os, ds, ⟨e, rfl, he, G⟩, ?_⟩
  walk_at "go"
  refine ⟨p, q, os, ds, ⟨e, rfl, he, G⟩, fun t a b H1 s1 ht ha hb => ?_⟩
  walk_at "go"
  refine ⟨a, _, rfl, SqL.of ha, ?_⟩
  walk_at "go"
  refine ⟨_, _, rfl, ?_⟩
  refine qq _ H1 s1 fun y' A B h => ?_
  rw [key y' A B h]
  split <;> omega
theorem sc_greatest : FnScope ["evening"] ["evening"] (defScope s_greatest) := ⟨rfl, rfl, rfl, by decide +kernel, rfl, by decide +kernel, by decide +kernel⟩
theorem ok_greatest (T : Tx K mg CE CS) (C_greatest_of : OkF P w K mg base "greatest_of" ["evening"] 5 (sp_greatest K CE)) : OkF P w K mg base "greatest" ["evening"] 6 (sp_greatest K CE) := by
  refine okF T.greatest sc_greatest (fun _ _ _ _ _ _ us hl => match us, hl with | [_], _ => rfl) (fun vs H Q E h => ?_) (fun f cd A outer s H vs Q E hr h => ?_)
  · obtain ⟨p, q, os, ds, ⟨e, rfl, _⟩, _⟩ := h; rfl
  refine ⟨_, pss_one (ps_ret (C_greatest_of.call hr (pa_cons (pv 0) pa_nil))), ?_⟩
  obtain ⟨p, q, os, ds, ⟨e, rfl, he, G⟩, qq⟩ := h
  walk_at "go"
  exact ⟨p, q, os, ds, ⟨e, rfl, he, G⟩, qq⟩
end QH

/-! QS: sorted(t), t a tuple of ints (the kit has it for lists) -/
namespace QS
open PySem PySem.Spec PyProof.Rows
section
variable {prog : Program} {w : World} {A : Around} {E : Value → Shared → Prop} {s : Shared}
theorem gather {tp : Addr} {us : List Value} {R : List Value → Shared → Prop} (ht : IsTup s.heap tp us.toArray) (hz : us.length ≤ sizeLine)
    (h : R us { s with heap := (s.heap.push (seqObj "list" #[] 0)).update s.heap.objs.size (Obj.mapSeq (· ++ us.toArray)) }) : wpAny (model prog w) A (collect (.ref tp)) R E s := by
  obtain ⟨ob, e1, e2, m, e3⟩ := id ht
  unfold collect
  refine wpAny_bind (wpAny_runValue ?_); refine codeAny_builtin entry_proto_collect' ?_
  show wpAny _ _ (do again (.builtin "list.__iadd__" ⟨[← newList [], .ref tp], []⟩)) _ _ s
  refine wpAny_bind (wpAny_newList ?_); refine wpAny_pure ⟨Code.quiet_builtin _ (by decide +kernel), codeAny_builtin entry_list_iadd' ?_⟩
  show wpAny _ _ (Builtin.List.listExtendWith (.ref s.heap.objs.size) (.ref tp) (.ref s.heap.objs.size)) _ _ { s with heap := s.heap.push (seqObj "list" #[] 0) }
  unfold Builtin.List.listExtendWith
  have e4 : (s.heap.push (seqObj "list" #[] 0)).get? tp = some ob := Heap.get?_push_of_some _ e1
  refine wpAny_bind (wpAny_typeOf (T := "tuple") ⟨ob, e4, e2⟩ ?_)
  have e5 : (Value.type "tuple" == Value.type "tuple") = true := by rfl
  rw [if_pos (by rw [e5]; simp)]
  refine wpAny_bind (listItems_at e4 e3 (wpAny_bind (listItems_at (xs := #[]) (n := 0) (Heap.get?_push_size _ rfl) rfl ?_)))
  rw [if_neg (by simp)]
  refine wpAny_bind (listUpdate_at (xs := #[]) (n := 0) (Heap.get?_push_size _ rfl) rfl (wpAny_pure ?_) (Nat.zero_le _) (by show (#[] ++ us.toArray).size ≤ sizeLine + 1; rw [Array.size_append, List.size_toArray]; exact Nat.le_succ_of_le (by simpa using hz)))
  show wpAny (model prog w) A (do
      let got ← load s.heap.objs.size
      match got.data with
      | .seq xs _ => pure xs.toList
      | _ => unsupported "internal:collect") R E { s with heap := (s.heap.push (seqObj "list" #[] 0)).update s.heap.objs.size (Obj.mapSeq (· ++ us.toArray)) }
  refine wpAny_bind (wpAny_load (get?_update_seq (Heap.get?_push_size _ rfl) _) ?_)
  show wpAny _ _ (pure ((#[] : Array Value) ++ us.toArray).toList) R E _
  rw [show ((#[] : Array Value) ++ us.toArray).toList = us by simp]
  exact wpAny_pure h
theorem sorted_tup {tp : Addr} {us : List Value} {lt : Value → Value → Bool} {R : Value → Shared → Prop} (O : SrtO.Swo lt) (ht : IsTup s.heap tp us.toArray) (hz : us.length ≤ sizeLine)
    (hS : 2 ≤ us.length → ∀ (h₁ : Heap) (a : Addr), SrtO.SortableO prog w A.in1.in1 { s with heap := h₁ } a us lt)
    (h : ∀ out : List Value, SrtO.Srtd lt out → SrtO.Stb lt out us → R (.ref (s.heap.objs.size + 1)) { s with heap := sortedAll s.heap us out.toArray }) :
    wpAny (model prog w) A (call (.builtin "sorted") [.ref tp]) R E s := by
  refine Calls.call_function_entry kind_sorted plain_sorted entry_sorted (args_sorted1 _) ?_
  unfold Builtin.«sorted»
  refine wpAny_bind (m := checkCount "sorted" 1 1 _) (wpAny_pure (wpAny_bind (gather ht hz (wpAny_bind (wpAny_newList ?_ hz)))))
  have z1 : ((s.heap.push (seqObj "list" #[] 0)).update s.heap.objs.size (Obj.mapSeq (· ++ us.toArray))).objs.size = s.heap.objs.size + 1 := by
    rw [Heap.size_update, size_push']
  have z2 : (((s.heap.push (seqObj "list" #[] 0)).update s.heap.objs.size (Obj.mapSeq (· ++ us.toArray))).push (seqObj "list" us.toArray 0)).get? (s.heap.objs.size + 1) = some (seqObj "list" us.toArray 0) := by
    rw [← z1]; exact Heap.get?_push_size _ rfl
  show wpAny _ _ _ _ _ { s with heap := ((s.heap.push (seqObj "list" #[] 0)).update s.heap.objs.size (Obj.mapSeq (· ++ us.toArray))).push (seqObj "list" us.toArray 0) }
  rw [z1]
  refine wpAny_bind (wpAny_holding (wpAny_call_entry slot_list_sort ⟨_, z2, rfl⟩ entry_list_sort (SrtO.list_sort_ord O z2 hz (fun h2 => hS h2 _ _) fun out b1 b2 => ⟨_, rfl, ?_⟩) (args_list_sort _)))
  exact wpAny_pure ⟨_, rfl, h out b1 b2⟩
end
end QS
namespace QH
open PySem PySem.Spec L2 PyProof.Rows
def rSortedT (K : PySem.W.Frag) : List V → Hp → VK → Prop := fun vs H Q => ∃ (a : Addr) (ns : List Int), vs = [V.ref a] ∧ SqT K H a (ns.map V.int) ∧
  ∀ (ks : List Int) (p : Addr), ks.Perm ns → ks.Pairwise (· ≤ ·) → H p = none → Q (.ref p) (upd H p (.lst (ks.map V.int)))
theorem cr_sortedTup {X : Cx} : CallR X (.builtin "sorted") (rSortedT X.K) := by
  intro pins s σ H vs us Q I r h
  obtain ⟨a, ns, rfl, ht, q⟩ := h
  obtain ⟨its, rv, hp, hz⟩ := I.tuple ht
  rw [Vals.ref1 r]
  have hi := rv.ints
  refine QS.sorted_tup SrtO.swo_int hp (by rw [← rv.length]; exact hz) (fun h2 h₁ a' => SrtO.ints_sortable hi h2) fun out b1 b2 => ?_
  obtain ⟨k1, k2, k3⟩ := SrtO.ints_out hi b1 b2
  obtain ⟨ep, e6⟩ := PyProof.Rows.sortedAll_at s.heap its out.toArray
  have hn : ((out.map SrtO.iv).map V.int).length ≤ sizeLine := by
    rw [List.length_map] at hz
    rw [List.length_map, k2.length_eq]; exact hz
  exact ⟨.ref _, upd H (s.heap.objs.size + 1) (.lst ((out.map SrtO.iv).map V.int)), I.laid (t' := s.toks) (fun _ _ => PyProof.Rows.sortedAll_old) (Nat.le_succ _) ⟨hn, out, ep, vals_of_ints k1, e6⟩, rfl, q _ _ k2 k3 (I.hok.fresh (Nat.le_succ _))⟩
end QH

/-! QW7: the checks of orders -/
namespace QH
open PySem PySem.Spec L2 QF
variable {P : Program} {w : World} {K : PySem.W.Frag} {mg : Str → Option Value} {base : Heap} {CE CS : Addr}
theorem ty_tup {K : PySem.W.Frag} {H : Hp} {a : Addr} {xs : List V} (h : SqT K H a xs) : TyX K H (.ref a) (.type "tuple") := by
  rcases h with (h | ⟨o, h⟩) | ⟨o, its, n, h1, h2, _⟩
  · exact .base (.tup h)
  · exact .fTuple h
  · exact .kTuple h1 h2
/-- isinstance of a type that the kit knows -/
theorem r_isi {K : PySem.W.Frag} {H : Hp} {Q : VK} {x : V} {a b : String} {r : Bool} (t : TyX K H x (.type a)) (k : kitB a b = some r) (h : Q (.bl r) H) : rIsi K [x, .ty b] H Q := ⟨x, .ty b, .type a, .type b, r, rfl, .ty b, t, kit_ty k, h⟩
def sp_is_integer : Sp := fun vs H Q _ => ∃ a : Int, vs = [.int a] ∧ Q (.bl true) H
theorem sc_is_integer : FnScope ["thing"] ["thing"] (defScope s_is_integer) := ⟨rfl, rfl, rfl, by decide +kernel, rfl, by decide +kernel, by decide +kernel⟩
theorem ok_is_integer (T : Tx K mg CE CS) : OkF P w K mg base "is_integer" ["thing"] 1 sp_is_integer := by
  refine okF T.is_integer sc_is_integer (fun _ _ _ _ _ _ us hl => match us, hl with | [_], _ => rfl) (fun vs H Q E h => ?_) (fun f cd A outer s H vs Q E hr h => ?_)
  · obtain ⟨a, rfl, _⟩ := h; rfl
  obtain ⟨a, rfl, qq⟩ := h
  refine ⟨_, pss_one (ps_ret (pe_and (pe_callB call_isi (by rfl) T.b_isinstance (by decide +kernel) (pa_cons (pv 0) (pa_cons (pe_bltn (v := .ty "int") rfl T.b_int (by decide +kernel) rfl) pa_nil))) (pe_one (pe_not (pe_callB call_isi (by rfl) T.b_isinstance (by decide +kernel) (pa_cons (pv 0) (pa_cons (pe_bltn (v := .ty "bool") rfl T.b_bool (by decide +kernel) rfl) pa_nil))))))), ?_⟩
  walk_at "go"
  refine r_isi (.base (.int a)) (by decide +kernel : kitB "int" "int" = some true) ?_
  walk_at "go"
  refine r_isi (.base (.int a)) (by decide +kernel : kitB "int" "bool" = some false) ?_
  walk_at "go"
  exact qq
def sp_is_within : Sp := fun vs H Q _ => ∃ a b c : Int, vs = [.int a, .int b, .int c] ∧ b ≤ a ∧ a ≤ c ∧ Q (.bl true) H
theorem sc_is_within : FnScope ["thing", "least", "most"] ["thing", "least", "most"] (defScope s_is_within) := ⟨rfl, rfl, rfl, by decide +kernel, rfl, by decide +kernel, by decide +kernel⟩
theorem r_chain {r r' : R2} {ta tb tc : TE} {σ : L2.St} {H : Hp} {Q : VK} (h : ta σ H fun x H1 => tb σ H1 fun y H2 => r x y H2 fun z H3 => ∃ k, z = .bl k ∧ (if k = true then tc σ H3 fun w' H4 => r' y w' H4 Q else Q (.bl false) H3)) : tChain r r' ta tb tc σ H Q := h
theorem ok_is_within (T : Tx K mg CE CS) (C_is_integer : OkF P w K mg base "is_integer" ["thing"] 1 sp_is_integer) : OkF P w K mg base "is_within" ["thing", "least", "most"] 2 sp_is_within := by
  refine okF T.is_within sc_is_within (fun _ _ _ _ _ _ us hl => match us, hl with | [_, _, _], _ => rfl) (fun vs H Q E h => ?_) (fun f cd A outer s H vs Q E hr h => ?_)
  · obtain ⟨a, b, c, rfl, _⟩ := h; rfl
  obtain ⟨a, b, c, rfl, h1, h2, qq⟩ := h
  refine ⟨_, pss_one (ps_ret (pe_and (C_is_integer.call hr (pa_cons (pv 0) pa_nil)) (pe_one (pe_chain op_le op_le (pv 1) (pv 0) (pv 2))))), ?_⟩
  walk_at "go"
  refine ⟨a, rfl, ?_⟩
  walk_at "go"
  refine r_chain ?_
  walk_at "go"
  refine r_iteD (fun _ => ?_) (fun z => absurd h1 z)
  walk_at "go"
  rw [decide_eq_true h2]
  exact qq
def sp_are_ascending (K : PySem.W.Frag) : Sp := fun vs H Q _ => ∃ (a : Addr) (ns : List Int), vs = [.ref a] ∧ SqT K H a (ns.map V.int) ∧ ns.Pairwise (· < ·) ∧ ns.length ≤ 1000 ∧ Q (.bl true) H
theorem sc_are_ascending : FnScope ["things", "at"] ["things"] (defScope s_are_ascending) := ⟨rfl, rfl, rfl, by decide +kernel, rfl, by decide +kernel, by decide +kernel⟩
theorem ok_are_ascending (T : Tx K mg CE CS) : OkF P w K mg base "are_ascending" ["things"] 1 (sp_are_ascending K) := by
  refine okF T.are_ascending sc_are_ascending (fun _ _ _ _ _ _ us hl => match us, hl with | [_], _ => rfl) (fun vs H Q E h => ?_) (fun f cd A outer s H vs Q E hr h => ?_)
  · obtain ⟨a, ns, rfl, _⟩ := h; rfl
  obtain ⟨a, ns, rfl, ha, hp, hl, qq⟩ := h
  refine ⟨_, pss_cons (ps_for PassesOwn.never rfl (pi_range2 (by rfl) T.b_range (pa_cons pe_int (pa_cons (pe_callB call_len_seq (by rfl) T.b_len PySem.boot_len (pa_cons (pv 0) pa_nil)) pa_nil))) (pg_name (i := 1) sc_are_ascending.nd rfl (Or.inl rfl)) (pss_one (ps_if (pt_cmpR op_ge (pe_ix ix_tup (pv 0) (pe_op op_sub (pv 1) pe_int) (fun _ _ => rfl)) (pe_ix ix_tup (pv 0) (pv 1) (fun _ _ => rfl)) (nomark _)) (pss_one (ps_ret pe_bl)) (pss_nil)))) 
    (pss_one (ps_ret pe_bl)), ?_⟩
  walk_at "go"
  refine ⟨a, _, rfl, .inr ha, ?_⟩
  walk_at "go"
  rw [List.length_map]
  refine ⟨_, _, rfl, ⟨by omega, by omega, by omega, by omega⟩, ?_⟩
  refine for_range (fun i σ H' => ∃ y, σ = [some (.ref a), y] ∧ H' = H) ?_ ?_ ?_
  · exact ⟨none, rfl, rfl⟩
  · rintro i σ H' hi ⟨y, rfl, rfl⟩
    have l1 : i + 1 < ns.length := by omega
    have l0 : i < ns.length := by omega
    have g0 : (ns.map V.int)[i]? = some (.int ns[i]) := by rw [List.getElem?_map, List.getElem?_eq_getElem l0]; rfl
    have g1 : (ns.map V.int)[i + 1]? = some (.int ns[i + 1]) := by rw [List.getElem?_map, List.getElem?_eq_getElem l1]; rfl
    have lt : ns[i] < ns[i + 1] := (List.pairwise_iff_getElem.mp hp) i (i + 1) l0 l1 (Nat.lt_succ_self i)
    walk_at "go"
    refine ⟨a, _, _, _, rfl, rfl, ha, by rw [show (1 : Int) + (i : Nat) - 1 = (i : Nat) by omega]; exact atI_nat g0, ?_⟩
    walk_at "go"
    refine ⟨a, _, _, _, rfl, rfl, ha, by rw [show (1 : Int) + (i : Nat) = ((i + 1 : Nat) : Int) by omega]; exact atI_nat g1, ?_⟩
    walk_at "go"
    refine r_iteD (fun z => absurd z (by omega)) (fun _ => ?_)
    walk_at "go"
    exact ⟨_, rfl, rfl⟩
  · rintro σ H' ⟨y, rfl, rfl⟩
    walk_at "go"
    exact qq
theorem map_int_get0 {l : List Int} {i : Nat} {y : V} (h : (l.map V.int)[i]? = some y) : ∃ k, l[i]? = some k ∧ y = .int k := by
  rw [List.getElem?_map] at h
  cases e : l[i]? with
  | none => rw [e] at h; cases h
  | some k => rw [e] at h; exact ⟨k, rfl, (Option.some.inj h).symm⟩
/-- the items are all true -/
theorem all_true {ys : List V} {n : Nat} (hl : ys.length = n) (h : ∀ (i : Nat) (y : V), ys[i]? = some y → y = .bl true) : ys = (List.replicate n true).map V.bl := by
  rw [List.map_replicate]
  exact List.eq_replicate_iff.mpr ⟨hl, fun y hy => by obtain ⟨i, hi⟩ := List.getElem?_of_mem hy; exact h i y hi⟩
theorem all_rep (n : Nat) : (List.replicate n true).all id = true := List.all_eq_true.mpr fun x hx => (List.mem_replicate.mp hx).2
def sp_is_lot_below (K : PySem.W.Frag) : Sp := fun vs H Q _ => ∃ (a : Addr) (m : Int) (ns : List Int), vs = [.ref a, .int m] ∧ SqT K H a (ns.map V.int) ∧ ns.Pairwise (· < ·) ∧ (∀ x ∈ ns, 0 ≤ x ∧ x < m) ∧ ns.length ≤ 1000 ∧ ∀ H', Same H H' → Q (.bl true) H'
theorem sc_is_lot_below : FnScope ["thing", "many", "item"] ["thing", "many"] (defScope s_is_lot_below) := ⟨rfl, rfl, rfl, by decide +kernel, rfl, by decide +kernel, by decide +kernel⟩
theorem ok_is_lot_below (T : Tx K mg CE CS) (C_is_within : OkF P w K mg base "is_within" ["thing", "least", "most"] 2 sp_is_within) (C_are_ascending : OkF P w K mg base "are_ascending" ["things"] 1 (sp_are_ascending K)) : OkF P w K mg base "is_lot_below" ["thing", "many"] 3 (sp_is_lot_below K) := by
  refine okF T.is_lot_below sc_is_lot_below (fun _ _ _ _ _ _ us hl => match us, hl with | [_, _], _ => rfl) (fun vs H Q E h => ?_) (fun f cd A outer s H vs Q E hr h => ?_)
  · obtain ⟨a, m, ns, rfl, _⟩ := h; rfl
  obtain ⟨a, m, ns, rfl, ha, hp, hb, hl, qq⟩ := h
  refine ⟨_, pss_cons (ps_if (PW.pt (pw_or (pt_not (pt_val (pe_callB call_isi (by rfl) T.b_isinstance (by decide +kernel) (pa_cons (pv 0) (pa_cons (pe_bltn (v := .ty "tuple") rfl T.b_tuple (by decide +kernel) rfl) pa_nil))))) (pw_or1 (pt_not (pt_val (pe_callB (cr_all rfl) (by rfl) T.b_all (by decide +kernel) (pa_cons (pe_lc (own := [("item", 2)]) (g := gName 2) (tt := tYes) rfl sc_is_lot_below.nd (pi_tup (pv 0)) (blkOk_by (own := [("item", 2)]) (N := ["thing", "many", "item"]) (sc := defScope s_is_lot_below) (by decide +kernel)) (fun _ _ _ _ _ => (pg_name (i := 2) sc_is_lot_below.nd rfl (Or.inl rfl))) (fun _ _ _ _ _ => pts_nil) (fun _ _ _ _ _ => (C_is_within.call hr (pa_cons (pv 2) (pa_cons pe_int (pa_cons (pe_op op_sub (pv 1) pe_int) pa_nil)))))) pa_nil))))))) (pss_one (ps_ret pe_bl)) (pss_nil)) 
    (pss_one (ps_ret (C_are_ascending.call hr (pa_cons (pv 0) pa_nil)))), ?_⟩
  walk_at "go"
  refine r_isi (ty_tup ha) (by decide +kernel : kitB "tuple" "tuple" = some true) ?_
  walk_at "go"
  refine ⟨a, rfl, ⟨_, ha⟩, fun D nD => lc_tupR (fun i y _ => y = .bl true) apart_val ha nD (by rw [List.length_map]; exact hl) (fun i x H2 Q2 hi s2 hQ => ?_) (fun H2 ys s2 hD hly hR => ?_) gname_mono⟩
  · obtain ⟨k, hk, rfl⟩ := map_int_get0 hi
    have := hb k (List.mem_of_getElem? hk)
    refine ⟨rfl, ?_⟩
    walk_at "go"
    refine ⟨k, 0, m - 1, rfl, this.1, by omega, ?_⟩
    exact hQ _ _ (Same.refl _) rfl
  obtain rfl := all_true hly hR
  walk_at "go"
  refine ⟨D, _, rfl, SqL.of hD, ?_⟩
  rw [all_rep]
  walk_at "go"
  exact ⟨a, ns, rfl, Same.tup s2 ha, hp, hl, qq H2 s2⟩
def sp_sorted_numbers (K : PySem.W.Frag) : Sp := fun vs H Q _ => ∃ (a : Addr) (ns : List Int), vs = [.ref a] ∧ SqT K H a (ns.map V.int) ∧ ns.length ≤ 1000 ∧ ∀ (ks : List Int) (p : Addr) (H' : Hp), Same H H' → ks.Perm ns → ks.Pairwise (· ≤ ·) → H' p = some (.lst (ks.map V.int)) → Q (.ref p) H'
theorem sc_sorted_numbers : FnScope ["things", "item"] ["things"] (defScope s_sorted_numbers) := ⟨rfl, rfl, rfl, by decide +kernel, rfl, by decide +kernel, by decide +kernel⟩
theorem ok_sorted_numbers (T : Tx K mg CE CS) : OkF P w K mg base "sorted_numbers" ["things"] 1 (sp_sorted_numbers K) := by
  refine okF T.sorted_numbers sc_sorted_numbers (fun _ _ _ _ _ _ us hl => match us, hl with | [_], _ => rfl) (fun vs H Q E h => ?_) (fun f cd A outer s H vs Q E hr h => ?_)
  · obtain ⟨a, ns, rfl, _⟩ := h; rfl
  obtain ⟨a, ns, rfl, ha, hl, qq⟩ := h
  refine ⟨_, pss_one (ps_ret (pe_ifExp (pt_val (pe_callB (cr_all rfl) (by rfl) T.b_all (by decide +kernel) (pa_cons (pe_lc (own := [("item", 1)]) (g := gName 1) (tt := tYes) rfl sc_sorted_numbers.nd (pi_tup (pv 0)) (blkOk_by (own := [("item", 1)]) (N := ["things", "item"]) (sc := defScope s_sorted_numbers) (by decide +kernel)) (fun _ _ _ _ _ => (pg_name (i := 1) sc_sorted_numbers.nd rfl (Or.inl rfl))) (fun _ _ _ _ _ => pts_nil) (fun _ _ _ _ _ => (pe_callB (r := rIsi K) call_isi (by rfl) T.b_isinstance (by decide +kernel) (pa_cons (pv 1) (pa_cons (pe_bltn (v := .ty "int") rfl T.b_int (by decide +kernel) rfl) pa_nil))))) pa_nil))) (pe_callB cr_sortedTup (by rfl) T.b_sorted (by decide +kernel) (pa_cons (pv 0) pa_nil)) (pe_callTy call_list_of (by rfl) T.b_list (by decide +kernel) (pa_cons (pv 0) pa_nil)))), ?_⟩
  walk_at "go"
  refine ⟨a, rfl, ⟨_, ha⟩, fun D nD => lc_tupR (fun i y _ => y = .bl true) apart_val ha nD (by rw [List.length_map]; exact hl) (fun i x H2 Q2 hi s2 hQ => ?_) (fun H2 ys s2 hD hly hR => ?_) gname_mono⟩
  · obtain ⟨k, hk, rfl⟩ := map_int_get0 hi
    refine ⟨rfl, ?_⟩
    walk_at "go"
    refine r_isi (.base (.int k)) (by decide +kernel : kitB "int" "int" = some true) ?_
    exact hQ _ _ (Same.refl _) rfl
  obtain rfl := all_true hly hR
  walk_at "go"
  refine ⟨D, _, rfl, SqL.of hD, ?_⟩
  rw [all_rep]
  walk_at "go"
  refine ⟨a, ns, rfl, Same.tup s2 ha, fun ks p k1 k2 np => ?_⟩
  exact qq ks p _ (s2.trans (same_new np)) k1 k2 upd_same
theorem intsV_int (A : List Nat) : intsV A = (A.map fun (a : Nat) => (a : Int)).map V.int := by unfold intsV; rw [List.map_map]; rfl
def sp_is_order (K : PySem.W.Frag) : Sp := fun vs H Q _ => ∃ (a : Addr) (m : Nat) (A : List Nat), vs = [.int m, .ref a] ∧ SqT K H a (intsV A) ∧ QM.Ord m A ∧ m ≤ 1000 ∧ ∀ H', Same H H' → Q (.bl true) H'
theorem sc_is_order : FnScope ["many", "thing"] ["many", "thing"] (defScope s_is_order) := ⟨rfl, rfl, rfl, by decide +kernel, rfl, by decide +kernel, by decide +kernel⟩
theorem ok_is_order (T : Tx K mg CE CS) (C_is_lot_below : OkF P w K mg base "is_lot_below" ["thing", "many"] 3 (sp_is_lot_below K)) (C_sorted_numbers : OkF P w K mg base "sorted_numbers" ["things"] 1 (sp_sorted_numbers K)) : OkF P w K mg base "is_order" ["many", "thing"] 4 (sp_is_order K) := by
  refine okF T.is_order sc_is_order (fun _ _ _ _ _ _ us hl => match us, hl with | [_, _], _ => rfl) (fun vs H Q E h => ?_) (fun f cd A outer s H vs Q E hr h => ?_)
  · obtain ⟨a, m, A, rfl, _⟩ := h; rfl
  obtain ⟨a, m, A, rfl, ha, O, hm, qq⟩ := h
  refine ⟨_, pss_one (ps_ret (pe_and (pe_callB call_isi (by rfl) T.b_isinstance (by decide +kernel) (pa_cons (pv 1) (pa_cons (pe_bltn (v := .ty "tuple") rfl T.b_tuple (by decide +kernel) rfl) pa_nil))) (pe_and (pe_cmpR op_eq (pe_callB call_len_seq (by rfl) T.b_len PySem.boot_len (pa_cons (pv 1) pa_nil)) (pv 0) (nomark _)) (pe_one (C_is_lot_below.call hr (pa_cons (pe_callTy call_tuple_of (by rfl) T.b_tuple (by decide +kernel) (pa_cons (C_sorted_numbers.call hr (pa_cons (pv 1) pa_nil)) pa_nil)) (pa_cons (pv 0) pa_nil))))))), ?_⟩
  have ha' := ha
  rw [intsV_int] at ha'
  walk_at "go"
  refine r_isi (ty_tup ha) (by decide +kernel : kitB "tuple" "tuple" = some true) ?_
  walk_at "go"
  refine ⟨a, _, rfl, .inr ha, ?_⟩
  walk_at "go"
  refine ⟨rfl, ?_⟩
  rw [show (intsV A).length = m by unfold intsV; rw [List.length_map, O.len]]
  walk_at "go"
  refine r_iteD (fun _ => ?_) (fun z => absurd rfl z)
  walk_at "go"
  refine ⟨a, _, rfl, ha', by rw [List.length_map, O.len]; exact hm, fun ks p H1 s1 k1 k2 hp => ?_⟩
  walk_at "go"
  refine ⟨p, _, rfl, .inl ⟨SqL.of hp, fun t nt => ?_⟩⟩
  walk_at "go"
  have nd : ks.Nodup := k1.nodup_iff.mpr (List.Pairwise.map _ (fun x y h z => h (Int.ofNat.inj z)) O.nd)
  refine ⟨t, m, ks, rfl, sqt_new, ?_, fun x hx => ?_, by rw [k1.length_eq, List.length_map, O.len]; exact hm, fun H2 s2 => qq H2 ((s1.trans (same_new nt)).trans s2)⟩
  · exact (k2.and nd).imp fun h => Int.lt_iff_le_and_ne.mpr h
  · obtain ⟨y, hy, rfl⟩ := List.mem_map.mp (k1.mem_iff.mp hx)
    have := O.lt y hy
    omega
def sp_check_orders (K : PySem.W.Frag) (CE : Addr) : Sp := fun vs H Q _ => ∃ (e a b : Addr) (p q : Int) (os ds : List Int) (A B : List Nat), vs = [.ref e, .ref a, .ref b] ∧ EvAt K CE H e p q os ds ∧ Gd p q os ds ∧ SqT K H a (intsV A) ∧ SqT K H b (intsV B) ∧ QM.Ord os.length A ∧ QM.Ord ds.length B ∧ ∀ H', Same H H' → Q .non H'
theorem sc_check_orders : FnScope ["evening", "owers", "takers"] ["evening", "owers", "takers"] (defScope s_check_orders) := ⟨rfl, rfl, rfl, by decide +kernel, rfl, by decide +kernel, by decide +kernel⟩
theorem ok_check_orders (T : Tx K mg CE CS) (C_is_order : OkF P w K mg base "is_order" ["many", "thing"] 4 (sp_is_order K)) : OkF P w K mg base "check_orders" ["evening", "owers", "takers"] 5 (sp_check_orders K CE) := by
  refine okF T.check_orders sc_check_orders (fun _ _ _ _ _ _ us hl => match us, hl with | [_, _, _], _ => rfl) (fun vs H Q E h => ?_) (fun f cd A outer s H vs Q E hr h => ?_)
  · obtain ⟨e, a, b, p, q, os, ds, A, B, rfl, _⟩ := h; rfl
  obtain ⟨e, a, b, p, q, os, ds, A, B, rfl, he, G, ha, hb, oA, oB, qq⟩ := h
  refine ⟨_, pss_one (ps_if (PW.pt (pw_or (pt_not (pt_val (C_is_order.call hr (pa_cons (pe_callB call_len_seq (by rfl) T.b_len PySem.boot_len (pa_cons (pe_fld (pv 0) rfl) pa_nil)) (pa_cons (pv 1) pa_nil))))) (pw_or1 (pt_not (pt_val (C_is_order.call hr (pa_cons (pe_callB call_len_seq (by rfl) T.b_len PySem.boot_len (pa_cons (pe_fld (pv 0) rfl) pa_nil)) (pa_cons (pv 2) pa_nil)))))))) (pss_one (ps_never)) (pss_nil)), ?_⟩
  obtain ⟨dx, fs, ao, ad, vo, vd, h1, h2, h3, h4, h5, h6, h7⟩ := he
  have e1 := G.lo
  have e2 := G.ld
  walk_at "go"
  refine ⟨ao, _, rfl, .inr h4, ?_⟩
  walk_at "go"
  refine ⟨a, os.length, A, by rw [h6.len]; rfl, ha, oA, by omega, fun H1 s1 => ?_⟩
  walk_at "go"
  refine ⟨ad, _, rfl, .inr (Same.tup s1 h5), ?_⟩
  walk_at "go"
  refine ⟨b, ds.length, B, by rw [h7.len]; rfl, Same.tup s1 hb, oB, by omega, fun H2 s2 => ?_⟩
  walk_at "go"
  exact qq H2 (s1.trans s2)
end QH

/-! QW8: a state, and the way of the queues -/
namespace QH
open PySem PySem.Spec L2 QF
variable {P : Program} {w : World} {K : PySem.W.Frag} {mg : Str → Option Value} {base : Heap} {CE CS : Addr}
/-- all but lists and states stands -/
def Kp (H H' : Hp) : Prop := ∀ b o, H b = some o → H' b = some o ∨ (∃ xs, o = .lst xs) ∨ (∃ C dx fs, o = .ins C dx fs ∧ fs.lookup ("owed" : Str) = none)
theorem Kp.same {H H' : Hp} (s : Same H H') : Kp H H' := fun b o h => .inl (s b o h)
theorem Kp.trans {H H' H'' : Hp} (k : Kp H H') (k' : Kp H' H'') : Kp H H'' := fun b o h => by
  rcases k b o h with z | z
  · exact k' b o z
  · exact .inr z
theorem Kp.new {H : Hp} {a : Addr} {o : HO} (h : H a = none) : Kp H (upd H a o) := Kp.same (same_new h)
theorem Kp.lst {H : Hp} {a : Addr} {xs : List V} {o : HO} (h : H a = some (.lst xs)) : Kp H (upd H a o) := fun b u e => by
  by_cases z : b = a
  · subst z; rw [h] at e; cases e; exact .inr (.inl ⟨xs, rfl⟩)
  · exact .inl (by rw [upd_ne z]; exact e)
theorem Kp.ins {H : Hp} {a C dx : Addr} {fs : List (Str × V)} {o : HO} (h : H a = some (.ins C dx fs)) (l : fs.lookup ("owed" : Str) = none) : Kp H (upd H a o) := fun b u e => by
  by_cases z : b = a
  · subst z; rw [h] at e; cases e; exact .inr (.inr ⟨C, dx, fs, rfl, l⟩)
  · exact .inl (by rw [upd_ne z]; exact e)
theorem Kp.tup {H H' : Hp} (k : Kp H H') {a : Addr} {xs : List V} (h : H a = some (.tup xs)) : H' a = some (.tup xs) := by
  rcases k a _ h with z | ⟨ys, z⟩ | ⟨C, dx, fs, z, _⟩
  · exact z
  · cases z
  · cases z
theorem Kp.sqt {K : PySem.W.Frag} {H H' : Hp} (k : Kp H H') {a : Addr} {xs : List V} (h : SqT K H a xs) : SqT K H' a xs := by
  rcases h with (h | ⟨o, h⟩) | h
  · exact .inl (.inl (k.tup h))
  · rcases k a _ h with z | ⟨ys, z⟩ | ⟨C, dx, fs, z, _⟩
    · exact .inl (.inr ⟨o, z⟩)
    · cases z
    · cases z
  · exact .inr h
theorem Kp.fr {K : PySem.W.Frag} {H H' : Hp} (k : Kp H H') {v : V} {x : Int × Int} (h : Fr K H v x) : Fr K H' v x := let ⟨a, e, s⟩ := h; ⟨a, e, k.sqt s⟩
theorem Kp.frs {K : PySem.W.Frag} {H H' : Hp} (k : Kp H H') {vs : List V} {p q : Int} {ks : List Int} (h : Frs K H vs p q ks) : Frs K H' vs p q ks := ⟨h.len, fun i v j a b => k.fr (h.at_ i v j a b)⟩
theorem Kp.ev {K : PySem.W.Frag} {CE : Addr} {H H' : Hp} (k : Kp H H') {e : Addr} {p q : Int} {os ds : List Int} (h : EvAt K CE H e p q os ds) : EvAt K CE H' e p q os ds := by
  obtain ⟨dx, fs, ao, ad, vo, vd, h1, h2, h3, h4, h5, h6, h7⟩ := h
  refine ⟨dx, fs, ao, ad, vo, vd, ?_, h2, h3, k.sqt h4, k.sqt h5, k.frs h6, k.frs h7⟩
  rcases k e _ h1 with z | ⟨ys, z⟩ | ⟨C, d, f, z, l⟩
  · exact z
  · cases z
  · cases z; rw [h2] at l; cases l
abbrev stF (lo ld : Addr) : List (Str × V) := [("owed_left", .ref lo), ("due_left", .ref ld)]
/-- a state stands at x -/
structure StAt (K : PySem.W.Frag) (CS : Addr) (H : Hp) (x lo ld : Addr) (p q : Int) (as bs : List Int) : Prop where
  ne : lo ≠ ld
  ex : ∃ (dx : Addr) (vo vd : List V), H x = some (.ins CS dx (stF lo ld)) ∧ H lo = some (.lst vo) ∧ H ld = some (.lst vd) ∧ Frs K H vo p q as ∧ Frs K H vd p q bs
theorem StAt.same {K : PySem.W.Frag} {CS : Addr} {H H' : Hp} {x lo ld : Addr} {p q : Int} {as bs : List Int} (s : Same H H') (h : StAt K CS H x lo ld p q as bs) : StAt K CS H' x lo ld p q as bs := by
  obtain ⟨ne, dx, vo, vd, h1, h2, h3, h4, h5⟩ := h
  exact ⟨ne, dx, vo, vd, s _ _ h1, s _ _ h2, s _ _ h3, h4.same s, h5.same s⟩
/-- .. and a list elsewhere is written -/
theorem StAt.lst {K : PySem.W.Frag} {CS : Addr} {H : Hp} {x lo ld a : Addr} {p q : Int} {as bs : List Int} {xs : List V} {o : HO} (h : StAt K CS H x lo ld p q as bs) (ha : H a = some (.lst xs)) (n1 : lo ≠ a) (n2 : ld ≠ a) : StAt K CS (upd H a o) x lo ld p q as bs := by
  obtain ⟨ne, dx, vo, vd, h1, h2, h3, h4, h5⟩ := h
  have n3 : x ≠ a := fun z => by rw [z, ha] at h1; cases h1
  exact ⟨ne, dx, vo, vd, by rw [upd_ne n3]; exact h1, by rw [upd_ne n1]; exact h2, by rw [upd_ne n2]; exact h3, (Kp.lst ha).frs h4, (Kp.lst ha).frs h5⟩
def sp_State_init (K : PySem.W.Frag) (CE CS : Addr) : Sp := fun vs H Q _ => ∃ (x e dx : Addr) (p q : Int) (os ds : List Int), vs = [.ref x, .ref e] ∧ H x = some (.ins CS dx []) ∧ EvAt K CE H e p q os ds ∧
  ∀ lo ld H', (∀ b o, b ≠ x → H b = some o → H' b = some o) → H lo = none → H ld = none → StAt K CS H' x lo ld p q os ds → Q .non H'
theorem sc_State_init : FnScope ["self", "evening"] ["self", "evening"] (defScope s_State_init) := ⟨rfl, rfl, rfl, by decide +kernel, rfl, by decide +kernel, by decide +kernel⟩
theorem ok_State_init (T : Tx K mg CE CS) : OkI P w K mg base CS ["self", "evening"] 1 (sp_State_init K CE CS) := by
  refine okI T.State_init sc_State_init (fun _ _ _ _ _ _ us hl => match us, hl with | [_, _], _ => rfl) (fun vs H Q E h => ?_) (fun f cd A outer s H vs Q E hr h => ?_)
  · obtain ⟨x, e, dx, p, q, os, ds, rfl, _⟩ := h; rfl
  obtain ⟨x, e, dx, p, q, os, ds, rfl, hx, he, qq⟩ := h
  refine ⟨_, pss_cons (ps_fld (pv 0) (pe_callTy call_list_of (by rfl) T.b_list (by decide +kernel) (pa_cons (pe_fld (pv 1) rfl) pa_nil)) rfl) 
    (pss_one (ps_fld (pv 0) (pe_callTy call_list_of (by rfl) T.b_list (by decide +kernel) (pa_cons (pe_fld (pv 1) rfl) pa_nil)) rfl)), ?_⟩
  have he0 := he
  obtain ⟨dxe, fs, ao, ad, vo, vd, h1, h2, h3, h4, h5, h6, h7⟩ := he
  walk_at "go"
  refine ⟨ao, vo, rfl, .inr h4, fun lo nlo => ?_⟩
  have n1 : x ≠ lo := fun z => by rw [z, nlo] at hx; cases hx
  have hx1 : upd H lo (.lst vo) x = some (.ins CS dx []) := by rw [upd_ne n1]; exact hx
  walk_at "go"
  refine ⟨x, CS, dx, [], rfl, hx1, T.cS, T.nOL, by decide, ?_⟩
  walk_at "go"
  have k1 : Kp H (upd (upd H lo (.lst vo)) x (.ins CS dx (putF "owed_left" (.ref lo) []))) := (Kp.new nlo).trans (Kp.ins hx1 rfl)
  have kk : ∀ b o, b ≠ x → H b = some o → upd (upd H lo (.lst vo)) x (.ins CS dx (putF "owed_left" (.ref lo) [])) b = some o := fun b o hb ho => by
    rw [upd_ne hb]; exact same_new nlo b o ho
  have hxx : upd (upd H lo (.lst vo)) x (.ins CS dx (putF "owed_left" (.ref lo) [])) x = some (.ins CS dx (putF "owed_left" (.ref lo) [])) := upd_same
  have hlo : upd (upd H lo (.lst vo)) x (.ins CS dx (putF "owed_left" (.ref lo) [])) lo = some (.lst vo) := by rw [upd_ne (Ne.symm n1)]; exact upd_same
  generalize upd (upd H lo (.lst vo)) x (.ins CS dx (putF "owed_left" (.ref lo) [])) = H1 at *
  obtain ⟨dxe', fs', ao', ad', vo', vd', g1, g2, g3, g4, g5, g6, g7⟩ := k1.ev ⟨dxe, fs, ao, ad, vo, vd, h1, h2, h3, h4, h5, h6, h7⟩
  walk_at "go"
  refine ⟨ad', vd', rfl, .inr g5, fun ld nld => ?_⟩
  walk_at "go"
  have n2 : x ≠ ld := fun z => by rw [z, nld] at hxx; cases hxx
  have hx2 : upd H1 ld (.lst vd') x = some (.ins CS dx (putF "owed_left" (.ref lo) [])) := by rw [upd_ne n2]; exact hxx
  refine ⟨x, CS, dx, _, rfl, hx2, T.cS, T.nDL, (show 1 < 1000 by decide), ?_⟩
  walk_at "go"
  have n3 : lo ≠ ld := fun z => by rw [← z, hlo] at nld; cases nld
  have nld0 : H ld = none := by
    cases e : H ld with
    | none => rfl
    | some o =>
      have := kk ld o (Ne.symm n2) e
      rw [nld] at this; cases this
  refine qq lo ld _ (fun b o hb ho => ?_) nlo nld0 ⟨n3, dx, vo, vd', upd_same, ?_, ?_, ?_, ?_⟩
  · rw [upd_ne hb]; exact same_new nld b o (kk b o hb ho)
  · rw [upd_ne (Ne.symm n1)]; exact same_new nld _ _ hlo
  · rw [upd_ne (Ne.symm n2)]; exact upd_same
  · exact (Kp.ins hx2 rfl).frs ((Kp.new nld).frs (k1.frs h6))
  · exact (Kp.ins hx2 rfl).frs ((Kp.new nld).frs g7)
/-- a pair's place in a state -/
def PairAt (K : PySem.W.Frag) (H : Hp) (pr : Addr) (p q : Int) (as bs : List Int) (i j : Nat) (a b : Int) : Prop := SqT K H pr [.int i, .int j] ∧ Un p q ∧ as[i]? = some a ∧ bs[j]? = some b ∧ 0 ≤ a ∧ a ≤ 1000 ∧ 0 ≤ b ∧ b ≤ 1000
def sp_amount_of (K : PySem.W.Frag) (CS : Addr) : Sp := fun vs H Q _ => ∃ (x pr lo ld : Addr) (p q : Int) (as bs : List Int) (i j : Nat) (a b : Int), vs = [.ref x, .ref pr] ∧ StAt K CS H x lo ld p q as bs ∧ PairAt K H pr p q as bs i j a b ∧ ∀ v, Fr K H v (fr p q (QM.mn a b)) → Q v H
theorem sc_State_amount_of : FnScope ["self", "pair"] ["self", "pair"] (defScope s_State_amount_of) := ⟨rfl, rfl, rfl, by decide +kernel, rfl, by decide +kernel, by decide +kernel⟩
theorem ok_State_amount_of (T : Tx K mg CE CS) (C_least_of : OkF P w K mg base "least_of" ["one", "other"] 2 (sp_least_of K)) : OkM P w K mg base CS "amount_of" ["self", "pair"] 3 (sp_amount_of K CS) := by
  refine okM T.State_amount_of sc_State_amount_of (fun _ _ _ _ _ _ us hl => match us, hl with | [_, _], _ => rfl) (fun vs H Q E h => ?_) (fun f cd A outer s H vs Q E hr h => ?_)
  · obtain ⟨x, pr, lo, ld, p, q, as, bs, i, j, a, b, rfl, _⟩ := h; rfl
  obtain ⟨x, pr, lo, ld, p, q, as, bs, i, j, a, b, rfl, ⟨ne, dx, vo, vd, h1, h2, h3, h4, h5⟩, ⟨hp, U, ha, hb, a0, a1, b0, b1⟩, qq⟩ := h
  have l1 : (stF lo ld).lookup ("owed_left" : Str) = some (.ref lo) := rfl
  have l2 : (stF lo ld).lookup ("due_left" : Str) = some (.ref ld) := rfl
  obtain ⟨v1, e1, f1⟩ := h4.get ha
  obtain ⟨v2, e2, f2⟩ := h5.get hb
  refine ⟨_, pss_one (ps_ret (C_least_of.call hr (pa_cons (pe_ix ix_list (pe_fld (pv 0) rfl) (pe_ix ix_tup (pv 1) pe_int (fun _ _ => rfl)) (fun _ _ => rfl)) (pa_cons (pe_ix ix_list (pe_fld (pv 0) rfl) (pe_ix ix_tup (pv 1) pe_int (fun _ _ => rfl)) (fun _ _ => rfl)) pa_nil)))), ?_⟩
  walk_at "go"
  refine ⟨lo, _, _, _, rfl, rfl, SqL.of h2, atI_nat e1, ?_⟩
  walk_at "go"
  refine ⟨ld, _, _, _, rfl, rfl, SqL.of h3, atI_nat e2, ?_⟩
  walk_at "go"
  refine ⟨v1, v2, _, _, rfl, f1, f2, fr_sm U a0 a1, fr_sm U b0 b1, ?_⟩
  refine qq _ ?_
  unfold QM.mn
  by_cases h : b < a
  · rw [if_pos h, if_pos ((fr_less U.hp U.hq).mpr h)]; exact f2
  · rw [if_neg h, if_neg (fun z => h ((fr_less U.hp U.hq).mp z))]; exact f1
def sp_go (K : PySem.W.Frag) (CS : Addr) : Sp := fun vs H Q _ => ∃ (x pr lo ld : Addr) (p q : Int) (as bs : List Int) (i j : Nat) (a b : Int), vs = [.ref x, .ref pr] ∧ StAt K CS H x lo ld p q as bs ∧ PairAt K H pr p q as bs i j a b ∧
  ∀ v H', (∀ c o, c ≠ lo → c ≠ ld → H c = some o → H' c = some o) → StAt K CS H' x lo ld p q (as.set i (a - QM.mn a b)) (bs.set j (b - QM.mn a b)) → Q v H'
theorem ixN_nat {n i : Nat} (h : i < n) : ixN n (i : Int) = some i := by
  unfold ixN
  rw [if_pos (by omega), if_pos (by omega), Int.toNat_natCast]
theorem sc_State_go : FnScope ["self", "pair", "amount"] ["self", "pair"] (defScope s_State_go) := ⟨rfl, rfl, rfl, by decide +kernel, rfl, by decide +kernel, by decide +kernel⟩
theorem ok_State_go (T : Tx K mg CE CS) (C_amount_of : OkM P w K mg base CS "amount_of" ["self", "pair"] 3 (sp_amount_of K CS)) (C_minus : OkF P w K mg base "minus" ["one", "other"] 3 (spOp CT fminus K)) : OkM P w K mg base CS "go" ["self", "pair"] 4 (sp_go K CS) := by
  refine okM T.State_go sc_State_go (fun _ _ _ _ _ _ us hl => match us, hl with | [_, _], _ => rfl) (fun vs H Q E h => ?_) (fun f cd A outer s H vs Q E hr h => ?_)
  · obtain ⟨x, pr, lo, ld, p, q, as, bs, i, j, a, b, rfl, _⟩ := h; rfl
  obtain ⟨x, pr, lo, ld, p, q, as, bs, i, j, a, b, rfl, S, PA, qq⟩ := h
  obtain ⟨ne, dx, vo, vd, h1, h2, h3, h4, h5⟩ := id S
  obtain ⟨hp, U, ha, hb, a0, a1, b0, b1⟩ := id PA
  have l1 : (stF lo ld).lookup ("owed_left" : Str) = some (.ref lo) := rfl
  have l2 : (stF lo ld).lookup ("due_left" : Str) = some (.ref ld) := rfl
  have m0 : 0 ≤ QM.mn a b := by unfold QM.mn; split <;> omega
  have m1 : QM.mn a b ≤ 1000 := by unfold QM.mn; split <;> omega
  obtain ⟨v1, e1, f1⟩ := h4.get ha
  obtain ⟨v2, e2, f2⟩ := h5.get hb
  refine ⟨_, pss_cons (ps_set (i := 2) sc_State_go.nd rfl (Or.inl rfl) (C_amount_of.call T.cS hr (pv 0) (pa_cons (pv 1) pa_nil))) 
    (pss_cons (ps_asg (C_minus.call hr (pa_cons (pe_ix ix_list (pe_fld (pv 0) rfl) (pe_ix ix_tup (pv 1) pe_int (fun _ _ => rfl)) (fun _ _ => rfl)) (pa_cons (pv 2) pa_nil))) (pg_sub (pe_fld (pv 0) rfl) (pe_ix ix_tup (pv 1) pe_int (fun _ _ => rfl)) set_list)) 
    (pss_cons (ps_asg (C_minus.call hr (pa_cons (pe_ix ix_list (pe_fld (pv 0) rfl) (pe_ix ix_tup (pv 1) pe_int (fun _ _ => rfl)) (fun _ _ => rfl)) (pa_cons (pv 2) pa_nil))) (pg_sub (pe_fld (pv 0) rfl) (pe_ix ix_tup (pv 1) pe_int (fun _ _ => rfl)) set_list)) 
    (pss_one (ps_ret (pv 2))))), ?_⟩
  walk_at "go"
  refine ⟨x, dx, _, rfl, h1, rfl, ?_⟩
  walk_at "go"
  refine ⟨x, pr, lo, ld, p, q, as, bs, i, j, a, b, rfl, S, PA, fun v fv => ?_⟩
  walk_at "go"
  refine ⟨lo, _, _, _, rfl, rfl, SqL.of h2, atI_nat e1, ?_⟩
  walk_at "go"
  refine ⟨v1, v, _, _, rfl, f1, fv, fr_sm U a0 a1, fr_sm U m0 m1, trivial, fun t1 nt1 => ?_⟩
  rw [fminus_fr U]
  have s1 := same_new (o := .tup [V.int (fr p q (a - QM.mn a b)).1, V.int (fr p q (a - QM.mn a b)).2]) nt1
  have f3 : Fr K (upd H t1 (.tup [V.int (fr p q (a - QM.mn a b)).1, V.int (fr p q (a - QM.mn a b)).2])) (.ref t1) (fr p q (a - QM.mn a b)) := Fr.new
  have g1 := s1 _ _ h1
  have g2 := s1 _ _ h2
  have g3 := s1 _ _ h3
  have hp1 := Same.tup s1 hp
  have fv1 := fv.same s1
  have g4 := h4.same s1
  have g5 := h5.same s1
  generalize upd H t1 (.tup [V.int (fr p q (a - QM.mn a b)).1, V.int (fr p q (a - QM.mn a b)).2]) = H1 at *
  walk_at "go"
  refine ⟨lo, vo, _, i, rfl, rfl, g2, ixN_nat (List.getElem?_eq_some_iff.mp e1).1, ?_⟩
  have k2 : Kp H1 (upd H1 lo (.lst (vo.set i (.ref t1)))) := Kp.lst g2
  have n1 : x ≠ lo := fun z => by rw [z, h2] at h1; cases h1
  have n2 : x ≠ ld := fun z => by rw [z, h3] at h1; cases h1
  have i1 : upd H1 lo (.lst (vo.set i (.ref t1))) x = some (.ins CS dx (stF lo ld)) := by rw [upd_ne n1]; exact g1
  have i2 : upd H1 lo (.lst (vo.set i (.ref t1))) lo = some (.lst (vo.set i (.ref t1))) := upd_same
  have i3 : upd H1 lo (.lst (vo.set i (.ref t1))) ld = some (.lst vd) := by rw [upd_ne (Ne.symm ne)]; exact g3
  have i4 := k2.frs (g4.set (i := i) (v := .ref t1) (k := a - QM.mn a b) f3)
  have i5 := k2.frs g5
  have hp2 := k2.sqt hp1
  have fv2 := k2.fr fv1
  have off2 : ∀ c o, c ≠ lo → c ≠ ld → H c = some o → upd H1 lo (.lst (vo.set i (.ref t1))) c = some o := fun c o c1 c2 hc => by rw [upd_ne c1]; exact s1 c o hc
  generalize upd H1 lo (.lst (vo.set i (.ref t1))) = H2 at *
  obtain ⟨v3, e3, f4⟩ := i5.get hb
  walk_at "go"
  refine ⟨ld, _, _, _, rfl, rfl, SqL.of i3, atI_nat e3, ?_⟩
  walk_at "go"
  refine ⟨v3, v, _, _, rfl, f4, fv2, fr_sm U b0 b1, fr_sm U m0 m1, trivial, fun t2 nt2 => ?_⟩
  rw [fminus_fr U]
  have s3 := same_new (o := .tup [V.int (fr p q (b - QM.mn a b)).1, V.int (fr p q (b - QM.mn a b)).2]) nt2
  have f5 : Fr K (upd H2 t2 (.tup [V.int (fr p q (b - QM.mn a b)).1, V.int (fr p q (b - QM.mn a b)).2])) (.ref t2) (fr p q (b - QM.mn a b)) := Fr.new
  have j1 := s3 _ _ i1
  have j2 := s3 _ _ i2
  have j3 := s3 _ _ i3
  have hp3 := Same.tup s3 hp2
  have j4 := i4.same s3
  have j5 := i5.same s3
  have off3 : ∀ c o, c ≠ lo → c ≠ ld → H c = some o → upd H2 t2 (.tup [V.int (fr p q (b - QM.mn a b)).1, V.int (fr p q (b - QM.mn a b)).2]) c = some o := fun c o c1 c2 hc => s3 c o (off2 c o c1 c2 hc)
  generalize upd H2 t2 (.tup [V.int (fr p q (b - QM.mn a b)).1, V.int (fr p q (b - QM.mn a b)).2]) = H3 at *
  walk_at "go"
  refine ⟨ld, vd, _, j, rfl, rfl, j3, ixN_nat (List.getElem?_eq_some_iff.mp e3).1, ?_⟩
  walk_at "go"
  refine qq v _ (fun c o c1 c2 hc => by rw [upd_ne c2]; exact off3 c o c1 c2 hc) ⟨ne, dx, _, _, by rw [upd_ne n2]; exact j1, by rw [upd_ne ne]; exact j2, upd_same, (Kp.lst j3).frs j4, (Kp.lst j3).frs (j5.set f5)⟩
end QH

/-! QW9: the way of the queues and its number -/
namespace QH
open PySem PySem.Spec L2 QF
variable {P : Program} {w : World} {K : PySem.W.Frag} {mg : Str → Option Value} {base : Heap} {CE CS : Addr}
/-- an amount is nothing -/
theorem r_eq0 {K : PySem.W.Frag} {H : Hp} {Q : VK} {v : V} {z : Addr} {p q k : Int} (U : Un p q) (hv : Fr K H v (fr p q k)) (hz : SqT K H z [.int 0, .int 1]) (h : Q (.bl (decide (k = 0))) H) : rEqD K v (.ref z) H Q := by
  obtain ⟨a, rfl, ha⟩ := hv
  refine ⟨.tuple [.int (fr p q k).1, .int (fr p q k).2], .tuple [.int 0, .int 1], .tup ha (.cons (.int _) (.cons (.int _) .nil)), .tup hz (.cons (.int _) (.cons (.int _) .nil)), rfl, rfl, ?_⟩
  have e : PyData.eqv (.tuple [.int (fr p q k).1, .int (fr p q k).2]) (.tuple [.int 0, .int 1]) = decide (k = 0) := by
    have e0 := fr_zero (p := p) U.hq
    by_cases hk : k = 0
    · subst hk
      rw [e0]; rfl
    · rw [decide_eq_false hk]
      cases h : PyData.eqv (.tuple [.int (fr p q k).1, .int (fr p q k).2]) (.tuple [.int 0, .int 1]) with
      | false => rfl
      | true =>
        simp [PyData.eqv, PyData.eqvAll] at h
        exact absurd (fr_inj U.hp U.hq ((Prod.ext h.1 h.2 : fr p q k = (0, 1)).trans e0.symm)) hk
  rw [e]; exact h
theorem seq0 {n : Nat} (h : 0 < n) : seqIndex? 0 n = some 0 := by
  unfold seqIndex?
  simp [h]
theorem intsV_pos {i : Nat} {A : List Nat} : 0 < (intsV (i :: A)).length := by unfold intsV; rw [List.length_map, List.length_cons]; omega
def lenAt (H : Hp) (a : Addr) : Nat := match H a with | some (.lst xs) => xs.length | _ => 0
theorem lenAt_of {H : Hp} {a : Addr} {xs : List V} (h : H a = some (.lst xs)) : lenAt H a = xs.length := by unfold lenAt; rw [h]
def sp_way_of_queues (K : PySem.W.Frag) (CE : Addr) : Sp := fun vs H Q _ => ∃ (e a b : Addr) (p q : Int) (os ds : List Int) (A B : List Nat), vs = [.ref e, .ref a, .ref b] ∧ EvAt K CE H e p q os ds ∧ Gd p q os ds ∧ SqT K H a (intsV A) ∧ SqT K H b (intsV B) ∧ QM.Ord os.length A ∧ QM.Ord ds.length B ∧
  ∀ t W H', Same H H' → SqT K H' t W → (W.length : Int) = QM.gq os ds A B → Q (.ref t) H'
theorem sc_way_of_queues : FnScope ["evening", "owers", "takers", "state", "one", "other", "way", "pair"] ["evening", "owers", "takers"] (defScope s_way_of_queues) := ⟨rfl, rfl, rfl, by decide +kernel, rfl, by decide +kernel, by decide +kernel⟩
theorem ok_way_of_queues (T : Tx K mg CE CS) (C_State : OkI P w K mg base CS ["self", "evening"] 1 (sp_State_init K CE CS)) (C_go : OkM P w K mg base CS "go" ["self", "pair"] 4 (sp_go K CS)) : OkF P w K mg base "way_of_queues" ["evening", "owers", "takers"] 5 (sp_way_of_queues K CE) := by
  refine okF T.way_of_queues sc_way_of_queues (fun _ _ _ _ _ _ us hl => match us, hl with | [_, _, _], _ => rfl) (fun vs H Q E h => ?_) (fun f cd A outer s H vs Q E hr h => ?_)
  · obtain ⟨e, a, b, p, q, os, ds, A, B, rfl, _⟩ := h; rfl
  obtain ⟨e, a, b, p, q, os, ds, A0, B0, rfl, he, G, ha, hb, oA, oB, qq⟩ := h
  obtain ⟨z, mz, hz⟩ := T.zero
  have hu64 := hr.units
  refine ⟨_, pss_cons (ps_set (i := 3) sc_way_of_queues.nd rfl (Or.inl rfl) (C_State.make T.mSt hr (pa_cons (pv 0) pa_nil))) 
    (pss_cons (ps_par (i := 4) (j := 5) rfl sc_way_of_queues.nd rfl rfl (by decide) rfl rfl (pa_cons (pe_callTy call_list_of (by rfl) T.b_list (by decide +kernel) (pa_cons (pv 1) pa_nil)) (pa_cons (pe_callTy call_list_of (by rfl) T.b_list (by decide +kernel) (pa_cons (pv 2) pa_nil)) pa_nil)) rfl) 
    (pss_cons (ps_set (i := 6) sc_way_of_queues.nd rfl (Or.inl rfl) (pe_lst pa_nil)) 
    (pss_cons (ps_while PassesOwn.never (pt_cmpR op_gt (pe_callB call_len_seq (by rfl) T.b_len PySem.boot_len (pa_cons (pv 4) pa_nil)) pe_int (nomark _)) (pss_cons (ps_set (i := 7) sc_way_of_queues.nd rfl (Or.inl rfl) (pe_tup (pa_cons (pe_ix ix_list (pv 4) pe_int (fun _ _ => rfl)) (pa_cons (pe_ix ix_list (pv 5) pe_int (fun _ _ => rfl)) pa_nil)))) 
        (pss_cons (ps_expr (C_go.call T.cS hr (pv 3) (pa_cons (pv 7) pa_nil))) 
        (pss_cons (ps_expr (pe_bm PySem.F.plainAttrs_list PySem.F.slot_list_append PySem.F.type_list_append mt_append (pv 6) (pa_cons (pv 7) pa_nil))) 
        (pss_cons (ps_if (pt_cmpR (op_eqD hu64) (pe_ix ix_list (pe_fld (pv 3) rfl) (pe_ix ix_tup (pv 7) pe_int (fun _ _ => rfl)) (fun _ _ => rfl)) (pe_glob (v := .ref z) rfl mz rfl) (nomark _)) (pss_one (ps_expr (pe_bm PySem.F.plainAttrs_list PySem.F.slot_list_pop PySem.F.type_list_pop mt_popAt (pv 5) (pa_cons pe_int pa_nil)))) (pss_nil)) 
        (pss_one (ps_if (pt_cmpR (op_eqD hu64) (pe_ix ix_list (pe_fld (pv 3) rfl) (pe_ix ix_tup (pv 7) pe_int (fun _ _ => rfl)) (fun _ _ => rfl)) (pe_glob (v := .ref z) rfl mz rfl) (nomark _)) (pss_one (ps_expr (pe_bm PySem.F.plainAttrs_list PySem.F.slot_list_pop PySem.F.type_list_pop mt_popAt (pv 4) (pa_cons pe_int pa_nil)))) (pss_nil)))))))) 
    (pss_one (ps_ret (pe_callTy call_tuple_of (by rfl) T.b_tuple (by decide +kernel) (pa_cons (pv 6) pa_nil))))))), ?_⟩
  walk_at "go"
  intro x dx nx ndx nxd
  have sx : Same H (upd (upd H dx (.own x)) x (.ins CS dx [])) := (same_new ndx).trans (same_new (by rw [upd_ne (Ne.symm nxd)]; exact nx))
  refine ⟨x, e, dx, p, q, os, ds, rfl, upd_same, he.same sx, fun lo ld H1 off nlo nld S => ⟨rfl, ?_⟩⟩
  have s1 : Same H H1 := fun b o h => off b o (fun z => by rw [z, nx] at h; cases h) (sx b o h)
  have none_of : ∀ c, upd (upd H dx (.own x)) x (.ins CS dx []) c = none → H c = none := fun c hc => by
    cases h : H c with
    | none => rfl
    | some o => rw [sx c o h] at hc; cases hc
  have nlo0 := none_of lo nlo
  have nld0 := none_of ld nld
  have none_of1 : ∀ c, H1 c = none → H c = none := fun c hc => by
    cases h : H c with
    | none => rfl
    | some o => rw [s1 c o h] at hc; cases hc
  obtain ⟨_, dx1, vo1, vd1, hx1, hlo1, hld1, _, _⟩ := id S
  walk_at "go"
  refine ⟨a, _, rfl, .inr (Same.tup s1 ha), fun one n1 => ?_⟩
  have t1 := same_new (o := .lst (intsV A0)) n1
  walk_at "go"
  refine ⟨b, _, rfl, .inr (Same.tup t1 (Same.tup s1 hb)), fun other n2 => ?_⟩
  have t2 := same_new (o := .lst (intsV B0)) n2
  walk_at "go"
  intro way n3
  have t3 := same_new (o := .lst []) n3
  walk_at "go"
  have h1 : upd (upd H1 one (.lst (intsV A0))) other (.lst (intsV B0)) one = some (.lst (intsV A0)) := t2 _ _ upd_same
  have h2 : upd (upd H1 one (.lst (intsV A0))) other (.lst (intsV B0)) other = some (.lst (intsV B0)) := upd_same
  have d1 : lo ≠ one := ne_of_none hlo1 n1
  have d2 : ld ≠ one := ne_of_none hld1 n1
  have d3 : lo ≠ other := ne_of_none (t1 _ _ hlo1) n2
  have d4 : ld ≠ other := ne_of_none (t1 _ _ hld1) n2
  have d5 : one ≠ other := ne_of_none (upd_same (H := H1) (a := one) (o := .lst (intsV A0))) n2
  have d6 : lo ≠ way := ne_of_none (t2 _ _ (t1 _ _ hlo1)) n3
  have d7 : ld ≠ way := ne_of_none (t2 _ _ (t1 _ _ hld1)) n3
  have d8 : one ≠ way := ne_of_none h1 n3
  have d9 : other ≠ way := ne_of_none h2 n3
  have m1 := none_of1 _ n1
  have m2 : H other = none := none_of1 _ (by
    cases h : H1 other with
    | none => rfl
    | some o => rw [t1 _ _ h] at n2; cases n2)
  have m3 : H way = none := none_of1 _ (by
    cases h : H1 way with
    | none => rfl
    | some o => rw [t2 _ _ (t1 _ _ h)] at n3; cases n3)
  have hh3 : upd (upd (upd H1 one (.lst (intsV A0))) other (.lst (intsV B0))) way (.lst []) way = some (.lst []) := upd_same
  have hh1 := t3 _ _ h1
  have hh2 := t3 _ _ h2
  have S3 := S.same (t1.trans (t2.trans t3))
  have s4 := s1.trans (t1.trans (t2.trans t3))
  generalize upd (upd (upd H1 one (.lst (intsV A0))) other (.lst (intsV B0))) way (.lst []) = H4 at *
  refine while_by (fun σ H' => ∃ y7 as bs A B W, σ = [some (.ref e), some (.ref a), some (.ref b), some (.ref x), some (.ref one), some (.ref other), some (.ref way), y7] ∧ Same H H' ∧ StAt K CS H' x lo ld p q as bs ∧
    H' one = some (.lst (intsV A)) ∧ H' other = some (.lst (intsV B)) ∧ H' way = some (.lst W) ∧ QM.QI (QM.qn (QM.vals os A0) (QM.vals ds B0)) as bs A B W.length ∧ W.length + A.length + B.length ≤ 100) (fun _ H' => lenAt H' one + lenAt H' other) ?_ ?_ ?_
  · refine ⟨none, os, ds, A0, B0, [], rfl, s4, S3, hh1, hh2, hh3, QM.QI.first G.ev G.bd oA oB, ?_⟩
    have := G.lo
    have := G.ld
    rw [oA.len, oB.len, List.length_nil]; omega
  · rintro σ H' ⟨y7, as, bs, A, B, W, rfl, sH, S', k1, k2, k3, I, hlen⟩
    walk_at "go"
    refine ⟨one, _, rfl, .inl (SqL.of k1), ?_⟩
    walk_at "go"
    cases A with
    | nil =>
      refine r_iteD (fun h => absurd h (by decide)) (fun _ => ?_)
      walk_at "go"
      refine ⟨way, W, rfl, .inl ⟨SqL.of k3, fun t nt => ?_⟩⟩
      walk_at "go"
      refine qq t W _ (sH.trans (same_new nt)) sqt_new ?_
      rw [I.last]; rfl
    | cons i A =>
      refine r_iteD (fun _ => ?_) (fun h => absurd (show (0 : Int) < ((intsV (i :: A)).length : Nat) by unfold intsV; rw [List.length_map, List.length_cons]; omega) h)
      obtain ⟨j, B', rfl, li, lj, x0, x1, y0, y1, I'⟩ := I.step
      have q1 : SqL K H' one (V.int i :: intsV A) := SqL.of k1
      have q2 : SqL K H' other (V.int j :: intsV B') := SqL.of k2
      walk_at "go"
      intro pr npr
      have s5 := same_new (o := .tup [V.int i, V.int j]) npr
      have hpr : upd H' pr (.tup [V.int i, V.int j]) pr = some (.tup [V.int i, V.int j]) := upd_same
      have S5 := S'.same s5
      have j1 := s5 _ _ k1
      have j2 := s5 _ _ k2
      have j3 := s5 _ _ k3
      have sH5 := sH.trans s5
      generalize upd H' pr (.tup [V.int i, V.int j]) = H5 at *
      obtain ⟨_, dx5, vo5, vd5, hx5, hlo5, hld5, _, _⟩ := id S5
      have hprT : SqT K H5 pr [.int i, .int j] := .inl (.inl hpr)
      have gi : as[i]? = some (as.getD i 0) := by rw [List.getD_eq_getElem?_getD, List.getElem?_eq_getElem li]; rfl
      have gj : bs[j]? = some (bs.getD j 0) := by rw [List.getD_eq_getElem?_getD, List.getElem?_eq_getElem lj]; rfl
      have gi' : (as.set i (as.getD i 0 - QM.mn (as.getD i 0) (bs.getD j 0)))[i]? = some (as.getD i 0 - QM.mn (as.getD i 0) (bs.getD j 0)) := List.getElem?_set_self li
      have gj' : (bs.set j (bs.getD j 0 - QM.mn (as.getD i 0) (bs.getD j 0)))[j]? = some (bs.getD j 0 - QM.mn (as.getD i 0) (bs.getD j 0)) := List.getElem?_set_self lj
      walk_at "go"
      refine ⟨x, _, _, rfl, hx5, rfl, ?_⟩
      walk_at "go"
      refine ⟨x, pr, lo, ld, p, q, as, bs, i, j, _, _, rfl, S5, ⟨hprT, G.un, gi, gj, Int.le_of_lt x0, x1, Int.le_of_lt y0, y1⟩, fun v H6 off6 S6 => ?_⟩
      have hm : ¬ (as.getD i 0 - QM.mn (as.getD i 0) (bs.getD j 0) ≠ 0 ∧ bs.getD j 0 - QM.mn (as.getD i 0) (bs.getD j 0) ≠ 0) := by unfold QM.mn; split <;> omega
      generalize as.getD i 0 - QM.mn (as.getD i 0) (bs.getD j 0) = xx at *
      generalize bs.getD j 0 - QM.mn (as.getD i 0) (bs.getD j 0) = yy at *
      generalize as.set i xx = as' at *
      generalize bs.set j yy = bs' at *
      have w1 := off6 _ _ (Ne.symm d1) (Ne.symm d2) j1
      have w2 := off6 _ _ (Ne.symm d3) (Ne.symm d4) j2
      have w3 := off6 _ _ (Ne.symm d6) (Ne.symm d7) j3
      have w4 := off6 _ _ (fun z => by rw [z, hlo5] at hpr; cases hpr) (fun z => by rw [z, hld5] at hpr; cases hpr) hpr
      have sH6 : Same H H6 := fun c o hc => off6 c o (fun z => by rw [z, nlo0] at hc; cases hc) (fun z => by rw [z, nld0] at hc; cases hc) (sH5 c o hc)
      walk_at "go"
      refine r_tylist (SqL.of w3) ?_
      walk_at "go"
      refine ⟨way, W, _, rfl, rfl, w3, by rw [sizeLine_eq]; omega, ?_⟩
      have S7 : StAt K CS (upd H6 way (.lst (W ++ [V.ref pr]))) x lo ld p q as' bs' := S6.lst w3 d6 d7
      have u1 : upd H6 way (.lst (W ++ [V.ref pr])) one = some (.lst (intsV (i :: A))) := by rw [upd_ne d8]; exact w1
      have u2 : upd H6 way (.lst (W ++ [V.ref pr])) other = some (.lst (intsV (j :: B'))) := by rw [upd_ne d9]; exact w2
      have u3 : upd H6 way (.lst (W ++ [V.ref pr])) way = some (.lst (W ++ [V.ref pr])) := upd_same
      have u4 : upd H6 way (.lst (W ++ [V.ref pr])) pr = some (.tup [V.int i, V.int j]) := (Kp.lst w3).tup w4
      have sH7 : Same H (upd H6 way (.lst (W ++ [V.ref pr]))) := Same.mut sH6 m3
      generalize upd H6 way (.lst (W ++ [V.ref pr])) = H7 at *
      have l1 : (stF lo ld).lookup ("owed_left" : Str) = some (.ref lo) := rfl
      have l2 : (stF lo ld).lookup ("due_left" : Str) = some (.ref ld) := rfl
      have hpr7 : SqT K H7 pr [.int i, .int j] := .inl (.inl u4)
      obtain ⟨_, dx7, vo7, vd7, hx7, hlo7, hld7, fo7, fd7⟩ := id S7
      obtain ⟨v7, ev7, fv7⟩ := fd7.get gj'
      have wl : (W ++ [V.ref pr]).length = W.length + 1 := by simp
      rw [List.length_cons, List.length_cons] at hlen
      walk_at "go"
      refine ⟨ld, _, _, _, rfl, rfl, SqL.of hld7, atI_nat ev7, ?_⟩
      walk_at "go"
      refine r_eq0 G.un fv7 (hz _) ?_
      walk_at "go"
      refine r_iteD (fun hy0 => ?_) (fun hy0 => ?_)
      · walk_at "go"
        refine r_tylist (SqL.of u2) ?_
        walk_at "go"
        refine ⟨other, _, 0, 0, V.int j, rfl, rfl, u2, by decide, by decide, seq0 intsV_pos, rfl, ?_⟩
        have S8 : StAt K CS (upd H7 other (.lst (intsV B'))) x lo ld p q as' bs' := S7.lst u2 d3 d4
        have y1h : upd H7 other (.lst (intsV B')) one = some (.lst (intsV (i :: A))) := by rw [upd_ne d5]; exact u1
        have y2h : upd H7 other (.lst (intsV B')) other = some (.lst (intsV B')) := upd_same
        have y3h : upd H7 other (.lst (intsV B')) way = some (.lst (W ++ [V.ref pr])) := by rw [upd_ne (Ne.symm d9)]; exact u3
        have hpr8 : SqT K (upd H7 other (.lst (intsV B'))) pr [.int i, .int j] := (Kp.lst u2).sqt hpr7
        have sH8 : Same H (upd H7 other (.lst (intsV B'))) := Same.mut sH7 m2
        have e8 : upd H7 other (.lst ((intsV (j :: B')).eraseIdx 0)) = upd H7 other (.lst (intsV B')) := rfl
        rw [e8]
        generalize upd H7 other (.lst (intsV B')) = H8 at *
        obtain ⟨_, dx8, vo8, vd8, hx8, hlo8, hld8, fo8, fd8⟩ := id S8
        obtain ⟨v8, ev8, fv8⟩ := fo8.get gi'
        walk_at "go"
        refine ⟨lo, _, _, _, rfl, rfl, SqL.of hlo8, atI_nat ev8, ?_⟩
        walk_at "go"
        refine r_eq0 G.un fv8 (hz _) ?_
        walk_at "go"
        refine r_iteD (fun hx0 => ?_) (fun hx0 => ?_)
        · walk_at "go"
          refine r_tylist (SqL.of y1h) ?_
          walk_at "go"
          refine ⟨one, _, 0, 0, V.int i, rfl, rfl, y1h, by decide, by decide, seq0 intsV_pos, rfl, ?_⟩
          rw [if_pos hx0, if_pos hy0] at I'
          refine ⟨⟨_, as', bs', A, B', W ++ [V.ref pr], rfl, Same.mut sH8 m1, S8.lst y1h d1 d2, upd_same, by rw [upd_ne (Ne.symm d5)]; exact y2h, by rw [upd_ne (Ne.symm d8)]; exact y3h, by rw [wl]; exact I', by rw [wl]; (try rw [List.length_cons]); omega⟩, ?_⟩
          show lenAt (upd H8 one (.lst (intsV A))) one + lenAt (upd H8 one (.lst (intsV A))) other < _
          rw [lenAt_of (upd_same (H := H8) (a := one) (o := .lst (intsV A))), lenAt_of (show upd H8 one (.lst (intsV A)) other = some (.lst (intsV (B'))) by rw [upd_ne (Ne.symm d5)]; exact y2h), lenAt_of k1, lenAt_of k2]
          simp only [intsV, List.length_map, List.length_cons]
          omega
        · walk_at "go"
          rw [if_neg hx0, if_pos hy0] at I'
          refine ⟨⟨_, as', bs', i :: A, B', W ++ [V.ref pr], rfl, sH8, S8, y1h, y2h, y3h, by rw [wl]; exact I', by rw [wl, List.length_cons]; omega⟩, ?_⟩
          show lenAt H8 one + lenAt H8 other < _
          rw [lenAt_of y1h, lenAt_of y2h, lenAt_of k1, lenAt_of k2]
          simp only [intsV, List.length_map, List.length_cons]
          omega
      · walk_at "go"
        obtain ⟨v8, ev8, fv8⟩ := fo7.get gi'
        walk_at "go"
        refine ⟨lo, _, _, _, rfl, rfl, SqL.of hlo7, atI_nat ev8, ?_⟩
        walk_at "go"
        refine r_eq0 G.un fv8 (hz _) ?_
        walk_at "go"
        refine r_iteD (fun hx0 => ?_) (fun hx0 => ?_)
        · walk_at "go"
          refine r_tylist (SqL.of u1) ?_
          walk_at "go"
          refine ⟨one, _, 0, 0, V.int i, rfl, rfl, u1, by decide, by decide, seq0 intsV_pos, rfl, ?_⟩
          rw [if_pos hx0, if_neg hy0] at I'
          refine ⟨⟨_, as', bs', A, j :: B', W ++ [V.ref pr], rfl, Same.mut sH7 m1, S7.lst u1 d1 d2, upd_same, by rw [upd_ne (Ne.symm d5)]; exact u2, by rw [upd_ne (Ne.symm d8)]; exact u3, by rw [wl]; exact I', by rw [wl]; (try rw [List.length_cons]); omega⟩, ?_⟩
          show lenAt (upd H7 one (.lst (intsV A))) one + lenAt (upd H7 one (.lst (intsV A))) other < _
          rw [lenAt_of (upd_same (H := H7) (a := one) (o := .lst (intsV A))), lenAt_of (show upd H7 one (.lst (intsV A)) other = some (.lst (intsV (j :: B'))) by rw [upd_ne (Ne.symm d5)]; exact u2), lenAt_of k1, lenAt_of k2]
          simp only [intsV, List.length_map, List.length_cons]
          omega
        · walk_at "go"
          exact absurd ⟨hx0, hy0⟩ hm
  · intro σ H' R R' hR h
    obtain ⟨v, c1, pp, ys, c2, c3, i, j, c4, c5, k, c6, c7⟩ := h
    exact ⟨v, c1, pp, ys, c2, c3, i, j, c4, c5, k, c6, hR _ _ c7⟩
def sp_queue_number (K : PySem.W.Frag) (CE : Addr) : Sp := fun vs H Q _ => ∃ (e a b : Addr) (p q : Int) (os ds : List Int) (A B : List Nat), vs = [.ref e, .ref a, .ref b] ∧ EvAt K CE H e p q os ds ∧ Gd p q os ds ∧ SqT K H a (intsV A) ∧ SqT K H b (intsV B) ∧ QM.Ord os.length A ∧ QM.Ord ds.length B ∧
  ∀ H', Same H H' → Q (.int (QM.gq os ds A B)) H'
theorem sc_queue_way : FnScope ["evening", "owers", "takers"] ["evening", "owers", "takers"] (defScope s_queue_way) := ⟨rfl, rfl, rfl, by decide +kernel, rfl, by decide +kernel, by decide +kernel⟩
theorem ok_queue_way (T : Tx K mg CE CS) (C_check_orders : OkF P w K mg base "check_orders" ["evening", "owers", "takers"] 5 (sp_check_orders K CE)) (C_way_of_queues : OkF P w K mg base "way_of_queues" ["evening", "owers", "takers"] 5 (sp_way_of_queues K CE)) : OkF P w K mg base "queue_way" ["evening", "owers", "takers"] 6 (sp_way_of_queues K CE) := by
  refine okF T.queue_way sc_queue_way (fun _ _ _ _ _ _ us hl => match us, hl with | [_, _, _], _ => rfl) (fun vs H Q E h => ?_) (fun f cd A outer s H vs Q E hr h => ?_)
  · obtain ⟨e, a, b, p, q, os, ds, A, B, rfl, _⟩ := h; rfl
  obtain ⟨e, a, b, p, q, os, ds, A, B, rfl, he, G, ha, hb, oA, oB, qq⟩ := h
  refine ⟨_, pss_cons (ps_expr (C_check_orders.call hr (pa_cons (pv 0) (pa_cons (pv 1) (pa_cons (pv 2) pa_nil))))) 
    (pss_one (ps_ret (C_way_of_queues.call hr (pa_cons (pv 0) (pa_cons (pv 1) (pa_cons (pv 2) pa_nil)))))), ?_⟩
  walk_at "go"
  refine ⟨e, a, b, p, q, os, ds, A, B, rfl, he, G, ha, hb, oA, oB, fun H1 s1 => ?_⟩
  walk_at "go"
  exact ⟨e, a, b, p, q, os, ds, A, B, rfl, he.same s1, G, Same.tup s1 ha, Same.tup s1 hb, oA, oB, fun t W H' s2 hW hl => qq t W H' (s1.trans s2) hW hl⟩
theorem sc_queue_number : FnScope ["evening", "owers", "takers"] ["evening", "owers", "takers"] (defScope s_queue_number) := ⟨rfl, rfl, rfl, by decide +kernel, rfl, by decide +kernel, by decide +kernel⟩
theorem ok_queue_number (T : Tx K mg CE CS) (C_queue_way : OkF P w K mg base "queue_way" ["evening", "owers", "takers"] 6 (sp_way_of_queues K CE)) : OkF P w K mg base "queue_number" ["evening", "owers", "takers"] 7 (sp_queue_number K CE) := by
  refine okF T.queue_number sc_queue_number (fun _ _ _ _ _ _ us hl => match us, hl with | [_, _, _], _ => rfl) (fun vs H Q E h => ?_) (fun f cd A outer s H vs Q E hr h => ?_)
  · obtain ⟨e, a, b, p, q, os, ds, A, B, rfl, _⟩ := h; rfl
  obtain ⟨e, a, b, p, q, os, ds, A, B, rfl, he, G, ha, hb, oA, oB, qq⟩ := h
  refine ⟨_, pss_one (ps_ret (pe_callB call_len_seq (by rfl) T.b_len PySem.boot_len (pa_cons (C_queue_way.call hr (pa_cons (pv 0) (pa_cons (pv 1) (pa_cons (pv 2) pa_nil)))) pa_nil))), ?_⟩
  walk_at "go"
  refine ⟨e, a, b, p, q, os, ds, A, B, rfl, he, G, ha, hb, oA, oB, fun t W H' s1 hW hl => ?_⟩
  walk_at "go"
  refine ⟨t, W, rfl, .inr hW, ?_⟩
  rw [hl]
  exact qq H' s1
end QH

/-! QW10: an evening is made -/
namespace QH
open PySem PySem.Spec L2 QF
variable {P : Program} {w : World} {K : PySem.W.Frag} {mg : Str → Option Value} {base : Heap} {CE CS : Addr}
def sp_is_pair (K : PySem.W.Frag) : Sp := fun vs H Q _ => ∃ (a : Addr) (x y : V), vs = [.ref a] ∧ SqT K H a [x, y] ∧ Q (.bl true) H
theorem sc_is_pair : FnScope ["thing"] ["thing"] (defScope s_is_pair) := ⟨rfl, rfl, rfl, by decide +kernel, rfl, by decide +kernel, by decide +kernel⟩
theorem ok_is_pair (T : Tx K mg CE CS) : OkF P w K mg base "is_pair" ["thing"] 1 (sp_is_pair K) := by
  refine okF T.is_pair sc_is_pair (fun _ _ _ _ _ _ us hl => match us, hl with | [_], _ => rfl) (fun vs H Q E h => ?_) (fun f cd A outer s H vs Q E hr h => ?_)
  · obtain ⟨a, x, y, rfl, _⟩ := h; rfl
  obtain ⟨a, x, y, rfl, ha, qq⟩ := h
  refine ⟨_, pss_one (ps_ret (pe_and (pe_callB call_isi (by rfl) T.b_isinstance (by decide +kernel) (pa_cons (pv 0) (pa_cons (pe_bltn (v := .ty "tuple") rfl T.b_tuple (by decide +kernel) rfl) pa_nil))) (pe_one (pe_cmpR op_eq (pe_callB call_len_seq (by rfl) T.b_len PySem.boot_len (pa_cons (pv 0) pa_nil)) pe_int (nomark _))))), ?_⟩
  walk_at "go"
  refine r_isi (ty_tup ha) (by decide +kernel : kitB "tuple" "tuple" = some true) ?_
  walk_at "go"
  refine ⟨a, _, rfl, .inr ha, ?_⟩
  walk_at "go"
  exact ⟨rfl, qq⟩
def sp_is_fraction (K : PySem.W.Frag) (pos : Bool) : Sp := fun vs H Q _ => ∃ (v : V) (x : Int × Int), vs = [v] ∧ Fr K H v x ∧ 0 < x.2 ∧ gcdI x.1 x.2 = 1 ∧ (pos = true → 0 < x.1) ∧ Q (.bl true) H
theorem sc_is_fraction : FnScope ["thing"] ["thing"] (defScope s_is_fraction) := ⟨rfl, rfl, rfl, by decide +kernel, rfl, by decide +kernel, by decide +kernel⟩
theorem ok_is_fraction (T : Tx K mg CE CS) (C_is_pair : OkF P w K mg base "is_pair" ["thing"] 1 (sp_is_pair K)) (C_is_integer : OkF P w K mg base "is_integer" ["thing"] 1 sp_is_integer) (C_common_divisor : OkF P w K mg base "common_divisor" ["one", "other"] 1 sp_common_divisor) : OkF P w K mg base "is_fraction" ["thing"] 2 (sp_is_fraction K false) := by
  refine okF T.is_fraction sc_is_fraction (fun _ _ _ _ _ _ us hl => match us, hl with | [_], _ => rfl) (fun vs H Q E h => ?_) (fun f cd A outer s H vs Q E hr h => ?_)
  · obtain ⟨v, x, rfl, _⟩ := h; rfl
  obtain ⟨v, ⟨x, y⟩, rfl, ⟨a, rfl, ha⟩, hy, hg, _, qq⟩ := h
  refine ⟨_, pss_cons (ps_if (PW.pt (pw_or (pt_not (pt_val (C_is_pair.call hr (pa_cons (pv 0) pa_nil)))) (pw_or (pt_not (pt_val (C_is_integer.call hr (pa_cons (pe_ix ix_tup (pv 0) pe_int (fun _ _ => rfl)) pa_nil)))) (pw_or (pt_not (pt_val (C_is_integer.call hr (pa_cons (pe_ix ix_tup (pv 0) pe_int (fun _ _ => rfl)) pa_nil)))) (pw_or1 (pt_cmpR op_lt (pe_ix ix_tup (pv 0) pe_int (fun _ _ => rfl)) pe_int (nomark _))))))) (pss_one (ps_ret pe_bl)) (pss_nil)) 
    (pss_one (ps_ret (pe_cmpR op_eq (C_common_divisor.call hr (pa_cons (pe_ix ix_tup (pv 0) pe_int (fun _ _ => rfl)) (pa_cons (pe_ix ix_tup (pv 0) pe_int (fun _ _ => rfl)) pa_nil))) pe_int (nomark _)))), ?_⟩
  walk_at "go"
  refine ⟨a, _, _, rfl, ha, ?_⟩
  walk_at "go"
  refine ⟨x, rfl, ?_⟩
  walk_at "go"
  refine ⟨y, rfl, ?_⟩
  walk_at "go"
  refine r_iteD (fun z => absurd hy (by have := z; show ¬ 0 < y; omega)) (fun _ => ?_)
  walk_at "go"
  refine ⟨x, y, rfl, ?_⟩
  walk_at "go"
  refine ⟨rfl, ?_⟩
  rw [hg]
  exact qq
theorem sc_is_amount : FnScope ["thing"] ["thing"] (defScope s_is_amount) := ⟨rfl, rfl, rfl, by decide +kernel, rfl, by decide +kernel, by decide +kernel⟩
theorem ok_is_amount (T : Tx K mg CE CS) (C_is_fraction : OkF P w K mg base "is_fraction" ["thing"] 2 (sp_is_fraction K false)) : OkF P w K mg base "is_amount" ["thing"] 3 (sp_is_fraction K true) := by
  refine okF T.is_amount sc_is_amount (fun _ _ _ _ _ _ us hl => match us, hl with | [_], _ => rfl) (fun vs H Q E h => ?_) (fun f cd A outer s H vs Q E hr h => ?_)
  · obtain ⟨v, x, rfl, _⟩ := h; rfl
  obtain ⟨v, x, rfl, hv, hy, hg, hx, qq⟩ := h
  refine ⟨_, pss_one (ps_ret (pe_and (C_is_fraction.call hr (pa_cons (pv 0) pa_nil)) (pe_one (pe_cmpR op_gt (pe_ix ix_tup (pv 0) pe_int (fun _ _ => rfl)) pe_int (nomark _))))), ?_⟩
  obtain ⟨a, rfl, ha⟩ := id hv
  walk_at "go"
  refine ⟨_, x, rfl, hv, hy, hg, (fun z => nomatch z), ?_⟩
  walk_at "go"
  rw [decide_eq_true (hx rfl)]
  exact qq
def sp_are_sums (K : PySem.W.Frag) : Sp := fun vs H Q _ => ∃ (a : Addr) (xs : List V) (p q : Int) (ks : List Int), vs = [.ref a] ∧ SqT K H a xs ∧ Frs K H xs p q ks ∧ Un p q ∧ QM.Pos ks ∧ 1 ≤ ks.length ∧ ks.length ≤ 100 ∧ ∀ H', Same H H' → Q (.bl true) H'
theorem sc_are_sums : FnScope ["thing", "item"] ["thing"] (defScope s_are_sums) := ⟨rfl, rfl, rfl, by decide +kernel, rfl, by decide +kernel, by decide +kernel⟩
theorem ok_are_sums (T : Tx K mg CE CS) (C_is_amount : OkF P w K mg base "is_amount" ["thing"] 3 (sp_is_fraction K true)) : OkF P w K mg base "are_sums" ["thing"] 4 (sp_are_sums K) := by
  refine okF T.are_sums sc_are_sums (fun _ _ _ _ _ _ us hl => match us, hl with | [_], _ => rfl) (fun vs H Q E h => ?_) (fun f cd A outer s H vs Q E hr h => ?_)
  · obtain ⟨a, xs, p, q, ks, rfl, _⟩ := h; rfl
  obtain ⟨a, xs, p, q, ks, rfl, ha, hf, U, hp, n1, n2, qq⟩ := h
  obtain ⟨tS, mSide⟩ := T.mSide
  refine ⟨_, pss_one (ps_ret (pe_and (pe_callB call_isi (by rfl) T.b_isinstance (by decide +kernel) (pa_cons (pv 0) (pa_cons (pe_bltn (v := .ty "tuple") rfl T.b_tuple (by decide +kernel) rfl) pa_nil))) (pe_and (pe_chain op_le op_le pe_int (pe_callB call_len_seq (by rfl) T.b_len PySem.boot_len (pa_cons (pv 0) pa_nil)) (pe_glob (v := .int 100) rfl mSide ⟨_, rfl⟩)) (pe_one (pe_callB (cr_all rfl) (by rfl) T.b_all (by decide +kernel) (pa_cons (pe_lc (own := [("item", 1)]) (g := gName 1) (tt := tYes) rfl sc_are_sums.nd (pi_tup (pv 0)) (blkOk_by (own := [("item", 1)]) (N := ["thing", "item"]) (sc := defScope s_are_sums) (by decide +kernel)) (fun _ _ _ _ _ => (pg_name (i := 1) sc_are_sums.nd rfl (Or.inl rfl))) (fun _ _ _ _ _ => pts_nil) (fun _ _ _ _ _ => (C_is_amount.call hr (pa_cons (pv 1) pa_nil)))) pa_nil)))))), ?_⟩
  have hl := hf.len
  walk_at "go"
  refine r_isi (ty_tup ha) (by decide +kernel : kitB "tuple" "tuple" = some true) ?_
  walk_at "go"
  refine r_chain ?_
  walk_at "go"
  refine ⟨a, _, rfl, .inr ha, ?_⟩
  walk_at "go"
  refine r_iteD (fun _ => ?_) (fun z => absurd (show (1 : Int) ≤ (xs.length : Nat) by omega) z)
  walk_at "go"
  refine r_iteD (fun _ => ?_) (fun z => absurd (show ((xs.length : Nat) : Int) ≤ 100 by omega) z)
  walk_at "go"
  refine ⟨a, rfl, ⟨_, ha⟩, fun D nD => lc_tupR (fun i y _ => y = .bl true) apart_val ha nD (by omega) (fun i x H2 Q2 hi s2 hQ => ?_) (fun H2 ys s2 hD hly hR => ?_) gname_mono⟩
  · obtain ⟨k, hk, fk⟩ := hf.getv hi
    refine ⟨rfl, ?_⟩
    walk_at "go"
    refine ⟨x, _, rfl, fk.same s2, fr_pos U.hq k, red_coprime U.hq, fun _ => red_pos_l (Int.mul_pos (hp k (List.mem_of_getElem? hk)) U.hp) U.hq, ?_⟩
    exact hQ _ _ (Same.refl _) rfl
  obtain rfl := all_true hly hR
  walk_at "go"
  refine ⟨D, _, rfl, SqL.of hD, ?_⟩
  rw [all_rep]
  exact qq H2 s2
/-- equal amounts are equal -/
theorem r_ne {K : PySem.W.Frag} {H : Hp} {Q : VK} {v u : V} {x : Int × Int} (hv : Fr K H v x) (hu : Fr K H u x) (h : Q (.bl false) H) : rNeD K v u H Q := by
  obtain ⟨a, rfl, ha⟩ := hv
  obtain ⟨b, rfl, hb⟩ := hu
  refine ⟨.tuple [.int x.1, .int x.2], .tuple [.int x.1, .int x.2], .tup ha (.cons (.int _) (.cons (.int _) .nil)), .tup hb (.cons (.int _) (.cons (.int _) .nil)), rfl, rfl, ?_⟩
  have e : PyData.eqv (.tuple [.int x.1, .int x.2]) (.tuple [.int x.1, .int x.2]) = true := by simp [PyData.eqv, PyData.eqvAll]
  rw [e]; exact h
def sp_Evening_init (K : PySem.W.Frag) (CE : Addr) : Sp := fun vs H Q _ => ∃ (x ao ad dx : Addr) (vo vd : List V) (p q : Int) (os ds : List Int), vs = [.ref x, .ref ao, .ref ad] ∧ H x = some (.ins CE dx []) ∧ SqT K H ao vo ∧ SqT K H ad vd ∧ Frs K H vo p q os ∧ Frs K H vd p q ds ∧ Gd p q os ds ∧
  ∀ H', (∀ b o, b ≠ x → H b = some o → H' b = some o) → EvAt K CE H' x p q os ds → Q .non H'
theorem sc_Evening_init : FnScope ["self", "owed", "due"] ["self", "owed", "due"] (defScope s_Evening_init) := ⟨rfl, rfl, rfl, by decide +kernel, rfl, by decide +kernel, by decide +kernel⟩
theorem ok_Evening_init (T : Tx K mg CE CS) (C_are_sums : OkF P w K mg base "are_sums" ["thing"] 4 (sp_are_sums K)) (C_total_of : OkF P w K mg base "total_of" ["fractions"] 4 (sp_total_of K)) : OkI P w K mg base CE ["self", "owed", "due"] 5 (sp_Evening_init K CE) := by
  refine okI T.Evening_init sc_Evening_init (fun _ _ _ _ _ _ us hl => match us, hl with | [_, _, _], _ => rfl) (fun vs H Q E h => ?_) (fun f cd A outer s H vs Q E hr h => ?_)
  · obtain ⟨x, ao, ad, dx, vo, vd, p, q, os, ds, rfl, _⟩ := h; rfl
  obtain ⟨x, ao, ad, dx, vo, vd, p, q, os, ds, rfl, hx, ho, hd, fo, fd, G, qq⟩ := h
  have hu64 := hr.units
  refine ⟨_, pss_cons (ps_if (pt_not (pt_val (C_are_sums.call hr (pa_cons (pv 1) pa_nil)))) (pss_one (ps_never)) (pss_nil)) 
    (pss_cons (ps_if (pt_not (pt_val (C_are_sums.call hr (pa_cons (pv 2) pa_nil)))) (pss_one (ps_never)) (pss_nil)) 
    (pss_cons (ps_if (pt_cmpR (op_neD hu64) (C_total_of.call hr (pa_cons (pv 1) pa_nil)) (C_total_of.call hr (pa_cons (pv 2) pa_nil)) (nomark _)) (pss_one (ps_never)) (pss_nil)) 
    (pss_cons (ps_fld (pv 0) (pv 1) rfl) 
    (pss_one (ps_fld (pv 0) (pv 2) rfl))))), ?_⟩
  have e1 := G.lo
  have e2 := G.ld
  have e3 : 1 ≤ os.length := List.length_pos_iff.mpr G.ev.no
  have e4 : 1 ≤ ds.length := List.length_pos_iff.mpr G.ev.nd
  have es := G.ev.sum
  have eb := G.bd
  walk_at "go"
  refine ⟨ao, vo, p, q, os, rfl, ho, fo, G.un, G.ev.po, e3, by omega, fun H1 s1 => ?_⟩
  walk_at "go"
  refine ⟨ad, vd, p, q, ds, rfl, Same.tup s1 hd, fd.same s1, G.un, G.ev.pd, e4, by omega, fun H2 s2 => ?_⟩
  walk_at "go"
  have s12 := s1.trans s2
  refine ⟨ao, vo, p, q, os, rfl, Same.tup s12 ho, fo.same s12, G.un, G.ev.po, eb, fun v1 H3 s3 f1 => ?_⟩
  walk_at "go"
  have s13 := s12.trans s3
  refine ⟨ad, vd, p, q, ds, rfl, Same.tup s13 hd, fd.same s13, G.un, G.ev.pd, by omega, fun v2 H4 s4 f2 => ?_⟩
  have s14 := s13.trans s4
  walk_at "go"
  refine r_ne (f1.same s4) (es ▸ f2) ?_
  walk_at "go"
  have hx4 := s14 _ _ hx
  refine ⟨x, CE, dx, [], rfl, hx4, T.cE, T.nOwed, (by decide), ?_⟩
  walk_at "go"
  have n1 : upd H4 x (.ins CE dx (putF "owed" (.ref ao) [])) x = some (.ins CE dx (putF "owed" (.ref ao) [])) := upd_same
  refine ⟨x, CE, dx, _, rfl, n1, T.cE, T.nDue, (show 1 < 1000 by decide), ?_⟩
  walk_at "go"
  have k : Kp H4 (upd (upd H4 x (.ins CE dx (putF "owed" (.ref ao) []))) x (.ins CE dx (putF "due" (.ref ad) (putF "owed" (.ref ao) [])))) := fun b u e => by
    by_cases z : b = x
    · subst z; rw [hx4] at e; cases e; exact .inr (.inr ⟨CE, dx, [], rfl, rfl⟩)
    · exact .inl (by rw [upd_ne z, upd_ne z]; exact e)
  refine qq _ (fun b u hb e => by rw [upd_ne hb, upd_ne hb]; exact s14 b u e) ?_
  exact ⟨dx, _, ao, ad, vo, vd, upd_same, rfl, rfl, k.sqt (Same.tup s14 ho), k.sqt (Same.tup s14 hd), k.frs (fo.same s14), k.frs (fd.same s14)⟩
end QH

/-! QL1: the law's source, draws, amounts -/
namespace QH
open PySem PySem.Spec L2 QF
variable {P : Program} {w : World} {K : PySem.W.Frag} {mg : Str → Option Value} {base : Heap} {CE CS : Addr}
theorem sc_law_is_integer : FnScope ["_law_thing"] ["_law_thing"] (defScope s_law_is_integer) := ⟨rfl, rfl, rfl, by decide +kernel, rfl, by decide +kernel, by decide +kernel⟩
theorem ok_law_is_integer (T : Tx K mg CE CS) : OkF P w K mg base "_law_is_integer" ["_law_thing"] 1 sp_is_integer := by
  refine okF T.law_is_integer sc_law_is_integer (fun _ _ _ _ _ _ us hl => match us, hl with | [_], _ => rfl) (fun vs H Q E h => ?_) (fun f cd A outer s H vs Q E hr h => ?_)
  · obtain ⟨a, rfl, _⟩ := h; rfl
  obtain ⟨a, rfl, qq⟩ := h
  refine ⟨_, pss_one (ps_ret (pe_and (pe_callB call_isi (by rfl) T.b_isinstance (by decide +kernel) (pa_cons (pv 0) (pa_cons (pe_bltn (v := .ty "int") rfl T.b_int (by decide +kernel) rfl) pa_nil))) (pe_one (pe_not (pe_callB call_isi (by rfl) T.b_isinstance (by decide +kernel) (pa_cons (pv 0) (pa_cons (pe_bltn (v := .ty "bool") rfl T.b_bool (by decide +kernel) rfl) pa_nil))))))), ?_⟩
  walk_at "go"
  refine r_isi (.base (.int a)) (by decide +kernel : kitB "int" "int" = some true) ?_
  walk_at "go"
  refine r_isi (.base (.int a)) (by decide +kernel : kitB "int" "bool" = some false) ?_
  walk_at "go"
  exact qq
/-- a source: a list of five whole numbers -/
def SrcAt (H : Hp) (a : Addr) : Prop := ∃ c0 c1 c2 c3 c4 : Int, H a = some (.lst [.int c0, .int c1, .int c2, .int c3, .int c4])
/-- all but a stands -/
def Of (a : Addr) (H H' : Hp) : Prop := ∀ b o, b ≠ a → H b = some o → H' b = some o
theorem Of.refl (a : Addr) (H : Hp) : Of a H H := fun _ _ _ h => h
theorem Of.trans {a : Addr} {H H' H'' : Hp} (k : Of a H H') (k' : Of a H' H'') : Of a H H'' := fun b o n h => k' b o n (k b o n h)
theorem Of.same {a : Addr} {H H' : Hp} (s : Same H H') : Of a H H' := fun b o _ h => s b o h
theorem Of.upd {a : Addr} {H : Hp} {o : HO} : Of a H (upd H a o) := fun b u n h => by rw [upd_ne n]; exact h
theorem SrcAt.same {a : Addr} {H H' : Hp} (s : Same H H') (h : SrcAt H a) : SrcAt H' a := let ⟨c0, c1, c2, c3, c4, e⟩ := h; ⟨c0, c1, c2, c3, c4, s _ _ e⟩
theorem Of.kp {a : Addr} {H H' : Hp} (h : SrcAt H a) (k : Of a H H') : Kp H H' := fun b o e => by
  obtain ⟨c0, c1, c2, c3, c4, ea⟩ := h
  by_cases z : b = a
  · subst z; rw [ea] at e; cases e; exact .inr (.inl ⟨_, rfl⟩)
  · exact .inl (k b o z e)
theorem Of.ne {a b : Addr} {H H' : Hp} {o : HO} (h : SrcAt H a) (hb : H b = none) : b ≠ a := fun z => by
  obtain ⟨c0, c1, c2, c3, c4, ea⟩ := h
  rw [z, ea] at hb; cases hb
theorem SrcAt.ne {a b : Addr} {H : Hp} (h : SrcAt H a) (hb : H b = none) : b ≠ a := fun z => by
  obtain ⟨c0, c1, c2, c3, c4, ea⟩ := h
  rw [z, ea] at hb; cases hb
def sp_law_draw : Sp := fun vs H Q _ => ∃ (a : Addr) (m : Int), vs = [.ref a, .int m] ∧ SrcAt H a ∧ 0 < m ∧ m < 1073741824 ∧ ∀ r H', 0 ≤ r → r < m → Of a H H' → SrcAt H' a → Q (.int r) H'
theorem cmul_mod {x j : Int} : CMul (x % 2147483647) j := by
  have h1 := Int.emod_nonneg x (show (2147483647 : Int) ≠ 0 by decide)
  have h2 := Int.emod_lt_of_pos x (show (0 : Int) < 2147483647 by decide)
  exact Or.inl ⟨by omega, by omega⟩
theorem sc_law_draw : FnScope ["_law_source_here", "_law_many", "_law_got", "_law_number"] ["_law_source_here", "_law_many"] (defScope s_law_draw) := ⟨rfl, rfl, rfl, by decide +kernel, rfl, by decide +kernel, by decide +kernel⟩
theorem ok_law_draw (T : Tx K mg CE CS) : OkF P w K mg base "_law_draw" ["_law_source_here", "_law_many"] 1 sp_law_draw := by
  refine okF T.law_draw sc_law_draw (fun _ _ _ _ _ _ us hl => match us, hl with | [_, _], _ => rfl) (fun vs H Q E h => ?_) (fun f cd A outer s H vs Q E hr h => ?_)
  · obtain ⟨a, m, rfl, _⟩ := h; rfl
  obtain ⟨a, m, rfl, ⟨c0, c1, c2, c3, c4, ha⟩, h0, h1, qq⟩ := h
  refine ⟨_, pss_cons (ps_if (pt_cmpR op_gt (pe_ix ix_list (pv 0) pe_int (fun _ _ => rfl)) pe_int (nomark _)) (pss_cons (ps_set (i := 2) sc_law_draw.nd rfl (Or.inl rfl) (pe_op op_mod (pe_callTy call_int1 (by rfl) T.b_int (by decide +kernel) (pa_cons (pe_ix ix_list (pv 0) pe_int (fun _ _ => rfl)) pa_nil)) (pv 1))) 
        (pss_cons (ps_asg (pe_op op_fdiv (pe_ix ix_list (pv 0) pe_int (fun _ _ => rfl)) (pv 1)) (pg_sub (pv 0) pe_int set_list)) 
        (pss_one (ps_ret (pv 2))))) (pss_nil)) 
    (pss_cons (ps_asg (pe_op op_add (pe_ix ix_list (pv 0) pe_int (fun _ _ => rfl)) pe_int) (pg_sub (pv 0) pe_int set_list)) 
    (pss_cons (ps_set (i := 3) sc_law_draw.nd rfl (Or.inl rfl) (pe_op op_mod (pe_callTy call_int1 (by rfl) T.b_int (by decide +kernel) (pa_cons (pe_op op_mul (pe_op op_add (pe_op op_add (pe_op op_add (pe_ix ix_list (pv 0) pe_int (fun _ _ => rfl)) (pe_ix ix_list (pv 0) pe_int (fun _ _ => rfl))) (pe_op op_mul pe_int (pe_ix ix_list (pv 0) pe_int (fun _ _ => rfl)))) (pe_op op_mul pe_int (pe_ix ix_list (pv 0) pe_int (fun _ _ => rfl)))) pe_int) pa_nil)) pe_int)) 
    (pss_cons (ps_set (i := 3) sc_law_draw.nd rfl (Or.inl rfl) (pe_op op_mod (pe_callTy call_int1 (by rfl) T.b_int (by decide +kernel) (pa_cons (pe_op op_mul (pv 3) (pe_op op_add (pe_op op_fdiv (pv 3) pe_int) pe_int)) pa_nil)) pe_int)) 
    (pss_cons (ps_set (i := 3) sc_law_draw.nd rfl (Or.inl rfl) (pe_op op_mod (pe_callTy call_int1 (by rfl) T.b_int (by decide +kernel) (pa_cons (pe_op op_mul (pv 3) (pe_op op_add (pe_op op_fdiv (pv 3) pe_int) pe_int)) pa_nil)) pe_int)) 
    (pss_one (ps_ret (pe_op op_mod (pe_callTy call_int1 (by rfl) T.b_int (by decide +kernel) (pa_cons (pe_op op_fdiv (pv 3) pe_int) pa_nil)) (pv 1)))))))), ?_⟩
  have hl : SqL K H a [.int c0, .int c1, .int c2, .int c3, .int c4] := SqL.of ha
  have hd : ∀ i : Int, CDiv i m := fun i => ⟨h0, h1⟩
  walk_at "go"
  refine r_iteD (fun _ => ?_) (fun _ => ?_)
  · walk_at "go"
    refine .inl ⟨_, rfl, ?_⟩
    walk_at "go"
    refine ⟨_, _, rfl, rfl, hd _, ?_⟩
    walk_at "go"
    refine ⟨a, _, 0, 0, rfl, rfl, ha, rfl, ?_⟩
    walk_at "go"
    exact qq _ _ (Int.emod_nonneg _ (by omega)) (Int.emod_lt_of_pos _ h0) Of.upd ⟨_, _, _, _, _, upd_same⟩
  · walk_at "go"
    refine ⟨a, _, 4, 4, rfl, rfl, ha, rfl, ?_⟩
    have k : Of a H (upd H a (.lst [.int c0, .int c1, .int c2, .int c3, .int (c4 + 1)])) := Of.upd
    have ha1 : upd H a (.lst [.int c0, .int c1, .int c2, .int c3, .int (c4 + 1)]) a = some (.lst [.int c0, .int c1, .int c2, .int c3, .int (c4 + 1)]) := upd_same
    have e1 : upd H a (.lst ([V.int c0, .int c1, .int c2, .int c3, .int c4].set 4 (.int (c4 + 1)))) = upd H a (.lst [.int c0, .int c1, .int c2, .int c3, .int (c4 + 1)]) := rfl
    rw [e1]
    generalize upd H a (.lst [.int c0, .int c1, .int c2, .int c3, .int (c4 + 1)]) = H1 at *
    have hl1 : SqL K H1 a [.int c0, .int c1, .int c2, .int c3, .int (c4 + 1)] := SqL.of ha1
    walk_at "go"
    refine .inl ⟨_, rfl, ?_⟩
    walk_at "go"
    refine ⟨_, _, rfl, rfl, cmul_mod, ?_⟩
    walk_at "go"
    refine .inl ⟨_, rfl, ?_⟩
    walk_at "go"
    refine ⟨_, _, rfl, rfl, cmul_mod, ?_⟩
    walk_at "go"
    refine .inl ⟨_, rfl, ?_⟩
    walk_at "go"
    refine .inl ⟨_, rfl, ?_⟩
    walk_at "go"
    exact qq _ _ (Int.emod_nonneg _ (by omega)) (Int.emod_lt_of_pos _ h0) k ⟨_, _, _, _, _, ha1⟩
def sp_law_source (K : PySem.W.Frag) : Sp := fun vs H Q _ => ∃ (a : Addr) (k : Nat) (ns : List Int), vs = [.ref a, .int k] ∧ SqL K H a (ns.map V.int) ∧ ∀ p H', Same H H' → H p = none → SrcAt H' p → Q (.ref p) H'
theorem sc_law_source : FnScope ["_law_script", "_law_k", "_law_fold", "_law_item", "_law_cell"] ["_law_script", "_law_k"] (defScope s_law_source) := ⟨rfl, rfl, rfl, by decide +kernel, rfl, by decide +kernel, by decide +kernel⟩
theorem ok_law_source (T : Tx K mg CE CS) : OkF P w K mg base "_law_source" ["_law_script", "_law_k"] 1 (sp_law_source K) := by
  refine okF T.law_source sc_law_source (fun _ _ _ _ _ _ us hl => match us, hl with | [_, _], _ => rfl) (fun vs H Q E h => ?_) (fun f cd A outer s H vs Q E hr h => ?_)
  · obtain ⟨a, k, ns, rfl, _⟩ := h; rfl
  obtain ⟨a, k, ns, rfl, ha, qq⟩ := h
  refine ⟨_, pss_cons (ps_set (i := 2) sc_law_source.nd rfl (Or.inl rfl) pe_int) 
    (pss_cons (ps_for PassesOwn.never rfl (pi_list (pe_slice sl_list (pv 0) po_none (po_some pe_int))) (pg_name (i := 3) sc_law_source.nd rfl (Or.inl rfl)) (pss_one (ps_set (i := 2) sc_law_source.nd rfl (Or.inl rfl) (pe_op op_mod (pe_callTy call_int1 (by rfl) T.b_int (by decide +kernel) (pa_cons (pe_op op_add (pe_op op_add (pe_op op_mul (pv 2) pe_int) (pe_op op_mod (pe_callTy call_int1 (by rfl) T.b_int (by decide +kernel) (pa_cons (pv 3) pa_nil)) pe_int)) pe_int) pa_nil)) pe_int)))) 
    (pss_cons (ps_set (i := 4) sc_law_source.nd rfl (Or.inl rfl) (pe_ifExp (pt_cmpR op_lt (pv 1) (pe_callB call_len_seq (by rfl) T.b_len PySem.boot_len (pa_cons (pv 0) pa_nil)) (nomark _)) (pe_callTy call_int1 (by rfl) T.b_int (by decide +kernel) (pa_cons (pe_ix ix_list (pv 0) (pv 1) (fun _ _ => rfl)) pa_nil)) pe_int)) 
    (pss_one (ps_ret (pe_lst (pa_cons (pe_ifExp (pt_cmpR op_ge (pv 4) (pe_op op_pow pe_int pe_int) (nomark _)) (pv 4) pe_int) (pa_cons (pe_op op_mod (pe_callTy call_int1 (by rfl) T.b_int (by decide +kernel) (pa_cons (pv 4) pa_nil)) pe_int) (pa_cons (pv 2) (pa_cons (pe_op op_add (pv 1) pe_int) (pa_cons pe_int pa_nil)))))))))), ?_⟩
  walk_at "go"
  refine ⟨a, _, rfl, ha, fun c nc => ?_⟩
  have s1 := same_new (o := .lst (cutV (ns.map V.int) none (some 63))) nc
  have hc : upd H c (.lst (cutV (ns.map V.int) none (some 63))) c = some (.lst (cutV (ns.map V.int) none (some 63))) := upd_same
  obtain ⟨ms, em⟩ : ∃ ms : List Int, cutV (ns.map V.int) none (some 63) = ms.map V.int := by
    unfold cutV
    rw [← List.map_drop, ← List.map_take]
    exact ⟨_, rfl⟩
  rw [em] at s1 hc ⊢
  generalize upd H c (.lst (ms.map V.int)) = H1 at *
  refine ⟨c, rfl, ⟨_, SqL.of hc⟩, for_list (xs := ms.map V.int) (fun i σ H' => ∃ (z : Int) (y : Option V), σ = [some (.ref a), some (.int k), some (.int z), y, none] ∧ H' = H1) ?_ ?_ ?_ ?_⟩
  · exact ⟨23, none, rfl, rfl⟩
  · rintro i σ H' _ ⟨z, y, rfl, rfl⟩
    exact SqL.of hc
  · rintro i x σ H' hi ⟨z, y, rfl, rfl⟩
    obtain ⟨v, hv, rfl⟩ := map_int_get0 hi
    walk_at "go"
    refine .inl ⟨_, rfl, ?_⟩
    walk_at "go"
    refine .inl ⟨_, rfl, ?_⟩
    walk_at "go"
    exact ⟨_, _, rfl, rfl⟩
  · rintro σ H' ⟨z, y, rfl, rfl⟩
    have ha1 := ha
    walk_at "go"
    refine ⟨a, _, rfl, .inl (s1.seq ha), ?_⟩
    walk_at "go"
    have none_of : ∀ p, H' p = none → H p = none := fun p hp => by
      cases h : H p with
      | none => rfl
      | some o => rw [s1 p o h] at hp; cases hp
    refine r_iteD (fun hk => ?_) (fun _ => ?_)
    · rw [List.length_map] at hk
      have hk' : k < ns.length := by omega
      have gk : (ns.map V.int)[k]? = some (.int ns[k]) := by rw [List.getElem?_map, List.getElem?_eq_getElem hk']; rfl
      walk_at "go"
      refine ⟨a, _, _, _, rfl, rfl, s1.seq ha, atI_nat gk, ?_⟩
      walk_at "go"
      refine .inl ⟨_, rfl, ?_⟩
      walk_at "go"
      refine r_iteD (fun _ => ?_) (fun _ => ?_)
      · walk_at "go"
        refine .inl ⟨_, rfl, ?_⟩
        walk_at "go"
        intro p np
        exact qq p _ (s1.trans (same_new np)) (none_of p np) ⟨_, _, _, _, _, upd_same⟩
      · walk_at "go"
        refine .inl ⟨_, rfl, ?_⟩
        walk_at "go"
        intro p np
        exact qq p _ (s1.trans (same_new np)) (none_of p np) ⟨_, _, _, _, _, upd_same⟩
    · walk_at "go"
      walk_at "go"
      refine r_iteD (fun _ => ?_) (fun _ => ?_)
      · walk_at "go"
        refine .inl ⟨_, rfl, ?_⟩
        walk_at "go"
        intro p np
        exact qq p _ (s1.trans (same_new np)) (none_of p np) ⟨_, _, _, _, _, upd_same⟩
      · walk_at "go"
        refine .inl ⟨_, rfl, ?_⟩
        walk_at "go"
        intro p np
        exact qq p _ (s1.trans (same_new np)) (none_of p np) ⟨_, _, _, _, _, upd_same⟩
/-! ### amounts -/
theorem sc_law_made : FnScope ["_law_top", "_law_bottom", "_law_one", "_law_other"] ["_law_top", "_law_bottom"] (defScope s_law_made) := ⟨rfl, rfl, rfl, by decide +kernel, rfl, by decide +kernel, by decide +kernel⟩
def sp_law_made : Sp := fun vs H Q _ => ∃ a b : Int, vs = [.int a, .int b] ∧ 0 < b ∧ b.natAbs < 2 ^ 8000 ∧ ∀ p, H p = none → Q (.ref p) (upd H p (.tup [.int (red a b).1, .int (red a b).2]))
theorem ok_law_made (T : Tx K mg CE CS) : OkF P w K mg base "_law_made" ["_law_top", "_law_bottom"] 1 sp_law_made := by
  refine okF T.law_made sc_law_made (fun _ _ _ _ _ _ us hl => match us, hl with | [_, _], _ => rfl) (fun vs H Q E h => ?_) (fun f cd A outer s H vs Q E hr h => ?_)
  · obtain ⟨a, b, rfl, _⟩ := h; rfl
  obtain ⟨a, b, rfl, hb, hb2, qq⟩ := h
  refine ⟨_, pss_cons (ps_set (i := 2) sc_law_made.nd rfl (Or.inl rfl) (pe_callB call_abs (by rfl) T.b_abs (by decide +kernel) (pa_cons (pv 0) pa_nil))) 
    (pss_cons (ps_set (i := 3) sc_law_made.nd rfl (Or.inl rfl) (pv 1)) 
    (pss_cons (ps_while PassesOwn.never (pt_cmpR op_gt (pv 3) pe_int (nomark _)) (pss_one (ps_par (i := 2) (j := 3) rfl sc_law_made.nd rfl rfl (by decide) rfl rfl (pa_cons (pv 3) (pa_cons (pe_op op_mod (pe_callTy call_int1 (by rfl) T.b_int (by decide +kernel) (pa_cons (pv 2) pa_nil)) (pv 3)) pa_nil)) rfl))) 
    (pss_one (ps_ret (pe_tup (pa_cons (pe_op op_fdivW (pv 0) (pv 2)) (pa_cons (pe_op op_fdivW (pv 1) (pv 2)) pa_nil))))))), ?_⟩
  have hg := gcd_pos (t := a) hb
  have hwa : CDivW a (gcdI a b) := wide_div hg (b := 8000) (by have := gcd_le (t := a) hb; omega) (by decide) (by decide)
  have hwb : CDivW b (gcdI a b) := hwa
  clear hb2
  walk_at "go"
  refine ⟨a, rfl, ?_⟩
  walk_at "go"
  refine while_by (fun σ H' => ∃ x y : Int, σ = [some (.int a), some (.int b), some (.int x), some (.int y)] ∧ 0 ≤ x ∧ 0 ≤ y ∧ gcdI x y = gcdI a b ∧ H' = H) (fun σ _ => match σ with | [_, _, _, some (.int y)] => y.toNat | _ => 0) ?_ ?_ ?_
  · refine ⟨_, _, rfl, by split <;> omega, by omega, ?_, rfl⟩
    have := gcd_abs a b
    rwa [if_neg (show ¬ b < 0 by omega)] at this
  · rintro σ H' ⟨x, y, rfl, hx, hy, e, rfl⟩
    walk_at "go"
    refine r_iteD (fun hpos => ?_) (fun hn => ?_)
    · walk_at "go"
      refine .inl ⟨_, rfl, ?_⟩
      walk_at "go"
      refine ⟨⟨y, x % y, rfl, hy, Int.emod_nonneg _ (by omega), (gcd_step hx hpos).trans e, rfl⟩, ?_⟩
      show (x % y).toNat < y.toNat
      have := Int.emod_lt_of_pos x hpos
      have := Int.emod_nonneg x (show y ≠ 0 by omega)
      omega
    · have : y = 0 := by omega
      subst this
      rw [gcd_zero hx] at e
      subst e
      walk_at "go"
      exact qq
  · intro σ H' Q Q' hQ h
    obtain ⟨v, h1, i, j, h2, h3, k, h4, h5⟩ := h
    exact ⟨v, h1, i, j, h2, h3, k, h4, hQ _ _ h5⟩
end QH

/-! QL2: the law's units, amounts, orders -/
namespace QH
open PySem PySem.Spec L2 QF
variable {P : Program} {w : World} {K : PySem.W.Frag} {mg : Str → Option Value} {base : Heap} {CE CS : Addr}
def sp_law_unit (K : PySem.W.Frag) : Sp := fun vs H Q _ => ∃ a, vs = [.ref a] ∧ SrcAt H a ∧ ∀ v p q H', Of a H H' → SrcAt H' a → Fr K H' v (p, q) → Un p q → Q v H'
theorem sc_law_unit : FnScope ["_law_source_here"] ["_law_source_here"] (defScope s_law_unit) := ⟨rfl, rfl, rfl, by decide +kernel, rfl, by decide +kernel, by decide +kernel⟩
theorem ok_law_unit (T : Tx K mg CE CS) (C_law_draw : OkF P w K mg base "_law_draw" ["_law_source_here", "_law_many"] 1 sp_law_draw) : OkF P w K mg base "_law_unit" ["_law_source_here"] 2 (sp_law_unit K) := by
  refine okF T.law_unit sc_law_unit (fun _ _ _ _ _ _ us hl => match us, hl with | [_], _ => rfl) (fun vs H Q E h => ?_) (fun f cd A outer s H vs Q E hr h => ?_)
  · obtain ⟨a, rfl, _⟩ := h; rfl
  obtain ⟨a, rfl, S, qq⟩ := h
  refine ⟨_, pss_one (ps_ret (pe_ix ix_tup (pe_tup (pa_cons (pe_tup (pa_cons pe_int (pa_cons pe_int pa_nil))) (pa_cons (pe_tup (pa_cons pe_int (pa_cons pe_int pa_nil))) (pa_cons (pe_tup (pa_cons pe_int (pa_cons pe_int pa_nil))) (pa_cons (pe_tup (pa_cons pe_int (pa_cons pe_int pa_nil))) (pa_cons (pe_tup (pa_cons pe_int (pa_cons pe_int pa_nil))) (pa_cons (pe_tup (pa_cons pe_int (pa_cons pe_int pa_nil))) (pa_cons (pe_tup (pa_cons (pe_op op_pow pe_int pe_int) (pa_cons pe_int pa_nil))) (pa_cons (pe_tup (pa_cons pe_int (pa_cons (pe_op op_pow pe_int pe_int) pa_nil))) pa_nil))))))))) (C_law_draw.call hr (pa_cons (pv 0) (pa_cons pe_int pa_nil))) (fun _ _ => rfl))), ?_⟩
  have c12 : CPow 10 12 := ⟨by decide, by decide, by decide⟩
  have c30 : CPow 10 30 := ⟨by decide, by decide, by decide⟩
  walk_at "go"
  intro p0 n0
  have s0 := same_new (o := .tup [V.int 1, V.int 1]) n0
  have e0 : upd H p0 (.tup [V.int 1, V.int 1]) p0 = some (.tup [V.int 1, V.int 1]) := upd_same
  have m0 : p0 ≠ a := (S).ne n0
  have t0 := s0
  generalize upd H p0 (.tup [V.int 1, V.int 1]) = H0 at *
  walk_at "go"
  intro p1 n1
  have s1 := same_new (o := .tup [V.int 1, V.int 1]) n1
  have e1 : upd H0 p1 (.tup [V.int 1, V.int 1]) p1 = some (.tup [V.int 1, V.int 1]) := upd_same
  have m1 : p1 ≠ a := (S.same t0).ne n1
  have t1 := t0.trans s1
  have e0 := s1 _ _ e0
  generalize upd H0 p1 (.tup [V.int 1, V.int 1]) = H1 at *
  walk_at "go"
  intro p2 n2
  have s2 := same_new (o := .tup [V.int 1, V.int 2]) n2
  have e2 : upd H1 p2 (.tup [V.int 1, V.int 2]) p2 = some (.tup [V.int 1, V.int 2]) := upd_same
  have m2 : p2 ≠ a := (S.same t1).ne n2
  have t2 := t1.trans s2
  have e0 := s2 _ _ e0
  have e1 := s2 _ _ e1
  generalize upd H1 p2 (.tup [V.int 1, V.int 2]) = H2 at *
  walk_at "go"
  intro p3 n3
  have s3 := same_new (o := .tup [V.int 3, V.int 1]) n3
  have e3 : upd H2 p3 (.tup [V.int 3, V.int 1]) p3 = some (.tup [V.int 3, V.int 1]) := upd_same
  have m3 : p3 ≠ a := (S.same t2).ne n3
  have t3 := t2.trans s3
  have e0 := s3 _ _ e0
  have e1 := s3 _ _ e1
  have e2 := s3 _ _ e2
  generalize upd H2 p3 (.tup [V.int 3, V.int 1]) = H3 at *
  walk_at "go"
  intro p4 n4
  have s4 := same_new (o := .tup [V.int 2, V.int 3]) n4
  have e4 : upd H3 p4 (.tup [V.int 2, V.int 3]) p4 = some (.tup [V.int 2, V.int 3]) := upd_same
  have m4 : p4 ≠ a := (S.same t3).ne n4
  have t4 := t3.trans s4
  have e0 := s4 _ _ e0
  have e1 := s4 _ _ e1
  have e2 := s4 _ _ e2
  have e3 := s4 _ _ e3
  generalize upd H3 p4 (.tup [V.int 2, V.int 3]) = H4 at *
  walk_at "go"
  intro p5 n5
  have s5 := same_new (o := .tup [V.int 7, V.int 10]) n5
  have e5 : upd H4 p5 (.tup [V.int 7, V.int 10]) p5 = some (.tup [V.int 7, V.int 10]) := upd_same
  have m5 : p5 ≠ a := (S.same t4).ne n5
  have t5 := t4.trans s5
  have e0 := s5 _ _ e0
  have e1 := s5 _ _ e1
  have e2 := s5 _ _ e2
  have e3 := s5 _ _ e3
  have e4 := s5 _ _ e4
  generalize upd H4 p5 (.tup [V.int 7, V.int 10]) = H5 at *
  walk_at "go"
  intro p6 n6
  have s6 := same_new (o := .tup [V.int (10 ^ (12 : Int).toNat), V.int 7]) n6
  have e6 : upd H5 p6 (.tup [V.int (10 ^ (12 : Int).toNat), V.int 7]) p6 = some (.tup [V.int (10 ^ (12 : Int).toNat), V.int 7]) := upd_same
  have m6 : p6 ≠ a := (S.same t5).ne n6
  have t6 := t5.trans s6
  have e0 := s6 _ _ e0
  have e1 := s6 _ _ e1
  have e2 := s6 _ _ e2
  have e3 := s6 _ _ e3
  have e4 := s6 _ _ e4
  have e5 := s6 _ _ e5
  generalize upd H5 p6 (.tup [V.int (10 ^ (12 : Int).toNat), V.int 7]) = H6 at *
  walk_at "go"
  intro p7 n7
  have s7 := same_new (o := .tup [V.int 1, V.int (10 ^ (30 : Int).toNat)]) n7
  have e7 : upd H6 p7 (.tup [V.int 1, V.int (10 ^ (30 : Int).toNat)]) p7 = some (.tup [V.int 1, V.int (10 ^ (30 : Int).toNat)]) := upd_same
  have m7 : p7 ≠ a := (S.same t6).ne n7
  have t7 := t6.trans s7
  have e0 := s7 _ _ e0
  have e1 := s7 _ _ e1
  have e2 := s7 _ _ e2
  have e3 := s7 _ _ e3
  have e4 := s7 _ _ e4
  have e5 := s7 _ _ e5
  have e6 := s7 _ _ e6
  generalize upd H6 p7 (.tup [V.int 1, V.int (10 ^ (30 : Int).toNat)]) = H7 at *
  walk_at "go"
  intro pt nt
  have s8 := same_new (o := .tup [V.ref p0, V.ref p1, V.ref p2, V.ref p3, V.ref p4, V.ref p5, V.ref p6, V.ref p7]) nt
  have e8 : upd H7 pt (.tup [V.ref p0, V.ref p1, V.ref p2, V.ref p3, V.ref p4, V.ref p5, V.ref p6, V.ref p7]) pt = some (.tup [V.ref p0, V.ref p1, V.ref p2, V.ref p3, V.ref p4, V.ref p5, V.ref p6, V.ref p7]) := upd_same
  have m8 : pt ≠ a := (S.same t7).ne nt
  have t8 := t7.trans s8
  have e0 := s8 _ _ e0
  have e1 := s8 _ _ e1
  have e2 := s8 _ _ e2
  have e3 := s8 _ _ e3
  have e4 := s8 _ _ e4
  have e5 := s8 _ _ e5
  have e6 := s8 _ _ e6
  have e7 := s8 _ _ e7
  generalize upd H7 pt (.tup [V.ref p0, V.ref p1, V.ref p2, V.ref p3, V.ref p4, V.ref p5, V.ref p6, V.ref p7]) = H8 at *
  walk_at "go"
  refine ⟨a, 8, rfl, S.same t8, by decide, by decide, fun r H' r0 r8 k S' => ?_⟩
  have kk := (Of.same (a := a) t8).trans k
  have r9 : r = 0 ∨ r = 1 ∨ r = 2 ∨ r = 3 ∨ r = 4 ∨ r = 5 ∨ r = 6 ∨ r = 7 := by omega
  rcases r9 with rfl | rfl | rfl | rfl | rfl | rfl | rfl | rfl
  · refine ⟨pt, _, _, V.ref p0, rfl, rfl, .inl (.inl (k _ _ m8 e8)), atI_nat (j := 0) rfl, ?_⟩
    exact qq _ (1) (1) H' kk S' ⟨p0, rfl, .inl (.inl (k _ _ m0 e0))⟩ ⟨by decide, by decide, by decide, by decide⟩
  · refine ⟨pt, _, _, V.ref p1, rfl, rfl, .inl (.inl (k _ _ m8 e8)), atI_nat (j := 1) rfl, ?_⟩
    exact qq _ (1) (1) H' kk S' ⟨p1, rfl, .inl (.inl (k _ _ m1 e1))⟩ ⟨by decide, by decide, by decide, by decide⟩
  · refine ⟨pt, _, _, V.ref p2, rfl, rfl, .inl (.inl (k _ _ m8 e8)), atI_nat (j := 2) rfl, ?_⟩
    exact qq _ (1) (2) H' kk S' ⟨p2, rfl, .inl (.inl (k _ _ m2 e2))⟩ ⟨by decide, by decide, by decide, by decide⟩
  · refine ⟨pt, _, _, V.ref p3, rfl, rfl, .inl (.inl (k _ _ m8 e8)), atI_nat (j := 3) rfl, ?_⟩
    exact qq _ (3) (1) H' kk S' ⟨p3, rfl, .inl (.inl (k _ _ m3 e3))⟩ ⟨by decide, by decide, by decide, by decide⟩
  · refine ⟨pt, _, _, V.ref p4, rfl, rfl, .inl (.inl (k _ _ m8 e8)), atI_nat (j := 4) rfl, ?_⟩
    exact qq _ (2) (3) H' kk S' ⟨p4, rfl, .inl (.inl (k _ _ m4 e4))⟩ ⟨by decide, by decide, by decide, by decide⟩
  · refine ⟨pt, _, _, V.ref p5, rfl, rfl, .inl (.inl (k _ _ m8 e8)), atI_nat (j := 5) rfl, ?_⟩
    exact qq _ (7) (10) H' kk S' ⟨p5, rfl, .inl (.inl (k _ _ m5 e5))⟩ ⟨by decide, by decide, by decide, by decide⟩
  · refine ⟨pt, _, _, V.ref p6, rfl, rfl, .inl (.inl (k _ _ m8 e8)), atI_nat (j := 6) rfl, ?_⟩
    exact qq _ (10 ^ (12 : Int).toNat) (7) H' kk S' ⟨p6, rfl, .inl (.inl (k _ _ m6 e6))⟩ ⟨by decide, by decide, by decide, by decide⟩
  · refine ⟨pt, _, _, V.ref p7, rfl, rfl, .inl (.inl (k _ _ m8 e8)), atI_nat (j := 7) rfl, ?_⟩
    exact qq _ (1) (10 ^ (30 : Int).toNat) H' kk S' ⟨p7, rfl, .inl (.inl (k _ _ m7 e7))⟩ ⟨by decide, by decide, by decide, by decide⟩
def sp_law_times (K : PySem.W.Frag) : Sp := fun vs H Q _ => ∃ (k : Int) (v : V) (p q : Int), vs = [.int k, v] ∧ Fr K H v (p, q) ∧ Un p q ∧ 0 < k ∧ k ≤ 1000 ∧ ∀ v' H', Same H H' → Fr K H' v' (fr p q k) → Q v' H'
theorem sc_law_times : FnScope ["_law_number", "_law_unit_here"] ["_law_number", "_law_unit_here"] (defScope s_law_times) := ⟨rfl, rfl, rfl, by decide +kernel, rfl, by decide +kernel, by decide +kernel⟩
theorem ok_law_times (T : Tx K mg CE CS) (C_law_made : OkF P w K mg base "_law_made" ["_law_top", "_law_bottom"] 1 sp_law_made) : OkF P w K mg base "_law_times" ["_law_number", "_law_unit_here"] 2 (sp_law_times K) := by
  refine okF T.law_times sc_law_times (fun _ _ _ _ _ _ us hl => match us, hl with | [_, _], _ => rfl) (fun vs H Q E h => ?_) (fun f cd A outer s H vs Q E hr h => ?_)
  · obtain ⟨k, v, p, q, rfl, _⟩ := h; rfl
  obtain ⟨k, v, p, q, rfl, ⟨a, rfl, ha⟩, U, k0, k1, qq⟩ := h
  refine ⟨_, pss_one (ps_ret (C_law_made.call hr (pa_cons (pe_op op_mul (pv 0) (pe_ix ix_tup (pv 1) pe_int (fun _ _ => rfl))) (pa_cons (pe_ix ix_tup (pv 1) pe_int (fun _ _ => rfl)) pa_nil)))), ?_⟩
  have hc : CMul k p := Or.inl ⟨by omega, by omega⟩
  have ha' : SqT K H a [.int p, .int q] := ha
  walk_at "go"
  refine ⟨k * p, q, rfl, U.hq, Nat.lt_of_lt_of_le U.bq (Nat.pow_le_pow_right (by decide) (by decide)), fun t nt => ?_⟩
  exact qq _ _ (same_new nt) Fr.new
theorem r_lstRg {te : L2.St → Hp → (Int → Int → Hp → Prop) → Prop} {σ : L2.St} {H : Hp} {Q : VK} (h : te σ H fun a b H1 => RgOk a b ∧ ∀ q, H1 q = none → Q (.ref q) (upd H1 q (.lst (rgV a b)))) : tLstRg te σ H Q := h
/-! ### orders by draws -/
theorem intsV_erase : ∀ (L : List Nat) (k : Nat), (intsV L).eraseIdx k = intsV (L.eraseIdx k)
  | [], _ => rfl
  | _ :: _, 0 => rfl
  | x :: L, k + 1 => by
    show V.int x :: (intsV L).eraseIdx k = V.int x :: intsV (L.eraseIdx k)
    rw [intsV_erase L k]
theorem erase_perm : ∀ (L : List Nat) (k : Nat) (x : Nat), L[k]? = some x → (x :: L.eraseIdx k).Perm L
  | [], _, _, h => by simp at h
  | y :: L, 0, x, h => by simp at h; subst h; exact .refl _
  | y :: L, k + 1, x, h => by
    have := erase_perm L k x (by simpa using h)
    show (x :: y :: L.eraseIdx k).Perm (y :: L)
    exact (List.Perm.swap y x _).trans (this.cons y)
theorem intsV_get {L : List Nat} {k : Nat} {x : Nat} (h : L[k]? = some x) : (intsV L)[k]? = some (.int x) := by unfold intsV; rw [List.getElem?_map, h]; rfl
theorem intsV_len (L : List Nat) : (intsV L).length = L.length := List.length_map _
theorem seqI {n k : Nat} (h : k < n) : seqIndex? (k : Int) n = some k := by
  unfold seqIndex?
  have h0 : ¬ ((k : Int) < 0) := by omega
  simp [h0, h]
def sp_law_perm (K : PySem.W.Frag) : Sp := fun vs H Q _ => ∃ (a : Addr) (m : Nat), vs = [.ref a, .int m] ∧ SrcAt H a ∧ m ≤ 1000 ∧ ∀ t A H', Of a H H' → SrcAt H' a → QM.Ord m A → SqT K H' t (intsV A) → Q (.ref t) H'
theorem sc_law_perm : FnScope ["_law_source_here", "_law_many", "_law_left", "_law_found", "_law_k"] ["_law_source_here", "_law_many"] (defScope s_law_perm) := ⟨rfl, rfl, rfl, by decide +kernel, rfl, by decide +kernel, by decide +kernel⟩
theorem ok_law_perm (T : Tx K mg CE CS) (C_law_draw : OkF P w K mg base "_law_draw" ["_law_source_here", "_law_many"] 1 sp_law_draw) : OkF P w K mg base "_law_perm" ["_law_source_here", "_law_many"] 2 (sp_law_perm K) := by
  refine okF T.law_perm sc_law_perm (fun _ _ _ _ _ _ us hl => match us, hl with | [_, _], _ => rfl) (fun vs H Q E h => ?_) (fun f cd A outer s H vs Q E hr h => ?_)
  · obtain ⟨a, m, rfl, _⟩ := h; rfl
  obtain ⟨a, m, rfl, S, hm, qq⟩ := h
  refine ⟨_, pss_cons (ps_set (i := 2) sc_law_perm.nd rfl (Or.inl rfl) (pe_listRg rfl (by rfl) T.b_list (prg_1 (by rfl) T.b_range (pv 1)))) 
    (pss_cons (ps_set (i := 3) sc_law_perm.nd rfl (Or.inl rfl) (pe_lst pa_nil)) 
    (pss_cons (ps_for PassesOwn.never rfl (pi_range1 (by rfl) T.b_range (pa_cons (pv 1) pa_nil)) (pg_name (i := 4) sc_law_perm.nd rfl (Or.inl rfl)) (pss_one (ps_expr (pe_bm PySem.F.plainAttrs_list PySem.F.slot_list_append PySem.F.type_list_append mt_append (pv 3) (pa_cons (pe_bm PySem.F.plainAttrs_list PySem.F.slot_list_pop PySem.F.type_list_pop mt_popAt (pv 2) (pa_cons (C_law_draw.call hr (pa_cons (pv 0) (pa_cons (pe_callB call_len_seq (by rfl) T.b_len PySem.boot_len (pa_cons (pv 2) pa_nil)) pa_nil))) pa_nil)) pa_nil))))) 
    (pss_one (ps_ret (pe_callTy call_tuple_of (by rfl) T.b_tuple (by decide +kernel) (pa_cons (pv 3) pa_nil)))))), ?_⟩
  walk_at "go"
  refine r_lstRg (r_rg1 ?_)
  walk_at "go"
  refine ⟨⟨by decide, by decide, by omega, by omega, by omega⟩, fun l nl => ?_⟩
  have hl0 : upd H l (.lst (rgV 0 (m : Int))) l = some (.lst (intsV (List.range m))) := by
    rw [upd_same]
    unfold rgV intsV
    simp
  have sl := same_new (o := .lst (rgV 0 (m : Int))) nl
  have la : l ≠ a := S.ne nl
  generalize upd H l (.lst (rgV 0 (m : Int))) = H1 at *
  walk_at "go"
  intro fo nf
  have hl1 : upd H1 fo (.lst []) l = some (.lst (intsV (List.range m))) := same_new nf _ _ hl0
  have hf1 : upd H1 fo (.lst []) fo = some (.lst (intsV [])) := upd_same
  have sf := sl.trans (same_new (o := .lst []) nf)
  have fa : fo ≠ a := (S.same sl).ne nf
  have fl : fo ≠ l := Ne.symm (ne_of_none hl0 nf)
  have S1 := S.same sf
  have nf0 : H fo = none := by
    cases h : H fo with
    | none => rfl
    | some o => rw [sl _ _ h] at nf; cases nf
  generalize upd H1 fo (.lst []) = H2 at *
  walk_at "go"
  refine ⟨_, rfl, by omega, by omega, ?_⟩
  rw [Int.toNat_natCast]
  refine for_range (fun i σ H' => ∃ (L F : List Nat) (y : Option V), σ = [some (.ref a), some (.int m), some (.ref l), some (.ref fo), y] ∧ Of a H H' ∧ SrcAt H' a ∧ H' l = some (.lst (intsV L)) ∧ H' fo = some (.lst (intsV F)) ∧ (F ++ L).Perm (List.range m) ∧ F.length = i) ?_ ?_ ?_
  · exact ⟨List.range m, [], none, rfl, Of.same sf, S1, hl1, hf1, .refl _, rfl⟩
  · rintro i σ H' hi ⟨L, F, y, rfl, k, S', hl', hf', hp, hF⟩
    have hlen : F.length + L.length = m := by
      have := hp.length_eq
      rw [List.length_append, List.length_range] at this; exact this
    walk_at "go"
    refine r_tylist (SqL.of hf') ?_
    walk_at "go"
    refine r_tylist (SqL.of hl') ?_
    walk_at "go"
    refine ⟨l, _, rfl, .inl (SqL.of hl'), ?_⟩
    rw [intsV_len]
    walk_at "go"
    refine ⟨a, _, rfl, S', by omega, by omega, fun r H3 r0 r1 k3 S3 => ?_⟩
    obtain ⟨j, rfl⟩ := Int.eq_ofNat_of_zero_le r0
    have hj : j < L.length := by omega
    have gj : L[j]? = some L[j] := List.getElem?_eq_getElem hj
    walk_at "go"
    refine ⟨l, _, _, j, _, rfl, rfl, k3 _ _ la hl', by omega, by omega, by rw [intsV_len]; exact seqI hj, intsV_get gj, ?_⟩
    rw [intsV_erase]
    walk_at "go"
    refine ⟨fo, _, _, rfl, rfl, by rw [upd_ne fl]; exact k3 _ _ fa hf', by rw [intsV_len, sizeLine_eq]; omega, ?_⟩
    refine ⟨L.eraseIdx j, F ++ [L[j]], _, rfl, ?_, ?_, ?_, ?_, ?_, by simp [hF]⟩
    · intro b o hb ho
      rw [upd_ne (fun z => by rw [z, nf0] at ho; cases ho), upd_ne (fun z => by rw [z, nl] at ho; cases ho)]
      exact k3 b o hb (k b o hb ho)
    · obtain ⟨c0, c1, c2, c3, c4, ea⟩ := S3
      exact ⟨c0, c1, c2, c3, c4, by rw [upd_ne (Ne.symm fa), upd_ne (Ne.symm la)]; exact ea⟩
    · rw [upd_ne (Ne.symm fl)]; exact upd_same
    · rw [upd_same]; unfold intsV; rw [List.map_append]; rfl
    · rw [List.append_assoc]
      exact ((erase_perm L j L[j] gj).append_left F).trans hp
  · rintro σ H' ⟨L, F, y, rfl, k, S', hl', hf', hp, hF⟩
    have hL : L = [] := by
      have := hp.length_eq
      rw [List.length_append, List.length_range] at this
      exact List.length_eq_zero_iff.mp (by omega)
    subst hL
    rw [List.append_nil] at hp
    walk_at "go"
    refine ⟨fo, _, rfl, .inl ⟨SqL.of hf', fun t nt => ?_⟩⟩
    walk_at "go"
    exact qq t F _ (k.trans (Of.same (same_new nt))) (S'.same (same_new nt)) ⟨hp.nodup_iff.mpr List.nodup_range, fun x hx => List.mem_range.mp (hp.mem_iff.mp hx), hF⟩ sqt_new
end QH

/-! QL3: the law's sides and sums -/
namespace QH
open PySem PySem.Spec L2 QF
variable {P : Program} {w : World} {K : PySem.W.Frag} {mg : Str → Option Value} {base : Heap} {CE CS : Addr}
def sp_law_side : Sp := fun vs H Q _ => ∃ (a : Addr) (m : Nat), vs = [.ref a, .int m] ∧ SrcAt H a ∧ m ≤ 1000 ∧ ∀ p (ks : List Int) H', Of a H H' → SrcAt H' a → H p = none → H' p = some (.lst (ks.map V.int)) → ks.length = m → (∀ k ∈ ks, 1 ≤ k ∧ k ≤ 7) → Q (.ref p) H'
theorem sc_law_side : FnScope ["_law_source_here", "_law_many", "_law_style", "_law_k"] ["_law_source_here", "_law_many"] (defScope s_law_side) := ⟨rfl, rfl, rfl, by decide +kernel, rfl, by decide +kernel, by decide +kernel⟩
theorem Of.none {a b : Addr} {H H' : Hp} (k : Of a H H') (S : SrcAt H' a) (h : H' b = none) : H b = none := by
  cases e : H b with
  | none => rfl
  | some o =>
    by_cases z : b = a
    · subst z
      obtain ⟨c0, c1, c2, c3, c4, ea⟩ := S
      rw [ea] at h; cases h
    · rw [k b o z e] at h; cases h
theorem ok_law_side (T : Tx K mg CE CS) (C_law_draw : OkF P w K mg base "_law_draw" ["_law_source_here", "_law_many"] 1 sp_law_draw) : OkF P w K mg base "_law_side" ["_law_source_here", "_law_many"] 2 sp_law_side := by
  refine okF T.law_side sc_law_side (fun _ _ _ _ _ _ us hl => match us, hl with | [_, _], _ => rfl) (fun vs H Q E h => ?_) (fun f cd A outer s H vs Q E hr h => ?_)
  · obtain ⟨a, m, rfl, _⟩ := h; rfl
  obtain ⟨a, m, rfl, S, hm, qq⟩ := h
  refine ⟨_, pss_cons (ps_set (i := 2) sc_law_side.nd rfl (Or.inr rfl) (C_law_draw.call hr (pa_cons (pv 0) (pa_cons pe_int pa_nil)))) 
    (pss_cons (ps_if (pt_cmpR op_eq (pv 2) pe_int (nomark _)) (pss_one (ps_ret (pe_op op_rep (pe_lst (pa_cons (pe_op op_add pe_int (C_law_draw.call hr (pa_cons (pv 0) (pa_cons pe_int pa_nil)))) pa_nil)) (pv 1)))) (pss_nil)) 
    (pss_one (ps_ret (pe_lc (own := [("_law_k", 3)]) (g := gName 3) (tt := tYes) rfl sc_law_side.nd (pi_range1 (by rfl) T.b_range (pa_cons (pv 1) pa_nil)) (blkOk_by (own := [("_law_k", 3)]) (N := ["_law_source_here", "_law_many", "_law_style", "_law_k"]) (sc := defScope s_law_side) (by decide +kernel)) (fun _ _ _ _ _ => (pg_name (i := 3) sc_law_side.nd rfl (Or.inl rfl))) (fun _ _ _ _ _ => pts_nil) (fun _ _ _ _ _ => (pe_op op_add pe_int (C_law_draw.call hr (pa_cons (pv 0) (pa_cons (pe_ix (r := rIxT K) ix_tup (pe_tup (pa_cons pe_int (pa_cons pe_int (pa_cons pe_int pa_nil)))) (pe_op op_sub (pv 2) pe_int) (fun _ _ => rfl)) pa_nil))))))))), ?_⟩
  walk_at "go"
  refine ⟨a, 4, rfl, S, by decide, by decide, fun r H1 r0 r1 k1 S1 => ?_⟩
  walk_at "go"
  refine ⟨rfl, ?_⟩
  walk_at "go"
  refine r_iteD (fun _ => ?_) (fun hn => ?_)
  · walk_at "go"
    refine ⟨a, 3, rfl, S1, by decide, by decide, fun r' H2 r0' r1' k2 S2 => ?_⟩
    walk_at "go"
    intro p1 n1
    walk_at "go"
    refine ⟨p1, m, _, rfl, rfl, upd_same, by omega, by omega, by rw [Int.toNat_natCast, sizeLine_eq]; simp; omega, fun p np => ?_⟩
    have k3 := Of.same (a := a) (same_new (o := .lst [V.int (1 + r')]) n1)
    have S3 := S2.same (same_new (o := .lst [V.int (1 + r')]) n1)
    have k4 := (k1.trans k2).trans k3
    refine qq p (List.replicate m (1 + r')) _ (k4.trans (Of.same (same_new np))) (S3.same (same_new np)) (k4.none S3 np) ?_ (List.length_replicate ..) fun k hk => ?_
    · rw [upd_same, Int.toNat_natCast, List.map_replicate]
      congr 2
      simp
    · rw [(List.mem_replicate.mp hk).2]; omega
  · have hr0 : r ≠ 0 := fun z => hn (by rw [z])
    obtain ⟨j, wd, hj, hw, w0, w1⟩ : ∃ (j : Nat) (wd : Int), r - 1 = (j : Int) ∧ ([V.int 2, .int 4, .int 7])[j]? = some (V.int wd) ∧ 1 ≤ wd ∧ wd ≤ 7 := by
      have : r = 1 ∨ r = 2 ∨ r = 3 := by omega
      rcases this with rfl | rfl | rfl
      · exact ⟨0, 2, rfl, rfl, by decide, by decide⟩
      · exact ⟨1, 4, rfl, rfl, by decide, by decide⟩
      · exact ⟨2, 7, rfl, rfl, by decide, by decide⟩
    walk_at "go"
    refine ⟨_, rfl, by omega, by omega, fun D nD => ?_⟩
    rw [Int.toNat_natCast]
    have Da := S1.ne nD
    refine lc_range (fun i H' => Of a H1 H' ∧ SrcAt H' a ∧ ∃ ks : List Int, H' D = some (.lst (ks.map V.int)) ∧ ks.length = i ∧ ∀ k ∈ ks, 1 ≤ k ∧ k ≤ 7) ⟨Of.same (same_new nD), S1.same (same_new nD), [], upd_same, rfl, fun k hk => nomatch hk⟩ (fun i H' hi I => ?_) (fun H' I => ?_)
    · obtain ⟨k2, S2, ks, hD, hl, hb⟩ := I
      refine ⟨rfl, yes_ok ?_⟩
      walk_at "go"
      intro pt npt
      have S3 := S2.same (same_new (o := .tup [V.int 2, .int 4, .int 7]) npt)
      have k3 := k2.trans (Of.same (same_new (o := .tup [V.int 2, .int 4, .int 7]) npt))
      have hD3 := same_new (o := .tup [V.int 2, .int 4, .int 7]) npt _ _ hD
      walk_at "go"
      refine ⟨pt, _, _, _, rfl, rfl, sqt_new, by rw [hj]; exact atI_nat hw, ?_⟩
      walk_at "go"
      refine ⟨a, wd, rfl, S3, by omega, by omega, fun r' H4 r0' r1' k4 S4 => ?_⟩
      walk_at "go"
      refine ⟨_, k4 _ _ Da hD3, by rw [List.length_map, hl, sizeLine_eq]; omega, ?_, ?_, ks ++ [1 + r'], ?_, by simp [hl], fun k hk => ?_⟩
      · intro b o hb ho
        rw [upd_ne (ne_of_none ho nD)]
        exact k4 b o hb (k3 b o hb ho)
      · obtain ⟨c0, c1, c2, c3, c4, ea⟩ := S4
        exact ⟨c0, c1, c2, c3, c4, by rw [upd_ne (Ne.symm Da)]; exact ea⟩
      · rw [upd_same, List.map_append]; rfl
      · rcases List.mem_append.mp hk with h | h
        · exact hb k h
        · rw [List.mem_singleton.mp h]; omega
    · obtain ⟨k2, S2, ks, hD, hl, hb⟩ := I
      exact qq D ks H' (k1.trans k2) S2 (k1.none S1 nD) hD hl hb
/-! ### split -/
theorem sum_set : ∀ (l : List Int) (i : Nat) (v : Int), i < l.length → (l.set i v).sum = l.sum + (v - l.getD i 0)
  | [], _, _, h => absurd h (Nat.not_lt_zero _)
  | x :: l, 0, v, _ => by
    show (v :: l).sum = (x :: l).sum + (v - x)
    rw [List.sum_cons, List.sum_cons]; omega
  | x :: l, i + 1, v, h => by
    show (x :: l.set i v).sum = (x :: l).sum + (v - (x :: l).getD (i + 1) 0)
    rw [List.sum_cons, List.sum_cons, sum_set l i v (by simpa using h), List.getD_cons_succ]; omega
theorem rep_sum (m : Nat) : (List.replicate m (1 : Int)).sum = m := by
  induction m with
  | zero => rfl
  | succ n ih => rw [List.replicate_succ, List.sum_cons, ih]; omega
theorem set_all {l : List Int} {i : Nat} {v : Int} {p : Int → Prop} (h : ∀ k ∈ l, p k) (hv : p v) : ∀ k ∈ l.set i v, p k := fun k hk => by
  rcases List.mem_or_eq_of_mem_set hk with h' | h'
  · exact h k h'
  · rw [h']; exact hv
theorem map_set_int (l : List Int) (i : Nat) (v : Int) : (l.map V.int).set i (.int v) = (l.set i v).map V.int := by rw [List.map_set]
theorem get_int {l : List Int} {i : Nat} (h : i < l.length) : (l.map V.int)[i]? = some (.int (l.getD i 0)) := by
  rw [List.getElem?_map, List.getD_eq_getElem?_getD, List.getElem?_eq_getElem h]; rfl
theorem getD_mem {l : List Int} {i : Nat} (h : i < l.length) : l.getD i 0 ∈ l := by
  rw [List.getD_eq_getElem?_getD, List.getElem?_eq_getElem h]; exact List.getElem_mem h
def sp_law_split : Sp := fun vs H Q _ => ∃ (a : Addr) (whole : Int) (m : Nat), vs = [.ref a, .int whole, .int m] ∧ SrcAt H a ∧ 1 ≤ m ∧ m ≤ 1000 ∧ (m : Int) ≤ whole ∧ ∀ p (ds : List Int) H', Of a H H' → SrcAt H' a → H p = none → H' p = some (.lst (ds.map V.int)) → QM.Pos ds → ds.sum = whole → ds.length = m → Q (.ref p) H'
theorem sc_law_split : FnScope ["_law_source_here", "_law_whole", "_law_many", "_law_found", "_law_left", "_law_k", "_law_part", "_law_order"] ["_law_source_here", "_law_whole", "_law_many"] (defScope s_law_split) := ⟨rfl, rfl, rfl, by decide +kernel, rfl, by decide +kernel, by decide +kernel⟩
theorem ok_law_split (T : Tx K mg CE CS) (C_law_draw : OkF P w K mg base "_law_draw" ["_law_source_here", "_law_many"] 1 sp_law_draw) (C_law_perm : OkF P w K mg base "_law_perm" ["_law_source_here", "_law_many"] 2 (sp_law_perm K)) : OkF P w K mg base "_law_split" ["_law_source_here", "_law_whole", "_law_many"] 3 sp_law_split := by
  refine okF T.law_split sc_law_split (fun _ _ _ _ _ _ us hl => match us, hl with | [_, _, _], _ => rfl) (fun vs H Q E h => ?_) (fun f cd A outer s H vs Q E hr h => ?_)
  · obtain ⟨a, wh, m, rfl, _⟩ := h; rfl
  obtain ⟨a, wh, m, rfl, S, m1, hm, hw, qq⟩ := h
  refine ⟨_, pss_cons (ps_set (i := 3) sc_law_split.nd rfl (Or.inr rfl) (pe_op op_rep (pe_lst (pa_cons pe_int pa_nil)) (pv 2))) 
    (pss_cons (ps_set (i := 4) sc_law_split.nd rfl (Or.inl rfl) (pe_op op_sub (pv 1) (pv 2))) 
    (pss_cons (ps_for PassesOwn.never rfl (pi_range1 (by rfl) T.b_range (pa_cons (pe_op op_sub (pv 2) pe_int) pa_nil)) (pg_name (i := 5) sc_law_split.nd rfl (Or.inl rfl)) (pss_cons (ps_set (i := 6) sc_law_split.nd rfl (Or.inl rfl) (C_law_draw.call hr (pa_cons (pv 0) (pa_cons (pe_op op_add (pe_callB (call_min2 rfl) (by rfl) T.b_min (by decide +kernel) (pa_cons (pv 4) (pa_cons pe_int pa_nil))) pe_int) pa_nil)))) 
        (pss_cons (ps_asg (pe_op op_add (pe_ix ix_list (pv 3) (pv 5) (fun _ _ => rfl)) (pv 6)) (pg_sub (pv 3) (pv 5) set_list)) 
        (pss_one (ps_set (i := 4) sc_law_split.nd rfl (Or.inl rfl) (pe_op op_sub (pv 4) (pv 6))))))) 
    (pss_cons (ps_asg (pe_op op_add (pe_ix ix_list (pv 3) (pe_op op_sub (pv 2) pe_int) (fun _ _ => rfl)) (pv 4)) (pg_sub (pv 3) (pe_op op_sub (pv 2) pe_int) set_list)) 
    (pss_cons (ps_set (i := 7) sc_law_split.nd rfl (Or.inl rfl) (C_law_perm.call hr (pa_cons (pv 0) (pa_cons (pv 2) pa_nil)))) 
    (pss_one (ps_ret (pe_lc (own := [("_law_k", 5)]) (g := gName 5) (tt := tYes) rfl sc_law_split.nd (pi_tup (pv 7)) (blkOk_by (own := [("_law_k", 5)]) (N := ["_law_source_here", "_law_whole", "_law_many", "_law_found", "_law_left", "_law_k", "_law_part", "_law_order"]) (sc := defScope s_law_split) (by decide +kernel)) (fun _ _ _ _ _ => (pg_name (i := 5) sc_law_split.nd rfl (Or.inl rfl))) (fun _ _ _ _ _ => pts_nil) (fun _ _ _ _ _ => (pe_ix (r := rIxL K) ix_list (pv 3) (pv 5) (fun _ _ => rfl)))))))))), ?_⟩
  walk_at "go"
  intro p1 n1
  have s1 := same_new (o := .lst [V.int 1]) n1
  walk_at "go"
  refine ⟨p1, m, _, rfl, rfl, upd_same, by omega, by omega, by rw [Int.toNat_natCast, sizeLine_eq]; simp; omega, fun p np => ?_⟩
  have s2 := s1.trans (same_new (o := .lst (List.replicate (m : Int).toNat [V.int 1]).flatten) np)
  have hp0 : upd (upd H p1 (.lst [V.int 1])) p (.lst (List.replicate (m : Int).toNat [V.int 1]).flatten) p = some (.lst ((List.replicate m (1 : Int)).map V.int)) := by
    rw [upd_same, Int.toNat_natCast, List.map_replicate]
    congr 2
    simp
  have np0 : H p = none := by
    cases h : H p with
    | none => rfl
    | some o => rw [s1 _ _ h] at np; cases np
  generalize upd (upd H p1 (.lst [V.int 1])) p (.lst (List.replicate (m : Int).toNat [V.int 1]).flatten) = H1 at *
  have pa : p ≠ a := S.ne np0
  walk_at "go"
  refine ⟨_, rfl, by omega, by omega, ?_⟩
  rw [show ((m : Int) - 1).toNat = m - 1 by omega]
  refine for_range (fun i σ H' => ∃ (F : List Int) (left : Int) (y5 y6 : Option V), σ = [some (.ref a), some (.int wh), some (.int m), some (.ref p), some (.int left), y5, y6, none] ∧ Of a H H' ∧ SrcAt H' a ∧ H' p = some (.lst (F.map V.int)) ∧ F.length = m ∧ (∀ k ∈ F, 0 < k) ∧ F.sum + left = wh ∧ 0 ≤ left) ?_ ?_ ?_
  · refine ⟨List.replicate m 1, wh - m, none, none, rfl, Of.same s2, S.same s2, hp0, List.length_replicate .., fun k hk => by rw [(List.mem_replicate.mp hk).2]; decide, ?_, by omega⟩
    have := rep_sum m
    omega
  · rintro i σ H' hi ⟨F, left, y5, y6, rfl, k, S', hp, hF, hb, hs, h0⟩
    rw [Int.zero_add]
    walk_at "go"
    refine ⟨_, _, rfl, ?_⟩
    walk_at "go"
    refine ⟨a, _, rfl, S', by split <;> omega, by split <;> omega, fun r H3 r0 r1 k3 S3 => ?_⟩
    have hrl : r ≤ left := by revert r1; split <;> (intro r1; omega)
    have hi' : i < F.length := by omega
    have hp3 := k3 _ _ pa hp
    walk_at "go"
    refine ⟨p, _, _, _, rfl, rfl, SqL.of hp3, atI_nat (get_int hi'), ?_⟩
    walk_at "go"
    refine ⟨p, _, _, i, rfl, rfl, hp3, ixN_nat (by rw [List.length_map]; exact hi'), ?_⟩
    rw [map_set_int]
    walk_at "go"
    have g1 := hb _ (getD_mem hi')
    refine ⟨F.set i (F.getD i 0 + r), left - r, _, _, rfl, ?_, ?_, upd_same, by rw [List.length_set]; exact hF, set_all hb (by omega), by rw [sum_set _ _ _ hi']; omega, by omega⟩
    · intro b o hb' ho
      rw [upd_ne (fun z => by rw [z, np0] at ho; cases ho)]
      exact k3 b o hb' (k b o hb' ho)
    · obtain ⟨c0, c1, c2, c3, c4, ea⟩ := S3
      exact ⟨c0, c1, c2, c3, c4, by rw [upd_ne (Ne.symm pa)]; exact ea⟩
  · rintro σ H' ⟨F, left, y5, y6, rfl, k, S', hp, hF, hb, hs, h0⟩
    have hi' : m - 1 < F.length := by omega
    walk_at "go"
    refine ⟨p, _, _, _, rfl, rfl, SqL.of hp, by rw [show (m : Int) - 1 = ((m - 1 : Nat) : Int) by omega]; exact atI_nat (get_int hi'), ?_⟩
    walk_at "go"
    refine ⟨p, _, _, m - 1, rfl, rfl, hp, by rw [show (m : Int) - 1 = ((m - 1 : Nat) : Int) by omega]; exact ixN_nat (by rw [List.length_map]; exact hi'), ?_⟩
    rw [map_set_int]
    have g1 := hb _ (getD_mem hi')
    have k2 : Of a H (upd H' p (.lst ((F.set (m - 1) (F.getD (m - 1) 0 + left)).map V.int))) := fun b o hb' ho => by
      rw [upd_ne (fun z => by rw [z, np0] at ho; cases ho)]
      exact k b o hb' ho
    have S2 : SrcAt (upd H' p (.lst ((F.set (m - 1) (F.getD (m - 1) 0 + left)).map V.int))) a := by
      obtain ⟨c0, c1, c2, c3, c4, ea⟩ := S'
      exact ⟨c0, c1, c2, c3, c4, by rw [upd_ne (Ne.symm pa)]; exact ea⟩
    have hp2 : upd H' p (.lst ((F.set (m - 1) (F.getD (m - 1) 0 + left)).map V.int)) p = some (.lst ((F.set (m - 1) (F.getD (m - 1) 0 + left)).map V.int)) := upd_same
    have hb2 : QM.Pos (F.set (m - 1) (F.getD (m - 1) 0 + left)) := set_all (p := fun k => 0 < k) hb (by omega)
    have hs2 : (F.set (m - 1) (F.getD (m - 1) 0 + left)).sum = wh := by rw [sum_set _ _ _ hi']; omega
    have hF2 : (F.set (m - 1) (F.getD (m - 1) 0 + left)).length = m := by rw [List.length_set]; exact hF
    generalize F.set (m - 1) (F.getD (m - 1) 0 + left) = G at *
    generalize upd H' p (.lst (G.map V.int)) = H2 at *
    walk_at "go"
    refine ⟨a, m, rfl, S2, hm, fun t A H3 k3 S3 oA ht => ?_⟩
    have hp3 := k3 _ _ pa hp2
    have k4 := k2.trans k3
    walk_at "go"
    refine ⟨t, rfl, ⟨_, ht⟩, fun D nD => lc_tupR (fun i y _ => ∀ x, A[i]? = some x → y = .int (G.getD x 0)) apart_val ht nD (by rw [intsV_len, oA.len]; exact hm) (fun i x H4 Q4 hi s4 hQ => ?_) (fun H4 ys s4 hD hly hR => ?_) gname_mono⟩
    · obtain ⟨x', hx', rfl⟩ : ∃ x', A[i]? = some x' ∧ x = .int (x' : Nat) := by
        unfold intsV at hi
        rw [List.getElem?_map] at hi
        cases e : A[i]? with
        | none => rw [e] at hi; cases hi
        | some z => rw [e] at hi; exact ⟨z, rfl, (Option.some.inj hi).symm⟩
      have hx2 : x' < G.length := by rw [hF2]; exact oA.lt x' (List.mem_of_getElem? hx')
      refine ⟨rfl, ?_⟩
      walk_at "go"
      refine ⟨p, _, _, _, rfl, rfl, SqL.of (s4 _ _ hp3), atI_nat (get_int hx2), ?_⟩
      refine hQ _ _ (Same.refl _) fun z hz => ?_
      rw [hx'] at hz; cases hz; rfl
    · have oA' : QM.Ord G.length A := by rw [hF2]; exact oA
      have ey : ys = (QM.vals G A).map V.int := by
        unfold QM.vals
        rw [List.map_map]
        exact list_of_map (by rw [hly, intsV_len]) fun i y hy z hz => hR i y hy z hz
      subst ey
      exact qq D (QM.vals G A) H4 (k4.trans (Of.same s4)) (S3.same s4) (k4.none S3 nD) hD (QM.vals_pos hb2 oA'.lt) (by rw [QM.ord_sum oA', hs2]) (by simp [QM.vals, oA.len])
end QH

/-! QL4: the law's sums, crowds, evenings -/
namespace QH
open PySem PySem.Spec L2 QF
variable {P : Program} {w : World} {K : PySem.W.Frag} {mg : Str → Option Value} {base : Heap} {CE CS : Addr}
/-- two tuples of whole numbers in a tuple -/
def TwoAt (K : PySem.W.Frag) (H : Hp) (s : Addr) (os ds : List Int) : Prop := ∃ x y, SqT K H s [.ref x, .ref y] ∧ SqT K H x (os.map V.int) ∧ SqT K H y (ds.map V.int)
theorem TwoAt.same {K : PySem.W.Frag} {H H' : Hp} {s : Addr} {os ds : List Int} (k : Same H H') (h : TwoAt K H s os ds) : TwoAt K H' s os ds := let ⟨x, y, a, b, c⟩ := h; ⟨x, y, Same.tup k a, Same.tup k b, Same.tup k c⟩
theorem TwoAt.kp {K : PySem.W.Frag} {H H' : Hp} {s : Addr} {os ds : List Int} (k : Kp H H') (h : TwoAt K H s os ds) : TwoAt K H' s os ds := let ⟨x, y, a, b, c⟩ := h; ⟨x, y, k.sqt a, k.sqt b, k.sqt c⟩
def sp_law_sums (K : PySem.W.Frag) : Sp := fun vs H Q _ => ∃ (a : Addr) (o t : Nat), vs = [.ref a, .int o, .int t] ∧ SrcAt H a ∧ 1 ≤ o ∧ o ≤ 6 ∧ 1 ≤ t ∧ t ≤ 6 ∧
  ∀ s os ds H', Of a H H' → SrcAt H' a → TwoAt K H' s os ds → QM.Even os ds → os.sum ≤ 1000 → ((os.length = o ∧ ds.length = t) ∨ (os.length = t ∧ ds.length = o)) → Q (.ref s) H'
theorem sum_le7 : ∀ {l : List Int}, (∀ k ∈ l, k ≤ 7) → l.sum ≤ 7 * l.length
  | [], _ => by simp
  | x :: l, h => by
    have := h x List.mem_cons_self
    have := sum_le7 (l := l) fun k hk => h k (List.mem_cons_of_mem _ hk)
    rw [List.sum_cons, List.length_cons]; omega
theorem sc_law_sums : FnScope ["_law_source_here", "_law_owers", "_law_takers", "_law_owed", "_law_due", "_law_k"] ["_law_source_here", "_law_owers", "_law_takers"] (defScope s_law_sums) := ⟨rfl, rfl, rfl, by decide +kernel, rfl, by decide +kernel, by decide +kernel⟩
theorem ok_law_sums (T : Tx K mg CE CS) (C_law_draw : OkF P w K mg base "_law_draw" ["_law_source_here", "_law_many"] 1 sp_law_draw) (C_law_perm : OkF P w K mg base "_law_perm" ["_law_source_here", "_law_many"] 2 (sp_law_perm K)) (C_law_side : OkF P w K mg base "_law_side" ["_law_source_here", "_law_many"] 2 sp_law_side)
    (C_law_split : OkF P w K mg base "_law_split" ["_law_source_here", "_law_whole", "_law_many"] 3 sp_law_split) : OkF P w K mg base "_law_sums" ["_law_source_here", "_law_owers", "_law_takers"] 4 (sp_law_sums K) := by
  refine okF T.law_sums sc_law_sums (fun _ _ _ _ _ _ us hl => match us, hl with | [_, _, _], _ => rfl) (fun vs H Q E h => ?_) (fun f cd A outer s H vs Q E hr h => ?_)
  · obtain ⟨a, o, t, rfl, _⟩ := h; rfl
  obtain ⟨a, o, t, rfl, S, o1, o6, t1, t6, qq⟩ := h
  refine ⟨_, pss_cons (ps_set (i := 3) sc_law_sums.nd rfl (Or.inr rfl) (C_law_side.call hr (pa_cons (pv 0) (pa_cons (pv 1) pa_nil)))) 
    (pss_cons (ps_if (pt_cmpR op_lt (pe_callB (cr_sum rfl) (by rfl) T.b_sum (by decide +kernel) (pa_cons (pv 3) pa_nil)) (pv 2) (nomark _)) (pss_one (ps_asg (pe_op op_sub (pe_op op_add (pe_ix ix_list (pv 3) pe_int (fun _ _ => rfl)) (pv 2)) (pe_callB (cr_sum rfl) (by rfl) T.b_sum (by decide +kernel) (pa_cons (pv 3) pa_nil))) (pg_sub (pv 3) pe_int set_list))) (pss_nil)) 
    (pss_cons (ps_set (i := 4) sc_law_sums.nd rfl (Or.inl rfl) (C_law_split.call hr (pa_cons (pv 0) (pa_cons (pe_callB (cr_sum rfl) (by rfl) T.b_sum (by decide +kernel) (pa_cons (pv 3) pa_nil)) (pa_cons (pv 2) pa_nil))))) 
    (pss_cons (ps_if (PW.pt (pw_and (pt_cmpR op_eq (C_law_draw.call hr (pa_cons (pv 0) (pa_cons pe_int pa_nil))) pe_int (nomark _)) (pw_and1 (pt_cmpR op_eq (pv 1) (pv 2) (nomark _))))) (pss_one (ps_setLc (i := 4) (own := [("_law_k", 5)]) (g := gName 5) (tt := tYes) rfl sc_law_sums.nd rfl rfl (sw_true rfl rfl rfl (by decide +kernel)) (pi_tup (C_law_perm.call hr (pa_cons (pv 0) (pa_cons (pv 1) pa_nil)))) (blkOk_by (own := [("_law_k", 5)]) (N := ["_law_source_here", "_law_owers", "_law_takers", "_law_owed", "_law_due", "_law_k"]) (sc := defScope s_law_sums) (by decide +kernel)) (fun _ _ _ _ _ => (pg_name (i := 5) sc_law_sums.nd rfl (Or.inl rfl))) (fun _ _ _ _ _ => pts_nil) (fun _ _ _ _ _ => (pe_ix (r := rIxL K) ix_list (pv 3) (pv 5) (fun _ _ => rfl))))) (pss_nil)) 
    (pss_cons (ps_if (pt_cmpR op_eq (C_law_draw.call hr (pa_cons (pv 0) (pa_cons pe_int pa_nil))) pe_int (nomark _)) (pss_one (ps_ret (pe_tup (pa_cons (pe_callTy call_tuple_of (by rfl) T.b_tuple (by decide +kernel) (pa_cons (pv 3) pa_nil)) (pa_cons (pe_callTy call_tuple_of (by rfl) T.b_tuple (by decide +kernel) (pa_cons (pv 4) pa_nil)) pa_nil))))) (pss_nil)) 
    (pss_one (ps_ret (pe_tup (pa_cons (pe_callTy call_tuple_of (by rfl) T.b_tuple (by decide +kernel) (pa_cons (pv 4) pa_nil)) (pa_cons (pe_callTy call_tuple_of (by rfl) T.b_tuple (by decide +kernel) (pa_cons (pv 3) pa_nil)) pa_nil))))))))), ?_⟩
  walk_at "go"
  refine ⟨a, o, rfl, S, by omega, fun p ks H1 k1 S1 np hp hl hb => ?_⟩
  have pa : p ≠ a := S.ne np
  have hs7 := sum_le7 fun k hk => (hb k hk).2
  have hpos : QM.Pos ks := fun k hk => by have := (hb k hk).1; omega
  walk_at "go"
  refine ⟨p, ks, rfl, SqL.of hp, ?_⟩
  walk_at "go"
  refine r_iteD (fun hlt => ?A) (fun hge => ?B)
  case' A =>
    have l0 : 0 < ks.length := by omega
    have g0 : (ks.map V.int)[0]? = some (.int (ks.getD 0 0)) := get_int l0
    walk_at "go"
    refine ⟨p, _, _, _, rfl, rfl, SqL.of hp, atI_nat (j := 0) g0, ?_⟩
    walk_at "go"
    refine ⟨p, ks, rfl, SqL.of hp, ?_⟩
    walk_at "go"
    refine ⟨p, _, _, 0, rfl, rfl, hp, ixN_nat (i := 0) (by rw [List.length_map]; exact l0), ?_⟩
    rw [map_set_int]
    have hp2 : upd H1 p (.lst ((ks.set 0 (ks.getD 0 0 + t - ks.sum)).map V.int)) p = some (.lst ((ks.set 0 (ks.getD 0 0 + t - ks.sum)).map V.int)) := upd_same
    have k2 : Of a H (upd H1 p (.lst ((ks.set 0 (ks.getD 0 0 + t - ks.sum)).map V.int))) := fun b o hb' ho => by
      rw [upd_ne (fun z => by rw [z, np] at ho; cases ho)]
      exact k1 b o hb' ho
    have S2 : SrcAt (upd H1 p (.lst ((ks.set 0 (ks.getD 0 0 + t - ks.sum)).map V.int))) a := by
      obtain ⟨c0, c1, c2, c3, c4, ea⟩ := S1
      exact ⟨c0, c1, c2, c3, c4, by rw [upd_ne (Ne.symm pa)]; exact ea⟩
    have hl2 : (ks.set 0 (ks.getD 0 0 + t - ks.sum)).length = o := by rw [List.length_set]; exact hl
    have hsum : (ks.set 0 (ks.getD 0 0 + t - ks.sum)).sum = t := by rw [sum_set _ _ _ l0]; omega
    have hpos2 : QM.Pos (ks.set 0 (ks.getD 0 0 + t - ks.sum)) := set_all (p := fun k => 0 < k) hpos (by have := hpos _ (getD_mem l0); omega)
    have w1 : (t : Int) ≤ (ks.set 0 (ks.getD 0 0 + t - ks.sum)).sum := by omega
    have w2 : (ks.set 0 (ks.getD 0 0 + t - ks.sum)).sum ≤ 1000 := by omega
    clear hsum hs7 hpos hp hlt l0 g0
    generalize ks.set 0 (ks.getD 0 0 + t - ks.sum) = ls at *
    generalize upd H1 p (.lst (ls.map V.int)) = H2 at *
  case' B =>
    obtain ⟨ls, rfl⟩ : ∃ ls, ls = ks := ⟨_, rfl⟩
    obtain ⟨H2, rfl⟩ : ∃ H2, H2 = H1 := ⟨_, rfl⟩
    have hp2 := hp
    have k2 := k1
    have S2 := S1
    have hl2 := hl
    have hpos2 := hpos
    have w1 : (t : Int) ≤ ls.sum := by omega
    have w2 : ls.sum ≤ 1000 := by omega
  all_goals
    walk_at "go"
    refine ⟨p, ls, rfl, SqL.of hp2, ?_⟩
    walk_at "go"
    refine ⟨a, ls.sum, t, rfl, S2, t1, by omega, w1, fun p2 ds H3 k3 S3 np2 hp2' hd hds hdl => ?_⟩
    have kk3 := k2.trans k3
    have hp3 := k3 _ _ pa hp2
    have pa2 := S2.ne np2
    walk_at "go"
    refine ⟨a, 3, rfl, S3, by decide, by decide, fun r H4 r0 r1 k4 S4 => ?_⟩
    have kk4 := kk3.trans k4
    have hp4 := k4 _ _ pa hp3
    have hq4 := k4 _ _ pa2 hp2'
    walk_at "go"
    refine ⟨rfl, ?_⟩
    walk_at "go"
    have lD : (ls.length = o ∧ ds.length = t) ∨ (ls.length = t ∧ ds.length = o) := .inl ⟨hl2, hdl⟩
    have hds' : ls.sum = ds.sum := hds.symm
    refine r_iteD (fun hr0 => ?_) (fun _ => ?_)
    walk_at "go"
    refine ⟨rfl, ?_⟩
    walk_at "go"
    refine r_iteD (fun hot => ?_) (fun _ => ?_)
    have eot : o = t := by have := V.int.inj hot; omega
    walk_at "go"
    refine ⟨a, o, rfl, S4, by omega, fun tt A H5 k5 S5 oA htt => ?_⟩
    have hp5 := k5 _ _ pa hp4
    have kk5 := kk4.trans k5
    walk_at "go"
    refine ⟨tt, rfl, ⟨_, htt⟩, fun D nD => lc_tupR (fun i y _ => ∀ x, A[i]? = some x → y = .int (ls.getD x 0)) apart_val htt nD (by rw [intsV_len, oA.len]; omega) (fun i x H4' Q4 hi s4 hQ => ?_) (fun H6 ys s6 hD hly hR => ?_) gname_mono⟩
    · obtain ⟨x', hx', rfl⟩ : ∃ x', A[i]? = some x' ∧ x = .int (x' : Nat) := by
        unfold intsV at hi
        rw [List.getElem?_map] at hi
        cases e : A[i]? with
        | none => rw [e] at hi; cases hi
        | some z => rw [e] at hi; exact ⟨z, rfl, (Option.some.inj hi).symm⟩
      have hx2 : x' < ls.length := by rw [hl2]; exact oA.lt x' (List.mem_of_getElem? hx')
      refine ⟨rfl, ?_⟩
      walk_at "go"
      refine ⟨p, _, _, _, rfl, rfl, SqL.of (s4 _ _ hp5), atI_nat (get_int hx2), ?_⟩
      refine hQ _ _ (Same.refl _) fun z hz => ?_
      rw [hx'] at hz; cases hz; rfl
    have oA' : QM.Ord ls.length A := by rw [hl2]; exact oA
    have ey : ys = (QM.vals ls A).map V.int := by
      unfold QM.vals
      rw [List.map_map]
      exact list_of_map (by rw [hly, intsV_len]) fun i y hy z hz => hR i y hy z hz
    subst ey
    have nF : D ≠ a := S5.ne nD
    have kF := kk5.trans (Of.same s6)
    have SF := S5.same s6
    have hpF := s6 _ _ hp5
    have hqF := hD
    have lF : (ls.length = o ∧ (QM.vals ls A).length = t) ∨ (ls.length = t ∧ (QM.vals ls A).length = o) := .inl ⟨hl2, by simp [QM.vals, oA.len, eot]⟩
    have sF : ls.sum = (QM.vals ls A).sum := (QM.ord_sum oA').symm
    have pF : QM.Pos (QM.vals ls A) := QM.vals_pos hpos2 oA'.lt
    generalize QM.vals ls A = es at *
    generalize D = pe at *
    generalize H6 = HF at *
    rotate_left
    have nF := pa2
    have kF := kk4
    have SF := S4
    have hpF := hp4
    have hqF := hq4
    have lF := lD
    have sF := hds'
    have pF := hd
    generalize ds = es at *
    generalize p2 = pe at *
    generalize H4 = HF at *
    rotate_left
    have nF := pa2
    have kF := kk4
    have SF := S4
    have hpF := hp4
    have hqF := hq4
    have lF := lD
    have sF := hds'
    have pF := hd
    generalize ds = es at *
    generalize p2 = pe at *
    generalize H4 = HF at *
  all_goals
    have EF : QM.Even ls es := ⟨hpos2, pF, fun z => by rw [z] at lF; simp at lF; omega, sF⟩
    have EG : QM.Even es ls := ⟨pF, hpos2, EF.nd, sF.symm⟩
    walk_at "go"
    refine ⟨a, 2, rfl, SF, by decide, by decide, fun r' H7 r0' r1' k7 S7 => ?_⟩
    have k8 := kF.trans k7
    walk_at "go"
    refine ⟨rfl, ?_⟩
    walk_at "go"
    have hp7 : H7 p = some (.lst (ls.map V.int)) := k7 _ _ pa hpF
    have hq7 : H7 pe = some (.lst (es.map V.int)) := k7 _ _ nF hqF
    refine r_iteD (fun _ => ?_) (fun _ => ?_)
    · walk_at "go"
      refine ⟨p, _, rfl, .inl ⟨SqL.of hp7, fun t1 nt1 => ?_⟩⟩
      walk_at "go"
      have u1 := same_new (o := .tup (ls.map V.int)) nt1
      refine ⟨pe, _, rfl, .inl ⟨SqL.of (u1 _ _ hq7), fun t2 nt2 => ?_⟩⟩
      have u2 := same_new (o := .tup (es.map V.int)) nt2
      walk_at "go"
      intro s ns
      have u3 := same_new (o := .tup [V.ref t1, V.ref t2]) ns
      exact qq s ls es _ (k8.trans (Of.same (u1.trans (u2.trans u3)))) (S7.same (u1.trans (u2.trans u3))) ⟨t1, t2, sqt_new, Same.tup u3 (Same.tup u2 sqt_new), Same.tup u3 sqt_new⟩ EF w2 lF
    · walk_at "go"
      refine ⟨pe, _, rfl, .inl ⟨SqL.of hq7, fun t1 nt1 => ?_⟩⟩
      walk_at "go"
      have u1 := same_new (o := .tup (es.map V.int)) nt1
      refine ⟨p, _, rfl, .inl ⟨SqL.of (u1 _ _ hp7), fun t2 nt2 => ?_⟩⟩
      have u2 := same_new (o := .tup (ls.map V.int)) nt2
      walk_at "go"
      intro s ns
      have u3 := same_new (o := .tup [V.ref t1, V.ref t2]) ns
      exact qq s es ls _ (k8.trans (Of.same (u1.trans (u2.trans u3)))) (S7.same (u1.trans (u2.trans u3))) ⟨t1, t2, sqt_new, Same.tup u3 (Same.tup u2 sqt_new), Same.tup u3 sqt_new⟩ EG (by omega) (lF.elim (fun z => .inr ⟨z.2, z.1⟩) fun z => .inl ⟨z.2, z.1⟩)
def sp_law_crowd (K : PySem.W.Frag) : Sp := fun vs H Q _ => ∃ (a : Addr) (n : Int), vs = [.ref a, .int n] ∧ SrcAt H a ∧ 5 ≤ n ∧ n ≤ 7 ∧
  ∀ s os ds H', Of a H H' → SrcAt H' a → TwoAt K H' s os ds → QM.Even os ds → os.sum ≤ 1000 → os.length ≤ 6 → ds.length ≤ 6 → os.length + ds.length ≤ 7 → Q (.ref s) H'
theorem sc_law_crowd : FnScope ["_law_source_here", "_law_most", "_law_many", "_law_owers"] ["_law_source_here", "_law_most"] (defScope s_law_crowd) := ⟨rfl, rfl, rfl, by decide +kernel, rfl, by decide +kernel, by decide +kernel⟩
theorem ok_law_crowd (T : Tx K mg CE CS) (C_law_draw : OkF P w K mg base "_law_draw" ["_law_source_here", "_law_many"] 1 sp_law_draw) (C_law_sums : OkF P w K mg base "_law_sums" ["_law_source_here", "_law_owers", "_law_takers"] 4 (sp_law_sums K)) : OkF P w K mg base "_law_crowd" ["_law_source_here", "_law_most"] 5 (sp_law_crowd K) := by
  refine okF T.law_crowd sc_law_crowd (fun _ _ _ _ _ _ us hl => match us, hl with | [_, _], _ => rfl) (fun vs H Q E h => ?_) (fun f cd A outer s H vs Q E hr h => ?_)
  · obtain ⟨a, n, rfl, _⟩ := h; rfl
  obtain ⟨a, n, rfl, S, n5, n7, qq⟩ := h
  refine ⟨_, pss_cons (ps_set (i := 2) sc_law_crowd.nd rfl (Or.inl rfl) (pe_ifExp (pt_cmpR op_gt (C_law_draw.call hr (pa_cons (pv 0) (pa_cons pe_int pa_nil))) pe_int (nomark _)) (pe_op op_sub (pv 1) (C_law_draw.call hr (pa_cons (pv 0) (pa_cons pe_int pa_nil)))) (pe_op op_add pe_int (C_law_draw.call hr (pa_cons (pv 0) (pa_cons (pe_op op_sub (pv 1) pe_int) pa_nil)))))) 
    (pss_cons (ps_set (i := 3) sc_law_crowd.nd rfl (Or.inl rfl) (pe_ifExp (pt_cmpR op_gt (C_law_draw.call hr (pa_cons (pv 0) (pa_cons pe_int pa_nil))) pe_int (nomark _)) (pe_callB (call_max2 rfl) (by rfl) T.b_max (by decide +kernel) (pa_cons pe_int (pa_cons (pe_op op_sub (pe_op op_fdiv (pv 2) pe_int) (C_law_draw.call hr (pa_cons (pv 0) (pa_cons pe_int pa_nil)))) pa_nil))) (pe_op op_add pe_int (C_law_draw.call hr (pa_cons (pv 0) (pa_cons (pe_op op_sub (pv 2) pe_int) pa_nil)))))) 
    (pss_one (ps_ret (C_law_sums.call hr (pa_cons (pv 0) (pa_cons (pv 3) (pa_cons (pe_op op_sub (pv 2) (pv 3)) pa_nil))))))), ?_⟩
  walk_at "go"
  refine ⟨a, 3, rfl, S, by decide, by decide, fun r H1 r0 r1 k1 S1 => ?_⟩
  walk_at "go"
  refine r_iteD (fun _ => ?_) (fun _ => ?_)
  walk_at "go"
  refine ⟨a, 2, rfl, S1, by decide, by decide, fun r' H2 r0' r1' k2 S2 => ?_⟩
  have k3 := k1.trans k2
  have b1 : 2 ≤ n - r' := by omega
  have b2 : n - r' ≤ n := by omega
  walk_at "go"
  generalize n - r' = m at *
  rotate_left
  walk_at "go"
  refine ⟨a, _, rfl, S1, by omega, by omega, fun r' H2 r0' r1' k2 S2 => ?_⟩
  have k3 := k1.trans k2
  have b1 : 2 ≤ 2 + r' := by omega
  have b2 : 2 + r' ≤ n := by omega
  walk_at "go"
  generalize 2 + r' = m at *
  all_goals
    refine ⟨a, 3, rfl, S2, by decide, by decide, fun q H3 q0 q1 k4 S3 => ?_⟩
    have k5 := k3.trans k4
    walk_at "go"
    refine r_iteD (fun _ => ?_) (fun _ => ?_)
    walk_at "go"
    refine ⟨a, 2, rfl, S3, by decide, by decide, fun q' H4 q0' q1' k6 S4 => ?_⟩
    have k7 := k5.trans k6
    walk_at "go"
    refine ⟨_, _, rfl, ?_⟩
    walk_at "go"
    obtain ⟨o, ho, h1, h2⟩ : ∃ o : Nat, (if m / 2 - q' > 1 then m / 2 - q' else 1) = (o : Int) ∧ 1 ≤ o ∧ (o : Int) ≤ m - 1 := by
      refine ⟨(if m / 2 - q' > 1 then m / 2 - q' else 1).toNat, ?_, ?_, ?_⟩ <;> split <;> omega
    rw [ho]
    rotate_left
    walk_at "go"
    refine ⟨a, _, rfl, S3, by omega, by omega, fun q' H4 q0' q1' k6 S4 => ?_⟩
    have k7 := k5.trans k6
    walk_at "go"
    obtain ⟨o, ho, h1, h2⟩ : ∃ o : Nat, 1 + q' = (o : Int) ∧ 1 ≤ o ∧ (o : Int) ≤ m - 1 := ⟨(1 + q').toNat, by omega, by omega, by omega⟩
    rw [ho]
  all_goals
    obtain ⟨t, ht⟩ : ∃ t : Nat, m - (o : Int) = (t : Int) := ⟨(m - o).toNat, by omega⟩
    rw [ht]
    refine ⟨a, o, t, rfl, S4, h1, by omega, by omega, by omega, fun s os ds H5 k8 S5 hs E hb hl => ?_⟩
    exact qq s os ds H5 (k7.trans k8) S5 hs E hb (by omega) (by omega) (by omega)
/-! ### an evening by sums and a unit -/
def sp_law_evening (K : PySem.W.Frag) (CE : Addr) : Sp := fun vs H Q _ => ∃ (s : Addr) (v : V) (p q : Int) (os ds : List Int), vs = [.ref s, v] ∧ TwoAt K H s os ds ∧ Fr K H v (p, q) ∧ Gd p q os ds ∧ ∀ e H', Same H H' → EvAt K CE H' e p q os ds → Q (.ref e) H'
theorem fr_apart {K : PySem.W.Frag} {D : Addr} {p q : Int} {ks : List Int} : Apart D (fun i y H => ∀ k, ks[i]? = some k → Fr K H y (fr p q k)) := fun i y H H' acc hD k h z hz => Fr.apart hD k (h z hz)
theorem sc_law_evening : FnScope ["_law_sums_here", "_law_unit_here", "_law_owed", "_law_due", "_law_item"] ["_law_sums_here", "_law_unit_here"] (defScope s_law_evening) := ⟨rfl, rfl, rfl, by decide +kernel, rfl, by decide +kernel, by decide +kernel⟩
theorem ok_law_evening (T : Tx K mg CE CS) (C_law_times : OkF P w K mg base "_law_times" ["_law_number", "_law_unit_here"] 2 (sp_law_times K)) (C_Evening : OkI P w K mg base CE ["self", "owed", "due"] 5 (sp_Evening_init K CE)) : OkF P w K mg base "_law_evening" ["_law_sums_here", "_law_unit_here"] 7 (sp_law_evening K CE) := by
  refine okF T.law_evening sc_law_evening (fun _ _ _ _ _ _ us hl => match us, hl with | [_, _], _ => rfl) (fun vs H Q E h => ?_) (fun f cd A outer s H vs Q E hr h => ?_)
  · obtain ⟨s, v, p, q, os, ds, rfl, _⟩ := h; rfl
  obtain ⟨s, v, p, q, os, ds, rfl, ⟨x, y, hs, hx, hy⟩, hv, G, qq⟩ := h
  refine ⟨_, pss_cons (ps_asg (pv 0) (pg_tup rfl (pgs_cons (pg_name (i := 2) sc_law_evening.nd rfl (Or.inl rfl)) (pgs_cons (pg_name (i := 3) sc_law_evening.nd rfl (Or.inl rfl)) pgs_nil)))) 
    (pss_one (ps_ret (C_Evening.make T.mEv hr (pa_cons (pe_callTy call_tuple_of (by rfl) T.b_tuple (by decide +kernel) (pa_cons (pe_lc (own := [("_law_item", 4)]) (g := gName 4) (tt := tYes) rfl sc_law_evening.nd (pi_tup (pv 2)) (blkOk_by (own := [("_law_item", 4)]) (N := ["_law_sums_here", "_law_unit_here", "_law_owed", "_law_due", "_law_item"]) (sc := defScope s_law_evening) (by decide +kernel)) (fun _ _ _ _ _ => (pg_name (i := 4) sc_law_evening.nd rfl (Or.inl rfl))) (fun _ _ _ _ _ => pts_nil) (fun _ _ _ _ _ => (C_law_times.call hr (pa_cons (pv 4) (pa_cons (pv 1) pa_nil))))) pa_nil)) (pa_cons (pe_callTy call_tuple_of (by rfl) T.b_tuple (by decide +kernel) (pa_cons (pe_lc (own := [("_law_item", 4)]) (g := gName 4) (tt := tYes) rfl sc_law_evening.nd (pi_tup (pv 3)) (blkOk_by (own := [("_law_item", 4)]) (N := ["_law_sums_here", "_law_unit_here", "_law_owed", "_law_due", "_law_item"]) (sc := defScope s_law_evening) (by decide +kernel)) (fun _ _ _ _ _ => (pg_name (i := 4) sc_law_evening.nd rfl (Or.inl rfl))) (fun _ _ _ _ _ => pts_nil) (fun _ _ _ _ _ => (C_law_times.call hr (pa_cons (pv 4) (pa_cons (pv 1) pa_nil))))) pa_nil)) pa_nil))))), ?_⟩
  have e1 := G.lo
  have e2 := G.ld
  obtain ⟨a1, a2, a3, a4⟩ := G.all
  walk_at "go"
  refine ⟨x, rfl, ⟨_, hx⟩, fun D nD => lc_tupR (fun i y H => ∀ k, os[i]? = some k → Fr K H y (fr p q k)) fr_apart hx nD (by rw [List.length_map]; omega) (fun i z H2 Q2 hi s2 hQ => ?_) (fun H2 ys s2 hD hly hR => ?_) gname_mono⟩
  · obtain ⟨k, hk, rfl⟩ := map_int_get0 hi
    have hm : k ∈ os ++ ds := List.mem_append_left _ (List.mem_of_getElem? hk)
    refine ⟨rfl, ?_⟩
    walk_at "go"
    refine ⟨k, v, p, q, rfl, hv.same s2, G.un, a1 k hm, a2 k hm, fun v' H3 s3 f3 => ?_⟩
    refine hQ _ _ s3 fun k' hk' => ?_
    rw [hk] at hk'; cases hk'; exact f3
  walk_at "go"
  refine ⟨D, ys, rfl, .inl ⟨SqL.of hD, fun t1 nt1 => ?_⟩⟩
  have u1 := same_new (o := .tup ys) nt1
  have F1 : Frs K H2 ys p q os := ⟨by rw [hly, List.length_map], fun i v k hv hk => hR i v hv k hk⟩
  have ht1 : SqT K (upd H2 t1 (.tup ys)) t1 ys := sqt_new
  have sA := s2.trans u1
  have F2 := F1.same u1
  generalize upd H2 t1 (.tup ys) = H3 at *
  walk_at "go"
  refine ⟨y, rfl, ⟨_, Same.tup sA hy⟩, fun D2 nD2 => lc_tupR (fun i y H => ∀ k, ds[i]? = some k → Fr K H y (fr p q k)) fr_apart (Same.tup sA hy) nD2 (by rw [List.length_map]; omega) (fun i z H4 Q4 hi s4 hQ => ?_) (fun H4 zs s4 hD4 hlz hR4 => ?_) gname_mono⟩
  · obtain ⟨k, hk, rfl⟩ := map_int_get0 hi
    have hm : k ∈ os ++ ds := List.mem_append_right _ (List.mem_of_getElem? hk)
    refine ⟨rfl, ?_⟩
    walk_at "go"
    refine ⟨k, v, p, q, rfl, hv.same (sA.trans s4), G.un, a1 k hm, a2 k hm, fun v' H5 s5 f5 => ?_⟩
    refine hQ _ _ s5 fun k' hk' => ?_
    rw [hk] at hk'; cases hk'; exact f5
  walk_at "go"
  refine ⟨D2, zs, rfl, .inl ⟨SqL.of hD4, fun t2 nt2 => ?_⟩⟩
  have u2 := same_new (o := .tup zs) nt2
  have F3 : Frs K H4 zs p q ds := ⟨by rw [hlz, List.length_map], fun i v k hv hk => hR4 i v hv k hk⟩
  have ht2 : SqT K (upd H4 t2 (.tup zs)) t2 zs := sqt_new
  have sB := s4.trans u2
  have F4 := F3.same u2
  have F5 := F2.same sB
  have ht3 := Same.tup sB ht1
  have sC := sA.trans sB
  generalize upd H4 t2 (.tup zs) = H5 at *
  walk_at "go"
  intro e dx ne nd ned
  have sx : Same H5 (upd (upd H5 dx (.own e)) e (.ins CE dx [])) := (same_new nd).trans (same_new (by rw [upd_ne (Ne.symm ned)]; exact ne))
  refine ⟨e, t1, t2, dx, ys, zs, p, q, os, ds, rfl, upd_same, Same.tup sx ht3, Same.tup sx ht2, F5.same sx, F4.same sx, G, fun H6 off he => ⟨rfl, ?_⟩⟩
  exact qq e H6 (fun b o hb => off b o (fun z => by rw [z] at hb; have := sC _ _ hb; rw [ne] at this; cases this) (sx b o (sC b o hb))) he
end QH

/-! QL5: the law's payment; same data -/
namespace QH
open PySem PySem.Spec L2 QF RZ
variable {P : Program} {w : World} {K : PySem.W.Frag} {mg : Str → Option Value} {base : Heap} {CE CS : Addr}
theorem r_sliceA {K : PySem.W.Frag} {H : Hp} {Q : VK} {a : Addr} {xs : List V} {lo hi : Option Int} (hx : SqT K H a xs) (h : ∀ b H', Same H H' → SqT K H' b (cutV xs lo hi) → Q (.ref b) H') : rSlA K (.ref a) lo hi H Q := by
  refine ⟨a, xs, rfl, hx, fun hw => h a H (Same.refl H) ?_, fun _ b nb => h b _ (same_new nb) sqt_new⟩
  have e : cutV xs lo hi = xs := by
    unfold cutV
    rw [hw.1, hw.2, List.drop_zero, Nat.sub_zero, List.take_length]
  rw [e]; exact hx
theorem r_concat {K : PySem.W.Frag} {H : Hp} {Q : VK} {a b : Addr} {xs ys : List V} (ha : SqT K H a xs) (hb : SqT K H b ys) (hz : xs.length + ys.length ≤ 1000) (h : ∀ c H', Same H H' → SqT K H' c (xs ++ ys) → Q (.ref c) H') : rCatA K (.ref a) (.ref b) H Q := by
  refine ⟨a, b, xs, ys, rfl, rfl, ha, hb, by rw [sizeLine_eq]; omega, fun e => h b H (Same.refl H) (by rw [e]; exact hb), fun _ e => h a H (Same.refl H) (by rw [e, List.append_nil]; exact ha), fun _ _ p np => h p _ (same_new np) sqt_new⟩
theorem cut_lo (xs : List V) (i : Nat) (h : i ≤ xs.length) : cutV xs none (some (i : Int)) = xs.take i := by
  unfold cutV
  rw [HT.sIx_none, HT.sIx_nat, List.drop_zero, Nat.sub_zero, Nat.min_eq_left h]
theorem cut_hi (xs : List V) (i : Nat) (h : i ≤ xs.length) : cutV xs (some (i : Int)) none = xs.drop i := by
  unfold cutV
  rw [HT.sIx_none, HT.sIx_nat, Nat.min_eq_left h, ← List.length_drop, List.take_length]
theorem set_parts {xs : List V} {i : Nat} {v : V} (h : i < xs.length) : xs.take i ++ [v] ++ xs.drop (i + 1) = xs.set i v := by
  rw [List.set_eq_take_append_cons_drop, if_pos h, List.append_assoc]; rfl
def sp_law_pay (K : PySem.W.Frag) : Sp := fun vs H Q _ => ∃ (s pr : Addr) (as bs : List Int) (i j : Nat), vs = [.ref s, .ref pr] ∧ TwoAt K H s as bs ∧ SqT K H pr [.int i, .int j] ∧ i < as.length ∧ j < bs.length ∧ as.length ≤ 100 ∧ bs.length ≤ 100 ∧
  ∀ s' H', Same H H' → TwoAt K H' s' (as.set i (as.getD i 0 - QM.mn (as.getD i 0) (bs.getD j 0))) (bs.set j (bs.getD j 0 - QM.mn (as.getD i 0) (bs.getD j 0))) → Q (.ref s') H'
theorem sc_law_pay : FnScope ["_law_state", "_law_pair", "_law_owed", "_law_due", "_law_ower", "_law_taker", "_law_amount"] ["_law_state", "_law_pair"] (defScope s_law_pay) := ⟨rfl, rfl, rfl, by decide +kernel, rfl, by decide +kernel, by decide +kernel⟩
theorem ok_law_pay (T : Tx K mg CE CS) : OkF P w K mg base "_law_pay" ["_law_state", "_law_pair"] 1 (sp_law_pay K) := by
  refine okF T.law_pay sc_law_pay (fun _ _ _ _ _ _ us hl => match us, hl with | [_, _], _ => rfl) (fun vs H Q E h => ?_) (fun f cd A outer s H vs Q E hr h => ?_)
  · obtain ⟨s, pr, as, bs, i, j, rfl, _⟩ := h; rfl
  obtain ⟨s, pr, as, bs, i, j, rfl, ⟨x, y, hs, hx, hy⟩, hp, li, lj, la, lb, qq⟩ := h
  refine ⟨_, pss_cons (ps_asg (pv 0) (pg_tup rfl (pgs_cons (pg_name (i := 2) sc_law_pay.nd rfl (Or.inl rfl)) (pgs_cons (pg_name (i := 3) sc_law_pay.nd rfl (Or.inl rfl)) pgs_nil)))) 
    (pss_cons (ps_asg (pv 1) (pg_tup rfl (pgs_cons (pg_name (i := 4) sc_law_pay.nd rfl (Or.inl rfl)) (pgs_cons (pg_name (i := 5) sc_law_pay.nd rfl (Or.inl rfl)) pgs_nil)))) 
    (pss_cons (ps_set (i := 6) sc_law_pay.nd rfl (Or.inl rfl) (pe_callB (call_min2 rfl) (by rfl) T.b_min (by decide +kernel) (pa_cons (pe_ix ix_tup (pv 2) (pv 4) (fun _ _ => rfl)) (pa_cons (pe_ix ix_tup (pv 3) (pv 5) (fun _ _ => rfl)) pa_nil)))) 
    (pss_cons (ps_set (i := 2) sc_law_pay.nd rfl (Or.inl rfl) (pe_op op_catA (pe_op op_catA (pe_slice sl_tupA (pv 2) po_none (po_some (pv 4))) (pe_tup (pa_cons (pe_op op_sub (pe_ix ix_tup (pv 2) (pv 4) (fun _ _ => rfl)) (pv 6)) pa_nil))) (pe_slice sl_tupA (pv 2) (po_some (pe_op op_add (pv 4) pe_int)) po_none))) 
    (pss_one (ps_ret (pe_tup (pa_cons (pv 2) (pa_cons (pe_op op_catA (pe_op op_catA (pe_slice sl_tupA (pv 3) po_none (po_some (pv 5))) (pe_tup (pa_cons (pe_op op_sub (pe_ix ix_tup (pv 3) (pv 5) (fun _ _ => rfl)) (pv 6)) pa_nil))) (pe_slice sl_tupA (pv 3) (po_some (pe_op op_add (pv 5) pe_int)) po_none)) pa_nil)))))))), ?_⟩
  have gi : (as.map V.int)[i]? = some (.int (as.getD i 0)) := get_int li
  have gj : (bs.map V.int)[j]? = some (.int (bs.getD j 0)) := get_int lj
  have li' : i < (as.map V.int).length := by rw [List.length_map]; exact li
  have lj' : j < (bs.map V.int).length := by rw [List.length_map]; exact lj
  have la' : (as.map V.int).length ≤ 100 := by rw [List.length_map]; exact la
  have lb' : (bs.map V.int).length ≤ 100 := by rw [List.length_map]; exact lb
  have ei : ((i : Int) + 1) = ((i + 1 : Nat) : Int) := by omega
  have ej : ((j : Int) + 1) = ((j + 1 : Nat) : Int) := by omega
  walk_at "go"
  refine ⟨x, _, _, _, rfl, rfl, hx, atI_nat gi, ?_⟩
  walk_at "go"
  refine ⟨y, _, _, _, rfl, rfl, hy, atI_nat gj, ?_⟩
  walk_at "go"
  refine ⟨_, _, rfl, ?_⟩
  walk_at "go"
  refine r_sliceA hx fun b1 H1 s1 h1 => ?_
  rw [cut_lo _ _ (Nat.le_of_lt li')] at h1
  walk_at "go"
  refine ⟨x, _, _, _, rfl, rfl, Same.tup s1 hx, atI_nat gi, ?_⟩
  walk_at "go"
  intro b2 n2
  have s2 := s1.trans (same_new (o := .tup [V.int (as.getD i 0 - QM.mn (as.getD i 0) (bs.getD j 0))]) n2)
  refine r_concat (Same.tup (same_new n2) h1) sqt_new (by rw [List.length_take, List.length_singleton]; omega) fun b3 H3 s3 h3 => ?_
  have s4 := s2.trans s3
  walk_at "go"
  refine r_sliceA (Same.tup s4 hx) fun b4 H4 s5 h4 => ?_
  rw [ei, cut_hi _ _ li'] at h4
  have s6 := s4.trans s5
  refine r_concat (Same.tup s5 h3) h4 (by rw [List.length_append, List.length_take, List.length_singleton, List.length_drop]; omega) fun b5 H5 s7 h5 => ?_
  rw [set_parts li', map_set_int] at h5
  have s8 := s6.trans s7
  walk_at "go"
  refine r_sliceA (Same.tup s8 hy) fun c1 H6 t1 g1 => ?_
  rw [cut_lo _ _ (Nat.le_of_lt lj')] at g1
  walk_at "go"
  refine ⟨y, _, _, _, rfl, rfl, Same.tup (s8.trans t1) hy, atI_nat gj, ?_⟩
  walk_at "go"
  intro c2 m2
  have t2 := t1.trans (same_new (o := .tup [V.int (bs.getD j 0 - QM.mn (as.getD i 0) (bs.getD j 0))]) m2)
  refine r_concat (Same.tup (same_new m2) g1) sqt_new (by rw [List.length_take, List.length_singleton]; omega) fun c3 H7 t3 g3 => ?_
  have t4 := t2.trans t3
  walk_at "go"
  refine r_sliceA (Same.tup (s8.trans t4) hy) fun c4 H8 t5 g4 => ?_
  rw [ej, cut_hi _ _ lj'] at g4
  have t6 := t4.trans t5
  refine r_concat (Same.tup t5 g3) g4 (by rw [List.length_append, List.length_take, List.length_singleton, List.length_drop]; omega) fun c5 H9 t7 g5 => ?_
  rw [set_parts lj', map_set_int] at g5
  have t8 := t6.trans t7
  walk_at "go"
  intro s' ns
  have u := same_new (o := .tup [V.ref b5, V.ref c5]) ns
  exact qq s' _ (s8.trans (t8.trans u)) ⟨b5, c5, sqt_new, Same.tup u (Same.tup t8 h5), Same.tup u g5⟩
/-! ### same data -/
def EqN (K : PySem.W.Frag) (H : Hp) : Nat → V → V → Prop
  | 0 => fun _ _ => False
  | n + 1 => fun x y => (∃ i : Int, x = .int i ∧ y = .int i) ∨ ∃ (a b : Addr) (xs ys : List V), x = .ref a ∧ y = .ref b ∧ SqT K H a xs ∧ SqT K H b ys ∧ xs.length = ys.length ∧ xs.length ≤ 1000 ∧ ∀ (i : Nat) (u v : V), xs[i]? = some u → ys[i]? = some v → EqN K H n u v
theorem EqN.same {K : PySem.W.Frag} {H H' : Hp} (s : Same H H') : ∀ {n : Nat} {x y : V}, EqN K H n x y → EqN K H' n x y
  | 0, _, _, h => h
  | n + 1, x, y, .inl h => .inl h
  | n + 1, x, y, .inr ⟨a, b, xs, ys, e1, e2, h1, h2, h3, h4, h5⟩ => .inr ⟨a, b, xs, ys, e1, e2, Same.tup s h1, Same.tup s h2, h3, h4, fun i u v hu hv => EqN.same s (h5 i u v hu hv)⟩
def sp_same (K : PySem.W.Frag) (n : Nat) : Sp := fun vs H Q _ => ∃ x y : V, vs = [x, y] ∧ EqN K H n x y ∧ ∀ H', Same H H' → Q (.bl true) H'
theorem sc_law_same : FnScope ["_law_told", "_law_due", "_law_one", "_law_other"] ["_law_told", "_law_due"] (defScope s_law_same) := ⟨rfl, rfl, rfl, by decide +kernel, rfl, by decide +kernel, by decide +kernel⟩
theorem ok_same0 (T : Tx K mg CE CS) : OkF P w K mg base "_law_same" ["_law_told", "_law_due"] 1 (sp_same K 0) := by
  refine okF T.law_same sc_law_same (fun _ _ _ _ _ _ us hl => match us, hl with | [_, _], _ => rfl) (fun vs H Q E h => ?_) (fun f cd A outer s H vs Q E hr h => ?_)
  · obtain ⟨_, _, _, h, _⟩ := h; exact h.elim
  · obtain ⟨_, _, _, h, _⟩ := h; exact h.elim
theorem lc_zipT {K : PySem.W.Frag} {a b D : Addr} {xs ys : List V} {g : TG} {tt : TT} {te : TE} {vs : List Nat} {σ : L2.St} {H1 : Hp} {Qd : Hp → Prop} (hl : xs.length = ys.length) (Pv : Nat → Hp → Prop) (h0 : Pv 0 (upd H1 D (.lst []))) (hq : ∀ i H, Pv i H → SqT K H a xs ∧ SqT K H b ys)
    (hs : ∀ (i : Nat) (x y : V) (T : Addr) (H : Hp), xs[i]? = some x → ys[i]? = some y → Pv i H → H T = none → g (.ref T) (wipe σ vs) (upd H T (.tup [x, y])) fun σ2 H2 => wipe σ2 vs = wipe σ vs ∧ tt σ2 H2 fun b H3 =>
      if b = true then te σ2 H3 fun y H4 => ∃ acc, H4 D = some (.lst acc) ∧ acc.length < sizeLine ∧ Pv (i + 1) (upd H4 D (.lst (acc ++ [y]))) else Pv (i + 1) H3) (hd : ∀ H, Pv xs.length H → Qd H) :
    ∃ W : Nat → Nat → Hp → Prop, (∃ m, W 0 m (upd H1 D (.lst []))) ∧ ∀ i m H, W i m H →
      ((ItzT K a b).stop i H ∧ Qd H) ∨ ((ItzT K a b).go i H ∧ ∃ Nx : Hp → Prop, (∀ H', Nx H' → ∃ m', m' < m ∧ W (i + 1) m' H') ∧ ∀ x H', (ItzT K a b).yld i H x H' → g x (wipe σ vs) H' fun σ2 H2 => wipe σ2 vs = wipe σ vs ∧ tt σ2 H2 fun b H3 =>
        if b = true then te σ2 H3 fun y H4 => ∃ acc, H4 D = some (.lst acc) ∧ acc.length < sizeLine ∧ Nx (upd H4 D (.lst (acc ++ [y]))) else Nx H3) := by
  refine ⟨fun i m H => m = xs.length - i ∧ i ≤ xs.length ∧ Pv i H, ⟨xs.length, rfl, Nat.zero_le _, h0⟩, ?_⟩
  rintro i m H ⟨rfl, hi, p⟩
  obtain ⟨qx, qy⟩ := hq i H p
  by_cases hlt : i < xs.length
  · have hx : xs[i]? = some xs[i] := List.getElem?_eq_getElem hlt
    have hlt2 : i < ys.length := by omega
    have hy : ys[i]? = some ys[i] := List.getElem?_eq_getElem hlt2
    refine .inr ⟨⟨xs, ys, _, _, qx, qy, hx, hy⟩, Pv (i + 1), fun H' p' => ⟨xs.length - (i + 1), by omega, rfl, hlt, p'⟩, fun v H' y => ?_⟩
    obtain ⟨T, x', y', rfl, hT, rfl, f1, f2⟩ := y
    exact hs i x' y' T H (f1 xs qx) (f2 ys qy) p hT
  · have e : i = xs.length := by omega
    subst e
    exact .inl ⟨⟨xs, ys, qx, qy, Or.inl (Nat.le_refl _)⟩, hd H p⟩
theorem r_zip {K : PySem.W.Frag} {ta : TA} {σ : L2.St} {H : Hp} {R : It → Hp → Prop} (h : ta σ H fun vs H1 => ∃ a b xs ys, vs = [.ref a, .ref b] ∧ ((SqL K H1 a xs ∧ SqL K H1 b ys ∧ R (Itz K a b) H1) ∨ (SqT K H1 a xs ∧ SqT K H1 b ys ∧ R (ItzT K a b) H1))) : iZipA K ta σ H R := h
/-- isinstance(x, (list, tuple)) -/
theorem r_isiLT {K : PySem.W.Frag} {H : Hp} {Q : VK} {x : V} {a : String} {tp : Addr} {r : Bool} (t : TyX K H x (.type a)) (ht : H tp = some (.tup [.ty "list", .ty "tuple"])) (k1 : kitB a "list" = some false) (k2 : kitB a "tuple" = some r) (h : Q (.bl r) H) : rIsiT K [x, .ref tp] H Q := by
  refine ⟨x, tp, _, .type a, [.type "list", .type "tuple"], r, rfl, ht, .cons (.ty _) (.cons (.ty _) .nil), t, ?_, h⟩
  exact kitAny_cons (kit_ty k1) (fun _ => kitAny_cons (kit_ty k2) (fun e => by subst e; exact kitAny_nil) (fun e => e)) (fun e => nomatch e)
theorem ok_same (T : Tx K mg CE CS) (n : Nat) (C_law_same : OkF P w K mg base "_law_same" ["_law_told", "_law_due"] (n + 1) (sp_same K n)) (C_law_is_integer : OkF P w K mg base "_law_is_integer" ["_law_thing"] 1 sp_is_integer) : OkF P w K mg base "_law_same" ["_law_told", "_law_due"] (n + 2) (sp_same K (n + 1)) := by
  refine okF T.law_same sc_law_same (fun _ _ _ _ _ _ us hl => match us, hl with | [_, _], _ => rfl) (fun vs H Q E h => ?_) (fun f cd A outer s H vs Q E hr h => ?_)
  · obtain ⟨x, y, rfl, _⟩ := h; rfl
  obtain ⟨x, y, rfl, he, qq⟩ := h
  refine ⟨_, pss_cons (ps_if (pt_val (pe_callB call_isiT (by rfl) T.b_isinstance (by decide +kernel) (pa_cons (pv 1) (pa_cons (pe_tup (pa_cons (pe_bltn (v := .ty "list") rfl T.b_list (by decide +kernel) rfl) (pa_cons (pe_bltn (v := .ty "tuple") rfl T.b_tuple (by decide +kernel) rfl) pa_nil))) pa_nil)))) (pss_cons (ps_if (PW.pt (pw_or (pt_cmpR op_ne (pe_callB call_isi (by rfl) T.b_isinstance (by decide +kernel) (pa_cons (pv 0) (pa_cons (pe_bltn (v := .ty "list") rfl T.b_list (by decide +kernel) rfl) pa_nil))) (pe_callB call_isi (by rfl) T.b_isinstance (by decide +kernel) (pa_cons (pv 1) (pa_cons (pe_bltn (v := .ty "list") rfl T.b_list (by decide +kernel) rfl) pa_nil))) (nomark _)) (pw_or (pt_not (pt_val (pe_callB call_isiT (by rfl) T.b_isinstance (by decide +kernel) (pa_cons (pv 0) (pa_cons (pe_tup (pa_cons (pe_bltn (v := .ty "list") rfl T.b_list (by decide +kernel) rfl) (pa_cons (pe_bltn (v := .ty "tuple") rfl T.b_tuple (by decide +kernel) rfl) pa_nil))) pa_nil))))) (pw_or1 (pt_cmpR op_ne (pe_callB call_len_seq (by rfl) T.b_len PySem.boot_len (pa_cons (pv 0) pa_nil)) (pe_callB call_len_seq (by rfl) T.b_len PySem.boot_len (pa_cons (pv 1) pa_nil)) (nomark _)))))) (pss_one (ps_ret pe_bl)) (pss_nil)) 
        (pss_one (ps_ret (pe_callB (cr_all rfl) (by rfl) T.b_all (by decide +kernel) (pa_cons (pe_lc (own := [("_law_one", 2), ("_law_other", 3)]) (g := gTup K 2 (gCons (gName 2) (gCons (gName 3) (gNil)))) (tt := tYes) rfl sc_law_same.nd (pi_zipA (by rfl) T.b_zip (pa_cons (pv 0) (pa_cons (pv 1) pa_nil))) (blkOk_by (own := [("_law_one", 2), ("_law_other", 3)]) (N := ["_law_told", "_law_due", "_law_one", "_law_other"]) (sc := defScope s_law_same) (by decide +kernel)) (fun _ _ _ _ _ => (pg_tup rfl (pgs_cons (pg_name (i := 2) sc_law_same.nd rfl (Or.inl rfl)) (pgs_cons (pg_name (i := 3) sc_law_same.nd rfl (Or.inl rfl)) pgs_nil)))) (fun _ _ _ _ _ => pts_nil) (fun _ _ _ _ _ => (C_law_same.call hr (pa_cons (pv 2) (pa_cons (pv 3) pa_nil)) (Nat.le_refl _)))) pa_nil))))) (pss_nil)) 
    (pss_cons (ps_if (pt_cmpR op_isN (pv 1) pe_non (nomark _)) (pss_one (ps_ret (pe_cmpR op_isN (pv 0) pe_non (nomark _)))) (pss_nil)) 
    (pss_cons (ps_if (pt_val (pe_callB call_isi (by rfl) T.b_isinstance (by decide +kernel) (pa_cons (pv 1) (pa_cons (pe_bltn (v := .ty "bool") rfl T.b_bool (by decide +kernel) rfl) pa_nil)))) (pss_one (ps_ret (pe_and (pe_callB call_isi (by rfl) T.b_isinstance (by decide +kernel) (pa_cons (pv 0) (pa_cons (pe_bltn (v := .ty "bool") rfl T.b_bool (by decide +kernel) rfl) pa_nil))) (pe_one (pe_cmpR op_eq (pv 0) (pv 1) (nomark _)))))) (pss_nil)) 
    (pss_cons (ps_if (pt_val (pe_callB call_isi (by rfl) T.b_isinstance (by decide +kernel) (pa_cons (pv 1) (pa_cons (pe_bltn (v := .ty "str") rfl T.b_str (by decide +kernel) rfl) pa_nil)))) (pss_one (ps_ret (pe_and (pe_callB call_isi (by rfl) T.b_isinstance (by decide +kernel) (pa_cons (pv 0) (pa_cons (pe_bltn (v := .ty "str") rfl T.b_str (by decide +kernel) rfl) pa_nil))) (pe_one (pe_cmpR op_eq (pv 0) (pv 1) (nomark _)))))) (pss_nil)) 
    (pss_one (ps_ret (pe_and (C_law_is_integer.call hr (pa_cons (pv 0) pa_nil) (Nat.succ_le_succ (Nat.zero_le _))) (pe_one (pe_cmpR op_eq (pv 0) (pv 1) (nomark _))))))))), ?_⟩
  walk_at "go"
  intro tp ntp
  have s1 := same_new (o := .tup [V.ty "list", .ty "tuple"]) ntp
  walk_at "go"
  rcases he with ⟨i, rfl, rfl⟩ | ⟨a, b, xs, ys, rfl, rfl, ha, hb, hl, hz, hi⟩
  · refine r_isiLT (.base (.int i)) upd_same (by decide +kernel : kitB "int" "list" = some false) (by decide +kernel : kitB "int" "tuple" = some false) ?_
    walk_at "go"
    refine ⟨rfl, _, rfl, r_iteD (fun h => nomatch h) (fun _ => ?_)⟩
    walk_at "go"
    refine r_isi (.base (.int i)) (by decide +kernel : kitB "int" "bool" = some false) ?_
    walk_at "go"
    refine r_isi (.base (.int i)) (by decide +kernel : kitB "int" "str" = some false) ?_
    walk_at "go"
    refine ⟨i, rfl, ?_⟩
    walk_at "go"
    refine ⟨rfl, ?_⟩
    rw [decide_eq_true rfl]
    exact qq _ s1
  · have ha1 := Same.tup s1 ha
    have hb1 := Same.tup s1 hb
    refine r_isiLT (ty_tup hb1) upd_same (by decide +kernel : kitB "tuple" "list" = some false) (by decide +kernel : kitB "tuple" "tuple" = some true) ?_
    walk_at "go"
    refine r_isi (ty_tup ha1) (by decide +kernel : kitB "tuple" "list" = some false) ?_
    walk_at "go"
    refine r_isi (ty_tup hb1) (by decide +kernel : kitB "tuple" "list" = some false) ?_
    walk_at "go"
    refine ⟨rfl, ?_⟩
    walk_at "go"
    refine r_iteN (fun h => absurd rfl h) (fun _ => ?_)
    walk_at "go"
    intro tp2 ntp2
    have s2 := s1.trans (same_new (o := .tup [V.ty "list", .ty "tuple"]) ntp2)
    walk_at "go"
    refine r_isiLT (ty_tup (Same.tup s2 ha)) upd_same (by decide +kernel : kitB "tuple" "list" = some false) (by decide +kernel : kitB "tuple" "tuple" = some true) ?_
    walk_at "go"
    refine ⟨a, xs, rfl, .inr (Same.tup s2 ha), ?_⟩
    walk_at "go"
    refine ⟨b, ys, rfl, .inr (Same.tup s2 hb), ?_⟩
    walk_at "go"
    refine ⟨rfl, ?_⟩
    walk_at "go"
    refine r_iteN (fun h => absurd (by rw [hl]) h) (fun _ => ?_)
    walk_at "go"
    refine r_zip ?_
    walk_at "go"
    generalize upd (upd H tp (.tup [V.ty "list", .ty "tuple"])) tp2 (.tup [V.ty "list", .ty "tuple"]) = H2 at *
    refine ⟨a, b, xs, ys, rfl, .inr ⟨Same.tup s2 ha, Same.tup s2 hb, fun D nD => ?_⟩⟩
    refine lc_zipT hl (fun i H' => LcInv H2 D (fun _ y _ => y = .bl true) i H') (LcInv.zero nD) (fun i H' I => ⟨Same.tup I.1 (Same.tup s2 ha), Same.tup I.1 (Same.tup s2 hb)⟩) (fun i u v T0 H' hu hv I nT => ?_) (fun H' I => ?_)
    · have s3 := same_new (o := .tup [u, v]) nT
      have hT : SqT K (upd H' T0 (.tup [u, v])) T0 [u, v] := sqt_new
      have lt := (List.getElem?_eq_some_iff.mp hu).1
      walk_at "go"
      refine ⟨rfl, yes_ok ?_⟩
      walk_at "go"
      refine ⟨u, v, rfl, EqN.same (s2.trans (I.1.trans s3)) (hi i u v hu hv), fun H3 s4 => ?_⟩
      exact LcInv.step nD apart_val I (by omega) (s3.trans s4) rfl
    · obtain ⟨s5, acc, hD, hly, hR⟩ := I
      obtain rfl := all_true hly hR
      walk_at "go"
      refine ⟨D, _, rfl, SqL.of hD, ?_⟩
      rw [all_rep]
      exact qq _ (s2.trans s5)
end QH

/-! QL6: the law's orders and its way of the queues -/
namespace QH
open PySem PySem.Spec L2 QF
variable {P : Program} {w : World} {K : PySem.W.Frag} {mg : Str → Option Value} {base : Heap} {CE CS : Addr}
def RowAt (K : PySem.W.Frag) (H : Hp) (v : V) (A : List Nat) : Prop := ∃ c, v = .ref c ∧ SqT K H c (intsV A)
theorem RowAt.kp {K : PySem.W.Frag} {H H' : Hp} (k : Kp H H') {v : V} {A : List Nat} (h : RowAt K H v A) : RowAt K H' v A := let ⟨c, e, s⟩ := h; ⟨c, e, k.sqt s⟩
abbrev Rows (K : PySem.W.Frag) (H : Hp) (zs : List V) (Ls : List (List Nat)) : Prop := Paired (RowAt K H) zs Ls
theorem Rows.kp {K : PySem.W.Frag} {H H' : Hp} (k : Kp H H') : ∀ {zs : List V} {Ls : List (List Nat)}, Rows K H zs Ls → Rows K H' zs Ls
  | _, _, .nil => .nil
  | _, _, .cons h r => .cons (h.kp k) (Rows.kp k r)
theorem Rows.len {K : PySem.W.Frag} {H : Hp} : ∀ {zs : List V} {Ls : List (List Nat)}, Rows K H zs Ls → zs.length = Ls.length
  | _, _, .nil => rfl
  | _, _, .cons _ r => by rw [List.length_cons, List.length_cons, Rows.len r]
theorem Rows.app {K : PySem.W.Frag} {H : Hp} : ∀ {zs ws : List V} {Ls Ms : List (List Nat)}, Rows K H zs Ls → Rows K H ws Ms → Rows K H (zs ++ ws) (Ls ++ Ms)
  | _, _, _, _, .nil, h => h
  | _, _, _, _, .cons a r, h => .cons a (Rows.app r h)
theorem Rows.get {K : PySem.W.Frag} {H : Hp} : ∀ {zs : List V} {Ls : List (List Nat)}, Rows K H zs Ls → ∀ {i : Nat} {v : V}, zs[i]? = some v → ∃ A, Ls[i]? = some A ∧ RowAt K H v A
  | _, _, .nil, i, v, h => by simp at h
  | _, _, .cons (b := A) h r, 0, v, e => by simp at e; subst e; exact ⟨A, rfl, h⟩
  | _, _, .cons h r, i + 1, v, e => by
    obtain ⟨A, h1, h2⟩ := Rows.get r (i := i) (v := v) (by simpa using e)
    exact ⟨A, by simpa using h1, h2⟩
theorem grow_len (m : Nat) (A : List Nat) : (QM.grow1 m A).length ≤ m := by
  unfold QM.grow1
  rw [List.length_map]
  exact Nat.le_trans (List.length_filter_le _ _) (by rw [List.length_range]; exact Nat.le_refl _)
theorem flat_len (m : Nat) : ∀ l : List (List Nat), (l.flatMap (QM.grow1 m)).length ≤ l.length * m
  | [] => by simp
  | A :: l => by
    have h1 := grow_len m A
    have h2 := flat_len m l
    rw [List.flatMap_cons, List.length_append, List.length_cons, Nat.succ_mul]
    omega
theorem ords_pow (m : Nat) : ∀ k, (QM.ords m k).length ≤ m ^ k
  | 0 => by simp [QM.ords]
  | k + 1 => by
    have h1 := flat_len m (QM.ords m k)
    have h2 := Nat.mul_le_mul_right m (ords_pow m k)
    show ((QM.ords m k).flatMap (QM.grow1 m)).length ≤ _
    rw [Nat.pow_succ]; omega
theorem ords_bd {m k : Nat} (hm : m ≤ 6) (hk : k ≤ 6) : (QM.ords m k).length ≤ 46656 := by
  refine Nat.le_trans (ords_pow m k) (Nat.le_trans (Nat.pow_le_pow_left hm k) (Nat.le_trans (Nat.pow_le_pow_right (by decide) hk) (by decide)))
theorem notin_val (k : Nat) (A : List Nat) : (if true = true then !inV (V.int (k : Int)) (intsV A) else inV (V.int (k : Int)) (intsV A)) = !decide (k ∈ A) := by
  rw [if_pos rfl]
  congr 1
  unfold inV intsV
  rw [List.any_map, Bool.eq_iff_iff, List.any_eq_true, decide_eq_true_iff]
  constructor
  · rintro ⟨x, hx, h⟩
    have : (x : Int) == (k : Int) := h
    have e : x = k := by have := eq_of_beq this; omega
    rw [← e]; exact hx
  · intro h
    exact ⟨k, h, (beq_self_eq_true (k : Int))⟩
theorem flat_ints (A : List Nat) : (intsV A).all flatV = true := by
  unfold intsV
  rw [List.all_map, List.all_eq_true]
  intro x _; rfl
def sp_law_orders (K : PySem.W.Frag) : Sp := fun vs H Q _ => ∃ m : Nat, vs = [.int m] ∧ m ≤ 6 ∧ ∀ p zs H', Same H H' → H' p = some (.lst zs) → Rows K H' zs (QM.ords m m) → Q (.ref p) H'
theorem sc_law_orders : FnScope ["_law_many", "_law_found", "_law_turn", "_law_longer", "_law_row", "_law_item"] ["_law_many"] (defScope s_law_orders) := ⟨rfl, rfl, rfl, by decide +kernel, rfl, by decide +kernel, by decide +kernel⟩
theorem ok_law_orders (T : Tx K mg CE CS) : OkF P w K mg base "_law_orders" ["_law_many"] 1 (sp_law_orders K) := by
  refine okF T.law_orders sc_law_orders (fun _ _ _ _ _ _ us hl => match us, hl with | [_], _ => rfl) (fun vs H Q E h => ?_) (fun f cd A outer s H vs Q E hr h => ?_)
  · obtain ⟨m, rfl, _⟩ := h; rfl
  obtain ⟨m, rfl, hm, qq⟩ := h
  refine ⟨_, pss_cons (ps_set (i := 1) sc_law_orders.nd rfl (Or.inl rfl) (pe_lst (pa_cons (pe_tup pa_nil) pa_nil))) 
    (pss_cons (ps_for PassesOwn.never rfl (pi_range1 (by rfl) T.b_range (pa_cons (pv 0) pa_nil)) (pg_name (i := 2) sc_law_orders.nd rfl (Or.inl rfl)) (pss_cons (ps_set (i := 3) sc_law_orders.nd rfl (Or.inl rfl) (pe_lst pa_nil)) 
        (pss_cons (ps_for PassesOwn.never rfl (pi_list (pv 1)) (pg_name (i := 4) sc_law_orders.nd rfl (Or.inr rfl)) (pss_one (ps_expr (pe_bm PySem.F.plainAttrs_list PySem.F.slot_list_extend PySem.F.type_list_extend mt_extend (pv 3) (pa_cons (pe_lc (own := [("_law_item", 5)]) (g := gName 5) rfl sc_law_orders.nd (pi_range1 (by rfl) T.b_range (pa_cons (pv 0) pa_nil)) (blkOk_by (own := [("_law_item", 5)]) (N := ["_law_many", "_law_found", "_law_turn", "_law_longer", "_law_row", "_law_item"]) (sc := defScope s_law_orders) (by decide +kernel)) (fun _ _ _ _ _ => (pg_name (i := 5) sc_law_orders.nd rfl (Or.inl rfl))) (fun _ _ _ _ _ => pts_one (pt_cmpR (r := rIn K true) op_notIn_seq (pv 5) (pv 4) rfl)) (fun _ _ _ _ _ => (pe_op (r := rCatA K) op_catA (pv 4) (pe_tup (pa_cons (pv 5) pa_nil))))) pa_nil))))) 
        (pss_one (ps_set (i := 1) sc_law_orders.nd rfl (Or.inl rfl) (pv 3)))))) 
    (pss_one (ps_ret (pv 1)))), ?_⟩
  walk_at "go"
  intro t0 nt0
  have s0 := same_new (o := .tup []) nt0
  have ht0 : upd H t0 (.tup []) t0 = some (.tup []) := upd_same
  generalize upd H t0 (.tup []) = H0 at *
  walk_at "go"
  intro p0 np0
  have s1 := s0.trans (same_new (o := .lst [V.ref t0]) np0)
  have hp0 : upd H0 p0 (.lst [V.ref t0]) p0 = some (.lst [V.ref t0]) := upd_same
  have R0 : Rows K (upd H0 p0 (.lst [V.ref t0])) [V.ref t0] (QM.ords m 0) := .cons ⟨t0, rfl, .inl (.inl (same_new np0 _ _ ht0))⟩ .nil
  generalize upd H0 p0 (.lst [V.ref t0]) = H1 at *
  walk_at "go"
  refine ⟨_, rfl, by omega, by omega, ?_⟩
  rw [Int.toNat_natCast]
  refine for_range (fun i σ H' => ∃ (p : Addr) (zs : List V) (y2 y3 y4 : Option V), σ = [some (.int m), some (.ref p), y2, y3, y4, none] ∧ Same H H' ∧ H' p = some (.lst zs) ∧ Rows K H' zs (QM.ords m i)) ?_ ?_ ?_
  · exact ⟨p0, _, none, none, none, rfl, s1, hp0, R0⟩
  · rintro i σ H2 hi ⟨p, zs, y2, y3, y4, rfl, s2, hp, R2⟩
    walk_at "go"
    intro q nq
    have s3 := same_new (o := .lst []) nq
    have hq : upd H2 q (.lst []) q = some (.lst []) := upd_same
    have pq : p ≠ q := ne_of_none hp nq
    have zl := R2.len
    have bd := ords_bd (m := m) (k := i) hm (by omega)
    walk_at "go"
    refine ⟨p, rfl, ⟨_, SqL.of (s3 _ _ hp)⟩, for_list (xs := zs) (fun j σ H' => ∃ (ws : List V) (y4 : Option V), σ = [some (.int m), some (.ref p), some (.int (0 + (i : Nat))), some (.ref q), y4, none] ∧ Same H2 H' ∧ H' q = some (.lst ws) ∧ Rows K H' ws (((QM.ords m i).take j).flatMap (QM.grow1 m))) ?_ ?_ ?_ ?_⟩
    · exact ⟨[], y4, rfl, s3, hq, .nil⟩
    · rintro j σ H' _ ⟨ws, y4, rfl, s4, _⟩
      exact SqL.of (s4 _ _ hp)
    · rintro j x σ H3 hx ⟨ws, y4, rfl, s4, hq3, R3⟩
      obtain ⟨A, hA, c, rfl, hc⟩ := R2.get hx
      have lA : A.length ≤ 6 := by
        have := (QM.mem_ords.mp (List.mem_of_getElem? hA)).2.2
        omega
      have hc3 := Same.tup s4 hc
      have wl := R3.len
      have fl := flat_len m ((QM.ords m i).take j)
      have tl : ((QM.ords m i).take j).length ≤ 46656 := by rw [List.length_take]; omega
      have fb : ((QM.ords m i).take j).length * m ≤ 46656 * 6 := Nat.mul_le_mul tl hm
      walk_at "go"
      refine r_tylist (SqL.of hq3) ?_
      walk_at "go"
      refine ⟨_, rfl, by omega, by omega, fun D nD => ?_⟩
      rw [Int.toNat_natCast]
      have Dq : q ≠ D := ne_of_none hq3 nD
      refine lc_range (fun k H' => Same H3 H' ∧ ∃ us, H' D = some (.lst us) ∧ Rows K H' us (((List.range k).filter fun z => decide (z ∉ A)).map fun z => A ++ [z])) ⟨same_new nD, [], upd_same, .nil⟩ (fun k H4 hk I => ?_) (fun H4 I => ?_)
      · obtain ⟨s5, us, hD, R4⟩ := I
        have ul := R4.len
        have ub : us.length ≤ 6 := by
          rw [ul, List.length_map]
          exact Nat.le_trans (List.length_filter_le _ _) (by rw [List.length_range]; omega)
        have er : (List.range (k + 1)).filter (fun z => decide (z ∉ A)) = (List.range k).filter (fun z => decide (z ∉ A)) ++ (if k ∈ A then [] else [k]) := by
          rw [List.range_succ, List.filter_append]
          congr 1
          by_cases h : k ∈ A <;> simp [h]
        rw [Int.zero_add]
        refine ⟨rfl, ?_⟩
        walk_at "go"
        refine ⟨c, intsV A, rfl, .inr (Same.tup s5 hc3), rfl, flat_ints A, ?_⟩
        rw [notin_val]
        walk_at "go"
        refine r_iteN (fun hn => ?_) (fun hin => ?_)
        · walk_at "go"
          intro t nt
          have s6 := same_new (o := .tup [V.int (k : Int)]) nt
          refine r_concat (Same.tup s6 (Same.tup s5 hc3)) sqt_new (by rw [intsV_len, List.length_singleton]; omega) fun d H5 s7 hd => ?_
          have s8 := s6.trans s7
          refine ⟨us, s8 _ _ hD, by rw [sizeLine_eq]; omega, ?_, us ++ [V.ref d], upd_same, ?_⟩
          · exact Same.mut (s5.trans s8) nD
          · rw [er, if_neg hn, List.map_append]
            have kk : Kp H5 (upd H5 D (.lst (us ++ [V.ref d]))) := Kp.lst (s8 _ _ hD)
            refine ((R4.kp (Kp.same s8)).kp kk).app (.cons ⟨d, rfl, kk.sqt ?_⟩ .nil)
            rw [show intsV (A ++ [k]) = intsV A ++ [V.int (k : Int)] by unfold intsV; rw [List.map_append]; rfl]
            exact hd
        · walk_at "go"
          refine ⟨s5, us, hD, ?_⟩
          rw [er, if_pos hin, List.append_nil]
          exact R4
      · obtain ⟨s5, us, hD, R4⟩ := I
        have ul := R4.len
        have ub : us.length ≤ 6 := by
          rw [ul, List.length_map]
          exact Nat.le_trans (List.length_filter_le _ _) (by rw [List.length_range]; omega)
        have hq4 := s5 _ _ hq3
        walk_at "go"
        refine ⟨q, D, ws, us, rfl, rfl, hq4, hD, by rw [sizeLine_eq]; omega, ?_⟩
        have kk : Kp H4 (upd H4 q (.lst (ws ++ us))) := Kp.lst hq4
        refine ⟨ws ++ us, _, rfl, Same.mut (s4.trans s5) nq, upd_same, ?_⟩
        rw [take_snoc hA, List.flatMap_append]
        refine ((R3.kp (Kp.same s5)).kp kk).app ?_
        rw [List.flatMap_cons, List.flatMap_nil, List.append_nil]
        exact R4.kp kk
    · rintro σ H3 ⟨ws, y4, rfl, s4, hq3, R3⟩
      rw [zl, List.take_length] at R3
      walk_at "go"
      exact ⟨q, ws, _, _, _, rfl, s2.trans s4, hq3, R3⟩
  · rintro σ H2 ⟨p, zs, y2, y3, y4, rfl, s2, hp, R2⟩
    walk_at "go"
    exact qq p zs H2 s2 hp R2
end QH

/-! QL7: the law's way of the queues -/
namespace QH
open PySem PySem.Spec L2 QF
variable {P : Program} {w : World} {K : PySem.W.Frag} {mg : Str → Option Value} {base : Heap} {CE CS : Addr}
theorem dpAll_ints {K : PySem.W.Frag} {H : Hp} : ∀ ns : List Int, DpAll K H (ns.map V.int) (ns.map PyData.int)
  | [] => .nil
  | n :: r => .cons (.int n) (dpAll_ints r)
/-- one != [] -/
theorem r_neL {K : PySem.W.Frag} {H : Hp} {Q : VK} {a b : Addr} {A : List Nat} (ha : H a = some (.lst (intsV A))) (hb : H b = some (.lst [])) (h : Q (.bl (!decide (A = []))) H) : rNeD K (.ref a) (.ref b) H Q := by
  refine ⟨.list ((A.map fun (x : Nat) => (x : Int)).map PyData.int), .list [], .lst (by rw [← intsV_int]; exact SqL.of ha) (dpAll_ints _), .lst (SqL.of hb) .nil, PySem.W.ke_shaped_ints _, rfl, ?_⟩
  have e : PyData.eqv (.list ((A.map fun (x : Nat) => (x : Int)).map PyData.int)) (.list []) = decide (A = []) := by
    cases A with
    | nil => simp [PyData.eqv, PyData.eqvAll]
    | cons x A => simp [PyData.eqv, PyData.eqvAll]
  rw [e]; exact h
def sp_law_queue_way (K : PySem.W.Frag) : Sp := fun vs H Q _ => ∃ (s a b : Addr) (os ds : List Int) (A B : List Nat), vs = [.ref s, .ref a, .ref b] ∧ TwoAt K H s os ds ∧ SqT K H a (intsV A) ∧ SqT K H b (intsV B) ∧ QM.Even os ds ∧ os.sum ≤ 1000 ∧ QM.Ord os.length A ∧ QM.Ord ds.length B ∧ os.length ≤ 6 ∧ ds.length ≤ 6 ∧
  ∀ t W H', Same H H' → SqT K H' t W → (W.length : Int) = QM.gq os ds A B → Q (.ref t) H'
theorem sc_law_queue_way : FnScope ["_law_sums_here", "_law_owers", "_law_takers", "_law_state", "_law_one", "_law_other", "_law_way", "_law_turn"] ["_law_sums_here", "_law_owers", "_law_takers"] (defScope s_law_queue_way) := ⟨rfl, rfl, rfl, by decide +kernel, rfl, by decide +kernel, by decide +kernel⟩
theorem ok_law_queue_way (T : Tx K mg CE CS) (C_law_pay : OkF P w K mg base "_law_pay" ["_law_state", "_law_pair"] 1 (sp_law_pay K)) : OkF P w K mg base "_law_queue_way" ["_law_sums_here", "_law_owers", "_law_takers"] 2 (sp_law_queue_way K) := by
  refine okF T.law_queue_way sc_law_queue_way (fun _ _ _ _ _ _ us hl => match us, hl with | [_, _, _], _ => rfl) (fun vs H Q E h => ?_) (fun f cd A outer s H vs Q E hr h => ?_)
  · obtain ⟨s, a, b, os, ds, A, B, rfl, _⟩ := h; rfl
  obtain ⟨s, a, b, os, ds, A0, B0, rfl, hs, ha, hb, Ev, bd, oA, oB, lo, ld, qq⟩ := h
  have hu64 := hr.units
  refine ⟨_, pss_cons (ps_set (i := 3) sc_law_queue_way.nd rfl (Or.inl rfl) (pv 0)) 
    (pss_cons (ps_set (i := 4) sc_law_queue_way.nd rfl (Or.inl rfl) (pe_callTy call_list_of (by rfl) T.b_list (by decide +kernel) (pa_cons (pv 1) pa_nil))) 
    (pss_cons (ps_set (i := 5) sc_law_queue_way.nd rfl (Or.inl rfl) (pe_callTy call_list_of (by rfl) T.b_list (by decide +kernel) (pa_cons (pv 2) pa_nil))) 
    (pss_cons (ps_set (i := 6) sc_law_queue_way.nd rfl (Or.inl rfl) (pe_lst pa_nil)) 
    (pss_cons (ps_for PassesOwn.never rfl (pi_range1 (by rfl) T.b_range (pa_cons (pe_op op_add (pe_callB call_len_seq (by rfl) T.b_len PySem.boot_len (pa_cons (pv 1) pa_nil)) (pe_callB call_len_seq (by rfl) T.b_len PySem.boot_len (pa_cons (pv 2) pa_nil))) pa_nil)) (pg_name (i := 7) sc_law_queue_way.nd rfl (Or.inl rfl)) (pss_one (ps_if (pt_cmpR (op_neD hu64) (pv 4) (pe_lst pa_nil) (nomark _)) (pss_cons (ps_expr (pe_bm PySem.F.plainAttrs_list PySem.F.slot_list_append PySem.F.type_list_append mt_append (pv 6) (pa_cons (pe_tup (pa_cons (pe_ix ix_list (pv 4) pe_int (fun _ _ => rfl)) (pa_cons (pe_ix ix_list (pv 5) pe_int (fun _ _ => rfl)) pa_nil))) pa_nil))) 
          (pss_cons (ps_set (i := 3) sc_law_queue_way.nd rfl (Or.inl rfl) (C_law_pay.call hr (pa_cons (pv 3) (pa_cons (pe_ix ix_list (pv 6) (pe_un un_neg pe_int) (fun _ _ => rfl)) pa_nil)))) 
          (pss_cons (ps_if (pt_cmpR op_eq (pe_ix ix_tup (pe_ix ix_tup (pv 3) pe_int (fun _ _ => rfl)) (pe_ix ix_list (pv 4) pe_int (fun _ _ => rfl)) (fun _ _ => rfl)) pe_int (nomark _)) (pss_one (ps_expr (pe_bm PySem.F.plainAttrs_list PySem.F.slot_list_pop PySem.F.type_list_pop mt_popAt (pv 4) (pa_cons pe_int pa_nil)))) (pss_nil)) 
          (pss_one (ps_if (pt_cmpR op_eq (pe_ix ix_tup (pe_ix ix_tup (pv 3) pe_int (fun _ _ => rfl)) (pe_ix ix_list (pv 5) pe_int (fun _ _ => rfl)) (fun _ _ => rfl)) pe_int (nomark _)) (pss_one (ps_expr (pe_bm PySem.F.plainAttrs_list PySem.F.slot_list_pop PySem.F.type_list_pop mt_popAt (pv 5) (pa_cons pe_int pa_nil)))) (pss_nil)))))) (pss_nil)))) 
    (pss_one (ps_ret (pe_callTy call_tuple_of (by rfl) T.b_tuple (by decide +kernel) (pa_cons (pv 6) pa_nil)))))))), ?_⟩
  have none_up : ∀ {H1 : Hp} {c : Addr}, Same H H1 → H1 c = none → H c = none := fun {H1 c} k hc => by
    cases h : H c with
    | none => rfl
    | some o => rw [k c o h] at hc; cases hc
  walk_at "go"
  refine ⟨a, _, rfl, .inr ha, fun one n1 => ?_⟩
  have t1 := same_new (o := .lst (intsV A0)) n1
  have h1 : upd H one (.lst (intsV A0)) one = some (.lst (intsV A0)) := upd_same
  generalize upd H one (.lst (intsV A0)) = H1 at *
  walk_at "go"
  refine ⟨b, _, rfl, .inr (Same.tup t1 hb), fun other n2 => ?_⟩
  have t2 := t1.trans (same_new (o := .lst (intsV B0)) n2)
  have d1 : one ≠ other := ne_of_none h1 n2
  have h1 := same_new (o := .lst (intsV B0)) n2 _ _ h1
  have h2 : upd H1 other (.lst (intsV B0)) other = some (.lst (intsV B0)) := upd_same
  have m2 := none_up t1 n2
  generalize upd H1 other (.lst (intsV B0)) = H2 at *
  walk_at "go"
  intro way n3
  have t3 := t2.trans (same_new (o := .lst []) n3)
  have d2 : one ≠ way := ne_of_none h1 n3
  have d3 : other ≠ way := ne_of_none h2 n3
  have h1 := same_new (o := .lst []) n3 _ _ h1
  have h2 := same_new (o := .lst []) n3 _ _ h2
  have h3 : upd H2 way (.lst []) way = some (.lst []) := upd_same
  have m3 := none_up t2 n3
  generalize upd H2 way (.lst []) = H3 at *
  walk_at "go"
  refine ⟨a, _, rfl, .inr (Same.tup t3 ha), ?_⟩
  walk_at "go"
  refine ⟨b, _, rfl, .inr (Same.tup t3 hb), ?_⟩
  walk_at "go"
  rw [intsV_len, intsV_len, oA.len, oB.len]
  refine ⟨_, rfl, by omega, by omega, ?_⟩
  rw [show ((os.length : Int) + ds.length).toNat = os.length + ds.length by omega]
  refine for_range (fun i σ H' => ∃ (st : Addr) (as bs : List Int) (A B : List Nat) (W : List V) (y7 : Option V), σ = [some (.ref s), some (.ref a), some (.ref b), some (.ref st), some (.ref one), some (.ref other), some (.ref way), y7] ∧ Same H H' ∧ TwoAt K H' st as bs ∧
    H' one = some (.lst (intsV A)) ∧ H' other = some (.lst (intsV B)) ∧ H' way = some (.lst W) ∧ QM.QI (QM.qn (QM.vals os A0) (QM.vals ds B0)) as bs A B W.length ∧ (A = [] ∨ A.length + B.length + i ≤ os.length + ds.length) ∧ as.length ≤ 100 ∧ bs.length ≤ 100 ∧ W.length ≤ i) ?_ ?_ ?_
  · exact ⟨s, os, ds, A0, B0, [], none, rfl, t3, hs.same t3, h1, h2, h3, QM.QI.first Ev bd oA oB, .inr (by rw [oA.len, oB.len]; omega), by omega, by omega, Nat.le_refl _⟩
  · rintro i σ H' hi ⟨st, as, bs, A, B, W, y7, rfl, sH, S', k1, k2, k3, I, hend, la, lb, hW⟩
    walk_at "go"
    intro em nem
    have sE := same_new (o := .lst []) nem
    refine r_neL (A := A) (sE _ _ k1) upd_same ?_
    walk_at "go"
    refine r_iteN (fun hne => ?_) (fun he => ?_)
    rotate_left
    · subst he
      walk_at "go"
      exact ⟨st, as, bs, [], B, W, _, rfl, sH.trans sE, S'.same sE, sE _ _ k1, sE _ _ k2, sE _ _ k3, I, .inl rfl, la, lb, by omega⟩
    · cases A with
      | nil => exact absurd rfl hne
      | cons ia A =>
        have k1 := sE _ _ k1
        have k2 := sE _ _ k2
        have k3 := sE _ _ k3
        have S' := S'.same sE
        have sH := sH.trans sE
        generalize upd H' em (.lst []) = H'' at *
        obtain ⟨j, B', rfl, li, lj, x0, x1, y0, y1, I'⟩ := I.step
        have q1 : SqL K H'' one (V.int ia :: intsV A) := SqL.of k1
        have q2 : SqL K H'' other (V.int j :: intsV B') := SqL.of k2
        rw [List.length_cons, List.length_cons] at hend
        have hend' : A.length + 1 + (B'.length + 1) + i ≤ os.length + ds.length := hend.resolve_left (fun z => nomatch z)
        walk_at "go"
        refine r_tylist (SqL.of k3) ?_
        walk_at "go"
        intro pr npr
        have s5 := same_new (o := .tup [V.int ia, V.int j]) npr
        have hpr : upd H'' pr (.tup [V.int ia, V.int j]) pr = some (.tup [V.int ia, V.int j]) := upd_same
        have k1 := s5 _ _ k1
        have k2 := s5 _ _ k2
        have k3 := s5 _ _ k3
        have S' := S'.same s5
        have sH := sH.trans s5
        generalize upd H'' pr (.tup [V.int ia, V.int j]) = H5 at *
        walk_at "go"
        refine ⟨way, W, _, rfl, rfl, k3, by rw [sizeLine_eq]; omega, ?_⟩
        have kk := Kp.lst (o := .lst (W ++ [V.ref pr])) k3
        have hpr := kk.tup hpr
        have S' := S'.kp kk
        have sH : Same H (upd H5 way (.lst (W ++ [V.ref pr]))) := Same.mut sH m3
        have k1 : upd H5 way (.lst (W ++ [V.ref pr])) one = some (.lst (intsV (ia :: A))) := by rw [upd_ne d2]; exact k1
        have k2 : upd H5 way (.lst (W ++ [V.ref pr])) other = some (.lst (intsV (j :: B'))) := by rw [upd_ne d3]; exact k2
        have k3 : upd H5 way (.lst (W ++ [V.ref pr])) way = some (.lst (W ++ [V.ref pr])) := upd_same
        generalize upd H5 way (.lst (W ++ [V.ref pr])) = H6 at *
        walk_at "go"
        refine ⟨_, rfl, ⟨way, _, _, _, rfl, rfl, SqL.of k3, atI_last _ _, ?_⟩⟩
        walk_at "go"
        refine ⟨st, pr, as, bs, ia, j, rfl, S', .inl (.inl hpr), li, lj, la, lb, fun st2 H7 s7 S7 => ?_⟩
        have k1 := s7 _ _ k1
        have k2 := s7 _ _ k2
        have k3 := s7 _ _ k3
        have sH := sH.trans s7
        have wl : (W ++ [V.ref pr]).length = W.length + 1 := by simp
        have hm : ¬ (as.getD ia 0 - QM.mn (as.getD ia 0) (bs.getD j 0) ≠ 0 ∧ bs.getD j 0 - QM.mn (as.getD ia 0) (bs.getD j 0) ≠ 0) := by unfold QM.mn; split <;> omega
        have gA := QM.getD_set (ks := as) (v := as.getD ia 0 - QM.mn (as.getD ia 0) (bs.getD j 0)) li
        have gB := QM.getD_set (ks := bs) (v := bs.getD j 0 - QM.mn (as.getD ia 0) (bs.getD j 0)) lj
        have la2 : (as.set ia (as.getD ia 0 - QM.mn (as.getD ia 0) (bs.getD j 0))).length ≤ 100 := by rw [List.length_set]; exact la
        have lb2 : (bs.set j (bs.getD j 0 - QM.mn (as.getD ia 0) (bs.getD j 0))).length ≤ 100 := by rw [List.length_set]; exact lb
        have li2 : ia < (as.set ia (as.getD ia 0 - QM.mn (as.getD ia 0) (bs.getD j 0))).length := by rw [List.length_set]; exact li
        have lj2 : j < (bs.set j (bs.getD j 0 - QM.mn (as.getD ia 0) (bs.getD j 0))).length := by rw [List.length_set]; exact lj
        generalize as.getD ia 0 - QM.mn (as.getD ia 0) (bs.getD j 0) = xx at *
        generalize bs.getD j 0 - QM.mn (as.getD ia 0) (bs.getD j 0) = yy at *
        generalize as.set ia xx = as' at *
        generalize bs.set j yy = bs' at *
        obtain ⟨ax, ay, hst, hax, hay⟩ := id S7
        have q1 : SqL K H7 one (V.int ia :: intsV A) := SqL.of k1
        have q2 : SqL K H7 other (V.int j :: intsV B') := SqL.of k2
        have g1 := get_int li2
        have g2 := get_int lj2
        rw [gA] at g1
        rw [gB] at g2
        walk_at "go"
        refine ⟨ax, _, _, _, rfl, rfl, hax, atI_nat g1, ?_⟩
        walk_at "go"
        refine ⟨rfl, ?_⟩
        walk_at "go"
        refine r_iteD (fun hx => ?_) (fun hx => ?_)
        · walk_at "go"
          refine r_tylist (SqL.of k1) ?_
          walk_at "go"
          refine ⟨one, _, 0, 0, V.int ia, rfl, rfl, k1, by decide, by decide, seq0 intsV_pos, rfl, ?_⟩
          have e8 : upd H7 one (.lst ((intsV (ia :: A)).eraseIdx 0)) = upd H7 one (.lst (intsV A)) := rfl
          rw [e8]
          have kk8 := Kp.lst (o := .lst (intsV A)) k1
          have hst := kk8.sqt hst
          have hay := kk8.sqt hay
          have S7 := S7.kp kk8
          have hx0 : xx = 0 := V.int.inj hx
          rw [if_pos hx0] at I'
          have sH : Same H (upd H7 one (.lst (intsV A))) := Same.mut sH n1
          have k2 : upd H7 one (.lst (intsV A)) other = some (.lst (intsV (j :: B'))) := by rw [upd_ne (Ne.symm d1)]; exact k2
          have k3 : upd H7 one (.lst (intsV A)) way = some (.lst (W ++ [V.ref pr])) := by rw [upd_ne (Ne.symm d2)]; exact k3
          have k1 : upd H7 one (.lst (intsV A)) one = some (.lst (intsV A)) := upd_same
          generalize upd H7 one (.lst (intsV A)) = H8 at *
          have q2 : SqL K H8 other (V.int j :: intsV B') := SqL.of k2
          walk_at "go"
          refine ⟨ay, _, _, _, rfl, rfl, hay, atI_nat g2, ?_⟩
          walk_at "go"
          refine ⟨rfl, ?_⟩
          walk_at "go"
          refine r_iteD (fun hy => ?_) (fun hy => ?_)
          · have hy0 : yy = 0 := V.int.inj hy
            rw [if_pos hy0] at I'
            walk_at "go"
            refine r_tylist (SqL.of k2) ?_
            walk_at "go"
            refine ⟨other, _, 0, 0, V.int j, rfl, rfl, k2, by decide, by decide, seq0 intsV_pos, rfl, ?_⟩
            have kk9 := Kp.lst (o := .lst ((intsV (j :: B')).eraseIdx 0)) k2
            refine ⟨st2, as', bs', A, B', W ++ [V.ref pr], _, rfl, Same.mut sH m2, S7.kp kk9, by rw [upd_ne d1]; exact k1, upd_same, by rw [upd_ne (Ne.symm d3)]; exact k3, by rw [wl]; exact I', .inr (by (try rw [List.length_cons]); omega), la2, lb2, by rw [wl]; omega⟩
          · have hy0 : ¬ yy = 0 := fun z => hy (by rw [z])
            rw [if_neg hy0] at I'
            walk_at "go"
            exact ⟨st2, as', bs', A, j :: B', W ++ [V.ref pr], _, rfl, sH, S7, k1, k2, k3, by rw [wl]; exact I', .inr (by rw [List.length_cons]; omega), la2, lb2, by rw [wl]; omega⟩
        · have hx0 : ¬ xx = 0 := fun z => hx (by rw [z])
          rw [if_neg hx0] at I'
          walk_at "go"
          have q2 : SqL K H7 other (V.int j :: intsV B') := SqL.of k2
          walk_at "go"
          refine ⟨ay, _, _, _, rfl, rfl, hay, atI_nat g2, ?_⟩
          walk_at "go"
          refine ⟨rfl, ?_⟩
          walk_at "go"
          refine r_iteD (fun hy => ?_) (fun hy => ?_)
          · have hy0 : yy = 0 := V.int.inj hy
            rw [if_pos hy0] at I'
            walk_at "go"
            refine r_tylist (SqL.of k2) ?_
            walk_at "go"
            refine ⟨other, _, 0, 0, V.int j, rfl, rfl, k2, by decide, by decide, seq0 intsV_pos, rfl, ?_⟩
            have kk9 := Kp.lst (o := .lst ((intsV (j :: B')).eraseIdx 0)) k2
            refine ⟨st2, as', bs', ia :: A, B', W ++ [V.ref pr], _, rfl, Same.mut sH m2, S7.kp kk9, by rw [upd_ne d1]; exact k1, upd_same, by rw [upd_ne (Ne.symm d3)]; exact k3, by rw [wl]; exact I', .inr (by (try rw [List.length_cons]); omega), la2, lb2, by rw [wl]; omega⟩
          · have hy0 : ¬ yy = 0 := fun z => hy (by rw [z])
            exact absurd ⟨hx0, hy0⟩ hm
  · rintro σ H' ⟨st, as, bs, A, B, W, y7, rfl, sH, S', k1, k2, k3, I, hend, la, lb, hW⟩
    have hA : A = [] := hend.elim id fun z => List.length_eq_zero_iff.mp (by omega)
    subst hA
    walk_at "go"
    refine ⟨way, W, rfl, .inl ⟨SqL.of k3, fun t nt => ?_⟩⟩
    walk_at "go"
    refine qq t W _ (sH.trans (same_new nt)) sqt_new ?_
    rw [I.last]; rfl
end QH

/-! QL8: the law's own search -/
namespace QH
open PySem PySem.Spec L2 QF
variable {P : Program} {w : World} {K : PySem.W.Frag} {mg : Str → Option Value} {base : Heap} {CE CS : Addr}
def IsL (K : PySem.W.Frag) (H : Hp) (v : V) (x : Int) (A B : List Nat) : Prop := ∃ t t2 a b, v = .ref t ∧ SqT K H t [.int x, .ref t2] ∧ SqT K H t2 [.ref a, .ref b] ∧ SqT K H a (intsV A) ∧ SqT K H b (intsV B)
def IsLs (K : PySem.W.Frag) (H : Hp) (v : V) : QM.Bst → Prop
  | none => v = .non
  | some (x, A, B) => IsL K H v x A B
theorem IsL.kp {K : PySem.W.Frag} {H H' : Hp} {v : V} {x : Int} {A B : List Nat} (k : Kp H H') (h : IsL K H v x A B) : IsL K H' v x A B := by
  obtain ⟨t, t2, a, b, e, h1, h2, h3, h4⟩ := h
  exact ⟨t, t2, a, b, e, k.sqt h1, k.sqt h2, k.sqt h3, k.sqt h4⟩
theorem IsL.same {K : PySem.W.Frag} {H H' : Hp} {v : V} {x : Int} {A B : List Nat} (k : Same H H') (h : IsL K H v x A B) : IsL K H' v x A B := h.kp (Kp.same k)
theorem IsLs.same {K : PySem.W.Frag} {H H' : Hp} {v : V} {b : QM.Bst} (k : Same H H') (h : IsLs K H v b) : IsLs K H' v b := by
  cases b with
  | none => exact h
  | some r => obtain ⟨x, A, B⟩ := r; exact IsL.same k h
def sp_law_best (K : PySem.W.Frag) : Sp := fun vs H Q _ => ∃ (s : Addr) (os ds : List Int), vs = [.ref s] ∧ TwoAt K H s os ds ∧ QM.Even os ds ∧ os.sum ≤ 1000 ∧ os.length ≤ 6 ∧ ds.length ≤ 6 ∧
  ∀ p l m x A B y C D H', Same H H' → H' p = some (.lst [l, m]) → IsL K H' l x A B → IsL K H' m y C D → QM.search true (QM.gq os ds) (QM.ords os.length os.length) (QM.ords ds.length ds.length) = some (x, A, B) →
    QM.search false (QM.gq os ds) (QM.ords os.length os.length) (QM.ords ds.length ds.length) = some (y, C, D) → Q (.ref p) H'
theorem sc_law_best : FnScope ["_law_sums_here", "_law_least", "_law_most", "_law_owers", "_law_takers", "_law_number"] ["_law_sums_here"] (defScope s_law_best) := ⟨rfl, rfl, rfl, by decide +kernel, rfl, by decide +kernel, by decide +kernel⟩
theorem ok_law_best (T : Tx K mg CE CS) (C_law_orders : OkF P w K mg base "_law_orders" ["_law_many"] 1 (sp_law_orders K)) (C_law_queue_way : OkF P w K mg base "_law_queue_way" ["_law_sums_here", "_law_owers", "_law_takers"] 2 (sp_law_queue_way K)) : OkF P w K mg base "_law_best" ["_law_sums_here"] 3 (sp_law_best K) := by
  refine okF T.law_best sc_law_best (fun _ _ _ _ _ _ us hl => match us, hl with | [_], _ => rfl) (fun vs H Q E h => ?_) (fun f cd A outer s H vs Q E hr h => ?_)
  · obtain ⟨s, os, ds, rfl, _⟩ := h; rfl
  obtain ⟨s, os, ds, rfl, ⟨sx, sy, hs, hsx, hsy⟩, Ev, bd, lo, ld, qq⟩ := h
  refine ⟨_, pss_cons (ps_set (i := 1) sc_law_best.nd rfl (Or.inl rfl) pe_non) 
    (pss_cons (ps_set (i := 2) sc_law_best.nd rfl (Or.inl rfl) pe_non) 
    (pss_cons (ps_for PassesOwn.never rfl (pi_list (C_law_orders.call hr (pa_cons (pe_callB call_len_seq (by rfl) T.b_len PySem.boot_len (pa_cons (pe_ix ix_tup (pv 0) pe_int (fun _ _ => rfl)) pa_nil)) pa_nil))) (pg_name (i := 3) sc_law_best.nd rfl (Or.inl rfl)) (pss_one (ps_for PassesOwn.never rfl (pi_list (C_law_orders.call hr (pa_cons (pe_callB call_len_seq (by rfl) T.b_len PySem.boot_len (pa_cons (pe_ix ix_tup (pv 0) pe_int (fun _ _ => rfl)) pa_nil)) pa_nil))) (pg_name (i := 4) sc_law_best.nd rfl (Or.inl rfl)) (pss_cons (ps_set (i := 5) sc_law_best.nd rfl (Or.inl rfl) (pe_callB call_len_seq (by rfl) T.b_len PySem.boot_len (pa_cons (C_law_queue_way.call hr (pa_cons (pv 0) (pa_cons (pv 3) (pa_cons (pv 4) pa_nil)))) pa_nil))) 
          (pss_cons (ps_if (PW.pt (pw_or (pt_cmpR op_isN (pv 1) pe_non (nomark _)) (pw_or1 (pt_cmpR op_lt (pv 5) (pe_ix ix_tup (pv 1) pe_int (fun _ _ => rfl)) (nomark _))))) (pss_one (ps_set (i := 1) sc_law_best.nd rfl (Or.inl rfl) (pe_tup (pa_cons (pv 5) (pa_cons (pe_tup (pa_cons (pv 3) (pa_cons (pv 4) pa_nil))) pa_nil))))) (pss_nil)) 
          (pss_one (ps_if (PW.pt (pw_or (pt_cmpR op_isN (pv 2) pe_non (nomark _)) (pw_or1 (pt_cmpR op_gt (pv 5) (pe_ix ix_tup (pv 2) pe_int (fun _ _ => rfl)) (nomark _))))) (pss_one (ps_set (i := 2) sc_law_best.nd rfl (Or.inl rfl) (pe_tup (pa_cons (pv 5) (pa_cons (pe_tup (pa_cons (pv 3) (pa_cons (pv 4) pa_nil))) pa_nil))))) (pss_nil)))))))) 
    (pss_one (ps_ret (pe_lst (pa_cons (pv 1) (pa_cons (pv 2) pa_nil))))))), ?_⟩
  have lx : (os.map V.int).length = os.length := List.length_map _
  have ly : (ds.map V.int).length = ds.length := List.length_map _
  walk_at "go"
  refine ⟨sx, _, rfl, .inr hsx, ?_⟩
  walk_at "go"
  refine ⟨os.length, by rw [lx]; rfl, lo, fun p1 zs H1 s1 hp1 R1 => ?_⟩
  have l1 := R1.len
  walk_at "go"
  refine ⟨p1, rfl, ⟨_, SqL.of hp1⟩, for_list (xs := zs) (fun i σ H' => ∃ v1 v2 y3 y4 y5, σ = [some (.ref s), some v1, some v2, y3, y4, y5] ∧ Same H1 H' ∧
    IsLs K H' v1 (((QM.ords os.length os.length).take i).foldl (fun b A => QM.inner true (QM.gq os ds) A (QM.ords ds.length ds.length) b) none) ∧ IsLs K H' v2 (((QM.ords os.length os.length).take i).foldl (fun b A => QM.inner false (QM.gq os ds) A (QM.ords ds.length ds.length) b) none)) ?_ ?_ ?_ ?_⟩
  · exact ⟨.non, .non, none, none, none, rfl, Same.refl H1, rfl, rfl⟩
  · rintro i σ H' _ ⟨v1, v2, y3, y4, y5, rfl, s2, _⟩
    exact SqL.of (s2 _ _ hp1)
  · rintro i z σ H2 hz ⟨v1, v2, y3, y4, y5, rfl, s2, hv1, hv2⟩
    obtain ⟨A, hA, c, rfl, hc⟩ := R1.get hz
    have oA := QM.mem_ords_iff.mp (List.mem_of_getElem? hA)
    have s12 := s1.trans s2
    have hs2 := Same.tup s12 hs
    rw [foldl_take none hA, foldl_take none hA]
    generalize ((QM.ords os.length os.length).take i).foldl (fun b A => QM.inner true (QM.gq os ds) A (QM.ords ds.length ds.length) b) none = a1 at *
    generalize ((QM.ords os.length os.length).take i).foldl (fun b A => QM.inner false (QM.gq os ds) A (QM.ords ds.length ds.length) b) none = a2 at *
    walk_at "go"
    refine ⟨sy, _, rfl, .inr (Same.tup s12 hsy), ?_⟩
    walk_at "go"
    refine ⟨ds.length, by rw [ly]; rfl, ld, fun p2 zs2 H3 s3 hp2 R2 => ?_⟩
    have l2 := R2.len
    have s13 := s12.trans s3
    have hv1 := hv1.same s3
    have hv2 := hv2.same s3
    have hc3 := Same.tup (s2.trans s3) hc
    walk_at "go"
    refine ⟨p2, rfl, ⟨_, SqL.of hp2⟩, for_list (xs := zs2) (fun j σ H' => ∃ v1 v2 y4 y5, σ = [some (.ref s), some v1, some v2, some (.ref c), y4, y5] ∧ Same H3 H' ∧
      IsLs K H' v1 (((QM.ords ds.length ds.length).take j).foldl (fun b B => QM.take1 true (QM.gq os ds A B) A B b) a1) ∧ IsLs K H' v2 (((QM.ords ds.length ds.length).take j).foldl (fun b B => QM.take1 false (QM.gq os ds A B) A B b) a2)) ?_ ?_ ?_ ?_⟩
    · exact ⟨v1, v2, _, _, rfl, Same.refl H3, hv1, hv2⟩
    · rintro j σ H' _ ⟨v1, v2, y4, y5, rfl, s4, _⟩
      exact SqL.of (s4 _ _ hp2)
    · rintro j z2 σ H4 hz2 ⟨v1, v2, y4, y5, rfl, s4, hv1, hv2⟩
      obtain ⟨B, hB, c2, rfl, hc2⟩ := R2.get hz2
      have oB := QM.mem_ords_iff.mp (List.mem_of_getElem? hB)
      rw [foldl_take a1 hB, foldl_take a2 hB]
      generalize ((QM.ords ds.length ds.length).take j).foldl (fun b B => QM.take1 true (QM.gq os ds A B) A B b) a1 = b1 at *
      generalize ((QM.ords ds.length ds.length).take j).foldl (fun b B => QM.take1 false (QM.gq os ds A B) A B b) a2 = b2 at *
      have s14 := s13.trans s4
      walk_at "go"
      refine ⟨s, c, c2, os, ds, A, B, rfl, ⟨sx, sy, Same.tup s14 hs, Same.tup s14 hsx, Same.tup s14 hsy⟩, Same.tup s4 hc3, Same.tup s4 hc2, Ev, bd, oA, oB, lo, ld, fun t W H5 s5 hW hl => ?_⟩
      walk_at "go"
      refine ⟨t, W, rfl, .inr hW, ?_⟩
      rw [hl]
      have cA := Same.tup (s4.trans s5) hc3
      have cB := Same.tup (s4.trans s5) hc2
      have s45 := s4.trans s5
      have hv1 := hv1.same s5
      have hv2 := hv2.same s5
      generalize QM.gq os ds A B = N at *
      clear hl hW
      have mk : ∀ (HH : Hp) (t5 t6 : Addr), HH t5 = none → SqT K HH c (intsV A) → SqT K HH c2 (intsV B) → upd HH t5 (.tup [V.ref c, V.ref c2]) t6 = none → IsL K (upd (upd HH t5 (.tup [V.ref c, V.ref c2])) t6 (.tup [V.int N, V.ref t5])) (.ref t6) N A B := fun HH t5 t6 n5 ca cb n6 =>
        ⟨t6, t5, c, c2, rfl, sqt_new, Same.tup (same_new n6) sqt_new, Same.tup (same_new n6) (Same.tup (same_new n5) ca), Same.tup (same_new n6) (Same.tup (same_new n5) cb)⟩
      walk_at "go"
      rcases b1 with _ | ⟨y1, C1, D1⟩
      obtain rfl : v1 = .non := hv1
      rw [take1_none]
      refine ⟨rfl, _, rfl, r_iteD (fun _ => ?_) (fun h => absurd rfl h)⟩
      walk_at "go"
      intro t5 n5
      walk_at "go"
      intro t6 n6
      walk_at "go"
      have sF := (same_new (o := .tup [V.ref c, V.ref c2]) n5).trans (same_new (o := .tup [V.int N, V.ref t5]) n6)
      have F1 : IsLs K _ (.ref t6) (some (N, A, B)) := mk H5 t5 t6 n5 cA cB n6
      generalize upd (upd H5 t5 (.tup [V.ref c, V.ref c2])) t6 (.tup [V.int N, V.ref t5]) = HF at *
      generalize V.ref t6 = w1 at *
      rotate_left
      rw [take1_some]
      obtain ⟨tq, tq2, ta, tb, rfl, hq1, hq2, hq3, hq4⟩ := id (show IsL K H5 v1 y1 C1 D1 from hv1)
      refine ⟨rfl, _, rfl, r_iteD (fun h => nomatch h) (fun _ => ?_)⟩
      walk_at "go"
      refine r_iteD (fun h => ?_) (fun h => ?_)
      rw [if_pos (show QM.better true N y1 = true from decide_eq_true h)]
      walk_at "go"
      intro t5 n5
      walk_at "go"
      intro t6 n6
      walk_at "go"
      have sF := (same_new (o := .tup [V.ref c, V.ref c2]) n5).trans (same_new (o := .tup [V.int N, V.ref t5]) n6)
      have F1 : IsLs K _ (.ref t6) (some (N, A, B)) := mk H5 t5 t6 n5 cA cB n6
      generalize upd (upd H5 t5 (.tup [V.ref c, V.ref c2])) t6 (.tup [V.int N, V.ref t5]) = HF at *
      generalize V.ref t6 = w1 at *
      rotate_left
      rw [if_neg (show ¬ QM.better true N y1 = true from fun z => h (of_decide_eq_true z))]
      walk_at "go"
      have sF := Same.refl H5
      have F1 : IsLs K H5 (.ref tq) (some (y1, C1, D1)) := hv1
      obtain ⟨HF, rfl⟩ : ∃ HF, HF = H5 := ⟨_, rfl⟩
      clear hq1 hv1 h
      generalize V.ref tq = w1 at *
      all_goals
        have hv2 := hv2.same sF
        have cA := Same.tup sF cA
        have cB := Same.tup sF cB
        have s46 := s45.trans sF
        rcases b2 with _ | ⟨y2, C2, D2⟩
        · obtain rfl : v2 = .non := hv2
          refine ⟨rfl, _, rfl, r_iteD (fun _ => ?_) (fun h => absurd rfl h)⟩
          walk_at "go"
          intro t7 n7
          walk_at "go"
          intro t8 n8
          walk_at "go"
          have sG := (same_new (o := .tup [V.ref c, V.ref c2]) n7).trans (same_new (o := .tup [V.int N, V.ref t7]) n8)
          exact ⟨w1, .ref t8, _, _, rfl, s46.trans sG, F1.same sG, mk HF t7 t8 n7 cA cB n8⟩
        · obtain ⟨uq, uq2, ua, ub, rfl, hu1, hu2, hu3, hu4⟩ := id (show IsL K HF v2 y2 C2 D2 from hv2)
          rw [show QM.take1 false N A B (some (y2, C2, D2)) = if QM.better false N y2 = true then some (N, A, B) else some (y2, C2, D2) from rfl]
          refine ⟨rfl, _, rfl, r_iteD (fun h => nomatch h) (fun _ => ?_)⟩
          walk_at "go"
          refine r_iteD (fun h => ?_) (fun h => ?_)
          · rw [if_pos (show QM.better false N y2 = true from decide_eq_true h)]
            walk_at "go"
            intro t7 n7
            walk_at "go"
            intro t8 n8
            walk_at "go"
            have sG := (same_new (o := .tup [V.ref c, V.ref c2]) n7).trans (same_new (o := .tup [V.int N, V.ref t7]) n8)
            exact ⟨w1, .ref t8, _, _, rfl, s46.trans sG, F1.same sG, mk HF t7 t8 n7 cA cB n8⟩
          · rw [if_neg (show ¬ QM.better false N y2 = true from fun z => h (of_decide_eq_true z))]
            walk_at "go"
            exact ⟨w1, .ref uq, _, _, rfl, s46, F1, hv2⟩
    · rintro σ H4 ⟨v1, v2, y4, y5, rfl, s4, hv1, hv2⟩
      rw [l2, List.take_length] at hv1 hv2
      exact ⟨v1, v2, _, _, _, rfl, (s2.trans s3).trans s4, hv1, hv2⟩
  · rintro σ H2 ⟨v1, v2, y3, y4, y5, rfl, s2, hv1, hv2⟩
    rw [l1, List.take_length] at hv1 hv2
    obtain ⟨A, B, h1, _⟩ := QM.least_is Ev
    obtain ⟨y, C, D, h2, _⟩ := QM.most_le Ev
    have e1 : IsLs K H2 v1 (QM.search true (QM.gq os ds) (QM.ords os.length os.length) (QM.ords ds.length ds.length)) := hv1
    have e2 : IsLs K H2 v2 (QM.search false (QM.gq os ds) (QM.ords os.length os.length) (QM.ords ds.length ds.length)) := hv2
    rw [h1] at e1
    rw [h2] at e2
    walk_at "go"
    intro p np
    have s3 := same_new (o := .lst [v1, v2]) np
    exact qq p v1 v2 _ A B y C D _ (s1.trans (s2.trans s3)) upd_same (IsL.same s3 e1) (IsL.same s3 e2) h1 h2
end QH

/-! QL9: the law's greater crowds -/
namespace QH
open PySem PySem.Spec L2 QF
variable {P : Program} {w : World} {K : PySem.W.Frag} {mg : Str → Option Value} {base : Heap} {CE CS : Addr}
theorem srch_ord {os ds : List Int} (Ev : QM.Even os ds) {few : Bool} {x : Int} {A B : List Nat} (h : QM.search few (QM.gq os ds) (QM.ords os.length os.length) (QM.ords ds.length ds.length) = some (x, A, B)) : QM.Ord os.length A ∧ QM.Ord ds.length B ∧ QM.gq os ds A B = x := by
  cases few with
  | true =>
    obtain ⟨A', B', e, oA, oB, g⟩ := QM.least_is Ev
    rw [e] at h
    cases h
    exact ⟨oA, oB, g⟩
  | false =>
    obtain ⟨y, A', B', e, oA, oB, g, _⟩ := QM.most_le Ev
    rw [e] at h
    cases h
    exact ⟨oA, oB, g⟩
theorem IsB.isL {K : PySem.W.Frag} {H : Hp} {v : V} {x : Int} {A B : List Nat} (h : IsB H v x A B) : IsL K H v x A B := by
  obtain ⟨t, t2, a, b, e, h1, h2, h3, h4⟩ := h
  exact ⟨t, t2, a, b, e, .inl (.inl h1), .inl (.inl h2), .inl (.inl h3), .inl (.inl h4)⟩
theorem eqn_ints {K : PySem.W.Frag} {H : Hp} {a b : Addr} {A : List Nat} (l : A.length ≤ 1000) (ha : SqT K H a (intsV A)) (hb : SqT K H b (intsV A)) : EqN K H 2 (.ref a) (.ref b) := by
  refine .inr ⟨a, b, _, _, rfl, rfl, ha, hb, rfl, by rw [intsV_len]; exact l, fun i u v hu hv => ?_⟩
  rw [hu] at hv
  cases hv
  unfold intsV at hu
  rw [List.getElem?_map] at hu
  cases e : A[i]? with
  | none => rw [e] at hu; cases hu
  | some z => rw [e] at hu; cases hu; exact .inl ⟨_, rfl, rfl⟩
theorem eqn_best {K : PySem.W.Frag} {H : Hp} {v u : V} {x : Int} {A B : List Nat} (la : A.length ≤ 1000) (lb : B.length ≤ 1000) (h : IsL K H v x A B) (h' : IsL K H u x A B) : EqN K H 4 v u := by
  obtain ⟨t, t2, a, b, rfl, h1, h2, h3, h4⟩ := h
  obtain ⟨s, s2, c, d, rfl, g1, g2, g3, g4⟩ := h'
  refine .inr ⟨t, s, _, _, rfl, rfl, h1, g1, rfl, (show 2 ≤ 1000 by decide), fun i u v hu hv => ?_⟩
  match i, hu, hv with
  | 0, hu, hv => cases hu; cases hv; exact .inl ⟨_, rfl, rfl⟩
  | 1, hu, hv =>
    cases hu; cases hv
    refine .inr ⟨t2, s2, _, _, rfl, rfl, h2, g2, rfl, (show 2 ≤ 1000 by decide), fun i u v hu hv => ?_⟩
    match i, hu, hv with
    | 0, hu, hv => cases hu; cases hv; exact eqn_ints la h3 g3
    | 1, hu, hv => cases hu; cases hv; exact eqn_ints lb h4 g4
    | n + 2, hu, hv => simp at hu
  | n + 2, hu, hv => simp at hu
theorem r_glst {K : PySem.W.Frag} {a : Addr} {xs : List V} {n : Nat} {gs : TGs} {σ : L2.St} {H : Hp} {Q : L2.St → Hp → Prop} (hs : H a = some (.lst xs)) (hl : xs.length = n) (h : gs xs σ H Q) : gLst K n gs (.ref a) σ H Q := ⟨a, xs, rfl, SqL.of hs, hl, h⟩
def sp_law_greater_hold : Sp := fun vs H Q _ => ∃ a, vs = [.ref a] ∧ SrcAt H a ∧ ∀ H', Of a H H' → Q (.bl true) H'
theorem sc_law_greater_hold : FnScope ["_law_source_here", "_law_shape", "_law_sums_here", "_law_evening_here", "_law_least", "_law_most"] ["_law_source_here"] (defScope s_law_greater_hold) := ⟨rfl, rfl, rfl, by decide +kernel, rfl, by decide +kernel, by decide +kernel⟩
theorem ok_law_greater_hold (T : Tx K mg CE CS) (C_law_draw : OkF P w K mg base "_law_draw" ["_law_source_here", "_law_many"] 1 sp_law_draw) (C_law_sums : OkF P w K mg base "_law_sums" ["_law_source_here", "_law_owers", "_law_takers"] 4 (sp_law_sums K)) (C_law_unit : OkF P w K mg base "_law_unit" ["_law_source_here"] 2 (sp_law_unit K))
    (C_law_evening : OkF P w K mg base "_law_evening" ["_law_sums_here", "_law_unit_here"] 7 (sp_law_evening K CE)) (C_law_best : OkF P w K mg base "_law_best" ["_law_sums_here"] 3 (sp_law_best K)) (C_law_same : OkF P w K mg base "_law_same" ["_law_told", "_law_due"] 5 (sp_same K 4))
    (C_queue_least : OkF P w K mg base "queue_least" ["evening"] 7 (sp_queue K CE true)) (C_queue_most : OkF P w K mg base "queue_most" ["evening"] 7 (sp_queue K CE false)) : OkF P w K mg base "_law_greater_hold" ["_law_source_here"] 8 sp_law_greater_hold := by
  refine okF T.law_greater_hold sc_law_greater_hold (fun _ _ _ _ _ _ us hl => match us, hl with | [_], _ => rfl) (fun vs H Q E h => ?_) (fun f cd A outer s H vs Q E hr h => ?_)
  · obtain ⟨a, rfl, _⟩ := h; rfl
  obtain ⟨a, rfl, S, qq⟩ := h
  refine ⟨_, pss_cons (ps_set (i := 1) sc_law_greater_hold.nd rfl (Or.inl rfl) (pe_ix ix_tup (pe_tup (pa_cons (pe_tup (pa_cons pe_int (pa_cons pe_int pa_nil))) (pa_cons (pe_tup (pa_cons pe_int (pa_cons pe_int pa_nil))) (pa_cons (pe_tup (pa_cons pe_int (pa_cons pe_int pa_nil))) (pa_cons (pe_tup (pa_cons pe_int (pa_cons pe_int pa_nil))) (pa_cons (pe_tup (pa_cons pe_int (pa_cons pe_int pa_nil))) pa_nil)))))) (C_law_draw.call hr (pa_cons (pv 0) (pa_cons pe_int pa_nil))) (fun _ _ => rfl))) 
    (pss_cons (ps_set (i := 2) sc_law_greater_hold.nd rfl (Or.inl rfl) (C_law_sums.call hr (pa_cons (pv 0) (pa_cons (pe_ix ix_tup (pv 1) pe_int (fun _ _ => rfl)) (pa_cons (pe_ix ix_tup (pv 1) pe_int (fun _ _ => rfl)) pa_nil))))) 
    (pss_cons (ps_set (i := 3) sc_law_greater_hold.nd rfl (Or.inl rfl) (C_law_evening.call hr (pa_cons (pv 2) (pa_cons (C_law_unit.call hr (pa_cons (pv 0) pa_nil)) pa_nil)))) 
    (pss_cons (ps_asg (C_law_best.call hr (pa_cons (pv 2) pa_nil)) (pg_lst rfl (pgs_cons (pg_name (i := 4) sc_law_greater_hold.nd rfl (Or.inl rfl)) (pgs_cons (pg_name (i := 5) sc_law_greater_hold.nd rfl (Or.inl rfl)) pgs_nil)))) 
    (pss_one (ps_ret (pe_and (C_law_same.call hr (pa_cons (C_queue_least.call hr (pa_cons (pv 3) pa_nil)) (pa_cons (pv 4) pa_nil))) (pe_one (C_law_same.call hr (pa_cons (C_queue_most.call hr (pa_cons (pv 3) pa_nil)) (pa_cons (pv 5) pa_nil)))))))))), ?_⟩
  walk_at "go"
  intro p0 n0
  have s0 := same_new (o := .tup [V.int 2, V.int 6]) n0
  have e0 : upd H p0 (.tup [V.int 2, V.int 6]) p0 = some (.tup [V.int 2, V.int 6]) := upd_same
  have m0 : p0 ≠ a := (S).ne n0
  have t0 := s0
  generalize upd H p0 (.tup [V.int 2, V.int 6]) = H0 at *
  walk_at "go"
  intro p1 n1
  have s1 := same_new (o := .tup [V.int 3, V.int 5]) n1
  have e1 : upd H0 p1 (.tup [V.int 3, V.int 5]) p1 = some (.tup [V.int 3, V.int 5]) := upd_same
  have m1 : p1 ≠ a := (S.same t0).ne n1
  have t1 := t0.trans s1
  have e0 := s1 _ _ e0
  generalize upd H0 p1 (.tup [V.int 3, V.int 5]) = H1 at *
  walk_at "go"
  intro p2 n2
  have s2 := same_new (o := .tup [V.int 4, V.int 4]) n2
  have e2 : upd H1 p2 (.tup [V.int 4, V.int 4]) p2 = some (.tup [V.int 4, V.int 4]) := upd_same
  have m2 : p2 ≠ a := (S.same t1).ne n2
  have t2 := t1.trans s2
  have e0 := s2 _ _ e0
  have e1 := s2 _ _ e1
  generalize upd H1 p2 (.tup [V.int 4, V.int 4]) = H2 at *
  walk_at "go"
  intro p3 n3
  have s3 := same_new (o := .tup [V.int 6, V.int 2]) n3
  have e3 : upd H2 p3 (.tup [V.int 6, V.int 2]) p3 = some (.tup [V.int 6, V.int 2]) := upd_same
  have m3 : p3 ≠ a := (S.same t2).ne n3
  have t3 := t2.trans s3
  have e0 := s3 _ _ e0
  have e1 := s3 _ _ e1
  have e2 := s3 _ _ e2
  generalize upd H2 p3 (.tup [V.int 6, V.int 2]) = H3 at *
  walk_at "go"
  intro p4 n4
  have s4 := same_new (o := .tup [V.int 5, V.int 3]) n4
  have e4 : upd H3 p4 (.tup [V.int 5, V.int 3]) p4 = some (.tup [V.int 5, V.int 3]) := upd_same
  have m4 : p4 ≠ a := (S.same t3).ne n4
  have t4 := t3.trans s4
  have e0 := s4 _ _ e0
  have e1 := s4 _ _ e1
  have e2 := s4 _ _ e2
  have e3 := s4 _ _ e3
  generalize upd H3 p4 (.tup [V.int 5, V.int 3]) = H4 at *
  walk_at "go"
  intro pt nt
  have s5 := same_new (o := .tup [V.ref p0, V.ref p1, V.ref p2, V.ref p3, V.ref p4]) nt
  have e5 : upd H4 pt (.tup [V.ref p0, V.ref p1, V.ref p2, V.ref p3, V.ref p4]) pt = some (.tup [V.ref p0, V.ref p1, V.ref p2, V.ref p3, V.ref p4]) := upd_same
  have m5 : pt ≠ a := (S.same t4).ne nt
  have t5 := t4.trans s5
  have e0 := s5 _ _ e0
  have e1 := s5 _ _ e1
  have e2 := s5 _ _ e2
  have e3 := s5 _ _ e3
  have e4 := s5 _ _ e4
  generalize upd H4 pt (.tup [V.ref p0, V.ref p1, V.ref p2, V.ref p3, V.ref p4]) = H5 at *
  walk_at "go"
  refine ⟨a, 5, rfl, S.same t5, by decide, by decide, fun r H6 r0 r1 k S6 => ?_⟩
  have k6 := (Of.same (a := a) t5).trans k
  obtain ⟨j, pp, o, t, hj, hat, hpp, o1, o6, q1, q6, oq⟩ : ∃ (j : Nat) (pp : Addr) (o t : Nat), r = (j : Int) ∧ [V.ref p0, V.ref p1, V.ref p2, V.ref p3, V.ref p4][j]? = some (V.ref pp) ∧ SqT K H6 pp [.int o, .int t] ∧ 1 ≤ o ∧ o ≤ 6 ∧ 1 ≤ t ∧ t ≤ 6 ∧ o + t = 8 := by
    have : r = 0 ∨ r = 1 ∨ r = 2 ∨ r = 3 ∨ r = 4 := by omega
    rcases this with rfl | rfl | rfl | rfl | rfl
    · exact ⟨0, p0, 2, 6, rfl, rfl, .inl (.inl (k _ _ m0 e0)), by decide, by decide, by decide, by decide, rfl⟩
    · exact ⟨1, p1, 3, 5, rfl, rfl, .inl (.inl (k _ _ m1 e1)), by decide, by decide, by decide, by decide, rfl⟩
    · exact ⟨2, p2, 4, 4, rfl, rfl, .inl (.inl (k _ _ m2 e2)), by decide, by decide, by decide, by decide, rfl⟩
    · exact ⟨3, p3, 6, 2, rfl, rfl, .inl (.inl (k _ _ m3 e3)), by decide, by decide, by decide, by decide, rfl⟩
    · exact ⟨4, p4, 5, 3, rfl, rfl, .inl (.inl (k _ _ m4 e4)), by decide, by decide, by decide, by decide, rfl⟩
  refine ⟨pt, _, _, _, rfl, rfl, .inl (.inl (k _ _ m5 e5)), by rw [hj]; exact atI_nat hat, ?_⟩
  walk_at "go"
  refine ⟨a, o, t, rfl, S6, o1, o6, q1, q6, fun s os ds H7 k7 S7 hs E hb hl => ?_⟩
  have kk7 := k6.trans k7
  walk_at "go"
  refine ⟨a, rfl, S7, fun v p q H8 k8 S8 fv U => ?_⟩
  have kk8 := kk7.trans k8
  have hs8 := hs.kp (Of.kp S7 k8)
  have G : Gd p q os ds := ⟨U, E, hb, by omega, by omega, by omega⟩
  walk_at "go"
  refine ⟨s, v, p, q, os, ds, rfl, hs8, fv, G, fun e H9 s9 he => ?_⟩
  walk_at "go"
  refine ⟨s, os, ds, rfl, hs8.same s9, E, hb, G.lo, G.ld, fun pl l m x A B y C D H10 s10 hp hL hM f1 f2 => ?_⟩
  obtain ⟨oA, oB, _⟩ := srch_ord E f1
  obtain ⟨oC, oD, _⟩ := srch_ord E f2
  have lo := G.lo
  have ld := G.ld
  have bA : A.length ≤ 1000 := by rw [oA.len]; omega
  have bB : B.length ≤ 1000 := by rw [oB.len]; omega
  have bC : C.length ≤ 1000 := by rw [oC.len]; omega
  have bD : D.length ≤ 1000 := by rw [oD.len]; omega
  walk_at "go"
  refine r_glst hp rfl ?_
  walk_at "go"
  refine ⟨e, rfl, p, q, os, ds, he.same s10, G, fun v1 H11 x' A' B' s11 hsr hB => ?_⟩
  rw [f1] at hsr
  cases hsr
  walk_at "go"
  refine ⟨v1, l, rfl, eqn_best bA bB hB.isL (hL.same s11), fun H12 s12 => ?_⟩
  walk_at "go"
  refine ⟨e, rfl, p, q, os, ds, he.same (s10.trans (s11.trans s12)), G, fun v2 H13 x' A' B' s13 hsr hB2 => ?_⟩
  rw [f2] at hsr
  cases hsr
  walk_at "go"
  refine ⟨v2, m, rfl, eqn_best bC bD hB2.isL (hM.same (s11.trans (s12.trans s13))), fun H14 s14 => ?_⟩
  exact qq H14 (kk8.trans (Of.same (s9.trans (s10.trans (s11.trans (s12.trans (s13.trans s14)))))))
end QH

/-! QL10: the law -/
namespace QH
open PySem PySem.Spec L2 QF
variable {P : Program} {w : World} {K : PySem.W.Frag} {mg : Str → Option Value} {base : Heap} {CE CS : Addr}
theorem Of.fresh {p : Addr} {H H1 H2 : Hp} (s : Same H H1) (n : H p = Option.none) (k : Of p H1 H2) : Same H H2 := fun b o h => k b o (fun z => by rw [z, n] at h; cases h) (s b o h)
theorem none_back {H H1 : Hp} {c : Addr} (k : Same H H1) (hc : H1 c = none) : H c = none := by
  cases h : H c with
  | none => rfl
  | some o => rw [k c o h] at hc; cases hc
def sp_law (K : PySem.W.Frag) : Sp := fun vs H Q _ => ∃ (a : Addr) (ns : List Int), vs = [.ref a] ∧ SqL K H a (ns.map V.int) ∧ ∀ H', Q (.bl true) H'
theorem sc_law : FnScope ["_law_script", "_law_k", "_law_source_here", "_law_sums_here", "_law_evening_here", "_law_least", "_law_most", "_law_number", "_law_orders_here"] ["_law_script"] (defScope s_law) := ⟨rfl, rfl, rfl, by decide +kernel, rfl, by decide +kernel, by decide +kernel⟩
theorem ok_law (T : Tx K mg CE CS) {f0 : Addr} {fd0 : FuncData} (F0 : FunD K "law" "law" (defArgs s_law) (defBody s_law) (defScope s_law) [] [] f0 fd0) (C_law_draw : OkF P w K mg base "_law_draw" ["_law_source_here", "_law_many"] 1 sp_law_draw) (C_law_source : OkF P w K mg base "_law_source" ["_law_script", "_law_k"] 1 (sp_law_source K)) (C_law_greater_hold : OkF P w K mg base "_law_greater_hold" ["_law_source_here"] 8 sp_law_greater_hold)
    (C_law_crowd : OkF P w K mg base "_law_crowd" ["_law_source_here", "_law_most"] 5 (sp_law_crowd K)) (C_law_sums : OkF P w K mg base "_law_sums" ["_law_source_here", "_law_owers", "_law_takers"] 4 (sp_law_sums K)) (C_law_unit : OkF P w K mg base "_law_unit" ["_law_source_here"] 2 (sp_law_unit K))
    (C_law_evening : OkF P w K mg base "_law_evening" ["_law_sums_here", "_law_unit_here"] 7 (sp_law_evening K CE)) (C_law_best : OkF P w K mg base "_law_best" ["_law_sums_here"] 3 (sp_law_best K)) (C_law_same : OkF P w K mg base "_law_same" ["_law_told", "_law_due"] 5 (sp_same K 4))
    (C_queue_least : OkF P w K mg base "queue_least" ["evening"] 7 (sp_queue K CE true)) (C_queue_most : OkF P w K mg base "queue_most" ["evening"] 7 (sp_queue K CE false)) (C_queue_number : OkF P w K mg base "queue_number" ["evening", "owers", "takers"] 7 (sp_queue_number K CE))
    (C_fewest : OkF P w K mg base "fewest" ["evening"] 8 (sp_fewest K CE)) (C_greatest : OkF P w K mg base "greatest" ["evening"] 6 (sp_greatest K CE)) : FnOk P w K mg base CX0 9 f0 fd0 ["_law_script"] (sp_law K) := by
  refine Body.fn F0 sc_law (fun vs H Q E h => ?_) (fun f cd A outer s H vs Q E hr h => ?_)
  · obtain ⟨a, ns, rfl, _⟩ := h; rfl
  obtain ⟨a, ns, rfl, ha, qq⟩ := h
  refine ⟨_, pss_cons (ps_if (PW.pt (pw_and (pt_cmpR op_eq (C_law_draw.call hr (pa_cons (C_law_source.call hr (pa_cons (pv 0) (pa_cons pe_int pa_nil))) (pa_cons pe_int pa_nil))) pe_int (nomark _)) (pw_and1 (pt_not (pt_val (C_law_greater_hold.call hr (pa_cons (C_law_source.call hr (pa_cons (pv 0) (pa_cons pe_int pa_nil))) pa_nil))))))) (pss_one (ps_ret pe_bl)) (pss_nil)) 
    (pss_cons (ps_for PassesOwn.never rfl (pi_range1 (by rfl) T.b_range (pa_cons pe_int pa_nil)) (pg_name (i := 1) sc_law.nd rfl (Or.inl rfl)) (pss_cons (ps_set (i := 2) sc_law.nd rfl (Or.inl rfl) (C_law_source.call hr (pa_cons (pv 0) (pa_cons (pv 1) pa_nil)))) 
        (pss_cons (ps_set (i := 3) sc_law.nd rfl (Or.inl rfl) (C_law_crowd.call hr (pa_cons (pv 2) (pa_cons (pe_op op_add (pe_op op_add pe_int (pe_callTy call_int1 (by rfl) T.b_int (by decide +kernel) (pa_cons (pe_cmpR op_eq (C_law_draw.call hr (pa_cons (pv 2) (pa_cons pe_int pa_nil))) pe_int (nomark _)) pa_nil))) (pe_callTy call_int1 (by rfl) T.b_int (by decide +kernel) (pa_cons (pe_cmpR op_eq (C_law_draw.call hr (pa_cons (pv 2) (pa_cons pe_int pa_nil))) pe_int (nomark _)) pa_nil))) pa_nil)))) 
        (pss_cons (ps_if (pt_cmpR op_eq (pe_callB (call_min2 rfl) (by rfl) T.b_min (by decide +kernel) (pa_cons (pe_callB call_len_seq (by rfl) T.b_len PySem.boot_len (pa_cons (pe_ix ix_tup (pv 3) pe_int (fun _ _ => rfl)) pa_nil)) (pa_cons (pe_callB call_len_seq (by rfl) T.b_len PySem.boot_len (pa_cons (pe_ix ix_tup (pv 3) pe_int (fun _ _ => rfl)) pa_nil)) pa_nil))) pe_int (nomark _)) (pss_one (ps_set (i := 3) sc_law.nd rfl (Or.inl rfl) (C_law_sums.call hr (pa_cons (pv 2) (pa_cons pe_int (pa_cons pe_int pa_nil)))))) (pss_nil)) 
        (pss_cons (ps_set (i := 4) sc_law.nd rfl (Or.inl rfl) (C_law_evening.call hr (pa_cons (pv 3) (pa_cons (C_law_unit.call hr (pa_cons (pv 2) pa_nil)) pa_nil)))) 
        (pss_cons (ps_asg (C_law_best.call hr (pa_cons (pv 3) pa_nil)) (pg_lst rfl (pgs_cons (pg_name (i := 5) sc_law.nd rfl (Or.inl rfl)) (pgs_cons (pg_name (i := 6) sc_law.nd rfl (Or.inl rfl)) pgs_nil)))) 
        (pss_cons (ps_if (PW.pt (pw_or (pt_not (pt_val (C_law_same.call hr (pa_cons (C_queue_least.call hr (pa_cons (pv 4) pa_nil)) (pa_cons (pv 5) pa_nil))))) (pw_or1 (pt_not (pt_val (C_law_same.call hr (pa_cons (C_queue_most.call hr (pa_cons (pv 4) pa_nil)) (pa_cons (pv 6) pa_nil)))))))) (pss_one (ps_ret pe_bl)) (pss_nil)) 
        (pss_cons (ps_for PassesOwn.never rfl (pi_tup (pe_tup (pa_cons (pv 5) (pa_cons (pv 6) pa_nil)))) (pg_tup rfl (pgs_cons (pg_name (i := 7) sc_law.nd rfl (Or.inl rfl)) (pgs_cons (pg_name (i := 8) sc_law.nd rfl (Or.inl rfl)) pgs_nil))) (pss_one (ps_if (pt_cmpR op_ne (C_queue_number.call hr (pa_cons (pv 4) (pa_cons (pe_ix ix_tup (pv 8) pe_int (fun _ _ => rfl)) (pa_cons (pe_ix ix_tup (pv 8) pe_int (fun _ _ => rfl)) pa_nil)))) (pv 7) (nomark _)) (pss_one (ps_ret pe_bl)) (pss_nil)))) 
        (pss_one (ps_if (PW.pt (pw_or (pt_cmpR op_ne (pe_ix ix_tup (pv 5) pe_int (fun _ _ => rfl)) (C_fewest.call hr (pa_cons (pv 4) pa_nil)) (nomark _)) (pw_or1 (pt_cmpR op_gt (pe_ix ix_tup (pv 6) pe_int (fun _ _ => rfl)) (C_greatest.call hr (pa_cons (pv 4) pa_nil)) (nomark _))))) (pss_one (ps_ret pe_bl)) (pss_nil))))))))))) 
    (pss_one (ps_ret pe_bl))), ?_⟩
  walk_at "go"
  refine ⟨a, 9, ns, rfl, ha, fun p1 H1 s1 n1 S1 => ?_⟩
  walk_at "go"
  refine ⟨p1, 40, rfl, S1, by decide, by decide, fun r H2 r0 r1 k2 S2 => ?_⟩
  have s2 := Of.fresh s1 n1 k2
  walk_at "go"
  refine ⟨rfl, ?_⟩
  walk_at "go"
  refine r_iteD (fun _ => ?_) (fun _ => ?_)
  walk_at "go"
  refine ⟨a, 10, ns, rfl, s2.seq ha, fun p3 H3 s3 n3 S3 => ?_⟩
  walk_at "go"
  refine ⟨p3, rfl, S3, fun H4 k4 => ?_⟩
  have sA := s2.trans (Of.fresh s3 n3 k4)
  walk_at "go"
  generalize H4 = HA at *
  rotate_left
  walk_at "go"
  have sA := s2
  generalize H2 = HA at *
  all_goals
    refine ⟨_, rfl, by decide, by decide, ?_⟩
    refine for_range (fun i σ H' => ∃ y1 y2 y3 y4 y5 y6 y7 y8, σ = [some (.ref a), y1, y2, y3, y4, y5, y6, y7, y8] ∧ Same H H') ?_ ?_ ?_
    · exact ⟨_, _, _, _, _, _, _, _, rfl, sA⟩
    · rintro i σ H0 hi ⟨y1, y2, y3, y4, y5, y6, y7, y8, rfl, s0⟩
      rw [Int.zero_add]
      walk_at "go"
      refine ⟨a, i, ns, rfl, s0.seq ha, fun src H5 s5 n5 S5 => ?_⟩
      walk_at "go"
      refine ⟨src, 3, rfl, S5, by decide, by decide, fun q1 H6 _ _ k6 S6 => ?_⟩
      walk_at "go"
      refine ⟨rfl, ?_⟩
      walk_at "go"
      refine .inr ⟨_, rfl, ?_⟩
      walk_at "go"
      refine ⟨src, 24, rfl, S6, by decide, by decide, fun q2 H7 _ _ k7 S7 => ?_⟩
      walk_at "go"
      refine ⟨rfl, ?_⟩
      walk_at "go"
      refine .inr ⟨_, rfl, ?_⟩
      walk_at "go"
      refine ⟨src, _, rfl, S7, by split <;> split <;> omega, by split <;> split <;> omega, fun sv os ds H8 k8 S8 hs E1 hb l1 l2 l3 => ?_⟩
      have kk8 := k6.trans (k7.trans k8)
      walk_at "go"
      obtain ⟨x, y, hs0, hx, hy⟩ := id hs
      walk_at "go"
      refine ⟨x, _, rfl, .inr hx, ?_⟩
      walk_at "go"
      refine ⟨y, _, rfl, .inr hy, ?_⟩
      walk_at "go"
      refine ⟨_, _, rfl, ?_⟩
      walk_at "go"
      refine ⟨rfl, ?_⟩
      walk_at "go"
      clear hx hy hs0
      refine r_iteD (fun _ => ?_) (fun _ => ?_)
      walk_at "go"
      refine ⟨src, 2, 3, rfl, S8, by decide, by decide, by decide, by decide, fun sw os' ds' H9 k9 S9 hs' E1' hb' hl' => ?_⟩
      have FB : Of src H5 H9 ∧ SrcAt H9 src ∧ TwoAt K H9 sw os' ds' ∧ QM.Even os' ds' ∧ os'.sum ≤ 1000 ∧ os'.length ≤ 6 ∧ ds'.length ≤ 6 ∧ os'.length + ds'.length ≤ 8 := ⟨kk8.trans k9, S9, hs', E1', hb', by omega, by omega, by omega⟩
      walk_at "go"
      generalize H9 = HB at FB ⊢
      generalize sw = sz at FB ⊢
      generalize os' = oz at FB
      generalize ds' = dz at FB
      rotate_left
      have FB : Of src H5 H8 ∧ SrcAt H8 src ∧ TwoAt K H8 sv os ds ∧ QM.Even os ds ∧ os.sum ≤ 1000 ∧ os.length ≤ 6 ∧ ds.length ≤ 6 ∧ os.length + ds.length ≤ 8 := ⟨kk8, S8, hs, E1, hb, l1, l2, by omega⟩
      walk_at "go"
      generalize H8 = HB at FB ⊢
      generalize sv = sz at FB ⊢
      generalize os = oz at FB
      generalize ds = dz at FB
      all_goals
        obtain ⟨kB, SB, hsB, EB, bB, m1, m2, m3⟩ := FB
        refine ⟨src, rfl, SB, fun v p q HC kC SC fv U => ?_⟩
        have sC := Of.fresh s5 n5 (kB.trans kC)
        have hsC := hsB.kp (Of.kp SB kC)
        have G : Gd p q oz dz := ⟨U, EB, bB, m1, m2, m3⟩
        walk_at "go"
        refine ⟨sz, v, p, q, oz, dz, rfl, hsC, fv, G, fun e HD sD he => ?_⟩
        walk_at "go"
        refine ⟨sz, oz, dz, rfl, hsC.same sD, EB, bB, m1, m2, fun pl l m x A B y C D HE sE hp hL hM f1 f2 => ?_⟩
        obtain ⟨oA, oB, gA⟩ := srch_ord EB f1
        obtain ⟨oC, oD, gC⟩ := srch_ord EB f2
        have bA : A.length ≤ 1000 := by rw [oA.len]; omega
        have bB2 : B.length ≤ 1000 := by rw [oB.len]; omega
        have bC : C.length ≤ 1000 := by rw [oC.len]; omega
        have bD : D.length ≤ 1000 := by rw [oD.len]; omega
        walk_at "go"
        refine r_glst hp rfl ?_
        walk_at "go"
        refine ⟨e, rfl, p, q, oz, dz, he.same sE, G, fun v1 HF x' A' B' sF hsr hB => ?_⟩
        rw [f1] at hsr
        cases hsr
        walk_at "go"
        refine ⟨v1, l, rfl, eqn_best bA bB2 hB.isL (hL.same sF), fun HG sG => ?_⟩
        walk_at "go"
        refine ⟨e, rfl, p, q, oz, dz, he.same (sE.trans (sF.trans sG)), G, fun v2 HI x' A' B' sI hsr hB2 => ?_⟩
        rw [f2] at hsr
        cases hsr
        walk_at "go"
        refine ⟨v2, m, rfl, eqn_best bC bD hB2.isL (hM.same (sF.trans (sG.trans sI))), fun HJ sJ => ?_⟩
        have sEJ := sF.trans (sG.trans (sI.trans sJ))
        have heJ := he.same (sE.trans sEJ)
        have hLJ := hL.same sEJ
        have hMJ := hM.same sEJ
        have sHJ := s0.trans (sC.trans (sD.trans (sE.trans sEJ)))
        walk_at "go"
        intro tp ntp
        have sK := same_new (o := .tup [l, m]) ntp
        have htp : SqT K (upd HJ tp (.tup [l, m])) tp [l, m] := sqt_new
        have heK := heJ.same sK
        have hLK := hLJ.same sK
        have hMK := hMJ.same sK
        have sHK := sHJ.trans sK
        generalize upd HJ tp (.tup [l, m]) = HK at *
        walk_at "go"
        refine ⟨tp, rfl, ⟨_, htp⟩, for_tup (xs := [l, m]) (fun j σ H' => ∃ z7 z8, σ = [some (.ref a), some (.int (i : Nat)), some (.ref src), some (.ref sz), some (.ref e), some l, some m, z7, z8] ∧ Same HK H') ?_ ?_ ?_ ?_⟩
        · exact ⟨_, _, rfl, Same.refl HK⟩
        · rintro j σ H' _ ⟨z7, z8, rfl, sL⟩
          exact Same.tup sL htp
        · rintro j z σ HL hz ⟨z7, z8, rfl, sL⟩
          obtain ⟨n, AA, BB, hz1, hz2, hz3, hz4⟩ : ∃ n AA BB, IsL K HK z n AA BB ∧ QM.Ord oz.length AA ∧ QM.Ord dz.length BB ∧ QM.gq oz dz AA BB = n := by
            match j, hz with
            | 0, hz => cases hz; exact ⟨x, A, B, hLK, oA, oB, gA⟩
            | 1, hz => cases hz; exact ⟨y, C, D, hMK, oC, oD, gC⟩
            | n + 2, hz => simp at hz
          obtain ⟨u1, u2, ua, ub, rfl, g1, g2, g3, g4⟩ := hz1.same sL
          walk_at "go"
          refine ⟨e, ua, ub, p, q, oz, dz, AA, BB, rfl, heK.same sL, G, g3, g4, hz2, hz3, fun HM sM => ?_⟩
          walk_at "go"
          refine ⟨rfl, ?_⟩
          walk_at "go"
          refine r_iteN (fun h => absurd (by rw [hz4]) h) (fun _ => ?_)
          walk_at "go"
          exact ⟨_, _, rfl, sL.trans sM⟩
        · rintro σ HL ⟨z7, z8, rfl, sL⟩
          obtain ⟨u1, u2, ua, ub, el, g1, g2, g3, g4⟩ := hLK.same sL
          subst el
          obtain ⟨w1, w2, wa, wb, em, d1, d2, d3, d4⟩ := id hMK
          subst em
          obtain ⟨A9, B9, fl, _⟩ := QM.least_is EB
          rw [f1] at fl
          have ex : x = (oz.length : Int) + dz.length - (QM.most oz dz : Nat) := by
            have := congrArg (fun z => z.map fun r => r.1) fl
            simpa using this
          walk_at "go"
          refine ⟨p, q, oz, dz, ⟨e, rfl, heK.same sL, G⟩, fun HN sN => ?_⟩
          walk_at "go"
          refine ⟨rfl, ?_⟩
          walk_at "go"
          refine r_iteN (fun h => absurd (by rw [ex]) h) (fun _ => ?_)
          have d1' := Same.tup (sL.trans sN) d1
          walk_at "go"
          refine ⟨p, q, oz, dz, ⟨e, rfl, heK.same (sL.trans sN), G⟩, fun mm HO sO hle => ?_⟩
          have := hle y C D f2
          walk_at "go"
          refine r_iteD (fun h => absurd h (by omega)) (fun _ => ?_)
          walk_at "go"
          exact ⟨_, _, _, _, _, _, _, _, rfl, sHK.trans (sL.trans (sN.trans sO))⟩
    · rintro σ H' ⟨y1, y2, y3, y4, y5, y6, y7, y8, rfl, _⟩
      walk_at "go"
      exact qq H'
end QH

/-! QE: the facts of the head, all promises in order, the theorem -/
namespace QH
open PySem PySem.Spec L2 QF
theorem tx_of {K : PySem.W.Frag} {h : Heap} {mg : Str → Option Value} (X : K.In h) (G : h.Ns mainGlobals mg) (c : SaysQ K) : Tx K mg (He.ga K "Evening") (He.ga K "State") where
  is_integer := by
    obtain ⟨fd, F⟩ := c.1.def_ 0 (d := d_is_integer) rfl
    exact ⟨_, fd, He.glo_ok X G (c.1.fact 0 (f := .glo "is_integer") rfl), F⟩
  is_within := by
    obtain ⟨fd, F⟩ := c.1.def_ 1 (d := d_is_within) rfl
    exact ⟨_, fd, He.glo_ok X G (c.1.fact 1 (f := .glo "is_within") rfl), F⟩
  is_pair := by
    obtain ⟨fd, F⟩ := c.1.def_ 2 (d := d_is_pair) rfl
    exact ⟨_, fd, He.glo_ok X G (c.1.fact 2 (f := .glo "is_pair") rfl), F⟩
  are_ascending := by
    obtain ⟨fd, F⟩ := c.1.def_ 3 (d := d_are_ascending) rfl
    exact ⟨_, fd, He.glo_ok X G (c.1.fact 3 (f := .glo "are_ascending") rfl), F⟩
  is_lot_below := by
    obtain ⟨fd, F⟩ := c.1.def_ 4 (d := d_is_lot_below) rfl
    exact ⟨_, fd, He.glo_ok X G (c.1.fact 4 (f := .glo "is_lot_below") rfl), F⟩
  check_most := by
    obtain ⟨fd, F⟩ := c.1.def_ 5 (d := d_check_most) rfl
    exact ⟨_, fd, He.glo_ok X G (c.1.fact 5 (f := .glo "check_most") rfl), F⟩
  common_divisor := by
    obtain ⟨fd, F⟩ := c.1.def_ 6 (d := d_common_divisor) rfl
    exact ⟨_, fd, He.glo_ok X G (c.1.fact 6 (f := .glo "common_divisor") rfl), F⟩
  made := by
    obtain ⟨fd, F⟩ := c.1.def_ 7 (d := d_made) rfl
    exact ⟨_, fd, He.glo_ok X G (c.1.fact 7 (f := .glo "made") rfl), F⟩
  plus := by
    obtain ⟨fd, F⟩ := c.1.def_ 8 (d := d_plus) rfl
    exact ⟨_, fd, He.glo_ok X G (c.1.fact 8 (f := .glo "plus") rfl), F⟩
  minus := by
    obtain ⟨fd, F⟩ := c.1.def_ 9 (d := d_minus) rfl
    exact ⟨_, fd, He.glo_ok X G (c.1.fact 9 (f := .glo "minus") rfl), F⟩
  over := by
    obtain ⟨fd, F⟩ := c.1.def_ 10 (d := d_over) rfl
    exact ⟨_, fd, He.glo_ok X G (c.1.fact 10 (f := .glo "over") rfl), F⟩
  is_less := by
    obtain ⟨fd, F⟩ := c.1.def_ 11 (d := d_is_less) rfl
    exact ⟨_, fd, He.glo_ok X G (c.1.fact 11 (f := .glo "is_less") rfl), F⟩
  least_of := by
    obtain ⟨fd, F⟩ := c.1.def_ 12 (d := d_least_of) rfl
    exact ⟨_, fd, He.glo_ok X G (c.1.fact 12 (f := .glo "least_of") rfl), F⟩
  total_of := by
    obtain ⟨fd, F⟩ := c.1.def_ 13 (d := d_total_of) rfl
    exact ⟨_, fd, He.glo_ok X G (c.1.fact 13 (f := .glo "total_of") rfl), F⟩
  measure_of := by
    obtain ⟨fd, F⟩ := c.1.def_ 14 (d := d_measure_of) rfl
    exact ⟨_, fd, He.glo_ok X G (c.1.fact 14 (f := .glo "measure_of") rfl), F⟩
  is_fraction := by
    obtain ⟨fd, F⟩ := c.1.def_ 15 (d := d_is_fraction) rfl
    exact ⟨_, fd, He.glo_ok X G (c.1.fact 15 (f := .glo "is_fraction") rfl), F⟩
  is_amount := by
    obtain ⟨fd, F⟩ := c.1.def_ 16 (d := d_is_amount) rfl
    exact ⟨_, fd, He.glo_ok X G (c.1.fact 16 (f := .glo "is_amount") rfl), F⟩
  are_sums := by
    obtain ⟨fd, F⟩ := c.1.def_ 17 (d := d_are_sums) rfl
    exact ⟨_, fd, He.glo_ok X G (c.1.fact 17 (f := .glo "are_sums") rfl), F⟩
  Evening_init := by
    obtain ⟨fd, F⟩ := c.1.def_ 18 (d := d_Evening_init) rfl
    exact ⟨_, fd, He.mkr_ok (c.1.fact 82 (f := .mkr "Evening") rfl), F⟩
  all_sums := by
    obtain ⟨fd, F⟩ := c.1.def_ 19 (d := d_all_sums) rfl
    exact ⟨_, fd, He.glo_ok X G (c.1.fact 19 (f := .glo "all_sums") rfl), F⟩
  people := by
    obtain ⟨fd, F⟩ := c.1.def_ 20 (d := d_people) rfl
    exact ⟨_, fd, He.glo_ok X G (c.1.fact 20 (f := .glo "people") rfl), F⟩
  measure := by
    obtain ⟨fd, F⟩ := c.1.def_ 21 (d := d_measure) rfl
    exact ⟨_, fd, He.glo_ok X G (c.1.fact 21 (f := .glo "measure") rfl), F⟩
  State_init := by
    obtain ⟨fd, F⟩ := c.1.def_ 22 (d := d_State_init) rfl
    exact ⟨_, fd, He.mkr_ok (c.1.fact 86 (f := .mkr "State") rfl), F⟩
  State_amount_of := by
    obtain ⟨fd, F⟩ := c.1.def_ 23 (d := d_State_amount_of) rfl
    exact ⟨_, fd, He.meth_ok (c.1.fact 89 (f := .meth "State" "amount_of") rfl), F⟩
  State_go := by
    obtain ⟨fd, F⟩ := c.1.def_ 24 (d := d_State_go) rfl
    exact ⟨_, fd, He.meth_ok (c.1.fact 90 (f := .meth "State" "go") rfl), F⟩
  is_order := by
    obtain ⟨fd, F⟩ := c.1.def_ 25 (d := d_is_order) rfl
    exact ⟨_, fd, He.glo_ok X G (c.1.fact 23 (f := .glo "is_order") rfl), F⟩
  sorted_numbers := by
    obtain ⟨fd, F⟩ := c.1.def_ 26 (d := d_sorted_numbers) rfl
    exact ⟨_, fd, He.glo_ok X G (c.1.fact 24 (f := .glo "sorted_numbers") rfl), F⟩
  check_orders := by
    obtain ⟨fd, F⟩ := c.1.def_ 27 (d := d_check_orders) rfl
    exact ⟨_, fd, He.glo_ok X G (c.1.fact 25 (f := .glo "check_orders") rfl), F⟩
  way_of_queues := by
    obtain ⟨fd, F⟩ := c.1.def_ 28 (d := d_way_of_queues) rfl
    exact ⟨_, fd, He.glo_ok X G (c.1.fact 26 (f := .glo "way_of_queues") rfl), F⟩
  queue_way := by
    obtain ⟨fd, F⟩ := c.1.def_ 29 (d := d_queue_way) rfl
    exact ⟨_, fd, He.glo_ok X G (c.1.fact 27 (f := .glo "queue_way") rfl), F⟩
  queue_number := by
    obtain ⟨fd, F⟩ := c.1.def_ 30 (d := d_queue_number) rfl
    exact ⟨_, fd, He.glo_ok X G (c.1.fact 28 (f := .glo "queue_number") rfl), F⟩
  whole_sums := by
    obtain ⟨fd, F⟩ := c.1.def_ 31 (d := d_whole_sums) rfl
    exact ⟨_, fd, He.glo_ok X G (c.1.fact 29 (f := .glo "whole_sums") rfl), F⟩
  sums_behind := by
    obtain ⟨fd, F⟩ := c.1.def_ 32 (d := d_sums_behind) rfl
    exact ⟨_, fd, He.glo_ok X G (c.1.fact 30 (f := .glo "sums_behind") rfl), F⟩
  joints_of := by
    obtain ⟨fd, F⟩ := c.1.def_ 33 (d := d_joints_of) rfl
    exact ⟨_, fd, He.glo_ok X G (c.1.fact 31 (f := .glo "joints_of") rfl), F⟩
  best_orders := by
    obtain ⟨fd, F⟩ := c.1.def_ 34 (d := d_best_orders) rfl
    exact ⟨_, fd, He.glo_ok X G (c.1.fact 32 (f := .glo "best_orders") rfl), F⟩
  queue_least := by
    obtain ⟨fd, F⟩ := c.1.def_ 35 (d := d_queue_least) rfl
    exact ⟨_, fd, He.glo_ok X G (c.1.fact 33 (f := .glo "queue_least") rfl), F⟩
  queue_most := by
    obtain ⟨fd, F⟩ := c.1.def_ 36 (d := d_queue_most) rfl
    exact ⟨_, fd, He.glo_ok X G (c.1.fact 34 (f := .glo "queue_most") rfl), F⟩
  units_of := by
    obtain ⟨fd, F⟩ := c.1.def_ 37 (d := d_units_of) rfl
    exact ⟨_, fd, He.glo_ok X G (c.1.fact 35 (f := .glo "units_of") rfl), F⟩
  check_people := by
    obtain ⟨fd, F⟩ := c.1.def_ 38 (d := d_check_people) rfl
    exact ⟨_, fd, He.glo_ok X G (c.1.fact 36 (f := .glo "check_people") rfl), F⟩
  sums_by_mask := by
    obtain ⟨fd, F⟩ := c.1.def_ 39 (d := d_sums_by_mask) rfl
    exact ⟨_, fd, He.glo_ok X G (c.1.fact 37 (f := .glo "sums_by_mask") rfl), F⟩
  best_of := by
    obtain ⟨fd, F⟩ := c.1.def_ 40 (d := d_best_of) rfl
    exact ⟨_, fd, He.glo_ok X G (c.1.fact 38 (f := .glo "best_of") rfl), F⟩
  best_by_mask := by
    obtain ⟨fd, F⟩ := c.1.def_ 41 (d := d_best_by_mask) rfl
    exact ⟨_, fd, He.glo_ok X G (c.1.fact 39 (f := .glo "best_by_mask") rfl), F⟩
  greatest_of := by
    obtain ⟨fd, F⟩ := c.1.def_ 42 (d := d_greatest_of) rfl
    exact ⟨_, fd, He.glo_ok X G (c.1.fact 40 (f := .glo "greatest_of") rfl), F⟩
  fewest_of := by
    obtain ⟨fd, F⟩ := c.1.def_ 43 (d := d_fewest_of) rfl
    exact ⟨_, fd, He.glo_ok X G (c.1.fact 41 (f := .glo "fewest_of") rfl), F⟩
  fewest := by
    obtain ⟨fd, F⟩ := c.1.def_ 44 (d := d_fewest) rfl
    exact ⟨_, fd, He.glo_ok X G (c.1.fact 42 (f := .glo "fewest") rfl), F⟩
  greatest := by
    obtain ⟨fd, F⟩ := c.1.def_ 45 (d := d_greatest) rfl
    exact ⟨_, fd, He.glo_ok X G (c.1.fact 43 (f := .glo "greatest") rfl), F⟩
  law_is_integer := by
    obtain ⟨fd, F⟩ := c.1.def_ 46 (d := d_law_is_integer) rfl
    exact ⟨_, fd, He.glo_ok X G (c.1.fact 44 (f := .glo "_law_is_integer") rfl), F⟩
  law_source := by
    obtain ⟨fd, F⟩ := c.1.def_ 47 (d := d_law_source) rfl
    exact ⟨_, fd, He.glo_ok X G (c.1.fact 45 (f := .glo "_law_source") rfl), F⟩
  law_draw := by
    obtain ⟨fd, F⟩ := c.1.def_ 48 (d := d_law_draw) rfl
    exact ⟨_, fd, He.glo_ok X G (c.1.fact 46 (f := .glo "_law_draw") rfl), F⟩
  law_made := by
    obtain ⟨fd, F⟩ := c.1.def_ 49 (d := d_law_made) rfl
    exact ⟨_, fd, He.glo_ok X G (c.1.fact 47 (f := .glo "_law_made") rfl), F⟩
  law_unit := by
    obtain ⟨fd, F⟩ := c.1.def_ 50 (d := d_law_unit) rfl
    exact ⟨_, fd, He.glo_ok X G (c.1.fact 48 (f := .glo "_law_unit") rfl), F⟩
  law_times := by
    obtain ⟨fd, F⟩ := c.1.def_ 51 (d := d_law_times) rfl
    exact ⟨_, fd, He.glo_ok X G (c.1.fact 49 (f := .glo "_law_times") rfl), F⟩
  law_split := by
    obtain ⟨fd, F⟩ := c.1.def_ 52 (d := d_law_split) rfl
    exact ⟨_, fd, He.glo_ok X G (c.1.fact 50 (f := .glo "_law_split") rfl), F⟩
  law_perm := by
    obtain ⟨fd, F⟩ := c.1.def_ 53 (d := d_law_perm) rfl
    exact ⟨_, fd, He.glo_ok X G (c.1.fact 51 (f := .glo "_law_perm") rfl), F⟩
  law_side := by
    obtain ⟨fd, F⟩ := c.1.def_ 54 (d := d_law_side) rfl
    exact ⟨_, fd, He.glo_ok X G (c.1.fact 52 (f := .glo "_law_side") rfl), F⟩
  law_sums := by
    obtain ⟨fd, F⟩ := c.1.def_ 55 (d := d_law_sums) rfl
    exact ⟨_, fd, He.glo_ok X G (c.1.fact 53 (f := .glo "_law_sums") rfl), F⟩
  law_crowd := by
    obtain ⟨fd, F⟩ := c.1.def_ 56 (d := d_law_crowd) rfl
    exact ⟨_, fd, He.glo_ok X G (c.1.fact 54 (f := .glo "_law_crowd") rfl), F⟩
  law_evening := by
    obtain ⟨fd, F⟩ := c.1.def_ 57 (d := d_law_evening) rfl
    exact ⟨_, fd, He.glo_ok X G (c.1.fact 55 (f := .glo "_law_evening") rfl), F⟩
  law_pay := by
    obtain ⟨fd, F⟩ := c.1.def_ 58 (d := d_law_pay) rfl
    exact ⟨_, fd, He.glo_ok X G (c.1.fact 56 (f := .glo "_law_pay") rfl), F⟩
  law_same := by
    obtain ⟨fd, F⟩ := c.1.def_ 59 (d := d_law_same) rfl
    exact ⟨_, fd, He.glo_ok X G (c.1.fact 57 (f := .glo "_law_same") rfl), F⟩
  law_orders := by
    obtain ⟨fd, F⟩ := c.1.def_ 60 (d := d_law_orders) rfl
    exact ⟨_, fd, He.glo_ok X G (c.1.fact 58 (f := .glo "_law_orders") rfl), F⟩
  law_queue_way := by
    obtain ⟨fd, F⟩ := c.1.def_ 61 (d := d_law_queue_way) rfl
    exact ⟨_, fd, He.glo_ok X G (c.1.fact 59 (f := .glo "_law_queue_way") rfl), F⟩
  law_best := by
    obtain ⟨fd, F⟩ := c.1.def_ 62 (d := d_law_best) rfl
    exact ⟨_, fd, He.glo_ok X G (c.1.fact 60 (f := .glo "_law_best") rfl), F⟩
  law_greater_hold := by
    obtain ⟨fd, F⟩ := c.1.def_ 63 (d := d_law_greater_hold) rfl
    exact ⟨_, fd, He.glo_ok X G (c.1.fact 61 (f := .glo "_law_greater_hold") rfl), F⟩
  law := by
    obtain ⟨fd, F⟩ := c.1.def_ 64 (d := d_law) rfl
    exact ⟨_, fd, He.glo_ok X G (c.1.fact 62 (f := .glo "law") rfl), F⟩
  b_len := He.free_ok X G (c.1.fact 63 (f := .free "len") rfl)
  b_abs := He.free_ok X G (c.1.fact 64 (f := .free "abs") rfl)
  b_isinstance := He.free_ok X G (c.1.fact 65 (f := .free "isinstance") rfl)
  b_all := He.free_ok X G (c.1.fact 66 (f := .free "all") rfl)
  b_range := He.free_ok X G (c.1.fact 67 (f := .free "range") rfl)
  b_int := He.free_ok X G (c.1.fact 68 (f := .free "int") rfl)
  b_list := He.free_ok X G (c.1.fact 69 (f := .free "list") rfl)
  b_tuple := He.free_ok X G (c.1.fact 70 (f := .free "tuple") rfl)
  b_sorted := He.free_ok X G (c.1.fact 71 (f := .free "sorted") rfl)
  b_min := He.free_ok X G (c.1.fact 72 (f := .free "min") rfl)
  b_max := He.free_ok X G (c.1.fact 73 (f := .free "max") rfl)
  b_sum := He.free_ok X G (c.1.fact 74 (f := .free "sum") rfl)
  b_zip := He.free_ok X G (c.1.fact 75 (f := .free "zip") rfl)
  b_bool := He.free_ok X G (c.1.fact 76 (f := .free "bool") rfl)
  b_str := He.free_ok X G (c.1.fact 77 (f := .free "str") rfl)
  mSide := He.int_ok X G (c.1.fact 78 (f := .int "MOST_SIDE" 100) rfl)
  mOrd := He.int_ok X G (c.1.fact 79 (f := .int "MOST_ORDERED" 9) rfl)
  mPeo := He.int_ok X G (c.1.fact 80 (f := .int "MOST_PEOPLE" 14) rfl)
  mEv := He.glo_ok X G (c.1.fact 18 (f := .glo "Evening") rfl)
  mSt := He.glo_ok X G (c.1.fact 22 (f := .glo "State") rfl)
  cE := He.cls_ok (c.1.fact 81 (f := .cls "Evening") rfl)
  cS := He.cls_ok (c.1.fact 85 (f := .cls "State") rfl)
  nOwed := He.noat_ok (c.1.fact 83 (f := .noat "Evening" "owed") rfl)
  nDue := He.noat_ok (c.1.fact 84 (f := .noat "Evening" "due") rfl)
  nOL := He.noat_ok (c.1.fact 87 (f := .noat "State" "owed_left") rfl)
  nDL := He.noat_ok (c.1.fact 88 (f := .noat "State" "due_left") rfl)
  perm := PySem.W.mg_of X G (He.eqO_ok (He.ba c.2).1)
  zero := ⟨He.ga K "ZERO", PySem.W.mg_of X G (He.eqO_ok (He.ba (He.ba c.2).2).1), fun H => He.tupB_ok (He.ba (He.ba c.2).2).2 H⟩
section
variable {P : Program} {w : World} {K : PySem.W.Frag} {mg : Str → Option Value} {base : Heap} {CE CS : Addr}
theorem all_ok (T : Tx K mg CE CS) {f0 : Addr} {fd0 : FuncData} (F0 : FunD K "law" "law" (defArgs s_law) (defBody s_law) (defScope s_law) [] [] f0 fd0) : FnOk P w K mg base CX0 9 f0 fd0 ["_law_script"] (sp_law K) := by
  have C_common_divisor : OkF P w K mg base "common_divisor" ["one", "other"] 1 sp_common_divisor := ok_common_divisor T
  have C_made : OkF P w K mg base "made" ["top", "bottom"] 2 sp_made := ok_made T C_common_divisor
  have C_plus : OkF P w K mg base "plus" ["one", "other"] 3 (spOp CT fplus K) := ok_plus T C_made
  have C_minus : OkF P w K mg base "minus" ["one", "other"] 3 (spOp CT fminus K) := ok_minus T C_made
  have C_over : OkF P w K mg base "over" ["one", "other"] 3 (spOp CPos fover K) := ok_over T C_made
  have C_is_less : OkF P w K mg base "is_less" ["one", "other"] 1 (sp_is_less K) := ok_is_less T
  have C_least_of : OkF P w K mg base "least_of" ["one", "other"] 2 (sp_least_of K) := ok_least_of T C_is_less
  have C_total_of : OkF P w K mg base "total_of" ["fractions"] 4 (sp_total_of K) := ok_total_of T C_plus
  have C_all_sums : OkF P w K mg base "all_sums" ["evening"] 1 (sp_all_sums K CE) := ok_all_sums T
  have C_people : OkF P w K mg base "people" ["evening"] 1 (sp_people K CE) := ok_people T
  have C_measure_of : OkF P w K mg base "measure_of" ["amounts"] 3 (sp_measure_of K) := ok_measure_of T C_common_divisor C_made
  have C_measure : OkF P w K mg base "measure" ["evening"] 4 (sp_measure K CE) := ok_measure T C_all_sums C_measure_of
  have C_check_most : OkF P w K mg base "check_most" ["many", "most"] 1 sp_check_most := ok_check_most T
  have C_check_people : OkF P w K mg base "check_people" ["evening", "most"] 2 (sp_check_people K CE) := ok_check_people T C_check_most C_people
  have C_whole_sums : OkF P w K mg base "whole_sums" ["evening"] 5 (sp_wholes K CE) := ok_whole_sums T C_measure C_over
  have C_units_of : OkF P w K mg base "units_of" ["evening"] 4 (sp_wholes K CE) := ok_units_of T C_all_sums C_measure_of C_over
  have C_sums_behind : OkF P w K mg base "sums_behind" ["numbers", "order"] 1 (sp_sums_behind K) := ok_sums_behind T
  have C_joints_of : OkF P w K mg base "joints_of" ["one", "other"] 1 sp_joints_of := ok_joints_of T
  have C_best_orders : OkF P w K mg base "best_orders" ["evening", "wants_few"] 6 (sp_best_orders K CE) := ok_best_orders T C_check_most C_people C_whole_sums C_sums_behind C_joints_of
  have C_queue_least : OkF P w K mg base "queue_least" ["evening"] 7 (sp_queue K CE true) := ok_queue_least T C_best_orders
  have C_queue_most : OkF P w K mg base "queue_most" ["evening"] 7 (sp_queue K CE false) := ok_queue_most T C_best_orders
  have C_sums_by_mask : OkF P w K mg base "sums_by_mask" ["evening"] 5 (sp_sums_by_mask K CE) := ok_sums_by_mask T C_units_of
  have C_best_of : OkF P w K mg base "best_of" ["sums", "many"] 1 (sp_best_of K) := ok_best_of T
  have C_best_by_mask : OkF P w K mg base "best_by_mask" ["evening"] 6 (sp_best_by_mask K CE) := ok_best_by_mask T C_sums_by_mask C_best_of C_people
  have C_fewest_of : OkF P w K mg base "fewest_of" ["evening"] 7 (sp_fewest K CE) := ok_fewest_of T C_people C_best_by_mask
  have C_fewest : OkF P w K mg base "fewest" ["evening"] 8 (sp_fewest K CE) := ok_fewest T C_check_people C_fewest_of
  have C_greatest_of : OkF P w K mg base "greatest_of" ["evening"] 5 (sp_greatest K CE) := ok_greatest_of T C_people C_units_of
  have C_greatest : OkF P w K mg base "greatest" ["evening"] 6 (sp_greatest K CE) := ok_greatest T C_greatest_of
  have C_is_integer : OkF P w K mg base "is_integer" ["thing"] 1 sp_is_integer := ok_is_integer T
  have C_is_within : OkF P w K mg base "is_within" ["thing", "least", "most"] 2 sp_is_within := ok_is_within T C_is_integer
  have C_are_ascending : OkF P w K mg base "are_ascending" ["things"] 1 (sp_are_ascending K) := ok_are_ascending T
  have C_is_lot_below : OkF P w K mg base "is_lot_below" ["thing", "many"] 3 (sp_is_lot_below K) := ok_is_lot_below T C_is_within C_are_ascending
  have C_sorted_numbers : OkF P w K mg base "sorted_numbers" ["things"] 1 (sp_sorted_numbers K) := ok_sorted_numbers T
  have C_is_order : OkF P w K mg base "is_order" ["many", "thing"] 4 (sp_is_order K) := ok_is_order T C_is_lot_below C_sorted_numbers
  have C_check_orders : OkF P w K mg base "check_orders" ["evening", "owers", "takers"] 5 (sp_check_orders K CE) := ok_check_orders T C_is_order
  have C_State : OkI P w K mg base CS ["self", "evening"] 1 (sp_State_init K CE CS) := ok_State_init T
  have C_amount_of : OkM P w K mg base CS "amount_of" ["self", "pair"] 3 (sp_amount_of K CS) := ok_State_amount_of T C_least_of
  have C_go : OkM P w K mg base CS "go" ["self", "pair"] 4 (sp_go K CS) := ok_State_go T C_amount_of C_minus
  have C_way_of_queues : OkF P w K mg base "way_of_queues" ["evening", "owers", "takers"] 5 (sp_way_of_queues K CE) := ok_way_of_queues T C_State C_go
  have C_queue_way : OkF P w K mg base "queue_way" ["evening", "owers", "takers"] 6 (sp_way_of_queues K CE) := ok_queue_way T C_check_orders C_way_of_queues
  have C_queue_number : OkF P w K mg base "queue_number" ["evening", "owers", "takers"] 7 (sp_queue_number K CE) := ok_queue_number T C_queue_way
  have C_is_pair : OkF P w K mg base "is_pair" ["thing"] 1 (sp_is_pair K) := ok_is_pair T
  have C_is_fraction : OkF P w K mg base "is_fraction" ["thing"] 2 (sp_is_fraction K false) := ok_is_fraction T C_is_pair C_is_integer C_common_divisor
  have C_is_amount : OkF P w K mg base "is_amount" ["thing"] 3 (sp_is_fraction K true) := ok_is_amount T C_is_fraction
  have C_are_sums : OkF P w K mg base "are_sums" ["thing"] 4 (sp_are_sums K) := ok_are_sums T C_is_amount
  have C_Evening : OkI P w K mg base CE ["self", "owed", "due"] 5 (sp_Evening_init K CE) := ok_Evening_init T C_are_sums C_total_of
  have C_law_is_integer : OkF P w K mg base "_law_is_integer" ["_law_thing"] 1 sp_is_integer := ok_law_is_integer T
  have C_same0 := ok_same0 (P := P) (w := w) (base := base) T
  have C_same1 := ok_same T 0 C_same0 C_law_is_integer
  have C_same2 := ok_same T 1 C_same1 C_law_is_integer
  have C_same3 := ok_same T 2 C_same2 C_law_is_integer
  have C_same4 := ok_same T 3 C_same3 C_law_is_integer
  have C_law_same : OkF P w K mg base "_law_same" ["_law_told", "_law_due"] 5 (sp_same K 4) := C_same4
  have C_law_draw : OkF P w K mg base "_law_draw" ["_law_source_here", "_law_many"] 1 sp_law_draw := ok_law_draw T
  have C_law_source : OkF P w K mg base "_law_source" ["_law_script", "_law_k"] 1 (sp_law_source K) := ok_law_source T
  have C_law_made : OkF P w K mg base "_law_made" ["_law_top", "_law_bottom"] 1 sp_law_made := ok_law_made T
  have C_law_unit : OkF P w K mg base "_law_unit" ["_law_source_here"] 2 (sp_law_unit K) := ok_law_unit T C_law_draw
  have C_law_times : OkF P w K mg base "_law_times" ["_law_number", "_law_unit_here"] 2 (sp_law_times K) := ok_law_times T C_law_made
  have C_law_perm : OkF P w K mg base "_law_perm" ["_law_source_here", "_law_many"] 2 (sp_law_perm K) := ok_law_perm T C_law_draw
  have C_law_side : OkF P w K mg base "_law_side" ["_law_source_here", "_law_many"] 2 sp_law_side := ok_law_side T C_law_draw
  have C_law_split : OkF P w K mg base "_law_split" ["_law_source_here", "_law_whole", "_law_many"] 3 sp_law_split := ok_law_split T C_law_draw C_law_perm
  have C_law_sums : OkF P w K mg base "_law_sums" ["_law_source_here", "_law_owers", "_law_takers"] 4 (sp_law_sums K) := ok_law_sums T C_law_draw C_law_perm C_law_side C_law_split
  have C_law_crowd : OkF P w K mg base "_law_crowd" ["_law_source_here", "_law_most"] 5 (sp_law_crowd K) := ok_law_crowd T C_law_draw C_law_sums
  have C_law_evening : OkF P w K mg base "_law_evening" ["_law_sums_here", "_law_unit_here"] 7 (sp_law_evening K CE) := ok_law_evening T C_law_times C_Evening
  have C_law_pay : OkF P w K mg base "_law_pay" ["_law_state", "_law_pair"] 1 (sp_law_pay K) := ok_law_pay T
  have C_law_orders : OkF P w K mg base "_law_orders" ["_law_many"] 1 (sp_law_orders K) := ok_law_orders T
  have C_law_queue_way : OkF P w K mg base "_law_queue_way" ["_law_sums_here", "_law_owers", "_law_takers"] 2 (sp_law_queue_way K) := ok_law_queue_way T C_law_pay
  have C_law_best : OkF P w K mg base "_law_best" ["_law_sums_here"] 3 (sp_law_best K) := ok_law_best T C_law_orders C_law_queue_way
  have C_law_greater_hold : OkF P w K mg base "_law_greater_hold" ["_law_source_here"] 8 sp_law_greater_hold := ok_law_greater_hold T C_law_draw C_law_sums C_law_unit C_law_evening C_law_best C_law_same C_queue_least C_queue_most
  exact ok_law T F0 C_law_draw C_law_source C_law_greater_hold C_law_crowd C_law_sums C_law_unit C_law_evening C_law_best C_law_same C_queue_least C_queue_most C_queue_number C_fewest C_greatest
end
end QH
theorem PySem.Challenge.cw_quitsways_k69_whole_queues_against_all_o_holds : PySem.Challenge.rw_quitsways_k69_whole_queues_against_all_o.Holds := by
  refine QH.head ?_
  refine L2.walk_ofE (l := PySem.Challenge.rw_quitsways_k69_whole_queues_against_all_o) (n := 63) (k := 9) (x := "_law_script") (CX := L2.CX0) rfl (by decide) (by kernel_rfl) ⟨rfl, by decide, by decide⟩ ?F (fun _ _ _ _ z => z)
  intro w mg fa h Y G hmg0
  obtain ⟨K, KX, c⟩ := Y
  have T := QH.tx_of KX G c
  have hmg : mg ("law" : PySem.Str) = some (.ref fa) := by
    have e : (HandSHeadRun.topDef QH.R.prog 82).name = ("law" : PySem.Str) := by kernel_rfl
    rw [← e]
    exact hmg0
  obtain ⟨f1, fd, e1, F⟩ := T.law
  have e2 := hmg.symm.trans e1
  cases e2
  have b := L2.FunD.bindsA (ps := ["_law_script"]) F fun _ _ _ _ _ _ us hl => match us, hl with | [_], _ => rfl
  exact ⟨K, fd, QH.sp_law K, KX, fun s v => b s [v] rfl, fun H a ns _ _ hS => ⟨a, ns, rfl, hS, fun _ => rfl⟩, fun base _ _ => QH.all_ok T F⟩

