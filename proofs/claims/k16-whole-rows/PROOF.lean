import PyProof.Rows.All
import Wide.All
import OpenK.AllK
import Wide.FinOn
import KE.KStateDown
import HandS.ForMost
import HandS.Exc
import HandS.ExcInit
import HandS.Lambda
import HandS.Defaults
import HandS.Head0
import HandS.Head1
import HandS.Head2
import HandS.HeadEnd
import HandS.HeadHook1
import HandS.HeadHook2
import HandS.HeadHook3
import HandS.HeadHook4
import HandS.HeadWalk
import HandS.Walk
import HandS.Zip
import HandS.Style
import HandS.IsInst
import HandS.Deep
import HandS.TupAny
import HandS.TupMul
import KE.SortData
import HandS.Wide
import HandS.Conv
import HandS.RaiseOp
import HandS.Text
import KE.GoesMore
import KE.GoesEnum
import KE.GoesZip
import PyProof.RangeIter
import HandS.ExcValue
import HandS.Sort
import KE.KExcSuper
import HandS.ExcField
import PyProof.ReprRoads
import PyProof.Rows.NestShow
import KE.SortCalls
import PyProof.TupleOfSeq
import HandS.EndTab
import PySem.Challenge.RW_rowalone_k16_whole_rows_without_an_unkno
set_option Elab.async false
set_option linter.all false
set_option maxRecDepth 100000
set_option maxHeartbeats 0
namespace Hd
open PySem PySem.Spec PyProof.Rows L2
def top (i : Nat) : Stmt := PySem.Challenge.pw_rowalone_k16_whole_rows_without_an_unkno.main.body.getD i (.Pass ⟨0, 0, 0, 0⟩)
abbrev s_is_integer : Stmt := top 11
def d_is_integer : He.DefD := ⟨("is_integer", none), "is_integer", "is_integer", defArgs s_is_integer, defBody s_is_integer, defScope s_is_integer, [], []⟩
abbrev s_is_name : Stmt := top 12
def d_is_name : He.DefD := ⟨("is_name", none), "is_name", "is_name", defArgs s_is_name, defBody s_is_name, defScope s_is_name, [], []⟩
abbrev s_is_name_lot : Stmt := top 13
def d_is_name_lot : He.DefD := ⟨("is_name_lot", none), "is_name_lot", "is_name_lot", defArgs s_is_name_lot, defBody s_is_name_lot, defScope s_is_name_lot, [], []⟩
abbrev s_divisor_of : Stmt := top 15
def d_divisor_of : He.DefD := ⟨("divisor_of", none), "divisor_of", "divisor_of", defArgs s_divisor_of, defBody s_divisor_of, defScope s_divisor_of, [], []⟩
abbrev s_fraction_of : Stmt := top 16
def d_fraction_of : He.DefD := ⟨("fraction_of", none), "fraction_of", "fraction_of", defArgs s_fraction_of, defBody s_fraction_of, defScope s_fraction_of, [], []⟩
abbrev s_is_fraction : Stmt := top 17
def d_is_fraction : He.DefD := ⟨("is_fraction", none), "is_fraction", "is_fraction", defArgs s_is_fraction, defBody s_is_fraction, defScope s_is_fraction, [], []⟩
abbrev s_less : Stmt := top 18
def d_less : He.DefD := ⟨("less", none), "less", "less", defArgs s_less, defBody s_less, defScope s_less, [], []⟩
abbrev s_common_divisor : Stmt := top 20
def d_common_divisor : He.DefD := ⟨("common_divisor", none), "common_divisor", "common_divisor", defArgs s_common_divisor, defBody s_common_divisor, defScope s_common_divisor, [], []⟩
abbrev s_is_row : Stmt := top 21
def d_is_row : He.DefD := ⟨("is_row", none), "is_row", "is_row", defArgs s_is_row, defBody s_is_row, defScope s_is_row, [], []⟩
abbrev s_check_system : Stmt := top 22
def d_check_system : He.DefD := ⟨("check_system", none), "check_system", "check_system", defArgs s_check_system, defBody s_check_system, defScope s_check_system, [], []⟩
abbrev s_least_form : Stmt := top 24
def d_least_form : He.DefD := ⟨("least_form", none), "least_form", "least_form", defArgs s_least_form, defBody s_least_form, defScope s_least_form, [], []⟩
abbrev s_unlike : Stmt := top 27
def d_unlike : He.DefD := ⟨("unlike", none), "unlike", "unlike", defArgs s_unlike, defBody s_unlike, defScope s_unlike, [], []⟩
abbrev s_elimination_sum : Stmt := top 28
def d_elimination_sum : He.DefD := ⟨("elimination_sum", none), "elimination_sum", "elimination_sum", defArgs s_elimination_sum, defBody s_elimination_sum, defScope s_elimination_sum, [], []⟩
abbrev s_eliminated : Stmt := top 29
def d_eliminated : He.DefD := ⟨("eliminated", none), "eliminated", "eliminated", defArgs s_eliminated, defBody s_eliminated, defScope s_eliminated, [], []⟩
abbrev s_clash : Stmt := top 30
def d_clash : He.DefD := ⟨("clash", none), "clash", "clash", defArgs s_clash, defBody s_clash, defScope s_clash, [], []⟩
abbrev s_eliminations : Stmt := top 31
def d_eliminations : He.DefD := ⟨("eliminations", none), "eliminations", "eliminations", defArgs s_eliminations, defBody s_eliminations, defScope s_eliminations, [], []⟩
abbrev s_is_range : Stmt := top 33
def d_is_range : He.DefD := ⟨("is_range", none), "is_range", "is_range", defArgs s_is_range, defBody s_is_range, defScope s_is_range, [], []⟩
abbrev s_is_above : Stmt := top 34
def d_is_above : He.DefD := ⟨("is_above", none), "is_above", "is_above", defArgs s_is_above, defBody s_is_above, defScope s_is_above, [], []⟩
abbrev s_check_box : Stmt := top 35
def d_check_box : He.DefD := ⟨("check_box", none), "check_box", "check_box", defArgs s_check_box, defBody s_check_box, defScope s_check_box, [], []⟩
abbrev s_free_box : Stmt := top 36
def d_free_box : He.DefD := ⟨("free_box", none), "free_box", "free_box", defArgs s_free_box, defBody s_free_box, defScope s_free_box, [], []⟩
abbrev s_first_table : Stmt := top 38
def d_first_table : He.DefD := ⟨("first_table", none), "first_table", "first_table", defArgs s_first_table, defBody s_first_table, defScope s_first_table, [], []⟩
abbrev s_entering : Stmt := top 39
def d_entering : He.DefD := ⟨("entering", none), "entering", "entering", defArgs s_entering, defBody s_entering, defScope s_entering, [], []⟩
abbrev s_leaving : Stmt := top 40
def d_leaving : He.DefD := ⟨("leaving", none), "leaving", "leaving", defArgs s_leaving, defBody s_leaving, defScope s_leaving, [], []⟩
abbrev s_pivoted : Stmt := top 41
def d_pivoted : He.DefD := ⟨("pivoted", none), "pivoted", "pivoted", defArgs s_pivoted, defBody s_pivoted, defScope s_pivoted, [], []⟩
abbrev s_numbers_of : Stmt := top 42
def d_numbers_of : He.DefD := ⟨("numbers_of", none), "numbers_of", "numbers_of", defArgs s_numbers_of, defBody s_numbers_of, defScope s_numbers_of, [], []⟩
abbrev s_best_mix : Stmt := top 43
def d_best_mix : He.DefD := ⟨("best_mix", none), "best_mix", "best_mix", defArgs s_best_mix, defBody s_best_mix, defScope s_best_mix, [], []⟩
abbrev s_rows_of_ends : Stmt := top 45
def d_rows_of_ends : He.DefD := ⟨("rows_of_ends", none), "rows_of_ends", "rows_of_ends", defArgs s_rows_of_ends, defBody s_rows_of_ends, defScope s_rows_of_ends, [], []⟩
abbrev s_point_or_numbers : Stmt := top 46
def d_point_or_numbers : He.DefD := ⟨("point_or_numbers", none), "point_or_numbers", "point_or_numbers", defArgs s_point_or_numbers, defBody s_point_or_numbers, defScope s_point_or_numbers, [], []⟩
abbrev s_point_or_paper : Stmt := top 47
def d_point_or_paper : He.DefD := ⟨("point_or_paper", none), "point_or_paper", "point_or_paper", defArgs s_point_or_paper, defBody s_point_or_paper, defScope s_point_or_paper, [], []⟩
abbrev s__law_heap : Stmt := top 49
def d__law_heap : He.DefD := ⟨("_law_heap", none), "_law_heap", "_law_heap", defArgs s__law_heap, defBody s__law_heap, defScope s__law_heap, [], []⟩
abbrev s__law_draw : Stmt := top 50
def d__law_draw : He.DefD := ⟨("_law_draw", none), "_law_draw", "_law_draw", defArgs s__law_draw, defBody s__law_draw, defScope s__law_draw, [], []⟩
abbrev s__law_pick : Stmt := top 51
def d__law_pick : He.DefD := ⟨("_law_pick", none), "_law_pick", "_law_pick", defArgs s__law_pick, defBody s__law_pick, defScope s__law_pick, [], []⟩
abbrev s__law_factor : Stmt := top 52
def d__law_factor : He.DefD := ⟨("_law_factor", none), "_law_factor", "_law_factor", defArgs s__law_factor, defBody s__law_factor, defScope s__law_factor, [], []⟩
abbrev s__law_low : Stmt := top 53
def d__law_low : He.DefD := ⟨("_law_low", none), "_law_low", "_law_low", defArgs s__law_low, defBody s__law_low, defScope s__law_low, [], []⟩
abbrev s__law_sum : Stmt := top 54
def d__law_sum : He.DefD := ⟨("_law_sum", none), "_law_sum", "_law_sum", defArgs s__law_sum, defBody s__law_sum, defScope s__law_sum, [], []⟩
abbrev s__law_less : Stmt := top 55
def d__law_less : He.DefD := ⟨("_law_less", none), "_law_less", "_law_less", defArgs s__law_less, defBody s__law_less, defScope s__law_less, [], []⟩
abbrev s__law_is_fraction : Stmt := top 56
def d__law_is_fraction : He.DefD := ⟨("_law_is_fraction", none), "_law_is_fraction", "_law_is_fraction", defArgs s__law_is_fraction, defBody s__law_is_fraction, defScope s__law_is_fraction, [], []⟩
abbrev s__law_are_fractions : Stmt := top 57
def d__law_are_fractions : He.DefD := ⟨("_law_are_fractions", none), "_law_are_fractions", "_law_are_fractions", defArgs s__law_are_fractions, defBody s__law_are_fractions, defScope s__law_are_fractions, [], []⟩
abbrev s__law_names : Stmt := top 58
def d__law_names : He.DefD := ⟨("_law_names", none), "_law_names", "_law_names", defArgs s__law_names, defBody s__law_names, defScope s__law_names, [], []⟩
abbrev s__law_least : Stmt := top 59
def d__law_least : He.DefD := ⟨("_law_least", none), "_law_least", "_law_least", defArgs s__law_least, defBody s__law_least, defScope s__law_least, [], []⟩
abbrev s__law_row : Stmt := top 60
def d__law_row : He.DefD := ⟨("_law_row", none), "_law_row", "_law_row", defArgs s__law_row, defBody s__law_row, defScope s__law_row, [], []⟩
abbrev s__law_chain : Stmt := top 61
def d__law_chain : He.DefD := ⟨("_law_chain", none), "_law_chain", "_law_chain", defArgs s__law_chain, defBody s__law_chain, defScope s__law_chain, [], []⟩
abbrev s__law_rows : Stmt := top 62
def d__law_rows : He.DefD := ⟨("_law_rows", none), "_law_rows", "_law_rows", defArgs s__law_rows, defBody s__law_rows, defScope s__law_rows, [], []⟩
abbrev s__law_mixed : Stmt := top 63
def d__law_mixed : He.DefD := ⟨("_law_mixed", none), "_law_mixed", "_law_mixed", defArgs s__law_mixed, defBody s__law_mixed, defScope s__law_mixed, [], []⟩
abbrev s__law_plain : Stmt := top 64
def d__law_plain : He.DefD := ⟨("_law_plain", none), "_law_plain", "_law_plain", defArgs s__law_plain, defBody s__law_plain, defScope s__law_plain, [], []⟩
abbrev s__law_kept : Stmt := top 65
def d__law_kept : He.DefD := ⟨("_law_kept", none), "_law_kept", "_law_kept", defArgs s__law_kept, defBody s__law_kept, defScope s__law_kept, [], []⟩
abbrev s__law_heard : Stmt := top 66
def d__law_heard : He.DefD := ⟨("_law_heard", none), "_law_heard", "_law_heard", defArgs s__law_heard, defBody s__law_heard, defScope s__law_heard, [], []⟩
abbrev s__law_far : Stmt := top 67
def d__law_far : He.DefD := ⟨("_law_far", none), "_law_far", "_law_far", defArgs s__law_far, defBody s__law_far, defScope s__law_far, [], []⟩
abbrev s__law_pair : Stmt := top 68
def d__law_pair : He.DefD := ⟨("_law_pair", none), "_law_pair", "_law_pair", defArgs s__law_pair, defBody s__law_pair, defScope s__law_pair, [], []⟩
abbrev s__law_without : Stmt := top 69
def d__law_without : He.DefD := ⟨("_law_without", none), "_law_without", "_law_without", defArgs s__law_without, defBody s__law_without, defScope s__law_without, [], []⟩
abbrev s__law_shared_point : Stmt := top 70
def d__law_shared_point : He.DefD := ⟨("_law_shared_point", none), "_law_shared_point", "_law_shared_point", defArgs s__law_shared_point, defBody s__law_shared_point, defScope s__law_shared_point, [], []⟩
abbrev s__law_pair_right : Stmt := top 71
def d__law_pair_right : He.DefD := ⟨("_law_pair_right", none), "_law_pair_right", "_law_pair_right", defArgs s__law_pair_right, defBody s__law_pair_right, defScope s__law_pair_right, [], []⟩
abbrev s__law_triples_right : Stmt := top 72
def d__law_triples_right : He.DefD := ⟨("_law_triples_right", none), "_law_triples_right", "_law_triples_right", defArgs s__law_triples_right, defBody s__law_triples_right, defScope s__law_triples_right, [], []⟩
abbrev s__law_wide : Stmt := top 73
def d__law_wide : He.DefD := ⟨("_law_wide", none), "_law_wide", "_law_wide", defArgs s__law_wide, defBody s__law_wide, defScope s__law_wide, [], []⟩
abbrev s_law : Stmt := top 74
def d_law : He.DefD := ⟨("law", none), "law", "law", defArgs s_law, defBody s_law, defScope s_law, [], []⟩
abbrev s_System_init : Stmt := inClass (top 23) 0
def d_System_init : He.DefD := ⟨("System", some "__init__"), "__init__", "System.__init__", defArgs s_System_init, defBody s_System_init, defScope s_System_init, [], []⟩
def fn : List He.DefD := [d_is_integer, d_is_name, d_is_name_lot, d_divisor_of, d_fraction_of, d_is_fraction, d_less, d_common_divisor, d_is_row, d_check_system, d_least_form, d_unlike, d_elimination_sum, d_eliminated, d_clash, d_eliminations, d_is_range, d_is_above, d_check_box, d_free_box, d_first_table, d_entering, d_leaving, d_pivoted, d_numbers_of, d_best_mix, d_rows_of_ends, d_point_or_numbers, d_point_or_paper, d__law_heap, d__law_draw, d__law_pick, d__law_factor, d__law_low, d__law_sum, d__law_less, d__law_is_fraction, d__law_are_fractions, d__law_names, d__law_least, d__law_row, d__law_chain, d__law_rows, d__law_mixed, d__law_plain, d__law_kept, d__law_heard, d__law_far, d__law_pair, d__law_without, d__law_shared_point, d__law_pair_right, d__law_triples_right, d__law_wide, d_law, d_System_init]
def fa : List He.Fa := [.glo "is_integer", .glo "is_name", .glo "is_name_lot", .glo "divisor_of", .glo "fraction_of", .glo "is_fraction", .glo "less", .glo "common_divisor", .glo "is_row", .glo "check_system", .glo "least_form", .glo "unlike", .glo "elimination_sum", .glo "eliminated", .glo "clash", .glo "eliminations", .glo "is_range", .glo "is_above", .glo "check_box", .glo "free_box", .glo "first_table", .glo "entering", .glo "leaving", .glo "pivoted", .glo "numbers_of", .glo "best_mix", .glo "rows_of_ends", .glo "point_or_numbers", .glo "point_or_paper", .glo "_law_heap", .glo "_law_draw", .glo "_law_pick", .glo "_law_factor", .glo "_law_low", .glo "_law_sum", .glo "_law_less", .glo "_law_is_fraction", .glo "_law_are_fractions", .glo "_law_names", .glo "_law_least", .glo "_law_row", .glo "_law_chain", .glo "_law_rows", .glo "_law_mixed", .glo "_law_plain", .glo "_law_kept", .glo "_law_heard", .glo "_law_far", .glo "_law_pair", .glo "_law_without", .glo "_law_shared_point", .glo "_law_pair_right", .glo "_law_triples_right", .glo "_law_wide", .glo "law", .glo "System", .glo "Refused", .str "LETTERS" "abcdefghijklmnopqrstuvwxyz", .int "LONGEST_NAME" 5, .int "MOST_NAMES" 6, .int "MOST_ROWS" 60, .int "MOST_ELIMINATIONS" 3000, .cls "System", .noat "System" "names", .noat "System" "rows", .mkr "System", .free "len", .free "abs", .free "int", .free "tuple", .free "list", .free "range", .free "zip", .free "enumerate", .free "isinstance", .free "bool", .free "str", .free "all", .free "any", .free "sum", .free "sorted", .free "repr"]
def tf : List He.Defn := [("law", none), ("_law_pair_right", none)]
end Hd
/-! what is known of the names -/
namespace Hd
open PySem PySem.Spec PyProof.Rows L2
/-- a def at its name -/
structure FD (K : PySem.W.Frag) (mg : Str → Option Value) (x : Str) (st : Stmt) where
  f : Addr
  fd : FuncData
  F : FunD K x x (defArgs st) (defBody st) (defScope st) [] [] f fd
  g : mg x = some (.ref f)
structure Fx (K : PySem.W.Frag) (mg : Str → Option Value) where
  f_is_integer : FD K mg "is_integer" s_is_integer
  f_is_name : FD K mg "is_name" s_is_name
  f_is_name_lot : FD K mg "is_name_lot" s_is_name_lot
  f_divisor_of : FD K mg "divisor_of" s_divisor_of
  f_fraction_of : FD K mg "fraction_of" s_fraction_of
  f_is_fraction : FD K mg "is_fraction" s_is_fraction
  f_less : FD K mg "less" s_less
  f_common_divisor : FD K mg "common_divisor" s_common_divisor
  f_is_row : FD K mg "is_row" s_is_row
  f_check_system : FD K mg "check_system" s_check_system
  f_least_form : FD K mg "least_form" s_least_form
  f_unlike : FD K mg "unlike" s_unlike
  f_elimination_sum : FD K mg "elimination_sum" s_elimination_sum
  f_eliminated : FD K mg "eliminated" s_eliminated
  f_clash : FD K mg "clash" s_clash
  f_eliminations : FD K mg "eliminations" s_eliminations
  f_is_range : FD K mg "is_range" s_is_range
  f_is_above : FD K mg "is_above" s_is_above
  f_check_box : FD K mg "check_box" s_check_box
  f_free_box : FD K mg "free_box" s_free_box
  f_first_table : FD K mg "first_table" s_first_table
  f_entering : FD K mg "entering" s_entering
  f_leaving : FD K mg "leaving" s_leaving
  f_pivoted : FD K mg "pivoted" s_pivoted
  f_numbers_of : FD K mg "numbers_of" s_numbers_of
  f_best_mix : FD K mg "best_mix" s_best_mix
  f_rows_of_ends : FD K mg "rows_of_ends" s_rows_of_ends
  f_point_or_numbers : FD K mg "point_or_numbers" s_point_or_numbers
  f_point_or_paper : FD K mg "point_or_paper" s_point_or_paper
  f__law_heap : FD K mg "_law_heap" s__law_heap
  f__law_draw : FD K mg "_law_draw" s__law_draw
  f__law_pick : FD K mg "_law_pick" s__law_pick
  f__law_factor : FD K mg "_law_factor" s__law_factor
  f__law_low : FD K mg "_law_low" s__law_low
  f__law_sum : FD K mg "_law_sum" s__law_sum
  f__law_less : FD K mg "_law_less" s__law_less
  f__law_is_fraction : FD K mg "_law_is_fraction" s__law_is_fraction
  f__law_are_fractions : FD K mg "_law_are_fractions" s__law_are_fractions
  f__law_names : FD K mg "_law_names" s__law_names
  f__law_least : FD K mg "_law_least" s__law_least
  f__law_row : FD K mg "_law_row" s__law_row
  f__law_chain : FD K mg "_law_chain" s__law_chain
  f__law_rows : FD K mg "_law_rows" s__law_rows
  f__law_mixed : FD K mg "_law_mixed" s__law_mixed
  f__law_plain : FD K mg "_law_plain" s__law_plain
  f__law_kept : FD K mg "_law_kept" s__law_kept
  f__law_heard : FD K mg "_law_heard" s__law_heard
  f__law_far : FD K mg "_law_far" s__law_far
  f__law_pair : FD K mg "_law_pair" s__law_pair
  f__law_without : FD K mg "_law_without" s__law_without
  f__law_shared_point : FD K mg "_law_shared_point" s__law_shared_point
  f__law_pair_right : FD K mg "_law_pair_right" s__law_pair_right
  f__law_triples_right : FD K mg "_law_triples_right" s__law_triples_right
  f__law_wide : FD K mg "_law_wide" s__law_wide
  f_law : FD K mg "law" s_law
  b_len : mg "len" = none
  b_abs : mg "abs" = none
  b_int : mg "int" = none
  b_tuple : mg "tuple" = none
  b_list : mg "list" = none
  b_range : mg "range" = none
  b_zip : mg "zip" = none
  b_enumerate : mg "enumerate" = none
  b_isinstance : mg "isinstance" = none
  b_bool : mg "bool" = none
  b_str : mg "str" = none
  b_all : mg "all" = none
  b_any : mg "any" = none
  b_sum : mg "sum" = none
  b_sorted : mg "sorted" = none
  b_repr : mg "repr" = none
  C : Addr
  R : Addr
  g_System : mg "System" = some (.ref C)
  g_Refused : mg "Refused" = some (.ref R)
  clC : Cls K C
  noN : NoAttr K C "names"
  noR : NoAttr K C "rows"
  t1 : Tok
  t2 : Tok
  t3 : Tok
  t4 : Tok
  t5 : Tok
  k_LETTERS : mg "LETTERS" = some (.str "abcdefghijklmnopqrstuvwxyz" t1)
  k_LONGEST_NAME : mg "LONGEST_NAME" = some (.int 5 t2)
  k_MOST_NAMES : mg "MOST_NAMES" = some (.int 6 t3)
  k_MOST_ROWS : mg "MOST_ROWS" = some (.int 60 t4)
  k_MOST_ELIMINATIONS : mg "MOST_ELIMINATIONS" = some (.int 3000 t5)
  a_init : Addr
  fd_init : FuncData
  F_init : FunD K "__init__" "System.__init__" (defArgs s_System_init) (defBody s_System_init) (defScope s_System_init) [] [] a_init fd_init
  M : Mk K C a_init
end Hd
/-! plain lists -/
namespace PL
/-- a permutation of a map comes from a permutation -/
theorem perm_map_of {α β : Type} {f : α → β} : ∀ {l : List α} {m : List β}, m.Perm (l.map f) → ∃ k : List α, k.Perm l ∧ k.map f = m := by
  intro l m h
  generalize e : l.map f = n at h
  induction h generalizing l with
  | nil =>
    exact ⟨[], by rw [List.map_eq_nil_iff.mp e], rfl⟩
  | cons x p ih =>
    cases l with
    | nil => cases e
    | cons a l =>
      rw [List.map_cons, List.cons.injEq] at e
      obtain ⟨k, k1, k2⟩ := ih e.2
      exact ⟨a :: k, k1.cons a, by rw [List.map_cons, k2, e.1]⟩
  | swap x y l' =>
    match l, e with
    | a :: b :: l, e =>
      simp only [List.map_cons, List.cons.injEq] at e
      exact ⟨b :: a :: l, List.Perm.swap a b l, by simp [e.1, e.2.1, e.2.2]⟩
  | trans p q ih1 ih2 =>
    obtain ⟨k, k1, k2⟩ := ih2 e
    obtain ⟨k', k3, k4⟩ := ih1 k2
    exact ⟨k', k3.trans k1, k4⟩
end PL
set_option maxHeartbeats 4000000
/-! The data layer: readings of HandS told over plain data. -/
namespace DL
open PySem PySem.Spec PyProof.Rows L2

/-- plain data; adr: an address that is handed on; sys: an instance with two attributes -/
inductive Dt where
  | non | bl (b : Bool) | int (i : Int) | str (s : Str) | tup (l : List Dt) | lst (l : List Dt) | adr (a : Addr) | sys (n r : Dt) | rng (lo hi : Int)
  deriving Inhabited

mutual
inductive Rep (C : Addr) (A : Addr → Prop) (H : Hp) : V → Dt → Prop
  | non : Rep C A H .non .non
  | bl (b : Bool) : Rep C A H (.bl b) (.bl b)
  | int (i : Int) : Rep C A H (.int i) (.int i)
  | str (s : Str) : Rep C A H (.str s) (.str s)
  | adr (a : Addr) : Rep C A H (.ref a) (.adr a)
  | tup {p : Addr} {xs : List V} {ds : List Dt} : H p = some (.tup xs) → ¬ A p → Reps C A H xs ds → Rep C A H (.ref p) (.tup ds)
  | lst {p : Addr} {xs : List V} {ds : List Dt} : H p = some (.lst xs) → ¬ A p → Reps C A H xs ds → Rep C A H (.ref p) (.lst ds)
  | rng {p : Addr} {lo hi : Int} : H p = some (.rng lo hi) → ¬ A p → Rep C A H (.ref p) (.rng lo hi)
  | sys {p dx : Addr} {fs : List (Str × V)} {x y : V} {n r : Dt} : H p = some (.ins C dx fs) → ¬ A p → fs.lookup ("names" : Str) = some x → fs.lookup ("rows" : Str) = some y → Rep C A H x n → Rep C A H y r → Rep C A H (.ref p) (.sys n r)
inductive Reps (C : Addr) (A : Addr → Prop) (H : Hp) : List V → List Dt → Prop
  | nil : Reps C A H [] []
  | cons {x : V} {d : Dt} {xs : List V} {ds : List Dt} : Rep C A H x d → Reps C A H xs ds → Reps C A H (x :: xs) (d :: ds)
end

section
variable {C : Addr} {A A' : Addr → Prop} {H H' : Hp}
mutual
theorem Rep.mono (k : ∀ a o, ¬ A a → H a = some o → ¬ A' a ∧ H' a = some o) : ∀ {v d}, Rep C A H v d → Rep C A' H' v d
  | _, _, .non => .non
  | _, _, .bl b => .bl b
  | _, _, .int b => .int b
  | _, _, .str b => .str b
  | _, _, .adr b => .adr b
  | _, _, .tup h n r => .tup (k _ _ n h).2 (k _ _ n h).1 (Reps.mono k r)
  | _, _, .lst h n r => .lst (k _ _ n h).2 (k _ _ n h).1 (Reps.mono k r)
  | _, _, .rng h n => .rng (k _ _ n h).2 (k _ _ n h).1
  | _, _, .sys h n e1 e2 r1 r2 => .sys (k _ _ n h).2 (k _ _ n h).1 e1 e2 (Rep.mono k r1) (Rep.mono k r2)
theorem Reps.mono (k : ∀ a o, ¬ A a → H a = some o → ¬ A' a ∧ H' a = some o) : ∀ {vs ds}, Reps C A H vs ds → Reps C A' H' vs ds
  | _, _, .nil => .nil
  | _, _, .cons r t => .cons (Rep.mono k r) (Reps.mono k t)
end
theorem Reps.length : ∀ {xs : List V} {ds : List Dt}, Reps C A H xs ds → xs.length = ds.length
  | _, _, .nil => rfl
  | _, _, .cons _ t => congrArg Nat.succ (Reps.length t)
theorem Reps.get : ∀ {xs : List V} {ds : List Dt} {i : Nat} {d : Dt}, Reps C A H xs ds → ds[i]? = some d → ∃ v, xs[i]? = some v ∧ Rep C A H v d
  | _, _, _, _, .nil, h => by simp at h
  | _, _, 0, d, .cons r _, h => by
    simp only [List.getElem?_cons_zero, Option.some.injEq] at h
    subst h
    exact ⟨_, rfl, r⟩
  | _, _, i + 1, d, .cons _ t, h => by
    simp only [List.getElem?_cons_succ] at h ⊢
    exact Reps.get t h
theorem Reps.getV : ∀ {xs : List V} {ds : List Dt} {i : Nat} {v : V}, Reps C A H xs ds → xs[i]? = some v → ∃ d, ds[i]? = some d ∧ Rep C A H v d
  | _, _, _, _, .nil, h => by simp at h
  | _, _, 0, d, .cons r _, h => by
    simp only [List.getElem?_cons_zero, Option.some.injEq] at h
    subst h
    exact ⟨_, rfl, r⟩
  | _, _, i + 1, d, .cons _ t, h => by
    simp only [List.getElem?_cons_succ] at h ⊢
    exact Reps.getV t h
theorem Reps.append : ∀ {xs ys : List V} {ds es : List Dt}, Reps C A H xs ds → Reps C A H ys es → Reps C A H (xs ++ ys) (ds ++ es)
  | _, _, _, _, .nil, s => s
  | _, _, _, _, .cons r t, s => .cons r (Reps.append t s)
theorem Reps.set {x : V} {d : Dt} (r : Rep C A H x d) : ∀ {xs : List V} {ds : List Dt} (i : Nat), Reps C A H xs ds → Reps C A H (xs.set i x) (ds.set i d)
  | _, _, _, .nil => .nil
  | _, _, 0, .cons _ t => .cons r t
  | _, _, i + 1, .cons q t => .cons q (Reps.set r i t)
theorem Reps.take : ∀ {xs : List V} {ds : List Dt} (n : Nat), Reps C A H xs ds → Reps C A H (xs.take n) (ds.take n)
  | _, _, 0, _ => .nil
  | _, _, _ + 1, .nil => .nil
  | _, _, n + 1, .cons r t => .cons r (Reps.take n t)
theorem Reps.drop : ∀ {xs : List V} {ds : List Dt} (n : Nat), Reps C A H xs ds → Reps C A H (xs.drop n) (ds.drop n)
  | _, _, 0, r => r
  | _, _, _ + 1, .nil => .nil
  | _, _, n + 1, .cons r t => Reps.drop n t
theorem Reps.ints {xs : List V} {ns : List Int} (h : Reps C A H xs (ns.map Dt.int)) : xs = ns.map V.int := by
  induction ns generalizing xs with
  | nil => cases h; rfl
  | cons n ns ih =>
    cases h with
    | cons r t => cases r; rw [ih t]; rfl
theorem Reps.of_ints (ns : List Int) : Reps C A H (ns.map V.int) (ns.map Dt.int) := by
  induction ns with
  | nil => exact .nil
  | cons n ns ih => exact .cons (.int n) ih
theorem Reps.bls {xs : List V} {bs : List Bool} (h : Reps C A H xs (bs.map Dt.bl)) : xs = bs.map V.bl := by
  induction bs generalizing xs with
  | nil => cases h; rfl
  | cons n ns ih =>
    cases h with
    | cons r t => cases r; rw [ih t]; rfl
theorem Reps.strs {xs : List V} {bs : List Str} (h : Reps C A H xs (bs.map Dt.str)) : xs = bs.map V.str := by
  induction bs generalizing xs with
  | nil => cases h; rfl
  | cons n ns ih =>
    cases h with
    | cons r t => cases r; rw [ih t]; rfl
theorem Reps.of_strs (ns : List Str) : Reps C A H (ns.map V.str) (ns.map Dt.str) := by
  induction ns with
  | nil => exact .nil
  | cons n ns ih => exact .cons (.str n) ih
end

/-- what runs around: N may change, A is not to be met in data, I is what is kept -/
structure Wd where
  C : Addr
  K : PySem.W.Frag
  N : Addr → Prop
  A : Addr → Prop
  I : Hp → Prop
  sub : ∀ a, N a → A a
  dom : ∀ H a, I H → A a → H a ≠ none
def Fr (W : Wd) (H H' : Hp) : Prop := ∀ a o, ¬ W.N a → H a = some o → H' a = some o
theorem Fr.refl {W : Wd} (H : Hp) : Fr W H H := fun _ _ _ h => h
theorem Fr.trans {W : Wd} {H H1 H2 : Hp} (a : Fr W H H1) (b : Fr W H1 H2) : Fr W H H2 := fun x o n h => b x o n (a x o n h)
theorem Fr.all {W : Wd} {H H' : Hp} (h : ∀ a o, H a = some o → H' a = some o) : Fr W H H' := fun a o _ e => h a o e
theorem Fr.new {W : Wd} {H : Hp} {p : Addr} {o : HO} (h : H p = none) : Fr W H (upd H p o) := fun a u _ e => by
  rw [upd_ne (ne_of_none e h)]; exact e
/-- the invariant stays where all stays -/
structure Wd.Ok (W : Wd) : Prop where
  keep : ∀ H H', W.I H → (∀ a o, (W.N a ∨ ∀ xs, o ≠ .lst xs) → H a = some o → H' a = some o) → (∀ a, W.A a → H' a ≠ none) → W.I H'
theorem Wd.Ok.all {W : Wd} (k : W.Ok) {H H' : Hp} (i : W.I H) (h : ∀ a o, H a = some o → H' a = some o) : W.I H' :=
  k.keep H H' i (fun a o _ e => h a o e) fun a ha z => by
    cases e : H a with
    | none => exact W.dom H a i ha e
    | some o => rw [h a o e] at z; cases z

inductive Sl where
  | sh (d : Dt)
  | own (ds : List Dt)
abbrev Dl := List (Option Sl)
abbrev Wd.M (W : Wd) (O : Addr → Prop) : Addr → Prop := fun a => W.A a ∨ O a
/-- what else is to stay, whoever owns what -/
structure Gh (W : Wd) where
  p : (Addr → Prop) → Hp → Prop
  st : ∀ (O O' : Addr → Prop) (H H' : Hp), p O H → (∀ a o, ¬ W.N a → ¬ O a → H a = some o → H' a = some o) → (∀ a, O' a → O a ∨ H a = none) → p O' H'

structure SR (W : Wd) (g : Gh W) (O : Addr → Prop) (H : Hp) (σ : L2.St) (δ : Dl) : Prop where
  len : σ.length = δ.length
  sh : ∀ (i : Nat) (d : Dt), δ[i]? = some (some (Sl.sh d)) → ∃ v, σ[i]? = some (some v) ∧ Rep W.C (W.M O) H v d
  own : ∀ (i : Nat) (ds : List Dt), δ[i]? = some (some (Sl.own ds)) → ∃ p xs, σ[i]? = some (some (V.ref p)) ∧ O p ∧ H p = some (.lst xs) ∧ Reps W.C (W.M O) H xs ds
  dis : ∀ (i j : Nat) (p : Addr) (ds es : List Dt), δ[i]? = some (some (Sl.own ds)) → δ[j]? = some (some (Sl.own es)) → σ[i]? = some (some (V.ref p)) → σ[j]? = some (some (V.ref p)) → i = j
  oA : ∀ a, O a → ¬ W.A a ∧ H a ≠ none
  gh : g.p O H
  inv : W.I H
  oL : ∀ a, O a → ∃ xs, H a = some (.lst xs)

section
variable {W : Wd} {g : Gh W} {O : Addr → Prop} {H H' : Hp} {σ : L2.St} {δ : Dl}
theorem Rep.fr (f : Fr W H H') {v d} (r : Rep W.C (W.M O) H v d) : Rep W.C (W.M O) H' v d := r.mono fun a o n h => ⟨n, f a o (fun z => n (.inl (W.sub a z))) h⟩
theorem Reps.fr (f : Fr W H H') {v d} (r : Reps W.C (W.M O) H v d) : Reps W.C (W.M O) H' v d := r.mono fun a o n h => ⟨n, f a o (fun z => n (.inl (W.sub a z))) h⟩
theorem SR.own_n (S : SR W g O H σ δ) {p : Addr} (h : O p) : ¬ W.N p := fun z => (S.oA p h).1 (W.sub p z)
theorem SR.step (S : SR W g O H σ δ) (f : Fr W H H') (i : W.I H') : SR W g O H' σ δ where
  len := S.len
  sh := fun k d h => let ⟨v, e, r⟩ := S.sh k d h; ⟨v, e, r.fr f⟩
  own := fun k ds h => let ⟨p, xs, e, o, hp, r⟩ := S.own k ds h; ⟨p, xs, e, o, f p _ (S.own_n o) hp, r.fr f⟩
  dis := S.dis
  oA := fun a h => ⟨(S.oA a h).1, fun z => by
    cases e : H a with
    | none => exact (S.oA a h).2 e
    | some o => rw [f a o (S.own_n h) e] at z; cases z⟩
  gh := g.st O O H H' S.gh (fun a o n _ h => f a o n h) fun a h => .inl h
  inv := i
  oL := fun a h => let ⟨xs, e⟩ := S.oL a h; ⟨xs, f a _ (S.own_n h) e⟩
end

/-! ### judgements -/
def Er (W : Wd) (te : TE) (δ : Dl) (P : Dt → Prop) : Prop := ∀ (g : Gh W) (O : Addr → Prop) (σ : L2.St) (H : Hp), SR W g O H σ δ → ∀ Q : VK, (∀ v H' d, Fr W H H' → W.I H' → P d → Rep W.C (W.M O) H' v d → Q v H') → te σ H Q
def Ed (W : Wd) (te : TE) (δ : Dl) (d : Dt) : Prop := Er W te δ fun x => x = d
def Ear (W : Wd) (ta : TA) (δ : Dl) (P : List Dt → Prop) : Prop := ∀ (g : Gh W) (O : Addr → Prop) (σ : L2.St) (H : Hp), SR W g O H σ δ → ∀ Q : List V → Hp → Prop, (∀ vs H' ds, Fr W H H' → W.I H' → P ds → Reps W.C (W.M O) H' vs ds → Q vs H') → ta σ H Q
def Ea (W : Wd) (ta : TA) (δ : Dl) (ds : List Dt) : Prop := Ear W ta δ fun x => x = ds
def Et (W : Wd) (tt : TT) (δ : Dl) (b : Bool) : Prop := ∀ (g : Gh W) (O : Addr → Prop) (σ : L2.St) (H : Hp), SR W g O H σ δ → ∀ Q : Bool → Hp → Prop, (∀ H', Fr W H H' → W.I H' → Q b H') → tt σ H Q
/-- a list that may be read -/
def Ec (W : Wd) (te : TE) (δ : Dl) (ds : List Dt) : Prop := ∀ (g : Gh W) (O : Addr → Prop) (σ : L2.St) (H : Hp), SR W g O H σ δ → ∀ Q : VK, (∀ p xs H', Fr W H H' → W.I H' → H' p = some (.lst xs) → ¬ W.N p → Reps W.C (W.M O) H' xs ds → Q (.ref p) H') → te σ H Q
/-- a new list -/
def Efr (W : Wd) (te : TE) (δ : Dl) (P : List Dt → Prop) : Prop := ∀ (g : Gh W) (O : Addr → Prop) (σ : L2.St) (H : Hp), SR W g O H σ δ → ∀ Q : VK, (∀ p xs H' ds, Fr W H H' → W.I H' → P ds → H p = none → H' p = some (.lst xs) → Reps W.C (W.M fun a => O a ∨ a = p) H' xs ds → Q (.ref p) H') → te σ H Q
def Ef (W : Wd) (te : TE) (δ : Dl) (ds : List Dt) : Prop := Efr W te δ fun x => x = ds
/-- an operation upon data -/
def OpD (W : Wd) (r : R2) (x y z : Dt) : Prop := ∀ (O : Addr → Prop) (H : Hp) (u v : V), W.I H → (∀ a, O a → ¬ W.A a ∧ H a ≠ none) → Rep W.C (W.M O) H u x → Rep W.C (W.M O) H v y → ∀ Q : VK, (∀ w H', Fr W H H' → W.I H' → Rep W.C (W.M O) H' w z → Q w H') → r u v H Q
def UnD (W : Wd) (r : V → Hp → VK → Prop) (x z : Dt) : Prop := ∀ (O : Addr → Prop) (H : Hp) (u : V), W.I H → (∀ a, O a → ¬ W.A a ∧ H a ≠ none) → Rep W.C (W.M O) H u x → ∀ Q : VK, (∀ w H', Fr W H H' → W.I H' → Rep W.C (W.M O) H' w z → Q w H') → r u H Q
def CaD (W : Wd) (r : List V → Hp → VK → Prop) (xs : List Dt) (z : Dt) : Prop := ∀ (O : Addr → Prop) (H : Hp) (us : List V), W.I H → (∀ a, O a → ¬ W.A a ∧ H a ≠ none) → Reps W.C (W.M O) H us xs → ∀ Q : VK, (∀ w H', Fr W H H' → W.I H' → Rep W.C (W.M O) H' w z → Q w H') → r us H Q

section
variable {W : Wd} {g : Gh W} {O : Addr → Prop} {H H' : Hp} {σ : L2.St} {δ : Dl} {te ta tb : TE} {d d1 d2 z : Dt} {P P1 P2 : Dt → Prop} {r : R2} {ds : List Dt}
theorem Er.imp (h : Er W te δ P1) (k : ∀ d, P1 d → P d) : Er W te δ P := fun g O σ H S Q q => h g O σ H S Q fun v H' d f i p r => q v H' d f i (k d p) r
theorem Ed.er (h : Ed W te δ d) (k : P d) : Er W te δ P := Er.imp h fun x e => by rw [e]; exact k
theorem Ed.to (h : Ed W te δ d) (e : d = z) : Ed W te δ z := by rw [← e]; exact h
theorem Ef.to {es : List Dt} (h : Ef W te δ ds) (e : ds = es) : Ef W te δ es := by rw [← e]; exact h
theorem Ec.to {es : List Dt} (h : Ec W te δ ds) (e : ds = es) : Ec W te δ es := by rw [← e]; exact h
theorem Ea.to {ta : TA} {es : List Dt} (h : Ea W ta δ ds) (e : ds = es) : Ea W ta δ es := by rw [← e]; exact h
theorem Et.to {tt : TT} {a b : Bool} (h : Et W tt δ a) (e : a = b) : Et W tt δ b := by rw [← e]; exact h
theorem Efr.imp {P P1 : List Dt → Prop} (h : Efr W te δ P1) (k : ∀ d, P1 d → P d) : Efr W te δ P := fun g O σ H S Q q => h g O σ H S Q fun p xs H' d f i y n hp r => q p xs H' d f i (k d y) n hp r
/-- a new list is a list -/
theorem SR.fresh (S : SR W g O H σ δ) {p : Addr} (n : H p = none) : ¬ W.M O p := fun z => by
  rcases z with z | z
  · exact W.dom H p S.inv z n
  · exact (S.oA p z).2 n
theorem Reps.less {p : Addr} {xs : List V} (r : Reps W.C (W.M fun a => O a ∨ a = p) H xs ds) : Reps W.C (W.M O) H xs ds :=
  r.mono fun a o n h => ⟨fun z => n (z.elim .inl fun y => .inr (.inl y)), h⟩
theorem Efr.er {P : List Dt → Prop} (h : Efr W te δ P) : Er W te δ fun d => ∃ ds, d = .lst ds ∧ P ds := fun g O σ H S Q q => h g O σ H S Q fun p xs H' ds f i y n hp r =>
  q _ _ _ f i ⟨ds, rfl, y⟩ (.lst hp (S.fresh n) r.less)
theorem Ef.ed (h : Ef W te δ ds) : Ed W te δ (.lst ds) := Er.imp (Efr.er h) fun d ⟨es, e1, e2⟩ => by rw [e1, e2]
theorem Ed.ec (h : Ed W te δ (.lst ds)) : Ec W te δ ds := fun g O σ H S Q q => h g O σ H S _ fun v H' d f i e r => by
  subst e
  cases r with
  | lst hp n r => exact q _ _ _ f i hp (fun z => n (.inl (W.sub _ z))) r
theorem Ef.ec (h : Ef W te δ ds) : Ec W te δ ds := h.ed.ec

/-! ### names, constants -/
theorem ed_var {i : Nat} (h : δ[i]? = some (some (Sl.sh d))) : Ed W (tVar i) δ d := fun g O σ H S Q q => by
  obtain ⟨v, e, r⟩ := S.sh i d h
  exact ⟨v, e, q v H d (Fr.refl H) S.inv rfl r⟩
theorem ec_var {i : Nat} (h : δ[i]? = some (some (Sl.own ds))) : Ec W (tVar i) δ ds := fun g O σ H S Q q => by
  obtain ⟨p, xs, e, o, hp, r⟩ := S.own i ds h
  exact ⟨_, e, q p xs H (Fr.refl H) S.inv hp (S.own_n o) r⟩
theorem ed_int {i : Int} : Ed W (tC (.int i)) δ (.int i) := fun g O σ H S Q q => q _ H _ (Fr.refl H) S.inv rfl (.int i)
theorem ed_bl {i : Bool} : Ed W (tC (.bl i)) δ (.bl i) := fun g O σ H S Q q => q _ H _ (Fr.refl H) S.inv rfl (.bl i)
theorem ed_str {i : Str} : Ed W (tC (.str i)) δ (.str i) := fun g O σ H S Q q => q _ H _ (Fr.refl H) S.inv rfl (.str i)
theorem ed_non : Ed W (tC .non) δ .non := fun g O σ H S Q q => q _ H _ (Fr.refl H) S.inv rfl .non

/-! ### operations -/
theorem er_op {P2 : Dt → Dt → Prop} (ha : Er W ta δ P1) (hb : ∀ d, P1 d → Er W tb δ (P2 d)) (hr : ∀ x y, P1 x → P2 x y → ∃ z, OpD W r x y z ∧ P z) : Er W (tOp r ta tb) δ P := fun g O σ H S Q q =>
  ha g O σ H S _ fun v H1 x f1 i1 p1 r1 => hb x p1 g O σ H1 (S.step f1 i1) _ fun u H2 y f2 i2 p2 r2 => by
    obtain ⟨z, oz, pz⟩ := hr x y p1 p2
    exact oz O H2 v u i2 (((S.step f1 i1).step f2 i2).oA) (r1.fr f2) r2 Q fun w H3 f3 i3 r3 => q w H3 z ((f1.trans f2).trans f3) i3 pz r3
theorem ed_op (ha : Ed W ta δ d1) (hb : Ed W tb δ d2) (hr : OpD W r d1 d2 z) : Ed W (tOp r ta tb) δ z :=
  er_op (P2 := fun _ y => y = d2) ha (fun _ _ => hb) fun x y e1 e2 => by subst e1 e2; exact ⟨z, hr, rfl⟩
theorem er_un {ru : V → Hp → VK → Prop} (ha : Er W ta δ P1) (hr : ∀ x, P1 x → ∃ z, UnD W ru x z ∧ P z) : Er W (tUn ru ta) δ P := fun g O σ H S Q q =>
  ha g O σ H S _ fun v H1 x f1 i1 p1 r1 => by
    obtain ⟨z, oz, pz⟩ := hr x p1
    exact oz O H1 v i1 (S.step f1 i1).oA r1 Q fun w H3 f3 i3 r3 => q w H3 z (f1.trans f3) i3 pz r3
theorem ed_un {ru : V → Hp → VK → Prop} (ha : Ed W ta δ d1) (hr : UnD W ru d1 z) : Ed W (tUn ru ta) δ z := er_un ha fun x e => by subst e; exact ⟨z, hr, rfl⟩
theorem od_I0 {f : Int → Int → Int} {a b : Int} : OpD W (rI0 fun i j => .int (f i j)) (.int a) (.int b) (.int (f a b)) := fun O H u v i _ ru rv Q q => by
  cases ru; cases rv
  exact ⟨a, b, rfl, rfl, q _ H (Fr.refl H) i (.int _)⟩
theorem od_B0 {f : Int → Int → Bool} {a b : Int} : OpD W (rI0 fun i j => .bl (f i j)) (.int a) (.int b) (.bl (f a b)) := fun O H u v i _ ru rv Q q => by
  cases ru; cases rv
  exact ⟨a, b, rfl, rfl, q _ H (Fr.refl H) i (.bl _)⟩
theorem od_I {Cn : Int → Int → Prop} {f : Int → Int → Int} {a b : Int} (hc : Cn a b) : OpD W (rI Cn fun i j => .int (f i j)) (.int a) (.int b) (.int (f a b)) := fun O H u v i _ ru rv Q q => by
  cases ru; cases rv
  exact ⟨a, b, rfl, rfl, hc, q _ H (Fr.refl H) i (.int _)⟩
theorem ud_U {f : Int → Int} {a : Int} : UnD W (rU fun i => .int (f i)) (.int a) (.int (f a)) := fun O H u i _ ru Q q => by
  cases ru
  exact ⟨a, rfl, q _ H (Fr.refl H) i (.int _)⟩
/-- int is int, text is text, bool is bool -/
theorem od_eqI {a b : Int} : OpD W rEq (.int a) (.int b) (.bl (decide (a = b))) := fun O H u v i _ ru rv Q q => by
  cases ru; cases rv
  have e : decide (V.int a = V.int b) = decide (a = b) := by
    by_cases h : a = b
    · subst h; simp
    · simp [h]
  exact ⟨rfl, by rw [e]; exact q _ H (Fr.refl H) i (.bl _)⟩
theorem od_neI {a b : Int} : OpD W rNe (.int a) (.int b) (.bl (!decide (a = b))) := fun O H u v i _ ru rv Q q => by
  cases ru; cases rv
  have e : decide (V.int a = V.int b) = decide (a = b) := by
    by_cases h : a = b
    · subst h; simp
    · simp [h]
  exact ⟨rfl, by rw [e]; exact q _ H (Fr.refl H) i (.bl _)⟩
theorem od_eqS {a b : Str} : OpD W rEq (.str a) (.str b) (.bl (decide (a = b))) := fun O H u v i _ ru rv Q q => by
  cases ru; cases rv
  have e : decide (V.str a = V.str b) = decide (a = b) := by
    by_cases h : a = b
    · subst h; simp
    · simp [h]
  exact ⟨rfl, by rw [e]; exact q _ H (Fr.refl H) i (.bl _)⟩
theorem od_neB {a b : Bool} : OpD W rNe (.bl a) (.bl b) (.bl (!decide (a = b))) := fun O H u v i _ ru rv Q q => by
  cases ru; cases rv
  have e : decide (V.bl a = V.bl b) = decide (a = b) := by
    by_cases h : a = b
    · subst h; simp
    · simp [h]
  exact ⟨rfl, by rw [e]; exact q _ H (Fr.refl H) i (.bl _)⟩

/-! ### items -/
theorem atI_rep {C : Addr} {A : Addr → Prop} {xs : List V} {i : Int} (r : Reps C A H xs ds) (h : atI ds i = some d) : ∃ v, atI xs i = some v ∧ Rep C A H v d := by
  unfold atI at h ⊢
  rw [r.length]
  cases e : ixN ds.length i with
  | none => rw [e] at h; cases h
  | some j =>
    rw [e] at h
    exact r.get h
theorem ed_ixL {i : Int} (ha : Ec W ta δ ds) (hb : Ed W tb δ (.int i)) (h : atI ds i = some d) : Ed W (tOp (rIxL W.K) ta tb) δ d := fun g O σ H S Q q =>
  ha g O σ H S _ fun p xs H1 f1 i1 hp n r1 => hb g O σ H1 (S.step f1 i1) _ fun u H2 y f2 i2 e r2 => by
    subst e
    cases r2
    obtain ⟨v, hv, rv⟩ := atI_rep (r1.fr f2) h
    exact ⟨p, xs, i, v, rfl, rfl, SqL.of (f2 p _ n hp), hv, q v H2 d (f1.trans f2) i2 rfl rv⟩
theorem er_ixL (ha : Ec W ta δ ds) (hb : Er W tb δ P1) (h : ∀ y, P1 y → ∃ i d, y = .int i ∧ atI ds i = some d ∧ P d) : Er W (tOp (rIxL W.K) ta tb) δ P := fun g O σ H S Q q =>
  ha g O σ H S _ fun p xs H1 f1 i1 hp n r1 => hb g O σ H1 (S.step f1 i1) _ fun u H2 y f2 i2 p2 r2 => by
    obtain ⟨i, d, e, hd, pd⟩ := h y p2
    subst e
    cases r2
    obtain ⟨v, hv, rv⟩ := atI_rep (r1.fr f2) hd
    exact ⟨p, xs, i, v, rfl, rfl, SqL.of (f2 p _ n hp), hv, q v H2 d (f1.trans f2) i2 pd rv⟩
theorem od_ixT {i : Int} (h : atI ds i = some d) : OpD W (rIxT W.K) (.tup ds) (.int i) d := fun O H u v i1 _ ru rv Q q => by
  cases rv
  cases ru with
  | tup hp n r =>
    obtain ⟨v, hv, rv⟩ := atI_rep r h
    exact ⟨_, _, i, v, rfl, rfl, SqT.of hp, hv, q v H (Fr.refl H) i1 rv⟩
theorem od_ixS {s : Str} {i : Int} {c : Nat} (hl : s.length ≤ sizeLine) (h : atI s.cps.toList i = some c) : OpD W rIxS (.str s) (.int i) (.str ⟨#[c]⟩) := fun O H u v i1 _ ru rv Q q => by
  cases rv; cases ru
  exact ⟨s, i, c, rfl, rfl, hl, h, q _ H (Fr.refl H) i1 (.str _)⟩

/-! ### argument lists, displays -/
theorem ear_nil : Ea W tNil δ [] := fun g O σ H S Q q => q [] H _ (Fr.refl H) S.inv rfl .nil
theorem ear_cons {tr : TA} {PL PR : List Dt → Prop} (h : Er W ta δ P1) (hr : ∀ d, P1 d → Ear W tr δ fun ds => PL (d :: ds)) : Ear W (tCons ta tr) δ PL := fun g O σ H S Q q =>
  h g O σ H S _ fun v H1 d f1 i1 p1 r1 => hr d p1 g O σ H1 (S.step f1 i1) _ fun vs H2 ds f2 i2 p2 r2 => q _ H2 _ (f1.trans f2) i2 p2 (.cons (r1.fr f2) r2)
theorem ea_nil : Ea W tNil δ [] := ear_nil
theorem ea_cons {tr : TA} (h : Ed W ta δ d) (hr : Ea W tr δ ds) : Ea W (tCons ta tr) δ (d :: ds) := ear_cons (PR := fun _ => True) h fun x e => by
  subst e
  exact fun g O σ H S Q q => hr g O σ H S Q fun vs H' ds f i e r => q vs H' ds f i (by rw [e]) r
theorem Ear.imp {tr : TA} {PL PR : List Dt → Prop} (h : Ear W tr δ PR) (k : ∀ ds, PR ds → PL ds) : Ear W tr δ PL := fun g O σ H S Q q => h g O σ H S Q fun v H' d f i p r => q v H' d f i (k d p) r
theorem er_tup {tr : TA} {PL : List Dt → Prop} (k : W.Ok) (h : Ear W tr δ PL) (hl : ∀ ds, PL ds → ds.length ≤ 100000 ∧ P (.tup ds)) : Er W (tTup tr) δ P := fun g O σ H S Q q =>
  h g O σ H S _ fun vs H1 ds f1 i1 p1 r1 => ⟨by rw [r1.length]; exact Nat.le_trans (hl ds p1).1 (by decide), fun p hp => by
    have f2 : Fr W H1 (upd H1 p (.tup vs)) := Fr.new hp
    exact q _ _ _ (f1.trans f2) (k.all i1 fun a o e => by rw [upd_ne (ne_of_none e hp)]; exact e) (hl ds p1).2 (.tup upd_same ((S.step f1 i1).fresh hp) (r1.fr f2))⟩
theorem ed_tup {tr : TA} (k : W.Ok) (h : Ea W tr δ ds) (hl : ds.length ≤ 100000) : Ed W (tTup tr) δ (.tup ds) := er_tup k h fun es e => by subst e; exact ⟨hl, rfl⟩
theorem efr_lst {tr : TA} {PL : List Dt → Prop} (k : W.Ok) (h : Ear W tr δ PL) (hl : ∀ ds, PL ds → ds.length ≤ 100000) : Efr W (tLst tr) δ PL := fun g O σ H S Q q =>
  h g O σ H S _ fun vs H1 ds f1 i1 p1 r1 => ⟨by rw [r1.length]; exact Nat.le_trans (hl ds p1) (by decide), fun p hp => by
    have f2 : Fr W H1 (upd H1 p (.lst vs)) := Fr.new hp
    have n0 : H p = none := by
      cases e : H p with
      | none => rfl
      | some o =>
        by_cases hN : W.N p
        · exact absurd hp (W.dom H1 p i1 (W.sub p hN))
        · rw [f1 p o hN e] at hp; cases hp
    have key : ∀ a o, ¬ W.M O a → H1 a = some o → ¬ W.M (fun a => O a ∨ a = p) a ∧ upd H1 p (.lst vs) a = some o := fun a o n e => by
      have ne : a ≠ p := ne_of_none e hp
      refine ⟨fun z => ?_, by rw [upd_ne ne]; exact e⟩
      rcases z with z | z | z
      · exact n (.inl z)
      · exact n (.inr z)
      · exact ne z
    exact q _ _ _ _ (f1.trans f2) (k.all i1 fun a o e => by rw [upd_ne (ne_of_none e hp)]; exact e) p1 n0 upd_same (r1.mono key)⟩
theorem ef_lst {tr : TA} (k : W.Ok) (h : Ea W tr δ ds) (hl : ds.length ≤ 100000) : Ef W (tLst tr) δ ds := efr_lst k h fun es e => by subst e; exact hl
end
end DL
namespace DL
open PySem PySem.Spec PyProof.Rows L2

/-! ### slots -/
section
variable {W : Wd} {g : Gh W} {O O' : Addr → Prop} {H H' : Hp} {σ σ' : L2.St} {δ δ' : Dl} {d : Dt} {ds : List Dt} {v : V}
theorem SR.setSh (S : SR W g O H σ δ) {j : Nat} (r : Rep W.C (W.M O) H v d) (hj : j < δ.length) : SR W g O H (σ.set j (some v)) (δ.set j (some (Sl.sh d))) where
  len := by simp [S.len]
  sh := fun i e h => by
    by_cases hi : j = i
    · subst hi
      rw [List.getElem?_set_self hj] at h
      simp only [Option.some.injEq, Sl.sh.injEq] at h
      subst h
      exact ⟨v, by rw [List.getElem?_set_self (by rw [S.len]; exact hj)], r⟩
    · rw [List.getElem?_set_ne hi] at h
      rw [List.getElem?_set_ne hi]
      exact S.sh i e h
  own := fun i es h => by
    by_cases hi : j = i
    · subst hi
      rw [List.getElem?_set_self hj] at h
      simp at h
    · rw [List.getElem?_set_ne hi] at h
      rw [List.getElem?_set_ne hi]
      exact S.own i es h
  dis := fun i k p es fs h1 h2 e1 e2 => by
    by_cases hi : j = i
    · subst hi
      rw [List.getElem?_set_self hj] at h1
      simp at h1
    · by_cases hk : j = k
      · subst hk
        rw [List.getElem?_set_self hj] at h2
        simp at h2
      · rw [List.getElem?_set_ne hi] at h1 e1
        rw [List.getElem?_set_ne hk] at h2 e2
        exact S.dis i k p es fs h1 h2 e1 e2
  oA := S.oA
  gh := S.gh
  inv := S.inv
  oL := S.oL
/-- more is owned: a new list -/
theorem SR.more {p : Addr} {xs : List V} (S : SR W g O H σ δ) (n : H p = none) (f : Fr W H H') (i : W.I H') (hp : H' p = some (.lst xs)) : SR W g (fun a => O a ∨ a = p) H' σ δ := by
  have key : ∀ a o, ¬ W.M O a → H a = some o → ¬ W.M (fun a => O a ∨ a = p) a ∧ H' a = some o := fun a o na e => by
    have ne : a ≠ p := ne_of_none e n
    refine ⟨fun z => ?_, f a o (fun z => na (.inl (W.sub a z))) e⟩
    rcases z with z | z | z
    · exact na (.inl z)
    · exact na (.inr z)
    · exact ne z
  refine ⟨S.len, fun k e h => let ⟨v, h1, r⟩ := S.sh k e h; ⟨v, h1, r.mono key⟩, fun k es h => ?_, S.dis, fun a h => ?_, ?_, i, fun a h => ?_⟩
  · obtain ⟨q, ys, e, o, hq, r⟩ := S.own k es h
    exact ⟨q, ys, e, .inl o, f q _ (S.own_n o) hq, r.mono key⟩
  · rcases h with h | h
    · exact (S.step f i).oA a h
    · subst h
      exact ⟨fun z => W.dom H a S.inv z n, by rw [hp]; simp⟩
  · exact g.st O _ H H' S.gh (fun a o nN _ e => f a o nN e) fun a h => h.elim .inl fun z => .inr (by rw [z]; exact n)
  · rcases h with h | h
    · obtain ⟨ys, e⟩ := S.oL a h
      exact ⟨ys, f a _ (S.own_n h) e⟩
    · subst h
      exact ⟨xs, hp⟩
/-- an owned list goes into a slot -/
theorem SR.setOwn {j : Nat} {p : Addr} {xs : List V} (S : SR W g O H σ δ) (hO : O p) (hp : H p = some (.lst xs)) (r : Reps W.C (W.M O) H xs ds) (hj : j < δ.length)
    (hd : ∀ (i : Nat) (es : List Dt), i ≠ j → δ[i]? = some (some (Sl.own es)) → σ[i]? ≠ some (some (V.ref p))) : SR W g O H (σ.set j (some (.ref p))) (δ.set j (some (Sl.own ds))) where
  len := by simp [S.len]
  sh := fun i e h => by
    by_cases hi : j = i
    · subst hi
      rw [List.getElem?_set_self hj] at h
      simp at h
    · rw [List.getElem?_set_ne hi] at h
      rw [List.getElem?_set_ne hi]
      exact S.sh i e h
  own := fun i es h => by
    by_cases hi : j = i
    · subst hi
      rw [List.getElem?_set_self hj] at h
      simp only [Option.some.injEq, Sl.own.injEq] at h
      subst h
      exact ⟨p, xs, by rw [List.getElem?_set_self (by rw [S.len]; exact hj)], hO, hp, r⟩
    · rw [List.getElem?_set_ne hi] at h
      rw [List.getElem?_set_ne hi]
      exact S.own i es h
  dis := fun i k q es fs h1 h2 e1 e2 => by
    by_cases hi : j = i
    · subst hi
      by_cases hk : j = k
      · exact hk
      · rw [List.getElem?_set_self (by rw [S.len]; exact hj)] at e1
        simp only [Option.some.injEq, V.ref.injEq] at e1
        subst e1
        rw [List.getElem?_set_ne hk] at h2 e2
        exact absurd e2 (hd k fs (Ne.symm hk) h2)
    · by_cases hk : j = k
      · subst hk
        rw [List.getElem?_set_self (by rw [S.len]; exact hj)] at e2
        simp only [Option.some.injEq, V.ref.injEq] at e2
        subst e2
        rw [List.getElem?_set_ne hi] at h1 e1
        exact absurd e1 (hd i es (Ne.symm hi) h1)
      · rw [List.getElem?_set_ne hi] at h1 e1
        rw [List.getElem?_set_ne hk] at h2 e2
        exact S.dis i k q es fs h1 h2 e1 e2
  oA := S.oA
  gh := S.gh
  inv := S.inv
  oL := S.oL
/-- an owned list changes its content -/
theorem SR.write {j : Nat} {p : Addr} {ys : List V} {es : List Dt} (k : W.Ok) (S : SR W g O H σ δ) (hd : δ[j]? = some (some (Sl.own ds))) (hs : σ[j]? = some (some (V.ref p))) (r : Reps W.C (W.M O) H ys es) : SR W g O (upd H p (.lst ys)) σ (δ.set j (some (Sl.own es))) := by
  obtain ⟨q, zs, e, hO, hq, _⟩ := S.own j ds hd
  rw [hs] at e
  simp only [Option.some.injEq, V.ref.injEq] at e
  subst e
  have hj : j < δ.length := (List.getElem?_eq_some_iff.mp hd).1
  have key : ∀ a o, ¬ W.M O a → H a = some o → ¬ W.M O a ∧ upd H p (.lst ys) a = some o := fun a o na e => by
    have ne : a ≠ p := fun z => na (.inr (by rw [z]; exact hO))
    exact ⟨na, by rw [upd_ne ne]; exact e⟩
  refine ⟨by simp [S.len], fun i e h => ?_, fun i fs h => ?_, fun i l q es fs h1 h2 e1 e2 => ?_, fun a h => ?_, ?_, ?_, fun a h => ?_⟩
  · by_cases hi : j = i
    · subst hi
      rw [List.getElem?_set_self hj] at h
      simp at h
    · rw [List.getElem?_set_ne hi] at h
      obtain ⟨v, h1, r1⟩ := S.sh i e h
      exact ⟨v, h1, r1.mono key⟩
  · by_cases hi : j = i
    · subst hi
      rw [List.getElem?_set_self hj] at h
      simp only [Option.some.injEq, Sl.own.injEq] at h
      subst h
      exact ⟨p, ys, hs, hO, upd_same, r.mono key⟩
    · rw [List.getElem?_set_ne hi] at h
      obtain ⟨q, zs, h1, h2, h3, r1⟩ := S.own i fs h
      have ne : q ≠ p := fun z => by
        subst z
        exact hi (S.dis j i q ds fs hd h hs h1)
      exact ⟨q, zs, h1, h2, by rw [upd_ne ne]; exact h3, r1.mono key⟩
  · have aux : ∀ (i : Nat) (fs : List Dt), (δ.set j (some (Sl.own es)))[i]? = some (some (Sl.own fs)) → ∃ fs', δ[i]? = some (some (Sl.own fs')) := fun i fs h => by
      by_cases hi : j = i
      · subst hi; exact ⟨ds, hd⟩
      · rw [List.getElem?_set_ne hi] at h; exact ⟨fs, h⟩
    have aux2 : ∀ (es0 : List Dt) (i : Nat) (fs : List Dt), (δ.set j (some (Sl.own es0)))[i]? = some (some (Sl.own fs)) → ∃ fs', δ[i]? = some (some (Sl.own fs')) := fun es0 i fs h => by
      by_cases hi : j = i
      · subst hi; exact ⟨ds, hd⟩
      · rw [List.getElem?_set_ne hi] at h; exact ⟨fs, h⟩
    obtain ⟨f1, g1⟩ := aux2 _ i _ h1
    obtain ⟨f2, g2⟩ := aux2 _ l _ h2
    exact S.dis i l q f1 f2 g1 g2 e1 e2
  · refine ⟨(S.oA a h).1, fun z => ?_⟩
    by_cases ha : a = p
    · rw [ha, upd_same] at z; cases z
    · rw [upd_ne ha] at z; exact (S.oA a h).2 z
  · exact g.st O O H _ S.gh (fun a o _ nO e => by rw [upd_ne (fun z => nO (by rw [z]; exact hO))]; exact e) fun a h => .inl h
  · refine k.keep H _ S.inv (fun a o hN e => ?_) fun a hA z => ?_
    · have ne : a ≠ p := fun z => by
        rcases hN with hN | hN
        · exact (S.oA p hO).1 (W.sub p (by rw [← z]; exact hN))
        · rw [z, hq] at e
          exact hN _ (Option.some.inj e).symm
      rw [upd_ne ne]; exact e
    · by_cases ha : a = p
      · rw [ha, upd_same] at z; cases z
      · rw [upd_ne ha] at z; exact W.dom H a S.inv hA z
  · by_cases ha : a = p
    · subst ha
      exact ⟨ys, upd_same⟩
    · obtain ⟨zs, e⟩ := S.oL a h
      exact ⟨zs, by rw [upd_ne ha]; exact e⟩
/-- an owned list becomes a datum -/
theorem SR.freeze {j : Nat} (S : SR W g O H σ δ) (hd : δ[j]? = some (some (Sl.own ds))) : ∃ O', (∀ a, O' a → O a) ∧ SR W g O' H σ (δ.set j (some (Sl.sh (.lst ds)))) := by
  obtain ⟨p, xs, e, hO, hp, r⟩ := S.own j ds hd
  have hj : j < δ.length := (List.getElem?_eq_some_iff.mp hd).1
  have key : ∀ a o, ¬ W.M O a → H a = some o → ¬ W.M (fun a => O a ∧ a ≠ p) a ∧ H a = some o := fun a o na e => ⟨fun z => na (z.elim .inl fun y => .inr y.1), e⟩
  refine ⟨fun a => O a ∧ a ≠ p, fun a h => h.1, ?_⟩
  refine ⟨by simp [S.len], fun i e' h => ?_, fun i fs h => ?_, fun i l q es fs h1 h2 e1 e2 => ?_, fun a h => S.oA a h.1, ?_, S.inv, fun a h => S.oL a h.1⟩
  · by_cases hi : j = i
    · subst hi
      rw [List.getElem?_set_self hj] at h
      simp only [Option.some.injEq, Sl.sh.injEq] at h
      subst h
      exact ⟨.ref p, e, .lst hp (fun z => z.elim (S.oA p hO).1 fun y => y.2 rfl) (r.mono key)⟩
    · rw [List.getElem?_set_ne hi] at h
      obtain ⟨v, h1, r1⟩ := S.sh i e' h
      exact ⟨v, h1, r1.mono key⟩
  · by_cases hi : j = i
    · subst hi
      rw [List.getElem?_set_self hj] at h
      simp at h
    · rw [List.getElem?_set_ne hi] at h
      obtain ⟨q, zs, h1, h2, h3, r1⟩ := S.own i fs h
      have ne : q ≠ p := fun z => by
        subst z
        exact hi (S.dis j i q ds fs hd h e h1)
      exact ⟨q, zs, h1, ⟨h2, ne⟩, h3, r1.mono key⟩
  · have aux : ∀ (i : Nat) (fs : List Dt), (δ.set j (some (Sl.sh (.lst ds))))[i]? = some (some (Sl.own fs)) → δ[i]? = some (some (Sl.own fs)) := fun i fs h => by
      by_cases hi : j = i
      · subst hi
        rw [List.getElem?_set_self hj] at h
        simp at h
      · rw [List.getElem?_set_ne hi] at h; exact h
    exact S.dis i l q es fs (aux i es h1) (aux l fs h2) e1 e2
  · exact g.st O _ H H S.gh (fun a o _ _ e => e) fun a h => .inl h.1
theorem SR.gh' (S : SR W g O H σ δ) (g' : Gh W) (h : g'.p O H) : SR W g' O H σ δ := ⟨S.len, S.sh, S.own, S.dis, S.oA, h, S.inv, S.oL⟩
end
def Gh.and {W : Wd} (g h : Gh W) : Gh W := ⟨fun O H => g.p O H ∧ h.p O H, fun O O' H H' p a b => ⟨g.st O O' H H' p.1 a b, h.st O O' H H' p.2 a b⟩⟩
def Gh.tt {W : Wd} : Gh W := ⟨fun _ _ => True, fun _ _ _ _ _ _ _ => True.intro⟩

/-! ### targets -/
def Tg (W : Wd) (g : TG) (d : Dt) (δ δ' : Dl) (js : List Nat) : Prop := ∀ (gh : Gh W) (O : Addr → Prop) (σ : L2.St) (H : Hp) (v : V), SR W gh O H σ δ → Rep W.C (W.M O) H v d → ∀ Q : L2.St → Hp → Prop, (∀ σ', SR W gh O H σ' δ' → σ'.length = σ.length → (∀ i, i ∉ js → σ'[i]? = σ[i]?) → Q σ' H) → g v σ H Q
def Tgs (W : Wd) (g : TGs) (ds : List Dt) (δ δ' : Dl) (js : List Nat) : Prop := ∀ (gh : Gh W) (O : Addr → Prop) (σ : L2.St) (H : Hp) (vs : List V), SR W gh O H σ δ → Reps W.C (W.M O) H vs ds → ∀ Q : L2.St → Hp → Prop, (∀ σ', SR W gh O H σ' δ' → σ'.length = σ.length → (∀ i, i ∉ js → σ'[i]? = σ[i]?) → Q σ' H) → g vs σ H Q
section
variable {W : Wd} {δ δ1 δ2 : Dl} {d : Dt} {ds : List Dt} {js ks : List Nat} {g : TG} {gs : TGs}
theorem tg_name {j : Nat} (hj : j < δ.length) : Tg W (gName j) d δ (δ.set j (some (Sl.sh d))) [j] := fun gh O σ H v S r Q q =>
  q _ (S.setSh r hj) (by simp) fun i hi => List.getElem?_set_ne (fun e => hi (by simp [e]))
theorem tgs_nil : Tgs W gNil [] δ δ [] := fun gh O σ H vs S r Q q => by
  cases r
  exact ⟨rfl, q σ S rfl fun _ _ => rfl⟩
theorem tgs_cons (h : Tg W g d δ δ1 js) (t : Tgs W gs ds δ1 δ2 ks) : Tgs W (gCons g gs) (d :: ds) δ δ2 (js ++ ks) := fun gh O σ H vs S r Q q => by
  cases r with
  | cons r rr =>
    exact ⟨_, _, rfl, h gh O σ H _ S r _ fun σ1 S1 l1 k1 => t gh O σ1 H _ S1 rr Q fun σ2 S2 l2 k2 => q σ2 S2 (l2.trans l1) fun i hi => by
      rw [List.mem_append, not_or] at hi
      rw [k2 i hi.2, k1 i hi.1]⟩
theorem tg_tup {n : Nat} (hn : ds.length = n) (t : Tgs W gs ds δ δ2 ks) : Tg W (gTup W.K n gs) (.tup ds) δ δ2 ks := fun gh O σ H v S r Q q => by
  cases r with
  | tup hp nA rr => exact ⟨_, _, rfl, SqT.of hp, by rw [rr.length, hn], t gh O σ H _ S rr Q q⟩
theorem tg_tup2 {g1 g2 : TG} {d1 d2 : Dt} (h1 : Tg W g1 d1 δ δ1 js) (h2 : Tg W g2 d2 δ1 δ2 ks) : Tg W (gTup W.K 2 (gCons g1 (gCons g2 gNil))) (.tup [d1, d2]) δ δ2 (js ++ (ks ++ [])) := tg_tup rfl (tgs_cons h1 (tgs_cons h2 tgs_nil))
theorem tg_names2 {i j : Nat} {d1 d2 : Dt} (hi : i < δ.length) (hj : j < δ.length) : Tg W (gTup W.K 2 (gCons (gName i) (gCons (gName j) gNil))) (.tup [d1, d2]) δ ((δ.set i (some (Sl.sh d1))).set j (some (Sl.sh d2))) [i, j] := tg_tup2 (tg_name hi) (tg_name (by simpa using hj))
end

/-! ### what is walked -/
structure Wk (W : Wd) (O : Addr → Prop) (J : It) (ds : List Dt) (G : Hp → Prop) : Prop where
  goes : ∀ (i : Nat) (H : Hp), i < ds.length → G H → J.go i H
  stops : ∀ H, G H → J.stop ds.length H
  yields : ∀ (i : Nat) (H : Hp) (x : V) (H' : Hp), i < ds.length → W.I H → (∀ a, O a → ¬ W.A a ∧ H a ≠ none) → G H → J.yld i H x H' → (∀ a o, H a = some o → H' a = some o) ∧ ∃ d, ds[i]? = some d ∧ Rep W.C (W.M O) H' x d
/-- for a comprehension -/
def Yl (W : Wd) (wi : TI) (δ : Dl) (ds : List Dt) : Prop := ∀ (g : Gh W) (O : Addr → Prop) (σ : L2.St) (H : Hp), SR W g O H σ δ → ∀ R : It → Hp → Prop,
  (∀ J H1, Fr W H H1 → W.I H1 → (∀ D, H1 D = none → ∃ G : Hp → Prop, G (upd H1 D (.lst [])) ∧ (∀ H2 H3, G H2 → (∀ a o, ¬ W.N a → a ≠ D → H2 a = some o → H3 a = some o) → G H3) ∧ Wk W (fun a => O a ∨ a = D) J ds G) → R J H1) → wi σ H R
/-- for a loop, too -/
def YlG (W : Wd) (wi : TI) (δ : Dl) (ds : List Dt) : Prop := ∀ (g : Gh W) (O : Addr → Prop) (σ : L2.St) (H : Hp), SR W g O H σ δ → ∀ R : It → Hp → Prop,
  (∀ J H1 (G : Gh W), Fr W H H1 → W.I H1 → G.p O H1 → (∀ O', Wk W O' J ds (G.p O')) → R J H1) → wi σ H R
section
variable {W : Wd} {wi : TI} {δ : Dl} {ds es : List Dt} {te : TE} {ta : TA}
theorem YlG.yl (h : YlG W wi δ ds) : Yl W wi δ ds := fun g O σ H S R q => h g O σ H S R fun J H1 G f i p w => q J H1 f i fun D hD =>
  ⟨G.p fun a => O a ∨ a = D, G.st O _ H1 _ p (fun a o _ _ e => by rw [upd_ne (ne_of_none e hD)]; exact e) fun a h => h.elim .inl fun z => .inr (by rw [z]; exact hD),
    fun H2 H3 p2 k => G.st _ _ H2 H3 p2 (fun a o nN nO e => k a o nN (fun z => nO (.inr z)) e) fun a h => .inl h, w _⟩
theorem YlG.to (h : YlG W wi δ ds) (e : ds = es) : YlG W wi δ es := by rw [← e]; exact h
theorem Yl.to (h : Yl W wi δ ds) (e : ds = es) : Yl W wi δ es := by rw [← e]; exact h
/-- a tracked object's content -/
def ghAt (W : Wd) (p : Addr) (o : HO) (xs : List V) (ds : List Dt) : Gh W := ⟨fun O H => H p = some o ∧ ¬ W.M O p ∧ Reps W.C (W.M O) H xs ds, fun O O' H H' ⟨h, n, r⟩ a b => by
  have key : ∀ x u, ¬ W.M O x → H x = some u → ¬ W.M O' x ∧ H' x = some u := fun x u nx e => ⟨fun z => z.elim (fun y => nx (.inl y)) fun y => (b x y).elim (fun w => nx (.inr w)) fun w => absurd e (by rw [w]; simp), a x u (fun z => nx (.inl (W.sub x z))) (fun z => nx (.inr z)) e⟩
  exact ⟨(key p o n h).2, (key p o n h).1, r.mono key⟩⟩
theorem wk_list {p : Addr} {xs : List V} {O : Addr → Prop} {G : Hp → Prop} (h : ∀ H, G H → SqL W.K H p xs ∧ Reps W.C (W.M O) H xs ds) : Wk W O (Itl W.K p) ds G where
  goes := fun i H hi q => by
    have hl := (h H q).2.length
    exact walk_list.goes i H (by omega) (h H q).1
  stops := fun H q => by
    have hl := (h H q).2.length
    rw [← hl]
    exact walk_list.stops H (h H q).1
  yields := fun i H x H' hi _ _ q y => by
    have hl := (h H q).2.length
    obtain ⟨e, hx⟩ := walk_list.yields i H x H' (by omega) (h H q).1 y
    subst e
    obtain ⟨d, hd, r⟩ := (h _ q).2.getV hx
    exact ⟨fun _ _ e => e, d, hd, r⟩
theorem wk_tup {p : Addr} {xs : List V} {O : Addr → Prop} {G : Hp → Prop} (h : ∀ H, G H → SqT W.K H p xs ∧ Reps W.C (W.M O) H xs ds) : Wk W O (Itt W.K p) ds G where
  goes := fun i H hi q => by
    have hl := (h H q).2.length
    exact walk_tup.goes i H (by omega) (h H q).1
  stops := fun H q => by
    have hl := (h H q).2.length
    rw [← hl]
    exact walk_tup.stops H (h H q).1
  yields := fun i H x H' hi _ _ q y => by
    have hl := (h H q).2.length
    obtain ⟨e, hx⟩ := walk_tup.yields i H x H' (by omega) (h H q).1 y
    subst e
    obtain ⟨d, hd, r⟩ := (h _ q).2.getV hx
    exact ⟨fun _ _ e => e, d, hd, r⟩
theorem yg_list (h : Ed W te δ (.lst ds)) : YlG W (iList W.K te) δ ds := fun g O σ H S R q => h g O σ H S _ fun v H1 d f i e r => by
  subst e
  cases r with
  | lst hp n r => exact ⟨_, rfl, ⟨_, SqL.of hp⟩, q _ H1 (ghAt W _ _ _ _) f i ⟨hp, n, r⟩ fun O' => wk_list fun H q => ⟨SqL.of q.1, q.2.2⟩⟩
theorem yg_tup (h : Ed W te δ (.tup ds)) : YlG W (iTup W.K te) δ ds := fun g O σ H S R q => h g O σ H S _ fun v H1 d f i e r => by
  subst e
  cases r with
  | tup hp n r => exact ⟨_, rfl, ⟨_, SqT.of hp⟩, q _ H1 (ghAt W _ _ _ _) f i ⟨hp, n, r⟩ fun O' => wk_tup fun H q => ⟨SqT.of q.1, q.2.2⟩⟩
/-- an owned list, walked by a comprehension -/
theorem yl_own (h : Ec W te δ ds) : Yl W (iList W.K te) δ ds := fun g O σ H S R q => h g O σ H S _ fun p xs H1 f i hp n r =>
  ⟨_, rfl, ⟨_, SqL.of hp⟩, q _ H1 f i fun D hD => by
    have ne : p ≠ D := ne_of_none hp hD
    have S1 := S.step f i
    have key : ∀ a o, ¬ W.M O a → H1 a = some o → ¬ W.M (fun a => O a ∨ a = D) a ∧ upd H1 D (.lst []) a = some o := fun a o na e => by
      have ne : a ≠ D := ne_of_none e hD
      refine ⟨fun z => ?_, by rw [upd_ne ne]; exact e⟩
      rcases z with z | z | z
      · exact na (.inl z)
      · exact na (.inr z)
      · exact ne z
    refine ⟨fun H => H p = some (.lst xs) ∧ Reps W.C (W.M fun a => O a ∨ a = D) H xs ds, ⟨by rw [upd_ne ne]; exact hp, r.mono key⟩, fun H2 H3 ⟨a, b⟩ k => ⟨k p _ n ne a, b.mono fun x o nx e => ⟨nx, k x o (fun z => nx (.inl (W.sub x z))) (fun z => nx (.inr (.inr z))) e⟩⟩, wk_list fun H q => ⟨SqL.of q.1, q.2⟩⟩⟩
theorem range_get {n i : Nat} {lo : Int} (h : i < n) : ((List.range n).map fun k => Dt.int (lo + (k : Nat)))[i]? = some (.int (lo + (i : Nat))) := by simp [h]
theorem wk_range {lo : Int} {n : Nat} {O : Addr → Prop} {G : Hp → Prop} : Wk W O (Itr lo n) ((List.range n).map fun k => Dt.int (lo + (k : Nat))) G where
  goes := fun i H hi _ => by
    have h : i < n := by simpa using hi
    exact h
  stops := fun H _ => by show n ≤ _; simp
  yields := fun i H x H' hi _ _ _ y => by
    obtain ⟨e, hx⟩ := y
    subst e hx
    exact ⟨fun _ _ e => e, _, range_get (by simpa using hi), .int _⟩
theorem yg_range1 {n : Int} (h : Ea W ta δ [.int n]) (hn : -100000 ≤ n ∧ n ≤ 100000) : YlG W (iRng1 ta) δ ((List.range n.toNat).map fun k => Dt.int ((k : Nat) : Int)) := fun g O σ H S R q => h g O σ H S _ fun vs H1 ds f i e r => by
  subst e
  cases r with
  | cons r rr =>
    cases r
    cases rr
    have e0 : ((List.range n.toNat).map fun k => Dt.int ((k : Nat) : Int)) = (List.range n.toNat).map fun k => Dt.int (0 + ((k : Nat) : Int)) := by simp
    exact ⟨n, rfl, by omega, by omega, q _ H1 Gh.tt f i True.intro fun O' => by rw [e0]; exact wk_range⟩
theorem yg_range2 {m n : Int} (h : Ea W ta δ [.int m, .int n]) (hm : -100000 ≤ m ∧ m ≤ 100000) (hn : -100000 ≤ n ∧ n ≤ 100000) : YlG W (iRng2 ta) δ ((List.range (n - m).toNat).map fun k => Dt.int (m + ((k : Nat) : Int))) := fun g O σ H S R q => h g O σ H S _ fun vs H1 ds f i e r => by
  subst e
  cases r with
  | cons r rr =>
    cases r
    cases rr with
    | cons r rr =>
      cases r
      cases rr
      exact ⟨m, n, rfl, by omega, q _ H1 Gh.tt f i True.intro fun O' => wk_range⟩
def signs (z : Str) : List Dt := z.cps.toList.map fun c => Dt.str ⟨#[c]⟩
theorem yg_str {z : Str} (h : Ed W te δ (.str z)) : YlG W (iStr te) δ (signs z) := fun g O σ H S R q => h g O σ H S _ fun v H1 d f i e r => by
  subst e
  cases r
  have hl : (signs z).length = z.cps.size := by unfold signs; simp
  refine ⟨z, rfl, q _ H1 Gh.tt f i True.intro fun O' => ⟨fun i H hi _ => by rw [hl] at hi; exact hi, fun H _ => by rw [hl]; exact Nat.le_refl _, fun i H x H' hi _ _ _ y => ?_⟩⟩
  obtain ⟨e, c, hc, hx⟩ := y
  subst e hx
  refine ⟨fun _ _ e => e, .str ⟨#[c]⟩, ?_, .str _⟩
  have hc2 : z.cps.toList[i]? = some c := by rw [Array.getElem?_toList]; exact hc
  unfold signs
  rw [List.getElem?_map, hc2]
  rfl
/-- two of them, at the same time -/
def ghAt2 (W : Wd) (p : Addr) (o : HO) (xs : List V) (ds : List Dt) (p2 : Addr) (o2 : HO) (xs2 : List V) (ds2 : List Dt) : Gh W := (ghAt W p o xs ds).and (ghAt W p2 o2 xs2 ds2)
def zipD (ds es : List Dt) : List Dt := (ds.zip es).map fun q => .tup [q.1, q.2]
theorem zipD_get {ds es : List Dt} {i : Nat} {a b : Dt} (h1 : ds[i]? = some a) (h2 : es[i]? = some b) : (zipD ds es)[i]? = some (.tup [a, b]) := by
  unfold zipD
  have h : (ds.zip es)[i]? = some (a, b) := List.getElem?_zip_eq_some.mpr ⟨h1, h2⟩
  rw [List.getElem?_map, h]
  rfl
theorem zipD_len (ds es : List Dt) : (zipD ds es).length = min ds.length es.length := by unfold zipD; simp
theorem pair_rep {O : Addr → Prop} {H : Hp} {T : Addr} {x y : V} {a b : Dt} (i : W.I H) (hO : ∀ a, O a → ¬ W.A a ∧ H a ≠ none) (hT : H T = none) (r1 : Rep W.C (W.M O) H x a) (r2 : Rep W.C (W.M O) H y b) :
    (∀ c o, H c = some o → upd H T (.tup [x, y]) c = some o) ∧ Rep W.C (W.M O) (upd H T (.tup [x, y])) (.ref T) (.tup [a, b]) := by
  have k : ∀ c o, H c = some o → upd H T (.tup [x, y]) c = some o := fun c o e => by rw [upd_ne (ne_of_none e hT)]; exact e
  refine ⟨k, .tup upd_same (fun z => z.elim (fun y => W.dom H T i y hT) fun y => (hO T y).2 hT) ?_⟩
  exact (Reps.cons r1 (.cons r2 .nil)).mono fun c o n e => ⟨n, k c o e⟩
theorem yg_zip (h : Ea W ta δ [.lst ds, .lst es]) : YlG W (iZip W.K ta) δ (zipD ds es) := fun g O σ H S R q => h g O σ H S _ fun vs H1 fs f i e r => by
  subst e
  cases r with
  | cons r rr =>
    cases rr with
    | cons r2 rr =>
      cases rr
      cases r with
      | @lst p xs _ hp n r =>
        cases r2 with
        | @lst p2 ys _ hp2 n2 r2 =>
          refine ⟨_, _, _, _, rfl, SqL.of hp, SqL.of hp2, q _ H1 (ghAt2 W _ _ _ _ _ _ _ _) f i ⟨⟨hp, n, r⟩, hp2, n2, r2⟩ fun O' => ?_⟩
          have l1 := r.length
          have l2 := r2.length
          have w := walk_zip (K := W.K) (a := p) (b := p2) (xs := xs) (ys := ys) (n := min ds.length es.length) (by rw [l1, l2])
          refine ⟨fun i H hi q => w.goes i H (by rw [zipD_len] at hi; exact hi) ⟨SqL.of q.1.1, SqL.of q.2.1⟩, fun H q => by rw [zipD_len]; exact w.stops H ⟨SqL.of q.1.1, SqL.of q.2.1⟩, fun i H v H' hi hI hO q y => ?_⟩
          obtain ⟨T, x, y, hv, hT, hH, hx, hy⟩ := w.yields i H v H' (by rw [zipD_len] at hi; exact hi) ⟨SqL.of q.1.1, SqL.of q.2.1⟩ y
          obtain ⟨a, ha, ra⟩ := q.1.2.2.getV hx
          obtain ⟨b, hb, rb⟩ := q.2.2.2.getV hy
          subst hv hH
          obtain ⟨k, rp⟩ := pair_rep hI hO hT ra rb
          exact ⟨k, _, zipD_get ha hb, rp⟩
theorem yg_zipA_L (h : Ea W ta δ [.lst ds, .lst es]) : YlG W (RZ.iZipA W.K ta) δ (zipD ds es) := fun g O σ H S R q => h g O σ H S _ fun vs H1 fs f i e r => by
  subst e
  cases r with
  | cons r rr =>
    cases rr with
    | cons r2 rr =>
      cases rr
      cases r with
      | @lst p xs _ hp n r =>
        cases r2 with
        | @lst p2 ys _ hp2 n2 r2 =>
          refine ⟨_, _, _, _, rfl, .inl ⟨SqL.of hp, SqL.of hp2, q _ H1 (ghAt2 W _ _ _ _ _ _ _ _) f i ⟨⟨hp, n, r⟩, hp2, n2, r2⟩ fun O' => ?_⟩⟩
          have l1 := r.length
          have l2 := r2.length
          have w := walk_zip (K := W.K) (a := p) (b := p2) (xs := xs) (ys := ys) (n := min ds.length es.length) (by rw [l1, l2])
          refine ⟨fun i H hi q => w.goes i H (by rw [zipD_len] at hi; exact hi) ⟨SqL.of q.1.1, SqL.of q.2.1⟩, fun H q => by rw [zipD_len]; exact w.stops H ⟨SqL.of q.1.1, SqL.of q.2.1⟩, fun i H v H' hi hI hO q y => ?_⟩
          obtain ⟨T, x, y, hv, hT, hH, hx, hy⟩ := w.yields i H v H' (by rw [zipD_len] at hi; exact hi) ⟨SqL.of q.1.1, SqL.of q.2.1⟩ y
          obtain ⟨a, ha, ra⟩ := q.1.2.2.getV hx
          obtain ⟨b, hb, rb⟩ := q.2.2.2.getV hy
          subst hv hH
          obtain ⟨k, rp⟩ := pair_rep hI hO hT ra rb
          exact ⟨k, _, zipD_get ha hb, rp⟩
theorem yg_zipA_T (h : Ea W ta δ [.tup ds, .tup es]) : YlG W (RZ.iZipA W.K ta) δ (zipD ds es) := fun g O σ H S R q => h g O σ H S _ fun vs H1 fs f i e r => by
  subst e
  cases r with
  | cons r rr =>
    cases rr with
    | cons r2 rr =>
      cases rr
      cases r with
      | tup hp n r =>
        cases r2 with
        | tup hp2 n2 r2 =>
          refine ⟨_, _, _, _, rfl, .inr ⟨SqT.of hp, SqT.of hp2, q _ H1 (ghAt2 W _ _ _ _ _ _ _ _) f i ⟨⟨hp, n, r⟩, hp2, n2, r2⟩ fun O' => ?_⟩⟩
          refine ⟨fun i H hi q => ?_, fun H q => ?_, fun i H v H' hi hI hO q y => ?_⟩
          · rw [zipD_len] at hi
            have h1 := q.1.2.2.length
            have h2 := q.2.2.2.length
            exact ⟨_, _, _, _, SqT.of q.1.1, SqT.of q.2.1, List.getElem?_eq_getElem (by omega), List.getElem?_eq_getElem (by omega)⟩
          · have h1 := q.1.2.2.length
            have h2 := q.2.2.2.length
            exact ⟨_, _, SqT.of q.1.1, SqT.of q.2.1, by rw [zipD_len]; omega⟩
          · obtain ⟨T, x, y, hv, hT, hH, hx, hy⟩ := y
            obtain ⟨a, ha, ra⟩ := q.1.2.2.getV (hx _ (SqT.of q.1.1))
            obtain ⟨b, hb, rb⟩ := q.2.2.2.getV (hy _ (SqT.of q.2.1))
            subst hv hH
            obtain ⟨k, rp⟩ := pair_rep hI hO hT ra rb
            exact ⟨k, _, zipD_get ha hb, rp⟩
def enumD (ds : List Dt) : List Dt := zipD ((List.range ds.length).map fun k => Dt.int ((k : Nat) : Int)) ds
theorem enumD_len (ds : List Dt) : (enumD ds).length = ds.length := by unfold enumD; rw [zipD_len]; simp
theorem enumD_get {ds : List Dt} {i : Nat} {d : Dt} (h : ds[i]? = some d) : (enumD ds)[i]? = some (.tup [.int (i : Nat), d]) := by
  have hi : i < ds.length := (List.getElem?_eq_some_iff.mp h).1
  unfold enumD
  exact zipD_get (by simp [hi]) h
theorem yg_enumL (h : Ea W ta δ [.lst ds]) : YlG W (iEnum W.K ta) δ (enumD ds) := fun g O σ H S R q => h g O σ H S _ fun vs H1 fs f i e r => by
  subst e
  cases r with
  | cons r rr =>
    cases rr
    cases r with
    | @lst p xs _ hp n r =>
      refine ⟨_, _, rfl, SqL.of hp, q _ H1 (ghAt W _ _ _ _) f i ⟨hp, n, r⟩ fun O' => ?_⟩
      have w := walk_enum (K := W.K) (a := p) (xs := xs)
      refine ⟨fun i H hi q => w.goes i H (by rw [enumD_len] at hi; rw [q.2.2.length]; exact hi) (SqL.of q.1), fun H q => by rw [enumD_len, ← q.2.2.length]; exact w.stops H (SqL.of q.1), fun i H v H' hi hI hO q y => ?_⟩
      obtain ⟨T, x, y, hv, hT, hH, hx, hy⟩ := w.yields i H v H' (by rw [enumD_len] at hi; rw [q.2.2.length]; exact hi) (SqL.of q.1) y
      simp only [Option.some.injEq] at hx
      subst hx
      obtain ⟨b, hb, rb⟩ := q.2.2.getV hy
      subst hv hH
      obtain ⟨k, rp⟩ := pair_rep hI hO hT (.int _) rb
      exact ⟨k, _, enumD_get hb, rp⟩
end
end DL
namespace DL
open PySem PySem.Spec PyProof.Rows L2

/-! ### comprehensions -/
def wipeD (δ : Dl) : List Nat → Dl
  | [] => δ
  | v :: vs => (wipeD δ vs).set v none
theorem wipeD_length (δ : Dl) : ∀ vs, (wipeD δ vs).length = δ.length
  | [] => rfl
  | v :: vs => by unfold wipeD; rw [List.length_set, wipeD_length δ vs]
theorem wipeD_some {δ : Dl} {i : Nat} {s : Sl} : ∀ {vs : List Nat}, (wipeD δ vs)[i]? = some (some s) → δ[i]? = some (some s) ∧ i ∉ vs
  | [], h => ⟨h, by simp⟩
  | v :: vs, h => by
    unfold wipeD at h
    by_cases hi : v = i
    · subst hi
      by_cases hv : v < (wipeD δ vs).length
      · rw [List.getElem?_set_self hv] at h; cases h
      · rw [List.getElem?_eq_none (by simpa using hv)] at h; cases h
    · rw [List.getElem?_set_ne hi] at h
      obtain ⟨h1, h2⟩ := wipeD_some h
      exact ⟨h1, by simp only [List.mem_cons, not_or]; exact ⟨fun e => hi e.symm, h2⟩⟩
theorem wipe_at {σ : L2.St} {i : Nat} : ∀ {vs : List Nat}, i ∉ vs → (wipe σ vs)[i]? = σ[i]?
  | [], _ => rfl
  | v :: vs, h => by
    unfold wipe
    rw [List.getElem?_set_ne (fun e => h (by simp [e]))]
    exact wipe_at fun z => h (by simp [z])
theorem wipe_at_in {σ : L2.St} {i : Nat} : ∀ {vs : List Nat}, i ∈ vs → (wipe σ vs)[i]? = if i < σ.length then some none else none
  | [], h => by simp at h
  | v :: vs, h => by
    unfold wipe
    by_cases e : v = i
    · subst e
      rw [List.getElem?_set]
      simp [wipe_length]
    · rw [List.getElem?_set_ne e]
      rcases List.mem_cons.mp h with z | z
      · exact absurd z.symm e
      · exact wipe_at_in z
theorem wipe_ext {σ τ : L2.St} {vs : List Nat} (hl : σ.length = τ.length) (h : ∀ i, i ∉ vs → σ[i]? = τ[i]?) : wipe σ vs = wipe τ vs := by
  apply List.ext_getElem?
  intro i
  by_cases hi : i ∈ vs
  · rw [wipe_at_in hi, wipe_at_in hi, hl]
  · rw [wipe_at hi, wipe_at hi, h i hi]
section
variable {W : Wd} {g : Gh W} {O : Addr → Prop} {H H' : Hp} {σ : L2.St} {δ : Dl} {te : TE} {wi : TI} {gt : TG} {tt : TT} {vs : List Nat} {ds : List Dt}
theorem SR.wipe (S : SR W g O H σ δ) : SR W g O H (wipe σ vs) (wipeD δ vs) where
  len := by rw [wipe_length, wipeD_length, S.len]
  sh := fun i d h => by
    obtain ⟨h1, h2⟩ := wipeD_some h
    obtain ⟨v, e, r⟩ := S.sh i d h1
    exact ⟨v, by rw [wipe_at h2]; exact e, r⟩
  own := fun i d h => by
    obtain ⟨h1, h2⟩ := wipeD_some h
    obtain ⟨p, xs, e, r⟩ := S.own i d h1
    exact ⟨p, xs, by rw [wipe_at h2]; exact e, r⟩
  dis := fun i j p es fs h1 h2 e1 e2 => by
    obtain ⟨a1, b1⟩ := wipeD_some h1
    obtain ⟨a2, b2⟩ := wipeD_some h2
    rw [wipe_at b1] at e1
    rw [wipe_at b2] at e2
    exact S.dis i j p es fs a1 a2 e1 e2
  oA := S.oA
  gh := S.gh
  inv := S.inv
  oL := S.oL
/-- a comprehension: what holds of the list behind each turn -/
theorem efr_lc (k : W.Ok) (hy : Yl W wi δ ds) (hz : ds.length ≤ 100000) (Inv : Nat → List Dt → Prop) (h0 : Inv 0 [])
    (hs : ∀ (i : Nat) (d : Dt) (acc : List Dt), ds[i]? = some d → Inv i acc → ∃ δ2 js b, Tg W gt d (wipeD δ vs) δ2 js ∧ (∀ j, j ∈ js → j ∈ vs) ∧ Et W tt δ2 b ∧ (b = true → Er W te δ2 fun e => Inv (i + 1) (acc ++ [e])) ∧ (b = false → Inv (i + 1) acc)) :
    Efr W (tLc wi gt tt te vs) δ (Inv ds.length) := fun g O σ H S Q q => hy g O σ H S _ fun J H1 f1 i1 hG D hD => by
  obtain ⟨G, G0, Gst, wk⟩ := hG D hD
  have S1 := S.step f1 i1
  have nD : H D = none := by
    cases e : H D with
    | none => rfl
    | some o =>
      by_cases hN : W.N D
      · exact absurd hD (W.dom H1 D i1 (W.sub D hN))
      · rw [f1 D o hN e] at hD; cases hD
  have nAD : ¬ W.A D := fun z => W.dom H1 D i1 z hD
  have nND : ¬ W.N D := fun z => nAD (W.sub D z)
  -- the state at a turn
  let Pv : Nat → Hp → Prop := fun i Hi => ∃ acc es, Hi D = some (.lst acc) ∧ Reps W.C (W.M fun a => O a ∨ a = D) Hi acc es ∧ es.length ≤ i ∧ Inv i es ∧ G Hi ∧ (∀ a o, ¬ W.N a → a ≠ D → H1 a = some o → Hi a = some o) ∧ W.I Hi
  have up1 : ∀ {Hi : Hp} {acc old : List V}, W.I Hi → Hi D = some (.lst old) → W.I (upd Hi D (.lst acc)) := fun {Hi acc old} hI hh => k.keep Hi _ hI (fun a o hN e => by
    have ne : a ≠ D := fun z => by
      rcases hN with hN | hN
      · exact nND (by rw [← z]; exact hN)
      · rw [z, hh] at e
        exact hN _ (Option.some.inj e).symm
    rw [upd_ne ne]; exact e) fun a hA z => by
    rw [upd_ne (fun z => nAD (by rw [← z]; exact hA))] at z
    exact W.dom Hi a hI hA z
  have iU : W.I (upd H1 D (.lst [])) := k.all i1 fun a o e => by rw [upd_ne (ne_of_none e hD)]; exact e
  have w : Walk J ds.length (fun Hi => G Hi) (fun i Hi x H' => (W.I Hi → (∀ a, (O a ∨ a = D) → ¬ W.A a ∧ Hi a ≠ none) → (∀ a o, Hi a = some o → H' a = some o) ∧ ∃ d, ds[i]? = some d ∧ Rep W.C (W.M fun a => O a ∨ a = D) H' x d)) :=
    ⟨fun i Hi hi q => wk.goes i Hi hi q, fun Hi q => wk.stops Hi q, fun i Hi x H' hi q y hI hO => wk.yields i Hi x H' hi hI hO q y⟩
  refine lc_it w Pv ⟨[], [], upd_same, .nil, Nat.le_refl _, h0, G0, fun a o _ ne e => by rw [upd_ne ne]; exact e, iU⟩ (fun i Hi _ p => let ⟨_, _, _, _, _, _, b, _⟩ := p; b) (fun i x Hi H' hi p y => ?_) (fun Hi p => ?_)
  · obtain ⟨acc, es, hDi, rs, hle, hInv, hGi, fr, hI⟩ := p
    have oA : ∀ a, (O a ∨ a = D) → ¬ W.A a ∧ Hi a ≠ none := fun a h => by
      rcases h with h | h
      · refine ⟨(S1.oA a h).1, fun z => ?_⟩
        cases e : H1 a with
        | none => exact (S1.oA a h).2 e
        | some o => rw [fr a o (S1.own_n h) (ne_of_none e hD) e] at z; cases z
      · subst h
        exact ⟨nAD, by rw [hDi]; simp⟩
    obtain ⟨ex, d, hd, rx⟩ := y hI oA
    have hI' : W.I H' := k.all hI ex
    -- the state of the outer slots, here
    have key : ∀ a o, ¬ W.M O a → H1 a = some o → ¬ W.M (fun a => O a ∨ a = D) a ∧ H' a = some o := fun a o na e => by
      have ne : a ≠ D := ne_of_none e hD
      refine ⟨fun z => ?_, ex a o (fr a o (fun z => na (.inl (W.sub a z))) ne e)⟩
      rcases z with z | z | z
      · exact na (.inl z)
      · exact na (.inr z)
      · exact ne z
    have SS : SR W Gh.tt (fun a => O a ∨ a = D) H' σ δ := by
      refine ⟨S1.len, fun k e h => let ⟨v, h1, r⟩ := S1.sh k e h; ⟨v, h1, r.mono key⟩, fun k fs h => ?_, S1.dis, fun a h => ⟨(oA a h).1, fun z => ?_⟩, True.intro, hI', fun a h => ?_⟩
      · obtain ⟨q, ys, e, o, hq, r⟩ := S1.own k fs h
        exact ⟨q, ys, e, .inl o, ex q _ (fr q _ (S1.own_n o) (ne_of_none hq hD) hq), r.mono key⟩
      · cases e : Hi a with
        | none => exact (oA a h).2 e
        | some o => rw [ex a o e] at z; cases z
      · rcases h with h | h
        · obtain ⟨ys, e⟩ := S1.oL a h
          exact ⟨ys, ex a _ (fr a _ (S1.own_n h) (ne_of_none e hD) e)⟩
        · subst h
          exact ⟨acc, ex _ _ hDi⟩
    have SW := SS.wipe (vs := vs)
    obtain ⟨δ2, js, b, tg, hjs, het, hT, hF⟩ := hs i d es hd hInv
    refine tg _ _ _ _ _ SW rx _ fun σ2 S2 l2 ag => ⟨?_, ?_⟩
    · have l : (L2.wipe σ vs).length = σ.length := wipe_length σ vs
      exact wipe_ext (l2.trans l) fun i hi => by rw [ag i (fun z => hi (hjs i z)), wipe_at hi]
    · refine het _ _ _ _ S2 _ fun H3 f3 i3 => ?_
      have dD : H3 D = some (.lst acc) := f3 D _ nND (ex D _ hDi)
      have mv : ∀ {Hx : Hp}, Fr W H' Hx → ∀ a o, ¬ W.N a → a ≠ D → H1 a = some o → Hx a = some o := fun {Hx} f a o nN ne e => f a o nN (ex a o (fr a o nN ne e))
      have gx : ∀ {Hx : Hp}, Fr W H' Hx → G Hx := fun {Hx} f => Gst Hi Hx hGi fun a o nN _ e => f a o nN (ex a o e)
      have rs' : Reps W.C (W.M fun a => O a ∨ a = D) H' acc es := rs.mono fun a o n e => ⟨n, ex a o e⟩
      cases b with
      | false => exact ⟨acc, es, dD, rs'.fr f3, Nat.le_succ_of_le hle, hF rfl, gx f3, mv f3, i3⟩
      | true =>
        refine hT rfl _ _ _ _ (S2.step f3 i3) _ fun y H4 e f4 i4 hI4 ry => ⟨acc, f4 D _ nND dD, ?_, ?_⟩
        · have := rs.length
          have := (List.getElem?_eq_some_iff.mp hd).1
          exact Nat.lt_of_le_of_lt (show acc.length ≤ 100000 by omega) (by decide)
        · have f34 := f3.trans f4
          have up : ∀ a o, ¬ W.M (fun a => O a ∨ a = D) a → H4 a = some o → ¬ W.M (fun a => O a ∨ a = D) a ∧ upd H4 D (.lst (acc ++ [y])) a = some o := fun a o n e => ⟨n, by rw [upd_ne (fun z => n (.inr (.inr z)))]; exact e⟩
          refine ⟨acc ++ [y], es ++ [e], upd_same, ((rs'.fr f34).append (.cons ry .nil)).mono up, by simp; omega, hI4, Gst H4 _ (gx f34) fun a o _ ne e => by rw [upd_ne ne]; exact e, fun a o nN ne e => by rw [upd_ne ne]; exact mv f34 a o nN ne e, up1 i4 (f34 D _ nND (ex D _ hDi))⟩
  · obtain ⟨acc, es, hDi, rs, hle, hInv, hGi, fr, hI⟩ := p
    refine q D acc Hi es (fun a o nN e => ?_) hI hInv nD hDi rs
    have ne : a ≠ D := ne_of_none e nD
    exact fr a o nN ne (f1 a o nN e)
/-- exactly: over data x of xs, those with b, f of each -/
theorem given_step {α : Type} {xs : List α} {i : Nat} {x : α} (h : xs[i]? = some x) (b : α → Bool) (f : α → Dt) : ((xs.take (i + 1)).filter b).map f = ((xs.take i).filter b).map f ++ if b x then [f x] else [] := by
  rw [List.take_add_one, h]
  simp only [Option.toList_some, List.filter_append, List.map_append]
  congr 1
  cases e : b x <;> simp [e]
theorem ef_lc {α : Type} (xs : List α) (inj : α → Dt) (b : α → Bool) (f : α → Dt) (k : W.Ok) (hy : Yl W wi δ (xs.map inj)) (hz : xs.length ≤ 100000)
    (hs : ∀ x, x ∈ xs → ∃ δ2 js, Tg W gt (inj x) (wipeD δ vs) δ2 js ∧ (∀ j, j ∈ js → j ∈ vs) ∧ Et W tt δ2 (b x) ∧ (b x = true → Ed W te δ2 (f x))) :
    Ef W (tLc wi gt tt te vs) δ ((xs.filter b).map f) := by
  have h := efr_lc (gt := gt) (tt := tt) (te := te) (vs := vs) k hy (by simpa using hz) (fun i acc => acc = ((xs.take i).filter b).map f) rfl (fun i d acc hd hacc => by
    rw [List.getElem?_map] at hd
    cases hx : xs[i]? with
    | none => rw [hx] at hd; cases hd
    | some x =>
      rw [hx] at hd
      simp only [Option.map_some, Option.some.injEq] at hd
      subst hd hacc
      obtain ⟨δ2, js, h1, h2, h3, h4⟩ := hs x (List.mem_of_getElem? hx)
      refine ⟨δ2, js, b x, h1, h2, h3, fun hb => ?_, fun hb => ?_⟩
      · refine Ed.er (h4 hb) ?_
        rw [given_step hx, hb]
        rfl
      · rw [given_step hx, hb]
        simp)
  refine Efr.imp h fun es e => ?_
  rw [e]
  simp
theorem et_yes : Et W tYes δ true := fun g O σ H S Q q => q H (Fr.refl H) S.inv
/-- no test -/
theorem ef_lcAll {α : Type} (xs : List α) (inj : α → Dt) (f : α → Dt) (k : W.Ok) (hy : Yl W wi δ (xs.map inj)) (hz : xs.length ≤ 100000)
    (hs : ∀ x, x ∈ xs → ∃ δ2 js, Tg W gt (inj x) (wipeD δ vs) δ2 js ∧ (∀ j, j ∈ js → j ∈ vs) ∧ Ed W te δ2 (f x)) :
    Ef W (tLc wi gt tYes te vs) δ (xs.map f) :=
  Ef.to (ef_lc xs inj (fun _ => true) f k hy hz fun x hx => let ⟨δ2, js, h1, h2, h3⟩ := hs x hx; ⟨δ2, js, h1, h2, et_yes, fun _ => h3⟩) (show ((xs.filter fun _ => true).map f) = xs.map f by rw [List.filter_eq_self.mpr (fun _ _ => rfl)])
/-- each element some datum with P -/
theorem efr_lcAll (P : Nat → Dt → Prop) (k : W.Ok) (hy : Yl W wi δ ds) (hz : ds.length ≤ 100000)
    (hs : ∀ (i : Nat) (d : Dt), ds[i]? = some d → ∃ δ2 js, Tg W gt d (wipeD δ vs) δ2 js ∧ (∀ j, j ∈ js → j ∈ vs) ∧ Er W te δ2 (P i)) :
    Efr W (tLc wi gt tYes te vs) δ (fun es => es.length = ds.length ∧ ∀ i e, es[i]? = some e → P i e) :=
  efr_lc k hy hz (fun i acc => acc.length = i ∧ ∀ j e, acc[j]? = some e → P j e) ⟨rfl, fun j e h => by simp at h⟩ fun i d acc hd ⟨hl, hP⟩ => by
    obtain ⟨δ2, js, h1, h2, h3⟩ := hs i d hd
    refine ⟨δ2, js, true, h1, h2, et_yes, fun _ => Er.imp h3 fun e pe => ⟨by simp [hl], fun j e' hj => ?_⟩, fun z => by cases z⟩
    by_cases hlt : j < acc.length
    · rw [List.getElem?_append_left hlt] at hj
      exact hP j e' hj
    · rw [List.getElem?_append_right (by omega)] at hj
      have : j - acc.length = 0 := by
        have := (List.getElem?_eq_some_iff.mp hj).1
        simp at this
        omega
      rw [this] at hj
      simp at hj
      have : j = i := by omega
      subst this hj
      exact pe
end
end DL
namespace DL
open PySem PySem.Spec PyProof.Rows L2

/-! ### tests -/
section
variable {W : Wd} {δ : Dl} {te ta tb : TE} {t u : TT} {d z : Dt} {P : Dt → Prop} {a b : Bool}
theorem et_test (h : Ed W te δ (.bl b)) : Et W (tTest te) δ b := fun g O σ H S Q q => h g O σ H S _ fun v H' d f i e r => by
  subst e; cases r; exact ⟨b, rfl, q H' f i⟩
theorem et_B (h : Ed W te δ (.bl b)) : Et W (tB te) δ b := fun g O σ H S Q q => h g O σ H S _ fun v H' d f i e r => by
  subst e; cases r; exact ⟨b, rfl, q H' f i⟩
theorem et_and (h1 : Et W t δ a) (h2 : a = true → Et W u δ b) : Et W (tAnd t u) δ (a && b) := fun g O σ H S Q q => h1 g O σ H S _ fun H' f i => by
  cases a with
  | true => exact h2 rfl g O σ H' (S.step f i) Q fun H2 f2 i2 => q H2 (f.trans f2) i2
  | false => exact q H' f i
theorem et_or (h1 : Et W t δ a) (h2 : a = false → Et W u δ b) : Et W (tOr t u) δ (a || b) := fun g O σ H S Q q => h1 g O σ H S _ fun H' f i => by
  cases a with
  | false => exact h2 rfl g O σ H' (S.step f i) Q fun H2 f2 i2 => q H2 (f.trans f2) i2
  | true => exact q H' f i
theorem et_not (h1 : Et W t δ a) : Et W (tNot t) δ (!a) := fun g O σ H S Q q => h1 g O σ H S _ fun H' f i => q H' f i
theorem ed_andV (h1 : Ed W ta δ (.bl a)) (h2 : a = true → Ed W tb δ z) (h3 : a = false → z = .bl false) : Ed W (tAndV ta tb) δ z := fun g O σ H S Q q => h1 g O σ H S _ fun v H' d f i e r => by
  subst e; cases r
  refine ⟨a, rfl, ?_⟩
  cases a with
  | true => exact h2 rfl g O σ H' (S.step f i) Q fun v H2 d f2 i2 e r => q v H2 d (f.trans f2) i2 e r
  | false => exact q _ H' _ f i (h3 rfl).symm (.bl false)
theorem ed_orV (h1 : Ed W ta δ (.bl a)) (h2 : a = false → Ed W tb δ z) (h3 : a = true → z = .bl true) : Ed W (tOrV ta tb) δ z := fun g O σ H S Q q => h1 g O σ H S _ fun v H' d f i e r => by
  subst e; cases r
  refine ⟨a, rfl, ?_⟩
  cases a with
  | false => exact h2 rfl g O σ H' (S.step f i) Q fun v H2 d f2 i2 e r => q v H2 d (f.trans f2) i2 e r
  | true => exact q _ H' _ f i (h3 rfl).symm (.bl true)
theorem ed_andB (h1 : Ed W ta δ (.bl a)) (h2 : a = true → Ed W tb δ (.bl b)) : Ed W (tAndV ta tb) δ (.bl (a && b)) := ed_andV h1 (fun e => by subst e; exact h2 rfl) fun e => by subst e; rfl
theorem ed_orB (h1 : Ed W ta δ (.bl a)) (h2 : a = false → Ed W tb δ (.bl b)) : Ed W (tOrV ta tb) δ (.bl (a || b)) := ed_orV h1 (fun e => by subst e; exact h2 rfl) fun e => by subst e; rfl
theorem ed_notB (h1 : Ed W ta δ (.bl a)) : Ed W (tNotV ta) δ (.bl (!a)) := fun g O σ H S Q q => h1 g O σ H S _ fun v H' d f i e r => by
  subst e; cases r; exact ⟨a, rfl, q _ H' _ f i rfl (.bl _)⟩
theorem er_if (hc : Et W t δ b) (h1 : b = true → Er W ta δ P) (h2 : b = false → Er W tb δ P) : Er W (tIf t ta tb) δ P := fun g O σ H S Q q => hc g O σ H S _ fun H' f i => by
  cases b with
  | true => exact h1 rfl g O σ H' (S.step f i) Q fun v H2 d f2 i2 e r => q v H2 d (f.trans f2) i2 e r
  | false => exact h2 rfl g O σ H' (S.step f i) Q fun v H2 d f2 i2 e r => q v H2 d (f.trans f2) i2 e r
theorem ed_if (hc : Et W t δ b) (h1 : b = true → Ed W ta δ z) (h2 : b = false → Ed W tb δ z) : Ed W (tIf t ta tb) δ z := er_if hc h1 h2
theorem efr_if {P : List Dt → Prop} (hc : Et W t δ b) (h1 : b = true → Efr W ta δ P) (h2 : b = false → Efr W tb δ P) : Efr W (tIf t ta tb) δ P := fun g O σ H S Q q => hc g O σ H S _ fun H' f i => by
  have old : ∀ {p : Addr}, H' p = none → H p = none := fun {p} hp => by
    cases e : H p with
    | none => rfl
    | some o =>
      by_cases hN : W.N p
      · exact absurd hp (W.dom H' p i (W.sub p hN))
      · rw [f p o hN e] at hp; cases hp
  cases b with
  | true => exact h1 rfl g O σ H' (S.step f i) Q fun p xs H2 ds f2 i2 y n hp r => q p xs H2 ds (f.trans f2) i2 y (old n) hp r
  | false => exact h2 rfl g O σ H' (S.step f i) Q fun p xs H2 ds f2 i2 y n hp r => q p xs H2 ds (f.trans f2) i2 y (old n) hp r
end

/-! ### statements -/
/-- what is wanted behind a statement. E, ex: what is wanted of an exception of the class R (its word) -/
structure Pst where
  nx : Dl → Prop := fun _ => False
  rt : Dt → Prop := fun _ => False
  bk : Dl → Prop := fun _ => False
  ct : Dl → Prop := fun _ => False
  R : Addr := 0
  E : XK := fun _ _ _ => False
  ex : Str → Prop := fun _ => False
  ro : List Dt → Prop := fun _ => False
/-- the wish for exceptions: E holds of each exception whose word has ex -/
def Ewish (W : Wd) (g : Gh W) (R : Addr) (E : XK) (ex : Str → Prop) : Prop := ∀ (O : Addr → Prop) (H : Hp) (dd : Addr) (w : Str), g.p O H → W.I H → H dd = some (.xd [(("word" : Str), V.str w)]) → ex w → E (.ref R) (some dd) H
structure Pin (W : Wd) (g : Gh W) (P : Pst) (D : Ends) : Prop where
  nx : ∀ O σ H δ, SR W g O H σ δ → P.nx δ → D.nx σ H
  rt : ∀ O v H d, g.p O H → W.I H → Rep W.C W.A H v d → P.rt d → D.rt v H
  bk : ∀ O σ H δ, SR W g O H σ δ → P.bk δ → D.bk σ H
  ct : ∀ O σ H δ, SR W g O H σ δ → P.ct δ → D.ct σ H
  xp : Ewish W g P.R P.E P.ex
  ro : ∀ O p xs H ds, g.p O H → W.I H → O p ∧ ¬ W.A p → H p = some (.lst xs) → Reps W.C (W.M O) H xs ds → P.ro ds → D.rt (.ref p) H
def Sd (W : Wd) (ts : TS) (δ : Dl) (P : Pst) : Prop := ∀ (g : Gh W) (O : Addr → Prop) (σ : L2.St) (H : Hp) (D : Ends), SR W g O H σ δ → Pin W g P D → ts D σ H
section
variable {W : Wd} {δ : Dl} {te ta tb : TE} {t u : TT} {d z : Dt} {ds : List Dt} {ts tu : TS} {P P' : Pst} {R : Dt → Prop} {RL : List Dt → Prop} {i j : Nat} {g : Gh W} {O : Addr → Prop} {H H' : Hp} {σ : L2.St}
theorem Pin.rt' {D : Ends} (K : Pin W g P D) (S : SR W g O H σ δ) {v : V} (r : Rep W.C (W.M O) H v d) (h : P.rt d) : D.rt v H :=
  K.rt O v H d S.gh S.inv (r.mono fun a o n e => ⟨fun z => n (.inl z), e⟩) h
theorem Sd.imp (h : Sd W ts δ P) (h1 : ∀ δ', P.nx δ' → P'.nx δ') (h2 : ∀ d, P.rt d → P'.rt d) (h3 : ∀ δ', P.bk δ' → P'.bk δ') (h4 : ∀ δ', P.ct δ' → P'.ct δ') (hE : P.E = P'.E := by rfl) (hR : P.R = P'.R := by rfl) (hx : P.ex = P'.ex := by rfl) (h5 : ∀ ds, P.ro ds → P'.ro ds := by intro _ h; exact h) : Sd W ts δ P' := fun g O σ H D S K =>
  h g O σ H D S ⟨fun O σ H δ s p => K.nx O σ H δ s (h1 δ p), fun O v H d a b r p => K.rt O v H d a b r (h2 d p), fun O σ H δ s p => K.bk O σ H δ s (h3 δ p), fun O σ H δ s p => K.ct O σ H δ s (h4 δ p), by rw [hE, hR, hx]; exact K.xp, fun O p xs H ds a b c d r q => K.ro O p xs H ds a b c d r (h5 ds q)⟩
theorem sd_seq {M : Dl → Prop} (h : Sd W ts δ { P with nx := M }) (k : ∀ δ', M δ' → Sd W tu δ' P) : Sd W (tSeq ts tu) δ P := fun g O σ H D S K =>
  h g O σ H { D with nx := tu D } S ⟨fun O σ H δ s p => k δ p g O σ H D s K, K.rt, K.bk, K.ct, K.xp, K.ro⟩
theorem sd_next (h : P.nx δ) : Sd W tNext δ P := fun g O σ H D S K => K.nx O σ H δ S h
theorem sd_break (h : P.bk δ) : Sd W tBreak δ P := fun g O σ H D S K => K.bk O σ H δ S h
theorem sd_cont (h : P.ct δ) : Sd W tCont δ P := fun g O σ H D S K => K.ct O σ H δ S h
theorem sd_ret (h : Er W te δ P.rt) : Sd W (tRet te) δ P := fun g O σ H D S K => h g O σ H S _ fun v H' d f i p r => K.rt' (S.step f i) r p
theorem sd_retN (h : P.rt .non) : Sd W tRetN δ P := fun g O σ H D S K => K.rt' S .non h
theorem sd_asg (h : Er W te δ R) (hi : i < δ.length) (k : ∀ d, R d → P.nx (δ.set i (some (Sl.sh d)))) : Sd W (tAsg te (gName i)) δ P := fun g O σ H D S K =>
  h g O σ H S _ fun v H' d f i' p r => K.nx O _ H' _ ((S.step f i').setSh r hi) (k d p)
theorem sq_asg (h : Er W te δ R) (hi : i < δ.length) (k : ∀ d, R d → Sd W tu (δ.set i (some (Sl.sh d))) P) : Sd W (tSeq (tAsg te (gName i)) tu) δ P :=
  sd_seq (M := fun δ' => ∃ d, R d ∧ δ' = δ.set i (some (Sl.sh d))) (sd_asg h hi fun d r => ⟨d, r, rfl⟩) fun δ' ⟨d, r, e⟩ => by rw [e]; exact k d r
theorem sq_asgE (h : Ed W te δ d) (hi : i < δ.length) (k : Sd W tu (δ.set i (some (Sl.sh d))) P) : Sd W (tSeq (tAsg te (gName i)) tu) δ P := sq_asg h hi fun x e => by rw [e]; exact k
/-- own: a new list, to be changed later -/
theorem sd_asgO (h : Efr W te δ RL) (hi : i < δ.length) (k : ∀ ds, RL ds → P.nx (δ.set i (some (Sl.own ds)))) : Sd W (tAsg te (gName i)) δ P := fun g O σ H D S K =>
  h g O σ H S _ fun p xs H' ds f i' y n hp r => K.nx _ _ H' _ ((S.more n f i' hp).setOwn (.inr rfl) hp r hi fun l es _ hl z => by
    obtain ⟨q, ys, e, _, hq, _⟩ := S.own l es hl
    rw [e] at z
    simp only [Option.some.injEq, V.ref.injEq] at z
    subst z
    rw [n] at hq; cases hq) (k ds y)
theorem sq_asgO (h : Efr W te δ RL) (hi : i < δ.length) (k : ∀ ds, RL ds → Sd W tu (δ.set i (some (Sl.own ds))) P) : Sd W (tSeq (tAsg te (gName i)) tu) δ P :=
  sd_seq (M := fun δ' => ∃ d, RL d ∧ δ' = δ.set i (some (Sl.own d))) (sd_asgO h hi fun d r => ⟨d, r, rfl⟩) fun δ' ⟨d, r, e⟩ => by rw [e]; exact k d r
theorem sq_asgOE (h : Ef W te δ ds) (hi : i < δ.length) (k : Sd W tu (δ.set i (some (Sl.own ds))) P) : Sd W (tSeq (tAsg te (gName i)) tu) δ P := sq_asgO h hi fun x e => by rw [e]; exact k
/-- a target of several names -/
theorem sq_asgT {gt : TG} (h : Er W te δ R) (k : ∀ d, R d → ∃ δ' js, Tg W gt d δ δ' js ∧ Sd W tu δ' P) : Sd W (tSeq (tAsg te gt) tu) δ P := fun g O σ H D S K =>
  h g O σ H S _ fun v H' d f i' p r => by
    obtain ⟨δ', js, t, s⟩ := k d p
    exact t g O σ H' v (S.step f i') r _ fun σ' S' _ _ => s g O σ' H' D S' K
theorem sd_freeze (hd : δ[i]? = some (some (Sl.own ds))) (h : Sd W ts (δ.set i (some (Sl.sh (.lst ds)))) P) : Sd W ts δ P := fun g O σ H D S K => by
  obtain ⟨O', _, S'⟩ := S.freeze hd
  exact h g O' σ H D S' K
theorem sd_retO (hd : δ[i]? = some (some (Sl.own ds))) (h : P.rt (.lst ds)) : Sd W (tRet (tVar i)) δ P :=
  sd_freeze hd (sd_ret (Ed.er (ed_var (List.getElem?_set_self (List.getElem?_eq_some_iff.mp hd).1)) h))
/-- a list of one's own is given away, as one's own -/
theorem sd_retF (hd : δ[i]? = some (some (Sl.own ds))) (h : P.ro ds) : Sd W (tRet (tVar i)) δ P := fun g O σ H D S K => by
  obtain ⟨p, xs, e, hO, hp, r⟩ := S.own i ds hd
  exact ⟨_, e, K.ro O p xs H ds S.gh S.inv ⟨hO, (S.oA p hO).1⟩ hp r h⟩
theorem sd_if {b : Bool} (h : Et W t δ b) (h1 : b = true → Sd W ts δ P) (h2 : b = false → Sd W tu δ P) : Sd W (tIfS t ts tu) δ P := fun g O σ H D S K => h g O σ H S _ fun H' f i => by
  cases b with
  | true => exact h1 rfl g O σ H' D (S.step f i) K
  | false => exact h2 rfl g O σ H' D (S.step f i) K
/-- an if, and what follows -/
theorem sq_if {tv : TS} {b : Bool} (h : Et W t δ b) (h1 : b = true → Sd W (tSeq ts tv) δ P) (h2 : b = false → Sd W (tSeq tu tv) δ P) : Sd W (tSeq (tIfS t ts tu) tv) δ P := fun g O σ H D S K => h g O σ H S _ fun H' f i => by
  cases b with
  | true => exact h1 rfl g O σ H' D (S.step f i) K
  | false => exact h2 rfl g O σ H' D (S.step f i) K
theorem sq_next (h : Sd W tu δ P) : Sd W (tSeq tNext tu) δ P := h
/-- an if that leaves -/
theorem sq_when {tv : TS} {b : Bool} (h : Et W t δ b) (h1 : b = true → Sd W ts δ { P with nx := fun _ => False }) (h2 : b = false → Sd W tv δ P) : Sd W (tSeq (tIfS t ts tNext) tv) δ P :=
  sq_if h (fun e => sd_seq (h1 e) fun _ z => z.elim) h2
theorem sd_drop (h : Er W te δ R) (k : P.nx δ) : Sd W (tDrop te) δ P := fun g O σ H D S K => h g O σ H S _ fun v H' d f i p r => K.nx O σ H' δ (S.step f i) k
theorem sd_append (k : W.Ok) (hd : δ[i]? = some (some (Sl.own ds))) (h : Er W te δ R) (hz : ds.length < 100000) (q : ∀ d, R d → P.nx (δ.set i (some (Sl.own (ds ++ [d]))))) : Sd W (tDrop (tBM W.K "list" rAppend (tVar i) (tCons te tNil))) δ P := fun g O σ H D S K => by
  obtain ⟨p, xs, e, hO, hp, r⟩ := S.own i ds hd
  refine ⟨_, e, .inl ⟨rfl, _, .inl (.inl hp)⟩, h g O σ H S _ fun v H' d f i' pd rv => ?_⟩
  have hp' : H' p = some (.lst xs) := f p _ (S.own_n hO) hp
  refine ⟨p, xs, v, rfl, rfl, hp', ?_, K.nx O σ _ _ ((S.step f i').write k hd e ((r.fr f).append (.cons rv .nil))) (q d pd)⟩
  rw [r.length]
  exact Nat.lt_of_lt_of_le hz (by decide)
theorem sq_append (k : W.Ok) (hd : δ[i]? = some (some (Sl.own ds))) (h : Er W te δ R) (hz : ds.length < 100000) (q : ∀ d, R d → Sd W tu (δ.set i (some (Sl.own (ds ++ [d])))) P) : Sd W (tSeq (tDrop (tBM W.K "list" rAppend (tVar i) (tCons te tNil))) tu) δ P :=
  sd_seq (M := fun δ' => ∃ d, R d ∧ δ' = δ.set i (some (Sl.own (ds ++ [d])))) (sd_append k hd h hz fun d r => ⟨d, r, rfl⟩) fun δ' ⟨d, r, e⟩ => by rw [e]; exact q d r
/-- xs[k] = e -/
theorem sd_setL {n : Int} {l : Nat} (k : W.Ok) (hd : δ[i]? = some (some (Sl.own ds))) (h : Er W te δ R) (hx : Ed W ta δ (.int n)) (hn : ixN ds.length n = some l) (q : ∀ d, R d → P.nx (δ.set i (some (Sl.own (ds.set l d))))) : Sd W (tAsg te (gSub (tVar i) ta rSetL)) δ P := fun g O σ H D S K =>
  h g O σ H S _ fun v H1 d f1 i1 pd rv => by
    have S1 := S.step f1 i1
    obtain ⟨p, xs, e, hO, hp, r⟩ := S1.own i ds hd
    refine ⟨_, e, hx g O σ H1 S1 _ fun u H2 y f2 i2 ey ru => ?_⟩
    subst ey
    cases ru
    have hp' : H2 p = some (.lst xs) := f2 p _ (S1.own_n hO) hp
    exact ⟨p, xs, n, l, rfl, rfl, hp', by rw [r.length]; exact hn, K.nx O σ _ _ ((S1.step f2 i2).write k hd e (Reps.set (rv.fr f2) l (r.fr f2))) (q d pd)⟩
theorem sq_setL {n : Int} {l : Nat} (k : W.Ok) (hd : δ[i]? = some (some (Sl.own ds))) (h : Er W te δ R) (hx : Ed W ta δ (.int n)) (hn : ixN ds.length n = some l) (q : ∀ d, R d → Sd W tu (δ.set i (some (Sl.own (ds.set l d)))) P) : Sd W (tSeq (tAsg te (gSub (tVar i) ta rSetL)) tu) δ P :=
  sd_seq (M := fun δ' => ∃ d, R d ∧ δ' = δ.set i (some (Sl.own (ds.set l d)))) (sd_setL k hd h hx hn fun d r => ⟨d, r, rfl⟩) fun δ' ⟨d, r, e⟩ => by rw [e]; exact q d r
/-- xs.extend(new list) -/
theorem sd_extend {es : List Dt} (k : W.Ok) (hd : δ[i]? = some (some (Sl.own ds))) (h : Ef W te δ es) (hz : ds.length + es.length ≤ 100000) (q : P.nx (δ.set i (some (Sl.own (ds ++ es))))) : Sd W (tDrop (tBM W.K "list" rExtend (tVar i) (tCons te tNil))) δ P := fun g O σ H D S K => by
  obtain ⟨p, xs, e, hO, hp, r⟩ := S.own i ds hd
  refine ⟨_, e, .inl ⟨rfl, _, .inl (.inl hp)⟩, h g O σ H S _ fun b ys H' fs f i' ey n hb rb => ?_⟩
  subst ey
  have hp' : H' p = some (.lst xs) := f p _ (S.own_n hO) hp
  refine ⟨p, b, xs, ys, rfl, rfl, hp', hb, ?_, K.nx O σ _ _ ((S.step f i').write k hd e ((r.fr f).append rb.less)) q⟩
  rw [r.length, rb.length]
  exact Nat.le_trans hz (by decide)
theorem sd_augI {f : Int → Int → Int} {a b : Int} (ha : δ[i]? = some (some (Sl.sh (.int a)))) (h : Ed W te δ (.int b)) (q : P.nx (δ.set i (some (Sl.sh (.int (f a b)))))) : Sd W (tAug i te (ipI f)) δ P := fun g O σ H D S K => by
  obtain ⟨v, e, r⟩ := S.sh i _ ha
  cases r
  have hi : i < δ.length := (List.getElem?_eq_some_iff.mp ha).1
  refine ⟨_, e, h g O σ H S _ fun u H' y f' i' ey ru => ?_⟩
  subst ey
  cases ru
  exact ⟨a, b, rfl, rfl, K.nx O _ H' _ ((S.step f' i').setSh (.int _) hi) q⟩
/-! ### loops -/
theorem sd_for {wi : TI} {gt : TG} (k : W.Ok) (hy : YlG W wi δ ds) (Inv : Nat → Dl → Prop) (h0 : Inv 0 δ) (hs : ∀ (i : Nat) (d : Dt) (δ' : Dl), ds[i]? = some d → Inv i δ' → ∃ δ2 js, Tg W gt d δ' δ2 js ∧ Sd W ts δ2 { P with nx := Inv (i + 1), ct := Inv (i + 1), bk := P.nx })
    (hd : ∀ δ', Inv ds.length δ' → P.nx δ') : Sd W (tFor wi gt ts) δ P := fun g O σ H D S K => hy g O σ H S _ fun J H1 G f1 i1 pG wk => by
  refine ⟨fun i m σ H => ∃ O δ', m = ds.length - i ∧ i ≤ ds.length ∧ SR W (g.and G) O H σ δ' ∧ Inv i δ', ⟨ds.length, O, δ, by simp, Nat.zero_le _, (S.step f1 i1).gh' _ ⟨(S.step f1 i1).gh, pG⟩, h0⟩, ?_⟩
  rintro i m σ' H' ⟨O', δ', rfl, hi, S', hI⟩
  by_cases hlt : i < ds.length
  · refine .inr ⟨(wk O').goes i H' hlt S'.gh.2, fun σ2 H2 => ∃ O2 δ2, SR W (g.and G) O2 H2 σ2 δ2 ∧ Inv (i + 1) δ2, fun σ2 H2 ⟨O2, δ2, S2, I2⟩ => ⟨ds.length - (i + 1), by omega, O2, δ2, rfl, hlt, S2, I2⟩, fun x H2 y => ?_⟩
    obtain ⟨ex, d, hd', rx⟩ := (wk O').yields i H' x H2 hlt S'.inv S'.oA S'.gh.2 y
    obtain ⟨δ2, js, tg, sd⟩ := hs i d δ' hd' hI
    have f2 : Fr W H' H2 := Fr.all ex
    have i2 : W.I H2 := by
      -- all stays
      exact k.all S'.inv ex
    refine tg (g.and G) O' σ' H2 x (S'.step f2 i2) rx _ fun σ2 S2 _ _ => sd (g.and G) O' σ2 H2 _ S2 ⟨fun O σ H δ s p => ⟨O, δ, s, p⟩, fun O v H d a b r p => K.rt O v H d a.1 b r p, fun O σ H δ s p => K.nx O σ H δ (s.gh' g s.gh.1) p, fun O σ H δ s p => ⟨O, δ, s, p⟩, fun O H dd w pg => K.xp O H dd w pg.1, fun O p xs H ds a b c d r q => K.ro O p xs H ds a.1 b c d r q⟩
  · have e : i = ds.length := by omega
    subst e
    exact .inl ⟨(wk O').stops H' S'.gh.2, K.nx O' σ' H' δ' (S'.gh' g S'.gh.1) (hd δ' hI)⟩
end
end DL
namespace DL
open PySem PySem.Spec PyProof.Rows L2

/-! ### promises of defs -/
/-- a def that changes nothing that stood: told by ghosts -/
def spP (C : Addr) {G : Type} (inj : G → List Dt) (pre : G → Prop) (post : G → Dt → Prop) : Sp := fun vs H Q _ => ∃ (A : Addr → Prop) (x : G), (∀ a, A a → H a ≠ none) ∧ Reps C A H vs (inj x) ∧ pre x ∧
  ∀ v H' d, (∀ a o, H a = some o → H' a = some o) → Rep C A H' v d → post x d → Q v H'
/-- .. and may raise: an exception of the class R with a word -/
def spX (C R : Addr) {G : Type} (inj : G → List Dt) (pre : G → Prop) (post : G → Dt → Prop) (exc : G → Str → Prop) : Sp := fun vs H Q E => ∃ (A : Addr → Prop) (x : G), (∀ a, A a → H a ≠ none) ∧ Reps C A H vs (inj x) ∧ pre x ∧
  (∀ v H' d, (∀ a o, H a = some o → H' a = some o) → Rep C A H' v d → post x d → Q v H') ∧
  ∀ dd H' w, (∀ a o, H a = some o → H' a = some o) → H' dd = some (.xd [(("word" : Str), V.str w)]) → exc x w → E (.ref R) (some dd) H'
def Wp (C : Addr) (K : PySem.W.Frag) (A : Addr → Prop) : Wd := ⟨C, K, fun _ => False, A, fun H => ∀ a, A a → H a ≠ none, fun _ z => z.elim, fun H a h ha => h a ha⟩
theorem Wp.ok {C : Addr} {K : PySem.W.Frag} {A : Addr → Prop} : (Wp C K A).Ok := ⟨fun H H' _ _ h => h⟩
def startD (n : Nat) (ds : List Dt) : Dl := ds.map (fun d => some (Sl.sh d)) ++ List.replicate (n - ds.length) none
theorem start_at {C : Addr} {A : Addr → Prop} {H : Hp} {vs : List V} {ds : List Dt} {N : List Str} {i : Nat} {s : Sl} (r : Reps C A H vs ds) (h : (startD N.length ds)[i]? = some (some s)) : ∃ d v, s = .sh d ∧ (L2.start N vs)[i]? = some (some v) ∧ Rep C A H v d := by
  unfold startD at h
  by_cases hi : i < ds.length
  · rw [List.getElem?_append_left (by simpa using hi), List.getElem?_map] at h
    cases e : ds[i]? with
    | none => rw [e] at h; cases h
    | some d =>
      rw [e] at h
      simp only [Option.map_some, Option.some.injEq] at h
      subst h
      obtain ⟨v, hv, rv⟩ := r.get e
      refine ⟨d, v, rfl, ?_, rv⟩
      unfold L2.start
      rw [List.getElem?_append_left (by simp [r.length]; exact hi), List.getElem?_map, hv]
      rfl
  · rw [List.getElem?_append_right (by simpa using hi)] at h
    rw [List.getElem?_replicate] at h
    split at h <;> cases h
theorem SR.start {W : Wd} {g : Gh W} {H : Hp} {vs : List V} {ds : List Dt} {N : List Str} (r : Reps W.C W.A H vs ds) (i : W.I H) (hg : g.p (fun _ => False) H) : SR W g (fun _ => False) H (L2.start N vs) (startD N.length ds) where
  len := by unfold L2.start startD; simp [r.length]
  sh := fun k d h => by
    obtain ⟨d', v, e, h1, r1⟩ := start_at r h
    cases e
    exact ⟨v, h1, r1.mono fun a o n e => ⟨fun z => z.elim n False.elim, e⟩⟩
  own := fun k d h => by
    obtain ⟨d', v, e, h1, r1⟩ := start_at r h
    cases e
  dis := fun k l p es fs h _ _ _ => by
    obtain ⟨d', v, e, h1, r1⟩ := start_at r h
    cases e
  oA := fun _ z => z.elim
  gh := hg
  inv := i
  oL := fun _ z => z.elim
/-- what stood at the entry -/
def ghB (W : Wd) (H0 : Hp) : Gh W := ⟨fun O H => ∀ a o, ¬ W.N a → H0 a = some o → H a = some o ∧ ¬ O a, fun O O' H H' p h1 h2 a o n e => by
  obtain ⟨e1, n1⟩ := p a o n e
  refine ⟨h1 a o n n1 e1, fun z => ?_⟩
  rcases h2 a z with y | y
  · exact n1 y
  · rw [e1] at y; cases y⟩
theorem run_P {C : Addr} (K : PySem.W.Frag) {G : Type} {inj : G → List Dt} {pre : G → Prop} {post : G → Dt → Prop} {t : TS} {N : List Str} {vs : List V} {H : Hp} {Q : VK} {E : XK} (h : spP C inj pre post vs H Q E)
    (body : ∀ (W : Wd) (k : W.Ok) (x : G), W.C = C → W.K = K → pre x → Sd W t (startD N.length (inj x)) { rt := post x, nx := fun _ => post x .non }) : t { nx := fun _ H' => Q .non H', rt := Q } (L2.start N vs) H := by
  obtain ⟨A, ds, hA, r, hp, q⟩ := h
  refine body (Wp C K A) Wp.ok ds rfl rfl hp (ghB _ H) _ _ H _ (SR.start (W := Wp C K A) r hA fun a o _ e => ⟨e, False.elim⟩) ⟨fun O σ H' δ S p => ?_, fun O v H' d pg _ rv p => ?_, fun _ _ _ _ _ z => z.elim, fun _ _ _ _ _ z => z.elim, fun _ _ _ _ _ _ _ z => z.elim, fun _ _ _ _ _ _ _ _ _ _ z => z.elim⟩
  · exact q .non H' .non (fun a o e => (S.gh a o (fun z => z) e).1) .non p
  · exact q v H' d (fun a o e => (pg a o (fun z => z) e).1) rv p
theorem run_X {C R : Addr} (K : PySem.W.Frag) {G : Type} {inj : G → List Dt} {pre : G → Prop} {post : G → Dt → Prop} {exc : G → Str → Prop} {t : TS} {N : List Str} {vs : List V} {H : Hp} {Q : VK} {E : XK} (h : spX C R inj pre post exc vs H Q E)
    (body : ∀ (W : Wd) (k : W.Ok) (x : G), W.C = C → W.K = K → pre x → Sd W t (startD N.length (inj x)) { rt := post x, nx := fun _ => post x .non, R := R, E := E, ex := exc x }) : t { nx := fun _ H' => Q .non H', rt := Q } (L2.start N vs) H := by
  obtain ⟨A, ds, hA, r, hp, q, qe⟩ := h
  refine body (Wp C K A) Wp.ok ds rfl rfl hp (ghB _ H) _ _ H _ (SR.start (W := Wp C K A) r hA fun a o _ e => ⟨e, False.elim⟩) ⟨fun O σ H' δ S p => ?_, fun O v H' d pg _ rv p => ?_, fun _ _ _ _ _ z => z.elim, fun _ _ _ _ _ z => z.elim, fun O H' dd w pg _ e p => ?_, fun _ _ _ _ _ _ _ _ _ _ z => z.elim⟩
  · exact q .non H' .non (fun a o e => (S.gh a o (fun z => z) e).1) .non p
  · exact q v H' d (fun a o e => (pg a o (fun z => z) e).1) rv p
  · exact qe dd H' w (fun a o e => (pg a o (fun z => z) e).1) e p

/-- a def that gives a new list -/
def spL (C : Addr) {G : Type} (inj : G → List Dt) (pre : G → Prop) (post : G → List Dt → Prop) : Sp := fun vs H Q _ => ∃ (A : Addr → Prop) (x : G), (∀ a, A a → H a ≠ none) ∧ Reps C A H vs (inj x) ∧ pre x ∧
  ∀ p xs H' ds, (∀ a o, H a = some o → H' a = some o) → H p = none → H' p = some (.lst xs) → Reps C (fun a => A a ∨ a = p) H' xs ds → post x ds → Q (.ref p) H'
theorem run_L {C : Addr} (K : PySem.W.Frag) {G : Type} {inj : G → List Dt} {pre : G → Prop} {post : G → List Dt → Prop} {t : TS} {N : List Str} {vs : List V} {H : Hp} {Q : VK} {E : XK} (h : spL C inj pre post vs H Q E)
    (body : ∀ (W : Wd) (k : W.Ok) (x : G), W.C = C → W.K = K → pre x → Sd W t (startD N.length (inj x)) { ro := post x }) : t { nx := fun _ H' => Q .non H', rt := Q } (L2.start N vs) H := by
  obtain ⟨A, x, hA, r, hp, q⟩ := h
  refine body (Wp C K A) Wp.ok x rfl rfl hp (ghB _ H) _ _ H _ (SR.start (W := Wp C K A) r hA fun a o _ e => ⟨e, False.elim⟩) ⟨fun _ _ _ _ _ z => z.elim, fun _ _ _ _ _ _ _ z => z.elim, fun _ _ _ _ _ z => z.elim, fun _ _ _ _ _ z => z.elim, fun _ _ _ _ _ _ _ z => z.elim, fun O p xs H' ds pg _ ⟨hO, _⟩ hp' r' y => ?_⟩
  refine q p xs H' ds (fun a o e => (pg a o (fun z => z) e).1) ?_ hp' (r'.mono fun a o n e => ⟨fun z => n (z.elim .inl fun y => .inr (by rw [y]; exact hO)), e⟩) y
  cases e : H p with
  | none => rfl
  | some o => exact absurd hO (pg p o (fun z => z) e).2

/-! ### what draws: a list [cells, number] at h, its cells at c -/
structure HeapAt (h c : Addr) (H : Hp) : Prop where
  ne : h ≠ c
  at_ : ∃ (s : Int) (ns : List Int), H h = some (.lst [.ref c, .int s]) ∧ H c = some (.lst (ns.map V.int)) ∧ 0 ≤ s ∧ s < 2147483647 ∧ ns.length ≤ 60
/-- a def that draws: its first argument is the heap's handle -/
def spI (C : Addr) {G : Type} (inj : G → List Dt) (pre : G → Prop) (post : G → Dt → Prop) : Sp := fun vs H Q _ => ∃ (A : Addr → Prop) (h c : Addr) (x : G), (∀ a, A a → H a ≠ none) ∧ A h ∧ A c ∧ HeapAt h c H ∧ Reps C A H vs (.adr h :: inj x) ∧ pre x ∧
  ∀ v H' d, (∀ a o, a ≠ h → a ≠ c → H a = some o → H' a = some o) → HeapAt h c H' → Rep C A H' v d → post x d → Q v H'
def Wi (C : Addr) (K : PySem.W.Frag) (A : Addr → Prop) (h c : Addr) (hh : A h) (hc : A c) : Wd := ⟨C, K, fun a => a = h ∨ a = c, A, fun H => HeapAt h c H ∧ ∀ a, A a → H a ≠ none, fun a z => by
  rcases z with z | z
  · rw [z]; exact hh
  · rw [z]; exact hc, fun H a i ha => i.2 a ha⟩
/-- the world holds such a heap -/
structure Hold (W : Wd) (h c : Addr) : Prop where
  nh : W.N h
  nc : W.N c
  get : ∀ H, W.I H → HeapAt h c H
  put : ∀ H H', W.I H → (∀ a o, a ≠ h → a ≠ c → H a = some o → H' a = some o) → HeapAt h c H' → W.I H'
theorem HeapAt.keep {h c : Addr} {H H' : Hp} (x : HeapAt h c H) (k : ∀ a o, (a = h ∨ a = c) → H a = some o → H' a = some o) : HeapAt h c H' := by
  obtain ⟨s, ns, h1, h2, r⟩ := x.at_
  exact ⟨x.ne, s, ns, k h _ (.inl rfl) h1, k c _ (.inr rfl) h2, r⟩
theorem Wi.ok {C : Addr} {K : PySem.W.Frag} {A : Addr → Prop} {h c : Addr} {hh : A h} {hc : A c} : (Wi C K A h c hh hc).Ok := ⟨fun H H' i k hd => ⟨i.1.keep fun a o ha e => k a o (.inl ha) e, hd⟩⟩
theorem HeapAt.there {h c : Addr} {H : Hp} (x : HeapAt h c H) : H h ≠ none ∧ H c ≠ none := by
  obtain ⟨s, ns, h1, h2, r⟩ := x.at_
  exact ⟨by rw [h1]; simp, by rw [h2]; simp⟩
theorem Wi.hold {C : Addr} {K : PySem.W.Frag} {A : Addr → Prop} {h c : Addr} {hh : A h} {hc : A c} : Hold (Wi C K A h c hh hc) h c := ⟨.inl rfl, .inr rfl, fun H i => i.1, fun H H' i k x => ⟨x, fun a ha z => by
  by_cases e1 : a = h
  · rw [e1] at z; exact x.there.1 z
  · by_cases e2 : a = c
    · rw [e2] at z; exact x.there.2 z
    · cases e : H a with
      | none => exact i.2 a ha e
      | some o => rw [k a o e1 e2 e] at z; cases z⟩⟩
theorem run_I {C : Addr} (K : PySem.W.Frag) {G : Type} {inj : G → List Dt} {pre : G → Prop} {post : G → Dt → Prop} {t : TS} {N : List Str} {vs : List V} {H : Hp} {Q : VK} {E : XK} (h : spI C inj pre post vs H Q E)
    (body : ∀ (W : Wd) (k : W.Ok) (a c : Addr) (hold : Hold W a c) (x : G), W.C = C → W.K = K → pre x → Sd W t (startD N.length (.adr a :: inj x)) { rt := post x, nx := fun _ => post x .non }) : t { nx := fun _ H' => Q .non H', rt := Q } (L2.start N vs) H := by
  obtain ⟨A, a, c, ds, hA, hh, hc, hx, r, hp, q⟩ := h
  refine body (Wi C K A a c hh hc) Wi.ok a c Wi.hold ds rfl rfl hp (ghB _ H) _ _ H _ (SR.start (W := Wi C K A a c hh hc) r ⟨hx, hA⟩ fun a o _ e => ⟨e, False.elim⟩) ⟨fun O σ H' δ S p => ?_, fun O v H' d pg i rv p => ?_, fun _ _ _ _ _ z => z.elim, fun _ _ _ _ _ z => z.elim, fun _ _ _ _ _ _ _ z => z.elim, fun _ _ _ _ _ _ _ _ _ _ z => z.elim⟩
  · exact q .non H' .non (fun b o n1 n2 e => (S.gh b o (fun z => z.elim n1 n2) e).1) S.inv.1 .non p
  · exact q v H' d (fun b o n1 n2 e => (pg b o (fun z => z.elim n1 n2) e).1) i.1 rv p
/-- a def that draws, and gives a new list -/
def spIL (C : Addr) {G : Type} (inj : G → List Dt) (pre : G → Prop) (post : G → List Dt → Prop) : Sp := fun vs H Q _ => ∃ (A : Addr → Prop) (h c : Addr) (x : G), (∀ a, A a → H a ≠ none) ∧ A h ∧ A c ∧ HeapAt h c H ∧ Reps C A H vs (.adr h :: inj x) ∧ pre x ∧
  ∀ p xs H' ds, (∀ a o, a ≠ h → a ≠ c → H a = some o → H' a = some o) → HeapAt h c H' → H p = none → H' p = some (.lst xs) → Reps C (fun a => A a ∨ a = p) H' xs ds → post x ds → Q (.ref p) H'
theorem run_IL {C : Addr} (K : PySem.W.Frag) {G : Type} {inj : G → List Dt} {pre : G → Prop} {post : G → List Dt → Prop} {t : TS} {N : List Str} {vs : List V} {H : Hp} {Q : VK} {E : XK} (h : spIL C inj pre post vs H Q E)
    (body : ∀ (W : Wd) (k : W.Ok) (a c : Addr) (hold : Hold W a c) (x : G), W.C = C → W.K = K → pre x → Sd W t (startD N.length (.adr a :: inj x)) { ro := post x }) : t { nx := fun _ H' => Q .non H', rt := Q } (L2.start N vs) H := by
  obtain ⟨A, a, c, ds, hA, hh, hc, hx, r, hp, q⟩ := h
  refine body (Wi C K A a c hh hc) Wi.ok a c Wi.hold ds rfl rfl hp (ghB _ H) _ _ H _ (SR.start (W := Wi C K A a c hh hc) r ⟨hx, hA⟩ fun a o _ e => ⟨e, False.elim⟩) ⟨fun _ _ _ _ _ z => z.elim, fun _ _ _ _ _ _ _ z => z.elim, fun _ _ _ _ _ z => z.elim, fun _ _ _ _ _ z => z.elim, fun _ _ _ _ _ _ _ z => z.elim, fun O p xs H' es pg i ⟨hO, nA⟩ hp' r' y => ?_⟩
  refine q p xs H' es (fun b o n1 n2 e => (pg b o (fun z => z.elim n1 n2) e).1) i.1 ?_ hp' (r'.mono fun b o n e => ⟨fun z => n (z.elim .inl fun y => .inr (by rw [y]; exact hO)), e⟩) y
  cases e : H p with
  | none => rfl
  | some o =>
    refine absurd hO (pg p o (fun z => nA ?_) e).2
    rcases z with z | z
    · rw [z]; exact hh
    · rw [z]; exact hc

/-! ### calls -/
section
variable {W : Wd} {δ : Dl} {te ta tb : TE} {tar : TA} {d z : Dt} {ds es : List Dt} {P : Dt → Prop} {PL : List Dt → Prop} {G : Type} {inj : G → List Dt} {pre : G → Prop} {post : G → Dt → Prop} {E : XK} {g : Gh W} {O : Addr → Prop} {H : Hp} {σ : L2.St}
theorem SR.there (S : SR W g O H σ δ) : ∀ a, W.M O a → H a ≠ none := fun a h => h.elim (fun y => W.dom H a S.inv y) fun y => (S.oA a y).2
theorem back_none' {H H1 : Hp} {p : Addr} (f : Fr W H H1) (i : W.I H1) (hp : H1 p = none) : H p = none := by
  cases e : H p with
  | none => rfl
  | some o =>
    by_cases hN : W.N p
    · exact absurd hp (W.dom H1 p i (W.sub p hN))
    · rw [f p o hN e] at hp; cases hp
theorem er_call (k : W.Ok) (ha : Ear W tar δ PL) (h1 : ∀ ds, PL ds → ∃ x, ds = inj x ∧ pre x ∧ ∀ d, post x d → P d) : Er W (tCall (spP W.C inj pre post) [] E tar) δ P := fun g O σ H S Q q => ha g O σ H S _ fun vs H1 ds f1 i1 p1 r1 => by
  show spP W.C inj pre post (vs ++ []) H1 Q E
  rw [List.append_nil]
  obtain ⟨x, e, hp, h2⟩ := h1 ds p1
  subst e
  exact ⟨W.M O, x, (S.step f1 i1).there, r1, hp, fun v H' d ex rv pd => q v H' d (f1.trans (Fr.all ex)) (k.all i1 ex) (h2 d pd) rv⟩
theorem er_callE (x : G) (k : W.Ok) (ha : Ea W tar δ (inj x)) (h1 : pre x) (h2 : ∀ d, post x d → P d) : Er W (tCall (spP W.C inj pre post) [] E tar) δ P :=
  er_call k ha fun ds e => ⟨x, e, h1, h2⟩
theorem ed_call (x : G) (k : W.Ok) (ha : Ea W tar δ (inj x)) (h1 : pre x) (h2 : ∀ d, post x d → d = z) : Ed W (tCall (spP W.C inj pre post) [] E tar) δ z := er_callE x k ha h1 h2
theorem efr_call {PR : List Dt → Prop} {postL : G → List Dt → Prop} (x : G) (k : W.Ok) (ha : Ea W tar δ (inj x)) (h1 : pre x) (h2 : ∀ ds, postL x ds → PR ds) : Efr W (tCall (spL W.C inj pre postL) [] E tar) δ PR := fun g O σ H S Q q => ha g O σ H S _ fun vs H1 ds f1 i1 e1 r1 => by
  show spL W.C inj pre postL (vs ++ []) H1 Q E
  rw [List.append_nil]
  subst e1
  exact ⟨W.M O, x, (S.step f1 i1).there, r1, h1, fun p xs H' ds ex n hp r pd => q p xs H' ds (f1.trans (Fr.all ex)) (k.all i1 ex) (h2 ds pd) (back_none' f1 i1 n) hp (r.mono fun a o na e => ⟨fun z => na (z.elim (fun y => .inl (.inl y)) fun y => y.elim (fun w => .inl (.inr w)) .inr), e⟩)⟩
theorem er_callI {h c : Addr} (hold : Hold W h c) (ha : Ear W tar δ PL) (h1 : ∀ ds, PL ds → ∃ x, ds = .adr h :: inj x ∧ pre x ∧ ∀ d, post x d → P d) : Er W (tCall (spI W.C inj pre post) [] E tar) δ P := fun g O σ H S Q q => ha g O σ H S _ fun vs H1 ds f1 i1 p1 r1 => by
  show spI W.C inj pre post (vs ++ []) H1 Q E
  rw [List.append_nil]
  obtain ⟨x, e, hp, h2⟩ := h1 ds p1
  subst e
  exact ⟨W.M O, h, c, x, (S.step f1 i1).there, .inl (W.sub h hold.nh), .inl (W.sub c hold.nc), hold.get H1 i1, r1, hp, fun v H' d ex hx rv pd => q v H' d (f1.trans fun a o n e => ex a o (fun z => n (by rw [z]; exact hold.nh)) (fun z => n (by rw [z]; exact hold.nc)) e) (hold.put H1 H' i1 ex hx) (h2 d pd) rv⟩
theorem er_callIE {h c : Addr} (x : G) (hold : Hold W h c) (ha : Ea W tar δ (.adr h :: inj x)) (h1 : pre x) (h2 : ∀ d, post x d → P d) : Er W (tCall (spI W.C inj pre post) [] E tar) δ P := er_callI hold ha fun ds e => ⟨x, e, h1, h2⟩
theorem efr_callI {h c : Addr} {PR : List Dt → Prop} {postL : G → List Dt → Prop} (x : G) (hold : Hold W h c) (ha : Ea W tar δ (.adr h :: inj x)) (h1 : pre x) (h2 : ∀ ds, postL x ds → PR ds) : Efr W (tCall (spIL W.C inj pre postL) [] E tar) δ PR := fun g O σ H S Q q => ha g O σ H S _ fun vs H1 ds f1 i1 e1 r1 => by
  show spIL W.C inj pre postL (vs ++ []) H1 Q E
  rw [List.append_nil]
  subst e1
  exact ⟨W.M O, h, c, x, (S.step f1 i1).there, .inl (W.sub h hold.nh), .inl (W.sub c hold.nc), hold.get H1 i1, r1, h1, fun p xs H' ds ex hx n hp r pd => q p xs H' ds (f1.trans fun a o n e => ex a o (fun z => n (by rw [z]; exact hold.nh)) (fun z => n (by rw [z]; exact hold.nc)) e) (hold.put H1 H' i1 ex hx) (h2 ds pd) (back_none' f1 i1 n) hp (r.mono fun a o na e => ⟨fun z => na (z.elim (fun y => .inl (.inl y)) fun y => y.elim (fun w => .inl (.inr w)) .inr), e⟩)⟩
/-- keywords: the values in another order -/
theorem er_callK {tk : TA} {gV : List V → List V → List V} {gD : List Dt → List Dt → List Dt} (x : G) (k : W.Ok) (hg : ∀ {C A H vs ds zs es}, Reps C A H vs ds → Reps C A H zs es → Reps C A H (gV vs zs) (gD ds es)) (ha : Ea W tar δ ds) (hk : Ea W tk δ es)
    (he : gD ds es = inj x) (h1 : pre x) (h2 : ∀ d, post x d → P d) : Er W (tCallK (spP W.C inj pre post) gV E tar tk) δ P := fun g O σ H S Q q => ha g O σ H S _ fun vs H1 xs f1 i1 e1 r1 => by
  subst e1
  refine hk g O σ H1 (S.step f1 i1) _ fun zs H2 ys f2 i2 e2 r2 => ?_
  subst e2
  exact ⟨W.M O, x, ((S.step f1 i1).step f2 i2).there, he ▸ hg (r1.fr f2) r2, h1, fun v H' d ex rv pd => q v H' d ((f1.trans f2).trans (Fr.all ex)) (k.all i2 ex) (h2 d pd) rv⟩
/-- built-ins upon data -/
theorem er_cb {r : List V → Hp → VK → Prop} (ha : Ear W tar δ PL) (h : ∀ ds, PL ds → ∃ z, CaD W r ds z ∧ P z) : Er W (tCB r tar) δ P := fun g O σ H S Q q => ha g O σ H S _ fun vs H1 ds f1 i1 p1 r1 => by
  obtain ⟨z, c, pz⟩ := h ds p1
  exact c O H1 vs i1 (S.step f1 i1).oA r1 Q fun w H' f2 i2 rw => q w H' z (f1.trans f2) i2 pz rw
theorem ed_cb {r : List V → Hp → VK → Prop} (ha : Ea W tar δ ds) (h : CaD W r ds z) : Ed W (tCB r tar) δ z := er_cb ha fun x e => by subst e; exact ⟨z, h, rfl⟩
abbrev rLen (K : PySem.W.Frag) : List V → Hp → VK → Prop := fun xs H Q => ∃ x n, xs = [x] ∧ LenV K x H n ∧ Q (.int n) H
theorem cd_lenT : CaD W (rLen W.K) [.tup ds] (.int ds.length) := fun O H us i _ r Q q => by
  cases r with
  | cons r rr => cases rr; cases r with
    | tup hp n r => exact ⟨_, ds.length, rfl, .inr ⟨_, SqT.of hp, r.length.symm⟩, q _ H (Fr.refl H) i (.int _)⟩
theorem cd_lenL : CaD W (rLen W.K) [.lst ds] (.int ds.length) := fun O H us i _ r Q q => by
  cases r with
  | cons r rr => cases rr; cases r with
    | lst hp n r => exact ⟨_, ds.length, rfl, .inl ⟨_, SqL.of hp, r.length.symm⟩, q _ H (Fr.refl H) i (.int _)⟩
theorem cd_lenS {s : Str} (h : s.length ≤ sizeLine) : CaD W (rLen W.K) [.str s] (.int s.length) := fun O H us i _ r Q q => by
  cases r with
  | cons r rr => cases rr; cases r; exact ⟨_, s.length, rfl, ⟨h, rfl⟩, q _ H (Fr.refl H) i (.int _)⟩
theorem ed_lenC (ha : Ec W ta δ ds) : Ed W (tCB (rLen W.K) (tCons ta tNil)) δ (.int ds.length) := fun g O σ H S Q q => ha g O σ H S _ fun p xs H1 f i hp n r =>
  ⟨_, ds.length, rfl, .inl ⟨_, SqL.of hp, r.length.symm⟩, q _ H1 _ f i rfl (.int _)⟩
abbrev rAbs : List V → Hp → VK → Prop := fun xs H Q => ∃ i, xs = [.int i] ∧ Q (.int (if i < 0 then -i else i)) H
theorem cd_abs {n : Int} : CaD W rAbs [.int n] (.int (n.natAbs : Int)) := fun O H us i _ r Q q => by
  cases r with
  | cons r rr => cases rr; cases r; exact ⟨n, rfl, by
      have e : (if n < 0 then -n else n) = (n.natAbs : Int) := by split <;> omega
      rw [e]; exact q _ H (Fr.refl H) i (.int _)⟩
abbrev rInt1 : List V → Hp → VK → Prop := fun xs H Q => (∃ i, xs = [.int i] ∧ Q (.int i) H) ∨ ∃ k, xs = [.bl k] ∧ Q (.int (if k then 1 else 0)) H
theorem cd_int {n : Int} : CaD W rInt1 [.int n] (.int n) := fun O H us i _ r Q q => by
  cases r with
  | cons r rr => cases rr; cases r; exact .inl ⟨n, rfl, q _ H (Fr.refl H) i (.int _)⟩
theorem cd_intB {b : Bool} : CaD W rInt1 [.bl b] (.int (if b then 1 else 0)) := fun O H us i _ r Q q => by
  cases r with
  | cons r rr => cases rr; cases r; exact .inr ⟨b, rfl, q _ H (Fr.refl H) i (.int _)⟩
/-- tuple(new list), tuple(tuple); list(..) -/
abbrev rTuple (K : PySem.W.Frag) : List V → Hp → VK → Prop := fun xs H Q => ∃ p ys, xs = [.ref p] ∧ ((SqL K H p ys ∧ ∀ l, H l = none → Q (.ref l) (upd H l (.tup ys))) ∨ (SqT K H p ys ∧ Q (.ref p) H))
theorem fresh_not {O : Addr → Prop} {H : Hp} {p : Addr} (i : W.I H) (hO : ∀ a, O a → ¬ W.A a ∧ H a ≠ none) (hp : H p = none) : ¬ W.M O p := fun z => z.elim (fun y => W.dom H p i y hp) fun y => (hO p y).2 hp
theorem all_new {H : Hp} {p : Addr} {o : HO} (hp : H p = none) : ∀ a u, H a = some u → upd H p o a = some u := fun a u e => by rw [upd_ne (ne_of_none e hp)]; exact e
theorem cd_tupleL (k : W.Ok) : CaD W (rTuple W.K) [.lst ds] (.tup ds) := fun O H us i hO r Q q => by
  cases r with
  | cons r rr => cases rr; cases r with
    | lst hp n r => exact ⟨_, _, rfl, .inl ⟨SqL.of hp, fun l hl => q _ _ (Fr.new hl) (k.all i (all_new hl)) (.tup upd_same (fresh_not i hO hl) (r.fr (Fr.new hl)))⟩⟩
theorem cd_tupleT : CaD W (rTuple W.K) [.tup ds] (.tup ds) := fun O H us i hO r Q q => by
  cases r with
  | cons r rr => cases rr; cases r with
    | tup hp n r => exact ⟨_, _, rfl, .inr ⟨SqT.of hp, q _ H (Fr.refl H) i (.tup hp n r)⟩⟩
theorem er_tupleC (k : W.Ok) (ha : Ec W ta δ ds) (p : P (.tup ds)) : Er W (tCB (rTuple W.K) (tCons ta tNil)) δ P := fun g O σ H S Q q => ha g O σ H S _ fun p' xs H1 f i hp n r =>
  ⟨_, _, rfl, .inl ⟨SqL.of hp, fun l hl => q _ _ _ (f.trans (Fr.new hl)) (k.all i (all_new hl)) p (.tup upd_same ((S.step f i).fresh hl) (r.fr (Fr.new hl)))⟩⟩
/-- tuple(new list whose content is told by P) -/
theorem er_tupleF {PF : List Dt → Prop} (k : W.Ok) (ha : Efr W ta δ PF) (p : ∀ ds, PF ds → P (.tup ds)) : Er W (tCB (rTuple W.K) (tCons ta tNil)) δ P := fun g O σ H S Q q => ha g O σ H S _ fun p' xs H1 ds f i y n hp r =>
  ⟨_, _, rfl, .inl ⟨SqL.of hp, fun l hl => q _ _ _ (f.trans (Fr.new hl)) (k.all i (all_new hl)) (p ds y) (.tup upd_same ((S.step f i).fresh hl) (r.less.fr (Fr.new hl)))⟩⟩
theorem ed_tupleF (k : W.Ok) (ha : Ef W ta δ ds) : Ed W (tCB (rTuple W.K) (tCons ta tNil)) δ (.tup ds) := er_tupleF k ha fun es e => by rw [e]
abbrev rList (K : PySem.W.Frag) : List V → Hp → VK → Prop := fun xs H Q => ∃ p ys, xs = [.ref p] ∧ (SqL K H p ys ∨ SqT K H p ys) ∧ ∀ l, H l = none → Q (.ref l) (upd H l (.lst ys))
theorem back_none {H H1 : Hp} {p : Addr} (f : Fr W H H1) (i : W.I H1) (hp : H1 p = none) : H p = none := by
  cases e : H p with
  | none => rfl
  | some o =>
    by_cases hN : W.N p
    · exact absurd hp (W.dom H1 p i (W.sub p hN))
    · rw [f p o hN e] at hp; cases hp
theorem own_new {O : Addr → Prop} {H1 : Hp} {l : Addr} {o : HO} {ys : List V} (hl : H1 l = none) (r : Reps W.C (W.M O) H1 ys ds) : Reps W.C (W.M fun a => O a ∨ a = l) (upd H1 l o) ys ds := r.mono fun a u n e => by
  have ne : a ≠ l := ne_of_none e hl
  refine ⟨fun z => ?_, by rw [upd_ne ne]; exact e⟩
  rcases z with z | z | z
  · exact n (.inl z)
  · exact n (.inr z)
  · exact ne z
theorem ef_listT (k : W.Ok) (ha : Ed W ta δ (.tup ds)) : Ef W (tCB (rList W.K) (tCons ta tNil)) δ ds := fun g O σ H S Q q => ha g O σ H S _ fun v H1 d f i e r => by
  subst e
  cases r with
  | tup hp n r => exact ⟨_, _, rfl, .inr (SqT.of hp), fun l hl => q _ _ _ _ (f.trans (Fr.new hl)) (k.all i (all_new hl)) rfl (back_none f i hl) upd_same (own_new hl r)⟩
/-- any, all, sum of a list of bools, of ints -/
theorem ed_any {bs : List Bool} (ha : Ec W ta δ (bs.map Dt.bl)) : Ed W (tCB (rAny W.K) (tCons ta tNil)) δ (.bl (bs.any id)) := fun g O σ H S Q q => ha g O σ H S _ fun p xs H1 f i hp n r => by
  have e := r.bls
  subst e
  exact ⟨p, bs, rfl, SqL.of hp, q _ H1 _ f i rfl (.bl _)⟩
theorem ed_all {bs : List Bool} (ha : Ec W ta δ (bs.map Dt.bl)) : Ed W (tCB (rAll W.K) (tCons ta tNil)) δ (.bl (bs.all id)) := fun g O σ H S Q q => ha g O σ H S _ fun p xs H1 f i hp n r => by
  have e := r.bls
  subst e
  exact ⟨p, bs, rfl, SqL.of hp, q _ H1 _ f i rfl (.bl _)⟩
theorem ed_sum {ns : List Int} (ha : Ec W ta δ (ns.map Dt.int)) : Ed W (tCB (rSum W.K) (tCons ta tNil)) δ (.int ns.sum) := fun g O σ H S Q q => ha g O σ H S _ fun p xs H1 f i hp n r => by
  have e := r.ints
  subst e
  exact ⟨p, ns, rfl, SqL.of hp, q _ H1 _ f i rfl (.int _)⟩
/-- isinstance(x, a built-in class) -/
def tyD : Dt → Option String
  | .non => some "NoneType" | .bl _ => some "bool" | .int _ => some "int" | .str _ => some "str" | .tup _ => some "tuple" | .lst _ => some "list" | _ => none
theorem tyD_ok {C : Addr} {A : Addr → Prop} {K : PySem.W.Frag} {H : Hp} {v : V} {d : Dt} {n : String} (r : Rep C A H v d) (h : tyD d = some n) : TyX K H v (.type n) := by
  cases r with
  | non => cases h; exact .base .non
  | bl b => cases h; exact .base (.bl b)
  | int b => cases h; exact .base (.int b)
  | str b => cases h; exact .base (.str b)
  | tup hp _ _ => cases h; exact .base (.tup hp)
  | lst hp _ _ => cases h; exact .base (.lst hp)
  | adr _ => cases h
  | rng _ _ => cases h
  | sys _ _ _ _ _ _ => cases h
theorem ed_isi {n T : String} {b : Bool} (ha : Ed W ta δ d) (hd : tyD d = some n) (hk : kitB n T = some b) : Ed W (tCB (rIsi W.K) (tCons ta (tCons (tC (.ty T)) tNil))) δ (.bl b) := fun g O σ H S Q q => ha g O σ H S _ fun v H1 d' f i e r => by
  subst e
  exact ⟨v, .ty T, .type n, .type T, b, rfl, .ty T, tyD_ok r hd, kit_ty hk, q _ H1 _ f i rfl (.bl _)⟩
/-- attributes of the instance -/
theorem ed_names {n r : Dt} (hc : Cls W.K W.C) (hn : NoAttr W.K W.C "names") (ha : Ed W ta δ (.sys n r)) : Ed W (tFld W.K ta "names") δ n := fun g O σ H S Q q => ha g O σ H S _ fun v H1 d' f i e r => by
  subst e
  cases r with
  | sys hp nA e1 e2 r1 r2 => exact ⟨_, _, _, _, _, rfl, hp, hc, hn, e1, q _ H1 _ f i rfl r1⟩
theorem ed_rows {n r : Dt} (hc : Cls W.K W.C) (hn : NoAttr W.K W.C "rows") (ha : Ed W ta δ (.sys n r)) : Ed W (tFld W.K ta "rows") δ r := fun g O σ H S Q q => ha g O σ H S _ fun v H1 d' f i e r => by
  subst e
  cases r with
  | sys hp nA e1 e2 r1 r2 => exact ⟨_, _, _, _, _, rfl, hp, hc, hn, e2, q _ H1 _ f i rfl r2⟩
/-! ### lists made of lists, tuples made of tuples -/
theorem ef_cat (k : W.Ok) (ha : Ec W ta δ ds) (hb : Ec W tb δ es) (hz : ds.length + es.length ≤ 100000) : Ef W (tOp rCat ta tb) δ (ds ++ es) := fun g O σ H S Q q => ha g O σ H S _ fun p xs H1 f1 i1 hp n1 r1 => hb g O σ H1 (S.step f1 i1) _ fun p2 ys H2 f2 i2 hp2 n2 r2 =>
  ⟨p, p2, xs, ys, rfl, rfl, f2 p _ n1 hp, hp2, by rw [r1.length, r2.length]; exact Nat.le_trans hz (by decide), fun l hl => q _ _ _ _ ((f1.trans f2).trans (Fr.new hl)) (k.all i2 (all_new hl)) rfl (back_none (f1.trans f2) i2 hl) upd_same (own_new hl ((r1.fr f2).append r2))⟩
theorem rep_flat {C : Addr} {A : Addr → Prop} {H : Hp} {xs : List V} (r : Reps C A H xs ds) : ∀ n : Nat, Reps C A H (List.replicate n xs).flatten (List.replicate n ds).flatten
  | 0 => .nil
  | n + 1 => by
    rw [List.replicate_succ, List.replicate_succ, List.flatten_cons, List.flatten_cons]
    exact r.append (rep_flat r n)
theorem ef_rep {n : Int} (k : W.Ok) (ha : Ec W ta δ ds) (hb : Ed W tb δ (.int n)) (hn : -100000 ≤ n ∧ n ≤ 100000) (hz : ds.length * n.toNat ≤ 100000) : Ef W (tOp rRep ta tb) δ (List.replicate n.toNat ds).flatten := fun g O σ H S Q q => ha g O σ H S _ fun p xs H1 f1 i1 hp n1 r1 => hb g O σ H1 (S.step f1 i1) _ fun u H2 y f2 i2 e r2 => by
  subst e
  cases r2
  exact ⟨p, n, xs, rfl, rfl, f2 p _ n1 hp, by omega, by omega, by rw [r1.length]; exact Nat.le_trans hz (by decide), fun l hl => q _ _ _ _ ((f1.trans f2).trans (Fr.new hl)) (k.all i2 (all_new hl)) rfl (back_none (f1.trans f2) i2 hl) upd_same (own_new hl (rep_flat (r1.fr f2) _))⟩
theorem od_catA (k : W.Ok) (hz : ds.length + es.length ≤ 100000) : OpD W (rCatA W.K) (.tup ds) (.tup es) (.tup (ds ++ es)) := fun O H u v i hO ru rv Q q => by
  cases ru with
  | @tup p xs _ hp n r =>
    cases rv with
    | @tup p2 ys _ hp2 n2 r2 =>
      refine ⟨_, _, _, _, rfl, rfl, SqT.of hp, SqT.of hp2, by rw [r.length, r2.length]; exact Nat.le_trans hz (by decide), fun e => ?_, fun e1 e2 => ?_, fun e1 e2 l hl => ?_⟩
      · subst e
        cases r
        exact q _ H (Fr.refl H) i (.tup hp2 n2 r2)
      · subst e2
        cases r2
        rw [List.append_nil] at *
        exact q _ H (Fr.refl H) i (.tup hp n r)
      · exact q _ _ (Fr.new hl) (k.all i (all_new hl)) (.tup upd_same (fresh_not i hO hl) ((r.append r2).fr (Fr.new hl)))
end
end DL
namespace DL
open PySem PySem.Spec PyProof.Rows L2
section
variable {X : Cx}
/-! ### one of two rules -/
def orR (r1 r2 : R2) : R2 := fun x y H Q => r1 x y H Q ∨ r2 x y H Q
theorem opOr {f : Value → Value → Sem Value} {r1 r2 : R2} (h1 : OpR X f r1) (h2 : OpR X f r2) : OpR X f (orR r1 r2) := fun pins s σ H x y v u Q I rx ry h => h.elim (h1 pins s σ H x y v u Q I rx ry) (h2 pins s σ H x y v u Q I rx ry)
/-! ### text * int -/
def rMulS : R2 := fun x y H Q => ∃ (z : Str) (n : Int), x = .str z ∧ y = .int n ∧ 0 ≤ n ∧ n ≤ 1000 ∧ z.length ≤ 1000 ∧ Q (.str (Txt.mul z n)) H
/-! ### tuple * 1 is the tuple -/
theorem tup_mul1 (l : Addr) (items : Array Value) (n : Nat) (dd : Option Addr) (sl : Array (Option Value)) (u : Tok) :
    Meets (Builtin.«tuple.__mul__» ⟨[.ref l, .int 1 u], []⟩) (fun _ R s => s.heap.get? l = some { cls := .type "tuple", dict := dd, data := .seq items n, slots := sl } ∧ R (.ok (.ret (Value.ref l))) s) :=
  .of_wp fun prog w A R s h => by
    obtain ⟨hp, g, d, tk, os⟩ := s
    obtain ⟨hl, h⟩ := h
    have f1 := AutoSeq1.idx_int
    have c1 : (items.isEmpty || (1 : Int) == 1) = true := by simp
    wp_walk using wpAny_loadPart' hl
    repeat (first
      | (refine wpAny_ite_true (decide_eq_true c1) ?_; wp_walk using wpAny_loadPart' hl)
      | (refine wpAny_ite_false (decide_eq_false (by decide)) ?_; wp_walk using wpAny_loadPart' hl))
    exact ⟨_, rfl, h⟩

def rRepT1 (K : PySem.W.Frag) : R2 := fun x y H Q => ∃ l xs, x = .ref l ∧ y = .int 1 ∧ SqT K H l xs ∧ Q (.ref l) H
theorem opRepT1 : OpR X (binaryOp .Mult) (rRepT1 X.K) := by
  intro pins s σ H x y v u Q I rx ry h
  obtain ⟨l, xs, rfl, rfl, hT, q⟩ := h
  cases rx
  obtain ⟨t, rfl⟩ := ry
  obtain ⟨its, r, ⟨⟨cls, dd, data, sl⟩, ho, hc, n, hd⟩, hs⟩ := I.tuple hT
  simp only at hc hd
  subst hc hd
  have w1 : wpAny (model X.prog X.w) X.A (call (.builtin "tuple.__mul__") [.ref l, .int 1 t]) (EP X pins σ Q) X.xe s :=
    call_meets F.slot_tuple_mul ⟨_, ho, rfl⟩ F.entry_tuple_mul (F.args_tuple_mul_2 _ _) (tup_mul1 l its.toArray n dd sl t) ⟨ho, ⟨.ref l, H, I, rfl, q⟩⟩
  have w2 : wpAny (model X.prog X.w) X.A (call (.builtin "int.__rmul__") [.int 1 t, .ref l])
      (fun r s' => r = Value.notImplemented ∧ s'.TypeIs (.ref l) "tuple" ∧ wpAny (model X.prog X.w) X.A (call (.builtin "tuple.__mul__") [.ref l, .int 1 t]) (EP X pins σ Q) X.xe s') X.xe s :=
    call_meets F.slot_int_rmul (typeIs_int s 1 t) F.entry_int_rmul (F.args_int_rmul_2 _ _) (int_rmul_tuple 1 t l its.toArray n dd sl) ⟨ho, rfl, ⟨_, ho, rfl⟩, w1⟩
  exact wpAny_binaryOp_repeat_ref (T := "tuple") (U := "int") (by decide) ⟨_, ho, rfl⟩ (fun s' => typeIs_int s' 1 t) noFill_tuple_mul F.fills_int_mul F.slot_int_rmul repeat_tuple F.slot_int_index.lookup w2
theorem opMulS : OpR X (binaryOp .Mult) rMulS := by
  intro pins s σ H x y v u Q I rx ry h
  obtain ⟨z, n, rfl, rfl, h0, h1, hz, q⟩ := h
  obtain ⟨t, rfl⟩ := rx
  obtain ⟨t', rfl⟩ := ry
  have ok : MulOk z n := by
    refine ⟨by rw [decide_eq_false (by omega), decide_eq_false (by omega)]; rfl, fun hn _ hgt => ?_, fun hn _ => ?_⟩
    · have a1 : (z.length : Int) ≤ 1000 := by omega
      have a2 : (1000 : Int) ≤ (2 ^ 63 - 1) / n := Int.le_ediv_of_mul_le (by omega) (by omega)
      omega
    · have a1 : z.length * n.toNat ≤ 1000 * 1000 := Nat.mul_le_mul hz (by omega)
      show decide (z.length * n.toNat > sizeLine) = false
      rw [sizeLine_eq]
      exact decide_eq_false (by omega)
  exact SB.mul ok fun t2 k => ⟨.str _, H, I.tok _, ⟨_, rfl⟩, q⟩

/-! ### x < y of alike data -/
def rLtD (K : PySem.W.Frag) : R2 := fun x y H Q => ∃ d e, Dp K H x d ∧ Dp K H y e ∧ PySem.W.alike d e = true ∧ d ≠ .none ∧ d.depth ≤ 64 ∧ Q (.bl (PySem.W.dataLt d e)) H
theorem opLtD (hu : X.A.units + 64 < cLine) : OpR X (compareOp .Lt) (rLtD X.K) := by
  intro pins s σ H x y v u Q I rx ry h
  obtain ⟨d, e, hd, he, ha, hn, hz, q⟩ := h
  obtain ⟨as, r1⟩ := Dp.reads I d x v hd rx
  obtain ⟨bs, r2⟩ := Dp.reads I e y u he ry
  exact PySem.W.rcLt_alike d e X.A s v u as bs r1 r2 ha hn (by omega) X.prog X.w X.xe _ ⟨.bl _, H, I, rfl, q⟩

/-! ### sorted(xs) of alike data -/
def lePy (z w : V × PyData) : Bool := PySem.W.dataLe false (fun q : V × PyData => q.2) z w
def rSortD (K : PySem.W.Frag) : List V → Hp → VK → Prop := fun vs H Q => ∃ (a : Addr) (zs : List (V × PyData)), vs = [V.ref a] ∧ SqL K H a (zs.map (·.1)) ∧ (∀ z ∈ zs, Dp K H z.1 z.2 ∧ z.2.depth ≤ 64) ∧
  PySem.W.AllAlike (zs.map (·.2)) ∧ PySem.W.Sortable (zs.map (·.2)) ∧ ∀ p, H p = none → Q (.ref p) (upd H p (.lst ((zs.mergeSort (PySem.W.dataLe false (fun q : V × PyData => q.2))).map (·.1))))
theorem eachIs_of {K : PySem.W.Frag} {H : Hp} {pins : List (Addr × Obj)} {σ : L2.St} {s : Shared} (I : Inv X pins σ H s) (hK : X.K = K) : ∀ {zs : List (V × PyData)} {us : List Value}, Vals (zs.map (·.1)) us → (∀ z ∈ zs, Dp K H z.1 z.2 ∧ z.2.depth ≤ 64) →
    PySem.W.EachIs (fun (u : Value) (z : V × PyData) => RelV z.1 u) us zs ∧ PySem.W.EachIs (fun (u : Value) (z : V × PyData) => ∃ as, Reads s.heap u z.2 as) us zs
  | [], _, r, _ => by cases r; exact ⟨.nil, .nil⟩
  | z :: zs, _, r, h => by
    cases r with
    | cons r rr =>
      obtain ⟨a, b⟩ := eachIs_of I hK rr fun y hy => h y (List.mem_cons_of_mem _ hy)
      have hz := (h z List.mem_cons_self).1
      rw [← hK] at hz
      exact ⟨.cons r a, .cons (Dp.reads I z.2 z.1 _ hz r) b⟩
theorem vals_each : ∀ {us : List Value} {zs : List (V × PyData)}, PySem.W.EachIs (fun (u : Value) (z : V × PyData) => RelV z.1 u) us zs → Vals (zs.map (·.1)) us
  | _, _, .nil => .nil
  | _, _, .cons h t => .cons h (vals_each t)
theorem callSortD (hu : X.A.units + 100 < cLine) : CallR X (.builtin "sorted") (rSortD X.K) := by
  intro pins s σ H vs us Q I r h
  obtain ⟨a, zs, rfl, hs, hz, ha, hk, q⟩ := h
  obtain ⟨its, rv, hl, hsz⟩ := I.list hs
  obtain ⟨u, rfl, ru⟩ := vals1 r
  obtain rfl : u = Value.ref a := ru
  obtain ⟨e1, e2⟩ := eachIs_of I rfl rv hz
  refine PySem.W.sorted_data (enc := fun q : V × PyData => q.2) hl.isList e1 e2 ha hk (by simpa using hsz) (fun b hb => ?_) fun out ho eo => ?_
  · have := (hz b hb).2
    omega
  · obtain ⟨c, hc⟩ := sortedAll_at s.heap its out.toArray
    have hd : s.heap.objs.size ≤ s.heap.objs.size + 1 := Nat.le_succ _
    refine ⟨.ref (s.heap.objs.size + 1), _, I.laid (t' := s.toks) (fun b o e => sortedAll_old e) hd ?_, rfl, q _ (I.hok.fresh hd)⟩
    refine ⟨?_, out, c, vals_each eo, hc⟩
    rw [List.length_map, List.length_mergeSort]
    simpa using hsz
end
end DL
/-! short names of rules' readings -/
namespace DL
open PySem PySem.Spec PyProof.Rows L2
abbrev rAdd : R2 := rI0 fun i j => .int (i + j)
abbrev rSub : R2 := rI0 fun i j => .int (i - j)
abbrev rMul : R2 := rI CMul fun i j => .int (i * j)
abbrev rMulW : R2 := rI CMulW fun i j => .int (i * j)
abbrev rFdiv : R2 := rI CDivW fun i j => .int (i / j)
abbrev rMod : R2 := rI (fun _ j => 0 < j) fun i j => .int (i % j)
abbrev rPow : R2 := rI CPow fun i j => .int (i ^ j.toNat)
abbrev rLtI : R2 := rI0 fun i j => .bl (decide (i < j))
abbrev rLeI : R2 := rI0 fun i j => .bl (decide (i ≤ j))
abbrev rGtI : R2 := rI0 fun i j => .bl (decide (j < i))
abbrev rGeI : R2 := rI0 fun i j => .bl (decide (j ≤ i))
abbrev rNeg : V → Hp → VK → Prop := rU fun i => .int (-i)
abbrev rIsNo : R2 := fun x y H Q => y = .non ∧ Q (.bl (decide (x = .non))) H
abbrev rNotNo : R2 := fun x y H Q => y = .non ∧ Q (.bl (!decide (x = .non))) H
abbrev rInSg : R2 := fun x y H Q => ∃ (c : Nat) (z : Str), x = .str ⟨#[c]⟩ ∧ y = .str z ∧ Q (.bl (decide (c ∈ z.cps.toList))) H
abbrev rAddS : R2 := fun x y H Q => ∃ i j, x = .str i ∧ y = .str j ∧ i.length + j.length ≤ sizeLine ∧ Q (.str (i ++ j)) H
abbrev rLtS : R2 := fun x y H Q => ∃ i j, x = .str i ∧ y = .str j ∧ Q (.bl (decide (i.cps.toList < j.cps.toList))) H
abbrev rMulT (K : PySem.W.Frag) : R2 := orR (rRepT K) (rRepT1 K)
def tNevE : TE := fun _ _ _ => False
theorem pe_never {X : Cx} {e : Expr} : PE X e tNevE := ⟨fun _ _ _ _ _ _ h => h.elim⟩
def tNevT : TT := fun _ _ _ => False
theorem pt_never {X : Cx} {e : Expr} : PT X e tNevT := ⟨fun _ _ _ _ _ _ h => h.elim⟩
section
variable {X : Cx}
theorem o_abs : CallR X (.builtin "abs") rAbs := call_abs
theorem o_int1 : CallR X (.type "int") rInt1 := call_int1
theorem o_mulT : OpR X (binaryOp .Mult) (rMulT X.K) := opOr op_repT opRepT1
theorem o_isN : OpR X (compareOp .Is) rIsNo := op_isN
theorem o_notN : OpR X (compareOp .IsNot) rNotNo := op_notN
end
end DL
namespace DL
open PySem PySem.Spec PyProof.Rows L2
section
variable {W : Wd} {δ δ' : Dl} {te ta tb : TE} {t u : TT} {d z : Dt} {ds es : List Dt} {ts tu : TS} {P P' : Pst} {R : Dt → Prop} {RL : List Dt → Prop} {i j l : Nat} {g : Gh W} {O : Addr → Prop} {H H' : Hp} {σ σ' : L2.St} {tar : TA}
/-! ### while -/
theorem sd_while (M : Nat → Dl → Prop) (h0 : ∃ m, M m δ) (hs : ∀ m δ', M m δ' → ∃ b, Et W t δ' b ∧ (b = true → Sd W ts δ' { P with nx := fun δ2 => ∃ m', m' < m ∧ M m' δ2, ct := fun δ2 => ∃ m', m' < m ∧ M m' δ2, bk := P.nx }) ∧ (b = false → P.nx δ')) : Sd W (tWhile t ts) δ P := fun g O σ H D S K => by
  obtain ⟨m0, h0⟩ := h0
  refine ⟨fun m σ H => ∃ O δ', SR W g O H σ δ' ∧ M m δ', ⟨m0, O, δ, S, h0⟩, ?_⟩
  rintro m σ1 H1 ⟨O1, δ1, S1, h1⟩
  obtain ⟨b, hb, hT, hF⟩ := hs m δ1 h1
  refine hb g O1 σ1 H1 S1 _ fun H2 f2 i2 => ?_
  cases b with
  | true =>
    rw [if_pos rfl]
    refine ⟨fun σ H => ∃ O δ', SR W g O H σ δ' ∧ ∃ m', m' < m ∧ M m' δ', fun σ' H' ⟨O', δ', s, m', lt, q⟩ => ⟨m', lt, O', δ', s, q⟩, hT rfl g O1 σ1 H2 _ (S1.step f2 i2) ⟨fun O σ H δ s p => ⟨O, δ, s, p⟩, fun O v H d a b r p => K.rt O v H d a b r p, fun O σ H δ s p => K.nx O σ H δ s p, fun O σ H δ s p => ⟨O, δ, s, p⟩, K.xp, K.ro⟩⟩
  | false =>
    rw [if_neg Bool.false_ne_true]
    exact K.nx O1 σ1 H2 δ1 (S1.step f2 i2) (hF rfl)
theorem sq_while (M : Nat → Dl → Prop) (h0 : ∃ m, M m δ) (hs : ∀ m δ', M m δ' → ∃ b, Et W t δ' b ∧ (b = true → Sd W ts δ' { P with nx := fun δ2 => ∃ m', m' < m ∧ M m' δ2, ct := fun δ2 => ∃ m', m' < m ∧ M m' δ2, bk := fun δ2 => Sd W tu δ2 P }) ∧ (b = false → Sd W tu δ' P)) : Sd W (tSeq (tWhile t ts) tu) δ P :=
  sd_seq (M := fun δ' => Sd W tu δ' P) (sd_while M h0 hs) fun _ h => h
theorem sq_for {wi : TI} {gt : TG} (k : W.Ok) (hy : YlG W wi δ ds) (Inv : Nat → Dl → Prop) (h0 : Inv 0 δ) (hs : ∀ (i : Nat) (d : Dt) (δ' : Dl), ds[i]? = some d → Inv i δ' → ∃ δ2 js, Tg W gt d δ' δ2 js ∧ Sd W ts δ2 { P with nx := Inv (i + 1), ct := Inv (i + 1), bk := fun δ2 => Sd W tu δ2 P })
    (hd : ∀ δ', Inv ds.length δ' → Sd W tu δ' P) : Sd W (tSeq (tFor wi gt ts) tu) δ P :=
  sd_seq (M := fun δ' => Sd W tu δ' P) (sd_for k hy Inv h0 hs hd) fun _ h => h
theorem sd_seqE (h : Sd W ts δ { P with nx := fun x => Sd W tu x P }) : Sd W (tSeq ts tu) δ P := sd_seq h fun _ q => q

/-! ### pending values: more slots -/
/-- slots that come from others -/
theorem SR.via {δ' : Dl} {σ' : L2.St} (S : SR W g O H σ δ) (f : Nat → Nat) (hl : σ'.length = δ'.length) (h : ∀ i s, δ'[i]? = some (some s) → δ[f i]? = some (some s) ∧ σ'[i]? = σ[f i]?)
    (inj : ∀ i j, i < δ'.length → j < δ'.length → f i = f j → i = j) : SR W g O H σ' δ' where
  len := hl
  sh := fun i d e => by
    obtain ⟨h1, h2⟩ := h i _ e
    obtain ⟨v, e, r⟩ := S.sh _ d h1
    exact ⟨v, h2.trans e, r⟩
  own := fun i d e => by
    obtain ⟨h1, h2⟩ := h i _ e
    obtain ⟨p, xs, e, r⟩ := S.own _ d h1
    exact ⟨p, xs, h2.trans e, r⟩
  dis := fun i j p ds es e1 e2 e3 e4 => by
    obtain ⟨h1, h2⟩ := h i _ e1
    obtain ⟨h3, h4⟩ := h j _ e2
    exact inj i j (List.getElem?_eq_some_iff.mp e1).1 (List.getElem?_eq_some_iff.mp e2).1 (S.dis _ _ p ds es h1 h3 (h2.symm.trans e3) (h4.symm.trans e4))
  oA := S.oA
  gh := S.gh
  inv := S.inv
  oL := S.oL
theorem SR.first {τ : L2.St} {ε : Dl} (S : SR W g O H (σ ++ τ) (δ ++ ε)) (hl : σ.length = δ.length) : SR W g O H σ δ :=
  S.via id hl (fun i s e => by
    have hi := (List.getElem?_eq_some_iff.mp e).1
    exact ⟨by rw [id, List.getElem?_append_left hi]; exact e, by rw [id, List.getElem?_append_left (by omega)]⟩) fun _ _ _ _ e => e
theorem SR.push {v : V} (S : SR W g O H σ δ) (r : Rep W.C (W.M O) H v d) : SR W g O H (σ ++ [some v]) (δ ++ [some (Sl.sh d)]) := by
  have hl := S.len
  have S0 : SR W g O H (σ ++ [none]) (δ ++ [none]) := S.via id (by simp [hl]) (fun i s e => by
    have hi : i < δ.length := by
      have hi := (List.getElem?_eq_some_iff.mp e).1
      simp only [List.length_append, List.length_cons, List.length_nil] at hi
      by_cases z : i < δ.length
      · exact z
      · have : i = δ.length := by omega
        rw [this] at e
        simp at e
    rw [List.getElem?_append_left hi] at e
    exact ⟨e, by rw [id, List.getElem?_append_left (by omega)]⟩) fun _ _ _ _ e => e
  have S1 := S0.setSh (j := δ.length) r (by simp)
  have e1 : (σ ++ [none]).set δ.length (some v) = σ ++ [some v] := by rw [← hl]; simp
  have e2 : (δ ++ [none]).set δ.length (some (Sl.sh d)) = δ ++ [some (Sl.sh d)] := by simp
  rw [e1, e2] at S1
  exact S1
theorem SR.pushOwn {p : Addr} {xs : List V} (S : SR W g O H σ δ) (n : H p = none) (f : Fr W H H') (i : W.I H') (hp : H' p = some (.lst xs)) (r : Reps W.C (W.M fun a => O a ∨ a = p) H' xs ds) : SR W g (fun a => O a ∨ a = p) H' (σ ++ [some (.ref p)]) (δ ++ [some (Sl.own ds)]) := by
  have hl := S.len
  have S0 : SR W g O H (σ ++ [none]) (δ ++ [none]) := S.via id (by simp [hl]) (fun i s e => by
    have hi : i < δ.length := by
      have hi := (List.getElem?_eq_some_iff.mp e).1
      simp only [List.length_append, List.length_cons, List.length_nil] at hi
      by_cases z : i < δ.length
      · exact z
      · have : i = δ.length := by omega
        rw [this] at e
        simp at e
    rw [List.getElem?_append_left hi] at e
    exact ⟨e, by rw [id, List.getElem?_append_left (by omega)]⟩) fun _ _ _ _ e => e
  have S1 := (S0.more n f i hp).setOwn (j := δ.length) (.inr rfl) hp r (by simp) fun l es _ hl z => by
    obtain ⟨q, ys, e, _, hq, _⟩ := S0.own l es hl
    rw [e] at z
    simp only [Option.some.injEq, V.ref.injEq] at z
    subst z
    rw [n] at hq; cases hq
  have e1 : (σ ++ [none]).set δ.length (some (V.ref p)) = σ ++ [some (.ref p)] := by rw [← hl]; simp
  have e2 : (δ ++ [none]).set δ.length (some (Sl.own ds)) = δ ++ [some (Sl.own ds)] := by simp
  rw [e1, e2] at S1
  exact S1
/-- argument lists with marks -/
def Eam (W : Wd) (ta : TA) (δ : Dl) (PL : List Sl → Prop) : Prop := ∀ (g : Gh W) (O : Addr → Prop) (σ : L2.St) (H : Hp) (τ : L2.St) (ε : Dl), σ.length = δ.length → SR W g O H (σ ++ τ) (δ ++ ε) → ∀ Q : List V → Hp → Prop,
  (∀ vs H' O' sls, SR W g O' H' ((σ ++ τ) ++ vs.map some) ((δ ++ ε) ++ sls.map some) → PL sls → Q vs H') → ta σ H Q
theorem eam_nil {PL : List Sl → Prop} (h : PL []) : Eam W tNil δ PL := fun g O σ H τ ε hl S Q q => q [] H O [] (by simpa using S) h
theorem eam_sh {PL : List Sl → Prop} (h : Er W te δ R) (k : ∀ d, R d → Eam W tar δ fun l => PL (.sh d :: l)) : Eam W (tCons te tar) δ PL := fun g O σ H τ ε hl S Q q =>
  h g O σ H (S.first hl) _ fun v H1 d f i p r => k d p g O σ H1 (τ ++ [some v]) (ε ++ [some (.sh d)]) hl (by
    have S1 := (S.step f i).push r
    rw [List.append_assoc, List.append_assoc] at S1
    exact S1) _ fun vs H2 O2 sls S2 p2 => q (v :: vs) H2 O2 (.sh d :: sls) (by simpa [List.append_assoc] using S2) p2
theorem eam_own {PL : List Sl → Prop} (h : Efr W te δ RL) (k : ∀ ds, RL ds → Eam W tar δ fun l => PL (.own ds :: l)) : Eam W (tCons te tar) δ PL := fun g O σ H τ ε hl S Q q =>
  h g O σ H (S.first hl) _ fun p xs H1 ds f i y n hp r => k ds y g (fun a => O a ∨ a = p) σ H1 (τ ++ [some (.ref p)]) (ε ++ [some (.own ds)]) hl (by
    have S1 := S.pushOwn n f i hp r
    rw [List.append_assoc, List.append_assoc] at S1
    exact S1) _ fun vs H2 O2 sls S2 p2 => q (.ref p :: vs) H2 O2 (.own ds :: sls) (by simpa [List.append_assoc] using S2) p2
theorem eam_shE {PL : List Sl → Prop} (h : Ed W te δ d) (k : Eam W tar δ fun l => PL (.sh d :: l)) : Eam W (tCons te tar) δ PL := eam_sh h fun x e => by subst e; exact k
theorem eam_ownE {PL : List Sl → Prop} (h : Ef W te δ ds) (k : Eam W tar δ fun l => PL (.own ds :: l)) : Eam W (tCons te tar) δ PL := eam_own h fun x e => by subst e; exact k
theorem Eam.imp {P1 P2 : List Sl → Prop} (h : Eam W tar δ P1) (k : ∀ l, P1 l → P2 l) : Eam W tar δ P2 := fun g O σ H τ ε hl S Q q => h g O σ H τ ε hl S Q fun vs H' O' sls S p => q vs H' O' sls S (k _ p)
theorem sq_par (ha : Eam W tar δ fun l => ∃ a b, l = [a, b] ∧ Sd W tu ((δ.set i (some a)).set j (some b)) P) (hi : i < δ.length := by exact of_decide_eq_true rfl) (hj : j < δ.length := by exact of_decide_eq_true rfl) (hij : i ≠ j := by decide) : Sd W (tSeq (tPar i j tar) tu) δ P := fun g O σ H D S K => by
  refine ha g O σ H [] [] S.len (by simpa using S) _ fun vs H' O' sls S1 ⟨a, b, e, h⟩ => ?_
  subst e
  simp only [List.append_nil, List.map_cons, List.map_nil] at S1
  have l1 : vs.length = 2 := by have := S1.len; have := S.len; simp at *; omega
  match vs, l1 with
  | [v, w], _ =>
    refine ⟨v, w, rfl, h g O' _ H' D (S1.via (fun x => if x = j then δ.length + 1 else if x = i then δ.length else x) (by simp [S.len]) (fun x s e => ?_) fun x y hx hy e => ?_) K⟩
    · have hls := S.len
      by_cases h1 : x = j
      · subst h1
        rw [List.getElem?_set_self (by simpa using hj)] at e
        simp only [Option.some.injEq] at e
        subst e
        simp [hls, hj]
      · rw [List.getElem?_set_ne (Ne.symm h1)] at e
        by_cases h2 : x = i
        · subst h2
          rw [List.getElem?_set_self hi] at e
          simp only [Option.some.injEq] at e
          subst e
          refine ⟨by simp [h1], ?_⟩
          rw [List.getElem?_set_ne (Ne.symm h1), List.getElem?_set_self (by omega)]
          simp [hls, h1]
        · rw [List.getElem?_set_ne (Ne.symm h2)] at e
          have hx := (List.getElem?_eq_some_iff.mp e).1
          simp only [h1, h2, if_false]
          exact ⟨by rw [List.getElem?_append_left hx]; exact e, by rw [List.getElem?_set_ne (Ne.symm h1), List.getElem?_set_ne (Ne.symm h2), List.getElem?_append_left (by omega)]⟩
    · simp only [List.length_set] at hx hy
      repeat' split at e
      all_goals omega
theorem sq_par3 (ha : Eam W tar δ fun m => ∃ a b c, m = [a, b, c] ∧ Sd W tu (((δ.set i (some a)).set j (some b)).set l (some c)) P) (hi : i < δ.length := by exact of_decide_eq_true rfl) (hj : j < δ.length := by exact of_decide_eq_true rfl) (hl : l < δ.length := by exact of_decide_eq_true rfl) (hij : i ≠ j := by decide) (hil : i ≠ l := by decide) (hjl : j ≠ l := by decide) : Sd W (tSeq (tPar3 i j l tar) tu) δ P := fun g O σ H D S K => by
  refine ha g O σ H [] [] S.len (by simpa using S) _ fun vs H' O' sls S1 ⟨a, b, c, e, h⟩ => ?_
  subst e
  simp only [List.append_nil, List.map_cons, List.map_nil] at S1
  have l1 : vs.length = 3 := by have := S1.len; have := S.len; simp at *; omega
  match vs, l1 with
  | [v, w, u], _ =>
    refine ⟨v, w, u, rfl, h g O' _ H' D (S1.via (fun x => if x = l then δ.length + 2 else if x = j then δ.length + 1 else if x = i then δ.length else x) (by simp [S.len]) (fun x s e => ?_) fun x y hx hy e => ?_) K⟩
    · have hls := S.len
      by_cases h0 : x = l
      · subst h0
        rw [List.getElem?_set_self (by simpa using hl)] at e
        simp only [Option.some.injEq] at e
        subst e
        simp [hls, hl]
      · rw [List.getElem?_set_ne (Ne.symm h0)] at e
        by_cases h1 : x = j
        · subst h1
          rw [List.getElem?_set_self (by simpa using hj)] at e
          simp only [Option.some.injEq] at e
          subst e
          refine ⟨by simp [h0], ?_⟩
          rw [List.getElem?_set_ne (Ne.symm h0), List.getElem?_set_self (by simp; omega)]
          simp [hls, h0]
        · rw [List.getElem?_set_ne (Ne.symm h1)] at e
          by_cases h2 : x = i
          · subst h2
            rw [List.getElem?_set_self hi] at e
            simp only [Option.some.injEq] at e
            subst e
            refine ⟨by simp [h0, h1], ?_⟩
            rw [List.getElem?_set_ne (Ne.symm h0), List.getElem?_set_ne (Ne.symm h1), List.getElem?_set_self (by omega)]
            simp [hls, h0, h1]
          · rw [List.getElem?_set_ne (Ne.symm h2)] at e
            have hx := (List.getElem?_eq_some_iff.mp e).1
            simp only [h0, h1, h2, if_false]
            exact ⟨by rw [List.getElem?_append_left hx]; exact e, by rw [List.getElem?_set_ne (Ne.symm h0), List.getElem?_set_ne (Ne.symm h1), List.getElem?_set_ne (Ne.symm h2), List.getElem?_append_left (by omega)]⟩
    · simp only [List.length_set] at hx hy
      repeat' split at e
      all_goals omega
/-- xs[m], ys[n] = a, b -/
theorem sq_set2 {m n : Int} {l1 l2 : Nat} {R1 R2 : Dt → Prop} (k : W.Ok) (hd : δ[i]? = some (some (Sl.own ds))) (hd2 : δ[j]? = some (some (Sl.own es))) (hij : i ≠ j) {tm tn : TE} (h1 : Er W ta δ R1) (h2 : Er W tb δ R2)
    (hx : Ed W tm δ (.int m)) (hm : ixN ds.length m = some l1) (hx2 : ∀ (δ' : Dl), (∀ (x : Nat) (d : Dt), δ[x]? = some (some (Sl.sh d)) → δ'[x]? = some (some (Sl.sh d))) → Ed W tn δ' (.int n)) (hn : ixN es.length n = some l2)
    (q : ∀ a b, R1 a → R2 b → Sd W tu ((δ.set i (some (Sl.own (ds.set l1 a)))).set j (some (Sl.own (es.set l2 b)))) P) :
    Sd W (tSeq (tAsg (tTup (tCons ta (tCons tb tNil))) (gTup W.K 2 (gCons (gSub (tVar i) tm rSetL) (gCons (gSub (tVar j) tn rSetL) gNil)))) tu) δ P := fun g O σ H D S K => by
  have hT : Er W (tTup (tCons ta (tCons tb tNil))) δ fun d => ∃ a b, d = .tup [a, b] ∧ R1 a ∧ R2 b := er_tup (PL := fun l => ∃ a b, l = [a, b] ∧ R1 a ∧ R2 b) k (ear_cons (PR := fun _ => True) h1 fun a ra => ear_cons (PR := fun _ => True) h2 fun b rb => Ear.imp ear_nil fun _ e => by subst e; exact ⟨a, b, rfl, ra, rb⟩)
    fun l ⟨a, b, e, ra, rb⟩ => by subst e; exact ⟨by simp, a, b, rfl, ra, rb⟩
  show tTup (tCons ta (tCons tb tNil)) σ H fun v H1 => gTup W.K 2 (gCons (gSub (tVar i) tm rSetL) (gCons (gSub (tVar j) tn rSetL) gNil)) v σ H1 fun σ2 H2 => tu D σ2 H2
  refine hT g O σ H S _ fun v H1 d f1 i1 ⟨a, b, e, ra, rb⟩ r => ?_
  subst e
  cases r with
  | tup hp nA rr =>
    cases rr with
    | @cons v1 _ _ _ r1 rr =>
      cases rr with
      | @cons v2 _ _ _ r2 rr =>
        cases rr
        refine ⟨_, _, rfl, SqT.of hp, rfl, _, _, rfl, ?_⟩
        have S1 := S.step f1 i1
        obtain ⟨p, xs, e, hO, hp1, rx⟩ := S1.own i ds hd
        refine ⟨_, e, hx g O σ H1 S1 _ fun u H2 y f2 i2 ey ru => ?_⟩
        subst ey
        cases ru
        have hp2 : H2 p = some (.lst xs) := f2 p _ (S1.own_n hO) hp1
        refine ⟨p, xs, m, l1, rfl, rfl, hp2, by rw [rx.length]; exact hm, ?_⟩
        have S2 := (S1.step f2 i2).write k hd e (Reps.set (r1.fr f2) l1 (rx.fr f2))
        have hd3 : (δ.set i (some (Sl.own (ds.set l1 a))))[j]? = some (some (Sl.own es)) := by rw [List.getElem?_set_ne hij]; exact hd2
        refine ⟨_, _, rfl, ?_⟩
        have r2' : Rep W.C (W.M O) (upd H2 p (.lst (xs.set l1 v1))) v2 b := (r2.fr f2).mono fun x o nx e => ⟨nx, by rw [upd_ne (fun z => nx (.inr (by rw [z]; exact hO)))]; exact e⟩
        obtain ⟨p3, ys, e3, hO3, hp3, ry⟩ := S2.own j es hd3
        refine ⟨_, e3, hx2 _ (fun x d ex => ?_) g O σ _ S2 _ fun u H3 y f3 i3 ey ru => ?_⟩
        · have : i ≠ x := fun z => by subst z; rw [hd] at ex; cases ex
          rw [List.getElem?_set_ne this]; exact ex
        · subst ey
          cases ru
          have hp4 : H3 p3 = some (.lst ys) := f3 p3 _ (S2.own_n hO3) hp3
          refine ⟨p3, ys, n, l2, rfl, rfl, hp4, by rw [ry.length]; exact hn, ?_⟩
          exact ⟨rfl, q a b ra rb g O σ _ D ((S2.step f3 i3).write k hd3 e3 (Reps.set (r2'.fr f3) l2 (ry.fr f3))) K⟩
theorem sd_of_sq (h : Sd W (tSeq ts tNext) δ P) : Sd W ts δ P := h
theorem sd_par (ha : Eam W tar δ fun l => ∃ a b, l = [a, b] ∧ P.nx ((δ.set i (some a)).set j (some b))) (hi : i < δ.length := by exact of_decide_eq_true rfl) (hj : j < δ.length := by exact of_decide_eq_true rfl) (hij : i ≠ j := by decide) : Sd W (tPar i j tar) δ P :=
  sd_of_sq (sq_par (ha.imp fun l ⟨a, b, e, h⟩ => ⟨a, b, e, sd_next h⟩) hi hj hij)
/-- a, b = x, y by a tuple (one of the names is a cell) -/
theorem sq_parT (k : W.Ok) (ha : Eam W tar δ fun l => ∃ a b, l = [a, b] ∧ Sd W tu ((δ.set i (some a)).set j (some b)) P) (hi : i < δ.length := by exact of_decide_eq_true rfl) (hj : j < δ.length := by exact of_decide_eq_true rfl) (hij : i ≠ j := by decide) : Sd W (tSeq (tAsg (tTup tar) (gTup W.K 2 (gCons (gName i) (gCons (gName j) gNil)))) tu) δ P := fun g O σ H D S K => by
  show tTup tar σ H fun v H1 => gTup W.K 2 (gCons (gName i) (gCons (gName j) gNil)) v σ H1 fun σ2 H2 => tu D σ2 H2
  refine ha g O σ H [] [] S.len (by simpa using S) _ fun vs H' O' sls S1 ⟨a, b, e, h⟩ => ?_
  subst e
  simp only [List.append_nil, List.map_cons, List.map_nil] at S1
  have l1 : vs.length = 2 := by have := S1.len; have := S.len; simp at *; omega
  match vs, l1 with
  | [v, w], _ =>
    refine ⟨by show 2 ≤ sizeLine; decide, fun p hp => ?_⟩
    have S2 := S1.step (Fr.new (o := .tup [v, w]) hp) (k.all S1.inv fun a o e => by rw [upd_ne (ne_of_none e hp)]; exact e)
    refine ⟨p, [v, w], rfl, SqT.of upd_same, rfl, v, [w], rfl, w, [], rfl, rfl, h g O' _ _ D (S2.via (fun x => if x = j then δ.length + 1 else if x = i then δ.length else x) (by simp [S.len]) (fun x s e => ?_) fun x y hx hy e => ?_) K⟩
    · have hls := S.len
      by_cases h1 : x = j
      · subst h1
        rw [List.getElem?_set_self (by simpa using hj)] at e
        simp only [Option.some.injEq] at e
        subst e
        simp [hls, hj]
      · rw [List.getElem?_set_ne (Ne.symm h1)] at e
        by_cases h2 : x = i
        · subst h2
          rw [List.getElem?_set_self hi] at e
          simp only [Option.some.injEq] at e
          subst e
          refine ⟨by simp [h1], ?_⟩
          rw [List.getElem?_set_ne (Ne.symm h1), List.getElem?_set_self (by omega)]
          simp [hls, h1]
        · rw [List.getElem?_set_ne (Ne.symm h2)] at e
          have hx := (List.getElem?_eq_some_iff.mp e).1
          simp only [h1, h2, if_false]
          exact ⟨by rw [List.getElem?_append_left hx]; exact e, by rw [List.getElem?_set_ne (Ne.symm h1), List.getElem?_set_ne (Ne.symm h2), List.getElem?_append_left (by omega)]⟩
    · simp only [List.length_set] at hx hy
      repeat' split at e
      all_goals omega
theorem sq_parT3 (k : W.Ok) (ha : Eam W tar δ fun m => ∃ a b c, m = [a, b, c] ∧ Sd W tu (((δ.set i (some a)).set j (some b)).set l (some c)) P) (hi : i < δ.length := by exact of_decide_eq_true rfl) (hj : j < δ.length := by exact of_decide_eq_true rfl) (hl : l < δ.length := by exact of_decide_eq_true rfl) (hij : i ≠ j := by decide) (hil : i ≠ l := by decide) (hjl : j ≠ l := by decide) :
    Sd W (tSeq (tAsg (tTup tar) (gTup W.K 3 (gCons (gName i) (gCons (gName j) (gCons (gName l) gNil))))) tu) δ P := fun g O σ H D S K => by
  show tTup tar σ H fun v H1 => gTup W.K 3 (gCons (gName i) (gCons (gName j) (gCons (gName l) gNil))) v σ H1 fun σ2 H2 => tu D σ2 H2
  refine ha g O σ H [] [] S.len (by simpa using S) _ fun vs H' O' sls S1 ⟨a, b, c, e, h⟩ => ?_
  subst e
  simp only [List.append_nil, List.map_cons, List.map_nil] at S1
  have l1 : vs.length = 3 := by have := S1.len; have := S.len; simp at *; omega
  match vs, l1 with
  | [v, w, u], _ =>
    refine ⟨by show 3 ≤ sizeLine; decide, fun p hp => ?_⟩
    have S2 := S1.step (Fr.new (o := .tup [v, w, u]) hp) (k.all S1.inv fun a o e => by rw [upd_ne (ne_of_none e hp)]; exact e)
    refine ⟨p, [v, w, u], rfl, SqT.of upd_same, rfl, v, [w, u], rfl, w, [u], rfl, u, [], rfl, rfl, h g O' _ _ D (S2.via (fun x => if x = l then δ.length + 2 else if x = j then δ.length + 1 else if x = i then δ.length else x) (by simp [S.len]) (fun x s e => ?_) fun x y hx hy e => ?_) K⟩
    · have hls := S.len
      by_cases h0 : x = l
      · subst h0
        rw [List.getElem?_set_self (by simpa using hl)] at e
        simp only [Option.some.injEq] at e
        subst e
        simp [hls, hl]
      · rw [List.getElem?_set_ne (Ne.symm h0)] at e
        by_cases h1 : x = j
        · subst h1
          rw [List.getElem?_set_self (by simpa using hj)] at e
          simp only [Option.some.injEq] at e
          subst e
          refine ⟨by simp [h0], ?_⟩
          rw [List.getElem?_set_ne (Ne.symm h0), List.getElem?_set_self (by simp; omega)]
          simp [hls, h0]
        · rw [List.getElem?_set_ne (Ne.symm h1)] at e
          by_cases h2 : x = i
          · subst h2
            rw [List.getElem?_set_self hi] at e
            simp only [Option.some.injEq] at e
            subst e
            refine ⟨by simp [h0, h1], ?_⟩
            rw [List.getElem?_set_ne (Ne.symm h0), List.getElem?_set_ne (Ne.symm h1), List.getElem?_set_self (by omega)]
            simp [hls, h0, h1]
          · rw [List.getElem?_set_ne (Ne.symm h2)] at e
            have hx := (List.getElem?_eq_some_iff.mp e).1
            simp only [h0, h1, h2, if_false]
            exact ⟨by rw [List.getElem?_append_left hx]; exact e, by rw [List.getElem?_set_ne (Ne.symm h0), List.getElem?_set_ne (Ne.symm h1), List.getElem?_set_ne (Ne.symm h2), List.getElem?_append_left (by omega)]⟩
    · simp only [List.length_set] at hx hy
      repeat' split at e
      all_goals omega
end
end DL
/-! data as the kit's data: == , in, <, sorted; texts; slices -/
namespace DL
open PySem PySem.Spec PyProof.Rows L2

mutual
def toPy : Dt → PyData
  | .non => .none
  | .bl b => .bool b
  | .int i => .int i
  | .str s => .str s
  | .tup l => .tuple (toPyA l)
  | .lst l => .list (toPyA l)
  | .adr _ => .none
  | .sys _ _ => .none
  | .rng _ _ => .none
def toPyA : List Dt → List PyData
  | [] => []
  | d :: ds => toPy d :: toPyA ds
end
theorem toPyA_map : ∀ ds : List Dt, toPyA ds = ds.map toPy
  | [] => rfl
  | d :: ds => by rw [toPyA, List.map_cons, toPyA_map ds]
mutual
/-- no bools, no addresses, texts that can be laid -/
def pl : Dt → Bool
  | .non => true
  | .bl _ => false
  | .int _ => true
  | .str s => PyData.strOk s
  | .tup l => plA l
  | .lst l => plA l
  | .adr _ => false
  | .sys _ _ => false
  | .rng _ _ => false
def plA : List Dt → Bool
  | [] => true
  | d :: ds => pl d && plA ds
end
theorem plA_iff : ∀ {ds : List Dt}, plA ds = true ↔ ∀ d ∈ ds, pl d = true
  | [] => by simp [plA]
  | d :: ds => by rw [plA, Bool.and_eq_true, plA_iff]; simp
mutual
def dep : Dt → Nat
  | .tup l => depA l + 1
  | .lst l => depA l + 1
  | _ => 0
def depA : List Dt → Nat
  | [] => 0
  | d :: ds => max (dep d) (depA ds)
end
theorem depA_le {n : Nat} : ∀ {ds : List Dt}, depA ds ≤ n ↔ ∀ d ∈ ds, dep d ≤ n
  | [] => by simp [depA]
  | d :: ds => by
    have := depA_le (n := n) (ds := ds)
    simp only [depA, List.mem_cons, forall_eq_or_imp, Nat.max_le, this]
mutual
theorem depth_toPy : ∀ d : Dt, (toPy d).depth ≤ dep d
  | .non => by simp [toPy, dep, PyData.depth]
  | .bl b => by simp [toPy, dep, PyData.depth]
  | .int b => by simp [toPy, dep, PyData.depth]
  | .str b => by simp [toPy, dep, PyData.depth]
  | .adr b => by simp [toPy, dep, PyData.depth]
  | .sys n r => by simp [toPy, dep, PyData.depth]
  | .rng n r => by simp [toPy, dep, PyData.depth]
  | .tup l => by have := depthA_toPy l; simp only [toPy, dep, PyData.depth]; omega
  | .lst l => by have := depthA_toPy l; simp only [toPy, dep, PyData.depth]; omega
theorem depthA_toPy : ∀ l : List Dt, PyData.depthAll (toPyA l) ≤ depA l
  | [] => by simp [toPyA, depA, PyData.depthAll]
  | d :: l => by
    have h1 := depth_toPy d
    have h2 := depthA_toPy l
    simp only [toPyA, depA, PyData.depthAll]
    omega
end
mutual
theorem lay_toPy : ∀ d : Dt, pl d = true → (toPy d).canLay0 = true
  | .non, _ => by simp [toPy, PyData.canLay0]
  | .bl b, h => by simp [pl] at h
  | .int b, _ => by simp [toPy, PyData.canLay0]
  | .str b, h => by simpa [toPy, pl, PyData.canLay0] using h
  | .adr b, h => by simp [pl] at h
  | .sys n r, h => by simp [pl] at h
  | .rng n r, h => by simp [pl] at h
  | .tup l, h => by have := layA_toPy l (by simpa [pl] using h); simpa [toPy, PyData.canLay0] using this
  | .lst l, h => by have := layA_toPy l (by simpa [pl] using h); simpa [toPy, PyData.canLay0] using this
theorem layA_toPy : ∀ l : List Dt, plA l = true → PyData.canLayAll0 (toPyA l) = true
  | [], _ => by simp [toPyA, PyData.canLayAll0]
  | d :: l, h => by
    rw [plA, Bool.and_eq_true] at h
    simp only [toPyA, PyData.canLayAll0, Bool.and_eq_true]
    exact ⟨lay_toPy d h.1, layA_toPy l h.2⟩
end
theorem shaped_of {d : Dt} (h : pl d = true) (hz : dep d ≤ 64) : SeqAt.shaped (toPy d) = true := by
  show ((toPy d).canLay0 && decide ((toPy d).depth ≤ 64)) = true
  rw [Bool.and_eq_true]
  exact ⟨lay_toPy d h, decide_eq_true (Nat.le_trans (depth_toPy d) hz)⟩
section
variable {C : Addr} {A : Addr → Prop} {K : PySem.W.Frag} {H : Hp}
mutual
theorem Rep.dp : ∀ {d : Dt} {v : V}, Rep C A H v d → pl d = true → Dp K H v (toPy d)
  | _, _, .non, _ => by rw [toPy]; exact .non
  | _, _, .bl b, _ => by rw [toPy]; exact .bl b
  | _, _, .int b, _ => by rw [toPy]; exact .int b
  | _, _, .str b, _ => by rw [toPy]; exact .str b
  | _, _, .adr b, h => by simp [pl] at h
  | _, _, .tup hp _ r, h => by rw [toPy]; exact .tup (SqT.of hp) (Reps.dp r (by simpa [pl] using h))
  | _, _, .lst hp _ r, h => by rw [toPy]; exact .lst (SqL.of hp) (Reps.dp r (by simpa [pl] using h))
  | _, _, .sys _ _ _ _ _ _, h => by simp [pl] at h
  | _, _, .rng _ _, h => by simp [pl] at h
theorem Reps.dp : ∀ {ds : List Dt} {vs : List V}, Reps C A H vs ds → plA ds = true → DpAll K H vs (toPyA ds)
  | _, _, .nil, _ => by rw [toPyA]; exact .nil
  | _, _, .cons r t, h => by
    rw [plA, Bool.and_eq_true] at h
    rw [toPyA]
    exact .cons (Rep.dp r h.1) (Reps.dp t h.2)
end
end
/-- == of data -/
def deq (d e : Dt) : Bool := PyData.eqv (toPy d) (toPy e)
theorem eqv_str (a b : Str) : (a == b) = decide (a = b) := by
  by_cases h : a = b
  · subst h; simp
  · rw [decide_eq_false h]
    exact beq_eq_false_iff_ne.mpr h
mutual
theorem deq_iff : ∀ (d e : Dt), pl d = true → pl e = true → (deq d e = true ↔ d = e)
  | .non, e, _, he => by cases e <;> simp_all [deq, toPy, PyData.eqv, pl]
  | .bl b, e, h, _ => by simp [pl] at h
  | .int i, e, _, he => by cases e <;> simp_all [deq, toPy, PyData.eqv, pl]
  | .str i, e, _, he => by cases e <;> simp_all [deq, toPy, PyData.eqv, pl, eqv_str]
  | .adr b, e, h, _ => by simp [pl] at h
  | .sys n r, e, h, _ => by simp [pl] at h
  | .rng n r, e, h, _ => by simp [pl] at h
  | .tup l, e, h, he => by
    cases e with
    | tup m =>
      have := deqA_iff l m (by simpa [pl] using h) (by simpa [pl] using he)
      simp only [deq, toPy, PyData.eqv, Dt.tup.injEq]
      exact this
    | _ => simp_all [deq, toPy, PyData.eqv, pl]
  | .lst l, e, h, he => by
    cases e with
    | lst m =>
      have := deqA_iff l m (by simpa [pl] using h) (by simpa [pl] using he)
      simp only [deq, toPy, PyData.eqv, Dt.lst.injEq]
      exact this
    | _ => simp_all [deq, toPy, PyData.eqv, pl]
theorem deqA_iff : ∀ (l m : List Dt), plA l = true → plA m = true → (PyData.eqvAll (toPyA l) (toPyA m) = true ↔ l = m)
  | [], [], _, _ => by simp [toPyA, PyData.eqvAll]
  | [], e :: m, _, _ => by simp [toPyA, PyData.eqvAll]
  | d :: l, [], _, _ => by simp [toPyA, PyData.eqvAll]
  | d :: l, e :: m, h1, h2 => by
    rw [plA, Bool.and_eq_true] at h1 h2
    have a := deq_iff d e h1.1 h2.1
    have b := deqA_iff l m h1.2 h2.2
    simp only [toPyA, PyData.eqvAll, Bool.and_eq_true, List.cons.injEq]
    exact and_congr a b
end
theorem deq_self {d : Dt} (h : pl d = true) : deq d d = true := (deq_iff d d h h).mpr rfl
theorem deq_ne {d e : Dt} (h : pl d = true) (h2 : pl e = true) (n : d ≠ e) : deq d e = false := by
  cases q : deq d e with
  | false => rfl
  | true => exact absurd ((deq_iff d e h h2).mp q) n
/-! ### rules -/
section
variable {W : Wd} {δ : Dl} {te ta tb : TE} {d e z : Dt} {ds es : List Dt} {P : Dt → Prop}
theorem od_eqD (h : pl d = true) (h2 : pl e = true) (z1 : dep d ≤ 64) (z2 : dep e ≤ 64) : OpD W (rEqD W.K) d e (.bl (deq d e)) := fun O H u v i _ ru rv Q q =>
  ⟨_, _, ru.dp h, rv.dp h2, shaped_of h z1, shaped_of h2 z2, q _ H (Fr.refl H) i (.bl _)⟩
theorem od_neD (h : pl d = true) (h2 : pl e = true) (z1 : dep d ≤ 64) (z2 : dep e ≤ 64) : OpD W (rNeD W.K) d e (.bl (!deq d e)) := fun O H u v i _ ru rv Q q =>
  ⟨_, _, ru.dp h, rv.dp h2, shaped_of h z1, shaped_of h2 z2, q _ H (Fr.refl H) i (.bl _)⟩
theorem any_toPyA (d : Dt) : ∀ es : List Dt, (toPyA es).any (fun z => PyData.eqv z (toPy d)) = es.any fun x => deq x d
  | [] => rfl
  | e :: es => by rw [toPyA, List.any_cons, List.any_cons, any_toPyA d es]; rfl
/-- x not in a list that may be read -/
theorem ed_notInL (ha : Ed W ta δ d) (hb : Ec W tb δ es) (h : pl d = true) (h2 : plA es = true) (z1 : dep d ≤ 64) (z2 : depA es ≤ 63) : Ed W (tOp (rNotInD W.K) ta tb) δ (.bl (!es.any fun x => deq x d)) := fun g O σ H S Q q =>
  ha g O σ H S _ fun v H1 x f1 i1 e1 r1 => hb g O σ H1 (S.step f1 i1) _ fun p xs H2 f2 i2 hp n r2 => by
    subst e1
    refine ⟨toPy x, toPyA es, (r1.fr f2).dp h, .lst (SqL.of hp) (r2.dp h2), shaped_of h z1, ?_, ?_⟩
    · have := shaped_of (d := .lst es) (by simpa [pl] using h2) (by simp only [dep]; omega)
      simpa [toPy] using this
    · rw [any_toPyA]
      exact q _ H2 _ (f1.trans f2) i2 rfl (.bl _)
/-- int in a tuple of ints -/
theorem inV_ints (n : Int) : ∀ ns : List Int, inV (.int n) (ns.map V.int) = decide (n ∈ ns)
  | [] => rfl
  | m :: ns => by
    have := inV_ints n ns
    unfold inV at this ⊢
    rw [List.map_cons, List.any_cons, this]
    have e : eqV (V.int m) (V.int n) = decide (m = n) := by
      by_cases h : m = n
      · subst h; simp [eqV]
      · simp [eqV, h]
    rw [e]
    by_cases h : m = n
    · subst h; simp
    · have h' : n ≠ m := fun z => h z.symm
      simp [h, h']
theorem od_notInI {n : Int} {ns : List Int} : OpD W (rIn W.K true) (.int n) (.tup (ns.map Dt.int)) (.bl (!decide (n ∈ ns))) := fun O H u v i _ ru rv Q q => by
  cases ru
  cases rv with
  | tup hp nA r =>
    have e := r.ints
    subst e
    refine ⟨_, _, rfl, .inr (SqT.of hp), rfl, ?_, ?_⟩
    · rw [List.all_eq_true]
      intro x hx
      obtain ⟨m, _, e⟩ := List.mem_map.mp hx
      subst e
      rfl
    · rw [inV_ints]
      exact q _ H (Fr.refl H) i (.bl _)
/-! ### < -/
def dLt (d e : Dt) : Bool := PySem.W.dataLt (toPy d) (toPy e)
def alk (d e : Dt) : Bool := PySem.W.alike (toPy d) (toPy e)
theorem od_ltD (h : pl d = true) (h2 : pl e = true) (ha : alk d e = true) (hn : d ≠ .non) (hn2 : ∀ a, d ≠ .adr a) (hz : dep d ≤ 64) : OpD W (rLtD W.K) d e (.bl (dLt d e)) := fun O H u v i _ ru rv Q q =>
  ⟨_, _, ru.dp h, rv.dp h2, ha, by cases d <;> simp_all [toPy, pl], Nat.le_trans (depth_toPy d) hz, q _ H (Fr.refl H) i (.bl _)⟩
theorem dLt_irrefl (d : Dt) : dLt d d = false := PyProof.Rows.lex_irrefl _
theorem dLt_trans {d e z : Dt} (h : dLt d e = true) (h2 : dLt e z = true) : dLt d z = true := PyProof.Rows.lex_trans _ _ _ h h2
theorem dLt_strict {d e : Dt} (h : pl d = true) (h2 : pl e = true) (ha : alk d e = true) (n : d ≠ e) (hl : dLt e d = false) : dLt d e = true := by
  cases hl2 : dLt d e with
  | true => rfl
  | false =>
    exfalso
    have ek : PySem.W.keyToks (toPy d) = PySem.W.keyToks (toPy e) := PyProof.Rows.lex_total _ _ hl2 hl
    have hq := (PySem.W.toks_eqv (toPy d) (toPy e) ha).2 (deq_ne h h2 n) [] [Sum.inl 0]
    rw [ek, List.append_nil, PyProof.Rows.lex_irrefl] at hq
    have : ∀ l : List (Int ⊕ List Nat), PyProof.Rows.lexLt PyProof.Rows.itemOrd l (l ++ [Sum.inl 0]) = true := fun l => by
      induction l with
      | nil => rfl
      | cons x l ih => rw [List.cons_append, PyProof.Rows.lex_self]; exact ih
    rw [this] at hq
    cases hq
theorem dLt_int (a b : Int) : dLt (.int a) (.int b) = decide (a < b) := by unfold dLt; rw [toPy, toPy]; exact PySem.W.dataLt_int a b
theorem dLt_str (a b : Str) : dLt (.str a) (.str b) = decide (a.cps.toList < b.cps.toList) := by unfold dLt; rw [toPy, toPy]; exact PySem.W.dataLt_str a b
theorem dLt_tup_same {d : Dt} {ds es : List Dt} (h : pl d = true) (ha : alk d d = true) : dLt (.tup (d :: ds)) (.tup (d :: es)) = dLt (.tup ds) (.tup es) := by
  unfold dLt
  rw [toPy, toPy, toPyA, toPyA, PySem.W.dataLt_tuple, PySem.W.dataLt_all_yes ha (deq_self h), toPy, toPy, PySem.W.dataLt_tuple]
theorem dLt_tup_diff {d e : Dt} {ds es : List Dt} (h : pl d = true) (h2 : pl e = true) (ha : alk d e = true) (q : d ≠ e) : dLt (.tup (d :: ds)) (.tup (e :: es)) = dLt d e := by
  unfold dLt
  rw [toPy, toPy, toPyA, toPyA, PySem.W.dataLt_tuple, PySem.W.dataLt_all_no ha (deq_ne h h2 q)]
theorem dLt_tup_nil (ds : List Dt) : dLt (.tup ds) (.tup []) = false := by
  unfold dLt
  rw [toPy, toPy, toPyA, PySem.W.dataLt_tuple]
  cases ds <;> rfl
/-! ### sorted -/
theorem reps_zip {C : Addr} {A : Addr → Prop} {H : Hp} : ∀ {xs : List V} {ds : List Dt}, Reps C A H xs ds → (xs.zip ds).map (·.1) = xs ∧ ∀ q ∈ xs.zip ds, Rep C A H q.1 q.2
  | _, _, .nil => ⟨rfl, fun q h => by cases h⟩
  | _, _, .cons r t => by
    obtain ⟨a, b⟩ := reps_zip t
    refine ⟨by rw [List.zip_cons_cons, List.map_cons, a], fun q h => ?_⟩
    rw [List.zip_cons_cons] at h
    rcases List.mem_cons.mp h with h | h
    · rw [h]; exact r
    · exact b q h
theorem reps_of {C : Addr} {A : Addr → Prop} {H : Hp} : ∀ {l : List (V × Dt)}, (∀ q ∈ l, Rep C A H q.1 q.2) → Reps C A H (l.map (·.1)) (l.map (·.2))
  | [], _ => .nil
  | q :: l, h => .cons (h q List.mem_cons_self) (reps_of fun x hx => h x (List.mem_cons_of_mem _ hx))
theorem zip_snd {α β : Type} : ∀ {xs : List α} {ds : List β}, xs.length = ds.length → (xs.zip ds).map (·.2) = ds
  | [], [], _ => rfl
  | x :: xs, d :: ds, h => by rw [List.zip_cons_cons, List.map_cons, zip_snd (by simpa using h)]
/-- a list is sorted: the same items, none below one that stands ahead -/
theorem efr_sorted (k : W.Ok) (ha : Ec W ta δ ds) (hp : plA ds = true) (hz : depA ds ≤ 64) (hal : ∀ d ∈ ds, ∀ e ∈ ds, alk d e = true) (hs : (∀ d ∈ ds, ∃ x r, d = .tup (x :: r)) ∨ ∀ d ∈ ds, ∃ s, d = .str s) :
    Efr W (tCB (rSortD W.K) (tCons ta tNil)) δ fun es => es.Perm ds ∧ es.Pairwise fun x y => dLt y x = false := fun g O σ H S Q q => ha g O σ H S _ fun p xs H1 f i hpp n r => by
  have hlen := r.length
  obtain ⟨z1, z2⟩ := reps_zip r
  have z3 : (xs.zip ds).map (·.2) = ds := zip_snd hlen
  have mem : ∀ d ∈ ds, pl d = true := plA_iff.mp hp
  have memD : ∀ d ∈ ds, dep d ≤ 64 := depA_le.mp hz
  have zmem : ∀ w ∈ xs.zip ds, w.2 ∈ ds := fun w hw => by rw [← z3]; exact List.mem_map.mpr ⟨w, hw, rfl⟩
  let zs : List (V × PyData) := (xs.zip ds).map fun w => (w.1, toPy w.2)
  have e1 : zs.map (·.1) = xs := by rw [List.map_map]; exact z1
  have e2 : zs.map (·.2) = ds.map toPy := by
    have : zs.map (·.2) = ((xs.zip ds).map (·.2)).map toPy := by rw [List.map_map, List.map_map]; rfl
    rw [this, z3]
  refine ⟨p, zs, rfl, by rw [e1]; exact SqL.of hpp, fun z hz' => ?_, ?_, ?_, fun l hl => ?_⟩
  · obtain ⟨w, hw, e⟩ := List.mem_map.mp hz'
    subst e
    exact ⟨(z2 w hw).dp (mem _ (zmem w hw)), Nat.le_trans (depth_toPy _) (memD _ (zmem w hw))⟩
  · intro a ha' b hb'
    rw [e2] at ha' hb'
    obtain ⟨d, hd, e⟩ := List.mem_map.mp ha'
    obtain ⟨d2, hd2, e'⟩ := List.mem_map.mp hb'
    subst e e'
    exact hal d hd d2 hd2
  · rw [e2]
    rcases hs with hs | hs
    · refine .inl fun d' hd' => ?_
      obtain ⟨d, hd, e⟩ := List.mem_map.mp hd'
      obtain ⟨x, r, e'⟩ := hs d hd
      subst e'
      exact ⟨toPy x, toPyA r, by rw [← e, toPy, toPyA]⟩
    · refine .inr fun d' hd' => ?_
      obtain ⟨d, hd, e⟩ := List.mem_map.mp hd'
      obtain ⟨s, e'⟩ := hs d hd
      subst e'
      rw [← e, toPy]
      exact ⟨by simp, fun xs => by simp⟩
  · -- the sorted pairs come from pairs of value and datum
    let le : V × PyData → V × PyData → Bool := PySem.W.dataLe false (fun q : V × PyData => q.2)
    have tot : PySem.W.TotalLe le := PySem.W.sortLe_total _ _ _
    have pm : (zs.mergeSort le).Perm zs := List.mergeSort_perm zs le
    have hsub : ∀ z ∈ zs.mergeSort le, ∃ w ∈ xs.zip ds, z = (w.1, toPy w.2) := fun z hz' => by
      have := pm.mem_iff.mp hz'
      obtain ⟨w, hw, e⟩ := List.mem_map.mp this
      exact ⟨w, hw, e.symm⟩
    have perm2 : ∃ ws : List (V × Dt), ws.Perm (xs.zip ds) ∧ ws.map (fun w => (w.1, toPy w.2)) = zs.mergeSort le := PL.perm_map_of pm
    obtain ⟨ws, wp, we⟩ := perm2
    have wr : ∀ w ∈ ws, Rep W.C (W.M O) H1 w.1 w.2 := fun w hw => z2 w (wp.mem_iff.mp hw)
    have key : (zs.mergeSort le).map (·.1) = ws.map (·.1) := by rw [← we, List.map_map]; rfl
    rw [key]
    refine q _ _ _ (ws.map (·.2)) (f.trans (Fr.new hl)) (k.all i (all_new hl)) ⟨?_, ?_⟩ (back_none f i hl) upd_same (own_new hl (reps_of wr))
    · have := wp.map (·.2)
      rw [z3] at this
      exact this
    · have srt : (zs.mergeSort le).Pairwise fun a b => le a b = true := List.pairwise_mergeSort (le := le) (fun a b c => tot.trans a b c) (fun a b => by have := tot.total a b; simpa using this) zs
      rw [← we] at srt
      rw [List.pairwise_map] at srt ⊢
      refine srt.imp fun {a b} h => ?_
      have h2 : (!PyProof.Rows.lexLt PyProof.Rows.itemOrd (PySem.W.keyToks (toPy b.2)) (PySem.W.keyToks (toPy a.2))) = true := h
      exact (Bool.not_eq_true' _).mp h2
end
end DL
/-! enumerate(tuple), zip(list, range object) -/
namespace DL
open PySem PySem.Spec PyProof.Rows L2
open PySem.Sem (wp)
open AutoSeq1 (wpAny_loadPart')

theorem meets_enumT (l : Addr) (items : Array Value) :
    Meets (Builtin.«enumerate.__new__» ⟨[.type "enumerate", .ref l], []⟩) (fun _ R s => s.heap.IsTuple l items ∧
      R (.ok (.ret (.ref (s.heap.push { cls := .type "tuple_iterator", data := .fields #[.ref l, .int 0 0] }).objs.size)))
        { s with heap := (s.heap.push { cls := .type "tuple_iterator", data := .fields #[.ref l, .int 0 0] }).push { cls := .type "enumerate", data := .fields #[.none, .bool false, .ref s.heap.objs.size, rawInt 0, .none, .none] } }) :=
  .of_wp fun prog w A R s h => by
    obtain ⟨hp, g, d, tk, os⟩ := s; obtain ⟨hl, h⟩ := h
    have hsub := sub_enumerate
    have hL : Heap.IsTuple (Shared.heap ⟨hp, g, d, tk, os⟩) l items := hl
    wp_walk
    refine wpAny_stack_any fun st => wpAny_pure ?_
    split
    · rename_i c _ _ _ _ _
      cases (c == Value.type "enumerate")
      · wp_walk using wpAny_pyIter_tuple hL
        exact ⟨_, rfl, h⟩
      · wp_walk using wpAny_pyIter_tuple hL
        exact ⟨_, rfl, h⟩
    · wp_walk using wpAny_pyIter_tuple hL
      exact ⟨_, rfl, h⟩
section
variable {prog : Program} {w : World} {A : Around} {E : Value → Shared → Prop} {s : Shared}
theorem call_enumT {l : Addr} {items : Array Value} {Q : Value → Shared → Prop} (hL : s.heap.IsTuple l items)
    (h : ∀ h', IsEnum h' (s.heap.objs.size + 1) s.heap.objs.size 0 .none → h'.IsTupleIter s.heap.objs.size l 0 → h'.objs.size = s.heap.objs.size + 2 →
      (∀ b o, s.heap.get? b = some o → h'.get? b = some o) → Q (.ref (s.heap.objs.size + 1)) { s with heap := h' }) :
    wpAny (model prog w) A (call (.type "enumerate") [.ref l]) Q E s := by
  refine callType_new F.called_enumerate (by decide) (F.typeCall_enumerate_1 _) (F.newCall_enumerate_1 _) (fun obj => F.args_object_init_2 obj _) F.entry_enumerate_new
    (meets_enumT l items) ⟨hL, ?_⟩
  have hz : (s.heap.push { cls := .type "tuple_iterator", data := .fields #[.ref l, .int 0 0] }).objs.size = s.heap.objs.size + 1 := Heap.size_push ..
  show _ ∧ _
  rw [hz]
  have he : IsEnum ((s.heap.push { cls := .type "tuple_iterator", data := .fields #[.ref l, .int 0 0] }).push
      { cls := .type "enumerate", data := .fields #[.none, .bool false, .ref s.heap.objs.size, rawInt 0, .none, .none] }) (s.heap.objs.size + 1) s.heap.objs.size 0 .none := by
    have := Heap.get?_push_size (s.heap.push { cls := .type "tuple_iterator", data := .fields #[.ref l, .int 0 0] })
      (o := { cls := .type "enumerate", data := .fields #[.none, .bool false, .ref s.heap.objs.size, rawInt 0, .none, .none] }) rfl
    rw [hz] at this; exact this
  exact ⟨⟨_, he, rfl⟩, h _ he ⟨_, Heap.get?_push_of_some _ (Heap.get?_push_size _ rfl), rfl, rfl⟩ (by rw [Heap.size_push, hz]) fun b o x => Heap.get?_push_of_some _ (Heap.get?_push_of_some _ x)⟩
end
/-- the tuple at a as it stands at each turn, each item in a new pair -/
def IteT (K : PySem.W.Frag) (a : Addr) : It :=
  ⟨fun i H => ∃ (xs : List V) (x : V), SqT K H a xs ∧ xs[i]? = some x, fun i H v H' => ∃ T x, v = .ref T ∧ H T = none ∧ H' = upd H T (.tup [.int (i : Nat), x]) ∧ ∀ xs, SqT K H a xs → xs[i]? = some x, fun i H => ∃ xs : List V, SqT K H a xs ∧ xs.length = i⟩
theorem turn_enumT {P : Program} {w : World} {K : PySem.W.Frag} {elts : List Expr} {kk : Nat} {tpos : Pos} (a e it : Addr) :
    Turn P w K (.Tuple elts kk tpos) (IteT K a) [e, it] e (fun i h => (∃ old, IsEnum h e it ((i : Nat) : Int) old) ∧ h.IsTupleIter it a i ∧ e ≠ it ∧ a ≠ it ∧ a ≠ e) where
  mem := by simp
  obj := fun i h st b hb => by
    obtain ⟨⟨old, he⟩, ⟨o, ho, hc, hd⟩, _⟩ := st
    have e' : b = e ∨ b = it := by simpa using hb
    rcases e' with z | z
    · rw [z]; exact ⟨_, he, fun v q => nomatch q⟩
    · rw [z]; exact ⟨o, ho, fun v q => by rw [hd] at q; cases q⟩
  keep := fun i h h' st k => let ⟨⟨old, he⟩, hi, hne⟩ := st; ⟨⟨old, k e (by simp) _ he⟩, hi.at fun o q => k it (by simp) o q, hne⟩
  item := by
    intro X hP hw hK hc i pins s σ H E I hf st hg
    subst hP hw hK
    obtain ⟨⟨old, he⟩, hit, hne, hai, hae⟩ := st
    obtain ⟨xs, x, hq, hx⟩ := hg
    obtain ⟨its, rv, p, hz⟩ := I.tuple hq
    obtain ⟨u, hu, ru⟩ := rv.get hx
    have hel : e < s.heap.objs.size := Heap.lt_size he
    have hil : it < s.heap.objs.size := by obtain ⟨_, q, _⟩ := hit; exact Heap.lt_size q
    have hil' : i < its.toArray.size := by
      have := (List.getElem?_eq_some_iff.mp hu).1
      simpa using this
    have D := Draws.tuple (prog := X.prog) (w := X.w) (A := X.A.in1) (I.ok.hd hc) it a hai its.toArray
    refine wpAny_pyNext_enum_itemC D he ⟨hit, p⟩ hil' hne (by simp [hne, Ne.symm hae]) fun y h' tk hy ho hit' hT hsz hk => ?_
    have ey : y = u := by
      have h1 : its.toArray[i]? = some u := by simpa using hu
      rw [h1] at hy
      exact (Option.some.inj hy).symm
    subst ey
    refine ⟨_, rfl, wpAny_letOwnedTupleGo_enum (s := { s with heap := h', toks := tk + 1 }) ho fun h'' he' sb => ?_⟩
    have hT2 : h''.get? s.heap.objs.size = some { cls := .type "tuple", data := .seq #[.int i tk, y] } := (sb.2 _ (Nat.ne_of_gt hel)).trans hT
    have new : ObjOk X.prog X.w (upd H s.heap.objs.size (.tup [.int (i : Nat), x])) h'' s.heap.objs.size (.tup [.int (i : Nat), x]) :=
      ⟨by show 2 ≤ sizeLine; decide, [.int i tk, y], .cons ⟨_, rfl⟩ (.cons ru .nil), ⟨_, hT2, rfl, _, rfl⟩⟩
    have I1 : Inv X pins σ (upd H s.heap.objs.size (.tup [.int (i : Nat), x])) { s with heap := h'', toks := tk + 1 } :=
      I.turnedNew (ch := [e, it]) (fun b ob hb q => (sb.2 b (fun z => hb (by simp [z]))).trans (hk b ob (fun z => hb (by simp [z])) (fun z => hb (by simp [z])) q)) hf (Nat.le_refl _) new
    refine ⟨.ref s.heap.objs.size, _, I1, rfl, ⟨_, x, rfl, I.hok.fresh (Nat.le_refl _), rfl, fun ys hy => by rw [I.tuple_inj hy hq]; exact hx⟩, ⟨⟨y, ?_⟩, hit'.1.at fun o q => (sb.2 it (Ne.symm hne)).trans q, hne, hai, hae⟩, fun b hb => ?_⟩
    · have e1 : ((i + 1 : Nat) : Int) = (i : Int) + 1 := by omega
      rw [e1]; exact he'
    · have hb' : b < s.heap.objs.size := by
        have e' : b = e ∨ b = it := by simpa using hb
        rcases e' with z | z
        · rw [z]; exact hel
        · rw [z]; exact hil
      rw [upd_ne (Nat.ne_of_lt hb')]
      exact (hf b hb).1
  done := by
    intro X hP hw hK hc i pins s σ H E I hf st hg
    subst hP hw hK
    obtain ⟨⟨old, he⟩, hit, hne, hai, hae⟩ := st
    obtain ⟨xs, hq, hx⟩ := hg
    obtain ⟨its, rv, p, hz⟩ := I.tuple hq
    obtain ⟨f0, f1, f2, f3, f4, f5⟩ := hf it (by simp)
    have hl := rv.length
    have D := Draws.tuple (prog := X.prog) (w := X.w) (A := X.A.in1) (I.ok.hd hc) it a hai its.toArray
    have hsz : its.toArray.size = i := by simp; omega
    exact wpAny_pyNext_enum_endD D he ⟨by rw [hsz]; exact hit, p⟩ fun h' eb => ⟨rfl, I.turned (t' := s.toks) (fun b o hb q => eb b o hb q) f0 f1 f3 f4 f5⟩
  self := fun A i s Q E st h => let ⟨⟨_, he⟩, _⟩ := st; wpAny_pyIter_enum he h
def iEnumT (K : PySem.W.Frag) (ta : TA) : TI := fun σ H R => ta σ H fun vs H1 => ∃ a xs, vs = [.ref a] ∧ SqT K H1 a xs ∧ R (IteT K a) H1
theorem pi_enumT {X : Cx} {e : Expr} {ta : TA} {p pos tpos : Pos} {elts : List Expr} {kk : Nat} (hg : Gl X "enumerate") (hm : X.mg "enumerate" = none) (ha : PA X [e] ta) (hs : starEach [e] X.env = [(false, eval e X.env)] := by rfl) :
    PI X (.Tuple elts kk tpos) (.Call (.Name "enumerate" p) [e] [] pos) (iEnumT X.K ta) := by
  refine ⟨fun pins s σ H R I h => ?_⟩
  refine Call_ (ld_blt I hg hm boot_enumerate (PyProof.Rows.callWith_type1 (thn (ha.run pos pins s σ H _ I h) fun us s1 ⟨vs, H1, I1, r1, q1⟩ => ?_) hs rfl))
  obtain ⟨a, xs, ex, hq, q⟩ := q1
  subst ex
  cases r1 with
  | cons r rr =>
    cases rr
    cases r
    obtain ⟨its, rv, p', hz⟩ := I1.tuple hq
    have hlt : a < s1.heap.objs.size := p'.lt
    refine call_enumT (items := its.toArray) p' fun h' he hit hsz hk => wpAny_pyIter_enum he ?_
    have I2 : Inv X pins σ H1 { s1 with heap := h' } := I1.kept (t' := s1.toks) hk
    refine ⟨s1.heap.objs.size + 1, [s1.heap.objs.size + 1, s1.heap.objs.size], _, _, H1, rfl, I2, turn_enumT a (s1.heap.objs.size + 1) s1.heap.objs.size, ⟨⟨.none, he⟩, hit, Nat.succ_ne_self _, Nat.ne_of_lt hlt, Nat.ne_of_lt (Nat.lt_succ_of_lt hlt)⟩, fun b hb => ?_, q⟩
    have e' : b = s1.heap.objs.size + 1 ∨ b = s1.heap.objs.size := by simpa using hb
    have hle : s1.heap.objs.size ≤ b := by
      rcases e' with z | z
      · rw [z]; exact Nat.le_add_right _ _
      · rw [z]; exact Nat.le_refl _
    exact I1.fpOk hle (I1.hok.fresh hle)
/-! ### zip(list, range object) -/
section
variable {prog : Program} {w : World} {A : Around} {E : Value → Shared → Prop} {s : Shared}
theorem nextOf_range_item {it : Addr} {x left step : Int} {Q : Value → Shared → Prop} (hit : IsRangeIter s.heap it x left step) (hleft : 0 < left)
    (hQ : ∀ h', IsRangeIter h' it (x + step) (left - 1) step → Heap.SameBut it s.heap h' → Q (.int x s.toks) { s with heap := h', toks := s.toks + 1 }) :
    wpAny (model prog w) A (Builtin.SmallTypes.nextOf (.ref it)) Q E s := by
  have hT : s.TypeIs (.ref it) "range_iterator" := ⟨_, hit, rfl⟩
  unfold Builtin.SmallTypes.nextOf
  refine wpAny_bind (wpAny_callSpecial?_slot (name := Str.ofString "__next__") hT F.slot_range_iterator_next
    (call_meets F.slot_range_iterator_next hT F.entry_range_iterator_next (F.args_range_iterator_next_1 _) (AutoRange.range_iterator___next___range_iterator_1 it x left step (by omega)) ⟨hit, ?_⟩))
  exact wpAny_pure (hQ _ (Heap.get?_update_self _ (Heap.get?_update_self _ hit rfl) rfl) ((Heap.SameBut.update ..).trans (Heap.SameBut.update ..)))
theorem nextOf_range_end {it : Addr} {x left step : Int} {Q : Value → Shared → Prop} (hh : A.handled = none) (hit : IsRangeIter s.heap it x left step) (hleft : left ≤ 0)
    (hQ : ∀ h' e, Heap.ExtBut it s.heap h' → (∃ o, h'.get? e = some o ∧ o.cls = .type "StopIteration") → E (.ref e) { s with heap := h' }) : wpAny (model prog w) A (Builtin.SmallTypes.nextOf (.ref it)) Q E s := by
  have hT : s.TypeIs (.ref it) "range_iterator" := ⟨_, hit, rfl⟩
  unfold Builtin.SmallTypes.nextOf
  refine wpAny_bind (wpAny_callSpecial?_slot (name := Str.ofString "__next__") hT F.slot_range_iterator_next
    (wpAny_call_entry F.slot_range_iterator_next hT F.entry_range_iterator_next ?_ (F.args_range_iterator_next_1 _)))
  show wpAny _ _ (field (.ref it) 0 >>= _) _ _ s
  refine wpAny_bind (wpAny_field hit rfl (x := rawInt x) rfl ?_)
  show wpAny _ _ (field (.ref it) 1 >>= _) _ _ s
  refine wpAny_bind (wpAny_field hit rfl (x := rawInt left) rfl ?_)
  show wpAny _ _ (field (.ref it) 2 >>= _) _ _ s
  refine wpAny_bind (wpAny_field hit rfl (x := rawInt step) rfl ?_)
  show wpAny _ _ (if left ≤ 0 then _ else _) _ _ s
  rw [if_pos hleft]
  refine wpAny_bind (wpAny_rule ?_)
  refine wpAny_bind ?_
  show wpAny _ _ (newExc (.type "StopIteration") [] >>= _) _ _ _
  refine wpAny_bind ?_
  simp only [newExc, newTuple]
  refine wpAny_bind (wpAny_newObj_type ?_ (by size_fits))
  refine wpAny_bind (m := firstArgMember _ _) (wpAny_of_eq (a := Value.none) (by first | rfl | (simp only [firstArgMember]; rfl)) ?_)
  refine wpAny_newObj_type ?_ (by size_fits)
  simp only [raiseNew]
  refine wpAny_bind (wpAny_handled ?_)
  first | rw [show A.in1.handled = none from hh] | rw [hh]
  refine wpAny_bind (wpAny_pure (wpAny_throw ?_))
  exact hQ _ _ (((Heap.ExtBut.refl it s.heap).push _).push _) ⟨_, Heap.get?_push_size _ rfl, rfl⟩
end
theorem Draws.rng {prog : Program} {w : World} {A : Around} (hh : A.handled = none) (it : Addr) (a : Int) (n : Nat) :
    Draws prog w A it [it] n (fun i v => ∃ t, v = .int (a + (i : Nat)) t) (fun i h => IsRangeIter h it (a + (i : Nat)) ((n : Int) - (i : Nat)) 1) where
  live := fun _ _ st => ⟨_, st⟩
  frame := fun _ _ _ st hk => hk it (by simp) _ st
  item := fun i s Q E hi st hQ => by
    refine nextOf_range_item st (by omega) fun h' hit' hs' => ?_
    refine hQ _ h' (s.toks + 1) ⟨_, rfl⟩ ?_ hs'
    have e1 : a + ((i + 1 : Nat) : Int) = a + (i : Nat) + 1 := by omega
    have e2 : (n : Int) - ((i + 1 : Nat) : Int) = (n : Int) - (i : Nat) - 1 := by omega
    show IsRangeIter h' it (a + ((i + 1 : Nat) : Int)) ((n : Int) - ((i + 1 : Nat) : Int)) 1
    rw [e1, e2]
    exact hit'
  done := fun s Q E st hE => nextOf_range_end hh st (by omega) hE
theorem begins_range (r : Addr) (a b : Int) (t u v : Tok) (hs : Builtin.Range.small a b 1 = true) : Begins (.ref r) { cls := .type "range_iterator", data := .fields #[rawInt a, rawInt (Builtin.Range.rangeSize a b 1), rawInt 1] } fun h => IsRange h r a b 1 t u v where
  iter := fun prog w A E s Q hr h => wpAny_pyIter_range hr hs h
  keeps := fun h h' x hk => hk r _ x
  free := rfl
/-- the list at a, the ints from lo on -/
def ItzR (K : PySem.W.Frag) (a : Addr) (lo : Int) (n : Nat) : It :=
  ⟨fun i H => i < n ∧ ∃ (xs : List V), SqL K H a xs ∧ xs.length = n,
    fun i H v H' => ∃ T x, v = .ref T ∧ H T = none ∧ H' = upd H T (.tup [x, .int (lo + (i : Nat))]) ∧ ∀ xs, SqL K H a xs → xs[i]? = some x,
    fun i H => i = n ∧ ∃ xs : List V, SqL K H a xs ∧ xs.length = n⟩
theorem turn_zipR {P : Program} {w : World} {K : PySem.W.Frag} {elts : List Expr} {kk : Nat} {tpos : Pos} {a z TI TO i1 i2 : Addr} {lo : Int} {n : Nat} (S : ZipSep2 z TI TO i1 i2 [i1, a] [i2]) (hai : a ≠ i1) :
    Turn P w K (.Tuple elts kk tpos) (ItzR K a lo n) [z, TI, TO, i1, i2] z (fun i h => IsZip h z TI TO .none ∧ IsTupOf2 h TI (.ref i1) (.ref i2) ∧ (∃ x y, IsTupOf2 h TO x y) ∧ h.IsListIter i1 a i ∧ IsRangeIter h i2 (lo + (i : Nat)) ((n : Int) - (i : Nat)) 1) where
  mem := by simp
  obj := fun i h st c hc => by
    obtain ⟨hz, hTI, ⟨x, y, hTO⟩, ⟨o1, e1, _, d1⟩, h2⟩ := st
    have e' : c = z ∨ c = TI ∨ c = TO ∨ c = i1 ∨ c = i2 := by simpa using hc
    rcases e' with q | q | q | q | q
    · rw [q]; exact ⟨_, hz, fun v q => nomatch q⟩
    · rw [q]; exact ⟨_, hTI, fun v q => nomatch q⟩
    · rw [q]; exact ⟨_, hTO, fun v q => nomatch q⟩
    · rw [q]; exact ⟨o1, e1, fun v q => by rw [d1] at q; cases q⟩
    · rw [q]; exact ⟨_, h2, fun v q => nomatch q⟩
  keep := fun i h h' st k => by
    obtain ⟨hz, hTI, ⟨x, y, hTO⟩, h1, h2⟩ := st
    exact ⟨k z (by simp) _ hz, k TI (by simp) _ hTI, ⟨x, y, k TO (by simp) _ hTO⟩, h1.at fun o q => k i1 (by simp) o q, k i2 (by simp) _ h2⟩
  item := by
    intro X hP hw hK hc i pins s σ H E I hf st hg
    subst hP hw hK
    obtain ⟨hz, hTI, ⟨x0, y0, hTO⟩, h1, h2⟩ := st
    obtain ⟨hi, xs, hqx, hlen⟩ := hg
    obtain ⟨its, rv, p, _⟩ := I.list hqx
    have hx : xs[i]? = some (xs[i]'(by omega)) := List.getElem?_eq_getElem (by omega)
    obtain ⟨u, hu, ru⟩ := rv.get hx
    have hzl : z < s.heap.objs.size := Heap.lt_size hz
    have hl := rv.length
    have D1 := Draws.list (prog := X.prog) (w := X.w) (A := X.A.in1) (I.ok.hd hc) i1 a hai its.toArray
    have D2 := Draws.rng (prog := X.prog) (w := X.w) (A := X.A.in1) (I.ok.hd hc) i2 lo n
    refine wpAny_pyNext_zipD2_item S D1 D2 hz hTI hTO ⟨h1, p.isList⟩ h2 (show i < its.toArray.size by simp; omega) hi fun y1 y2 h' tk e1 e2 z' TO' h1' h2' hT hsz hk => ?_
    have ey : y1 = u := by
      have h1 : its.toArray[i]? = some u := by simpa using hu
      rw [h1] at e1
      exact (Option.some.inj e1).symm
    obtain ⟨t2, ey2⟩ := e2
    subst ey ey2
    refine ⟨_, rfl, wpAny_letOwnedTupleGo_zip (s := { s with heap := h', toks := tk }) z' fun h'' z'' sb => ?_⟩
    have hT2 : h''.get? s.heap.objs.size = some { cls := .type "tuple", data := .seq #[y1, .int (lo + (i : Nat)) t2] } := (sb.2 _ (Nat.ne_of_gt hzl)).trans hT
    have new : ObjOk X.prog X.w (upd H s.heap.objs.size (.tup [xs[i]'(by omega), .int (lo + (i : Nat))])) h'' s.heap.objs.size (.tup [xs[i]'(by omega), .int (lo + (i : Nat))]) :=
      ⟨by show 2 ≤ sizeLine; decide, [y1, .int (lo + (i : Nat)) t2], .cons ru (.cons ⟨_, rfl⟩ .nil), ⟨_, hT2, rfl, _, rfl⟩⟩
    have I1 : Inv X pins σ (upd H s.heap.objs.size (.tup [xs[i]'(by omega), .int (lo + (i : Nat))])) { s with heap := h'', toks := tk } :=
      I.turnedNew (t' := tk) (ch := [z, TI, TO, i1, i2]) (fun c o hb q => (sb.2 c (fun q' => hb (by simp [q']))).trans (hk c o (fun q' => hb (by simp [q'])) (fun q' => hb (by simp [q'])) (fun q' => hb (by simp [q'])) (fun q' => hb (by simp [q'])) q)) hf (Nat.le_refl _) new
    have m1 : i1 ≠ z := Ne.symm S.zi1
    have m2 : i2 ≠ z := Ne.symm S.zi2
    refine ⟨.ref s.heap.objs.size, _, I1, rfl, ⟨_, _, rfl, I.hok.fresh (Nat.le_refl _), rfl, fun l hl => by rw [I.list_inj hl hqx]; exact hx⟩, ⟨z'', ?_, ⟨_, _, (sb.2 _ S.TOz).trans TO'⟩, ?_, ?_⟩, fun c hcm => ?_⟩
    · exact (sb.2 _ S.TIz).trans (hk _ _ S.TIz S.TITO S.TIi1 S.TIi2 hTI)
    · exact h1'.1.at fun o q => (sb.2 _ m1).trans q
    · exact (sb.2 _ m2).trans h2'
    · have hlt : c < s.heap.objs.size := by
        have e' : c = z ∨ c = TI ∨ c = TO ∨ c = i1 ∨ c = i2 := by simpa using hcm
        rcases e' with q | q | q | q | q
        · rw [q]; exact hzl
        · rw [q]; exact Heap.lt_size hTI
        · rw [q]; exact Heap.lt_size hTO
        · rw [q]; obtain ⟨_, e1, _⟩ := h1; exact Heap.lt_size e1
        · rw [q]; exact Heap.lt_size h2
      rw [upd_ne (Nat.ne_of_lt hlt)]
      exact (hf c hcm).1
  done := by
    intro X hP hw hK hc i pins s σ H E I hf st hg
    subst hP hw hK
    obtain ⟨hz, hTI, ⟨x0, y0, hTO⟩, h1, h2⟩ := st
    obtain ⟨hi, xs, hqx, hlen⟩ := hg
    obtain ⟨its, rv, p, _⟩ := I.list hqx
    have hl := rv.length
    have D1 := Draws.list (prog := X.prog) (w := X.w) (A := X.A.in1) (I.ok.hd hc) i1 a hai its.toArray
    have D2 := Draws.rng (prog := X.prog) (w := X.w) (A := X.A.in1) (I.ok.hd hc) i2 lo n
    have hsz : its.toArray.size = n := by simp; omega
    exact wpAny_pyNext_zipD2_end S D1 D2 hz hTI hTO ⟨h1, p.isList⟩ h2 (by omega) (by omega) (by omega) fun h' tk hk => ⟨rfl, I.turnedL (t' := tk) (ch := [z, TI, TO, i1, i2]) (fun c o hb q =>
      hk c o (fun q' => hb (by simp [q'])) (fun q' => hb (by simp [q'])) (fun q' => hb (by simp [q'])) (fun q' => hb (by simp [q'])) q) hf⟩
  self := fun A i s Q E st h => wpAny_pyIter_zip st.1 h
def iZipR (K : PySem.W.Frag) (ta : TA) : TI := fun σ H R => ta σ H fun vs H1 => ∃ a b xs lo hi, vs = [.ref a, .ref b] ∧ SqL K H1 a xs ∧ H1 b = some (.rng lo hi) ∧ RgOk lo hi ∧ (hi - lo).toNat = xs.length ∧ R (ItzR K a lo xs.length) H1
theorem pi_zipR {X : Cx} {e e2 : Expr} {ta : TA} {p pos tpos : Pos} {elts : List Expr} {kk : Nat} (hg : Gl X "zip") (hm : X.mg "zip" = none) (ha : PA X [e, e2] ta)
    (hs : starEach [e, e2] X.env = (false, eval e X.env) :: starEach [e2] X.env := by rfl) (hpl : (backTo pos (starEach [e2] X.env)).any (·.1) = false := by rfl) :
    PI X (.Tuple elts kk tpos) (.Call (.Name "zip" p) [e, e2] [] pos) (iZipR X.K ta) := by
  refine ⟨fun pins s σ H R I h => ?_⟩
  refine Call_ (ld_blt I hg hm PyProof.Rows.boot_zip (PyProof.Rows.callWith_type1 (thn (ha.run pos pins s σ H _ I h) fun us s1 ⟨vs, H1, I1, r1, q1⟩ => ?_) hs hpl))
  obtain ⟨a, b, xs, lo, hi, ex, hqx, hb, ⟨b1, b2, b3, b4, b5⟩, hlen, q⟩ := q1
  subst ex
  cases r1 with
  | cons r rr =>
    cases rr with
    | cons r' rr =>
      cases rr
      cases r
      cases r'
      obtain ⟨its, rv, p1, _⟩ := I1.list hqx
      obtain ⟨t, u, v, hr⟩ := I1.hok b _ hb
      have hla : a < s1.heap.objs.size := p1.lt
      have hR : IsRange s1.heap b lo hi 1 t u v := hr
      refine zip_begins2 (begins_list a its.toArray) (begins_range b lo hi t u v (small_one b1 b2 b3 b4)) p1.isList hR fun h' hz hTI hTO h1 h2 hsz hk => wpAny_pyIter_zip hz ?_
      have I2 : Inv X pins σ H1 { s1 with heap := h' } := I1.kept (t' := s1.toks) hk
      have S : ZipSep2 (s1.heap.objs.size + 4) (s1.heap.objs.size + 2) (s1.heap.objs.size + 3) s1.heap.objs.size (s1.heap.objs.size + 1) [s1.heap.objs.size, a] [s1.heap.objs.size + 1] :=
        zip_sep2 (fp1 := [a]) (fp2 := []) (fun c hc => by have e : c = a := by simpa using hc
                                                          rw [e]; exact hla) (fun c hc => by cases hc)
      refine ⟨s1.heap.objs.size + 4, [s1.heap.objs.size + 4, s1.heap.objs.size + 2, s1.heap.objs.size + 3, s1.heap.objs.size, s1.heap.objs.size + 1], _, _, H1, rfl, I2, turn_zipR S (Nat.ne_of_lt hla), ⟨hz, hTI, ⟨_, _, hTO⟩, ⟨_, h1, rfl, rfl⟩, ?_⟩, fun c hcm => ?_, q⟩
      · show IsRangeIter h' (s1.heap.objs.size + 1) (lo + ((0 : Nat) : Int)) ((xs.length : Int) - ((0 : Nat) : Int)) 1
        have e1 : lo + ((0 : Nat) : Int) = lo := by omega
        have e2 : (xs.length : Int) - ((0 : Nat) : Int) = Builtin.Range.rangeSize lo hi 1 := by rw [rangeSize_nat, hlen]; omega
        rw [e1, e2]
        exact h2
      · have e' : c = s1.heap.objs.size + 4 ∨ c = s1.heap.objs.size + 2 ∨ c = s1.heap.objs.size + 3 ∨ c = s1.heap.objs.size ∨ c = s1.heap.objs.size + 1 := by simpa using hcm
        have hle : s1.heap.objs.size ≤ c := by
          rcases e' with z | z | z | z | z
          · rw [z]; exact Nat.le_add_right _ _
          · rw [z]; exact Nat.le_add_right _ _
          · rw [z]; exact Nat.le_add_right _ _
          · rw [z]; exact Nat.le_refl _
          · rw [z]; exact Nat.le_add_right _ _
        exact I1.fpOk hle (I1.hok.fresh hle)
end DL
/-! enumerate(zip(tuple, tuple)) -/
namespace DL
open PySem PySem.Spec PyProof.Rows L2
open PySem.Sem (wp)
/-- a zip, whatever it says of its last tuple -/
abbrev IsZipG (h : Heap) (z TI TO : Addr) (v : Value) (f : Bool) : Prop :=
  h.get? z = some { cls := .type "zip", dict := none, data := .fields #[v, .bool f, .bool false, .ref TI, .ref TO], slots := #[] }
def OutV (v : Value) : Prop := v = .none ∨ ∃ T : Addr, v = rawInt T
section
variable {prog : Program} {w : World} {A : Around} {E : Value → Shared → Prop} {s : Shared}
theorem zipG_free {z TI TO : Addr} {v : Value} {f : Bool} {Q : Bool → Shared → Prop} (hz : IsZipG s.heap z TI TO v f) (hv : OutV v) (h1 : Q true s)
    (h2 : ∀ h', IsZipG h' z TI TO v true → Heap.SameBut z s.heap h' → Q false { s with heap := h' }) : wpAny (model prog w) A (Builtin.SmallTypes.ownedTupleIsFree (.ref z)) Q E s := by
  unfold Builtin.SmallTypes.ownedTupleIsFree
  rcases hv with rfl | ⟨T, rfl⟩
  · exact wpAny_bind (wpAny_field hz rfl (x := .none) rfl (wpAny_pure h1))
  · refine wpAny_bind (wpAny_field hz rfl (x := rawInt T) rfl ?_)
    show wpAny _ _ (loadIfAlive ((T : Int).toNat) >>= _) _ _ _
    rw [Int.toNat_natCast]
    cases hT : s.heap.get? T with
    | none =>
      have key : wpAny (model prog w) A (loadIfAlive T) (fun o s' => o = none ∧ s' = s) E s := by
        have h' : s.heap.get? T = none ∧ s = s := ⟨hT, rfl⟩
        exact fun _ _ _ => h'
      refine wpAny_bind (wpAny_mono key (fun o s' e => ?_) fun _ _ z => z)
      obtain ⟨rfl, rfl⟩ := e
      simp only [Option.isNone_none, if_true]
      exact wpAny_pure h1
    | some oT =>
      refine wpAny_bind (PySem.W.kdx_alive hT ?_)
      simp only [Option.isNone_some, Bool.false_eq_true, if_false]
      refine wpAny_bind (wpAny_field hz rfl (x := .bool f) rfl ?_)
      cases f with
      | true =>
        rw [if_neg (show ¬ ((Value.bool true != Value.bool true) = true) from Bool.false_ne_true)]
        exact wpAny_pure (h2 s.heap hz (Heap.SameBut.refl _ _))
      | false =>
        rw [if_pos (show (Value.bool false != Value.bool true) = true from rfl)]
        exact wpAny_bind (wpAny_setField_rec hz (by simp) fun h₁ hz₁ hs₁ => wpAny_pure (h2 h₁ hz₁ hs₁))

theorem zipG_next_item {z TI TO i1 i2 l1 l2 : Addr} {k1 k2 : Nat} {xs ys : Array Value} {x y a b v : Value} {f : Bool} {Q : Value → Shared → Prop} (D : ZipApart z TI TO i1 i2 l1 l2)
    (hz : IsZipG s.heap z TI TO v f) (hv : OutV v) (hTI : IsPair s.heap TI (.ref i1) (.ref i2)) (hTO : IsPair s.heap TO a b)
    (h1 : s.heap.IsTupleIter i1 l1 k1) (h2 : s.heap.IsTupleIter i2 l2 k2) (hl1 : s.heap.IsTuple l1 xs) (hl2 : s.heap.IsTuple l2 ys) (hx : xs[k1]? = some x) (hy : ys[k2]? = some y)
    (hQ : ∀ h' v' f', IsZipG h' z TI TO v' f' → OutV v' → (∃ a b, IsPair h' TO a b) → h'.IsTupleIter i1 l1 (k1 + 1) → h'.IsTupleIter i2 l2 (k2 + 1) → IsPair h' s.heap.objs.size x y → h'.objs.size = s.heap.objs.size + 1 →
      (∀ c o, c ≠ z → c ≠ TO → c ≠ i1 → c ≠ i2 → s.heap.get? c = some o → h'.get? c = some o) → Q (.ref s.heap.objs.size) { s with heap := h' }) :
    wpAny (model prog w) A (Builtin.«zip.__next__» ⟨[.ref z], []⟩) (fun fin s' => ∃ v, fin = .done (.ret v) ∧ Q v s') E s := by
  show wpAny _ _ (field (.ref z) 2 >>= _) _ _ _
  refine wpAny_bind (wpAny_field hz rfl (x := .bool false) rfl ?_)
  show wpAny _ _ (field (.ref z) 3 >>= _) _ _ _
  refine wpAny_bind (wpAny_field hz rfl (x := .ref TI) rfl ?_)
  refine wpAny_bind (wpAny_seqItems hTI rfl ?_)
  show wpAny _ _ (Builtin.SmallTypes.ownedTupleIsFree (.ref z) >>= _) _ _ _
  refine wpAny_bind (zipG_free hz hv ?_ fun h₁ hz₁ hs₁ => ?_)
  · simp only [if_true]
    refine wpAny_bind (wpAny_rule ?_)
    refine wpAny_bind (wpAny_field hz rfl (x := .ref TO) rfl ?_)
    refine wpAny_bind (wpAny_setField_rec hz (by simp) fun h₁ hz₁ hs₁ => ?_)
    replace hz₁ : IsZipG h₁ z TI TO .ellipsis f := hz₁
    refine wpAny_bind ?_
    simp only [List.zipIdx_cons, List.zipIdx_nil, List.forIn_cons, List.forIn_nil]
    refine wpAny_bind (wpAny_bind (wpAny_onRaise ?_))
    show wpAny _ _ (Builtin.SmallTypes.nextOf (.ref i1) >>= _) _ _ _
    refine wpAny_bind (RZ.nextOf_tuple_item (h1.extBut hs₁.extBut D.i1z) (hl1.extBut hs₁.extBut D.l1z) hx fun h₂ h1₂ hs₂ => wpAny_pure ?_)
    have hTO₂ : IsPair h₂ TO a b := hs₂.extBut _ _ D.TOi1 (hs₁.extBut _ _ D.TOz hTO)
    refine wpAny_bind (wpAny_seqItems hTO₂ rfl ?_)
    refine wpAny_bind (wpAny_updateSeq_pair hTO₂ fun h₃ hTO₃ hs₃ => ?_)
    replace hTO₃ : IsPair h₃ TO x b := hTO₃
    refine wpAny_bind (wpAny_letGo (wpAny_pure ?_))
    refine wpAny_bind (wpAny_bind (wpAny_onRaise ?_))
    show wpAny _ _ (Builtin.SmallTypes.nextOf (.ref i2) >>= _) _ _ _
    refine wpAny_bind (RZ.nextOf_tuple_item (((h2.extBut hs₁.extBut D.i2z).extBut hs₂.extBut D.i12.symm).extBut hs₃.extBut D.TOi2.symm)
      (((hl2.extBut hs₁.extBut D.l2z).extBut hs₂.extBut D.l2i1).extBut hs₃.extBut D.l2TO) hy fun h₄ h2₄ hs₄ => wpAny_pure ?_)
    have hTO₄ : IsPair h₄ TO x b := hs₄.extBut _ _ D.TOi2 hTO₃
    refine wpAny_bind (wpAny_seqItems hTO₄ rfl ?_)
    refine wpAny_bind (wpAny_updateSeq_pair hTO₄ fun h₅ hTO₅ hs₅ => ?_)
    replace hTO₅ : IsPair h₅ TO x y := hTO₅
    refine wpAny_bind (wpAny_letGo (wpAny_pure (wpAny_pure ?_)))
    refine wpAny_bind (wpAny_seqItems hTO₅ rfl ?_)
    refine wpAny_bind (wpAny_newTuple ?_)
    have hsz : h₅.objs.size = s.heap.objs.size := by rw [hs₅.1, hs₄.1, hs₃.1, hs₂.1, hs₁.1]
    have hz₅ : IsZipG h₅ z TI TO .ellipsis f := hs₅.extBut _ _ D.TOz.symm (hs₄.extBut _ _ D.i2z.symm (hs₃.extBut _ _ D.TOz.symm (hs₂.extBut _ _ D.i1z.symm hz₁)))
    have hk₅ : ∀ c o, c ≠ z → c ≠ TO → c ≠ i1 → c ≠ i2 → s.heap.get? c = some o → h₅.get? c = some o := fun c o c1 c2 c3 c4 e =>
      hs₅.extBut _ _ c2 (hs₄.extBut _ _ c4 (hs₃.extBut _ _ c2 (hs₂.extBut _ _ c3 (hs₁.extBut _ _ c1 e))))
    have h1₅ : h₅.IsTupleIter i1 l1 (k1 + 1) := ((h1₂.extBut hs₃.extBut D.TOi1.symm).extBut hs₄.extBut D.i12).extBut hs₅.extBut D.TOi1.symm
    have h2₅ : h₅.IsTupleIter i2 l2 (k2 + 1) := h2₄.extBut hs₅.extBut D.TOi2.symm
    have hzlt : z < h₅.objs.size := Heap.lt_size hz₅
    show wpAny _ _ (Builtin.SmallTypes.ownedTupleHandOut (.ref z) (.ref h₅.objs.size) >>= _) _ _ _
    refine wpAny_bind ?_
    unfold Builtin.SmallTypes.ownedTupleHandOut
    have hz₆ : IsZipG (h₅.push { cls := .type "tuple", data := .seq #[x, y] }) z TI TO .ellipsis f := Heap.get?_push_of_some _ hz₅
    refine wpAny_bind (wpAny_setField_rec hz₆ (by simp) fun h₇ hz₇ hs₇ => ?_)
    replace hz₇ : IsZipG h₇ z TI TO (rawInt h₅.objs.size) f := hz₇
    refine wpAny_setField_rec hz₇ (by simp) fun h₈ hz₈ hs₈ => ?_
    replace hz₈ : IsZipG h₈ z TI TO (rawInt h₅.objs.size) false := hz₈
    have up : ∀ c o, c ≠ z → h₅.get? c = some o → h₈.get? c = some o := fun c o c1 e => hs₈.extBut _ _ c1 (hs₇.extBut _ _ c1 (Heap.get?_push_of_some _ e))
    have hT₈ : IsPair h₈ h₅.objs.size x y := hs₈.extBut _ _ (Nat.ne_of_gt hzlt) (hs₇.extBut _ _ (Nat.ne_of_gt hzlt) (Heap.get?_push_size _ rfl))
    have hz8 : h₈.objs.size = h₅.objs.size + 1 := by rw [hs₈.1, hs₇.1, Heap.size_push]
    rw [hsz] at hT₈ hz8
    refine wpAny_pure ⟨_, rfl, ?_⟩
    show Q (.ref h₅.objs.size) _
    rw [hsz]
    exact hQ h₈ _ _ hz₈ (.inr ⟨_, rfl⟩) ⟨_, _, up _ _ D.TOz hTO₅⟩ (h1₅.at fun o e => up _ o D.i1z e) (h2₅.at fun o e => up _ o D.i2z e) hT₈ hz8 fun c o c1 c2 c3 c4 e => up c o c1 (hk₅ c o c1 c2 c3 c4 e)
  · simp only [Bool.false_eq_true, if_false]
    refine wpAny_bind ?_
    rw [← Array.forIn_toList]
    simp only [List.forIn_cons, List.forIn_nil]
    refine wpAny_bind (wpAny_bind (wpAny_holding ?_))
    show wpAny _ _ (Builtin.SmallTypes.nextOf (.ref i1) >>= _) _ _ _
    refine wpAny_bind (RZ.nextOf_tuple_item (s := { s with heap := h₁ }) (h1.extBut hs₁.extBut D.i1z) (hl1.extBut hs₁.extBut D.l1z) hx fun h₂ h1₂ hs₂ => wpAny_pure ?_)
    refine wpAny_pure ?_
    refine wpAny_bind (wpAny_bind (wpAny_holding ?_))
    show wpAny _ _ (Builtin.SmallTypes.nextOf (.ref i2) >>= _) _ _ _
    refine wpAny_bind (RZ.nextOf_tuple_item (s := { s with heap := h₂ }) ((h2.extBut hs₁.extBut D.i2z).extBut hs₂.extBut D.i12.symm) ((hl2.extBut hs₁.extBut D.l2z).extBut hs₂.extBut D.l2i1) hy fun h₃ h2₃ hs₃ => wpAny_pure ?_)
    refine wpAny_pure (wpAny_pure ?_)
    show wpAny _ _ (newTuple [x, y] >>= _) _ _ _
    refine wpAny_bind (wpAny_newTuple ?_)
    have hsz : h₃.objs.size = s.heap.objs.size := by rw [hs₃.1, hs₂.1, hs₁.1]
    have hz₃ : IsZipG h₃ z TI TO v true := hs₃.extBut _ _ D.i2z.symm (hs₂.extBut _ _ D.i1z.symm hz₁)
    have hk : ∀ c o, c ≠ z → c ≠ i1 → c ≠ i2 → s.heap.get? c = some o → h₃.get? c = some o := fun c o c1 c2 c3 e => hs₃.extBut _ _ c3 (hs₂.extBut _ _ c2 (hs₁.extBut _ _ c1 e))
    have h1₃ : h₃.IsTupleIter i1 l1 (k1 + 1) := h1₂.extBut hs₃.extBut D.i12
    refine wpAny_pure ⟨_, rfl, ?_⟩
    show Q (.ref h₃.objs.size) _
    have hp : IsPair (h₃.push { cls := .type "tuple", data := .seq #[x, y] }) h₃.objs.size x y := Heap.get?_push_size _ rfl
    have hz4 : (h₃.push { cls := .type "tuple", data := .seq #[x, y] }).objs.size = h₃.objs.size + 1 := Heap.size_push ..
    rw [hsz] at hp hz4 ⊢
    exact hQ _ _ _ (Heap.get?_push_of_some _ hz₃) hv ⟨_, _, Heap.get?_push_of_some _ (hk _ _ D.TOz D.TOi1 D.TOi2 hTO)⟩ (h1₃.at fun o e => Heap.get?_push_of_some _ e) (h2₃.at fun o e => Heap.get?_push_of_some _ e) hp hz4 fun c o c1 _ c2 c3 e => Heap.get?_push_of_some _ (hk c o c1 c2 c3 e)
theorem zipG_next_end {z TI TO i1 i2 l1 l2 : Addr} {k1 : Nat} {xs : Array Value} {a b v : Value} {f : Bool} {Q : Fin → Shared → Prop} (hh : A.handled = none) (D : ZipApart z TI TO i1 i2 l1 l2)
    (hz : IsZipG s.heap z TI TO v f) (hv : OutV v) (hTI : IsPair s.heap TI (.ref i1) (.ref i2)) (hTO : IsPair s.heap TO a b)
    (h1 : s.heap.IsTupleIter i1 l1 k1) (hl1 : s.heap.IsTuple l1 xs) (hx : xs[k1]? = none)
    (hE : ∀ h' e, (∀ c o, c ≠ z → c ≠ TO → c ≠ i1 → c ≠ i2 → s.heap.get? c = some o → h'.get? c = some o) → (∃ o, h'.get? e = some o ∧ o.cls = .type "StopIteration") → E (.ref e) { s with heap := h' }) :
    wpAny (model prog w) A (Builtin.«zip.__next__» ⟨[.ref z], []⟩) Q E s := by
  show wpAny _ _ (field (.ref z) 2 >>= _) _ _ _
  refine wpAny_bind (wpAny_field hz rfl (x := .bool false) rfl ?_)
  show wpAny _ _ (field (.ref z) 3 >>= _) _ _ _
  refine wpAny_bind (wpAny_field hz rfl (x := .ref TI) rfl ?_)
  refine wpAny_bind (wpAny_seqItems hTI rfl ?_)
  show wpAny _ _ (Builtin.SmallTypes.ownedTupleIsFree (.ref z) >>= _) _ _ _
  refine wpAny_bind (zipG_free hz hv ?_ fun h₁ hz₁ hs₁ => ?_)
  · simp only [if_true]
    refine wpAny_bind (wpAny_rule ?_)
    refine wpAny_bind (wpAny_field hz rfl (x := .ref TO) rfl ?_)
    refine wpAny_bind (wpAny_setField_rec hz (by simp) fun h₁ hz₁ hs₁ => ?_)
    replace hz₁ : IsZipG h₁ z TI TO .ellipsis f := hz₁
    refine wpAny_bind ?_
    simp only [List.zipIdx_cons, List.zipIdx_nil, List.forIn_cons, List.forIn_nil]
    refine wpAny_bind (wpAny_bind (wpAny_onRaise ?_))
    show wpAny _ _ (Builtin.SmallTypes.nextOf (.ref i1) >>= _) _ _ _
    refine wpAny_bind (RZ.nextOf_tuple_end hh (h1.extBut hs₁.extBut D.i1z) (hl1.extBut hs₁.extBut D.l1z) hx fun h₂ e hs₂ he => ?_)
    obtain ⟨oe, hoe, hce⟩ := he
    have hz₂ : IsZipG h₂ z TI TO .ellipsis f := hs₂ _ _ D.i1z.symm hz₁
    have hez : e ≠ z := fun x => by subst x; rw [hz₂] at hoe; cases hoe; simp at hce
    refine wpAny_setField_rec hz₂ (by simp) fun h₃ _ hs₃ => hE h₃ e (fun c o c1 _ c3 _ x => hs₃.extBut _ _ c1 (hs₂ _ _ c3 (hs₁.extBut _ _ c1 x))) ⟨oe, hs₃.extBut _ _ hez hoe, hce⟩
  · simp only [Bool.false_eq_true, if_false]
    refine wpAny_bind ?_
    rw [← Array.forIn_toList]
    simp only [List.forIn_cons, List.forIn_nil]
    refine wpAny_bind (wpAny_bind (wpAny_holding ?_))
    show wpAny _ _ (Builtin.SmallTypes.nextOf (.ref i1) >>= _) _ _ _
    refine wpAny_bind (RZ.nextOf_tuple_end (s := { s with heap := h₁ }) hh (h1.extBut hs₁.extBut D.i1z) (hl1.extBut hs₁.extBut D.l1z) hx fun h₂ e hs₂ he => ?_)
    exact hE h₂ e (fun c o c1 _ c2 _ x => hs₂ _ _ c2 (hs₁.extBut _ _ c1 x)) he
end
end DL
namespace DL
open PySem PySem.Spec PyProof.Rows L2
open PySem.Sem (wp)
section
variable {prog : Program} {w : World} {A : Around} {E : Value → Shared → Prop} {s : Shared}
theorem nextOf_zipG_item {z TI TO i1 i2 l1 l2 : Addr} {k1 k2 : Nat} {xs ys : Array Value} {x y a b v : Value} {f : Bool} {Q : Value → Shared → Prop} (D : ZipApart z TI TO i1 i2 l1 l2)
    (hz : IsZipG s.heap z TI TO v f) (hv : OutV v) (hTI : IsPair s.heap TI (.ref i1) (.ref i2)) (hTO : IsPair s.heap TO a b)
    (h1 : s.heap.IsTupleIter i1 l1 k1) (h2 : s.heap.IsTupleIter i2 l2 k2) (hl1 : s.heap.IsTuple l1 xs) (hl2 : s.heap.IsTuple l2 ys) (hx : xs[k1]? = some x) (hy : ys[k2]? = some y)
    (hQ : ∀ h' v' f', IsZipG h' z TI TO v' f' → OutV v' → (∃ a b, IsPair h' TO a b) → h'.IsTupleIter i1 l1 (k1 + 1) → h'.IsTupleIter i2 l2 (k2 + 1) → IsPair h' s.heap.objs.size x y → h'.objs.size = s.heap.objs.size + 1 →
      (∀ c o, c ≠ z → c ≠ TO → c ≠ i1 → c ≠ i2 → s.heap.get? c = some o → h'.get? c = some o) → Q (.ref s.heap.objs.size) { s with heap := h' }) :
    wpAny (model prog w) A (Builtin.SmallTypes.nextOf (.ref z)) Q E s := by
  have hT : s.TypeIs (.ref z) "zip" := ⟨_, hz, rfl⟩
  unfold Builtin.SmallTypes.nextOf
  exact wpAny_bind (wpAny_callSpecial?_slot (name := Str.ofString "__next__") hT F.slot_zip_next
    (wpAny_call_entry F.slot_zip_next hT F.entry_zip_next
      (zipG_next_item D hz hv hTI hTO h1 h2 hl1 hl2 hx hy fun h' v' f' a1 a2 a3 a4 a5 a6 a7 a8 => wpAny_pure (hQ h' v' f' a1 a2 a3 a4 a5 a6 a7 a8)) (F.args_zip_next_1 _)))
theorem nextOf_zipG_end {z TI TO i1 i2 l1 l2 : Addr} {k1 : Nat} {xs : Array Value} {a b v : Value} {f : Bool} {Q : Value → Shared → Prop} (hh : A.handled = none) (D : ZipApart z TI TO i1 i2 l1 l2)
    (hz : IsZipG s.heap z TI TO v f) (hv : OutV v) (hTI : IsPair s.heap TI (.ref i1) (.ref i2)) (hTO : IsPair s.heap TO a b)
    (h1 : s.heap.IsTupleIter i1 l1 k1) (hl1 : s.heap.IsTuple l1 xs) (hx : xs[k1]? = none)
    (hE : ∀ h' e, (∀ c o, c ≠ z → c ≠ TO → c ≠ i1 → c ≠ i2 → s.heap.get? c = some o → h'.get? c = some o) → (∃ o, h'.get? e = some o ∧ o.cls = .type "StopIteration") → E (.ref e) { s with heap := h' }) :
    wpAny (model prog w) A (Builtin.SmallTypes.nextOf (.ref z)) Q E s := by
  have hT : s.TypeIs (.ref z) "zip" := ⟨_, hz, rfl⟩
  unfold Builtin.SmallTypes.nextOf
  exact wpAny_bind (wpAny_callSpecial?_slot (name := Str.ofString "__next__") hT F.slot_zip_next
    (wpAny_call_entry F.slot_zip_next hT F.entry_zip_next (zipG_next_end hh D hz hv hTI hTO h1 hl1 hx hE) (F.args_zip_next_1 _)))
/-- enumerate over a zip of two tuples: two new tuples a turn -/
theorem enumZ_next_item {e z TI TO i1 i2 l1 l2 : Addr} {i : Nat} {xs ys : Array Value} {x y a b v old : Value} {f : Bool} {Q : Value → Shared → Prop} (D : ZipApart z TI TO i1 i2 l1 l2)
    (he : IsEnum s.heap e z (i : Nat) old) (nz : e ≠ z) (nTI : e ≠ TI) (nTO : e ≠ TO) (n1 : e ≠ i1) (n2 : e ≠ i2)
    (hz : IsZipG s.heap z TI TO v f) (hv : OutV v) (hTI : IsPair s.heap TI (.ref i1) (.ref i2)) (hTO : IsPair s.heap TO a b)
    (h1 : s.heap.IsTupleIter i1 l1 i) (h2 : s.heap.IsTupleIter i2 l2 i) (hl1 : s.heap.IsTuple l1 xs) (hl2 : s.heap.IsTuple l2 ys) (hx : xs[i]? = some x) (hy : ys[i]? = some y)
    (hQ : ∀ h' tk v' f', IsEnumOut h' e z ((i : Int) + 1) (.ref s.heap.objs.size) (s.heap.objs.size + 1) → IsZipG h' z TI TO v' f' → OutV v' → (∃ a b, IsPair h' TO a b) → h'.IsTupleIter i1 l1 (i + 1) → h'.IsTupleIter i2 l2 (i + 1) →
      IsPair h' s.heap.objs.size x y → h'.get? (s.heap.objs.size + 1) = some { cls := .type "tuple", data := .seq #[.int i tk, .ref s.heap.objs.size] } →
      (∀ c o, c ≠ e → c ≠ z → c ≠ TO → c ≠ i1 → c ≠ i2 → s.heap.get? c = some o → h'.get? c = some o) → Q (.ref (s.heap.objs.size + 1)) { s with heap := h', toks := tk + 1 }) :
    wpAny (model prog w) A (Builtin.«enumerate.__next__» ⟨[.ref e], []⟩) (fun fin s' => ∃ v, fin = .done (.ret v) ∧ Q v s') E s := by
  obtain ⟨hp, g, d, tk₀, os⟩ := s
  show wpAny _ _ (field (.ref e) 2 >>= _) _ _ _
  refine wpAny_bind (wpAny_field he rfl (x := .ref z) rfl ?_)
  refine wpAny_bind (nextOf_zipG_item D hz hv hTI hTO h1 h2 hl1 hl2 hx hy fun h₁ v' f' z₁ ov₁ to₁ a₁ b₁ p₁ sz₁ k₁ => ?_)
  replace k₁ : ∀ c o, c ≠ z → c ≠ TO → c ≠ i1 → c ≠ i2 → hp.get? c = some o → h₁.get? c = some o := k₁
  replace p₁ : IsPair h₁ hp.objs.size x y := p₁
  replace sz₁ : h₁.objs.size = hp.objs.size + 1 := sz₁
  have he₁ : IsEnum h₁ e z (i : Nat) old := k₁ _ _ nz nTO n1 n2 he
  have hel : e < hp.objs.size := Heap.lt_size he
  show wpAny _ _ (field (.ref e) 3 >>= _) _ _ ⟨h₁, g, d, tk₀, os⟩
  refine wpAny_bind (wpAny_field he₁ rfl (x := rawInt (i : Nat)) rfl ?_)
  show wpAny _ _ (field (.ref e) 4 >>= _) _ _ ⟨h₁, g, d, tk₀, os⟩
  refine wpAny_bind (wpAny_field he₁ rfl (x := .none) rfl ?_)
  show wpAny _ _ (mkInt (i : Nat) >>= _) _ _ ⟨h₁, g, d, tk₀, os⟩
  refine wpAny_bind (wpAny_mkInt ?_)
  show wpAny _ _ (setField (.ref e) 3 (rawInt ((i : Int) + 1)) >>= _) _ _ ⟨h₁, g, d, tk₀ + 1, os⟩
  refine wpAny_bind (wpAny_setField_rec he₁ (by simp) fun h₂ he₂ hs₂ => ?_)
  replace hs₂ : Heap.SameBut e h₁ h₂ := hs₂
  replace he₂ : IsEnum h₂ e z ((i : Int) + 1) old := he₂
  show wpAny _ _ (setField (.ref e) 4 .none >>= _) _ _ ⟨h₂, g, d, tk₀ + 1, os⟩
  refine wpAny_bind (wpAny_setField_rec he₂ (by simp) fun h₃ he₃ hs₃ => ?_)
  replace hs₃ : Heap.SameBut e h₂ h₃ := hs₃
  replace he₃ : IsEnum h₃ e z ((i : Int) + 1) old := he₃
  show wpAny _ _ (newTuple [.int i tk₀, .ref hp.objs.size] >>= _) _ _ ⟨h₃, g, d, tk₀ + 1, os⟩
  refine wpAny_bind (wpAny_newTuple ?_)
  have he₄ : IsEnum (h₃.push { cls := .type "tuple", data := .seq #[.int i tk₀, .ref hp.objs.size] }) e z ((i : Int) + 1) old := Heap.get?_push_of_some _ he₃
  generalize hh₄ : h₃.push { cls := .type "tuple", data := .seq #[.int i tk₀, .ref hp.objs.size] } = h₄ at he₄
  have hsz : h₃.objs.size = hp.objs.size + 1 := by rw [hs₃.1, hs₂.1, sz₁]
  have ht₄ : h₄.get? (hp.objs.size + 1) = some { cls := .type "tuple", data := .seq #[.int i tk₀, .ref hp.objs.size] } := by rw [← hh₄, ← hsz]; exact Heap.get?_push_size _ rfl
  have hk₄ : ∀ c o, c ≠ e → h₁.get? c = some o → h₄.get? c = some o := fun c o hbe hb => by
    rw [← hh₄]; exact Heap.get?_push_of_some _ (hs₃.extBut c o hbe (hs₂.extBut c o hbe hb))
  show wpAny _ _ (Builtin.SmallTypes.ownedTupleIsFree (.ref e) >>= _) _ _ ⟨h₄, g, d, tk₀ + 1, os⟩
  rw [hsz]
  clear hh₄ he₃ hs₃ he₂ hs₂ he₁ hsz h₃ h₂
  refine wpAny_bind ?_
  · unfold Builtin.SmallTypes.ownedTupleIsFree
    refine wpAny_bind (wpAny_field he₄ rfl (x := .none) rfl (wpAny_pure ?_))
    simp only [if_true]
    refine wpAny_bind (wpAny_rule ?_)
    refine wpAny_bind (wpAny_field he₄ rfl (x := old) rfl ?_)
    refine wpAny_bind (wpAny_setField_rec he₄ (by simp) fun h₅ he₅ hs₅ => ?_)
    replace hs₅ : Heap.SameBut e h₄ h₅ := hs₅
    replace he₅ : IsEnum h₅ e z ((i : Int) + 1) (.ref hp.objs.size) := he₅
    show wpAny _ _ (Builtin.SmallTypes.ownedTupleHandOut (.ref e) (.ref (hp.objs.size + 1)) >>= _) _ _ ⟨h₅, g, d, tk₀ + 1, os⟩
    refine wpAny_bind ?_
    · unfold Builtin.SmallTypes.ownedTupleHandOut
      refine wpAny_bind (wpAny_setField_rec he₅ (by simp) fun h₆ he₆ hs₆ => ?_)
      replace hs₆ : Heap.SameBut e h₅ h₆ := hs₆
      replace he₆ : IsEnumOut h₆ e z ((i : Int) + 1) (.ref hp.objs.size) (hp.objs.size + 1) := he₆
      refine wpAny_setField_rec he₆ (by simp) fun h₇ he₇ hs₇ => ?_
      replace hs₇ : Heap.SameBut e h₆ h₇ := hs₇
      replace he₇ : IsEnumOut h₇ e z ((i : Int) + 1) (.ref hp.objs.size) (hp.objs.size + 1) := he₇
      have up : ∀ c o, c ≠ e → h₄.get? c = some o → h₇.get? c = some o := fun c o hc x => hs₇.extBut _ _ hc (hs₆.extBut _ _ hc (hs₅.extBut _ _ hc x))
      obtain ⟨p, q, to₁⟩ := to₁
      have n0 : hp.objs.size ≠ e := Nat.ne_of_gt hel
      have n9 : (hp.objs.size + 1 : Nat) ≠ e := Nat.ne_of_gt (Nat.lt_succ_of_lt hel)
      refine wpAny_bind (wpAny_letGo (wpAny_pure ⟨_, rfl, hQ h₇ tk₀ v' f' he₇ (up _ _ (Ne.symm nz) (hk₄ _ _ (Ne.symm nz) z₁)) ov₁ ⟨p, q, up _ _ (Ne.symm nTO) (hk₄ _ _ (Ne.symm nTO) to₁)⟩ ?_ ?_ ?_ ?_ ?_⟩))
      · exact a₁.at fun o x => up _ o (Ne.symm n1) (hk₄ _ o (Ne.symm n1) x)
      · exact b₁.at fun o x => up _ o (Ne.symm n2) (hk₄ _ o (Ne.symm n2) x)
      · exact up _ _ n0 (hk₄ _ _ n0 p₁)
      · exact up _ _ n9 ht₄
      · exact fun c o ce cz cT c1 c2 x => up c o ce (hk₄ c o ce (k₁ c o cz cT c1 c2 x))
theorem pyNext_enumZ_item {e z TI TO i1 i2 l1 l2 : Addr} {i : Nat} {xs ys : Array Value} {x y a b v old : Value} {f : Bool} {Q : Option Value → Shared → Prop} (D : ZipApart z TI TO i1 i2 l1 l2)
    (he : IsEnum s.heap e z (i : Nat) old) (nz : e ≠ z) (nTI : e ≠ TI) (nTO : e ≠ TO) (n1 : e ≠ i1) (n2 : e ≠ i2)
    (hz : IsZipG s.heap z TI TO v f) (hv : OutV v) (hTI : IsPair s.heap TI (.ref i1) (.ref i2)) (hTO : IsPair s.heap TO a b)
    (h1 : s.heap.IsTupleIter i1 l1 i) (h2 : s.heap.IsTupleIter i2 l2 i) (hl1 : s.heap.IsTuple l1 xs) (hl2 : s.heap.IsTuple l2 ys) (hx : xs[i]? = some x) (hy : ys[i]? = some y)
    (hQ : ∀ h' tk v' f', IsEnumOut h' e z ((i : Int) + 1) (.ref s.heap.objs.size) (s.heap.objs.size + 1) → IsZipG h' z TI TO v' f' → OutV v' → (∃ a b, IsPair h' TO a b) → h'.IsTupleIter i1 l1 (i + 1) → h'.IsTupleIter i2 l2 (i + 1) →
      IsPair h' s.heap.objs.size x y → h'.get? (s.heap.objs.size + 1) = some { cls := .type "tuple", data := .seq #[.int i tk, .ref s.heap.objs.size] } →
      (∀ c o, c ≠ e → c ≠ z → c ≠ TO → c ≠ i1 → c ≠ i2 → s.heap.get? c = some o → h'.get? c = some o) → Q (some (.ref (s.heap.objs.size + 1))) { s with heap := h', toks := tk + 1 }) :
    wpAny (model prog w) A (pyNext (.ref e)) Q E s := by
  have hT : s.TypeIs (.ref e) "enumerate" := ⟨_, he, rfl⟩
  unfold pyNext
  exact wpAny_bind (wpAny_attempt (wpAny_callSpecial?_slot (name := Str.ofString "__next__") hT F.slot_enumerate_next
    (wpAny_call_entry F.slot_enumerate_next hT F.entry_enumerate_next
      (enumZ_next_item D he nz nTI nTO n1 n2 hz hv hTI hTO h1 h2 hl1 hl2 hx hy fun h' tk v' f' a1 a2 a3 a4 a5 a6 a7 a8 a9 => wpAny_pure (hQ h' tk v' f' a1 a2 a3 a4 a5 a6 a7 a8 a9)) (F.args_enumerate_next_1 _))))
theorem pyNext_enumZ_end {e z TI TO i1 i2 l1 l2 : Addr} {i : Int} {k1 : Nat} {xs : Array Value} {a b v old : Value} {f : Bool} {Q : Option Value → Shared → Prop} (hh : A.handled = none) (D : ZipApart z TI TO i1 i2 l1 l2)
    (he : IsEnum s.heap e z i old) (hz : IsZipG s.heap z TI TO v f) (hv : OutV v) (hTI : IsPair s.heap TI (.ref i1) (.ref i2)) (hTO : IsPair s.heap TO a b)
    (h1 : s.heap.IsTupleIter i1 l1 k1) (hl1 : s.heap.IsTuple l1 xs) (hx : xs[k1]? = none)
    (hQ : ∀ h', (∀ c o, c ≠ z → c ≠ TO → c ≠ i1 → c ≠ i2 → s.heap.get? c = some o → h'.get? c = some o) → Q none { s with heap := h' }) : wpAny (model prog w) A (pyNext (.ref e)) Q E s := by
  have hT : s.TypeIs (.ref e) "enumerate" := ⟨_, he, rfl⟩
  unfold pyNext
  refine wpAny_bind (wpAny_attempt (wpAny_callSpecial?_slot (name := Str.ofString "__next__") hT F.slot_enumerate_next
    (wpAny_call_entry F.slot_enumerate_next hT F.entry_enumerate_next ?_ (F.args_enumerate_next_1 _))))
  show wpAny _ _ (field (.ref e) 2 >>= _) _ _ _
  refine wpAny_bind (wpAny_field he rfl (x := .ref z) rfl ?_)
  refine wpAny_bind (nextOf_zipG_end (A := A.in1) hh D hz hv hTI hTO h1 hl1 hx fun h' x hk hx' => ?_)
  obtain ⟨o, ho, hc⟩ := hx'
  refine wpAny_bind (wpAny_isInstance (T := "StopIteration") (b := true) ⟨o, ho, hc⟩ isSubtype_stop ?_)
  exact wpAny_pure (hQ _ hk)
end
theorem meets_enumZ (z TI TO : Addr) :
    Meets (Builtin.«enumerate.__new__» ⟨[.type "enumerate", .ref z], []⟩) (fun _ R s => IsZip s.heap z TI TO .none ∧
      R (.ok (.ret (.ref s.heap.objs.size))) { s with heap := s.heap.push { cls := .type "enumerate", data := .fields #[.none, .bool false, .ref z, rawInt 0, .none, .none] } }) :=
  .of_wp fun prog w A R s h => by
    obtain ⟨hp, g, d, tk, os⟩ := s; obtain ⟨hl, h⟩ := h
    have hsub := sub_enumerate
    have q1 : ∀ {A' : Around} {E : Value → Shared → Prop} {Q : Value → Shared → Prop}, Q (.ref z) ⟨hp, g, d, tk, os⟩ → wpAny (model prog w) A' (pyIter (.ref z)) Q E ⟨hp, g, d, tk, os⟩ :=
      fun q => wpAny_pyIter_zip (TI := TI) (TO := TO) (f0 := .none) hl q
    wp_walk
    refine wpAny_stack_any fun st => wpAny_pure ?_
    split
    · rename_i c _ _ _ _ _
      cases (c == Value.type "enumerate")
      · wp_walk using q1
        exact ⟨_, rfl, h⟩
      · wp_walk using q1
        exact ⟨_, rfl, h⟩
    · wp_walk using q1
      exact ⟨_, rfl, h⟩
theorem call_enumZ {prog : Program} {w : World} {A : Around} {E : Value → Shared → Prop} {s : Shared} {z TI TO : Addr} {Q : Value → Shared → Prop} (hz : IsZip s.heap z TI TO .none)
    (h : ∀ h', IsEnum h' s.heap.objs.size z 0 .none → (∀ b o, s.heap.get? b = some o → h'.get? b = some o) → Q (.ref s.heap.objs.size) { s with heap := h' }) :
    wpAny (model prog w) A (call (.type "enumerate") [.ref z]) Q E s := by
  refine callType_new F.called_enumerate (by decide) (F.typeCall_enumerate_1 _) (F.newCall_enumerate_1 _) (fun obj => F.args_object_init_2 obj _) F.entry_enumerate_new
    (meets_enumZ z TI TO) ⟨hz, ?_⟩
  show _ ∧ _
  have he : IsEnum (s.heap.push { cls := .type "enumerate", data := .fields #[.none, .bool false, .ref z, rawInt 0, .none, .none] }) s.heap.objs.size z 0 .none := Heap.get?_push_size _ rfl
  exact ⟨⟨_, he, rfl⟩, h _ he fun b o x => Heap.get?_push_of_some _ x⟩
/-- two tuples of one length, walked together with an index: each turn makes the pair and the outer pair -/
def IteZ (K : PySem.W.Frag) (a b : Addr) : It :=
  ⟨fun i H => ∃ xs ys : List V, SqT K H a xs ∧ SqT K H b ys ∧ xs.length = ys.length ∧ i < xs.length,
    fun i H v H' => ∃ T T2 x y, v = .ref T2 ∧ H T = none ∧ H T2 = none ∧ T2 ≠ T ∧ H' = upd (upd H T (.tup [x, y])) T2 (.tup [.int (i : Nat), .ref T]) ∧ (∀ xs, SqT K H a xs → xs[i]? = some x) ∧ ∀ ys, SqT K H b ys → ys[i]? = some y,
    fun i H => ∃ xs ys : List V, SqT K H a xs ∧ SqT K H b ys ∧ xs.length = ys.length ∧ xs.length = i⟩
structure EApart (e z TI TO i1 i2 : Addr) : Prop where
  z : e ≠ z
  TI : e ≠ TI
  TO : e ≠ TO
  i1 : e ≠ i1
  i2 : e ≠ i2
theorem turn_enumZ {P : Program} {w : World} {K : PySem.W.Frag} {elts : List Expr} {kk : Nat} {tpos : Pos} {a b e z TI TO i1 i2 : Addr} (D : ZipApart z TI TO i1 i2 a b) (N : EApart e z TI TO i1 i2) :
    Turn P w K (.Tuple elts kk tpos) (IteZ K a b) [e, z, TI, TO, i1, i2] e (fun i h => (∃ old, IsEnum h e z ((i : Nat) : Int) old) ∧ (∃ v f, IsZipG h z TI TO v f ∧ OutV v) ∧ IsPair h TI (.ref i1) (.ref i2) ∧ (∃ x y, IsPair h TO x y) ∧ h.IsTupleIter i1 a i ∧ h.IsTupleIter i2 b i) where
  mem := by simp
  obj := fun i h st c hc => by
    obtain ⟨⟨old, he⟩, ⟨v, f, hz, _⟩, hTI, ⟨x, y, hTO⟩, ⟨o1, e1, _, d1⟩, ⟨o2, e2, _, d2⟩⟩ := st
    have e' : c = e ∨ c = z ∨ c = TI ∨ c = TO ∨ c = i1 ∨ c = i2 := by simpa using hc
    rcases e' with q | q | q | q | q | q
    · rw [q]; exact ⟨_, he, fun v q => nomatch q⟩
    · rw [q]; exact ⟨_, hz, fun v q => nomatch q⟩
    · rw [q]; exact ⟨_, hTI, fun v q => nomatch q⟩
    · rw [q]; exact ⟨_, hTO, fun v q => nomatch q⟩
    · rw [q]; exact ⟨o1, e1, fun v q => by rw [d1] at q; cases q⟩
    · rw [q]; exact ⟨o2, e2, fun v q => by rw [d2] at q; cases q⟩
  keep := fun i h h' st k => by
    obtain ⟨⟨old, he⟩, ⟨v, f, hz, hv⟩, hTI, ⟨x, y, hTO⟩, h1, h2⟩ := st
    exact ⟨⟨old, k e (by simp) _ he⟩, ⟨v, f, k z (by simp) _ hz, hv⟩, k TI (by simp) _ hTI, ⟨x, y, k TO (by simp) _ hTO⟩, h1.at fun o q => k i1 (by simp) o q, h2.at fun o q => k i2 (by simp) o q⟩
  item := by
    intro X hP hw hK hc i pins s σ H E I hf st hg
    subst hP hw hK
    obtain ⟨⟨old, he⟩, ⟨v, f, hz, hv⟩, hTI, ⟨x0, y0, hTO⟩, h1, h2⟩ := st
    obtain ⟨xs, ys, hqx, hqy, hlen, hi⟩ := hg
    obtain ⟨its, rv, p, _⟩ := I.tuple hqx
    obtain ⟨its2, rv2, p2, _⟩ := I.tuple hqy
    have hx : xs[i]? = some (xs[i]'hi) := List.getElem?_eq_getElem hi
    have hy : ys[i]? = some (ys[i]'(by omega)) := List.getElem?_eq_getElem (by omega)
    generalize hxx : xs[i]'hi = x at hx
    generalize hyy : ys[i]'(by omega) = y at hy
    obtain ⟨u, hu, ru⟩ := rv.get hx
    obtain ⟨u2, hu2, ru2⟩ := rv2.get hy
    have lt : ∀ c, c ∈ [e, z, TI, TO, i1, i2] → c < s.heap.objs.size := fun c hcm => by
      have e' : c = e ∨ c = z ∨ c = TI ∨ c = TO ∨ c = i1 ∨ c = i2 := by simpa using hcm
      rcases e' with q | q | q | q | q | q
      · rw [q]; exact Heap.lt_size he
      · rw [q]; exact Heap.lt_size hz
      · rw [q]; exact Heap.lt_size hTI
      · rw [q]; exact Heap.lt_size hTO
      · rw [q]; obtain ⟨_, e1, _⟩ := h1; exact Heap.lt_size e1
      · rw [q]; obtain ⟨_, e2, _⟩ := h2; exact Heap.lt_size e2
    have hel : e < s.heap.objs.size := lt e (by simp)
    refine pyNext_enumZ_item D he N.z N.TI N.TO N.i1 N.i2 hz hv hTI hTO h1 h2 p p2 (x := u) (y := u2) (by simpa using hu) (by simpa using hu2) fun h' tk v' f' ho hz' ov' TO' h1' h2' hT hT2 hk => ?_
    refine ⟨_, rfl, wpAny_letOwnedTupleGo_enum (s := { s with heap := h', toks := tk + 1 }) ho fun h'' he' sb => ?_⟩
    have n0 : s.heap.objs.size ≠ e := Nat.ne_of_gt hel
    have n9 : (s.heap.objs.size + 1 : Nat) ≠ e := Nat.ne_of_gt (Nat.lt_succ_of_lt hel)
    have g1 : h''.get? s.heap.objs.size = some { cls := .type "tuple", data := .seq #[u, u2] } := (sb.2 _ n0).trans hT
    have g2 : h''.get? (s.heap.objs.size + 1) = some { cls := .type "tuple", data := .seq #[.int i tk, .ref s.heap.objs.size] } := (sb.2 _ n9).trans hT2
    have kk : ∀ c o, c ∉ [e, z, TI, TO, i1, i2] → s.heap.get? c = some o → h''.get? c = some o := fun c o hc q =>
      (sb.2 c (fun z => hc (by simp [z]))).trans (hk c o (fun z => hc (by simp [z])) (fun z => hc (by simp [z])) (fun z => hc (by simp [z])) (fun z => hc (by simp [z])) (fun z => hc (by simp [z])) q)
    obtain ⟨G, G1, G2⟩ := restrict h'' fun c => decide (c ≠ s.heap.objs.size + 1)
    have G1' : ∀ c, c ≠ s.heap.objs.size + 1 → G.get? c = h''.get? c := fun c hc => G1 c (decide_eq_true hc)
    have G2' : G.get? (s.heap.objs.size + 1) = none := G2 _ (by simp)
    have newA : ObjOk X.prog X.w (upd H s.heap.objs.size (.tup [x, y])) G s.heap.objs.size (.tup [x, y]) :=
      ⟨by show 2 ≤ sizeLine; decide, [u, u2], .cons ru (.cons ru2 .nil), ⟨_, (G1' _ (Nat.ne_of_lt (Nat.lt_succ_self _))).trans g1, rfl, _, rfl⟩⟩
    have I1 : Inv X pins σ (upd H s.heap.objs.size (.tup [x, y])) { s with heap := G, toks := tk + 1 } :=
      I.turnedNew (t' := tk + 1) (ch := [e, z, TI, TO, i1, i2]) (fun c o hc q => (G1' c (Nat.ne_of_lt (Nat.lt_succ_of_lt (Heap.lt_size q)))).trans (kk c o hc q)) hf (Nat.le_refl _) newA
    have hn1 : upd H s.heap.objs.size (.tup [x, y]) (s.heap.objs.size + 1) = none := by
      rw [upd_ne (Nat.succ_ne_self _)]
      exact I.hok.fresh (Nat.le_succ _)
    have newB : ObjOk X.prog X.w (upd (upd H s.heap.objs.size (.tup [x, y])) (s.heap.objs.size + 1) (.tup [.int (i : Nat), .ref s.heap.objs.size])) h'' (s.heap.objs.size + 1) (.tup [.int (i : Nat), .ref s.heap.objs.size]) :=
      ⟨by show 2 ≤ sizeLine; decide, [.int i tk, .ref s.heap.objs.size], .cons ⟨_, rfl⟩ (.cons rfl .nil), ⟨_, g2, rfl, _, rfl⟩⟩
    have I2 : Inv X pins σ (upd (upd H s.heap.objs.size (.tup [x, y])) (s.heap.objs.size + 1) (.tup [.int (i : Nat), .ref s.heap.objs.size])) { s with heap := h'', toks := tk + 1 } :=
      I1.laidN (t' := tk + 1) (fun c o q => by
        by_cases hc : c = s.heap.objs.size + 1
        · rw [hc, G2'] at q; cases q
        · rw [← G1' c hc]; exact q) G2' hn1 newB
    refine ⟨.ref (s.heap.objs.size + 1), _, I2, rfl, ⟨s.heap.objs.size, _, x, y, rfl, I.hok.fresh (Nat.le_refl _), I.hok.fresh (Nat.le_succ _), Nat.succ_ne_self _, rfl, fun l hl => by rw [I.tuple_inj hl hqx]; exact hx, fun l hl => by rw [I.tuple_inj hl hqy]; exact hy⟩, ⟨⟨.ref s.heap.objs.size, ?_⟩, ⟨v', f', (sb.2 _ (Ne.symm N.z)).trans hz', ov'⟩, ?_, ?_, ?_, ?_⟩, fun c hcm => ?_⟩
    · have e1 : ((i + 1 : Nat) : Int) = (i : Int) + 1 := by omega
      rw [e1]; exact he'
    · exact (sb.2 _ (Ne.symm N.TI)).trans (hk _ _ (Ne.symm N.TI) D.TIz D.TITO D.TIi1 D.TIi2 hTI)
    · obtain ⟨p, q, r⟩ := TO'
      exact ⟨p, q, (sb.2 _ (Ne.symm N.TO)).trans r⟩
    · exact h1'.at fun o q => (sb.2 _ (Ne.symm N.i1)).trans q
    · exact h2'.at fun o q => (sb.2 _ (Ne.symm N.i2)).trans q
    · have hlt := lt c hcm
      rw [upd_ne (Nat.ne_of_lt (Nat.lt_succ_of_lt hlt)), upd_ne (Nat.ne_of_lt hlt)]
      exact (hf c hcm).1
  done := by
    intro X hP hw hK hc i pins s σ H E I hf st hg
    subst hP hw hK
    obtain ⟨⟨old, he⟩, ⟨v, f, hz, hv⟩, hTI, ⟨x0, y0, hTO⟩, h1, h2⟩ := st
    obtain ⟨xs, ys, hqx, hqy, hlen, hi⟩ := hg
    obtain ⟨its, rv, p, _⟩ := I.tuple hqx
    have l1 := rv.length
    have he0 : its.toArray[i]? = none := by simp; omega
    exact pyNext_enumZ_end (I.ok.hd hc) D he hz hv hTI hTO h1 p he0 fun h' hk => ⟨rfl, I.turnedL (t' := s.toks) (ch := [e, z, TI, TO, i1, i2]) (fun c o hb q =>
      hk c o (fun q' => hb (by simp [q'])) (fun q' => hb (by simp [q'])) (fun q' => hb (by simp [q'])) (fun q' => hb (by simp [q'])) q) hf⟩
  self := fun A i s Q E st h => let ⟨⟨_, he⟩, _⟩ := st; wpAny_pyIter_enum he h
def iEnumZ (K : PySem.W.Frag) (ta : TA) : TI := fun σ H R => ta σ H fun vs H1 => ∃ a b xs ys, vs = [.ref a, .ref b] ∧ SqT K H1 a xs ∧ SqT K H1 b ys ∧ R (IteZ K a b) H1
theorem pi_enumZ {X : Cx} {e e2 : Expr} {ta : TA} {p p2 pos pos2 tpos : Pos} {elts : List Expr} {kk : Nat} (hg : Gl X "enumerate") (hm : X.mg "enumerate" = none) (hg2 : Gl X "zip") (hm2 : X.mg "zip" = none) (ha : PA X [e, e2] ta)
    (na : starEach [.Call (.Name "zip" p2) [e, e2] [] pos2] X.env = (false, eval (.Call (.Name "zip" p2) [e, e2] [] pos2) X.env) :: starEach [] X.env := by rfl)
    (hs : starEach [e, e2] X.env = (false, eval e X.env) :: starEach [e2] X.env := by rfl) (hpl : (backTo pos2 (starEach [e2] X.env)).any (·.1) = false := by rfl) :
    PI X (.Tuple elts kk tpos) (.Call (.Name "enumerate" p) [.Call (.Name "zip" p2) [e, e2] [] pos2] [] pos) (iEnumZ X.K ta) := by
  refine ⟨fun pins s σ H R I h => ?_⟩
  refine Call_ (ld_blt I hg hm boot_enumerate (PyProof.Rows.callWith_type1 (args_cons ?_ na) na))
  refine Call_ (ld_blt I hg2 hm2 PyProof.Rows.boot_zip (PyProof.Rows.callWith_type1 (thn (ha.run pos2 pins s σ H _ I h) fun us s1 ⟨vs, H1, I1, r1, q1⟩ => ?_) hs hpl))
  obtain ⟨a, b, xs, ys, ex, hqx, hqy, q⟩ := q1
  subst ex
  cases r1 with
  | cons r rr =>
    cases rr with
    | cons r' rr =>
      cases rr
      cases r
      cases r'
      obtain ⟨its, rv, p1, _⟩ := I1.tuple hqx
      obtain ⟨its2, rv2, p2, _⟩ := I1.tuple hqy
      refine RZ.call_zipT (show s1.heap.IsTuple a its.toArray from p1) (show s1.heap.IsTuple b its2.toArray from p2) fun h' hz hTI hTO h1 h2 hsz hk => ?_
      refine args_nil ?_
      refine call_enumZ (s := { s1 with heap := h' }) hz fun h3 he k3 => wpAny_pyIter_enum he ?_
      replace he : IsEnum h3 h'.objs.size (s1.heap.objs.size + 4) 0 .none := he
      replace k3 : ∀ b o, h'.get? b = some o → h3.get? b = some o := k3
      rw [hsz] at he
      show PIE X pins σ (.Tuple elts kk tpos) R (.ref h'.objs.size) _
      rw [hsz]
      have I2 : Inv X pins σ H1 { s1 with heap := h3 } := I1.kept (t' := s1.toks) fun c o q => k3 c o (hk c o q)
      have hle : ∀ c, c ∈ [s1.heap.objs.size + 5, s1.heap.objs.size + 4, s1.heap.objs.size + 2, s1.heap.objs.size + 3, s1.heap.objs.size, s1.heap.objs.size + 1] → s1.heap.objs.size ≤ c := fun c hcm => by
        have e' : c = s1.heap.objs.size + 5 ∨ c = s1.heap.objs.size + 4 ∨ c = s1.heap.objs.size + 2 ∨ c = s1.heap.objs.size + 3 ∨ c = s1.heap.objs.size ∨ c = s1.heap.objs.size + 1 := by simpa using hcm
        rcases e' with z | z | z | z | z | z
        · rw [z]; exact Nat.le_add_right _ _
        · rw [z]; exact Nat.le_add_right _ _
        · rw [z]; exact Nat.le_add_right _ _
        · rw [z]; exact Nat.le_add_right _ _
        · rw [z]; exact Nat.le_refl _
        · rw [z]; exact Nat.le_add_right _ _
      have nn : ∀ {m n : Nat}, m ≠ n → (s1.heap.objs.size + m : Nat) ≠ s1.heap.objs.size + n := fun h z => h (Nat.add_left_cancel z)
      refine ⟨s1.heap.objs.size + 5, [s1.heap.objs.size + 5, s1.heap.objs.size + 4, s1.heap.objs.size + 2, s1.heap.objs.size + 3, s1.heap.objs.size, s1.heap.objs.size + 1], _, _, H1, rfl, I2,
        turn_enumZ (PySem.W.ktu_apart s1.heap.objs.size a b p1.lt p2.lt) ⟨nn (by decide), nn (by decide), nn (by decide), nn (m := 5) (n := 0) (by decide), nn (by decide)⟩,
        ⟨⟨.none, he⟩, ⟨.none, false, k3 _ _ hz, .inl rfl⟩, k3 _ _ hTI, ⟨_, _, k3 _ _ hTO⟩, h1.at fun o q => k3 _ o q, h2.at fun o q => k3 _ o q⟩, fun c hcm => ?_, q⟩
      exact I1.fpOk (hle c hcm) (I1.hok.fresh (hle c hcm))
end DL
/-! more rules over data: loops over enumerate(tuple), zip(list, range), enumerate(zip); None, texts, slices, chains -/
namespace DL
open PySem PySem.Spec PyProof.Rows L2
section
variable {W : Wd} {δ : Dl} {te ta tb tc : TE} {tar : TA} {d e z d1 d2 : Dt} {ds es : List Dt} {P : Dt → Prop} {r r' : R2}
theorem yg_enumT (h : Ea W tar δ [.tup ds]) : YlG W (iEnumT W.K tar) δ (enumD ds) := fun g O σ H S R q => h g O σ H S _ fun vs H1 fs f i e r => by
  subst e
  cases r with
  | cons r rr =>
    cases rr
    cases r with
    | @tup p xs _ hp n r =>
      refine ⟨_, _, rfl, SqT.of hp, q _ H1 (ghAt W _ _ _ _) f i ⟨hp, n, r⟩ fun O' => ?_⟩
      refine ⟨fun i H hi q => ?_, fun H q => ⟨xs, SqT.of q.1, by rw [enumD_len, q.2.2.length]⟩, fun i H v H' hi hI hO q y => ?_⟩
      · have hi' : i < xs.length := by rw [enumD_len] at hi; rw [q.2.2.length]; exact hi
        exact ⟨xs, xs[i], SqT.of q.1, List.getElem?_eq_getElem hi'⟩
      · obtain ⟨T, x, hv, hT, hH, hx⟩ := y
        have hx' := hx xs (SqT.of q.1)
        obtain ⟨b, hb, rb⟩ := q.2.2.getV hx'
        subst hv hH
        obtain ⟨k, rp⟩ := pair_rep hI hO hT (.int _) rb
        exact ⟨k, _, enumD_get hb, rp⟩
/-- a list and as many ints from lo on -/
theorem yg_zipR {lo hi : Int} (h : Ea W tar δ [.lst ds, .rng lo hi]) (hr : RgOk lo hi) (hl : (hi - lo).toNat = ds.length) : YlG W (iZipR W.K tar) δ (zipD ds ((List.range ds.length).map fun k => Dt.int (lo + ((k : Nat) : Int)))) := fun g O σ H S R q => h g O σ H S _ fun vs H1 fs f i e r => by
  subst e
  cases r with
  | cons r rr =>
    cases rr with
    | cons r2 rr =>
      cases rr
      cases r with
      | @lst p xs _ hp n r =>
        cases r2 with
        | rng hp2 n2 =>
          have hlen := r.length
          refine ⟨_, _, _, _, _, rfl, SqL.of hp, hp2, hr, by rw [hlen]; exact hl, q _ H1 (ghAt W _ _ _ _) f i ⟨hp, n, r⟩ fun O' => ?_⟩
          have zl : (zipD ds ((List.range ds.length).map fun k => Dt.int (lo + ((k : Nat) : Int)))).length = ds.length := by rw [zipD_len]; simp
          refine ⟨fun i H hi q => ⟨by rw [zl] at hi; omega, xs, SqL.of q.1, rfl⟩, fun H q => ⟨by rw [zl, hlen], xs, SqL.of q.1, rfl⟩, fun i H v H' hi hI hO q y => ?_⟩
          obtain ⟨T, x, hv, hT, hH, hx⟩ := y
          obtain ⟨b, hb, rb⟩ := q.2.2.getV (hx xs (SqL.of q.1))
          subst hv hH
          obtain ⟨k, rp⟩ := pair_rep hI hO hT rb (.int (lo + (i : Nat)))
          rw [zl] at hi
          exact ⟨k, _, zipD_get hb (by simp [hi]), rp⟩
/-- enumerate(zip(tuple, tuple)) -/
theorem yg_enumZ (h : Ea W tar δ [.tup ds, .tup es]) (hl : ds.length = es.length) : YlG W (iEnumZ W.K tar) δ (enumD (zipD ds es)) := fun g O σ H S R q => h g O σ H S _ fun vs H1 fs f i e r => by
  subst e
  cases r with
  | cons r rr =>
    cases rr with
    | cons r2 rr =>
      cases rr
      cases r with
      | @tup p xs _ hp n r =>
        cases r2 with
        | @tup p2 ys _ hp2 n2 r2 =>
          have l1 := r.length
          have l2 := r2.length
          refine ⟨_, _, _, _, rfl, SqT.of hp, SqT.of hp2, q _ H1 (ghAt2 W _ _ _ _ _ _ _ _) f i ⟨⟨hp, n, r⟩, hp2, n2, r2⟩ fun O' => ?_⟩
          have zl : (enumD (zipD ds es)).length = ds.length := by rw [enumD_len, zipD_len]; omega
          refine ⟨fun i H hi q => ⟨xs, ys, SqT.of q.1.1, SqT.of q.2.1, by omega, by rw [zl] at hi; omega⟩, fun H q => ⟨xs, ys, SqT.of q.1.1, SqT.of q.2.1, by omega, by rw [zl]; omega⟩, fun i H v H' hi hI hO q y => ?_⟩
          obtain ⟨T, T2, x, y, hv, hT, hT2, ne, hH, hx, hy⟩ := y
          obtain ⟨a, ha, ra⟩ := q.1.2.2.getV (hx xs (SqT.of q.1.1))
          obtain ⟨b, hb, rb⟩ := q.2.2.2.getV (hy ys (SqT.of q.2.1))
          subst hv hH
          obtain ⟨k, rp⟩ := pair_rep hI hO hT ra rb
          have hI2 : ∀ c, W.A c → upd H T (.tup [x, y]) c ≠ none := fun c hc z => by
            cases e : H c with
            | none => exact W.dom H c hI hc e
            | some o => rw [k c o e] at z; cases z
          have hO2 : ∀ c, O' c → upd H T (.tup [x, y]) c ≠ none := fun c hc z => by
            cases e : H c with
            | none => exact (hO c hc).2 e
            | some o => rw [k c o e] at z; cases z
          have hT2' : upd H T (.tup [x, y]) T2 = none := by rw [upd_ne ne]; exact hT2
          have k2 : ∀ c o, upd H T (.tup [x, y]) c = some o → upd (upd H T (.tup [x, y])) T2 (.tup [.int (i : Nat), .ref T]) c = some o := fun c o e => by rw [upd_ne (ne_of_none e hT2')]; exact e
          refine ⟨fun c o e => k2 c o (k c o e), _, enumD_get (zipD_get ha hb), .tup upd_same (fun z => z.elim (fun y => hI2 T2 y hT2') fun y => hO2 T2 y hT2') ?_⟩
          exact (Reps.cons (.int _) (.cons rp .nil)).mono fun c o n e => ⟨n, k2 c o e⟩
/-! ### None -/
def isNo : Dt → Bool
  | .non => true
  | _ => false
theorem od_isN : OpD W rIsNo d .non (.bl (isNo d)) := fun O H u v i _ ru rv Q q => by
  cases rv
  refine ⟨rfl, ?_⟩
  have e : decide (u = V.non) = isNo d := by cases ru <;> simp [isNo]
  rw [e]
  exact q _ H (Fr.refl H) i (.bl _)
theorem od_notN : OpD W rNotNo d .non (.bl (!isNo d)) := fun O H u v i _ ru rv Q q => by
  cases rv
  refine ⟨rfl, ?_⟩
  have e : decide (u = V.non) = isNo d := by cases ru <;> simp [isNo]
  rw [e]
  exact q _ H (Fr.refl H) i (.bl _)
theorem od_isB {a b : Bool} : OpD W rIsB (.bl a) (.bl b) (.bl (decide (a = b))) := fun O H u v i _ ru rv Q q => by
  cases ru; cases rv
  exact ⟨a, b, rfl, rfl, q _ H (Fr.refl H) i (.bl _)⟩
theorem od_notB {a b : Bool} : OpD W rNotB (.bl a) (.bl b) (.bl (!decide (a = b))) := fun O H u v i _ ru rv Q q => by
  cases ru; cases rv
  exact ⟨a, b, rfl, rfl, q _ H (Fr.refl H) i (.bl _)⟩
theorem od_neS {a b : Str} : OpD W rNe (.str a) (.str b) (.bl (!decide (a = b))) := fun O H u v i _ ru rv Q q => by
  cases ru; cases rv
  have e : decide (V.str a = V.str b) = decide (a = b) := by
    by_cases h : a = b
    · subst h; simp
    · simp [h]
  exact ⟨rfl, by rw [e]; exact q _ H (Fr.refl H) i (.bl _)⟩
/-! ### texts -/
theorem od_addS {a b : Str} (h : a.length + b.length ≤ 100000) : OpD W rAddS (.str a) (.str b) (.str (a ++ b)) := fun O H u v i _ ru rv Q q => by
  cases ru; cases rv
  exact ⟨a, b, rfl, rfl, Nat.le_trans h (by decide), q _ H (Fr.refl H) i (.str _)⟩
theorem od_ltS {a b : Str} : OpD W rLtS (.str a) (.str b) (.bl (decide (a.cps.toList < b.cps.toList))) := fun O H u v i _ ru rv Q q => by
  cases ru; cases rv
  exact ⟨a, b, rfl, rfl, q _ H (Fr.refl H) i (.bl _)⟩
theorem od_inSg {c : Nat} {s : Str} : OpD W rInSg (.str ⟨#[c]⟩) (.str s) (.bl (decide (c ∈ s.cps.toList))) := fun O H u v i _ ru rv Q q => by
  cases ru; cases rv
  exact ⟨c, s, rfl, rfl, q _ H (Fr.refl H) i (.bl _)⟩
theorem od_mulS {s : Str} {n : Int} (h0 : 0 ≤ n) (h1 : n ≤ 1000) (h2 : s.length ≤ 1000) : OpD W rMulS (.str s) (.int n) (.str (Txt.mul s n)) := fun O H u v i _ ru rv Q q => by
  cases ru; cases rv
  exact ⟨s, n, rfl, rfl, h0, h1, h2, q _ H (Fr.refl H) i (.str _)⟩
abbrev rJoin (K : PySem.W.Frag) : V → List V → Hp → VK → Prop := fun x xs H Q => ∃ a p, ∃ ys : List Str, x = .str a ∧ xs = [.ref p] ∧ (SqL K H p (ys.map V.str) ∨ SqT K H p (ys.map V.str)) ∧
      (ys.map (·.length)).sum + ys.length * a.length ≤ 16777216 ∧ Q (.str (Txt.join a ys)) H
theorem er_join {PL : List Dt → Prop} {a : Str} (ha : Ed W ta δ (.str a)) (hb : Efr W tb δ PL) (h : ∀ ds, PL ds → ∃ ys : List Str, ds = ys.map Dt.str ∧ (ys.map (·.length)).sum + ys.length * a.length ≤ 16777216 ∧ P (.str (Txt.join a ys))) : Er W (tM1 (rJoin W.K) ta tb) δ P := fun g O σ H S Q q =>
  ha g O σ H S _ fun v H1 x f1 i1 e1 r1 => by
    subst e1
    cases r1
    refine ⟨⟨a, rfl⟩, hb g O σ H1 (S.step f1 i1) _ fun p xs H2 ds f2 i2 y n hp r => ?_⟩
    obtain ⟨ys, e, hz, hP⟩ := h ds y
    subst e
    have ex := r.strs
    subst ex
    exact ⟨a, p, ys, rfl, rfl, .inl (SqL.of hp), hz, q _ H2 _ (f1.trans f2) i2 hP (.str _)⟩
/-! ### tuple * int -/
theorem od_mulT {n : Int} (k : W.Ok) (h1 : 1 ≤ n) (h2 : n ≤ 1000) (hn : ds ≠ []) (hl : ds.length ≤ 1000) : OpD W (rMulT W.K) (.tup ds) (.int n) (.tup (List.replicate n.toNat ds).flatten) := fun O H u v i hO ru rv Q q => by
  cases rv
  cases ru with
  | @tup p xs _ hp nA r =>
    have hx : xs ≠ [] := fun z => by
      subst z
      cases r
      exact hn rfl
    by_cases h : n = 1
    · subst h
      refine .inr ⟨p, xs, rfl, rfl, SqT.of hp, ?_⟩
      have e : (List.replicate (1 : Int).toNat ds).flatten = ds := by simp
      rw [e] at q
      exact q _ H (Fr.refl H) i (.tup hp nA r)
    · exact .inl ⟨p, n, xs, rfl, rfl, SqT.of hp, hx, by omega, h2, by rw [r.length]; exact hl, fun l hl => q _ _ (Fr.new hl) (k.all i (all_new hl)) (.tup upd_same (fresh_not i hO hl) (rep_flat (r.fr (Fr.new hl)) _))⟩
/-! ### a op b op c -/
theorem ed_chain {b1 : Bool} (ha : Ed W ta δ d) (hb : Ed W tb δ e) (hr : OpD W r d e (.bl b1)) (hc : b1 = true → Ed W tc δ z) (hr' : b1 = true → OpD W r' e z d1) (hf : b1 = false → d1 = .bl false) : Ed W (tChain r r' ta tb tc) δ d1 := fun g O σ H S Q q =>
  ha g O σ H S _ fun v H1 x f1 i1 e1 r1 => hb g O σ H1 (S.step f1 i1) _ fun u H2 y f2 i2 e2 r2 => by
    subst e1 e2
    refine hr O H2 v u i2 (((S.step f1 i1).step f2 i2).oA) (r1.fr f2) r2 _ fun w H3 f3 i3 r3 => ?_
    cases r3
    refine ⟨b1, rfl, ?_⟩
    cases b1 with
    | true =>
      have S3 := ((S.step f1 i1).step f2 i2).step f3 i3
      exact hc rfl g O σ H3 S3 _ fun w' H4 y' f4 i4 e4 r4 => by
        subst e4
        exact hr' rfl O H4 u w' i4 ((S3.step f4 i4).oA) ((r2.fr f3).fr f4) r4 Q fun w2 H5 f5 i5 r5 => q w2 H5 _ ((((f1.trans f2).trans f3).trans f4).trans f5) i5 rfl r5
    | false =>
      exact q _ H3 _ ((f1.trans f2).trans f3) i3 (hf rfl).symm (.bl false)
/-! ### t[:n] -/
theorem Reps.cut {C : Addr} {A : Addr → Prop} {H : Hp} {xs : List V} {n : Nat} (r : Reps C A H xs ds) : Reps C A H (cutV xs none (some (n : Int))) (ds.take n) := by
  have l := r.length
  unfold cutV
  rw [HT.sIx_nat, HT.sIx_none, List.drop_zero, Nat.sub_zero]
  have e : ds.take n = ds.take (min n xs.length) := by
    rw [l]
    by_cases h : n ≤ ds.length
    · rw [Nat.min_eq_left h]
    · rw [Nat.min_eq_right (by omega), List.take_of_length_le (by omega), List.take_of_length_le (Nat.le_refl _)]
  rw [e]
  exact r.take _
theorem ed_sliceT {n : Nat} (k : W.Ok) (ha : Ed W ta δ (.tup ds)) (hb : Ed W tb δ (.int (n : Nat))) : Ed W (tSl (rSlA W.K) ta tNoPart (tPart tb)) δ (.tup (ds.take n)) := fun g O σ H S Q q =>
  ha g O σ H S _ fun v H1 x f1 i1 e1 r1 => hb g O σ H1 (S.step f1 i1) _ fun u H2 y f2 i2 e2 r2 => by
    subst e1 e2
    cases r2
    have r1' := r1.fr f2
    have S2 := (S.step f1 i1).step f2 i2
    cases r1' with
    | @tup p xs _ hp nA r =>
      refine ⟨_, rfl, p, xs, rfl, SqT.of hp, fun hw => ?_, fun hw l hl => ?_⟩
      · rw [HT.sIx_nat] at hw
        have hl := r.length
        refine q _ H2 _ (f1.trans f2) i2 rfl ?_
        rw [List.take_of_length_le (by omega)]
        exact .tup hp nA r
      · exact q _ _ _ ((f1.trans f2).trans (Fr.new hl)) (k.all i2 (all_new hl)) rfl (.tup upd_same (S2.fresh hl) ((Reps.cut r).fr (Fr.new hl)))
/-! ### ranges -/
abbrev rRange2 : List V → Hp → VK → Prop := fun vs H Q => ∃ i j, vs = [V.int i, V.int j] ∧ ∀ p, H p = none → Q (.ref p) (upd H p (.rng i j))
theorem ed_range2 {a b : Int} (k : W.Ok) (ha : Ea W tar δ [.int a, .int b]) : Ed W (tCB rRange2 tar) δ (.rng a b) := fun g O σ H S Q q => ha g O σ H S _ fun vs H1 xs f i e r => by
  subst e
  cases r with
  | cons r rr =>
    cases r
    cases rr with
    | cons r rr =>
      cases r
      cases rr
      exact ⟨a, b, rfl, fun p hp => q _ _ _ (f.trans (Fr.new hp)) (k.all i (all_new hp)) rfl (.rng upd_same ((S.step f i).fresh hp))⟩
theorem rgV_reps {C : Addr} {A : Addr → Prop} {H : Hp} (a b : Int) : Reps C A H (rgV a b) ((List.range (b - a).toNat).map fun k => Dt.int (a + ((k : Nat) : Int))) := by
  unfold rgV
  have : ∀ l : List Nat, Reps C A H (l.map fun i => V.int (a + (i : Nat))) (l.map fun k => Dt.int (a + ((k : Nat) : Int))) := fun l => by
    induction l with
    | nil => exact .nil
    | cons n l ih => exact .cons (.int _) ih
  exact this _
theorem ef_listRg2 {a b : Int} (k : W.Ok) (ha : Ed W ta δ (.int a)) (hb : Ed W tb δ (.int b)) (hr : RgOk a b) : Ef W (tLstRg (tRg2 ta tb)) δ ((List.range (b - a).toNat).map fun k => Dt.int (a + ((k : Nat) : Int))) := fun g O σ H S Q q =>
  ha g O σ H S _ fun v H1 x f1 i1 e1 r1 => hb g O σ H1 (S.step f1 i1) _ fun u H2 y f2 i2 e2 r2 => by
    subst e1 e2
    cases r1
    cases r2
    exact ⟨a, b, rfl, rfl, hr, fun l hl => q _ _ _ _ ((f1.trans f2).trans (Fr.new hl)) (k.all i2 (all_new hl)) rfl (back_none (f1.trans f2) i2 hl) upd_same (own_new hl (rgV_reps a b))⟩
/-! ### never -/
theorem ef_none {te : TE} (h : Ed W te δ (.lst ds)) : Ec W te δ ds := h.ec
end
end DL
/-! calls that read a list of one's own -/
namespace DL
open PySem PySem.Spec PyProof.Rows L2
mutual
/-- no lists within -/
def noLst : Dt → Bool
  | .lst _ => false
  | .tup l => noLstA l
  | .sys n r => noLst n && noLst r
  | _ => true
def noLstA : List Dt → Bool
  | [] => true
  | d :: ds => noLst d && noLstA ds
end
def flatD : Dt → Bool
  | .non => true | .bl _ => true | .int _ => true | .str _ => true | .adr _ => true | _ => false
theorem Rep.flat {C : Addr} {A A' : Addr → Prop} {H H' : Hp} {v : V} {d : Dt} (r : Rep C A H v d) (h : flatD d = true) : Rep C A' H' v d := by
  cases r with
  | non => exact .non
  | bl b => exact .bl b
  | int b => exact .int b
  | str b => exact .str b
  | adr b => exact .adr b
  | tup _ _ _ => cases h
  | lst _ _ _ => cases h
  | rng _ _ => cases h
  | sys _ _ _ _ _ _ => cases h
section
variable {C : Addr} {A O : Addr → Prop} {H : Hp}
mutual
theorem Rep.avoid (hO : ∀ a, O a → ∃ xs, H a = some (.lst xs)) : ∀ {d : Dt} {v : V}, Rep C A H v d → noLst d = true → Rep C (fun a => A a ∨ O a) H v d
  | _, _, .non, _ => .non
  | _, _, .bl b, _ => .bl b
  | _, _, .int b, _ => .int b
  | _, _, .str b, _ => .str b
  | _, _, .adr b, _ => .adr b
  | _, _, .tup hp n r, h => .tup hp (fun z => z.elim n fun y => by obtain ⟨xs, e⟩ := hO _ y; rw [hp] at e; cases e) (Reps.avoid hO r (by simpa [noLst] using h))
  | _, _, .lst hp n r, h => by simp [noLst] at h
  | _, _, .rng hp n, _ => .rng hp (fun z => z.elim n fun y => by obtain ⟨xs, e⟩ := hO _ y; rw [hp] at e; cases e)
  | _, _, .sys hp n e1 e2 r1 r2, h => by
    rw [noLst, Bool.and_eq_true] at h
    exact .sys hp (fun z => z.elim n fun y => by obtain ⟨xs, e⟩ := hO _ y; rw [hp] at e; cases e) e1 e2 (Rep.avoid hO r1 h.1) (Rep.avoid hO r2 h.2)
theorem Reps.avoid (hO : ∀ a, O a → ∃ xs, H a = some (.lst xs)) : ∀ {ds : List Dt} {vs : List V}, Reps C A H vs ds → noLstA ds = true → Reps C (fun a => A a ∨ O a) H vs ds
  | _, _, .nil, _ => .nil
  | _, _, .cons r t, h => by
    rw [noLstA, Bool.and_eq_true] at h
    exact .cons (Rep.avoid hO r h.1) (Reps.avoid hO t h.2)
end
end
/-- argument lists, lists of one's own among them, to be read only -/
def Eb (W : Wd) (ta : TA) (δ : Dl) (ds : List Dt) : Prop := ∀ (g : Gh W) (O : Addr → Prop) (σ : L2.St) (H : Hp), SR W g O H σ δ → ∀ Q : List V → Hp → Prop, (∀ vs H', Fr W H H' → W.I H' → Reps W.C W.A H' vs ds → Q vs H') → ta σ H Q
section
variable {W : Wd} {δ : Dl} {te : TE} {tar : TA} {d : Dt} {ds es : List Dt} {P : Dt → Prop} {G : Type} {inj : G → List Dt} {pre : G → Prop} {post : G → Dt → Prop} {E : XK} {i : Nat}
theorem Rep.frA {H H' : Hp} (f : Fr W H H') {v : V} (r : Rep W.C W.A H v d) : Rep W.C W.A H' v d := r.mono fun a o n h => ⟨n, f a o (fun z => n (W.sub a z)) h⟩
theorem eb_nil : Eb W tNil δ [] := fun g O σ H S Q q => q [] H (Fr.refl H) S.inv .nil
theorem eb_cons (h : Ed W te δ d) (t : Eb W tar δ ds) : Eb W (tCons te tar) δ (d :: ds) := fun g O σ H S Q q => h g O σ H S _ fun v H1 x f1 i1 e r => by
  subst e
  exact t g O σ H1 (S.step f1 i1) _ fun vs H2 f2 i2 r2 => q _ H2 (f1.trans f2) i2 (.cons ((r.fr f2).mono fun a o n e => ⟨fun z => n (.inl z), e⟩) r2)
theorem eb_own (h : δ[i]? = some (some (Sl.own es))) (t : Eb W tar δ ds) : Eb W (tCons (tVar i) tar) δ (.lst es :: ds) := fun g O σ H S Q q => by
  obtain ⟨p, xs, e, hO, hp, r⟩ := S.own i es h
  refine ⟨_, e, t g O σ H S _ fun vs H2 f2 i2 r2 => q _ H2 f2 i2 (.cons ?_ r2)⟩
  exact .lst (f2 p _ (S.own_n hO) hp) (S.oA p hO).1 ((r.fr f2).mono fun a o n e => ⟨fun z => n (.inl z), e⟩)
theorem er_callB (x : G) (k : W.Ok) (ha : Eb W tar δ (inj x)) (h1 : pre x) (h2 : ∀ d, post x d → flatD d = true ∧ P d) : Er W (tCall (spP W.C inj pre post) [] E tar) δ P := fun g O σ H S Q q => ha g O σ H S _ fun vs H1 f1 i1 r1 => by
  show spP W.C inj pre post (vs ++ []) H1 Q E
  rw [List.append_nil]
  exact ⟨W.A, x, fun a h => W.dom H1 a i1 h, r1, h1, fun v H' d ex rv pd => q v H' d (f1.trans (Fr.all ex)) (k.all i1 ex) (h2 d pd).2 (rv.flat (h2 d pd).1)⟩
theorem efr_callB {PR : List Dt → Prop} {postL : G → List Dt → Prop} (x : G) (k : W.Ok) (ha : Eb W tar δ (inj x)) (h1 : pre x) (h2 : ∀ ds, postL x ds → noLstA ds = true ∧ PR ds) : Efr W (tCall (spL W.C inj pre postL) [] E tar) δ PR := fun g O σ H S Q q => ha g O σ H S _ fun vs H1 f1 i1 r1 => by
  show spL W.C inj pre postL (vs ++ []) H1 Q E
  rw [List.append_nil]
  refine ⟨W.A, x, fun a h => W.dom H1 a i1 h, r1, h1, fun p xs H' ds ex n hp r pd => q p xs H' ds (f1.trans (Fr.all ex)) (k.all i1 ex) (h2 ds pd).2 (back_none' f1 i1 n) hp ?_⟩
  have S1 := S.step f1 i1
  have hO : ∀ a, O a → ∃ ys, H' a = some (.lst ys) := fun a h => let ⟨ys, e⟩ := S1.oL a h; ⟨ys, ex a _ e⟩
  exact (Reps.avoid hO r (h2 ds pd).1).mono fun a o na e => ⟨fun z => na (by rcases z with z | z | z; exact .inl (.inl z); exact .inr z; exact .inl (.inr z)), e⟩
end
end DL
/-! loops over what is told by a relation -/
namespace DL
open PySem PySem.Spec PyProof.Rows L2
def YlGr (W : Wd) (wi : TI) (δ : Dl) (PL : List Dt → Prop) : Prop := ∀ (g : Gh W) (O : Addr → Prop) (σ : L2.St) (H : Hp), SR W g O H σ δ → ∀ R : It → Hp → Prop,
  (∀ J H1 (G : Gh W) ds, PL ds → Fr W H H1 → W.I H1 → G.p O H1 → (∀ O', Wk W O' J ds (G.p O')) → R J H1) → wi σ H R
section
variable {W : Wd} {δ : Dl} {te : TE} {ts tu : TS} {P : Pst} {PL : List Dt → Prop} {R : Dt → Prop}
theorem yg_listR (h : Er W te δ R) (hR : ∀ d, R d → ∃ ds, d = .lst ds ∧ PL ds) : YlGr W (iList W.K te) δ PL := fun g O σ H S Q q => h g O σ H S _ fun v H1 d f i e r => by
  obtain ⟨ds, e, p⟩ := hR d e
  subst e
  cases r with
  | lst hp n r => exact ⟨_, rfl, ⟨_, SqL.of hp⟩, q _ H1 (ghAt W _ _ _ _) ds p f i ⟨hp, n, r⟩ fun O' => wk_list fun H q => ⟨SqL.of q.1, q.2.2⟩⟩
theorem yg_listF (h : Efr W te δ PL) : YlGr W (iList W.K te) δ PL := yg_listR h.er fun d e => e
theorem sd_forR {wi : TI} {gt : TG} (k : W.Ok) (hy : YlGr W wi δ PL) (Inv : List Dt → Nat → Dl → Prop) (h0 : ∀ ds, PL ds → Inv ds 0 δ) (hs : ∀ (ds : List Dt) (i : Nat) (d : Dt) (δ' : Dl), PL ds → ds[i]? = some d → Inv ds i δ' → ∃ δ2 js, Tg W gt d δ' δ2 js ∧ Sd W ts δ2 { P with nx := Inv ds (i + 1), ct := Inv ds (i + 1), bk := P.nx })
    (hd : ∀ ds δ', PL ds → Inv ds ds.length δ' → P.nx δ') : Sd W (tFor wi gt ts) δ P := fun g O σ H D S K => hy g O σ H S _ fun J H1 G ds pl f1 i1 pG wk => by
  refine ⟨fun i m σ H => ∃ O δ', m = ds.length - i ∧ i ≤ ds.length ∧ SR W (g.and G) O H σ δ' ∧ Inv ds i δ', ⟨ds.length, O, δ, by simp, Nat.zero_le _, (S.step f1 i1).gh' _ ⟨(S.step f1 i1).gh, pG⟩, h0 ds pl⟩, ?_⟩
  rintro i m σ' H' ⟨O', δ', rfl, hi, S', hI⟩
  by_cases hlt : i < ds.length
  · refine .inr ⟨(wk O').goes i H' hlt S'.gh.2, fun σ2 H2 => ∃ O2 δ2, SR W (g.and G) O2 H2 σ2 δ2 ∧ Inv ds (i + 1) δ2, fun σ2 H2 ⟨O2, δ2, S2, I2⟩ => ⟨ds.length - (i + 1), by omega, O2, δ2, rfl, hlt, S2, I2⟩, fun x H2 y => ?_⟩
    obtain ⟨ex, d, hd', rx⟩ := (wk O').yields i H' x H2 hlt S'.inv S'.oA S'.gh.2 y
    obtain ⟨δ2, js, tg, sd⟩ := hs ds i d δ' pl hd' hI
    have f2 : Fr W H' H2 := Fr.all ex
    have i2 : W.I H2 := k.all S'.inv ex
    refine tg (g.and G) O' σ' H2 x (S'.step f2 i2) rx _ fun σ2 S2 _ _ => sd (g.and G) O' σ2 H2 _ S2 ⟨fun O σ H δ s p => ⟨O, δ, s, p⟩, fun O v H d a b r p => K.rt O v H d a.1 b r p, fun O σ H δ s p => K.nx O σ H δ (s.gh' g s.gh.1) p, fun O σ H δ s p => ⟨O, δ, s, p⟩, fun O H dd w pg => K.xp O H dd w pg.1, fun O p xs H ds a b c d r q => K.ro O p xs H ds a.1 b c d r q⟩
  · have e : i = ds.length := by omega
    subst e
    exact .inl ⟨(wk O').stops H' S'.gh.2, K.nx O' σ' H' δ' (S'.gh' g S'.gh.1) (hd ds δ' pl hI)⟩
theorem sq_forR {wi : TI} {gt : TG} (k : W.Ok) (hy : YlGr W wi δ PL) (Inv : List Dt → Nat → Dl → Prop) (h0 : ∀ ds, PL ds → Inv ds 0 δ) (hs : ∀ (ds : List Dt) (i : Nat) (d : Dt) (δ' : Dl), PL ds → ds[i]? = some d → Inv ds i δ' → ∃ δ2 js, Tg W gt d δ' δ2 js ∧ Sd W ts δ2 { P with nx := Inv ds (i + 1), ct := Inv ds (i + 1), bk := fun δ2 => Sd W tu δ2 P })
    (hd : ∀ ds δ', PL ds → Inv ds ds.length δ' → Sd W tu δ' P) : Sd W (tSeq (tFor wi gt ts) tu) δ P :=
  sd_seq (M := fun δ' => Sd W tu δ' P) (sd_forR k hy Inv h0 hs hd) fun _ h => h
end
end DL
/-! the law's data, its plain functions -/
namespace DL
open PySem PySem.Spec PyProof.Rows L2
abbrev inD (l : List Int) : Dt := .tup (l.map Dt.int)
abbrev rowD (p : List Int) (b : Int) : Dt := .tup [inD p, .int b]
abbrev frD (a b : Int) : Dt := .tup [.int a, .int b]
/-- the divisor of all -/
def gcdL : List Int → Nat → Nat
  | [], g => g
  | x :: l, g => gcdL l (Nat.gcd g x.natAbs)
theorem gcdL_append (l m : List Int) (g : Nat) : gcdL (l ++ m) g = gcdL m (gcdL l g) := by
  induction l generalizing g with
  | nil => rfl
  | cons x l ih => exact ih _
theorem gcdL_dvd_start (l : List Int) (g : Nat) : gcdL l g ∣ g := by
  induction l generalizing g with
  | nil => exact Nat.dvd_refl _
  | cons x l ih => exact Nat.dvd_trans (ih _) (Nat.gcd_dvd_left _ _)
theorem gcdL_dvd (l : List Int) (g : Nat) : ∀ x ∈ l, gcdL l g ∣ x.natAbs := by
  induction l generalizing g with
  | nil => intro x h; cases h
  | cons y l ih =>
    intro x h
    rcases List.mem_cons.mp h with h | h
    · subst h
      exact Nat.dvd_trans (gcdL_dvd_start l _) (Nat.gcd_dvd_right _ _)
    · exact ih _ x h
theorem dvd_gcdL {d : Nat} (l : List Int) (g : Nat) (h1 : d ∣ g) (h2 : ∀ x ∈ l, d ∣ x.natAbs) : d ∣ gcdL l g := by
  induction l generalizing g with
  | nil => exact h1
  | cons y l ih => exact ih _ (Nat.dvd_gcd h1 (h2 y List.mem_cons_self)) fun x h => h2 x (List.mem_cons_of_mem _ h)
theorem gcdL_pos {l : List Int} {g : Nat} (h : 0 < g ∨ ∃ x ∈ l, x ≠ 0) : 0 < gcdL l g := by
  rcases Nat.eq_zero_or_pos (gcdL l g) with z | z
  · rcases h with h | ⟨x, hx, h⟩
    · have := gcdL_dvd_start l g
      rw [z, Nat.zero_dvd] at this
      omega
    · have := gcdL_dvd l g x hx
      rw [z, Nat.zero_dvd] at this
      omega
  · exact z
theorem gcdL_comm (l : List Int) (b : Int) : gcdL (l ++ [b]) 0 = gcdL l b.natAbs := by
  apply Nat.dvd_antisymm
  · refine dvd_gcdL _ _ (gcdL_dvd (l ++ [b]) 0 b (by simp)) fun x hx => gcdL_dvd (l ++ [b]) 0 x (by simp [hx])
  · refine dvd_gcdL _ _ (Nat.dvd_zero _) fun x hx => ?_
    rcases List.mem_append.mp hx with h | h
    · exact gcdL_dvd _ _ x h
    · have e : x = b := by simpa using h
      subst e
      exact gcdL_dvd_start _ _
/-- a bound upon all -/
def Bd (n : Nat) (l : List Int) : Prop := ∀ x ∈ l, x.natAbs < 2 ^ n
theorem two_pos (n : Nat) : 0 < 2 ^ n := Nat.pow_pos (by decide)
theorem mul_ok {a b : Int} {m n : Nat} (ha : a.natAbs < 2 ^ m) (hb : b.natAbs < 2 ^ n) (h : m + n ≤ 900000) : CMulW a b := by
  refine wide_mul (a := m + 1) (b := n + 1) ?_ ?_ (by omega) (by omega) (by omega)
  · exact Nat.lt_of_lt_of_le ha (Nat.pow_le_pow_right (by decide) (by omega))
  · exact Nat.lt_of_lt_of_le hb (Nat.pow_le_pow_right (by decide) (by omega))
theorem div_ok {a b : Int} {n : Nat} (h0 : 0 < b) (hb : b.natAbs < 2 ^ n) (h : n ≤ 8000) : CDivW a b :=
  wide_div (b := n + 1) h0 (Nat.lt_of_lt_of_le hb (Nat.pow_le_pow_right (by decide) (by omega))) (by omega) (by omega)
theorem gcd_lt {a b : Int} {n : Nat} (h : b ≠ 0) (hb : b.natAbs < 2 ^ n) : Int.gcd a b < 2 ^ n :=
  Nat.lt_of_le_of_lt (Nat.le_of_dvd (by omega) (Int.gcd_dvd_natAbs_right a b)) hb
theorem ite01 (b : Bool) : (if b = true then (1 : Int) else 0) = if b then 1 else 0 := rfl
/-- an index that is there -/
theorem ixN_nat {n i : Nat} (h : i < n) : ixN n (i : Nat) = some i := by
  unfold ixN
  simp [h]
theorem atI_nat' {ds : List Dt} {i : Nat} {d : Dt} (h : ds[i]? = some d) : atI ds (i : Nat) = some d := by
  unfold atI
  rw [ixN_nat (List.getElem?_eq_some_iff.mp h).1]
  exact h
theorem at_ints {l : List Int} {i : Nat} (h : i < l.length) : atI (l.map Dt.int) (i : Nat) = some (.int l[i]) := atI_nat' (by simp [h])
theorem hu65 {A : Around} {k : Nat} (r : Room k A) : A.units + 65 < cLine := by have := r.un; omega
theorem hu100 {A : Around} {k : Nat} (r : Room k A) : A.units + 100 < cLine := by have := r.un; omega
theorem kit_ii : kitB "int" "int" = some true := by decide +kernel
theorem kit_ib : kitB "int" "bool" = some false := by decide +kernel
theorem kit_bb : kitB "bool" "bool" = some true := by decide +kernel
theorem kit_tt : kitB "tuple" "tuple" = some true := by decide +kernel
theorem kit_ss : kitB "str" "str" = some true := by decide +kernel
theorem gcdL_lt {l : List Int} {g n : Nat} {x : Int} (hx : x ∈ l) (h0 : x ≠ 0) (hb : x.natAbs < 2 ^ n) : gcdL l g < 2 ^ n :=
  Nat.lt_of_le_of_lt (Nat.le_of_dvd (by omega) (gcdL_dvd l g x hx)) hb
theorem gcdL_take {l : List Int} {i : Nat} {x : Int} (h : l[i]? = some x) (g : Nat) : gcdL (l.take (i + 1)) g = Nat.gcd (gcdL (l.take i) g) x.natAbs := by
  rw [List.take_add_one, h, gcdL_append]
  rfl
theorem int_at {l : List Int} {i : Nat} {d : Dt} (h : (l.map Dt.int)[i]? = some d) : ∃ x, l[i]? = some x ∧ d = .int x := by
  rw [List.getElem?_map] at h
  cases e : l[i]? with
  | none => rw [e] at h; cases h
  | some x => rw [e] at h; exact ⟨x, rfl, (Option.some.inj h).symm⟩
theorem map_at {α : Type} {f : α → Dt} {l : List α} {i : Nat} {d : Dt} (h : (l.map f)[i]? = some d) : ∃ x, l[i]? = some x ∧ d = f x := by
  rw [List.getElem?_map] at h
  cases e : l[i]? with
  | none => rw [e] at h; cases h
  | some x => rw [e] at h; exact ⟨x, rfl, (Option.some.inj h).symm⟩
/-! all, any, sum over a comprehension -/
section
variable {W : Wd} {δ : Dl} {te : TE} {wi : TI} {gt : TG} {vs : List Nat}
theorem ed_allLc {α : Type} (xs : List α) (inj : α → Dt) (p : α → Bool) (k : W.Ok) (hy : Yl W wi δ (xs.map inj)) (hz : xs.length ≤ 100000)
    (hs : ∀ x, x ∈ xs → ∃ δ2 js, Tg W gt (inj x) (wipeD δ vs) δ2 js ∧ (∀ j, j ∈ js → j ∈ vs) ∧ Ed W te δ2 (.bl (p x))) : Ed W (tCB (rAll W.K) (tCons (tLc wi gt tYes te vs) tNil)) δ (.bl (xs.all p)) := by
  have h := ef_lcAll xs inj (fun x => Dt.bl (p x)) k hy hz hs
  have e : xs.map (fun x => Dt.bl (p x)) = (xs.map p).map Dt.bl := by rw [List.map_map]; rfl
  rw [e] at h
  exact (ed_all h.ec).to (by rw [List.all_map]; rfl)
theorem ed_anyLc {α : Type} (xs : List α) (inj : α → Dt) (p : α → Bool) (k : W.Ok) (hy : Yl W wi δ (xs.map inj)) (hz : xs.length ≤ 100000)
    (hs : ∀ x, x ∈ xs → ∃ δ2 js, Tg W gt (inj x) (wipeD δ vs) δ2 js ∧ (∀ j, j ∈ js → j ∈ vs) ∧ Ed W te δ2 (.bl (p x))) : Ed W (tCB (rAny W.K) (tCons (tLc wi gt tYes te vs) tNil)) δ (.bl (xs.any p)) := by
  have h := ef_lcAll xs inj (fun x => Dt.bl (p x)) k hy hz hs
  have e : xs.map (fun x => Dt.bl (p x)) = (xs.map p).map Dt.bl := by rw [List.map_map]; rfl
  rw [e] at h
  exact (ed_any h.ec).to (by rw [List.any_map]; rfl)
theorem ed_sumLc {α : Type} (xs : List α) (inj : α → Dt) (f : α → Int) (k : W.Ok) (hy : Yl W wi δ (xs.map inj)) (hz : xs.length ≤ 100000)
    (hs : ∀ x, x ∈ xs → ∃ δ2 js, Tg W gt (inj x) (wipeD δ vs) δ2 js ∧ (∀ j, j ∈ js → j ∈ vs) ∧ Ed W te δ2 (.int (f x))) : Ed W (tCB (rSum W.K) (tCons (tLc wi gt tYes te vs) tNil)) δ (.int (xs.map f).sum) := by
  have h := ef_lcAll xs inj (fun x => Dt.int (f x)) k hy hz hs
  have e : xs.map (fun x => Dt.int (f x)) = (xs.map f).map Dt.int := by rw [List.map_map]; rfl
  rw [e] at h
  exact ed_sum h.ec
end
/-! names, rows -/
abbrev LET : Str := "abcdefghijklmnopqrstuvwxyz"
def nameOk (s : Str) : Prop := 1 ≤ s.length ∧ s.length ≤ 5 ∧ ∀ c ∈ s.cps.toList, c ∈ LET.cps.toList
def namesOk (l : List Str) : Prop := 1 ≤ l.length ∧ l.length ≤ 6 ∧ (∀ s ∈ l, nameOk s) ∧ ∀ (i : Nat) (a b : Str), l[i]? = some a → l[i + 1]? = some b → a.cps.toList < b.cps.toList
abbrev namesD (l : List Str) : Dt := .tup (l.map Dt.str)
abbrev Row := List Int × Int
abbrev rD (r : Row) : Dt := rowD r.1 r.2
abbrev rowsD (l : List Row) : Dt := .tup (l.map rD)
def rowOk (n : Nat) (r : Row) : Prop := r.1.length = n ∧ (∃ x ∈ r.1, x ≠ 0) ∧ gcdL r.1 r.2.natAbs = 1 ∧ Bd 100 (r.2 :: r.1)
def rowsOk (n : Nat) (rs : List Row) : Prop := rs.length ≤ 60 ∧ (∀ r ∈ rs, rowOk n r) ∧ ∀ (i : Nat) (a b : Row), rs[i]? = some a → rs[i + 1]? = some b → dLt (rD a) (rD b) = true
theorem plA_ints (l : List Int) : plA (l.map Dt.int) = true := plA_iff.mpr fun d h => by
  obtain ⟨x, _, e⟩ := List.mem_map.mp h
  subst e; rfl
theorem depA_ints (l : List Int) : depA (l.map Dt.int) = 0 := Nat.le_zero.mp (depA_le.mpr fun d h => by
  obtain ⟨x, _, e⟩ := List.mem_map.mp h
  subst e; exact Nat.le_refl _)
theorem pl_inD (l : List Int) : pl (inD l) = true := by simp [pl, plA_ints]
theorem dep_inD (l : List Int) : dep (inD l) = 1 := by simp [dep, depA_ints]
theorem pl_rD (r : Row) : pl (rD r) = true := by simp [pl, plA, plA_ints]
theorem dep_rD (r : Row) : dep (rD r) = 2 := by simp [dep, depA, depA_ints]
theorem alk_ints : ∀ l m : List Int, PySem.W.alikeAll (toPyA (l.map Dt.int)) (toPyA (m.map Dt.int)) = true
  | [], _ => by simp [toPyA, PySem.W.alikeAll]
  | _ :: _, [] => by simp [toPyA, PySem.W.alikeAll]
  | x :: l, y :: m => by
    have := alk_ints l m
    simp [toPyA, toPy, PySem.W.alikeAll, PySem.W.alike, this]
theorem alk_inD (l m : List Int) : alk (inD l) (inD m) = true := by
  have := alk_ints l m
  unfold alk
  simp only [toPy, PySem.W.alike]
  exact this
theorem alk_rD (r s : Row) : alk (rD r) (rD s) = true := by
  have := alk_ints r.1 s.1
  unfold alk
  simp only [toPy, toPyA, PySem.W.alike, PySem.W.alikeAll, this]
  rfl
theorem od_ltR {W : Wd} {a b : Row} : OpD W (rLtD W.K) (rD a) (rD b) (.bl (dLt (rD a) (rD b))) := od_ltD (pl_rD a) (pl_rD b) (alk_rD a b) (by simp) (by simp) (by rw [dep_rD]; decide)
theorem inD_inj {l m : List Int} (h : inD l = inD m) : l = m := by
  have h : l.map Dt.int = m.map Dt.int := Dt.tup.inj h
  exact (List.map_inj_right (fun a b h => Dt.int.inj h)).mp h
theorem rD_inj {a b : Row} (h : rD a = rD b) : a = b := by
  have h := Dt.tup.inj h
  simp only [List.cons.injEq, Dt.int.injEq, and_true] at h
  exact Prod.ext (inD_inj h.1) h.2
/-- what is known of the class System -/
structure Attrs (K : PySem.W.Frag) (C : Addr) : Prop where
  c : Cls K C
  n : NoAttr K C "names"
  r : NoAttr K C "rows"
abbrev sysD (ns : List Str) (rs : List Row) : Dt := .sys (namesD ns) (rowsD rs)
abbrev freeD : Dt := .tup [.non, .non]
abbrev boxD (n : Nat) : Dt := .tup ((List.range n).map fun _ => freeD)
/-! tables -/
abbrev rowL (f : Nat → Int) (c : Nat) : List Dt := (List.range c).map fun b => Dt.int (f b)
abbrev tabL (f : Nat → Nat → Int) (r c : Nat) : List Dt := (List.range r).map fun a => Dt.lst (rowL (f a) c)
abbrev tabD (f : Nat → Nat → Int) (r c : Nat) : Dt := .lst (tabL f r c)
theorem rg_at {α : Type} {f : Nat → α} {n i : Nat} (h : i < n) : ((List.range n).map f)[i]? = some (f i) := by simp [h]
theorem rg_atI {f : Nat → Dt} {n i : Nat} (h : i < n) : atI ((List.range n).map f) (i : Nat) = some (f i) := atI_nat' (rg_at h)
theorem ixN_neg {n k : Nat} (h1 : 1 ≤ k) (h2 : k ≤ n) : ixN n (-(k : Int)) = some (n - k) := by
  unfold ixN
  rw [if_neg (by omega), if_pos (by omega)]
  congr 1
  omega
theorem rg_atN {f : Nat → Dt} {n k : Nat} (h1 : 1 ≤ k) (h2 : k ≤ n) : atI ((List.range n).map f) (-(k : Int)) = some (f (n - k)) := by
  unfold atI
  rw [List.length_map, List.length_range, ixN_neg h1 h2]
  exact rg_at (by omega)
theorem rg_get {α : Type} {f : Nat → α} {n i : Nat} {d : α} (h : ((List.range n).map f)[i]? = some d) : i < n ∧ d = f i := by
  have hi : i < n := by
    have := (List.getElem?_eq_some_iff.mp h).1
    simpa using this
  rw [rg_at hi] at h
  exact ⟨hi, (Option.some.inj h).symm⟩
theorem enum_rg {f : Nat → Dt} {n i : Nat} {d : Dt} (h : (enumD ((List.range n).map f))[i]? = some d) : i < n ∧ d = .tup [.int (i : Nat), f i] := by
  have hi : i < n := by
    have := (List.getElem?_eq_some_iff.mp h).1
    rw [enumD_len] at this
    simpa using this
  rw [enumD_get (rg_at hi)] at h
  exact ⟨hi, (Option.some.inj h).symm⟩
theorem enumD_rg (f : Nat → Dt) (n : Nat) : enumD ((List.range n).map f) = (List.range n).map fun i => .tup [.int (i : Nat), f i] := by
  apply List.ext_getElem?
  intro i
  by_cases hi : i < n
  · rw [enumD_get (rg_at hi), rg_at hi]
  · rw [List.getElem?_eq_none (by rw [enumD_len]; simpa using hi), List.getElem?_eq_none (by simpa using hi)]
theorem zipD_rg (f g : Nat → Dt) (n : Nat) : zipD ((List.range n).map f) ((List.range n).map g) = (List.range n).map fun i => .tup [f i, g i] := by
  apply List.ext_getElem?
  intro i
  by_cases hi : i < n
  · rw [zipD_get (rg_at hi) (rg_at hi), rg_at hi]
  · rw [List.getElem?_eq_none (by rw [zipD_len]; simpa using hi), List.getElem?_eq_none (by simpa using hi)]
theorem rowL_split (g : Nat → Int) (m n : Nat) : rowL g (m + n + 1) = rowL g m ++ rowL (fun b => g (m + b)) n ++ [Dt.int (g (m + n))] := by
  unfold rowL
  rw [List.range_succ, List.map_append, List.range_add, List.map_append, List.map_map]
  rfl
theorem rowL_congr {f g : Nat → Int} {n : Nat} (h : ∀ i, i < n → f i = g i) : rowL f n = rowL g n := by
  apply List.map_congr_left
  intro i hi
  rw [h i (List.mem_range.mp hi)]
theorem rg_succ {α : Type} (f : Nat → α) (n : Nat) : (List.range (n + 1)).map f = (List.range n).map f ++ [f n] := by
  rw [List.range_succ, List.map_append]; rfl
theorem rep_rg (d : Dt) (n : Nat) : (List.replicate n [d]).flatten = (List.range n).map fun _ => d := by
  induction n with
  | zero => rfl
  | succ n ih => rw [List.replicate_succ', List.flatten_append, ih, rg_succ]; rfl
theorem tabL_succ (f : Nat → Nat → Int) (r c : Nat) : tabL f (r + 1) c = tabL f r c ++ [Dt.lst (rowL (f r) c)] := rg_succ _ _
theorem isAt (b i : Nat) : Dt.int (if decide ((b : Int) = (i : Int)) = true then 1 else 0) = .int (if b = i then 1 else 0) := by
  by_cases h : b = i
  · simp [h]
  · have : (b : Int) ≠ i := by omega
    simp [h, this]
theorem yg_rangeN {W : Wd} {δ : Dl} {ta : TA} {n : Nat} (h : Ea W ta δ [.int (n : Nat)]) (hn : n ≤ 100000) : YlG W (iRng1 ta) δ ((List.range n).map fun k => Dt.int (k : Nat)) := (yg_range1 h (by omega)).to (by rw [Int.toNat_natCast])
theorem getD_rg {α : Type} (l : List α) (e : α) {β : Type} (f : α → β) : l.map f = (List.range l.length).map fun j => f (l.getD j e) := by
  apply List.ext_getElem?
  intro i
  by_cases h : i < l.length
  · rw [rg_at h, List.getElem?_map, List.getElem?_eq_getElem h, List.getD_eq_getElem?_getD, List.getElem?_eq_getElem h]
    rfl
  · rw [List.getElem?_eq_none (by simpa using h), List.getElem?_eq_none (by simpa using h)]
/-- the i-th part -/
abbrev gi (l : List Int) (i : Nat) : Int := l.getD i 0
theorem gi_bd {n : Nat} {l : List Int} (h : Bd n l) (i : Nat) : (gi l i).natAbs < 2 ^ n := by
  show (l.getD i 0).natAbs < _
  rw [List.getD_eq_getElem?_getD]
  cases e : l[i]? with
  | none => exact two_pos n
  | some v => exact h v (List.mem_of_getElem? e)
theorem gi_get {l : List Int} {i : Nat} (h : i < l.length) : l[i]? = some (gi l i) := by
  rw [gi, List.getD_eq_getElem?_getD, List.getElem?_eq_getElem h]; rfl
theorem gi_atI {l : List Int} {i : Nat} (h : i < l.length) : atI (l.map Dt.int) (i : Nat) = some (.int (gi l i)) := atI_nat' (by rw [List.getElem?_map, gi_get h]; rfl)
theorem Bd.up {m n : Nat} {l : List Int} (h : Bd m l) (hm : m ≤ n) : Bd n l := fun x hx => Nat.lt_of_lt_of_le (h x hx) (Nat.pow_le_pow_right (by decide) hm)
/-- where the signs are unlike -/
def unl (p q : List Int) : List Nat := (List.range p.length).filter fun i => decide (gi p i * gi q i < 0)
abbrev natsD (l : List Nat) : Dt := .tup (l.map fun i => Dt.int (i : Nat))
end DL
namespace DL
open PySem PySem.Spec PyProof.Rows L2 Hd
/-! ### divisor_of -/
abbrev sp_divisor_of (C : Addr) : Sp := spP C (G := Int × Int) (fun x => [.int x.1, .int x.2]) (fun _ => True) (fun x d => d = .int (Int.gcd x.1 x.2))

abbrev N_divisor_of : List Str := ["one", "other"]
def t_divisor_of (K : PySem.W.Frag) (C R : Addr) : TS := (tSeq (tPar 0 1 (tCons (tCB rAbs (tCons (tVar 0) tNil)) (tCons (tCB rAbs (tCons (tVar 1) tNil)) tNil)))
  (tSeq (tWhile (tTest (tOp rGtI (tVar 1) (tC (.int 0)))) (tPar 0 1 (tCons (tVar 1) (tCons (tOp rMod (tVar 0) (tVar 1)) tNil))))
  (tRet (tVar 0))))
theorem gcd_step (a b : Nat) : Nat.gcd b (a % b) = Nat.gcd a b := by rw [Nat.gcd_comm a b, Nat.gcd_rec b a, Nat.gcd_comm]
theorem sd_divisor_of (W : Wd) (k : W.Ok) (R : Addr) (x : Int × Int) (hp : True) : Sd W (t_divisor_of W.K W.C R) (startD N_divisor_of.length [.int x.1, .int x.2]) { rt := fun d => d = .int (Int.gcd x.1 x.2), nx := fun _ => Dt.non = .int (Int.gcd x.1 x.2) } := by
  refine sq_par (eam_shE (ed_cb (ea_cons (ed_var rfl) ea_nil) cd_abs) (eam_shE (ed_cb (ea_cons (ed_var rfl) ea_nil) cd_abs) (eam_nil ⟨_, _, rfl, ?_⟩)))
  refine sq_while (fun m δ => ∃ a b : Nat, δ = [some (.sh (.int (a : Nat))), some (.sh (.int (b : Nat)))] ∧ Nat.gcd a b = Int.gcd x.1 x.2 ∧ m = b) ⟨_, x.1.natAbs, x.2.natAbs, rfl, rfl, rfl⟩ ?_
  rintro m δ' ⟨a, b, rfl, hg, rfl⟩
  refine ⟨decide ((0 : Int) < (m : Int)), et_test (ed_op (ed_var rfl) ed_int od_B0), fun h => ?_, fun h => ?_⟩
  · have hm : 0 < m := by simpa using h
    refine sd_par (eam_shE (ed_var rfl) (eam_shE (ed_op (ed_var rfl) (ed_var rfl) (od_I (by simpa using h))) (eam_nil ⟨_, _, rfl, ?_⟩)))
    exact ⟨a % m, Nat.mod_lt _ hm, m, a % m, rfl, by rw [gcd_step]; exact hg, rfl⟩
  · have hm : m = 0 := by simpa using h
    subst hm
    refine sd_ret (Ed.er (ed_var rfl) ?_)
    rw [← hg]
    simp

theorem sc_divisor_of : FnScope N_divisor_of ["one", "other"] (defScope s_divisor_of) := ⟨rfl, rfl, rfl, by decide +kernel, rfl, by decide +kernel, by decide +kernel⟩
section
variable {P : Program} {w : World} {K : PySem.W.Frag} {mg : Str → Option Value} {base : Heap}
theorem b_divisor_of (T : Fx K mg) : Binds K T.f_divisor_of.fd ["one", "other"] [] := T.f_divisor_of.F.bindsN fun _ _ _ _ _ _ us hl => match us, hl with | [_, _], _ => rfl
theorem d_divisor_of (T : Fx K mg) {cdv : Value} {A : Around} {outer : List Env} {s : Shared} {H : Hp} {E : XK} (hr : Room 0 (A.deeper (envOfC "divisor_of" (defScope s_divisor_of) s.heap.objs.size T.f_divisor_of.f cdv))) : PSs (cxOf CX0 P w K mg base N_divisor_of "divisor_of" (defScope s_divisor_of) T.f_divisor_of.f cdv A outer s H E).nox (defBody s_divisor_of) (t_divisor_of K T.C T.R) :=
  have nd := sc_divisor_of.nd
  (pss_cons (ps_par (i := 0) (j := 1) rfl nd rfl rfl (by decide) rfl rfl (pa_cons (pe_callB o_abs rfl T.b_abs boot_abs (pa_cons (pv 0) pa_nil)) (pa_cons (pe_callB o_abs rfl T.b_abs boot_abs (pa_cons (pv 1) pa_nil)) pa_nil)) rfl)
  (pss_cons (ps_while PassesOwn.never (pt_cmpR op_gt (pv 1) pe_int (nomark _)) (pss_one (ps_par (i := 0) (j := 1) rfl nd rfl rfl (by decide) rfl rfl (pa_cons (pv 1) (pa_cons (pe_op op_mod (pv 0) (pv 1)) pa_nil)) rfl)))
  (pss_one (ps_ret (pv 0)))))
theorem ok_divisor_of (T : Fx K mg) : FnOk P w K mg base CX0 1 T.f_divisor_of.f T.f_divisor_of.fd ["one", "other"] (sp_divisor_of T.C) :=
  T.f_divisor_of.F.ok sc_divisor_of (fun vs H Q E ⟨A, x, _, r, _⟩ => by rw [r.length]; rfl) fun cdv A outer s H vs Q E hr h => ⟨t_divisor_of K T.C T.R, PSs.nox (d_divisor_of T hr), run_P K h fun W k x hC hK hp => by subst hK; rw [← hC]; exact sd_divisor_of W k T.R x hp⟩
end
/-! ### _law_factor -/
abbrev sp__law_factor (C : Addr) : Sp := spP C (G := Int × Int) (fun x => [.int x.1, .int x.2]) (fun _ => True) (fun x d => d = .int (Int.gcd x.1 x.2))

abbrev N__law_factor : List Str := ["_law_one", "_law_other"]
def t__law_factor (K : PySem.W.Frag) (C R : Addr) : TS := (tSeq (tPar 0 1 (tCons (tCB rAbs (tCons (tVar 0) tNil)) (tCons (tCB rAbs (tCons (tVar 1) tNil)) tNil)))
  (tSeq (tWhile (tTest (tOp rGtI (tVar 1) (tC (.int 0)))) (tPar 0 1 (tCons (tVar 1) (tCons (tOp rMod (tCB rInt1 (tCons (tVar 0) tNil)) (tVar 1)) tNil))))
  (tRet (tVar 0))))
theorem sd__law_factor (W : Wd) (k : W.Ok) (R : Addr) (x : Int × Int) (hp : True) : Sd W (t__law_factor W.K W.C R) (startD N__law_factor.length [.int x.1, .int x.2]) { rt := fun d => d = .int (Int.gcd x.1 x.2), nx := fun _ => Dt.non = .int (Int.gcd x.1 x.2) } := by
  refine sq_par (eam_shE (ed_cb (ea_cons (ed_var rfl) ea_nil) cd_abs) (eam_shE (ed_cb (ea_cons (ed_var rfl) ea_nil) cd_abs) (eam_nil ⟨_, _, rfl, ?_⟩)))
  refine sq_while (fun m δ => ∃ a b : Nat, δ = [some (.sh (.int (a : Nat))), some (.sh (.int (b : Nat)))] ∧ Nat.gcd a b = Int.gcd x.1 x.2 ∧ m = b) ⟨_, x.1.natAbs, x.2.natAbs, rfl, rfl, rfl⟩ ?_
  rintro m δ' ⟨a, b, rfl, hg, rfl⟩
  refine ⟨decide ((0 : Int) < (m : Int)), et_test (ed_op (ed_var rfl) ed_int od_B0), fun h => ?_, fun h => ?_⟩
  · have hm : 0 < m := by simpa using h
    refine sd_par (eam_shE (ed_var rfl) (eam_shE (ed_op (ed_cb (ea_cons (ed_var rfl) ea_nil) cd_int) (ed_var rfl) (od_I (by simpa using h))) (eam_nil ⟨_, _, rfl, ?_⟩)))
    exact ⟨a % m, Nat.mod_lt _ hm, m, a % m, rfl, by rw [gcd_step]; exact hg, rfl⟩
  · have hm : m = 0 := by simpa using h
    subst hm
    refine sd_ret (Ed.er (ed_var rfl) ?_)
    rw [← hg]
    simp

theorem sc__law_factor : FnScope N__law_factor ["_law_one", "_law_other"] (defScope s__law_factor) := ⟨rfl, rfl, rfl, by decide +kernel, rfl, by decide +kernel, by decide +kernel⟩
section
variable {P : Program} {w : World} {K : PySem.W.Frag} {mg : Str → Option Value} {base : Heap}
theorem b__law_factor (T : Fx K mg) : Binds K T.f__law_factor.fd ["_law_one", "_law_other"] [] := T.f__law_factor.F.bindsN fun _ _ _ _ _ _ us hl => match us, hl with | [_, _], _ => rfl
theorem d__law_factor (T : Fx K mg) {cdv : Value} {A : Around} {outer : List Env} {s : Shared} {H : Hp} {E : XK} (hr : Room 0 (A.deeper (envOfC "_law_factor" (defScope s__law_factor) s.heap.objs.size T.f__law_factor.f cdv))) : PSs (cxOf CX0 P w K mg base N__law_factor "_law_factor" (defScope s__law_factor) T.f__law_factor.f cdv A outer s H E).nox (defBody s__law_factor) (t__law_factor K T.C T.R) :=
  have nd := sc__law_factor.nd
  (pss_cons (ps_par (i := 0) (j := 1) rfl nd rfl rfl (by decide) rfl rfl (pa_cons (pe_callB o_abs rfl T.b_abs boot_abs (pa_cons (pv 0) pa_nil)) (pa_cons (pe_callB o_abs rfl T.b_abs boot_abs (pa_cons (pv 1) pa_nil)) pa_nil)) rfl)
  (pss_cons (ps_while PassesOwn.never (pt_cmpR op_gt (pv 1) pe_int (nomark _)) (pss_one (ps_par (i := 0) (j := 1) rfl nd rfl rfl (by decide) rfl rfl (pa_cons (pv 1) (pa_cons (pe_op op_mod (pe_callTy o_int1 rfl T.b_int boot_int (pa_cons (pv 0) pa_nil)) (pv 1)) pa_nil)) rfl)))
  (pss_one (ps_ret (pv 0)))))
theorem ok__law_factor (T : Fx K mg) : FnOk P w K mg base CX0 1 T.f__law_factor.f T.f__law_factor.fd ["_law_one", "_law_other"] (sp__law_factor T.C) :=
  T.f__law_factor.F.ok sc__law_factor (fun vs H Q E ⟨A, x, _, r, _⟩ => by rw [r.length]; rfl) fun cdv A outer s H vs Q E hr h => ⟨t__law_factor K T.C T.R, PSs.nox (d__law_factor T hr), run_P K h fun W k x hC hK hp => by subst hK; rw [← hC]; exact sd__law_factor W k T.R x hp⟩
end
/-! ### is_integer -/
abbrev sp_is_integer (C : Addr) : Sp := spP C (G := Int) (fun n => [.int n]) (fun _ => True) (fun _ d => d = .bl true)

abbrev N_is_integer : List Str := ["value"]
def t_is_integer (K : PySem.W.Frag) (C R : Addr) : TS := (tRet (tAndV (tCB (rIsi K) (tCons (tVar 0) (tCons (tC (.ty "int")) tNil))) (tNotV (tCB (rIsi K) (tCons (tVar 0) (tCons (tC (.ty "bool")) tNil))))))
theorem sd_is_integer (W : Wd) (k : W.Ok) (R : Addr) (x : Int) (hp : True) : Sd W (t_is_integer W.K W.C R) (startD N_is_integer.length [.int x]) { rt := fun d => d = .bl true, nx := fun _ => Dt.non = .bl true } :=
  sd_ret (Ed.er (ed_andB (ed_isi (ed_var rfl) rfl kit_ii) fun _ => ed_notB (ed_isi (ed_var rfl) rfl kit_ib)) rfl)

theorem sc_is_integer : FnScope N_is_integer ["value"] (defScope s_is_integer) := ⟨rfl, rfl, rfl, by decide +kernel, rfl, by decide +kernel, by decide +kernel⟩
section
variable {P : Program} {w : World} {K : PySem.W.Frag} {mg : Str → Option Value} {base : Heap}
theorem b_is_integer (T : Fx K mg) : Binds K T.f_is_integer.fd ["value"] [] := T.f_is_integer.F.bindsN fun _ _ _ _ _ _ us hl => match us, hl with | [_], _ => rfl
theorem d_is_integer (T : Fx K mg) {cdv : Value} {A : Around} {outer : List Env} {s : Shared} {H : Hp} {E : XK} (hr : Room 0 (A.deeper (envOfC "is_integer" (defScope s_is_integer) s.heap.objs.size T.f_is_integer.f cdv))) : PSs (cxOf CX0 P w K mg base N_is_integer "is_integer" (defScope s_is_integer) T.f_is_integer.f cdv A outer s H E).nox (defBody s_is_integer) (t_is_integer K T.C T.R) :=
  have nd := sc_is_integer.nd
  (pss_one (ps_ret (pe_and (pe_callB call_isi rfl T.b_isinstance boot_isinstance (pa_cons (pv 0) (pa_cons (pe_bltn rfl T.b_int boot_int rfl) pa_nil))) (pe_one (pe_not (pe_callB call_isi rfl T.b_isinstance boot_isinstance (pa_cons (pv 0) (pa_cons (pe_bltn rfl T.b_bool boot_bool rfl) pa_nil))))))))
theorem ok_is_integer (T : Fx K mg) : FnOk P w K mg base CX0 1 T.f_is_integer.f T.f_is_integer.fd ["value"] (sp_is_integer T.C) :=
  T.f_is_integer.F.ok sc_is_integer (fun vs H Q E ⟨A, x, _, r, _⟩ => by rw [r.length]; rfl) fun cdv A outer s H vs Q E hr h => ⟨t_is_integer K T.C T.R, PSs.nox (d_is_integer T hr), run_P K h fun W k x hC hK hp => by subst hK; rw [← hC]; exact sd_is_integer W k T.R x hp⟩
end
/-! ### common_divisor -/
abbrev sp_common_divisor (C : Addr) : Sp := spP C (G := List Int) (fun l => [inD l]) (fun l => l.length ≤ 1000) (fun l d => d = .int (gcdL l 0))

abbrev N_common_divisor : List Str := ["numbers", "found", "item"]
def t_common_divisor (K : PySem.W.Frag) (C R : Addr) : TS := (tSeq (tAsg (tC (.int 0)) (gName 1))
  (tSeq (tFor (iTup K (tVar 0)) (gName 2) (tAsg (tCall (sp_divisor_of C) [] E0 (tCons (tVar 1) (tCons (tVar 2) tNil))) (gName 1)))
  (tRet (tVar 1))))
theorem sd_common_divisor (W : Wd) (k : W.Ok) (R : Addr) (x : List Int) (hp : x.length ≤ 1000) : Sd W (t_common_divisor W.K W.C R) (startD N_common_divisor.length [inD x]) { rt := fun d => d = .int (gcdL x 0), nx := fun _ => Dt.non = .int (gcdL x 0) } := by
  refine sq_asgE ed_int (of_decide_eq_true rfl) ?_
  refine sq_for k (yg_tup (ed_var rfl)) (fun i δ => ∃ it, δ = [some (.sh (inD x)), some (.sh (.int (gcdL (x.take i) 0 : Nat))), it]) ⟨_, rfl⟩ ?_ ?_
  · rintro i d δ' hd ⟨it, rfl⟩
    obtain ⟨y, hy, rfl⟩ := int_at hd
    refine ⟨_, _, tg_name (of_decide_eq_true rfl), ?_⟩
    refine sd_asg (ed_call ((gcdL (x.take i) 0 : Nat), y) k (ea_cons (ed_var rfl) (ea_cons (ed_var rfl) ea_nil)) trivial fun d e => e) (of_decide_eq_true rfl) fun d e => ?_
    subst e
    exact ⟨_, by rw [gcdL_take hy]; rfl⟩
  · rintro δ' ⟨it, rfl⟩
    refine sd_ret (Ed.er (ed_var rfl) ?_)
    simp

theorem sc_common_divisor : FnScope N_common_divisor ["numbers"] (defScope s_common_divisor) := ⟨rfl, rfl, rfl, by decide +kernel, rfl, by decide +kernel, by decide +kernel⟩
section
variable {P : Program} {w : World} {K : PySem.W.Frag} {mg : Str → Option Value} {base : Heap}
theorem b_common_divisor (T : Fx K mg) : Binds K T.f_common_divisor.fd ["numbers"] [] := T.f_common_divisor.F.bindsN fun _ _ _ _ _ _ us hl => match us, hl with | [_], _ => rfl
theorem d_common_divisor (T : Fx K mg) {cdv : Value} {A : Around} {outer : List Env} {s : Shared} {H : Hp} {E : XK} (hr : Room 1 (A.deeper (envOfC "common_divisor" (defScope s_common_divisor) s.heap.objs.size T.f_common_divisor.f cdv))) : PSs (cxOf CX0 P w K mg base N_common_divisor "common_divisor" (defScope s_common_divisor) T.f_common_divisor.f cdv A outer s H E).nox (defBody s_common_divisor) (t_common_divisor K T.C T.R) :=
  have nd := sc_common_divisor.nd
  (pss_cons (ps_set (i := 1) nd rfl (by first | exact Or.inl rfl | exact Or.inr rfl) pe_int)
  (pss_cons (ps_for PassesOwn.never rfl (pi_tup (pv 0)) (pg_name (i := 2) nd rfl (by first | exact Or.inl rfl | exact Or.inr rfl)) (pss_one (ps_set (i := 1) nd rfl (by first | exact Or.inl rfl | exact Or.inr rfl) (pe_call (ok_divisor_of T) (hr.mono (by decide)) rfl T.f_divisor_of.g T.f_divisor_of.F.kp (b_divisor_of T) .nil pass0 (pa_cons (pv 1) (pa_cons (pv 2) pa_nil))))))
  (pss_one (ps_ret (pv 1)))))
theorem ok_common_divisor (T : Fx K mg) : FnOk P w K mg base CX0 2 T.f_common_divisor.f T.f_common_divisor.fd ["numbers"] (sp_common_divisor T.C) :=
  T.f_common_divisor.F.ok sc_common_divisor (fun vs H Q E ⟨A, x, _, r, _⟩ => by rw [r.length]; rfl) fun cdv A outer s H vs Q E hr h => ⟨t_common_divisor K T.C T.R, PSs.nox (d_common_divisor T hr), run_P K h fun W k x hC hK hp => by subst hK; rw [← hC]; exact sd_common_divisor W k T.R x hp⟩
end
/-! ### fraction_of -/
abbrev sp_fraction_of (C : Addr) : Sp := spP C (G := Int × Int) (fun x => [.int x.1, .int x.2]) (fun x => 0 < x.2 ∧ x.2.natAbs < 2 ^ 8000) (fun x d => d = frD (x.1 / (Int.gcd x.1 x.2 : Nat)) (x.2 / (Int.gcd x.1 x.2 : Nat)))

abbrev N_fraction_of : List Str := ["top", "bottom", "factor"]
def t_fraction_of (K : PySem.W.Frag) (C R : Addr) : TS := (tSeq (tIfS (tTest (tOp rEq (tVar 1) (tC (.int 0)))) tNever tNext)
  (tSeq (tAsg (tCall (sp_divisor_of C) [] E0 (tCons (tVar 0) (tCons (tVar 1) tNil))) (gName 2))
  (tSeq (tIfS (tTest (tOp rLtI (tVar 1) (tC (.int 0)))) (tAsg (tUn rNeg (tVar 2)) (gName 2)) tNext)
  (tRet (tTup (tCons (tOp rFdiv (tVar 0) (tVar 2)) (tCons (tOp rFdiv (tVar 1) (tVar 2)) tNil)))))))
theorem sd_fraction_of (W : Wd) (k : W.Ok) (R : Addr) (x : Int × Int) (hp : 0 < x.2 ∧ x.2.natAbs < 2 ^ 8000) : Sd W (t_fraction_of W.K W.C R) (startD N_fraction_of.length [.int x.1, .int x.2]) { rt := fun d => d = frD (x.1 / (Int.gcd x.1 x.2 : Nat)) (x.2 / (Int.gcd x.1 x.2 : Nat)), nx := fun _ => Dt.non = frD (x.1 / (Int.gcd x.1 x.2 : Nat)) (x.2 / (Int.gcd x.1 x.2 : Nat)) } := by
  obtain ⟨h0, h1⟩ := hp
  have g0 : 0 < Int.gcd x.1 x.2 := Nat.pos_of_ne_zero fun z => by rw [Int.gcd_eq_zero_iff] at z; omega
  have g1 : Int.gcd x.1 x.2 < 2 ^ 8000 := gcd_lt (by omega) h1
  have dk : ∀ a : Int, CDivW a (Int.gcd x.1 x.2 : Nat) := fun a => div_ok (n := 8000) (by omega) (by simpa using g1) (by decide)
  refine sq_if (b := false) ((et_test (ed_op (ed_var rfl) ed_int od_eqI)).to (decide_eq_false (by omega))) (fun h => by cases h) fun _ => sq_next ?_
  refine sq_asgE (ed_call (x.1, x.2) k (ea_cons (ed_var rfl) (ea_cons (ed_var rfl) ea_nil)) trivial fun d e => e) (of_decide_eq_true rfl) ?_
  refine sq_if (b := false) ((et_test (ed_op (ed_var rfl) ed_int od_B0)).to (decide_eq_false (by omega))) (fun h => by cases h) fun _ => sq_next ?_
  exact sd_ret (Ed.er (ed_tup k (ea_cons (ed_op (ed_var rfl) (ed_var rfl) (od_I (dk _))) (ea_cons (ed_op (ed_var rfl) (ed_var rfl) (od_I (dk _))) ea_nil)) (by simp)) rfl)

theorem sc_fraction_of : FnScope N_fraction_of ["top", "bottom"] (defScope s_fraction_of) := ⟨rfl, rfl, rfl, by decide +kernel, rfl, by decide +kernel, by decide +kernel⟩
section
variable {P : Program} {w : World} {K : PySem.W.Frag} {mg : Str → Option Value} {base : Heap}
theorem b_fraction_of (T : Fx K mg) : Binds K T.f_fraction_of.fd ["top", "bottom"] [] := T.f_fraction_of.F.bindsN fun _ _ _ _ _ _ us hl => match us, hl with | [_, _], _ => rfl
theorem d_fraction_of (T : Fx K mg) {cdv : Value} {A : Around} {outer : List Env} {s : Shared} {H : Hp} {E : XK} (hr : Room 1 (A.deeper (envOfC "fraction_of" (defScope s_fraction_of) s.heap.objs.size T.f_fraction_of.f cdv))) : PSs (cxOf CX0 P w K mg base N_fraction_of "fraction_of" (defScope s_fraction_of) T.f_fraction_of.f cdv A outer s H E).nox (defBody s_fraction_of) (t_fraction_of K T.C T.R) :=
  have nd := sc_fraction_of.nd
  (pss_cons (ps_if (pt_cmpR op_eq (pv 1) pe_int (nomark _)) (pss_one ps_never) pss_nil)
  (pss_cons (ps_set (i := 2) nd rfl (by first | exact Or.inl rfl | exact Or.inr rfl) (pe_call (ok_divisor_of T) (hr.mono (by decide)) rfl T.f_divisor_of.g T.f_divisor_of.F.kp (b_divisor_of T) .nil pass0 (pa_cons (pv 0) (pa_cons (pv 1) pa_nil))))
  (pss_cons (ps_if (pt_cmpR op_lt (pv 1) pe_int (nomark _)) (pss_one (ps_set (i := 2) nd rfl (by first | exact Or.inl rfl | exact Or.inr rfl) (pe_un un_neg (pv 2)))) pss_nil)
  (pss_one (ps_ret (pe_tup (pa_cons (pe_op op_fdivW (pv 0) (pv 2)) (pa_cons (pe_op op_fdivW (pv 1) (pv 2)) pa_nil))))))))
theorem ok_fraction_of (T : Fx K mg) : FnOk P w K mg base CX0 2 T.f_fraction_of.f T.f_fraction_of.fd ["top", "bottom"] (sp_fraction_of T.C) :=
  T.f_fraction_of.F.ok sc_fraction_of (fun vs H Q E ⟨A, x, _, r, _⟩ => by rw [r.length]; rfl) fun cdv A outer s H vs Q E hr h => ⟨t_fraction_of K T.C T.R, PSs.nox (d_fraction_of T hr), run_P K h fun W k x hC hK hp => by subst hK; rw [← hC]; exact sd_fraction_of W k T.R x hp⟩
end
/-! ### _law_low -/
abbrev sp__law_low (C : Addr) : Sp := spP C (G := Int × Int) (fun x => [.int x.1, .int x.2]) (fun x => 0 < x.2 ∧ x.2.natAbs < 2 ^ 8000) (fun x d => d = frD (x.1 / (Int.gcd x.1 x.2 : Nat)) (x.2 / (Int.gcd x.1 x.2 : Nat)))

abbrev N__law_low : List Str := ["_law_top", "_law_bottom", "_law_factor_here"]
def t__law_low (K : PySem.W.Frag) (C R : Addr) : TS := (tSeq (tAsg (tCall (sp__law_factor C) [] E0 (tCons (tVar 0) (tCons (tVar 1) tNil))) (gName 2))
  (tRet (tTup (tCons (tOp rFdiv (tVar 0) (tVar 2)) (tCons (tOp rFdiv (tVar 1) (tVar 2)) tNil)))))
theorem sd__law_low (W : Wd) (k : W.Ok) (R : Addr) (x : Int × Int) (hp : 0 < x.2 ∧ x.2.natAbs < 2 ^ 8000) : Sd W (t__law_low W.K W.C R) (startD N__law_low.length [.int x.1, .int x.2]) { rt := fun d => d = frD (x.1 / (Int.gcd x.1 x.2 : Nat)) (x.2 / (Int.gcd x.1 x.2 : Nat)), nx := fun _ => Dt.non = frD (x.1 / (Int.gcd x.1 x.2 : Nat)) (x.2 / (Int.gcd x.1 x.2 : Nat)) } := by
  obtain ⟨h0, h1⟩ := hp
  have g0 : 0 < Int.gcd x.1 x.2 := Nat.pos_of_ne_zero fun z => by rw [Int.gcd_eq_zero_iff] at z; omega
  have g1 : Int.gcd x.1 x.2 < 2 ^ 8000 := gcd_lt (by omega) h1
  have dk : ∀ a : Int, CDivW a (Int.gcd x.1 x.2 : Nat) := fun a => div_ok (n := 8000) (by omega) (by simpa using g1) (by decide)
  refine sq_asgE (ed_call (x.1, x.2) k (ea_cons (ed_var rfl) (ea_cons (ed_var rfl) ea_nil)) trivial fun d e => e) (of_decide_eq_true rfl) ?_
  exact sd_ret (Ed.er (ed_tup k (ea_cons (ed_op (ed_var rfl) (ed_var rfl) (od_I (dk _))) (ea_cons (ed_op (ed_var rfl) (ed_var rfl) (od_I (dk _))) ea_nil)) (by simp)) rfl)

theorem sc__law_low : FnScope N__law_low ["_law_top", "_law_bottom"] (defScope s__law_low) := ⟨rfl, rfl, rfl, by decide +kernel, rfl, by decide +kernel, by decide +kernel⟩
section
variable {P : Program} {w : World} {K : PySem.W.Frag} {mg : Str → Option Value} {base : Heap}
theorem b__law_low (T : Fx K mg) : Binds K T.f__law_low.fd ["_law_top", "_law_bottom"] [] := T.f__law_low.F.bindsN fun _ _ _ _ _ _ us hl => match us, hl with | [_, _], _ => rfl
theorem d__law_low (T : Fx K mg) {cdv : Value} {A : Around} {outer : List Env} {s : Shared} {H : Hp} {E : XK} (hr : Room 1 (A.deeper (envOfC "_law_low" (defScope s__law_low) s.heap.objs.size T.f__law_low.f cdv))) : PSs (cxOf CX0 P w K mg base N__law_low "_law_low" (defScope s__law_low) T.f__law_low.f cdv A outer s H E).nox (defBody s__law_low) (t__law_low K T.C T.R) :=
  have nd := sc__law_low.nd
  (pss_cons (ps_set (i := 2) nd rfl (by first | exact Or.inl rfl | exact Or.inr rfl) (pe_call (ok__law_factor T) (hr.mono (by decide)) rfl T.f__law_factor.g T.f__law_factor.F.kp (b__law_factor T) .nil pass0 (pa_cons (pv 0) (pa_cons (pv 1) pa_nil))))
  (pss_one (ps_ret (pe_tup (pa_cons (pe_op op_fdivW (pv 0) (pv 2)) (pa_cons (pe_op op_fdivW (pv 1) (pv 2)) pa_nil))))))
theorem ok__law_low (T : Fx K mg) : FnOk P w K mg base CX0 2 T.f__law_low.f T.f__law_low.fd ["_law_top", "_law_bottom"] (sp__law_low T.C) :=
  T.f__law_low.F.ok sc__law_low (fun vs H Q E ⟨A, x, _, r, _⟩ => by rw [r.length]; rfl) fun cdv A outer s H vs Q E hr h => ⟨t__law_low K T.C T.R, PSs.nox (d__law_low T hr), run_P K h fun W k x hC hK hp => by subst hK; rw [← hC]; exact sd__law_low W k T.R x hp⟩
end
/-! ### least_form -/
/-- the least form of a sum: None, or the row -/
def leastD (l : List Int) (b : Int) : Dt := if l.all (fun x => decide (x = 0)) then .non else rowD (l.map fun x => x / (gcdL l b.natAbs : Nat)) (b / (gcdL l b.natAbs : Nat))
abbrev sp_least_form (C : Addr) : Sp := spP C (G := List Int × Int) (fun x => [inD x.1, .int x.2]) (fun x => x.1.length ≤ 900 ∧ Bd 1000 x.1) (fun x d => d = leastD x.1 x.2)

abbrev N_least_form : List Str := ["coefficients", "bound", "item", "factor"]
def t_least_form (K : PySem.W.Frag) (C R : Addr) : TS := (tSeq (tIfS (tB (tCB (rAll K) (tCons (tLc (iTup K (tVar 0)) (gName 2) tYes (tOp rEq (tVar 2) (tC (.int 0))) [2]) tNil))) (tRet (tC .non)) tNext)
  (tSeq (tAsg (tCall (sp_common_divisor C) [] E0 (tCons (tOp (rCatA K) (tCB (rTuple K) (tCons (tVar 0) tNil)) (tTup (tCons (tVar 1) tNil))) tNil)) (gName 3))
  (tRet (tTup (tCons (tCB (rTuple K) (tCons (tLc (iTup K (tVar 0)) (gName 2) tYes (tOp rFdiv (tVar 2) (tVar 3)) [2]) tNil)) (tCons (tOp rFdiv (tVar 1) (tVar 3)) tNil))))))
theorem sd_least_form (W : Wd) (k : W.Ok) (R : Addr) (x : List Int × Int) (hp : x.1.length ≤ 900 ∧ Bd 1000 x.1) : Sd W (t_least_form W.K W.C R) (startD N_least_form.length [inD x.1, .int x.2]) { rt := fun d => d = leastD x.1 x.2, nx := fun _ => Dt.non = leastD x.1 x.2 } := by
  obtain ⟨l, b⟩ := x
  obtain ⟨hl, hb⟩ := hp
  simp only at hl hb ⊢
  refine sq_if (b := l.all fun x => decide (x = 0)) (et_B (ed_allLc l Dt.int _ k (YlG.yl (yg_tup (ed_var rfl))) (by omega) fun x hx => ⟨_, _, tg_name (of_decide_eq_true rfl), by simp, ed_op (ed_var rfl) ed_int od_eqI⟩)) (fun h => ?_) (fun h => ?_)
  · refine sd_seq (M := fun _ => False) (sd_ret (Ed.er ed_non ?_)) fun _ z => z.elim
    unfold leastD
    rw [if_pos h]
  · refine sq_next ?_
    obtain ⟨x, hx, h0⟩ : ∃ x ∈ l, x ≠ 0 := by
      rw [List.all_eq_false] at h
      obtain ⟨x, hx, h⟩ := h
      exact ⟨x, hx, by simpa using h⟩
    have g0 : 0 < gcdL l b.natAbs := gcdL_pos (.inr ⟨x, hx, h0⟩)
    have g1 : gcdL l b.natAbs < 2 ^ 1000 := gcdL_lt hx h0 (hb x hx)
    have dk : ∀ a : Int, CDivW a (gcdL l b.natAbs : Nat) := fun a => div_ok (n := 1000) (by omega) (by simpa using g1) (by decide)
    refine sq_asgE (ed_call (z := .int (gcdL l b.natAbs : Nat)) (l ++ [b]) k (ea_cons ((ed_op (ed_cb (ea_cons (ed_var rfl) ea_nil) cd_tupleT) (ed_tup k (ea_cons (ed_var rfl) ea_nil) (by simp)) (od_catA k (by simp; omega))).to (by simp)) ea_nil) (by simp; omega) (fun d e => by rw [e, gcdL_comm])) (of_decide_eq_true rfl) ?_
    refine sd_ret (Ed.er (ed_tup k (ea_cons (ed_tupleF k (ef_lcAll l Dt.int (fun x => .int (x / (gcdL l b.natAbs : Nat))) k (YlG.yl (yg_tup (ed_var rfl))) (by omega) fun x hx => ⟨_, _, tg_name (of_decide_eq_true rfl), by simp, ed_op (ed_var rfl) (ed_var rfl) (od_I (dk _))⟩)) (ea_cons (ed_op (ed_var rfl) (ed_var rfl) (od_I (dk _))) ea_nil)) (by simp)) ?_)
    unfold leastD
    rw [if_neg (by simp [h])]
    simp only [rowD, inD, List.map_map, Function.comp_def]

theorem sc_least_form : FnScope N_least_form ["coefficients", "bound"] (defScope s_least_form) := ⟨rfl, rfl, rfl, by decide +kernel, rfl, by decide +kernel, by decide +kernel⟩
section
variable {P : Program} {w : World} {K : PySem.W.Frag} {mg : Str → Option Value} {base : Heap}
theorem b_least_form (T : Fx K mg) : Binds K T.f_least_form.fd ["coefficients", "bound"] [] := T.f_least_form.F.bindsN fun _ _ _ _ _ _ us hl => match us, hl with | [_, _], _ => rfl
theorem d_least_form (T : Fx K mg) {cdv : Value} {A : Around} {outer : List Env} {s : Shared} {H : Hp} {E : XK} (hr : Room 2 (A.deeper (envOfC "least_form" (defScope s_least_form) s.heap.objs.size T.f_least_form.f cdv))) : PSs (cxOf CX0 P w K mg base N_least_form "least_form" (defScope s_least_form) T.f_least_form.f cdv A outer s H E).nox (defBody s_least_form) (t_least_form K T.C T.R) :=
  have nd := sc_least_form.nd
  (pss_cons (ps_if (pt_val (pe_callB (cr_all rfl) rfl T.b_all boot_all (pa_cons (pe_lc (own := [("item", 2)]) (g := (gName 2)) (tt := tYes) rfl nd (pi_tup (pv 0)) (blkOk_by (by kernel_rfl)) (fun _ _ _ _ _ => (pg_name (i := 2) nd rfl (by first | exact Or.inl rfl | exact Or.inr rfl))) (fun _ _ _ _ _ => pts_nil) (fun _ _ _ _ _ => (pe_cmpR op_eq (pv 2) pe_int (nomark _)))) pa_nil))) (pss_one (ps_ret pe_non)) pss_nil)
  (pss_cons (ps_set (i := 3) nd rfl (by first | exact Or.inl rfl | exact Or.inr rfl) (pe_call (ok_common_divisor T) (hr.mono (by decide)) rfl T.f_common_divisor.g T.f_common_divisor.F.kp (b_common_divisor T) .nil pass0 (pa_cons (pe_op op_catA (pe_callTy call_tuple_of rfl T.b_tuple boot_tuple (pa_cons (pv 0) pa_nil)) (pe_tup (pa_cons (pv 1) pa_nil))) pa_nil)))
  (pss_one (ps_ret (pe_tup (pa_cons (pe_callTy call_tuple_of rfl T.b_tuple boot_tuple (pa_cons (pe_lc (own := [("item", 2)]) (g := (gName 2)) (tt := tYes) rfl nd (pi_tup (pv 0)) (blkOk_by (by kernel_rfl)) (fun _ _ _ _ _ => (pg_name (i := 2) nd rfl (by first | exact Or.inl rfl | exact Or.inr rfl))) (fun _ _ _ _ _ => pts_nil) (fun _ _ _ _ _ => (pe_op op_fdivW (pv 2) (pv 3)))) pa_nil)) (pa_cons (pe_op op_fdivW (pv 1) (pv 3)) pa_nil)))))))
theorem ok_least_form (T : Fx K mg) : FnOk P w K mg base CX0 3 T.f_least_form.f T.f_least_form.fd ["coefficients", "bound"] (sp_least_form T.C) :=
  T.f_least_form.F.ok sc_least_form (fun vs H Q E ⟨A, x, _, r, _⟩ => by rw [r.length]; rfl) fun cdv A outer s H vs Q E hr h => ⟨t_least_form K T.C T.R, PSs.nox (d_least_form T hr), run_P K h fun W k x hC hK hp => by subst hK; rw [← hC]; exact sd_least_form W k T.R x hp⟩
end
/-! ### _law_least -/
abbrev sp__law_least (C : Addr) : Sp := spP C (G := List Int × Int) (fun x => [.lst (x.1.map Dt.int), .int x.2]) (fun x => x.1.length ≤ 900 ∧ Bd 1000 x.1 ∧ ∃ y ∈ x.1, y ≠ 0) (fun x d => d = rowD (x.1.map fun y => y / (gcdL x.1 x.2.natAbs : Nat)) (x.2 / (gcdL x.1 x.2.natAbs : Nat)))

abbrev N__law_least : List Str := ["_law_parts", "_law_bound", "_law_factor_here", "_law_part"]
def t__law_least (K : PySem.W.Frag) (C R : Addr) : TS := (tSeq (tAsg (tCB rAbs (tCons (tVar 1) tNil)) (gName 2))
  (tSeq (tFor (iList K (tVar 0)) (gName 3) (tAsg (tCall (sp__law_factor C) [] E0 (tCons (tVar 2) (tCons (tVar 3) tNil))) (gName 2)))
  (tRet (tTup (tCons (tCB (rTuple K) (tCons (tLc (iList K (tVar 0)) (gName 3) tYes (tOp rFdiv (tVar 3) (tVar 2)) [3]) tNil)) (tCons (tOp rFdiv (tVar 1) (tVar 2)) tNil))))))
theorem sd__law_least (W : Wd) (k : W.Ok) (R : Addr) (x : List Int × Int) (hp : x.1.length ≤ 900 ∧ Bd 1000 x.1 ∧ ∃ y ∈ x.1, y ≠ 0) : Sd W (t__law_least W.K W.C R) (startD N__law_least.length [.lst (x.1.map Dt.int), .int x.2])
    { rt := fun d => d = rowD (x.1.map fun y => y / (gcdL x.1 x.2.natAbs : Nat)) (x.2 / (gcdL x.1 x.2.natAbs : Nat)), nx := fun _ => Dt.non = rowD (x.1.map fun y => y / (gcdL x.1 x.2.natAbs : Nat)) (x.2 / (gcdL x.1 x.2.natAbs : Nat)) } := by
  obtain ⟨l, b⟩ := x
  obtain ⟨hl, hb, x, hx, h0⟩ := hp
  simp only at hl hb hx ⊢
  have g0 : 0 < gcdL l b.natAbs := gcdL_pos (.inr ⟨x, hx, h0⟩)
  have g1 : gcdL l b.natAbs < 2 ^ 1000 := gcdL_lt hx h0 (hb x hx)
  have dk : ∀ a : Int, CDivW a (gcdL l b.natAbs : Nat) := fun a => div_ok (n := 1000) (by omega) (by simpa using g1) (by decide)
  refine sq_asgE (ed_cb (ea_cons (ed_var rfl) ea_nil) cd_abs) (of_decide_eq_true rfl) ?_
  refine sq_for k (yg_list (ed_var rfl)) (fun i δ => ∃ it, δ = [some (.sh (.lst (l.map Dt.int))), some (.sh (.int b)), some (.sh (.int (gcdL (l.take i) b.natAbs : Nat))), it]) ⟨_, rfl⟩ ?_ ?_
  · rintro i d δ' hd ⟨it, rfl⟩
    obtain ⟨y, hy, rfl⟩ := int_at hd
    refine ⟨_, _, tg_name (of_decide_eq_true rfl), ?_⟩
    refine sd_asg (ed_call ((gcdL (l.take i) b.natAbs : Nat), y) k (ea_cons (ed_var rfl) (ea_cons (ed_var rfl) ea_nil)) trivial fun d e => e) (of_decide_eq_true rfl) fun d e => ?_
    subst e
    exact ⟨_, by rw [gcdL_take hy]; rfl⟩
  · rintro δ' ⟨it, rfl⟩
    rw [List.length_map, List.take_length]
    refine sd_ret (Ed.er (ed_tup k (ea_cons (ed_tupleF k (ef_lcAll l Dt.int (fun x => .int (x / (gcdL l b.natAbs : Nat))) k (YlG.yl (yg_list (ed_var rfl))) (by omega) fun x hx => ⟨_, _, tg_name (of_decide_eq_true rfl), by simp, ed_op (ed_var rfl) (ed_var rfl) (od_I (dk _))⟩)) (ea_cons (ed_op (ed_var rfl) (ed_var rfl) (od_I (dk _))) ea_nil)) (by simp)) ?_)
    simp only [rowD, inD, List.map_map, Function.comp_def]

theorem sc__law_least : FnScope N__law_least ["_law_parts", "_law_bound"] (defScope s__law_least) := ⟨rfl, rfl, rfl, by decide +kernel, rfl, by decide +kernel, by decide +kernel⟩
section
variable {P : Program} {w : World} {K : PySem.W.Frag} {mg : Str → Option Value} {base : Heap}
theorem b__law_least (T : Fx K mg) : Binds K T.f__law_least.fd ["_law_parts", "_law_bound"] [] := T.f__law_least.F.bindsN fun _ _ _ _ _ _ us hl => match us, hl with | [_, _], _ => rfl
theorem d__law_least (T : Fx K mg) {cdv : Value} {A : Around} {outer : List Env} {s : Shared} {H : Hp} {E : XK} (hr : Room 1 (A.deeper (envOfC "_law_least" (defScope s__law_least) s.heap.objs.size T.f__law_least.f cdv))) : PSs (cxOf CX0 P w K mg base N__law_least "_law_least" (defScope s__law_least) T.f__law_least.f cdv A outer s H E).nox (defBody s__law_least) (t__law_least K T.C T.R) :=
  have nd := sc__law_least.nd
  (pss_cons (ps_set (i := 2) nd rfl (by first | exact Or.inl rfl | exact Or.inr rfl) (pe_callB o_abs rfl T.b_abs boot_abs (pa_cons (pv 1) pa_nil)))
  (pss_cons (ps_for PassesOwn.never rfl (pi_list (pv 0)) (pg_name (i := 3) nd rfl (by first | exact Or.inl rfl | exact Or.inr rfl)) (pss_one (ps_set (i := 2) nd rfl (by first | exact Or.inl rfl | exact Or.inr rfl) (pe_call (ok__law_factor T) (hr.mono (by decide)) rfl T.f__law_factor.g T.f__law_factor.F.kp (b__law_factor T) .nil pass0 (pa_cons (pv 2) (pa_cons (pv 3) pa_nil))))))
  (pss_one (ps_ret (pe_tup (pa_cons (pe_callTy call_tuple_of rfl T.b_tuple boot_tuple (pa_cons (pe_lc (own := [("_law_part", 3)]) (g := (gName 3)) (tt := tYes) rfl nd (pi_list (pv 0)) (blkOk_by (by kernel_rfl)) (fun _ _ _ _ _ => (pg_name (i := 3) nd rfl (by first | exact Or.inl rfl | exact Or.inr rfl))) (fun _ _ _ _ _ => pts_nil) (fun _ _ _ _ _ => (pe_op op_fdivW (pv 3) (pv 2)))) pa_nil)) (pa_cons (pe_op op_fdivW (pv 1) (pv 2)) pa_nil)))))))
theorem ok__law_least (T : Fx K mg) : FnOk P w K mg base CX0 2 T.f__law_least.f T.f__law_least.fd ["_law_parts", "_law_bound"] (sp__law_least T.C) :=
  T.f__law_least.F.ok sc__law_least (fun vs H Q E ⟨A, x, _, r, _⟩ => by rw [r.length]; rfl) fun cdv A outer s H vs Q E hr h => ⟨t__law_least K T.C T.R, PSs.nox (d__law_least T hr), run_P K h fun W k x hC hK hp => by subst hK; rw [← hC]; exact sd__law_least W k T.R x hp⟩
end
end DL
namespace DL
open PySem PySem.Spec PyProof.Rows L2 Hd
/-! ### is_name -/
abbrev sp_is_name (C : Addr) : Sp := spP C (G := Str) (fun s => [.str s]) nameOk (fun _ d => d = .bl true)

abbrev N_is_name : List Str := ["value", "sign"]
def t_is_name (K : PySem.W.Frag) (C R : Addr) : TS := (tSeq (tIfS (tOr (tNot (tB (tCB (rIsi K) (tCons (tVar 0) (tCons (tC (.ty "str")) tNil))))) (tNot (tTest (tChain rLeI rLeI (tC (.int 1)) (tCB (rLen K) (tCons (tVar 0) tNil)) (tC (.int 5)))))) (tRet (tC (.bl false))) tNext)
  (tRet (tCB (rAll K) (tCons (tLc (iStr (tVar 0)) (gName 1) tYes (tOp rInSg (tVar 1) (tC (.str "abcdefghijklmnopqrstuvwxyz"))) [1]) tNil))))
theorem sd_is_name (W : Wd) (k : W.Ok) (R : Addr) (x : Str) (hp : nameOk x) : Sd W (t_is_name W.K W.C R) (startD N_is_name.length [.str x]) { rt := fun d => d = .bl true, nx := fun _ => Dt.non = .bl true } := by
  obtain ⟨h1, h5, hc⟩ := hp
  have e1 : decide ((1 : Int) ≤ (x.length : Int)) = true := decide_eq_true (by omega)
  have e2 : decide ((x.length : Int) ≤ 5) = true := decide_eq_true (by omega)
  refine sq_if (b := false) (et_or (a := false) (b := false) (et_not (et_B (ed_isi (ed_var rfl) rfl kit_ss))) fun h => et_not (a := true) (et_test (ed_chain (d1 := .bl true) (b1 := true) ed_int (ed_cb (ea_cons (ed_var rfl) ea_nil) (cd_lenS (Nat.le_trans h5 (by decide)))) (by rw [← e1]; exact od_B0) (fun _ => ed_int) (fun _ => by rw [← e2]; exact od_B0) fun h => by cases h))) (fun h => by cases h) fun _ => sq_next ?_
  refine sd_ret (Ed.er (ed_allLc x.cps.toList (fun c => .str ⟨#[c]⟩) _ k (YlG.yl (yg_str (ed_var rfl))) (by rw [Array.length_toList]; exact Nat.le_trans h5 (by decide)) fun c hx => ⟨_, _, tg_name (of_decide_eq_true rfl), by simp, ed_op (ed_var rfl) ed_str od_inSg⟩) ?_)
  rw [List.all_eq_true.mpr]
  intro c h
  exact decide_eq_true (hc c h)

theorem sc_is_name : FnScope N_is_name ["value"] (defScope s_is_name) := ⟨rfl, rfl, rfl, by decide +kernel, rfl, by decide +kernel, by decide +kernel⟩
section
variable {P : Program} {w : World} {K : PySem.W.Frag} {mg : Str → Option Value} {base : Heap}
theorem b_is_name (T : Fx K mg) : Binds K T.f_is_name.fd ["value"] [] := T.f_is_name.F.bindsN fun _ _ _ _ _ _ us hl => match us, hl with | [_], _ => rfl
theorem d_is_name (T : Fx K mg) {cdv : Value} {A : Around} {outer : List Env} {s : Shared} {H : Hp} {E : XK} (hr : Room 0 (A.deeper (envOfC "is_name" (defScope s_is_name) s.heap.objs.size T.f_is_name.f cdv))) : PSs (cxOf CX0 P w K mg base N_is_name "is_name" (defScope s_is_name) T.f_is_name.f cdv A outer s H E).nox (defBody s_is_name) (t_is_name K T.C T.R) :=
  have nd := sc_is_name.nd
  (pss_cons (ps_if (PW.pt (pw_or (pt_not (pt_val (pe_callB call_isi rfl T.b_isinstance boot_isinstance (pa_cons (pv 0) (pa_cons (pe_bltn rfl T.b_str boot_str rfl) pa_nil))))) (pw_or1 (pt_not (pt_chain op_le op_le pe_int (pe_callB call_len rfl T.b_len boot_len (pa_cons (pv 0) pa_nil)) (pe_glob rfl T.k_LONGEST_NAME ⟨_, rfl⟩)))))) (pss_one (ps_ret pe_bl)) pss_nil)
  (pss_one (ps_ret (pe_callB (cr_all rfl) rfl T.b_all boot_all (pa_cons (pe_lc (own := [("sign", 1)]) (g := (gName 1)) (tt := tYes) rfl nd (pi_str (pv 0)) (blkOk_by (by kernel_rfl)) (fun _ _ _ _ _ => (pg_name (i := 1) nd rfl (by first | exact Or.inl rfl | exact Or.inr rfl))) (fun _ _ _ _ _ => pts_nil) (fun _ _ _ _ _ => (pe_cmpR op_in_sign (pv 1) (pe_glob rfl T.k_LETTERS ⟨_, rfl⟩) rfl))) pa_nil)))))
theorem ok_is_name (T : Fx K mg) : FnOk P w K mg base CX0 1 T.f_is_name.f T.f_is_name.fd ["value"] (sp_is_name T.C) :=
  T.f_is_name.F.ok sc_is_name (fun vs H Q E ⟨A, x, _, r, _⟩ => by rw [r.length]; rfl) fun cdv A outer s H vs Q E hr h => ⟨t_is_name K T.C T.R, PSs.nox (d_is_name T hr), run_P K h fun W k x hC hK hp => by subst hK; rw [← hC]; exact sd_is_name W k T.R x hp⟩
end
/-! ### is_name_lot -/
abbrev sp_is_name_lot (C : Addr) : Sp := spP C (G := List Str) (fun s => [namesD s]) namesOk (fun _ d => d = .bl true)

abbrev N_is_name_lot : List Str := ["value", "item", "at"]
def t_is_name_lot (K : PySem.W.Frag) (C R : Addr) : TS := (tSeq (tIfS (tOr (tNot (tB (tCB (rIsi K) (tCons (tVar 0) (tCons (tC (.ty "tuple")) tNil))))) (tNot (tB (tCB (rAll K) (tCons (tLc (iTup K (tVar 0)) (gName 1) tYes (tCall (sp_is_name C) [] E0 (tCons (tVar 1) tNil)) [1]) tNil))))) (tRet (tC (.bl false))) tNext)
  (tRet (tCB (rAll K) (tCons (tLc (iRng1 (tCons (tOp rSub (tCB (rLen K) (tCons (tVar 0) tNil)) (tC (.int 1))) tNil)) (gName 2) tYes (tOp rLtS (tOp (rIxT K) (tVar 0) (tVar 2)) (tOp (rIxT K) (tVar 0) (tOp rAdd (tVar 2) (tC (.int 1))))) [2]) tNil))))
theorem sd_is_name_lot (W : Wd) (k : W.Ok) (R : Addr) (x : List Str) (hp : namesOk x) : Sd W (t_is_name_lot W.K W.C R) (startD N_is_name_lot.length [namesD x]) { rt := fun d => d = .bl true, nx := fun _ => Dt.non = .bl true } := by
  obtain ⟨h1, h6, hn, hs⟩ := hp
  have all1 : x.all (fun _ => true) = true := by simp
  refine sq_if (b := false) (et_or (a := false) (b := false) (et_not (et_B (ed_isi (ed_var rfl) rfl kit_tt))) fun h => et_not (a := true) (et_B ((ed_allLc x Dt.str (fun _ => true) k (YlG.yl (yg_tup (ed_var rfl))) (by omega) fun s hx => ⟨_, _, tg_name (of_decide_eq_true rfl), by simp, ed_call s k (ea_cons (ed_var rfl) ea_nil) (hn s hx) fun d e => e⟩).to (by rw [all1])))) (fun h => by cases h) fun _ => sq_next ?_
  refine sd_ret (Ed.er (ed_allLc (List.range (x.length - 1)) (fun i => .int (i : Nat)) (fun _ => true) k (YlG.yl ((yg_range1 (n := (x.length : Int) - 1) (ea_cons ((ed_op (ed_cb (ea_cons (ed_var rfl) ea_nil) cd_lenT) ed_int od_I0).to (by simp)) ea_nil) (by omega)).to (by rw [show ((x.length : Int) - 1).toNat = x.length - 1 by omega]))) (by simp; omega) fun i hi => ⟨_, _, tg_name (of_decide_eq_true rfl), by simp, ?_⟩) (by simp))
  have hi : i < x.length - 1 := List.mem_range.mp hi
  have a1 : x[i]? = some (x[i]'(by omega)) := List.getElem?_eq_getElem (by omega)
  have a2 : x[i + 1]? = some (x[i + 1]'(by omega)) := List.getElem?_eq_getElem (by omega)
  refine (ed_op (ed_op (ed_var rfl) (ed_var rfl) (od_ixT (d := .str (x[i]'(by omega))) (atI_nat' (by rw [List.getElem?_map, a1]; rfl)))) (ed_op (ed_var rfl) (ed_op (ed_var rfl) ed_int od_I0) (od_ixT (d := .str (x[i + 1]'(by omega))) ?_)) od_ltS).to ?_
  · exact atI_nat' (i := i + 1) (by rw [List.getElem?_map, a2]; rfl)
  · rw [decide_eq_true (hs i _ _ a1 a2)]

theorem sc_is_name_lot : FnScope N_is_name_lot ["value"] (defScope s_is_name_lot) := ⟨rfl, rfl, rfl, by decide +kernel, rfl, by decide +kernel, by decide +kernel⟩
section
variable {P : Program} {w : World} {K : PySem.W.Frag} {mg : Str → Option Value} {base : Heap}
theorem b_is_name_lot (T : Fx K mg) : Binds K T.f_is_name_lot.fd ["value"] [] := T.f_is_name_lot.F.bindsN fun _ _ _ _ _ _ us hl => match us, hl with | [_], _ => rfl
theorem d_is_name_lot (T : Fx K mg) {cdv : Value} {A : Around} {outer : List Env} {s : Shared} {H : Hp} {E : XK} (hr : Room 1 (A.deeper (envOfC "is_name_lot" (defScope s_is_name_lot) s.heap.objs.size T.f_is_name_lot.f cdv))) : PSs (cxOf CX0 P w K mg base N_is_name_lot "is_name_lot" (defScope s_is_name_lot) T.f_is_name_lot.f cdv A outer s H E).nox (defBody s_is_name_lot) (t_is_name_lot K T.C T.R) :=
  have nd := sc_is_name_lot.nd
  (pss_cons (ps_if (PW.pt (pw_or (pt_not (pt_val (pe_callB call_isi rfl T.b_isinstance boot_isinstance (pa_cons (pv 0) (pa_cons (pe_bltn rfl T.b_tuple boot_tuple rfl) pa_nil))))) (pw_or1 (pt_not (pt_val (pe_callB (cr_all rfl) rfl T.b_all boot_all (pa_cons (pe_lc (own := [("item", 1)]) (g := (gName 1)) (tt := tYes) rfl nd (pi_tup (pv 0)) (blkOk_by (by kernel_rfl)) (fun _ _ _ _ _ => (pg_name (i := 1) nd rfl (by first | exact Or.inl rfl | exact Or.inr rfl))) (fun _ _ _ _ _ => pts_nil) (fun _ _ _ _ _ => (pe_call (ok_is_name T) (hr.mono (by decide)) rfl T.f_is_name.g T.f_is_name.F.kp (b_is_name T) .nil pass0 (pa_cons (pv 1) pa_nil)))) pa_nil))))))) (pss_one (ps_ret pe_bl)) pss_nil)
  (pss_one (ps_ret (pe_callB (cr_all rfl) rfl T.b_all boot_all (pa_cons (pe_lc (own := [("at", 2)]) (g := (gName 2)) (tt := tYes) rfl nd (pi_range1 rfl T.b_range (pa_cons (pe_op op_sub (pe_callB call_len rfl T.b_len boot_len (pa_cons (pv 0) pa_nil)) pe_int) pa_nil)) (blkOk_by (by kernel_rfl)) (fun _ _ _ _ _ => (pg_name (i := 2) nd rfl (by first | exact Or.inl rfl | exact Or.inr rfl))) (fun _ _ _ _ _ => pts_nil) (fun _ _ _ _ _ => (pe_cmpR op_lt_str (pe_ix ix_tup (pv 0) (pv 2) (fun _ _ => rfl)) (pe_ix ix_tup (pv 0) (pe_op op_add (pv 2) pe_int) (fun _ _ => rfl)) (nomark _)))) pa_nil)))))
theorem ok_is_name_lot (T : Fx K mg) : FnOk P w K mg base CX0 2 T.f_is_name_lot.f T.f_is_name_lot.fd ["value"] (sp_is_name_lot T.C) :=
  T.f_is_name_lot.F.ok sc_is_name_lot (fun vs H Q E ⟨A, x, _, r, _⟩ => by rw [r.length]; rfl) fun cdv A outer s H vs Q E hr h => ⟨t_is_name_lot K T.C T.R, PSs.nox (d_is_name_lot T hr), run_P K h fun W k x hC hK hp => by subst hK; rw [← hC]; exact sd_is_name_lot W k T.R x hp⟩
end
/-! ### is_row -/
abbrev sp_is_row (C : Addr) : Sp := spP C (G := Nat × Row) (fun x => [rD x.2, .int x.1]) (fun x => rowOk x.1 x.2 ∧ x.1 ≤ 900) (fun _ d => d = .bl true)

abbrev N_is_row : List Str := ["value", "size", "item"]
def t_is_row (K : PySem.W.Frag) (C R : Addr) : TS := (tSeq (tIfS (tOr (tNot (tB (tCB (rIsi K) (tCons (tVar 0) (tCons (tC (.ty "tuple")) tNil))))) (tOr (tTest (tOp rNe (tCB (rLen K) (tCons (tVar 0) tNil)) (tC (.int 2)))) (tNot (tB (tCB (rIsi K) (tCons (tOp (rIxT K) (tVar 0) (tC (.int 0))) (tCons (tC (.ty "tuple")) tNil))))))) (tRet (tC (.bl false))) tNext)
  (tSeq (tIfS (tOr (tTest (tOp rNe (tCB (rLen K) (tCons (tOp (rIxT K) (tVar 0) (tC (.int 0))) tNil)) (tVar 1))) (tOr (tNot (tB (tCB (rAll K) (tCons (tLc (iTup K (tOp (rIxT K) (tVar 0) (tC (.int 0)))) (gName 2) tYes (tCall (sp_is_integer C) [] E0 (tCons (tVar 2) tNil)) [2]) tNil)))) (tNot (tB (tCall (sp_is_integer C) [] E0 (tCons (tOp (rIxT K) (tVar 0) (tC (.int 1))) tNil)))))) (tRet (tC (.bl false))) tNext)
  (tRet (tAndV (tCB (rAny K) (tCons (tLc (iTup K (tOp (rIxT K) (tVar 0) (tC (.int 0)))) (gName 2) tYes (tOp rNe (tVar 2) (tC (.int 0))) [2]) tNil)) (tOp rEq (tCall (sp_common_divisor C) [] E0 (tCons (tOp (rCatA K) (tOp (rIxT K) (tVar 0) (tC (.int 0))) (tTup (tCons (tOp (rIxT K) (tVar 0) (tC (.int 1))) tNil))) tNil)) (tC (.int 1)))))))
theorem sd_is_row (W : Wd) (k : W.Ok) (R : Addr) (x : Nat × Row) (hp : rowOk x.1 x.2 ∧ x.1 ≤ 900) : Sd W (t_is_row W.K W.C R) (startD N_is_row.length [rD x.2, .int x.1]) { rt := fun d => d = .bl true, nx := fun _ => Dt.non = .bl true } := by
  obtain ⟨n, p, b⟩ := x
  obtain ⟨⟨hl, ⟨y, hy, h0⟩, hg, hb⟩, hn⟩ := hp
  simp only at hl hy hg hb hn ⊢
  have all1 : p.all (fun _ => true) = true := by simp
  refine sq_if (b := false) (et_or (a := false) (b := false) (et_not (et_B (ed_isi (ed_var rfl) rfl kit_tt))) fun h => et_or (a := false) (b := false) ((et_test (ed_op (ed_cb (ea_cons (ed_var rfl) ea_nil) cd_lenT) ed_int od_neI)).to (by simp)) fun h => et_not (a := true) (et_B (ed_isi (ed_op (ed_var rfl) ed_int (od_ixT rfl)) rfl kit_tt))) (fun h => by cases h) fun _ => sq_next ?_
  refine sq_if (b := false) (et_or (a := false) (b := false) ((et_test (ed_op (ed_cb (ea_cons (ed_op (ed_var rfl) ed_int (od_ixT rfl)) ea_nil) cd_lenT) (ed_var rfl) od_neI)).to (by simp [hl])) fun h => et_or (a := false) (b := false) (et_not (a := true) (et_B ((ed_allLc p Dt.int (fun _ => true) k (YlG.yl (yg_tup (ed_op (ed_var rfl) ed_int (od_ixT rfl)))) (by omega) fun s hx => ⟨_, _, tg_name (of_decide_eq_true rfl), by simp, ed_call s k (ea_cons (ed_var rfl) ea_nil) trivial fun d e => e⟩).to (by rw [all1])))) fun h => et_not (a := true) (et_B (ed_call b k (ea_cons (ed_op (ed_var rfl) ed_int (od_ixT rfl)) ea_nil) trivial fun d e => e))) (fun h => by cases h) fun _ => sq_next ?_
  have an : p.any (fun z => !decide (z = 0)) = true := List.any_eq_true.mpr ⟨y, hy, by simp [h0]⟩
  refine sd_ret (Ed.er (ed_andB (a := true) (b := true) ((ed_anyLc p Dt.int _ k (YlG.yl (yg_tup (ed_op (ed_var rfl) ed_int (od_ixT rfl)))) (by omega) fun s hx => ⟨_, _, tg_name (of_decide_eq_true rfl), by simp, ed_op (ed_var rfl) ed_int od_neI⟩).to (by rw [an])) fun h => (ed_op (ed_call (p ++ [b]) k (ea_cons ((ed_op (ed_op (ed_var rfl) ed_int (od_ixT rfl)) (ed_tup k (ea_cons (ed_op (ed_var rfl) ed_int (od_ixT rfl)) ea_nil) (by simp)) (od_catA k (by simp; omega))).to (by simp)) ea_nil) (by simp; omega) (fun d e => e)) ed_int od_eqI).to ?_) rfl)
  rw [gcdL_comm, hg]
  rfl

theorem sc_is_row : FnScope N_is_row ["value", "size"] (defScope s_is_row) := ⟨rfl, rfl, rfl, by decide +kernel, rfl, by decide +kernel, by decide +kernel⟩
section
variable {P : Program} {w : World} {K : PySem.W.Frag} {mg : Str → Option Value} {base : Heap}
theorem b_is_row (T : Fx K mg) : Binds K T.f_is_row.fd ["value", "size"] [] := T.f_is_row.F.bindsN fun _ _ _ _ _ _ us hl => match us, hl with | [_, _], _ => rfl
theorem d_is_row (T : Fx K mg) {cdv : Value} {A : Around} {outer : List Env} {s : Shared} {H : Hp} {E : XK} (hr : Room 2 (A.deeper (envOfC "is_row" (defScope s_is_row) s.heap.objs.size T.f_is_row.f cdv))) : PSs (cxOf CX0 P w K mg base N_is_row "is_row" (defScope s_is_row) T.f_is_row.f cdv A outer s H E).nox (defBody s_is_row) (t_is_row K T.C T.R) :=
  have nd := sc_is_row.nd
  (pss_cons (ps_if (PW.pt (pw_or (pt_not (pt_val (pe_callB call_isi rfl T.b_isinstance boot_isinstance (pa_cons (pv 0) (pa_cons (pe_bltn rfl T.b_tuple boot_tuple rfl) pa_nil))))) (pw_or (pt_cmpR op_ne (pe_callB call_len rfl T.b_len boot_len (pa_cons (pv 0) pa_nil)) pe_int (nomark _)) (pw_or1 (pt_not (pt_val (pe_callB call_isi rfl T.b_isinstance boot_isinstance (pa_cons (pe_ix ix_tup (pv 0) pe_int (fun _ _ => rfl)) (pa_cons (pe_bltn rfl T.b_tuple boot_tuple rfl) pa_nil))))))))) (pss_one (ps_ret pe_bl)) pss_nil)
  (pss_cons (ps_if (PW.pt (pw_or (pt_cmpR op_ne (pe_callB call_len rfl T.b_len boot_len (pa_cons (pe_ix ix_tup (pv 0) pe_int (fun _ _ => rfl)) pa_nil)) (pv 1) (nomark _)) (pw_or (pt_not (pt_val (pe_callB (cr_all rfl) rfl T.b_all boot_all (pa_cons (pe_lc (own := [("item", 2)]) (g := (gName 2)) (tt := tYes) rfl nd (pi_tup (pe_ix ix_tup (pv 0) pe_int (fun _ _ => rfl))) (blkOk_by (by kernel_rfl)) (fun _ _ _ _ _ => (pg_name (i := 2) nd rfl (by first | exact Or.inl rfl | exact Or.inr rfl))) (fun _ _ _ _ _ => pts_nil) (fun _ _ _ _ _ => (pe_call (ok_is_integer T) (hr.mono (by decide)) rfl T.f_is_integer.g T.f_is_integer.F.kp (b_is_integer T) .nil pass0 (pa_cons (pv 2) pa_nil)))) pa_nil)))) (pw_or1 (pt_not (pt_val (pe_call (ok_is_integer T) (hr.mono (by decide)) rfl T.f_is_integer.g T.f_is_integer.F.kp (b_is_integer T) .nil pass0 (pa_cons (pe_ix ix_tup (pv 0) pe_int (fun _ _ => rfl)) pa_nil)))))))) (pss_one (ps_ret pe_bl)) pss_nil)
  (pss_one (ps_ret (pe_and (pe_callB (cr_any rfl) rfl T.b_any boot_any (pa_cons (pe_lc (own := [("item", 2)]) (g := (gName 2)) (tt := tYes) rfl nd (pi_tup (pe_ix ix_tup (pv 0) pe_int (fun _ _ => rfl))) (blkOk_by (by kernel_rfl)) (fun _ _ _ _ _ => (pg_name (i := 2) nd rfl (by first | exact Or.inl rfl | exact Or.inr rfl))) (fun _ _ _ _ _ => pts_nil) (fun _ _ _ _ _ => (pe_cmpR op_ne (pv 2) pe_int (nomark _)))) pa_nil)) (pe_one (pe_cmpR op_eq (pe_call (ok_common_divisor T) (hr.mono (by decide)) rfl T.f_common_divisor.g T.f_common_divisor.F.kp (b_common_divisor T) .nil pass0 (pa_cons (pe_op op_catA (pe_ix ix_tup (pv 0) pe_int (fun _ _ => rfl)) (pe_tup (pa_cons (pe_ix ix_tup (pv 0) pe_int (fun _ _ => rfl)) pa_nil))) pa_nil)) pe_int (nomark _))))))))
theorem ok_is_row (T : Fx K mg) : FnOk P w K mg base CX0 3 T.f_is_row.f T.f_is_row.fd ["value", "size"] (sp_is_row T.C) :=
  T.f_is_row.F.ok sc_is_row (fun vs H Q E ⟨A, x, _, r, _⟩ => by rw [r.length]; rfl) fun cdv A outer s H vs Q E hr h => ⟨t_is_row K T.C T.R, PSs.nox (d_is_row T hr), run_P K h fun W k x hC hK hp => by subst hK; rw [← hC]; exact sd_is_row W k T.R x hp⟩
end
/-! ### check_system -/
abbrev sp_check_system (C : Addr) : Sp := spP C (G := List Str × List Row) (fun x => [namesD x.1, rowsD x.2]) (fun x => namesOk x.1 ∧ rowsOk x.1.length x.2) (fun _ d => d = .non)

abbrev N_check_system : List Str := ["names", "rows", "at", "row"]
def t_check_system (K : PySem.W.Frag) (C R : Addr) : TS := (tSeq (tIfS (tOr (tNot (tB (tCall (sp_is_name_lot C) [] E0 (tCons (tVar 0) tNil)))) (tOr (tNot (tTest (tChain rLeI rLeI (tC (.int 1)) (tCB (rLen K) (tCons (tVar 0) tNil)) (tC (.int 6))))) (tNot (tB (tCB (rIsi K) (tCons (tVar 1) (tCons (tC (.ty "tuple")) tNil))))))) tNever tNext)
  (tFor (iEnumT K (tCons (tVar 1) tNil)) (gTup K 2 (gCons (gName 2) (gCons (gName 3) gNil))) (tIfS (tOr (tTest (tOp rGeI (tVar 2) (tC (.int 60)))) (tOr (tNot (tB (tCall (sp_is_row C) [] E0 (tCons (tVar 3) (tCons (tCB (rLen K) (tCons (tVar 0) tNil)) tNil))))) (tAnd (tTest (tOp rGtI (tVar 2) (tC (.int 0)))) (tNot (tTest (tOp (rLtD K) (tOp (rIxT K) (tVar 1) (tOp rSub (tVar 2) (tC (.int 1)))) (tVar 3))))))) tNever tNext)))
theorem enum_at {α : Type} {f : α → Dt} {l : List α} {i : Nat} {d : Dt} (h : (enumD (l.map f))[i]? = some d) : ∃ x, l[i]? = some x ∧ d = .tup [.int (i : Nat), f x] := by
  have hi : i < l.length := by
    have := (List.getElem?_eq_some_iff.mp h).1
    rw [enumD_len] at this
    simpa using this
  have e := enumD_get (ds := l.map f) (i := i) (d := f l[i]) (by simp [hi])
  rw [e] at h
  exact ⟨l[i], List.getElem?_eq_getElem hi, (Option.some.inj h).symm⟩
theorem sd_check_system (W : Wd) (k : W.Ok) (R : Addr) (x : List Str × List Row) (hp : namesOk x.1 ∧ rowsOk x.1.length x.2) : Sd W (t_check_system W.K W.C R) (startD N_check_system.length [namesD x.1, rowsD x.2]) { rt := fun d => d = .non, nx := fun _ => Dt.non = .non } := by
  obtain ⟨ns, rs⟩ := x
  obtain ⟨hn, hz, hr, hs⟩ := hp
  simp only at hn hz hr hs ⊢
  have hn' := hn
  obtain ⟨n1, n6, _, _⟩ := hn'
  have e1 : decide ((1 : Int) ≤ (ns.length : Int)) = true := decide_eq_true (by omega)
  have e2 : decide ((ns.length : Int) ≤ 6) = true := decide_eq_true (by omega)
  refine sq_if (b := false) (et_or (a := false) (b := false) (et_not (a := true) (et_B (ed_call ns k (ea_cons (ed_var rfl) ea_nil) hn fun d e => e))) fun h => et_or (a := false) (b := false) (et_not (a := true) (et_test (ed_chain (d1 := .bl true) (b1 := true) ed_int ((ed_cb (ea_cons (ed_var rfl) ea_nil) cd_lenT).to (by rw [List.length_map])) (by rw [← e1]; exact od_B0) (fun _ => ed_int) (fun _ => by rw [← e2]; exact od_B0) fun h => by cases h))) fun h => et_not (a := true) (et_B (ed_isi (ed_var rfl) rfl kit_tt))) (fun h => by cases h) fun _ => sq_next ?_
  refine sd_for k (yg_enumT (ea_cons (ed_var rfl) ea_nil)) (fun i δ => ∃ a b, δ = [some (.sh (namesD ns)), some (.sh (rowsD rs)), a, b]) ⟨_, _, rfl⟩ ?_ fun _ _ => by first | exact rfl | trivial
  rintro i d δ' hd ⟨a, b, rfl⟩
  obtain ⟨r, hri, rfl⟩ := enum_at hd
  have hi : i < rs.length := (List.getElem?_eq_some_iff.mp hri).1
  refine ⟨_, _, tg_names2 (of_decide_eq_true rfl) (of_decide_eq_true rfl), ?_⟩
  refine sd_if (b := false) (et_or (a := false) (b := false) ((et_test (ed_op (ed_var rfl) ed_int od_B0)).to (decide_eq_false (by omega))) fun h => et_or (a := false) (b := false) (et_not (a := true) (et_B (ed_call (ns.length, r) k (ea_cons (ed_var rfl) (ea_cons ((ed_cb (ea_cons (ed_var rfl) ea_nil) cd_lenT).to (by rw [List.length_map])) ea_nil)) ⟨hr r (List.mem_of_getElem? hri), by simp only; omega⟩ fun d e => e))) fun h => ?_) (fun h => by cases h) fun _ => sd_next ⟨_, _, rfl⟩
  by_cases h0 : i = 0
  · subst h0
    exact (et_and (a := false) (b := false) ((et_test (ed_op (ed_var rfl) ed_int od_B0)).to (by simp)) fun h => by cases h).to rfl
  · have hq : rs[i - 1]? = some (rs[i - 1]'(by omega)) := List.getElem?_eq_getElem (by omega)
    have lt := hs (i - 1) _ r hq (by rw [show i - 1 + 1 = i by omega]; exact hri)
    refine (et_and (a := true) (b := false) ((et_test (ed_op (ed_var rfl) ed_int od_B0)).to (decide_eq_true (by omega))) fun h => et_not (a := true) ((et_test (ed_op (ed_op (ed_var rfl) (ed_op (ed_var rfl) ed_int od_I0) (od_ixT (d := rD (rs[i - 1]'(by omega))) ?_)) (ed_var rfl) od_ltR)).to lt)).to rfl
    have e3 : ((i : Nat) : Int) - 1 = ((i - 1 : Nat) : Int) := by omega
    show atI _ (((i : Nat) : Int) - 1) = _
    rw [e3]
    exact atI_nat' (by rw [List.getElem?_map, hq]; rfl)

theorem sc_check_system : FnScope N_check_system ["names", "rows"] (defScope s_check_system) := ⟨rfl, rfl, rfl, by decide +kernel, rfl, by decide +kernel, by decide +kernel⟩
section
variable {P : Program} {w : World} {K : PySem.W.Frag} {mg : Str → Option Value} {base : Heap}
theorem b_check_system (T : Fx K mg) : Binds K T.f_check_system.fd ["names", "rows"] [] := T.f_check_system.F.bindsN fun _ _ _ _ _ _ us hl => match us, hl with | [_, _], _ => rfl
theorem d_check_system (T : Fx K mg) {cdv : Value} {A : Around} {outer : List Env} {s : Shared} {H : Hp} {E : XK} (hr : Room 3 (A.deeper (envOfC "check_system" (defScope s_check_system) s.heap.objs.size T.f_check_system.f cdv))) : PSs (cxOf CX0 P w K mg base N_check_system "check_system" (defScope s_check_system) T.f_check_system.f cdv A outer s H E).nox (defBody s_check_system) (t_check_system K T.C T.R) :=
  have nd := sc_check_system.nd
  (pss_cons (ps_if (PW.pt (pw_or (pt_not (pt_val (pe_call (ok_is_name_lot T) (hr.mono (by decide)) rfl T.f_is_name_lot.g T.f_is_name_lot.F.kp (b_is_name_lot T) .nil pass0 (pa_cons (pv 0) pa_nil)))) (pw_or (pt_not (pt_chain op_le op_le pe_int (pe_callB call_len rfl T.b_len boot_len (pa_cons (pv 0) pa_nil)) (pe_glob rfl T.k_MOST_NAMES ⟨_, rfl⟩))) (pw_or1 (pt_not (pt_val (pe_callB call_isi rfl T.b_isinstance boot_isinstance (pa_cons (pv 1) (pa_cons (pe_bltn rfl T.b_tuple boot_tuple rfl) pa_nil))))))))) (pss_one ps_never) pss_nil)
  (pss_one (ps_for PassesOwn.never rfl (pi_enumT rfl T.b_enumerate (pa_cons (pv 1) pa_nil)) (pg_tup rfl (pgs_cons (pg_name (i := 2) nd rfl (by first | exact Or.inl rfl | exact Or.inr rfl)) (pgs_cons (pg_name (i := 3) nd rfl (by first | exact Or.inl rfl | exact Or.inr rfl)) pgs_nil))) (pss_one (ps_if (PW.pt (pw_or (pt_cmpR op_ge (pv 2) (pe_glob rfl T.k_MOST_ROWS ⟨_, rfl⟩) (nomark _)) (pw_or (pt_not (pt_val (pe_call (ok_is_row T) (hr.mono (by decide)) rfl T.f_is_row.g T.f_is_row.F.kp (b_is_row T) .nil pass0 (pa_cons (pv 3) (pa_cons (pe_callB call_len rfl T.b_len boot_len (pa_cons (pv 0) pa_nil)) pa_nil))))) (pw_or1 (PW.pt (pw_and (pt_cmpR op_gt (pv 2) pe_int (nomark _)) (pw_and1 (pt_not (pt_cmpR (opLtD hr.units) (pe_ix ix_tup (pv 1) (pe_op op_sub (pv 2) pe_int) (fun _ _ => rfl)) (pv 3) (nomark _)))))))))) (pss_one ps_never) pss_nil)))))
theorem ok_check_system (T : Fx K mg) : FnOk P w K mg base CX0 4 T.f_check_system.f T.f_check_system.fd ["names", "rows"] (sp_check_system T.C) :=
  T.f_check_system.F.ok sc_check_system (fun vs H Q E ⟨A, x, _, r, _⟩ => by rw [r.length]; rfl) fun cdv A outer s H vs Q E hr h => ⟨t_check_system K T.C T.R, PSs.nox (d_check_system T hr), run_P K h fun W k x hC hK hp => by subst hK; rw [← hC]; exact sd_check_system W k T.R x hp⟩
end
end DL
namespace DL
open PySem PySem.Spec PyProof.Rows L2 Hd
/-! ### is_above -/
abbrev sp_is_above (C : Addr) : Sp := spP C (G := Unit) (fun _ => [.non, .non]) (fun _ => True) (fun _ d => d = .bl false)

abbrev N_is_above : List Str := ["low", "high"]
def t_is_above (K : PySem.W.Frag) (C R : Addr) : TS := (tRet (tAndV (tOp rNotNo (tVar 0) (tC .non)) (tAndV tNevE tNevE)))
theorem sd_is_above (W : Wd) (k : W.Ok) (R : Addr) (x : Unit) (hp : True) : Sd W (t_is_above W.K W.C R) (startD N_is_above.length [.non, .non]) { rt := fun d => d = .bl false, nx := fun _ => Dt.non = .bl false } :=
  sd_ret (Ed.er (ed_andV (a := false) (ed_op (ed_var rfl) ed_non od_notN) (fun h => by cases h) fun _ => rfl) rfl)

theorem sc_is_above : FnScope N_is_above ["low", "high"] (defScope s_is_above) := ⟨rfl, rfl, rfl, by decide +kernel, rfl, by decide +kernel, by decide +kernel⟩
section
variable {P : Program} {w : World} {K : PySem.W.Frag} {mg : Str → Option Value} {base : Heap}
theorem b_is_above (T : Fx K mg) : Binds K T.f_is_above.fd ["low", "high"] [] := T.f_is_above.F.bindsN fun _ _ _ _ _ _ us hl => match us, hl with | [_, _], _ => rfl
theorem d_is_above (T : Fx K mg) {cdv : Value} {A : Around} {outer : List Env} {s : Shared} {H : Hp} {E : XK} (hr : Room 0 (A.deeper (envOfC "is_above" (defScope s_is_above) s.heap.objs.size T.f_is_above.f cdv))) : PSs (cxOf CX0 P w K mg base N_is_above "is_above" (defScope s_is_above) T.f_is_above.f cdv A outer s H E).nox (defBody s_is_above) (t_is_above K T.C T.R) :=
  have nd := sc_is_above.nd
  (pss_one (ps_ret (pe_and (pe_cmpR o_notN (pv 0) pe_non (nomark _)) (pe_and pe_never (pe_one pe_never)))))
theorem ok_is_above (T : Fx K mg) : FnOk P w K mg base CX0 1 T.f_is_above.f T.f_is_above.fd ["low", "high"] (sp_is_above T.C) :=
  T.f_is_above.F.ok sc_is_above (fun vs H Q E ⟨A, x, _, r, _⟩ => by rw [r.length]; rfl) fun cdv A outer s H vs Q E hr h => ⟨t_is_above K T.C T.R, PSs.nox (d_is_above T hr), run_P K h fun W k x hC hK hp => by subst hK; rw [← hC]; exact sd_is_above W k T.R x hp⟩
end
/-! ### is_range -/
abbrev sp_is_range (C : Addr) : Sp := spP C (G := Unit) (fun _ => [freeD]) (fun _ => True) (fun _ d => d = .bl true)

abbrev N_is_range : List Str := ["value", "end"]
def t_is_range (K : PySem.W.Frag) (C R : Addr) : TS := (tSeq (tIfS (tOr (tNot (tB (tCB (rIsi K) (tCons (tVar 0) (tCons (tC (.ty "tuple")) tNil))))) (tTest (tOp rNe (tCB (rLen K) (tCons (tVar 0) tNil)) (tC (.int 2))))) (tRet (tC (.bl false))) tNext)
  (tSeq (tIfS (tNot (tB (tCB (rAll K) (tCons (tLc (iTup K (tVar 0)) (gName 1) tYes (tOrV (tOp rIsNo (tVar 1) (tC .non)) tNevE) [1]) tNil)))) (tRet (tC (.bl false))) tNext)
  (tRet (tNotV (tCall (sp_is_above C) [] E0 (tCons (tOp (rIxT K) (tVar 0) (tC (.int 0))) (tCons (tOp (rIxT K) (tVar 0) (tC (.int 1))) tNil)))))))
theorem sd_is_range (W : Wd) (k : W.Ok) (R : Addr) (x : Unit) (hp : True) : Sd W (t_is_range W.K W.C R) (startD N_is_range.length [freeD]) { rt := fun d => d = .bl true, nx := fun _ => Dt.non = .bl true } := by
  refine sq_if (b := false) (et_or (a := false) (b := false) (et_not (a := true) (et_B (ed_isi (ed_var rfl) rfl kit_tt))) fun h => (et_test (ed_op (ed_cb (ea_cons (ed_var rfl) ea_nil) cd_lenT) ed_int od_neI)).to (by simp)) (fun h => by cases h) fun _ => sq_next ?_
  refine sq_if (b := false) (et_not (a := true) (et_B ((ed_allLc [(), ()] (fun _ => .non) (fun _ => true) k (YlG.yl (yg_tup (ed_var rfl))) (by simp) fun x hx => ⟨_, _, tg_name (of_decide_eq_true rfl), by simp, ed_orV (a := true) (ed_op (ed_var rfl) ed_non od_isN) (fun h => by cases h) fun _ => rfl⟩).to rfl))) (fun h => by cases h) fun _ => sq_next ?_
  exact sd_ret (Ed.er (ed_notB (a := false) (ed_call () k (ea_cons (ed_op (ed_var rfl) ed_int (od_ixT rfl)) (ea_cons (ed_op (ed_var rfl) ed_int (od_ixT rfl)) ea_nil)) trivial (fun d e => e))) rfl)

theorem sc_is_range : FnScope N_is_range ["value"] (defScope s_is_range) := ⟨rfl, rfl, rfl, by decide +kernel, rfl, by decide +kernel, by decide +kernel⟩
section
variable {P : Program} {w : World} {K : PySem.W.Frag} {mg : Str → Option Value} {base : Heap}
theorem b_is_range (T : Fx K mg) : Binds K T.f_is_range.fd ["value"] [] := T.f_is_range.F.bindsN fun _ _ _ _ _ _ us hl => match us, hl with | [_], _ => rfl
theorem d_is_range (T : Fx K mg) {cdv : Value} {A : Around} {outer : List Env} {s : Shared} {H : Hp} {E : XK} (hr : Room 1 (A.deeper (envOfC "is_range" (defScope s_is_range) s.heap.objs.size T.f_is_range.f cdv))) : PSs (cxOf CX0 P w K mg base N_is_range "is_range" (defScope s_is_range) T.f_is_range.f cdv A outer s H E).nox (defBody s_is_range) (t_is_range K T.C T.R) :=
  have nd := sc_is_range.nd
  (pss_cons (ps_if (PW.pt (pw_or (pt_not (pt_val (pe_callB call_isi rfl T.b_isinstance boot_isinstance (pa_cons (pv 0) (pa_cons (pe_bltn rfl T.b_tuple boot_tuple rfl) pa_nil))))) (pw_or1 (pt_cmpR op_ne (pe_callB call_len rfl T.b_len boot_len (pa_cons (pv 0) pa_nil)) pe_int (nomark _))))) (pss_one (ps_ret pe_bl)) pss_nil)
  (pss_cons (ps_if (pt_not (pt_val (pe_callB (cr_all rfl) rfl T.b_all boot_all (pa_cons (pe_lc (own := [("end", 1)]) (g := (gName 1)) (tt := tYes) rfl nd (pi_tup (pv 0)) (blkOk_by (by kernel_rfl)) (fun _ _ _ _ _ => (pg_name (i := 1) nd rfl (by first | exact Or.inl rfl | exact Or.inr rfl))) (fun _ _ _ _ _ => pts_nil) (fun _ _ _ _ _ => (pe_or (pe_cmpR o_isN (pv 1) pe_non (nomark _)) (pe_one pe_never)))) pa_nil)))) (pss_one (ps_ret pe_bl)) pss_nil)
  (pss_one (ps_ret (pe_not (pe_call (ok_is_above T) (hr.mono (by decide)) rfl T.f_is_above.g T.f_is_above.F.kp (b_is_above T) .nil pass0 (pa_cons (pe_ix ix_tup (pv 0) pe_int (fun _ _ => rfl)) (pa_cons (pe_ix ix_tup (pv 0) pe_int (fun _ _ => rfl)) pa_nil))))))))
theorem ok_is_range (T : Fx K mg) : FnOk P w K mg base CX0 2 T.f_is_range.f T.f_is_range.fd ["value"] (sp_is_range T.C) :=
  T.f_is_range.F.ok sc_is_range (fun vs H Q E ⟨A, x, _, r, _⟩ => by rw [r.length]; rfl) fun cdv A outer s H vs Q E hr h => ⟨t_is_range K T.C T.R, PSs.nox (d_is_range T hr), run_P K h fun W k x hC hK hp => by subst hK; rw [← hC]; exact sd_is_range W k T.R x hp⟩
end
/-! ### check_box -/
abbrev sp_check_box (C : Addr) : Sp := spP C (G := List Str × List Row) (fun x => [sysD x.1 x.2, boxD x.1.length]) (fun _ => True) (fun _ d => d = .non)

abbrev N_check_box : List Str := ["system", "value", "at", "item"]
def t_check_box (K : PySem.W.Frag) (C R : Addr) : TS := (tSeq (tIfS (tOr (tNot (tB (tCB (rIsi K) (tCons (tVar 1) (tCons (tC (.ty "tuple")) tNil))))) (tTest (tOp rNe (tCB (rLen K) (tCons (tVar 1) tNil)) (tCB (rLen K) (tCons (tFld K (tVar 0) "names") tNil))))) tNever tNext)
  (tFor (iEnumT K (tCons (tVar 1) tNil)) (gTup K 2 (gCons (gName 2) (gCons (gName 3) gNil))) (tIfS (tNot (tB (tCall (sp_is_range C) [] E0 (tCons (tVar 3) tNil)))) tNever tNext)))
theorem sd_check_box (W : Wd) (k : W.Ok) (R : Addr) (hA : Attrs W.K W.C) (x : List Str × List Row) (hp : True) : Sd W (t_check_box W.K W.C R) (startD N_check_box.length [sysD x.1 x.2, boxD x.1.length]) { rt := fun d => d = .non, nx := fun _ => Dt.non = .non } := by
  refine sq_if (b := false) (et_or (a := false) (b := false) (et_not (a := true) (et_B (ed_isi (ed_var rfl) rfl kit_tt))) fun h => (et_test (ed_op (ed_cb (ea_cons (ed_var rfl) ea_nil) cd_lenT) (ed_cb (ea_cons (ed_names hA.c hA.n (ed_var rfl)) ea_nil) cd_lenT) od_neI)).to (by simp)) (fun h => by cases h) fun _ => sq_next ?_
  refine sd_for k (yg_enumT (ea_cons (ed_var rfl) ea_nil)) (fun i δ => ∃ a b, δ = [some (.sh (sysD x.1 x.2)), some (.sh (boxD x.1.length)), a, b]) ⟨_, _, rfl⟩ ?_ fun _ _ => by first | exact rfl | trivial
  rintro i d δ' hd ⟨a, b, rfl⟩
  obtain ⟨_, rfl⟩ := enum_rg hd
  refine ⟨_, _, tg_names2 (of_decide_eq_true rfl) (of_decide_eq_true rfl), ?_⟩
  exact sd_if (b := false) (et_not (a := true) (et_B (ed_call () k (ea_cons (ed_var rfl) ea_nil) trivial fun d e => e))) (fun h => by cases h) fun _ => sd_next ⟨_, _, rfl⟩

theorem sc_check_box : FnScope N_check_box ["system", "value"] (defScope s_check_box) := ⟨rfl, rfl, rfl, by decide +kernel, rfl, by decide +kernel, by decide +kernel⟩
section
variable {P : Program} {w : World} {K : PySem.W.Frag} {mg : Str → Option Value} {base : Heap}
theorem b_check_box (T : Fx K mg) : Binds K T.f_check_box.fd ["system", "value"] [] := T.f_check_box.F.bindsN fun _ _ _ _ _ _ us hl => match us, hl with | [_, _], _ => rfl
theorem d_check_box (T : Fx K mg) {cdv : Value} {A : Around} {outer : List Env} {s : Shared} {H : Hp} {E : XK} (hr : Room 2 (A.deeper (envOfC "check_box" (defScope s_check_box) s.heap.objs.size T.f_check_box.f cdv))) : PSs (cxOf CX0 P w K mg base N_check_box "check_box" (defScope s_check_box) T.f_check_box.f cdv A outer s H E).nox (defBody s_check_box) (t_check_box K T.C T.R) :=
  have nd := sc_check_box.nd
  (pss_cons (ps_if (PW.pt (pw_or (pt_not (pt_val (pe_callB call_isi rfl T.b_isinstance boot_isinstance (pa_cons (pv 1) (pa_cons (pe_bltn rfl T.b_tuple boot_tuple rfl) pa_nil))))) (pw_or1 (pt_cmpR op_ne (pe_callB call_len rfl T.b_len boot_len (pa_cons (pv 1) pa_nil)) (pe_callB call_len rfl T.b_len boot_len (pa_cons (pe_fld (pv 0) rfl) pa_nil)) (nomark _))))) (pss_one ps_never) pss_nil)
  (pss_one (ps_for PassesOwn.never rfl (pi_enumT rfl T.b_enumerate (pa_cons (pv 1) pa_nil)) (pg_tup rfl (pgs_cons (pg_name (i := 2) nd rfl (by first | exact Or.inl rfl | exact Or.inr rfl)) (pgs_cons (pg_name (i := 3) nd rfl (by first | exact Or.inl rfl | exact Or.inr rfl)) pgs_nil))) (pss_one (ps_if (pt_not (pt_val (pe_call (ok_is_range T) (hr.mono (by decide)) rfl T.f_is_range.g T.f_is_range.F.kp (b_is_range T) .nil pass0 (pa_cons (pv 3) pa_nil)))) (pss_one ps_never) pss_nil)))))
theorem ok_check_box (T : Fx K mg) : FnOk P w K mg base CX0 3 T.f_check_box.f T.f_check_box.fd ["system", "value"] (sp_check_box T.C) :=
  T.f_check_box.F.ok sc_check_box (fun vs H Q E ⟨A, x, _, r, _⟩ => by rw [r.length]; rfl) fun cdv A outer s H vs Q E hr h => ⟨t_check_box K T.C T.R, PSs.nox (d_check_box T hr), run_P K h fun W k x hC hK hp => by subst hK; rw [← hC]; exact sd_check_box W k T.R (by rw [hC]; exact ⟨T.clC, T.noN, T.noR⟩) x hp⟩
end
/-! ### free_box -/
abbrev sp_free_box (C : Addr) : Sp := spP C (G := List Str × List Row) (fun x => [sysD x.1 x.2]) (fun x => x.1.length ≤ 1000) (fun x d => d = boxD x.1.length)

abbrev N_free_box : List Str := ["system", "name"]
def t_free_box (K : PySem.W.Frag) (C R : Addr) : TS := (tRet (tCB (rTuple K) (tCons (tLc (iTup K (tFld K (tVar 0) "names")) (gName 1) tYes (tTup (tCons (tC .non) (tCons (tC .non) tNil))) [1]) tNil)))
theorem const_rg {α : Type} (l : List α) (d : Dt) : l.map (fun _ => d) = (List.range l.length).map fun _ => d := by
  induction l with
  | nil => rfl
  | cons a l ih => rw [List.map_cons, ih, List.length_cons, List.range_succ_eq_map, List.map_cons, List.map_map]; rfl
theorem sd_free_box (W : Wd) (k : W.Ok) (R : Addr) (hA : Attrs W.K W.C) (x : List Str × List Row) (hp : x.1.length ≤ 1000) : Sd W (t_free_box W.K W.C R) (startD N_free_box.length [sysD x.1 x.2]) { rt := fun d => d = boxD x.1.length, nx := fun _ => Dt.non = boxD x.1.length } := by
  refine sd_ret (Ed.er (ed_tupleF k (ef_lcAll x.1 Dt.str (fun _ => freeD) k (YlG.yl (yg_tup (ed_names hA.c hA.n (ed_var rfl)))) (by omega) fun x hx => ⟨_, _, tg_name (of_decide_eq_true rfl), by simp, ed_tup k (ea_cons ed_non (ea_cons ed_non ea_nil)) (by simp)⟩)) ?_)
  rw [const_rg]

theorem sc_free_box : FnScope N_free_box ["system"] (defScope s_free_box) := ⟨rfl, rfl, rfl, by decide +kernel, rfl, by decide +kernel, by decide +kernel⟩
section
variable {P : Program} {w : World} {K : PySem.W.Frag} {mg : Str → Option Value} {base : Heap}
theorem b_free_box (T : Fx K mg) : Binds K T.f_free_box.fd ["system"] [] := T.f_free_box.F.bindsN fun _ _ _ _ _ _ us hl => match us, hl with | [_], _ => rfl
theorem d_free_box (T : Fx K mg) {cdv : Value} {A : Around} {outer : List Env} {s : Shared} {H : Hp} {E : XK} (hr : Room 0 (A.deeper (envOfC "free_box" (defScope s_free_box) s.heap.objs.size T.f_free_box.f cdv))) : PSs (cxOf CX0 P w K mg base N_free_box "free_box" (defScope s_free_box) T.f_free_box.f cdv A outer s H E).nox (defBody s_free_box) (t_free_box K T.C T.R) :=
  have nd := sc_free_box.nd
  (pss_one (ps_ret (pe_callTy call_tuple_of rfl T.b_tuple boot_tuple (pa_cons (pe_lc (own := [("name", 1)]) (g := (gName 1)) (tt := tYes) rfl nd (pi_tup (pe_fld (pv 0) rfl)) (blkOk_by (by kernel_rfl)) (fun _ _ _ _ _ => (pg_name (i := 1) nd rfl (by first | exact Or.inl rfl | exact Or.inr rfl))) (fun _ _ _ _ _ => pts_nil) (fun _ _ _ _ _ => (pe_tup (pa_cons pe_non (pa_cons pe_non pa_nil))))) pa_nil))))
theorem ok_free_box (T : Fx K mg) : FnOk P w K mg base CX0 1 T.f_free_box.f T.f_free_box.fd ["system"] (sp_free_box T.C) :=
  T.f_free_box.F.ok sc_free_box (fun vs H Q E ⟨A, x, _, r, _⟩ => by rw [r.length]; rfl) fun cdv A outer s H vs Q E hr h => ⟨t_free_box K T.C T.R, PSs.nox (d_free_box T hr), run_P K h fun W k x hC hK hp => by subst hK; rw [← hC]; exact sd_free_box W k T.R (by rw [hC]; exact ⟨T.clC, T.noN, T.noR⟩) x hp⟩
end
end DL
namespace DL
open PySem PySem.Spec PyProof.Rows L2 Hd
/-! ### first_table -/
/-- the given: m columns of n parts, worths -/
structure Lp where
  m : Nat
  n : Nat
  p : Nat → Nat → Int
  w : Nat → Int
structure Lp.Ok (x : Lp) : Prop where
  m : x.m ≤ 60
  n : x.n ≤ 60
  p : ∀ j a, (x.p j a).natAbs < 2 ^ 100
  w : ∀ j, (x.w j).natAbs < 2 ^ 100
abbrev Lp.cols (x : Lp) : Dt := .lst ((List.range x.m).map fun j => .tup ((List.range x.n).map fun a => .int (x.p j a)))
abbrev Lp.goal (x : Lp) : Dt := .tup ((List.range x.n).map fun _ => .int 0)
abbrev Lp.worths (x : Lp) : Dt := .lst ((List.range x.m).map fun j => .int (x.w j))
abbrev Lp.inj (x : Lp) : List Dt := [x.cols, x.goal, x.worths]
/-- the first table -/
def Lp.t0 (x : Lp) : Nat → Nat → Int := fun a b => if a < x.n then (if b < x.m then x.p b a else if b < x.m + x.n then (if b - x.m = a then 1 else 0) else 0) else if a = x.n then (if b < x.m then -((List.range x.n).map fun c => x.p b c).sum else 0) else (if b < x.m then -(x.w b) else 0)
abbrev Lp.W (x : Lp) : Nat := x.m + x.n + 1
abbrev sp_first_table (C : Addr) : Sp := spP C (G := Lp) Lp.inj Lp.Ok (fun x d => d = .tup [tabD x.t0 (x.n + 2) x.W, .lst ((List.range x.n).map fun _ => .int 1)])

abbrev N_first_table : List Str := ["columns", "goal", "worths", "many", "size", "signs", "rows", "part", "at", "sign", "own", "place", "column", "missing", "row", "lacking", "worth"]
def t_first_table (K : PySem.W.Frag) (C R : Addr) : TS := (tSeq (tPar 3 4 (tCons (tCB (rLen K) (tCons (tVar 0) tNil)) (tCons (tCB (rLen K) (tCons (tVar 1) tNil)) tNil)))
  (tSeq (tAsg (tTup (tCons (tLc (iTup K (tVar 1)) (gName 7) tYes (tIf (tTest (tOp rLtI (tVar 7) (tC (.int 0)))) (tUn rNeg (tC (.int 1))) (tC (.int 1))) [7]) (tCons (tLst tNil) tNil))) (gTup K 2 (gCons (gName 5) (gCons (gName 6) gNil))))
  (tSeq (tFor (iEnum K (tCons (tVar 5) tNil)) (gTup K 2 (gCons (gName 8) (gCons (gName 9) gNil))) (tSeq (tAsg (tLc (iRng1 (tCons (tVar 4) tNil)) (gName 11) tYes (tCB rInt1 (tCons (tOp rEq (tVar 11) (tVar 8)) tNil)) [11]) (gName 10))
  (tDrop (tBM K "list" rAppend (tVar 6) (tCons (tOp rCat (tOp rCat (tLc (iList K (tVar 0)) (gName 12) tYes (tOp rMulW (tVar 9) (tOp (rIxT K) (tVar 12) (tVar 8))) [12]) (tVar 10)) (tLst (tCons (tOp rMulW (tVar 9) (tOp (rIxT K) (tVar 1) (tVar 8))) tNil))) tNil)))))
  (tSeq (tAsg (tLc (iRng1 (tCons (tVar 3) tNil)) (gName 11) tYes (tUn rNeg (tCB (rSum K) (tCons (tLc (iList K (tVar 6)) (gName 14) tYes (tOp (rIxL K) (tVar 14) (tVar 11)) [14]) tNil))) [11]) (gName 13))
  (tSeq (tAsg (tUn rNeg (tCB (rSum K) (tCons (tLc (iList K (tVar 6)) (gName 14) tYes (tOp (rIxL K) (tVar 14) (tUn rNeg (tC (.int 1)))) [14]) tNil))) (gName 15))
  (tSeq (tDrop (tBM K "list" rAppend (tVar 6) (tCons (tOp rCat (tOp rCat (tVar 13) (tOp rRep (tLst (tCons (tC (.int 0)) tNil)) (tVar 4))) (tLst (tCons (tVar 15) tNil))) tNil)))
  (tSeq (tDrop (tBM K "list" rAppend (tVar 6) (tCons (tOp rCat (tLc (iList K (tVar 2)) (gName 16) tYes (tUn rNeg (tVar 16)) [16]) (tOp rRep (tLst (tCons (tC (.int 0)) tNil)) (tOp rAdd (tVar 4) (tC (.int 1))))) tNil)))
  (tRet (tTup (tCons (tVar 6) (tCons (tVar 5) tNil)))))))))))
theorem Lp.t0_row (x : Lp) {a : Nat} (h : a < x.n) : rowL (x.t0 a) x.W = ((List.range x.m).map fun j => Dt.int (x.p j a)) ++ ((List.range x.n).map fun b => Dt.int (if b = a then 1 else 0)) ++ [Dt.int 0] := by
  rw [Lp.W, rowL_split]
  congr 1
  · congr 1
    · exact rowL_congr fun j hj => by unfold Lp.t0; rw [if_pos h, if_pos hj]
    · refine rowL_congr fun b hb => ?_
      unfold Lp.t0
      rw [if_pos h, if_neg (by omega), if_pos (by omega), show x.m + b - x.m = b by omega]
  · unfold Lp.t0
    rw [if_pos h, if_neg (by omega), if_neg (by omega)]
theorem Lp.t0_mid (x : Lp) : rowL (x.t0 x.n) x.W = ((List.range x.m).map fun j => Dt.int (-((List.range x.n).map fun c => x.p j c).sum)) ++ ((List.range x.n).map fun _ => Dt.int 0) ++ [Dt.int 0] := by
  rw [Lp.W, rowL_split]
  congr 1
  · congr 1
    · exact rowL_congr fun j hj => by unfold Lp.t0; rw [if_neg (by omega), if_pos rfl, if_pos hj]
    · exact rowL_congr fun b hb => by unfold Lp.t0; rw [if_neg (by omega), if_pos rfl, if_neg (by omega)]
  · unfold Lp.t0
    rw [if_neg (by omega), if_pos rfl, if_neg (by omega)]
theorem Lp.t0_last (x : Lp) : rowL (x.t0 (x.n + 1)) x.W = ((List.range x.m).map fun j => Dt.int (-(x.w j))) ++ ((List.range (x.n + 1)).map fun _ => Dt.int 0) := by
  rw [Lp.W, rowL_split, List.append_assoc, rg_succ]
  congr 1
  · exact rowL_congr fun j hj => by unfold Lp.t0; rw [if_neg (by omega), if_neg (by omega), if_pos hj]
  · congr 1
    · exact rowL_congr fun b hb => by unfold Lp.t0; rw [if_neg (by omega), if_neg (by omega), if_neg (by omega)]
    · unfold Lp.t0
      rw [if_neg (by omega), if_neg (by omega), if_neg (by omega)]
theorem one_mul_ok {a : Int} (h : a.natAbs < 2 ^ 100) : CMulW 1 a := mul_ok (m := 1) (n := 100) (by decide) h (by decide)
theorem sum_zeros (l : List Nat) : (l.map fun _ => (0 : Int)).sum = 0 := by
  induction l with
  | nil => rfl
  | cons a l ih => rw [List.map_cons, List.sum_cons, ih]; rfl
theorem sd_first_table (W : Wd) (k : W.Ok) (R : Addr) (x : Lp) (hp : x.Ok) : Sd W (t_first_table W.K W.C R) (startD N_first_table.length x.inj) { rt := fun d => d = .tup [tabD x.t0 (x.n + 2) x.W, .lst ((List.range x.n).map fun _ => .int 1)], nx := fun _ => Dt.non = .tup [tabD x.t0 (x.n + 2) x.W, .lst ((List.range x.n).map fun _ => .int 1)] } := by
  obtain ⟨hm, hn, hpp, hw⟩ := hp
  refine sq_par (eam_shE ((ed_lenC (Ed.ec (ed_var rfl))).to (z := .int (x.m : Nat)) (by simp)) (eam_shE ((ed_cb (ea_cons (ed_var rfl) ea_nil) cd_lenT).to (z := .int (x.n : Nat)) (by simp)) (eam_nil ⟨_, _, rfl, ?_⟩)))
  refine sq_parT k (eam_shE (Ef.ed (ef_lcAll (List.range x.n) (fun _ => .int 0) (fun _ => .int 1) k (YlG.yl (yg_tup (ed_var rfl))) (by simp; omega) fun y hy => ⟨_, _, tg_name (of_decide_eq_true rfl), by simp, ed_if (b := false) (et_test (ed_op (ed_var rfl) ed_int od_B0)) (fun h => by cases h) (fun h => ed_int)⟩)) (eam_ownE (ef_lst k ea_nil (by simp)) (eam_nil ⟨_, _, rfl, ?_⟩)))
  refine sq_for k (yg_enumL (ea_cons (ed_var rfl) ea_nil)) (fun i δ => i ≤ x.n ∧ ∃ q1 q2 q3, δ = [some (.sh x.cols), some (.sh x.goal), some (.sh x.worths), some (.sh (.int (x.m : Nat))), some (.sh (.int (x.n : Nat))), some (.sh (.lst ((List.range x.n).map fun _ => .int 1))), some (.own (tabL x.t0 i x.W)), none, q1, q2, q3, none, none, none, none, none, none]) ⟨Nat.zero_le _, _, _, _, rfl⟩ ?_ ?_
  · rintro i d δ' hd ⟨hi, q1, q2, q3, rfl⟩
    obtain ⟨hi, rfl⟩ := enum_rg hd
    refine ⟨_, _, tg_names2 (of_decide_eq_true rfl) (of_decide_eq_true rfl), ?_⟩
    refine sq_asgE (Ef.ed (ef_lcAll (List.range x.n) (fun b => .int (b : Nat)) (fun b => .int (if b = i then 1 else 0)) k (YlG.yl ((yg_range1 (n := (x.n : Nat)) (ea_cons (ed_var rfl) ea_nil) (by omega)).to (by simp))) (by simp; omega) fun b hb => ⟨_, _, tg_name (of_decide_eq_true rfl), by simp, (ed_cb (ea_cons (ed_op (ed_var rfl) (ed_var rfl) od_eqI) ea_nil) cd_intB).to (isAt b i)⟩)) (of_decide_eq_true rfl) ?_
    refine sd_append (R := fun d => d = .lst (rowL (x.t0 i) x.W)) k rfl ?_ (by simp; omega) fun d e => ?_
    · refine (Ef.ed (ef_cat k (Ef.ec (ef_cat k (Ef.ec (ef_lcAll (List.range x.m) (fun j => .tup ((List.range x.n).map fun a => .int (x.p j a))) (fun j => .int (x.p j i)) k (YlG.yl (yg_list (ed_var rfl))) (by simp; omega) fun j hj => ⟨_, _, tg_name (of_decide_eq_true rfl), by simp, (ed_op (ed_var rfl) (ed_op (ed_var rfl) (ed_var rfl) (od_ixT (rg_atI hi))) (od_I (one_mul_ok (hpp j i)))).to (by simp)⟩)) (Ed.ec (ed_var rfl)) (by simp; omega))) (Ef.ec (ef_lst k (ea_cons ((ed_op (ed_var rfl) (ed_op (ed_var rfl) (ed_var rfl) (od_ixT (rg_atI hi))) (od_I (one_mul_ok (by decide)))).to (z := .int 0) (by simp)) ea_nil) (by simp))) (by simp; omega))).to ?_
      rw [x.t0_row hi]
    · subst e
      exact ⟨hi, _, _, _, by rw [tabL_succ]; rfl⟩
  · rintro δ' ⟨_, q1, q2, q3, rfl⟩
    rw [enumD_len, List.length_map, List.length_range]
    refine sq_asgE (Ef.ed (ef_lcAll (List.range x.m) (fun b => .int (b : Nat)) (fun j => .int (-((List.range x.n).map fun c => x.p j c).sum)) k (YlG.yl ((yg_range1 (n := (x.m : Nat)) (ea_cons (ed_var rfl) ea_nil) (by omega)).to (by simp))) (by simp; omega) fun j hj => ⟨_, _, tg_name (of_decide_eq_true rfl), by simp, ed_un (ed_sumLc (List.range x.n) (fun a => .lst (rowL (x.t0 a) x.W)) (fun a => x.p j a) k (yl_own (ec_var rfl)) (by simp; omega) fun a ha => ⟨_, _, tg_name (of_decide_eq_true rfl), by simp, ?_⟩) ud_U⟩)) (of_decide_eq_true rfl) ?_
    · have ha' := List.mem_range.mp ha
      have hj' := List.mem_range.mp hj
      exact (ed_ixL (Ed.ec (ed_var rfl)) (ed_var rfl) (rg_atI (by unfold Lp.W; omega))).to (by unfold Lp.t0; rw [if_pos ha', if_pos hj'])
    refine sq_asgE ((ed_un (ed_sumLc (List.range x.n) (fun a => .lst (rowL (x.t0 a) x.W)) (fun _ => 0) k (yl_own (ec_var rfl)) (by simp; omega) fun a ha => ⟨_, _, tg_name (of_decide_eq_true rfl), by simp, ?_⟩) ud_U).to (z := .int 0) (by rw [sum_zeros]; rfl)) (of_decide_eq_true rfl) ?_
    · have ha' := List.mem_range.mp ha
      exact (ed_ixL (Ed.ec (ed_var rfl)) (ed_un ed_int ud_U) (rg_atN (k := 1) (by decide) (by unfold Lp.W; omega))).to (by unfold Lp.t0; rw [if_pos ha', if_neg (by show ¬ x.m + x.n + 1 - 1 < x.m; omega), if_neg (by show ¬ x.m + x.n + 1 - 1 < x.m + x.n; omega)])
    refine sq_append (R := fun d => d = .lst (rowL (x.t0 x.n) x.W)) k rfl ?_ (by simp; omega) fun d e => ?_
    · refine (Ef.ed (ef_cat k (Ef.ec (ef_cat k (Ed.ec (ed_var rfl)) (Ef.ec (ef_rep k (Ef.ec (ef_lst k (ea_cons ed_int ea_nil) (by simp))) (ed_var rfl) (by omega) (by simp; omega))) (by simp; omega))) (Ef.ec (ef_lst k (ea_cons (ed_var rfl) ea_nil) (by simp))) (by simp; omega))).to ?_
      rw [x.t0_mid, ← rep_rg, Int.toNat_natCast]
    subst e
    refine sq_append (R := fun d => d = .lst (rowL (x.t0 (x.n + 1)) x.W)) k rfl ?_ (by simp; omega) fun d e => ?_
    · refine (Ef.ed (ef_cat k (Ef.ec (ef_lcAll (List.range x.m) (fun j => .int (x.w j)) (fun j => .int (-(x.w j))) k (YlG.yl (yg_list (ed_var rfl))) (by simp; omega) fun j hj => ⟨_, _, tg_name (of_decide_eq_true rfl), by simp, ed_un (ed_var rfl) ud_U⟩)) (Ef.ec (ef_rep k (Ef.ec (ef_lst k (ea_cons ed_int ea_nil) (by simp))) (ed_op (ed_var rfl) ed_int od_I0) (by omega) (by simp; omega))) (by simp; omega))).to ?_
      rw [x.t0_last, ← rep_rg, show ((x.n : Int) + 1).toNat = x.n + 1 by omega]
    subst e
    refine sd_freeze (i := 6) rfl (sd_ret (Ed.er (ed_tup k (ea_cons (ed_var rfl) (ea_cons (ed_var rfl) ea_nil)) (by simp)) ?_))
    have e : tabL x.t0 x.n x.W ++ [Dt.lst (rowL (x.t0 x.n) x.W)] ++ [Dt.lst (rowL (x.t0 (x.n + 1)) x.W)] = tabL x.t0 (x.n + 2) x.W := by
      rw [tabL_succ, tabL_succ]
    rw [e]

theorem sc_first_table : FnScope N_first_table ["columns", "goal", "worths"] (defScope s_first_table) := ⟨rfl, rfl, rfl, by decide +kernel, rfl, by decide +kernel, by decide +kernel⟩
section
variable {P : Program} {w : World} {K : PySem.W.Frag} {mg : Str → Option Value} {base : Heap}
theorem b_first_table (T : Fx K mg) : Binds K T.f_first_table.fd ["columns", "goal", "worths"] [] := T.f_first_table.F.bindsN fun _ _ _ _ _ _ us hl => match us, hl with | [_, _, _], _ => rfl
theorem d_first_table (T : Fx K mg) {cdv : Value} {A : Around} {outer : List Env} {s : Shared} {H : Hp} {E : XK} (hr : Room 0 (A.deeper (envOfC "first_table" (defScope s_first_table) s.heap.objs.size T.f_first_table.f cdv))) : PSs (cxOf CX0 P w K mg base N_first_table "first_table" (defScope s_first_table) T.f_first_table.f cdv A outer s H E).nox (defBody s_first_table) (t_first_table K T.C T.R) :=
  have nd := sc_first_table.nd
  (pss_cons (ps_par (i := 3) (j := 4) rfl nd rfl rfl (by decide) rfl rfl (pa_cons (pe_callB call_len rfl T.b_len boot_len (pa_cons (pv 0) pa_nil)) (pa_cons (pe_callB call_len rfl T.b_len boot_len (pa_cons (pv 1) pa_nil)) pa_nil)) rfl)
  (pss_cons (ps_asg (pe_tup (pa_cons (pe_lc (own := [("part", 7)]) (g := (gName 7)) (tt := tYes) rfl nd (pi_tup (pv 1)) (blkOk_by (by kernel_rfl)) (fun _ _ _ _ _ => (pg_name (i := 7) nd rfl (by first | exact Or.inl rfl | exact Or.inr rfl))) (fun _ _ _ _ _ => pts_nil) (fun _ _ _ _ _ => (pe_ifExp (pt_cmpR op_lt (pv 7) pe_int (nomark _)) (pe_un un_neg pe_int) pe_int))) (pa_cons (pe_lst pa_nil) pa_nil))) (pg_tup rfl (pgs_cons (pg_name (i := 5) nd rfl (by first | exact Or.inl rfl | exact Or.inr rfl)) (pgs_cons (pg_name (i := 6) nd rfl (by first | exact Or.inl rfl | exact Or.inr rfl)) pgs_nil))))
  (pss_cons (ps_for PassesOwn.never rfl (pi_enum rfl T.b_enumerate (pa_cons (pv 5) pa_nil)) (pg_tup rfl (pgs_cons (pg_name (i := 8) nd rfl (by first | exact Or.inl rfl | exact Or.inr rfl)) (pgs_cons (pg_name (i := 9) nd rfl (by first | exact Or.inl rfl | exact Or.inr rfl)) pgs_nil))) (pss_cons (ps_setLc (i := 10) (own := [("place", 11)]) (g := (gName 11)) (tt := tYes) rfl nd rfl rfl (sw_true rfl rfl rfl (by kernel_rfl)) (pi_range1 rfl T.b_range (pa_cons (pv 4) pa_nil)) (blkOk_by (by kernel_rfl)) (fun _ _ _ _ _ => (pg_name (i := 11) nd rfl (by first | exact Or.inl rfl | exact Or.inr rfl))) (fun _ _ _ _ _ => pts_nil) (fun _ _ _ _ _ => (pe_callTy o_int1 rfl T.b_int boot_int (pa_cons (pe_cmpR op_eq (pv 11) (pv 8) (nomark _)) pa_nil))))
  (pss_one (ps_expr (pe_bm PySem.F.plainAttrs_list PySem.F.slot_list_append PySem.F.type_list_append mt_append (pv 6) (pa_cons (pe_op op_cat (pe_op op_cat (pe_lc (own := [("column", 12)]) (g := (gName 12)) (tt := tYes) rfl nd (pi_list (pv 0)) (blkOk_by (by kernel_rfl)) (fun _ _ _ _ _ => (pg_name (i := 12) nd rfl (by first | exact Or.inl rfl | exact Or.inr rfl))) (fun _ _ _ _ _ => pts_nil) (fun _ _ _ _ _ => (pe_op op_mulW (pv 9) (pe_ix ix_tup (pv 12) (pv 8) (fun _ _ => rfl))))) (pv 10)) (pe_lst (pa_cons (pe_op op_mulW (pv 9) (pe_ix ix_tup (pv 1) (pv 8) (fun _ _ => rfl))) pa_nil))) pa_nil))))))
  (pss_cons (ps_setLc (i := 13) (own := [("place", 11)]) (g := (gName 11)) (tt := tYes) rfl nd rfl rfl (sw_true rfl rfl rfl (by kernel_rfl)) (pi_range1 rfl T.b_range (pa_cons (pv 3) pa_nil)) (blkOk_by (by kernel_rfl)) (fun _ _ _ _ _ => (pg_name (i := 11) nd rfl (by first | exact Or.inl rfl | exact Or.inr rfl))) (fun _ _ _ _ _ => pts_nil) (fun _ _ _ _ _ => (pe_un un_neg (pe_callB (cr_sum rfl) rfl T.b_sum boot_sum (pa_cons (pe_lc (own := [("row", 14)]) (g := (gName 14)) (tt := tYes) rfl nd (pi_list (pv 6)) (blkOk_by (by kernel_rfl)) (fun _ _ _ _ _ => (pg_name (i := 14) nd rfl (by first | exact Or.inl rfl | exact Or.inr rfl))) (fun _ _ _ _ _ => pts_nil) (fun _ _ _ _ _ => (pe_ix ix_list (pv 14) (pv 11) (fun _ _ => rfl)))) pa_nil)))))
  (pss_cons (ps_set (i := 15) nd rfl (by first | exact Or.inl rfl | exact Or.inr rfl) (pe_un un_neg (pe_callB (cr_sum rfl) rfl T.b_sum boot_sum (pa_cons (pe_lc (own := [("row", 14)]) (g := (gName 14)) (tt := tYes) rfl nd (pi_list (pv 6)) (blkOk_by (by kernel_rfl)) (fun _ _ _ _ _ => (pg_name (i := 14) nd rfl (by first | exact Or.inl rfl | exact Or.inr rfl))) (fun _ _ _ _ _ => pts_nil) (fun _ _ _ _ _ => (pe_ix ix_list (pv 14) (pe_un un_neg pe_int) (fun _ _ => rfl)))) pa_nil))))
  (pss_cons (ps_expr (pe_bm PySem.F.plainAttrs_list PySem.F.slot_list_append PySem.F.type_list_append mt_append (pv 6) (pa_cons (pe_op op_cat (pe_op op_cat (pv 13) (pe_op op_rep (pe_lst (pa_cons pe_int pa_nil)) (pv 4))) (pe_lst (pa_cons (pv 15) pa_nil))) pa_nil)))
  (pss_cons (ps_expr (pe_bm PySem.F.plainAttrs_list PySem.F.slot_list_append PySem.F.type_list_append mt_append (pv 6) (pa_cons (pe_op op_cat (pe_lc (own := [("worth", 16)]) (g := (gName 16)) (tt := tYes) rfl nd (pi_list (pv 2)) (blkOk_by (by kernel_rfl)) (fun _ _ _ _ _ => (pg_name (i := 16) nd rfl (by first | exact Or.inl rfl | exact Or.inr rfl))) (fun _ _ _ _ _ => pts_nil) (fun _ _ _ _ _ => (pe_un un_neg (pv 16)))) (pe_op op_rep (pe_lst (pa_cons pe_int pa_nil)) (pe_op op_add (pv 4) pe_int))) pa_nil)))
  (pss_one (ps_ret (pe_tup (pa_cons (pv 6) (pa_cons (pv 5) pa_nil))))))))))))
theorem ok_first_table (T : Fx K mg) : FnOk P w K mg base CX0 1 T.f_first_table.f T.f_first_table.fd ["columns", "goal", "worths"] (sp_first_table T.C) :=
  T.f_first_table.F.ok sc_first_table (fun vs H Q E ⟨A, x, _, r, _⟩ => by rw [r.length]; rfl) fun cdv A outer s H vs Q E hr h => ⟨t_first_table K T.C T.R, PSs.nox (d_first_table T hr), run_P K h fun W k x hC hK hp => by subst hK; rw [← hC]; exact sd_first_table W k T.R x hp⟩
end
end DL
namespace DL
open PySem PySem.Spec PyProof.Rows L2 Hd
/-! ### entering -/
structure EnG where
  f : Nat → Int
  c : Nat
  m : Nat
abbrev sp_entering (C : Addr) : Sp := spP C (G := EnG) (fun x => [.lst (rowL x.f x.c), .int (x.m : Nat)]) (fun x => x.m ≤ x.c ∧ x.m ≤ 1000) (fun x d => (d = .non ∧ ∀ j, j < x.m → 0 ≤ x.f j) ∨ ∃ j : Nat, j < x.m ∧ d = .int (j : Nat) ∧ x.f j < 0)

abbrev N_entering : List Str := ["row", "many", "place"]
def t_entering (K : PySem.W.Frag) (C R : Addr) : TS := (tSeq (tFor (iRng1 (tCons (tVar 1) tNil)) (gName 2) (tIfS (tTest (tOp rLtI (tOp (rIxL K) (tVar 0) (tVar 2)) (tC (.int 0)))) (tRet (tVar 2)) tNext))
  (tRet (tC .non)))
theorem sd_entering (W : Wd) (k : W.Ok) (R : Addr) (x : EnG) (hp : x.m ≤ x.c ∧ x.m ≤ 1000) : Sd W (t_entering W.K W.C R) (startD N_entering.length [.lst (rowL x.f x.c), .int (x.m : Nat)]) { rt := fun d => (d = .non ∧ ∀ j, j < x.m → 0 ≤ x.f j) ∨ ∃ j : Nat, j < x.m ∧ d = .int (j : Nat) ∧ x.f j < 0, nx := fun _ => (Dt.non = .non ∧ ∀ j, j < x.m → 0 ≤ x.f j) ∨ ∃ j : Nat, j < x.m ∧ Dt.non = .int (j : Nat) ∧ x.f j < 0 } := by
  refine sq_for k (yg_rangeN (ea_cons (ed_var rfl) ea_nil) (by omega)) (fun i δ => (∀ j, j < i → 0 ≤ x.f j) ∧ ∃ q, δ = [some (.sh (.lst (rowL x.f x.c))), some (.sh (.int (x.m : Nat))), q]) ⟨fun j h => by omega, _, rfl⟩ ?_ ?_
  · rintro i d δ' hd ⟨hn, q, rfl⟩
    obtain ⟨hi, rfl⟩ := rg_get hd
    refine ⟨_, _, tg_name (of_decide_eq_true rfl), ?_⟩
    refine sd_if (et_test (ed_op (ed_ixL (Ed.ec (ed_var rfl)) (ed_var rfl) (rg_atI (by omega))) ed_int od_B0)) (fun h => ?_) (fun h => ?_)
    · exact sd_ret (Ed.er (ed_var rfl) (.inr ⟨i, hi, rfl, by simpa using h⟩))
    · refine sd_next ⟨fun j hj => ?_, _, rfl⟩
      by_cases e : j = i
      · subst e
        simpa using h
      · exact hn j (by omega)
  · rintro δ' ⟨hn, q, rfl⟩
    refine sd_ret (Ed.er ed_non (.inl ⟨rfl, ?_⟩))
    simpa using hn

theorem sc_entering : FnScope N_entering ["row", "many"] (defScope s_entering) := ⟨rfl, rfl, rfl, by decide +kernel, rfl, by decide +kernel, by decide +kernel⟩
section
variable {P : Program} {w : World} {K : PySem.W.Frag} {mg : Str → Option Value} {base : Heap}
theorem b_entering (T : Fx K mg) : Binds K T.f_entering.fd ["row", "many"] [] := T.f_entering.F.bindsN fun _ _ _ _ _ _ us hl => match us, hl with | [_, _], _ => rfl
theorem d_entering (T : Fx K mg) {cdv : Value} {A : Around} {outer : List Env} {s : Shared} {H : Hp} {E : XK} (hr : Room 0 (A.deeper (envOfC "entering" (defScope s_entering) s.heap.objs.size T.f_entering.f cdv))) : PSs (cxOf CX0 P w K mg base N_entering "entering" (defScope s_entering) T.f_entering.f cdv A outer s H E).nox (defBody s_entering) (t_entering K T.C T.R) :=
  have nd := sc_entering.nd
  (pss_cons (ps_for PassesOwn.never rfl (pi_range1 rfl T.b_range (pa_cons (pv 1) pa_nil)) (pg_name (i := 2) nd rfl (by first | exact Or.inl rfl | exact Or.inr rfl)) (pss_one (ps_if (pt_cmpR op_lt (pe_ix ix_list (pv 0) (pv 2) (fun _ _ => rfl)) pe_int (nomark _)) (pss_one (ps_ret (pv 2))) pss_nil)))
  (pss_one (ps_ret pe_non)))
theorem ok_entering (T : Fx K mg) : FnOk P w K mg base CX0 1 T.f_entering.f T.f_entering.fd ["row", "many"] (sp_entering T.C) :=
  T.f_entering.F.ok sc_entering (fun vs H Q E ⟨A, x, _, r, _⟩ => by rw [r.length]; rfl) fun cdv A outer s H vs Q E hr h => ⟨t_entering K T.C T.R, PSs.nox (d_entering T hr), run_P K h fun W k x hC hK hp => by subst hK; rw [← hC]; exact sd_entering W k T.R x hp⟩
end
/-! ### leaving -/
structure LvG where
  f : Nat → Nat → Int
  r : Nat
  c : Nat
  b : Nat → Int
  n : Nat
  e : Nat
  m : Nat
structure LvG.Ok (x : LvG) : Prop where
  r : x.n ≤ x.r
  c : x.e < x.c
  n : x.n ≤ 1000
  one : ∀ i j, i < x.n → j < x.n → x.b i < x.m → x.b j < x.m → i = j
abbrev LvG.Post (x : LvG) (d : Dt) : Prop := (∃ i : Nat, i < x.n ∧ d = .int (i : Nat) ∧ (x.m : Int) ≤ x.b i ∧ x.f i x.e ≠ 0) ∨ ((∀ i, i < x.n → (x.m : Int) ≤ x.b i → x.f i x.e = 0) ∧ ((∃ i : Nat, i < x.n ∧ d = .int (i : Nat) ∧ x.b i < x.m ∧ 0 < x.f i x.e) ∨ (d = .non ∧ ∀ i, i < x.n → x.b i < x.m → x.f i x.e ≤ 0)))
abbrev LvG.inj (x : LvG) : List Dt := [tabD x.f x.r x.c, .lst (rowL x.b x.n), .int (x.e : Nat), .bl true, .int (x.m : Nat)]
abbrev sp_leaving (C : Addr) : Sp := spP C (G := LvG) LvG.inj LvG.Ok LvG.Post

abbrev N_leaving : List Str := ["rows", "basis", "entered", "settled", "many", "best", "at", "column", "entry", "mine", "other"]
def t_leaving (K : PySem.W.Frag) (C R : Addr) : TS := (tSeq (tAsg (tC .non) (gName 5))
  (tSeq (tFor (iEnum K (tCons (tVar 1) tNil)) (gTup K 2 (gCons (gName 6) (gCons (gName 7) gNil))) (tSeq (tAsg (tOp (rIxL K) (tOp (rIxL K) (tVar 0) (tVar 6)) (tVar 2)) (gName 8))
  (tSeq (tIfS (tAnd (tB (tVar 3)) (tAnd (tTest (tOp rGeI (tVar 7) (tVar 4))) (tTest (tOp rNe (tVar 8) (tC (.int 0)))))) (tRet (tVar 6)) tNext)
  (tIfS (tTest (tOp rGtI (tVar 8) (tC (.int 0)))) (tIfS (tTest (tOp rIsNo (tVar 5) (tC .non))) (tAsg (tVar 6) (gName 5)) (tSeq tNever
  tNever)) tNext))))
  (tRet (tVar 5))))
theorem sd_leaving (W : Wd) (k : W.Ok) (R : Addr) (x : LvG) (hp : x.Ok) : Sd W (t_leaving W.K W.C R) (startD N_leaving.length x.inj) { rt := x.Post, nx := fun _ => x.Post .non } := by
  obtain ⟨hr, hc, hn, h1⟩ := hp
  refine sq_asgE ed_non (of_decide_eq_true rfl) ?_
  refine sq_for k (yg_enumL (ea_cons (ed_var rfl) ea_nil)) (fun i δ => (∀ j, j < i → j < x.n → (x.m : Int) ≤ x.b j → x.f j x.e = 0) ∧ ∃ best, ((∃ j : Nat, j < i ∧ j < x.n ∧ best = .int (j : Nat) ∧ x.b j < x.m ∧ 0 < x.f j x.e) ∨ (best = .non ∧ ∀ j, j < i → j < x.n → x.b j < x.m → x.f j x.e ≤ 0)) ∧ ∃ q1 q2 q3 q4 q5, δ = [some (.sh (tabD x.f x.r x.c)), some (.sh (.lst (rowL x.b x.n))), some (.sh (.int (x.e : Nat))), some (.sh (.bl true)), some (.sh (.int (x.m : Nat))), some (.sh best), q1, q2, q3, q4, q5])
    ⟨fun j h => by omega, .non, .inr ⟨rfl, fun j h => by omega⟩, _, _, _, _, _, rfl⟩ ?_ ?_
  · rintro i d δ' hd ⟨hz, best, hb, q1, q2, q3, q4, q5, rfl⟩
    obtain ⟨hi, rfl⟩ := enum_rg hd
    refine ⟨_, _, tg_names2 (of_decide_eq_true rfl) (of_decide_eq_true rfl), ?_⟩
    refine sq_asgE (ed_ixL (Ed.ec (ed_ixL (Ed.ec (ed_var rfl)) (ed_var rfl) (rg_atI (by omega)))) (ed_var rfl) (rg_atI hc)) (of_decide_eq_true rfl) ?_
    refine sq_if (et_and (et_B (ed_var rfl)) fun h => (et_and (et_test (ed_op (ed_var rfl) (ed_var rfl) od_B0)) fun h => (et_test (ed_op (ed_var rfl) ed_int od_neI)))) (fun h => ?_) (fun h => sq_next ?_)
    · simp only [Bool.true_and, Bool.and_eq_true, decide_eq_true_eq, Bool.not_eq_true', decide_eq_false_iff_not] at h
      exact sd_seq (M := fun _ => False) (sd_ret (Ed.er (ed_var rfl) (.inl ⟨i, hi, rfl, h.1, h.2⟩))) fun _ z => z.elim
    · have hz' : (x.m : Int) ≤ x.b i → x.f i x.e = 0 := fun hm => by
        by_cases e : x.f i x.e = 0
        · exact e
        · simp [hm, e] at h
      have hz2 : ∀ j, j < i + 1 → j < x.n → (x.m : Int) ≤ x.b j → x.f j x.e = 0 := fun j hj hjn hm => by
        by_cases e : j = i
        · subst e; exact hz' hm
        · exact hz j (by omega) hjn hm
      refine sd_if (et_test (ed_op (ed_var rfl) ed_int od_B0)) (fun h => ?_) (fun h => ?_)
      · have hpos : 0 < x.f i x.e := by simpa using h
        have hbm : x.b i < x.m := by
          by_cases e : x.b i < x.m
          · exact e
          · have := hz' (by omega)
            omega
        have hbn : best = .non := by
          rcases hb with ⟨j, hj, hjn, _, hjm, _⟩ | ⟨e, _⟩
          · have := h1 j i hjn hi hjm hbm
            omega
          · exact e
        subst hbn
        refine sd_if (b := true) ((et_test (ed_op (ed_var rfl) ed_non od_isN)).to rfl) (fun h => ?_) (fun h => by cases h)
        refine sd_asg (ed_var rfl) (of_decide_eq_true rfl) fun d e => ?_
        subst e
        exact ⟨hz2, _, .inl ⟨i, by omega, hi, rfl, hbm, hpos⟩, _, _, _, _, _, rfl⟩
      · have hle : x.f i x.e ≤ 0 := by simpa using h
        refine sd_next ⟨hz2, best, ?_, _, _, _, _, _, rfl⟩
        rcases hb with ⟨j, hj, hjn, e, hjm, hjp⟩ | ⟨e, hn⟩
        · exact .inl ⟨j, by omega, hjn, e, hjm, hjp⟩
        · refine .inr ⟨e, fun j hj hjn hjm => ?_⟩
          by_cases e' : j = i
          · subst e'; exact hle
          · exact hn j (by omega) hjn hjm
  · rintro δ' ⟨hz, best, hb, q1, q2, q3, q4, q5, rfl⟩
    rw [enumD_len, List.length_map, List.length_range] at hz hb
    refine sd_ret (Ed.er (ed_var rfl) (.inr ⟨fun i hi hm => hz i hi hi hm, ?_⟩))
    rcases hb with ⟨j, hj, hjn, e, hjm, hjp⟩ | ⟨e, hn⟩
    · exact .inl ⟨j, hj, e, hjm, hjp⟩
    · exact .inr ⟨e, fun i hi hm => hn i hi hi hm⟩

theorem sc_leaving : FnScope N_leaving ["rows", "basis", "entered", "settled", "many"] (defScope s_leaving) := ⟨rfl, rfl, rfl, by decide +kernel, rfl, by decide +kernel, by decide +kernel⟩
section
variable {P : Program} {w : World} {K : PySem.W.Frag} {mg : Str → Option Value} {base : Heap}
theorem b_leaving (T : Fx K mg) : Binds K T.f_leaving.fd ["rows", "basis", "entered", "settled", "many"] [] := T.f_leaving.F.bindsN fun _ _ _ _ _ _ us hl => match us, hl with | [_, _, _, _, _], _ => rfl
theorem d_leaving (T : Fx K mg) {cdv : Value} {A : Around} {outer : List Env} {s : Shared} {H : Hp} {E : XK} (hr : Room 0 (A.deeper (envOfC "leaving" (defScope s_leaving) s.heap.objs.size T.f_leaving.f cdv))) : PSs (cxOf CX0 P w K mg base N_leaving "leaving" (defScope s_leaving) T.f_leaving.f cdv A outer s H E).nox (defBody s_leaving) (t_leaving K T.C T.R) :=
  have nd := sc_leaving.nd
  (pss_cons (ps_set (i := 5) nd rfl (by first | exact Or.inl rfl | exact Or.inr rfl) pe_non)
  (pss_cons (ps_for PassesOwn.never rfl (pi_enum rfl T.b_enumerate (pa_cons (pv 1) pa_nil)) (pg_tup rfl (pgs_cons (pg_name (i := 6) nd rfl (by first | exact Or.inl rfl | exact Or.inr rfl)) (pgs_cons (pg_name (i := 7) nd rfl (by first | exact Or.inl rfl | exact Or.inr rfl)) pgs_nil))) (pss_cons (ps_set (i := 8) nd rfl (by first | exact Or.inl rfl | exact Or.inr rfl) (pe_ix ix_list (pe_ix ix_list (pv 0) (pv 6) (fun _ _ => rfl)) (pv 2) (fun _ _ => rfl)))
  (pss_cons (ps_if (PW.pt (pw_and (pt_val (pv 3)) (pw_and (pt_cmpR op_ge (pv 7) (pv 4) (nomark _)) (pw_and1 (pt_cmpR op_ne (pv 8) pe_int (nomark _)))))) (pss_one (ps_ret (pv 6))) pss_nil)
  (pss_one (ps_if (pt_cmpR op_gt (pv 8) pe_int (nomark _)) (pss_one (ps_if (pt_cmpR o_isN (pv 5) pe_non (nomark _)) (pss_one (ps_set (i := 5) nd rfl (by first | exact Or.inl rfl | exact Or.inr rfl) (pv 6))) (pss_cons ps_never
  (pss_one ps_never)))) pss_nil)))))
  (pss_one (ps_ret (pv 5)))))
theorem ok_leaving (T : Fx K mg) : FnOk P w K mg base CX0 1 T.f_leaving.f T.f_leaving.fd ["rows", "basis", "entered", "settled", "many"] (sp_leaving T.C) :=
  T.f_leaving.F.ok sc_leaving (fun vs H Q E ⟨A, x, _, r, _⟩ => by rw [r.length]; rfl) fun cdv A outer s H vs Q E hr h => ⟨t_leaving K T.C T.R, PSs.nox (d_leaving T hr), run_P K h fun W k x hC hK hp => by subst hK; rw [← hC]; exact sd_leaving W k T.R x hp⟩
end
/-! ### pivoted -/
structure PvG where
  f : Nat → Nat → Int
  r : Nat
  c : Nat
  at_ : Nat
  e : Nat
  u : Int
structure PvG.Ok (x : PvG) : Prop where
  at_ : x.at_ < x.r
  e : x.e < x.c
  r : x.r ≤ 1000
  c : x.c ≤ 1000
  u0 : 0 < x.u
  u1 : x.u.natAbs < 2 ^ 8000
  f : ∀ a b, (x.f a b).natAbs < 2 ^ 2000
/-- the pivot's row, made positive -/
def PvG.row (x : PvG) : Nat → Int := fun b => if 0 < x.f x.at_ x.e then x.f x.at_ b else -(x.f x.at_ b)
def PvG.piv (x : PvG) : Nat → Nat → Int := fun a b => if a = x.at_ then x.row b else (x.f a b * x.row x.e - x.f a x.e * x.row b) / x.u
abbrev PvG.inj (x : PvG) : List Dt := [tabD x.f x.r x.c, .int (x.at_ : Nat), .int (x.e : Nat), .int x.u]
abbrev sp_pivoted (C : Addr) : Sp := spP C (G := PvG) PvG.inj PvG.Ok (fun x d => d = .tup [tabD x.piv x.r x.c, .int (x.row x.e)])

abbrev N_pivoted : List Str := ["rows", "at", "entered", "unit", "row", "entry", "pivot", "found", "place", "other", "factor", "mine"]
def t_pivoted (K : PySem.W.Frag) (C R : Addr) : TS := (tSeq (tAsg (tIf (tTest (tOp rGtI (tOp (rIxL K) (tOp (rIxL K) (tVar 0) (tVar 1)) (tVar 2)) (tC (.int 0)))) (tOp (rIxL K) (tVar 0) (tVar 1)) (tLc (iList K (tOp (rIxL K) (tVar 0) (tVar 1))) (gName 5) tYes (tUn rNeg (tVar 5)) [5])) (gName 4))
  (tSeq (tAsg (tTup (tCons (tOp (rIxL K) (tVar 4) (tVar 2)) (tCons (tLst tNil) tNil))) (gTup K 2 (gCons (gName 6) (gCons (gName 7) gNil))))
  (tSeq (tFor (iEnum K (tCons (tVar 0) tNil)) (gTup K 2 (gCons (gName 8) (gCons (gName 9) gNil))) (tIfS (tTest (tOp rEq (tVar 8) (tVar 1))) (tDrop (tBM K "list" rAppend (tVar 7) (tCons (tVar 4) tNil))) (tSeq (tAsg (tOp (rIxL K) (tVar 9) (tVar 2)) (gName 10))
  (tDrop (tBM K "list" rAppend (tVar 7) (tCons (tLc (RZ.iZipA K (tCons (tVar 9) (tCons (tVar 4) tNil))) (gTup K 2 (gCons (gName 5) (gCons (gName 11) gNil))) tYes (tOp rFdiv (tOp rSub (tOp rMulW (tVar 5) (tVar 6)) (tOp rMulW (tVar 10) (tVar 11))) (tVar 3)) [5, 11]) tNil))))))
  (tRet (tTup (tCons (tVar 7) (tCons (tVar 6) tNil)))))))
theorem PvG.row_lt (x : PvG) (h : ∀ a b, (x.f a b).natAbs < 2 ^ 2000) (b : Nat) : (x.row b).natAbs < 2 ^ 2000 := by
  unfold PvG.row
  split
  · exact h _ _
  · rw [Int.natAbs_neg]; exact h _ _
theorem sd_pivoted (W : Wd) (k : W.Ok) (R : Addr) (x : PvG) (hp : x.Ok) : Sd W (t_pivoted W.K W.C R) (startD N_pivoted.length x.inj) { rt := fun d => d = .tup [tabD x.piv x.r x.c, .int (x.row x.e)], nx := fun _ => Dt.non = .tup [tabD x.piv x.r x.c, .int (x.row x.e)] } := by
  obtain ⟨hat, he, hr, hc, hu0, hu1, hf⟩ := hp
  have hrow := x.row_lt hf
  have mk : ∀ a b : Int, a.natAbs < 2 ^ 2000 → b.natAbs < 2 ^ 2000 → CMulW a b := fun a b ha hb => mul_ok ha hb (by decide)
  have dk : ∀ a : Int, CDivW a x.u := fun a => div_ok hu0 hu1 (by decide)
  refine sq_asgE (d := .lst (rowL x.row x.c)) (ed_if (et_test (ed_op (ed_ixL (Ed.ec (ed_ixL (Ed.ec (ed_var rfl)) (ed_var rfl) (rg_atI hat))) (ed_var rfl) (rg_atI he)) ed_int od_B0)) (fun h => ?_) (fun h => ?_)) (of_decide_eq_true rfl) ?_
  · have h' : 0 < x.f x.at_ x.e := by simpa using h
    exact (ed_ixL (Ed.ec (ed_var rfl)) (ed_var rfl) (rg_atI hat)).to (congrArg Dt.lst (rowL_congr fun i _ => by unfold PvG.row; rw [if_pos h']))
  · have h' : ¬ 0 < x.f x.at_ x.e := by simpa using h
    exact (Ef.ed (ef_lcAll (List.range x.c) (fun b => .int (x.f x.at_ b)) (fun b => .int (-(x.f x.at_ b))) k (YlG.yl (yg_list (ed_ixL (Ed.ec (ed_var rfl)) (ed_var rfl) (rg_atI hat)))) (by simp; omega) fun y hy => ⟨_, _, tg_name (of_decide_eq_true rfl), by simp, ed_un (ed_var rfl) ud_U⟩)).to (congrArg Dt.lst (rowL_congr fun i _ => by unfold PvG.row; rw [if_neg h']))
  refine sq_parT k (eam_shE (ed_ixL (Ed.ec (ed_var rfl)) (ed_var rfl) (rg_atI he)) (eam_ownE (ef_lst k ea_nil (by simp)) (eam_nil ⟨_, _, rfl, ?_⟩)))
  refine sq_for k (yg_enumL (ea_cons (ed_var rfl) ea_nil)) (fun i δ => i ≤ x.r ∧ ∃ q1 q2 q3, δ = [some (.sh (tabD x.f x.r x.c)), some (.sh (.int (x.at_ : Nat))), some (.sh (.int (x.e : Nat))), some (.sh (.int x.u)), some (.sh (.lst (rowL x.row x.c))), none, some (.sh (.int (x.row x.e))), some (.own (tabL x.piv i x.c)), q1, q2, q3, none]) ⟨Nat.zero_le _, _, _, _, rfl⟩ ?_ ?_
  · rintro i d δ' hd ⟨hi, q1, q2, q3, rfl⟩
    obtain ⟨hi, rfl⟩ := enum_rg hd
    refine ⟨_, _, tg_names2 (of_decide_eq_true rfl) (of_decide_eq_true rfl), ?_⟩
    refine sd_if (et_test (ed_op (ed_var rfl) (ed_var rfl) od_eqI)) (fun h => ?_) (fun h => ?_)
    · have e : i = x.at_ := by have := of_decide_eq_true h; omega
      refine sd_append (R := fun d => d = .lst (rowL (x.piv i) x.c)) k rfl ((ed_var rfl).to (congrArg Dt.lst (rowL_congr fun b _ => by unfold PvG.piv; rw [if_pos e]))) (by simp; omega) fun d e => ?_
      subst e
      exact ⟨hi, _, _, _, by rw [tabL_succ]; rfl⟩
    · have e : ¬ i = x.at_ := by have := of_decide_eq_false h; omega
      refine sq_asgE (ed_ixL (Ed.ec (ed_var rfl)) (ed_var rfl) (rg_atI he)) (of_decide_eq_true rfl) ?_
      refine sd_append (R := fun d => d = .lst (rowL (x.piv i) x.c)) k rfl (Ed.er ((Ef.ed (ef_lcAll (List.range x.c) (fun b => .tup [.int (x.f i b), .int (x.row b)]) (fun b => .int ((x.f i b * x.row x.e - x.f i x.e * x.row b) / x.u)) k (YlG.yl ((yg_zipA_L (ea_cons (ed_var rfl) (ea_cons (ed_var rfl) ea_nil))).to (zipD_rg _ _ _))) (by simp; omega) fun b hb => ⟨_, _, tg_names2 (of_decide_eq_true rfl) (of_decide_eq_true rfl), by simp, ed_op (ed_op (ed_op (ed_var rfl) (ed_var rfl) (od_I (mk _ _ (hf _ _) (hrow _)))) (ed_op (ed_var rfl) (ed_var rfl) (od_I (mk _ _ (hf _ _) (hrow _)))) od_I0) (ed_var rfl) (od_I (dk _))⟩)).to (congrArg Dt.lst (rowL_congr fun b _ => by unfold PvG.piv; rw [if_neg e]))) rfl) (by simp; omega) fun d e => ?_
      subst e
      exact ⟨hi, _, _, _, by rw [tabL_succ]; rfl⟩
  · rintro δ' ⟨_, q1, q2, q3, rfl⟩
    rw [enumD_len, List.length_map, List.length_range]
    exact sd_freeze (i := 7) rfl (sd_ret (Ed.er (ed_tup k (ea_cons (ed_var rfl) (ea_cons (ed_var rfl) ea_nil)) (by simp)) rfl))

theorem sc_pivoted : FnScope N_pivoted ["rows", "at", "entered", "unit"] (defScope s_pivoted) := ⟨rfl, rfl, rfl, by decide +kernel, rfl, by decide +kernel, by decide +kernel⟩
section
variable {P : Program} {w : World} {K : PySem.W.Frag} {mg : Str → Option Value} {base : Heap}
theorem b_pivoted (T : Fx K mg) : Binds K T.f_pivoted.fd ["rows", "at", "entered", "unit"] [] := T.f_pivoted.F.bindsN fun _ _ _ _ _ _ us hl => match us, hl with | [_, _, _, _], _ => rfl
theorem d_pivoted (T : Fx K mg) {cdv : Value} {A : Around} {outer : List Env} {s : Shared} {H : Hp} {E : XK} (hr : Room 0 (A.deeper (envOfC "pivoted" (defScope s_pivoted) s.heap.objs.size T.f_pivoted.f cdv))) : PSs (cxOf CX0 P w K mg base N_pivoted "pivoted" (defScope s_pivoted) T.f_pivoted.f cdv A outer s H E).nox (defBody s_pivoted) (t_pivoted K T.C T.R) :=
  have nd := sc_pivoted.nd
  (pss_cons (ps_set (i := 4) nd rfl (by first | exact Or.inl rfl | exact Or.inr rfl) (pe_ifExp (pt_cmpR op_gt (pe_ix ix_list (pe_ix ix_list (pv 0) (pv 1) (fun _ _ => rfl)) (pv 2) (fun _ _ => rfl)) pe_int (nomark _)) (pe_ix ix_list (pv 0) (pv 1) (fun _ _ => rfl)) (pe_lc (own := [("entry", 5)]) (g := (gName 5)) (tt := tYes) rfl nd (pi_list (pe_ix ix_list (pv 0) (pv 1) (fun _ _ => rfl))) (blkOk_by (by kernel_rfl)) (fun _ _ _ _ _ => (pg_name (i := 5) nd rfl (by first | exact Or.inl rfl | exact Or.inr rfl))) (fun _ _ _ _ _ => pts_nil) (fun _ _ _ _ _ => (pe_un un_neg (pv 5))))))
  (pss_cons (ps_asg (pe_tup (pa_cons (pe_ix ix_list (pv 4) (pv 2) (fun _ _ => rfl)) (pa_cons (pe_lst pa_nil) pa_nil))) (pg_tup rfl (pgs_cons (pg_name (i := 6) nd rfl (by first | exact Or.inl rfl | exact Or.inr rfl)) (pgs_cons (pg_name (i := 7) nd rfl (by first | exact Or.inl rfl | exact Or.inr rfl)) pgs_nil))))
  (pss_cons (ps_for PassesOwn.never rfl (pi_enum rfl T.b_enumerate (pa_cons (pv 0) pa_nil)) (pg_tup rfl (pgs_cons (pg_name (i := 8) nd rfl (by first | exact Or.inl rfl | exact Or.inr rfl)) (pgs_cons (pg_name (i := 9) nd rfl (by first | exact Or.inl rfl | exact Or.inr rfl)) pgs_nil))) (pss_one (ps_if (pt_cmpR op_eq (pv 8) (pv 1) (nomark _)) (pss_one (ps_expr (pe_bm PySem.F.plainAttrs_list PySem.F.slot_list_append PySem.F.type_list_append mt_append (pv 7) (pa_cons (pv 4) pa_nil)))) (pss_cons (ps_set (i := 10) nd rfl (by first | exact Or.inl rfl | exact Or.inr rfl) (pe_ix ix_list (pv 9) (pv 2) (fun _ _ => rfl)))
  (pss_one (ps_expr (pe_bm PySem.F.plainAttrs_list PySem.F.slot_list_append PySem.F.type_list_append mt_append (pv 7) (pa_cons (pe_lc (own := [("entry", 5), ("mine", 11)]) (g := (gTup K 2 (gCons (gName 5) (gCons (gName 11) gNil)))) (tt := tYes) rfl nd (RZ.pi_zipA rfl T.b_zip (pa_cons (pv 9) (pa_cons (pv 4) pa_nil))) (blkOk_by (by kernel_rfl)) (fun _ _ _ _ _ => (pg_tup rfl (pgs_cons (pg_name (i := 5) nd rfl (by first | exact Or.inl rfl | exact Or.inr rfl)) (pgs_cons (pg_name (i := 11) nd rfl (by first | exact Or.inl rfl | exact Or.inr rfl)) pgs_nil)))) (fun _ _ _ _ _ => pts_nil) (fun _ _ _ _ _ => (pe_op op_fdivW (pe_op op_sub (pe_op op_mulW (pv 5) (pv 6)) (pe_op op_mulW (pv 10) (pv 11))) (pv 3)))) pa_nil))))))))
  (pss_one (ps_ret (pe_tup (pa_cons (pv 7) (pa_cons (pv 6) pa_nil))))))))
theorem ok_pivoted (T : Fx K mg) : FnOk P w K mg base CX0 1 T.f_pivoted.f T.f_pivoted.fd ["rows", "at", "entered", "unit"] (sp_pivoted T.C) :=
  T.f_pivoted.F.ok sc_pivoted (fun vs H Q E ⟨A, x, _, r, _⟩ => by rw [r.length]; rfl) fun cdv A outer s H vs Q E hr h => ⟨t_pivoted K T.C T.R, PSs.nox (d_pivoted T hr), run_P K h fun W k x hC hK hp => by subst hK; rw [← hC]; exact sd_pivoted W k T.R x hp⟩
end
/-! ### numbers_of -/
structure NmG where
  b : Nat → Int
  e : Nat → Int
  n : Nat
  u : Int
  m : Nat
structure NmG.Ok (x : NmG) : Prop where
  n : x.n ≤ 1000
  m : x.m ≤ 1000
  u0 : 0 < x.u
  u1 : x.u.natAbs < 2 ^ 8000
  b : ∀ i, 0 ≤ x.b i
abbrev fracD (a b : Int) : Dt := frD (a / (Int.gcd a b : Nat)) (b / (Int.gcd a b : Nat))
abbrev NmG.Post (x : NmG) (ds : List Dt) : Prop := ds.length = x.m ∧ ∀ c : Nat, c < x.m → (∃ i, i < x.n ∧ x.b i = (c : Nat) ∧ ds[c]? = some (fracD (x.e i) x.u)) ∨ ((∀ i, i < x.n → x.b i ≠ (c : Nat)) ∧ ds[c]? = some (frD 0 1))
abbrev NmG.inj (x : NmG) : List Dt := [.lst (rowL x.b x.n), .lst (rowL x.e x.n), .int x.u, .int (x.m : Nat)]
abbrev sp_numbers_of (C : Addr) : Sp := spL C (G := NmG) NmG.inj NmG.Ok NmG.Post

abbrev N_numbers_of : List Str := ["basis", "entries", "unit", "many", "found", "column", "entry"]
def t_numbers_of (K : PySem.W.Frag) (C R : Addr) : TS := (tSeq (tAsg (tOp rRep (tLst (tCons (tTup (tCons (tC (.int 0)) (tCons (tC (.int 1)) tNil))) tNil)) (tVar 3)) (gName 4))
  (tSeq (tFor (RZ.iZipA K (tCons (tVar 0) (tCons (tVar 1) tNil))) (gTup K 2 (gCons (gName 5) (gCons (gName 6) gNil))) (tIfS (tTest (tOp rLtI (tVar 5) (tVar 3))) (tAsg (tCall (sp_fraction_of C) [] E0 (tCons (tVar 6) (tCons (tVar 2) tNil))) (gSub (tVar 4) (tVar 5) rSetL)) tNext))
  (tRet (tVar 4))))
theorem sd_numbers_of (W : Wd) (k : W.Ok) (R : Addr) (x : NmG) (hp : x.Ok) : Sd W (t_numbers_of W.K W.C R) (startD N_numbers_of.length x.inj) { ro := x.Post } := by
  obtain ⟨hn, hm, hu0, hu1, hb⟩ := hp
  refine sq_asgOE ((ef_rep k (Ef.ec (ef_lst k (ea_cons (ed_tup k (ea_cons ed_int (ea_cons ed_int ea_nil)) (by simp)) ea_nil) (by simp))) (ed_var rfl) (by omega) (by simp; omega)).to (by rw [rep_rg, Int.toNat_natCast])) (of_decide_eq_true rfl) ?_
  refine sq_for k ((yg_zipA_L (ea_cons (ed_var rfl) (ea_cons (ed_var rfl) ea_nil))).to (zipD_rg _ _ _)) (fun i δ => ∃ ds : List Dt, (ds.length = x.m ∧ ∀ c : Nat, c < x.m → (∃ j, j < i ∧ j < x.n ∧ x.b j = (c : Nat) ∧ ds[c]? = some (fracD (x.e j) x.u)) ∨ ((∀ j, j < i → j < x.n → x.b j ≠ (c : Nat)) ∧ ds[c]? = some (frD 0 1))) ∧ ∃ q1 q2, δ = [some (.sh (.lst (rowL x.b x.n))), some (.sh (.lst (rowL x.e x.n))), some (.sh (.int x.u)), some (.sh (.int (x.m : Nat))), some (.own ds), q1, q2])
    ⟨_, ⟨by simp, fun c hc => .inr ⟨fun j h => by omega, rg_at hc⟩⟩, _, _, rfl⟩ ?_ ?_
  · rintro i d δ' hd ⟨ds, ⟨hl, hq⟩, q1, q2, rfl⟩
    obtain ⟨hi, rfl⟩ := rg_get hd
    refine ⟨_, _, tg_names2 (of_decide_eq_true rfl) (of_decide_eq_true rfl), ?_⟩
    refine sd_if (et_test (ed_op (ed_var rfl) (ed_var rfl) od_B0)) (fun h => ?_) (fun h => ?_)
    · have hlt : x.b i < x.m := by simpa using h
      have h0 := hb i
      have ei : x.b i = ((x.b i).toNat : Nat) := by omega
      refine sd_setL (R := fun d => d = fracD (x.e i) x.u) (n := x.b i) (l := (x.b i).toNat) k rfl (ed_call (x.e i, x.u) k (ea_cons (ed_var rfl) (ea_cons (ed_var rfl) ea_nil)) ⟨hu0, hu1⟩ fun d e => e) (ed_var rfl) (by rw [ei]; exact ixN_nat (by omega)) fun d e => ?_
      subst e
      refine ⟨_, ⟨by rw [List.length_set]; exact hl, fun c hc => ?_⟩, _, _, rfl⟩
      by_cases e : c = (x.b i).toNat
      · subst e
        exact .inl ⟨i, by omega, hi, ei, by rw [List.getElem?_set_self (by omega)]⟩
      · rw [List.getElem?_set_ne (Ne.symm e)]
        rcases hq c hc with ⟨j, h1, h2, h3, h4⟩ | ⟨h1, h2⟩
        · exact .inl ⟨j, by omega, h2, h3, h4⟩
        · refine .inr ⟨fun j hj hjn he => ?_, h2⟩
          by_cases ej : j = i
          · subst ej
            omega
          · exact h1 j (by omega) hjn he
    · have hge : ¬ x.b i < x.m := by simpa using h
      refine sd_next ⟨ds, ⟨hl, fun c hc => ?_⟩, _, _, rfl⟩
      rcases hq c hc with ⟨j, h1, h2, h3, h4⟩ | ⟨h1, h2⟩
      · exact .inl ⟨j, by omega, h2, h3, h4⟩
      · refine .inr ⟨fun j hj hjn he => ?_, h2⟩
        by_cases ej : j = i
        · subst ej
          omega
        · exact h1 j (by omega) hjn he
  · rintro δ' ⟨ds, ⟨hl, hq⟩, q1, q2, rfl⟩
    rw [List.length_map, List.length_range] at hq
    refine sd_retF rfl ⟨hl, fun c hc => ?_⟩
    rcases hq c hc with ⟨j, h1, h2, h3, h4⟩ | ⟨h1, h2⟩
    · exact .inl ⟨j, h2, h3, h4⟩
    · exact .inr ⟨fun j hj => h1 j hj hj, h2⟩

theorem sc_numbers_of : FnScope N_numbers_of ["basis", "entries", "unit", "many"] (defScope s_numbers_of) := ⟨rfl, rfl, rfl, by decide +kernel, rfl, by decide +kernel, by decide +kernel⟩
section
variable {P : Program} {w : World} {K : PySem.W.Frag} {mg : Str → Option Value} {base : Heap}
theorem b_numbers_of (T : Fx K mg) : Binds K T.f_numbers_of.fd ["basis", "entries", "unit", "many"] [] := T.f_numbers_of.F.bindsN fun _ _ _ _ _ _ us hl => match us, hl with | [_, _, _, _], _ => rfl
theorem d_numbers_of (T : Fx K mg) {cdv : Value} {A : Around} {outer : List Env} {s : Shared} {H : Hp} {E : XK} (hr : Room 2 (A.deeper (envOfC "numbers_of" (defScope s_numbers_of) s.heap.objs.size T.f_numbers_of.f cdv))) : PSs (cxOf CX0 P w K mg base N_numbers_of "numbers_of" (defScope s_numbers_of) T.f_numbers_of.f cdv A outer s H E).nox (defBody s_numbers_of) (t_numbers_of K T.C T.R) :=
  have nd := sc_numbers_of.nd
  (pss_cons (ps_set (i := 4) nd rfl (by first | exact Or.inl rfl | exact Or.inr rfl) (pe_op op_rep (pe_lst (pa_cons (pe_tup (pa_cons pe_int (pa_cons pe_int pa_nil))) pa_nil)) (pv 3)))
  (pss_cons (ps_for PassesOwn.never rfl (RZ.pi_zipA rfl T.b_zip (pa_cons (pv 0) (pa_cons (pv 1) pa_nil))) (pg_tup rfl (pgs_cons (pg_name (i := 5) nd rfl (by first | exact Or.inl rfl | exact Or.inr rfl)) (pgs_cons (pg_name (i := 6) nd rfl (by first | exact Or.inl rfl | exact Or.inr rfl)) pgs_nil))) (pss_one (ps_if (pt_cmpR op_lt (pv 5) (pv 3) (nomark _)) (pss_one (ps_asg (pe_call (ok_fraction_of T) (hr.mono (by decide)) rfl T.f_fraction_of.g T.f_fraction_of.F.kp (b_fraction_of T) .nil pass0 (pa_cons (pv 6) (pa_cons (pv 2) pa_nil))) (pg_sub (pv 4) (pv 5) set_list (fun _ => rfl)))) pss_nil)))
  (pss_one (ps_ret (pv 4)))))
theorem ok_numbers_of (T : Fx K mg) : FnOk P w K mg base CX0 3 T.f_numbers_of.f T.f_numbers_of.fd ["basis", "entries", "unit", "many"] (sp_numbers_of T.C) :=
  T.f_numbers_of.F.ok sc_numbers_of (fun vs H Q E ⟨A, x, _, r, _⟩ => by rw [r.length]; rfl) fun cdv A outer s H vs Q E hr h => ⟨t_numbers_of K T.C T.R, PSs.nox (d_numbers_of T hr), run_L K h fun W k x hC hK hp => by subst hK; rw [← hC]; exact sd_numbers_of W k T.R x hp⟩
end
end DL
/-! the plain sums: at most two pivots -/
namespace DL
open PySem PySem.Spec PyProof.Rows L2
/-- the sum of products -/
def dot (n : Nat) (u v : Nat → Int) : Int := ((List.range n).map fun a => u a * v a).sum
theorem dot_succ (n : Nat) (u v : Nat → Int) : dot (n + 1) u v = dot n u v + u n * v n := by
  unfold dot
  rw [List.range_succ, List.map_append, List.sum_append]
  simp
theorem dot_zero (u v : Nat → Int) : dot 0 u v = 0 := rfl
theorem dot_congr {n : Nat} {u v u' v' : Nat → Int} (h : ∀ a, a < n → u a * v a = u' a * v' a) : dot n u v = dot n u' v' := by
  unfold dot
  congr 1
  exact List.map_congr_left fun a ha => h a (List.mem_range.mp ha)
/-- two places -/
theorem dot_two {n : Nat} {u v : Nat → Int} {i i2 : Nat} (hi : i < n) (hi2 : i2 < n) (hne : i ≠ i2) (h : ∀ a, a < n → a ≠ i → a ≠ i2 → v a = 0) : dot n u v = u i * v i + u i2 * v i2 := by
  have key : ∀ m, m ≤ n → dot m u v = (if i < m then u i * v i else 0) + (if i2 < m then u i2 * v i2 else 0) := by
    intro m hm
    induction m with
    | zero => simp [dot_zero]
    | succ m ih =>
      rw [dot_succ, ih (by omega)]
      by_cases e1 : m = i
      · subst e1
        by_cases e3 : i2 < m
        · rw [if_neg (by omega), if_pos e3, if_pos (by omega), if_pos (by omega)]; omega
        · rw [if_neg (by omega), if_neg e3, if_pos (by omega), if_neg (by omega)]; omega
      · by_cases e2 : m = i2
        · subst e2
          by_cases e3 : i < m
          · rw [if_pos e3, if_neg (by omega), if_pos (by omega), if_pos (by omega)]; omega
          · rw [if_neg e3, if_neg (by omega), if_neg (by omega), if_pos (by omega)]; omega
        · rw [h m (by omega) e1 e2]
          by_cases e3 : i < m <;> by_cases e4 : i2 < m
          · rw [if_pos e3, if_pos e4, if_pos (by omega), if_pos (by omega)]; omega
          · rw [if_pos e3, if_neg e4, if_pos (by omega), if_neg (by omega)]; omega
          · rw [if_neg e3, if_pos e4, if_neg (by omega), if_pos (by omega)]; omega
          · rw [if_neg e3, if_neg e4, if_neg (by omega), if_neg (by omega)]; omega
  rw [key n (Nat.le_refl _), if_pos hi, if_pos hi2]
theorem dot_one {n : Nat} {u v : Nat → Int} {i : Nat} (hi : i < n) (h : ∀ a, a < n → a ≠ i → v a = 0) : dot n u v = u i * v i := by
  have key : ∀ m, m ≤ n → dot m u v = if i < m then u i * v i else 0 := by
    intro m hm
    induction m with
    | zero => simp [dot_zero]
    | succ m ih =>
      rw [dot_succ, ih (by omega)]
      by_cases e1 : m = i
      · subst e1
        rw [if_neg (by omega), if_pos (by omega)]; omega
      · rw [h m (by omega) e1]
        by_cases e3 : i < m
        · rw [if_pos e3, if_pos (by omega)]; omega
        · rw [if_neg e3, if_neg (by omega)]; omega
  rw [key n (Nat.le_refl _), if_pos hi]
section
variable (x : Lp)
theorem Lp.t0_p {a c : Nat} (h : a < x.n) (hc : c < x.m) : x.t0 a c = x.p c a := by unfold Lp.t0; rw [if_pos h, if_pos hc]
theorem Lp.t0_e {a b : Nat} (h : a < x.n) (hb : b < x.n) : x.t0 a (x.m + b) = if b = a then 1 else 0 := by
  unfold Lp.t0; rw [if_pos h, if_neg (by omega), if_pos (by omega), show x.m + b - x.m = b by omega]
theorem Lp.t0_w {c : Nat} (hc : c < x.m) : x.t0 (x.n + 1) c = -(x.w c) := by unfold Lp.t0; rw [if_neg (by omega), if_neg (by omega), if_pos hc]
theorem Lp.t0_0 {b : Nat} : x.t0 (x.n + 1) (x.m + b) = 0 := by unfold Lp.t0; rw [if_neg (by omega), if_neg (by omega), if_neg (by omega)]
theorem Lp.t0_s : x.t0 x.n (x.m + x.n) = 0 := by unfold Lp.t0; rw [if_neg (by omega), if_pos rfl, if_neg (by omega)]
theorem sum_lt {n N : Nat} {f : Nat → Int} (h : ∀ a, (f a).natAbs < 2 ^ N) : ((List.range n).map f).sum.natAbs ≤ n * 2 ^ N := by
  induction n with
  | zero => simp
  | succ n ih =>
    rw [List.range_succ, List.map_append, List.sum_append, Nat.succ_mul]
    have := h n
    simp only [List.map_cons, List.map_nil, List.sum_cons, List.sum_nil, Int.add_zero]
    omega
theorem Lp.t0_lt (ok : x.Ok) (a b : Nat) : (x.t0 a b).natAbs < 2 ^ 110 := by
  have h1 : (2 : Nat) ^ 100 < 2 ^ 110 := Nat.pow_lt_pow_right (by decide) (by decide)
  have hp := ok.p
  have hw := ok.w
  unfold Lp.t0
  split
  · split
    · exact Nat.lt_trans (hp b a) h1
    · split
      · split <;> decide
      · decide
  · split
    · split
      · rw [Int.natAbs_neg]
        have := sum_lt (n := x.n) (N := 100) (f := fun c => x.p b c) (hp b)
        have hn := ok.n
        have h2 : x.n * 2 ^ 100 ≤ 60 * 2 ^ 100 := Nat.mul_le_mul_right _ hn
        have h3 : 60 * 2 ^ 100 < 2 ^ 110 := by decide
        omega
      · decide
    · split
      · rw [Int.natAbs_neg]; exact Nat.lt_trans (hw b) h1
      · decide
end
theorem piv_lt {N : Nat} (P : PvG) (h : ∀ a b, (P.f a b).natAbs < 2 ^ N) (hu : 0 < P.u) (a b : Nat) : (P.piv a b).natAbs < 2 ^ (2 * N + 2) := by
  have hr : ∀ b, (P.row b).natAbs < 2 ^ N := fun b => by
    unfold PvG.row
    split
    · exact h _ _
    · rw [Int.natAbs_neg]; exact h _ _
  unfold PvG.piv
  split
  · exact Nat.lt_of_lt_of_le (hr b) (Nat.pow_le_pow_right (by decide) (by omega))
  · have e1 : (P.f a b * P.row P.e).natAbs < 2 ^ (N + N) := wide_lt (h a b) (hr _)
    have e2 : (P.f a P.e * P.row b).natAbs < 2 ^ (N + N) := wide_lt (h a _) (hr b)
    have e3 : (P.f a b * P.row P.e - P.f a P.e * P.row b).natAbs < 2 * 2 ^ (N + N) := by omega
    have e4 : ((P.f a b * P.row P.e - P.f a P.e * P.row b) / P.u).natAbs ≤ (P.f a b * P.row P.e - P.f a P.e * P.row b).natAbs + 1 := by
      generalize P.f a b * P.row P.e - P.f a P.e * P.row b = y
      have hd := Int.mul_ediv_add_emod y P.u
      have m0 := Int.emod_nonneg y (show P.u ≠ 0 by omega)
      have m1 := Int.emod_lt_of_pos y hu
      rcases Int.le_total 0 y with hy | hy
      · have q0 : 0 ≤ y / P.u := Int.ediv_nonneg hy (by omega)
        have q1 : y / P.u ≤ y := Int.ediv_le_self _ hy
        omega
      · have q0 : y / P.u ≤ 0 := by
          have := Int.ediv_le_ediv hu hy
          simpa using this
        have q1 : y - P.u < P.u * (y / P.u) := by omega
        have q2 : y ≤ y / P.u + 0 ∨ y / P.u < y := by omega
        rcases q2 with q2 | q2
        · omega
        · exfalso
          have : P.u * (y / P.u) ≤ P.u * (y - 1) := Int.mul_le_mul_of_nonneg_left (by omega) (by omega)
          have : P.u * (y - 1) = P.u * y - P.u := by rw [Int.mul_sub]; omega
          have : P.u * y ≤ 1 * y := Int.mul_le_mul_of_nonpos_right (by omega) hy
          omega
    have e5 : 2 * 2 ^ (N + N) + 1 ≤ 2 ^ (2 * N + 2) := by
      rw [show N + N = 2 * N by omega, Nat.pow_succ, Nat.pow_succ]
      have := two_pos (2 * N)
      omega
    omega
/-! ### the first pivot -/
section
variable (x : Lp) (i j : Nat)
def P1 : PvG := ⟨x.t0, x.n + 2, x.W, i, j, 1⟩
structure In1 : Prop where
  hi : i < x.n
  hj : j < x.m
  h0 : x.p j i ≠ 0
variable {x i j}
theorem P1_s (I : In1 x i j) : ∃ s : Int, s * s = 1 ∧ (∀ b, (P1 x i j).row b = s * x.t0 i b) ∧ (P1 x i j).row j = s * x.p j i ∧ 0 < s * x.p j i := by
  have e : x.t0 i j = x.p j i := x.t0_p I.hi I.hj
  have h := I.h0
  by_cases hp : 0 < x.p j i
  · refine ⟨1, rfl, fun b => ?_, ?_, by omega⟩
    · show (if 0 < x.t0 i j then x.t0 i b else -(x.t0 i b)) = _
      rw [e, if_pos hp]; omega
    · show (if 0 < x.t0 i j then x.t0 i j else -(x.t0 i j)) = _
      rw [e, if_pos hp]; omega
  · refine ⟨-1, rfl, fun b => ?_, ?_, by omega⟩
    · show (if 0 < x.t0 i j then x.t0 i b else -(x.t0 i b)) = _
      rw [e, if_neg hp]; omega
    · show (if 0 < x.t0 i j then x.t0 i j else -(x.t0 i j)) = _
      rw [e, if_neg hp]; omega
theorem P1_other {a b : Nat} (h : a ≠ i) : (P1 x i j).piv a b = x.t0 a b * (P1 x i j).row j - x.t0 a j * (P1 x i j).row b := by
  show (if a = i then _ else (x.t0 a b * (P1 x i j).row j - x.t0 a j * (P1 x i j).row b) / 1) = _
  rw [if_neg h, Int.ediv_one]
theorem P1_same {b : Nat} : (P1 x i j).piv i b = (P1 x i j).row b := by
  show (if i = i then (P1 x i j).row b else _) = _
  rw [if_pos rfl]
/-- the last row's reduced worths, and the point -/
theorem P1_R (I : In1 x i j) {c : Nat} (hc : c < x.m) {s : Int} (hs : ∀ b, (P1 x i j).row b = s * x.t0 i b) : (P1 x i j).piv (x.n + 1) c = -(x.w c) * (P1 x i j).row j + x.w j * (s * x.p c i) := by
  rw [P1_other (by have := I.hi; omega), x.t0_w hc, x.t0_w I.hj, hs c, x.t0_p I.hi hc]
  grind
theorem P1_X (I : In1 x i j) {a : Nat} (ha : a < x.n) {s : Int} (hs : ∀ b, (P1 x i j).row b = s * x.t0 i b) : (P1 x i j).piv (x.n + 1) (x.m + a) = if a = i then x.w j * s else 0 := by
  rw [P1_other (by have := I.hi; omega), x.t0_0, x.t0_w I.hj, hs (x.m + a), x.t0_e I.hi ha]
  by_cases e : a = i
  · rw [if_pos e, if_pos e]; grind
  · rw [if_neg e, if_neg e]; grind
theorem P1_j0 (I : In1 x i j) : (P1 x i j).piv (x.n + 1) j = 0 := by
  obtain ⟨s, _, hs, hj, _⟩ := P1_s I
  rw [P1_R I I.hj hs, hj]
  grind
/-- the end behind one pivot: the point keeps all -/
theorem end1 (I : In1 x i j) {c : Nat} (hc : c < x.m) (h : 0 ≤ (P1 x i j).piv (x.n + 1) c) : x.w c * (P1 x i j).row j ≤ dot x.n (x.p c) fun a => (P1 x i j).piv (x.n + 1) (x.m + a) := by
  obtain ⟨s, _, hs, hj, _⟩ := P1_s I
  rw [dot_one I.hi fun a ha hne => by rw [P1_X I ha hs, if_neg hne], P1_X I I.hi hs, if_pos rfl]
  rw [P1_R I hc hs] at h
  grind
end
/-! ### the second pivot -/
section
variable (x : Lp) (i j i2 k : Nat)
def P2 : PvG := ⟨(P1 x i j).piv, x.n + 2, x.W, i2, k, (P1 x i j).row j⟩
variable {x i j i2 k}
theorem P2_t (h : (P1 x i j).piv i2 k ≠ 0) : ∃ t : Int, t * t = 1 ∧ (∀ b, (P2 x i j i2 k).row b = t * (P1 x i j).piv i2 b) ∧ 0 < (P2 x i j i2 k).row k := by
  by_cases hp : 0 < (P1 x i j).piv i2 k
  · refine ⟨1, rfl, fun b => ?_, ?_⟩
    · show (if 0 < (P1 x i j).piv i2 k then (P1 x i j).piv i2 b else -((P1 x i j).piv i2 b)) = _
      rw [if_pos hp]; omega
    · show 0 < (if 0 < (P1 x i j).piv i2 k then (P1 x i j).piv i2 k else -((P1 x i j).piv i2 k))
      rw [if_pos hp]; exact hp
  · refine ⟨-1, rfl, fun b => ?_, ?_⟩
    · show (if 0 < (P1 x i j).piv i2 k then (P1 x i j).piv i2 b else -((P1 x i j).piv i2 b)) = _
      rw [if_neg hp]; omega
    · show 0 < (if 0 < (P1 x i j).piv i2 k then (P1 x i j).piv i2 k else -((P1 x i j).piv i2 k))
      rw [if_neg hp]; omega
theorem P2_last (h2 : i2 < x.n) (b : Nat) : (P2 x i j i2 k).piv (x.n + 1) b = ((P1 x i j).piv (x.n + 1) b * (P2 x i j i2 k).row k - (P1 x i j).piv (x.n + 1) k * (P2 x i j i2 k).row b) / (P1 x i j).row j := by
  show (if x.n + 1 = i2 then _ else _) = _
  rw [if_neg (by omega)]
  rfl
/-- entered worth is used up -/
theorem P2_k (h2 : i2 < x.n) : (P2 x i j i2 k).piv (x.n + 1) k = 0 := by
  rw [P2_last h2, Int.sub_self, Int.zero_ediv]
theorem P1_e (I : In1 x i j) {a b : Nat} (ha : a < x.n) (hb : b < x.n) (hne : a ≠ i) {s : Int} (hs : ∀ b, (P1 x i j).row b = s * x.t0 i b) : (P1 x i j).piv a (x.m + b) = (if b = a then (P1 x i j).row j else 0) - x.p j a * (if b = i then s else 0) := by
  rw [P1_other hne, x.t0_e ha hb, x.t0_p ha I.hj, hs (x.m + b), x.t0_e I.hi hb]
  by_cases e1 : b = a <;> by_cases e2 : b = i
  · rw [if_pos e1, if_pos e1, if_pos e2, if_pos e2]; grind
  · rw [if_pos e1, if_pos e1, if_neg e2, if_neg e2]; grind
  · rw [if_neg e1, if_neg e1, if_pos e2, if_pos e2]; grind
  · rw [if_neg e1, if_neg e1, if_neg e2, if_neg e2]; grind
theorem P1_c (I : In1 x i j) {a c : Nat} (ha : a < x.n) (hc : c < x.m) (hne : a ≠ i) {s : Int} (hs : ∀ b, (P1 x i j).row b = s * x.t0 i b) : (P1 x i j).piv a c = x.p c a * (P1 x i j).row j - x.p j a * (s * x.p c i) := by
  rw [P1_other hne, x.t0_p ha hc, x.t0_p ha I.hj, hs c, x.t0_p I.hi hc]
/-- another row: the old column stays, the point solves both -/
theorem end2 (I : In1 x i j) (hk : k < x.m) (h2 : i2 < x.n) (hne : i2 ≠ i) (h0 : (P1 x i j).piv i2 k ≠ 0) :
    (P2 x i j i2 k).piv (x.n + 1) j = 0 ∧ (x.w j * (P2 x i j i2 k).row k = dot x.n (x.p j) fun a => (P2 x i j i2 k).piv (x.n + 1) (x.m + a)) ∧ x.w k * (P2 x i j i2 k).row k = dot x.n (x.p k) fun a => (P2 x i j i2 k).piv (x.n + 1) (x.m + a) := by
  obtain ⟨s, ss, hs, hj, hU⟩ := P1_s I
  obtain ⟨t, tt, ht, hD⟩ := P2_t h0
  have U0 : (P1 x i j).row j ≠ 0 := by rw [hj]; omega
  have e0 : (P2 x i j i2 k).piv (x.n + 1) j = 0 := by
    have : (P1 x i j).piv i2 j = 0 := by rw [P1_c I h2 I.hj hne hs, hj]; grind
    rw [P2_last h2, P1_j0 I, ht j, this]
    simp
  have ek : (P2 x i j i2 k).row k = t * (x.p k i2 * (P1 x i j).row j - x.p j i2 * (s * x.p k i)) := by rw [ht k, P1_c I h2 hk hne hs]
  have eR : (P1 x i j).piv (x.n + 1) k = -(x.w k) * (P1 x i j).row j + x.w j * (s * x.p k i) := P1_R I hk hs
  have ei : (P2 x i j i2 k).piv (x.n + 1) (x.m + i) = s * t * (x.w j * x.p k i2 - x.w k * x.p j i2) := by
    rw [P2_last h2, P1_X I I.hi hs, if_pos rfl, ht (x.m + i), P1_e I h2 I.hi hne hs, if_neg (Ne.symm hne), if_pos rfl, ek, eR]
    have : x.w j * s * (t * (x.p k i2 * (P1 x i j).row j - x.p j i2 * (s * x.p k i))) - (-(x.w k) * (P1 x i j).row j + x.w j * (s * x.p k i)) * (t * (0 - x.p j i2 * s)) = s * t * (x.w j * x.p k i2 - x.w k * x.p j i2) * (P1 x i j).row j := by grind
    rw [this, Int.mul_ediv_cancel _ U0]
  have ei2 : (P2 x i j i2 k).piv (x.n + 1) (x.m + i2) = -((P1 x i j).piv (x.n + 1) k) * t := by
    rw [P2_last h2, P1_X I h2 hs, if_neg hne, ht (x.m + i2), P1_e I h2 h2 hne hs, if_pos rfl, if_neg hne]
    have : 0 * (P2 x i j i2 k).row k - (P1 x i j).piv (x.n + 1) k * (t * ((P1 x i j).row j - x.p j i2 * 0)) = -((P1 x i j).piv (x.n + 1) k) * t * (P1 x i j).row j := by grind
    rw [this, Int.mul_ediv_cancel _ U0]
  have eo : ∀ a, a < x.n → a ≠ i → a ≠ i2 → (P2 x i j i2 k).piv (x.n + 1) (x.m + a) = 0 := fun a ha n1 n2 => by
    rw [P2_last h2, P1_X I ha hs, if_neg n1, ht (x.m + a), P1_e I h2 ha hne hs, if_neg n2, if_neg n1]
    simp
  refine ⟨e0, ?_, ?_⟩
  · rw [dot_two I.hi h2 (Ne.symm hne) eo, ei, ei2, ek, eR]
    grind
  · rw [dot_two I.hi h2 (Ne.symm hne) eo, ei, ei2, ek, eR]
    grind
/-- the same row: the columns are alike up to a factor -/
theorem end3 (I : In1 x i j) (hk : k < x.m) (hR : (P1 x i j).piv (x.n + 1) k < 0) (h0 : 0 < (P1 x i j).piv i k) (hz : ∀ a, a < x.n → a ≠ i → (P1 x i j).piv a k = 0) :
    0 ≤ (P2 x i j i k).piv (x.n + 1) j ∧ (x.w j * (P2 x i j i k).row k ≤ dot x.n (x.p j) fun a => (P2 x i j i k).piv (x.n + 1) (x.m + a)) ∧ x.w k * (P2 x i j i k).row k ≤ dot x.n (x.p k) fun a => (P2 x i j i k).piv (x.n + 1) (x.m + a) := by
  obtain ⟨s, ss, hs, hj, hU⟩ := P1_s I
  have U0 : (P1 x i j).row j ≠ 0 := by rw [hj]; omega
  have hrow : ∀ b, (P2 x i j i k).row b = (P1 x i j).row b := fun b => by
    show (if 0 < (P1 x i j).piv i k then (P1 x i j).piv i b else _) = _
    rw [if_pos h0, P1_same]
  have ek : (P2 x i j i k).row k = s * x.p k i := by rw [hrow, hs k, x.t0_p I.hi hk]
  have eR : (P1 x i j).piv (x.n + 1) k = -(x.w k) * (P1 x i j).row j + x.w j * (s * x.p k i) := P1_R I hk hs
  have e0 : (P2 x i j i k).piv (x.n + 1) j = -((P1 x i j).piv (x.n + 1) k) := by
    rw [P2_last I.hi, P1_j0 I, hrow j]
    have : 0 * (P2 x i j i k).row k - (P1 x i j).piv (x.n + 1) k * (P1 x i j).row j = -((P1 x i j).piv (x.n + 1) k) * (P1 x i j).row j := by grind
    rw [this, Int.mul_ediv_cancel _ U0]
  have ei : (P2 x i j i k).piv (x.n + 1) (x.m + i) = s * x.w k := by
    rw [P2_last I.hi, P1_X I I.hi hs, if_pos rfl, hrow (x.m + i), hs (x.m + i), x.t0_e I.hi I.hi, if_pos rfl, ek, eR]
    have : x.w j * s * (s * x.p k i) - (-(x.w k) * (P1 x i j).row j + x.w j * (s * x.p k i)) * (s * 1) = s * x.w k * (P1 x i j).row j := by grind
    rw [this, Int.mul_ediv_cancel _ U0]
  have eo : ∀ a, a < x.n → a ≠ i → (P2 x i j i k).piv (x.n + 1) (x.m + a) = 0 := fun a ha n1 => by
    rw [P2_last I.hi, P1_X I ha hs, if_neg n1, hrow (x.m + a), hs (x.m + a), x.t0_e I.hi ha, if_neg n1]
    simp
  refine ⟨by rw [e0]; omega, ?_, ?_⟩
  · rw [dot_one I.hi eo, ei, ek]
    rw [eR, hj] at hR
    grind
  · rw [dot_one I.hi eo, ei, ek]
    grind
/-- no row leaves: the columns cancel each other -/
theorem end4 (I : In1 x i j) (hk : k < x.m) (hR : (P1 x i j).piv (x.n + 1) k < 0) (h0 : (P1 x i j).piv i k ≤ 0) (hz : ∀ a, a < x.n → a ≠ i → (P1 x i j).piv a k = 0) :
    (∀ a, a < x.n → -((P1 x i j).piv i k) * x.p j a + (P1 x i j).row j * x.p k a = 0) ∧ 0 < -((P1 x i j).piv i k) * x.w j + (P1 x i j).row j * x.w k := by
  obtain ⟨s, ss, hs, hj, hU⟩ := P1_s I
  have eR : (P1 x i j).piv (x.n + 1) k = -(x.w k) * (P1 x i j).row j + x.w j * (s * x.p k i) := P1_R I hk hs
  have ek : (P1 x i j).piv i k = s * x.p k i := by rw [P1_same, hs k, x.t0_p I.hi hk]
  refine ⟨fun a ha => ?_, ?_⟩
  · by_cases e : a = i
    · subst e
      rw [ek, hj]
      grind
    · have := hz a ha e
      rw [P1_c I ha hk e hs] at this
      rw [ek]
      grind
  · rw [ek]
    rw [eR] at hR
    grind
end
/-! ### the stages of the search -/
structure BestOk (x : Lp) : Prop where
  ok : x.Ok
  m2 : x.m ≤ 2
  nz : ∀ j, j < x.m → ∃ a, a < x.n ∧ x.p j a ≠ 0
def bas0 (x : Lp) : Nat → Int := fun a => (x.m : Int) + (a : Nat)
def bas1 (x : Lp) (i j : Nat) : Nat → Int := fun a => if a = i then (j : Nat) else bas0 x a
inductive Stg (x : Lp) : Nat → (Nat → Nat → Int) → (Nat → Int) → Int → Bool → Prop
  | s2 : Stg x 2 x.t0 (bas0 x) 1 false
  | s1 {i j : Nat} (I : In1 x i j) : Stg x 1 (P1 x i j).piv (bas1 x i j) ((P1 x i j).row j) true
  | s0 {f : Nat → Nat → Int} {b : Nat → Int} {u : Int} (hu : 0 < u) (hub : u.natAbs < 2 ^ 1000) (hf : ∀ a b, (f a b).natAbs < 2 ^ 1000) (hb : ∀ a, 0 ≤ b a) (hR : ∀ c, c < x.m → 0 ≤ f (x.n + 1) c) (hX : ∀ c, c < x.m → x.w c * u ≤ dot x.n (x.p c) fun a => f (x.n + 1) (x.m + a)) : Stg x 0 f b u true
theorem pow_up {a m n : Nat} (h : a < 2 ^ m) (hm : m ≤ n) : a < 2 ^ n := Nat.lt_of_lt_of_le h (Nat.pow_le_pow_right (by decide) hm)
section
variable {x : Lp} {i j k i2 : Nat}
theorem P1_lt (ok : x.Ok) (a b : Nat) : ((P1 x i j).piv a b).natAbs < 2 ^ 222 := piv_lt (N := 110) (P1 x i j) (x.t0_lt ok) (by show (0 : Int) < 1; decide) a b
theorem row_lt {N : Nat} (P : PvG) (h : ∀ a b, (P.f a b).natAbs < 2 ^ N) (b : Nat) : (P.row b).natAbs < 2 ^ N := by
  unfold PvG.row
  split
  · exact h _ _
  · rw [Int.natAbs_neg]; exact h _ _
theorem P1_u (I : In1 x i j) : 0 < (P1 x i j).row j := by
  obtain ⟨s, _, _, e, h⟩ := P1_s I
  rw [e]; exact h
theorem P2_lt (ok : x.Ok) (I : In1 x i j) (a b : Nat) : ((P2 x i j i2 k).piv a b).natAbs < 2 ^ 446 := piv_lt (N := 222) (P2 x i j i2 k) (P1_lt ok) (P1_u I) a b
theorem Stg.u0 {n : Nat} {f : Nat → Nat → Int} {b : Nat → Int} {u : Int} {st : Bool} (ok : x.Ok) (h : Stg x n f b u st) : 0 < u ∧ u.natAbs < 2 ^ 1000 := by
  cases h with
  | s2 => exact ⟨by decide, by decide⟩
  | s1 I => exact ⟨P1_u I, pow_up (row_lt (N := 110) (P1 x _ _) (x.t0_lt ok) _) (by decide)⟩
  | s0 hu hub _ _ _ _ => exact ⟨hu, hub⟩
theorem Stg.lt {n : Nat} {f : Nat → Nat → Int} {b : Nat → Int} {u : Int} {st : Bool} (ok : x.Ok) (h : Stg x n f b u st) (a c : Nat) : (f a c).natAbs < 2 ^ 1000 := by
  cases h with
  | s2 => exact pow_up (x.t0_lt ok a c) (by decide)
  | s1 I => exact pow_up (P1_lt ok a c) (by decide)
  | s0 _ _ hf _ _ _ => exact hf a c
theorem Stg.b0 {n : Nat} {f : Nat → Nat → Int} {b : Nat → Int} {u : Int} {st : Bool} (h : Stg x n f b u st) (a : Nat) : 0 ≤ b a := by
  cases h with
  | s2 => unfold bas0; omega
  | s1 I => unfold bas1 bas0; split <;> omega
  | s0 _ _ _ hb _ _ => exact hb a
/-- nothing enters: the point keeps all -/
theorem Stg.fin {n : Nat} {f : Nat → Nat → Int} {b : Nat → Int} {u : Int} {st : Bool} (h : Stg x n f b u st) (hR : ∀ c, c < x.m → 0 ≤ f (x.n + 1) c) : ∀ c, c < x.m → x.w c * u ≤ dot x.n (x.p c) fun a => f (x.n + 1) (x.m + a) := by
  intro c hc
  have hr := hR c hc
  cases h with
  | s2 =>
    rw [x.t0_w hc] at hr
    have : dot x.n (x.p c) (fun a => x.t0 (x.n + 1) (x.m + a)) = 0 := by
      have e : dot x.n (x.p c) (fun a => x.t0 (x.n + 1) (x.m + a)) = dot x.n (fun _ => 0) (fun _ => 0) := dot_congr fun a _ => by rw [x.t0_0]; simp
      rw [e]
      unfold dot
      simp [sum_zeros]
    rw [this]
    omega
  | s1 I => exact end1 I hc hr
  | s0 _ _ _ _ _ hX => exact hX c hc
theorem bas1_b (I : In1 x i j) : ∀ a, 0 ≤ bas1 x i j a := fun a => by unfold bas1 bas0; split <;> omega
theorem other_col (h2 : x.m ≤ 2) {a b c : Nat} (ha : a < x.m) (hb : b < x.m) (hn : a ≠ b) (hc : c < x.m) : c = a ∨ c = b := by omega
theorem stage_a (ok : x.Ok) (hm : x.m ≤ 2) (I : In1 x i j) (hk : k < x.m) (hkj : k ≠ j) (h2 : i2 < x.n) (hne : i2 ≠ i) (h0 : (P1 x i j).piv i2 k ≠ 0) : Stg x 0 (P2 x i j i2 k).piv (fun a => if a = i2 then (k : Nat) else bas1 x i j a) ((P2 x i j i2 k).row k) true := by
  obtain ⟨e0, ej, ek⟩ := end2 I hk h2 hne h0
  obtain ⟨t, _, _, hD⟩ := P2_t h0
  refine .s0 hD (pow_up (row_lt (N := 222) (P2 x i j i2 k) (P1_lt ok) _) (by decide)) (fun a b => pow_up (P2_lt ok I a b) (by decide)) (fun a => ?_) (fun c hc => ?_) (fun c hc => ?_)
  · have := bas1_b I a
    show 0 ≤ if a = i2 then ((k : Nat) : Int) else bas1 x i j a
    split <;> omega
  · rcases other_col hm I.hj hk (Ne.symm hkj) hc with e | e
    · subst e; rw [e0]; exact Int.le_refl _
    · subst e; rw [P2_k h2]; exact Int.le_refl _
  · rcases other_col hm I.hj hk (Ne.symm hkj) hc with e | e
    · subst e; exact Int.le_of_eq ej
    · subst e; exact Int.le_of_eq ek
theorem stage_b (ok : x.Ok) (hm : x.m ≤ 2) (I : In1 x i j) (hk : k < x.m) (hkj : k ≠ j) (hR : (P1 x i j).piv (x.n + 1) k < 0) (h0 : 0 < (P1 x i j).piv i k) (hz : ∀ a, a < x.n → a ≠ i → (P1 x i j).piv a k = 0) : Stg x 0 (P2 x i j i k).piv (fun a => if a = i then (k : Nat) else bas1 x i j a) ((P2 x i j i k).row k) true := by
  obtain ⟨e0, ej, ek⟩ := end3 I hk hR h0 hz
  obtain ⟨t, _, _, hD⟩ := P2_t (x := x) (i := i) (j := j) (i2 := i) (k := k) (by omega)
  refine .s0 hD (pow_up (row_lt (N := 222) (P2 x i j i k) (P1_lt ok) _) (by decide)) (fun a b => pow_up (P2_lt ok I a b) (by decide)) (fun a => ?_) (fun c hc => ?_) (fun c hc => ?_)
  · have := bas1_b I a
    show 0 ≤ if a = i then ((k : Nat) : Int) else bas1 x i j a
    split <;> omega
  · rcases other_col hm I.hj hk (Ne.symm hkj) hc with e | e
    · subst e; exact e0
    · subst e; rw [P2_k I.hi]; exact Int.le_refl _
  · rcases other_col hm I.hj hk (Ne.symm hkj) hc with e | e
    · subst e; exact ej
    · subst e; exact ek
end
/-- a point that keeps all, or a paper -/
def PointOf (x : Lp) (D : Int) (X : Nat → Int) : Prop := 0 < D ∧ D.natAbs < 2 ^ 1000 ∧ (∀ a, (X a).natAbs < 2 ^ 1000) ∧ ∀ c, c < x.m → x.w c * D ≤ dot x.n (x.p c) X
def PaperOf (x : Lp) (U : Int) (Y : Nat → Int) : Prop := 0 < U ∧ U.natAbs < 2 ^ 1000 ∧ (∀ c, 0 ≤ Y c ∧ (Y c).natAbs < 2 ^ 1000) ∧ x.m = 2 ∧ (∀ a, a < x.n → Y 0 * x.p 0 a + Y 1 * x.p 1 a = 0) ∧ 0 < Y 0 * x.w 0 + Y 1 * x.w 1
def BestD (x : Lp) (d : Dt) : Prop := (∃ D X, PointOf x D X ∧ ∃ q r, d = .tup [.str "best", q, r, .tup ((List.range x.n).map fun a => fracD (X a) D)]) ∨ ∃ U Y, PaperOf x U Y ∧ d = .tup [.str "endless", .tup ((List.range x.m).map fun c => fracD (Y c) U)]
theorem fracD_self {U : Int} (h : 0 < U) : fracD U U = frD 1 1 := by
  have e : ((Int.gcd U U : Nat) : Int) = U := by
    rw [Int.gcd_self]; omega
  unfold fracD
  rw [e, Int.ediv_self (by omega)]
theorem paper_of {x : Lp} {i j k : Nat} (ok : x.Ok) (hm : x.m ≤ 2) (I : In1 x i j) (hk : k < x.m) (hkj : k ≠ j) (hR : (P1 x i j).piv (x.n + 1) k < 0) (h0 : (P1 x i j).piv i k ≤ 0) (hz : ∀ a, a < x.n → a ≠ i → (P1 x i j).piv a k = 0) : PaperOf x ((P1 x i j).row j) fun c => if c = k then (P1 x i j).row j else -((P1 x i j).piv i k) := by
  obtain ⟨e1, e2⟩ := end4 I hk hR h0 hz
  have hj := I.hj
  have hu := P1_u I
  have hul := pow_up (row_lt (N := 110) (P1 x i j) (x.t0_lt ok) j) (show 110 ≤ 1000 by decide)
  refine ⟨hu, hul, fun c => ?_, by omega, fun a ha => ?_, ?_⟩
  · show 0 ≤ (if c = k then _ else _) ∧ (if c = k then (P1 x i j).row j else -((P1 x i j).piv i k)).natAbs < _
    split
    · exact ⟨by omega, hul⟩
    · exact ⟨by omega, by rw [Int.natAbs_neg]; exact pow_up (P1_lt ok _ _) (by decide)⟩
  · have := e1 a ha
    rcases (show (k = 0 ∧ j = 1) ∨ (k = 1 ∧ j = 0) by omega) with ⟨rfl, rfl⟩ | ⟨rfl, rfl⟩
    · simp only [if_true, if_neg (show ¬ (1 : Nat) = 0 by decide)]; omega
    · simp only [if_true, if_neg (show ¬ (0 : Nat) = 1 by decide)]; omega
  · rcases (show (k = 0 ∧ j = 1) ∨ (k = 1 ∧ j = 0) by omega) with ⟨rfl, rfl⟩ | ⟨rfl, rfl⟩
    · simp only [if_true, if_neg (show ¬ (1 : Nat) = 0 by decide)]; omega
    · simp only [if_true, if_neg (show ¬ (0 : Nat) = 1 by decide)]; omega
theorem rowL_set {f : Nat → Int} {n i : Nat} (v : Int) : (rowL f n).set i (.int v) = rowL (fun a => if a = i then v else f a) n := by
  apply List.ext_getElem?
  intro a
  by_cases ha : a < n
  · rw [rg_at ha]
    by_cases e : a = i
    · subst e
      rw [List.getElem?_set_self (by simpa using ha)]; simp
    · rw [List.getElem?_set_ne (Ne.symm e), rg_at ha]; simp [e]
  · rw [List.getElem?_eq_none (by simpa using ha), List.getElem?_eq_none (by simpa using ha)]
end DL
namespace DL
open PySem PySem.Spec PyProof.Rows L2 Hd
/-! ### best_mix -/
abbrev sp_best_mix (C : Addr) : Sp := spP C (G := Lp) Lp.inj BestOk BestD

abbrev N_best_mix : List Str := ["columns", "goal", "worths", "many", "size", "rows", "signs", "basis", "unit", "settled", "entered", "at", "numbers", "place", "own", "sign", "prices"]
def t_best_mix (K : PySem.W.Frag) (C R : Addr) : TS := (tSeq (tPar 3 4 (tCons (tCB (rLen K) (tCons (tVar 0) tNil)) (tCons (tCB (rLen K) (tCons (tVar 1) tNil)) tNil)))
  (tSeq (tAsg (tCall (sp_first_table C) [] E0 (tCons (tVar 0) (tCons (tVar 1) (tCons (tVar 2) tNil)))) (gTup K 2 (gCons (gName 5) (gCons (gName 6) gNil))))
  (tSeq (tAsg (tTup (tCons (tLstRg (tRg2 (tVar 3) (tOp rAdd (tVar 3) (tVar 4)))) (tCons (tC (.int 1)) (tCons (tC (.bl false)) tNil)))) (gTup K 3 (gCons (gName 7) (gCons (gName 8) (gCons (gName 9) gNil)))))
  (tSeq (tWhile (tB (tC (.bl true))) (tSeq (tAsg (tOrV (tVar 9) (tOp rEq (tOp (rIxL K) (tOp (rIxL K) (tVar 5) (tUn rNeg (tC (.int 2)))) (tUn rNeg (tC (.int 1)))) (tC (.int 0)))) (gName 9))
  (tSeq (tAsg (tCall (sp_entering C) [] E0 (tCons (tIf (tB (tVar 9)) (tOp (rIxL K) (tVar 5) (tUn rNeg (tC (.int 1)))) (tOp (rIxL K) (tVar 5) (tUn rNeg (tC (.int 2))))) (tCons (tVar 3) tNil))) (gName 10))
  (tSeq (tIfS (tTest (tOp rIsNo (tVar 10) (tC .non))) tBreak tNext)
  (tSeq (tAsg (tCall (sp_leaving C) [] E0 (tCons (tVar 5) (tCons (tVar 7) (tCons (tVar 10) (tCons (tVar 9) (tCons (tVar 3) tNil)))))) (gName 11))
  (tSeq (tIfS (tTest (tOp rIsNo (tVar 11) (tC .non))) (tSeq (tAsg (tCall (sp_numbers_of C) [] E0 (tCons (tVar 7) (tCons (tLc (iRng1 (tCons (tVar 4) tNil)) (gName 13) tYes (tUn rNeg (tOp (rIxL K) (tOp (rIxL K) (tVar 5) (tVar 13)) (tVar 10))) [13]) (tCons (tVar 8) (tCons (tVar 3) tNil))))) (gName 12))
  (tSeq (tAsg (tTup (tCons (tC (.int 1)) (tCons (tC (.int 1)) tNil))) (gSub (tVar 12) (tVar 10) rSetL))
  (tRet (tTup (tCons (tC (.str "endless")) (tCons (tCB (rTuple K) (tCons (tVar 12) tNil)) tNil)))))) tNext)
  (tSeq (tAsg (tCall (sp_pivoted C) [] E0 (tCons (tVar 5) (tCons (tVar 11) (tCons (tVar 10) (tCons (tVar 8) tNil))))) (gTup K 2 (gCons (gName 5) (gCons (gName 8) gNil))))
  (tAsg (tVar 10) (gSub (tVar 7) (tVar 11) rSetL)))))))))
  (tSeq (tAsg (tCB rRange2 (tCons (tVar 3) (tCons (tOp rAdd (tVar 3) (tVar 4)) tNil))) (gName 14))
  (tSeq (tIfS (tNot (tB (tVar 9))) (tRet (tTup (tCons (tC (.str "none")) (tCons (tCB (rTuple K) (tCons (tLc (iZipR K (tCons (tVar 6) (tCons (tVar 14) tNil))) (gTup K 2 (gCons (gName 15) (gCons (gName 11) gNil))) tYes (tCall (sp_fraction_of C) [] E0 (tCons (tOp rMulW (tVar 15) (tOp rSub (tOp (rIxL K) (tOp (rIxL K) (tVar 5) (tUn rNeg (tC (.int 2)))) (tVar 11)) (tVar 8))) (tCons (tVar 8) tNil))) [15, 11]) tNil)) tNil)))) tNext)
  (tSeq (tAsg (tCB (rTuple K) (tCons (tLc (iZipR K (tCons (tVar 6) (tCons (tVar 14) tNil))) (gTup K 2 (gCons (gName 15) (gCons (gName 11) gNil))) tYes (tCall (sp_fraction_of C) [] E0 (tCons (tOp rMulW (tVar 15) (tOp (rIxL K) (tOp (rIxL K) (tVar 5) (tUn rNeg (tC (.int 1)))) (tVar 11))) (tCons (tVar 8) tNil))) [15, 11]) tNil)) (gName 16))
  (tSeq (tAsg (tCall (sp_numbers_of C) [] E0 (tCons (tVar 7) (tCons (tLc (iRng1 (tCons (tVar 4) tNil)) (gName 13) tYes (tOp (rIxL K) (tOp (rIxL K) (tVar 5) (tVar 13)) (tUn rNeg (tC (.int 1)))) [13]) (tCons (tVar 8) (tCons (tVar 3) tNil))))) (gName 12))
  (tRet (tTup (tCons (tC (.str "best")) (tCons (tCall (sp_fraction_of C) [] E0 (tCons (tOp (rIxL K) (tOp (rIxL K) (tVar 5) (tUn rNeg (tC (.int 1)))) (tUn rNeg (tC (.int 1)))) (tCons (tVar 8) tNil))) (tCons (tCB (rTuple K) (tCons (tVar 12) tNil)) (tCons (tVar 16) tNil))))))))))))))
abbrev onesD (n : Nat) : Dt := .lst ((List.range n).map fun _ => .int 1)
abbrev bmD (x : Lp) (f : Nat → Nat → Int) (b : Nat → Int) (u : Int) (st : Bool) (q10 q11 : Option Sl) : Dl :=
  [some (.sh x.cols), some (.sh x.goal), some (.sh x.worths), some (.sh (.int (x.m : Nat))), some (.sh (.int (x.n : Nat))), some (.sh (tabD f (x.n + 2) x.W)), some (.sh (onesD x.n)), some (.own (rowL b x.n)), some (.sh (.int u)), some (.sh (.bl st)), q10, q11, none, none, none, none, none]
theorem noLst_nums {ds : List Dt} (h : ∀ d ∈ ds, ∃ a b, d = frD a b) : noLstA ds = true := by
  induction ds with
  | nil => rfl
  | cons d ds ih =>
    obtain ⟨a, b, e⟩ := h d List.mem_cons_self
    subst e
    rw [noLstA, ih fun x hx => h x (List.mem_cons_of_mem _ hx)]
    rfl
theorem NmG.noLst {y : NmG} {ds : List Dt} (h : y.Post ds) : noLstA ds = true := noLst_nums fun d hd => by
  obtain ⟨c, hc⟩ := List.mem_iff_getElem?.mp hd
  have hlt := (List.getElem?_eq_some_iff.mp hc).1
  rcases h.2 c (by rw [← h.1]; exact hlt) with ⟨i, _, _, e⟩ | ⟨_, e⟩
  · rw [hc] at e
    exact ⟨_, _, Option.some.inj e⟩
  · rw [hc] at e
    exact ⟨_, _, Option.some.inj e⟩
theorem sd_best_mix (W : Wd) (k : W.Ok) (R : Addr) (x : Lp) (hp : BestOk x) : Sd W (t_best_mix W.K W.C R) (startD N_best_mix.length x.inj) { rt := BestD x, nx := fun _ => BestD x .non } := by
  obtain ⟨ok, hm, hnz⟩ := hp
  have hn60 := ok.n
  refine sq_par (eam_shE ((ed_lenC (Ed.ec (ed_var rfl))).to (z := .int (x.m : Nat)) (by simp)) (eam_shE ((ed_cb (ea_cons (ed_var rfl) ea_nil) cd_lenT).to (z := .int (x.n : Nat)) (by simp)) (eam_nil ⟨_, _, rfl, ?_⟩)))
  refine sq_asgT (er_callE x k (ea_cons (ed_var rfl) (ea_cons (ed_var rfl) (ea_cons (ed_var rfl) ea_nil))) ok (fun d e => e)) fun d e => ?_
  subst e
  refine ⟨_, _, tg_names2 (of_decide_eq_true rfl) (of_decide_eq_true rfl), ?_⟩
  refine sq_parT3 k (eam_ownE ((ef_listRg2 (a := (x.m : Nat)) (b := (x.m : Nat) + (x.n : Nat)) k (ed_var rfl) (ed_op (ed_var rfl) (ed_var rfl) od_I0) (RgOk.of_le (by omega) (by omega) (by omega) (by omega))).to (es := rowL (bas0 x) x.n) (by rw [show ((x.m : Int) + (x.n : Int) - (x.m : Int)).toNat = x.n by omega]; rfl)) (eam_shE ed_int (eam_shE ed_bl (eam_nil ⟨_, _, _, rfl, ?_⟩))))
  -- behind the loop
  refine sq_while (fun mm δ => ∃ f b u st q10 q11, Stg x mm f b u st ∧ δ = bmD x f b u st q10 q11) ⟨2, x.t0, bas0 x, 1, false, none, none, .s2, rfl⟩ ?_
  rintro mm δ' ⟨f, b, u, st, q10, q11, S, rfl⟩
  refine ⟨true, et_B ed_bl, fun _ => ?_, fun h => by cases h⟩
  obtain ⟨hu0, hu1⟩ := S.u0 ok
  have hf := S.lt ok
  have hb0 := S.b0
  have hWm : x.W = x.m + x.n + 1 := rfl
  have aN2 : atI (tabL f (x.n + 2) x.W) (-2) = some (.lst (rowL (f x.n) x.W)) := rg_atN (k := 2) (by decide) (by omega)
  have aN1 : ∀ f : Nat → Nat → Int, atI (tabL f (x.n + 2) x.W) (-1) = some (.lst (rowL (f (x.n + 1)) x.W)) := fun f => rg_atN (k := 1) (by decide) (by omega)
  have aL1 : ∀ g : Nat → Int, atI (rowL g x.W) (-1) = some (.int (g (x.m + x.n))) := fun g => rg_atN (k := 1) (by decide) (by omega)
  refine sq_asgE (d := .bl true) (ed_orV (a := st) (ed_var rfl) (fun h => ?_) (fun h => rfl)) (of_decide_eq_true rfl) ?_
  · subst h
    cases S with
    | s2 => exact (ed_op (ed_ixL (Ed.ec (ed_ixL (Ed.ec (ed_var rfl)) (ed_un ed_int ud_U) aN2)) (ed_un ed_int ud_U) (aL1 _)) ed_int od_eqI).to (by rw [x.t0_s]; rfl)
  refine sq_asg (er_callE ⟨f (x.n + 1), x.W, x.m⟩ k (ea_cons (ed_if (b := true) (et_B (ed_var rfl)) (fun h => ed_ixL (Ed.ec (ed_var rfl)) (ed_un ed_int ud_U) (aN1 f)) (fun h => by cases h)) (ea_cons (ed_var rfl) ea_nil)) ⟨by show x.m ≤ x.W; omega, by show x.m ≤ 1000; omega⟩ (fun d h => h)) (of_decide_eq_true rfl) fun d h => ?_
  rcases h with ⟨rfl, hR⟩ | ⟨c, hc, rfl, hRc⟩
  · -- nothing enters
    refine sq_if (b := true) ((et_test (ed_op (ed_var rfl) ed_non od_isN)).to rfl) (fun _ => ?_) (fun h => by cases h)
    refine sd_seq (M := fun _ => False) (sd_break ?_) fun _ z => z.elim
    have hX := S.fin hR
    show Sd W _ (bmD x f b u true (some (.sh .non)) q11) _
    refine sq_asgE (ed_range2 k (ea_cons (ed_var rfl) (ea_cons (ed_op (ed_var rfl) (ed_var rfl) od_I0) ea_nil))) (of_decide_eq_true rfl) ?_
    refine sq_if (b := false) (et_not (a := true) (et_B (ed_var rfl))) (fun h => by cases h) fun _ => sq_next ?_
    refine sq_asgE (ed_tupleF k (ef_lcAll (List.range x.n) (fun a => .tup [.int 1, .int ((x.m : Int) + (a : Nat))]) (fun a => fracD (f (x.n + 1) (x.m + a)) u) k (YlG.yl ((yg_zipR (lo := (x.m : Nat)) (hi := (x.m : Nat) + (x.n : Nat)) (ea_cons (ed_var rfl) (ea_cons (ed_var rfl) ea_nil)) (RgOk.of_le (by omega) (by omega) (by omega) (by omega)) (by simp; omega)).to (by rw [List.length_map, List.length_range, zipD_rg]))) (by simp; omega) fun a ha => ⟨_, _, tg_names2 (of_decide_eq_true rfl) (of_decide_eq_true rfl), by simp, ?_⟩)) (of_decide_eq_true rfl) ?_
    · have ha' := List.mem_range.mp ha
      refine ed_call (1 * f (x.n + 1) (x.m + a), u) k (ea_cons (ed_op (ed_var rfl) (ed_ixL (Ed.ec (ed_ixL (Ed.ec (ed_var rfl)) (ed_un ed_int ud_U) (aN1 f))) (ed_var rfl) ?_) (od_I (mul_ok (m := 1) (n := 1000) (by decide) (hf _ _) (by decide)))) (ea_cons (ed_var rfl) ea_nil)) ⟨hu0, pow_up hu1 (by decide)⟩ fun d e => ?_
      · show atI (rowL (f (x.n + 1)) x.W) ((x.m : Int) + (a : Nat)) = _
        rw [show (x.m : Int) + (a : Nat) = ((x.m + a : Nat) : Int) by omega]
        exact rg_atI (by omega)
      · rw [e, Int.one_mul]
    refine sq_asg (Efr.er (efr_callB ⟨b, fun a => f a (x.m + x.n), x.n, u, x.m⟩ k (eb_own rfl (eb_cons (Ef.ed (ef_lcAll (List.range x.n) (fun a => .int (a : Nat)) (fun a => .int (f a (x.m + x.n))) k (YlG.yl (yg_rangeN (ea_cons (ed_var rfl) ea_nil) (by omega))) (by simp; omega) fun a ha => ⟨_, _, tg_name (of_decide_eq_true rfl), by simp, ed_ixL (Ed.ec (ed_ixL (Ed.ec (ed_var rfl)) (ed_var rfl) (rg_atI (by have := List.mem_range.mp ha; omega)))) (ed_un ed_int ud_U) (aL1 _)⟩)) (eb_cons (ed_var rfl) (eb_cons (ed_var rfl) eb_nil)))) ⟨by show x.n ≤ 1000; omega, by show x.m ≤ 1000; omega, hu0, pow_up hu1 (by decide), hb0⟩ fun ds h => ⟨NmG.noLst h, h⟩)) (of_decide_eq_true rfl) fun d hd => ?_
    obtain ⟨ds, rfl, hds⟩ := hd
    refine sd_ret (Ed.er (ed_tup k (ea_cons ed_str (ea_cons (ed_call (f (x.n + 1) (x.m + x.n), u) k (ea_cons (ed_ixL (Ed.ec (ed_ixL (Ed.ec (ed_var rfl)) (ed_un ed_int ud_U) (aN1 f))) (ed_un ed_int ud_U) (aL1 _)) (ea_cons (ed_var rfl) ea_nil)) ⟨hu0, pow_up hu1 (by decide)⟩ (fun d e => e)) (ea_cons (ed_cb (ea_cons (ed_var rfl) ea_nil) (cd_tupleL k)) (ea_cons (ed_var rfl) ea_nil)))) (by simp)) ?_)
    exact .inl ⟨u, fun a => f (x.n + 1) (x.m + a), ⟨hu0, hu1, fun a => hf _ _, hX⟩, _, _, rfl⟩
  · -- column c enters
    refine sq_if (b := false) ((et_test (ed_op (ed_var rfl) ed_non od_isN)).to rfl) (fun h => by cases h) fun _ => sq_next ?_
    have hc' : c < x.m := hc
    have hRc : f (x.n + 1) c < 0 := hRc
    have hone : ∀ i j, i < x.n → j < x.n → b i < x.m → b j < x.m → i = j := by
      intro i j hi hj h1 h2
      cases S with
      | s2 => unfold bas0 at h1; omega
      | s1 I =>
        unfold bas1 bas0 at h1 h2
        split at h1 <;> split at h2 <;> omega
      | s0 _ _ _ _ hR _ => have := hR c hc; omega
    refine sq_asg (er_callB ⟨f, x.n + 2, x.W, b, x.n, c, x.m⟩ k (eb_cons (ed_var rfl) (eb_own rfl (eb_cons (ed_var rfl) (eb_cons (ed_var rfl) (eb_cons (ed_var rfl) eb_nil))))) ⟨by show x.n ≤ x.n + 2; omega, by show c < x.W; omega, by show x.n ≤ 1000; omega, hone⟩ fun d h => ⟨?_, h⟩) (of_decide_eq_true rfl) fun d h => ?_
    · rcases h with ⟨i, _, e, _⟩ | ⟨_, ⟨i, _, e, _⟩ | ⟨e, _⟩⟩ <;> subst e <;> rfl
    -- the pivot, told for a row i2
    have pivot : ∀ i2, i2 < x.n → f i2 c ≠ 0 → (∃ m', m' < mm ∧ Stg x m' (PvG.piv ⟨f, x.n + 2, x.W, i2, c, u⟩) (fun a => if a = i2 then (c : Nat) else b a) (PvG.row ⟨f, x.n + 2, x.W, i2, c, u⟩ c) true) → ∀ {P : Pst}, (∀ m' f b u st q10 q11, m' < mm → Stg x m' f b u st → P.nx (bmD x f b u st q10 q11)) →
        Sd W (tSeq (tAsg (tCall (sp_pivoted W.C) [] E0 (tCons (tVar 5) (tCons (tVar 11) (tCons (tVar 10) (tCons (tVar 8) tNil))))) (gTup W.K 2 (gCons (gName 5) (gCons (gName 8) gNil)))) (tAsg (tVar 10) (gSub (tVar 7) (tVar 11) rSetL))) (bmD x f b u true (some (.sh (.int (c : Nat)))) (some (.sh (.int (i2 : Nat))))) P := by
      intro i2 h2 h0 ⟨m', hlt, hS⟩ P hP
      refine sq_asgT (er_callE ⟨f, x.n + 2, x.W, i2, c, u⟩ k (ea_cons (ed_var rfl) (ea_cons (ed_var rfl) (ea_cons (ed_var rfl) (ea_cons (ed_var rfl) ea_nil)))) ⟨by show i2 < x.n + 2; omega, by show c < x.W; omega, by show x.n + 2 ≤ 1000; omega, by show x.W ≤ 1000; omega, hu0, pow_up hu1 (by decide), fun a b => pow_up (hf a b) (by decide)⟩ (fun d e => e)) fun d e => ?_
      subst e
      refine ⟨_, _, tg_names2 (of_decide_eq_true rfl) (of_decide_eq_true rfl), ?_⟩
      refine sd_setL (R := fun d => d = .int (c : Nat)) (l := i2) k rfl (ed_var rfl) (ed_var rfl) (ixN_nat (by simpa using h2)) fun d e => ?_
      subst e
      rw [rowL_set]
      exact hP m' _ _ _ true (some (.sh (.int (c : Nat)))) (some (.sh (.int (i2 : Nat)))) hlt hS
    cases S with
    | s2 =>
      have hno : ¬ ∀ i, i < x.n → (x.m : Int) ≤ bas0 x i → x.t0 i c = 0 := fun hz => by
        obtain ⟨a, ha, hpa⟩ := hnz c hc'
        have := hz a ha (by unfold bas0; omega)
        rw [x.t0_p ha hc'] at this
        exact hpa this
      rcases h with ⟨i, hi, rfl, _, h0⟩ | ⟨hz, _⟩
      · have hi : i < x.n := hi
        have h0 : x.t0 i c ≠ 0 := h0
        have hI : In1 x i c := ⟨hi, hc', by rw [x.t0_p hi hc'] at h0; exact h0⟩
        refine sq_if (b := false) ((et_test (ed_op (ed_var rfl) ed_non od_isN)).to rfl) (fun h => by cases h) fun _ => sq_next ?_
        refine pivot i hi h0 ⟨1, by decide, ?_⟩ fun m' f b u st q10 q11 hl hS => ⟨m', hl, f, b, u, st, q10, q11, hS, rfl⟩
        · have := Stg.s1 hI
          exact this
      · exact absurd hz hno
    | @s1 i j I =>
      have hcj : c ≠ j := fun e => by
        subst e
        have : (P1 x i c).piv (x.n + 1) c < 0 := hRc
        rw [P1_j0 I] at this
        omega
      have hR' : (P1 x i j).piv (x.n + 1) c < 0 := hRc
      have bi : ∀ a, bas1 x i j a < x.m → a = i := fun a h => by
        unfold bas1 bas0 at h
        split at h
        · assumption
        · omega
      rcases h with ⟨i2, h2, rfl, hb2, h0⟩ | ⟨hz, h⟩
      · have h2 : i2 < x.n := h2
        have h0 : (P1 x i j).piv i2 c ≠ 0 := h0
        have hne : i2 ≠ i := fun e => by
          have hb2 : (x.m : Int) ≤ bas1 x i j i2 := hb2
          unfold bas1 at hb2
          rw [if_pos e] at hb2
          have := I.hj
          omega
        refine sq_if (b := false) ((et_test (ed_op (ed_var rfl) ed_non od_isN)).to rfl) (fun h => by cases h) fun _ => sq_next ?_
        refine pivot i2 h2 h0 ⟨0, by decide, ?_⟩ fun m' f b u st q10 q11 hl hS => ⟨m', hl, f, b, u, st, q10, q11, hS, rfl⟩
        · exact stage_a ok hm I hc' hcj h2 hne h0
      · have hz' : ∀ a, a < x.n → a ≠ i → (P1 x i j).piv a c = 0 := fun a ha hne => hz a ha (by
          show (x.m : Int) ≤ bas1 x i j a
          unfold bas1 bas0
          rw [if_neg hne]
          omega)
        rcases h with ⟨i2, h2, rfl, hb2, h0⟩ | ⟨rfl, hle⟩
        · have h2 : i2 < x.n := h2
          have e2 : i2 = i := bi i2 hb2
          subst e2
          have h0 : 0 < (P1 x i2 j).piv i2 c := h0
          refine sq_if (b := false) ((et_test (ed_op (ed_var rfl) ed_non od_isN)).to rfl) (fun h => by cases h) fun _ => sq_next ?_
          refine pivot i2 h2 (by omega) ⟨0, by decide, ?_⟩ fun m' f b u st q10 q11 hl hS => ⟨m', hl, f, b, u, st, q10, q11, hS, rfl⟩
          · exact stage_b ok hm I hc' hcj hR' h0 hz'
        · have hle' : (P1 x i j).piv i c ≤ 0 := hle i I.hi (by
            show bas1 x i j i < x.m
            unfold bas1
            rw [if_pos rfl]
            have := I.hj
            omega)
          refine sq_if (b := true) ((et_test (ed_op (ed_var rfl) ed_non od_isN)).to rfl) (fun _ => sd_seq (M := fun _ => False) ?_ fun _ z => z.elim) (fun h => by cases h)
          refine sq_asgO (efr_callB ⟨bas1 x i j, fun a => -((P1 x i j).piv a c), x.n, (P1 x i j).row j, x.m⟩ k (eb_own rfl (eb_cons (Ef.ed (ef_lcAll (List.range x.n) (fun a => .int (a : Nat)) (fun a => .int (-((P1 x i j).piv a c))) k (YlG.yl (yg_rangeN (ea_cons (ed_var rfl) ea_nil) (by omega))) (by simp; omega) fun a ha => ⟨_, _, tg_name (of_decide_eq_true rfl), by simp, ed_un (ed_ixL (Ed.ec (ed_ixL (Ed.ec (ed_var rfl)) (ed_var rfl) (rg_atI (by have := List.mem_range.mp ha; omega)))) (ed_var rfl) (rg_atI (by omega))) ud_U⟩)) (eb_cons (ed_var rfl) (eb_cons (ed_var rfl) eb_nil)))) ⟨by show x.n ≤ 1000; omega, by show x.m ≤ 1000; omega, hu0, pow_up hu1 (by decide), bas1_b I⟩ fun ds h => ⟨NmG.noLst h, h⟩) (of_decide_eq_true rfl) fun ds hds => ?_
          have hlen : ds.length = x.m := hds.1
          refine sq_setL (R := fun d => d = frD 1 1) (l := c) k rfl (ed_tup k (ea_cons ed_int (ea_cons ed_int ea_nil)) (by simp)) (ed_var rfl) (ixN_nat (by omega)) fun d e => ?_
          subst e
          refine sd_ret (er_tup (PL := fun l => l = [.str "endless", .tup (ds.set c (frD 1 1))]) k (ear_cons (PR := fun _ => True) ed_str fun d e => ear_cons (PR := fun _ => True) (er_tupleC (P := fun d => d = .tup (ds.set c (frD 1 1))) k (ec_var rfl) rfl) fun d2 e2 => Ear.imp ear_nil fun _ e3 => by subst e e2 e3; rfl) fun l e => ?_)
          subst e
          refine ⟨by simp, .inr ⟨_, _, paper_of ok hm I hc' hcj hR' hle' hz', ?_⟩⟩
          have key : ds.set c (frD 1 1) = (List.range x.m).map fun a => fracD (if a = c then (P1 x i j).row j else -((P1 x i j).piv i c)) ((P1 x i j).row j) := by
           apply List.ext_getElem?
           intro a
           by_cases ha : a < x.m
           · rw [rg_at ha]
             by_cases e : a = c
             · subst e
               rw [List.getElem?_set_self (by omega), if_pos rfl, fracD_self (P1_u I)]
             · rw [List.getElem?_set_ne (Ne.symm e), if_neg e]
               have ea : a = j := by
                 rcases other_col hm I.hj hc' (Ne.symm hcj) ha with h | h
                 · exact h
                 · exact absurd h e
               subst ea
               rcases hds.2 a ha with ⟨i2, hi2, hb2, h⟩ | ⟨hno, _⟩
               · have : i2 = i := bi i2 (by
                   have hb2 : bas1 x i a i2 = (a : Nat) := hb2
                   rw [hb2]; omega)
                 subst this
                 exact h
               · exact absurd (show bas1 x i a i = (a : Nat) by unfold bas1; rw [if_pos rfl]) (hno i I.hi)
           · rw [List.getElem?_eq_none (by rw [List.length_set]; omega), List.getElem?_eq_none (by simpa using ha)]
          rw [key]
    | s0 _ _ _ _ hR _ =>
      have := hR c hc'
      exact absurd hRc (by show ¬ f (x.n + 1) c < 0; omega)

theorem sc_best_mix : FnScope N_best_mix ["columns", "goal", "worths"] (defScope s_best_mix) := ⟨rfl, rfl, rfl, by decide +kernel, rfl, by decide +kernel, by decide +kernel⟩
section
variable {P : Program} {w : World} {K : PySem.W.Frag} {mg : Str → Option Value} {base : Heap}
theorem b_best_mix (T : Fx K mg) : Binds K T.f_best_mix.fd ["columns", "goal", "worths"] [] := T.f_best_mix.F.bindsN fun _ _ _ _ _ _ us hl => match us, hl with | [_, _, _], _ => rfl
theorem d_best_mix (T : Fx K mg) {cdv : Value} {A : Around} {outer : List Env} {s : Shared} {H : Hp} {E : XK} (hr : Room 3 (A.deeper (envOfC "best_mix" (defScope s_best_mix) s.heap.objs.size T.f_best_mix.f cdv))) : PSs (cxOf CX0 P w K mg base N_best_mix "best_mix" (defScope s_best_mix) T.f_best_mix.f cdv A outer s H E).nox (defBody s_best_mix) (t_best_mix K T.C T.R) :=
  have nd := sc_best_mix.nd
  (pss_cons (ps_par (i := 3) (j := 4) rfl nd rfl rfl (by decide) rfl rfl (pa_cons (pe_callB call_len rfl T.b_len boot_len (pa_cons (pv 0) pa_nil)) (pa_cons (pe_callB call_len rfl T.b_len boot_len (pa_cons (pv 1) pa_nil)) pa_nil)) rfl)
  (pss_cons (ps_asg (pe_call (ok_first_table T) (hr.mono (by decide)) rfl T.f_first_table.g T.f_first_table.F.kp (b_first_table T) .nil pass0 (pa_cons (pv 0) (pa_cons (pv 1) (pa_cons (pv 2) pa_nil)))) (pg_tup rfl (pgs_cons (pg_name (i := 5) nd rfl (by first | exact Or.inl rfl | exact Or.inr rfl)) (pgs_cons (pg_name (i := 6) nd rfl (by first | exact Or.inl rfl | exact Or.inr rfl)) pgs_nil))))
  (pss_cons (ps_asg (pe_tup (pa_cons (pe_listRg rfl rfl T.b_list (prg_2 rfl T.b_range (pv 3) (pe_op op_add (pv 3) (pv 4)))) (pa_cons pe_int (pa_cons pe_bl pa_nil)))) (pg_tup rfl (pgs_cons (pg_name (i := 7) nd rfl (by first | exact Or.inl rfl | exact Or.inr rfl)) (pgs_cons (pg_name (i := 8) nd rfl (by first | exact Or.inl rfl | exact Or.inr rfl)) (pgs_cons (pg_name (i := 9) nd rfl (by first | exact Or.inl rfl | exact Or.inr rfl)) pgs_nil)))))
  (pss_cons (ps_while PassesOwn.never (pt_val pe_bl) (pss_cons (ps_set (i := 9) nd rfl (by first | exact Or.inl rfl | exact Or.inr rfl) (pe_or (pv 9) (pe_one (pe_cmpR op_eq (pe_ix ix_list (pe_ix ix_list (pv 5) (pe_un un_neg pe_int) (fun _ _ => rfl)) (pe_un un_neg pe_int) (fun _ _ => rfl)) pe_int (nomark _)))))
  (pss_cons (ps_set (i := 10) nd rfl (by first | exact Or.inl rfl | exact Or.inr rfl) (pe_call (ok_entering T) (hr.mono (by decide)) rfl T.f_entering.g T.f_entering.F.kp (b_entering T) .nil pass0 (pa_cons (pe_ifExp (pt_val (pv 9)) (pe_ix ix_list (pv 5) (pe_un un_neg pe_int) (fun _ _ => rfl)) (pe_ix ix_list (pv 5) (pe_un un_neg pe_int) (fun _ _ => rfl))) (pa_cons (pv 3) pa_nil))))
  (pss_cons (ps_if (pt_cmpR o_isN (pv 10) pe_non (nomark _)) (pss_one ps_break) pss_nil)
  (pss_cons (ps_set (i := 11) nd rfl (by first | exact Or.inl rfl | exact Or.inr rfl) (pe_call (ok_leaving T) (hr.mono (by decide)) rfl T.f_leaving.g T.f_leaving.F.kp (b_leaving T) .nil pass0 (pa_cons (pv 5) (pa_cons (pv 7) (pa_cons (pv 10) (pa_cons (pv 9) (pa_cons (pv 3) pa_nil)))))))
  (pss_cons (ps_if (pt_cmpR o_isN (pv 11) pe_non (nomark _)) (pss_cons (ps_set (i := 12) nd rfl (by first | exact Or.inl rfl | exact Or.inr rfl) (pe_call (ok_numbers_of T) (hr.mono (by decide)) rfl T.f_numbers_of.g T.f_numbers_of.F.kp (b_numbers_of T) .nil pass0 (pa_cons (pv 7) (pa_cons (pe_lc (own := [("place", 13)]) (g := (gName 13)) (tt := tYes) rfl nd (pi_range1 rfl T.b_range (pa_cons (pv 4) pa_nil)) (blkOk_by (by kernel_rfl)) (fun _ _ _ _ _ => (pg_name (i := 13) nd rfl (by first | exact Or.inl rfl | exact Or.inr rfl))) (fun _ _ _ _ _ => pts_nil) (fun _ _ _ _ _ => (pe_un un_neg (pe_ix ix_list (pe_ix ix_list (pv 5) (pv 13) (fun _ _ => rfl)) (pv 10) (fun _ _ => rfl))))) (pa_cons (pv 8) (pa_cons (pv 3) pa_nil))))))
  (pss_cons (ps_asg (pe_tup (pa_cons pe_int (pa_cons pe_int pa_nil))) (pg_sub (pv 12) (pv 10) set_list (fun _ => rfl)))
  (pss_one (ps_ret (pe_tup (pa_cons pe_str (pa_cons (pe_callTy call_tuple_of rfl T.b_tuple boot_tuple (pa_cons (pv 12) pa_nil)) pa_nil))))))) pss_nil)
  (pss_cons (ps_asg (pe_call (ok_pivoted T) (hr.mono (by decide)) rfl T.f_pivoted.g T.f_pivoted.F.kp (b_pivoted T) .nil pass0 (pa_cons (pv 5) (pa_cons (pv 11) (pa_cons (pv 10) (pa_cons (pv 8) pa_nil))))) (pg_tup rfl (pgs_cons (pg_name (i := 5) nd rfl (by first | exact Or.inl rfl | exact Or.inr rfl)) (pgs_cons (pg_name (i := 8) nd rfl (by first | exact Or.inl rfl | exact Or.inr rfl)) pgs_nil))))
  (pss_one (ps_asg (pv 10) (pg_sub (pv 7) (pv 11) set_list (fun _ => rfl)))))))))))
  (pss_cons (ps_set (i := 14) nd rfl (by first | exact Or.inl rfl | exact Or.inr rfl) (pe_callTy cr_range2 rfl T.b_range PyProof.Rows.boot_range (pa_cons (pv 3) (pa_cons (pe_op op_add (pv 3) (pv 4)) pa_nil))))
  (pss_cons (ps_if (pt_not (pt_val (pv 9))) (pss_one (ps_ret (pe_tup (pa_cons pe_str (pa_cons (pe_callTy call_tuple_of rfl T.b_tuple boot_tuple (pa_cons (pe_lc (own := [("sign", 15), ("at", 11)]) (g := (gTup K 2 (gCons (gName 15) (gCons (gName 11) gNil)))) (tt := tYes) rfl nd (pi_zipR rfl T.b_zip (pa_cons (pv 6) (pa_cons (pv 14) pa_nil))) (blkOk_by (by kernel_rfl)) (fun _ _ _ _ _ => (pg_tup rfl (pgs_cons (pg_name (i := 15) nd rfl (by first | exact Or.inl rfl | exact Or.inr rfl)) (pgs_cons (pg_name (i := 11) nd rfl (by first | exact Or.inl rfl | exact Or.inr rfl)) pgs_nil)))) (fun _ _ _ _ _ => pts_nil) (fun _ _ _ _ _ => (pe_call (ok_fraction_of T) (hr.mono (by decide)) rfl T.f_fraction_of.g T.f_fraction_of.F.kp (b_fraction_of T) .nil pass0 (pa_cons (pe_op op_mulW (pv 15) (pe_op op_sub (pe_ix ix_list (pe_ix ix_list (pv 5) (pe_un un_neg pe_int) (fun _ _ => rfl)) (pv 11) (fun _ _ => rfl)) (pv 8))) (pa_cons (pv 8) pa_nil))))) pa_nil)) pa_nil))))) pss_nil)
  (pss_cons (ps_set (i := 16) nd rfl (by first | exact Or.inl rfl | exact Or.inr rfl) (pe_callTy call_tuple_of rfl T.b_tuple boot_tuple (pa_cons (pe_lc (own := [("sign", 15), ("at", 11)]) (g := (gTup K 2 (gCons (gName 15) (gCons (gName 11) gNil)))) (tt := tYes) rfl nd (pi_zipR rfl T.b_zip (pa_cons (pv 6) (pa_cons (pv 14) pa_nil))) (blkOk_by (by kernel_rfl)) (fun _ _ _ _ _ => (pg_tup rfl (pgs_cons (pg_name (i := 15) nd rfl (by first | exact Or.inl rfl | exact Or.inr rfl)) (pgs_cons (pg_name (i := 11) nd rfl (by first | exact Or.inl rfl | exact Or.inr rfl)) pgs_nil)))) (fun _ _ _ _ _ => pts_nil) (fun _ _ _ _ _ => (pe_call (ok_fraction_of T) (hr.mono (by decide)) rfl T.f_fraction_of.g T.f_fraction_of.F.kp (b_fraction_of T) .nil pass0 (pa_cons (pe_op op_mulW (pv 15) (pe_ix ix_list (pe_ix ix_list (pv 5) (pe_un un_neg pe_int) (fun _ _ => rfl)) (pv 11) (fun _ _ => rfl))) (pa_cons (pv 8) pa_nil))))) pa_nil)))
  (pss_cons (ps_set (i := 12) nd rfl (by first | exact Or.inl rfl | exact Or.inr rfl) (pe_call (ok_numbers_of T) (hr.mono (by decide)) rfl T.f_numbers_of.g T.f_numbers_of.F.kp (b_numbers_of T) .nil pass0 (pa_cons (pv 7) (pa_cons (pe_lc (own := [("place", 13)]) (g := (gName 13)) (tt := tYes) rfl nd (pi_range1 rfl T.b_range (pa_cons (pv 4) pa_nil)) (blkOk_by (by kernel_rfl)) (fun _ _ _ _ _ => (pg_name (i := 13) nd rfl (by first | exact Or.inl rfl | exact Or.inr rfl))) (fun _ _ _ _ _ => pts_nil) (fun _ _ _ _ _ => (pe_ix ix_list (pe_ix ix_list (pv 5) (pv 13) (fun _ _ => rfl)) (pe_un un_neg pe_int) (fun _ _ => rfl)))) (pa_cons (pv 8) (pa_cons (pv 3) pa_nil))))))
  (pss_one (ps_ret (pe_tup (pa_cons pe_str (pa_cons (pe_call (ok_fraction_of T) (hr.mono (by decide)) rfl T.f_fraction_of.g T.f_fraction_of.F.kp (b_fraction_of T) .nil pass0 (pa_cons (pe_ix ix_list (pe_ix ix_list (pv 5) (pe_un un_neg pe_int) (fun _ _ => rfl)) (pe_un un_neg pe_int) (fun _ _ => rfl)) (pa_cons (pv 8) pa_nil))) (pa_cons (pe_callTy call_tuple_of rfl T.b_tuple boot_tuple (pa_cons (pv 12) pa_nil)) (pa_cons (pv 16) pa_nil)))))))))))))))
theorem ok_best_mix (T : Fx K mg) : FnOk P w K mg base CX0 4 T.f_best_mix.f T.f_best_mix.fd ["columns", "goal", "worths"] (sp_best_mix T.C) :=
  T.f_best_mix.F.ok sc_best_mix (fun vs H Q E ⟨A, x, _, r, _⟩ => by rw [r.length]; rfl) fun cdv A outer s H vs Q E hr h => ⟨t_best_mix K T.C T.R, PSs.nox (d_best_mix T hr), run_P K h fun W k x hC hK hp => by subst hK; rw [← hC]; exact sd_best_mix W k T.R x hp⟩
end
end DL
namespace DL
open PySem PySem.Spec PyProof.Rows L2 Hd
/-! ### rows_of_ends -/
abbrev sp_rows_of_ends (C : Addr) : Sp := spP C (G := Nat) (fun n => [boxD n]) (fun n => n ≤ 1000) (fun _ d => d = .lst [])

abbrev N_rows_of_ends : List Str := ["box", "found", "at", "low", "high", "end", "sign", "parts", "place"]
def t_rows_of_ends (K : PySem.W.Frag) (C R : Addr) : TS := (tSeq (tAsg (tLst tNil) (gName 1))
  (tSeq (tFor (iEnumT K (tCons (tVar 0) tNil)) (gTup K 2 (gCons (gName 2) (gCons (gTup K 2 (gCons (gName 3) (gCons (gName 4) gNil))) gNil))) (tFor (iTup K (tTup (tCons (tTup (tCons (tVar 3) (tCons (tC (.int 1)) tNil))) (tCons (tTup (tCons (tVar 4) (tCons (tUn rNeg (tC (.int 1))) tNil))) tNil)))) (gTup K 2 (gCons (gName 5) (gCons (gName 6) gNil))) (tIfS (tTest (tOp rNotNo (tVar 5) (tC .non))) (tSeq tNever
  tNever) tNext)))
  (tRet (tVar 1))))
theorem sd_rows_of_ends (W : Wd) (k : W.Ok) (R : Addr) (x : Nat) (hp : x ≤ 1000) : Sd W (t_rows_of_ends W.K W.C R) (startD N_rows_of_ends.length [boxD x]) { rt := fun d => d = .lst [], nx := fun _ => Dt.non = .lst [] } := by
  refine sq_asgOE (ef_lst k ea_nil (by simp)) (of_decide_eq_true rfl) ?_
  refine sq_for k (yg_enumT (ea_cons (ed_var rfl) ea_nil)) (fun i δ => ∃ q1 q2 q3 q4 q5, δ = [some (.sh (boxD x)), some (.own []), q1, q2, q3, q4, q5, none, none]) ⟨_, _, _, _, _, rfl⟩ ?_ ?_
  · rintro i d δ' hd ⟨q1, q2, q3, q4, q5, rfl⟩
    obtain ⟨hi, rfl⟩ := enum_rg hd
    refine ⟨_, _, tg_tup2 (tg_name (of_decide_eq_true rfl)) (tg_names2 (of_decide_eq_true rfl) (of_decide_eq_true rfl)), ?_⟩
    refine sd_for k (yg_tup (ed_tup k (ea_cons (ed_tup k (ea_cons (ed_var rfl) (ea_cons ed_int ea_nil)) (by simp)) (ea_cons (ed_tup k (ea_cons (ed_var rfl) (ea_cons (ed_un ed_int ud_U) ea_nil)) (by simp)) ea_nil)) (by simp))) (fun i δ => ∃ q1 q2 q3 q4 q5, δ = [some (.sh (boxD x)), some (.own []), q1, q2, q3, q4, q5, none, none]) ⟨_, _, _, _, _, rfl⟩ ?_ ?_
    · rintro i2 d δ' hd ⟨q1, q2, q3, q4, q5, rfl⟩
      have : ∃ s, d = .tup [.non, .int s] := by
        match i2, hd with
        | 0, hd => exact ⟨1, (Option.some.inj hd).symm⟩
        | 1, hd => exact ⟨_, (Option.some.inj hd).symm⟩
      obtain ⟨s, rfl⟩ := this
      refine ⟨_, _, tg_names2 (of_decide_eq_true rfl) (of_decide_eq_true rfl), ?_⟩
      exact sd_if (b := false) (et_test (ed_op (ed_var rfl) ed_non od_notN)) (fun h => by cases h) fun _ => sd_next ⟨_, _, _, _, _, rfl⟩
    · rintro δ' ⟨q1, q2, q3, q4, q5, rfl⟩
      exact ⟨_, _, _, _, _, rfl⟩
  · rintro δ' ⟨q1, q2, q3, q4, q5, rfl⟩
    exact sd_retO rfl rfl

theorem sc_rows_of_ends : FnScope N_rows_of_ends ["box"] (defScope s_rows_of_ends) := ⟨rfl, rfl, rfl, by decide +kernel, rfl, by decide +kernel, by decide +kernel⟩
section
variable {P : Program} {w : World} {K : PySem.W.Frag} {mg : Str → Option Value} {base : Heap}
theorem b_rows_of_ends (T : Fx K mg) : Binds K T.f_rows_of_ends.fd ["box"] [] := T.f_rows_of_ends.F.bindsN fun _ _ _ _ _ _ us hl => match us, hl with | [_], _ => rfl
theorem d_rows_of_ends (T : Fx K mg) {cdv : Value} {A : Around} {outer : List Env} {s : Shared} {H : Hp} {E : XK} (hr : Room 0 (A.deeper (envOfC "rows_of_ends" (defScope s_rows_of_ends) s.heap.objs.size T.f_rows_of_ends.f cdv))) : PSs (cxOf CX0 P w K mg base N_rows_of_ends "rows_of_ends" (defScope s_rows_of_ends) T.f_rows_of_ends.f cdv A outer s H E).nox (defBody s_rows_of_ends) (t_rows_of_ends K T.C T.R) :=
  have nd := sc_rows_of_ends.nd
  (pss_cons (ps_set (i := 1) nd rfl (by first | exact Or.inl rfl | exact Or.inr rfl) (pe_lst pa_nil))
  (pss_cons (ps_for PassesOwn.never rfl (pi_enumT rfl T.b_enumerate (pa_cons (pv 0) pa_nil)) (pg_tup rfl (pgs_cons (pg_name (i := 2) nd rfl (by first | exact Or.inl rfl | exact Or.inr rfl)) (pgs_cons (pg_tup rfl (pgs_cons (pg_name (i := 3) nd rfl (by first | exact Or.inl rfl | exact Or.inr rfl)) (pgs_cons (pg_name (i := 4) nd rfl (by first | exact Or.inl rfl | exact Or.inr rfl)) pgs_nil))) pgs_nil))) (pss_one (ps_for PassesOwn.never rfl (pi_tup (pe_tup (pa_cons (pe_tup (pa_cons (pv 3) (pa_cons pe_int pa_nil))) (pa_cons (pe_tup (pa_cons (pv 4) (pa_cons (pe_un un_neg pe_int) pa_nil))) pa_nil)))) (pg_tup rfl (pgs_cons (pg_name (i := 5) nd rfl (by first | exact Or.inl rfl | exact Or.inr rfl)) (pgs_cons (pg_name (i := 6) nd rfl (by first | exact Or.inl rfl | exact Or.inr rfl)) pgs_nil))) (pss_one (ps_if (pt_cmpR o_notN (pv 5) pe_non (nomark _)) (pss_cons ps_never
  (pss_one ps_never)) pss_nil)))))
  (pss_one (ps_ret (pv 1)))))
theorem ok_rows_of_ends (T : Fx K mg) : FnOk P w K mg base CX0 1 T.f_rows_of_ends.f T.f_rows_of_ends.fd ["box"] (sp_rows_of_ends T.C) :=
  T.f_rows_of_ends.F.ok sc_rows_of_ends (fun vs H Q E ⟨A, x, _, r, _⟩ => by rw [r.length]; rfl) fun cdv A outer s H vs Q E hr h => ⟨t_rows_of_ends K T.C T.R, PSs.nox (d_rows_of_ends T hr), run_P K h fun W k x hC hK hp => by subst hK; rw [← hC]; exact sd_rows_of_ends W k T.R x hp⟩
end
/-! ### point_or_numbers -/
/-- rows as columns -/
def lpOf (rs : List Row) (n : Nat) : Lp := ⟨rs.length, n, fun j a => (rs.getD j ([], 0)).1.getD a 0, fun j => (rs.getD j ([], 0)).2⟩
def PoN (x : Lp) (d : Dt) : Prop := (∃ D X, PointOf x D X ∧ d = .tup [.str "point", .tup ((List.range x.n).map fun a => fracD (X a) D)]) ∨ ∃ U Y, PaperOf x U Y ∧ d = .tup [.str "paper", .tup ((List.range x.m).map fun c => fracD (Y c) U)]
structure RowsIn (n : Nat) (rs : List Row) : Prop where
  n1 : 1 ≤ n
  n6 : n ≤ 60
  l : rs.length ≤ 2
  r : ∀ r ∈ rs, rowOk n r
abbrev sp_point_or_numbers (C : Addr) : Sp := spP C (G := Nat × List Row) (fun x => [.lst (x.2.map rD), boxD x.1]) (fun x => RowsIn x.1 x.2) (fun x d => PoN (lpOf x.2 x.1) d)

abbrev N_point_or_numbers : List Str := ["rows", "box", "both", "answer", "parts", "bound"]
def t_point_or_numbers (K : PySem.W.Frag) (C R : Addr) : TS := (tSeq (tAsg (tOp rCat (tVar 0) (tCall (sp_rows_of_ends C) [] E0 (tCons (tVar 1) tNil))) (gName 2))
  (tSeq (tAsg (tCall (sp_best_mix C) [] E0 (tCons (tLc (iList K (tVar 2)) (gTup K 2 (gCons (gName 4) (gCons (gName 5) gNil))) tYes (tVar 4) [4, 5]) (tCons (tOp (rMulT K) (tTup (tCons (tC (.int 0)) tNil)) (tCB (rLen K) (tCons (tVar 1) tNil))) (tCons (tLc (iList K (tVar 2)) (gTup K 2 (gCons (gName 4) (gCons (gName 5) gNil))) tYes (tVar 5) [4, 5]) tNil)))) (gName 3))
  (tSeq (tIfS (tTest (tOp rEq (tOp (rIxT K) (tVar 3) (tC (.int 0))) (tC (.str "endless")))) (tRet (tTup (tCons (tC (.str "paper")) (tCons (tSl (rSlA K) (tOp (rIxT K) (tVar 3) (tC (.int 1))) tNoPart (tPart (tCB (rLen K) (tCons (tVar 0) tNil)))) tNil)))) tNext)
  (tRet (tTup (tCons (tC (.str "point")) (tCons (tOp (rIxT K) (tVar 3) (tC (.int 3))) tNil)))))))
theorem lpOf_cols {n : Nat} {rs : List Row} (h : ∀ r ∈ rs, rowOk n r) : Dt.lst (rs.map fun r => inD r.1) = (lpOf rs n).cols := by
  congr 1
  rw [getD_rg rs ([], 0)]
  apply List.map_congr_left
  intro j hj
  have hj' : j < rs.length := List.mem_range.mp hj
  have hm : rs.getD j ([], 0) ∈ rs := by
    rw [List.getD_eq_getElem?_getD, List.getElem?_eq_getElem hj']
    exact List.getElem_mem hj'
  have hl := (h _ hm).1
  have e := getD_rg (rs.getD j ([], 0)).1 0 Dt.int
  rw [hl] at e
  exact congrArg Dt.tup e
theorem lpOf_worths {n : Nat} {rs : List Row} : Dt.lst (rs.map fun r => .int r.2) = (lpOf rs n).worths := by
  congr 1
  exact getD_rg rs ([], 0) _
theorem lpOf_ok {n : Nat} {rs : List Row} (h : RowsIn n rs) : BestOk (lpOf rs n) := by
  have hmem : ∀ j, rs.getD j ([], 0) ∈ rs ∨ rs.getD j ([], 0) = ([], 0) := fun j => by
    rw [List.getD_eq_getElem?_getD]
    cases e : rs[j]? with
    | none => exact .inr rfl
    | some r => exact .inl (List.mem_of_getElem? e)
  refine ⟨⟨Nat.le_trans h.l (by decide), h.n6, fun j a => ?_, fun j => ?_⟩, h.l, fun j hj => ?_⟩
  · show ((rs.getD j ([], 0)).1.getD a 0).natAbs < _
    rw [List.getD_eq_getElem?_getD]
    cases e : (rs.getD j ([], 0)).1[a]? with
    | none => decide
    | some v =>
      rcases hmem j with hm | hm
      · exact (h.r _ hm).2.2.2 v (List.mem_cons_of_mem _ (List.mem_of_getElem? e))
      · rw [hm] at e; cases e
  · show ((rs.getD j ([], 0)).2).natAbs < _
    rcases hmem j with hm | hm
    · exact (h.r _ hm).2.2.2 _ List.mem_cons_self
    · rw [hm]; decide
  · have hj' : j < rs.length := hj
    have hm : rs.getD j ([], 0) ∈ rs := by
      rw [List.getD_eq_getElem?_getD, List.getElem?_eq_getElem hj']
      exact List.getElem_mem hj'
    obtain ⟨y, hy, h0⟩ := (h.r _ hm).2.1
    obtain ⟨a, ha⟩ := List.mem_iff_getElem?.mp hy
    refine ⟨a, ?_, ?_⟩
    · show a < n
      rw [← (h.r _ hm).1]
      exact (List.getElem?_eq_some_iff.mp ha).1
    · show (rs.getD j ([], 0)).1.getD a 0 ≠ 0
      rw [List.getD_eq_getElem?_getD, ha]
      exact h0
theorem sd_point_or_numbers (W : Wd) (k : W.Ok) (R : Addr) (x : Nat × List Row) (hp : RowsIn x.1 x.2) : Sd W (t_point_or_numbers W.K W.C R) (startD N_point_or_numbers.length [.lst (x.2.map rD), boxD x.1]) { rt := PoN (lpOf x.2 x.1), nx := fun _ => PoN (lpOf x.2 x.1) .non } := by
  obtain ⟨n, rs⟩ := x
  have h1 := hp.n1
  have h6 := hp.n6
  have hl := hp.l
  simp only at h1 h6 hl
  refine sq_asgE ((Ef.ed (ef_cat k (Ed.ec (ed_var rfl)) (Ed.ec (ed_call (z := .lst []) n k (ea_cons (ed_var rfl) ea_nil) (by show n ≤ 1000; omega) (fun d e => e))) (by simp; omega))).to (z := .lst (rs.map rD)) (by simp)) (of_decide_eq_true rfl) ?_
  refine sq_asg (er_callE (P := BestD (lpOf rs n)) (lpOf rs n) k (ea_cons ((Ef.ed (ef_lcAll rs rD (fun r => inD r.1) k (YlG.yl (yg_list (ed_var rfl))) (by omega) fun r hr => ⟨_, _, tg_names2 (of_decide_eq_true rfl) (of_decide_eq_true rfl), by simp, ed_var rfl⟩)).to (lpOf_cols hp.r)) (ea_cons ((ed_op (ed_tup k (ea_cons ed_int ea_nil) (by simp)) (ed_cb (ea_cons (ed_var rfl) ea_nil) cd_lenT) (od_mulT k (by simp; omega) (by simp; omega) (by simp) (by simp))).to (z := (lpOf rs n).goal) (by rw [rep_rg]; simp; rfl)) (ea_cons ((Ef.ed (ef_lcAll rs rD (fun r => .int r.2) k (YlG.yl (yg_list (ed_var rfl))) (by omega) fun r hr => ⟨_, _, tg_names2 (of_decide_eq_true rfl) (of_decide_eq_true rfl), by simp, ed_var rfl⟩)).to lpOf_worths) ea_nil))) (lpOf_ok hp) (fun d h => h)) (of_decide_eq_true rfl) fun d h => ?_
  rcases h with ⟨D, X, hP, q, r, rfl⟩ | ⟨U, Y, hP, rfl⟩
  · refine sq_if (b := false) ((et_test (ed_op (ed_op (ed_var rfl) ed_int (od_ixT rfl)) ed_str od_eqS)).to (by decide +kernel)) (fun h => by cases h) fun _ => sq_next ?_
    exact sd_ret (Ed.er (ed_tup k (ea_cons ed_str (ea_cons (ed_op (ed_var rfl) ed_int (od_ixT rfl)) ea_nil)) (by simp)) (.inl ⟨D, X, hP, rfl⟩))
  · refine sq_if (b := true) ((et_test (ed_op (ed_op (ed_var rfl) ed_int (od_ixT rfl)) ed_str od_eqS)).to (by decide +kernel)) (fun _ => sd_seq (M := fun _ => False) ?_ fun _ z => z.elim) (fun h => by cases h)
    refine sd_ret (Ed.er (ed_tup k (ea_cons ed_str (ea_cons (ed_sliceT (n := rs.length) k (ed_op (ed_var rfl) ed_int (od_ixT rfl)) ((ed_lenC (Ed.ec (ed_var rfl))).to (by simp))) ea_nil)) (by simp)) (.inr ⟨U, Y, hP, ?_⟩))
    rw [List.take_of_length_le (by simp; exact Nat.le_refl _)]

theorem sc_point_or_numbers : FnScope N_point_or_numbers ["rows", "box"] (defScope s_point_or_numbers) := ⟨rfl, rfl, rfl, by decide +kernel, rfl, by decide +kernel, by decide +kernel⟩
section
variable {P : Program} {w : World} {K : PySem.W.Frag} {mg : Str → Option Value} {base : Heap}
theorem b_point_or_numbers (T : Fx K mg) : Binds K T.f_point_or_numbers.fd ["rows", "box"] [] := T.f_point_or_numbers.F.bindsN fun _ _ _ _ _ _ us hl => match us, hl with | [_, _], _ => rfl
theorem d_point_or_numbers (T : Fx K mg) {cdv : Value} {A : Around} {outer : List Env} {s : Shared} {H : Hp} {E : XK} (hr : Room 4 (A.deeper (envOfC "point_or_numbers" (defScope s_point_or_numbers) s.heap.objs.size T.f_point_or_numbers.f cdv))) : PSs (cxOf CX0 P w K mg base N_point_or_numbers "point_or_numbers" (defScope s_point_or_numbers) T.f_point_or_numbers.f cdv A outer s H E).nox (defBody s_point_or_numbers) (t_point_or_numbers K T.C T.R) :=
  have nd := sc_point_or_numbers.nd
  (pss_cons (ps_set (i := 2) nd rfl (by first | exact Or.inl rfl | exact Or.inr rfl) (pe_op op_cat (pv 0) (pe_call (ok_rows_of_ends T) (hr.mono (by decide)) rfl T.f_rows_of_ends.g T.f_rows_of_ends.F.kp (b_rows_of_ends T) .nil pass0 (pa_cons (pv 1) pa_nil))))
  (pss_cons (ps_set (i := 3) nd rfl (by first | exact Or.inl rfl | exact Or.inr rfl) (pe_call (ok_best_mix T) (hr.mono (by decide)) rfl T.f_best_mix.g T.f_best_mix.F.kp (b_best_mix T) .nil pass0 (pa_cons (pe_lc (own := [("parts", 4), ("bound", 5)]) (g := (gTup K 2 (gCons (gName 4) (gCons (gName 5) gNil)))) (tt := tYes) rfl nd (pi_list (pv 2)) (blkOk_by (by kernel_rfl)) (fun _ _ _ _ _ => (pg_tup rfl (pgs_cons (pg_name (i := 4) nd rfl (by first | exact Or.inl rfl | exact Or.inr rfl)) (pgs_cons (pg_name (i := 5) nd rfl (by first | exact Or.inl rfl | exact Or.inr rfl)) pgs_nil)))) (fun _ _ _ _ _ => pts_nil) (fun _ _ _ _ _ => (pv 4))) (pa_cons (pe_op o_mulT (pe_tup (pa_cons pe_int pa_nil)) (pe_callB call_len rfl T.b_len boot_len (pa_cons (pv 1) pa_nil))) (pa_cons (pe_lc (own := [("parts", 4), ("bound", 5)]) (g := (gTup K 2 (gCons (gName 4) (gCons (gName 5) gNil)))) (tt := tYes) rfl nd (pi_list (pv 2)) (blkOk_by (by kernel_rfl)) (fun _ _ _ _ _ => (pg_tup rfl (pgs_cons (pg_name (i := 4) nd rfl (by first | exact Or.inl rfl | exact Or.inr rfl)) (pgs_cons (pg_name (i := 5) nd rfl (by first | exact Or.inl rfl | exact Or.inr rfl)) pgs_nil)))) (fun _ _ _ _ _ => pts_nil) (fun _ _ _ _ _ => (pv 5))) pa_nil)))))
  (pss_cons (ps_if (pt_cmpR op_eq (pe_ix ix_tup (pv 3) pe_int (fun _ _ => rfl)) pe_str (nomark _)) (pss_one (ps_ret (pe_tup (pa_cons pe_str (pa_cons (pe_slice sl_tupA (pe_ix ix_tup (pv 3) pe_int (fun _ _ => rfl)) po_none (po_some (pe_callB call_len rfl T.b_len boot_len (pa_cons (pv 0) pa_nil)))) pa_nil))))) pss_nil)
  (pss_one (ps_ret (pe_tup (pa_cons pe_str (pa_cons (pe_ix ix_tup (pv 3) pe_int (fun _ _ => rfl)) pa_nil))))))))
theorem ok_point_or_numbers (T : Fx K mg) : FnOk P w K mg base CX0 5 T.f_point_or_numbers.f T.f_point_or_numbers.fd ["rows", "box"] (sp_point_or_numbers T.C) :=
  T.f_point_or_numbers.F.ok sc_point_or_numbers (fun vs H Q E ⟨A, x, _, r, _⟩ => by rw [r.length]; rfl) fun cdv A outer s H vs Q E hr h => ⟨t_point_or_numbers K T.C T.R, PSs.nox (d_point_or_numbers T hr), run_P K h fun W k x hC hK hp => by subst hK; rw [← hC]; exact sd_point_or_numbers W k T.R x hp⟩
end
/-! ### point_or_paper -/
abbrev sp_point_or_paper (C : Addr) : Sp := spP C (G := List Str × List Row) (fun x => [sysD x.1 x.2, boxD x.1.length]) (fun x => RowsIn x.1.length x.2) (fun x d => PoN (lpOf x.2 x.1.length) d)

abbrev N_point_or_paper : List Str := ["system", "box"]
def t_point_or_paper (K : PySem.W.Frag) (C R : Addr) : TS := (tSeq (tDrop (tCall (sp_check_box C) [] E0 (tCons (tVar 0) (tCons (tVar 1) tNil))))
  (tRet (tCall (sp_point_or_numbers C) [] E0 (tCons (tCB (rList K) (tCons (tFld K (tVar 0) "rows") tNil)) (tCons (tVar 1) tNil)))))
theorem sd_point_or_paper (W : Wd) (k : W.Ok) (R : Addr) (hA : Attrs W.K W.C) (x : List Str × List Row) (hp : RowsIn x.1.length x.2) : Sd W (t_point_or_paper W.K W.C R) (startD N_point_or_paper.length [sysD x.1 x.2, boxD x.1.length]) { rt := PoN (lpOf x.2 x.1.length), nx := fun _ => PoN (lpOf x.2 x.1.length) .non } := by
  refine sd_seq (M := fun δ => δ = startD N_point_or_paper.length [sysD x.1 x.2, boxD x.1.length]) (sd_drop (ed_call x k (ea_cons (ed_var rfl) (ea_cons (ed_var rfl) ea_nil)) trivial (fun d e => e)) rfl) ?_
  rintro δ rfl
  exact sd_ret (er_callE (x.1.length, x.2) k (ea_cons (Ef.ed (ef_listT k (ed_rows hA.c hA.r (ed_var rfl)))) (ea_cons (ed_var rfl) ea_nil)) hp (fun d h => h))

theorem sc_point_or_paper : FnScope N_point_or_paper ["system", "box"] (defScope s_point_or_paper) := ⟨rfl, rfl, rfl, by decide +kernel, rfl, by decide +kernel, by decide +kernel⟩
section
variable {P : Program} {w : World} {K : PySem.W.Frag} {mg : Str → Option Value} {base : Heap}
theorem b_point_or_paper (T : Fx K mg) : Binds K T.f_point_or_paper.fd ["system", "box"] [] := T.f_point_or_paper.F.bindsN fun _ _ _ _ _ _ us hl => match us, hl with | [_, _], _ => rfl
theorem d_point_or_paper (T : Fx K mg) {cdv : Value} {A : Around} {outer : List Env} {s : Shared} {H : Hp} {E : XK} (hr : Room 5 (A.deeper (envOfC "point_or_paper" (defScope s_point_or_paper) s.heap.objs.size T.f_point_or_paper.f cdv))) : PSs (cxOf CX0 P w K mg base N_point_or_paper "point_or_paper" (defScope s_point_or_paper) T.f_point_or_paper.f cdv A outer s H E).nox (defBody s_point_or_paper) (t_point_or_paper K T.C T.R) :=
  have nd := sc_point_or_paper.nd
  (pss_cons (ps_expr (pe_call (ok_check_box T) (hr.mono (by decide)) rfl T.f_check_box.g T.f_check_box.F.kp (b_check_box T) .nil pass0 (pa_cons (pv 0) (pa_cons (pv 1) pa_nil))))
  (pss_one (ps_ret (pe_call (ok_point_or_numbers T) (hr.mono (by decide)) rfl T.f_point_or_numbers.g T.f_point_or_numbers.F.kp (b_point_or_numbers T) .nil pass0 (pa_cons (pe_callTy call_list_of rfl T.b_list boot_list (pa_cons (pe_fld (pv 0) rfl) pa_nil)) (pa_cons (pv 1) pa_nil))))))
theorem ok_point_or_paper (T : Fx K mg) : FnOk P w K mg base CX0 6 T.f_point_or_paper.f T.f_point_or_paper.fd ["system", "box"] (sp_point_or_paper T.C) :=
  T.f_point_or_paper.F.ok sc_point_or_paper (fun vs H Q E ⟨A, x, _, r, _⟩ => by rw [r.length]; rfl) fun cdv A outer s H vs Q E hr h => ⟨t_point_or_paper K T.C T.R, PSs.nox (d_point_or_paper T hr), run_P K h fun W k x hC hK hp => by subst hK; rw [← hC]; exact sd_point_or_paper W k T.R (by rw [hC]; exact ⟨T.clC, T.noN, T.noR⟩) x hp⟩
end
end DL
namespace DL
open PySem PySem.Spec PyProof.Rows L2 Hd
/-! ### unlike -/
structure TwoOk (n : Nat) (x : Row × Row) : Prop where
  l : x.1.1.length = n
  l2 : x.2.1.length = n
  n : n ≤ 60
  b : Bd 400 (x.1.2 :: x.1.1)
  b2 : Bd 400 (x.2.2 :: x.2.1)
abbrev sp_unlike (C : Addr) : Sp := spP C (G := Row × Row) (fun x => [rD x.1, rD x.2]) (fun x => ∃ n, TwoOk n x) (fun x d => d = natsD (unl x.1.1 x.2.1))

abbrev N_unlike : List Str := ["one", "other", "at", "mine", "yours"]
def t_unlike (K : PySem.W.Frag) (C R : Addr) : TS := (tRet (tCB (rTuple K) (tCons (tLc (iEnumZ K (tCons (tOp (rIxT K) (tVar 0) (tC (.int 0))) (tCons (tOp (rIxT K) (tVar 1) (tC (.int 0))) tNil))) (gTup K 2 (gCons (gName 2) (gCons (gTup K 2 (gCons (gName 3) (gCons (gName 4) gNil))) gNil))) (tTest (tOp rLtI (tOp rMulW (tVar 3) (tVar 4)) (tC (.int 0)))) (tVar 2) [2, 3, 4]) tNil)))
theorem TwoOk.p {n : Nat} {x : Row × Row} (h : TwoOk n x) (i : Nat) : (gi x.1.1 i).natAbs < 2 ^ 400 := gi_bd (fun y hy => h.b y (List.mem_cons_of_mem _ hy)) i
theorem TwoOk.q {n : Nat} {x : Row × Row} (h : TwoOk n x) (i : Nat) : (gi x.2.1 i).natAbs < 2 ^ 400 := gi_bd (fun y hy => h.b2 y (List.mem_cons_of_mem _ hy)) i
theorem mul4 {a b : Int} (ha : a.natAbs < 2 ^ 400) (hb : b.natAbs < 2 ^ 400) : CMulW a b := mul_ok ha hb (by decide)
theorem map_getD (l : List Int) (n : Nat) (h : l.length = n) : l.map Dt.int = (List.range n).map fun i => .int (gi l i) := by
  rw [getD_rg l 0, h]
theorem sd_unlike (W : Wd) (k : W.Ok) (R : Addr) (x : Row × Row) (hp : ∃ n, TwoOk n x) : Sd W (t_unlike W.K W.C R) (startD N_unlike.length [rD x.1, rD x.2]) { rt := fun d => d = natsD (unl x.1.1 x.2.1), nx := fun _ => Dt.non = natsD (unl x.1.1 x.2.1) } := by
  obtain ⟨n, T⟩ := hp
  have hl := T.l
  have hl2 := T.l2
  have hn := T.n
  refine sd_ret (Ed.er (ed_tupleF k (ef_lc (List.range n) (fun i => .tup [.int (i : Nat), .tup [.int (gi x.1.1 i), .int (gi x.2.1 i)]]) (fun i => decide (gi x.1.1 i * gi x.2.1 i < 0)) (fun i => .int (i : Nat)) k (YlG.yl ((yg_enumZ (ea_cons (ed_op (ed_var rfl) ed_int (od_ixT rfl)) (ea_cons (ed_op (ed_var rfl) ed_int (od_ixT rfl)) ea_nil)) (by simp [hl, hl2])).to (by rw [map_getD _ n hl, map_getD _ n hl2, zipD_rg, enumD_rg]))) (by simp; omega) fun i hi => ⟨_, _, tg_tup2 (tg_name (of_decide_eq_true rfl)) (tg_names2 (of_decide_eq_true rfl) (of_decide_eq_true rfl)), by simp, et_test (ed_op (ed_op (ed_var rfl) (ed_var rfl) (od_I (mul4 (T.p i) (T.q i)))) ed_int od_B0), fun hb => ed_var rfl⟩)) ?_)
  unfold natsD unl
  rw [hl]

theorem sc_unlike : FnScope N_unlike ["one", "other"] (defScope s_unlike) := ⟨rfl, rfl, rfl, by decide +kernel, rfl, by decide +kernel, by decide +kernel⟩
section
variable {P : Program} {w : World} {K : PySem.W.Frag} {mg : Str → Option Value} {base : Heap}
theorem b_unlike (T : Fx K mg) : Binds K T.f_unlike.fd ["one", "other"] [] := T.f_unlike.F.bindsN fun _ _ _ _ _ _ us hl => match us, hl with | [_, _], _ => rfl
theorem d_unlike (T : Fx K mg) {cdv : Value} {A : Around} {outer : List Env} {s : Shared} {H : Hp} {E : XK} (hr : Room 0 (A.deeper (envOfC "unlike" (defScope s_unlike) s.heap.objs.size T.f_unlike.f cdv))) : PSs (cxOf CX0 P w K mg base N_unlike "unlike" (defScope s_unlike) T.f_unlike.f cdv A outer s H E).nox (defBody s_unlike) (t_unlike K T.C T.R) :=
  have nd := sc_unlike.nd
  (pss_one (ps_ret (pe_callTy call_tuple_of rfl T.b_tuple boot_tuple (pa_cons (pe_lc (own := [("at", 2), ("mine", 3), ("yours", 4)]) (g := (gTup K 2 (gCons (gName 2) (gCons (gTup K 2 (gCons (gName 3) (gCons (gName 4) gNil))) gNil)))) (tt := (tTest (tOp rLtI (tOp rMulW (tVar 3) (tVar 4)) (tC (.int 0))))) rfl nd (pi_enumZ rfl T.b_enumerate rfl T.b_zip (pa_cons (pe_ix ix_tup (pv 0) pe_int (fun _ _ => rfl)) (pa_cons (pe_ix ix_tup (pv 1) pe_int (fun _ _ => rfl)) pa_nil))) (blkOk_by (by kernel_rfl)) (fun _ _ _ _ _ => (pg_tup rfl (pgs_cons (pg_name (i := 2) nd rfl (by first | exact Or.inl rfl | exact Or.inr rfl)) (pgs_cons (pg_tup rfl (pgs_cons (pg_name (i := 3) nd rfl (by first | exact Or.inl rfl | exact Or.inr rfl)) (pgs_cons (pg_name (i := 4) nd rfl (by first | exact Or.inl rfl | exact Or.inr rfl)) pgs_nil))) pgs_nil)))) (fun _ _ _ _ _ => (pts_one (pt_cmpR op_lt (pe_op op_mulW (pv 3) (pv 4)) pe_int (nomark _)))) (fun _ _ _ _ _ => (pv 2))) pa_nil))))
theorem ok_unlike (T : Fx K mg) : FnOk P w K mg base CX0 1 T.f_unlike.f T.f_unlike.fd ["one", "other"] (sp_unlike T.C) :=
  T.f_unlike.F.ok sc_unlike (fun vs H Q E ⟨A, x, _, r, _⟩ => by rw [r.length]; rfl) fun cdv A outer s H vs Q E hr h => ⟨t_unlike K T.C T.R, PSs.nox (d_unlike T hr), run_P K h fun W k x hC hK hp => by subst hK; rw [← hC]; exact sd_unlike W k T.R x hp⟩
end
end DL
namespace DL
open PySem PySem.Spec PyProof.Rows L2 Hd
/-! ### _law_less -/
abbrev sp__law_less (C : Addr) : Sp := spP C (G := (Int × Int) × Int × Int) (fun x => [frD x.1.1 x.1.2, frD x.2.1 x.2.2]) (fun x => x.1.1.natAbs < 2 ^ 100000 ∧ x.1.2.natAbs < 2 ^ 100000 ∧ x.2.1.natAbs < 2 ^ 100000 ∧ x.2.2.natAbs < 2 ^ 100000) (fun x d => d = .bl (decide (x.1.1 * x.2.2 < x.2.1 * x.1.2)))

abbrev N__law_less : List Str := ["_law_one", "_law_other"]
def t__law_less (K : PySem.W.Frag) (C R : Addr) : TS := (tRet (tOp rLtI (tOp rMulW (tOp (rIxT K) (tVar 0) (tC (.int 0))) (tOp (rIxT K) (tVar 1) (tC (.int 1)))) (tOp rMulW (tOp (rIxT K) (tVar 1) (tC (.int 0))) (tOp (rIxT K) (tVar 0) (tC (.int 1))))))
theorem sd__law_less (W : Wd) (k : W.Ok) (R : Addr) (x : (Int × Int) × Int × Int) (hp : x.1.1.natAbs < 2 ^ 100000 ∧ x.1.2.natAbs < 2 ^ 100000 ∧ x.2.1.natAbs < 2 ^ 100000 ∧ x.2.2.natAbs < 2 ^ 100000) : Sd W (t__law_less W.K W.C R) (startD N__law_less.length [frD x.1.1 x.1.2, frD x.2.1 x.2.2]) { rt := fun d => d = .bl (decide (x.1.1 * x.2.2 < x.2.1 * x.1.2)), nx := fun _ => Dt.non = .bl (decide (x.1.1 * x.2.2 < x.2.1 * x.1.2)) } := by
  obtain ⟨h1, h2, h3, h4⟩ := hp
  exact sd_ret (Ed.er (ed_op (ed_op (ed_op (ed_var rfl) ed_int (od_ixT rfl)) (ed_op (ed_var rfl) ed_int (od_ixT rfl)) (od_I (mul_ok h1 h4 (by decide)))) (ed_op (ed_op (ed_var rfl) ed_int (od_ixT rfl)) (ed_op (ed_var rfl) ed_int (od_ixT rfl)) (od_I (mul_ok h3 h2 (by decide)))) od_B0) rfl)

theorem sc__law_less : FnScope N__law_less ["_law_one", "_law_other"] (defScope s__law_less) := ⟨rfl, rfl, rfl, by decide +kernel, rfl, by decide +kernel, by decide +kernel⟩
section
variable {P : Program} {w : World} {K : PySem.W.Frag} {mg : Str → Option Value} {base : Heap}
theorem b__law_less (T : Fx K mg) : Binds K T.f__law_less.fd ["_law_one", "_law_other"] [] := T.f__law_less.F.bindsN fun _ _ _ _ _ _ us hl => match us, hl with | [_, _], _ => rfl
theorem d__law_less (T : Fx K mg) {cdv : Value} {A : Around} {outer : List Env} {s : Shared} {H : Hp} {E : XK} (hr : Room 0 (A.deeper (envOfC "_law_less" (defScope s__law_less) s.heap.objs.size T.f__law_less.f cdv))) : PSs (cxOf CX0 P w K mg base N__law_less "_law_less" (defScope s__law_less) T.f__law_less.f cdv A outer s H E).nox (defBody s__law_less) (t__law_less K T.C T.R) :=
  have nd := sc__law_less.nd
  (pss_one (ps_ret (pe_cmpR op_lt (pe_op op_mulW (pe_ix ix_tup (pv 0) pe_int (fun _ _ => rfl)) (pe_ix ix_tup (pv 1) pe_int (fun _ _ => rfl))) (pe_op op_mulW (pe_ix ix_tup (pv 1) pe_int (fun _ _ => rfl)) (pe_ix ix_tup (pv 0) pe_int (fun _ _ => rfl))) (nomark _))))
theorem ok__law_less (T : Fx K mg) : FnOk P w K mg base CX0 1 T.f__law_less.f T.f__law_less.fd ["_law_one", "_law_other"] (sp__law_less T.C) :=
  T.f__law_less.F.ok sc__law_less (fun vs H Q E ⟨A, x, _, r, _⟩ => by rw [r.length]; rfl) fun cdv A outer s H vs Q E hr h => ⟨t__law_less K T.C T.R, PSs.nox (d__law_less T hr), run_P K h fun W k x hC hK hp => by subst hK; rw [← hC]; exact sd__law_less W k T.R x hp⟩
end
/-! ### _law_is_fraction -/
def isFr (a b : Int) : Bool := decide (0 < b) && decide ((Int.gcd a b : Int) = 1)
abbrev sp__law_is_fraction (C : Addr) : Sp := spP C (G := Int × Int) (fun x => [frD x.1 x.2]) (fun _ => True) (fun x d => d = .bl (isFr x.1 x.2))

abbrev N__law_is_fraction : List Str := ["_law_value", "_law_part"]
def t__law_is_fraction (K : PySem.W.Frag) (C R : Addr) : TS := (tSeq (tIfS (tOr (tNot (tB (tCB (rIsi K) (tCons (tVar 0) (tCons (tC (.ty "tuple")) tNil))))) (tTest (tOp rNe (tCB (rLen K) (tCons (tVar 0) tNil)) (tC (.int 2))))) (tRet (tC (.bl false))) tNext)
  (tSeq (tFor (iTup K (tVar 0)) (gName 1) (tIfS (tOr (tNot (tB (tCB (rIsi K) (tCons (tVar 1) (tCons (tC (.ty "int")) tNil))))) (tB (tCB (rIsi K) (tCons (tVar 1) (tCons (tC (.ty "bool")) tNil))))) (tRet (tC (.bl false))) tNext))
  (tRet (tAndV (tOp rGtI (tOp (rIxT K) (tVar 0) (tC (.int 1))) (tC (.int 0))) (tOp rEq (tCall (sp__law_factor C) [] E0 (tCons (tOp (rIxT K) (tVar 0) (tC (.int 0))) (tCons (tOp (rIxT K) (tVar 0) (tC (.int 1))) tNil))) (tC (.int 1)))))))
theorem sd__law_is_fraction (W : Wd) (k : W.Ok) (R : Addr) (x : Int × Int) (hp : True) : Sd W (t__law_is_fraction W.K W.C R) (startD N__law_is_fraction.length [frD x.1 x.2]) { rt := fun d => d = .bl (isFr x.1 x.2), nx := fun _ => Dt.non = .bl (isFr x.1 x.2) } := by
  refine sq_if (b := false) (et_or (a := false) (b := false) (et_not (a := true) (et_B (ed_isi (ed_var rfl) rfl kit_tt))) fun h => (et_test (ed_op (ed_cb (ea_cons (ed_var rfl) ea_nil) cd_lenT) ed_int od_neI)).to (by simp)) (fun h => by cases h) fun _ => sq_next ?_
  refine sq_for k (yg_tup (ed_var rfl)) (fun i δ => ∃ q, δ = [some (.sh (frD x.1 x.2)), q]) ⟨_, rfl⟩ ?_ ?_
  · rintro i d δ' hd ⟨q, rfl⟩
    have : ∃ y : Int, d = .int y := by
      match i, hd with
      | 0, hd => exact ⟨_, (Option.some.inj hd).symm⟩
      | 1, hd => exact ⟨_, (Option.some.inj hd).symm⟩
    obtain ⟨y, rfl⟩ := this
    refine ⟨_, _, tg_name (of_decide_eq_true rfl), ?_⟩
    exact sd_if (b := false) (et_or (a := false) (b := false) (et_not (a := true) (et_B (ed_isi (ed_var rfl) rfl kit_ii))) fun h => et_B (ed_isi (ed_var rfl) rfl kit_ib)) (fun h => by cases h) fun _ => sd_next ⟨_, rfl⟩
  · rintro δ' ⟨q, rfl⟩
    exact sd_ret (Ed.er (ed_andB (ed_op (ed_op (ed_var rfl) ed_int (od_ixT rfl)) ed_int od_B0) fun h => (ed_op (ed_call x k (ea_cons (ed_op (ed_var rfl) ed_int (od_ixT rfl)) (ea_cons (ed_op (ed_var rfl) ed_int (od_ixT rfl)) ea_nil)) trivial (fun d e => e)) ed_int od_eqI)) rfl)

theorem sc__law_is_fraction : FnScope N__law_is_fraction ["_law_value"] (defScope s__law_is_fraction) := ⟨rfl, rfl, rfl, by decide +kernel, rfl, by decide +kernel, by decide +kernel⟩
section
variable {P : Program} {w : World} {K : PySem.W.Frag} {mg : Str → Option Value} {base : Heap}
theorem b__law_is_fraction (T : Fx K mg) : Binds K T.f__law_is_fraction.fd ["_law_value"] [] := T.f__law_is_fraction.F.bindsN fun _ _ _ _ _ _ us hl => match us, hl with | [_], _ => rfl
theorem d__law_is_fraction (T : Fx K mg) {cdv : Value} {A : Around} {outer : List Env} {s : Shared} {H : Hp} {E : XK} (hr : Room 1 (A.deeper (envOfC "_law_is_fraction" (defScope s__law_is_fraction) s.heap.objs.size T.f__law_is_fraction.f cdv))) : PSs (cxOf CX0 P w K mg base N__law_is_fraction "_law_is_fraction" (defScope s__law_is_fraction) T.f__law_is_fraction.f cdv A outer s H E).nox (defBody s__law_is_fraction) (t__law_is_fraction K T.C T.R) :=
  have nd := sc__law_is_fraction.nd
  (pss_cons (ps_if (PW.pt (pw_or (pt_not (pt_val (pe_callB call_isi rfl T.b_isinstance boot_isinstance (pa_cons (pv 0) (pa_cons (pe_bltn rfl T.b_tuple boot_tuple rfl) pa_nil))))) (pw_or1 (pt_cmpR op_ne (pe_callB call_len rfl T.b_len boot_len (pa_cons (pv 0) pa_nil)) pe_int (nomark _))))) (pss_one (ps_ret pe_bl)) pss_nil)
  (pss_cons (ps_for PassesOwn.never rfl (pi_tup (pv 0)) (pg_name (i := 1) nd rfl (by first | exact Or.inl rfl | exact Or.inr rfl)) (pss_one (ps_if (PW.pt (pw_or (pt_not (pt_val (pe_callB call_isi rfl T.b_isinstance boot_isinstance (pa_cons (pv 1) (pa_cons (pe_bltn rfl T.b_int boot_int rfl) pa_nil))))) (pw_or1 (pt_val (pe_callB call_isi rfl T.b_isinstance boot_isinstance (pa_cons (pv 1) (pa_cons (pe_bltn rfl T.b_bool boot_bool rfl) pa_nil))))))) (pss_one (ps_ret pe_bl)) pss_nil)))
  (pss_one (ps_ret (pe_and (pe_cmpR op_gt (pe_ix ix_tup (pv 0) pe_int (fun _ _ => rfl)) pe_int (nomark _)) (pe_one (pe_cmpR op_eq (pe_call (ok__law_factor T) (hr.mono (by decide)) rfl T.f__law_factor.g T.f__law_factor.F.kp (b__law_factor T) .nil pass0 (pa_cons (pe_ix ix_tup (pv 0) pe_int (fun _ _ => rfl)) (pa_cons (pe_ix ix_tup (pv 0) pe_int (fun _ _ => rfl)) pa_nil))) pe_int (nomark _))))))))
theorem ok__law_is_fraction (T : Fx K mg) : FnOk P w K mg base CX0 2 T.f__law_is_fraction.f T.f__law_is_fraction.fd ["_law_value"] (sp__law_is_fraction T.C) :=
  T.f__law_is_fraction.F.ok sc__law_is_fraction (fun vs H Q E ⟨A, x, _, r, _⟩ => by rw [r.length]; rfl) fun cdv A outer s H vs Q E hr h => ⟨t__law_is_fraction K T.C T.R, PSs.nox (d__law_is_fraction T hr), run_P K h fun W k x hC hK hp => by subst hK; rw [← hC]; exact sd__law_is_fraction W k T.R x hp⟩
end
/-! ### _law_are_fractions -/
abbrev frs (l : List (Int × Int)) : Dt := .tup (l.map fun z => frD z.1 z.2)
abbrev sp__law_are_fractions (C : Addr) : Sp := spP C (G := List (Int × Int) × Nat) (fun x => [frs x.1, .int (x.2 : Nat)]) (fun x => x.1.length ≤ 1000) (fun x d => d = .bl (decide (x.1.length = x.2) && x.1.all fun z => isFr z.1 z.2))

abbrev N__law_are_fractions : List Str := ["_law_value", "_law_many", "_law_part"]
def t__law_are_fractions (K : PySem.W.Frag) (C R : Addr) : TS := (tRet (tAndV (tCB (rIsi K) (tCons (tVar 0) (tCons (tC (.ty "tuple")) tNil))) (tAndV (tOp rEq (tCB (rLen K) (tCons (tVar 0) tNil)) (tVar 1)) (tCB (rAll K) (tCons (tLc (iTup K (tVar 0)) (gName 2) tYes (tCall (sp__law_is_fraction C) [] E0 (tCons (tVar 2) tNil)) [2]) tNil)))))
theorem sd__law_are_fractions (W : Wd) (k : W.Ok) (R : Addr) (x : List (Int × Int) × Nat) (hp : x.1.length ≤ 1000) : Sd W (t__law_are_fractions W.K W.C R) (startD N__law_are_fractions.length [frs x.1, .int (x.2 : Nat)]) { rt := fun d => d = .bl (decide (x.1.length = x.2) && x.1.all fun z => isFr z.1 z.2), nx := fun _ => Dt.non = .bl (decide (x.1.length = x.2) && x.1.all fun z => isFr z.1 z.2) } := by
  refine sd_ret (Ed.er (ed_andB (a := true) (ed_isi (ed_var rfl) rfl kit_tt) fun h => (ed_andB ((ed_op (ed_cb (ea_cons (ed_var rfl) ea_nil) cd_lenT) (ed_var rfl) od_eqI).to (z := .bl (decide (x.1.length = x.2))) ?_) fun h => ed_allLc x.1 (fun z => frD z.1 z.2) (fun z => isFr z.1 z.2) k (YlG.yl (yg_tup (ed_var rfl))) (by omega) fun z hz => ⟨_, _, tg_name (of_decide_eq_true rfl), by simp, ed_call z k (ea_cons (ed_var rfl) ea_nil) trivial (fun d e => e)⟩)) (by simp))
  rw [List.length_map]
  by_cases h : x.1.length = x.2
  · simp [h]
  · have : (x.1.length : Int) ≠ x.2 := by omega
    simp [h, this]

theorem sc__law_are_fractions : FnScope N__law_are_fractions ["_law_value", "_law_many"] (defScope s__law_are_fractions) := ⟨rfl, rfl, rfl, by decide +kernel, rfl, by decide +kernel, by decide +kernel⟩
section
variable {P : Program} {w : World} {K : PySem.W.Frag} {mg : Str → Option Value} {base : Heap}
theorem b__law_are_fractions (T : Fx K mg) : Binds K T.f__law_are_fractions.fd ["_law_value", "_law_many"] [] := T.f__law_are_fractions.F.bindsN fun _ _ _ _ _ _ us hl => match us, hl with | [_, _], _ => rfl
theorem d__law_are_fractions (T : Fx K mg) {cdv : Value} {A : Around} {outer : List Env} {s : Shared} {H : Hp} {E : XK} (hr : Room 2 (A.deeper (envOfC "_law_are_fractions" (defScope s__law_are_fractions) s.heap.objs.size T.f__law_are_fractions.f cdv))) : PSs (cxOf CX0 P w K mg base N__law_are_fractions "_law_are_fractions" (defScope s__law_are_fractions) T.f__law_are_fractions.f cdv A outer s H E).nox (defBody s__law_are_fractions) (t__law_are_fractions K T.C T.R) :=
  have nd := sc__law_are_fractions.nd
  (pss_one (ps_ret (pe_and (pe_callB call_isi rfl T.b_isinstance boot_isinstance (pa_cons (pv 0) (pa_cons (pe_bltn rfl T.b_tuple boot_tuple rfl) pa_nil))) (pe_and (pe_cmpR op_eq (pe_callB call_len rfl T.b_len boot_len (pa_cons (pv 0) pa_nil)) (pv 1) (nomark _)) (pe_one (pe_callB (cr_all rfl) rfl T.b_all boot_all (pa_cons (pe_lc (own := [("_law_part", 2)]) (g := (gName 2)) (tt := tYes) rfl nd (pi_tup (pv 0)) (blkOk_by (by kernel_rfl)) (fun _ _ _ _ _ => (pg_name (i := 2) nd rfl (by first | exact Or.inl rfl | exact Or.inr rfl))) (fun _ _ _ _ _ => pts_nil) (fun _ _ _ _ _ => (pe_call (ok__law_is_fraction T) (hr.mono (by decide)) rfl T.f__law_is_fraction.g T.f__law_is_fraction.F.kp (b__law_is_fraction T) .nil pass0 (pa_cons (pv 2) pa_nil)))) pa_nil)))))))
theorem ok__law_are_fractions (T : Fx K mg) : FnOk P w K mg base CX0 3 T.f__law_are_fractions.f T.f__law_are_fractions.fd ["_law_value", "_law_many"] (sp__law_are_fractions T.C) :=
  T.f__law_are_fractions.F.ok sc__law_are_fractions (fun vs H Q E ⟨A, x, _, r, _⟩ => by rw [r.length]; rfl) fun cdv A outer s H vs Q E hr h => ⟨t__law_are_fractions K T.C T.R, PSs.nox (d__law_are_fractions T hr), run_P K h fun W k x hC hK hp => by subst hK; rw [← hC]; exact sd__law_are_fractions W k T.R x hp⟩
end
/-! ### _law_sum -/
abbrev Pr := Int × Int × Int × Int
abbrev prD4 (z : Pr) : Dt := .tup [frD z.1 z.2.1, frD z.2.2.1 z.2.2.2]
def stepF (s : Int × Int) (z : Pr) : Int × Int := (s.1 * z.2.1 * z.2.2.2 + z.1 * z.2.2.1 * s.2, s.2 * z.2.1 * z.2.2.2)
def sumF (l : List Pr) : Int × Int := l.foldl stepF (0, 1)
structure PrOk (z : Pr) : Prop where
  p : 0 < z.2.1
  q : 0 < z.2.2.2
  a : z.1.natAbs < 2 ^ 1000
  b : z.2.1.natAbs < 2 ^ 1000
  c : z.2.2.1.natAbs < 2 ^ 1000
  e : z.2.2.2.natAbs < 2 ^ 1000
  pq : (z.2.1 * z.2.2.2).natAbs < 2 ^ 1000
def PrsOk (l : List Pr) : Prop := l.length ≤ 7 ∧ ∀ z ∈ l, PrOk z
abbrev sp__law_sum (C : Addr) : Sp := spP C (G := List Pr) (fun l => [.lst (l.map prD4)]) PrsOk (fun l d => d = fracD (sumF l).1 (sumF l).2)

abbrev N__law_sum : List Str := ["_law_products", "_law_top", "_law_bottom", "_law_one", "_law_other"]
def t__law_sum (K : PySem.W.Frag) (C R : Addr) : TS := (tSeq (tAsg (tTup (tCons (tC (.int 0)) (tCons (tC (.int 1)) tNil))) (gTup K 2 (gCons (gName 1) (gCons (gName 2) gNil))))
  (tSeq (tFor (iList K (tVar 0)) (gTup K 2 (gCons (gName 3) (gCons (gName 4) gNil))) (tPar 1 2 (tCons (tOp rAdd (tOp rMulW (tOp rMulW (tVar 1) (tOp (rIxT K) (tVar 3) (tC (.int 1)))) (tOp (rIxT K) (tVar 4) (tC (.int 1)))) (tOp rMulW (tOp rMulW (tOp (rIxT K) (tVar 3) (tC (.int 0))) (tOp (rIxT K) (tVar 4) (tC (.int 0)))) (tVar 2))) (tCons (tOp rMulW (tOp rMulW (tVar 2) (tOp (rIxT K) (tVar 3) (tC (.int 1)))) (tOp (rIxT K) (tVar 4) (tC (.int 1)))) tNil))))
  (tRet (tCall (sp__law_low C) [] E0 (tCons (tVar 1) (tCons (tVar 2) tNil))))))
theorem sumF_take {l : List Pr} {i : Nat} {z : Pr} (h : l[i]? = some z) : sumF (l.take (i + 1)) = stepF (sumF (l.take i)) z := by
  unfold sumF
  rw [List.take_add_one, h, List.foldl_append]
  rfl
theorem sumF_lt {l : List Pr} (h : ∀ z ∈ l, PrOk z) : ∀ i, i ≤ l.length → 0 < (sumF (l.take i)).2 ∧ (sumF (l.take i)).2.natAbs < 2 ^ (1000 * i + 1) ∧ (sumF (l.take i)).1.natAbs < 2 ^ (2002 + 1001 * i)
  | 0, _ => ⟨by show (0 : Int) < 1; decide, by show (1 : Nat) < 2 ^ 1; decide, by
      show (0 : Nat) < _
      exact two_pos _⟩
  | i + 1, hi => by
    obtain ⟨h0, h1, h2⟩ := sumF_lt h i (by omega)
    have hz : l[i]? = some l[i] := List.getElem?_eq_getElem (by omega)
    have Z := h _ (List.getElem_mem (show i < l.length by omega))
    rw [sumF_take hz]
    generalize l[i] = z at Z
    generalize sumF (l.take i) = s at h0 h1 h2
    refine ⟨?_, ?_, ?_⟩
    · exact Int.mul_pos (Int.mul_pos h0 Z.p) Z.q
    · show (s.2 * z.2.1 * z.2.2.2).natAbs < _
      rw [Int.mul_assoc]
      have := wide_lt h1 Z.pq
      rw [show 1000 * (i + 1) + 1 = 1000 * i + 1 + 1000 by omega]
      exact this
    · show (s.1 * z.2.1 * z.2.2.2 + z.1 * z.2.2.1 * s.2).natAbs < _
      have e1 : (s.1 * (z.2.1 * z.2.2.2)).natAbs < 2 ^ (2002 + 1001 * i + 1000) := wide_lt h2 Z.pq
      have e2 : (z.1 * z.2.2.1 * s.2).natAbs < 2 ^ (1000 + 1000 + (1000 * i + 1)) := wide_lt (wide_lt Z.a Z.c) h1
      rw [← Int.mul_assoc] at e1
      have e3 : 2 ^ (1000 + 1000 + (1000 * i + 1)) ≤ 2 ^ (2002 + 1001 * i + 1000) := Nat.pow_le_pow_right (by decide) (by omega)
      rw [show 2002 + 1001 * (i + 1) = 2002 + 1001 * i + 1000 + 1 by omega, Nat.pow_succ]
      omega
theorem sd__law_sum (W : Wd) (k : W.Ok) (R : Addr) (x : List Pr) (hp : PrsOk x) : Sd W (t__law_sum W.K W.C R) (startD N__law_sum.length [.lst (x.map prD4)]) { rt := fun d => d = fracD (sumF x).1 (sumF x).2, nx := fun _ => Dt.non = fracD (sumF x).1 (sumF x).2 } := by
  obtain ⟨hl, hz⟩ := hp
  have B := sumF_lt hz
  have mk : ∀ {a b : Int} {m n : Nat}, a.natAbs < 2 ^ m → b.natAbs < 2 ^ n → m ≤ 100000 → n ≤ 100000 → CMulW a b := fun ha hb h1 h2 => mul_ok ha hb (by omega)
  refine sq_parT k (eam_shE ed_int (eam_shE ed_int (eam_nil ⟨_, _, rfl, ?_⟩)))
  refine sq_for k (yg_list (ed_var rfl)) (fun i δ => ∃ q1 q2, δ = [some (.sh (.lst (x.map prD4))), some (.sh (.int (sumF (x.take i)).1)), some (.sh (.int (sumF (x.take i)).2)), q1, q2]) ⟨_, _, rfl⟩ ?_ ?_
  · rintro i d δ' hd ⟨q1, q2, rfl⟩
    obtain ⟨z, hzi, rfl⟩ := map_at hd
    have hi := (List.getElem?_eq_some_iff.mp hzi).1
    have Z := hz z (List.mem_of_getElem? hzi)
    obtain ⟨h0, h1, h2⟩ := B i (by omega)
    refine ⟨_, _, tg_names2 (of_decide_eq_true rfl) (of_decide_eq_true rfl), ?_⟩
    refine sd_par (eam_shE (ed_op (ed_op (ed_op (ed_var rfl) (ed_op (ed_var rfl) ed_int (od_ixT rfl)) (od_I (mk h2 Z.b (by omega) (by omega)))) (ed_op (ed_var rfl) ed_int (od_ixT rfl)) (od_I (mk (wide_lt h2 Z.b) Z.e (by omega) (by omega)))) (ed_op (ed_op (ed_op (ed_var rfl) ed_int (od_ixT rfl)) (ed_op (ed_var rfl) ed_int (od_ixT rfl)) (od_I (mk Z.a Z.c (by omega) (by omega)))) (ed_var rfl) (od_I (mk (wide_lt Z.a Z.c) h1 (by omega) (by omega)))) od_I0) (eam_shE (ed_op (ed_op (ed_var rfl) (ed_op (ed_var rfl) ed_int (od_ixT rfl)) (od_I (mk h1 Z.b (by omega) (by omega)))) (ed_op (ed_var rfl) ed_int (od_ixT rfl)) (od_I (mk (wide_lt h1 Z.b) Z.e (by omega) (by omega)))) (eam_nil ⟨_, _, rfl, ?_⟩)))
    exact ⟨_, _, by rw [sumF_take hzi]; rfl⟩
  · rintro δ' ⟨q1, q2, rfl⟩
    rw [List.length_map]
    obtain ⟨h0, h1, h2⟩ := B x.length (Nat.le_refl _)
    rw [List.take_length] at h0 h1 h2
    refine sd_ret (Ed.er (ed_call (sumF x) k (ea_cons ((ed_var rfl).to (by rw [List.take_length])) (ea_cons ((ed_var rfl).to (by rw [List.take_length])) ea_nil)) ⟨h0, pow_up h1 (by omega)⟩ (fun d e => e)) rfl)

theorem sc__law_sum : FnScope N__law_sum ["_law_products"] (defScope s__law_sum) := ⟨rfl, rfl, rfl, by decide +kernel, rfl, by decide +kernel, by decide +kernel⟩
section
variable {P : Program} {w : World} {K : PySem.W.Frag} {mg : Str → Option Value} {base : Heap}
theorem b__law_sum (T : Fx K mg) : Binds K T.f__law_sum.fd ["_law_products"] [] := T.f__law_sum.F.bindsN fun _ _ _ _ _ _ us hl => match us, hl with | [_], _ => rfl
theorem d__law_sum (T : Fx K mg) {cdv : Value} {A : Around} {outer : List Env} {s : Shared} {H : Hp} {E : XK} (hr : Room 2 (A.deeper (envOfC "_law_sum" (defScope s__law_sum) s.heap.objs.size T.f__law_sum.f cdv))) : PSs (cxOf CX0 P w K mg base N__law_sum "_law_sum" (defScope s__law_sum) T.f__law_sum.f cdv A outer s H E).nox (defBody s__law_sum) (t__law_sum K T.C T.R) :=
  have nd := sc__law_sum.nd
  (pss_cons (ps_asg (pe_tup (pa_cons pe_int (pa_cons pe_int pa_nil))) (pg_tup rfl (pgs_cons (pg_name (i := 1) nd rfl (by first | exact Or.inl rfl | exact Or.inr rfl)) (pgs_cons (pg_name (i := 2) nd rfl (by first | exact Or.inl rfl | exact Or.inr rfl)) pgs_nil))))
  (pss_cons (ps_for PassesOwn.never rfl (pi_list (pv 0)) (pg_tup rfl (pgs_cons (pg_name (i := 3) nd rfl (by first | exact Or.inl rfl | exact Or.inr rfl)) (pgs_cons (pg_name (i := 4) nd rfl (by first | exact Or.inl rfl | exact Or.inr rfl)) pgs_nil))) (pss_one (ps_par (i := 1) (j := 2) rfl nd rfl rfl (by decide) rfl rfl (pa_cons (pe_op op_add (pe_op op_mulW (pe_op op_mulW (pv 1) (pe_ix ix_tup (pv 3) pe_int (fun _ _ => rfl))) (pe_ix ix_tup (pv 4) pe_int (fun _ _ => rfl))) (pe_op op_mulW (pe_op op_mulW (pe_ix ix_tup (pv 3) pe_int (fun _ _ => rfl)) (pe_ix ix_tup (pv 4) pe_int (fun _ _ => rfl))) (pv 2))) (pa_cons (pe_op op_mulW (pe_op op_mulW (pv 2) (pe_ix ix_tup (pv 3) pe_int (fun _ _ => rfl))) (pe_ix ix_tup (pv 4) pe_int (fun _ _ => rfl))) pa_nil)) rfl)))
  (pss_one (ps_ret (pe_call (ok__law_low T) (hr.mono (by decide)) rfl T.f__law_low.g T.f__law_low.F.kp (b__law_low T) .nil pass0 (pa_cons (pv 1) (pa_cons (pv 2) pa_nil)))))))
theorem ok__law_sum (T : Fx K mg) : FnOk P w K mg base CX0 3 T.f__law_sum.f T.f__law_sum.fd ["_law_products"] (sp__law_sum T.C) :=
  T.f__law_sum.F.ok sc__law_sum (fun vs H Q E ⟨A, x, _, r, _⟩ => by rw [r.length]; rfl) fun cdv A outer s H vs Q E hr h => ⟨t__law_sum K T.C T.R, PSs.nox (d__law_sum T hr), run_P K h fun W k x hC hK hp => by subst hK; rw [← hC]; exact sd__law_sum W k T.R x hp⟩
end
/-! ### _law_without -/
/-- the sum without one name -/
def elimP (n : Nat) (x : Row × Row) (i : Nat) : List Int := (List.range n).map fun j => ((gi x.2.1 i).natAbs : Int) * gi x.1.1 j + ((gi x.1.1 i).natAbs : Int) * gi x.2.1 j
def elimB (x : Row × Row) (i : Nat) : Int := ((gi x.2.1 i).natAbs : Int) * x.1.2 + ((gi x.1.1 i).natAbs : Int) * x.2.2
structure WoG where
  n : Nat
  x : Row × Row
  i : Nat
abbrev sp__law_without (C : Addr) : Sp := spP C (G := WoG) (fun y => [rD y.x.1, rD y.x.2, .int (y.i : Nat)]) (fun y => TwoOk y.n y.x ∧ y.i < y.n) (fun y d => d = .tup [leastD (elimP y.n y.x y.i) (elimB y.x y.i), .int (elimB y.x y.i)])

abbrev N__law_without : List Str := ["_law_one", "_law_other", "_law_at", "_law_first", "_law_second", "_law_parts", "_law_place", "_law_bound"]
def t__law_without (K : PySem.W.Frag) (C R : Addr) : TS := (tSeq (tAsg (tTup (tCons (tCB rAbs (tCons (tOp (rIxT K) (tOp (rIxT K) (tVar 1) (tC (.int 0))) (tVar 2)) tNil)) (tCons (tCB rAbs (tCons (tOp (rIxT K) (tOp (rIxT K) (tVar 0) (tC (.int 0))) (tVar 2)) tNil)) tNil))) (gTup K 2 (gCons (gName 3) (gCons (gName 4) gNil))))
  (tSeq (tAsg (tLc (iRng1 (tCons (tCB (rLen K) (tCons (tOp (rIxT K) (tVar 0) (tC (.int 0))) tNil)) tNil)) (gName 6) tYes (tOp rAdd (tOp rMulW (tVar 3) (tOp (rIxT K) (tOp (rIxT K) (tVar 0) (tC (.int 0))) (tVar 6))) (tOp rMulW (tVar 4) (tOp (rIxT K) (tOp (rIxT K) (tVar 1) (tC (.int 0))) (tVar 6)))) [6]) (gName 5))
  (tSeq (tAsg (tOp rAdd (tOp rMulW (tVar 3) (tOp (rIxT K) (tVar 0) (tC (.int 1)))) (tOp rMulW (tVar 4) (tOp (rIxT K) (tVar 1) (tC (.int 1))))) (gName 7))
  (tRet (tTup (tCons (tIf (tTest (tOp (rEqD K) (tVar 5) (tOp rRep (tLst (tCons (tC (.int 0)) tNil)) (tCB (rLen K) (tCons (tVar 5) tNil))))) (tC .non) (tCall (sp__law_least C) [] E0 (tCons (tVar 5) (tCons (tVar 7) tNil)))) (tCons (tVar 7) tNil)))))))
theorem TwoOk.bb {n : Nat} {x : Row × Row} (h : TwoOk n x) : x.1.2.natAbs < 2 ^ 400 ∧ x.2.2.natAbs < 2 ^ 400 := ⟨h.b _ List.mem_cons_self, h.b2 _ List.mem_cons_self⟩
theorem elim_lt {a b c e : Int} (ha : a.natAbs < 2 ^ 400) (hb : b.natAbs < 2 ^ 400) (hc : c.natAbs < 2 ^ 400) (he : e.natAbs < 2 ^ 400) : ((a.natAbs : Int) * b + (c.natAbs : Int) * e).natAbs < 2 ^ 1000 := by
  have e1 : ((a.natAbs : Int) * b).natAbs < 2 ^ (400 + 400) := wide_lt (by simpa using ha) hb
  have e2 : ((c.natAbs : Int) * e).natAbs < 2 ^ (400 + 400) := wide_lt (by simpa using hc) he
  have e3 : 2 ^ (400 + 400) + 2 ^ (400 + 400) ≤ 2 ^ 1000 := by
    have : 2 ^ (400 + 400 + 1) ≤ 2 ^ 1000 := Nat.pow_le_pow_right (by decide) (by decide)
    rw [Nat.pow_succ] at this
    omega
  omega
theorem elimP_bd {n : Nat} {x : Row × Row} (T : TwoOk n x) (i : Nat) : Bd 1000 (elimP n x i) := fun y hy => by
  obtain ⟨j, _, e⟩ := List.mem_map.mp hy
  rw [← e]
  exact elim_lt (T.q i) (T.p j) (T.p i) (T.q j)
theorem zeros_eq (l : List Int) : deq (.lst (l.map Dt.int)) (.lst (List.replicate l.length [Dt.int 0]).flatten) = l.all fun x => decide (x = 0) := by
  have p1 : pl (.lst (l.map Dt.int)) = true := by simp [pl, plA_ints]
  have er : (List.replicate l.length [Dt.int 0]).flatten = (l.map fun _ => (0 : Int)).map Dt.int := by
    rw [rep_rg, List.map_map]
    have := getD_rg l (0 : Int) (fun _ => Dt.int 0)
    exact this.symm
  rw [er]
  have p2 : pl (.lst ((l.map fun _ => (0 : Int)).map Dt.int)) = true := by rw [pl]; exact plA_ints _
  have := deq_iff _ _ p1 p2
  cases h : deq (.lst (l.map Dt.int)) (.lst ((l.map fun _ => (0 : Int)).map Dt.int)) with
  | true =>
    have e := this.mp h
    have e2 : l = l.map fun _ => (0 : Int) := (List.map_inj_right (fun a b h => Dt.int.inj h)).mp (Dt.lst.inj e)
    symm
    rw [List.all_eq_true]
    intro y hy
    rw [e2] at hy
    obtain ⟨_, _, e3⟩ := List.mem_map.mp hy
    exact decide_eq_true e3.symm
  | false =>
    symm
    cases h2 : l.all fun x => decide (x = 0) with
    | false => rfl
    | true =>
      exfalso
      have e2 : l = l.map fun _ => (0 : Int) := by
        have h2 := List.all_eq_true.mp h2
        have : l.map id = l.map fun _ => (0 : Int) := List.map_congr_left fun y hy => of_decide_eq_true (h2 y hy)
        rw [List.map_id] at this
        exact this
      have := this.mpr (by rw [← e2])
      rw [h] at this
      cases this
theorem leastD_eq {l : List Int} {b : Int} : leastD l b = if l.all (fun x => decide (x = 0)) then .non else rowD (l.map fun y => y / (gcdL l b.natAbs : Nat)) (b / (gcdL l b.natAbs : Nat)) := rfl
theorem sd__law_without (W : Wd) (k : W.Ok) (R : Addr) (y : WoG) (hp : TwoOk y.n y.x ∧ y.i < y.n) : Sd W (t__law_without W.K W.C R) (startD N__law_without.length [rD y.x.1, rD y.x.2, .int (y.i : Nat)]) { rt := fun d => d = .tup [leastD (elimP y.n y.x y.i) (elimB y.x y.i), .int (elimB y.x y.i)], nx := fun _ => Dt.non = .tup [leastD (elimP y.n y.x y.i) (elimB y.x y.i), .int (elimB y.x y.i)] } := by
  obtain ⟨T, hi⟩ := hp
  have hl := T.l
  have hl2 := T.l2
  have hn := T.n
  obtain ⟨b1, b2⟩ := T.bb
  have na : ∀ {a : Int}, a.natAbs < 2 ^ 400 → (a.natAbs : Int).natAbs < 2 ^ 400 := fun h => by simpa using h
  refine sq_parT k (eam_shE (ed_cb (ea_cons (ed_op (ed_op (ed_var rfl) ed_int (od_ixT rfl)) (ed_var rfl) (od_ixT (gi_atI (by omega)))) ea_nil) cd_abs) (eam_shE (ed_cb (ea_cons (ed_op (ed_op (ed_var rfl) ed_int (od_ixT rfl)) (ed_var rfl) (od_ixT (gi_atI (by omega)))) ea_nil) cd_abs) (eam_nil ⟨_, _, rfl, ?_⟩)))
  refine sq_asgE (d := .lst ((elimP y.n y.x y.i).map Dt.int)) ((Ef.ed (ef_lcAll (List.range y.n) (fun j => .int (j : Nat)) (fun j => .int (((gi y.x.2.1 y.i).natAbs : Int) * gi y.x.1.1 j + ((gi y.x.1.1 y.i).natAbs : Int) * gi y.x.2.1 j)) k (YlG.yl (yg_rangeN (ea_cons ((ed_cb (ea_cons (ed_op (ed_var rfl) ed_int (od_ixT rfl)) ea_nil) cd_lenT).to (z := .int (y.n : Nat)) (by rw [List.length_map, hl])) ea_nil) (by omega))) (by simp; omega) fun j hj => ⟨_, _, tg_name (of_decide_eq_true rfl), by simp, ed_op (ed_op (ed_var rfl) (ed_op (ed_op (ed_var rfl) ed_int (od_ixT rfl)) (ed_var rfl) (od_ixT (gi_atI (by have := List.mem_range.mp hj; omega)))) (od_I (mul4 (na (T.q _)) (T.p _)))) (ed_op (ed_var rfl) (ed_op (ed_op (ed_var rfl) ed_int (od_ixT rfl)) (ed_var rfl) (od_ixT (gi_atI (by have := List.mem_range.mp hj; omega)))) (od_I (mul4 (na (T.p _)) (T.q _)))) od_I0⟩)).to (by unfold elimP; rw [List.map_map]; rfl)) (of_decide_eq_true rfl) ?_
  refine sq_asgE (d := .int (elimB y.x y.i)) (ed_op (ed_op (ed_var rfl) (ed_op (ed_var rfl) ed_int (od_ixT rfl)) (od_I (mul4 (na (T.q _)) b1))) (ed_op (ed_var rfl) (ed_op (ed_var rfl) ed_int (od_ixT rfl)) (od_I (mul4 (na (T.p _)) b2))) od_I0) (of_decide_eq_true rfl) ?_
  have pll : (elimP y.n y.x y.i).length = y.n := by unfold elimP; simp
  have hz : pl (.lst ((elimP y.n y.x y.i).map Dt.int)) = true := by simp [pl, plA_ints]
  have hz2 : pl (.lst (List.replicate (elimP y.n y.x y.i).length [Dt.int 0]).flatten) = true := by
    rw [rep_rg]
    simp only [pl]
    exact plA_iff.mpr fun d h => by
      obtain ⟨_, _, e⟩ := List.mem_map.mp h
      subst e; rfl
  have hd : dep (.lst ((elimP y.n y.x y.i).map Dt.int)) ≤ 64 := by simp [dep, depA_ints]
  have hd2 : dep (.lst (List.replicate (elimP y.n y.x y.i).length [Dt.int 0]).flatten) ≤ 64 := by
    rw [rep_rg]
    simp only [dep]
    have : depA ((List.range (elimP y.n y.x y.i).length).map fun _ => Dt.int 0) ≤ 0 := depA_le.mpr fun d h => by
      obtain ⟨_, _, e⟩ := List.mem_map.mp h
      subst e; exact Nat.le_refl _
    omega
  refine sd_ret (Ed.er (ed_tup k (ea_cons (ed_if (b := (elimP y.n y.x y.i).all fun x => decide (x = 0)) ((et_test (ed_op (ed_var rfl) (Ef.ed (ef_rep k (Ef.ec (ef_lst k (ea_cons ed_int ea_nil) (by simp))) (ed_lenC (Ed.ec (ed_var rfl))) (by simp; omega) (by simp; omega))) (od_eqD hz (by simpa using hz2) hd (by simpa using hd2)))).to (by simpa using zeros_eq _)) (fun h => ?_) (fun h => ?_)) (ea_cons (ed_var rfl) ea_nil)) (by simp)) rfl)
  · exact ed_non.to (by rw [leastD_eq, if_pos h])
  · refine ed_call (elimP y.n y.x y.i, elimB y.x y.i) k (ea_cons (ed_var rfl) (ea_cons (ed_var rfl) ea_nil)) ⟨by show (elimP y.n y.x y.i).length ≤ 900; omega, elimP_bd T y.i, ?_⟩ fun d e => by rw [e, leastD_eq, if_neg (by simp [h])]
    obtain ⟨z, hz, h0⟩ := List.all_eq_false.mp h
    exact ⟨z, hz, by simpa using h0⟩

theorem sc__law_without : FnScope N__law_without ["_law_one", "_law_other", "_law_at"] (defScope s__law_without) := ⟨rfl, rfl, rfl, by decide +kernel, rfl, by decide +kernel, by decide +kernel⟩
section
variable {P : Program} {w : World} {K : PySem.W.Frag} {mg : Str → Option Value} {base : Heap}
theorem b__law_without (T : Fx K mg) : Binds K T.f__law_without.fd ["_law_one", "_law_other", "_law_at"] [] := T.f__law_without.F.bindsN fun _ _ _ _ _ _ us hl => match us, hl with | [_, _, _], _ => rfl
theorem d__law_without (T : Fx K mg) {cdv : Value} {A : Around} {outer : List Env} {s : Shared} {H : Hp} {E : XK} (hr : Room 2 (A.deeper (envOfC "_law_without" (defScope s__law_without) s.heap.objs.size T.f__law_without.f cdv))) : PSs (cxOf CX0 P w K mg base N__law_without "_law_without" (defScope s__law_without) T.f__law_without.f cdv A outer s H E).nox (defBody s__law_without) (t__law_without K T.C T.R) :=
  have nd := sc__law_without.nd
  (pss_cons (ps_asg (pe_tup (pa_cons (pe_callB o_abs rfl T.b_abs boot_abs (pa_cons (pe_ix ix_tup (pe_ix ix_tup (pv 1) pe_int (fun _ _ => rfl)) (pv 2) (fun _ _ => rfl)) pa_nil)) (pa_cons (pe_callB o_abs rfl T.b_abs boot_abs (pa_cons (pe_ix ix_tup (pe_ix ix_tup (pv 0) pe_int (fun _ _ => rfl)) (pv 2) (fun _ _ => rfl)) pa_nil)) pa_nil))) (pg_tup rfl (pgs_cons (pg_name (i := 3) nd rfl (by first | exact Or.inl rfl | exact Or.inr rfl)) (pgs_cons (pg_name (i := 4) nd rfl (by first | exact Or.inl rfl | exact Or.inr rfl)) pgs_nil))))
  (pss_cons (ps_setLc (i := 5) (own := [("_law_place", 6)]) (g := (gName 6)) (tt := tYes) rfl nd rfl rfl (sw_true rfl rfl rfl (by kernel_rfl)) (pi_range1 rfl T.b_range (pa_cons (pe_callB call_len rfl T.b_len boot_len (pa_cons (pe_ix ix_tup (pv 0) pe_int (fun _ _ => rfl)) pa_nil)) pa_nil)) (blkOk_by (by kernel_rfl)) (fun _ _ _ _ _ => (pg_name (i := 6) nd rfl (by first | exact Or.inl rfl | exact Or.inr rfl))) (fun _ _ _ _ _ => pts_nil) (fun _ _ _ _ _ => (pe_op op_add (pe_op op_mulW (pv 3) (pe_ix ix_tup (pe_ix ix_tup (pv 0) pe_int (fun _ _ => rfl)) (pv 6) (fun _ _ => rfl))) (pe_op op_mulW (pv 4) (pe_ix ix_tup (pe_ix ix_tup (pv 1) pe_int (fun _ _ => rfl)) (pv 6) (fun _ _ => rfl))))))
  (pss_cons (ps_set (i := 7) nd rfl (by first | exact Or.inl rfl | exact Or.inr rfl) (pe_op op_add (pe_op op_mulW (pv 3) (pe_ix ix_tup (pv 0) pe_int (fun _ _ => rfl))) (pe_op op_mulW (pv 4) (pe_ix ix_tup (pv 1) pe_int (fun _ _ => rfl)))))
  (pss_one (ps_ret (pe_tup (pa_cons (pe_ifExp (pt_cmpR (op_eqD hr.units) (pv 5) (pe_op op_rep (pe_lst (pa_cons pe_int pa_nil)) (pe_callB call_len rfl T.b_len boot_len (pa_cons (pv 5) pa_nil))) (nomark _)) pe_non (pe_call (ok__law_least T) (hr.mono (by decide)) rfl T.f__law_least.g T.f__law_least.F.kp (b__law_least T) .nil pass0 (pa_cons (pv 5) (pa_cons (pv 7) pa_nil)))) (pa_cons (pv 7) pa_nil))))))))
theorem ok__law_without (T : Fx K mg) : FnOk P w K mg base CX0 3 T.f__law_without.f T.f__law_without.fd ["_law_one", "_law_other", "_law_at"] (sp__law_without T.C) :=
  T.f__law_without.F.ok sc__law_without (fun vs H Q E ⟨A, x, _, r, _⟩ => by rw [r.length]; rfl) fun cdv A outer s H vs Q E hr h => ⟨t__law_without K T.C T.R, PSs.nox (d__law_without T hr), run_P K h fun W k x hC hK hp => by subst hK; rw [← hC]; exact sd__law_without W k T.R x hp⟩
end
end DL
namespace DL
open PySem PySem.Spec PyProof.Rows L2 Hd
/-! ### _law_mixed -/
abbrev sfD (l : List Pr) : Dt := fracD (sumF l).1 (sumF l).2
abbrev zi (z : List (Int × Int)) (c : Nat) : Int × Int := z.getD c (0, 1)
abbrev ri (rs : List Row) (c : Nat) : Row := rs.getD c ([], 0)
def someF (m : Nat) (z : List (Int × Int)) : List Nat := (List.range m).filter fun c => !decide ((zi z c).1 = 0)
def mixF (m : Nat) (z : List (Int × Int)) (g : Nat → Int) : List Pr := (someF m z).map fun c => ((zi z c).1, (zi z c).2, g c, 1)
structure MxG where
  rs : List Row
  z : List (Int × Int)
  n : Nat
structure MxG.Ok (x : MxG) : Prop where
  m : x.rs.length ≤ 7
  n : x.n ≤ 60
  l : x.z.length = x.rs.length
  r : ∀ r ∈ x.rs, r.1.length = x.n ∧ Bd 400 (r.2 :: r.1)
  z : ∀ z ∈ x.z, 0 < z.2 ∧ z.1.natAbs < 2 ^ 1000 ∧ z.2.natAbs < 2 ^ 1000
abbrev MxG.out (x : MxG) : Dt := .tup [.tup ((List.range x.n).map fun a => sfD (mixF x.rs.length x.z fun c => gi (ri x.rs c).1 a)), sfD (mixF x.rs.length x.z fun c => (ri x.rs c).2)]
abbrev MxG.inj (x : MxG) : List Dt := [rowsD x.rs, frs x.z, .int (x.n : Nat)]
abbrev sp__law_mixed (C : Addr) : Sp := spP C (G := MxG) MxG.inj MxG.Ok (fun x d => d = x.out)

abbrev N__law_mixed : List Str := ["_law_rows_here", "_law_numbers", "_law_size", "_law_found", "_law_some", "_law_at", "_law_place"]
def t__law_mixed (K : PySem.W.Frag) (C R : Addr) : TS := (tSeq (tPar 3 4 (tCons (tLst tNil) (tCons (tLc (iRng1 (tCons (tCB (rLen K) (tCons (tVar 0) tNil)) tNil)) (gName 5) (tTest (tOp rNe (tOp (rIxT K) (tOp (rIxT K) (tVar 1) (tVar 5)) (tC (.int 0))) (tC (.int 0)))) (tVar 5) [5]) tNil)))
  (tSeq (tFor (iRng1 (tCons (tVar 2) tNil)) (gName 6) (tDrop (tBM K "list" rAppend (tVar 3) (tCons (tCall (sp__law_sum C) [] E0 (tCons (tLc (iList K (tVar 4)) (gName 5) tYes (tTup (tCons (tOp (rIxT K) (tVar 1) (tVar 5)) (tCons (tTup (tCons (tOp (rIxT K) (tOp (rIxT K) (tOp (rIxT K) (tVar 0) (tVar 5)) (tC (.int 0))) (tVar 6)) (tCons (tC (.int 1)) tNil))) tNil))) [5]) tNil)) tNil))))
  (tRet (tTup (tCons (tCB (rTuple K) (tCons (tVar 3) tNil)) (tCons (tCall (sp__law_sum C) [] E0 (tCons (tLc (iList K (tVar 4)) (gName 5) tYes (tTup (tCons (tOp (rIxT K) (tVar 1) (tVar 5)) (tCons (tTup (tCons (tOp (rIxT K) (tOp (rIxT K) (tVar 0) (tVar 5)) (tC (.int 1))) (tCons (tC (.int 1)) tNil))) tNil))) [5]) tNil)) tNil))))))
theorem ri_mem {rs : List Row} {c : Nat} (h : c < rs.length) : ri rs c ∈ rs := by
  show rs.getD c ([], 0) ∈ rs
  rw [List.getD_eq_getElem?_getD, List.getElem?_eq_getElem h]
  exact List.getElem_mem h
theorem ri_atI {rs : List Row} {c : Nat} (h : c < rs.length) : atI (rs.map rD) (c : Nat) = some (rD (ri rs c)) := atI_nat' (by
  rw [List.getElem?_map, List.getElem?_eq_getElem h]
  show some _ = some (rD (rs.getD c ([], 0)))
  rw [List.getD_eq_getElem?_getD, List.getElem?_eq_getElem h]; rfl)
theorem zi_mem {z : List (Int × Int)} {c : Nat} (h : c < z.length) : zi z c ∈ z := by
  show z.getD c (0, 1) ∈ z
  rw [List.getD_eq_getElem?_getD, List.getElem?_eq_getElem h]
  exact List.getElem_mem h
theorem zi_atI {z : List (Int × Int)} {c : Nat} (h : c < z.length) : atI (z.map fun w => frD w.1 w.2) (c : Nat) = some (frD (zi z c).1 (zi z c).2) := atI_nat' (by
  rw [List.getElem?_map, List.getElem?_eq_getElem h]
  show some _ = some (frD (z.getD c (0, 1)).1 (z.getD c (0, 1)).2)
  rw [List.getD_eq_getElem?_getD, List.getElem?_eq_getElem h]; rfl)
theorem someF_lt {m : Nat} {z : List (Int × Int)} {c : Nat} (h : c ∈ someF m z) : c < m := List.mem_range.mp (List.mem_filter.mp h).1
theorem someF_len (m : Nat) (z : List (Int × Int)) : (someF m z).length ≤ m := by
  unfold someF
  exact Nat.le_trans (List.length_filter_le _ _) (by simp)
theorem mixF_ok {x : MxG} (h : x.Ok) {g : Nat → Int} (hg : ∀ c, c < x.rs.length → (g c).natAbs < 2 ^ 400) : PrsOk (mixF x.rs.length x.z g) := by
  refine ⟨by unfold mixF; rw [List.length_map]; exact Nat.le_trans (someF_len _ _) h.m, fun w hw => ?_⟩
  obtain ⟨c, hc, e⟩ := List.mem_map.mp hw
  have hc := someF_lt hc
  obtain ⟨z0, z1, z2⟩ := h.z _ (zi_mem (by rw [h.l]; exact hc))
  subst e
  exact ⟨z0, by show (0 : Int) < 1; decide, z1, z2, pow_up (hg c hc) (by decide), by show (1 : Nat) < 2 ^ 1000; decide, by show ((zi x.z c).2 * 1).natAbs < _; rw [Int.mul_one]; exact z2⟩
theorem sd__law_mixed (W : Wd) (k : W.Ok) (R : Addr) (x : MxG) (hp : x.Ok) : Sd W (t__law_mixed W.K W.C R) (startD N__law_mixed.length x.inj) { rt := fun d => d = x.out, nx := fun _ => Dt.non = x.out } := by
  have hm := hp.m
  have hn := hp.n
  have hl := hp.l
  refine sq_par (eam_ownE (ef_lst k ea_nil (by simp)) (eam_shE (Ef.ed (ef_lc (List.range x.rs.length) (fun c => .int (c : Nat)) (fun c => !decide ((zi x.z c).1 = 0)) (fun c => .int (c : Nat)) k (YlG.yl (yg_rangeN (ea_cons ((ed_cb (ea_cons (ed_var rfl) ea_nil) cd_lenT).to (by rw [List.length_map])) ea_nil) (by omega))) (by simp; omega) fun c hc => ⟨_, _, tg_name (of_decide_eq_true rfl), by simp, et_test (ed_op (ed_op (ed_op (ed_var rfl) (ed_var rfl) (od_ixT (zi_atI (by have := List.mem_range.mp hc; omega)))) ed_int (od_ixT rfl)) ed_int od_neI), fun hb => ed_var rfl⟩)) (eam_nil ⟨_, _, rfl, ?_⟩)))
  refine sq_for k (yg_rangeN (ea_cons (ed_var rfl) ea_nil) (by omega)) (fun i δ => i ≤ x.n ∧ ∃ q, δ = [some (.sh (rowsD x.rs)), some (.sh (frs x.z)), some (.sh (.int (x.n : Nat))), some (.own ((List.range i).map fun a => sfD (mixF x.rs.length x.z fun c => gi (ri x.rs c).1 a))), some (.sh (.lst ((someF x.rs.length x.z).map fun c => .int (c : Nat)))), none, q]) ⟨Nat.zero_le _, _, rfl⟩ ?_ ?_
  · rintro i d δ' hd ⟨hi, q, rfl⟩
    obtain ⟨hi, rfl⟩ := rg_get hd
    refine ⟨_, _, tg_name (of_decide_eq_true rfl), ?_⟩
    have ok := mixF_ok hp (g := fun c => gi (ri x.rs c).1 i) fun c hc => gi_bd (fun y hy => (hp.r _ (ri_mem hc)).2 y (List.mem_cons_of_mem _ hy)) i
    refine sd_append (R := fun d => d = sfD (mixF x.rs.length x.z fun c => gi (ri x.rs c).1 i)) k rfl (er_callE (mixF x.rs.length x.z fun c => gi (ri x.rs c).1 i) k (ea_cons ((Ef.ed (ef_lcAll (someF x.rs.length x.z) (fun c => .int (c : Nat)) (fun c => prD4 ((zi x.z c).1, (zi x.z c).2, gi (ri x.rs c).1 i, 1)) k (YlG.yl (yg_list (ed_var rfl))) (by have := someF_len x.rs.length x.z; omega) fun c hc => ⟨_, _, tg_name (of_decide_eq_true rfl), by simp, ed_tup k (ea_cons (ed_op (ed_var rfl) (ed_var rfl) (od_ixT (zi_atI (by have := someF_lt hc; omega)))) (ea_cons (ed_tup k (ea_cons (ed_op (ed_op (ed_op (ed_var rfl) (ed_var rfl) (od_ixT (ri_atI (someF_lt hc)))) ed_int (od_ixT rfl)) (ed_var rfl) (od_ixT (gi_atI (by rw [(hp.r _ (ri_mem (someF_lt hc))).1]; exact hi)))) (ea_cons ed_int ea_nil)) (by simp)) ea_nil)) (by simp)⟩)).to (by unfold mixF; rw [List.map_map]; rfl)) ea_nil) ok (fun d e => e)) (by simp; omega) fun d e => ?_
    subst e
    exact ⟨hi, _, by rw [rg_succ]; rfl⟩
  · rintro δ' ⟨_, q, rfl⟩
    rw [List.length_map, List.length_range]
    have ok := mixF_ok hp (g := fun c => (ri x.rs c).2) fun c hc => (hp.r _ (ri_mem hc)).2 _ List.mem_cons_self
    refine sd_ret (er_tup (PL := fun l => l = [.tup ((List.range x.n).map fun a => sfD (mixF x.rs.length x.z fun c => gi (ri x.rs c).1 a)), sfD (mixF x.rs.length x.z fun c => (ri x.rs c).2)]) k (ear_cons (PR := fun _ => True) (er_tupleC (P := fun d => d = .tup ((List.range x.n).map fun a => sfD (mixF x.rs.length x.z fun c => gi (ri x.rs c).1 a))) k (ec_var rfl) rfl) fun d1 e1 => ear_cons (PR := fun _ => True) (er_callE (P := fun d => d = sfD (mixF x.rs.length x.z fun c => (ri x.rs c).2)) (mixF x.rs.length x.z fun c => (ri x.rs c).2) k (ea_cons ((Ef.ed (ef_lcAll (someF x.rs.length x.z) (fun c => .int (c : Nat)) (fun c => prD4 ((zi x.z c).1, (zi x.z c).2, (ri x.rs c).2, 1)) k (YlG.yl (yg_list (ed_var rfl))) (by have := someF_len x.rs.length x.z; omega) fun c hc => ⟨_, _, tg_name (of_decide_eq_true rfl), by simp, ed_tup k (ea_cons (ed_op (ed_var rfl) (ed_var rfl) (od_ixT (zi_atI (by have := someF_lt hc; omega)))) (ea_cons (ed_tup k (ea_cons (ed_op (ed_op (ed_var rfl) (ed_var rfl) (od_ixT (ri_atI (someF_lt hc)))) ed_int (od_ixT rfl)) (ea_cons ed_int ea_nil)) (by simp)) ea_nil)) (by simp)⟩)).to (by unfold mixF; rw [List.map_map]; rfl)) ea_nil) ok (fun d e => e)) fun d2 e2 => Ear.imp ear_nil fun _ e3 => by subst e1 e2 e3; rfl) fun l e => ?_)
    subst e
    exact ⟨by simp, rfl⟩

theorem sc__law_mixed : FnScope N__law_mixed ["_law_rows_here", "_law_numbers", "_law_size"] (defScope s__law_mixed) := ⟨rfl, rfl, rfl, by decide +kernel, rfl, by decide +kernel, by decide +kernel⟩
section
variable {P : Program} {w : World} {K : PySem.W.Frag} {mg : Str → Option Value} {base : Heap}
theorem b__law_mixed (T : Fx K mg) : Binds K T.f__law_mixed.fd ["_law_rows_here", "_law_numbers", "_law_size"] [] := T.f__law_mixed.F.bindsN fun _ _ _ _ _ _ us hl => match us, hl with | [_, _, _], _ => rfl
theorem d__law_mixed (T : Fx K mg) {cdv : Value} {A : Around} {outer : List Env} {s : Shared} {H : Hp} {E : XK} (hr : Room 3 (A.deeper (envOfC "_law_mixed" (defScope s__law_mixed) s.heap.objs.size T.f__law_mixed.f cdv))) : PSs (cxOf CX0 P w K mg base N__law_mixed "_law_mixed" (defScope s__law_mixed) T.f__law_mixed.f cdv A outer s H E).nox (defBody s__law_mixed) (t__law_mixed K T.C T.R) :=
  have nd := sc__law_mixed.nd
  (pss_cons (ps_par (i := 3) (j := 4) rfl nd rfl rfl (by decide) rfl rfl (pa_cons (pe_lst pa_nil) (pa_cons (pe_lc (own := [("_law_at", 5)]) (g := (gName 5)) (tt := (tTest (tOp rNe (tOp (rIxT K) (tOp (rIxT K) (tVar 1) (tVar 5)) (tC (.int 0))) (tC (.int 0))))) rfl nd (pi_range1 rfl T.b_range (pa_cons (pe_callB call_len rfl T.b_len boot_len (pa_cons (pv 0) pa_nil)) pa_nil)) (blkOk_by (by kernel_rfl)) (fun _ _ _ _ _ => (pg_name (i := 5) nd rfl (by first | exact Or.inl rfl | exact Or.inr rfl))) (fun _ _ _ _ _ => (pts_one (pt_cmpR op_ne (pe_ix ix_tup (pe_ix ix_tup (pv 1) (pv 5) (fun _ _ => rfl)) pe_int (fun _ _ => rfl)) pe_int (nomark _)))) (fun _ _ _ _ _ => (pv 5))) pa_nil)) rfl)
  (pss_cons (ps_for PassesOwn.never rfl (pi_range1 rfl T.b_range (pa_cons (pv 2) pa_nil)) (pg_name (i := 6) nd rfl (by first | exact Or.inl rfl | exact Or.inr rfl)) (pss_one (ps_expr (pe_bm PySem.F.plainAttrs_list PySem.F.slot_list_append PySem.F.type_list_append mt_append (pv 3) (pa_cons (pe_call (ok__law_sum T) (hr.mono (by decide)) rfl T.f__law_sum.g T.f__law_sum.F.kp (b__law_sum T) .nil pass0 (pa_cons (pe_lc (own := [("_law_at", 5)]) (g := (gName 5)) (tt := tYes) rfl nd (pi_list (pv 4)) (blkOk_by (by kernel_rfl)) (fun _ _ _ _ _ => (pg_name (i := 5) nd rfl (by first | exact Or.inl rfl | exact Or.inr rfl))) (fun _ _ _ _ _ => pts_nil) (fun _ _ _ _ _ => (pe_tup (pa_cons (pe_ix ix_tup (pv 1) (pv 5) (fun _ _ => rfl)) (pa_cons (pe_tup (pa_cons (pe_ix ix_tup (pe_ix ix_tup (pe_ix ix_tup (pv 0) (pv 5) (fun _ _ => rfl)) pe_int (fun _ _ => rfl)) (pv 6) (fun _ _ => rfl)) (pa_cons pe_int pa_nil))) pa_nil))))) pa_nil)) pa_nil)))))
  (pss_one (ps_ret (pe_tup (pa_cons (pe_callTy call_tuple_of rfl T.b_tuple boot_tuple (pa_cons (pv 3) pa_nil)) (pa_cons (pe_call (ok__law_sum T) (hr.mono (by decide)) rfl T.f__law_sum.g T.f__law_sum.F.kp (b__law_sum T) .nil pass0 (pa_cons (pe_lc (own := [("_law_at", 5)]) (g := (gName 5)) (tt := tYes) rfl nd (pi_list (pv 4)) (blkOk_by (by kernel_rfl)) (fun _ _ _ _ _ => (pg_name (i := 5) nd rfl (by first | exact Or.inl rfl | exact Or.inr rfl))) (fun _ _ _ _ _ => pts_nil) (fun _ _ _ _ _ => (pe_tup (pa_cons (pe_ix ix_tup (pv 1) (pv 5) (fun _ _ => rfl)) (pa_cons (pe_tup (pa_cons (pe_ix ix_tup (pe_ix ix_tup (pv 0) (pv 5) (fun _ _ => rfl)) pe_int (fun _ _ => rfl)) (pa_cons pe_int pa_nil))) pa_nil))))) pa_nil)) pa_nil)))))))
theorem ok__law_mixed (T : Fx K mg) : FnOk P w K mg base CX0 4 T.f__law_mixed.f T.f__law_mixed.fd ["_law_rows_here", "_law_numbers", "_law_size"] (sp__law_mixed T.C) :=
  T.f__law_mixed.F.ok sc__law_mixed (fun vs H Q E ⟨A, x, _, r, _⟩ => by rw [r.length]; rfl) fun cdv A outer s H vs Q E hr h => ⟨t__law_mixed K T.C T.R, PSs.nox (d__law_mixed T hr), run_P K h fun W k x hC hK hp => by subst hK; rw [← hC]; exact sd__law_mixed W k T.R x hp⟩
end
/-! ### _law_kept -/
/-- sorted, each once -/
structure KeptOf (l rs : List Row) : Prop where
  s : rs.Pairwise fun a b => dLt (rD a) (rD b) = true
  m : ∀ r, r ∈ rs ↔ r ∈ l
  n : rs.length ≤ l.length
abbrev sp__law_kept (C : Addr) : Sp := spP C (G := List Row) (fun l => [.lst (l.map rD)]) (fun l => l.length ≤ 1000) (fun l d => ∃ rs, d = rowsD rs ∧ KeptOf l rs)

abbrev N__law_kept : List Str := ["_law_found", "_law_kept_here", "_law_row_here"]
def t__law_kept (K : PySem.W.Frag) (C R : Addr) : TS := (tSeq (tAsg (tLst tNil) (gName 1))
  (tSeq (tFor (iList K (tCB (rSortD K) (tCons (tVar 0) tNil))) (gName 2) (tIfS (tTest (tOp (rNotInD K) (tVar 2) (tVar 1))) (tDrop (tBM K "list" rAppend (tVar 1) (tCons (tVar 2) tNil))) tNext))
  (tRet (tCB (rTuple K) (tCons (tVar 1) tNil)))))
theorem plA_rows (l : List Row) : plA (l.map rD) = true := plA_iff.mpr fun d h => by
  obtain ⟨r, _, e⟩ := List.mem_map.mp h
  subst e; exact pl_rD r
theorem depA_rows (l : List Row) : depA (l.map rD) ≤ 2 := depA_le.mpr fun d h => by
  obtain ⟨r, _, e⟩ := List.mem_map.mp h
  subst e; rw [dep_rD]; exact Nat.le_refl _
theorem any_rows (r : Row) (l : List Row) : ((l.map rD).any fun x => deq x (rD r)) = decide (r ∈ l) := by
  rw [List.any_map]
  by_cases h : r ∈ l
  · rw [decide_eq_true h, List.any_eq_true]
    exact ⟨r, h, deq_self (pl_rD r)⟩
  · rw [decide_eq_false h, List.any_eq_false]
    intro x hx e
    exact h (by
      have := (deq_iff _ _ (pl_rD x) (pl_rD r)).mp e
      rw [← rD_inj this]; exact hx)
theorem sorted_rows {W : Wd} {δ : Dl} {ta : TE} (k : W.Ok) {l : List Row} (ha : Ec W ta δ (l.map rD)) : Efr W (tCB (rSortD W.K) (tCons ta tNil)) δ fun es => ∃ ks : List Row, es = ks.map rD ∧ ks.Perm l ∧ ks.Pairwise fun x y => dLt (rD y) (rD x) = false := by
  refine Efr.imp (efr_sorted k ha (plA_rows l) (Nat.le_trans (depA_rows l) (by decide)) (fun d hd e he => ?_) (.inl fun d hd => ?_)) fun es ⟨hp, hs⟩ => ?_
  · obtain ⟨r, _, e1⟩ := List.mem_map.mp hd
    obtain ⟨s, _, e2⟩ := List.mem_map.mp he
    subst e1 e2
    exact alk_rD r s
  · obtain ⟨r, _, e1⟩ := List.mem_map.mp hd
    subst e1
    exact ⟨_, _, rfl⟩
  · obtain ⟨ks, k1, k2⟩ := PL.perm_map_of hp
    refine ⟨ks, k2.symm, k1, ?_⟩
    rw [← k2, List.pairwise_map] at hs
    exact hs
/-- one more of the sorted list -/
theorem kept_step {ks rs : List Row} {i : Nat} {r : Row} (hk : ks.Pairwise fun x y => dLt (rD y) (rD x) = false) (hr : ks[i]? = some r) (hs : rs.Pairwise fun a b => dLt (rD a) (rD b) = true) (hm : ∀ r, r ∈ rs ↔ r ∈ ks.take i) (hn : rs.length ≤ i) :
    (r ∉ rs → (rs ++ [r]).Pairwise (fun a b => dLt (rD a) (rD b) = true) ∧ (∀ s, s ∈ rs ++ [r] ↔ s ∈ ks.take (i + 1)) ∧ (rs ++ [r]).length ≤ i + 1) ∧ (r ∈ rs → ∀ s, s ∈ rs ↔ s ∈ ks.take (i + 1)) := by
  have et : ks.take (i + 1) = ks.take i ++ [r] := by rw [List.take_add_one, hr]; rfl
  refine ⟨fun hnr => ⟨?_, fun s => ?_, by simp; omega⟩, fun hr' s => ?_⟩
  · rw [List.pairwise_append]
    refine ⟨hs, by simp, fun a ha b hb => ?_⟩
    have eb : b = r := by simpa using hb
    subst eb
    have ha' := (hm a).mp ha
    have hlt : dLt (rD b) (rD a) = false := by
      obtain ⟨j, hj⟩ := List.mem_iff_getElem?.mp ha'
      have hji : j < i := by
        have := (List.getElem?_eq_some_iff.mp hj).1
        rw [List.length_take] at this
        omega
      rw [List.getElem?_take_of_lt hji] at hj
      have hjl := (List.getElem?_eq_some_iff.mp hj).1
      have hil := (List.getElem?_eq_some_iff.mp hr).1
      have := (List.pairwise_iff_getElem.mp hk) j i hjl hil hji
      rw [(List.getElem?_eq_some_iff.mp hj).2, (List.getElem?_eq_some_iff.mp hr).2] at this
      exact this
    exact dLt_strict (pl_rD a) (pl_rD b) (alk_rD a b) (fun e => hnr (by rw [← rD_inj e]; exact ha)) hlt
  · rw [et, List.mem_append, List.mem_append, hm s]
  · rw [et, List.mem_append, ← hm s]
    constructor
    · exact .inl
    · intro h
      rcases h with h | h
      · exact h
      · have : s = r := by simpa using h
        subst this; exact hr'
theorem sd__law_kept (W : Wd) (k : W.Ok) (R : Addr) (x : List Row) (hp : x.length ≤ 1000) : Sd W (t__law_kept W.K W.C R) (startD N__law_kept.length [.lst (x.map rD)]) { rt := fun d => ∃ rs, d = rowsD rs ∧ KeptOf x rs, nx := fun _ => ∃ rs, Dt.non = rowsD rs ∧ KeptOf x rs } := by
  refine sq_asgOE (ef_lst k ea_nil (by simp)) (of_decide_eq_true rfl) ?_
  refine sq_forR k (yg_listF (sorted_rows k (Ed.ec (ed_var rfl)))) (fun es i δ => ∃ ks : List Row, es = ks.map rD ∧ ks.Perm x ∧ (ks.Pairwise fun x y => dLt (rD y) (rD x) = false) ∧ ∃ rs : List Row, (rs.Pairwise (fun a b => dLt (rD a) (rD b) = true) ∧ (∀ r, r ∈ rs ↔ r ∈ ks.take i) ∧ rs.length ≤ i) ∧ ∃ q, δ = [some (.sh (.lst (x.map rD))), some (.own (rs.map rD)), q]) ?_ ?_ ?_
  · rintro es ⟨ks, e, h1, h2⟩
    exact ⟨ks, e, h1, h2, [], ⟨List.Pairwise.nil, by simp, by simp⟩, _, rfl⟩
  · rintro es i d δ' _ hd ⟨ks, rfl, h1, h2, rs, ⟨hs, hm, hn⟩, q, rfl⟩
    obtain ⟨r, hr, rfl⟩ := map_at hd
    have hi := (List.getElem?_eq_some_iff.mp hr).1
    have hlen := h1.length_eq
    obtain ⟨s1, s2⟩ := kept_step h2 hr hs hm hn
    refine ⟨_, _, tg_name (of_decide_eq_true rfl), ?_⟩
    refine sd_if (et_test ((ed_notInL (ed_var rfl) (ec_var rfl) (pl_rD r) (plA_rows rs) (by rw [dep_rD]; decide) (Nat.le_trans (depA_rows rs) (by decide))).to (by rw [any_rows]))) (fun h => ?_) (fun h => ?_)
    · have hnr : r ∉ rs := by simpa using h
      refine sd_append (R := fun d => d = rD r) k rfl (ed_var rfl) (by simp; omega) fun d e => ?_
      subst e
      exact ⟨ks, rfl, h1, h2, rs ++ [r], s1 hnr, _, by rw [List.map_append]; rfl⟩
    · have hir : r ∈ rs := by simpa using h
      exact sd_next ⟨ks, rfl, h1, h2, rs, ⟨hs, s2 hir, by omega⟩, _, rfl⟩
  · rintro es δ' _ ⟨ks, rfl, h1, h2, rs, ⟨hs, hm, hn⟩, q, rfl⟩
    rw [List.length_map, List.take_length] at hm
    rw [List.length_map] at hn
    refine sd_ret (er_tupleC k (ec_var rfl) ⟨rs, rfl, hs, fun r => ?_, by rw [← h1.length_eq]; exact hn⟩)
    rw [hm r]
    exact h1.mem_iff

theorem sc__law_kept : FnScope N__law_kept ["_law_found"] (defScope s__law_kept) := ⟨rfl, rfl, rfl, by decide +kernel, rfl, by decide +kernel, by decide +kernel⟩
section
variable {P : Program} {w : World} {K : PySem.W.Frag} {mg : Str → Option Value} {base : Heap}
theorem b__law_kept (T : Fx K mg) : Binds K T.f__law_kept.fd ["_law_found"] [] := T.f__law_kept.F.bindsN fun _ _ _ _ _ _ us hl => match us, hl with | [_], _ => rfl
theorem d__law_kept (T : Fx K mg) {cdv : Value} {A : Around} {outer : List Env} {s : Shared} {H : Hp} {E : XK} (hr : Room 0 (A.deeper (envOfC "_law_kept" (defScope s__law_kept) s.heap.objs.size T.f__law_kept.f cdv))) : PSs (cxOf CX0 P w K mg base N__law_kept "_law_kept" (defScope s__law_kept) T.f__law_kept.f cdv A outer s H E).nox (defBody s__law_kept) (t__law_kept K T.C T.R) :=
  have nd := sc__law_kept.nd
  (pss_cons (ps_set (i := 1) nd rfl (by first | exact Or.inl rfl | exact Or.inr rfl) (pe_lst pa_nil))
  (pss_cons (ps_for PassesOwn.never rfl (pi_list (pe_callB (callSortD (hu100 hr)) rfl T.b_sorted boot_sorted (pa_cons (pv 0) pa_nil))) (pg_name (i := 2) nd rfl (by first | exact Or.inl rfl | exact Or.inr rfl)) (pss_one (ps_if (pt_cmpR (op_notInD (hu65 hr)) (pv 2) (pv 1) rfl) (pss_one (ps_expr (pe_bm PySem.F.plainAttrs_list PySem.F.slot_list_append PySem.F.type_list_append mt_append (pv 1) (pa_cons (pv 2) pa_nil)))) pss_nil)))
  (pss_one (ps_ret (pe_callTy call_tuple_of rfl T.b_tuple boot_tuple (pa_cons (pv 1) pa_nil))))))
theorem ok__law_kept (T : Fx K mg) : FnOk P w K mg base CX0 1 T.f__law_kept.f T.f__law_kept.fd ["_law_found"] (sp__law_kept T.C) :=
  T.f__law_kept.F.ok sc__law_kept (fun vs H Q E ⟨A, x, _, r, _⟩ => by rw [r.length]; rfl) fun cdv A outer s H vs Q E hr h => ⟨t__law_kept K T.C T.R, PSs.nox (d__law_kept T hr), run_P K h fun W k x hC hK hp => by subst hK; rw [← hC]; exact sd__law_kept W k T.R x hp⟩
end
end DL
/-! the class System -/
namespace DL
open PySem PySem.Spec PyProof.Rows L2 Hd
def spNew (C : Addr) : Sp := fun vs H Q _ => ∃ (A : Addr → Prop) (x dx : Addr) (v1 v2 : V) (ns : List Str) (rs : List Row), vs = [.ref x, v1, v2] ∧ H x = some (.ins C dx []) ∧ (∀ a, A a → H a ≠ none) ∧ Rep C A H v1 (namesD ns) ∧ Rep C A H v2 (rowsD rs) ∧ namesOk ns ∧ rowsOk ns.length rs ∧
  ∀ H', (∀ a o, a ≠ x → H a = some o → H' a = some o) → (∃ fs, H' x = some (.ins C dx fs) ∧ fs.lookup ("names" : Str) = some v1 ∧ fs.lookup ("rows" : Str) = some v2) → Q .non H'
abbrev N_init : List Str := ["self", "names", "rows"]
def t_init (K : PySem.W.Frag) (C : Addr) : TS := tSeq (tDrop (tCall (sp_check_system C) [] E0 (tCons (tVar 1) (tCons (tVar 2) tNil)))) (tSeq (sFld K (tVar 0) (tVar 1) "names") (sFld K (tVar 0) (tVar 2) "rows"))
theorem sd_init {K : PySem.W.Frag} {C : Addr} (hA : Attrs K C) {vs : List V} {H : Hp} {Q : VK} {E : XK} (h : spNew C vs H Q E) : t_init K C { nx := fun _ H' => Q .non H', rt := Q } (L2.start N_init vs) H := by
  obtain ⟨A, x, dx, v1, v2, ns, rs, rfl, hx, hAn, r1, r2, hn, hr, q⟩ := h
  refine ⟨v1, rfl, v2, rfl, ?_⟩
  show sp_check_system C ([v1, v2] ++ []) H _ E0
  refine ⟨A, (ns, rs), hAn, .cons r1 (.cons r2 .nil), ⟨hn, hr⟩, fun v H1 d ex _ _ => ?_⟩
  refine ⟨v1, rfl, .ref x, rfl, x, C, dx, [], rfl, ex x _ hx, hA.c, hA.n, by decide, ?_⟩
  refine ⟨v2, rfl, .ref x, rfl, x, C, dx, putF "names" v1 [], rfl, upd_same, hA.c, hA.r, ?_, ?_⟩
  · exact Nat.lt_of_le_of_lt (show (putF "names" v1 []).length ≤ 1 from Nat.le_refl 1) (by decide)
  · refine q _ (fun a o ne e => ?_) ⟨_, upd_same, ?_, ?_⟩
    · rw [upd_ne ne, upd_ne ne]
      exact ex a o e
    · rfl
    · rfl
theorem sc_init : FnScope N_init ["self", "names", "rows"] (defScope s_System_init) := ⟨rfl, rfl, rfl, by decide +kernel, rfl, by decide +kernel, by decide +kernel⟩
section
variable {P : Program} {w : World} {K : PySem.W.Frag} {mg : Str → Option Value} {base : Heap}
theorem b_init (T : Fx K mg) : Binds K T.fd_init ["self", "names", "rows"] [] := T.F_init.bindsN fun _ _ _ _ _ _ us hl => match us, hl with | [_, _, _], _ => rfl
theorem d_init (T : Fx K mg) {cdv : Value} {A : Around} {outer : List Env} {s : Shared} {H : Hp} {E : XK} (hr : Room 4 (A.deeper (envOfC "System.__init__" (defScope s_System_init) s.heap.objs.size T.a_init cdv))) : PSs (cxOf CX0 P w K mg base N_init "System.__init__" (defScope s_System_init) T.a_init cdv A outer s H E).nox (defBody s_System_init) (t_init K T.C) :=
  have nd := sc_init.nd
  (pss_cons (ps_expr (pe_call (ok_check_system T) (hr.mono (by decide)) rfl T.f_check_system.g T.f_check_system.F.kp (b_check_system T) .nil pass0 (pa_cons (pv 1) (pa_cons (pv 2) pa_nil))))
    (pss_cons (ps_fld (pv 0) (pv 1) rfl) (pss_one (ps_fld (pv 0) (pv 2) rfl))))
theorem ok_init (T : Fx K mg) : FnOk P w K mg base CX0 5 T.a_init T.fd_init ["self", "names", "rows"] (spNew T.C) :=
  T.F_init.ok sc_init (fun vs H Q E ⟨A, x, dx, v1, v2, ns, rs, e, _⟩ => by rw [e]; rfl) fun cdv A outer s H vs Q E hr h => ⟨t_init K T.C, PSs.nox (d_init T hr), sd_init ⟨T.clC, T.noN, T.noR⟩ h⟩
end
/-- System(names, rows) -/
theorem ed_new {W : Wd} {δ : Dl} {tar : TA} {ns : List Str} {rs : List Row} {E : XK} (k : W.Ok) (ha : Ea W tar δ [namesD ns, rowsD rs]) (hn : namesOk ns) (hr : rowsOk ns.length rs) : Ed W (tMake W.C (spNew W.C) [] E tar) δ (sysD ns rs) := fun g O σ H S Q q => ha g O σ H S _ fun vs H1 ds f1 i1 e r => by
  subst e
  cases r with
  | @cons v1 _ _ _ r1 rr =>
    cases rr with
    | @cons v2 _ _ _ r2 rr =>
      cases rr
      intro x dx hx hdx hne
      have S1 := S.step f1 i1
      have up : ∀ a o, H1 a = some o → upd (upd H1 dx (.own x)) x (.ins W.C dx []) a = some o := fun a o e => by
        rw [upd_ne (ne_of_none e hx), upd_ne (ne_of_none e hdx)]; exact e
      refine ⟨W.M O, x, dx, v1, v2, ns, rs, rfl, upd_same, fun a h z => ?_, r1.mono fun a o n e => ⟨n, up a o e⟩, r2.mono fun a o n e => ⟨n, up a o e⟩, hn, hr, fun H' ex ⟨fs, hf, l1, l2⟩ => ⟨rfl, ?_⟩⟩
      · cases e : H1 a with
        | none => exact S1.there a h e
        | some o => rw [up a o e] at z; cases z
      · have keep : ∀ a o, H1 a = some o → H' a = some o := fun a o e => ex a o (ne_of_none e hx) (up a o e)
        refine q _ H' _ (f1.trans (Fr.all keep)) (k.all i1 keep) rfl (.sys hf (S1.fresh hx) l1 l2 (r1.mono fun a o n e => ⟨n, keep a o e⟩) (r2.mono fun a o n e => ⟨n, keep a o e⟩))
end DL
namespace DL
open PySem PySem.Spec PyProof.Rows L2 Hd
/-! ### _law_draw -/
abbrev sp__law_draw (C : Addr) : Sp := spI C (G := Int) (fun m => [.int m]) (fun m => 0 < m ∧ m < 2 ^ 100) (fun m d => ∃ r : Int, d = .int r ∧ 0 ≤ r ∧ r < m)

abbrev N__law_draw : List Str := ["_law_heap_here", "_law_many", "_law_rest"]
def t__law_draw (K : PySem.W.Frag) (C R : Addr) : TS := (tSeq (tWhile (tAnd (tTest (tOp (rNeD K) (tOp (rIxL K) (tVar 0) (tC (.int 0))) (tLst tNil))) (tTest (tOp rEq (tOp (rIxL K) (tOp (rIxL K) (tVar 0) (tC (.int 0))) (tUn rNeg (tC (.int 1)))) (tC (.int 0))))) (tDrop (tBM0 K "list" rPop (tOp (rIxL K) (tVar 0) (tC (.int 0))))))
  (tSeq (tIfS (tTest (tOp (rNeD K) (tOp (rIxL K) (tVar 0) (tC (.int 0))) (tLst tNil))) (tSeq (tAsg (tBM0 K "list" rPop (tOp (rIxL K) (tVar 0) (tC (.int 0)))) (gName 2))
  (tSeq (tDrop (tBM K "list" rAppend (tOp (rIxL K) (tVar 0) (tC (.int 0))) (tCons (tOp rFdiv (tVar 2) (tVar 1)) tNil)))
  (tRet (tOp rMod (tCB rInt1 (tCons (tVar 2) tNil)) (tVar 1))))) tNext)
  (tSeq (tAsg (tOp rMod (tCB rInt1 (tCons (tOp rAdd (tOp rMulW (tOp (rIxL K) (tVar 0) (tC (.int 1))) (tC (.int 69621))) (tC (.int 29))) tNil)) (tC (.int 2147483647))) (gSub (tVar 0) (tC (.int 1)) rSetL))
  (tRet (tOp rMod (tCB rInt1 (tCons (tOp rFdiv (tOp (rIxL K) (tVar 0) (tC (.int 1))) (tC (.int 32))) tNil)) (tVar 1))))))
/-- the heap, as it is under way -/
structure HW (h c : Addr) (s : Int) (ns : List Int) (H0 H : Hp) : Prop where
  hh : H h = some (.lst [.ref c, .int s])
  hc : H c = some (.lst (ns.map V.int))
  fr : ∀ a o, a ≠ h → a ≠ c → H0 a = some o → H a = some o
theorem HW.new {h c p : Addr} {s : Int} {ns : List Int} {H0 H : Hp} {o : HO} (w : HW h c s ns H0 H) (hp : H p = none) : HW h c s ns H0 (upd H p o) := ⟨by rw [upd_ne (ne_of_none w.hh hp)]; exact w.hh, by rw [upd_ne (ne_of_none w.hc hp)]; exact w.hc, fun a u n1 n2 e => by rw [upd_ne (ne_of_none (w.fr a u n1 n2 e) hp)]; exact w.fr a u n1 n2 e⟩
theorem HW.setC {h c : Addr} {s : Int} {ns ms : List Int} {H0 H : Hp} (w : HW h c s ns H0 H) (ne : h ≠ c) : HW h c s ms H0 (upd H c (.lst (ms.map V.int))) := ⟨by rw [upd_ne ne]; exact w.hh, upd_same, fun a u n1 n2 e => by rw [upd_ne n2]; exact w.fr a u n1 n2 e⟩
theorem HW.setH {h c : Addr} {s t : Int} {ns : List Int} {H0 H : Hp} (w : HW h c s ns H0 H) (ne : h ≠ c) : HW h c t ns H0 (upd H h (.lst [.ref c, .int t])) := ⟨upd_same, by rw [upd_ne (fun z => ne z.symm)]; exact w.hc, fun a u n1 n2 e => by rw [upd_ne n1]; exact w.fr a u n1 n2 e⟩
section
variable {K : PySem.W.Frag} {σ : L2.St} {h c : Addr} {s : Int} {ns : List Int} {H0 H : Hp}
theorem dr_cells {Q : VK} (e : σ[0]? = some (some (.ref h))) (w : HW h c s ns H0 H) (q : Q (.ref c) H) : tOp (rIxL K) (tVar 0) (tC (.int 0)) σ H Q := ⟨_, e, h, _, 0, .ref c, rfl, rfl, SqL.of w.hh, rfl, q⟩
theorem dr_stir {Q : VK} (e : σ[0]? = some (some (.ref h))) (w : HW h c s ns H0 H) (q : Q (.int s) H) : tOp (rIxL K) (tVar 0) (tC (.int 1)) σ H Q := ⟨_, e, h, _, 1, .int s, rfl, rfl, SqL.of w.hh, rfl, q⟩
theorem plInts (ns : List Int) : plA (ns.map Dt.int) = true := plA_iff.mpr fun d hd => by
  obtain ⟨n, _, e⟩ := List.mem_map.mp hd
  rw [← e]; rfl
theorem depInts (ns : List Int) : depA (ns.map Dt.int) ≤ 0 := depA_le.mpr fun d hd => by
  obtain ⟨n, _, e⟩ := List.mem_map.mp hd
  rw [← e]; exact Nat.le_refl 0
theorem dr_ne {Q : Bool → Hp → Prop} (e : σ[0]? = some (some (.ref h))) (w : HW h c s ns H0 H) (q : ∀ H', HW h c s ns H0 H' → Q (!decide (ns = [])) H') : tTest (tOp (rNeD K) (tOp (rIxL K) (tVar 0) (tC (.int 0))) (tLst tNil)) σ H Q := by
  refine dr_cells e w ⟨by decide, fun p hp => ?_⟩
  have w' : HW h c s ns H0 (upd H p (.lst [])) := w.new hp
  have r1 : Rep 0 (fun _ => False) (upd H p (.lst [])) (.ref c) (.lst (ns.map Dt.int)) := .lst w'.hc (fun z => z) (Reps.of_ints ns)
  have r2 : Rep 0 (fun _ => False) (upd H p (.lst [])) (.ref p) (.lst []) := .lst upd_same (fun z => z) .nil
  have p1 : pl (.lst (ns.map Dt.int)) = true := by show plA _ = true; exact plInts ns
  refine ⟨_, _, r1.dp p1, r2.dp rfl, shaped_of p1 (by have := depInts ns; simp only [dep]; omega), shaped_of rfl (by decide), _, rfl, ?_⟩
  have hd : (!PyData.eqv (toPy (.lst (ns.map Dt.int))) (toPy (.lst []))) = !decide (ns = []) := by
    congr 1
    rw [Bool.eq_iff_iff, decide_eq_true_iff]
    refine (deq_iff _ _ p1 rfl).trans ?_
    simp
  rw [hd]
  exact q _ w'
end
theorem len__law_draw {C : Addr} {vs : List V} {H : Hp} {Q : VK} {E : XK} (h : sp__law_draw C vs H Q E) : vs.length = 2 := by
  obtain ⟨A, a, c, x, _, _, _, _, r, _⟩ := h
  rw [r.length]; rfl
theorem last_at {α : Type} {xs : List α} (h : xs ≠ []) : ∃ ys y, xs = ys ++ [y] := ⟨xs.dropLast, xs.getLast h, (List.dropLast_concat_getLast h).symm⟩
theorem run__law_draw {K : PySem.W.Frag} {C R : Addr} {vs : List V} {H : Hp} {Q : VK} {E : XK} (hs : sp__law_draw C vs H Q E) : t__law_draw K C R { nx := fun _ H' => Q .non H', rt := Q } (L2.start N__law_draw vs) H := by
  obtain ⟨A, h, c, m, hA, ah, ac, hx, r, ⟨hm, hm2⟩, q⟩ := hs
  obtain ⟨s, ns, e1, e2, s0, s1, hl⟩ := hx.at_
  cases r with
  | cons r rr =>
    cases rr with
    | cons r2 rr =>
      cases rr; cases r; cases r2
      have fin : ∀ (r t : Int) (ms : List Int) (H' : Hp), HW h c t ms H H' → 0 ≤ t → t < 2147483647 → ms.length ≤ 60 → 0 ≤ r → r < m → Q (.int r) H' := fun r t ms H' w t0 t1 l r0 r1 =>
        q _ H' (.int r) w.fr ⟨hx.ne, t, ms, w.hh, w.hc, t0, t1, l⟩ (.int r) ⟨r, rfl, r0, r1⟩
      have hdiv : CDivW 0 m := ⟨hm, Nat.lt_of_lt_of_le (PySem.Flt.log2_lt_of (by decide : 0 < 100) (by omega)) (by decide)⟩
      unfold t__law_draw
      refine ⟨fun n σ H' => σ = L2.start N__law_draw [.ref h, .int m] ∧ ∃ ms, ms.length = n ∧ ms.length ≤ 60 ∧ HW h c s ms H H', ⟨_, rfl, ns, rfl, hl, e1, e2, fun _ _ _ _ e => e⟩, ?_⟩
      rintro n σ H' ⟨rfl, ms, rfl, hml, w⟩
      have eσ : (L2.start N__law_draw [.ref h, .int m])[0]? = some (some (.ref h)) := rfl
      refine dr_ne eσ w fun H1 w1 => ?_
      -- what follows the loop
      have after : ∀ H1, HW h c s ms H H1 → (tSeq (tIfS (tTest (tOp (rNeD K) (tOp (rIxL K) (tVar 0) (tC (.int 0))) (tLst tNil))) (tSeq (tAsg (tBM0 K "list" rPop (tOp (rIxL K) (tVar 0) (tC (.int 0)))) (gName 2))
  (tSeq (tDrop (tBM K "list" rAppend (tOp (rIxL K) (tVar 0) (tC (.int 0))) (tCons (tOp rFdiv (tVar 2) (tVar 1)) tNil)))
  (tRet (tOp rMod (tCB rInt1 (tCons (tVar 2) tNil)) (tVar 1))))) tNext)
  (tSeq (tAsg (tOp rMod (tCB rInt1 (tCons (tOp rAdd (tOp rMulW (tOp (rIxL K) (tVar 0) (tC (.int 1))) (tC (.int 69621))) (tC (.int 29))) tNil)) (tC (.int 2147483647))) (gSub (tVar 0) (tC (.int 1)) rSetL))
  (tRet (tOp rMod (tCB rInt1 (tCons (tOp rFdiv (tOp (rIxL K) (tVar 0) (tC (.int 1))) (tC (.int 32))) tNil)) (tVar 1))))) { nx := fun _ H' => Q .non H', rt := Q } (L2.start N__law_draw [.ref h, .int m]) H1 := fun H1 w1 => by
        refine dr_ne eσ w1 fun H2 w2 => ?_
        by_cases hnil : ms = []
        · rw [if_neg (by simp [hnil])]
          -- the number is stirred
          show tSeq _ _ _ _ _
          refine dr_stir eσ w2 ⟨s, 69621, rfl, rfl, ?_, _, 29, rfl, rfl, ?_⟩
          · exact wide_mul (a := 31) (b := 17) (by omega) (by decide) (by decide) (by decide) (by decide)
          refine .inl ⟨_, rfl, ?_⟩
          refine ⟨_, 2147483647, rfl, rfl, (by decide : (0 : Int) < 2147483647), ?_⟩
          refine ⟨_, rfl, ?_⟩
          refine ⟨h, _, 1, 1, rfl, rfl, w2.hh, rfl, ?_⟩
          have t0 : 0 ≤ (s * 69621 + 29) % 2147483647 := Int.emod_nonneg _ (by decide)
          have t1 : (s * 69621 + 29) % 2147483647 < 2147483647 := Int.emod_lt_of_pos _ (by decide)
          have w3 := w2.setH (t := (s * 69621 + 29) % 2147483647) hx.ne
          refine dr_stir eσ w3 ⟨_, 32, rfl, rfl, ⟨by decide, by decide⟩, ?_⟩
          refine .inl ⟨_, rfl, ?_⟩
          refine ⟨_, rfl, _, m, rfl, rfl, hm, ?_⟩
          exact fin _ _ _ _ w3 t0 t1 hml (Int.emod_nonneg _ (by omega)) (Int.emod_lt_of_pos _ hm)
        · rw [if_pos (by simp [hnil])]
          obtain ⟨ys, y, rfl⟩ := last_at hnil
          have hy : ((ys ++ [y]).map V.int)[((ys ++ [y]).map V.int).length - 1]? = some (.int y) := by simp
          refine dr_cells eσ w2 ⟨.inl ⟨rfl, _, SqL.of w2.hc⟩, c, _, .int y, rfl, rfl, w2.hc, hy, ?_⟩
          have ed : ((ys ++ [y]).map V.int).dropLast = ys.map V.int := by simp
          rw [ed]
          have w3 : HW h c s ys H (upd H2 c (.lst (ys.map V.int))) := w2.setC hx.ne
          have e3 : ((L2.start N__law_draw [.ref h, .int m]).set 2 (some (.int y)))[0]? = some (some (.ref h)) := rfl
          refine dr_cells e3 w3 ⟨.inl ⟨rfl, _, SqL.of w3.hc⟩, ?_⟩
          refine ⟨_, rfl, _, rfl, y, m, rfl, rfl, hdiv, ?_⟩
          have hl' : ys.length < 60 := by simp at hml; omega
          refine ⟨c, _, .int (y / m), rfl, rfl, w3.hc, by rw [List.length_map]; exact Nat.lt_of_lt_of_le hl' (by decide), ?_⟩
          have ea : ys.map V.int ++ [V.int (y / m)] = (ys ++ [y / m]).map V.int := by simp
          rw [ea]
          have w4 : HW h c s (ys ++ [y / m]) H (upd _ c (.lst ((ys ++ [y / m]).map V.int))) := w3.setC hx.ne
          refine ⟨_, rfl, .inl ⟨y, rfl, ?_⟩⟩
          refine ⟨_, rfl, y, m, rfl, rfl, hm, ?_⟩
          exact fin _ _ _ _ w4 s0 s1 (by simp; omega) (Int.emod_nonneg _ (by omega)) (Int.emod_lt_of_pos _ hm)
      by_cases hnil : ms = []
      · rw [if_neg (by simp [hnil])]
        exact after _ w1
      · rw [if_pos (by simp [hnil])]
        obtain ⟨ys, y, rfl⟩ := last_at hnil
        have hy : atI ((ys ++ [y]).map V.int) (-1) = some (.int y) := by
          have e : ixN ((ys ++ [y]).map V.int).length (-1) = some ys.length := by
            unfold ixN
            simp only [List.length_map, List.length_append, List.length_cons, List.length_nil]
            rw [if_neg (by decide), if_pos (by omega)]
            congr 1
            omega
          unfold atI
          rw [e]
          simp
        refine dr_cells eσ w1 ⟨1, rfl, c, _, -1, .int y, rfl, rfl, SqL.of w1.hc, hy, ?_⟩
        refine ⟨rfl, _, rfl, ?_⟩
        show (if decide (V.int y = V.int 0) = true then _ else _)
        by_cases h0 : y = 0
        · rw [if_pos (by simp [h0])]
          refine ⟨_, fun σ' H' z => z, ?_⟩
          have hy : ((ys ++ [y]).map V.int)[((ys ++ [y]).map V.int).length - 1]? = some (.int y) := by simp
          refine dr_cells eσ w1 ⟨.inl ⟨rfl, _, SqL.of w1.hc⟩, c, _, .int y, rfl, rfl, w1.hc, hy, ?_⟩
          have ed : ((ys ++ [y]).map V.int).dropLast = ys.map V.int := by simp
          refine ⟨ys.length, by simp, rfl, ys, rfl, by simp at hml; omega, ?_⟩
          have w3 : HW h c s ys H (upd H1 c (.lst (ys.map V.int))) := w1.setC hx.ne
          rw [← ed] at w3
          exact w3
        · rw [if_neg (by simp [h0])]
          exact after _ w1

theorem sc__law_draw : FnScope N__law_draw ["_law_heap_here", "_law_many"] (defScope s__law_draw) := ⟨rfl, rfl, rfl, by decide +kernel, rfl, by decide +kernel, by decide +kernel⟩
section
variable {P : Program} {w : World} {K : PySem.W.Frag} {mg : Str → Option Value} {base : Heap}
theorem b__law_draw (T : Fx K mg) : Binds K T.f__law_draw.fd ["_law_heap_here", "_law_many"] [] := T.f__law_draw.F.bindsN fun _ _ _ _ _ _ us hl => match us, hl with | [_, _], _ => rfl
theorem d__law_draw (T : Fx K mg) {cdv : Value} {A : Around} {outer : List Env} {s : Shared} {H : Hp} {E : XK} (hr : Room 0 (A.deeper (envOfC "_law_draw" (defScope s__law_draw) s.heap.objs.size T.f__law_draw.f cdv))) : PSs (cxOf CX0 P w K mg base N__law_draw "_law_draw" (defScope s__law_draw) T.f__law_draw.f cdv A outer s H E).nox (defBody s__law_draw) (t__law_draw K T.C T.R) :=
  have nd := sc__law_draw.nd
  (pss_cons (ps_while PassesOwn.never (PW.pt (pw_and (pt_cmpR (op_neD hr.units) (pe_ix ix_list (pv 0) pe_int (fun _ _ => rfl)) (pe_lst pa_nil) (nomark _)) (pw_and1 (pt_cmpR op_eq (pe_ix ix_list (pe_ix ix_list (pv 0) pe_int (fun _ _ => rfl)) (pe_un un_neg pe_int) (fun _ _ => rfl)) pe_int (nomark _))))) (pss_one (ps_expr (pe_bm0 PySem.F.plainAttrs_list PySem.F.slot_list_pop PySem.F.type_list_pop mt_pop (pe_ix ix_list (pv 0) pe_int (fun _ _ => rfl))))))
  (pss_cons (ps_if (pt_cmpR (op_neD hr.units) (pe_ix ix_list (pv 0) pe_int (fun _ _ => rfl)) (pe_lst pa_nil) (nomark _)) (pss_cons (ps_set (i := 2) nd rfl (by first | exact Or.inl rfl | exact Or.inr rfl) (pe_bm0 PySem.F.plainAttrs_list PySem.F.slot_list_pop PySem.F.type_list_pop mt_pop (pe_ix ix_list (pv 0) pe_int (fun _ _ => rfl))))
  (pss_cons (ps_expr (pe_bm PySem.F.plainAttrs_list PySem.F.slot_list_append PySem.F.type_list_append mt_append (pe_ix ix_list (pv 0) pe_int (fun _ _ => rfl)) (pa_cons (pe_op op_fdivW (pv 2) (pv 1)) pa_nil)))
  (pss_one (ps_ret (pe_op op_mod (pe_callTy o_int1 rfl T.b_int boot_int (pa_cons (pv 2) pa_nil)) (pv 1)))))) pss_nil)
  (pss_cons (ps_asg (pe_op op_mod (pe_callTy o_int1 rfl T.b_int boot_int (pa_cons (pe_op op_add (pe_op op_mulW (pe_ix ix_list (pv 0) pe_int (fun _ _ => rfl)) pe_int) pe_int) pa_nil)) pe_int) (pg_sub (pv 0) pe_int set_list (fun _ => rfl)))
  (pss_one (ps_ret (pe_op op_mod (pe_callTy o_int1 rfl T.b_int boot_int (pa_cons (pe_op op_fdivW (pe_ix ix_list (pv 0) pe_int (fun _ _ => rfl)) pe_int) pa_nil)) (pv 1)))))))
theorem ok__law_draw (T : Fx K mg) : FnOk P w K mg base CX0 1 T.f__law_draw.f T.f__law_draw.fd ["_law_heap_here", "_law_many"] (sp__law_draw T.C) :=
  T.f__law_draw.F.ok sc__law_draw (fun vs H Q E h => len__law_draw h) fun cdv A outer s H vs Q E hr h => ⟨t__law_draw K T.C T.R, PSs.nox (d__law_draw T hr), run__law_draw h⟩
end
end DL
namespace DL
open PySem PySem.Spec PyProof.Rows L2 Hd
/-! ### _law_pick -/
abbrev sp__law_pick (C : Addr) : Sp := spI C (G := List Dt) (fun l => [.lst l]) (fun l => 0 < l.length ∧ l.length ≤ 100) (fun l d => d ∈ l)

abbrev N__law_pick : List Str := ["_law_heap_here", "_law_some"]
def t__law_pick (K : PySem.W.Frag) (C R : Addr) : TS := (tRet (tOp (rIxL K) (tVar 1) (tCall (sp__law_draw C) [] E0 (tCons (tVar 0) (tCons (tCB (rLen K) (tCons (tVar 1) tNil)) tNil)))))
theorem atI_nat {α : Type} {l : List α} {r : Int} (h0 : 0 ≤ r) (h1 : r < l.length) : ∃ x, atI l r = some x ∧ x ∈ l := by
  have e : ixN l.length r = some r.toNat := by
    unfold ixN
    rw [if_pos h0, if_pos h1]
  have hl : r.toNat < l.length := by omega
  exact ⟨l[r.toNat], by unfold atI; rw [e]; exact List.getElem?_eq_getElem hl, List.getElem_mem hl⟩
theorem sd__law_pick (W : Wd) (k : W.Ok) (R : Addr) (a c : Addr) (hold : Hold W a c) (x : List Dt) (hp : 0 < x.length ∧ x.length ≤ 100) : Sd W (t__law_pick W.K W.C R) (startD N__law_pick.length [.adr a, .lst x]) { rt := fun d => d ∈ x, nx := fun _ => Dt.non ∈ x } := by
  refine sd_ret (er_ixL (P1 := fun d => ∃ r : Int, d = .int r ∧ 0 ≤ r ∧ r < (x.length : Int)) (Ed.ec (ed_var rfl)) (er_callIE (x.length : Int) hold (ea_cons (ed_var rfl) (ea_cons (ed_cb (ea_cons (ed_var rfl) ea_nil) cd_lenL) ea_nil)) (by omega) fun d h => h) fun y ⟨r, e, h0, h1⟩ => ?_)
  obtain ⟨d, hd, hm⟩ := atI_nat h0 h1
  exact ⟨r, d, e, hd, hm⟩

theorem sc__law_pick : FnScope N__law_pick ["_law_heap_here", "_law_some"] (defScope s__law_pick) := ⟨rfl, rfl, rfl, by decide +kernel, rfl, by decide +kernel, by decide +kernel⟩
section
variable {P : Program} {w : World} {K : PySem.W.Frag} {mg : Str → Option Value} {base : Heap}
theorem b__law_pick (T : Fx K mg) : Binds K T.f__law_pick.fd ["_law_heap_here", "_law_some"] [] := T.f__law_pick.F.bindsN fun _ _ _ _ _ _ us hl => match us, hl with | [_, _], _ => rfl
theorem d__law_pick (T : Fx K mg) {cdv : Value} {A : Around} {outer : List Env} {s : Shared} {H : Hp} {E : XK} (hr : Room 1 (A.deeper (envOfC "_law_pick" (defScope s__law_pick) s.heap.objs.size T.f__law_pick.f cdv))) : PSs (cxOf CX0 P w K mg base N__law_pick "_law_pick" (defScope s__law_pick) T.f__law_pick.f cdv A outer s H E).nox (defBody s__law_pick) (t__law_pick K T.C T.R) :=
  have nd := sc__law_pick.nd
  (pss_one (ps_ret (pe_ix ix_list (pv 1) (pe_call (ok__law_draw T) (hr.mono (by decide)) rfl T.f__law_draw.g T.f__law_draw.F.kp (b__law_draw T) .nil pass0 (pa_cons (pv 0) (pa_cons (pe_callB call_len rfl T.b_len boot_len (pa_cons (pv 1) pa_nil)) pa_nil))) (fun _ _ => rfl))))
theorem ok__law_pick (T : Fx K mg) : FnOk P w K mg base CX0 2 T.f__law_pick.f T.f__law_pick.fd ["_law_heap_here", "_law_some"] (sp__law_pick T.C) :=
  T.f__law_pick.F.ok sc__law_pick (fun vs H Q E ⟨A, a, c, x, _, _, _, _, r, _⟩ => by rw [r.length]; rfl) fun cdv A outer s H vs Q E hr h => ⟨t__law_pick K T.C T.R, PSs.nox (d__law_pick T hr), run_I K h fun W k a c hold x hC hK hp => by subst hK; rw [← hC]; exact sd__law_pick W k T.R a c hold x hp⟩
end
end DL
/-! rows that are drawn -/
namespace DL
open PySem PySem.Spec PyProof.Rows L2 Hd
structure RowB (k n : Nat) (r : Row) : Prop where
  l : r.1.length = n
  nz : ∃ x ∈ r.1, x ≠ 0
  g : gcdL r.1 r.2.natAbs = 1
  b : Bd k (r.2 :: r.1)
theorem RowB.up {k m n : Nat} {r : Row} (h : RowB k n r) (hm : k ≤ m) : RowB m n r := ⟨h.l, h.nz, h.g, h.b.up hm⟩
theorem RowB.ok {k n : Nat} {r : Row} (h : RowB k n r) (hm : k ≤ 100) : rowOk n r := ⟨h.l, h.nz, h.g, h.b.up hm⟩
def leastR (l : List Int) (b : Int) : Row := (l.map fun y => y / (gcdL l b.natAbs : Nat), b / (gcdL l b.natAbs : Nat))
theorem quo_abs {x : Int} {g : Nat} (h : g ∣ x.natAbs) : (x / (g : Int)).natAbs * g = x.natAbs := by
  obtain ⟨c, hc⟩ := h
  have hd : (g : Int) ∣ x := Int.natAbs_dvd_natAbs.mp (by simpa using ⟨c, hc⟩)
  have := Int.ediv_mul_cancel hd
  calc (x / (g : Int)).natAbs * g = (x / (g : Int) * g).natAbs := by rw [Int.natAbs_mul]; simp
    _ = x.natAbs := by rw [this]
theorem least_row {l : List Int} {b : Int} {k : Nat} (h : ∃ y ∈ l, y ≠ 0) (hb : Bd k (b :: l)) : RowB k l.length (leastR l b) := by
  obtain ⟨y, hy, h0⟩ := h
  have g0 : 0 < gcdL l b.natAbs := gcdL_pos (.inr ⟨y, hy, h0⟩)
  have dv : ∀ x ∈ b :: l, gcdL l b.natAbs ∣ x.natAbs := fun x hx => by
    rcases List.mem_cons.mp hx with e | e
    · subst e; exact gcdL_dvd_start _ _
    · exact gcdL_dvd _ _ x e
  refine ⟨by unfold leastR; simp, ⟨y / (gcdL l b.natAbs : Nat), List.mem_map.mpr ⟨y, hy, rfl⟩, fun z => ?_⟩, ?_, ?_⟩
  · have := quo_abs (dv y (List.mem_cons_of_mem _ hy))
    rw [z] at this
    simp at this
    omega
  · have key : gcdL (leastR l b).1 (leastR l b).2.natAbs * gcdL l b.natAbs ∣ gcdL l b.natAbs := by
      refine dvd_gcdL _ _ ?_ fun x hx => ?_
      · have e := quo_abs (dv b List.mem_cons_self)
        have := Nat.mul_dvd_mul_right (gcdL_dvd_start (leastR l b).1 (leastR l b).2.natAbs) (gcdL l b.natAbs)
        rw [show (leastR l b).2 = b / (gcdL l b.natAbs : Nat) from rfl, e] at this
        exact this
      · have e := quo_abs (dv x (List.mem_cons_of_mem _ hx))
        have := Nat.mul_dvd_mul_right (gcdL_dvd (leastR l b).1 (leastR l b).2.natAbs (x / (gcdL l b.natAbs : Nat)) (List.mem_map.mpr ⟨x, hx, rfl⟩)) (gcdL l b.natAbs)
        rw [e] at this
        exact this
    have := Nat.le_of_dvd g0 key
    have p : 0 < gcdL (leastR l b).1 (leastR l b).2.natAbs := by
      rcases Nat.eq_zero_or_pos (gcdL (leastR l b).1 (leastR l b).2.natAbs) with z | z
      · rw [z, Nat.zero_mul] at key
        have := Nat.eq_zero_of_zero_dvd key
        omega
      · exact z
    have : gcdL (leastR l b).1 (leastR l b).2.natAbs * gcdL l b.natAbs ≤ 1 * gcdL l b.natAbs := by omega
    have := Nat.le_of_mul_le_mul_right this g0
    omega
  · intro x hx
    have key : ∀ z ∈ b :: l, (z / (gcdL l b.natAbs : Nat)).natAbs < 2 ^ k := fun z hz => by
      have e := quo_abs (dv z hz)
      have : (z / (gcdL l b.natAbs : Nat)).natAbs ≤ z.natAbs := by
        rw [← e]
        exact Nat.le_mul_of_pos_right _ g0
      exact Nat.lt_of_le_of_lt this (hb z hz)
    rcases List.mem_cons.mp hx with e | e
    · rw [e]; exact key b List.mem_cons_self
    · obtain ⟨z, hz, e2⟩ := List.mem_map.mp e
      rw [← e2]; exact key z (List.mem_cons_of_mem _ hz)
theorem ints_of {p : Int → Prop} : ∀ {es : List Dt}, (∀ (i : Nat) (e : Dt), es[i]? = some e → ∃ v, e = .int v ∧ p v) → ∃ ns : List Int, es = ns.map Dt.int ∧ ns.length = es.length ∧ ∀ v ∈ ns, p v
  | [], _ => ⟨[], rfl, rfl, fun v hv => by simp at hv⟩
  | e :: es, h => by
    obtain ⟨v, e1, pv⟩ := h 0 e rfl
    obtain ⟨ns, e2, hl, hp⟩ := ints_of (es := es) fun i e he => h (i + 1) e he
    refine ⟨v :: ns, by rw [e1, e2]; rfl, by simp [hl], fun u hu => ?_⟩
    rcases List.mem_cons.mp hu with z | z
    · rw [z]; exact pv
    · exact hp u z
theorem efr_ints {W : Wd} {δ : Dl} {te : TE} {wi : TI} {gt : TG} {vs : List Nat} {ds : List Dt} (p : Int → Prop) (k : W.Ok) (hy : Yl W wi δ ds) (hz : ds.length ≤ 100000)
    (hs : ∀ (d : Dt), d ∈ ds → ∃ δ2 js, Tg W gt d (wipeD δ vs) δ2 js ∧ (∀ j, j ∈ js → j ∈ vs) ∧ Er W te δ2 fun e => ∃ v, e = .int v ∧ p v) :
    Efr W (tLc wi gt tYes te vs) δ fun es => ∃ ns : List Int, es = ns.map Dt.int ∧ ns.length = ds.length ∧ ∀ v ∈ ns, p v :=
  Efr.imp (efr_lcAll (fun _ e => ∃ v, e = .int v ∧ p v) k hy hz fun i d hd => hs d (List.mem_of_getElem? hd)) fun es ⟨hl, h⟩ => by
    obtain ⟨ns, e, h1, h2⟩ := ints_of h
    exact ⟨ns, e, h1.trans hl, h2⟩
theorem rg_len (n : Nat) (f : Nat → Dt) : ((List.range n).map f).length = n := by simp
/-- a draw -/
theorem er_draw {W : Wd} {δ : Dl} {tar : TA} {a c : Addr} {m : Int} {P : Dt → Prop} {E : XK} (hold : Hold W a c) (ha : Ea W tar δ [.adr a, .int m]) (hm : 0 < m ∧ m < 2 ^ 100) (h : ∀ r : Int, 0 ≤ r → r < m → P (.int r)) : Er W (tCall (sp__law_draw W.C) [] E tar) δ P :=
  er_callIE m hold ha hm fun d ⟨r, e, h0, h1⟩ => by rw [e]; exact h r h0 h1
/-- a pick of ints -/
theorem er_pickI {W : Wd} {δ : Dl} {tar : TA} {a c : Addr} {ns : List Int} {P : Dt → Prop} {E : XK} (hold : Hold W a c) (ha : Ea W tar δ [.adr a, .lst (ns.map Dt.int)]) (hm : 0 < ns.length ∧ ns.length ≤ 100) (h : ∀ r ∈ ns, P (.int r)) : Er W (tCall (sp__law_pick W.C) [] E tar) δ P :=
  er_callIE (ns.map Dt.int) hold ha (by simpa using hm) fun d hd => by
    obtain ⟨r, hr, e⟩ := List.mem_map.mp hd
    rw [← e]; exact h r hr
end DL
namespace DL
open PySem PySem.Spec PyProof.Rows L2 Hd
/-! ### _law_row -/
abbrev sp__law_row (C : Addr) : Sp := spI C (G := Nat × Nat) (fun x => [.int (x.1 : Nat), .int (x.2 : Nat)]) (fun x => 1 ≤ x.1 ∧ x.1 ≤ 6 ∧ 1 ≤ x.2 ∧ x.2 ≤ 1000000) (fun x d => ∃ r : Row, d = rD r ∧ RowB 30 x.1 r)

abbrev N__law_row : List Str := ["_law_heap_here", "_law_size", "_law_most", "_law_parts", "_law_place", "_law_part", "_law_at"]
def t__law_row (K : PySem.W.Frag) (C R : Addr) : TS := (tSeq (tAsg (tLc (iRng1 (tCons (tVar 1) tNil)) (gName 4) tYes (tCall (sp__law_pick C) [] E0 (tCons (tVar 0) (tCons (tLst (tCons (tC (.int 0)) (tCons (tC (.int 1)) (tCons (tOp rSub (tC (.int 0)) (tC (.int 1))) (tCons (tC (.int 0)) (tCons (tC (.int 2)) (tCons (tOp rSub (tC (.int 0)) (tC (.int 2))) (tCons (tC (.int 1)) (tCons (tOp rSub (tC (.int 0)) (tC (.int 1))) tNil))))))))) tNil))) [4]) (gName 3))
  (tSeq (tIfS (tTest (tOp rGtI (tVar 2) (tC (.int 9)))) (tAsg (tLc (iList K (tVar 3)) (gName 5) tYes (tOp rMulW (tVar 5) (tOp rAdd (tC (.int 1)) (tCall (sp__law_draw C) [] E0 (tCons (tVar 0) (tCons (tOp rFdiv (tVar 2) (tC (.int 2))) tNil))))) [5]) (gName 3)) tNext)
  (tSeq (tAsg (tCall (sp__law_draw C) [] E0 (tCons (tVar 0) (tCons (tVar 1) tNil))) (gName 6))
  (tSeq (tAsg (tIf (tTest (tOp rEq (tOp (rIxL K) (tVar 3) (tVar 6)) (tC (.int 0)))) (tC (.int 1)) (tOp (rIxL K) (tVar 3) (tVar 6))) (gSub (tVar 3) (tVar 6) rSetL))
  (tRet (tCall (sp__law_least C) [] E0 (tCons (tVar 3) (tCons (tOp rSub (tCall (sp__law_draw C) [] E0 (tCons (tVar 0) (tCons (tOp rAdd (tOp rMulW (tC (.int 2)) (tVar 2)) (tC (.int 1))) tNil))) (tVar 2)) tNil))))))))
theorem abs_mul_le {a b : Int} {m n : Nat} (h1 : a.natAbs ≤ m) (h2 : b.natAbs ≤ n) : (a * b).natAbs ≤ m * n := by
  rw [Int.natAbs_mul]; exact Nat.mul_le_mul h1 h2
theorem sd__law_row (W : Wd) (k : W.Ok) (R : Addr) (a c : Addr) (hold : Hold W a c) (x : Nat × Nat) (hp : 1 ≤ x.1 ∧ x.1 ≤ 6 ∧ 1 ≤ x.2 ∧ x.2 ≤ 1000000) : Sd W (t__law_row W.K W.C R) (startD N__law_row.length [.adr a, .int (x.1 : Nat), .int (x.2 : Nat)]) { rt := fun d => ∃ r : Row, d = rD r ∧ RowB 30 x.1 r, nx := fun _ => ∃ r : Row, Dt.non = rD r ∧ RowB 30 x.1 r } := by
  obtain ⟨n, m⟩ := x
  obtain ⟨hn1, hn6, hm1, hm6⟩ := hp
  simp only at hn1 hn6 hm1 hm6 ⊢
  refine sq_asgO (efr_ints (fun v => v.natAbs ≤ 2) k (YlG.yl (yg_range1 (ea_cons (ed_var rfl) ea_nil) (by omega))) (by simp; omega) fun d hd => ⟨_, _, tg_name (of_decide_eq_true rfl), by simp, ?_⟩) (of_decide_eq_true rfl) fun es ⟨ns, e, hl, hb⟩ => ?_
  · exact er_pickI (ns := [0, 1, 0 - 1, 0, 2, 0 - 2, 1, 0 - 1]) hold (ea_cons (ed_var rfl) (ea_cons (Ef.ed (ef_lst k (ea_cons ed_int (ea_cons ed_int (ea_cons (ed_op ed_int ed_int od_I0) (ea_cons ed_int (ea_cons ed_int (ea_cons (ed_op ed_int ed_int od_I0) (ea_cons ed_int (ea_cons (ed_op ed_int ed_int od_I0) ea_nil)))))))) (by simp))) ea_nil)) (by decide) fun r hr => ⟨r, rfl, by revert r; decide⟩
  subst e
  have hl : ns.length = n := by simpa using hl
  refine sd_seq (M := fun δ => ∃ ns : List Int, ns.length = n ∧ (∀ v ∈ ns, v.natAbs ≤ 2000000) ∧ δ = [some (.sh (.adr a)), some (.sh (.int (n : Nat))), some (.sh (.int (m : Nat))), some (.own (ns.map Dt.int)), none, none, none]) (sd_if (et_test (ed_op (ed_var rfl) ed_int od_B0)) (fun h => ?_) (fun h => sd_next ⟨ns, hl, fun v hv => by have := hb v hv; omega, rfl⟩)) ?_
  · have hm9 : (9 : Int) < (m : Nat) := by simpa using h
    refine sd_asgO (efr_ints (fun v => v.natAbs ≤ 2000000) k (yl_own (ec_var rfl)) (by simp; omega) fun d hd => ?_) (of_decide_eq_true rfl) fun es ⟨ks, e, hl2, hb2⟩ => ⟨ks, by rw [hl2]; simpa using hl, hb2, by rw [e]; rfl⟩
    obtain ⟨v, hv, rfl⟩ := List.mem_map.mp hd
    refine ⟨_, _, tg_name (of_decide_eq_true rfl), by simp, er_op (P1 := fun d => d = .int v) (P2 := fun _ d => ∃ r : Int, d = .int (1 + r) ∧ r.natAbs ≤ 500000) (ed_var rfl) (fun _ _ => er_op (P1 := fun d => d = .int 1) (P2 := fun _ d => ∃ r : Int, d = .int r ∧ r.natAbs ≤ 500000) ed_int (fun _ _ => ?_) ?_) ?_⟩
    · refine er_draw (m := (m : Int) / 2) hold (ea_cons (ed_var rfl) (ea_cons (ed_op (ed_var rfl) ed_int (od_I ⟨by decide, by decide⟩)) ea_nil)) (by omega) fun r h0 h1 => ⟨r, rfl, by omega⟩
    · rintro _ _ rfl ⟨r, rfl, hr⟩
      exact ⟨_, od_I0, r, rfl, hr⟩
    · rintro _ _ rfl ⟨r, rfl, hr⟩
      have hv2 := hb v hv
      refine ⟨_, od_I (mul_ok (m := 2) (n := 30) (by omega) (by omega) (by decide)), _, rfl, ?_⟩
      have := abs_mul_le hv2 (show (1 + r).natAbs ≤ 500001 by omega)
      omega
  rintro δ ⟨ns, hl, hb, rfl⟩
  refine sq_asg (R := fun d => ∃ r : Int, d = .int r ∧ 0 ≤ r ∧ r < n) (er_draw hold (ea_cons (ed_var rfl) (ea_cons (ed_var rfl) ea_nil)) (by omega) fun r h0 h1 => ⟨r, rfl, h0, h1⟩) (of_decide_eq_true rfl) fun d ⟨r, e, h0, h1⟩ => ?_
  subst e
  obtain ⟨j, rfl⟩ : ∃ j : Nat, r = j := ⟨r.toNat, by omega⟩
  have hj : j < ns.length := by omega
  have hat : atI (ns.map Dt.int) (j : Int) = some (.int (gi ns j)) := gi_atI hj
  have hix : ixN (ns.map Dt.int).length (j : Int) = some j := by
    unfold ixN
    rw [if_pos (by omega), if_pos (by simp; omega)]
    simp
  refine sq_setL (R := fun d => d = .int (if gi ns j = 0 then 1 else gi ns j)) k rfl (er_if (et_test (ed_op (ed_ixL (ec_var rfl) (ed_var rfl) hat) ed_int od_eqI)) (fun h => ?_) fun h => ?_) (ed_var rfl) hix fun d e => ?_
  · exact Ed.er ed_int (by rw [if_pos (by simpa using h)])
  · exact Ed.er (ed_ixL (ec_var rfl) (ed_var rfl) hat) (by rw [if_neg (by simpa using h)])
  subst e
  have em : (ns.map Dt.int).set j (.int (if gi ns j = 0 then 1 else gi ns j)) = (ns.set j (if gi ns j = 0 then 1 else gi ns j)).map Dt.int := by rw [List.map_set]
  rw [em]
  have hz : ∃ y ∈ ns.set j (if gi ns j = 0 then 1 else gi ns j), y ≠ 0 := ⟨_, List.mem_set hj _, by split <;> omega⟩
  have hbb : ∀ v ∈ ns.set j (if gi ns j = 0 then 1 else gi ns j), v.natAbs ≤ 2000000 := fun v hv => by
    rcases List.mem_or_eq_of_mem_set hv with e | e
    · exact hb v e
    · rw [e]
      split
      · decide
      · have hg : gi ns j ∈ ns := by
          unfold gi
          rw [List.getD_eq_getElem?_getD, List.getElem?_eq_getElem hj]
          exact List.getElem_mem hj
        exact hb _ hg
  have hlm : (ns.set j (if gi ns j = 0 then 1 else gi ns j)).length = n := by rw [List.length_set, hl]
  generalize ns.set j (if gi ns j = 0 then 1 else gi ns j) = ms at hz hbb hlm ⊢
  refine sd_freeze (i := 3) (ds := ms.map Dt.int) rfl (sd_ret (er_call (PL := fun ds => ∃ b : Int, ds = [.lst (ms.map Dt.int), .int b] ∧ b.natAbs ≤ 1000000) k (ear_cons (PR := fun _ => True) (ed_var rfl) fun d e => ?_) fun ds ⟨b, e, hb⟩ => ⟨(ms, b), e, ⟨by show ms.length ≤ 900; omega, fun v hv => ?_, hz⟩, fun d e => ⟨leastR ms b, e, ?_⟩⟩))
  · refine ear_cons (PR := fun _ => True) (P1 := fun d => ∃ b : Int, d = .int b ∧ b.natAbs ≤ 1000000) (er_op (P1 := fun d => ∃ r : Int, d = .int r ∧ 0 ≤ r ∧ r < 2 * (m : Int) + 1) (P2 := fun _ d => d = .int (m : Nat)) (er_draw hold (ea_cons (ed_var rfl) (ea_cons (ed_op (ed_op ed_int (ed_var rfl) (od_I (mul_ok (m := 2) (n := 30) (by decide) (by omega) (by decide)))) ed_int od_I0) ea_nil)) (by omega) fun r h0 h1 => ⟨r, rfl, h0, h1⟩) (fun _ _ => ed_var rfl) ?_) fun d2 ⟨b, e2, hb⟩ => ?_
    · rintro _ _ ⟨r, rfl, h0, h1⟩ rfl
      exact ⟨_, od_I0, _, rfl, by omega⟩
    · subst e e2
      exact Ear.imp ear_nil fun ds e => ⟨b, by rw [e], hb⟩
  · exact Nat.lt_of_le_of_lt (hbb v hv) (Nat.lt_of_lt_of_le (show 2000000 < 2 ^ 30 by decide) (Nat.pow_le_pow_right (by decide) (by decide)))
  · rw [← hlm]
    refine least_row hz fun v hv => ?_
    rcases List.mem_cons.mp hv with e | e
    · rw [e]; omega
    · have := hbb v e; omega

theorem sc__law_row : FnScope N__law_row ["_law_heap_here", "_law_size", "_law_most"] (defScope s__law_row) := ⟨rfl, rfl, rfl, by decide +kernel, rfl, by decide +kernel, by decide +kernel⟩
section
variable {P : Program} {w : World} {K : PySem.W.Frag} {mg : Str → Option Value} {base : Heap}
theorem b__law_row (T : Fx K mg) : Binds K T.f__law_row.fd ["_law_heap_here", "_law_size", "_law_most"] [] := T.f__law_row.F.bindsN fun _ _ _ _ _ _ us hl => match us, hl with | [_, _, _], _ => rfl
theorem d__law_row (T : Fx K mg) {cdv : Value} {A : Around} {outer : List Env} {s : Shared} {H : Hp} {E : XK} (hr : Room 2 (A.deeper (envOfC "_law_row" (defScope s__law_row) s.heap.objs.size T.f__law_row.f cdv))) : PSs (cxOf CX0 P w K mg base N__law_row "_law_row" (defScope s__law_row) T.f__law_row.f cdv A outer s H E).nox (defBody s__law_row) (t__law_row K T.C T.R) :=
  have nd := sc__law_row.nd
  (pss_cons (ps_setLc (i := 3) (own := [("_law_place", 4)]) (g := (gName 4)) (tt := tYes) rfl nd rfl rfl (sw_true rfl rfl rfl (by kernel_rfl)) (pi_range1 rfl T.b_range (pa_cons (pv 1) pa_nil)) (blkOk_by (by kernel_rfl)) (fun _ _ _ _ _ => (pg_name (i := 4) nd rfl (by first | exact Or.inl rfl | exact Or.inr rfl))) (fun _ _ _ _ _ => pts_nil) (fun _ _ _ _ _ => (pe_call (ok__law_pick T) (hr.mono (by decide)) rfl T.f__law_pick.g T.f__law_pick.F.kp (b__law_pick T) .nil pass0 (pa_cons (pv 0) (pa_cons (pe_lst (pa_cons pe_int (pa_cons pe_int (pa_cons (pe_op op_sub pe_int pe_int) (pa_cons pe_int (pa_cons pe_int (pa_cons (pe_op op_sub pe_int pe_int) (pa_cons pe_int (pa_cons (pe_op op_sub pe_int pe_int) pa_nil))))))))) pa_nil)))))
  (pss_cons (ps_if (pt_cmpR op_gt (pv 2) pe_int (nomark _)) (pss_one (ps_setLc (i := 3) (own := [("_law_part", 5)]) (g := (gName 5)) (tt := tYes) rfl nd rfl rfl (sw_true rfl rfl rfl (by kernel_rfl)) (pi_list (pv 3)) (blkOk_by (by kernel_rfl)) (fun _ _ _ _ _ => (pg_name (i := 5) nd rfl (by first | exact Or.inl rfl | exact Or.inr rfl))) (fun _ _ _ _ _ => pts_nil) (fun _ _ _ _ _ => (pe_op op_mulW (pv 5) (pe_op op_add pe_int (pe_call (ok__law_draw T) (hr.mono (by decide)) rfl T.f__law_draw.g T.f__law_draw.F.kp (b__law_draw T) .nil pass0 (pa_cons (pv 0) (pa_cons (pe_op op_fdivW (pv 2) pe_int) pa_nil)))))))) pss_nil)
  (pss_cons (ps_set (i := 6) nd rfl (by first | exact Or.inl rfl | exact Or.inr rfl) (pe_call (ok__law_draw T) (hr.mono (by decide)) rfl T.f__law_draw.g T.f__law_draw.F.kp (b__law_draw T) .nil pass0 (pa_cons (pv 0) (pa_cons (pv 1) pa_nil))))
  (pss_cons (ps_asg (pe_ifExp (pt_cmpR op_eq (pe_ix ix_list (pv 3) (pv 6) (fun _ _ => rfl)) pe_int (nomark _)) pe_int (pe_ix ix_list (pv 3) (pv 6) (fun _ _ => rfl))) (pg_sub (pv 3) (pv 6) set_list (fun _ => rfl)))
  (pss_one (ps_ret (pe_call (ok__law_least T) (hr.mono (by decide)) rfl T.f__law_least.g T.f__law_least.F.kp (b__law_least T) .nil pass0 (pa_cons (pv 3) (pa_cons (pe_op op_sub (pe_call (ok__law_draw T) (hr.mono (by decide)) rfl T.f__law_draw.g T.f__law_draw.F.kp (b__law_draw T) .nil pass0 (pa_cons (pv 0) (pa_cons (pe_op op_add (pe_op op_mulW pe_int (pv 2)) pe_int) pa_nil))) (pv 2)) pa_nil)))))))))
theorem ok__law_row (T : Fx K mg) : FnOk P w K mg base CX0 3 T.f__law_row.f T.f__law_row.fd ["_law_heap_here", "_law_size", "_law_most"] (sp__law_row T.C) :=
  T.f__law_row.F.ok sc__law_row (fun vs H Q E ⟨A, a, c, x, _, _, _, _, r, _⟩ => by rw [r.length]; rfl) fun cdv A outer s H vs Q E hr h => ⟨t__law_row K T.C T.R, PSs.nox (d__law_row T hr), run_I K h fun W k a c hold x hC hK hp => by subst hK; rw [← hC]; exact sd__law_row W k T.R a c hold x hp⟩
end
end DL
namespace DL
open PySem PySem.Spec PyProof.Rows L2 Hd
/-! ### _law_chain -/
abbrev sp__law_chain (C : Addr) : Sp := spIL C (G := Nat) (fun n => [.int (n : Nat)]) (fun n => 1 ≤ n ∧ n ≤ 6) (fun n ds => ∃ rs : List Row, ds = rs.map rD ∧ rs.length ≤ 5 ∧ ∀ r ∈ rs, RowB 30 n r)

abbrev N__law_chain : List Str := ["_law_heap_here", "_law_size", "_law_found", "_law_sign", "_law_at", "_law_parts", "_law_place"]
def t__law_chain (K : PySem.W.Frag) (C R : Addr) : TS := (tSeq (tAsg (tTup (tCons (tLst tNil) (tCons (tCall (sp__law_pick C) [] E0 (tCons (tVar 0) (tCons (tLst (tCons (tC (.int 1)) (tCons (tOp rSub (tC (.int 0)) (tC (.int 1))) tNil))) tNil))) tNil))) (gTup K 2 (gCons (gName 2) (gCons (gName 3) gNil))))
  (tSeq (tFor (iRng1 (tCons (tOp rSub (tVar 1) (tC (.int 1))) tNil)) (gName 4) (tSeq (tAsg (tLc (iRng1 (tCons (tVar 1) tNil)) (gName 6) tYes (tOp rMulW (tVar 3) (tOp rSub (tCB rInt1 (tCons (tOp rEq (tVar 6) (tVar 4)) tNil)) (tCB rInt1 (tCons (tOp rEq (tVar 6) (tOp rAdd (tVar 4) (tC (.int 1)))) tNil)))) [6]) (gName 5))
  (tDrop (tBM K "list" rAppend (tVar 2) (tCons (tCall (sp__law_least C) [] E0 (tCons (tVar 5) (tCons (tCall (sp__law_pick C) [] E0 (tCons (tVar 0) (tCons (tLst (tCons (tC (.int 0)) (tCons (tC (.int 0)) (tCons (tC (.int 1)) (tCons (tOp rSub (tC (.int 0)) (tC (.int 1))) (tCons (tC (.int 2)) tNil)))))) tNil))) tNil))) tNil)))))
  (tRet (tVar 2))))
def chainL (n i : Nat) (s : Int) : List Int := (List.range n).map fun j : Nat => s * ((if decide ((j : Int) = (i : Nat)) then 1 else 0) - (if decide ((j : Int) = (i : Nat) + 1) then 1 else 0))
theorem chainL_bd {n i : Nat} {s : Int} (hs : s = 1 ∨ s = 0 - 1) : ∀ v ∈ chainL n i s, v.natAbs ≤ 2 := fun v hv => by
  obtain ⟨j, _, e⟩ := List.mem_map.mp hv
  rw [← e]
  rcases hs with rfl | rfl <;> (repeat' split) <;> decide
theorem chainL_nz {n i : Nat} {s : Int} (hi : i + 1 < n) (hs : s = 1 ∨ s = 0 - 1) : ∃ v ∈ chainL n i s, v ≠ 0 := by
  refine ⟨s, List.mem_map.mpr ⟨i, List.mem_range.mpr (by omega), ?_⟩, by rcases hs with rfl | rfl <;> decide⟩
  have h1 : decide ((i : Int) = (i : Nat)) = true := by simp
  have h2 : decide ((i : Int) = (i : Nat) + 1) = false := decide_eq_false (by omega)
  rw [h1, h2]
  simp
theorem sd__law_chain (W : Wd) (k : W.Ok) (R : Addr) (a c : Addr) (hold : Hold W a c) (n : Nat) (hp : 1 ≤ n ∧ n ≤ 6) : Sd W (t__law_chain W.K W.C R) (startD N__law_chain.length [.adr a, .int (n : Nat)]) { ro := fun ds => ∃ rs : List Row, ds = rs.map rD ∧ rs.length ≤ 5 ∧ ∀ r ∈ rs, RowB 30 n r } := by
  obtain ⟨hn1, hn6⟩ := hp
  refine sq_parT k (eam_own (ef_lst k ea_nil (by simp)) fun ds e => eam_sh (R := fun d => ∃ s : Int, d = .int s ∧ (s = 1 ∨ s = 0 - 1)) (er_pickI (ns := [1, 0 - 1]) hold (ea_cons (ed_var rfl) (ea_cons (Ef.ed (ef_lst k (ea_cons ed_int (ea_cons (ed_op ed_int ed_int od_I0) ea_nil)) (by simp))) ea_nil)) (by decide) fun r hr => ⟨r, rfl, by simpa using hr⟩) fun d ⟨s, e2, hs⟩ => eam_nil ⟨_, _, rfl, ?_⟩)
  subst e e2
  refine sq_for k (yg_range1 (ea_cons (ed_op (ed_var rfl) ed_int od_I0) ea_nil) (by omega)) (fun i δ => ∃ (rs : List Row) (i1 i2 i3 : Option Sl), rs.length = i ∧ (∀ r ∈ rs, RowB 30 n r) ∧ δ = [some (.sh (.adr a)), some (.sh (.int (n : Nat))), some (.own (rs.map rD)), some (.sh (.int s)), i1, i2, i3]) ⟨[], none, none, none, rfl, by simp, rfl⟩ ?_ ?_
  · rintro i d δ' hd ⟨rs, i1, i2, i3, hl, hr, rfl⟩
    have hi : i < ((n : Int) - 1).toNat := by have := (List.getElem?_eq_some_iff.mp hd).1; simpa using this
    rw [List.getElem?_map, List.getElem?_range hi] at hd
    simp only [Option.map_some, Option.some.injEq] at hd
    subst hd
    refine ⟨_, _, tg_name (of_decide_eq_true rfl), ?_⟩
    refine sq_asgE (d := .lst ((chainL n i s).map Dt.int)) ((Ef.ed (ef_lcAll (List.range n) (fun j => .int (j : Nat)) (fun j => .int (s * ((if decide ((j : Int) = (i : Nat)) then 1 else 0) - (if decide ((j : Int) = (i : Nat) + 1) then 1 else 0)))) k (YlG.yl (yg_rangeN (ea_cons (ed_var rfl) ea_nil) (by omega))) (by simp; omega) fun j hj => ⟨_, _, tg_name (of_decide_eq_true rfl), by simp, ed_op (ed_var rfl) (ed_op (ed_cb (ea_cons (ed_op (ed_var rfl) (ed_var rfl) od_eqI) ea_nil) cd_intB) (ed_cb (ea_cons (ed_op (ed_var rfl) (ed_op (ed_var rfl) ed_int od_I0) od_eqI) ea_nil) cd_intB) od_I0) (od_I (mul_ok (m := 2) (n := 10) (by rcases hs with rfl | rfl <;> decide) (by (repeat' split) <;> decide) (by decide)))⟩)).to (by unfold chainL; rw [List.map_map]; rfl)) (of_decide_eq_true rfl) ?_
    refine sd_append (R := fun d => ∃ r : Row, d = rD r ∧ RowB 30 n r) k rfl (er_call (PL := fun ds => ∃ b : Int, ds = [.lst ((chainL n i s).map Dt.int), .int b] ∧ b.natAbs ≤ 2) k (ear_cons (PR := fun _ => True) (ed_var rfl) fun d e => ?_) fun ds ⟨b, e, hb⟩ => ⟨(chainL n i s, b), e, ⟨?_, fun v hv => ?_, chainL_nz (n := n) (i := i) (by omega) hs⟩, fun d e => ⟨leastR (chainL n i s) b, e, ?_⟩⟩) (by simp; omega) fun d ⟨r, e, hr2⟩ => ⟨rs ++ [r], some (.sh (.int (i : Nat))), some (.sh (.lst ((chainL n i s).map Dt.int))), i3, by simp [hl], fun q hq => ?_, by subst e; simp⟩
    · subst e
      refine ear_cons (PR := fun _ => True) (P1 := fun d => ∃ b : Int, d = .int b ∧ b.natAbs ≤ 2) (er_pickI (ns := [0, 0, 1, 0 - 1, 2]) hold (ea_cons (ed_var rfl) (ea_cons (Ef.ed (ef_lst k (ea_cons ed_int (ea_cons ed_int (ea_cons ed_int (ea_cons (ed_op ed_int ed_int od_I0) (ea_cons ed_int ea_nil))))) (by simp))) ea_nil)) (by decide) fun r hr => ⟨r, rfl, by revert r; decide⟩) fun d2 ⟨b, e2, hb⟩ => ?_
      subst e2
      exact Ear.imp ear_nil fun ds e => ⟨b, by rw [e], hb⟩
    · show (chainL n i s).length ≤ 900
      unfold chainL; simp; omega
    · exact Nat.lt_of_le_of_lt (chainL_bd hs v hv) (Nat.lt_of_lt_of_le (show 2 < 2 ^ 30 by decide) (Nat.pow_le_pow_right (by decide) (by decide)))
    · have hlm : (chainL n i s).length = n := by unfold chainL; simp
      have := least_row (k := 30) (chainL_nz (n := n) (i := i) (by omega) hs) (b := b) (l := chainL n i s) fun v hv => by
        rcases List.mem_cons.mp hv with e | e
        · rw [e]; omega
        · have := chainL_bd hs v e; omega
      rw [hlm] at this
      exact this
    · rcases List.mem_append.mp hq with z | z
      · exact hr q z
      · rw [List.mem_singleton.mp z]; exact hr2
  · rintro δ' ⟨rs, i1, i2, i3, hl, hr, rfl⟩
    have : rs.length ≤ 5 := by rw [hl]; simp; omega
    exact sd_retF rfl ⟨rs, rfl, this, hr⟩

theorem sc__law_chain : FnScope N__law_chain ["_law_heap_here", "_law_size"] (defScope s__law_chain) := ⟨rfl, rfl, rfl, by decide +kernel, rfl, by decide +kernel, by decide +kernel⟩
section
variable {P : Program} {w : World} {K : PySem.W.Frag} {mg : Str → Option Value} {base : Heap}
theorem b__law_chain (T : Fx K mg) : Binds K T.f__law_chain.fd ["_law_heap_here", "_law_size"] [] := T.f__law_chain.F.bindsN fun _ _ _ _ _ _ us hl => match us, hl with | [_, _], _ => rfl
theorem d__law_chain (T : Fx K mg) {cdv : Value} {A : Around} {outer : List Env} {s : Shared} {H : Hp} {E : XK} (hr : Room 2 (A.deeper (envOfC "_law_chain" (defScope s__law_chain) s.heap.objs.size T.f__law_chain.f cdv))) : PSs (cxOf CX0 P w K mg base N__law_chain "_law_chain" (defScope s__law_chain) T.f__law_chain.f cdv A outer s H E).nox (defBody s__law_chain) (t__law_chain K T.C T.R) :=
  have nd := sc__law_chain.nd
  (pss_cons (ps_asg (pe_tup (pa_cons (pe_lst pa_nil) (pa_cons (pe_call (ok__law_pick T) (hr.mono (by decide)) rfl T.f__law_pick.g T.f__law_pick.F.kp (b__law_pick T) .nil pass0 (pa_cons (pv 0) (pa_cons (pe_lst (pa_cons pe_int (pa_cons (pe_op op_sub pe_int pe_int) pa_nil))) pa_nil))) pa_nil))) (pg_tup rfl (pgs_cons (pg_name (i := 2) nd rfl (by first | exact Or.inl rfl | exact Or.inr rfl)) (pgs_cons (pg_name (i := 3) nd rfl (by first | exact Or.inl rfl | exact Or.inr rfl)) pgs_nil))))
  (pss_cons (ps_for PassesOwn.never rfl (pi_range1 rfl T.b_range (pa_cons (pe_op op_sub (pv 1) pe_int) pa_nil)) (pg_name (i := 4) nd rfl (by first | exact Or.inl rfl | exact Or.inr rfl)) (pss_cons (ps_setLc (i := 5) (own := [("_law_place", 6)]) (g := (gName 6)) (tt := tYes) rfl nd rfl rfl (sw_true rfl rfl rfl (by kernel_rfl)) (pi_range1 rfl T.b_range (pa_cons (pv 1) pa_nil)) (blkOk_by (by kernel_rfl)) (fun _ _ _ _ _ => (pg_name (i := 6) nd rfl (by first | exact Or.inl rfl | exact Or.inr rfl))) (fun _ _ _ _ _ => pts_nil) (fun _ _ _ _ _ => (pe_op op_mulW (pv 3) (pe_op op_sub (pe_callTy o_int1 rfl T.b_int boot_int (pa_cons (pe_cmpR op_eq (pv 6) (pv 4) (nomark _)) pa_nil)) (pe_callTy o_int1 rfl T.b_int boot_int (pa_cons (pe_cmpR op_eq (pv 6) (pe_op op_add (pv 4) pe_int) (nomark _)) pa_nil))))))
  (pss_one (ps_expr (pe_bm PySem.F.plainAttrs_list PySem.F.slot_list_append PySem.F.type_list_append mt_append (pv 2) (pa_cons (pe_call (ok__law_least T) (hr.mono (by decide)) rfl T.f__law_least.g T.f__law_least.F.kp (b__law_least T) .nil pass0 (pa_cons (pv 5) (pa_cons (pe_call (ok__law_pick T) (hr.mono (by decide)) rfl T.f__law_pick.g T.f__law_pick.F.kp (b__law_pick T) .nil pass0 (pa_cons (pv 0) (pa_cons (pe_lst (pa_cons pe_int (pa_cons pe_int (pa_cons pe_int (pa_cons (pe_op op_sub pe_int pe_int) (pa_cons pe_int pa_nil)))))) pa_nil))) pa_nil))) pa_nil))))))
  (pss_one (ps_ret (pv 2)))))
theorem ok__law_chain (T : Fx K mg) : FnOk P w K mg base CX0 3 T.f__law_chain.f T.f__law_chain.fd ["_law_heap_here", "_law_size"] (sp__law_chain T.C) :=
  T.f__law_chain.F.ok sc__law_chain (fun vs H Q E ⟨A, a, c, x, _, _, _, _, r, _⟩ => by rw [r.length]; rfl) fun cdv A outer s H vs Q E hr h => ⟨t__law_chain K T.C T.R, PSs.nox (d__law_chain T hr), run_IL K h fun W k a c hold x hC hK hp => by subst hK; rw [← hC]; exact sd__law_chain W k T.R a c hold x hp⟩
end
end DL
namespace DL
open PySem PySem.Spec PyProof.Rows L2 Hd
/-! ### _law_far -/
structure FarG where
  n : Nat
  x : Row × Row
structure TwoB (k n : Nat) (x : Row × Row) : Prop where
  a : RowB k n x.1
  b : RowB k n x.2
def TwoD (n : Nat) (d : Dt) : Prop := ∃ x : Row × Row, d = .tup [rD x.1, rD x.2] ∧ TwoB 40 n x
abbrev sp__law_far (C : Addr) : Sp := spI C (G := FarG) (fun y => [rD y.x.1, rD y.x.2]) (fun y => 1 ≤ y.n ∧ y.n ≤ 6 ∧ TwoB 30 y.n y.x) (fun y d => TwoD y.n d)

abbrev N__law_far : List Str := ["_law_heap_here", "_law_one", "_law_other", "_law_at", "_law_first", "_law_second"]
def t__law_far (K : PySem.W.Frag) (C R : Addr) : TS := (tSeq (tPar3 3 4 5 (tCons (tCall (sp__law_draw C) [] E0 (tCons (tVar 0) (tCons (tCB (rLen K) (tCons (tOp (rIxT K) (tVar 1) (tC (.int 0))) tNil)) tNil))) (tCons (tCB (rList K) (tCons (tOp (rIxT K) (tVar 1) (tC (.int 0))) tNil)) (tCons (tCB (rList K) (tCons (tOp (rIxT K) (tVar 2) (tC (.int 0))) tNil)) tNil))))
  (tSeq (tAsg (tTup (tCons (tCall (sp__law_pick C) [] E0 (tCons (tVar 0) (tCons (tLst (tCons (tOp rPow (tC (.int 10)) (tC (.int 6))) (tCons (tOp rSub (tC (.int 0)) (tOp rPow (tC (.int 10)) (tC (.int 6)))) tNil))) tNil))) (tCons (tCall (sp__law_pick C) [] E0 (tCons (tVar 0) (tCons (tLst (tCons (tC (.int 0)) (tCons (tC (.int 0)) (tCons (tOp rSub (tC (.int 0)) (tC (.int 1))) (tCons (tOp rPow (tC (.int 10)) (tC (.int 6))) tNil))))) tNil))) tNil))) (gTup K 2 (gCons (gSub (tVar 4) (tVar 3) rSetL) (gCons (gSub (tVar 5) (tVar 3) rSetL) gNil))))
  (tSeq (tAsg (tIf (tTest (tOp (rEqD K) (tVar 5) (tOp rRep (tLst (tCons (tC (.int 0)) tNil)) (tCB (rLen K) (tCons (tVar 5) tNil))))) (tC (.int 1)) (tOp (rIxL K) (tVar 5) (tVar 3))) (gSub (tVar 5) (tVar 3) rSetL))
  (tRet (tTup (tCons (tCall (sp__law_least C) [] E0 (tCons (tVar 4) (tCons (tOp (rIxT K) (tVar 1) (tC (.int 1))) tNil))) (tCons (tCall (sp__law_least C) [] E0 (tCons (tVar 5) (tCons (tOp (rIxT K) (tVar 2) (tC (.int 1))) tNil))) tNil)))))))
section
variable {W : Wd} {δ : Dl} {tb : TE} {ds es : List Dt} {i : Nat}
/-- a list of one's own == another -/
theorem ed_eqO (hd : δ[i]? = some (some (Sl.own ds))) (hb : Ed W tb δ (.lst es)) (p1 : plA ds = true) (p2 : plA es = true) (d1 : depA ds ≤ 60) (d2 : depA es ≤ 60) : Ed W (tOp (rEqD W.K) (tVar i) tb) δ (.bl (deq (.lst ds) (.lst es))) := fun g O σ H S Q q => by
  obtain ⟨p, xs, e, hO, hp, r⟩ := S.own i ds hd
  refine ⟨_, e, hb g O σ H S _ fun v H1 d f i1 e1 r1 => ?_⟩
  subst e1
  have hp1 := f p _ (S.own_n hO) hp
  have ra : Rep W.C (fun _ => False) H1 (.ref p) (.lst ds) := .lst hp1 (fun z => z) ((r.fr f).mono fun a o n e => ⟨fun z => z, e⟩)
  exact ⟨_, _, ra.dp (by simpa [pl] using p1), r1.dp (by simpa [pl] using p2), shaped_of (by simpa [pl] using p1) (by simp only [dep]; omega), shaped_of (by simpa [pl] using p2) (by simp only [dep]; omega), q _ H1 _ f i1 rfl (.bl _)⟩
end
theorem plA_rep0 (n : Nat) : plA (List.replicate n [Dt.int 0]).flatten = true := by
  rw [rep_rg]
  exact plA_iff.mpr fun d h => by
    obtain ⟨_, _, e⟩ := List.mem_map.mp h
    subst e; rfl
theorem depA_rep0 (n : Nat) : depA (List.replicate n [Dt.int 0]).flatten ≤ 60 := by
  rw [rep_rg]
  exact depA_le.mpr fun d h => by
    obtain ⟨_, _, e⟩ := List.mem_map.mp h
    subst e; exact Nat.zero_le _
theorem ed_ten6 {W : Wd} {δ : Dl} : Ed W (tOp rPow (tC (.int 10)) (tC (.int 6))) δ (.int 1000000) := Ed.to (ed_op ed_int ed_int (od_I (f := fun i j => i ^ j.toNat) ⟨by decide, by decide, by decide⟩)) rfl
theorem Bd30 {v : Int} (h : v.natAbs ≤ 1000000) : v.natAbs < 2 ^ 30 := by omega
theorem set_bd {l : List Int} {k j : Nat} {v : Int} (h : Bd k l) (hv : v.natAbs < 2 ^ k) : Bd k (l.set j v) := fun x hx => by
  rcases List.mem_or_eq_of_mem_set hx with e | e
  · exact h x e
  · rw [e]; exact hv
theorem gi_mem {l : List Int} {j : Nat} (h : j < l.length) : gi l j ∈ l := by
  unfold gi
  rw [List.getD_eq_getElem?_getD, List.getElem?_eq_getElem h]
  exact List.getElem_mem h
/-- a call of _law_least upon a list that is shared -/
theorem ed_least {W : Wd} {δ : Dl} {tar : TA} {E : XK} {l : List Int} {b : Int} (k : W.Ok) (ha : Ea W tar δ [.lst (l.map Dt.int), .int b]) (hl : l.length ≤ 900) (hb : Bd 1000 l) (hz : ∃ y ∈ l, y ≠ 0) : Ed W (tCall (sp__law_least W.C) [] E tar) δ (rD (leastR l b)) :=
  ed_call (l, b) k ha ⟨hl, hb, hz⟩ fun d e => e
theorem sd__law_far (W : Wd) (k : W.Ok) (R : Addr) (a c : Addr) (hold : Hold W a c) (y : FarG) (hp : 1 ≤ y.n ∧ y.n ≤ 6 ∧ TwoB 30 y.n y.x) : Sd W (t__law_far W.K W.C R) (startD N__law_far.length [.adr a, rD y.x.1, rD y.x.2]) { rt := fun d => TwoD y.n d, nx := fun _ => TwoD y.n Dt.non } := by
  obtain ⟨n, ⟨⟨l1, b1⟩, ⟨l2, b2⟩⟩⟩ := y
  obtain ⟨hn1, hn6, h1, h2⟩ := hp
  simp only at hn1 hn6 h1 h2 ⊢
  have hl1 : l1.length = n := h1.l
  have hl2 : l2.length = n := h2.l
  refine sq_par3 (eam_sh (R := fun d => ∃ j : Nat, d = .int (j : Nat) ∧ j < n) (er_draw (m := (n : Nat)) hold (ea_cons (ed_var rfl) (ea_cons (Ed.to (ed_cb (ea_cons (ed_op (ed_var rfl) ed_int (od_ixT rfl)) ea_nil) cd_lenT) (by rw [List.length_map, hl1])) ea_nil)) (by omega) fun r h0 h1 => ⟨r.toNat, by rw [Int.toNat_of_nonneg h0], by omega⟩) fun d ⟨j, e, hj⟩ => eam_ownE (ef_listT k (ed_op (ed_var rfl) ed_int (od_ixT rfl))) (eam_ownE (ef_listT k (ed_op (ed_var rfl) ed_int (od_ixT rfl))) (eam_nil ⟨_, _, _, rfl, ?_⟩)))
  subst e
  refine sq_set2 (R1 := fun d => ∃ v : Int, d = .int v ∧ v.natAbs ≤ 1000000 ∧ v ≠ 0) (R2 := fun d => ∃ v : Int, d = .int v ∧ v.natAbs ≤ 1000000) (m := (j : Nat)) (n := (j : Nat)) (l1 := j) (l2 := j) k rfl rfl (by decide) ?_ ?_ (ed_var rfl) (ixN_nat (by rw [List.length_map]; show j < l1.length; omega)) (fun δ' hδ => ed_var (hδ 3 _ rfl)) (ixN_nat (by rw [List.length_map]; show j < l2.length; omega)) fun u v ⟨p, e1, hp, hp0⟩ ⟨q, e2, hq⟩ => ?_
  · exact er_pickI (ns := [1000000, 0 - 1000000]) hold (ea_cons (ed_var rfl) (ea_cons (Ef.ed (ef_lst k (ea_cons ed_ten6 (ea_cons (ed_op ed_int ed_ten6 od_I0) ea_nil)) (by simp))) ea_nil)) (by decide) fun r hr => ⟨r, rfl, by revert r; decide⟩
  · exact er_pickI (ns := [0, 0, 0 - 1, 1000000]) hold (ea_cons (ed_var rfl) (ea_cons (Ef.ed (ef_lst k (ea_cons ed_int (ea_cons ed_int (ea_cons (ed_op ed_int ed_int od_I0) (ea_cons ed_ten6 ea_nil)))) (by simp))) ea_nil)) (by decide) fun r hr => ⟨r, rfl, by revert r; decide⟩
  subst e1 e2
  have es1 : (l1.map Dt.int).set j (.int p) = (l1.set j p).map Dt.int := by rw [List.map_set]
  have es2 : (l2.map Dt.int).set j (.int q) = (l2.set j q).map Dt.int := by rw [List.map_set]
  have B1 : Bd 30 l1 := fun x hx => h1.b x (List.mem_cons_of_mem _ hx)
  have B2 : Bd 30 l2 := fun x hx => h2.b x (List.mem_cons_of_mem _ hx)
  have C1 : Bd 30 (l1.set j p) := set_bd B1 (Bd30 hp)
  have C2 : Bd 30 (l2.set j q) := set_bd B2 (Bd30 hq)
  have z1 : ∃ y ∈ l1.set j p, y ≠ 0 := ⟨p, List.mem_set (by omega) _, hp0⟩
  have L1 : (l1.set j p).length = n := by rw [List.length_set, hl1]
  have L2 : (l2.set j q).length = n := by rw [List.length_set, hl2]
  show Sd W _ [some (.sh (.adr a)), some (.sh (rD (l1, b1))), some (.sh (rD (l2, b2))), some (.sh (.int (j : Nat))), some (.own ((l1.map Dt.int).set j (.int p))), some (.own ((l2.map Dt.int).set j (.int q)))] _
  rw [es1, es2]
  generalize l1.set j p = m1 at C1 z1 L1 ⊢
  generalize l2.set j q = m2 at C2 L2 ⊢
  refine sq_setL (R := fun d => d = .int (if (m2.all fun x => decide (x = 0)) = true then 1 else gi m2 j)) (n := (j : Nat)) (l := j) k rfl (er_if (b := m2.all fun x => decide (x = 0)) (Et.to (et_test (ed_eqO rfl (Ef.ed (ef_rep (n := (m2.map Dt.int).length) k (Ef.ec (ef_lst k (ea_cons ed_int ea_nil) (by simp))) (ed_lenC (ec_var rfl)) (by simp; omega) (by simp; omega))) (plA_ints m2) (by simpa using plA_rep0 m2.length) (by rw [depA_ints]; omega) (by simpa using depA_rep0 m2.length))) (by simpa using zeros_eq m2)) (fun h => Ed.er ed_int (by rw [if_pos h])) fun h => Ed.er (ed_ixL (ec_var rfl) (ed_var rfl) (gi_atI (by omega))) (by rw [if_neg (by simp [h])])) (ed_var rfl) (ixN_nat (by rw [List.length_map]; omega)) fun d e => ?_
  subst e
  have es3 : (m2.map Dt.int).set j (.int (if (m2.all fun x => decide (x = 0)) = true then 1 else gi m2 j)) = (m2.set j (if (m2.all fun x => decide (x = 0)) = true then 1 else gi m2 j)).map Dt.int := by rw [List.map_set]
  have C3 : Bd 30 (m2.set j (if (m2.all fun x => decide (x = 0)) = true then 1 else gi m2 j)) := set_bd C2 (by
    split
    · decide
    · exact C2 _ (gi_mem (by omega)))
  have z3 : ∃ y ∈ m2.set j (if (m2.all fun x => decide (x = 0)) = true then 1 else gi m2 j), y ≠ 0 := by
    by_cases h : (m2.all fun x => decide (x = 0)) = true
    · rw [if_pos h]
      exact ⟨1, List.mem_set (by omega) _, by decide⟩
    · rw [if_neg h]
      have e : m2.set j (gi m2 j) = m2 := by
        unfold gi
        rw [List.getD_eq_getElem?_getD, List.getElem?_eq_getElem (by omega)]
        exact List.set_getElem_self (by omega)
      rw [e]
      obtain ⟨z, hz, h0⟩ := List.all_eq_false.mp (Bool.eq_false_iff.mpr h)
      exact ⟨z, hz, by simpa using h0⟩
  have L3 : (m2.set j (if (m2.all fun x => decide (x = 0)) = true then 1 else gi m2 j)).length = n := by rw [List.length_set, L2]
  show Sd W _ [some (.sh (.adr a)), some (.sh (rD (l1, b1))), some (.sh (rD (l2, b2))), some (.sh (.int (j : Nat))), some (.own (m1.map Dt.int)), some (.own ((m2.map Dt.int).set j (.int (if (m2.all fun x => decide (x = 0)) = true then 1 else gi m2 j))))] _
  rw [es3]
  generalize m2.set j (if (m2.all fun x => decide (x = 0)) = true then 1 else gi m2 j) = m3 at C3 z3 L3 ⊢
  refine sd_freeze (i := 4) (ds := m1.map Dt.int) rfl (sd_freeze (i := 5) (ds := m3.map Dt.int) rfl (sd_ret (Ed.er (ed_tup k (ea_cons (ed_least (l := m1) (b := b1) k (ea_cons (ed_var rfl) (ea_cons (ed_op (ed_var rfl) ed_int (od_ixT rfl)) ea_nil)) (by omega) (C1.up (by decide)) z1) (ea_cons (ed_least (l := m3) (b := b2) k (ea_cons (ed_var rfl) (ea_cons (ed_op (ed_var rfl) ed_int (od_ixT rfl)) ea_nil)) (by omega) (C3.up (by decide)) z3) ea_nil)) (by simp)) ⟨(leastR m1 b1, leastR m3 b2), rfl, RowB.up (k := 30) ?_ (by decide), RowB.up (k := 30) ?_ (by decide)⟩)))
  · rw [← L1]
    exact least_row z1 fun v hv => by
      rcases List.mem_cons.mp hv with e | e
      · rw [e]; exact h1.b b1 List.mem_cons_self
      · exact C1 v e
  · rw [← L3]
    exact least_row z3 fun v hv => by
      rcases List.mem_cons.mp hv with e | e
      · rw [e]; exact h2.b b2 List.mem_cons_self
      · exact C3 v e

theorem sc__law_far : FnScope N__law_far ["_law_heap_here", "_law_one", "_law_other"] (defScope s__law_far) := ⟨rfl, rfl, rfl, by decide +kernel, rfl, by decide +kernel, by decide +kernel⟩
section
variable {P : Program} {w : World} {K : PySem.W.Frag} {mg : Str → Option Value} {base : Heap}
theorem b__law_far (T : Fx K mg) : Binds K T.f__law_far.fd ["_law_heap_here", "_law_one", "_law_other"] [] := T.f__law_far.F.bindsN fun _ _ _ _ _ _ us hl => match us, hl with | [_, _, _], _ => rfl
theorem d__law_far (T : Fx K mg) {cdv : Value} {A : Around} {outer : List Env} {s : Shared} {H : Hp} {E : XK} (hr : Room 2 (A.deeper (envOfC "_law_far" (defScope s__law_far) s.heap.objs.size T.f__law_far.f cdv))) : PSs (cxOf CX0 P w K mg base N__law_far "_law_far" (defScope s__law_far) T.f__law_far.f cdv A outer s H E).nox (defBody s__law_far) (t__law_far K T.C T.R) :=
  have nd := sc__law_far.nd
  (pss_cons (ps_par3 (i := 3) (j := 4) (l := 5) rfl nd rfl rfl rfl (by decide) (by decide) (by decide) rfl rfl rfl (pa_cons (pe_call (ok__law_draw T) (hr.mono (by decide)) rfl T.f__law_draw.g T.f__law_draw.F.kp (b__law_draw T) .nil pass0 (pa_cons (pv 0) (pa_cons (pe_callB call_len rfl T.b_len boot_len (pa_cons (pe_ix ix_tup (pv 1) pe_int (fun _ _ => rfl)) pa_nil)) pa_nil))) (pa_cons (pe_callTy call_list_of rfl T.b_list boot_list (pa_cons (pe_ix ix_tup (pv 1) pe_int (fun _ _ => rfl)) pa_nil)) (pa_cons (pe_callTy call_list_of rfl T.b_list boot_list (pa_cons (pe_ix ix_tup (pv 2) pe_int (fun _ _ => rfl)) pa_nil)) pa_nil))) rfl)
  (pss_cons (ps_asg (pe_tup (pa_cons (pe_call (ok__law_pick T) (hr.mono (by decide)) rfl T.f__law_pick.g T.f__law_pick.F.kp (b__law_pick T) .nil pass0 (pa_cons (pv 0) (pa_cons (pe_lst (pa_cons (pe_op op_pow pe_int pe_int) (pa_cons (pe_op op_sub pe_int (pe_op op_pow pe_int pe_int)) pa_nil))) pa_nil))) (pa_cons (pe_call (ok__law_pick T) (hr.mono (by decide)) rfl T.f__law_pick.g T.f__law_pick.F.kp (b__law_pick T) .nil pass0 (pa_cons (pv 0) (pa_cons (pe_lst (pa_cons pe_int (pa_cons pe_int (pa_cons (pe_op op_sub pe_int pe_int) (pa_cons (pe_op op_pow pe_int pe_int) pa_nil))))) pa_nil))) pa_nil))) (pg_tup rfl (pgs_cons (pg_sub (pv 4) (pv 3) set_list (fun _ => rfl)) (pgs_cons (pg_sub (pv 5) (pv 3) set_list (fun _ => rfl)) pgs_nil))))
  (pss_cons (ps_asg (pe_ifExp (pt_cmpR (op_eqD hr.units) (pv 5) (pe_op op_rep (pe_lst (pa_cons pe_int pa_nil)) (pe_callB call_len rfl T.b_len boot_len (pa_cons (pv 5) pa_nil))) (nomark _)) pe_int (pe_ix ix_list (pv 5) (pv 3) (fun _ _ => rfl))) (pg_sub (pv 5) (pv 3) set_list (fun _ => rfl)))
  (pss_one (ps_ret (pe_tup (pa_cons (pe_call (ok__law_least T) (hr.mono (by decide)) rfl T.f__law_least.g T.f__law_least.F.kp (b__law_least T) .nil pass0 (pa_cons (pv 4) (pa_cons (pe_ix ix_tup (pv 1) pe_int (fun _ _ => rfl)) pa_nil))) (pa_cons (pe_call (ok__law_least T) (hr.mono (by decide)) rfl T.f__law_least.g T.f__law_least.F.kp (b__law_least T) .nil pass0 (pa_cons (pv 5) (pa_cons (pe_ix ix_tup (pv 2) pe_int (fun _ _ => rfl)) pa_nil))) pa_nil))))))))
theorem ok__law_far (T : Fx K mg) : FnOk P w K mg base CX0 3 T.f__law_far.f T.f__law_far.fd ["_law_heap_here", "_law_one", "_law_other"] (sp__law_far T.C) :=
  T.f__law_far.F.ok sc__law_far (fun vs H Q E ⟨A, a, c, x, _, _, _, _, r, _⟩ => by rw [r.length]; rfl) fun cdv A outer s H vs Q E hr h => ⟨t__law_far K T.C T.R, PSs.nox (d__law_far T hr), run_I K h fun W k a c hold x hC hK hp => by subst hK; rw [← hC]; exact sd__law_far W k T.R a c hold x hp⟩
end
end DL
namespace DL
open PySem PySem.Spec PyProof.Rows L2 Hd
/-! ### _law_pair -/
abbrev sp__law_pair (C : Addr) : Sp := spI C (G := Nat) (fun n => [.int (n : Nat)]) (fun n => 1 ≤ n ∧ n ≤ 6) (fun n d => TwoD n d)

abbrev N__law_pair : List Str := ["_law_heap_here", "_law_size", "_law_one", "_law_kind", "_law_factor_here", "_law_many", "_law_bound", "_law_part"]
def t__law_pair (K : PySem.W.Frag) (C R : Addr) : TS := (tSeq (tPar 2 3 (tCons (tCall (sp__law_row C) [] E0 (tCons (tVar 0) (tCons (tVar 1) (tCons (tCall (sp__law_pick C) [] E0 (tCons (tVar 0) (tCons (tLst (tCons (tC (.int 3)) (tCons (tC (.int 3)) (tCons (tOp rPow (tC (.int 10)) (tC (.int 5))) tNil)))) tNil))) tNil)))) (tCons (tCall (sp__law_draw C) [] E0 (tCons (tVar 0) (tCons (tC (.int 4)) tNil))) tNil)))
  (tSeq (tIfS (tTest (tOp rEq (tVar 3) (tC (.int 0)))) (tRet (tCall (sp__law_far C) [] E0 (tCons (tVar 0) (tCons (tVar 2) (tCons (tCall (sp__law_row C) [] E0 (tCons (tVar 0) (tCons (tVar 1) (tCons (tC (.int 3)) tNil)))) tNil))))) tNext)
  (tSeq (tIfS (tTest (tOp rEq (tVar 3) (tC (.int 1)))) (tRet (tTup (tCons (tVar 2) (tCons (tCall (sp__law_row C) [] E0 (tCons (tVar 0) (tCons (tVar 1) (tCons (tCall (sp__law_pick C) [] E0 (tCons (tVar 0) (tCons (tLst (tCons (tC (.int 3)) (tCons (tOp rPow (tC (.int 10)) (tC (.int 6))) tNil))) tNil))) tNil)))) tNil)))) tNext)
  (tSeq (tAsg (tTup (tCons (tCall (sp__law_pick C) [] E0 (tCons (tVar 0) (tCons (tLst (tCons (tOp rSub (tC (.int 0)) (tC (.int 1))) (tCons (tOp rSub (tC (.int 0)) (tC (.int 1))) (tCons (tOp rSub (tC (.int 0)) (tC (.int 2))) (tCons (tOp rSub (tC (.int 0)) (tC (.int 3))) (tCons (tC (.int 2)) tNil)))))) tNil))) (tCons (tOp rAdd (tC (.int 1)) (tCall (sp__law_draw C) [] E0 (tCons (tVar 0) (tCons (tC (.int 2)) tNil)))) tNil))) (gTup K 2 (gCons (gName 4) (gCons (gName 5) gNil))))
  (tSeq (tAsg (tOp rAdd (tOp rMulW (tOp (rIxT K) (tVar 2) (tC (.int 1))) (tVar 4)) (tCall (sp__law_pick C) [] E0 (tCons (tVar 0) (tCons (tLst (tCons (tC (.int 0)) (tCons (tC (.int 1)) (tCons (tOp rSub (tC (.int 0)) (tC (.int 1))) (tCons (tOp rSub (tC (.int 0)) (tC (.int 2))) tNil))))) tNil)))) (gName 6))
  (tRet (tTup (tCons (tVar 2) (tCons (tCall (sp__law_least C) [] E0 (tCons (tLc (iTup K (tOp (rIxT K) (tVar 2) (tC (.int 0)))) (gName 7) tYes (tOp rMulW (tOp rMulW (tVar 7) (tVar 4)) (tVar 5)) [7]) (tCons (tOp rMulW (tVar 6) (tVar 5)) tNil))) tNil)))))))))
theorem natI {r : Int} (h : 1 ≤ r ∧ r ≤ 1000000) : ∃ m : Nat, Dt.int r = .int (m : Nat) ∧ 1 ≤ m ∧ m ≤ 1000000 := ⟨r.toNat, by rw [Int.toNat_of_nonneg (by omega)], by omega, by omega⟩
theorem ed_ten5 {W : Wd} {δ : Dl} : Ed W (tOp rPow (tC (.int 10)) (tC (.int 5))) δ (.int 100000) := Ed.to (ed_op ed_int ed_int (od_I (f := fun i j => i ^ j.toNat) ⟨by decide, by decide, by decide⟩)) rfl
/-- a call of _law_row -/
theorem er_row {W : Wd} {δ : Dl} {tar : TA} {a c : Addr} {n : Nat} {P : Dt → Prop} {E : XK} (hold : Hold W a c) (hn : 1 ≤ n ∧ n ≤ 6) (ha : Ear W tar δ fun ds => ∃ m : Nat, ds = [.adr a, .int (n : Nat), .int (m : Nat)] ∧ 1 ≤ m ∧ m ≤ 1000000) (h : ∀ r : Row, RowB 30 n r → P (rD r)) : Er W (tCall (sp__law_row W.C) [] E tar) δ P :=
  er_callI hold ha fun ds ⟨m, e, h1, h2⟩ => ⟨(n, m), e, ⟨hn.1, hn.2, h1, h2⟩, fun d ⟨r, e, hr⟩ => by rw [e]; exact h r hr⟩
theorem ear_row {W : Wd} {δ : Dl} {te t1 t0 : TE} {a : Addr} {n : Nat} (h0 : Ed W t0 δ (.adr a)) (h1 : Ed W t1 δ (.int (n : Nat))) (h2 : Er W te δ fun d => ∃ m : Nat, d = .int (m : Nat) ∧ 1 ≤ m ∧ m ≤ 1000000) : Ear W (tCons t0 (tCons t1 (tCons te tNil))) δ fun ds => ∃ m : Nat, ds = [.adr a, .int (n : Nat), .int (m : Nat)] ∧ 1 ≤ m ∧ m ≤ 1000000 :=
  ear_cons (PR := fun _ => True) h0 fun d e0 => ear_cons (PR := fun _ => True) h1 fun d1 e1 => ear_cons (PR := fun _ => True) h2 fun d2 ⟨m, e2, hm⟩ => Ear.imp ear_nil fun ds e => by subst e0 e1 e2 e; exact ⟨m, rfl, hm⟩
theorem sd__law_pair (W : Wd) (k : W.Ok) (R : Addr) (a c : Addr) (hold : Hold W a c) (n : Nat) (hp : 1 ≤ n ∧ n ≤ 6) : Sd W (t__law_pair W.K W.C R) (startD N__law_pair.length [.adr a, .int (n : Nat)]) { rt := fun d => TwoD n d, nx := fun _ => TwoD n Dt.non } := by
  refine sq_par (eam_sh (R := fun d => ∃ r : Row, d = rD r ∧ RowB 30 n r) (er_row hold hp (ear_row (ed_var rfl) (ed_var rfl) (er_pickI (ns := [3, 3, 100000]) hold (ea_cons (ed_var rfl) (ea_cons (Ef.ed (ef_lst k (ea_cons ed_int (ea_cons ed_int (ea_cons ed_ten5 ea_nil))) (by simp))) ea_nil)) (by decide) fun r hr => natI (by revert r; decide))) fun r hr => ⟨r, rfl, hr⟩) fun d ⟨one, e, h1⟩ => eam_sh (R := fun d => ∃ r : Int, d = .int r) (er_draw hold (ea_cons (ed_var rfl) (ea_cons ed_int ea_nil)) (by decide) fun r _ _ => ⟨r, rfl⟩) fun d2 ⟨kind, e2⟩ => eam_nil ⟨_, _, rfl, ?_⟩)
  subst e e2
  have hl : one.1.length = n := h1.l
  have B1 : Bd 30 one.1 := fun x hx => h1.b x (List.mem_cons_of_mem _ hx)
  have b1 : one.2.natAbs < 2 ^ 30 := h1.b _ List.mem_cons_self
  refine sq_when (et_test (ed_op (ed_var rfl) ed_int od_eqI)) (fun h => sd_ret ?_) fun h => ?_
  · refine er_callI (PL := fun ds => ∃ r : Row, ds = [.adr a, rD one, rD r] ∧ RowB 30 n r) hold (ear_cons (PR := fun _ => True) (ed_var rfl) fun d e0 => ear_cons (PR := fun _ => True) (ed_var rfl) fun d1 e1 => ear_cons (P1 := fun d => ∃ r : Row, d = rD r ∧ RowB 30 n r) (PR := fun _ => True) (er_row hold hp (ear_row (ed_var rfl) (ed_var rfl) (Ed.er ed_int ⟨3, rfl, by decide, by decide⟩)) fun r hr => ⟨r, rfl, hr⟩) fun d2 ⟨r, e2, hr⟩ => Ear.imp ear_nil fun ds e => by subst e0 e1 e2 e; exact ⟨r, rfl, hr⟩) fun ds ⟨r, e, hr⟩ => ⟨⟨n, (one, r)⟩, e, ⟨hp.1, hp.2, h1, hr⟩, fun d h => h⟩
  refine sq_when (et_test (ed_op (ed_var rfl) ed_int od_eqI)) (fun h => sd_ret ?_) fun h => ?_
  · refine er_tup (PL := fun ds => ∃ r : Row, ds = [rD one, rD r] ∧ RowB 30 n r) k (ear_cons (PR := fun _ => True) (ed_var rfl) fun d1 e1 => ear_cons (P1 := fun d => ∃ r : Row, d = rD r ∧ RowB 30 n r) (PR := fun _ => True) (er_row hold hp (ear_row (ed_var rfl) (ed_var rfl) (er_pickI (ns := [3, 1000000]) hold (ea_cons (ed_var rfl) (ea_cons (Ef.ed (ef_lst k (ea_cons ed_int (ea_cons ed_ten6 ea_nil)) (by simp))) ea_nil)) (by decide) fun r hr => natI (by revert r; decide))) fun r hr => ⟨r, rfl, hr⟩) fun d2 ⟨r, e2, hr⟩ => Ear.imp ear_nil fun ds e => by subst e1 e2 e; exact ⟨r, rfl, hr⟩) fun ds ⟨r, e, hr⟩ => by
      subst e
      exact ⟨by simp, (one, r), rfl, h1.up (by decide), hr.up (by decide)⟩
  refine sq_parT k (eam_sh (R := fun d => ∃ f : Int, d = .int f ∧ f.natAbs ≤ 3 ∧ f ≠ 0) (er_pickI (ns := [0 - 1, 0 - 1, 0 - 2, 0 - 3, 2]) hold (ea_cons (ed_var rfl) (ea_cons (Ef.ed (ef_lst k (ea_cons (ed_op ed_int ed_int od_I0) (ea_cons (ed_op ed_int ed_int od_I0) (ea_cons (ed_op ed_int ed_int od_I0) (ea_cons (ed_op ed_int ed_int od_I0) (ea_cons ed_int ea_nil))))) (by simp))) ea_nil)) (by decide) fun r hr => ⟨r, rfl, by revert r; decide⟩) fun d ⟨f, e, hf, hf0⟩ => eam_sh (R := fun d => ∃ m : Int, d = .int m ∧ 1 ≤ m ∧ m ≤ 2) (er_op (P1 := fun d => d = .int 1) (P2 := fun _ d => ∃ r : Int, d = .int r ∧ 0 ≤ r ∧ r < 2) ed_int (fun _ _ => er_draw hold (ea_cons (ed_var rfl) (ea_cons ed_int ea_nil)) (by decide) fun r h0 h1 => ⟨r, rfl, h0, h1⟩) fun x y e1 ⟨r, e2, h0, h1⟩ => by subst e1 e2; exact ⟨_, od_I0, 1 + r, rfl, by omega, by omega⟩) fun d2 ⟨m, e2, hm1, hm2⟩ => eam_nil ⟨_, _, rfl, ?_⟩)
  subst e e2
  have F : ∀ x : Int, x.natAbs < 2 ^ 30 → (x * f).natAbs < 2 ^ 33 := fun x hx => by
    have := abs_mul_le (show x.natAbs ≤ 2 ^ 30 by omega) hf
    omega
  refine sq_asg (R := fun d => ∃ b : Int, d = .int b ∧ b.natAbs < 2 ^ 34) (er_op (P1 := fun d => d = .int (one.2 * f)) (P2 := fun _ d => ∃ r : Int, d = .int r ∧ r.natAbs ≤ 2) (ed_op (ed_op (ed_var rfl) ed_int (od_ixT rfl)) (ed_var rfl) (od_I (mul_ok (m := 30) (n := 3) b1 (by omega) (by decide)))) (fun _ _ => er_pickI (ns := [0, 1, 0 - 1, 0 - 2]) hold (ea_cons (ed_var rfl) (ea_cons (Ef.ed (ef_lst k (ea_cons ed_int (ea_cons ed_int (ea_cons (ed_op ed_int ed_int od_I0) (ea_cons (ed_op ed_int ed_int od_I0) ea_nil)))) (by simp))) ea_nil)) (by decide) fun r hr => ⟨r, rfl, by revert r; decide⟩) fun x y e1 ⟨r, e2, hr⟩ => by
    subst e1 e2
    exact ⟨_, od_I0, _, rfl, by have := F _ b1; omega⟩) (of_decide_eq_true rfl) fun d ⟨b, e, hb⟩ => ?_
  subst e
  have Fm : ∀ x : Int, x.natAbs < 2 ^ 34 → (x * m).natAbs < 2 ^ 36 := fun x hx => by
    have := abs_mul_le (show x.natAbs ≤ 2 ^ 34 by omega) (show m.natAbs ≤ 2 by omega)
    omega
  have LL : Bd 36 (one.1.map fun x => x * f * m) := fun v hv => by
    obtain ⟨x, hx, e⟩ := List.mem_map.mp hv
    rw [← e]
    exact Fm _ (Nat.lt_of_lt_of_le (F x (B1 x hx)) (by decide))
  have LZ : ∃ y ∈ one.1.map fun x => x * f * m, y ≠ 0 := by
    obtain ⟨x, hx, h0⟩ := h1.nz
    exact ⟨_, List.mem_map.mpr ⟨x, hx, rfl⟩, Int.mul_ne_zero (Int.mul_ne_zero h0 hf0) (by omega)⟩
  refine sd_ret (Ed.er (ed_tup k (ea_cons (ed_var rfl) (ea_cons (ed_least (l := one.1.map fun x => x * f * m) (b := b * m) k (ea_cons ((Ef.ed (ef_lcAll one.1 Dt.int (fun x => .int (x * f * m)) k (YlG.yl (yg_tup (ed_op (ed_var rfl) ed_int (od_ixT rfl)))) (by omega) fun x hx => ⟨_, _, tg_name (of_decide_eq_true rfl), by simp, ed_op (ed_op (ed_var rfl) (ed_var rfl) (od_I (mul_ok (m := 30) (n := 3) (B1 x hx) (by omega) (by decide)))) (ed_var rfl) (od_I (mul_ok (m := 33) (n := 3) (F x (B1 x hx)) (by omega) (by decide)))⟩)).to (by rw [List.map_map]; rfl)) (ea_cons (ed_op (ed_var rfl) (ed_var rfl) (od_I (mul_ok (m := 34) (n := 3) hb (by omega) (by decide)))) ea_nil)) (by simp; omega) (LL.up (by decide)) LZ) ea_nil)) (by simp)) ⟨(one, leastR (one.1.map fun x => x * f * m) (b * m)), rfl, h1.up (by decide), RowB.up (k := 36) ?_ (by decide)⟩)
  have e : (one.1.map fun x => x * f * m).length = n := by simp [hl]
  rw [← e]
  exact least_row LZ fun v hv => by
    rcases List.mem_cons.mp hv with e | e
    · rw [e]; exact Fm b hb
    · exact LL v e

theorem sc__law_pair : FnScope N__law_pair ["_law_heap_here", "_law_size"] (defScope s__law_pair) := ⟨rfl, rfl, rfl, by decide +kernel, rfl, by decide +kernel, by decide +kernel⟩
section
variable {P : Program} {w : World} {K : PySem.W.Frag} {mg : Str → Option Value} {base : Heap}
theorem b__law_pair (T : Fx K mg) : Binds K T.f__law_pair.fd ["_law_heap_here", "_law_size"] [] := T.f__law_pair.F.bindsN fun _ _ _ _ _ _ us hl => match us, hl with | [_, _], _ => rfl
theorem d__law_pair (T : Fx K mg) {cdv : Value} {A : Around} {outer : List Env} {s : Shared} {H : Hp} {E : XK} (hr : Room 3 (A.deeper (envOfC "_law_pair" (defScope s__law_pair) s.heap.objs.size T.f__law_pair.f cdv))) : PSs (cxOf CX0 P w K mg base N__law_pair "_law_pair" (defScope s__law_pair) T.f__law_pair.f cdv A outer s H E).nox (defBody s__law_pair) (t__law_pair K T.C T.R) :=
  have nd := sc__law_pair.nd
  (pss_cons (ps_par (i := 2) (j := 3) rfl nd rfl rfl (by decide) rfl rfl (pa_cons (pe_call (ok__law_row T) (hr.mono (by decide)) rfl T.f__law_row.g T.f__law_row.F.kp (b__law_row T) .nil pass0 (pa_cons (pv 0) (pa_cons (pv 1) (pa_cons (pe_call (ok__law_pick T) (hr.mono (by decide)) rfl T.f__law_pick.g T.f__law_pick.F.kp (b__law_pick T) .nil pass0 (pa_cons (pv 0) (pa_cons (pe_lst (pa_cons pe_int (pa_cons pe_int (pa_cons (pe_op op_pow pe_int pe_int) pa_nil)))) pa_nil))) pa_nil)))) (pa_cons (pe_call (ok__law_draw T) (hr.mono (by decide)) rfl T.f__law_draw.g T.f__law_draw.F.kp (b__law_draw T) .nil pass0 (pa_cons (pv 0) (pa_cons pe_int pa_nil))) pa_nil)) rfl)
  (pss_cons (ps_if (pt_cmpR op_eq (pv 3) pe_int (nomark _)) (pss_one (ps_ret (pe_call (ok__law_far T) (hr.mono (by decide)) rfl T.f__law_far.g T.f__law_far.F.kp (b__law_far T) .nil pass0 (pa_cons (pv 0) (pa_cons (pv 2) (pa_cons (pe_call (ok__law_row T) (hr.mono (by decide)) rfl T.f__law_row.g T.f__law_row.F.kp (b__law_row T) .nil pass0 (pa_cons (pv 0) (pa_cons (pv 1) (pa_cons pe_int pa_nil)))) pa_nil)))))) pss_nil)
  (pss_cons (ps_if (pt_cmpR op_eq (pv 3) pe_int (nomark _)) (pss_one (ps_ret (pe_tup (pa_cons (pv 2) (pa_cons (pe_call (ok__law_row T) (hr.mono (by decide)) rfl T.f__law_row.g T.f__law_row.F.kp (b__law_row T) .nil pass0 (pa_cons (pv 0) (pa_cons (pv 1) (pa_cons (pe_call (ok__law_pick T) (hr.mono (by decide)) rfl T.f__law_pick.g T.f__law_pick.F.kp (b__law_pick T) .nil pass0 (pa_cons (pv 0) (pa_cons (pe_lst (pa_cons pe_int (pa_cons (pe_op op_pow pe_int pe_int) pa_nil))) pa_nil))) pa_nil)))) pa_nil))))) pss_nil)
  (pss_cons (ps_asg (pe_tup (pa_cons (pe_call (ok__law_pick T) (hr.mono (by decide)) rfl T.f__law_pick.g T.f__law_pick.F.kp (b__law_pick T) .nil pass0 (pa_cons (pv 0) (pa_cons (pe_lst (pa_cons (pe_op op_sub pe_int pe_int) (pa_cons (pe_op op_sub pe_int pe_int) (pa_cons (pe_op op_sub pe_int pe_int) (pa_cons (pe_op op_sub pe_int pe_int) (pa_cons pe_int pa_nil)))))) pa_nil))) (pa_cons (pe_op op_add pe_int (pe_call (ok__law_draw T) (hr.mono (by decide)) rfl T.f__law_draw.g T.f__law_draw.F.kp (b__law_draw T) .nil pass0 (pa_cons (pv 0) (pa_cons pe_int pa_nil)))) pa_nil))) (pg_tup rfl (pgs_cons (pg_name (i := 4) nd rfl (by first | exact Or.inl rfl | exact Or.inr rfl)) (pgs_cons (pg_name (i := 5) nd rfl (by first | exact Or.inl rfl | exact Or.inr rfl)) pgs_nil))))
  (pss_cons (ps_set (i := 6) nd rfl (by first | exact Or.inl rfl | exact Or.inr rfl) (pe_op op_add (pe_op op_mulW (pe_ix ix_tup (pv 2) pe_int (fun _ _ => rfl)) (pv 4)) (pe_call (ok__law_pick T) (hr.mono (by decide)) rfl T.f__law_pick.g T.f__law_pick.F.kp (b__law_pick T) .nil pass0 (pa_cons (pv 0) (pa_cons (pe_lst (pa_cons pe_int (pa_cons pe_int (pa_cons (pe_op op_sub pe_int pe_int) (pa_cons (pe_op op_sub pe_int pe_int) pa_nil))))) pa_nil)))))
  (pss_one (ps_ret (pe_tup (pa_cons (pv 2) (pa_cons (pe_call (ok__law_least T) (hr.mono (by decide)) rfl T.f__law_least.g T.f__law_least.F.kp (b__law_least T) .nil pass0 (pa_cons (pe_lc (own := [("_law_part", 7)]) (g := (gName 7)) (tt := tYes) rfl nd (pi_tup (pe_ix ix_tup (pv 2) pe_int (fun _ _ => rfl))) (blkOk_by (by kernel_rfl)) (fun _ _ _ _ _ => (pg_name (i := 7) nd rfl (by first | exact Or.inl rfl | exact Or.inr rfl))) (fun _ _ _ _ _ => pts_nil) (fun _ _ _ _ _ => (pe_op op_mulW (pe_op op_mulW (pv 7) (pv 4)) (pv 5)))) (pa_cons (pe_op op_mulW (pv 6) (pv 5)) pa_nil))) pa_nil))))))))))
theorem ok__law_pair (T : Fx K mg) : FnOk P w K mg base CX0 4 T.f__law_pair.f T.f__law_pair.fd ["_law_heap_here", "_law_size"] (sp__law_pair T.C) :=
  T.f__law_pair.F.ok sc__law_pair (fun vs H Q E ⟨A, a, c, x, _, _, _, _, r, _⟩ => by rw [r.length]; rfl) fun cdv A outer s H vs Q E hr h => ⟨t__law_pair K T.C T.R, PSs.nox (d__law_pair T hr), run_I K h fun W k a c hold x hC hK hp => by subst hK; rw [← hC]; exact sd__law_pair W k T.R a c hold x hp⟩
end
end DL
namespace DL
open PySem PySem.Spec PyProof.Rows L2 Hd
/-! ### _law_rows -/
abbrev sp__law_rows (C : Addr) : Sp := spI C (G := Nat) (fun n => [.int (n : Nat)]) (fun n => 1 ≤ n ∧ n ≤ 6) (fun n d => ∃ rs : List Row, d = rowsD rs ∧ rowsOk n rs ∧ rs.length ≤ 12)

abbrev N__law_rows : List Str := ["_law_heap_here", "_law_size", "_law_kind", "_law_found", "_law_turn", "_law_parts", "_law_bound", "_law_part", "_law_kept_here", "_law_row_here"]
def t__law_rows (K : PySem.W.Frag) (C R : Addr) : TS := (tSeq (tPar 2 3 (tCons (tCall (sp__law_pick C) [] E0 (tCons (tVar 0) (tCons (tLst (tCons (tC (.int 1)) (tCons (tC (.int 0)) (tCons (tC (.int 2)) (tCons (tC (.int 0)) (tCons (tC (.int 1)) (tCons (tC (.int 3)) (tCons (tC (.int 0)) (tCons (tC (.int 4)) tNil))))))))) tNil))) (tCons (tLst tNil) tNil)))
  (tSeq (tIfS (tTest (tOp rEq (tVar 2) (tC (.int 1)))) (tAsg (tCall (sp__law_chain C) [] E0 (tCons (tVar 0) (tCons (tVar 1) tNil))) (gName 3)) tNext)
  (tSeq (tFor (iRng1 (tCons (tOp rSub (tOp (rIxL K) (tLst (tCons (tC (.int 4)) (tCons (tC (.int 2)) (tCons (tC (.int 2)) (tCons (tC (.int 3)) (tCons (tC (.int 0)) tNil)))))) (tVar 2)) (tCB rInt1 (tCons (tOp rEq (tVar 1) (tC (.int 4))) tNil))) tNil)) (gName 4) (tDrop (tBM K "list" rAppend (tVar 3) (tCons (tCall (sp__law_row C) [] E0 (tCons (tVar 0) (tCons (tVar 1) (tCons (tIf (tTest (tOp rEq (tVar 2) (tC (.int 3)))) (tOp rPow (tC (.int 10)) (tC (.int 6))) (tC (.int 3))) tNil)))) tNil))))
  (tSeq (tIfS (tTest (tOp rEq (tVar 2) (tC (.int 2)))) (tSeq (tAsg (tOp (rIxL K) (tVar 3) (tC (.int 0))) (gTup K 2 (gCons (gName 5) (gCons (gName 6) gNil))))
  (tDrop (tBM K "list" rAppend (tVar 3) (tCons (tCall (sp__law_least C) [] E0 (tCons (tLc (iTup K (tVar 5)) (gName 7) tYes (tOp rSub (tC (.int 0)) (tVar 7)) [7]) (tCons (tOp rAdd (tOp rSub (tC (.int 0)) (tVar 6)) (tCall (sp__law_draw C) [] E0 (tCons (tVar 0) (tCons (tC (.int 2)) tNil)))) tNil))) tNil)))) tNext)
  (tSeq (tAsg (tLst tNil) (gName 8))
  (tSeq (tFor (iList K (tCB (rSortD K) (tCons (tVar 3) tNil))) (gName 9) (tIfS (tTest (tOp (rNotInD K) (tVar 9) (tVar 8))) (tDrop (tBM K "list" rAppend (tVar 8) (tCons (tVar 9) tNil))) tNext))
  (tRet (tCB (rTuple K) (tCons (tVar 8) tNil)))))))))
theorem pair_next {rs : List Row} (hs : rs.Pairwise (fun a b => dLt (rD a) (rD b) = true)) (i : Nat) (a b : Row) (ha : rs[i]? = some a) (hb : rs[i + 1]? = some b) : dLt (rD a) (rD b) = true := by
  obtain ⟨h1, e1⟩ := List.getElem?_eq_some_iff.mp ha
  obtain ⟨h2, e2⟩ := List.getElem?_eq_some_iff.mp hb
  have := List.pairwise_iff_getElem.mp hs i (i + 1) h1 h2 (by omega)
  rwa [e1, e2] at this
theorem sd__law_rows (W : Wd) (k : W.Ok) (R : Addr) (a c : Addr) (hold : Hold W a c) (n : Nat) (hp : 1 ≤ n ∧ n ≤ 6) : Sd W (t__law_rows W.K W.C R) (startD N__law_rows.length [.adr a, .int (n : Nat)]) { rt := fun d => ∃ rs : List Row, d = rowsD rs ∧ rowsOk n rs ∧ rs.length ≤ 12, nx := fun _ => ∃ rs : List Row, Dt.non = rowsD rs ∧ rowsOk n rs ∧ rs.length ≤ 12 } := by
  refine sq_par (eam_sh (R := fun d => ∃ j : Nat, d = .int (j : Nat) ∧ j ≤ 4) (er_pickI (ns := [1, 0, 2, 0, 1, 3, 0, 4]) hold (ea_cons (ed_var rfl) (ea_cons (Ef.ed (ef_lst k (ea_cons ed_int (ea_cons ed_int (ea_cons ed_int (ea_cons ed_int (ea_cons ed_int (ea_cons ed_int (ea_cons ed_int (ea_cons ed_int ea_nil)))))))) (by simp))) ea_nil)) (by decide) fun r hr => ⟨r.toNat, by
    have : 0 ≤ r := by revert r; decide
    rw [Int.toNat_of_nonneg this], by revert r; decide⟩) fun d ⟨j, e, hj⟩ => eam_ownE (ef_lst k ea_nil (by simp)) (eam_nil ⟨_, _, rfl, ?_⟩))
  subst e
  refine sd_seq (M := fun δ => ∃ rs : List Row, rs.length ≤ 5 ∧ (∀ r ∈ rs, RowB 30 n r) ∧ δ = [some (.sh (.adr a)), some (.sh (.int (n : Nat))), some (.sh (.int (j : Nat))), some (.own (rs.map rD)), none, none, none, none, none, none]) (sd_if (et_test (ed_op (ed_var rfl) ed_int od_eqI)) (fun h => sd_asgO (efr_callI (PR := fun ds => ∃ rs : List Row, ds = rs.map rD ∧ rs.length ≤ 5 ∧ ∀ r ∈ rs, RowB 30 n r) n hold (ea_cons (ed_var rfl) (ea_cons (ed_var rfl) ea_nil)) hp fun ds h => h) (of_decide_eq_true rfl) fun ds ⟨rs, e, h1, h2⟩ => ⟨rs, h1, fun r hr => h2 r hr, by rw [e]; rfl⟩) fun h => sd_next ⟨[], by simp, by simp, rfl⟩) ?_
  rintro δ ⟨rs, hl, hr, rfl⟩
  have hM : ∃ M : Int, gi [4, 2, 2, 3, 0] j - (if decide ((n : Int) = 4) = true then 1 else 0) = M ∧ -1 ≤ M ∧ M ≤ 4 ∧ (j = 2 → 1 ≤ M) := ⟨_, rfl, by
    have : j = 0 ∨ j = 1 ∨ j = 2 ∨ j = 3 ∨ j = 4 := by omega
    rcases this with rfl | rfl | rfl | rfl | rfl <;> (split <;> decide)⟩
  obtain ⟨M, eM, hM1, hM2, hM3⟩ := hM
  refine sq_for k (yg_range1 (n := M) (ea_cons (Ed.to (ed_op (ed_ixL (d := .int (gi [4, 2, 2, 3, 0] j)) (Ef.ec (ef_lst (ds := [4, 2, 2, 3, 0].map Dt.int) k (ea_cons ed_int (ea_cons ed_int (ea_cons ed_int (ea_cons ed_int (ea_cons ed_int ea_nil))))) (by simp))) (ed_var rfl) (gi_atI (l := [4, 2, 2, 3, 0]) (by show j < 5; omega))) (ed_cb (ea_cons (ed_op (ed_var rfl) ed_int od_eqI) ea_nil) cd_intB) od_I0) (by rw [eM])) ea_nil) (by omega)) (fun i δ => ∃ (ks : List Row) (q : Option Sl), ks.length ≤ 5 + i ∧ i ≤ ks.length ∧ (∀ r ∈ ks, RowB 30 n r) ∧ δ = [some (.sh (.adr a)), some (.sh (.int (n : Nat))), some (.sh (.int (j : Nat))), some (.own (ks.map rD)), q, none, none, none, none, none]) ⟨rs, none, by omega, by omega, hr, rfl⟩ ?_ ?_
  · rintro i d δ' hd ⟨ks, q, hk1, hk2, hk, rfl⟩
    have hi : i < M.toNat := by have := (List.getElem?_eq_some_iff.mp hd).1; simpa using this
    refine ⟨_, _, tg_name (of_decide_eq_true rfl), ?_⟩
    refine sd_append (R := fun d => ∃ r : Row, d = rD r ∧ RowB 30 n r) k rfl (er_row hold hp (ear_row (ed_var rfl) (ed_var rfl) (er_if (et_test (ed_op (ed_var rfl) ed_int od_eqI)) (fun h => Ed.er ed_ten6 ⟨1000000, rfl, by decide, by decide⟩) fun h => Ed.er ed_int ⟨3, rfl, by decide, by decide⟩)) fun r hr => ⟨r, rfl, hr⟩) (by simp; omega) fun d ⟨r, e, hr⟩ => ⟨ks ++ [r], _, by simp; omega, by simp; omega, fun s hs => ?_, by subst e; simp; rfl⟩
    rcases List.mem_append.mp hs with z | z
    · exact hk s z
    · rw [List.mem_singleton.mp z]; exact hr
  rintro δ' ⟨ks, q, hk1, hk2, hk, rfl⟩
  have hk1 : ks.length ≤ 9 := by simp at hk1; omega
  have hk2 : M.toNat ≤ ks.length := by simpa using hk2
  refine sd_seq (M := fun δ => ∃ (ks : List Row) (q1 q2 : Option Sl), ks.length ≤ 12 ∧ (∀ r ∈ ks, RowB 40 n r) ∧ δ = [some (.sh (.adr a)), some (.sh (.int (n : Nat))), some (.sh (.int (j : Nat))), some (.own (ks.map rD)), q, q1, q2, none, none, none]) (sd_if (et_test (ed_op (ed_var rfl) ed_int od_eqI)) (fun h => ?_) fun h => sd_next ⟨ks, none, none, by omega, fun r hr => (hk r hr).up (by decide), rfl⟩) ?_
  · have hj2 : j = 2 := by
      have : (j : Int) = 2 := by simpa using h
      omega
    have hM3 := hM3 hj2
    obtain ⟨r0, ks', rfl⟩ : ∃ r0 ks', ks = r0 :: ks' := by
      cases ks with
      | nil => simp at hk2; omega
      | cons r l => exact ⟨r, l, rfl⟩
    have h0 := hk r0 List.mem_cons_self
    have B0 : Bd 30 r0.1 := fun x hx => h0.b x (List.mem_cons_of_mem _ hx)
    have b0 : r0.2.natAbs < 2 ^ 30 := h0.b _ List.mem_cons_self
    have hl0 : r0.1.length = n := h0.l
    have LL : Bd 40 (r0.1.map fun x => 0 - x) := fun v hv => by
      obtain ⟨x, hx, e⟩ := List.mem_map.mp hv
      have := B0 x hx
      rw [← e]; omega
    have LZ : ∃ y ∈ r0.1.map fun x => 0 - x, y ≠ 0 := by
      obtain ⟨x, hx, h0⟩ := h0.nz
      exact ⟨_, List.mem_map.mpr ⟨x, hx, rfl⟩, by omega⟩
    refine sq_asgT (R := fun d => d = rD r0) (Ed.er (ed_ixL (ec_var rfl) ed_int (by
      have := ixN_nat (n := (List.map rD (r0 :: ks')).length) (i := 0) (by simp)
      unfold atI
      rw [show (0 : Int) = ((0 : Nat) : Int) from rfl, this]; rfl)) rfl) fun d e => by
      subst e
      refine ⟨_, _, tg_names2 (of_decide_eq_true rfl) (of_decide_eq_true rfl), ?_⟩
      refine sd_append (R := fun d => ∃ b : Int, d = rD (leastR (r0.1.map fun x => 0 - x) b) ∧ b.natAbs < 2 ^ 40) k rfl (er_call (PL := fun ds => ∃ b : Int, ds = [.lst ((r0.1.map fun x => 0 - x).map Dt.int), .int b] ∧ b.natAbs < 2 ^ 40) k (ear_cons (PR := fun _ => True) ((Ef.ed (ef_lcAll r0.1 Dt.int (fun x => .int (0 - x)) k (YlG.yl (yg_tup (ed_var rfl))) (by omega) fun x hx => ⟨_, _, tg_name (of_decide_eq_true rfl), by simp, ed_op ed_int (ed_var rfl) od_I0⟩)).to (z := .lst ((r0.1.map fun x => 0 - x).map Dt.int)) (by rw [List.map_map]; rfl)) fun d1 e1 => ear_cons (PR := fun _ => True) (P1 := fun d => ∃ b : Int, d = .int b ∧ b.natAbs < 2 ^ 40) (er_op (P1 := fun d => d = .int (0 - r0.2)) (P2 := fun _ d => ∃ r : Int, d = .int r ∧ 0 ≤ r ∧ r < 2) (ed_op ed_int (ed_var rfl) od_I0) (fun _ _ => er_draw hold (ea_cons (ed_var rfl) (ea_cons ed_int ea_nil)) (by decide) fun r h0 h1 => ⟨r, rfl, h0, h1⟩) fun x y e1 ⟨r, e2, h0, h1⟩ => by
        subst e1 e2
        exact ⟨_, od_I0, _, rfl, by omega⟩) fun d2 ⟨b, e2, hb⟩ => Ear.imp ear_nil fun ds e => by subst e1 e2 e; exact ⟨b, rfl, hb⟩) fun ds ⟨b, e, hb⟩ => ⟨(r0.1.map fun x => 0 - x, b), e, ⟨by show (r0.1.map fun x => 0 - x).length ≤ 900; rw [List.length_map]; omega, LL.up (by decide), LZ⟩, fun d e => ⟨b, e, hb⟩⟩) (by simp at hk1 ⊢; omega) fun d ⟨b, e, hb⟩ => ⟨(r0 :: ks') ++ [leastR (r0.1.map fun x => 0 - x) b], some (.sh (inD r0.1)), some (.sh (.int r0.2)), by simp at hk1 ⊢; omega, fun s hs => ?_, by subst e; simp⟩
      rcases List.mem_append.mp hs with z | z
      · exact (hk s z).up (by decide)
      · rw [List.mem_singleton.mp z]
        have e : (r0.1.map fun x => 0 - x).length = n := by rw [List.length_map, hl0]
        rw [← e]
        exact least_row LZ fun v hv => by
          rcases List.mem_cons.mp hv with e | e
          · rw [e]; exact hb
          · exact LL v e
  rintro δ'' ⟨ks, q1, q2, hk1, hk, rfl⟩
  refine sq_asgOE (ef_lst k ea_nil (by simp)) (of_decide_eq_true rfl) ?_
  refine sq_forR k (yg_listF (sorted_rows (l := ks) k (ec_var rfl))) (fun es i δ => ∃ ms : List Row, es = ms.map rD ∧ ms.Perm ks ∧ (ms.Pairwise fun x y => dLt (rD y) (rD x) = false) ∧ ∃ rs : List Row, (rs.Pairwise (fun a b => dLt (rD a) (rD b) = true) ∧ (∀ r, r ∈ rs ↔ r ∈ ms.take i) ∧ rs.length ≤ i) ∧ ∃ q9, δ = [some (.sh (.adr a)), some (.sh (.int (n : Nat))), some (.sh (.int (j : Nat))), some (.own (ks.map rD)), q, q1, q2, none, some (.own (rs.map rD)), q9]) ?_ ?_ ?_
  · rintro es ⟨ms, e, h1, h2⟩
    exact ⟨ms, e, h1, h2, [], ⟨List.Pairwise.nil, by simp, by simp⟩, _, rfl⟩
  · rintro es i d δ' _ hd ⟨ms, rfl, h1, h2, rs, ⟨hs, hm, hn⟩, q9, rfl⟩
    obtain ⟨r, hr, rfl⟩ := map_at hd
    have hi := (List.getElem?_eq_some_iff.mp hr).1
    have hlen := h1.length_eq
    obtain ⟨s1, s2⟩ := kept_step h2 hr hs hm hn
    refine ⟨_, _, tg_name (of_decide_eq_true rfl), ?_⟩
    refine sd_if (et_test ((ed_notInL (ed_var rfl) (ec_var rfl) (pl_rD r) (plA_rows rs) (by rw [dep_rD]; decide) (Nat.le_trans (depA_rows rs) (by decide))).to (by rw [any_rows]))) (fun h => ?_) (fun h => ?_)
    · have hnr : r ∉ rs := by simpa using h
      refine sd_append (R := fun d => d = rD r) k rfl (ed_var rfl) (by simp; omega) fun d e => ?_
      subst e
      exact ⟨ms, rfl, h1, h2, rs ++ [r], s1 hnr, _, by rw [List.map_append]; rfl⟩
    · have hir : r ∈ rs := by simpa using h
      exact sd_next ⟨ms, rfl, h1, h2, rs, ⟨hs, s2 hir, by omega⟩, _, rfl⟩
  · rintro es δ' _ ⟨ms, rfl, h1, h2, rs, ⟨hs, hm, hn⟩, q9, rfl⟩
    rw [List.length_map, List.take_length] at hm
    rw [List.length_map] at hn
    have hn2 : rs.length ≤ ks.length := by rw [← h1.length_eq]; exact hn
    exact sd_ret (er_tupleC k (ec_var rfl) ⟨rs, rfl, ⟨by omega, fun r hr => (hk r (h1.mem_iff.mp ((hm r).mp hr))).ok (by decide), pair_next hs⟩, by omega⟩)

theorem sc__law_rows : FnScope N__law_rows ["_law_heap_here", "_law_size"] (defScope s__law_rows) := ⟨rfl, rfl, rfl, by decide +kernel, rfl, by decide +kernel, by decide +kernel⟩
section
variable {P : Program} {w : World} {K : PySem.W.Frag} {mg : Str → Option Value} {base : Heap}
theorem b__law_rows (T : Fx K mg) : Binds K T.f__law_rows.fd ["_law_heap_here", "_law_size"] [] := T.f__law_rows.F.bindsN fun _ _ _ _ _ _ us hl => match us, hl with | [_, _], _ => rfl
theorem d__law_rows (T : Fx K mg) {cdv : Value} {A : Around} {outer : List Env} {s : Shared} {H : Hp} {E : XK} (hr : Room 3 (A.deeper (envOfC "_law_rows" (defScope s__law_rows) s.heap.objs.size T.f__law_rows.f cdv))) : PSs (cxOf CX0 P w K mg base N__law_rows "_law_rows" (defScope s__law_rows) T.f__law_rows.f cdv A outer s H E).nox (defBody s__law_rows) (t__law_rows K T.C T.R) :=
  have nd := sc__law_rows.nd
  (pss_cons (ps_par (i := 2) (j := 3) rfl nd rfl rfl (by decide) rfl rfl (pa_cons (pe_call (ok__law_pick T) (hr.mono (by decide)) rfl T.f__law_pick.g T.f__law_pick.F.kp (b__law_pick T) .nil pass0 (pa_cons (pv 0) (pa_cons (pe_lst (pa_cons pe_int (pa_cons pe_int (pa_cons pe_int (pa_cons pe_int (pa_cons pe_int (pa_cons pe_int (pa_cons pe_int (pa_cons pe_int pa_nil))))))))) pa_nil))) (pa_cons (pe_lst pa_nil) pa_nil)) rfl)
  (pss_cons (ps_if (pt_cmpR op_eq (pv 2) pe_int (nomark _)) (pss_one (ps_set (i := 3) nd rfl (by first | exact Or.inl rfl | exact Or.inr rfl) (pe_call (ok__law_chain T) (hr.mono (by decide)) rfl T.f__law_chain.g T.f__law_chain.F.kp (b__law_chain T) .nil pass0 (pa_cons (pv 0) (pa_cons (pv 1) pa_nil))))) pss_nil)
  (pss_cons (ps_for PassesOwn.never rfl (pi_range1 rfl T.b_range (pa_cons (pe_op op_sub (pe_ix ix_list (pe_lst (pa_cons pe_int (pa_cons pe_int (pa_cons pe_int (pa_cons pe_int (pa_cons pe_int pa_nil)))))) (pv 2) (fun _ _ => rfl)) (pe_callTy o_int1 rfl T.b_int boot_int (pa_cons (pe_cmpR op_eq (pv 1) pe_int (nomark _)) pa_nil))) pa_nil)) (pg_name (i := 4) nd rfl (by first | exact Or.inl rfl | exact Or.inr rfl)) (pss_one (ps_expr (pe_bm PySem.F.plainAttrs_list PySem.F.slot_list_append PySem.F.type_list_append mt_append (pv 3) (pa_cons (pe_call (ok__law_row T) (hr.mono (by decide)) rfl T.f__law_row.g T.f__law_row.F.kp (b__law_row T) .nil pass0 (pa_cons (pv 0) (pa_cons (pv 1) (pa_cons (pe_ifExp (pt_cmpR op_eq (pv 2) pe_int (nomark _)) (pe_op op_pow pe_int pe_int) pe_int) pa_nil)))) pa_nil)))))
  (pss_cons (ps_if (pt_cmpR op_eq (pv 2) pe_int (nomark _)) (pss_cons (ps_asg (pe_ix ix_list (pv 3) pe_int (fun _ _ => rfl)) (pg_tup rfl (pgs_cons (pg_name (i := 5) nd rfl (by first | exact Or.inl rfl | exact Or.inr rfl)) (pgs_cons (pg_name (i := 6) nd rfl (by first | exact Or.inl rfl | exact Or.inr rfl)) pgs_nil))))
  (pss_one (ps_expr (pe_bm PySem.F.plainAttrs_list PySem.F.slot_list_append PySem.F.type_list_append mt_append (pv 3) (pa_cons (pe_call (ok__law_least T) (hr.mono (by decide)) rfl T.f__law_least.g T.f__law_least.F.kp (b__law_least T) .nil pass0 (pa_cons (pe_lc (own := [("_law_part", 7)]) (g := (gName 7)) (tt := tYes) rfl nd (pi_tup (pv 5)) (blkOk_by (by kernel_rfl)) (fun _ _ _ _ _ => (pg_name (i := 7) nd rfl (by first | exact Or.inl rfl | exact Or.inr rfl))) (fun _ _ _ _ _ => pts_nil) (fun _ _ _ _ _ => (pe_op op_sub pe_int (pv 7)))) (pa_cons (pe_op op_add (pe_op op_sub pe_int (pv 6)) (pe_call (ok__law_draw T) (hr.mono (by decide)) rfl T.f__law_draw.g T.f__law_draw.F.kp (b__law_draw T) .nil pass0 (pa_cons (pv 0) (pa_cons pe_int pa_nil)))) pa_nil))) pa_nil))))) pss_nil)
  (pss_cons (ps_set (i := 8) nd rfl (by first | exact Or.inl rfl | exact Or.inr rfl) (pe_lst pa_nil))
  (pss_cons (ps_for PassesOwn.never rfl (pi_list (pe_callB (callSortD (hu100 hr)) rfl T.b_sorted boot_sorted (pa_cons (pv 3) pa_nil))) (pg_name (i := 9) nd rfl (by first | exact Or.inl rfl | exact Or.inr rfl)) (pss_one (ps_if (pt_cmpR (op_notInD (hu65 hr)) (pv 9) (pv 8) rfl) (pss_one (ps_expr (pe_bm PySem.F.plainAttrs_list PySem.F.slot_list_append PySem.F.type_list_append mt_append (pv 8) (pa_cons (pv 9) pa_nil)))) pss_nil)))
  (pss_one (ps_ret (pe_callTy call_tuple_of rfl T.b_tuple boot_tuple (pa_cons (pv 8) pa_nil))))))))))
theorem ok__law_rows (T : Fx K mg) : FnOk P w K mg base CX0 4 T.f__law_rows.f T.f__law_rows.fd ["_law_heap_here", "_law_size"] (sp__law_rows T.C) :=
  T.f__law_rows.F.ok sc__law_rows (fun vs H Q E ⟨A, a, c, x, _, _, _, _, r, _⟩ => by rw [r.length]; rfl) fun cdv A outer s H vs Q E hr h => ⟨t__law_rows K T.C T.R, PSs.nox (d__law_rows T hr), run_I K h fun W k a c hold x hC hK hp => by subst hK; rw [← hC]; exact sd__law_rows W k T.R a c hold x hp⟩
end
end DL
/-! comprehensions over what is not known beforehand; names -/
namespace DL
open PySem PySem.Spec PyProof.Rows L2 Hd
def YlR (W : Wd) (wi : TI) (δ : Dl) (PL : List Dt → Prop) : Prop := ∀ (g : Gh W) (O : Addr → Prop) (σ : L2.St) (H : Hp), SR W g O H σ δ → ∀ R : It → Hp → Prop,
  (∀ J H1 ds, PL ds → Fr W H H1 → W.I H1 → (∀ D, H1 D = none → ∃ G : Hp → Prop, G (upd H1 D (.lst [])) ∧ (∀ H2 H3, G H2 → (∀ a o, ¬ W.N a → a ≠ D → H2 a = some o → H3 a = some o) → G H3) ∧ Wk W (fun a => O a ∨ a = D) J ds G) → R J H1) → wi σ H R
section
variable {W : Wd} {g : Gh W} {O : Addr → Prop} {H H' : Hp} {σ : L2.St} {δ : Dl} {te : TE} {wi : TI} {gt : TG} {tt : TT} {vs : List Nat} {ds : List Dt} {ta : TA}
theorem efr_lcR {PL : List Dt → Prop} (k : W.Ok) (hy : YlR W wi δ PL) (hz' : ∀ ds, PL ds → ds.length ≤ 100000) (Inv : Nat → List Dt → Prop) (h0 : Inv 0 [])
    (hs' : ∀ (ds : List Dt), PL ds → ∀ (i : Nat) (d : Dt) (acc : List Dt), ds[i]? = some d → Inv i acc → ∃ δ2 js b, Tg W gt d (wipeD δ vs) δ2 js ∧ (∀ j, j ∈ js → j ∈ vs) ∧ Et W tt δ2 b ∧ (b = true → Er W te δ2 fun e => Inv (i + 1) (acc ++ [e])) ∧ (b = false → Inv (i + 1) acc)) :
    Efr W (tLc wi gt tt te vs) δ (fun es => ∃ ds, PL ds ∧ Inv ds.length es) := fun g O σ H S Q q => hy g O σ H S _ fun J H1 ds hPL f1 i1 hG D hD => by
  have hz := hz' ds hPL
  have hs := hs' ds hPL
  obtain ⟨G, G0, Gst, wk⟩ := hG D hD
  have S1 := S.step f1 i1
  have nD : H D = none := by
    cases e : H D with
    | none => rfl
    | some o =>
      by_cases hN : W.N D
      · exact absurd hD (W.dom H1 D i1 (W.sub D hN))
      · rw [f1 D o hN e] at hD; cases hD
  have nAD : ¬ W.A D := fun z => W.dom H1 D i1 z hD
  have nND : ¬ W.N D := fun z => nAD (W.sub D z)
  -- the state at a turn
  let Pv : Nat → Hp → Prop := fun i Hi => ∃ acc es, Hi D = some (.lst acc) ∧ Reps W.C (W.M fun a => O a ∨ a = D) Hi acc es ∧ es.length ≤ i ∧ Inv i es ∧ G Hi ∧ (∀ a o, ¬ W.N a → a ≠ D → H1 a = some o → Hi a = some o) ∧ W.I Hi
  have up1 : ∀ {Hi : Hp} {acc old : List V}, W.I Hi → Hi D = some (.lst old) → W.I (upd Hi D (.lst acc)) := fun {Hi acc old} hI hh => k.keep Hi _ hI (fun a o hN e => by
    have ne : a ≠ D := fun z => by
      rcases hN with hN | hN
      · exact nND (by rw [← z]; exact hN)
      · rw [z, hh] at e
        exact hN _ (Option.some.inj e).symm
    rw [upd_ne ne]; exact e) fun a hA z => by
    rw [upd_ne (fun z => nAD (by rw [← z]; exact hA))] at z
    exact W.dom Hi a hI hA z
  have iU : W.I (upd H1 D (.lst [])) := k.all i1 fun a o e => by rw [upd_ne (ne_of_none e hD)]; exact e
  have w : Walk J ds.length (fun Hi => G Hi) (fun i Hi x H' => (W.I Hi → (∀ a, (O a ∨ a = D) → ¬ W.A a ∧ Hi a ≠ none) → (∀ a o, Hi a = some o → H' a = some o) ∧ ∃ d, ds[i]? = some d ∧ Rep W.C (W.M fun a => O a ∨ a = D) H' x d)) :=
    ⟨fun i Hi hi q => wk.goes i Hi hi q, fun Hi q => wk.stops Hi q, fun i Hi x H' hi q y hI hO => wk.yields i Hi x H' hi hI hO q y⟩
  refine lc_it w Pv ⟨[], [], upd_same, .nil, Nat.le_refl _, h0, G0, fun a o _ ne e => by rw [upd_ne ne]; exact e, iU⟩ (fun i Hi _ p => let ⟨_, _, _, _, _, _, b, _⟩ := p; b) (fun i x Hi H' hi p y => ?_) (fun Hi p => ?_)
  · obtain ⟨acc, es, hDi, rs, hle, hInv, hGi, fr, hI⟩ := p
    have oA : ∀ a, (O a ∨ a = D) → ¬ W.A a ∧ Hi a ≠ none := fun a h => by
      rcases h with h | h
      · refine ⟨(S1.oA a h).1, fun z => ?_⟩
        cases e : H1 a with
        | none => exact (S1.oA a h).2 e
        | some o => rw [fr a o (S1.own_n h) (ne_of_none e hD) e] at z; cases z
      · subst h
        exact ⟨nAD, by rw [hDi]; simp⟩
    obtain ⟨ex, d, hd, rx⟩ := y hI oA
    have hI' : W.I H' := k.all hI ex
    -- the state of the outer slots, here
    have key : ∀ a o, ¬ W.M O a → H1 a = some o → ¬ W.M (fun a => O a ∨ a = D) a ∧ H' a = some o := fun a o na e => by
      have ne : a ≠ D := ne_of_none e hD
      refine ⟨fun z => ?_, ex a o (fr a o (fun z => na (.inl (W.sub a z))) ne e)⟩
      rcases z with z | z | z
      · exact na (.inl z)
      · exact na (.inr z)
      · exact ne z
    have SS : SR W Gh.tt (fun a => O a ∨ a = D) H' σ δ := by
      refine ⟨S1.len, fun k e h => let ⟨v, h1, r⟩ := S1.sh k e h; ⟨v, h1, r.mono key⟩, fun k fs h => ?_, S1.dis, fun a h => ⟨(oA a h).1, fun z => ?_⟩, True.intro, hI', fun a h => ?_⟩
      · obtain ⟨q, ys, e, o, hq, r⟩ := S1.own k fs h
        exact ⟨q, ys, e, .inl o, ex q _ (fr q _ (S1.own_n o) (ne_of_none hq hD) hq), r.mono key⟩
      · cases e : Hi a with
        | none => exact (oA a h).2 e
        | some o => rw [ex a o e] at z; cases z
      · rcases h with h | h
        · obtain ⟨ys, e⟩ := S1.oL a h
          exact ⟨ys, ex a _ (fr a _ (S1.own_n h) (ne_of_none e hD) e)⟩
        · subst h
          exact ⟨acc, ex _ _ hDi⟩
    have SW := SS.wipe (vs := vs)
    obtain ⟨δ2, js, b, tg, hjs, het, hT, hF⟩ := hs i d es hd hInv
    refine tg _ _ _ _ _ SW rx _ fun σ2 S2 l2 ag => ⟨?_, ?_⟩
    · have l : (L2.wipe σ vs).length = σ.length := wipe_length σ vs
      exact wipe_ext (l2.trans l) fun i hi => by rw [ag i (fun z => hi (hjs i z)), wipe_at hi]
    · refine het _ _ _ _ S2 _ fun H3 f3 i3 => ?_
      have dD : H3 D = some (.lst acc) := f3 D _ nND (ex D _ hDi)
      have mv : ∀ {Hx : Hp}, Fr W H' Hx → ∀ a o, ¬ W.N a → a ≠ D → H1 a = some o → Hx a = some o := fun {Hx} f a o nN ne e => f a o nN (ex a o (fr a o nN ne e))
      have gx : ∀ {Hx : Hp}, Fr W H' Hx → G Hx := fun {Hx} f => Gst Hi Hx hGi fun a o nN _ e => f a o nN (ex a o e)
      have rs' : Reps W.C (W.M fun a => O a ∨ a = D) H' acc es := rs.mono fun a o n e => ⟨n, ex a o e⟩
      cases b with
      | false => exact ⟨acc, es, dD, rs'.fr f3, Nat.le_succ_of_le hle, hF rfl, gx f3, mv f3, i3⟩
      | true =>
        refine hT rfl _ _ _ _ (S2.step f3 i3) _ fun y H4 e f4 i4 hI4 ry => ⟨acc, f4 D _ nND dD, ?_, ?_⟩
        · have := rs.length
          have := (List.getElem?_eq_some_iff.mp hd).1
          exact Nat.lt_of_le_of_lt (show acc.length ≤ 100000 by omega) (by decide)
        · have f34 := f3.trans f4
          have up : ∀ a o, ¬ W.M (fun a => O a ∨ a = D) a → H4 a = some o → ¬ W.M (fun a => O a ∨ a = D) a ∧ upd H4 D (.lst (acc ++ [y])) a = some o := fun a o n e => ⟨n, by rw [upd_ne (fun z => n (.inr (.inr z)))]; exact e⟩
          refine ⟨acc ++ [y], es ++ [e], upd_same, ((rs'.fr f34).append (.cons ry .nil)).mono up, by simp; omega, hI4, Gst H4 _ (gx f34) fun a o _ ne e => by rw [upd_ne ne]; exact e, fun a o nN ne e => by rw [upd_ne ne]; exact mv f34 a o nN ne e, up1 i4 (f34 D _ nND (ex D _ hDi))⟩
  · obtain ⟨acc, es, hDi, rs, hle, hInv, hGi, fr, hI⟩ := p
    refine q D acc Hi es (fun a o nN e => ?_) hI ⟨ds, hPL, by have : ds.length = ds.length := rfl; exact hInv⟩ nD hDi rs
    have ne : a ≠ D := ne_of_none e nD
    exact fr a o nN ne (f1 a o nN e)

/-- range(what is drawn) -/
theorem yl_range1R {p : Int → Prop} (h : Ear W ta δ fun ds => ∃ n : Int, ds = [.int n] ∧ p n) (hp : ∀ n, p n → -100000 ≤ n ∧ n ≤ 100000) : YlR W (iRng1 ta) δ fun ds => ∃ n : Int, p n ∧ ds = (List.range n.toNat).map fun k => Dt.int ((k : Nat) : Int) := fun g O σ H S R q => h g O σ H S _ fun vs H1 ds f i ⟨n, e, hn⟩ r => by
  subst e
  have hb := hp n hn
  cases r with
  | cons r rr =>
    cases r
    cases rr
    have e0 : ((List.range n.toNat).map fun k => Dt.int ((k : Nat) : Int)) = (List.range n.toNat).map fun k => Dt.int (0 + ((k : Nat) : Int)) := by simp
    exact ⟨n, rfl, by omega, by omega, q _ H1 _ ⟨n, hn, rfl⟩ f i fun D hD => ⟨fun _ => True, True.intro, fun _ _ _ _ => True.intro, by rw [e0]; exact wk_range⟩⟩
end
end DL
namespace DL
open PySem PySem.Spec PyProof.Rows L2 Hd
/-! ### _law_names -/
abbrev sp__law_names (C : Addr) : Sp := spI C (G := Nat) (fun n => [.int (n : Nat)]) (fun n => 1 ≤ n ∧ n ≤ 6) (fun n d => ∃ ns : List Str, d = namesD ns ∧ namesOk ns ∧ ns.length = n)

abbrev N__law_names : List Str := ["_law_heap_here", "_law_size", "_law_letters", "_law_first", "_law_front", "_law_turn"]
def t__law_names (K : PySem.W.Frag) (C R : Addr) : TS := (tSeq (tAsg (tTup (tCons (tC (.str "abcdefghijklmnopqrstuvwxyz")) (tCons (tCall (sp__law_draw C) [] E0 (tCons (tVar 0) (tCons (tC (.int 26)) tNil))) tNil))) (gTup K 2 (gCons (gName 2) (gCons (gName 3) gNil))))
  (tSeq (tAsg (tM1 (rJoin K) (tC (.str "")) (tLc (iRng1 (tCons (tCall (sp__law_draw C) [] E0 (tCons (tVar 0) (tCons (tC (.int 4)) tNil))) tNil)) (gName 5) tYes (tOp rIxS (tVar 2) (tCall (sp__law_draw C) [] E0 (tCons (tVar 0) (tCons (tC (.int 26)) tNil)))) [5])) (gName 4))
  (tRet (tCB (rTuple K) (tCons (tCB (rSortD K) (tCons (tLc (iRng1 (tCons (tVar 1) tNil)) (gName 5) tYes (tOp rAddS (tOp rAddS (tVar 4) (tOp rIxS (tVar 2) (tOp rMod (tCB rInt1 (tCons (tOp rAdd (tVar 3) (tOp rMulW (tC (.int 5)) (tVar 5))) tNil)) (tC (.int 26))))) (tOp rMulS (tC (.str "q")) (tCall (sp__law_draw C) [] E0 (tCons (tVar 0) (tCons (tC (.int 2)) tNil))))) [5]) tNil)) tNil)))))
theorem efr_sortedR {W : Wd} {δ : Dl} {ta : TE} {PL : List Dt → Prop} (k : W.Ok) (ha : Efr W ta δ PL) (h : ∀ ds, PL ds → plA ds = true ∧ depA ds ≤ 64 ∧ (∀ d ∈ ds, ∀ e ∈ ds, alk d e = true) ∧ ((∀ d ∈ ds, ∃ x r, d = .tup (x :: r)) ∨ ∀ d ∈ ds, ∃ s, d = .str s)) :
    Efr W (tCB (rSortD W.K) (tCons ta tNil)) δ fun es => ∃ ds, PL ds ∧ es.Perm ds ∧ es.Pairwise fun x y => dLt y x = false := fun g O σ H S Q q => ha g O σ H S _ fun p xs H1 ds f i y n hp r => by
  obtain ⟨h1, h2, h3, h4⟩ := h ds y
  have S1 := S.pushOwn n f i hp r
  have hlen := S.len
  have E := efr_sorted (W := W) (δ := δ ++ [some (.own ds)]) (ta := tVar δ.length) k (ec_var (by simp)) h1 h2 h3 h4
  obtain ⟨v, ev, hv⟩ := E g _ _ H1 S1 Q fun p2 ys H2 es f2 i2 ⟨e1, e2⟩ n2 hp2 r2 => q p2 ys H2 es (f.trans f2) i2 ⟨ds, y, e1, e2⟩ (back_none f i n2) hp2 (r2.mono fun a o na e => ⟨fun z => na (by
    rcases z with z | z | z
    · exact .inl z
    · exact .inr (.inl (.inl z))
    · exact .inr (.inr z)), e⟩)
  rw [← hlen, List.getElem?_append_right (Nat.le_refl _)] at ev
  simp only [Nat.sub_self, List.getElem?_cons_zero, Option.some.injEq] at ev
  subst ev
  exact hv
theorem strs_of {p : Nat → Str → Prop} : ∀ {es : List Dt}, (∀ (i : Nat) (e : Dt), es[i]? = some e → ∃ v, e = .str v ∧ p i v) → ∃ ns : List Str, es = ns.map Dt.str ∧ ∀ (i : Nat) (v : Str), ns[i]? = some v → p i v := fun {es} h => by
  induction es generalizing p with
  | nil => exact ⟨[], rfl, fun i v hv => by simp at hv⟩
  | cons e es ih =>
    obtain ⟨v, e1, pv⟩ := h 0 e rfl
    obtain ⟨ns, e2, hp⟩ := ih (p := fun i => p (i + 1)) fun i e he => h (i + 1) e he
    refine ⟨v :: ns, by rw [e1, e2]; rfl, fun i u hu => ?_⟩
    cases i with
    | zero =>
      simp only [List.getElem?_cons_zero, Option.some.injEq] at hu
      rw [← hu]; exact pv
    | succ i => exact hp i u (by simpa using hu)
theorem join_cps : ∀ ys : List Str, (Txt.join "" ys).cps.toList = (ys.map fun y => y.cps.toList).flatten := fun ys => by
  show (Builtin.Str.glued "" ys).cps.toList = _
  rw [StrLaws.glued_eq_join]
  have z : ("" : Str).cps.toList = [] := by decide
  induction ys with
  | nil => decide
  | cons x l ih =>
    cases l with
    | nil => simp [PySem.Str.join]
    | cons y r =>
      show (x ++ "" ++ PySem.Str.join "" (y :: r)).cps.toList = _
      rw [PySem.Str.cps_append, PySem.Str.cps_append, Array.toList_append, Array.toList_append, z, ih]
      simp
theorem let_at : ∀ r : Nat, r < 26 → atI LET.cps.toList (r : Int) = some (97 + r) := by decide +kernel
theorem let_mem : ∀ r : Nat, r < 26 → 97 + r ∈ LET.cps.toList := by decide +kernel
theorem let_q : 113 ∈ LET.cps.toList := by decide +kernel
theorem let_lt : ∀ c ∈ LET.cps.toList, c < 0x110000 := by decide +kernel
theorem let_len : LET.length = 26 := by decide +kernel
/-- one of the names -/
def NP (f : List Nat) (a : Nat) (i : Nat) (s : Str) : Prop := ∃ q : List Nat, s.cps.toList = f ++ (97 + (a + 5 * i) % 26) :: q ∧ q.length ≤ 1 ∧ ∀ c ∈ q, c = 113
theorem NP.ok {f : List Nat} {a i : Nat} {s : Str} (h : NP f a i s) (hf : f.length ≤ 3) (hl : ∀ c ∈ f, c ∈ LET.cps.toList) : nameOk s := by
  obtain ⟨q, e, h1, h2⟩ := h
  have hlen : s.length = f.length + (q.length + 1) := by
    show s.cps.size = _
    rw [← Array.length_toList, e, List.length_append, List.length_cons]
  refine ⟨by omega, by omega, fun c hc => ?_⟩
  rw [e] at hc
  rcases List.mem_append.mp hc with z | z
  · exact hl c z
  · rcases List.mem_cons.mp z with z | z
    · rw [z]; exact let_mem _ (Nat.mod_lt _ (by decide))
    · rw [h2 c z]; exact let_q
theorem NP.ne {f : List Nat} {a i j : Nat} {s t : Str} (h : NP f a i s) (h' : NP f a j t) (hi : i < 6) (hj : j < 6) (hij : i ≠ j) : s ≠ t := fun e => by
  obtain ⟨q, e1, _⟩ := h
  obtain ⟨q', e2, _⟩ := h'
  rw [e, e2] at e1
  have := List.append_cancel_left e1
  simp only [List.cons.injEq] at this
  omega
theorem strOk_of {s : Str} (h : nameOk s) : PyData.strOk s = true := by
  unfold PyData.strOk
  rw [← Array.all_toList, List.all_eq_true]
  intro c hc
  exact decide_eq_true (let_lt c (h.2.2 c hc))
theorem sd__law_names (W : Wd) (k : W.Ok) (R : Addr) (a c : Addr) (hold : Hold W a c) (n : Nat) (hp : 1 ≤ n ∧ n ≤ 6) : Sd W (t__law_names W.K W.C R) (startD N__law_names.length [.adr a, .int (n : Nat)]) { rt := fun d => ∃ ns : List Str, d = namesD ns ∧ namesOk ns ∧ ns.length = n, nx := fun _ => ∃ ns : List Str, Dt.non = namesD ns ∧ namesOk ns ∧ ns.length = n } := by
  refine sq_parT k (eam_shE (d := .str LET) ed_str (eam_sh (R := fun d => ∃ r : Nat, d = .int (r : Nat) ∧ r < 26) (er_draw hold (ea_cons (ed_var rfl) (ea_cons ed_int ea_nil)) (by decide) fun r h0 h1 => ⟨r.toNat, by rw [Int.toNat_of_nonneg h0], by omega⟩) fun d ⟨fi, e, hfi⟩ => eam_nil ⟨_, _, rfl, ?_⟩))
  subst e
  refine sq_asg (R := fun d => ∃ s : Str, d = .str s ∧ s.length ≤ 3 ∧ ∀ c ∈ s.cps.toList, c ∈ LET.cps.toList) (er_join (PL := fun es => ∃ ds : List Dt, (∃ m : Int, (0 ≤ m ∧ m < 4) ∧ ds = (List.range m.toNat).map fun k => Dt.int ((k : Nat) : Int)) ∧ ∃ cs : List Nat, es = (cs.map fun c => (⟨#[c]⟩ : Str)).map Dt.str ∧ cs.length = ds.length ∧ ∀ c ∈ cs, c ∈ LET.cps.toList) ed_str (efr_lcR (PL := fun ds => ∃ m : Int, (0 ≤ m ∧ m < 4) ∧ ds = (List.range m.toNat).map fun k => Dt.int ((k : Nat) : Int)) k (yl_range1R (p := fun m => 0 ≤ m ∧ m < 4) (ear_cons (PR := fun _ => True) (P1 := fun d => ∃ m : Int, d = .int m ∧ 0 ≤ m ∧ m < 4) (er_draw hold (ea_cons (ed_var rfl) (ea_cons ed_int ea_nil)) (by decide) fun r h0 h1 => ⟨r, rfl, h0, h1⟩) fun d ⟨m, e, hm⟩ => Ear.imp ear_nil fun ds e2 => by subst e e2; exact ⟨m, rfl, hm⟩) (fun m hm => by omega)) (fun ds ⟨m, hm, e⟩ => by subst e; simp; omega) (fun i es => ∃ cs : List Nat, es = (cs.map fun c => (⟨#[c]⟩ : Str)).map Dt.str ∧ cs.length = i ∧ ∀ c ∈ cs, c ∈ LET.cps.toList) ⟨[], rfl, rfl, by simp⟩ fun ds hds i d acc hd ⟨cs, e1, e2, e3⟩ => ⟨_, _, true, tg_name (of_decide_eq_true rfl), by simp, et_yes, fun _ => ?_, fun z => by cases z⟩) fun es ⟨ds, ⟨m, hm, ed⟩, cs, e1, e2, e3⟩ => ?_) (of_decide_eq_true rfl) fun d ⟨s, e, hs1, hs2⟩ => ?_
  · refine er_op (P1 := fun d => d = .str LET) (P2 := fun _ d => ∃ r : Nat, d = .int (r : Nat) ∧ r < 26) (ed_var rfl) (fun _ _ => er_draw hold (ea_cons (ed_var rfl) (ea_cons ed_int ea_nil)) (by decide) fun r h0 h1 => ⟨r.toNat, by rw [Int.toNat_of_nonneg h0], by omega⟩) fun x y ex ⟨r, ey, hr⟩ => ?_
    subst ex ey
    refine ⟨_, od_ixS (by rw [let_len]; decide) (let_at r hr), cs ++ [97 + r], by subst e1; simp, by simp [e2], fun c hc => ?_⟩
    rcases List.mem_append.mp hc with z | z
    · exact e3 c z
    · rw [List.mem_singleton.mp z]; exact let_mem r hr
  · have hm3 : cs.length ≤ 3 := by rw [e2, ed]; simp; omega
    have ej : (Txt.join "" (cs.map fun c => (⟨#[c]⟩ : Str))).cps.toList = cs := by
      rw [join_cps, List.map_map]
      clear e1 e2 e3 hm3
      induction cs with
      | nil => rfl
      | cons c l ih => simp only [List.map_cons, List.flatten_cons, ih]; rfl
    refine ⟨_, e1, ?_, _, rfl, ?_, ?_⟩
    · rw [List.map_map]
      have : ((cs.map ((fun x : Str => x.length) ∘ fun c => (⟨#[c]⟩ : Str)))).sum ≤ cs.length := by
        clear e1 e2 e3 hm3 ej
        induction cs with
        | nil => simp
        | cons c l ih => simp only [List.map_cons, List.sum_cons, List.length_cons, Function.comp]; have : (⟨#[c]⟩ : Str).length = 1 := rfl; omega
      have z : ("" : Str).length = 0 := by decide
      rw [z]; omega
    · show (Txt.join "" (cs.map fun c => (⟨#[c]⟩ : Str))).cps.size ≤ 3
      rw [← Array.length_toList, ej]; exact hm3
    · rw [ej]; exact e3
  subst e
  have hz : ∀ es : List Dt, (es.length = ((List.range n).map fun i : Nat => Dt.int (i : Nat)).length ∧ ∀ i e, es[i]? = some e → ∃ v, e = .str v ∧ NP s.cps.toList fi i v) → ∃ ss : List Str, es = ss.map Dt.str ∧ ss.length = n ∧ ∀ (i : Nat) (v : Str), ss[i]? = some v → NP s.cps.toList fi i v := fun es ⟨h1, h2⟩ => by
    obtain ⟨ss, e, h3⟩ := strs_of h2
    refine ⟨ss, e, ?_, h3⟩
    rw [e] at h1
    simpa using h1
  have hok : ∀ ss : List Str, (∀ (i : Nat) (v : Str), ss[i]? = some v → NP s.cps.toList fi i v) → ∀ v ∈ ss, nameOk v := fun ss h v hv => by
    obtain ⟨i, hi, e⟩ := List.mem_iff_getElem.mp hv
    exact (h i v (by rw [List.getElem?_eq_getElem hi, e])).ok (by rw [Array.length_toList]; exact hs1) hs2
  refine sd_ret (er_tupleF k (efr_sortedR k (efr_lcAll (fun i e => ∃ v, e = .str v ∧ NP s.cps.toList fi i v) k (YlG.yl (yg_rangeN (n := n) (ea_cons (ed_var rfl) ea_nil) (by omega))) (by simp; omega) fun i d hd => ⟨_, _, tg_name (of_decide_eq_true rfl), by simp, ?_⟩) fun es h => ?_) fun es ⟨ds, h, hperm, hsort⟩ => ?_)
  · have hi : i < n := by have := (List.getElem?_eq_some_iff.mp hd).1; simpa using this
    rw [List.getElem?_map, List.getElem?_range hi] at hd
    simp only [Option.map_some, Option.some.injEq] at hd
    subst hd
    have ei : ((fi : Int) + 5 * (i : Int)) % 26 = (((fi + 5 * i) % 26 : Nat) : Int) := by omega
    refine er_op (P1 := fun d => d = .str (s ++ ⟨#[97 + (fi + 5 * i) % 26]⟩)) (P2 := fun _ d => ∃ q : Str, d = .str q ∧ q.cps.toList.length ≤ 1 ∧ ∀ c ∈ q.cps.toList, c = 113) (ed_op (ed_var rfl) (ed_op (ed_var rfl) (ed_op (ed_cb (ea_cons (ed_op (ed_var rfl) (ed_op ed_int (ed_var rfl) (od_I (mul_ok (m := 10) (n := 10) (by decide) (by omega) (by decide)))) od_I0) ea_nil) cd_int) ed_int (od_I (by decide))) (od_ixS (by rw [let_len]; decide) (by rw [ei]; exact let_at _ (Nat.mod_lt _ (by decide))))) (od_addS (by have : (⟨#[97 + (fi + 5 * i) % 26]⟩ : Str).length = 1 := rfl; omega))) (fun _ _ => er_op (P1 := fun d => d = .str "q") (P2 := fun _ d => ∃ r : Int, d = .int r ∧ 0 ≤ r ∧ r < 2) ed_str (fun _ _ => er_draw hold (ea_cons (ed_var rfl) (ea_cons ed_int ea_nil)) (by decide) fun r h0 h1 => ⟨r, rfl, h0, h1⟩) fun x y e1 ⟨r, e2, h0, h1⟩ => ?_) fun x y e1 ⟨q, e2, h0, h1⟩ => ?_
    · subst e1 e2
      refine ⟨_, od_mulS h0 (by omega) (by decide), Txt.mul "q" r, rfl, ?_⟩
      have : r = 0 ∨ r = 1 := by omega
      rcases this with rfl | rfl <;> decide +kernel
    · subst e1 e2
      have hq1 : q.length ≤ 1 := by
        show q.cps.size ≤ 1
        rw [← Array.length_toList]; exact h0
      have hl1 : (s ++ ⟨#[97 + (fi + 5 * i) % 26]⟩ : Str).length = s.length + 1 := by
        show (s ++ ⟨#[97 + (fi + 5 * i) % 26]⟩ : Str).cps.size = s.cps.size + 1
        rw [PySem.Str.cps_append, Array.size_append]
        rfl
      refine ⟨_, od_addS (by omega), _, rfl, q.cps.toList, ?_, h0, h1⟩
      rw [PySem.Str.cps_append, PySem.Str.cps_append, Array.toList_append, Array.toList_append]
      simp
  · obtain ⟨ss, e, hl, hN⟩ := hz es h
    subst e
    refine ⟨plA_iff.mpr fun d hd => ?_, depA_le.mpr fun d hd => ?_, fun d hd e he => ?_, .inr fun d hd => ?_⟩
    · obtain ⟨v, hv, e⟩ := List.mem_map.mp hd
      rw [← e]
      exact strOk_of (hok ss hN v hv)
    · obtain ⟨v, hv, e⟩ := List.mem_map.mp hd
      rw [← e]
      exact Nat.zero_le _
    · obtain ⟨v, hv, e1⟩ := List.mem_map.mp hd
      obtain ⟨u, hu, e2⟩ := List.mem_map.mp he
      rw [← e1, ← e2]
      rfl
    · obtain ⟨v, hv, e⟩ := List.mem_map.mp hd
      exact ⟨v, e.symm⟩
  · obtain ⟨ss, e, hl, hN⟩ := hz ds h
    subst e
    obtain ⟨ts, k1, k2⟩ := PL.perm_map_of hperm
    subst k2
    have hnd : ss.Nodup := List.pairwise_iff_getElem.mpr fun i j hi hj hij => by
      exact (hN i _ (List.getElem?_eq_getElem hi)).ne (hN j _ (List.getElem?_eq_getElem hj)) (by omega) (by omega) (by omega)
    have hnd2 : ts.Nodup := k1.nodup_iff.mpr hnd
    have hlen : ts.length = n := by rw [k1.length_eq]; exact hl
    have hokt : ∀ v ∈ ts, nameOk v := fun v hv => hok ss hN v (k1.mem_iff.mp hv)
    refine ⟨ts, rfl, ⟨by omega, by omega, hokt, fun i u v hu hv => ?_⟩, hlen⟩
    obtain ⟨h1, e1⟩ := List.getElem?_eq_some_iff.mp hu
    obtain ⟨h2, e2⟩ := List.getElem?_eq_some_iff.mp hv
    rw [List.pairwise_map] at hsort
    have hs := List.pairwise_iff_getElem.mp hsort i (i + 1) h1 h2 (by omega)
    have hd := List.pairwise_iff_getElem.mp hnd2 i (i + 1) h1 h2 (by omega)
    rw [e1, e2] at hs hd
    have := dLt_strict (d := .str u) (e := .str v) (strOk_of (hokt u (List.mem_of_getElem? hu))) (strOk_of (hokt v (List.mem_of_getElem? hv))) rfl (fun z => hd (by injection z)) hs
    rw [dLt_str] at this
    exact of_decide_eq_true this

theorem sc__law_names : FnScope N__law_names ["_law_heap_here", "_law_size"] (defScope s__law_names) := ⟨rfl, rfl, rfl, by decide +kernel, rfl, by decide +kernel, by decide +kernel⟩
section
variable {P : Program} {w : World} {K : PySem.W.Frag} {mg : Str → Option Value} {base : Heap}
theorem b__law_names (T : Fx K mg) : Binds K T.f__law_names.fd ["_law_heap_here", "_law_size"] [] := T.f__law_names.F.bindsN fun _ _ _ _ _ _ us hl => match us, hl with | [_, _], _ => rfl
theorem d__law_names (T : Fx K mg) {cdv : Value} {A : Around} {outer : List Env} {s : Shared} {H : Hp} {E : XK} (hr : Room 1 (A.deeper (envOfC "_law_names" (defScope s__law_names) s.heap.objs.size T.f__law_names.f cdv))) : PSs (cxOf CX0 P w K mg base N__law_names "_law_names" (defScope s__law_names) T.f__law_names.f cdv A outer s H E).nox (defBody s__law_names) (t__law_names K T.C T.R) :=
  have nd := sc__law_names.nd
  (pss_cons (ps_asg (pe_tup (pa_cons pe_str (pa_cons (pe_call (ok__law_draw T) (hr.mono (by decide)) rfl T.f__law_draw.g T.f__law_draw.F.kp (b__law_draw T) .nil pass0 (pa_cons (pv 0) (pa_cons pe_int pa_nil))) pa_nil))) (pg_tup rfl (pgs_cons (pg_name (i := 2) nd rfl (by first | exact Or.inl rfl | exact Or.inr rfl)) (pgs_cons (pg_name (i := 3) nd rfl (by first | exact Or.inl rfl | exact Or.inr rfl)) pgs_nil))))
  (pss_cons (ps_set (i := 4) nd rfl (by first | exact Or.inl rfl | exact Or.inr rfl) (pe_join pe_str (pe_lc (own := [("_law_turn", 5)]) (g := (gName 5)) (tt := tYes) rfl nd (pi_range1 rfl T.b_range (pa_cons (pe_call (ok__law_draw T) (hr.mono (by decide)) rfl T.f__law_draw.g T.f__law_draw.F.kp (b__law_draw T) .nil pass0 (pa_cons (pv 0) (pa_cons pe_int pa_nil))) pa_nil)) (blkOk_by (by kernel_rfl)) (fun _ _ _ _ _ => (pg_name (i := 5) nd rfl (by first | exact Or.inl rfl | exact Or.inr rfl))) (fun _ _ _ _ _ => pts_nil) (fun _ _ _ _ _ => (pe_ix ix_str (pv 2) (pe_call (ok__law_draw T) (hr.mono (by decide)) rfl T.f__law_draw.g T.f__law_draw.F.kp (b__law_draw T) .nil pass0 (pa_cons (pv 0) (pa_cons pe_int pa_nil))) (fun _ _ => rfl))))))
  (pss_one (ps_ret (pe_callTy call_tuple_of rfl T.b_tuple boot_tuple (pa_cons (pe_callB (callSortD (hu100 hr)) rfl T.b_sorted boot_sorted (pa_cons (pe_lc (own := [("_law_turn", 5)]) (g := (gName 5)) (tt := tYes) rfl nd (pi_range1 rfl T.b_range (pa_cons (pv 1) pa_nil)) (blkOk_by (by kernel_rfl)) (fun _ _ _ _ _ => (pg_name (i := 5) nd rfl (by first | exact Or.inl rfl | exact Or.inr rfl))) (fun _ _ _ _ _ => pts_nil) (fun _ _ _ _ _ => (pe_op op_add_str (pe_op op_add_str (pv 4) (pe_ix ix_str (pv 2) (pe_op op_mod (pe_callTy o_int1 rfl T.b_int boot_int (pa_cons (pe_op op_add (pv 3) (pe_op op_mulW pe_int (pv 5))) pa_nil)) pe_int) (fun _ _ => rfl))) (pe_op opMulS pe_str (pe_call (ok__law_draw T) (hr.mono (by decide)) rfl T.f__law_draw.g T.f__law_draw.F.kp (b__law_draw T) .nil pass0 (pa_cons (pv 0) (pa_cons pe_int pa_nil))))))) pa_nil)) pa_nil))))))
theorem ok__law_names (T : Fx K mg) : FnOk P w K mg base CX0 2 T.f__law_names.f T.f__law_names.fd ["_law_heap_here", "_law_size"] (sp__law_names T.C) :=
  T.f__law_names.F.ok sc__law_names (fun vs H Q E ⟨A, a, c, x, _, _, _, _, r, _⟩ => by rw [r.length]; rfl) fun cdv A outer s H vs Q E hr h => ⟨t__law_names K T.C T.R, PSs.nox (d__law_names T hr), run_I K h fun W k a c hold x hC hK hp => by subst hK; rw [← hC]; exact sd__law_names W k T.R a c hold x hp⟩
end
end DL
/-! the class Refused: what is known of it, its __init__ -/
namespace DL
open PySem PySem.Spec PyProof.Rows L2 Hd
abbrev s_Refused_init : Stmt := inClass (top 5) 0
abbrev nInit : List Str := ["self", "word"]
structure RefF (P : Program) (K : PySem.W.Frag) (mg : Str → Option Value) (R : Addr) where
  fI : Addr
  fdI : FuncData
  cc : Addr
  cda : Addr
  X : OexC K R
  fn : ∃ (oc : Value) (od : Option Addr) (doc pm : Value) (an : Option Addr) (ct : Value) (osl : Array (Option Value)),
    fdI = PySem.W.ksFn "__init__" "Refused.__init__" (defArgs s_Refused_init) (defBody s_Refused_init) (defScope s_Refused_init) .none .none doc pm an (.ref cda) ct cc ∧ K.lookup fI = some ⟨oc, od, .func fdI, osl⟩
  code : PySem.W.codeIn K (.ref cda) "Refused.__init__" = true
  codeO : ∃ (ccl : Value) (cdd : Option Addr) (vs : Array Value) (ccs : Array (Option Value)) (file : Str) (tf : Tok), K.lookup cda = some ⟨ccl, cdd, .fields vs, ccs⟩ ∧ vs[2]? = some (.str file tf) ∧ ((P.main.file : Str) == file) = true
  cell : ∃ (cl : Value) (cld : Option Addr) (csl : Array (Option Value)), K.lookup cc = some ⟨cl, cld, .cell (some (.ref R)), csl⟩
  sup : PySem.W.ks_superIn K R R "__init__" = some (some (.builtin "ValueError.__init__"))
  mroR : PySem.W.mroIn K R (.ref R) = some true
  subB : PySem.W.subIn K (.ref R) (.type "ValueError") = some true
  opq : PySem.W.nsIn K PySem.cStatics "thirdparty.any" = some none
  noS : mg "super" = none
  topS : (P.main.scope.names.lookup ("super" : Str)).isSome = false
  iC : PySem.W.findIn K (.ref R) "__init__" = some (some (.ref fI))
  tI : PySem.W.typeIn K (.ref fI) = some (.type "function")
  noW : PySem.W.findIn K (.ref R) "word" = some none
def spRI (R : Addr) : Sp := fun vs H Q _ => ∃ (a : Addr) (w : Str), vs = [.ref a, .str w] ∧ H a = some (exo a R none) ∧ ∀ dx, H dx = none → dx ≠ a → Q .non (upd (upd H dx (exd dx [(("word" : Str), .str w)])) a (exo a R (some dx)))
abbrev scR : Scope := defScope s_Refused_init
/-- the context of the body -/
def cxSup (P : Program) (w : World) (K : PySem.W.Frag) (mg : Str → Option Value) (base : Heap) (f : Addr) (cda cc : Addr) (A : Around) (outer : List Env) (s : Shared) (H : Hp) (E : XK) : Cx where
  prog := P
  w := w
  K := K
  mg := mg
  base := base
  A := A.deeper (PySem.W.ksEnv "Refused.__init__" scR s.heap.objs.size f (.ref cda) cc)
  N := nInit
  s_0 := s
  H_0 := H
  env := PySem.W.ksEnv "Refused.__init__" scR s.heap.objs.size f (.ref cda) cc
  outer := outer
  stack := PySem.W.ksEnv "Refused.__init__" scR s.heap.objs.size f (.ref cda) cc :: outer
  ex := []
  calm := true
  fn := fun _ => false
  pn := []
  xe := fun e s' => wpAny (model P w) (A.deeper (PySem.W.ksEnv "Refused.__init__" scR s.heap.objs.size f (.ref cda) cc)) (leaving (PySem.W.ksEnv "Refused.__init__" scR s.heap.objs.size f (.ref cda) cc) e) (fun _ s'' => CX0 outer H s E e s'') (fun e' s'' => CX0 outer H s E e' s'') s'
theorem scR_cell : ∀ y ∈ scR.names, y.2 ≠ .cell := by decide +kernel
theorem scR_free : ∀ y ∈ scR.names, y.2 = .free → y.1 = ("__class__" : Str) := by decide +kernel
section
variable {P : Program} {w : World} {K : PySem.W.Frag} {mg : Str → Option Value} {base : Heap} {R : Addr}
theorem start_sup (F : RefF P K mg R) {A : Around} {outer : List Env} {s : Shared} {H : Hp} {E : XK} {u1 u2 : Value} {v1 v2 : V} {h₁ : Heap} {tk : Nat} (e0 : Env0 P w K mg base A outer s H) (hd : A.handled = none) (r1 : L2.RelV v1 u1) (r2 : L2.RelV v2 u2)
    (hns : h₁.Ns s.heap.objs.size fun y => ([(("self" : Str), u1), (("word" : Str), u2)] : List (Str × Value)).reverse.lookup y) (kp : ∀ b o, s.heap.get? b = some o → h₁.get? b = some o) :
    Inv (cxSup P w K mg base F.fI F.cda F.cc A outer s H E) [] (L2.start nInit [v1, v2]) H { s with heap := h₁, toks := tk } := by
  have KX : K.In s.heap := e0.mod.kin.keeps fun b o e => (e0.bs b o e).1
  obtain ⟨cl, cld, csl, hcell⟩ := F.cell
  have lk : ∀ x c, List.lookup x [(("__class__" : Str), F.cc)] = some c → x = "__class__" ∧ c = F.cc := fun x c e => by
    simp only [List.lookup] at e
    split at e
    · rename_i h
      exact ⟨by simpa using h, (Option.some.inj e).symm⟩
    · cases e
  have hcb : base.get? F.cc = some ⟨cl, cld, .cell (some (.ref R)), csl⟩ := e0.mod.kin _ _ hcell
  have noA : ∀ b : Addr, b ∉ (cxSup P w K mg base F.fI F.cda F.cc A outer s H E).ex := fun b z => absurd (show b ∈ ([] : List Addr) from z) (by simp)
  refine ⟨⟨e0.mod, rfl, rfl, rfl, Nat.le_refl _, fun x y c e1 e2 => (lk x c e1).1.trans (lk y c e2).1.symm, fun x hx => ?_, fun x c z => (by cases z), fun _ => hd, Around.frames_deeper e0.frames, .inr ⟨rfl, rfl⟩, fun b z => absurd z (noA b), e0.bs, e0.bsz, fun b _ _ => noA b,
      fun b z => absurd z (noA b), e0.funs, e0.frf⟩,
    rfl, e0.bare, Un.kept kp, ⟨_, hns, fun i x v e1 e2 e3 => ?_⟩, fun x c e => ?_, e0.hok.fresh (Nat.le_refl _), fun x c e => ?_, fun q hq => absurd (show q ∈ ([] : List (Addr × Obj)) ++ [] from hq) (by simp), e0.hok.kept kp, rfl⟩
  · have hx : scR.names.lookup x = some .cell ∨ scR.names.lookup x = some .free := hx
    rcases hx with hx | hx
    · exact absurd rfl (scR_cell _ (PySem.mem_of_lookup hx))
    · have := scR_free _ (PySem.mem_of_lookup hx) rfl
      refine ⟨F.cc, ?_⟩
      show List.lookup x [(("__class__" : Str), F.cc)] = some F.cc
      simp only at this
      rw [this]
      rfl
  · match i, e1, e2 with
    | 0, e1, e2 =>
      cases e1
      cases e2
      exact ⟨u1, r1, .inl ⟨by kernel_rfl, by rfl⟩⟩
    | 1, e1, e2 =>
      cases e1
      cases e2
      exact ⟨u2, r2, .inl ⟨by kernel_rfl, by rfl⟩⟩
  · obtain ⟨_, rfl⟩ := lk x c e
    exact ⟨_, _, kp _ _ (KX _ _ hcell), rfl⟩
  · obtain ⟨_, rfl⟩ := lk x c e
    exact (e0.bs _ _ hcb).2
theorem scR_loc : ∀ x ∈ nInit, scR.names.lookup x = some .local := by decide +kernel
theorem ok_rinit (F : RefF P K mg R) : FnOk P w K mg base CX0 1 F.fI F.fdI nInit (spRI R) := by
  refine ⟨fun vs H Q E ⟨a, w, e, _⟩ => by rw [e]; rfl, fun A outer s H args us vs Q E hr e0 hb rv hsp => ?_⟩
  obtain ⟨a, wd, rfl, hH, hq⟩ := hsp
  obtain ⟨oc, od, doc, pm, an, ct, osl, hfd, lk⟩ := F.fn
  have KX : K.In s.heap := e0.mod.kin.keeps fun b o e => (e0.bs b o e).1
  have lim : s.heap.NoLimit := e0.mod.nolimit.keeps fun b o e => (e0.bs b o e).1
  cases rv with
  | @cons v1 u1 _ _ r1 rr =>
    cases rr with
    | @cons v2 u2 _ _ r2 rr =>
      cases rr
      rw [hfd] at hb lk
      obtain rfl : u1 = Value.ref a := r1
      refine PySem.ks_codeAny_call_defAt (fd := PySem.W.ksFn "__init__" "Refused.__init__" (defArgs s_Refused_init) (defBody s_Refused_init) scR .none .none doc pm an (.ref F.cda) ct F.cc) (body := defBody s_Refused_init) (binds := [(("self" : Str), .ref a), (("word" : Str), u2)]) hr.depth (KX _ _ lk) rfl lim (PySem.W.codeRec_of KX F.code) rfl hb scR_cell (fun x hx => ?_) (fun h₁ hns kp => ?_)
      · exact scR_loc x.1 (by
          rcases List.mem_cons.mp hx with e | e
          · rw [e]; exact (by decide : (("self" : Str)) ∈ nInit)
          · rw [List.mem_singleton.mp e]; exact (by decide : (("word" : Str)) ∈ nInit))
      have I : Inv (cxSup P w K mg base F.fI F.cda F.cc A outer s H E) [] (L2.start nInit [.ref a, .str wd]) H ⟨h₁, s.gens, s.drawn, s.toks + 2, s.os⟩ := start_sup F e0 hr.hd rfl r2 hns kp
      have hkeep := KX.keeps kp
      show _root_.PySem.wpAt (model P w) (A.deeper (PySem.W.ksEnv "Refused.__init__" scR s.heap.objs.size F.fI (.ref F.cda) F.cc)) (.func (defBody s_Refused_init) (PySem.W.ksEnv "Refused.__init__" scR s.heap.objs.size F.fI (.ref F.cda) F.cc)) (execs (defBody s_Refused_init) (PySem.W.ksEnv "Refused.__init__" scR s.heap.objs.size F.fI (.ref F.cda) F.cc)) _ _ _
      refine PySem.ks_wpAt_execs_cons (PySem.ks_wpAt_Expr_any (PySem.ks_wpAt_MethodCall ?_))
      obtain ⟨ccl, cdd, vs, ccs, file, tf, hcode, hvs, hfile⟩ := F.codeO
      obtain ⟨cl, cld, csl, hcell⟩ := F.cell
      obtain ⟨nm, q, N, bs, bm, sn, sub, ab, col, dd, k0, k1, k2, k3, k5, hC, hbm⟩ := F.X.cls
      obtain ⟨t1, ho⟩ := exo_at I.hok hH
      have hD := hkeep _ _ hC
      refine PySem.ks_wpAt_super_base (by kernel_rfl) (by kernel_rfl) (by decide) rfl (hkeep _ _ lk) rfl rfl rfl (hkeep _ _ hcode) rfl hvs hfile F.topS ?_
      obtain ⟨mb, hb1, hb2⟩ := e0.mod.blt
      have bk : ∀ b o, base.get? b = some o → h₁.get? b = some o := fun b o e => kp b o (e0.bs b o e).1
      refine PySem.W.ks_loadName_global rfl (by kernel_rfl) (Calls.loadGlobal_builtin (mg := mg) (e0.mod.glob.keeps bk) F.noS (hb1.keeps bk) ((hb2 "super" (by decide)).trans (by first | boot_by_name | kernel_rfl)) ⟨rfl, ?_⟩)
      refine wpAny_loadName_free rfl (by kernel_rfl) rfl ⟨_, hkeep _ _ hcell, rfl⟩ ?_
      refine wpAny_loadName_local rfl (by kernel_rfl) hns rfl ?_
      refine PySem.ks_wpAny_isType_cls hD rfl ⟨rfl, ?_⟩
      have hxR : a ≠ R := fun z => by
        rw [z, hD] at ho
        cases ho
      refine PySem.ks_wpAny_call_super hD rfl ho rfl (fun c e => by cases e) (PySem.W.looks_mroIn hkeep F.mroR) (fun h2 hso k2 => ?_)
      have I2 := I.kept (t' := s.toks + 2) k2
      have K2 := hkeep.keeps k2
      have hcl : PySem.W.clsIn K R = some { name := nm, bases := bs, mro := .ref R :: bm, ns := N, qualname := q, hasDict := true, slotNames := sn, subclasses := sub, abstract := ab, collection := col, hasDel := false } := by unfold PySem.W.clsIn; rw [hC] <;> rfl
      have hsup : PySem.W.alongIn K "__init__" (((Value.ref R :: bm).dropWhile (· != .ref R)).drop 1) = some (some (.builtin "ValueError.__init__")) := by
        have := F.sup
        unfold PySem.W.ks_superIn at this
        rw [hcl] at this
        exact this
      have IA : PySem.W.InstAt h2 a ({ cls := .ref R, dict := none, data := .fields #[.ref t1, .none, .none, .none, .bool false, .none] } : Obj) R none := ⟨k2 _ _ ho, rfl, rfl, trivial⟩
      refine PySem.W.kxs_getMethod PySem.W.kxs_ValueError hso (PySem.W.looks_opaque K2 F.opq) ((PySem.W.looks_clsIn K2 hcl).andThen .now) rfl K2 hsup (IA.type.andThen (PySem.W.looks_subIn K2 F.subB)) hxR (by decide) ?_
      have hmw : (h2.push (PySem.W.kxs_mw "ValueError.__init__" a)).get? h2.objs.size = some (PySem.W.kxs_mw "ValueError.__init__" a) := Heap.get?_push_at rfl rfl
      have I3 := I2.kept (h' := h2.push (PySem.W.kxs_mw "ValueError.__init__" a)) (t' := s.toks + 2 + 1) (fun b o e => Heap.get?_push_of_some _ e)
      refine PySem.W.kxs_callWith (i := "ValueError.__init__") (x := a) (by rfl) (Calls.evalArgs_plain ?_)
      have hu0 : H h2.objs.size = none := I2.hok.fresh (Nat.le_refl _)
      have I3p := I3.pins_of (pins' := [(h2.objs.size, PySem.W.kxs_mw "ValueError.__init__" a)]) fun p hp => by
        rw [List.mem_singleton.mp hp]
        exact ⟨hmw, hu0, fun z => absurd (I2.lt) (by rw [← z]; exact Nat.lt_irrefl _), I2.nofs (Nat.le_refl _), fun v => by intro z; cases z⟩
      refine wpAny_mono ((pa_cons (X := cxSup P w K mg base F.fI F.cda F.cc A outer s H E) pe_str pa_nil).run _ _ _ _ H (fun xs H' => xs = [.str "refused"] ∧ H' = H) I3p ⟨rfl, rfl⟩) (fun us s4 h4 => ?_) fun _ _ e => e
      obtain ⟨xs, H4, I4, rv4, rfl, eH⟩ := h4
      rw [eH] at I4
      have hu4 : s4.heap.get? h2.objs.size = some (PySem.W.kxs_mw "ValueError.__init__" a) := (I4.pin (h2.objs.size, PySem.W.kxs_mw "ValueError.__init__" a) (by simp)).1
      refine ⟨hu4, ?_⟩
      obtain ⟨t4, ho4⟩ := exo_at I4.hok hH
      have hus : us.length ≤ sizeLine := by
        rw [← rv4.length]; decide
      have hC4 := I4.kIn _ _ hC
      obtain ⟨hp4, g4, d4, tk4, os4⟩ := s4
      have fin : ∀ h', (∀ b o, b ≠ a → hp4.get? b = some o → h'.get? b = some o) → h'.get? a = some (PySem.W.excObj R hp4.objs.size none .none) → h'.get? hp4.objs.size = some (PySem.W.excTup us) →
          _root_.PySem.wpAt (model P w) (A.deeper (PySem.W.ksEnv "Refused.__init__" scR s.heap.objs.size F.fI (.ref F.cda) F.cc)) (.func (defBody s_Refused_init) (PySem.W.ksEnv "Refused.__init__" scR s.heap.objs.size F.fI (.ref F.cda) F.cc)) (execs ((defBody s_Refused_init).drop 1) (PySem.W.ksEnv "Refused.__init__" scR s.heap.objs.size F.fI (.ref F.cda) F.cc)) (fun f s' =>
                  CR CX0 outer P w H s Q E (Except.ok (Flow.ret (match f with | Flow.ret v => v | x => Value.none))) s') (cxSup P w K mg base F.fI F.cda F.cc A outer s H E).xe ⟨h', g4, d4, tk4, os4⟩ := fun h' k hx' _ => by
        have J := I4.write (t' := tk4) (x := a) (e := a) (o := exo a R none) (h' := h') (by rw [hH]; exact True.intro) (.inl rfl) k ⟨_, hx'⟩ (exo_ok hx')
        have eu : upd H a (exo a R none) = H := by
          funext b
          by_cases hb : b = a
          · rw [hb, upd_same, hH]
          · rw [upd_ne hb]
        rw [eu] at J
        refine wpAt_of_wpAny (wpAny_mono ((pss_one (ps_ost (X := cxSup P w K mg base F.fI F.cda F.cc A outer s H E) (f := "word") (pe_var (i := 0) rfl (Or.inl (by kernel_rfl))) (pe_var (i := 1) rfl (Or.inl (by kernel_rfl))))).run _ _ _ H { nx := fun _ H' => Q .non H', rt := Q } J ?_) (fun fl s5 h5 => ?_) fun _ _ e => e)
        · exact ⟨_, rfl, _, rfl, a, R, rfl, F.X, F.noW, .inl ⟨hH, fun dx h1 h2 => hq dx h1 h2⟩⟩
        · cases fl with
          | next =>
            obtain ⟨σ', H5, J5, q5⟩ := h5
            exact ⟨.non, H5, J5.os, J5.bare, J5.base, J5.hok, rfl, q5⟩
          | ret u =>
            obtain ⟨v, σ', H5, J5, r5, q5⟩ := h5
            exact ⟨v, H5, J5.os, J5.bare, J5.base, J5.hok, r5, q5⟩
          | brk =>
            obtain ⟨_, _, _, q⟩ := h5
            exact False.elim q
          | cont =>
            obtain ⟨_, _, _, q⟩ := h5
            exact False.elim q
      refine wpAny_call (codeAny_of_tree ?_)
      show wpAny _ _ (callAny (.ref h2.objs.size) ⟨us, []⟩) _ _ _
      simp only [callAny]
      refine wpAny_bind (wpAny_load hu4 ?_)
      simp only [PySem.W.kxs_mw, show (Value.type "method-wrapper" == Value.type "method" || Value.type "method-wrapper" == Value.type "builtin_function_or_method" || Value.type "method-wrapper" == Value.type "method-wrapper") = true by decide, if_true]
      refine PySem.W.KFB.if_so (by decide) ?_
      refine wpAny_bind (PySem.W.check_bound_init PySem.F.excBase_ValueError.toExcCallFacts hC4 ho4 rfl ?_)
      refine wpAny_bind (wpAny_pure (wpAny_pure ?_))
      refine ⟨plainId_quiet PySem.F.excBase_ValueError.init.plain _, codeAny_builtin PySem.F.excBase_ValueError.initEntry ?_⟩
      exact PySem.W.exc_init_tree (cls := .ref R) (t0 := t4) (dv := none) (c2 := .none) (c3 := .none) (b4 := .bool false) ho4 hus fin
end
end DL
/-! raise Refused(word); calls of what may raise -/
namespace DL
open PySem PySem.Spec PyProof.Rows L2 Hd
structure FxE (P : Program) (K : PySem.W.Frag) (mg : Str → Option Value) extends Fx K mg where
  X : RefF P K mg R
def tRaiseR (R : Addr) (E : XK) (ta : TA) : TS := fun _ σ H => tMkO R (spRI R) [] ta σ H fun cls d H' => E cls d H'
section
variable {P : Program} {w : World} {K : PySem.W.Frag} {mg : Str → Option Value} {base : Heap} {R : Addr}
theorem b_rinit (F : RefF P K mg R) : Binds K F.fdI nInit [] := by
  obtain ⟨oc, od, doc, pm, an, ct, osl, hfd, lk⟩ := F.fn
  rw [hfd]
  exact .all fun us hl => match us, hl with | [_, _], _ => rfl
end
theorem ps_raiseR {X : Cx} {E : XK} {e : Expr} {ta : TA} {p pos pos2 : Pos} (F : RefF X.prog X.K X.mg R) (hc : X.calm = true) (tk : Takes X (fun cls d _ H => E cls d H)) (hr : Room 2 X.A) (hg : Gl X "Refused") (hm : X.mg "Refused" = some (.ref R)) (ha : PA X [e] ta)
    (he : starEach (e :: []) X.env = (false, eval e X.env) :: starEach [] X.env := by rfl) (hpl : (backTo pos (starEach [] X.env)).any (·.1) = false := by rfl) : PS X (.Raise (some (.Call (.Name "Refused" p) [e] [] pos)) none pos2) (tRaiseR R E ta) :=
  ps_raise hc tk (pmk_oex (k := 1) F.X F.iC F.tI (ok_rinit F) hr (b_rinit F) .nil (fun _ _ _ _ _ _ _ h => h.elim) hg hm ha (by decide) he hpl)
theorem passE0 {X : Cx} {P : Program} {w : World} : Passes (L2.CX P w) X E0 := fun _ _ _ _ _ _ _ ⟨_, _, _, _, _, _, _, _, _, _, _, _, h⟩ => h.elim
section
variable {W : Wd} {δ : Dl} {ts tu : TS} {tar : TA} {P : Pst} {R : Addr} {E : XK} {G : Type} {inj : G → List Dt} {pre : G → Prop} {post : G → Dt → Prop} {exc : G → Str → Prop} {Q : Dt → Prop}
theorem sd_raise {wd : Str} (k : W.Ok) (hR : P.R = R) (hE : P.E = E) (h : P.ex wd) : Sd W (tRaiseR R E (tCons (tC (.str wd)) tNil)) δ P := fun g O σ H D S K => by
  subst hR hE
  refine ⟨(show 1 ≤ 1000 by decide), fun a ha => ⟨a, wd, rfl, upd_same, fun dx h1 h2 => ⟨rfl, dx, [(("word" : Str), V.str wd)], upd_same, ?_, ?_, ?_⟩⟩⟩
  · rw [upd_ne h2]; exact upd_same
  · rw [upd_ne h2] at h1; exact h1
  · rw [upd_ne h2] at h1
    have keep : ∀ b o, H b = some o → upd (del (upd (upd (upd H a (exo a P.R none)) dx (exd dx [(("word" : Str), V.str wd)])) a (exo a P.R (some dx))) a) dx (.xd [(("word" : Str), V.str wd)]) b = some o := fun b o e => by
      have nb : b ≠ a := ne_of_none e ha
      have nd : b ≠ dx := ne_of_none e h1
      rw [upd_ne nd, del_ne nb, upd_ne nb, upd_ne nd, upd_ne nb]
      exact e
    exact K.xp O _ dx wd (g.st O O H _ S.gh (fun a o _ _ e => keep a o e) fun a h => .inl h) (k.all S.inv keep) upd_same h
/-- a call that doesn't raise here -/
theorem er_callX0 (x : G) (k : W.Ok) (ha : Ea W tar δ (inj x)) (h1 : pre x) (h2 : ∀ d, post x d → Q d) (h3 : ∀ wd, ¬ exc x wd) : Er W (tCall (spX W.C R inj pre post exc) [] E tar) δ Q := fun g O σ H S Qv q => ha g O σ H S _ fun vs H1 ds f1 i1 p1 r1 => by
  show spX W.C R inj pre post exc (vs ++ []) H1 Qv E
  rw [List.append_nil]
  subst p1
  exact ⟨W.M O, x, (S.step f1 i1).there, r1, h1, fun v H' d ex rv pd => q v H' d (f1.trans (Fr.all ex)) (k.all i1 ex) (h2 d pd) rv, fun dd H' wd _ _ z => (h3 wd z).elim⟩
/-- a, b = f(..), f may raise -/
theorem sq_asgX {gt : TG} (x : G) (k : W.Ok) (ha : Ea W tar δ (inj x)) (h1 : pre x) (hR : P.R = R) (hE : P.E = E) (h3 : ∀ wd, exc x wd → P.ex wd) (q : ∀ d, post x d → ∃ δ' js, Tg W gt d δ δ' js ∧ Sd W tu δ' P) : Sd W (tSeq (tAsg (tCall (spX W.C R inj pre post exc) [] E tar) gt) tu) δ P := fun g O σ H D S K => by
  refine ha g O σ H S _ fun vs H1 ds f1 i1 p1 r1 => ?_
  show spX W.C R inj pre post exc (vs ++ []) H1 _ E
  rw [List.append_nil]
  subst p1
  refine ⟨W.M O, x, (S.step f1 i1).there, r1, h1, fun v H' d ex rv pd => ?_, fun dd H' wd ex hdd z => ?_⟩
  · obtain ⟨δ', js, tg, sd⟩ := q d pd
    exact tg g O σ H' v (S.step (f1.trans (Fr.all ex)) (k.all i1 ex)) rv _ fun σ' S' _ _ => sd g O σ' H' D S' K
  · subst hR hE
    have S2 := S.step (f1.trans (Fr.all ex)) (k.all i1 ex)
    exact K.xp O H' dd wd S2.gh S2.inv hdd (h3 wd z)
end
end DL
namespace DL
open PySem PySem.Spec PyProof.Rows L2 Hd
/-! ### elimination_sum -/
def signs0 (y : WoG) : Prop := gi y.x.1.1 y.i * gi y.x.2.1 y.i < 0
abbrev sp_elimination_sum (C R : Addr) : Sp := spX C R (G := WoG) (fun y => [rD y.x.1, rD y.x.2, .int (y.i : Nat)]) (fun y => TwoOk y.n y.x ∧ y.i < y.n) (fun y d => signs0 y ∧ d = rowD (elimP y.n y.x y.i) (elimB y.x y.i)) (fun y w => ¬ signs0 y ∧ w = "signs")

abbrev N_elimination_sum : List Str := ["one", "other", "at", "first", "second", "parts", "mine", "yours"]
def t_elimination_sum (K : PySem.W.Frag) (C R : Addr) (E : XK) : TS := (tSeq (tIfS (tTest (tOp rGeI (tOp rMulW (tOp (rIxT K) (tOp (rIxT K) (tVar 0) (tC (.int 0))) (tVar 2)) (tOp (rIxT K) (tOp (rIxT K) (tVar 1) (tC (.int 0))) (tVar 2))) (tC (.int 0)))) (tRaiseR R E (tCons (tC (.str "signs")) tNil)) tNext)
  (tSeq (tAsg (tTup (tCons (tCB rAbs (tCons (tOp (rIxT K) (tOp (rIxT K) (tVar 1) (tC (.int 0))) (tVar 2)) tNil)) (tCons (tCB rAbs (tCons (tOp (rIxT K) (tOp (rIxT K) (tVar 0) (tC (.int 0))) (tVar 2)) tNil)) tNil))) (gTup K 2 (gCons (gName 3) (gCons (gName 4) gNil))))
  (tSeq (tAsg (tCB (rTuple K) (tCons (tLc (RZ.iZipA K (tCons (tOp (rIxT K) (tVar 0) (tC (.int 0))) (tCons (tOp (rIxT K) (tVar 1) (tC (.int 0))) tNil))) (gTup K 2 (gCons (gName 6) (gCons (gName 7) gNil))) tYes (tOp rAdd (tOp rMulW (tVar 3) (tVar 6)) (tOp rMulW (tVar 4) (tVar 7))) [6, 7]) tNil)) (gName 5))
  (tRet (tTup (tCons (tVar 5) (tCons (tOp rAdd (tOp rMulW (tVar 3) (tOp (rIxT K) (tVar 0) (tC (.int 1)))) (tOp rMulW (tVar 4) (tOp (rIxT K) (tVar 1) (tC (.int 1))))) tNil)))))))
theorem sd_elimination_sum (W : Wd) (k : W.Ok) (R : Addr) (E : XK) (y : WoG) (hp : TwoOk y.n y.x ∧ y.i < y.n) : Sd W (t_elimination_sum W.K W.C R E) (startD N_elimination_sum.length [rD y.x.1, rD y.x.2, .int (y.i : Nat)]) { rt := fun d => signs0 y ∧ d = rowD (elimP y.n y.x y.i) (elimB y.x y.i), nx := fun _ => signs0 y ∧ Dt.non = rowD (elimP y.n y.x y.i) (elimB y.x y.i), R := R, E := E, ex := fun w => ¬ signs0 y ∧ w = "signs" } := by
  obtain ⟨T, hi⟩ := hp
  have hl := T.l
  have hl2 := T.l2
  have hn := T.n
  obtain ⟨b1, b2⟩ := T.bb
  have na : ∀ {a : Int}, a.natAbs < 2 ^ 400 → (a.natAbs : Int).natAbs < 2 ^ 400 := fun h => by simpa using h
  refine sq_when (et_test (ed_op (ed_op (ed_op (ed_op (ed_var rfl) ed_int (od_ixT rfl)) (ed_var rfl) (od_ixT (gi_atI (by omega)))) (ed_op (ed_op (ed_var rfl) ed_int (od_ixT rfl)) (ed_var rfl) (od_ixT (gi_atI (by omega)))) (od_I (mul4 (T.p _) (T.q _)))) ed_int od_B0)) (fun h => sd_raise k rfl rfl ⟨fun z => ?_, rfl⟩) fun h => ?_
  · have : (0 : Int) ≤ gi y.x.1.1 y.i * gi y.x.2.1 y.i := by simpa using h
    unfold signs0 at z
    omega
  have hs : signs0 y := by
    unfold signs0
    have : ¬ (0 : Int) ≤ gi y.x.1.1 y.i * gi y.x.2.1 y.i := by simpa using h
    omega
  refine sq_parT k (eam_shE (ed_cb (ea_cons (ed_op (ed_op (ed_var rfl) ed_int (od_ixT rfl)) (ed_var rfl) (od_ixT (gi_atI (by omega)))) ea_nil) cd_abs) (eam_shE (ed_cb (ea_cons (ed_op (ed_op (ed_var rfl) ed_int (od_ixT rfl)) (ed_var rfl) (od_ixT (gi_atI (by omega)))) ea_nil) cd_abs) (eam_nil ⟨_, _, rfl, ?_⟩)))
  refine sq_asgE (d := inD (elimP y.n y.x y.i)) ((ed_tupleF k (ef_lcAll (List.range y.n) (fun j => .tup [.int (gi y.x.1.1 j), .int (gi y.x.2.1 j)]) (fun j => .int (((gi y.x.2.1 y.i).natAbs : Int) * gi y.x.1.1 j + ((gi y.x.1.1 y.i).natAbs : Int) * gi y.x.2.1 j)) k (YlG.yl ((yg_zipA_T (ea_cons (ed_op (ed_var rfl) ed_int (od_ixT rfl)) (ea_cons (ed_op (ed_var rfl) ed_int (od_ixT rfl)) ea_nil))).to (by rw [map_getD _ y.n hl, map_getD _ y.n hl2, zipD_rg]))) (by simp; omega) fun j hj => ⟨_, _, tg_names2 (of_decide_eq_true rfl) (of_decide_eq_true rfl), by simp, ed_op (ed_op (ed_var rfl) (ed_var rfl) (od_I (mul4 (na (T.q _)) (T.p _)))) (ed_op (ed_var rfl) (ed_var rfl) (od_I (mul4 (na (T.p _)) (T.q _)))) od_I0⟩)).to (by unfold inD elimP; rw [List.map_map]; rfl)) (of_decide_eq_true rfl) ?_
  exact sd_ret (Ed.er (ed_tup k (ea_cons (ed_var rfl) (ea_cons (ed_op (ed_op (ed_var rfl) (ed_op (ed_var rfl) ed_int (od_ixT rfl)) (od_I (mul4 (na (T.q _)) b1))) (ed_op (ed_var rfl) (ed_op (ed_var rfl) ed_int (od_ixT rfl)) (od_I (mul4 (na (T.p _)) b2))) od_I0) ea_nil)) (by simp)) ⟨hs, rfl⟩)

theorem sc_elimination_sum : FnScope N_elimination_sum ["one", "other", "at"] (defScope s_elimination_sum) := ⟨rfl, rfl, rfl, by decide +kernel, rfl, by decide +kernel, by decide +kernel⟩
section
variable {P : Program} {w : World} {K : PySem.W.Frag} {mg : Str → Option Value} {base : Heap}
theorem b_elimination_sum (T : FxE P K mg) : Binds K T.f_elimination_sum.fd ["one", "other", "at"] [] := T.f_elimination_sum.F.bindsN fun _ _ _ _ _ _ us hl => match us, hl with | [_, _, _], _ => rfl
theorem d_elimination_sum (T : FxE P K mg) {cdv : Value} {A : Around} {outer : List Env} {s : Shared} {H : Hp} {E : XK} (hr : Room 2 (A.deeper (envOfC "elimination_sum" (defScope s_elimination_sum) s.heap.objs.size T.f_elimination_sum.f cdv))) : PSs (cxOf (L2.CX P w) P w K mg base N_elimination_sum "elimination_sum" (defScope s_elimination_sum) T.f_elimination_sum.f cdv A outer s H E) (defBody s_elimination_sum) (t_elimination_sum K T.C T.R E) :=
  have nd := sc_elimination_sum.nd
  (pss_cons (ps_if (pt_cmpR op_ge (pe_op op_mulW (pe_ix ix_tup (pe_ix ix_tup (pv 0) pe_int (fun _ _ => rfl)) (pv 2) (fun _ _ => rfl)) (pe_ix ix_tup (pe_ix ix_tup (pv 1) pe_int (fun _ _ => rfl)) (pv 2) (fun _ _ => rfl))) pe_int (nomark _)) (pss_one (ps_raiseR T.X rfl (takes_of rfl rfl rfl rfl) (hr.mono (by decide)) rfl T.g_Refused (pa_cons pe_str pa_nil))) pss_nil)
  (pss_cons (ps_asg (pe_tup (pa_cons (pe_callB o_abs rfl T.b_abs boot_abs (pa_cons (pe_ix ix_tup (pe_ix ix_tup (pv 1) pe_int (fun _ _ => rfl)) (pv 2) (fun _ _ => rfl)) pa_nil)) (pa_cons (pe_callB o_abs rfl T.b_abs boot_abs (pa_cons (pe_ix ix_tup (pe_ix ix_tup (pv 0) pe_int (fun _ _ => rfl)) (pv 2) (fun _ _ => rfl)) pa_nil)) pa_nil))) (pg_tup rfl (pgs_cons (pg_name (i := 3) nd rfl (by first | exact Or.inl rfl | exact Or.inr rfl)) (pgs_cons (pg_name (i := 4) nd rfl (by first | exact Or.inl rfl | exact Or.inr rfl)) pgs_nil))))
  (pss_cons (ps_set (i := 5) nd rfl (by first | exact Or.inl rfl | exact Or.inr rfl) (pe_callTy call_tuple_of rfl T.b_tuple boot_tuple (pa_cons (pe_lc (own := [("mine", 6), ("yours", 7)]) (g := (gTup K 2 (gCons (gName 6) (gCons (gName 7) gNil)))) (tt := tYes) rfl nd (RZ.pi_zipA rfl T.b_zip (pa_cons (pe_ix ix_tup (pv 0) pe_int (fun _ _ => rfl)) (pa_cons (pe_ix ix_tup (pv 1) pe_int (fun _ _ => rfl)) pa_nil))) (blkOk_by (by kernel_rfl)) (fun _ _ _ _ _ => (pg_tup rfl (pgs_cons (pg_name (i := 6) nd rfl (by first | exact Or.inl rfl | exact Or.inr rfl)) (pgs_cons (pg_name (i := 7) nd rfl (by first | exact Or.inl rfl | exact Or.inr rfl)) pgs_nil)))) (fun _ _ _ _ _ => pts_nil) (fun _ _ _ _ _ => (pe_op op_add (pe_op op_mulW (pv 3) (pv 6)) (pe_op op_mulW (pv 4) (pv 7))))) pa_nil)))
  (pss_one (ps_ret (pe_tup (pa_cons (pv 5) (pa_cons (pe_op op_add (pe_op op_mulW (pv 3) (pe_ix ix_tup (pv 0) pe_int (fun _ _ => rfl))) (pe_op op_mulW (pv 4) (pe_ix ix_tup (pv 1) pe_int (fun _ _ => rfl)))) pa_nil))))))))
theorem ok_elimination_sum (T : FxE P K mg) : FnOk P w K mg base (L2.CX P w) 3 T.f_elimination_sum.f T.f_elimination_sum.fd ["one", "other", "at"] (sp_elimination_sum T.C T.R) :=
  T.f_elimination_sum.F.ok sc_elimination_sum (fun vs H Q E ⟨A, x, _, r, _⟩ => by rw [r.length]; rfl) fun cdv A outer s H vs Q E hr h => ⟨t_elimination_sum K T.C T.R E, d_elimination_sum T hr, run_X K h fun W k x hC hK hp => by subst hK; rw [← hC]; exact sd_elimination_sum W k T.R E x hp⟩
end
end DL
namespace DL
open PySem PySem.Spec PyProof.Rows L2 Hd
/-! ### eliminated -/
abbrev sp_eliminated (C R : Addr) : Sp := spX C R (G := WoG) (fun y => [rD y.x.1, rD y.x.2, .int (y.i : Nat)]) (fun y => TwoOk y.n y.x ∧ y.i < y.n) (fun y d => signs0 y ∧ d = leastD (elimP y.n y.x y.i) (elimB y.x y.i)) (fun y w => ¬ signs0 y ∧ w = "signs")

abbrev N_eliminated : List Str := ["one", "other", "at", "parts", "bound"]
def t_eliminated (K : PySem.W.Frag) (C R : Addr) (E : XK) : TS := (tSeq (tAsg (tCall (sp_elimination_sum C R) [] E (tCons (tVar 0) (tCons (tVar 1) (tCons (tVar 2) tNil)))) (gTup K 2 (gCons (gName 3) (gCons (gName 4) gNil))))
  (tRet (tCall (sp_least_form C) [] E0 (tCons (tVar 3) (tCons (tVar 4) tNil)))))
theorem elimP_len (n : Nat) (x : Row × Row) (i : Nat) : (elimP n x i).length = n := by unfold elimP; simp
theorem sd_eliminated (W : Wd) (k : W.Ok) (R : Addr) (E : XK) (y : WoG) (hp : TwoOk y.n y.x ∧ y.i < y.n) : Sd W (t_eliminated W.K W.C R E) (startD N_eliminated.length [rD y.x.1, rD y.x.2, .int (y.i : Nat)]) { rt := fun d => signs0 y ∧ d = leastD (elimP y.n y.x y.i) (elimB y.x y.i), nx := fun _ => signs0 y ∧ Dt.non = leastD (elimP y.n y.x y.i) (elimB y.x y.i), R := R, E := E, ex := fun w => ¬ signs0 y ∧ w = "signs" } := by
  have hn := hp.1.n
  refine sq_asgX y k (ea_cons (ed_var rfl) (ea_cons (ed_var rfl) (ea_cons (ed_var rfl) ea_nil))) hp rfl rfl (fun w h => h) fun d ⟨hs, e⟩ => ?_
  subst e
  refine ⟨_, _, tg_names2 (of_decide_eq_true rfl) (of_decide_eq_true rfl), ?_⟩
  exact sd_ret (Ed.er (ed_call (elimP y.n y.x y.i, elimB y.x y.i) k (ea_cons (ed_var rfl) (ea_cons (ed_var rfl) ea_nil)) ⟨by show (elimP y.n y.x y.i).length ≤ 900; rw [elimP_len]; omega, elimP_bd hp.1 y.i⟩ fun d e => e) ⟨hs, rfl⟩)

theorem sc_eliminated : FnScope N_eliminated ["one", "other", "at"] (defScope s_eliminated) := ⟨rfl, rfl, rfl, by decide +kernel, rfl, by decide +kernel, by decide +kernel⟩
section
variable {P : Program} {w : World} {K : PySem.W.Frag} {mg : Str → Option Value} {base : Heap}
theorem b_eliminated (T : FxE P K mg) : Binds K T.f_eliminated.fd ["one", "other", "at"] [] := T.f_eliminated.F.bindsN fun _ _ _ _ _ _ us hl => match us, hl with | [_, _, _], _ => rfl
theorem d_eliminated (T : FxE P K mg) {cdv : Value} {A : Around} {outer : List Env} {s : Shared} {H : Hp} {E : XK} (hr : Room 3 (A.deeper (envOfC "eliminated" (defScope s_eliminated) s.heap.objs.size T.f_eliminated.f cdv))) : PSs (cxOf (L2.CX P w) P w K mg base N_eliminated "eliminated" (defScope s_eliminated) T.f_eliminated.f cdv A outer s H E) (defBody s_eliminated) (t_eliminated K T.C T.R E) :=
  have nd := sc_eliminated.nd
  (pss_cons (ps_asg (pe_call (ok_elimination_sum T) (hr.mono (by decide)) rfl T.f_elimination_sum.g T.f_elimination_sum.F.kp (b_elimination_sum T) .nil (passes_call (takes_of rfl rfl rfl rfl) (fun _ _ _ _ h => h)) (pa_cons (pv 0) (pa_cons (pv 1) (pa_cons (pv 2) pa_nil)))) (pg_tup rfl (pgs_cons (pg_name (i := 3) nd rfl (by first | exact Or.inl rfl | exact Or.inr rfl)) (pgs_cons (pg_name (i := 4) nd rfl (by first | exact Or.inl rfl | exact Or.inr rfl)) pgs_nil))))
  (pss_one (ps_ret (pe_call (ok_least_form T.toFx) (hr.mono (by decide)) rfl T.f_least_form.g T.f_least_form.F.kp (b_least_form T.toFx) .nil pass0 (pa_cons (pv 3) (pa_cons (pv 4) pa_nil))))))
theorem ok_eliminated (T : FxE P K mg) : FnOk P w K mg base (L2.CX P w) 4 T.f_eliminated.f T.f_eliminated.fd ["one", "other", "at"] (sp_eliminated T.C T.R) :=
  T.f_eliminated.F.ok sc_eliminated (fun vs H Q E ⟨A, x, _, r, _⟩ => by rw [r.length]; rfl) fun cdv A outer s H vs Q E hr h => ⟨t_eliminated K T.C T.R E, d_eliminated T hr, run_X K h fun W k x hC hK hp => by subst hK; rw [← hC]; exact sd_eliminated W k T.R E x hp⟩
end
/-! ### clash -/
/-- do the two rows clash -/
def clashB (n : Nat) (x : Row × Row) : Bool := match unl x.1.1 x.2.1 with
  | [] => false
  | i :: _ => decide (0 < elimB x i) && !((elimP n x i).any fun y => !decide (y = 0))
structure TwoG where
  n : Nat
  x : Row × Row
abbrev sp_clash (C : Addr) : Sp := spP C (G := TwoG) (fun y => [rD y.x.1, rD y.x.2]) (fun y => TwoOk y.n y.x) (fun y d => d = .bl (clashB y.n y.x))

abbrev N_clash : List Str := ["one", "other", "places", "parts", "bound", "part"]
def t_clash (K : PySem.W.Frag) (C R : Addr) : TS := (tSeq (tAsg (tCall (sp_unlike C) [] E0 (tCons (tVar 0) (tCons (tVar 1) tNil))) (gName 2))
  (tSeq (tIfS (tTest (tOp (rEqD K) (tVar 2) (tTup tNil))) (tRet (tC (.bl false))) tNext)
  (tSeq (tAsg (tCall (sp_elimination_sum C R) [] E0 (tCons (tVar 0) (tCons (tVar 1) (tCons (tOp (rIxT K) (tVar 2) (tC (.int 0))) tNil)))) (gTup K 2 (gCons (gName 3) (gCons (gName 4) gNil))))
  (tRet (tAndV (tOp rGtI (tVar 4) (tC (.int 0))) (tNotV (tCB (rAny K) (tCons (tLc (iTup K (tVar 3)) (gName 5) tYes (tOp rNe (tVar 5) (tC (.int 0))) [5]) tNil))))))))
theorem atI_head {α : Type} (x : α) (l : List α) : atI (x :: l) 0 = some x := by
  have := ixN_nat (n := (x :: l).length) (i := 0) (by simp)
  unfold atI
  rw [show (0 : Int) = ((0 : Nat) : Int) from rfl, this]
  rfl
theorem unl_mem {p q : List Int} {i : Nat} (h : i ∈ unl p q) : i < p.length ∧ gi p i * gi q i < 0 := by
  unfold unl at h
  rw [List.mem_filter] at h
  exact ⟨List.mem_range.mp h.1, by simpa using h.2⟩
theorem pl_nats (l : List Nat) : plA (l.map fun i => Dt.int (i : Nat)) = true := plA_iff.mpr fun d h => by
  obtain ⟨_, _, e⟩ := List.mem_map.mp h
  subst e; rfl
theorem dep_nats (l : List Nat) : depA (l.map fun i => Dt.int (i : Nat)) ≤ 0 := depA_le.mpr fun d h => by
  obtain ⟨_, _, e⟩ := List.mem_map.mp h
  subst e; exact Nat.le_refl _
theorem sd_clash (W : Wd) (k : W.Ok) (R : Addr) (y : TwoG) (hp : TwoOk y.n y.x) : Sd W (t_clash W.K W.C R) (startD N_clash.length [rD y.x.1, rD y.x.2]) { rt := fun d => d = .bl (clashB y.n y.x), nx := fun _ => Dt.non = .bl (clashB y.n y.x) } := by
  have hn := hp.n
  have hl := hp.l
  refine sq_asgE (d := natsD (unl y.x.1.1 y.x.2.1)) (ed_call y.x k (ea_cons (ed_var rfl) (ea_cons (ed_var rfl) ea_nil)) ⟨y.n, hp⟩ fun d e => e) (of_decide_eq_true rfl) ?_
  have hdep : dep (natsD (unl y.x.1.1 y.x.2.1)) ≤ 64 := by have := dep_nats (unl y.x.1.1 y.x.2.1); simp only [dep]; omega
  refine sq_when (et_test (ed_op (ed_var rfl) (ed_tup k ea_nil (by simp)) (od_eqD (by simpa [pl] using pl_nats _) rfl hdep (by decide)))) (fun h => ?_) fun h => ?_
  · have e := (deq_iff _ _ (by simpa [pl] using pl_nats _) rfl).mp h
    have : unl y.x.1.1 y.x.2.1 = [] := by
      simp only [natsD, Dt.tup.injEq] at e
      exact List.map_eq_nil_iff.mp e
    exact sd_ret (Ed.er ed_bl (by unfold clashB; rw [this]))
  · have : unl y.x.1.1 y.x.2.1 ≠ [] := fun z => by
      rw [z] at h
      exact absurd ((deq_iff (.tup []) (.tup []) rfl rfl).mpr rfl) (by
        have h' : deq (.tup []) (.tup []) = false := h
        rw [h']; decide)
    obtain ⟨i, l, hu⟩ := List.exists_cons_of_ne_nil this
    obtain ⟨hi, hneg⟩ := unl_mem (p := y.x.1.1) (q := y.x.2.1) (i := i) (by rw [hu]; exact List.mem_cons_self)
    have hi : i < y.n := by omega
    refine sq_asgT (R := fun d => d = rowD (elimP y.n y.x i) (elimB y.x i)) (er_callX0 (⟨y.n, y.x, i⟩ : WoG) k (ea_cons (ed_var rfl) (ea_cons (ed_var rfl) (ea_cons ((ed_op (ed_var rfl) ed_int (od_ixT (d := .int (i : Nat)) (by rw [hu]; exact atI_head _ _)))) ea_nil))) ⟨hp, hi⟩ (fun d h => h.2) fun w h => h.1 hneg) fun d e => ?_
    subst e
    refine ⟨_, _, tg_names2 (of_decide_eq_true rfl) (of_decide_eq_true rfl), ?_⟩
    refine sd_ret (Ed.er (ed_andB (ed_op (ed_var rfl) ed_int od_B0) fun _ => ed_notB (ed_anyLc (elimP y.n y.x i) Dt.int (fun v => !decide (v = 0)) k (YlG.yl (yg_tup (ed_var rfl))) (by rw [elimP_len]; omega) fun s hx => ⟨_, _, tg_name (of_decide_eq_true rfl), by simp, ed_op (ed_var rfl) ed_int od_neI⟩)) ?_)
    unfold clashB
    rw [hu]

theorem sc_clash : FnScope N_clash ["one", "other"] (defScope s_clash) := ⟨rfl, rfl, rfl, by decide +kernel, rfl, by decide +kernel, by decide +kernel⟩
section
variable {P : Program} {w : World} {K : PySem.W.Frag} {mg : Str → Option Value} {base : Heap}
theorem b_clash (T : FxE P K mg) : Binds K T.f_clash.fd ["one", "other"] [] := T.f_clash.F.bindsN fun _ _ _ _ _ _ us hl => match us, hl with | [_, _], _ => rfl
theorem d_clash (T : FxE P K mg) {cdv : Value} {A : Around} {outer : List Env} {s : Shared} {H : Hp} {E : XK} (hr : Room 3 (A.deeper (envOfC "clash" (defScope s_clash) s.heap.objs.size T.f_clash.f cdv))) : PSs (cxOf CX0 P w K mg base N_clash "clash" (defScope s_clash) T.f_clash.f cdv A outer s H E).nox (defBody s_clash) (t_clash K T.C T.R) :=
  have nd := sc_clash.nd
  (pss_cons (ps_set (i := 2) nd rfl (by first | exact Or.inl rfl | exact Or.inr rfl) (pe_call (ok_unlike T.toFx) (hr.mono (by decide)) rfl T.f_unlike.g T.f_unlike.F.kp (b_unlike T.toFx) .nil pass0 (pa_cons (pv 0) (pa_cons (pv 1) pa_nil))))
  (pss_cons (ps_if (pt_cmpR (op_eqD hr.units) (pv 2) (pe_tup pa_nil) (nomark _)) (pss_one (ps_ret pe_bl)) pss_nil)
  (pss_cons (ps_asg (pe_call (ok_elimination_sum T) (hr.mono (by decide)) rfl T.f_elimination_sum.g T.f_elimination_sum.F.kp (b_elimination_sum T) .nil passE0 (pa_cons (pv 0) (pa_cons (pv 1) (pa_cons (pe_ix ix_tup (pv 2) pe_int (fun _ _ => rfl)) pa_nil)))) (pg_tup rfl (pgs_cons (pg_name (i := 3) nd rfl (by first | exact Or.inl rfl | exact Or.inr rfl)) (pgs_cons (pg_name (i := 4) nd rfl (by first | exact Or.inl rfl | exact Or.inr rfl)) pgs_nil))))
  (pss_one (ps_ret (pe_and (pe_cmpR op_gt (pv 4) pe_int (nomark _)) (pe_one (pe_not (pe_callB (cr_any rfl) rfl T.b_any boot_any (pa_cons (pe_lc (own := [("part", 5)]) (g := (gName 5)) (tt := tYes) rfl nd (pi_tup (pv 3)) (blkOk_by (by kernel_rfl)) (fun _ _ _ _ _ => (pg_name (i := 5) nd rfl (by first | exact Or.inl rfl | exact Or.inr rfl))) (fun _ _ _ _ _ => pts_nil) (fun _ _ _ _ _ => (pe_cmpR op_ne (pv 5) pe_int (nomark _)))) pa_nil))))))))))
theorem ok_clash (T : FxE P K mg) : FnOk P w K mg base CX0 4 T.f_clash.f T.f_clash.fd ["one", "other"] (sp_clash T.C) :=
  T.f_clash.F.ok sc_clash (fun vs H Q E ⟨A, x, _, r, _⟩ => by rw [r.length]; rfl) fun cdv A outer s H vs Q E hr h => ⟨t_clash K T.C T.R, PSs.nox (d_clash T hr), run_P K h fun W k x hC hK hp => by subst hK; rw [← hC]; exact sd_clash W k T.R x hp⟩
end
end DL
namespace DL
open PySem PySem.Spec PyProof.Rows L2 Hd
/-! ### eliminations -/
def rowAt (rs : List Row) (a : Nat) : Row := rs.getD a ([], 0)
def posN (l : List Int) : Nat := (l.filter fun x => decide (0 < x)).length
def negN (l : List Int) : Nat := (l.filter fun x => decide (x < 0)).length
def colE (rs : List Row) (i : Nat) : List Int := rs.map fun r => gi r.1 i
def manyE (rs : List Row) (n : Nat) : Int := ((List.range n).map fun i => (posN (colE rs i) : Int) * (negN (colE rs i) : Int)).sum
def cellE (rs : List Row) (a b : Nat) : List (Nat × Nat × Nat) := ((unl (rowAt rs a).1 (rowAt rs b).1).filter fun i => decide (0 < gi (rowAt rs a).1 i)).map fun i => (a, b, i)
def lineE (rs : List Row) (a b : Nat) : List (Nat × Nat × Nat) := (List.range b).flatMap fun j => cellE rs a j
def tripsE (rs : List Row) (a : Nat) : List (Nat × Nat × Nat) := (List.range a).flatMap fun i => lineE rs i rs.length
def trD (t : Nat × Nat × Nat) : Dt := .tup [.int (t.1 : Nat), .int (t.2.1 : Nat), .int (t.2.2 : Nat)]
structure SysOk (x : List Str × List Row) : Prop where
  n : namesOk x.1
  r : rowsOk x.1.length x.2
abbrev sp_eliminations (C R : Addr) : Sp := spX C R (G := List Str × List Row) (fun x => [sysD x.1 x.2]) SysOk (fun x d => ¬ 3000 < manyE x.2 x.1.length ∧ d = .tup ((tripsE x.2 x.2.length).map trD)) (fun x w => 3000 < manyE x.2 x.1.length ∧ w = "wide")

abbrev N_eliminations : List Str := ["system", "many", "at", "parts", "coefficients", "bound", "part", "found", "one", "row", "other", "more"]
def t_eliminations (K : PySem.W.Frag) (C R : Addr) (E : XK) : TS := (tSeq (tAsg (tC (.int 0)) (gName 1))
  (tSeq (tFor (iRng1 (tCons (tCB (rLen K) (tCons (tFld K (tVar 0) "names") tNil)) tNil)) (gName 2) (tSeq (tAsg (tLc (iTup K (tFld K (tVar 0) "rows")) (gTup K 2 (gCons (gName 4) (gCons (gName 5) gNil))) tYes (tOp (rIxT K) (tVar 4) (tVar 2)) [4, 5]) (gName 3))
  (tAug 1 (tOp rMulW (tCB (rLen K) (tCons (tLc (iList K (tVar 3)) (gName 6) (tTest (tOp rGtI (tVar 6) (tC (.int 0)))) (tVar 6) [6]) tNil)) (tCB (rLen K) (tCons (tLc (iList K (tVar 3)) (gName 6) (tTest (tOp rLtI (tVar 6) (tC (.int 0)))) (tVar 6) [6]) tNil))) (ipI fun i j => i + j))))
  (tSeq (tIfS (tTest (tOp rGtI (tVar 1) (tC (.int 3000)))) (tRaiseR R E (tCons (tC (.str "wide")) tNil)) tNext)
  (tSeq (tAsg (tLst tNil) (gName 7))
  (tSeq (tFor (iEnumT K (tCons (tFld K (tVar 0) "rows") tNil)) (gTup K 2 (gCons (gName 8) (gCons (gName 9) gNil))) (tFor (iEnumT K (tCons (tFld K (tVar 0) "rows") tNil)) (gTup K 2 (gCons (gName 10) (gCons (gName 11) gNil))) (tDrop (tBM K "list" rExtend (tVar 7) (tCons (tLc (iTup K (tCall (sp_unlike C) [] E0 (tCons (tVar 9) (tCons (tVar 11) tNil)))) (gName 2) (tTest (tOp rGtI (tOp (rIxT K) (tOp (rIxT K) (tVar 9) (tC (.int 0))) (tVar 2)) (tC (.int 0)))) (tTup (tCons (tVar 8) (tCons (tVar 10) (tCons (tVar 2) tNil)))) [2]) tNil)))))
  (tRet (tCB (rTuple K) (tCons (tVar 7) tNil))))))))
theorem rg_inv {f : Nat → Dt} {n i : Nat} {d : Dt} (h : ((List.range n).map f)[i]? = some d) : i < n ∧ d = f i := by
  have hi : i < n := by have := (List.getElem?_eq_some_iff.mp h).1; simpa using this
  rw [List.getElem?_map, List.getElem?_range hi] at h
  simp only [Option.map_some, Option.some.injEq] at h
  exact ⟨hi, h.symm⟩
theorem rowAt_mem {rs : List Row} {a : Nat} (h : a < rs.length) : rowAt rs a ∈ rs := by
  unfold rowAt
  rw [List.getD_eq_getElem?_getD, List.getElem?_eq_getElem h]
  exact List.getElem_mem h
theorem rows_rg (rs : List Row) : rs.map rD = (List.range rs.length).map fun a => rD (rowAt rs a) := getD_rg rs ([], 0) rD
theorem unl_len (p q : List Int) : (unl p q).length ≤ p.length := by
  unfold unl
  have := List.length_filter_le (fun i => decide (gi p i * gi q i < 0)) (List.range p.length)
  simpa using this
theorem cellE_len {rs : List Row} {n a b : Nat} (h : (rowAt rs a).1.length = n) : (cellE rs a b).length ≤ n := by
  unfold cellE
  rw [List.length_map]
  refine Nat.le_trans (List.length_filter_le _ _) ?_
  rw [← h]; exact unl_len _ _
theorem lineE_succ (rs : List Row) (a b : Nat) : lineE rs a (b + 1) = lineE rs a b ++ cellE rs a b := by
  unfold lineE; rw [List.range_succ, List.flatMap_append]; simp
theorem tripsE_succ (rs : List Row) (a : Nat) : tripsE rs (a + 1) = tripsE rs a ++ lineE rs a rs.length := by
  unfold tripsE; rw [List.range_succ, List.flatMap_append]; simp
theorem lineE_len {rs : List Row} {n a : Nat} (h : (rowAt rs a).1.length = n) : ∀ b : Nat, (lineE rs a b).length ≤ b * n
  | 0 => by simp [lineE]
  | b + 1 => by
    rw [lineE_succ, List.length_append, Nat.succ_mul]
    exact Nat.add_le_add (lineE_len h b) (cellE_len h)
theorem tripsE_len {rs : List Row} {n : Nat} (h : ∀ r ∈ rs, r.1.length = n) : ∀ a : Nat, a ≤ rs.length → (tripsE rs a).length ≤ a * (rs.length * n)
  | 0, _ => by simp [tripsE]
  | a + 1, ha => by
    rw [tripsE_succ, List.length_append, Nat.succ_mul]
    exact Nat.add_le_add (tripsE_len h a (by omega)) (lineE_len (h _ (rowAt_mem (by omega))) _)
theorem manyE_succ (rs : List Row) (n : Nat) : manyE rs (n + 1) = manyE rs n + (posN (colE rs n) : Int) * (negN (colE rs n) : Int) := by
  unfold manyE; rw [List.range_succ, List.map_append, List.sum_append]; simp
theorem filt_len (l : List Int) (b : Int → Bool) : ((l.filter b).map fun x => Dt.int x).length = (l.filter b).length := by simp
theorem sd_eliminations (W : Wd) (k : W.Ok) (R : Addr) (E : XK) (hA : Attrs W.K W.C) (x : List Str × List Row) (hp : SysOk x) : Sd W (t_eliminations W.K W.C R E) (startD N_eliminations.length [sysD x.1 x.2]) { rt := fun d => ¬ 3000 < manyE x.2 x.1.length ∧ d = .tup ((tripsE x.2 x.2.length).map trD), nx := fun _ => ¬ 3000 < manyE x.2 x.1.length ∧ Dt.non = .tup ((tripsE x.2 x.2.length).map trD), R := R, E := E, ex := fun w => 3000 < manyE x.2 x.1.length ∧ w = "wide" } := by
  obtain ⟨ns, rs⟩ := x
  obtain ⟨⟨hn1, hn6, _⟩, hr60, hrs, _⟩ := hp
  simp only at hn1 hn6 hr60 hrs ⊢
  have hl : ∀ r ∈ rs, r.1.length = ns.length := fun r h => (hrs r h).1
  have hb : ∀ r ∈ rs, Bd 400 (r.2 :: r.1) := fun r h => (hrs r h).2.2.2.up (by decide)
  refine sq_asgE ed_int (of_decide_eq_true rfl) ?_
  refine sq_for k (yg_rangeN (n := ns.length) (ea_cons (Ed.to (ed_cb (ea_cons (ed_names hA.c hA.n (ed_var rfl)) ea_nil) cd_lenT) (by rw [List.length_map])) ea_nil) (by omega)) (fun i δ => ∃ q2 q3 : Option Sl, δ = [some (.sh (sysD ns rs)), some (.sh (.int (manyE rs i))), q2, q3, none, none, none, none, none, none, none, none]) ⟨none, none, rfl⟩ ?_ ?_
  · rintro i d δ' hd ⟨q2, q3, rfl⟩
    obtain ⟨hi, rfl⟩ := rg_inv hd
    refine ⟨_, _, tg_name (of_decide_eq_true rfl), ?_⟩
    refine sq_asgE (d := .lst ((colE rs i).map Dt.int)) ((Ef.ed (ef_lcAll rs rD (fun r => .int (gi r.1 i)) k (YlG.yl (yg_tup (ed_rows hA.c hA.r (ed_var rfl)))) (by omega) fun r hr => ⟨_, _, tg_names2 (of_decide_eq_true rfl) (of_decide_eq_true rfl), by simp, ed_op (ed_var rfl) (ed_var rfl) (od_ixT (gi_atI (by have := hl r hr; omega)))⟩)).to (by unfold colE; rw [List.map_map]; rfl)) (of_decide_eq_true rfl) ?_
    have hcl : (colE rs i).length ≤ 60 := by unfold colE; rw [List.length_map]; exact hr60
    have e1 : ∀ b : Int → Bool, ((colE rs i).filter b).length ≤ 60 := fun b => Nat.le_trans (List.length_filter_le _ _) hcl
    refine sd_augI (a := manyE rs i) (b := (posN (colE rs i) : Int) * (negN (colE rs i) : Int)) rfl (ed_op (Ed.to (ed_lenC (Ef.ec (ef_lc (colE rs i) Dt.int (fun v => decide (0 < v)) Dt.int k (YlG.yl (yg_list (ed_var rfl))) (by omega) fun v hv => ⟨_, _, tg_name (of_decide_eq_true rfl), by simp, et_test (ed_op (ed_var rfl) ed_int od_B0), fun _ => ed_var rfl⟩))) (by rw [filt_len]; rfl)) (Ed.to (ed_lenC (Ef.ec (ef_lc (colE rs i) Dt.int (fun v => decide (v < 0)) Dt.int k (YlG.yl (yg_list (ed_var rfl))) (by omega) fun v hv => ⟨_, _, tg_name (of_decide_eq_true rfl), by simp, et_test (ed_op (ed_var rfl) ed_int od_B0), fun _ => ed_var rfl⟩))) (by rw [filt_len]; rfl)) (od_I (mul_ok (m := 10) (n := 10) (by have := e1 (fun v => decide (0 < v)); unfold posN; omega) (by have := e1 (fun v => decide (v < 0)); unfold negN; omega) (by decide)))) ⟨_, _, by rw [manyE_succ]; rfl⟩
  rintro δ' ⟨q2, q3, rfl⟩
  have ern : ((List.range ns.length).map fun k => Dt.int (k : Nat)).length = ns.length := by simp
  rw [ern]
  refine sq_when (et_test (ed_op (ed_var rfl) ed_int od_B0)) (fun h => sd_raise k rfl rfl ⟨by simpa using h, rfl⟩) fun h => ?_
  have hw : ¬ 3000 < manyE rs ns.length := by simpa using h
  refine sq_asgOE (ef_lst k ea_nil (by simp)) (of_decide_eq_true rfl) ?_
  refine sq_for k ((yg_enumT (ea_cons (ed_rows hA.c hA.r (ed_var rfl)) ea_nil)).to (by rw [rows_rg, enumD_rg])) (fun a δ => ∃ q8 q9 q10 q11 : Option Sl, δ = [some (.sh (sysD ns rs)), some (.sh (.int (manyE rs ns.length))), q2, q3, none, none, none, some (.own ((tripsE rs a).map trD)), q8, q9, q10, q11]) ⟨none, none, none, none, rfl⟩ ?_ ?_
  · rintro a d δ' hd ⟨q8, q9, q10, q11, rfl⟩
    obtain ⟨ha, rfl⟩ := rg_inv hd
    refine ⟨_, _, tg_names2 (of_decide_eq_true rfl) (of_decide_eq_true rfl), ?_⟩
    refine sd_for k ((yg_enumT (ea_cons (ed_rows hA.c hA.r (ed_var rfl)) ea_nil)).to (by rw [rows_rg, enumD_rg])) (fun b δ => ∃ q10 q11 : Option Sl, δ = [some (.sh (sysD ns rs)), some (.sh (.int (manyE rs ns.length))), q2, q3, none, none, none, some (.own ((tripsE rs a ++ lineE rs a b).map trD)), some (.sh (.int (a : Nat))), some (.sh (rD (rowAt rs a))), q10, q11]) ⟨q10, q11, by simp [lineE]⟩ ?_ ?_
    · rintro b d δ' hd ⟨q10, q11, rfl⟩
      obtain ⟨hb', rfl⟩ := rg_inv hd
      refine ⟨_, _, tg_names2 (of_decide_eq_true rfl) (of_decide_eq_true rfl), ?_⟩
      have ra := rowAt_mem ha
      have rb := rowAt_mem hb'
      have T : TwoOk ns.length (rowAt rs a, rowAt rs b) := ⟨hl _ ra, hl _ rb, by omega, hb _ ra, hb _ rb⟩
      have l1 := tripsE_len hl a (by omega)
      have l2 := lineE_len (rs := rs) (hl _ ra) b
      have l3 := cellE_len (rs := rs) (b := b) (hl _ ra)
      have m1 : a * (rs.length * ns.length) ≤ 60 * (60 * 6) := Nat.mul_le_mul (by omega) (Nat.mul_le_mul hr60 hn6)
      have m2 : b * ns.length ≤ 60 * 6 := Nat.mul_le_mul (by omega) hn6
      refine sd_extend (es := (cellE rs a b).map trD) k rfl (Ef.to (ef_lc (unl (rowAt rs a).1 (rowAt rs b).1) (fun i => .int (i : Nat)) (fun i => decide (0 < gi (rowAt rs a).1 i)) (fun i => trD (a, b, i)) k (YlG.yl (yg_tup (ed_call (rowAt rs a, rowAt rs b) k (ea_cons (ed_var rfl) (ea_cons (ed_var rfl) ea_nil)) ⟨_, T⟩ fun d e => e))) (by have := unl_len (rowAt rs a).1 (rowAt rs b).1; have := hl _ ra; omega) fun i hi => ⟨_, _, tg_name (of_decide_eq_true rfl), by simp, et_test (ed_op (ed_op (ed_op (ed_var rfl) ed_int (od_ixT rfl)) (ed_var rfl) (od_ixT (gi_atI (unl_mem hi).1))) ed_int od_B0), fun _ => ed_tup k (ea_cons (ed_var rfl) (ea_cons (ed_var rfl) (ea_cons (ed_var rfl) ea_nil))) (by simp)⟩) (by unfold cellE; rw [List.map_map]; rfl)) (by rw [List.length_map, List.length_map, List.length_append]; omega) ⟨_, _, by rw [lineE_succ, ← List.append_assoc, List.map_append (l₂ := cellE rs a b)]; rfl⟩
    · rintro δ' ⟨q10, q11, rfl⟩
      exact ⟨some (.sh (.int (a : Nat))), some (.sh (rD (rowAt rs a))), q10, q11, by rw [tripsE_succ, List.length_map, List.length_range]⟩
  rintro δ' ⟨q8, q9, q10, q11, rfl⟩
  have ern : ((List.range rs.length).map fun i => Dt.tup [.int (i : Nat), rD (rowAt rs i)]).length = rs.length := by simp
  rw [ern]
  exact sd_ret (er_tupleC k (ec_var rfl) ⟨hw, rfl⟩)

theorem sc_eliminations : FnScope N_eliminations ["system"] (defScope s_eliminations) := ⟨rfl, rfl, rfl, by decide +kernel, rfl, by decide +kernel, by decide +kernel⟩
section
variable {P : Program} {w : World} {K : PySem.W.Frag} {mg : Str → Option Value} {base : Heap}
theorem b_eliminations (T : FxE P K mg) : Binds K T.f_eliminations.fd ["system"] [] := T.f_eliminations.F.bindsN fun _ _ _ _ _ _ us hl => match us, hl with | [_], _ => rfl
theorem d_eliminations (T : FxE P K mg) {cdv : Value} {A : Around} {outer : List Env} {s : Shared} {H : Hp} {E : XK} (hr : Room 2 (A.deeper (envOfC "eliminations" (defScope s_eliminations) s.heap.objs.size T.f_eliminations.f cdv))) : PSs (cxOf (L2.CX P w) P w K mg base N_eliminations "eliminations" (defScope s_eliminations) T.f_eliminations.f cdv A outer s H E) (defBody s_eliminations) (t_eliminations K T.C T.R E) :=
  have nd := sc_eliminations.nd
  (pss_cons (ps_set (i := 1) nd rfl (by first | exact Or.inl rfl | exact Or.inr rfl) pe_int)
  (pss_cons (ps_for (passes_of rfl) rfl (pi_range1 rfl T.b_range (pa_cons (pe_callB call_len rfl T.b_len boot_len (pa_cons (pe_fld (pv 0) rfl) pa_nil)) pa_nil)) (pg_name (i := 2) nd rfl (by first | exact Or.inl rfl | exact Or.inr rfl)) (pss_cons (ps_setLc (i := 3) (own := [("coefficients", 4), ("bound", 5)]) (g := (gTup K 2 (gCons (gName 4) (gCons (gName 5) gNil)))) (tt := tYes) rfl nd rfl rfl (sw_true rfl rfl rfl (by kernel_rfl)) (pi_tup (pe_fld (pv 0) rfl)) (blkOk_by (by kernel_rfl)) (fun _ _ _ _ _ => (pg_tup rfl (pgs_cons (pg_name (i := 4) nd rfl (by first | exact Or.inl rfl | exact Or.inr rfl)) (pgs_cons (pg_name (i := 5) nd rfl (by first | exact Or.inl rfl | exact Or.inr rfl)) pgs_nil)))) (fun _ _ _ _ _ => pts_nil) (fun _ _ _ _ _ => (pe_ix ix_tup (pv 4) (pv 2) (fun _ _ => rfl))))
  (pss_one (ps_aug (i := 1) nd rfl (by first | exact Or.inl rfl | exact Or.inr rfl) (pe_op op_mulW (pe_callB call_len rfl T.b_len boot_len (pa_cons (pe_lc (own := [("part", 6)]) (g := (gName 6)) (tt := (tTest (tOp rGtI (tVar 6) (tC (.int 0))))) rfl nd (pi_list (pv 3)) (blkOk_by (by kernel_rfl)) (fun _ _ _ _ _ => (pg_name (i := 6) nd rfl (by first | exact Or.inl rfl | exact Or.inr rfl))) (fun _ _ _ _ _ => (pts_one (pt_cmpR op_gt (pv 6) pe_int (nomark _)))) (fun _ _ _ _ _ => (pv 6))) pa_nil)) (pe_callB call_len rfl T.b_len boot_len (pa_cons (pe_lc (own := [("part", 6)]) (g := (gName 6)) (tt := (tTest (tOp rLtI (tVar 6) (tC (.int 0))))) rfl nd (pi_list (pv 3)) (blkOk_by (by kernel_rfl)) (fun _ _ _ _ _ => (pg_name (i := 6) nd rfl (by first | exact Or.inl rfl | exact Or.inr rfl))) (fun _ _ _ _ _ => (pts_one (pt_cmpR op_lt (pv 6) pe_int (nomark _)))) (fun _ _ _ _ _ => (pv 6))) pa_nil))) ip_add))))
  (pss_cons (ps_if (pt_cmpR op_gt (pv 1) (pe_glob rfl T.k_MOST_ELIMINATIONS ⟨_, rfl⟩) (nomark _)) (pss_one (ps_raiseR T.X rfl (takes_of rfl rfl rfl rfl) (hr.mono (by decide)) rfl T.g_Refused (pa_cons pe_str pa_nil))) pss_nil)
  (pss_cons (ps_set (i := 7) nd rfl (by first | exact Or.inl rfl | exact Or.inr rfl) (pe_lst pa_nil))
  (pss_cons (ps_for (passes_of rfl) rfl (pi_enumT rfl T.b_enumerate (pa_cons (pe_fld (pv 0) rfl) pa_nil)) (pg_tup rfl (pgs_cons (pg_name (i := 8) nd rfl (by first | exact Or.inl rfl | exact Or.inr rfl)) (pgs_cons (pg_name (i := 9) nd rfl (by first | exact Or.inl rfl | exact Or.inr rfl)) pgs_nil))) (pss_one (ps_for (passes_of rfl) rfl (pi_enumT rfl T.b_enumerate (pa_cons (pe_fld (pv 0) rfl) pa_nil)) (pg_tup rfl (pgs_cons (pg_name (i := 10) nd rfl (by first | exact Or.inl rfl | exact Or.inr rfl)) (pgs_cons (pg_name (i := 11) nd rfl (by first | exact Or.inl rfl | exact Or.inr rfl)) pgs_nil))) (pss_one (ps_expr (pe_bm PySem.F.plainAttrs_list PySem.F.slot_list_extend PySem.F.type_list_extend mt_extend (pv 7) (pa_cons (pe_lc (own := [("at", 2)]) (g := (gName 2)) (tt := (tTest (tOp rGtI (tOp (rIxT K) (tOp (rIxT K) (tVar 9) (tC (.int 0))) (tVar 2)) (tC (.int 0))))) rfl nd (pi_tup (pe_call (ok_unlike T.toFx) (hr.mono (by decide)) rfl T.f_unlike.g T.f_unlike.F.kp (b_unlike T.toFx) .nil pass0 (pa_cons (pv 9) (pa_cons (pv 11) pa_nil)))) (blkOk_by (by kernel_rfl)) (fun _ _ _ _ _ => (pg_name (i := 2) nd rfl (by first | exact Or.inl rfl | exact Or.inr rfl))) (fun _ _ _ _ _ => (pts_one (pt_cmpR op_gt (pe_ix ix_tup (pe_ix ix_tup (pv 9) pe_int (fun _ _ => rfl)) (pv 2) (fun _ _ => rfl)) pe_int (nomark _)))) (fun _ _ _ _ _ => (pe_tup (pa_cons (pv 8) (pa_cons (pv 10) (pa_cons (pv 2) pa_nil)))))) pa_nil)))))))
  (pss_one (ps_ret (pe_callTy call_tuple_of rfl T.b_tuple boot_tuple (pa_cons (pv 7) pa_nil)))))))))
theorem ok_eliminations (T : FxE P K mg) : FnOk P w K mg base (L2.CX P w) 3 T.f_eliminations.f T.f_eliminations.fd ["system"] (sp_eliminations T.C T.R) :=
  T.f_eliminations.F.ok sc_eliminations (fun vs H Q E ⟨A, x, _, r, _⟩ => by rw [r.length]; rfl) fun cdv A outer s H vs Q E hr h => ⟨t_eliminations K T.C T.R E, d_eliminations T hr, run_X K h fun W k x hC hK hp => by subst hK; rw [← hC]; exact sd_eliminations W k T.R E (by rw [hC]; exact ⟨T.clC, T.noN, T.noR⟩) x hp⟩
end
end DL
/-! when two rows clash -/
namespace DL
open PySem PySem.Spec PyProof.Rows L2 Hd
theorem elimP_all {n : Nat} {x : Row × Row} {i : Nat} : ((elimP n x i).any fun y => !decide (y = 0)) = false ↔ ∀ j, j < n → ((gi x.2.1 i).natAbs : Int) * gi x.1.1 j + ((gi x.1.1 i).natAbs : Int) * gi x.2.1 j = 0 := by
  unfold elimP
  rw [List.any_map, List.any_eq_false]
  constructor
  · intro h j hj
    have := h j (List.mem_range.mpr hj)
    simpa using this
  · intro h j hj
    have := h j (List.mem_range.mp hj)
    simp only [Function.comp, this]
    decide
structure Cl (n : Nat) (x : Row × Row) (Y Z : Int) : Prop where
  y : 0 ≤ Y
  z : 0 ≤ Z
  s : ∀ j, j < n → Y * gi x.1.1 j + Z * gi x.2.1 j = 0
  b : 0 < Y * x.1.2 + Z * x.2.2
theorem gi_nz {l : List Int} (h : ∃ y ∈ l, y ≠ 0) : ∃ j, j < l.length ∧ gi l j ≠ 0 := by
  obtain ⟨y, hy, h0⟩ := h
  obtain ⟨j, hj, e⟩ := List.mem_iff_getElem.mp hy
  refine ⟨j, hj, ?_⟩
  unfold gi
  rw [List.getD_eq_getElem?_getD, List.getElem?_eq_getElem hj, e]
  exact h0
structure NzP (n : Nat) (x : Row × Row) : Prop where
  l : x.1.1.length = n
  l2 : x.2.1.length = n
  a : ∃ y ∈ x.1.1, y ≠ 0
  b : ∃ y ∈ x.2.1, y ≠ 0
theorem NzP.swap {n : Nat} {x : Row × Row} (h : NzP n x) : NzP n (x.2, x.1) := ⟨h.l2, h.l, h.b, h.a⟩
theorem Cl.swap {n : Nat} {x : Row × Row} {Y Z : Int} (h : Cl n x Y Z) : Cl n (x.2, x.1) Z Y := ⟨h.z, h.y, fun j hj => by have := h.s j hj; show Z * gi x.2.1 j + Y * gi x.1.1 j = 0; omega, by have := h.b; show 0 < Z * x.2.2 + Y * x.1.2; omega⟩
theorem Cl.pos {n : Nat} {x : Row × Row} {Y Z : Int} (N : NzP n x) (h : Cl n x Y Z) : 0 < Y := by
  rcases Int.lt_or_eq_of_le h.y with g | g
  · exact g
  · exfalso
    obtain ⟨j, hj, h0⟩ := gi_nz N.b
    have := h.s j (by rw [← N.l2]; exact hj)
    rw [← g, Int.zero_mul, Int.zero_add] at this
    rcases Int.mul_eq_zero.mp this with z | z
    · have := h.b
      rw [← g, z] at this
      simp at this
    · exact h0 z
theorem abs_eq {Y Z p q : Int} (hY : 0 < Y) (hZ : 0 < Z) (h : Y * p + Z * q = 0) : Y * (p.natAbs : Int) = Z * (q.natAbs : Int) := by
  have e : Y * p = Z * (-q) := by rw [Int.mul_neg]; omega
  have e2 := congrArg Int.natAbs e
  rw [Int.natAbs_mul, Int.natAbs_mul, Int.natAbs_neg] at e2
  have : ((Y.natAbs * p.natAbs : Nat) : Int) = ((Z.natAbs * q.natAbs : Nat) : Int) := by rw [e2]
  rw [Int.natCast_mul, Int.natCast_mul] at this
  have hy : (Y.natAbs : Int) = Y := by omega
  have hz : (Z.natAbs : Int) = Z := by omega
  rwa [hy, hz] at this
theorem neg_of {Y Z p q : Int} (hY : 0 < Y) (hZ : 0 < Z) (h : Y * p + Z * q = 0) (hp : p ≠ 0) : p * q < 0 := by
  have e : Y * p = -(Z * q) := by omega
  rcases Int.lt_or_gt_of_ne hp with g | g
  · have h1 : Y * p < 0 := Int.mul_neg_of_pos_of_neg hY g
    have h2 : 0 < Z * q := by omega
    have h3 : 0 < q := by
      rcases Int.lt_trichotomy q 0 with z | z | z
      · have := Int.mul_neg_of_pos_of_neg hZ z; omega
      · rw [z] at h2; simp at h2
      · exact z
    exact Int.mul_neg_of_neg_of_pos g h3
  · have h1 : 0 < Y * p := Int.mul_pos hY g
    have h2 : Z * q < 0 := by omega
    have h3 : q < 0 := by
      rcases Int.lt_trichotomy q 0 with z | z | z
      · exact z
      · rw [z] at h2; simp at h2
      · have := Int.mul_pos hZ z; omega
    exact Int.mul_neg_of_pos_of_neg g h3
/-- at every place of unlike signs -/
theorem Cl.at_ {n : Nat} {x : Row × Row} {Y Z : Int} (N : NzP n x) (h : Cl n x Y Z) {i : Nat} (hi : i < n) (hn : gi x.1.1 i * gi x.2.1 i < 0) : 0 < elimB x i ∧ ∀ j, j < n → ((gi x.2.1 i).natAbs : Int) * gi x.1.1 j + ((gi x.1.1 i).natAbs : Int) * gi x.2.1 j = 0 := by
  have hY := h.pos N
  have hZ : 0 < Z := h.swap.pos N.swap
  have e := abs_eq hY hZ (h.s i hi)
  have hp : gi x.1.1 i ≠ 0 := fun z => by rw [z] at hn; simp at hn
  have hpa : 0 < ((gi x.1.1 i).natAbs : Int) := by omega
  refine ⟨?_, fun j hj => ?_⟩
  · have key : Z * elimB x i = ((gi x.1.1 i).natAbs : Int) * (Y * x.1.2 + Z * x.2.2) := by
      unfold elimB
      generalize ((gi x.1.1 i).natAbs : Int) = P at e ⊢
      generalize ((gi x.2.1 i).natAbs : Int) = Q at e ⊢
      grind
    have : 0 < Z * elimB x i := by rw [key]; exact Int.mul_pos hpa h.b
    exact Int.pos_of_mul_pos_right this hZ |> fun h => h
  · have key : Z * (((gi x.2.1 i).natAbs : Int) * gi x.1.1 j + ((gi x.1.1 i).natAbs : Int) * gi x.2.1 j) = ((gi x.1.1 i).natAbs : Int) * (Y * gi x.1.1 j + Z * gi x.2.1 j) := by
      generalize ((gi x.1.1 i).natAbs : Int) = P at e ⊢
      generalize ((gi x.2.1 i).natAbs : Int) = Q at e ⊢
      grind
    rw [h.s j hj, Int.mul_zero] at key
    rcases Int.mul_eq_zero.mp key with z | z
    · omega
    · exact z
theorem clash_of {n : Nat} {x : Row × Row} {Y Z : Int} (N : NzP n x) (h : Cl n x Y Z) : clashB n x = true := by
  have hY := h.pos N
  have hZ : 0 < Z := h.swap.pos N.swap
  obtain ⟨j, hj, h0⟩ := gi_nz N.a
  have hneg := neg_of hY hZ (h.s j (by rw [← N.l]; exact hj)) h0
  have hm : j ∈ unl x.1.1 x.2.1 := by
    unfold unl
    rw [List.mem_filter]
    exact ⟨List.mem_range.mpr hj, by simpa using hneg⟩
  unfold clashB
  cases hu : unl x.1.1 x.2.1 with
  | nil => rw [hu] at hm; simp at hm
  | cons i l =>
    obtain ⟨hi, hn⟩ := unl_mem (p := x.1.1) (q := x.2.1) (i := i) (by rw [hu]; exact List.mem_cons_self)
    obtain ⟨h1, h2⟩ := h.at_ N (by rw [← N.l]; exact hi) hn
    show (decide (0 < elimB x i) && !((elimP n x i).any fun y => !decide (y = 0))) = true
    rw [decide_eq_true h1, elimP_all.mpr h2]
    rfl
theorem cl_of_at {n : Nat} {x : Row × Row} {i : Nat} (h1 : 0 < elimB x i) (h2 : ∀ j, j < n → ((gi x.2.1 i).natAbs : Int) * gi x.1.1 j + ((gi x.1.1 i).natAbs : Int) * gi x.2.1 j = 0) : Cl n x ((gi x.2.1 i).natAbs : Int) ((gi x.1.1 i).natAbs : Int) := ⟨by omega, by omega, h2, h1⟩
theorem clash_cl {n : Nat} {x : Row × Row} (h : clashB n x = true) : ∃ Y Z, Cl n x Y Z := by
  unfold clashB at h
  cases hu : unl x.1.1 x.2.1 with
  | nil => rw [hu] at h; cases h
  | cons i l =>
    rw [hu] at h
    simp only [Bool.and_eq_true, Bool.not_eq_true', decide_eq_true_eq] at h
    exact ⟨_, _, cl_of_at h.1 (elimP_all.mp h.2)⟩
theorem clash_swap {n : Nat} {x : Row × Row} (N : NzP n x) : clashB n (x.2, x.1) = clashB n x := by
  rw [Bool.eq_iff_iff]
  constructor
  · intro h
    obtain ⟨Y, Z, c⟩ := clash_cl h
    exact clash_of N c.swap
  · intro h
    obtain ⟨Y, Z, c⟩ := clash_cl h
    exact clash_of N.swap c.swap
/-- the law's own word: at some place -/
theorem clash_any {n : Nat} {x : Row × Row} (N : NzP n x) : clashB n x = ((unl x.1.1 x.2.1).any fun i => !((elimP n x i).any fun y => !decide (y = 0)) && decide (0 < elimB x i)) := by
  rw [Bool.eq_iff_iff, List.any_eq_true]
  constructor
  · intro h
    obtain ⟨Y, Z, c⟩ := clash_cl h
    have h' := h
    unfold clashB at h'
    cases hu : unl x.1.1 x.2.1 with
    | nil => rw [hu] at h'; cases h'
    | cons i l =>
      rw [hu] at h'
      simp only [Bool.and_eq_true, Bool.not_eq_true', decide_eq_true_eq] at h'
      exact ⟨i, List.mem_cons_self, by simp only [Bool.and_eq_true, Bool.not_eq_true', decide_eq_true_eq]; exact ⟨h'.2, h'.1⟩⟩
  · rintro ⟨i, hi, h⟩
    simp only [Bool.and_eq_true, Bool.not_eq_true', decide_eq_true_eq] at h
    exact clash_of N (cl_of_at h.2 (elimP_all.mp h.1))
end DL
/-! sums of fractions -/
namespace DL
open PySem PySem.Spec PyProof.Rows L2 Hd
theorem stepF_inv {U V v : Int} {s : Int × Int} {z : Pr} (hs : s.1 * U = s.2 * V) (hz : z.1 * z.2.2.1 * U = v * (z.2.1 * z.2.2.2)) : (stepF s z).1 * U = (stepF s z).2 * (V + v) := by
  obtain ⟨a, b⟩ := s
  obtain ⟨p, q, r, t⟩ := z
  unfold stepF
  simp only at hs hz ⊢
  grind
theorem sumF_law {U : Int} (val : Nat → Int) (pr : Nat → Pr) : ∀ (L : List Nat) (s : Int × Int) (V : Int), s.1 * U = s.2 * V → 0 < s.2 → (∀ c ∈ L, 0 < (pr c).2.1 ∧ 0 < (pr c).2.2.2 ∧ (pr c).1 * (pr c).2.2.1 * U = val c * ((pr c).2.1 * (pr c).2.2.2)) →
    0 < ((L.map pr).foldl stepF s).2 ∧ ((L.map pr).foldl stepF s).1 * U = ((L.map pr).foldl stepF s).2 * (V + (L.map val).sum)
  | [], s, V, h1, h2, _ => ⟨h2, by simpa using h1⟩
  | c :: L, s, V, h1, h2, h3 => by
    obtain ⟨p1, p2, p3⟩ := h3 c List.mem_cons_self
    have := sumF_law val pr L (stepF s (pr c)) (V + val c) (stepF_inv h1 p3) (Int.mul_pos (Int.mul_pos h2 p1) p2) fun d hd => h3 d (List.mem_cons_of_mem _ hd)
    simp only [List.map_cons, List.foldl_cons, List.sum_cons]
    rw [← Int.add_assoc]
    exact this
theorem sumF_is {U : Int} {val : Nat → Int} {pr : Nat → Pr} {L : List Nat} (h : ∀ c ∈ L, 0 < (pr c).2.1 ∧ 0 < (pr c).2.2.2 ∧ (pr c).1 * (pr c).2.2.1 * U = val c * ((pr c).2.1 * (pr c).2.2.2)) :
    0 < (sumF (L.map pr)).2 ∧ (sumF (L.map pr)).1 * U = (sumF (L.map pr)).2 * (L.map val).sum := by
  have := sumF_law val pr L (0, 1) 0 (by simp) (by decide) h
  rwa [Int.zero_add] at this
/-- in lowest terms -/
abbrev redF (a b : Int) : Int × Int := (a / (Int.gcd a b : Nat), b / (Int.gcd a b : Nat))
theorem redF_eq {a b : Int} (hb : 0 < b) : (redF a b).1 * b = a * (redF a b).2 ∧ 0 < (redF a b).2 ∧ isFr (redF a b).1 (redF a b).2 = true ∧ (redF a b).1.natAbs ≤ a.natAbs ∧ (redF a b).2.natAbs ≤ b.natAbs := by
  have g0 : 0 < Int.gcd a b := Int.gcd_pos_of_ne_zero_right a (by omega)
  obtain ⟨x, hx⟩ := Int.gcd_dvd_left a b
  obtain ⟨y, hy⟩ := Int.gcd_dvd_right a b
  have gz : ((Int.gcd a b : Nat) : Int) ≠ 0 := by omega
  have ex : a / (Int.gcd a b : Nat) = x := by
    conv => lhs; lhs; rw [hx]
    exact Int.mul_ediv_cancel_left _ gz
  have ey : b / (Int.gcd a b : Nat) = y := by
    conv => lhs; lhs; rw [hy]
    exact Int.mul_ediv_cancel_left _ gz
  have hy0 : 0 < y := by
    rcases Int.lt_trichotomy y 0 with z | z | z
    · have := Int.mul_neg_of_pos_of_neg (show (0 : Int) < (Int.gcd a b : Nat) by omega) z
      omega
    · rw [z] at hy; omega
    · exact z
  unfold redF
  simp only
  rw [ex, ey]
  refine ⟨?_, hy0, ?_, ?_, ?_⟩
  · generalize ((Int.gcd a b : Nat) : Int) = g at hx hy
    rw [hx, hy]; grind
  · unfold isFr
    have : Int.gcd x y = 1 := by
      have e : Int.gcd a b = Int.gcd a b * Int.gcd x y := by
        have h1 := Int.gcd_mul_left ((Int.gcd a b : Nat) : Int) x y
        rw [← hx, ← hy] at h1
        simpa using h1
      exact Nat.eq_of_mul_eq_mul_left g0 (by omega)
    rw [this, decide_eq_true hy0]
    rfl
  · conv => rhs; rw [hx]
    rw [Int.natAbs_mul]
    exact Nat.le_mul_of_pos_left _ (by omega)
  · conv => rhs; rw [hy]
    rw [Int.natAbs_mul]
    exact Nat.le_mul_of_pos_left _ (by omega)
end DL
namespace DL
open PySem PySem.Spec PyProof.Rows L2 Hd
/-! ### _law_shared_point -/
structure ShG where
  ns : List Str
  x : Row × Row
structure ShG.Ok (y : ShG) : Prop where
  n : namesOk y.ns
  a : rowOk y.ns.length y.x.1
  b : rowOk y.ns.length y.x.2
abbrev ShG.out (y : ShG) : Dt := .bl (!clashB y.ns.length y.x)
abbrev sp__law_shared_point (C : Addr) : Sp := spP C (G := ShG) (fun y => [namesD y.ns, rD y.x.1, rD y.x.2]) ShG.Ok (fun y d => d = y.out)

abbrev N__law_shared_point : List Str := ["_law_names_here", "_law_one", "_law_other", "_law_rows_here", "_law_told", "_law_size", "_law_number", "_law_parts", "_law_bound", "_law_part", "_law_at"]
def t__law_shared_point (K : PySem.W.Frag) (C R : Addr) : TS := (tSeq (tAsg (tCall (sp__law_kept C) [] E0 (tCons (tLst (tCons (tVar 1) (tCons (tVar 2) tNil))) tNil)) (gName 3))
  (tSeq (tAsg (tTup (tCons (tCall (sp_point_or_paper C) [] E0 (tCons (tMake C (spNew C) [] E0 (tCons (tVar 0) (tCons (tVar 3) tNil))) (tCons (tCall (sp_free_box C) [] E0 (tCons (tMake C (spNew C) [] E0 (tCons (tVar 0) (tCons (tVar 3) tNil))) tNil)) tNil))) (tCons (tCB (rLen K) (tCons (tVar 0) tNil)) tNil))) (gTup K 2 (gCons (gName 4) (gCons (gName 5) gNil))))
  (tSeq (tIfS (tTest (tOp rEq (tOp (rIxT K) (tVar 4) (tC (.int 0))) (tC (.str "paper")))) (tSeq (tIfS (tOr (tNot (tB (tCall (sp__law_are_fractions C) [] E0 (tCons (tOp (rIxT K) (tVar 4) (tC (.int 1))) (tCons (tCB (rLen K) (tCons (tVar 3) tNil)) tNil))))) (tNot (tB (tCB (rAll K) (tCons (tLc (iTup K (tOp (rIxT K) (tVar 4) (tC (.int 1)))) (gName 6) tYes (tOp rGeI (tOp (rIxT K) (tVar 6) (tC (.int 0))) (tC (.int 0))) [6]) tNil))))) (tRet (tC .non)) tNext)
  (tSeq (tAsg (tCall (sp__law_mixed C) [] E0 (tCons (tVar 3) (tCons (tOp (rIxT K) (tVar 4) (tC (.int 1))) (tCons (tVar 5) tNil)))) (gTup K 2 (gCons (gName 7) (gCons (gName 8) gNil))))
  (tRet (tIf (tAnd (tTest (tOp rGtI (tOp (rIxT K) (tVar 8) (tC (.int 0))) (tC (.int 0)))) (tB (tCB (rAll K) (tCons (tLc (iTup K (tVar 7)) (gName 9) tYes (tOp rEq (tOp (rIxT K) (tVar 9) (tC (.int 0))) (tC (.int 0))) [9]) tNil)))) (tC (.bl false)) (tC .non))))) tNext)
  (tSeq (tIfS (tNot (tB (tCall (sp__law_are_fractions C) [] E0 (tCons (tOp (rIxT K) (tVar 4) (tC (.int 1))) (tCons (tVar 5) tNil))))) (tRet (tC .non)) tNext)
  (tSeq (tFor (iTup K (tVar 3)) (gTup K 2 (gCons (gName 7) (gCons (gName 8) gNil))) (tIfS (tB (tCall (sp__law_less C) [] E0 (tCons (tCall (sp__law_sum C) [] E0 (tCons (tLc (iRng1 (tCons (tVar 5) tNil)) (gName 10) tYes (tTup (tCons (tTup (tCons (tOp (rIxT K) (tVar 7) (tVar 10)) (tCons (tC (.int 1)) tNil))) (tCons (tOp (rIxT K) (tOp (rIxT K) (tVar 4) (tC (.int 1))) (tVar 10)) tNil))) [10]) tNil)) (tCons (tTup (tCons (tVar 8) (tCons (tC (.int 1)) tNil))) tNil)))) (tRet (tC .non)) tNext))
  (tRet (tC (.bl true))))))))
theorem ShG.Ok.nz {y : ShG} (h : y.Ok) : NzP y.ns.length y.x := ⟨h.a.1, h.b.1, h.a.2.1, h.b.2.1⟩
theorem sgn_of {t b U S : Int} (hb : 0 < b) (hU : 0 < U) (h : t * U = b * S) : (S = 0 → t = 0) ∧ (0 < S → 0 < t) := by
  refine ⟨fun e => ?_, fun e => ?_⟩
  · rw [e, Int.mul_zero] at h
    rcases Int.mul_eq_zero.mp h with z | z
    · exact z
    · omega
  · have h1 : 0 < t * U := by rw [h]; exact Int.mul_pos hb e
    rcases Int.lt_trichotomy t 0 with z | z | z
    · have := Int.mul_neg_of_neg_of_pos z hU; omega
    · rw [z] at h1; simp at h1
    · exact z
theorem sum2 (p : Nat → Bool) (f : Nat → Int) (a : p 0 = false → f 0 = 0) (b : p 1 = false → f 1 = 0) : (([0, 1].filter p).map f).sum = f 0 + f 1 := by
  cases h0 : p 0 <;> cases h1 : p 1 <;> simp [List.filter_cons, h0, h1]
  · rw [a h0, b h1]; rfl
  · rw [a h0, Int.zero_add]
  · rw [b h1, Int.add_zero]
theorem mix_sum {z : List (Int × Int)} {Y g : Nat → Int} {U : Int} (hU : 0 < U) (hz : ∀ c, c < 2 → zi z c = redF (Y c) U) : 0 < (sumF (mixF 2 z g)).2 ∧ (sumF (mixF 2 z g)).1 * U = (sumF (mixF 2 z g)).2 * (Y 0 * g 0 + Y 1 * g 1) := by
  have key := sumF_is (U := U) (val := fun c => Y c * g c) (pr := fun c => ((zi z c).1, (zi z c).2, g c, 1)) (L := someF 2 z) fun c hc => by
    have hc2 := someF_lt hc
    rw [hz c hc2]
    obtain ⟨e1, e2, _⟩ := redF_eq (a := Y c) hU
    refine ⟨e2, (by decide : (0 : Int) < 1), ?_⟩
    show (redF (Y c) U).1 * g c * U = Y c * g c * ((redF (Y c) U).2 * 1)
    generalize (redF (Y c) U).1 = r at e1 ⊢
    generalize (redF (Y c) U).2 = s at e1 ⊢
    grind
  have z0 : ∀ c, c < 2 → (zi z c).1 = 0 → Y c = 0 := fun c hc e => by
    rw [hz c hc] at e
    obtain ⟨e1, e2, _⟩ := redF_eq (a := Y c) hU
    rw [e, Int.zero_mul] at e1
    rcases Int.mul_eq_zero.mp e1.symm with q | q
    · exact q
    · omega
  have es : ((someF 2 z).map fun c => Y c * g c).sum = Y 0 * g 0 + Y 1 * g 1 := by
    unfold someF
    have r2 : List.range 2 = [0, 1] := rfl
    rw [r2]
    refine sum2 (fun c => !decide ((zi z c).1 = 0)) (fun c => Y c * g c) (fun e => ?_) fun e => ?_
    · have : (zi z 0).1 = 0 := by simpa only [Bool.not_eq_false', decide_eq_true_eq] using e
      rw [z0 0 (by decide) this, Int.zero_mul]
    · have : (zi z 1).1 = 0 := by simpa only [Bool.not_eq_false', decide_eq_true_eq] using e
      rw [z0 1 (by decide) this, Int.zero_mul]
  rw [es] at key
  exact key
theorem dot_lin (n : Nat) (u v X : Nat → Int) (Y Z : Int) : Y * dot n u X + Z * dot n v X = dot n (fun a => Y * u a + Z * v a) X := by
  induction n with
  | zero => simp [dot]
  | succ n ih => rw [dot_succ, dot_succ, dot_succ, ← ih]; grind
theorem dot_zeroU {n : Nat} {u : Nat → Int} (X : Nat → Int) (h : ∀ a, a < n → u a = 0) : dot n u X = 0 := by
  induction n with
  | zero => rfl
  | succ n ih => rw [dot_succ, ih fun a ha => h a (by omega), h n (by omega)]; simp
theorem row_dot {rs : List Row} {n : Nat} {D : Int} {X : Nat → Int} (h : ∀ c, c < (lpOf rs n).m → (lpOf rs n).w c * D ≤ dot (lpOf rs n).n ((lpOf rs n).p c) X) {r : Row} (hr : r ∈ rs) : r.2 * D ≤ dot n (gi r.1) X := by
  obtain ⟨c, hc, e⟩ := List.mem_iff_getElem.mp hr
  have := h c hc
  unfold lpOf at this
  simp only [List.getD_eq_getElem?_getD, List.getElem?_eq_getElem hc, Option.getD_some, e] at this
  have e2 : gi r.1 = fun a => r.1[a]?.getD 0 := funext fun a => by unfold gi; rw [List.getD_eq_getElem?_getD]
  rw [e2]; exact this
theorem less_no {S1 S2 D b dt : Int} (hD : 0 < D) (s1 : 0 < S2) (s2 : S1 * D = S2 * dt) (rd : b * D ≤ dt) : ¬ ((redF S1 S2).1 * 1 < b * (redF S1 S2).2) := by
  obtain ⟨e1, e2, _⟩ := redF_eq (a := S1) s1
  generalize (redF S1 S2).1 = p at e1 ⊢
  generalize (redF S1 S2).2 = q at e1 e2 ⊢
  intro h
  rw [Int.mul_one] at h
  have h1 : S2 * (b * D) ≤ S2 * dt := Int.mul_le_mul_of_nonneg_left rd (by omega)
  have h2 : (S2 * b) * D ≤ S1 * D := by rw [s2, Int.mul_assoc]; exact h1
  have h3 : S2 * b ≤ S1 := Int.le_of_mul_le_mul_right h2 hD
  have h4 : (S2 * b) * q ≤ S1 * q := Int.mul_le_mul_of_nonneg_right h3 (by omega)
  have h5 : S2 * p < S2 * (b * q) := Int.mul_lt_mul_of_pos_left h s1
  have h6 : S2 * p = p * S2 := Int.mul_comm _ _
  have h7 : (S2 * b) * q = S2 * (b * q) := Int.mul_assoc _ _ _
  omega
theorem fr_at {n : Nat} {X : Nat → Int} {D : Int} {a : Nat} (h : a < n) : atI (((List.range n).map fun a => redF (X a) D).map fun z => frD z.1 z.2) (a : Int) = some (frD (redF (X a) D).1 (redF (X a) D).2) := by
  have := ixN_nat (n := (((List.range n).map fun a => redF (X a) D).map fun z => frD z.1 z.2).length) (i := a) (by simpa using h)
  unfold atI
  rw [this]
  simp [h]
theorem red_pos {t b p q : Int} (hb : 0 < b) (hq : 0 < q) (h : p * b = t * q) (ht : 0 < t) : 0 < p := by
  have h1 : 0 < p * b := by rw [h]; exact Int.mul_pos ht hq
  rcases Int.lt_trichotomy p 0 with z | z | z
  · have := Int.mul_neg_of_neg_of_pos z hb; omega
  · rw [z] at h1; simp at h1
  · exact z
theorem ri_get {rs : List Row} {c : Nat} (h : c < rs.length) : rs[c]? = some (ri rs c) := by
  show _ = some (rs.getD c ([], 0))
  rw [List.getD_eq_getElem?_getD, List.getElem?_eq_getElem h]
  rfl
theorem sd__law_shared_point (W : Wd) (k : W.Ok) (R : Addr) (y : ShG) (hp : y.Ok) : Sd W (t__law_shared_point W.K W.C R) (startD N__law_shared_point.length [namesD y.ns, rD y.x.1, rD y.x.2]) { rt := fun d => d = y.out, nx := fun _ => Dt.non = y.out } := by
  obtain ⟨ns, one, other⟩ := y
  obtain ⟨hns, h1, h2⟩ := id hp
  have N := hp.nz
  obtain ⟨hn1, hn6, _⟩ := id hns
  simp only at hns h1 h2 N hn1 hn6 ⊢
  refine sq_asg (R := fun d => ∃ rs, d = rowsD rs ∧ KeptOf [one, other] rs) (er_callE [one, other] k (ea_cons (Ef.ed (ef_lst k (ea_cons (ed_var rfl) (ea_cons (ed_var rfl) ea_nil)) (by simp))) ea_nil) (by simp) fun d h => h) (of_decide_eq_true rfl) fun d ⟨rs, e, hk⟩ => ?_
  subst e
  have hrl : rs.length ≤ 2 := hk.n
  have hro : ∀ r ∈ rs, rowOk ns.length r := fun r hr => by
    have := (hk.m r).mp hr
    rcases List.mem_cons.mp this with z | z
    · rw [z]; exact h1
    · rw [List.mem_singleton.mp z]; exact h2
  have hrs : rowsOk ns.length rs := ⟨by omega, hro, pair_next hk.s⟩
  have hin : RowsIn ns.length rs := ⟨hn1, by omega, hrl, hro⟩
  refine sq_parT k (eam_sh (R := fun d => PoN (lpOf rs ns.length) d) (er_callE (ns, rs) k (ea_cons (ed_new k (ea_cons (ed_var rfl) (ea_cons (ed_var rfl) ea_nil)) hns hrs) (ea_cons (ed_call (ns, rs) k (ea_cons (ed_new k (ea_cons (ed_var rfl) (ea_cons (ed_var rfl) ea_nil)) hns hrs) ea_nil) (by show ns.length ≤ 1000; omega) fun d e => e) ea_nil)) hin fun d h => h) fun d hd => eam_shE (d := .int (ns.length : Nat)) (Ed.to (ed_cb (ea_cons (ed_var rfl) ea_nil) cd_lenT) (by rw [List.length_map])) (eam_nil ⟨_, _, rfl, ?_⟩))
  rcases hd with ⟨D, X, ⟨hD, hD2, hX, hdot⟩, e⟩ | ⟨U, Y, ⟨hU, hU2, hY, hm2, hs, hb⟩, e⟩
  · -- a point
    have e' : d = .tup [.str "point", frs ((List.range ns.length).map fun a => redF (X a) D)] := by
      rw [e]
      unfold frs
      rw [List.map_map]
      rfl
    clear e
    subst e'
    have hcl : clashB ns.length (one, other) = false := by
      rw [Bool.eq_false_iff]
      intro hc
      obtain ⟨Y, Z, c⟩ := clash_cl hc
      have hY := c.pos N
      have hZ : 0 < Z := c.swap.pos N.swap
      have r1 := row_dot hdot ((hk.m one).mpr (by simp))
      have r2 := row_dot hdot ((hk.m other).mpr (by simp))
      have l := dot_lin ns.length (gi one.1) (gi other.1) X Y Z
      have z := dot_zeroU (n := ns.length) (u := fun a => Y * gi one.1 a + Z * gi other.1 a) X fun a ha => c.s a ha
      rw [z] at l
      have q1 := Int.mul_le_mul_of_nonneg_left r1 (show 0 ≤ Y by omega)
      have q2 := Int.mul_le_mul_of_nonneg_left r2 (show 0 ≤ Z by omega)
      have q3 : 0 < (Y * one.2 + Z * other.2) * D := Int.mul_pos c.b hD
      have q4 : (Y * one.2 + Z * other.2) * D = Y * (one.2 * D) + Z * (other.2 * D) := by grind
      omega
    refine sq_if (b := false) ((et_test (ed_op (ed_op (ed_var rfl) ed_int (od_ixT rfl)) ed_str od_eqS)).to (by decide)) (fun h => by cases h) fun _ => sq_next ?_
    have hfr : ((List.range ns.length).map fun a => redF (X a) D).all (fun z => isFr z.1 z.2) = true := by
      rw [List.all_map, List.all_eq_true]
      intro a _
      exact (redF_eq (a := X a) hD).2.2.1
    refine sq_when (b := false) ((et_not (et_B (ed_call (((List.range ns.length).map fun a => redF (X a) D), ns.length) k (ea_cons (ed_op (ed_var rfl) ed_int (od_ixT rfl)) (ea_cons (ed_var rfl) ea_nil)) (by simp; omega) fun d e => e))).to (by rw [hfr]; simp)) (fun h => by cases h) fun _ => ?_
    refine sq_for k (yg_tup (ed_var rfl)) (fun i δ => ∃ q7 q8 : Option Sl, δ = [some (.sh (namesD ns)), some (.sh (rD one)), some (.sh (rD other)), some (.sh (rowsD rs)), some (.sh (.tup [.str "point", frs ((List.range ns.length).map fun a => redF (X a) D)])), some (.sh (.int (ns.length : Nat))), none, q7, q8, none, none]) ⟨none, none, rfl⟩ ?_ ?_
    · rintro i d δ' hd ⟨q7, q8, rfl⟩
      obtain ⟨r, hr, rfl⟩ := map_at hd
      have hrm := List.mem_of_getElem? hr
      have hr1 := hro r hrm
      have hbr : ∀ a, (gi r.1 a).natAbs < 2 ^ 100 := fun a => gi_bd (fun v hv => hr1.2.2.2 v (List.mem_cons_of_mem _ hv)) a
      have hb2 : r.2.natAbs < 2 ^ 100 := hr1.2.2.2 _ List.mem_cons_self
      refine ⟨_, _, tg_names2 (of_decide_eq_true rfl) (of_decide_eq_true rfl), ?_⟩
      have hz : ∀ a, a ∈ List.range ns.length → 0 < (1 : Int) ∧ 0 < (redF (X a) D).2 ∧ gi r.1 a * (redF (X a) D).1 * D = (gi r.1 a * X a) * (1 * (redF (X a) D).2) := fun a _ => by
        obtain ⟨e1, e2, _⟩ := redF_eq (a := X a) hD
        refine ⟨by decide, e2, ?_⟩
        generalize (redF (X a) D).1 = p at e1 ⊢
        generalize (redF (X a) D).2 = q at e1 ⊢
        grind
      have key := sumF_is (U := D) (val := fun a => gi r.1 a * X a) (pr := fun a => (gi r.1 a, 1, (redF (X a) D).1, (redF (X a) D).2)) (L := List.range ns.length) hz
      have hok : PrsOk ((List.range ns.length).map fun a => (gi r.1 a, 1, (redF (X a) D).1, (redF (X a) D).2)) := by
        refine ⟨by simp; omega, fun z hz => ?_⟩
        obtain ⟨a, _, e⟩ := List.mem_map.mp hz
        subst e
        obtain ⟨e1, e2, _, e3, e4⟩ := redF_eq (a := X a) hD
        have hXa := hX a
        have hs2 : (redF (X a) D).2.natAbs < 2 ^ 1000 := Nat.lt_of_le_of_lt e4 hD2
        exact ⟨by show (0 : Int) < 1; decide, e2, Nat.lt_of_lt_of_le (hbr a) (Nat.pow_le_pow_right (by decide) (by decide)), by show Int.natAbs 1 < _; exact Nat.one_lt_two_pow (by decide), Nat.lt_of_le_of_lt e3 hXa, hs2, by show (1 * (redF (X a) D).2).natAbs < _; rw [Int.one_mul]; exact hs2⟩
      have hlt := sumF_lt hok.2 _ (Nat.le_refl _)
      rw [List.take_length, List.length_map, List.length_range] at hlt
      have rd := row_dot hdot hrm
      obtain ⟨s1, s2⟩ := key
      have hsum : ((List.range ns.length).map fun a => gi r.1 a * X a).sum = dot ns.length (gi r.1) X := rfl
      rw [hsum] at s2
      have hno := less_no hD s1 s2 rd
      obtain ⟨_, _, _, m1, m2⟩ := redF_eq (a := (sumF ((List.range ns.length).map fun a => (gi r.1 a, 1, (redF (X a) D).1, (redF (X a) D).2))).1) s1
      have up : ∀ {v : Int} {e : Nat}, v.natAbs < 2 ^ e → e ≤ 100000 → v.natAbs < 2 ^ 100000 := fun h he => Nat.lt_of_lt_of_le h (Nat.pow_le_pow_right (by decide) he)
      refine sd_if (b := false) (et_B (Ed.to (ed_call (redF (sumF ((List.range ns.length).map fun a => (gi r.1 a, 1, (redF (X a) D).1, (redF (X a) D).2))).1 (sumF ((List.range ns.length).map fun a => (gi r.1 a, 1, (redF (X a) D).1, (redF (X a) D).2))).2, (r.2, (1 : Int))) k (ea_cons (ed_call ((List.range ns.length).map fun a => (gi r.1 a, 1, (redF (X a) D).1, (redF (X a) D).2)) k (ea_cons ((Ef.ed (ef_lcAll (List.range ns.length) (fun a => .int (a : Nat)) (fun a => prD4 (gi r.1 a, 1, (redF (X a) D).1, (redF (X a) D).2)) k (YlG.yl (yg_rangeN (n := ns.length) (ea_cons (ed_var rfl) ea_nil) (by omega))) (by simp; omega) fun a ha => ⟨_, _, tg_name (of_decide_eq_true rfl), by simp, ed_tup k (ea_cons (ed_tup k (ea_cons (ed_op (ed_var rfl) (ed_var rfl) (od_ixT (gi_atI (by have := List.mem_range.mp ha; have := hr1.1; omega)))) (ea_cons ed_int ea_nil)) (by simp)) (ea_cons (ed_op (ed_op (ed_var rfl) ed_int (od_ixT rfl)) (ed_var rfl) (od_ixT (fr_at (List.mem_range.mp ha)))) ea_nil)) (by simp)⟩)).to (by rw [List.map_map]; rfl)) ea_nil) hok fun d e => e) (ea_cons (ed_tup k (ea_cons (ed_var rfl) (ea_cons ed_int ea_nil)) (by simp)) ea_nil)) ⟨up (Nat.lt_of_le_of_lt m1 hlt.2.2) (by omega), up (Nat.lt_of_le_of_lt m2 hlt.2.1) (by omega), up hb2 (by decide), up (v := 1) (e := 1) (by decide) (by decide)⟩ fun d e => e) (by rw [decide_eq_false hno]))) (fun h => by cases h) fun _ => sd_next ⟨_, _, rfl⟩
    · rintro δ' ⟨q7, q8, rfl⟩
      exact sd_ret (Ed.er ed_bl (by show Dt.bl true = .bl (!clashB ns.length (one, other)); rw [hcl]; rfl))
  · -- a paper
    have hl2 : rs.length = 2 := hm2
    have e' : d = .tup [.str "paper", frs ((List.range rs.length).map fun c => redF (Y c) U)] := by
      rw [e]
      unfold frs
      rw [List.map_map]
      rfl
    clear e
    subst e'
    have hzi : ∀ c, c < 2 → zi ((List.range rs.length).map fun c => redF (Y c) U) c = redF (Y c) U := fun c hc => by
      show (((List.range rs.length).map fun c => redF (Y c) U).getD c (0, 1)) = _
      rw [List.getD_eq_getElem?_getD, List.getElem?_map, List.getElem?_range (by omega)]
      rfl
    have C : Cl ns.length (ri rs 0, ri rs 1) (Y 0) (Y 1) := ⟨(hY 0).1, (hY 1).1, fun a ha => hs a ha, hb⟩
    have hcl : clashB ns.length (one, other) = true := by
      have m0 := (hk.m _).mp (ri_mem (rs := rs) (c := 0) (by omega))
      have m1 := (hk.m _).mp (ri_mem (rs := rs) (c := 1) (by omega))
      have hlt : dLt (rD (ri rs 0)) (rD (ri rs 1)) = true := pair_next hk.s 0 _ _ (ri_get (by omega)) (ri_get (by omega))
      have hne : ri rs 0 ≠ ri rs 1 := fun z => by rw [z, dLt_irrefl] at hlt; cases hlt
      simp only [List.mem_cons, List.not_mem_nil, or_false] at m0 m1
      rcases m0 with m0 | m0 <;> rcases m1 with m1 | m1
      · exact absurd (m0.trans m1.symm) hne
      · rw [m0, m1] at C; exact clash_of N C
      · rw [m0, m1] at C; exact clash_of N C.swap
      · exact absurd (m0.trans m1.symm) hne
    refine sq_when (b := true) ((et_test (ed_op (ed_op (ed_var rfl) ed_int (od_ixT rfl)) ed_str od_eqS)).to (by decide)) (fun _ => ?_) fun h => by cases h
    have hfr : ((List.range rs.length).map fun c => redF (Y c) U).all (fun z => isFr z.1 z.2) = true := by
      rw [List.all_map, List.all_eq_true]
      intro a _
      exact (redF_eq (a := Y a) hU).2.2.1
    have hge : ((List.range rs.length).map fun c => redF (Y c) U).all (fun z => decide (0 ≤ z.1)) = true := by
      rw [List.all_map, List.all_eq_true]
      intro a _
      exact decide_eq_true (Int.ediv_nonneg (hY a).1 (by omega))
    refine sq_when (b := false) (Et.to (et_or (a := false) (b := false) (et_not (a := true) (et_B (Ed.to (ed_call (((List.range rs.length).map fun c => redF (Y c) U), rs.length) k (ea_cons (ed_op (ed_var rfl) ed_int (od_ixT rfl)) (ea_cons (Ed.to (ed_cb (ea_cons (ed_var rfl) ea_nil) cd_lenT) (by rw [List.length_map])) ea_nil)) (by simp; omega) fun d e => e) (by rw [hfr]; simp)))) fun _ => et_not (a := true) (et_B (Ed.to (ed_allLc ((List.range rs.length).map fun c => redF (Y c) U) (fun w => frD w.1 w.2) (fun w => decide (0 ≤ w.1)) k (YlG.yl (yg_tup (ed_op (ed_var rfl) ed_int (od_ixT rfl)))) (by simp; omega) fun w hw => ⟨_, _, tg_name (of_decide_eq_true rfl), by simp, ed_op (ed_op (ed_var rfl) ed_int (od_ixT rfl)) ed_int od_B0⟩) (by rw [hge])))) rfl) (fun h => by cases h) fun _ => ?_
    have hok : MxG.Ok ⟨rs, (List.range rs.length).map fun c => redF (Y c) U, ns.length⟩ := by
      refine ⟨by show rs.length ≤ 7; omega, by show ns.length ≤ 60; omega, by simp, fun r hr => ⟨(hro r hr).1, (hro r hr).2.2.2.up (by decide)⟩, fun z hz => ?_⟩
      obtain ⟨c, _, e⟩ := List.mem_map.mp hz
      subst e
      obtain ⟨e1, e2, _, e3, e4⟩ := redF_eq (a := Y c) hU
      exact ⟨e2, Nat.lt_of_le_of_lt e3 (hY c).2, Nat.lt_of_le_of_lt e4 hU2⟩
    have ms : ∀ g : Nat → Int, 0 < (sumF (mixF rs.length ((List.range rs.length).map fun c => redF (Y c) U) g)).2 ∧ (sumF (mixF rs.length ((List.range rs.length).map fun c => redF (Y c) U) g)).1 * U = (sumF (mixF rs.length ((List.range rs.length).map fun c => redF (Y c) U) g)).2 * (Y 0 * g 0 + Y 1 * g 1) := fun g => by
      have := mix_sum (z := (List.range rs.length).map fun c => redF (Y c) U) (Y := Y) (g := g) hU hzi
      generalize ((List.range rs.length).map fun c => redF (Y c) U) = zz at this ⊢
      rw [hl2]
      exact this
    refine sq_asgT (R := fun d => d = MxG.out ⟨rs, (List.range rs.length).map fun c => redF (Y c) U, ns.length⟩) (ed_call (⟨rs, (List.range rs.length).map fun c => redF (Y c) U, ns.length⟩ : MxG) k (ea_cons (ed_var rfl) (ea_cons (ed_op (ed_var rfl) ed_int (od_ixT rfl)) (ea_cons (ed_var rfl) ea_nil))) hok fun d e => e) fun d e => ?_
    subst e
    refine ⟨_, _, tg_names2 (of_decide_eq_true rfl) (of_decide_eq_true rfl), ?_⟩
    have hB : 0 < (redF (sumF (mixF rs.length ((List.range rs.length).map fun c => redF (Y c) U) fun c => (ri rs c).2)).1 (sumF (mixF rs.length ((List.range rs.length).map fun c => redF (Y c) U) fun c => (ri rs c).2)).2).1 := by
      obtain ⟨s1, s2⟩ := ms fun c => (ri rs c).2
      have t := (sgn_of s1 hU s2).2 hb
      obtain ⟨e1, e2, _⟩ := redF_eq (a := (sumF (mixF rs.length ((List.range rs.length).map fun c => redF (Y c) U) fun c => (ri rs c).2)).1) s1
      exact red_pos s1 e2 e1 t
    have hP : (List.range ns.length).all (fun a => decide ((redF (sumF (mixF rs.length ((List.range rs.length).map fun c => redF (Y c) U) fun c => gi (ri rs c).1 a)).1 (sumF (mixF rs.length ((List.range rs.length).map fun c => redF (Y c) U) fun c => gi (ri rs c).1 a)).2).1 = 0)) = true := by
      rw [List.all_eq_true]
      intro a ha
      obtain ⟨s1, s2⟩ := ms fun c => gi (ri rs c).1 a
      have t := (sgn_of s1 hU s2).1 (C.s a (List.mem_range.mp ha))
      refine decide_eq_true ?_
      show (sumF (mixF rs.length ((List.range rs.length).map fun c => redF (Y c) U) fun c => gi (ri rs c).1 a)).1 / _ = 0
      rw [t]
      exact Int.zero_ediv _
    refine sd_ret (er_if (b := true) (Et.to (et_and (a := true) (b := true) (Et.to (et_test (ed_op (ed_op (ed_var rfl) ed_int (od_ixT rfl)) ed_int od_B0)) (decide_eq_true hB)) fun _ => et_B (Ed.to (ed_allLc (List.range ns.length) (fun a => sfD (mixF rs.length ((List.range rs.length).map fun c => redF (Y c) U) fun c => gi (ri rs c).1 a)) (fun a => decide ((redF (sumF (mixF rs.length ((List.range rs.length).map fun c => redF (Y c) U) fun c => gi (ri rs c).1 a)).1 (sumF (mixF rs.length ((List.range rs.length).map fun c => redF (Y c) U) fun c => gi (ri rs c).1 a)).2).1 = 0)) k (YlG.yl (yg_tup (ed_var rfl))) (by simp; omega) fun a ha => ⟨_, _, tg_name (of_decide_eq_true rfl), by simp, ed_op (ed_op (ed_var rfl) ed_int (od_ixT rfl)) ed_int od_eqI⟩) (by rw [hP]))) rfl) (fun _ => Ed.er ed_bl (by show Dt.bl false = .bl (!clashB ns.length (one, other)); rw [hcl]; rfl)) fun h => by cases h)

theorem sc__law_shared_point : FnScope N__law_shared_point ["_law_names_here", "_law_one", "_law_other"] (defScope s__law_shared_point) := ⟨rfl, rfl, rfl, by decide +kernel, rfl, by decide +kernel, by decide +kernel⟩
section
variable {P : Program} {w : World} {K : PySem.W.Frag} {mg : Str → Option Value} {base : Heap}
theorem b__law_shared_point (T : Fx K mg) : Binds K T.f__law_shared_point.fd ["_law_names_here", "_law_one", "_law_other"] [] := T.f__law_shared_point.F.bindsN fun _ _ _ _ _ _ us hl => match us, hl with | [_, _, _], _ => rfl
theorem d__law_shared_point (T : Fx K mg) {cdv : Value} {A : Around} {outer : List Env} {s : Shared} {H : Hp} {E : XK} (hr : Room 6 (A.deeper (envOfC "_law_shared_point" (defScope s__law_shared_point) s.heap.objs.size T.f__law_shared_point.f cdv))) : PSs (cxOf CX0 P w K mg base N__law_shared_point "_law_shared_point" (defScope s__law_shared_point) T.f__law_shared_point.f cdv A outer s H E).nox (defBody s__law_shared_point) (t__law_shared_point K T.C T.R) :=
  have nd := sc__law_shared_point.nd
  (pss_cons (ps_set (i := 3) nd rfl (by first | exact Or.inl rfl | exact Or.inr rfl) (pe_call (ok__law_kept T) (hr.mono (by decide)) rfl T.f__law_kept.g T.f__law_kept.F.kp (b__law_kept T) .nil pass0 (pa_cons (pe_lst (pa_cons (pv 1) (pa_cons (pv 2) pa_nil))) pa_nil)))
  (pss_cons (ps_asg (pe_tup (pa_cons (pe_call (ok_point_or_paper T) (hr.mono (by decide)) rfl T.f_point_or_paper.g T.f_point_or_paper.F.kp (b_point_or_paper T) .nil pass0 (pa_cons (pe_make T.M (ok_init T) (hr.mono (by decide)) rfl T.g_System (b_init T) .nil pass0 (pa_cons (pv 0) (pa_cons (pv 3) pa_nil))) (pa_cons (pe_call (ok_free_box T) (hr.mono (by decide)) rfl T.f_free_box.g T.f_free_box.F.kp (b_free_box T) .nil pass0 (pa_cons (pe_make T.M (ok_init T) (hr.mono (by decide)) rfl T.g_System (b_init T) .nil pass0 (pa_cons (pv 0) (pa_cons (pv 3) pa_nil))) pa_nil)) pa_nil))) (pa_cons (pe_callB call_len rfl T.b_len boot_len (pa_cons (pv 0) pa_nil)) pa_nil))) (pg_tup rfl (pgs_cons (pg_name (i := 4) nd rfl (by first | exact Or.inl rfl | exact Or.inr rfl)) (pgs_cons (pg_name (i := 5) nd rfl (by first | exact Or.inl rfl | exact Or.inr rfl)) pgs_nil))))
  (pss_cons (ps_if (pt_cmpR op_eq (pe_ix ix_tup (pv 4) pe_int (fun _ _ => rfl)) pe_str (nomark _)) (pss_cons (ps_if (PW.pt (pw_or (pt_not (pt_val (pe_call (ok__law_are_fractions T) (hr.mono (by decide)) rfl T.f__law_are_fractions.g T.f__law_are_fractions.F.kp (b__law_are_fractions T) .nil pass0 (pa_cons (pe_ix ix_tup (pv 4) pe_int (fun _ _ => rfl)) (pa_cons (pe_callB call_len rfl T.b_len boot_len (pa_cons (pv 3) pa_nil)) pa_nil))))) (pw_or1 (pt_not (pt_val (pe_callB (cr_all rfl) rfl T.b_all boot_all (pa_cons (pe_lc (own := [("_law_number", 6)]) (g := (gName 6)) (tt := tYes) rfl nd (pi_tup (pe_ix ix_tup (pv 4) pe_int (fun _ _ => rfl))) (blkOk_by (by kernel_rfl)) (fun _ _ _ _ _ => (pg_name (i := 6) nd rfl (by first | exact Or.inl rfl | exact Or.inr rfl))) (fun _ _ _ _ _ => pts_nil) (fun _ _ _ _ _ => (pe_cmpR op_ge (pe_ix ix_tup (pv 6) pe_int (fun _ _ => rfl)) pe_int (nomark _)))) pa_nil))))))) (pss_one (ps_ret pe_non)) pss_nil)
  (pss_cons (ps_asg (pe_call (ok__law_mixed T) (hr.mono (by decide)) rfl T.f__law_mixed.g T.f__law_mixed.F.kp (b__law_mixed T) .nil pass0 (pa_cons (pv 3) (pa_cons (pe_ix ix_tup (pv 4) pe_int (fun _ _ => rfl)) (pa_cons (pv 5) pa_nil)))) (pg_tup rfl (pgs_cons (pg_name (i := 7) nd rfl (by first | exact Or.inl rfl | exact Or.inr rfl)) (pgs_cons (pg_name (i := 8) nd rfl (by first | exact Or.inl rfl | exact Or.inr rfl)) pgs_nil))))
  (pss_one (ps_ret (pe_ifExp (PW.pt (pw_and (pt_cmpR op_gt (pe_ix ix_tup (pv 8) pe_int (fun _ _ => rfl)) pe_int (nomark _)) (pw_and1 (pt_val (pe_callB (cr_all rfl) rfl T.b_all boot_all (pa_cons (pe_lc (own := [("_law_part", 9)]) (g := (gName 9)) (tt := tYes) rfl nd (pi_tup (pv 7)) (blkOk_by (by kernel_rfl)) (fun _ _ _ _ _ => (pg_name (i := 9) nd rfl (by first | exact Or.inl rfl | exact Or.inr rfl))) (fun _ _ _ _ _ => pts_nil) (fun _ _ _ _ _ => (pe_cmpR op_eq (pe_ix ix_tup (pv 9) pe_int (fun _ _ => rfl)) pe_int (nomark _)))) pa_nil)))))) pe_bl pe_non))))) pss_nil)
  (pss_cons (ps_if (pt_not (pt_val (pe_call (ok__law_are_fractions T) (hr.mono (by decide)) rfl T.f__law_are_fractions.g T.f__law_are_fractions.F.kp (b__law_are_fractions T) .nil pass0 (pa_cons (pe_ix ix_tup (pv 4) pe_int (fun _ _ => rfl)) (pa_cons (pv 5) pa_nil))))) (pss_one (ps_ret pe_non)) pss_nil)
  (pss_cons (ps_for PassesOwn.never rfl (pi_tup (pv 3)) (pg_tup rfl (pgs_cons (pg_name (i := 7) nd rfl (by first | exact Or.inl rfl | exact Or.inr rfl)) (pgs_cons (pg_name (i := 8) nd rfl (by first | exact Or.inl rfl | exact Or.inr rfl)) pgs_nil))) (pss_one (ps_if (pt_val (pe_call (ok__law_less T) (hr.mono (by decide)) rfl T.f__law_less.g T.f__law_less.F.kp (b__law_less T) .nil pass0 (pa_cons (pe_call (ok__law_sum T) (hr.mono (by decide)) rfl T.f__law_sum.g T.f__law_sum.F.kp (b__law_sum T) .nil pass0 (pa_cons (pe_lc (own := [("_law_at", 10)]) (g := (gName 10)) (tt := tYes) rfl nd (pi_range1 rfl T.b_range (pa_cons (pv 5) pa_nil)) (blkOk_by (by kernel_rfl)) (fun _ _ _ _ _ => (pg_name (i := 10) nd rfl (by first | exact Or.inl rfl | exact Or.inr rfl))) (fun _ _ _ _ _ => pts_nil) (fun _ _ _ _ _ => (pe_tup (pa_cons (pe_tup (pa_cons (pe_ix ix_tup (pv 7) (pv 10) (fun _ _ => rfl)) (pa_cons pe_int pa_nil))) (pa_cons (pe_ix ix_tup (pe_ix ix_tup (pv 4) pe_int (fun _ _ => rfl)) (pv 10) (fun _ _ => rfl)) pa_nil))))) pa_nil)) (pa_cons (pe_tup (pa_cons (pv 8) (pa_cons pe_int pa_nil))) pa_nil)))) (pss_one (ps_ret pe_non)) pss_nil)))
  (pss_one (ps_ret pe_bl)))))))
theorem ok__law_shared_point (T : Fx K mg) : FnOk P w K mg base CX0 7 T.f__law_shared_point.f T.f__law_shared_point.fd ["_law_names_here", "_law_one", "_law_other"] (sp__law_shared_point T.C) :=
  T.f__law_shared_point.F.ok sc__law_shared_point (fun vs H Q E ⟨A, x, _, r, _⟩ => by rw [r.length]; rfl) fun cdv A outer s H vs Q E hr h => ⟨t__law_shared_point K T.C T.R, PSs.nox (d__law_shared_point T hr), run_P K h fun W k x hC hK hp => by subst hK; rw [← hC]; exact sd__law_shared_point W k T.R x hp⟩
end
end DL
/-! what the heap wants: slices of lists, lists reversed, 2 * any number -/
namespace DL
open PySem PySem.Spec PyProof.Rows L2 Hd
abbrev rMulX : R2 := rI IntMulOk fun i j => .int (i * j)
theorem op_mulX {X : Cx} : OpR X (binaryOp .Mult) rMulX := opI fun _ _ _ _ _ _ _ hc q => mul_int q hc
section
variable {W : Wd} {δ : Dl} {ta tb : TE} {ds : List Dt}
theorem ef_sliceL {n : Nat} (k : W.Ok) (ha : Ed W ta δ (.lst ds)) (hb : Ed W tb δ (.int (n : Nat))) : Ef W (tSl (rSlL W.K) ta tNoPart (tPart tb)) δ (ds.take n) := fun g O σ H S Q q =>
  ha g O σ H S _ fun v H1 x f1 i1 e1 r1 => hb g O σ H1 (S.step f1 i1) _ fun u H2 y f2 i2 e2 r2 => by
    subst e1 e2
    cases r2
    have r1' := r1.fr f2
    have S2 := (S.step f1 i1).step f2 i2
    cases r1' with
    | @lst p xs _ hp nA r =>
      refine ⟨_, rfl, p, xs, rfl, SqL.of hp, fun l hl => ?_⟩
      have ec : cutV xs none (some (n : Int)) = xs.take n := by
        unfold cutV
        rw [HT.sIx_nat]
        have : HT.sIx xs.length 0 none = 0 := rfl
        rw [this, List.drop_zero, Nat.sub_zero]
        by_cases h : n ≤ xs.length
        · rw [Nat.min_eq_left h]
        · rw [Nat.min_eq_right (by omega), List.take_of_length_le (Nat.le_refl _), List.take_of_length_le (by omega)]
      rw [ec]
      exact q l _ _ _ ((f1.trans f2).trans (Fr.new hl)) (k.all i2 (all_new hl)) rfl (back_none (f1.trans f2) i2 hl) upd_same (own_new hl (r.take n))
theorem reps_rev {C : Addr} {A : Addr → Prop} {H : Hp} : ∀ {xs : List V} {ds : List Dt}, Reps C A H xs ds → Reps C A H xs.reverse ds.reverse
  | _, _, .nil => .nil
  | _, _, .cons r t => by
    rw [List.reverse_cons, List.reverse_cons]
    exact (reps_rev t).append (.cons r .nil)
theorem ef_revL (k : W.Ok) (ha : Ec W ta δ ds) : Ef W (tRevL W.K ta) δ ds.reverse := fun g O σ H S Q q => ha g O σ H S _ fun p xs H1 f i hp n r =>
  ⟨p, xs, rfl, SqL.of hp, fun l hl => q l _ _ _ (f.trans (Fr.new hl)) (k.all i (all_new hl)) rfl (back_none f i hl) upd_same (own_new hl (reps_rev r))⟩
end
end DL
namespace DL
open PySem PySem.Spec PyProof.Rows L2 Hd
/-! ### _law_heap -/
/-- the script: a list that nobody writes -/
def SqF (K : PySem.W.Frag) (H : Hp) (a : Addr) (xs : List V) : Prop := (∃ o, H a = some (.frz o (.lst xs))) ∨ ∀ H', SqL K H' a xs
theorem SqF.sq {K : PySem.W.Frag} {H : Hp} {a : Addr} {xs : List V} (h : SqF K H a xs) : SqL K H a xs := h.elim (fun h => .inl (.inr h)) fun h => h H
theorem SqF.keep {K : PySem.W.Frag} {H H' : Hp} {a : Addr} {xs : List V} (h : SqF K H a xs) (k : ∀ b o, (∀ ys, o ≠ .lst ys) → (∀ ps, o ≠ .tbl ps) → H b = some o → H' b = some o) : SqF K H' a xs := h.elim (fun ⟨o, e⟩ => .inl ⟨o, k a _ (fun _ z => by cases z) (fun _ z => by cases z) e⟩) .inr
def HeapD (d : Dt) : Prop := ∃ (ns : List Int) (s : Int), d = .lst [.lst (ns.map Dt.int), .int s] ∧ ns.length ≤ 60 ∧ 0 ≤ s ∧ s < 2147483647
def sp__law_heap (K : PySem.W.Frag) (C : Addr) : Sp := fun vs H Q _ => ∃ (a : Addr) (l : List Int), vs = [.ref a] ∧ SqF K H a (l.map V.int) ∧ ∀ v H' d, (∀ b o, H b = some o → H' b = some o) → Rep C (fun b => H b ≠ none) H' v d → HeapD d → Q v H'
section
variable {W : Wd} {δ : Dl} {tb : TE} {i : Nat} {a : Addr} {xs : List Int}
/-- script[:n] -/
theorem ef_sliceA {n : Nat} (k : W.Ok) (hd : δ[i]? = some (some (Sl.sh (.adr a)))) (hI : ∀ H, W.I H → SqL W.K H a (xs.map V.int)) (hb : Ed W tb δ (.int (n : Nat))) : Ef W (tSl (rSlL W.K) (tVar i) tNoPart (tPart tb)) δ ((xs.take n).map Dt.int) := fun g O σ H S Q q =>
  ed_var hd g O σ H S _ fun v H1 x f1 i1 e1 r1 => hb g O σ H1 (S.step f1 i1) _ fun u H2 y f2 i2 e2 r2 => by
    subst e1 e2
    cases r1
    cases r2
    refine ⟨_, rfl, a, _, rfl, hI H2 i2, fun l hl => ?_⟩
    have ec : cutV (xs.map V.int) none (some (n : Int)) = (xs.take n).map V.int := by
      unfold cutV
      rw [HT.sIx_nat]
      have : HT.sIx (xs.map V.int).length 0 none = 0 := rfl
      rw [this, List.drop_zero, Nat.sub_zero, List.map_take]
      by_cases h : n ≤ (xs.map V.int).length
      · rw [Nat.min_eq_left h]
      · rw [Nat.min_eq_right (by omega), List.take_of_length_le (Nat.le_refl _), List.take_of_length_le (by omega)]
    rw [ec]
    exact q l _ _ _ ((f1.trans f2).trans (Fr.new hl)) (k.all i2 (all_new hl)) rfl (back_none (f1.trans f2) i2 hl) upd_same (Reps.of_ints _)
/-- len(script) -/
theorem ed_lenA (hd : δ[i]? = some (some (Sl.sh (.adr a)))) (hI : ∀ H, W.I H → SqL W.K H a (xs.map V.int)) : Ed W (tCB (rLen W.K) (tCons (tVar i) tNil)) δ (.int (xs.length : Nat)) := fun g O σ H S Q q =>
  ea_cons (ed_var hd) ea_nil g O σ H S _ fun vs H1 ds f1 i1 e1 r1 => by
    subst e1
    cases r1 with
    | cons r rr =>
      cases r
      cases rr
      exact ⟨_, xs.length, rfl, .inl ⟨_, hI H1 i1, by rw [List.length_map]⟩, q _ H1 _ f1 i1 rfl (.int _)⟩
end

abbrev N__law_heap : List Str := ["_law_script", "_law_cells", "_law_stir", "_law_cell"]
def t__law_heap (K : PySem.W.Frag) (C R : Addr) : TS := (tSeq (tPar 1 2 (tCons (tLc (iList K (tSl (rSlL K) (tVar 0) tNoPart (tPart (tC (.int 60))))) (gName 3) tYes (tOp rAdd (tOp rMulX (tC (.int 2)) (tCB rAbs (tCons (tVar 3) tNil))) (tCB rInt1 (tCons (tOp rLtI (tVar 3) (tC (.int 0))) tNil))) [3]) (tCons (tC (.int 6421)) tNil)))
  (tSeq (tFor (iList K (tVar 1)) (gName 3) (tAsg (tOp rMod (tCB rInt1 (tCons (tOp rAdd (tOp rAdd (tOp rMulW (tVar 2) (tC (.int 48271))) (tOp rMod (tCB rInt1 (tCons (tVar 3) tNil)) (tC (.int 2147483563)))) (tC (.int 17))) tNil)) (tC (.int 2147483647))) (gName 2)))
  (tRet (tLst (tCons (tRevL K (tLc (iList K (tVar 1)) (gName 3) (tTest (tOp rGeI (tVar 3) (tOp rPow (tC (.int 10)) (tC (.int 18))))) (tVar 3) [3])) (tCons (tVar 2) tNil))))))
theorem sd__law_heap (W : Wd) (k : W.Ok) (R : Addr) (a : Addr) (x : List Int) (hI : ∀ H, W.I H → SqL W.K H a (x.map V.int)) : Sd W (t__law_heap W.K W.C R) (startD N__law_heap.length [.adr a]) { rt := fun d => HeapD d, nx := fun _ => HeapD Dt.non } := by
  refine sq_par (eam_sh (R := fun d => ∃ ns : List Int, d = .lst (ns.map Dt.int) ∧ ns.length ≤ 60) (Er.imp (Efr.er (efr_ints (fun _ => True) k (YlG.yl (yg_list (Ef.ed (ef_sliceA (n := 60) k rfl hI ed_int)))) (by simp; omega) fun d hd => ?_)) fun d ⟨ds, e, ns, e2, hl, _⟩ => ⟨ns, by rw [e, e2], by rw [hl]; simp; omega⟩) fun d ⟨ns, e, hl⟩ => eam_shE ed_int (eam_nil ⟨_, _, rfl, ?_⟩))
  · obtain ⟨v, _, e⟩ := List.mem_map.mp hd
    subst e
    exact ⟨_, _, tg_name (of_decide_eq_true rfl), by simp, Ed.er (ed_op (ed_op ed_int (ed_cb (ea_cons (ed_var rfl) ea_nil) cd_abs) (od_I (IntMulOk.of_left (by decide)))) (ed_cb (ea_cons (ed_op (ed_var rfl) ed_int od_B0) ea_nil) cd_intB) od_I0) ⟨_, rfl, trivial⟩⟩
  subst e
  refine sq_for k (yg_list (ed_var rfl)) (fun i δ => ∃ (s : Int) (q : Option Sl), 0 ≤ s ∧ s < 2147483647 ∧ δ = [some (.sh (.adr a)), some (.sh (.lst (ns.map Dt.int))), some (.sh (.int s)), q]) ⟨6421, none, by decide, by decide, rfl⟩ ?_ ?_
  · rintro i d δ' hd ⟨s, q, h0, h1, rfl⟩
    obtain ⟨v, hv, rfl⟩ := map_at hd
    refine ⟨_, _, tg_name (of_decide_eq_true rfl), ?_⟩
    refine sd_asg (R := fun d => d = .int ((s * 48271 + v % 2147483563 + 17) % 2147483647)) (ed_op (ed_cb (ea_cons (ed_op (ed_op (ed_op (ed_var rfl) ed_int (od_I (mul_ok (m := 31) (n := 20) (by omega) (by decide) (by decide)))) (ed_op (ed_cb (ea_cons (ed_var rfl) ea_nil) cd_int) ed_int (od_I (by decide))) od_I0) ed_int od_I0) ea_nil) cd_int) ed_int (od_I (by decide))) (of_decide_eq_true rfl) fun d e => ?_
    subst e
    exact ⟨_, _, Int.emod_nonneg _ (by decide), Int.emod_lt_of_pos _ (by decide), rfl⟩
  · rintro δ' ⟨s, q, h0, h1, rfl⟩
    refine sd_ret (Ed.er (Ef.ed (ef_lst k (ea_cons (Ef.ed (ef_revL k (Ef.ec (ef_lc ns Dt.int (fun v => decide ((10 : Int) ^ (18 : Int).toNat ≤ v)) Dt.int k (YlG.yl (yg_list (ed_var rfl))) (by omega) fun v hv => ⟨_, _, tg_name (of_decide_eq_true rfl), by simp, et_test (ed_op (ed_var rfl) (ed_op ed_int ed_int (od_I (f := fun i j => i ^ j.toNat) ⟨by decide, by decide, by decide⟩)) od_B0), fun _ => ed_var rfl⟩)))) (ea_cons (ed_var rfl) ea_nil)) (by simp))) ⟨(ns.filter fun v => decide ((10 : Int) ^ (18 : Int).toNat ≤ v)).reverse, s, by rw [List.map_reverse], ?_, h0, h1⟩)
    rw [List.length_reverse]
    exact Nat.le_trans (List.length_filter_le _ _) hl

theorem len__law_heap {K : PySem.W.Frag} {C : Addr} {vs : List V} {H : Hp} {Q : VK} {E : XK} (h : sp__law_heap K C vs H Q E) : vs.length = 1 := by
  obtain ⟨a, l, rfl, _⟩ := h
  rfl
theorem run__law_heap {K : PySem.W.Frag} {C R : Addr} {vs : List V} {H : Hp} {Q : VK} {E : XK} (h : sp__law_heap K C vs H Q E) : t__law_heap K C R { nx := fun _ H' => Q .non H', rt := Q } (L2.start N__law_heap vs) H := by
  obtain ⟨a, l, rfl, hs, q⟩ := h
  let W : Wd := ⟨C, K, fun _ => False, fun b => H b ≠ none, fun H' => SqF K H' a (l.map V.int) ∧ ∀ b, H b ≠ none → H' b ≠ none, fun _ z => z.elim, fun H' b i hb => i.2 b hb⟩
  have k : W.Ok := ⟨fun H1 H2 i kp hd => ⟨i.1.keep fun b o n _ e => kp b o (.inr n) e, hd⟩⟩
  have hno : ¬ HeapD .non := fun ⟨_, _, e, _⟩ => by cases e
  refine sd__law_heap W k R a l (fun H' i => i.1.sq) (ghB W H) _ _ H _ (SR.start (W := W) (ds := [.adr a]) (.cons (.adr a) .nil) ⟨hs, fun _ h => h⟩ fun b o _ e => ⟨e, False.elim⟩) ⟨fun O σ H' δ S p => (hno p).elim, fun O v H' d pg _ rv p => ?_, fun _ _ _ _ _ z => z.elim, fun _ _ _ _ _ z => z.elim, fun _ _ _ _ _ _ _ z => z.elim, fun _ _ _ _ _ _ _ _ _ _ z => z.elim⟩
  exact q v H' d (fun b o e => (pg b o (fun z => z) e).1) rv p

theorem sc__law_heap : FnScope N__law_heap ["_law_script"] (defScope s__law_heap) := ⟨rfl, rfl, rfl, by decide +kernel, rfl, by decide +kernel, by decide +kernel⟩
section
variable {P : Program} {w : World} {K : PySem.W.Frag} {mg : Str → Option Value} {base : Heap}
theorem b__law_heap (T : Fx K mg) : Binds K T.f__law_heap.fd ["_law_script"] [] := T.f__law_heap.F.bindsN fun _ _ _ _ _ _ us hl => match us, hl with | [_], _ => rfl
theorem d__law_heap (T : Fx K mg) {cdv : Value} {A : Around} {outer : List Env} {s : Shared} {H : Hp} {E : XK} (hr : Room 0 (A.deeper (envOfC "_law_heap" (defScope s__law_heap) s.heap.objs.size T.f__law_heap.f cdv))) : PSs (cxOf CX0 P w K mg base N__law_heap "_law_heap" (defScope s__law_heap) T.f__law_heap.f cdv A outer s H E).nox (defBody s__law_heap) (t__law_heap K T.C T.R) :=
  have nd := sc__law_heap.nd
  (pss_cons (ps_par (i := 1) (j := 2) rfl nd rfl rfl (by decide) rfl rfl (pa_cons (pe_lc (own := [("_law_cell", 3)]) (g := (gName 3)) (tt := tYes) rfl nd (pi_list (pe_slice sl_list (pv 0) po_none (po_some pe_int))) (blkOk_by (by kernel_rfl)) (fun _ _ _ _ _ => (pg_name (i := 3) nd rfl (by first | exact Or.inl rfl | exact Or.inr rfl))) (fun _ _ _ _ _ => pts_nil) (fun _ _ _ _ _ => (pe_op op_add (pe_op op_mulX pe_int (pe_callB o_abs rfl T.b_abs boot_abs (pa_cons (pv 3) pa_nil))) (pe_callTy o_int1 rfl T.b_int boot_int (pa_cons (pe_cmpR op_lt (pv 3) pe_int (nomark _)) pa_nil))))) (pa_cons pe_int pa_nil)) rfl)
  (pss_cons (ps_for PassesOwn.never rfl (pi_list (pv 1)) (pg_name (i := 3) nd rfl (by first | exact Or.inl rfl | exact Or.inr rfl)) (pss_one (ps_set (i := 2) nd rfl (by first | exact Or.inl rfl | exact Or.inr rfl) (pe_op op_mod (pe_callTy o_int1 rfl T.b_int boot_int (pa_cons (pe_op op_add (pe_op op_add (pe_op op_mulW (pv 2) pe_int) (pe_op op_mod (pe_callTy o_int1 rfl T.b_int boot_int (pa_cons (pv 3) pa_nil)) pe_int)) pe_int) pa_nil)) pe_int))))
  (pss_one (ps_ret (pe_lst (pa_cons (pe_revL (pe_lc (own := [("_law_cell", 3)]) (g := (gName 3)) (tt := (tTest (tOp rGeI (tVar 3) (tOp rPow (tC (.int 10)) (tC (.int 18)))))) rfl nd (pi_list (pv 1)) (blkOk_by (by kernel_rfl)) (fun _ _ _ _ _ => (pg_name (i := 3) nd rfl (by first | exact Or.inl rfl | exact Or.inr rfl))) (fun _ _ _ _ _ => (pts_one (pt_cmpR op_ge (pv 3) (pe_op op_pow pe_int pe_int) (nomark _)))) (fun _ _ _ _ _ => (pv 3)))) (pa_cons (pv 2) pa_nil)))))))
theorem ok__law_heap (T : Fx K mg) : FnOk P w K mg base CX0 1 T.f__law_heap.f T.f__law_heap.fd ["_law_script"] (sp__law_heap K T.C) :=
  T.f__law_heap.F.ok sc__law_heap (fun vs H Q E h => len__law_heap h) fun cdv A outer s H vs Q E hr h => ⟨t__law_heap K T.C T.R, PSs.nox (d__law_heap T hr), run__law_heap h⟩
end
end DL
namespace DL
open PySem PySem.Spec PyProof.Rows L2 Hd
/-! ### _law_wide -/
def ordW : List (List Nat) := [[0, 1, 2, 3], [3, 0, 1, 2], [2, 3, 1, 0]]
def inW : List (Nat × Nat) := [(7, 43), (10, 30)]
abbrev namW : List Str := ["a", "b", "c", "d"]
def sgW (i : Nat) : Int := if decide ((i : Int) < 30) then 1 else 0 - 1
def partsW (u d i : Nat) : List Int := [sgW i, 2 * sgW i, sgW i, (if decide ((i : Int) < (u : Nat)) then 1 else 0) - (if decide ((60 : Int) - (d : Nat) ≤ (i : Nat)) then 1 else 0)]
def ownW (o : List Nat) (u d i : Nat) : List Int := o.map fun j => gi (partsW u d i) j
def rowW (o : List Nat) (u d i : Nat) : Row := leastR (ownW o u d i) (61 + 2 * (i : Int))
def rowsW (o : List Nat) (u d : Nat) : List Row := (List.range 60).map (rowW o u d)
structure WideOk (x : Nat × Nat) (rs : List Row) : Prop where
  s : SysOk (namW, rs)
  m : manyE rs 4 = 2700 + (x.1 : Int) * (x.2 : Int)
abbrev sp__law_wide (C : Addr) : Sp := spI C (G := Nat × Nat) (fun x => [.int (x.1 : Nat), .int (x.2 : Nat)]) (fun x => x ∈ inW) (fun x d => ∃ rs, d = sysD namW rs ∧ WideOk x rs)

abbrev N__law_wide : List Str := ["_law_heap_here", "_law_ups", "_law_downs", "_law_order", "_law_rows_here", "_law_at", "_law_sign", "_law_parts", "_law_place"]
def t__law_wide (K : PySem.W.Frag) (C R : Addr) : TS := (tSeq (tPar 3 4 (tCons (tCall (sp__law_pick C) [] E0 (tCons (tVar 0) (tCons (tLst (tCons (tLst (tCons (tC (.int 0)) (tCons (tC (.int 1)) (tCons (tC (.int 2)) (tCons (tC (.int 3)) tNil))))) (tCons (tLst (tCons (tC (.int 3)) (tCons (tC (.int 0)) (tCons (tC (.int 1)) (tCons (tC (.int 2)) tNil))))) (tCons (tLst (tCons (tC (.int 2)) (tCons (tC (.int 3)) (tCons (tC (.int 1)) (tCons (tC (.int 0)) tNil))))) tNil)))) tNil))) (tCons (tLst tNil) tNil)))
  (tSeq (tFor (iRng1 (tCons (tC (.int 60)) tNil)) (gName 5) (tSeq (tAsg (tIf (tTest (tOp rLtI (tVar 5) (tC (.int 30)))) (tC (.int 1)) (tOp rSub (tC (.int 0)) (tC (.int 1)))) (gName 6))
  (tSeq (tAsg (tLst (tCons (tVar 6) (tCons (tOp rMulW (tC (.int 2)) (tVar 6)) (tCons (tVar 6) (tCons (tOp rSub (tCB rInt1 (tCons (tOp rLtI (tVar 5) (tVar 1)) tNil)) (tCB rInt1 (tCons (tOp rLeI (tOp rSub (tC (.int 60)) (tVar 2)) (tVar 5)) tNil))) tNil))))) (gName 7))
  (tDrop (tBM K "list" rAppend (tVar 4) (tCons (tCall (sp__law_least C) [] E0 (tCons (tLc (iList K (tVar 3)) (gName 8) tYes (tOp (rIxL K) (tVar 7) (tVar 8)) [8]) (tCons (tOp rAdd (tC (.int 61)) (tOp rMulW (tC (.int 2)) (tVar 5))) tNil))) tNil))))))
  (tRet (tMake C (spNew C) [] E0 (tCons (tTup (tCons (tC (.str "a")) (tCons (tC (.str "b")) (tCons (tC (.str "c")) (tCons (tC (.str "d")) tNil))))) (tCons (tCB (rTuple K) (tCons (tCB (rSortD K) (tCons (tVar 4) tNil)) tNil)) tNil))))))
def okW (r : Row) : Bool := r.1.length == 4 && r.1.any (fun x => !decide (x = 0)) && gcdL r.1 r.2.natAbs == 1 && (r.2 :: r.1).all fun x => decide (x.natAbs < 1000)
theorem chkW : ∀ x ∈ inW, ∀ o ∈ ordW, (rowsW o x.1 x.2).Nodup ∧ manyE (rowsW o x.1 x.2) 4 = 2700 + (x.1 : Int) * (x.2 : Int) ∧ (rowsW o x.1 x.2).all okW = true := by decide +kernel
theorem preW : ∀ x ∈ inW, ∀ o ∈ ordW, ∀ i, i < 60 → ((ownW o x.1 x.2 i).all fun y => decide (y.natAbs < 4)) = true ∧ ((ownW o x.1 x.2 i).any fun y => !decide (y = 0)) = true := by decide +kernel
theorem ordW_lt : ∀ o ∈ ordW, o.length = 4 ∧ ∀ j ∈ o, j < 4 := by decide
theorem inW_le : ∀ x ∈ inW, x.1 ≤ 60 ∧ x.2 ≤ 60 := by decide
theorem okW_ok {r : Row} (h : okW r = true) : rowOk 4 r := by
  unfold okW at h
  simp only [Bool.and_eq_true, beq_iff_eq, List.any_eq_true, List.all_eq_true, Bool.not_eq_true', decide_eq_false_iff_not, decide_eq_true_eq] at h
  obtain ⟨⟨⟨h1, h2⟩, h3⟩, h4⟩ := h
  exact ⟨h1, h2, h3, fun x hx => Nat.lt_of_lt_of_le (h4 x hx) (by decide)⟩
theorem posN_perm {l m : List Int} (h : l.Perm m) : posN l = posN m := (h.filter _).length_eq
theorem negN_perm {l m : List Int} (h : l.Perm m) : negN l = negN m := (h.filter _).length_eq
theorem manyE_perm {l m : List Row} (h : l.Perm m) (n : Nat) : manyE l n = manyE m n := by
  unfold manyE
  congr 1
  refine List.map_congr_left fun i _ => ?_
  have := h.map fun r : Row => gi r.1 i
  unfold colE
  rw [posN_perm this, negN_perm this]
theorem strict_of {ks : List Row} (hs : ks.Pairwise fun x y => dLt (rD y) (rD x) = false) (hn : ks.Nodup) : ks.Pairwise fun a b => dLt (rD a) (rD b) = true := by
  rw [List.pairwise_iff_getElem] at hs ⊢
  intro i j hi hj hij
  refine dLt_strict (pl_rD _) (pl_rD _) (alk_rD _ _) (fun z => ?_) (hs i j hi hj hij)
  exact List.pairwise_iff_getElem.mp hn i j hi hj hij (rD_inj z)
theorem namW_ok : namesOk namW := by
  refine ⟨by decide, by decide, (by decide +kernel : ∀ s ∈ namW, 1 ≤ s.length ∧ s.length ≤ 5 ∧ ∀ c ∈ s.cps.toList, c ∈ LET.cps.toList), ?_⟩
  rintro i a b ha hb
  match i, ha, hb with
  | 0, ha, hb => cases ha; cases hb; decide +kernel
  | 1, ha, hb => cases ha; cases hb; decide +kernel
  | 2, ha, hb => cases ha; cases hb; decide +kernel
  | n + 3, ha, hb => simp at hb
/-- System(names, rows), the rows known by what holds of them -/
theorem er_new {W : Wd} {δ : Dl} {tar : TA} {ns : List Str} {E : XK} {P : Dt → Prop} {q : List Row → Prop} (k : W.Ok) (ha : Ear W tar δ fun ds => ∃ rs, ds = [namesD ns, rowsD rs] ∧ q rs) (hn : namesOk ns) (hr : ∀ rs, q rs → rowsOk ns.length rs) (h : ∀ rs, q rs → P (sysD ns rs)) : Er W (tMake W.C (spNew W.C) [] E tar) δ P := fun g O σ H S Q qq => ha g O σ H S _ fun vs H1 ds f1 i1 ⟨rs, e, hq⟩ r => by
  subst e
  cases r with
  | @cons v1 _ _ _ r1 rr =>
    cases rr with
    | @cons v2 _ _ _ r2 rr =>
      cases rr
      intro x dx hx hdx hne
      have S1 := S.step f1 i1
      have up : ∀ a o, H1 a = some o → upd (upd H1 dx (.own x)) x (.ins W.C dx []) a = some o := fun a o e => by
        rw [upd_ne (ne_of_none e hx), upd_ne (ne_of_none e hdx)]; exact e
      refine ⟨W.M O, x, dx, v1, v2, ns, rs, rfl, upd_same, fun a h z => ?_, r1.mono fun a o n e => ⟨n, up a o e⟩, r2.mono fun a o n e => ⟨n, up a o e⟩, hn, hr rs hq, fun H' ex ⟨fs, hf, l1, l2⟩ => ⟨rfl, ?_⟩⟩
      · cases e : H1 a with
        | none => exact S1.there a h e
        | some o => rw [up a o e] at z; cases z
      · have keep : ∀ a o, H1 a = some o → H' a = some o := fun a o e => ex a o (ne_of_none e hx) (up a o e)
        refine qq _ H' _ (f1.trans (Fr.all keep)) (k.all i1 keep) (h rs hq) (.sys hf (S1.fresh hx) l1 l2 (r1.mono fun a o n e => ⟨n, keep a o e⟩) (r2.mono fun a o n e => ⟨n, keep a o e⟩))
theorem sd__law_wide (W : Wd) (k : W.Ok) (R : Addr) (a c : Addr) (hold : Hold W a c) (x : Nat × Nat) (hp : x ∈ inW) : Sd W (t__law_wide W.K W.C R) (startD N__law_wide.length [.adr a, .int (x.1 : Nat), .int (x.2 : Nat)]) { rt := fun d => ∃ rs, d = sysD namW rs ∧ WideOk x rs, nx := fun _ => ∃ rs, Dt.non = sysD namW rs ∧ WideOk x rs } := by
  have hle := inW_le x hp
  have hod : ∀ d, d ∈ (ordW.map fun o => Dt.lst (o.map fun j : Nat => .int (j : Nat))) → ∃ o ∈ ordW, d = .lst (o.map fun j : Nat => .int (j : Nat)) := fun d hd => by
    obtain ⟨o, ho, e⟩ := List.mem_map.mp hd
    exact ⟨o, ho, e.symm⟩
  refine sq_par (eam_sh (R := fun d => ∃ o ∈ ordW, d = .lst (o.map fun j : Nat => .int (j : Nat))) (er_callIE (ordW.map fun o => Dt.lst (o.map fun j : Nat => .int (j : Nat))) hold (ea_cons (ed_var rfl) (ea_cons (Ef.ed (ef_lst k (ea_cons (Ef.ed (ef_lst k (ea_cons ed_int (ea_cons ed_int (ea_cons ed_int (ea_cons ed_int ea_nil)))) (by simp))) (ea_cons (Ef.ed (ef_lst k (ea_cons ed_int (ea_cons ed_int (ea_cons ed_int (ea_cons ed_int ea_nil)))) (by simp))) (ea_cons (Ef.ed (ef_lst k (ea_cons ed_int (ea_cons ed_int (ea_cons ed_int (ea_cons ed_int ea_nil)))) (by simp))) ea_nil))) (by rw [List.length_map]; decide))) ea_nil)) (by decide) hod) fun d ⟨o, ho, e⟩ => eam_ownE (ef_lst k ea_nil (by simp)) (eam_nil ⟨_, _, rfl, ?_⟩))
  subst e
  obtain ⟨ho4, hoj⟩ := ordW_lt o ho
  refine sq_for k (yg_rangeN (n := 60) (ea_cons ed_int ea_nil) (by decide)) (fun i δ => ∃ q5 q6 q7 : Option Sl, δ = [some (.sh (.adr a)), some (.sh (.int (x.1 : Nat))), some (.sh (.int (x.2 : Nat))), some (.sh (.lst (o.map fun j : Nat => .int (j : Nat)))), some (.own (((List.range i).map (rowW o x.1 x.2)).map rD)), q5, q6, q7, none]) ⟨none, none, none, rfl⟩ ?_ ?_
  · rintro i d δ' hd ⟨q5, q6, q7, rfl⟩
    obtain ⟨hi, rfl⟩ := rg_inv hd
    obtain ⟨p1, p2⟩ := preW x hp o ho i hi
    refine ⟨_, _, tg_name (of_decide_eq_true rfl), ?_⟩
    refine sq_asgE (d := .int (sgW i)) (ed_if (b := decide ((i : Int) < 30)) (et_test (ed_op (ed_var rfl) ed_int od_B0)) (fun h => ed_int.to (by unfold sgW; rw [if_pos h])) fun h => Ed.to (ed_op ed_int ed_int od_I0) (by unfold sgW; rw [if_neg (by rw [h]; decide)])) (of_decide_eq_true rfl) ?_
    have hs : (sgW i).natAbs < 2 ^ 2 := by unfold sgW; split <;> decide
    refine sq_asgE (d := .lst ((partsW x.1 x.2 i).map Dt.int)) (Ef.ed (ef_lst k (ea_cons (ed_var rfl) (ea_cons (ed_op ed_int (ed_var rfl) (od_I (mul_ok (m := 2) (n := 2) (by decide) hs (by decide)))) (ea_cons (ed_var rfl) (ea_cons (ed_op (ed_cb (ea_cons (ed_op (ed_var rfl) (ed_var rfl) od_B0) ea_nil) cd_intB) (ed_cb (ea_cons (ed_op (ed_op ed_int (ed_var rfl) od_I0) (ed_var rfl) od_B0) ea_nil) cd_intB) od_I0) ea_nil)))) (by rw [List.length_map]; exact (by decide : 4 ≤ 100000)))) (of_decide_eq_true rfl) ?_
    have hpl : (partsW x.1 x.2 i).length = 4 := rfl
    have hz : ∃ y ∈ ownW o x.1 x.2 i, y ≠ 0 := by
      obtain ⟨y, hy, h0⟩ := List.any_eq_true.mp p2
      exact ⟨y, hy, by simpa using h0⟩
    have hbd : Bd 1000 (ownW o x.1 x.2 i) := fun y hy => by
      have h4 : y.natAbs < 4 := of_decide_eq_true (List.all_eq_true.mp p1 y hy)
      exact Nat.lt_of_lt_of_le h4 (show 2 ^ 2 ≤ 2 ^ 1000 from Nat.pow_le_pow_right (by decide) (by decide))
    refine sd_append (R := fun d => d = rD (rowW o x.1 x.2 i)) k rfl (ed_least (l := ownW o x.1 x.2 i) (b := 61 + 2 * (i : Int)) k (ea_cons ((Ef.ed (ef_lcAll o (fun j => .int (j : Nat)) (fun j => .int (gi (partsW x.1 x.2 i) j)) k (YlG.yl (yg_list (ed_var rfl))) (by omega) fun j hj => ⟨_, _, tg_name (of_decide_eq_true rfl), by simp, ed_ixL (Ed.ec (ed_var rfl)) (ed_var rfl) (gi_atI (by rw [hpl]; exact hoj j hj))⟩)).to (by unfold ownW; rw [List.map_map]; rfl)) (ea_cons (ed_op ed_int (ed_op ed_int (ed_var rfl) (od_I (mul_ok (m := 2) (n := 10) (by decide) (by omega) (by decide)))) od_I0) ea_nil)) (by unfold ownW; rw [List.length_map]; omega) hbd hz) (by simp; omega) fun d e => ⟨_, _, _, by
      subst e
      rw [List.range_succ, List.map_append, List.map_append]; rfl⟩
  · rintro δ' ⟨q5, q6, q7, rfl⟩
    have er : ((List.range 60).map fun k => Dt.int (k : Nat)).length = 60 := by simp
    rw [er]
    obtain ⟨hnd, hm, hall⟩ := chkW x hp o ho
    have hq : ∀ ks : List Row, ks.Perm (rowsW o x.1 x.2) ∧ (ks.Pairwise fun x y => dLt (rD y) (rD x) = false) → WideOk x ks := fun ks ⟨h1, h2⟩ => by
      have hst := strict_of h2 (h1.nodup_iff.mpr hnd)
      refine ⟨⟨namW_ok, ⟨?_, fun r hr => ?_, pair_next hst⟩⟩, by rw [manyE_perm h1, hm]⟩
      · show ks.length ≤ 60
        rw [h1.length_eq]; unfold rowsW; simp
      · exact okW_ok (List.all_eq_true.mp hall r (h1.mem_iff.mp hr))
    refine sd_ret (er_new (ns := namW) (q := fun rs => rs.Perm (rowsW o x.1 x.2) ∧ rs.Pairwise fun x y => dLt (rD y) (rD x) = false) k (ear_cons (PR := fun _ => True) (P1 := fun d => d = namesD namW) (ed_tup k (ea_cons ed_str (ea_cons ed_str (ea_cons ed_str (ea_cons ed_str ea_nil)))) (by simp)) fun d e => ear_cons (PR := fun _ => True) (P1 := fun d => ∃ rs : List Row, d = rowsD rs ∧ rs.Perm (rowsW o x.1 x.2) ∧ rs.Pairwise fun x y => dLt (rD y) (rD x) = false) (er_tupleF k (sorted_rows (l := rowsW o x.1 x.2) k (ec_var rfl)) fun ds ⟨ks, e, h⟩ => ⟨ks, by rw [e], h⟩) fun d2 ⟨rs, e2, h⟩ => Ear.imp ear_nil fun ds e3 => by subst e e2 e3; exact ⟨rs, rfl, h⟩) namW_ok (fun rs h => (hq rs h).s.r) fun rs h => ⟨rs, rfl, hq rs h⟩)

theorem sc__law_wide : FnScope N__law_wide ["_law_heap_here", "_law_ups", "_law_downs"] (defScope s__law_wide) := ⟨rfl, rfl, rfl, by decide +kernel, rfl, by decide +kernel, by decide +kernel⟩
section
variable {P : Program} {w : World} {K : PySem.W.Frag} {mg : Str → Option Value} {base : Heap}
theorem b__law_wide (T : Fx K mg) : Binds K T.f__law_wide.fd ["_law_heap_here", "_law_ups", "_law_downs"] [] := T.f__law_wide.F.bindsN fun _ _ _ _ _ _ us hl => match us, hl with | [_, _, _], _ => rfl
theorem d__law_wide (T : Fx K mg) {cdv : Value} {A : Around} {outer : List Env} {s : Shared} {H : Hp} {E : XK} (hr : Room 6 (A.deeper (envOfC "_law_wide" (defScope s__law_wide) s.heap.objs.size T.f__law_wide.f cdv))) : PSs (cxOf CX0 P w K mg base N__law_wide "_law_wide" (defScope s__law_wide) T.f__law_wide.f cdv A outer s H E).nox (defBody s__law_wide) (t__law_wide K T.C T.R) :=
  have nd := sc__law_wide.nd
  (pss_cons (ps_par (i := 3) (j := 4) rfl nd rfl rfl (by decide) rfl rfl (pa_cons (pe_call (ok__law_pick T) (hr.mono (by decide)) rfl T.f__law_pick.g T.f__law_pick.F.kp (b__law_pick T) .nil pass0 (pa_cons (pv 0) (pa_cons (pe_lst (pa_cons (pe_lst (pa_cons pe_int (pa_cons pe_int (pa_cons pe_int (pa_cons pe_int pa_nil))))) (pa_cons (pe_lst (pa_cons pe_int (pa_cons pe_int (pa_cons pe_int (pa_cons pe_int pa_nil))))) (pa_cons (pe_lst (pa_cons pe_int (pa_cons pe_int (pa_cons pe_int (pa_cons pe_int pa_nil))))) pa_nil)))) pa_nil))) (pa_cons (pe_lst pa_nil) pa_nil)) rfl)
  (pss_cons (ps_for PassesOwn.never rfl (pi_range1 rfl T.b_range (pa_cons pe_int pa_nil)) (pg_name (i := 5) nd rfl (by first | exact Or.inl rfl | exact Or.inr rfl)) (pss_cons (ps_set (i := 6) nd rfl (by first | exact Or.inl rfl | exact Or.inr rfl) (pe_ifExp (pt_cmpR op_lt (pv 5) pe_int (nomark _)) pe_int (pe_op op_sub pe_int pe_int)))
  (pss_cons (ps_set (i := 7) nd rfl (by first | exact Or.inl rfl | exact Or.inr rfl) (pe_lst (pa_cons (pv 6) (pa_cons (pe_op op_mulW pe_int (pv 6)) (pa_cons (pv 6) (pa_cons (pe_op op_sub (pe_callTy o_int1 rfl T.b_int boot_int (pa_cons (pe_cmpR op_lt (pv 5) (pv 1) (nomark _)) pa_nil)) (pe_callTy o_int1 rfl T.b_int boot_int (pa_cons (pe_cmpR op_le (pe_op op_sub pe_int (pv 2)) (pv 5) (nomark _)) pa_nil))) pa_nil))))))
  (pss_one (ps_expr (pe_bm PySem.F.plainAttrs_list PySem.F.slot_list_append PySem.F.type_list_append mt_append (pv 4) (pa_cons (pe_call (ok__law_least T) (hr.mono (by decide)) rfl T.f__law_least.g T.f__law_least.F.kp (b__law_least T) .nil pass0 (pa_cons (pe_lc (own := [("_law_place", 8)]) (g := (gName 8)) (tt := tYes) rfl nd (pi_list (pv 3)) (blkOk_by (by kernel_rfl)) (fun _ _ _ _ _ => (pg_name (i := 8) nd rfl (by first | exact Or.inl rfl | exact Or.inr rfl))) (fun _ _ _ _ _ => pts_nil) (fun _ _ _ _ _ => (pe_ix ix_list (pv 7) (pv 8) (fun _ _ => rfl)))) (pa_cons (pe_op op_add pe_int (pe_op op_mulW pe_int (pv 5))) pa_nil))) pa_nil)))))))
  (pss_one (ps_ret (pe_make T.M (ok_init T) (hr.mono (by decide)) rfl T.g_System (b_init T) .nil pass0 (pa_cons (pe_tup (pa_cons pe_str (pa_cons pe_str (pa_cons pe_str (pa_cons pe_str pa_nil))))) (pa_cons (pe_callTy call_tuple_of rfl T.b_tuple boot_tuple (pa_cons (pe_callB (callSortD (hu100 hr)) rfl T.b_sorted boot_sorted (pa_cons (pv 4) pa_nil)) pa_nil)) pa_nil)))))))
theorem ok__law_wide (T : Fx K mg) : FnOk P w K mg base CX0 7 T.f__law_wide.f T.f__law_wide.fd ["_law_heap_here", "_law_ups", "_law_downs"] (sp__law_wide T.C) :=
  T.f__law_wide.F.ok sc__law_wide (fun vs H Q E ⟨A, a, c, x, _, _, _, _, r, _⟩ => by rw [r.length]; rfl) fun cdv A outer s H vs Q E hr h => ⟨t__law_wide K T.C T.R, PSs.nox (d__law_wide T hr), run_I K h fun W k a c hold x hC hK hp => by subst hK; rw [← hC]; exact sd__law_wide W k T.R a c hold x hp⟩
end
end DL
/-! _law_heard(lambda: ..) -/
namespace DL
open PySem PySem.Spec PyProof.Rows L2 Hd LamX
abbrev N_heard : List Str := ["_law_work", "error"]
theorem sc_heard : FnScope N_heard ["_law_work"] (defScope s__law_heard) := ⟨rfl, rfl, rfl, by decide +kernel, rfl, by decide +kernel, by decide +kernel⟩
/-- what _law_heard makes of the lambda's reading -/
def TTH (R : Addr) : (XK → Hp → VK → Prop) → Hp → VK → Prop := fun tl H Q =>
  tl (fun cls d H' => cls = .ref R ∧ ∃ (dd : Addr) (w : Str), d = some dd ∧ H' dd = some (.xd [(("word" : Str), .str w)]) ∧ ∀ p, H' p = none → Q (.ref p) (upd H' p (.tup [.str "refused", .str w]))) H (fun v H' => [V.str "told", v].length ≤ sizeLine ∧ ∀ p, H' p = none → Q (.ref p) (upd H' p (.tup [.str "told", v])))
theorem heard_gives {X : Cx} {g R : Addr} {cdg : Value} {q : Str} (F : XfC X.K R) (hno : PySem.W.findIn X.K (.ref R) "word" = some none) (te : PySem.W.exmOne X.K (.ref R) (.ref R) = some true) (hm : X.mg "Refused" = some (.ref R)) :
    GivesTo X N_heard "_law_heard" (defScope s__law_heard) g cdg (defBody s__law_heard) "_law_work" q (TTH R) := by
  intro f c' s H Q tl act hc h
  refine ⟨_, pss_one (ps_try_as (X := (cxOf C8.CX0 X.prog X.w X.K X.mg X.base N_heard "_law_heard" (defScope s__law_heard) g cdg X.A X.stack s H C8.E0).nox) (c := .ref R) (i := 1) (Wout := fun _ _ _ _ => False)
      (tb := fun W D σ H => ∃ Ech : XK, (∀ cls d σ' H', Ech cls d H' → σ'.length = 2 → W cls d σ' H') ∧ σ[0]? = some (some (.ref f)) ∧ H c' = some (CodeO c' q) ∧ tl Ech H (fun v H' => [V.str "told", v].length ≤ sizeLine ∧ ∀ p, H' p = none → D.rt (.ref p) (upd H' p (.tup [.str "told", v]))))
      (ts := fun a cls d => tRet (tTup (tCons (tC (.str "refused")) (tCons (tXf a cls d R "word" (tVar 1)) tNil))))
      rfl rfl sc_heard.nd rfl (by kernel_rfl) ⟨rfl, by decide, .inl hm⟩ takes0 (fun W pn xe tk _ => ?_) (fun a oe cls d pn hz hf => ?_)), ?_⟩
  · refine ⟨fun pins s' σ H' D I h' => ?_⟩
    obtain ⟨Ech, hW, h1, h2, h3⟩ := h'
    exact (pss_one (ps_ret (pe_tup (pa_cons (pe_str (X := (cxOf C8.CX0 X.prog X.w X.K X.mg X.base N_heard "_law_heard" (defScope s__law_heard) g cdg X.A X.stack s H C8.E0).tr pn xe)) (pa_cons (act (fun cls d σ H => σ.length = 2 → W cls d σ H) pn xe Ech _ _ (fun u s' ⟨a, B, sI, pins, σ, H, cls, d, e, I, nb, up, sky, na, os, ag, w⟩ => tk u s' ⟨a, B, sI, pins, σ, H, cls, d, e, I, nb, up, sky, na, os, ag, w I.len⟩) hW) pa_nil))))).run pins s' σ H' D I ⟨h1, h2, h3⟩
  · exact pss_one (ps_ret (pe_tup (pa_cons pe_str (pa_cons (pe_xf F hno hz hf (pv 1)) pa_nil))))
  · refine ⟨_, fun cls d σ' H' ⟨e1, dd, w, e2, e3, e4⟩ hl => ⟨true, by rw [e1]; exact te, fun _ a ha => ?_, fun z => by cases z⟩, rfl, hc, h⟩
    exact ⟨_, List.getElem?_set_self (by omega), rfl, e1, dd, _, .str w, e2, e3, rfl, (show 2 ≤ sizeLine by decide), fun p hp => e4 p hp⟩
end DL
/-! calls by keywords alone -/
namespace DL
open PySem PySem.Spec PyProof.Rows L2 Hd
section
variable {X : Cx} {CX : CXT} {k : Nat} {f : Addr} {fd : FuncData} {ps ks : List Str} {sp : Sp} {E : XK} {x : Str} {p pos : Pos} {kws : List Keyword} {tk : TA} {g : List Value → List Value → List Value} {gV : List V → List V → List V}
theorem pe_callK0 (F : FnOk X.prog X.w X.K X.mg X.base CX k f fd ps sp) (hr : Room k X.A) (hg : Gl X x) (hm : X.mg x = some (.ref f)) (hk : PySem.W.keepIn X.K (.ref f) = true) (hb : KBinds X.K fd ps ks g gV) (hx : Passes CX X E)
    (hkw : PK X kws tk) (hall : (backToKw pos (keywordEach kws X.env)).all (·.1.isSome) = true := by rfl) (hks : (backToKw pos (keywordEach kws X.env)).filterMap (·.1) = ks := by rfl)
    (hdb : (x == ("__debug__" : Str)) = false := by decide)
    (hpl : ((backTo pos (starEach [] X.env)).any (·.1) || (backToKw pos (keywordEach kws X.env)).any (·.1.isNone)) = false := by rfl) :
    PE X (.Call (.Name x p) [] kws pos) (tCallK sp gV E tNil tk) := by
  refine ⟨fun pins s σ H Q I h => ?_⟩
  refine wpAny_Call_Name_kw (ld_glob I hg hm ?_ hdb)
  refine PySem.W.callWith_KW0 (h₀ := X.base) I.ok.mod.kin hk hall (thn (hkw.run pos pins s σ H _ I h) fun ws s2 ⟨zs, H2, I2, rz, q2⟩ => ⟨I2.kIn, ?_⟩) hpl
  rw [hks]
  exact run_fnk (us := []) (vs := []) F hr hb hx I2 .nil rz q2
end
/-- other=, one= -/
def swapG {α : Type} (us ws : List α) : List α := match us, ws with
  | [], [a, b] => [b, a]
  | _, _ => []
/-- at=, other=, one= -/
def rotG {α : Type} (us ws : List α) : List α := match us, ws with
  | [], [a, b, c] => [c, b, a]
  | _, _ => []
/-- system= -/
def oneG {α : Type} (us ws : List α) : List α := match us, ws with
  | [], [a] => [a]
  | _, _ => []
theorem swapG_vals {vs : List V} {us : List Value} {zs : List V} {ws : List Value} (r : Vals vs us) (q : Vals zs ws) : Vals (swapG vs zs) (swapG us ws) := by
  cases r with
  | cons _ _ => exact .nil
  | nil =>
    cases q with
    | nil => exact .nil
    | cons a q =>
      cases q with
      | nil => exact .nil
      | cons b q =>
        cases q with
        | nil => exact .cons b (.cons a .nil)
        | cons _ _ => exact .nil
theorem rotG_vals {vs : List V} {us : List Value} {zs : List V} {ws : List Value} (r : Vals vs us) (q : Vals zs ws) : Vals (rotG vs zs) (rotG us ws) := by
  cases r with
  | cons _ _ => exact .nil
  | nil =>
    cases q with
    | nil => exact .nil
    | cons a q =>
      cases q with
      | nil => exact .nil
      | cons b q =>
        cases q with
        | nil => exact .nil
        | cons c q =>
          cases q with
          | nil => exact .cons c (.cons b (.cons a .nil))
          | cons _ _ => exact .nil
theorem oneG_vals {vs : List V} {us : List Value} {zs : List V} {ws : List Value} (r : Vals vs us) (q : Vals zs ws) : Vals (oneG vs zs) (oneG us ws) := by
  cases r with
  | cons _ _ => exact .nil
  | nil =>
    cases q with
    | nil => exact .nil
    | cons a q =>
      cases q with
      | nil => exact .cons a .nil
      | cons _ _ => exact .nil
section
variable {K : PySem.W.Frag} {mg : Str → Option Value}
theorem kb_unlike (T : Fx K mg) : KBinds K T.f_unlike.fd ["one", "other"] ["other", "one"] swapG swapG := by
  obtain ⟨oc, od, dV, kV, doc, pm, an, cdv, ct, osl, e, lk, hcd, hD, hK⟩ := T.f_unlike.F.ex
  rw [e]
  rcases hD with ⟨_, rfl⟩ | ⟨z, _⟩
  · exact ⟨fun s us ws _ hl => match us, ws, hl with | [], [a, b], _ => .of_eq rfl, swapG_vals⟩
  · exact absurd rfl z
theorem kb_clash (T : Fx K mg) : KBinds K T.f_clash.fd ["one", "other"] ["other", "one"] swapG swapG := by
  obtain ⟨oc, od, dV, kV, doc, pm, an, cdv, ct, osl, e, lk, hcd, hD, hK⟩ := T.f_clash.F.ex
  rw [e]
  rcases hD with ⟨_, rfl⟩ | ⟨z, _⟩
  · exact ⟨fun s us ws _ hl => match us, ws, hl with | [], [a, b], _ => .of_eq rfl, swapG_vals⟩
  · exact absurd rfl z
theorem kb_eliminated (T : Fx K mg) : KBinds K T.f_eliminated.fd ["one", "other", "at"] ["at", "other", "one"] rotG rotG := by
  obtain ⟨oc, od, dV, kV, doc, pm, an, cdv, ct, osl, e, lk, hcd, hD, hK⟩ := T.f_eliminated.F.ex
  rw [e]
  rcases hD with ⟨_, rfl⟩ | ⟨z, _⟩
  · exact ⟨fun s us ws _ hl => match us, ws, hl with | [], [a, b, c], _ => .of_eq rfl, rotG_vals⟩
  · exact absurd rfl z
theorem kb_eliminations (T : Fx K mg) : KBinds K T.f_eliminations.fd ["system"] ["system"] oneG oneG := by
  obtain ⟨oc, od, dV, kV, doc, pm, an, cdv, ct, osl, e, lk, hcd, hD, hK⟩ := T.f_eliminations.F.ex
  rw [e]
  rcases hD with ⟨_, rfl⟩ | ⟨z, _⟩
  · exact ⟨fun s us ws _ hl => match us, ws, hl with | [], [a], _ => .of_eq rfl, oneG_vals⟩
  · exact absurd rfl z
end
end DL
/-! repr of nested tuples -/
namespace DL
open PySem PySem.Spec PyProof.Rows L2 Hd
def rRepr (K : PySem.W.Frag) : List V → Hp → VK → Prop := fun xs H Q => ∃ (a : Addr) (d : PyData), xs = [.ref a] ∧ Dp K H (.ref a) d ∧ d.showable = true ∧ d.hasDict = false ∧ d.depth ≤ 5 ∧ d.shown.length ≤ sizeLine ∧ Q (.str d.shown) H
theorem call_reprD {X : Cx} (hg : X.A.guards = some []) (hu : X.A.units + 100 < cLine) : CallR X (.builtin "repr") (rRepr X.K) := by
  intro pins s σ H xs us Q I rv h
  obtain ⟨a, d, rfl, hd, hs, hnd, hz, hl, q⟩ := h
  cases rv with
  | @cons _ u _ _ r rr =>
    cases rr
    obtain rfl : u = Value.ref a := r
    obtain ⟨as, r1⟩ := Dp.reads I d (.ref a) (.ref a) hd rfl
    exact repr_of_reads' r1 hs (PyData.noDict_hsm hnd) hg (by omega) (fun _ _ e => e) (fun h' u tk hk => ⟨.str d.shown, H, I.kept hk, ⟨u, rfl⟩, q⟩) hl
end DL
/-! defs that want to know that nothing guards -/
namespace DL
open PySem PySem.Spec PyProof.Rows L2 Hd
structure FnG (P : Program) (w : World) (K : PySem.W.Frag) (mg : Str → Option Value) (base : Heap) (k : Nat) (f : Addr) (fd : FuncData) (ps : List Str) (sp : Sp) : Prop where
  len : ∀ vs H Q E, sp vs H Q E → vs.length = ps.length
  run : ∀ (A : Around) (outer : List Env) (s : Shared) (H : Hp) (args : Args) (us : List Value) (vs : List V) (Q : VK) (E : XK), A.guards = some [] → Room k A → Env0 P w K mg base A outer s H → BindsTo s fd args (ps.zip us) → Vals vs us → sp vs H Q E →
    codeAny (model P w) A (.call (.ref f) args) (CR CX0 outer P w H s Q E) s
section
variable {X : Cx} {k : Nat} {f : Addr} {fd : FuncData} {ps : List Str} {sp : Sp} {E : XK} {x : Str} {p pos : Pos} {e : Expr} {es : List Expr} {t : TA}
theorem pe_callG (hG : X.A.guards = some []) (F : FnG X.prog X.w X.K X.mg X.base k f fd ps sp) (hr : Room k X.A) (hg : Gl X x) (hm : X.mg x = some (.ref f)) (hk : PySem.W.keepIn X.K (.ref f) = true) (hb : Binds X.K fd ps [])
    (ha : PA X (e :: es) t) (hdb : (x == ("__debug__" : Str)) = false := by decide) (he : starEach (e :: es) X.env = (false, eval e X.env) :: starEach es X.env := by rfl) (hpl : (backTo pos (starEach es X.env)).any (·.1) = false := by rfl) :
    PE X (.Call (.Name x p) (e :: es) [] pos) (tCall sp [] E t) := by
  refine ⟨fun pins s σ H Q I h => ?_⟩
  refine wpAny_Call_Name_kw (ld_glob I hg hm ?_ hdb)
  refine PySem.W.callWith_K (h₀ := X.base) I.ok.mod.kin hk (thn (ha.run pos pins s σ H _ I h) fun us s1 ⟨vs, H1, I1, r, q⟩ => ⟨I1.kIn, ?_⟩) he hpl
  have q : sp vs H1 Q E := by
    have q0 : sp (vs ++ []) H1 Q E := q
    rwa [List.append_nil] at q0
  have hl : us.length = ps.length := by rw [← r.length]; exact F.len _ _ _ _ q
  have hb1 := hb s1 us I1.kIn (by rw [List.append_nil]; exact hl)
  rw [List.append_nil] at hb1
  refine wpAny_call (codeAny_mono (F.run X.A X.stack s1 H1 ⟨us, []⟩ us vs Q E hG hr I1.env0 hb1 r q) fun r s' hq => ?_)
  cases r with
  | error e => exact (show False from hq).elim
  | ok fl =>
    cases fl with
    | ret u => exact I1.after hq
    | next => exact False.elim hq
    | brk => exact False.elim hq
    | cont => exact False.elim hq
end
section
variable {P : Program} {w : World} {K : PySem.W.Frag} {mg : Str → Option Value} {base : Heap} {x qual : Str} {params : Arguments} {body : List Stmt} {scope : Scope} {dvs : List V} {kws : List (Str × V)} {f : Addr} {fd : FuncData}
theorem okG {N ps : List Str} {k : Nat} {sp : Sp} (F : FunD K x qual params body scope dvs kws f fd) (S : FnScope N ps scope) (len : ∀ vs H Q E, sp vs H Q E → vs.length = ps.length)
    (hbody : ∀ (cdv : Value) (A : Around) (outer : List Env) (s : Shared) (H : Hp) (vs : List V) (Q : VK) (E : XK), (A.deeper (envOfC qual scope s.heap.objs.size f cdv)).guards = some [] → Room k (A.deeper (envOfC qual scope s.heap.objs.size f cdv)) → sp vs H Q E →
      ∃ t, PSs (cxOf CX0 P w K mg base N qual scope f cdv A outer s H E) body t ∧ t { nx := fun _ H' => Q .non H', rt := Q } (L2.start N vs) H) : FnG P w K mg base (k + 1) f fd ps sp := by
  obtain ⟨oc, od, dV, kV, doc, pm, an, cdv, ct, osl, rfl, lk, hcd, _, _⟩ := F.ex
  refine ⟨len, fun A outer s H args us vs Q E hG hr e0 hb r hsp => ?_⟩
  exact LamX.run_ofS lk hcd S hr e0 hb r (len _ _ _ _ hsp) fun hr' => hbody cdv A outer s H vs Q E (by show A.guards = some []; exact hG) hr' hsp
end
end DL
/-! triples can be shown -/
namespace DL
open PySem PySem.Spec PyProof.Rows L2 Hd
theorem int64 : ∀ i, i < 64 → PyData.weight (.int (i : Nat)) ≤ 6 ∧ PyData.intsShort 13 (.int (i : Nat)) = true ∧ PyData.showable (.int (i : Nat)) = true := by decide +kernel
def Sm (t : Nat × Nat × Nat) : Prop := t.1 < 64 ∧ t.2.1 < 64 ∧ t.2.2 < 64
theorem tr_ok {t : Nat × Nat × Nat} (h : Sm t) : PyData.weight (toPy (trD t)) ≤ 24 ∧ PyData.intsShort 13 (toPy (trD t)) = true ∧ PyData.showable (toPy (trD t)) = true := by
  obtain ⟨a1, a2, a3⟩ := int64 _ h.1
  obtain ⟨b1, b2, b3⟩ := int64 _ h.2.1
  obtain ⟨c1, c2, c3⟩ := int64 _ h.2.2
  have e : toPy (trD t) = .tuple [.int (t.1 : Nat), .int (t.2.1 : Nat), .int (t.2.2 : Nat)] := by simp [trD, toPy, toPyA]
  rw [e]
  refine ⟨?_, ?_, ?_⟩
  · show PyData.weightAll _ ≤ 24
    simp only [PyData.weightAll]; omega
  · show PyData.intsShortAll 13 _ = true
    simp only [PyData.intsShortAll, a2, b2, c2]; rfl
  · show PyData.showableAll _ = true
    simp only [PyData.showableAll, a3, b3, c3]; rfl
theorem trs_ok : ∀ {l : List (Nat × Nat × Nat)}, (∀ t ∈ l, Sm t) → PyData.weightAll (toPyA (l.map trD)) ≤ 25 * l.length ∧ PyData.intsShortAll 13 (toPyA (l.map trD)) = true ∧ PyData.showableAll (toPyA (l.map trD)) = true
  | [], _ => ⟨Nat.le_refl _, rfl, rfl⟩
  | t :: l, h => by
    obtain ⟨a1, a2, a3⟩ := tr_ok (h t List.mem_cons_self)
    obtain ⟨b1, b2, b3⟩ := trs_ok (l := l) fun s hs => h s (List.mem_cons_of_mem _ hs)
    simp only [List.map_cons, toPyA, PyData.weightAll, PyData.intsShortAll, PyData.showableAll, a2, b2, a3, b3, List.length_cons]
    exact ⟨by omega, rfl, rfl⟩
theorem pl_trs (l : List (Nat × Nat × Nat)) : plA (l.map trD) = true := plA_iff.mpr fun d h => by
  obtain ⟨t, _, e⟩ := List.mem_map.mp h
  subst e; rfl
theorem dep_trs (l : List (Nat × Nat × Nat)) : depA (l.map trD) ≤ 1 := depA_le.mpr fun d h => by
  obtain ⟨t, _, e⟩ := List.mem_map.mp h
  subst e; simp [trD, dep, depA]
theorem ed_repr {W : Wd} {δ : Dl} {te : TE} {l : List (Nat × Nat × Nat)} (hl : ∀ t ∈ l, Sm t) (hz : l.length ≤ 30000) (ha : Ed W te δ (.tup (l.map trD))) : Ed W (tCB (rRepr W.K) (tCons te tNil)) δ (.str (toPy (.tup (l.map trD))).shown) := fun g O σ H S Q q => ha g O σ H S _ fun v H1 d f i e r => by
  subst e
  have hp : pl (.tup (l.map trD)) = true := by show plA _ = true; exact pl_trs l
  have hd : dep (.tup (l.map trD)) ≤ 2 := by have := dep_trs l; simp only [dep]; omega
  obtain ⟨w1, w2, w3⟩ := trs_ok hl
  have hc := lay_toPy _ hp
  have hdp := depth_toPy (.tup (l.map trD))
  have et : toPy (.tup (l.map trD)) = .tuple (toPyA (l.map trD)) := by rw [toPy]
  have hlay : PyData.layable0 (toPy (.tup (l.map trD))) = true := by
    unfold PyData.layable0
    rw [hc, decide_eq_true (show PyData.depth _ ≤ 64 by omega), decide_eq_true (show PyData.weight (toPy (.tup (l.map trD))) ≤ 2 ^ 20 by rw [et]; show PyData.weightAll _ ≤ _; omega)]
    rfl
  have hsz := shown_le13 hlay (by rw [et]; exact w2)
  cases r with
  | @tup p xs _ hpp n rr =>
    exact ⟨p, _, rfl, (Rep.tup hpp n rr : Rep W.C _ H1 (.ref p) (.tup (l.map trD))).dp hp, by rw [et]; exact w3, PyData.hasDict_of_canLay _ hc, by omega, Nat.le_trans hsz (by decide), q _ H1 _ f i rfl (.str _)⟩
end DL
/-! a lambda handed to a def: all but the maker's own table stays -/
namespace DL
open PySem PySem.Spec PyProof.Rows L2 Hd LamX
/-- all but what stands at P stays -/
def But (P : Addr) (H H1 : Hp) : Prop := ∀ b o, b ≠ P → H b = some o → H1 b = some o
theorem tabS_but {H H1 : Hp} {P P' : Addr} {q : Str} {ps : Array Value} (hP : H P = some (.tbl ps)) (b : But P H H1) (t : TabS H P' q) (n : P' ≠ P) : TabS H1 P' q := by
  obtain ⟨qs, h1, h2, h3⟩ := t
  refine ⟨qs, b _ _ n h1, h2, fun pos cv hc => ?_⟩
  obtain ⟨c, e1, e2⟩ := h3 pos cv hc
  refine ⟨c, e1, b _ _ (fun z => ?_) e2⟩
  rw [z, hP] at e2
  exact codeO_ne ps (Option.some.inj e2).symm
section
variable {X : Cx} {pins : List (Addr × Obj)} {σ : L2.St} {H : Hp} {s : Shared}
theorem lam_madeS {c P : Addr} {params : Arguments} {body : Expr} {scope : Scope} {pos : Pos} {E : Value → Shared → Prop} {Q : Value → Shared → Prop} (I : Inv X pins σ H s) (TB : TabB X.base X.mg c P) (hcode : X.env.code = .ref c)
    (hT : TabS H P (X.env.qual ++ "<lambda>")) (hdef : defaultsOf params X.env = ([], [])) (hfree : ∀ y ∈ scope.names, y.2 = .free → ∃ c, X.env.cells.lookup y.1 = some c)
    (h : ∀ (f c' : Addr) (pm ctv : Value) (H1 : Hp) (s' : Shared), Inv X pins σ H1 s' → But P H H1 → TabS H1 P (X.env.qual ++ "<lambda>") →
      s'.heap.get? f = some (PySem.W.kla_obj "<lambda>" (X.env.qual ++ "<lambda>") params body scope (cloFrom X.env.cells scope.names []) pm c' ctv) → H1 f = none → f ∉ L2.frs X.stack → H1 c' = some (CodeO c' (X.env.qual ++ "<lambda>")) → Q (.ref f) s') :
    wpAny (model X.prog X.w) X.A (eval (.Lambda params body scope pos) X.env) Q E s := by
  obtain ⟨ps, hP, ht, ha⟩ := hT
  have bP : s.heap.BuiltinsAt X.mg P := TB.bm.keeps I.bk
  have hP' : s.heap.get? P = some { cls := .none, data := .fields ps } := I.hok P _ hP
  have notFr : ∀ f, s.heap.objs.size ≤ f → f ∉ L2.frs X.stack := fun f hf z => (List.mem_cons.mp (I.stkSub _ z)).elim (fun e => Nat.lt_irrefl _ (Nat.lt_of_lt_of_le (e ▸ I.lt) hf)) (fun e => I.nofs hf e)
  refine PySem.W.kla_eval hdef ?_
  rcases hc : codeAmong pos ps.toList with _ | cv
  · refine PySem.W.kla_makeFunction (mg := X.mg) (c := c) (P := P) (ps := ps) (closure_ok hfree) I.ok.glob (I.mod.glob.keeps I.bk) hcode (TB.code.keeps I.bk) hP' ht hc TB.gP bP fun c' ctv h' tk hx hge hlt hrec htb => ?_
    obtain ⟨c2, oc, vs, t, e2, hoc, hd, hv⟩ := hrec
    cases e2
    have nC : H c' = none := I.hok.fresh hge
    have nPc : P ≠ c' := ne_of_none hP nC
    have I1 := inv_table (t' := tk) (more := #[rawInt pos.line, rawInt pos.col, .ref c']) (h' := h'.push (PySem.W.kla_obj "<lambda>" (X.env.qual ++ "<lambda>") params body scope (cloFrom X.env.cells scope.names []) ((X.mg "__name__").getD .none) c' ctv)) I hP
      (fun b o hb e => Heap.get?_push_of_some _ (hx b o hb e)) (Heap.get?_push_of_some _ htb) hge ⟨oc, vs, t, Heap.get?_push_of_some _ hoc, hd, hv⟩
    have hb : But P H (upd (upd H P (.tbl (ps ++ #[rawInt pos.line, rawInt pos.col, .ref c']))) c' (CodeO c' (X.env.qual ++ "<lambda>"))) := fun b o n e => by
      rw [upd_ne (ne_of_none e nC), upd_ne n]
      exact e
    have eL : (ps ++ #[rawInt pos.line, rawInt pos.col, .ref c']).toList = ps.toList ++ [rawInt pos.line, rawInt pos.col, .ref c'] := by simp
    have hsz : s.heap.objs.size ≤ h'.objs.size := Nat.le_trans hge (Nat.le_of_lt hlt)
    refine h h'.objs.size c' ((X.mg "__name__").getD .none) ctv _ _ I1 hb ⟨_, by rw [upd_ne nPc, upd_same], by rw [eL]; exact PySem.TriplesOk_snoc _ _ _ _ ht, fun p' cv hcv => ?_⟩ (Heap.get?_push_size _ rfl) ?_ (notFr _ hsz) upd_same
    · rw [eL] at hcv
      rcases among_app _ ht hcv with z | z
      · obtain ⟨c0, e1, e2⟩ := ha p' cv z
        exact ⟨c0, e1, hb _ _ (fun z => by rw [z, hP] at e2; exact codeO_ne ps (Option.some.inj e2).symm) e2⟩
      · exact ⟨c', z, upd_same⟩
    · rw [upd_ne (Nat.ne_of_gt hlt), upd_ne (Nat.ne_of_gt (Nat.lt_of_lt_of_le (Heap.lt_size hP') hsz))]
      exact I.hok.fresh hsz
  · obtain ⟨c', e, hco⟩ := ha pos cv hc
    subst e
    refine PySem.W.kla_makeFunctionHit (mg := X.mg) (c := c) (P := P) (ps := ps) (closure_ok hfree) I.ok.glob (I.mod.glob.keeps I.bk) hcode (TB.code.keeps I.bk) hP' ht hc bP fun ctv h' tk hx hsz => ?_
    exact h h'.objs.size c' ((X.mg "__name__").getD .none) ctv H _ (I.kept fun b o e => Heap.get?_push_of_some _ (hx b o e)) (fun _ _ _ e => e) ⟨ps, hP, ht, ha⟩ (Heap.get?_push_size _ rfl) (I.hok.fresh hsz) (notFr _ hsz) hco
end
/-- the reading of such a call -/
def tLamS (P : Addr) (q : Str) (TT : (XK → Hp → VK → Prop) → Hp → VK → Prop) (t : XK → TE) : TE := fun σ H Q => TabS H P q ∧ ∀ H1, But P H H1 → TabS H1 P q → TT (fun E H' Q' => t E σ H' Q') H1 Q
theorem pe_lamS {X : Cx} {TT : (XK → Hp → VK → Prop) → Hp → VK → Prop} {x a : Str} {g c P : Addr} {k : Nat} {pg : Arguments} {bg : List Stmt} {sg : Scope} {fd : FuncData} {Ng : List Str}
    {params : Arguments} {body : Expr} {scope : Scope} {t : XK → TE} {p lpos pos : Pos} (hg : Gl X x) (hm : X.mg x = some (.ref g)) (F : FunD X.K x x pg bg sg [] [] g fd) (hb : L2.Binds X.K fd [a] []) (Sg : FnScope Ng [a] sg) (hNg : Ng[0]? = some a) (hva : Vis sg a)
    (hG : ∀ cdv, GivesTo X Ng x sg g cdv bg a (X.env.qual ++ "<lambda>") TT)
    (TB : TabB X.base X.mg c P) (hcode : X.env.code = .ref c) (hr : Room (k + 2) X.A) (L : LamS X.env.scope scope) (hdef : defaultsOf params X.env = ([], []))
    (hbind : ∀ (q : Str) (cl : List (Str × Addr)) (pm cv ctv : Value), bindArgs (PySem.W.kla_fn "<lambda>" q params body scope cl pm cv ctv) ⟨[], []⟩ = pure [])
    (hbody : ∀ (A : Around) (outer : List Env) (s : Shared) (H : Hp) (E : XK) (f c' : Addr), Room k (A.deeper (lamEnv X scope s.heap.objs.size f c')) → PE (lamCx X A outer s H E scope f c') body (t E))
    (hdb : (x == ("__debug__" : Str)) = false := by decide) (hd : (a == ("__debug__" : Str)) = false := by decide) (hcd : (a == ("__classdict__" : Str)) = false := by decide) :
    PE X (.Call (.Name x p) [.Lambda params body scope lpos] [] pos) (tLamS P (X.env.qual ++ "<lambda>") TT t) := by
  obtain ⟨oc, od, dV, kV, doc, pm, an, cdv, ct, osl, rfl, lk, hcg, _, _⟩ := F.ex
  refine ⟨fun pins s σ H Q I h => ?_⟩
  obtain ⟨hT, h⟩ := h
  refine wpAny_Call_Name_kw (ld_glob I hg hm ?_ hdb)
  refine PySem.W.callWith_K (h₀ := X.base) I.ok.mod.kin F.kp ?_ (by rfl) (by rfl)
  show wpAny _ _ (spliced ((false, eval (.Lambda params body scope lpos) X.env) :: backTo pos (starEach [] X.env))) _ _ s
  refine Calls.spliced_cons (lam_madeS I TB hcode hT hdef (L.has I.ok) fun f c' pm' ctv H1 s' I1 eN T1 hf hfn hfr hco => ?_)
  refine Calls.spliced_nil ⟨I1.kIn, ?_⟩
  have rc : codeAny (model X.prog X.w) X.A (.call (.ref g) ⟨[.ref f], []⟩) (CR C8.CX0 X.stack X.prog X.w H1 s' Q C8.E0) s' := by
    refine run_ofS (N := Ng) (ps := [a]) (us := [.ref f]) (vs := [.ref f]) lk hcg Sg hr I1.env0 (hb s' [.ref f] I1.kIn rfl) (.cons rfl .nil) rfl fun hr' => ?_
    obtain ⟨t', ht', hq'⟩ := hG cdv f c' s' H1 Q (fun E H' Q' => t E σ H' Q') (fun W pn xe E p1 p2 tk hW => pe_act (i := 0) I1 L hf hfn hfr (hbind _ _ _ _ _) tk hW hr' (fun A outer s H hr2 => hbody A outer s H E f c' hr2) hNg hva hd hcd) hco (h H1 eN T1)
    exact ⟨t', ht'.nox, hq'⟩
  refine wpAny_call (codeAny_mono rc fun r s2 hq => ?_)
  cases r with
  | error e => exact (show False from hq).elim
  | ok fl =>
    cases fl with
    | ret u => exact I1.after hq
    | next => exact False.elim hq
    | brk => exact False.elim hq
    | cont => exact False.elim hq
end DL
namespace DL
open PySem PySem.Spec PyProof.Rows L2 Hd
/-! ### _law_triples_right -/
structure TrG where
  ns : List Str
  rs : List Row
structure TrG.Ok (y : TrG) : Prop where
  s : SysOk (y.ns, y.rs)
  l : y.rs.length ≤ 12
abbrev sp__law_triples_right (C : Addr) : Sp := spP C (G := TrG) (fun y => [namesD y.ns, rowsD y.rs]) TrG.Ok (fun y d => d = .bl true)

abbrev N__law_triples_right : List Str := ["_law_names_here", "_law_rows_here", "_law_due", "_law_one", "_law_other", "_law_at", "_law_told"]
def t__law_triples_right (K : PySem.W.Frag) (C R : Addr) : TS := (tSeq (tAsg (tLst tNil) (gName 2))
  (tSeq (tFor (iRng1 (tCons (tCB (rLen K) (tCons (tVar 1) tNil)) tNil)) (gName 3) (tFor (iRng1 (tCons (tCB (rLen K) (tCons (tVar 1) tNil)) tNil)) (gName 4) (tFor (iRng1 (tCons (tCB (rLen K) (tCons (tVar 0) tNil)) tNil)) (gName 5) (tIfS (tAnd (tTest (tOp rGtI (tOp (rIxT K) (tOp (rIxT K) (tOp (rIxT K) (tVar 1) (tVar 3)) (tC (.int 0))) (tVar 5)) (tC (.int 0)))) (tTest (tOp rLtI (tOp (rIxT K) (tOp (rIxT K) (tOp (rIxT K) (tVar 1) (tVar 4)) (tC (.int 0))) (tVar 5)) (tC (.int 0))))) (tDrop (tBM K "list" rAppend (tVar 2) (tCons (tTup (tCons (tVar 3) (tCons (tVar 4) (tCons (tVar 5) tNil)))) tNil))) tNext))))
  (tSeq (tAsg (tCall (sp_eliminations C R) [] E0 (tCons (tMake C (spNew C) [] E0 (tCons (tVar 0) (tCons (tVar 1) tNil))) tNil)) (gName 6))
  (tRet (tAndV (tOp rEq (tCB (rRepr K) (tCons (tVar 6) tNil)) (tCB (rRepr K) (tCons (tCB (rTuple K) (tCons (tVar 2) tNil)) tNil))) (tOp (rEqD K) (tCallK (sp_eliminations C R) oneG E0 tNil (tCons (tMake C (spNew C) [] E0 (tCons (tVar 0) (tCons (tVar 1) tNil))) tNil)) (tVar 6)))))))
/-- keywords: the values in another order; what may raise does not here -/
theorem er_callKX0 {W : Wd} {δ : Dl} {tar tk : TA} {ds es : List Dt} {G : Type} {inj : G → List Dt} {pre : G → Prop} {post : G → Dt → Prop} {exc : G → Str → Prop} {R : Addr} {E : XK} {P : Dt → Prop} {gV : List V → List V → List V} {gD : List Dt → List Dt → List Dt} (x : G) (k : W.Ok) (hg : ∀ {C A H vs ds zs es}, Reps C A H vs ds → Reps C A H zs es → Reps C A H (gV vs zs) (gD ds es)) (ha : Ea W tar δ ds) (hk : Ea W tk δ es)
    (he : gD ds es = inj x) (h1 : pre x) (h2 : ∀ d, post x d → P d) (h3 : ∀ wd, ¬ exc x wd) : Er W (tCallK (spX W.C R inj pre post exc) gV E tar tk) δ P := fun g O σ H S Q q => ha g O σ H S _ fun vs H1 xs f1 i1 e1 r1 => by
  subst e1
  refine hk g O σ H1 (S.step f1 i1) _ fun zs H2 ys f2 i2 e2 r2 => ?_
  subst e2
  exact ⟨W.M O, x, ((S.step f1 i1).step f2 i2).there, he ▸ hg (r1.fr f2) r2, h1, fun v H' d ex rv pd => q v H' d ((f1.trans f2).trans (Fr.all ex)) (k.all i2 ex) (h2 d pd) rv, fun dd H' wd _ _ z => (h3 wd z).elim⟩
theorem oneG_reps {C : Addr} {A : Addr → Prop} {H : Hp} {vs zs : List V} {ds es : List Dt} (r : Reps C A H vs ds) (q : Reps C A H zs es) : Reps C A H (oneG vs zs) (oneG ds es) := by
  cases r with
  | cons _ _ => exact .nil
  | nil =>
    cases q with
    | nil => exact .nil
    | cons a q =>
      cases q with
      | nil => exact .cons a .nil
      | cons _ _ => exact .nil
theorem posN_le (l : List Int) : posN l ≤ l.length := List.length_filter_le _ _
theorem negN_le (l : List Int) : negN l ≤ l.length := List.length_filter_le _ _
theorem many_le {rs : List Row} (h : rs.length ≤ 12) : ∀ n, manyE rs n ≤ 144 * (n : Int)
  | 0 => by simp [manyE]
  | n + 1 => by
    have ih := many_le h n
    rw [manyE_succ]
    have hl : (colE rs n).length = rs.length := by unfold colE; rw [List.length_map]
    have h1 := posN_le (colE rs n)
    have h2 := negN_le (colE rs n)
    have : posN (colE rs n) * negN (colE rs n) ≤ 12 * 12 := Nat.mul_le_mul (by omega) (by omega)
    have e : ((posN (colE rs n) : Int) * (negN (colE rs n) : Int)) = ((posN (colE rs n) * negN (colE rs n) : Nat) : Int) := by rw [Int.natCast_mul]
    rw [e]
    omega
def cellP (rs : List Row) (a b c : Nat) : List (Nat × Nat × Nat) := ((List.range c).filter fun i => decide (0 < gi (rowAt rs a).1 i) && decide (gi (rowAt rs b).1 i < 0)).map fun i => (a, b, i)
theorem cellP_succ (rs : List Row) (a b c : Nat) : cellP rs a b (c + 1) = cellP rs a b c ++ if (decide (0 < gi (rowAt rs a).1 c) && decide (gi (rowAt rs b).1 c < 0)) = true then [(a, b, c)] else [] := by
  unfold cellP
  rw [List.range_succ, List.filter_append, List.map_append]
  congr 1
  by_cases h : (decide (0 < gi (rowAt rs a).1 c) && decide (gi (rowAt rs b).1 c < 0)) = true
  · rw [if_pos h, List.filter_cons, if_pos h]; rfl
  · rw [if_neg h, List.filter_cons, if_neg h]; rfl
theorem cellP_eq {rs : List Row} {a b n : Nat} (h : (rowAt rs a).1.length = n) : cellP rs a b n = cellE rs a b := by
  unfold cellP cellE unl
  rw [List.filter_filter, h]
  congr 1
  refine List.filter_congr fun i _ => ?_
  rw [← Bool.decide_and, ← Bool.decide_and]
  refine decide_eq_decide.mpr ⟨fun ⟨h1, h2⟩ => ⟨h1, Int.mul_neg_of_pos_of_neg h1 h2⟩, fun ⟨h1, h2⟩ => ⟨h1, ?_⟩⟩
  rcases Int.lt_trichotomy (gi (rowAt rs b).1 i) 0 with z | z | z
  · exact z
  · rw [z, Int.mul_zero] at h2; omega
  · have := Int.mul_pos h1 z; omega
theorem cellP_len (rs : List Row) (a b c : Nat) : (cellP rs a b c).length ≤ c := by
  unfold cellP
  rw [List.length_map]
  exact Nat.le_trans (List.length_filter_le _ _) (by rw [List.length_range]; exact Nat.le_refl _)
theorem cellE_mem {rs : List Row} {n a b : Nat} (h : (rowAt rs a).1.length = n) {t : Nat × Nat × Nat} (ht : t ∈ cellE rs a b) : t.1 = a ∧ t.2.1 = b ∧ t.2.2 < n := by
  rw [← cellP_eq h] at ht
  unfold cellP at ht
  obtain ⟨i, hi, e⟩ := List.mem_map.mp ht
  subst e
  exact ⟨rfl, rfl, List.mem_range.mp (List.mem_filter.mp hi).1⟩
theorem trips_sm {rs : List Row} {n : Nat} (h : ∀ r ∈ rs, r.1.length = n) (hn : n ≤ 64) (hr : rs.length ≤ 64) : ∀ t ∈ tripsE rs rs.length, Sm t := by
  intro t ht
  unfold tripsE at ht
  obtain ⟨a, ha, ht⟩ := List.mem_flatMap.mp ht
  unfold lineE at ht
  obtain ⟨b, hb, ht⟩ := List.mem_flatMap.mp ht
  have ha := List.mem_range.mp ha
  have hb := List.mem_range.mp hb
  obtain ⟨e1, e2, e3⟩ := cellE_mem (h _ (rowAt_mem ha)) ht
  exact ⟨by omega, by omega, by omega⟩
theorem row_atI {rs : List Row} {a : Nat} (h : a < rs.length) : atI (rs.map rD) (a : Nat) = some (rD (rowAt rs a)) := atI_nat' (by
  rw [List.getElem?_map]
  unfold rowAt
  rw [List.getD_eq_getElem?_getD, List.getElem?_eq_getElem h]
  rfl)
theorem sd__law_triples_right (W : Wd) (k : W.Ok) (R : Addr) (y : TrG) (hp : y.Ok) : Sd W (t__law_triples_right W.K W.C R) (startD N__law_triples_right.length [namesD y.ns, rowsD y.rs]) { rt := fun d => d = .bl true, nx := fun _ => Dt.non = .bl true } := by
  obtain ⟨ns, rs⟩ := y
  obtain ⟨hs, hr12⟩ := hp
  obtain ⟨⟨hn1, hn6, hn3⟩, hr60, hrs, hr4⟩ := id hs
  simp only at hs hr12 hn1 hn6 hr60 hrs ⊢
  have hl : ∀ r ∈ rs, r.1.length = ns.length := fun r h => (hrs r h).1
  have elen : ∀ m : Nat, ((List.range m).map fun k => Dt.int (k : Nat)).length = m := fun m => by simp
  refine sq_asgOE (ef_lst k ea_nil (by simp)) (of_decide_eq_true rfl) ?_
  refine sq_for k (yg_rangeN (n := rs.length) (ea_cons (Ed.to (ed_cb (ea_cons (ed_var rfl) ea_nil) cd_lenT) (by rw [List.length_map])) ea_nil) (by omega)) (fun a δ => ∃ q3 q4 q5 : Option Sl, δ = [some (.sh (namesD ns)), some (.sh (rowsD rs)), some (.own ((tripsE rs a).map trD)), q3, q4, q5, none]) ⟨none, none, none, rfl⟩ ?_ ?_
  · rintro a d δ' hd ⟨q3, q4, q5, rfl⟩
    obtain ⟨ha, rfl⟩ := rg_inv hd
    refine ⟨_, _, tg_name (of_decide_eq_true rfl), ?_⟩
    have l1 := tripsE_len hl a (by omega)
    have m1 : a * (rs.length * ns.length) ≤ 12 * (12 * 6) := Nat.mul_le_mul (by omega) (Nat.mul_le_mul hr12 hn6)
    refine sd_for k (yg_rangeN (n := rs.length) (ea_cons (Ed.to (ed_cb (ea_cons (ed_var rfl) ea_nil) cd_lenT) (by rw [List.length_map])) ea_nil) (by omega)) (fun b δ => ∃ q4 q5 : Option Sl, δ = [some (.sh (namesD ns)), some (.sh (rowsD rs)), some (.own ((tripsE rs a ++ lineE rs a b).map trD)), some (.sh (.int (a : Nat))), q4, q5, none]) ⟨q4, q5, by simp [lineE]⟩ ?_ ?_
    · rintro b d δ' hd ⟨q4, q5, rfl⟩
      obtain ⟨hb', rfl⟩ := rg_inv hd
      refine ⟨_, _, tg_name (of_decide_eq_true rfl), ?_⟩
      have ra := hl _ (rowAt_mem ha)
      have rb := hl _ (rowAt_mem hb')
      have l2 := lineE_len (rs := rs) ra b
      have m2 : b * ns.length ≤ 12 * 6 := Nat.mul_le_mul (by omega) hn6
      refine sd_for k (yg_rangeN (n := ns.length) (ea_cons (Ed.to (ed_cb (ea_cons (ed_var rfl) ea_nil) cd_lenT) (by rw [List.length_map])) ea_nil) (by omega)) (fun c δ => ∃ q5 : Option Sl, δ = [some (.sh (namesD ns)), some (.sh (rowsD rs)), some (.own ((tripsE rs a ++ lineE rs a b ++ cellP rs a b c).map trD)), some (.sh (.int (a : Nat))), some (.sh (.int (b : Nat))), q5, none]) ⟨q5, by simp [cellP]⟩ ?_ ?_
      · rintro c d δ' hd ⟨q5, rfl⟩
        obtain ⟨hc, rfl⟩ := rg_inv hd
        refine ⟨_, _, tg_name (of_decide_eq_true rfl), ?_⟩
        have l3 := cellP_len rs a b c
        refine sd_if (et_and (et_test (ed_op (ed_op (ed_op (ed_op (ed_var rfl) (ed_var rfl) (od_ixT (row_atI ha))) ed_int (od_ixT rfl)) (ed_var rfl) (od_ixT (gi_atI (by omega)))) ed_int od_B0)) fun _ => et_test (ed_op (ed_op (ed_op (ed_op (ed_var rfl) (ed_var rfl) (od_ixT (row_atI hb'))) ed_int (od_ixT rfl)) (ed_var rfl) (od_ixT (gi_atI (by omega)))) ed_int od_B0)) (fun h => ?_) (fun h => sd_next ⟨_, by rw [cellP_succ, if_neg (by rw [h]; decide), List.append_nil]; rfl⟩)
        refine sd_append (R := fun d => d = trD (a, b, c)) k rfl (ed_tup k (ea_cons (ed_var rfl) (ea_cons (ed_var rfl) (ea_cons (ed_var rfl) ea_nil))) (by simp)) (by rw [List.length_map, List.length_append, List.length_append]; omega) fun d e => ?_
        subst e
        exact ⟨_, by rw [cellP_succ, if_pos h, ← List.append_assoc, List.map_append (l₂ := [(a, b, c)])]; rfl⟩
      · rintro δ' ⟨q5, rfl⟩
        exact ⟨_, _, by rw [elen, cellP_eq ra, List.append_assoc, ← lineE_succ]⟩
    · rintro δ' ⟨q4, q5, rfl⟩
      exact ⟨_, _, _, by rw [elen, ← tripsE_succ]⟩
  rintro δ' ⟨q3, q4, q5, rfl⟩
  rw [elen]
  have hm : ¬ (3000 : Int) < manyE rs ns.length := by have := many_le hr12 ns.length; omega
  have hsm := trips_sm hl (by omega) (by omega)
  have l1 := tripsE_len hl rs.length (Nat.le_refl _)
  have m1 : rs.length * (rs.length * ns.length) ≤ 12 * (12 * 6) := Nat.mul_le_mul (by omega) (Nat.mul_le_mul hr12 hn6)
  have hpl : pl (.tup ((tripsE rs rs.length).map trD)) = true := by show plA _ = true; exact pl_trs _
  have hdp : dep (.tup ((tripsE rs rs.length).map trD)) ≤ 64 := by have := dep_trs (tripsE rs rs.length); simp only [dep]; omega
  refine sq_asg (R := fun d => d = .tup ((tripsE rs rs.length).map trD)) (er_callX0 ((ns, rs) : List Str × List Row) k (ea_cons (ed_new k (ea_cons (ed_var rfl) (ea_cons (ed_var rfl) ea_nil)) hs.n hs.r) ea_nil) hs (fun d h => h.2) fun w h => hm h.1) (of_decide_eq_true rfl) fun d e => ?_
  subst e
  refine sd_ret (Ed.er (ed_andB (ed_op (ed_repr hsm (by omega) (ed_var rfl)) (ed_repr hsm (by omega) (er_tupleC k (ec_var rfl) rfl)) od_eqS) fun _ => ed_op (er_callKX0 (gD := oneG) ((ns, rs) : List Str × List Row) k oneG_reps ea_nil (ea_cons (ed_new k (ea_cons (ed_var rfl) (ea_cons (ed_var rfl) ea_nil)) hs.n hs.r) ea_nil) rfl hs (fun d h => h.2) fun w h => hm h.1) (ed_var rfl) (od_eqD hpl hpl hdp hdp)) ?_)
  rw [deq_self hpl, decide_eq_true rfl]
  rfl

theorem sc__law_triples_right : FnScope N__law_triples_right ["_law_names_here", "_law_rows_here"] (defScope s__law_triples_right) := ⟨rfl, rfl, rfl, by decide +kernel, rfl, by decide +kernel, by decide +kernel⟩
section
variable {P : Program} {w : World} {K : PySem.W.Frag} {mg : Str → Option Value} {base : Heap}
theorem b__law_triples_right (T : FxE P K mg) : Binds K T.f__law_triples_right.fd ["_law_names_here", "_law_rows_here"] [] := T.f__law_triples_right.F.bindsN fun _ _ _ _ _ _ us hl => match us, hl with | [_, _], _ => rfl
theorem d__law_triples_right (T : FxE P K mg) {cdv : Value} {A : Around} {outer : List Env} {s : Shared} {H : Hp} {E : XK} (hG : (A.deeper (envOfC "_law_triples_right" (defScope s__law_triples_right) s.heap.objs.size T.f__law_triples_right.f cdv)).guards = some []) (hr : Room 6 (A.deeper (envOfC "_law_triples_right" (defScope s__law_triples_right) s.heap.objs.size T.f__law_triples_right.f cdv))) : PSs (cxOf CX0 P w K mg base N__law_triples_right "_law_triples_right" (defScope s__law_triples_right) T.f__law_triples_right.f cdv A outer s H E).nox (defBody s__law_triples_right) (t__law_triples_right K T.C T.R) :=
  have nd := sc__law_triples_right.nd
  (pss_cons (ps_set (i := 2) nd rfl (by first | exact Or.inl rfl | exact Or.inr rfl) (pe_lst pa_nil))
  (pss_cons (ps_for PassesOwn.never rfl (pi_range1 rfl T.b_range (pa_cons (pe_callB call_len rfl T.b_len boot_len (pa_cons (pv 1) pa_nil)) pa_nil)) (pg_name (i := 3) nd rfl (by first | exact Or.inl rfl | exact Or.inr rfl)) (pss_one (ps_for PassesOwn.never rfl (pi_range1 rfl T.b_range (pa_cons (pe_callB call_len rfl T.b_len boot_len (pa_cons (pv 1) pa_nil)) pa_nil)) (pg_name (i := 4) nd rfl (by first | exact Or.inl rfl | exact Or.inr rfl)) (pss_one (ps_for PassesOwn.never rfl (pi_range1 rfl T.b_range (pa_cons (pe_callB call_len rfl T.b_len boot_len (pa_cons (pv 0) pa_nil)) pa_nil)) (pg_name (i := 5) nd rfl (by first | exact Or.inl rfl | exact Or.inr rfl)) (pss_one (ps_if (PW.pt (pw_and (pt_cmpR op_gt (pe_ix ix_tup (pe_ix ix_tup (pe_ix ix_tup (pv 1) (pv 3) (fun _ _ => rfl)) pe_int (fun _ _ => rfl)) (pv 5) (fun _ _ => rfl)) pe_int (nomark _)) (pw_and1 (pt_cmpR op_lt (pe_ix ix_tup (pe_ix ix_tup (pe_ix ix_tup (pv 1) (pv 4) (fun _ _ => rfl)) pe_int (fun _ _ => rfl)) (pv 5) (fun _ _ => rfl)) pe_int (nomark _))))) (pss_one (ps_expr (pe_bm PySem.F.plainAttrs_list PySem.F.slot_list_append PySem.F.type_list_append mt_append (pv 2) (pa_cons (pe_tup (pa_cons (pv 3) (pa_cons (pv 4) (pa_cons (pv 5) pa_nil)))) pa_nil)))) pss_nil)))))))
  (pss_cons (ps_set (i := 6) nd rfl (by first | exact Or.inl rfl | exact Or.inr rfl) (pe_call (ok_eliminations T) (hr.mono (by decide)) rfl T.f_eliminations.g T.f_eliminations.F.kp (b_eliminations T) .nil passE0 (pa_cons (pe_make T.M (ok_init T.toFx) (hr.mono (by decide)) rfl T.g_System (b_init T.toFx) .nil pass0 (pa_cons (pv 0) (pa_cons (pv 1) pa_nil))) pa_nil)))
  (pss_one (ps_ret (pe_and (pe_cmpR op_eq (pe_callB (call_reprD hG (hu100 hr)) rfl T.b_repr boot_repr (pa_cons (pv 6) pa_nil)) (pe_callB (call_reprD hG (hu100 hr)) rfl T.b_repr boot_repr (pa_cons (pe_callTy call_tuple_of rfl T.b_tuple boot_tuple (pa_cons (pv 2) pa_nil)) pa_nil)) (nomark _)) (pe_one (pe_cmpR (op_eqD hr.units) (pe_callK0 (ok_eliminations T) (hr.mono (by decide)) rfl T.f_eliminations.g T.f_eliminations.F.kp (kb_eliminations T.toFx) passE0 (pk_cons (pe_make T.M (ok_init T.toFx) (hr.mono (by decide)) rfl T.g_System (b_init T.toFx) .nil pass0 (pa_cons (pv 0) (pa_cons (pv 1) pa_nil))) pk_nil)) (pv 6) (nomark _)))))))))
theorem ok__law_triples_right (T : FxE P K mg) : FnG P w K mg base 7 T.f__law_triples_right.f T.f__law_triples_right.fd ["_law_names_here", "_law_rows_here"] (sp__law_triples_right T.C) :=
  okG T.f__law_triples_right.F sc__law_triples_right (fun vs H Q E ⟨A, x, _, r, _⟩ => by rw [r.length]; rfl) fun cdv A outer s H vs Q E hG hr h => ⟨t__law_triples_right K T.C T.R, PSs.nox (d__law_triples_right T hG hr), run_P K h fun W k x hC hK hp => by subst hK; rw [← hC]; exact sd__law_triples_right W k T.R x hp⟩
end
end DL
/-! defs with a lambda of their own, over data -/
namespace DL
open PySem PySem.Spec PyProof.Rows L2 Hd LamX
theorem tabS_kept {H H' : Hp} {P : Addr} {q : Str} (t : TabS H P q) (h : ∀ a o, (a = P ∨ ∀ xs, o ≠ .lst xs) → H a = some o → H' a = some o) : TabS H' P q := by
  obtain ⟨ps, h1, h2, h3⟩ := t
  refine ⟨ps, h _ _ (.inl rfl) h1, h2, fun pos cv hc => ?_⟩
  obtain ⟨c, e1, e2⟩ := h3 pos cv hc
  exact ⟨c, e1, h _ _ (.inr fun xs z => by unfold CodeO at z; cases z) e2⟩
theorem tabS_there {H : Hp} {P : Addr} {q : Str} (t : TabS H P q) : H P ≠ none := by
  obtain ⟨ps, h1, _⟩ := t
  rw [h1]; simp
/-- the world holds such a table -/
structure HoldT (W : Wd) (P : Addr) (q : Str) : Prop where
  n : W.N P
  get : ∀ H, W.I H → TabS H P q
  put : ∀ H H1, W.I H → But P H H1 → TabS H1 P q → W.I H1
/-- a def that makes lambdas: its table is at P -/
def spS (C : Addr) (P : Addr) (q : Str) {G : Type} (inj : G → List Dt) (pre : G → Prop) (post : G → Dt → Prop) : Sp := fun vs H Q _ => ∃ (A : Addr → Prop) (x : G), (∀ a, A a → H a ≠ none) ∧ A P ∧ TabS H P q ∧ Reps C A H vs (inj x) ∧ pre x ∧
  ∀ v H' d, But P H H' → TabS H' P q → Rep C A H' v d → post x d → Q v H'
def Ws (C : Addr) (K : PySem.W.Frag) (A : Addr → Prop) (P : Addr) (q : Str) (hP : A P) : Wd := ⟨C, K, fun a => a = P, A, fun H => TabS H P q ∧ ∀ a, A a → H a ≠ none, fun a z => by rw [z]; exact hP, fun H a i ha => i.2 a ha⟩
theorem Ws.ok {C : Addr} {K : PySem.W.Frag} {A : Addr → Prop} {P : Addr} {q : Str} {hP : A P} : (Ws C K A P q hP).Ok := ⟨fun H H' i k hd => ⟨tabS_kept i.1 fun a o ha e => k a o ha e, hd⟩⟩
theorem but_there {A : Addr → Prop} {P : Addr} {H H1 : Hp} (b : But P H H1) (t : H1 P ≠ none) (h : ∀ a, A a → H a ≠ none) : ∀ a, A a → H1 a ≠ none := fun a ha z => by
  by_cases e : a = P
  · rw [e] at z; exact t z
  · cases q : H a with
    | none => exact h a ha q
    | some o => rw [b a o e q] at z; cases z
theorem Ws.hold {C : Addr} {K : PySem.W.Frag} {A : Addr → Prop} {P : Addr} {q : Str} {hP : A P} : HoldT (Ws C K A P q hP) P q := ⟨rfl, fun H i => i.1, fun H H1 i b t => ⟨t, but_there b (tabS_there t) i.2⟩⟩
theorem run_S {C : Addr} (K : PySem.W.Frag) {P : Addr} {q : Str} {G : Type} {inj : G → List Dt} {pre : G → Prop} {post : G → Dt → Prop} {t : TS} {N : List Str} {vs : List V} {H : Hp} {Q : VK} {E : XK} (h : spS C P q inj pre post vs H Q E)
    (body : ∀ (W : Wd) (k : W.Ok) (hold : HoldT W P q) (x : G), W.C = C → W.K = K → pre x → Sd W t (startD N.length (inj x)) { rt := post x, nx := fun _ => post x .non }) : t { nx := fun _ H' => Q .non H', rt := Q } (L2.start N vs) H := by
  obtain ⟨A, ds, hA, hP, hx, r, hp, q'⟩ := h
  refine body (Ws C K A P q hP) Ws.ok Ws.hold ds rfl rfl hp (ghB _ H) _ _ H _ (SR.start (W := Ws C K A P q hP) r ⟨hx, hA⟩ fun a o _ e => ⟨e, False.elim⟩) ⟨fun O σ H' δ S p => ?_, fun O v H' d pg i rv p => ?_, fun _ _ _ _ _ z => z.elim, fun _ _ _ _ _ z => z.elim, fun _ _ _ _ _ _ _ z => z.elim, fun _ _ _ _ _ _ _ _ _ _ z => z.elim⟩
  · exact q' .non H' .non (fun b o n e => (S.gh b o n e).1) S.inv.1 .non p
  · exact q' v H' d (fun b o n e => (pg b o n e).1) i.1 rv p
section
variable {W : Wd} {δ : Dl} {tar : TA} {PL : List Dt → Prop} {P : Dt → Prop} {p : Addr} {q : Str} {G : Type} {inj : G → List Dt} {pre : G → Prop} {post : G → Dt → Prop} {E : XK}
theorem But.fr {H H1 : Hp} (hold : HoldT W p q) (b : But p H H1) : Fr W H H1 := fun a o n e => b a o (fun z => n (by rw [z]; exact hold.n)) e
theorem er_callS (hold : HoldT W p q) (ha : Ear W tar δ PL) (h1 : ∀ ds, PL ds → ∃ x, ds = inj x ∧ pre x ∧ ∀ d, post x d → P d) : Er W (tCall (spS W.C p q inj pre post) [] E tar) δ P := fun g O σ H S Q qq => ha g O σ H S _ fun vs H1 ds f1 i1 p1 r1 => by
  show spS W.C p q inj pre post (vs ++ []) H1 Q E
  rw [List.append_nil]
  obtain ⟨x, e, hp, h2⟩ := h1 ds p1
  subst e
  exact ⟨W.M O, x, (S.step f1 i1).there, .inl (W.sub p hold.n), hold.get H1 i1, r1, hp, fun v H' d ex ht rv pd => qq v H' d (f1.trans (But.fr hold ex)) (hold.put H1 H' i1 ex ht) (h2 d pd) rv⟩
theorem two_new {O : Addr → Prop} {H : Hp} {a : Addr} {s : Str} {v : V} {d : Dt} (hn : ¬ W.M O a) (ha : H a = none) (r : Rep W.C (W.M O) H v d) : Rep W.C (W.M O) (upd H a (.tup [.str s, v])) (.ref a) (.tup [.str s, d]) :=
  .tup upd_same hn (.cons (.str s) (.cons (r.fr (Fr.new ha)) .nil))
/-- _law_heard(lambda: f(..)), f may raise -/
theorem er_lamX {R : Addr} {exc : G → Str → Prop} (hold : HoldT W p q) (k : W.Ok) (ha : ∀ E : XK, Ear W tar δ PL) (h : ∀ ds, PL ds → ∃ x, ds = inj x ∧ pre x ∧ (∀ d, post x d → P (.tup [.str "told", d])) ∧ ∀ w, exc x w → P (.tup [.str "refused", .str w])) :
    Er W (tLamS p q (TTH R) fun E => tCall (spX W.C R inj pre post exc) [] E tar) δ P := fun g O σ H S Q qq => by
  refine ⟨hold.get H S.inv, fun H1 b T1 => ?_⟩
  have f1 : Fr W H H1 := But.fr hold b
  have i1 : W.I H1 := hold.put H H1 S.inv b T1
  have S1 := S.step f1 i1
  refine ha (fun _ _ _ => False) g O σ H1 S1 _ fun vs H2 ds f2 i2 p2 r2 => ?_
  have S2 := S1.step f2 i2
  obtain ⟨x, e, hp, h2, h3⟩ := h ds p2
  subst e
  show spX W.C R inj pre post exc (vs ++ []) H2 _ _
  rw [List.append_nil]
  refine ⟨W.M O, x, S2.there, r2, hp, fun v H' d ex rv pd => ⟨(show 2 ≤ sizeLine by decide), fun a hn => ?_⟩, fun dd H' w ex hdd hw => ⟨rfl, dd, w, rfl, hdd, fun a hn => ?_⟩⟩
  · have S3 := S2.step (Fr.all ex) (k.all i2 ex)
    exact qq _ _ _ (((f1.trans f2).trans (Fr.all ex)).trans (Fr.new hn)) (k.all (k.all i2 ex) (all_new hn)) (h2 d pd) (two_new (S3.fresh hn) hn rv)
  · have S3 := S2.step (Fr.all ex) (k.all i2 ex)
    exact qq _ _ _ (((f1.trans f2).trans (Fr.all ex)).trans (Fr.new hn)) (k.all (k.all i2 ex) (all_new hn)) (h3 w hw) (two_new (S3.fresh hn) hn (.str w))
end
/-- the code object of the def at f -/
def CodeAt (K : PySem.W.Frag) (f c : Addr) : Prop := ∀ (o : Obj) (fd : FuncData) (c' : Addr), K.lookup f = some o → o.data = .func fd → fd.code = .ref c' → c' = c
theorem okS {P : Program} {w : World} {K : PySem.W.Frag} {mg : Str → Option Value} {base : Heap} {x qual : Str} {params : Arguments} {body : List Stmt} {scope : Scope} {dvs : List V} {kws : List (Str × V)} {f c : Addr} {fd : FuncData} {N ps : List Str} {k : Nat} {sp : Sp} (F : FunD K x qual params body scope dvs kws f fd) (hc : CodeAt K f c) (S : FnScope N ps scope) (len : ∀ vs H Q E, sp vs H Q E → vs.length = ps.length)
    (hbody : ∀ (A : Around) (outer : List Env) (s : Shared) (H : Hp) (vs : List V) (Q : VK) (E : XK), (A.deeper (envOfC qual scope s.heap.objs.size f (.ref c))).guards = A.guards → Room k (A.deeper (envOfC qual scope s.heap.objs.size f (.ref c))) → sp vs H Q E →
      ∃ t, PSs (cxOf CX0 P w K mg base N qual scope f (.ref c) A outer s H E) body t ∧ t { nx := fun _ H' => Q .non H', rt := Q } (L2.start N vs) H) : FnOk P w K mg base CX0 (k + 1) f fd ps sp := by
  obtain ⟨oc, od, dV, kV, doc, pm, an, cdv, ct, osl, rfl, lk, hcd, _, _⟩ := F.ex
  obtain ⟨c', rfl⟩ := He.codeIn_ref hcd
  obtain rfl := hc _ _ c' lk rfl rfl
  refine ⟨len, fun A outer s H args us vs Q E hr e0 hb r hsp => ?_⟩
  exact LamX.run_ofS lk hcd S hr e0 hb r (len _ _ _ _ hsp) fun hr' => hbody A outer s H vs Q E rfl hr' hsp
end DL
namespace DL
open PySem PySem.Spec PyProof.Rows L2 Hd
/-! ### _law_pair_right -/
structure FxL (P : Program) (K : PySem.W.Frag) (mg : Str → Option Value) (T : FxE P K mg) where
  xf : XfC K T.R
  te : PySem.W.exmOne K (.ref T.R) (.ref T.R) = some true
  pc : Addr
  pP : Addr
  lc : Addr
  lP : Addr
  ne : pP ≠ lP
  pA : CodeAt K T.f__law_pair_right.f pc
  lA : CodeAt K T.f_law.f lc
abbrev q__law_pair_right : Str := (envOfC "_law_pair_right" (defScope s__law_pair_right) 0 0 .none).qual ++ "<lambda>"
structure PrG where
  a : Addr
  ns : List Str
  x : Row × Row
structure PrG.Ok (y : PrG) : Prop where
  n : namesOk y.ns
  x : TwoB 40 y.ns.length y.x
abbrev sp__law_pair_right (C P : Addr) : Sp := spS C P q__law_pair_right (G := PrG) (fun y => [.adr y.a, namesD y.ns, rD y.x.1, rD y.x.2]) PrG.Ok (fun y d => d = .bl true)
section
variable {K : PySem.W.Frag} {mg : Str → Option Value}
theorem b__law_heard (T : Fx K mg) : Binds K T.f__law_heard.fd ["_law_work"] [] := T.f__law_heard.F.bindsN fun _ _ _ _ _ _ us hl => match us, hl with | [_], _ => rfl
end

abbrev N__law_pair_right : List Str := ["_law_heap_here", "_law_names_here", "_law_one", "_law_other", "_law_size", "_law_due", "_law_at", "_law_told", "_law_clashes", "_law_heard_here", "_law_row_here", "_law_bound", "_law_shared"]
def t__law_pair_right (K : PySem.W.Frag) (C R LP : Addr) : TS := (tSeq (tAsg (tCB (rLen K) (tCons (tVar 1) tNil)) (gName 4))
  (tSeq (tAsg (tCB (rTuple K) (tCons (tLc (iRng1 (tCons (tVar 4) tNil)) (gName 6) (tTest (tOp rLtI (tOp rMulW (tOp (rIxT K) (tOp (rIxT K) (tVar 2) (tC (.int 0))) (tVar 6)) (tOp (rIxT K) (tOp (rIxT K) (tVar 3) (tC (.int 0))) (tVar 6))) (tC (.int 0)))) (tVar 6) [6]) tNil)) (gName 5))
  (tSeq (tPar 7 8 (tCons (tCall (sp_unlike C) [] E0 (tCons (tVar 2) (tCons (tVar 3) tNil))) (tCons (tC (.bl false)) tNil)))
  (tSeq (tIfS (tOr (tTest (tOp (rNeD K) (tVar 7) (tVar 5))) (tOr (tTest (tOp (rNeD K) (tCallK (sp_unlike C) swapG E0 tNil (tCons (tVar 2) (tCons (tVar 3) tNil))) (tVar 5))) (tOr (tNot (tB (tCB (rIsi K) (tCons (tVar 7) (tCons (tC (.ty "tuple")) tNil))))) (tB (tCB (rAny K) (tCons (tLc (iTup K (tVar 7)) (gName 6) tYes (tCB (rIsi K) (tCons (tVar 6) (tCons (tC (.ty "bool")) tNil))) [6]) tNil)))))) (tRet (tC (.bl false))) tNext)
  (tSeq (tFor (iRng1 (tCons (tVar 4) tNil)) (gName 6) (tSeq (tAsg (tLamS LP q__law_pair_right (TTH R) fun E => (tCall (sp_eliminated C R) [] E (tCons (tVar 2) (tCons (tVar 3) (tCons (tVar 6) tNil))))) (gName 9))
  (tSeq (tIfS (tTest (tOp (rIn K true) (tVar 6) (tVar 5))) (tSeq (tIfS (tTest (tOp (rNeD K) (tVar 9) (tTup (tCons (tC (.str "refused")) (tCons (tC (.str "signs")) tNil))))) (tRet (tC (.bl false))) tNext)
  tCont) tNext)
  (tSeq (tAsg (tCall (sp__law_without C) [] E0 (tCons (tVar 2) (tCons (tVar 3) (tCons (tVar 6) tNil)))) (gTup K 2 (gCons (gName 10) (gCons (gName 11) gNil))))
  (tSeq (tAsg (tOrV (tVar 8) (tAndV (tOp rIsNo (tVar 10) (tC .non)) (tOp rGtI (tVar 11) (tC (.int 0))))) (gName 8))
  (tIfS (tOr (tTest (tOp (rNeD K) (tVar 9) (tTup (tCons (tC (.str "told")) (tCons (tVar 10) tNil))))) (tTest (tOp (rNeD K) (tCallK (sp_eliminated C R) rotG E0 tNil (tCons (tVar 6) (tCons (tVar 2) (tCons (tVar 3) tNil)))) (tVar 10)))) (tRet (tC (.bl false))) tNext))))))
  (tSeq (tFor (iList K (tLst (tCons (tCall (sp_clash C) [] E0 (tCons (tVar 2) (tCons (tVar 3) tNil))) (tCons (tCallK (sp_clash C) swapG E0 tNil (tCons (tVar 2) (tCons (tVar 3) tNil))) tNil)))) (gName 7) (tIfS (tOr (tNot (tB (tCB (rIsi K) (tCons (tVar 7) (tCons (tC (.ty "bool")) tNil))))) (tTest (tOp rNe (tVar 7) (tVar 8)))) (tRet (tC (.bl false))) tNext))
  (tSeq (tAsg (tCall (sp__law_shared_point C) [] E0 (tCons (tVar 1) (tCons (tVar 2) (tCons (tVar 3) tNil)))) (gName 12))
  (tRet (tAndV (tOp rNotNo (tVar 12) (tC .non)) (tOp rNe (tVar 12) (tVar 8)))))))))))
theorem swapG_reps {C : Addr} {A : Addr → Prop} {H : Hp} {vs zs : List V} {ds es : List Dt} (r : Reps C A H vs ds) (q : Reps C A H zs es) : Reps C A H (swapG vs zs) (swapG ds es) := by
  cases r with
  | cons _ _ => exact .nil
  | nil =>
    cases q with
    | nil => exact .nil
    | cons a q =>
      cases q with
      | nil => exact .nil
      | cons b q =>
        cases q with
        | nil => exact .cons b (.cons a .nil)
        | cons _ _ => exact .nil
theorem rotG_reps {C : Addr} {A : Addr → Prop} {H : Hp} {vs zs : List V} {ds es : List Dt} (r : Reps C A H vs ds) (q : Reps C A H zs es) : Reps C A H (rotG vs zs) (rotG ds es) := by
  cases r with
  | cons _ _ => exact .nil
  | nil =>
    cases q with
    | nil => exact .nil
    | cons a q =>
      cases q with
      | nil => exact .nil
      | cons b q =>
        cases q with
        | nil => exact .nil
        | cons c q =>
          cases q with
          | nil => exact .cons c (.cons b (.cons a .nil))
          | cons _ _ => exact .nil
theorem TwoB.two {k n : Nat} {x : Row × Row} (h : TwoB k n x) (hn : n ≤ 60) (hk : k ≤ 400) : TwoOk n x := ⟨h.a.l, h.b.l, hn, h.a.b.up hk, h.b.b.up hk⟩
theorem TwoB.swap {k n : Nat} {x : Row × Row} (h : TwoB k n x) : TwoB k n (x.2, x.1) := ⟨h.b, h.a⟩
theorem TwoB.nz {k n : Nat} {x : Row × Row} (h : TwoB k n x) : NzP n x := ⟨h.a.l, h.b.l, h.a.nz, h.b.nz⟩
theorem unl_swap {p q : List Int} (h : p.length = q.length) : unl q p = unl p q := by
  unfold unl
  rw [h]
  exact List.filter_congr fun i _ => by rw [Int.mul_comm]
theorem elimP_swap (n : Nat) (x : Row × Row) (i : Nat) : elimP n (x.2, x.1) i = elimP n x i := by
  unfold elimP
  exact List.map_congr_left fun j _ => Int.add_comm _ _
theorem elimB_swap (x : Row × Row) (i : Nat) : elimB (x.2, x.1) i = elimB x i := Int.add_comm _ _
theorem pl_leastD (l : List Int) (b : Int) : pl (leastD l b) = true := by
  rw [leastD_eq]
  split
  · rfl
  · exact pl_rD (l.map fun y => y / (gcdL l b.natAbs : Nat), b / (gcdL l b.natAbs : Nat))
theorem dep_leastD (l : List Int) (b : Int) : dep (leastD l b) ≤ 2 := by
  rw [leastD_eq]
  split
  · exact Nat.zero_le _
  · exact Nat.le_of_eq (dep_rD (l.map fun y => y / (gcdL l b.natAbs : Nat), b / (gcdL l b.natAbs : Nat)))
theorem isNo_leastD (l : List Int) (b : Int) : isNo (leastD l b) = !(l.any fun y => !decide (y = 0)) := by
  rw [leastD_eq, List.not_any_eq_all_not]
  have : (l.all fun y => !!decide (y = 0)) = l.all fun x => decide (x = 0) := by congr 1; funext y; rw [Bool.not_not]
  rw [this]
  cases l.all fun x => decide (x = 0) <;> rfl
theorem od_notInN {W : Wd} {i : Nat} {U : List Nat} : OpD W (rIn W.K true) (.int (i : Nat)) (natsD U) (.bl (!decide (i ∈ U))) := by
  have h := od_notInI (W := W) (n := (i : Nat)) (ns := U.map fun j : Nat => (j : Int))
  rw [List.map_map] at h
  have e : decide ((i : Int) ∈ U.map fun j : Nat => (j : Int)) = decide (i ∈ U) := decide_eq_decide.mpr ⟨fun h => by
    obtain ⟨j, hj, e⟩ := List.mem_map.mp h
    have : j = i := by omega
    rw [← this]; exact hj, fun h => List.mem_map.mpr ⟨i, h, rfl⟩⟩
  rw [e] at h
  exact h
def clashP (n : Nat) (x : Row × Row) (i : Nat) : Bool := isNo (leastD (elimP n x i) (elimB x i)) && decide (0 < elimB x i)
def accP (n : Nat) (x : Row × Row) (i : Nat) : Bool := (List.range i).any fun j => decide (j ∈ unl x.1.1 x.2.1) && clashP n x j
theorem accP_succ (n : Nat) (x : Row × Row) (i : Nat) : accP n x (i + 1) = (accP n x i || (decide (i ∈ unl x.1.1 x.2.1) && clashP n x i)) := by
  unfold accP
  rw [List.range_succ, List.any_append]
  simp
theorem accP_all {n : Nat} {x : Row × Row} (N : NzP n x) : accP n x n = clashB n x := by
  rw [clash_any N, Bool.eq_iff_iff]
  unfold accP
  rw [List.any_eq_true, List.any_eq_true]
  constructor
  · rintro ⟨j, _, h⟩
    obtain ⟨h1, h2⟩ := Bool.and_eq_true_iff.mp h
    unfold clashP at h2
    rw [isNo_leastD] at h2
    exact ⟨j, of_decide_eq_true h1, h2⟩
  · rintro ⟨j, h1, h2⟩
    have hj := (unl_mem (p := x.1.1) (q := x.2.1) h1).1
    rw [N.l] at hj
    refine ⟨j, List.mem_range.mpr hj, ?_⟩
    rw [decide_eq_true h1, Bool.true_and]
    unfold clashP
    rw [isNo_leastD]
    exact h2
theorem refs_pl : pl (.tup [.str "refused", .str "signs"]) = true := by decide +kernel
theorem told_pl {l : List Int} {b : Int} {s : Str} (hs : PyData.strOk s = true) : pl (.tup [.str s, leastD l b]) = true ∧ dep (.tup [.str s, leastD l b]) ≤ 64 := by
  have h1 := pl_leastD l b
  have h2 := dep_leastD l b
  refine ⟨by simp [pl, plA, h1, hs], ?_⟩
  simp only [dep, depA]; omega
theorem sd__law_pair_right (W : Wd) (k : W.Ok) (LP : Addr) (hold : HoldT W LP q__law_pair_right) (R : Addr) (y : PrG) (hp : y.Ok) : Sd W (t__law_pair_right W.K W.C R LP) (startD N__law_pair_right.length [.adr y.a, namesD y.ns, rD y.x.1, rD y.x.2]) { rt := fun d => d = .bl true, nx := fun _ => Dt.non = .bl true } := by
  obtain ⟨a, ns, x⟩ := y
  obtain ⟨hns, hx⟩ := hp
  simp only at hns hx ⊢
  obtain ⟨hn1, hn6, _⟩ := id hns
  have T : TwoOk ns.length x := hx.two (by omega) (by decide)
  have T' : TwoOk ns.length (x.2, x.1) := hx.swap.two (by omega) (by decide)
  have N := hx.nz
  have hl := T.l
  have hl2 := T.l2
  have hU : plA ((unl x.1.1 x.2.1).map fun i => Dt.int (i : Nat)) = true := pl_nats _
  have hpU : pl (natsD (unl x.1.1 x.2.1)) = true := by simpa [pl] using hU
  have hdU : dep (natsD (unl x.1.1 x.2.1)) ≤ 64 := by have := dep_nats (unl x.1.1 x.2.1); simp only [dep]; omega
  have hUl := unl_len x.1.1 x.2.1
  have eU : unl x.2.1 x.1.1 = unl x.1.1 x.2.1 := unl_swap (by omega)
  have inU : ∀ i, i < ns.length → (i ∈ unl x.1.1 x.2.1 ↔ gi x.1.1 i * gi x.2.1 i < 0) := fun i hi => by
    unfold unl
    rw [List.mem_filter, List.mem_range, decide_eq_true_eq, hl]
    exact ⟨fun h => h.2, fun h => ⟨hi, h⟩⟩
  have elen : ∀ m : Nat, ((List.range m).map fun k => Dt.int (k : Nat)).length = m := fun m => by simp
  refine sq_asgE (d := .int (ns.length : Nat)) (Ed.to (ed_cb (ea_cons (ed_var rfl) ea_nil) cd_lenT) (by rw [List.length_map])) (of_decide_eq_true rfl) ?_
  refine sq_asgE (d := natsD (unl x.1.1 x.2.1)) ((ed_tupleF k (ef_lc (List.range ns.length) (fun i => .int (i : Nat)) (fun i => decide (gi x.1.1 i * gi x.2.1 i < 0)) (fun i => .int (i : Nat)) k (YlG.yl (yg_rangeN (ea_cons (ed_var rfl) ea_nil) (by omega))) (by simp; omega) fun i hi => ⟨_, _, tg_name (of_decide_eq_true rfl), by simp, et_test (ed_op (ed_op (ed_op (ed_op (ed_var rfl) ed_int (od_ixT rfl)) (ed_var rfl) (od_ixT (gi_atI (by have := List.mem_range.mp hi; omega)))) (ed_op (ed_op (ed_var rfl) ed_int (od_ixT rfl)) (ed_var rfl) (od_ixT (gi_atI (by have := List.mem_range.mp hi; omega)))) (od_I (mul4 (T.p _) (T.q _)))) ed_int od_B0), fun _ => ed_var rfl⟩)).to (by unfold natsD unl; rw [hl])) (of_decide_eq_true rfl) ?_
  refine sq_par (eam_shE (ed_call x k (ea_cons (ed_var rfl) (ea_cons (ed_var rfl) ea_nil)) ⟨ns.length, T⟩ fun d e => e) (eam_shE ed_bl (eam_nil ⟨_, _, rfl, ?_⟩)))
  refine sq_when (et_or (et_test (ed_op (ed_var rfl) (ed_var rfl) (od_neD hpU hpU hdU hdU))) fun _ => et_or (et_test (ed_op (er_callK (gD := swapG) ((x.2, x.1) : Row × Row) k swapG_reps ea_nil (ea_cons (ed_var rfl) (ea_cons (ed_var rfl) ea_nil)) rfl ⟨ns.length, T'⟩ fun d e => e.trans (by show natsD (unl x.2.1 x.1.1) = _; rw [eU])) (ed_var rfl) (od_neD hpU hpU hdU hdU))) fun _ => et_or (et_not (et_B (ed_isi (ed_var rfl) rfl kit_tt))) fun _ => et_B (ed_anyLc (unl x.1.1 x.2.1) (fun i => .int (i : Nat)) (fun _ => false) k (YlG.yl (yg_tup (ed_var rfl))) (by omega) fun i _ => ⟨_, _, tg_name (of_decide_eq_true rfl), by simp, ed_isi (ed_var rfl) rfl kit_ib⟩)) (fun h => ?_) fun _ => ?_
  · rw [deq_self hpU] at h
    simp at h
  refine sq_for k (yg_rangeN (n := ns.length) (ea_cons (ed_var rfl) ea_nil) (by omega)) (fun i δ => ∃ q6 q9 q10 q11 : Option Sl, δ = [some (.sh (.adr a)), some (.sh (namesD ns)), some (.sh (rD x.1)), some (.sh (rD x.2)), some (.sh (.int (ns.length : Nat))), some (.sh (natsD (unl x.1.1 x.2.1))), q6, some (.sh (natsD (unl x.1.1 x.2.1))), some (.sh (.bl (accP ns.length x i))), q9, q10, q11, none]) ⟨none, none, none, none, rfl⟩ ?_ ?_
  · rintro i d δ' hd ⟨q6, q9, q10, q11, rfl⟩
    obtain ⟨hi, rfl⟩ := rg_inv hd
    refine ⟨_, _, tg_name (of_decide_eq_true rfl), ?_⟩
    refine sq_asg (R := fun d => (gi x.1.1 i * gi x.2.1 i < 0 ∧ d = .tup [.str "told", leastD (elimP ns.length x i) (elimB x i)]) ∨ (¬ gi x.1.1 i * gi x.2.1 i < 0 ∧ d = .tup [.str "refused", .str "signs"])) (er_lamX (PL := fun ds => ds = [rD x.1, rD x.2, .int (i : Nat)]) hold k (fun E => ea_cons (ed_var rfl) (ea_cons (ed_var rfl) (ea_cons (ed_var rfl) ea_nil))) fun ds e => ⟨(⟨ns.length, x, i⟩ : WoG), e, ⟨T, hi⟩, fun d h => .inl ⟨h.1, by rw [h.2]⟩, fun w h => .inr ⟨h.1, by rw [h.2]⟩⟩) (of_decide_eq_true rfl) fun d hd => ?_
    rcases hd with ⟨hs, rfl⟩ | ⟨hs, rfl⟩
    · have hm : i ∈ unl x.1.1 x.2.1 := (inU i hi).mpr hs
      refine sq_if (et_test (ed_op (ed_var rfl) (ed_var rfl) od_notInN)) (fun h => ?_) fun _ => sq_next ?_
      · rw [decide_eq_true hm] at h; cases h
      refine sq_asgT (R := fun d => d = .tup [leastD (elimP ns.length x i) (elimB x i), .int (elimB x i)]) (er_callE (⟨ns.length, x, i⟩ : WoG) k (ea_cons (ed_var rfl) (ea_cons (ed_var rfl) (ea_cons (ed_var rfl) ea_nil))) ⟨T, hi⟩ fun d e => e) fun d e => ?_
      subst e
      refine ⟨_, _, tg_names2 (of_decide_eq_true rfl) (of_decide_eq_true rfl), ?_⟩
      refine sq_asgE (d := .bl (accP ns.length x i || clashP ns.length x i)) (ed_orB (ed_var rfl) fun _ => ed_andB (ed_op (ed_var rfl) ed_non od_isN) fun _ => ed_op (ed_var rfl) ed_int od_B0) (of_decide_eq_true rfl) ?_
      obtain ⟨p1, p2⟩ := told_pl (l := elimP ns.length x i) (b := elimB x i) (s := "told") (by decide +kernel)
      have p3 := pl_leastD (elimP ns.length x i) (elimB x i)
      have p4 := dep_leastD (elimP ns.length x i) (elimB x i)
      refine sd_if (et_or (et_test (ed_op (ed_var rfl) (ed_tup k (ea_cons ed_str (ea_cons (ed_var rfl) ea_nil)) (by simp)) (od_neD p1 p1 p2 p2))) fun _ => et_test (ed_op (er_callKX0 (gD := rotG) (⟨ns.length, (x.2, x.1), i⟩ : WoG) k rotG_reps ea_nil (ea_cons (ed_var rfl) (ea_cons (ed_var rfl) (ea_cons (ed_var rfl) ea_nil))) rfl ⟨T', hi⟩ (fun d h => h.2.trans (by show leastD (elimP ns.length (x.2, x.1) i) (elimB (x.2, x.1) i) = _; rw [elimP_swap, elimB_swap])) fun w h => h.1 (by show gi x.2.1 i * gi x.1.1 i < 0; rw [Int.mul_comm]; exact hs)) (ed_var rfl) (od_neD p3 p3 (by omega) (by omega)))) (fun h => ?_) fun _ => sd_next ⟨_, _, _, _, by rw [accP_succ, decide_eq_true hm, Bool.true_and]; rfl⟩
      rw [deq_self p1, deq_self p3] at h
      simp at h
    · have hm : ¬ i ∈ unl x.1.1 x.2.1 := fun z => hs ((inU i hi).mp z)
      refine sq_if (et_test (ed_op (ed_var rfl) (ed_var rfl) od_notInN)) (fun _ => ?_) fun h => ?_
      · refine sq_when (et_test (ed_op (ed_var rfl) (ed_tup k (ea_cons ed_str (ea_cons ed_str ea_nil)) (by simp)) (od_neD refs_pl refs_pl (by decide) (by decide)))) (fun h => ?_) fun _ => ?_
        · rw [deq_self refs_pl] at h; cases h
        · exact sd_cont ⟨_, _, _, _, by rw [accP_succ, decide_eq_false hm, Bool.false_and, Bool.or_false]; rfl⟩
      · rw [decide_eq_false hm] at h; cases h
  rintro δ' ⟨q6, q9, q10, q11, rfl⟩
  rw [elen, accP_all N]
  refine sq_for k (yg_list (ds := [.bl (clashB ns.length x), .bl (clashB ns.length x)]) (Ef.ed (ef_lst k (ea_cons (ed_call (⟨ns.length, x⟩ : TwoG) k (ea_cons (ed_var rfl) (ea_cons (ed_var rfl) ea_nil)) T fun d e => e) (ea_cons (er_callK (gD := swapG) (⟨ns.length, (x.2, x.1)⟩ : TwoG) k swapG_reps ea_nil (ea_cons (ed_var rfl) (ea_cons (ed_var rfl) ea_nil)) rfl T' fun d e => e.trans (by show Dt.bl (clashB ns.length (x.2, x.1)) = _; rw [clash_swap N])) ea_nil)) (by simp)))) (fun i δ => ∃ q7 : Option Sl, δ = [some (.sh (.adr a)), some (.sh (namesD ns)), some (.sh (rD x.1)), some (.sh (rD x.2)), some (.sh (.int (ns.length : Nat))), some (.sh (natsD (unl x.1.1 x.2.1))), q6, q7, some (.sh (.bl (clashB ns.length x))), q9, q10, q11, none]) ⟨_, rfl⟩ ?_ ?_
  · rintro i d δ' hd ⟨q7, rfl⟩
    have hd : d = .bl (clashB ns.length x) := by
      match i, hd with
      | 0, h => exact (Option.some.inj h).symm
      | 1, h => exact (Option.some.inj h).symm
      | i + 2, h => simp at h
    subst hd
    refine ⟨_, _, tg_name (of_decide_eq_true rfl), ?_⟩
    refine sd_if (et_or (et_not (et_B (ed_isi (ed_var rfl) rfl kit_bb))) fun _ => et_test (ed_op (ed_var rfl) (ed_var rfl) od_neB)) (fun h => ?_) fun _ => sd_next ⟨_, rfl⟩
    simp at h
  rintro δ' ⟨q7, rfl⟩
  refine sq_asgE (d := .bl (!clashB ns.length x)) (ed_call (⟨ns, x⟩ : ShG) k (ea_cons (ed_var rfl) (ea_cons (ed_var rfl) (ea_cons (ed_var rfl) ea_nil))) ⟨hns, hx.a.ok (by decide), hx.b.ok (by decide)⟩ fun d e => e) (of_decide_eq_true rfl) ?_
  refine sd_ret (Ed.er (ed_andB (ed_op (ed_var rfl) ed_non od_notN) fun _ => ed_op (ed_var rfl) (ed_var rfl) od_neB) ?_)
  cases clashB ns.length x <;> rfl

theorem sc__law_pair_right : FnScope N__law_pair_right ["_law_heap_here", "_law_names_here", "_law_one", "_law_other"] (defScope s__law_pair_right) := ⟨rfl, rfl, rfl, by decide +kernel, rfl, by decide +kernel, by decide +kernel⟩
section
variable {P : Program} {w : World} {K : PySem.W.Frag} {mg : Str → Option Value} {base : Heap}
theorem b__law_pair_right (T : FxE P K mg) : Binds K T.f__law_pair_right.fd ["_law_heap_here", "_law_names_here", "_law_one", "_law_other"] [] := T.f__law_pair_right.F.bindsN fun _ _ _ _ _ _ us hl => match us, hl with | [_, _, _, _], _ => rfl
theorem d__law_pair_right (T : FxE P K mg) (L : FxL P K mg T) (TB : LamX.TabB base mg L.pc L.pP) {A : Around} {outer : List Env} {s : Shared} {H : Hp} {E : XK} (hr : Room 7 (A.deeper (envOfC "_law_pair_right" (defScope s__law_pair_right) s.heap.objs.size T.f__law_pair_right.f (.ref L.pc)))) : PSs (cxOf CX0 P w K mg base N__law_pair_right "_law_pair_right" (defScope s__law_pair_right) T.f__law_pair_right.f (.ref L.pc) A outer s H E).nox (defBody s__law_pair_right) (t__law_pair_right K T.C T.R L.pP) :=
  have nd := sc__law_pair_right.nd
  (pss_cons (ps_set (i := 4) nd rfl (by first | exact Or.inl rfl | exact Or.inr rfl) (pe_callB call_len rfl T.b_len boot_len (pa_cons (pv 1) pa_nil)))
  (pss_cons (ps_set (i := 5) nd rfl (by first | exact Or.inl rfl | exact Or.inr rfl) (pe_callTy call_tuple_of rfl T.b_tuple boot_tuple (pa_cons (pe_lc (own := [("_law_at", 6)]) (g := (gName 6)) (tt := (tTest (tOp rLtI (tOp rMulW (tOp (rIxT K) (tOp (rIxT K) (tVar 2) (tC (.int 0))) (tVar 6)) (tOp (rIxT K) (tOp (rIxT K) (tVar 3) (tC (.int 0))) (tVar 6))) (tC (.int 0))))) rfl nd (pi_range1 rfl T.b_range (pa_cons (pv 4) pa_nil)) (blkOk_by (by kernel_rfl)) (fun _ _ _ _ _ => (pg_name (i := 6) nd rfl (by first | exact Or.inl rfl | exact Or.inr rfl))) (fun _ _ _ _ _ => (pts_one (pt_cmpR op_lt (pe_op op_mulW (pe_ix ix_tup (pe_ix ix_tup (pv 2) pe_int (fun _ _ => rfl)) (pv 6) (fun _ _ => rfl)) (pe_ix ix_tup (pe_ix ix_tup (pv 3) pe_int (fun _ _ => rfl)) (pv 6) (fun _ _ => rfl))) pe_int (nomark _)))) (fun _ _ _ _ _ => (pv 6))) pa_nil)))
  (pss_cons (ps_par (i := 7) (j := 8) rfl nd rfl rfl (by decide) rfl rfl (pa_cons (pe_call (ok_unlike T.toFx) (hr.mono (by decide)) rfl T.f_unlike.g T.f_unlike.F.kp (b_unlike T.toFx) .nil pass0 (pa_cons (pv 2) (pa_cons (pv 3) pa_nil))) (pa_cons pe_bl pa_nil)) rfl)
  (pss_cons (ps_if (PW.pt (pw_or (pt_cmpR (op_neD hr.units) (pv 7) (pv 5) (nomark _)) (pw_or (pt_cmpR (op_neD hr.units) (pe_callK0 (ok_unlike T.toFx) (hr.mono (by decide)) rfl T.f_unlike.g T.f_unlike.F.kp (kb_unlike T.toFx) pass0 (pk_cons (pv 2) (pk_cons (pv 3) pk_nil))) (pv 5) (nomark _)) (pw_or (pt_not (pt_val (pe_callB call_isi rfl T.b_isinstance boot_isinstance (pa_cons (pv 7) (pa_cons (pe_bltn rfl T.b_tuple boot_tuple rfl) pa_nil))))) (pw_or1 (pt_val (pe_callB (cr_any rfl) rfl T.b_any boot_any (pa_cons (pe_lc (own := [("_law_at", 6)]) (g := (gName 6)) (tt := tYes) rfl nd (pi_tup (pv 7)) (blkOk_by (by kernel_rfl)) (fun _ _ _ _ _ => (pg_name (i := 6) nd rfl (by first | exact Or.inl rfl | exact Or.inr rfl))) (fun _ _ _ _ _ => pts_nil) (fun _ _ _ _ _ => (pe_callB call_isi rfl T.b_isinstance boot_isinstance (pa_cons (pv 6) (pa_cons (pe_bltn rfl T.b_bool boot_bool rfl) pa_nil))))) pa_nil)))))))) (pss_one (ps_ret pe_bl)) pss_nil)
  (pss_cons (ps_for PassesOwn.never rfl (pi_range1 rfl T.b_range (pa_cons (pv 4) pa_nil)) (pg_name (i := 6) nd rfl (by first | exact Or.inl rfl | exact Or.inr rfl)) (pss_cons (ps_set (i := 9) nd rfl (by first | exact Or.inl rfl | exact Or.inr rfl) (pe_lamS (k := 4) rfl T.f__law_heard.g T.f__law_heard.F (b__law_heard T.toFx) sc_heard rfl (by first | exact Or.inl rfl | exact Or.inr (Or.inl rfl)) (fun cdv => heard_gives L.xf T.X.noW L.te T.g_Refused) TB rfl (hr.mono (by decide)) (show LamX.LamS (defScope s__law_pair_right) _ from LamX.lamS_by (by decide +kernel)) rfl (fun _ _ _ _ _ => rfl) (fun A outer s H E f c hr2 => (pe_call (ok_eliminated T) (hr2.mono (by decide)) rfl T.f_eliminated.g T.f_eliminated.F.kp (b_eliminated T) .nil (passes_call (takes_of rfl rfl rfl rfl) (fun _ _ _ _ h => h)) (pa_cons (pv 2) (pa_cons (pv 3) (pa_cons (pv 6) pa_nil)))))))
  (pss_cons (ps_if (pt_cmpR op_notIn_seq (pv 6) (pv 5) rfl) (pss_cons (ps_if (pt_cmpR (op_neD hr.units) (pv 9) (pe_tup (pa_cons pe_str (pa_cons pe_str pa_nil))) (nomark _)) (pss_one (ps_ret pe_bl)) pss_nil)
  (pss_one ps_continue)) pss_nil)
  (pss_cons (ps_asg (pe_call (ok__law_without T.toFx) (hr.mono (by decide)) rfl T.f__law_without.g T.f__law_without.F.kp (b__law_without T.toFx) .nil pass0 (pa_cons (pv 2) (pa_cons (pv 3) (pa_cons (pv 6) pa_nil)))) (pg_tup rfl (pgs_cons (pg_name (i := 10) nd rfl (by first | exact Or.inl rfl | exact Or.inr rfl)) (pgs_cons (pg_name (i := 11) nd rfl (by first | exact Or.inl rfl | exact Or.inr rfl)) pgs_nil))))
  (pss_cons (ps_set (i := 8) nd rfl (by first | exact Or.inl rfl | exact Or.inr rfl) (pe_or (pv 8) (pe_one (pe_and (pe_cmpR o_isN (pv 10) pe_non (nomark _)) (pe_one (pe_cmpR op_gt (pv 11) pe_int (nomark _)))))))
  (pss_one (ps_if (PW.pt (pw_or (pt_cmpR (op_neD hr.units) (pv 9) (pe_tup (pa_cons pe_str (pa_cons (pv 10) pa_nil))) (nomark _)) (pw_or1 (pt_cmpR (op_neD hr.units) (pe_callK0 (ok_eliminated T) (hr.mono (by decide)) rfl T.f_eliminated.g T.f_eliminated.F.kp (kb_eliminated T.toFx) passE0 (pk_cons (pv 6) (pk_cons (pv 2) (pk_cons (pv 3) pk_nil)))) (pv 10) (nomark _))))) (pss_one (ps_ret pe_bl)) pss_nil)))))))
  (pss_cons (ps_for PassesOwn.never rfl (pi_list (pe_lst (pa_cons (pe_call (ok_clash T) (hr.mono (by decide)) rfl T.f_clash.g T.f_clash.F.kp (b_clash T) .nil pass0 (pa_cons (pv 2) (pa_cons (pv 3) pa_nil))) (pa_cons (pe_callK0 (ok_clash T) (hr.mono (by decide)) rfl T.f_clash.g T.f_clash.F.kp (kb_clash T.toFx) pass0 (pk_cons (pv 2) (pk_cons (pv 3) pk_nil))) pa_nil)))) (pg_name (i := 7) nd rfl (by first | exact Or.inl rfl | exact Or.inr rfl)) (pss_one (ps_if (PW.pt (pw_or (pt_not (pt_val (pe_callB call_isi rfl T.b_isinstance boot_isinstance (pa_cons (pv 7) (pa_cons (pe_bltn rfl T.b_bool boot_bool rfl) pa_nil))))) (pw_or1 (pt_cmpR op_ne (pv 7) (pv 8) (nomark _))))) (pss_one (ps_ret pe_bl)) pss_nil)))
  (pss_cons (ps_set (i := 12) nd rfl (by first | exact Or.inl rfl | exact Or.inr rfl) (pe_call (ok__law_shared_point T.toFx) (hr.mono (by decide)) rfl T.f__law_shared_point.g T.f__law_shared_point.F.kp (b__law_shared_point T.toFx) .nil pass0 (pa_cons (pv 1) (pa_cons (pv 2) (pa_cons (pv 3) pa_nil)))))
  (pss_one (ps_ret (pe_and (pe_cmpR o_notN (pv 12) pe_non (nomark _)) (pe_one (pe_cmpR op_ne (pv 12) (pv 8) (nomark _)))))))))))))
theorem ok__law_pair_right (T : FxE P K mg) (L : FxL P K mg T) (TB : LamX.TabB base mg L.pc L.pP) : FnOk P w K mg base CX0 8 T.f__law_pair_right.f T.f__law_pair_right.fd ["_law_heap_here", "_law_names_here", "_law_one", "_law_other"] (sp__law_pair_right T.C L.pP) :=
  okS T.f__law_pair_right.F L.pA sc__law_pair_right (fun vs H Q E ⟨A, x, _, _, _, r, _⟩ => by rw [r.length]; rfl) fun A outer s H vs Q E _ hr h => ⟨t__law_pair_right K T.C T.R L.pP, PSs.nox (d__law_pair_right T L TB hr), run_S K h fun W k hold x hC hK hp => by subst hK; rw [← hC]; exact sd__law_pair_right W k L.pP hold T.R x hp⟩
end
end DL
/-! sorted(tuple) of alike data -/
namespace DL
open PySem PySem.Spec PyProof.Rows L2 Hd
def rSortT (K : PySem.W.Frag) : List V → Hp → VK → Prop := fun vs H Q => ∃ (a : Addr) (zs : List (V × PyData)), vs = [V.ref a] ∧ SqT K H a (zs.map (·.1)) ∧ (∀ z ∈ zs, Dp K H z.1 z.2 ∧ z.2.depth ≤ 64) ∧
  PySem.W.AllAlike (zs.map (·.2)) ∧ PySem.W.Sortable (zs.map (·.2)) ∧ ∀ p, H p = none → Q (.ref p) (upd H p (.lst ((zs.mergeSort (PySem.W.dataLe false (fun q : V × PyData => q.2))).map (·.1))))
theorem callSortT {X : Cx} (hu : X.A.units + 100 < cLine) : CallR X (.builtin "sorted") (rSortT X.K) := by
  intro pins s σ H vs us Q I r h
  obtain ⟨a, zs, rfl, hs, hz, ha, hk, q⟩ := h
  obtain ⟨its, rv, ⟨o, ho, hc, n, hd⟩, hsz⟩ := I.tuple hs
  obtain ⟨u, rfl, ru⟩ := vals1 r
  obtain rfl : u = Value.ref a := ru
  obtain ⟨e1, e2⟩ := eachIs_of I rfl rv hz
  have hlen : its.length ≤ sizeLine := by rw [← rv.length]; exact hsz
  refine Calls.call_function_entry PyProof.Rows.kind_sorted PyProof.Rows.plain_sorted PyProof.Rows.entry_sorted (PyProof.Rows.args_sorted1 _) ?_
  unfold Builtin.«sorted»
  refine wpAny_bind (m := checkCount "sorted" 1 1 _) (wpAny_pure ?_)
  refine wpAny_bind (wpAny_collect_seq a (.inr rfl) ho hc hd (fun h1 k1 => ?_) (by simpa using hlen))
  refine wpAny_bind (wpAny_newList ?_ (by simpa using hlen))
  have hD : (h1.push { cls := .type "list", data := .seq its.toArray }).get? h1.objs.size = some (PyProof.Rows.seqObj "list" its.toArray 0) := Heap.get?_push_size _ rfl
  have hkeep : ∀ b o, s.heap.get? b = some o → (PySem.W.sortingHeap (h1.push { cls := .type "list", data := .seq its.toArray }) h1.objs.size its).get? b = some o := fun b o e =>
    PySem.W.sortingHeap_old (Nat.ne_of_lt (Heap.lt_size (k1 b o e))) (Heap.get?_push_of_some _ (k1 b o e))
  have er' : PySem.W.EachIs (fun (u : Value) (z : V × PyData) => ∃ as, Reads (PySem.W.sortingHeap (h1.push { cls := .type "list", data := .seq its.toArray }) h1.objs.size its) u z.2 as) its zs := e2.mono fun _ _ ⟨as, r⟩ => ⟨as, PyProof.Rows.Reads.keeps hkeep r⟩
  have hL : zs.length ≤ sizeLine := by rw [List.length_map] at hsz; exact hsz
  refine wpAny_bind (wpAny_holding (PySem.wpAny_call_entry PyProof.Rows.slot_list_sort ⟨_, hD, rfl⟩ PyProof.Rows.entry_list_sort (PySem.W.list_sort_vals (κ := PySem.W.dataKind (PySem.W.sortingHeap (h1.push { cls := .type "list", data := .seq its.toArray }) h1.objs.size its) (zs.map (·.2))) hD (PySem.W.SortsAt.data (s := { s with heap := PySem.W.sortingHeap (h1.push { cls := .type "list", data := .seq its.toArray }) h1.objs.size its }) (PySem.W.each_map (R := fun v d => ∃ as, Reads (PySem.W.sortingHeap (h1.push { cls := .type "list", data := .seq its.toArray }) h1.objs.size its) v d as) (fun z : V × PyData => z.2) er') ha hk (PySem.W.bound_map fun z hz' => ?_)) (by rw [e1.length]; exact hL) ⟨.none, rfl, ?_⟩) (PyProof.Rows.args_list_sort _)))
  · have h2 := (hz z hz').2
    have : X.A.in1.in1.units = X.A.units + 2 := rfl
    show X.A.in1.in1.units + _ < _
    omega
  · have eo := PySem.W.sortVals_data false e1 er' ha
    have ol : (PySem.W.sortVals (PySem.W.dataKind (PySem.W.sortingHeap (h1.push { cls := .type "list", data := .seq its.toArray }) h1.objs.size its) (zs.map (·.2))) false its its).length = its.length := PySem.W.sortVals_length false rfl
    obtain ⟨c, hc⟩ := PyProof.Rows.sortedHeap_at (out := (PySem.W.sortVals (PySem.W.dataKind (PySem.W.sortingHeap (h1.push { cls := .type "list", data := .seq its.toArray }) h1.objs.size its) (zs.map (·.2))) false its its).toArray) hD
    have hn : H h1.objs.size = none := (I.hok.kept k1).fresh (Nat.le_refl _)
    have hk2 : ∀ b o, s.heap.get? b = some o → (PyProof.Rows.sortedHeap (h1.push { cls := .type "list", data := .seq its.toArray }) h1.objs.size its (PySem.W.sortVals (PySem.W.dataKind (PySem.W.sortingHeap (h1.push { cls := .type "list", data := .seq its.toArray }) h1.objs.size its) (zs.map (·.2))) false its its).toArray).get? b = some o := fun b o e =>
      (PyProof.Rows.sortedHeap_old (Nat.ne_of_lt (Heap.lt_size (k1 b o e))) (Heap.lt_size (Heap.get?_push_of_some _ (k1 b o e)))).trans (Heap.get?_push_of_some _ (k1 b o e))
    refine wpAny_pure ⟨_, rfl, ⟨.ref h1.objs.size, _, I.laidN (t' := s.toks) hk2 ?_ hn ?_, rfl, q _ hn⟩⟩
    · cases e : s.heap.get? h1.objs.size with
      | none => rfl
      | some o => exact absurd (Heap.lt_size (k1 _ _ e)) (Nat.lt_irrefl _)
    · refine ⟨?_, _, c, vals_each eo, by simpa using hc⟩
      rw [List.length_map, List.length_mergeSort]
      exact hL
end DL
/-! the triples stand in order; how many they are; sorted(tuple) over data -/
namespace DL
open PySem PySem.Spec PyProof.Rows L2 Hd
/-! ### sorted(tuple) -/
theorem efr_sortedT {W : Wd} {δ : Dl} {ta : TE} {ds : List Dt} (k : W.Ok) (ha : Ed W ta δ (.tup ds)) (hp : plA ds = true) (hz : depA ds ≤ 64) (hal : ∀ d ∈ ds, ∀ e ∈ ds, alk d e = true) (hs : ∀ d ∈ ds, ∃ x r, d = .tup (x :: r)) :
    Efr W (tCB (rSortT W.K) (tCons ta tNil)) δ fun es => es.Perm ds ∧ es.Pairwise fun x y => dLt y x = false := fun g O σ H S Q q => ha g O σ H S _ fun v H1 d f i ed rd => by
  subst ed
  cases rd with
  | @tup p xs _ hpp n r =>
  have hlen := r.length
  obtain ⟨z1, z2⟩ := reps_zip r
  have z3 : (xs.zip ds).map (·.2) = ds := zip_snd hlen
  have mem : ∀ d ∈ ds, pl d = true := plA_iff.mp hp
  have memD : ∀ d ∈ ds, dep d ≤ 64 := depA_le.mp hz
  have zmem : ∀ w ∈ xs.zip ds, w.2 ∈ ds := fun w hw => by rw [← z3]; exact List.mem_map.mpr ⟨w, hw, rfl⟩
  let zs : List (V × PyData) := (xs.zip ds).map fun w => (w.1, toPy w.2)
  have e1 : zs.map (·.1) = xs := by rw [List.map_map]; exact z1
  have e2 : zs.map (·.2) = ds.map toPy := by
    have : zs.map (·.2) = ((xs.zip ds).map (·.2)).map toPy := by rw [List.map_map, List.map_map]; rfl
    rw [this, z3]
  refine ⟨p, zs, rfl, by rw [e1]; exact SqT.of hpp, fun z hz' => ?_, ?_, ?_, fun l hl => ?_⟩
  · obtain ⟨w, hw, e⟩ := List.mem_map.mp hz'
    subst e
    exact ⟨(z2 w hw).dp (mem _ (zmem w hw)), Nat.le_trans (depth_toPy _) (memD _ (zmem w hw))⟩
  · intro a ha' b hb'
    rw [e2] at ha' hb'
    obtain ⟨d, hd, e⟩ := List.mem_map.mp ha'
    obtain ⟨d2, hd2, e'⟩ := List.mem_map.mp hb'
    subst e e'
    exact hal d hd d2 hd2
  · rw [e2]
    refine .inl fun d' hd' => ?_
    obtain ⟨d, hd, e⟩ := List.mem_map.mp hd'
    obtain ⟨x, r, e'⟩ := hs d hd
    subst e'
    exact ⟨toPy x, toPyA r, by rw [← e, toPy, toPyA]⟩
  · let le : V × PyData → V × PyData → Bool := PySem.W.dataLe false (fun q : V × PyData => q.2)
    have tot : PySem.W.TotalLe le := PySem.W.sortLe_total _ _ _
    have pm : (zs.mergeSort le).Perm zs := List.mergeSort_perm zs le
    obtain ⟨ws, wp, we⟩ : ∃ ws : List (V × Dt), ws.Perm (xs.zip ds) ∧ ws.map (fun w => (w.1, toPy w.2)) = zs.mergeSort le := PL.perm_map_of pm
    have wr : ∀ w ∈ ws, Rep W.C (W.M O) H1 w.1 w.2 := fun w hw => z2 w (wp.mem_iff.mp hw)
    have key : (zs.mergeSort le).map (·.1) = ws.map (·.1) := by rw [← we, List.map_map]; rfl
    rw [key]
    refine q _ _ _ (ws.map (·.2)) (f.trans (Fr.new hl)) (k.all i (all_new hl)) ⟨?_, ?_⟩ (back_none f i hl) upd_same (own_new hl (reps_of wr))
    · have := wp.map (·.2)
      rw [z3] at this
      exact this
    · have srt : (zs.mergeSort le).Pairwise fun a b => le a b = true := List.pairwise_mergeSort (le := le) (fun a b c => tot.trans a b c) (fun a b => by have := tot.total a b; simpa using this) zs
      rw [← we] at srt
      rw [List.pairwise_map] at srt ⊢
      refine srt.imp fun {a b} h => ?_
      have h2 : (!PyProof.Rows.lexLt PyProof.Rows.itemOrd (PySem.W.keyToks (toPy b.2)) (PySem.W.keyToks (toPy a.2))) = true := h
      exact (Bool.not_eq_true' _).mp h2
/-- what stands in order is sorted as it is -/
theorem sorted_same {es ds : List Dt} (hp : plA ds = true) (hal : ∀ d ∈ ds, ∀ e ∈ ds, alk d e = true) (h1 : es.Perm ds) (h2 : es.Pairwise fun x y => dLt y x = false) (h3 : ds.Pairwise fun x y => dLt x y = true) : es = ds := by
  refine List.Perm.eq_of_pairwise (le := fun x y => dLt y x = false) (fun a b ha hb l1 l2 => ?_) h2 (h3.imp fun {a b} h => ?_) h1
  · have ha' := h1.mem_iff.mp ha
    refine Classical.byContradiction fun n => ?_
    have := dLt_strict (plA_iff.mp hp a ha') (plA_iff.mp hp b hb) (hal a ha' b hb) n l1
    rw [this] at l2; cases l2
  · cases e : dLt b a with
    | false => rfl
    | true =>
      have := dLt_trans h e
      rw [dLt_irrefl] at this; cases this
/-! ### the order of triples -/
def ltT (s t : Nat × Nat × Nat) : Prop := s.1 < t.1 ∨ (s.1 = t.1 ∧ (s.2.1 < t.2.1 ∨ (s.2.1 = t.2.1 ∧ s.2.2 < t.2.2)))
theorem alk_int (a b : Int) : alk (.int a) (.int b) = true := by unfold alk; rw [toPy, toPy]; rfl
theorem lt_first {a b : Nat} {ds es : List Dt} (h : a < b) : dLt (.tup (.int (a : Nat) :: ds)) (.tup (.int (b : Nat) :: es)) = true := by
  rw [dLt_tup_diff rfl rfl (alk_int _ _) (fun z => by simp only [Dt.int.injEq] at z; omega), dLt_int]
  exact decide_eq_true (by omega)
theorem lt_same {a : Nat} {ds es : List Dt} (h : dLt (.tup ds) (.tup es) = true) : dLt (.tup (.int (a : Nat) :: ds)) (.tup (.int (a : Nat) :: es)) = true := by
  rw [dLt_tup_same rfl (alk_int _ _)]; exact h
theorem dLt_trD {s t : Nat × Nat × Nat} (h : ltT s t) : dLt (trD s) (trD t) = true := by
  obtain ⟨a, b, c⟩ := s
  obtain ⟨a', b', c'⟩ := t
  unfold trD
  rcases h with h | ⟨h1, h | ⟨h2, h⟩⟩
  · exact lt_first h
  · simp only at h1 h
    subst h1
    exact lt_same (lt_first h)
  · simp only at h1 h2 h
    subst h1 h2
    exact lt_same (lt_same (lt_first h))
theorem alk_trD (s t : Nat × Nat × Nat) : alk (trD s) (trD t) = true := by
  unfold alk trD
  simp [toPy, toPyA, PySem.W.alike, PySem.W.alikeAll]
theorem cellE_mem' {rs : List Row} {a b : Nat} {t : Nat × Nat × Nat} (ht : t ∈ cellE rs a b) : t.1 = a ∧ t.2.1 = b := by
  unfold cellE at ht
  obtain ⟨i, _, e⟩ := List.mem_map.mp ht
  subst e
  exact ⟨rfl, rfl⟩
theorem cellE_sorted (rs : List Row) (a b : Nat) : (cellE rs a b).Pairwise ltT := by
  unfold cellE unl
  rw [List.pairwise_map]
  exact ((List.pairwise_lt_range.filter _).filter _).imp fun h => .inr ⟨rfl, .inr ⟨rfl, h⟩⟩
theorem lineE_sorted (rs : List Row) (a b : Nat) : (lineE rs a b).Pairwise ltT := by
  unfold lineE
  rw [List.pairwise_flatMap]
  refine ⟨fun j _ => cellE_sorted rs a j, List.pairwise_lt_range.imp fun {i j} h x hx y hy => ?_⟩
  obtain ⟨e1, e2⟩ := cellE_mem' hx
  obtain ⟨e3, e4⟩ := cellE_mem' hy
  exact .inr ⟨by omega, .inl (by omega)⟩
theorem lineE_mem {rs : List Row} {a b : Nat} {t : Nat × Nat × Nat} (ht : t ∈ lineE rs a b) : t.1 = a := by
  unfold lineE at ht
  obtain ⟨j, _, h⟩ := List.mem_flatMap.mp ht
  exact (cellE_mem' h).1
theorem tripsE_sorted (rs : List Row) (a : Nat) : (tripsE rs a).Pairwise ltT := by
  unfold tripsE
  rw [List.pairwise_flatMap]
  refine ⟨fun i _ => lineE_sorted rs i _, List.pairwise_lt_range.imp fun {i j} h x hx y hy => ?_⟩
  have e1 := lineE_mem hx
  have e2 := lineE_mem hy
  exact .inl (by omega)
theorem trips_pair (rs : List Row) (a : Nat) : ((tripsE rs a).map trD).Pairwise fun x y => dLt x y = true := by
  rw [List.pairwise_map]
  exact (tripsE_sorted rs a).imp dLt_trD
theorem alk_trs (l : List (Nat × Nat × Nat)) : ∀ d ∈ l.map trD, ∀ e ∈ l.map trD, alk d e = true := fun d hd e he => by
  obtain ⟨s, _, e1⟩ := List.mem_map.mp hd
  obtain ⟨t, _, e2⟩ := List.mem_map.mp he
  subst e1 e2
  exact alk_trD s t
/-! ### how many -/
def sumR (n : Nat) (f : Nat → Nat) : Nat := ((List.range n).map f).sum
theorem sumR_zero (f : Nat → Nat) : sumR 0 f = 0 := rfl
theorem sumR_succ (n : Nat) (f : Nat → Nat) : sumR (n + 1) f = sumR n f + f n := by
  unfold sumR; rw [List.range_succ, List.map_append, List.sum_append]; simp
theorem sumR_add (n : Nat) (f g : Nat → Nat) : sumR n (fun i => f i + g i) = sumR n f + sumR n g := by
  induction n with
  | zero => rfl
  | succ n ih => rw [sumR_succ, sumR_succ, sumR_succ, ih]; omega
theorem sumR_congr {n : Nat} {f g : Nat → Nat} (h : ∀ i, i < n → f i = g i) : sumR n f = sumR n g := by
  induction n with
  | zero => rfl
  | succ n ih => rw [sumR_succ, sumR_succ, ih fun i hi => h i (by omega), h n (by omega)]
theorem sumR_swap (m n : Nat) (f : Nat → Nat → Nat) : sumR m (fun a => sumR n (f a)) = sumR n fun i => sumR m fun a => f a i := by
  induction m with
  | zero =>
    rw [sumR_zero]
    induction n with
    | zero => rfl
    | succ n ih => rw [sumR_succ, ← ih, sumR_zero]
  | succ m ih =>
    rw [sumR_succ, ih, ← sumR_add]
    exact sumR_congr fun i _ => (sumR_succ m fun a => f a i).symm
theorem sumR_mulL (n c : Nat) (f : Nat → Nat) : sumR n (fun i => c * f i) = c * sumR n f := by
  induction n with
  | zero => simp [sumR_zero]
  | succ n ih => rw [sumR_succ, sumR_succ, ih, Nat.mul_add]
theorem sumR_mulR (n c : Nat) (f : Nat → Nat) : sumR n (fun i => f i * c) = sumR n f * c := by
  induction n with
  | zero => simp [sumR_zero]
  | succ n ih => rw [sumR_succ, sumR_succ, ih, Nat.add_mul]
def ind (b : Bool) : Nat := if b then 1 else 0
theorem filter_sum (n : Nat) (b : Nat → Bool) : ((List.range n).filter b).length = sumR n fun i => ind (b i) := by
  induction n with
  | zero => rfl
  | succ n ih =>
    rw [List.range_succ, List.filter_append, List.length_append, ih, sumR_succ]
    congr 1
    rw [List.filter_cons]
    unfold ind
    cases b n <;> rfl
theorem flat_sum {α : Type} (n : Nat) (f : Nat → List α) : ((List.range n).flatMap f).length = sumR n fun i => (f i).length := by
  induction n with
  | zero => rfl
  | succ n ih => rw [List.range_succ, List.flatMap_append, List.length_append, ih, sumR_succ]; simp
theorem ind_and (a b : Bool) : ind (a && b) = ind a * ind b := by cases a <;> cases b <;> rfl
theorem col_count {rs : List Row} (i : Nat) (p : Int → Bool) : ((colE rs i).filter p).length = sumR rs.length fun a => ind (p (gi (rowAt rs a).1 i)) := by
  rw [← filter_sum]
  unfold colE
  have e : rs.map (fun r => gi r.1 i) = (List.range rs.length).map fun a => gi (rowAt rs a).1 i := getD_rg rs ([], 0) _
  rw [e, List.filter_map, List.length_map]
  rfl
theorem manyE_sum (rs : List Row) (n : Nat) : manyE rs n = ((sumR n fun i => posN (colE rs i) * negN (colE rs i) : Nat) : Int) := by
  induction n with
  | zero => rfl
  | succ n ih => rw [manyE_succ, ih, sumR_succ, Int.natCast_add, Int.natCast_mul]
theorem trips_many {rs : List Row} {n : Nat} (h : ∀ r ∈ rs, r.1.length = n) : ((tripsE rs rs.length).length : Int) = manyE rs n := by
  rw [manyE_sum]
  congr 1
  unfold tripsE
  rw [flat_sum]
  have e1 : sumR rs.length (fun a => (lineE rs a rs.length).length) = sumR rs.length fun a => sumR rs.length fun b => sumR n fun i => ind (decide (0 < gi (rowAt rs a).1 i)) * ind (decide (gi (rowAt rs b).1 i < 0)) := by
    refine sumR_congr fun a ha => ?_
    unfold lineE
    rw [flat_sum]
    refine sumR_congr fun b hb => ?_
    rw [← cellP_eq (h _ (rowAt_mem ha))]
    unfold cellP
    rw [List.length_map, filter_sum]
    exact sumR_congr fun i _ => ind_and _ _
  rw [e1]
  have e2 : ∀ a, (sumR rs.length fun b => sumR n fun i => ind (decide (0 < gi (rowAt rs a).1 i)) * ind (decide (gi (rowAt rs b).1 i < 0))) = sumR n fun i => ind (decide (0 < gi (rowAt rs a).1 i)) * negN (colE rs i) := fun a => by
    rw [sumR_swap]
    refine sumR_congr fun i _ => ?_
    rw [sumR_mulL]
    unfold negN
    rw [col_count i fun x => decide (x < 0)]
  rw [sumR_congr fun a _ => e2 a, sumR_swap]
  refine sumR_congr fun i _ => ?_
  rw [sumR_mulR]
  unfold posN
  rw [col_count i fun x => decide (0 < x)]
end DL
/-! the world of the law: a heap's handle, two tables, the script -/
namespace DL
open PySem PySem.Spec PyProof.Rows L2 Hd LamX
abbrev q_law : Str := (envOfC "law" (defScope s_law) 0 0 .none).qual ++ "<lambda>"
theorem tabS_nl {H H' : Hp} {P : Addr} {q : Str} (t : TabS H P q) (h : ∀ a o, (∀ xs, o ≠ .lst xs) → H a = some o → H' a = some o) : TabS H' P q := by
  obtain ⟨ps, h1, h2, h3⟩ := t
  refine ⟨ps, h _ _ (fun xs z => by cases z) h1, h2, fun pos cv hc => ?_⟩
  obtain ⟨c, e1, e2⟩ := h3 pos cv hc
  exact ⟨c, e1, h _ _ (fun xs z => by unfold CodeO at z; cases z) e2⟩
theorem HeapAt.not {h c : Addr} {H : Hp} (x : HeapAt h c H) {b : Addr} {o : HO} (n : ∀ ys, o ≠ .lst ys) (e : H b = some o) : b ≠ h ∧ b ≠ c := by
  obtain ⟨s, ns, h1, h2, _⟩ := x.at_
  refine ⟨fun z => ?_, fun z => ?_⟩
  · rw [z, h1] at e; exact n _ (Option.some.inj e).symm
  · rw [z, h2] at e; exact n _ (Option.some.inj e).symm
structure WlI (K : PySem.W.Frag) (A : Addr → Prop) (h c LP PP a : Addr) (xs : List Int) (H : Hp) : Prop where
  hp : HeapAt h c H
  sc : SqF K H a (xs.map V.int)
  tl : TabS H LP q_law
  tp : TabS H PP q__law_pair_right
  dom : ∀ b, A b → H b ≠ none
def Wl (C : Addr) (K : PySem.W.Frag) (A : Addr → Prop) (h c LP PP a : Addr) (xs : List Int) (hh : A h) (hc : A c) (hL : A LP) (hP : A PP) : Wd := ⟨C, K, fun b => b = h ∨ b = c ∨ b = LP ∨ b = PP, A, WlI K A h c LP PP a xs, fun b z => by
  rcases z with z | z | z | z <;> rw [z] <;> assumption, fun H b i hb => i.dom b hb⟩
section
variable {C : Addr} {K : PySem.W.Frag} {A : Addr → Prop} {h c LP PP a : Addr} {xs : List Int} {hh : A h} {hc : A c} {hL : A LP} {hP : A PP}
theorem Wl.ok : (Wl C K A h c LP PP a xs hh hc hL hP).Ok := ⟨fun H H' i k hd => ⟨i.hp.keep fun b o hb e => k b o (.inl (hb.elim .inl fun z => .inr (.inl z))) e, i.sc.keep fun b o n _ e => k b o (.inr n) e, tabS_nl i.tl fun b o n e => k b o (.inr n) e, tabS_nl i.tp fun b o n e => k b o (.inr n) e, hd⟩⟩
theorem Wl.hold : Hold (Wl C K A h c LP PP a xs hh hc hL hP) h c := ⟨.inl rfl, .inr (.inl rfl), fun H i => i.hp, fun H H' i k x => ⟨x, i.sc.keep fun b o n _ e => k b o (i.hp.not n e).1 (i.hp.not n e).2 e, tabS_nl i.tl fun b o n e => k b o (i.hp.not n e).1 (i.hp.not n e).2 e, tabS_nl i.tp fun b o n e => k b o (i.hp.not n e).1 (i.hp.not n e).2 e, fun b hb z => by
  by_cases e1 : b = h
  · rw [e1] at z; exact x.there.1 z
  · by_cases e2 : b = c
    · rw [e2] at z; exact x.there.2 z
    · cases e : H b with
      | none => exact i.dom b hb e
      | some o => rw [k b o e1 e2 e] at z; cases z⟩⟩
theorem heap_but {H H1 : Hp} {P : Addr} {q : Str} (x : HeapAt h c H) (t : TabS H P q) (b : But P H H1) : HeapAt h c H1 := x.keep fun d o hd e => b d o (fun z => by
  obtain ⟨ps, hP, _⟩ := t
  obtain ⟨n1, n2⟩ := x.not (fun ys z => by cases z) hP
  rcases hd with hd | hd
  · exact n1 (by rw [← z, hd])
  · exact n2 (by rw [← z, hd])) e
theorem sq_but {H H1 : Hp} {P : Addr} {q : Str} {ys : List V} (x : SqF K H a ys) (t : TabS H P q) (b : But P H H1) : SqF K H1 a ys := x.keep fun d o n n2 e => b d o (fun z => by
  obtain ⟨ps, hP, _⟩ := t
  rw [z, hP] at e
  exact n2 ps (Option.some.inj e).symm) e
theorem Wl.holdL (ne : PP ≠ LP) : HoldT (Wl C K A h c LP PP a xs hh hc hL hP) LP q_law := ⟨.inr (.inr (.inl rfl)), fun H i => i.tl, fun H H1 i b t => ⟨heap_but i.hp i.tl b, sq_but i.sc i.tl b, t, by
  obtain ⟨ps, hP, _⟩ := id i.tl
  exact tabS_but hP b i.tp ne, but_there b (tabS_there t) i.dom⟩⟩
theorem Wl.holdP (ne : PP ≠ LP) : HoldT (Wl C K A h c LP PP a xs hh hc hL hP) PP q__law_pair_right := ⟨.inr (.inr (.inr rfl)), fun H i => i.tp, fun H H1 i b t => ⟨heap_but i.hp i.tp b, sq_but i.sc i.tp b, by
  obtain ⟨ps, hP, _⟩ := id i.tp
  exact tabS_but hP b i.tl (fun z => ne z.symm), t, but_there b (tabS_there t) i.dom⟩⟩
end
theorem okSG {P : Program} {w : World} {K : PySem.W.Frag} {mg : Str → Option Value} {base : Heap} {x qual : Str} {params : Arguments} {body : List Stmt} {scope : Scope} {dvs : List V} {kws : List (Str × V)} {f c : Addr} {fd : FuncData} {N ps : List Str} {k : Nat} {sp : Sp} (F : FunD K x qual params body scope dvs kws f fd) (hc : CodeAt K f c) (S : FnScope N ps scope) (len : ∀ vs H Q E, sp vs H Q E → vs.length = ps.length)
    (hbody : ∀ (A : Around) (outer : List Env) (s : Shared) (H : Hp) (vs : List V) (Q : VK) (E : XK), (A.deeper (envOfC qual scope s.heap.objs.size f (.ref c))).guards = some [] → Room k (A.deeper (envOfC qual scope s.heap.objs.size f (.ref c))) → sp vs H Q E →
      ∃ t, PSs (cxOf CX0 P w K mg base N qual scope f (.ref c) A outer s H E) body t ∧ t { nx := fun _ H' => Q .non H', rt := Q } (L2.start N vs) H) : FnG P w K mg base (k + 1) f fd ps sp := by
  obtain ⟨oc, od, dV, kV, doc, pm, an, cdv, ct, osl, rfl, lk, hcd, _, _⟩ := F.ex
  obtain ⟨c', rfl⟩ := He.codeIn_ref hcd
  obtain rfl := hc _ _ c' lk rfl rfl
  refine ⟨len, fun A outer s H args us vs Q E hG hr e0 hb r hsp => ?_⟩
  exact LamX.run_ofS lk hcd S hr e0 hb r (len _ _ _ _ hsp) fun hr' => hbody A outer s H vs Q E (by show A.guards = some []; exact hG) hr' hsp
end DL
namespace DL
open PySem PySem.Spec PyProof.Rows L2 Hd
/-! ### law -/
def sp_law (K : PySem.W.Frag) (LP PP : Addr) : Sp := fun vs H Q _ => ∃ (a : Addr) (l : List Int), vs = [.ref a] ∧ SqF K H a (l.map V.int) ∧ LamX.TabS H LP q_law ∧ LamX.TabS H PP q__law_pair_right ∧ ∀ v H', v = .bl true → Q v H'

abbrev N_law : List Str := ["_law_script", "_law_heap_here", "_law_turn", "_law_names_here", "_law_one", "_law_other", "_law_told"]
def t_law_rest (K : PySem.W.Frag) (C R LP PP : Addr) : TS := (tSeq (tFor (iRng1 (tCons (tOp rAdd (tC (.int 3)) (tCB rInt1 (tCons (tOp rGtI (tCB (rLen K) (tCons (tVar 0) tNil)) (tC (.int 2))) tNil))) tNil)) (gName 2) (tSeq (tAsg (tCall (sp__law_names C) [] E0 (tCons (tVar 1) (tCons (tCall (sp__law_pick C) [] E0 (tCons (tVar 1) (tCons (tLst (tCons (tC (.int 3)) (tCons (tC (.int 2)) (tCons (tC (.int 4)) (tCons (tC (.int 1)) (tCons (tC (.int 6)) (tCons (tC (.int 5)) (tCons (tC (.int 2)) tNil)))))))) tNil))) tNil))) (gName 3))
  (tSeq (tAsg (tCall (sp__law_pair C) [] E0 (tCons (tVar 1) (tCons (tCB (rLen K) (tCons (tVar 3) tNil)) tNil))) (gTup K 2 (gCons (gName 4) (gCons (gName 5) gNil))))
  (tIfS (tNot (tB (tCall (sp__law_pair_right C PP) [] E0 (tCons (tVar 1) (tCons (tVar 3) (tCons (tVar 4) (tCons (tVar 5) tNil))))))) (tRet (tC (.bl false))) tNext))))
  (tSeq (tAsg (tCall (sp__law_names C) [] E0 (tCons (tVar 1) (tCons (tCall (sp__law_pick C) [] E0 (tCons (tVar 1) (tCons (tLst (tCons (tC (.int 3)) (tCons (tC (.int 2)) (tCons (tC (.int 4)) (tCons (tC (.int 1)) tNil))))) tNil))) tNil))) (gName 3))
  (tSeq (tIfS (tNot (tB (tCall (sp__law_triples_right C) [] E0 (tCons (tVar 3) (tCons (tCall (sp__law_rows C) [] E0 (tCons (tVar 1) (tCons (tCB (rLen K) (tCons (tVar 3) tNil)) tNil))) tNil))))) (tRet (tC (.bl false))) tNext)
  (tSeq (tIfS (tTest (tOp (rNeD K) (tLamS LP q_law (TTH R) fun E => (tCall (sp_eliminations C R) [] E (tCons (tCall (sp__law_wide C) [] E0 (tCons (tVar 1) (tCons (tC (.int 7)) (tCons (tC (.int 43)) tNil)))) tNil))) (tTup (tCons (tC (.str "refused")) (tCons (tC (.str "wide")) tNil))))) (tRet (tC (.bl false))) tNext)
  (tSeq (tIfS (tTest (tOp rGtI (tCB (rLen K) (tCons (tVar 0) tNil)) (tC (.int 4)))) (tSeq (tAsg (tCall (sp_eliminations C R) [] E0 (tCons (tCall (sp__law_wide C) [] E0 (tCons (tVar 1) (tCons (tC (.int 10)) (tCons (tC (.int 30)) tNil)))) tNil)) (gName 6))
  (tIfS (tOr (tTest (tOp rNe (tCB (rLen K) (tCons (tVar 6) tNil)) (tC (.int 3000)))) (tTest (tOp (rNeD K) (tCB (rList K) (tCons (tVar 6) tNil)) (tCB (rSortT K) (tCons (tVar 6) tNil))))) (tRet (tC (.bl false))) tNext)) tNext)
  (tSeq (tIfS (tOr (tTest (tOp (rNeD K) (tCall (sp_eliminated C R) [] E0 (tCons (tTup (tCons (tTup (tCons (tC (.int 2)) (tCons (tOp rSub (tC (.int 0)) (tC (.int 1))) tNil))) (tCons (tC (.int 1)) tNil))) (tCons (tTup (tCons (tTup (tCons (tOp rSub (tC (.int 0)) (tC (.int 3))) (tCons (tC (.int 3)) tNil))) (tCons (tC (.int 1)) tNil))) (tCons (tC (.int 0)) tNil)))) (tTup (tCons (tTup (tCons (tC (.int 0)) (tCons (tC (.int 3)) tNil))) (tCons (tC (.int 5)) tNil))))) (tTest (tOp (rNeD K) (tCall (sp_eliminated C R) [] E0 (tCons (tTup (tCons (tTup (tCons (tC (.int 2)) (tCons (tOp rSub (tC (.int 0)) (tC (.int 1))) tNil))) (tCons (tC (.int 1)) tNil))) (tCons (tTup (tCons (tTup (tCons (tOp rSub (tC (.int 0)) (tC (.int 3))) (tCons (tC (.int 3)) tNil))) (tCons (tC (.int 1)) tNil))) (tCons (tC (.int 1)) tNil)))) (tTup (tCons (tTup (tCons (tC (.int 3)) (tCons (tC (.int 0)) tNil))) (tCons (tC (.int 4)) tNil)))))) (tRet (tC (.bl false))) tNext)
  (tSeq (tIfS (tOr (tTest (tOp rNotB (tCall (sp_clash C) [] E0 (tCons (tTup (tCons (tTup (tCons (tC (.int 1)) tNil)) (tCons (tC (.int 2)) tNil))) (tCons (tTup (tCons (tTup (tCons (tOp rSub (tC (.int 0)) (tC (.int 1))) tNil)) (tCons (tOp rSub (tC (.int 0)) (tC (.int 1))) tNil))) tNil))) (tC (.bl true)))) (tTest (tOp rNotB (tCall (sp_clash C) [] E0 (tCons (tTup (tCons (tTup (tCons (tC (.int 1)) tNil)) (tCons (tC (.int 2)) tNil))) (tCons (tTup (tCons (tTup (tCons (tOp rSub (tC (.int 0)) (tC (.int 1))) tNil)) (tCons (tOp rSub (tC (.int 0)) (tC (.int 2))) tNil))) tNil))) (tC (.bl false))))) (tRet (tC (.bl false))) tNext)
  (tSeq (tIfS (tOr (tTest (tOp rNotB (tCall (sp_clash C) [] E0 (tCons (tTup (tCons (tTup (tCons (tC (.int 1)) (tCons (tC (.int 0)) tNil))) (tCons (tC (.int 2)) tNil))) (tCons (tTup (tCons (tTup (tCons (tOp rSub (tC (.int 0)) (tC (.int 1))) (tCons (tC (.int 1)) tNil))) (tCons (tC (.int 9)) tNil))) tNil))) (tC (.bl false)))) (tTest (tOp rNotB (tCall (sp_clash C) [] E0 (tCons (tTup (tCons (tTup (tCons (tOp rSub (tC (.int 0)) (tC (.int 2))) (tCons (tC (.int 4)) tNil))) (tCons (tC (.int 1)) tNil))) (tCons (tTup (tCons (tTup (tCons (tC (.int 1)) (tCons (tOp rSub (tC (.int 0)) (tC (.int 2))) tNil))) (tCons (tC (.int 0)) tNil))) tNil))) (tC (.bl true))))) (tRet (tC (.bl false))) tNext)
  (tRet (tOp rIsNo (tCall (sp_eliminated C R) [] E0 (tCons (tTup (tCons (tTup (tCons (tOp rSub (tC (.int 0)) (tC (.int 2))) (tCons (tC (.int 4)) tNil))) (tCons (tC (.int 1)) tNil))) (tCons (tTup (tCons (tTup (tCons (tC (.int 1)) (tCons (tOp rSub (tC (.int 0)) (tC (.int 2))) tNil))) (tCons (tC (.int 0)) tNil))) (tCons (tC (.int 1)) tNil)))) (tC .non)))))))))))
def t_law (K : PySem.W.Frag) (C R LP PP : Addr) : TS := (tSeq (tAsg (tCall (sp__law_heap K C) [] E0 (tCons (tVar 0) tNil)) (gName 1)) (t_law_rest K C R LP PP))
theorem namesIn {n : Nat} (h : 1 ≤ n ∧ n ≤ 6) {ns : List Str} (e : ns.length = n) : 1 ≤ ns.length ∧ ns.length ≤ 6 := by omega
/-- names of a drawn number -/
theorem er_names {W : Wd} {δ : Dl} {t0 t1 : TE} {h c : Addr} {E : XK} {P : Dt → Prop} (hold : Hold W h c) (h0 : Ed W t0 δ (.adr h)) (h1 : Er W t1 δ fun d => ∃ n : Nat, d = .int (n : Nat) ∧ 1 ≤ n ∧ n ≤ 6) (hP : ∀ ns, namesOk ns → P (namesD ns)) : Er W (tCall (sp__law_names W.C) [] E (tCons t0 (tCons t1 tNil))) δ P :=
  er_callI (PL := fun ds => ∃ n : Nat, ds = [.adr h, .int (n : Nat)] ∧ 1 ≤ n ∧ n ≤ 6) hold (ear_cons (PR := fun _ => True) h0 fun d e0 => ear_cons (PR := fun _ => True) h1 fun d1 ⟨n, e1, hn⟩ => Ear.imp ear_nil fun ds e => by subst e0 e1 e; exact ⟨n, rfl, hn⟩) fun ds ⟨n, e, hn⟩ => ⟨n, e, hn, fun d ⟨ns, e2, h3, _⟩ => by rw [e2]; exact hP ns h3⟩
theorem nat6 {r : Int} (h : 1 ≤ r ∧ r ≤ 6) : ∃ n : Nat, Dt.int r = .int (n : Nat) ∧ 1 ≤ n ∧ n ≤ 6 := ⟨r.toNat, by rw [Int.toNat_of_nonneg (by omega)], by omega, by omega⟩
theorem ear_wide {W : Wd} {δ : Dl} {t0 : TE} {h c : Addr} {u d : Nat} (hold : Hold W h c) (h0 : Ed W t0 δ (.adr h)) (hi : (u, d) ∈ inW) : Ear W (tCons (tCall (sp__law_wide W.C) [] E0 (tCons t0 (tCons (tC (.int (u : Nat))) (tCons (tC (.int (d : Nat))) tNil)))) tNil) δ fun ds => ∃ rs, ds = [sysD namW rs] ∧ WideOk (u, d) rs :=
  ear_cons (PR := fun _ => True) (P1 := fun x => ∃ rs, x = sysD namW rs ∧ WideOk (u, d) rs) (er_callIE (u, d) hold (ea_cons h0 (ea_cons ed_int (ea_cons ed_int ea_nil))) hi fun x hx => hx) fun d1 ⟨rs, e1, hr⟩ => Ear.imp ear_nil fun ds e => by subst e1 e; exact ⟨rs, rfl, hr⟩
abbrev rowX (p : List Int) (b : Int) : Row := (p, b)
def x1 : Row × Row := (([2, 0 - 1], 1), ([0 - 3, 3], 1))
def x2 : Row × Row := (([1], 2), ([0 - 1], 0 - 1))
def x3 : Row × Row := (([1], 2), ([0 - 1], 0 - 2))
def x4 : Row × Row := (([1, 0], 2), ([0 - 1, 1], 9))
def x5 : Row × Row := (([0 - 2, 4], 1), ([1, 0 - 2], 0))
def twoB (n : Nat) (x : Row × Row) : Bool := x.1.1.length == n && x.2.1.length == n && decide (n ≤ 60) && (x.1.2 :: x.1.1).all (fun v => decide (v.natAbs < 1000)) && (x.2.2 :: x.2.1).all (fun v => decide (v.natAbs < 1000))
theorem two_of {n : Nat} {x : Row × Row} (h : twoB n x = true) : TwoOk n x := by
  unfold twoB at h
  simp only [Bool.and_eq_true, List.all_eq_true, decide_eq_true_eq, beq_iff_eq] at h
  obtain ⟨⟨⟨⟨h1, h2⟩, h3⟩, h4⟩, h5⟩ := h
  exact ⟨h1, h2, h3, fun v hv => Nat.lt_trans (h4 v hv) (by decide), fun v hv => Nat.lt_trans (h5 v hv) (by decide)⟩
theorem t1 : TwoOk 2 x1 := two_of (by decide +kernel)
theorem t2 : TwoOk 1 x2 := two_of (by decide +kernel)
theorem t3 : TwoOk 1 x3 := two_of (by decide +kernel)
theorem t4 : TwoOk 2 x4 := two_of (by decide +kernel)
theorem t5 : TwoOk 2 x5 := two_of (by decide +kernel)
theorem e10 : leastD (elimP 2 x1 0) (elimB x1 0) = rowD [0, 3] 5 := by kernel_rfl
theorem e11 : leastD (elimP 2 x1 1) (elimB x1 1) = rowD [3, 0] 4 := by kernel_rfl
theorem e51 : leastD (elimP 2 x5 1) (elimB x5 1) = .non := by kernel_rfl
theorem c2 : clashB 1 x2 = true := by decide +kernel
theorem c3 : clashB 1 x3 = false := by decide +kernel
theorem c4 : clashB 2 x4 = false := by decide +kernel
theorem c5 : clashB 2 x5 = true := by decide +kernel
theorem s10 : signs0 ⟨2, x1, 0⟩ := by unfold signs0; decide +kernel
theorem s11 : signs0 ⟨2, x1, 1⟩ := by unfold signs0; decide +kernel
theorem s51 : signs0 ⟨2, x5, 1⟩ := by unfold signs0; decide +kernel
theorem wides_pl : pl (.tup [.str "refused", .str "wide"]) = true := by decide +kernel
section
variable {W : Wd} {δ : Dl}
theorem ed_sub0 {b : Int} : Ed W (tOp rSub (tC (.int 0)) (tC (.int b))) δ (.int (0 - b)) := ed_op ed_int ed_int od_I0
theorem ed_row2 {ta tb tc : TE} {a b c : Int} (k : W.Ok) (ha : Ed W ta δ (.int a)) (hb : Ed W tb δ (.int b)) (hc : Ed W tc δ (.int c)) : Ed W (tTup (tCons (tTup (tCons ta (tCons tb tNil))) (tCons tc tNil))) δ (rD ([a, b], c)) := ed_tup k (ea_cons (ed_tup k (ea_cons ha (ea_cons hb ea_nil)) (by simp)) (ea_cons hc ea_nil)) (by simp)
theorem ed_row1 {ta tc : TE} {a c : Int} (k : W.Ok) (ha : Ed W ta δ (.int a)) (hc : Ed W tc δ (.int c)) : Ed W (tTup (tCons (tTup (tCons ta tNil)) (tCons tc tNil))) δ (rD ([a], c)) := ed_tup k (ea_cons (ed_tup k (ea_cons ha ea_nil) (by simp)) (ea_cons hc ea_nil)) (by simp)
end
theorem sd_law_rest (W : Wd) (k : W.Ok) (R : Addr) (h c LP PP a : Addr) (xs : List Int) (hold : Hold W h c) (holdL : HoldT W LP q_law) (holdP : HoldT W PP q__law_pair_right) (hI : ∀ H, W.I H → SqL W.K H a (xs.map V.int)) : Sd W (t_law_rest W.K W.C R LP PP) [some (.sh (.adr a)), some (.sh (.adr h)), none, none, none, none, none] { rt := fun d => d = .bl true } := by
  have hn : ∃ n : Int, (3 + if decide ((2 : Int) < (xs.length : Nat)) = true then 1 else 0) = n ∧ -100000 ≤ n ∧ n ≤ 100000 := ⟨_, rfl, by split <;> decide⟩
  obtain ⟨n, en, hn⟩ := hn
  refine sq_for k (yg_range1 (n := n) (ea_cons (Ed.to (ed_op ed_int (ed_cb (ea_cons (ed_op (ed_lenA rfl hI) ed_int od_B0) ea_nil) cd_intB) od_I0) (by rw [en])) ea_nil) hn) (fun i δ => ∃ q2 q3 q4 q5 : Option Sl, δ = [some (.sh (.adr a)), some (.sh (.adr h)), q2, q3, q4, q5, none]) ⟨none, none, none, none, rfl⟩ ?_ ?_
  · rintro i d δ' hd ⟨q2, q3, q4, q5, rfl⟩
    refine ⟨_, _, tg_name (of_decide_eq_true rfl), ?_⟩
    refine sq_asg (R := fun d => ∃ ns, d = namesD ns ∧ namesOk ns) (er_names hold (ed_var rfl) (er_pickI (ns := [3, 2, 4, 1, 6, 5, 2]) hold (ea_cons (ed_var rfl) (ea_cons (Ef.ed (ef_lst k (ea_cons ed_int (ea_cons ed_int (ea_cons ed_int (ea_cons ed_int (ea_cons ed_int (ea_cons ed_int (ea_cons ed_int ea_nil))))))) (by simp))) ea_nil)) (by decide) fun r hr => nat6 (by revert r; decide)) fun ns hns => ⟨ns, rfl, hns⟩) (of_decide_eq_true rfl) fun d ⟨ns, e, hns⟩ => ?_
    subst e
    refine sq_asgT (R := fun d => TwoD ns.length d) (er_callIE ns.length hold (ea_cons (ed_var rfl) (ea_cons (Ed.to (ed_cb (ea_cons (ed_var rfl) ea_nil) cd_lenT) (by rw [List.length_map])) ea_nil)) ⟨hns.1, hns.2.1⟩ fun d hd => hd) fun d ⟨x, e, hx⟩ => ?_
    subst e
    refine ⟨_, _, tg_names2 (of_decide_eq_true rfl) (of_decide_eq_true rfl), ?_⟩
    refine sd_if (et_not (et_B (er_callS (PL := fun ds => ds = [.adr h, namesD ns, rD x.1, rD x.2]) holdP (ea_cons (ed_var rfl) (ea_cons (ed_var rfl) (ea_cons (ed_var rfl) (ea_cons (ed_var rfl) ea_nil)))) fun ds e => ⟨(⟨h, ns, x⟩ : PrG), e, ⟨hns, hx⟩, fun d e => e⟩))) (fun z => by cases z) fun _ => sd_next ⟨_, _, _, _, rfl⟩
  rintro δ' ⟨q2, q3, q4, q5, rfl⟩
  refine sq_asg (R := fun d => ∃ ns, d = namesD ns ∧ namesOk ns) (er_names hold (ed_var rfl) (er_pickI (ns := [3, 2, 4, 1]) hold (ea_cons (ed_var rfl) (ea_cons (Ef.ed (ef_lst k (ea_cons ed_int (ea_cons ed_int (ea_cons ed_int (ea_cons ed_int ea_nil)))) (by simp))) ea_nil)) (by decide) fun r hr => nat6 (by revert r; decide)) fun ns hns => ⟨ns, rfl, hns⟩) (of_decide_eq_true rfl) fun d ⟨ns, e, hns⟩ => ?_
  subst e
  refine sq_when (et_not (et_B (er_call (PL := fun ds => ∃ rs, ds = [namesD ns, rowsD rs] ∧ rowsOk ns.length rs ∧ rs.length ≤ 12) k (ear_cons (PR := fun _ => True) (ed_var rfl) fun d e0 => ear_cons (PR := fun _ => True) (P1 := fun d => ∃ rs : List Row, d = rowsD rs ∧ rowsOk ns.length rs ∧ rs.length ≤ 12) (er_callIE ns.length hold (ea_cons (ed_var rfl) (ea_cons (Ed.to (ed_cb (ea_cons (ed_var rfl) ea_nil) cd_lenT) (by rw [List.length_map])) ea_nil)) ⟨hns.1, hns.2.1⟩ fun d hd => hd) fun d1 ⟨rs, e1, hr⟩ => Ear.imp ear_nil fun ds e => by subst e0 e1 e; exact ⟨rs, rfl, hr⟩) fun ds ⟨rs, e, h1, h2⟩ => ⟨(⟨ns, rs⟩ : TrG), e, ⟨⟨hns, h1⟩, h2⟩, fun d e => e⟩))) (fun z => by cases z) fun _ => ?_
  refine sq_when (et_test (ed_op (er_lamX (P := fun d => d = .tup [.str "refused", .str "wide"]) (PL := fun ds => ∃ rs, ds = [sysD namW rs] ∧ WideOk (7, 43) rs) holdL k (fun E => ear_wide hold (ed_var rfl) (by decide)) fun ds ⟨rs, e, hr⟩ => ⟨((namW, rs) : List Str × List Row), e, hr.s, fun d hd => absurd (show (3000 : Int) < manyE rs 4 by rw [hr.m]; decide) hd.1, fun w hw => by rw [hw.2]⟩) (ed_tup k (ea_cons ed_str (ea_cons ed_str ea_nil)) (by simp)) (od_neD wides_pl wides_pl (by decide) (by decide)))) (fun z => ?_) fun _ => ?_
  · rw [deq_self wides_pl] at z; cases z
  refine sd_seq (M := fun δ => ∃ q6 : Option Sl, δ = [some (.sh (.adr a)), some (.sh (.adr h)), q2, some (.sh (namesD ns)), q4, q5, q6]) (sd_if (et_test (ed_op (ed_lenA rfl hI) ed_int od_B0)) (fun _ => ?_) fun _ => sd_next ⟨_, rfl⟩) ?_
  · refine sq_asg (R := fun d => ∃ rs, d = .tup ((tripsE rs rs.length).map trD) ∧ WideOk (10, 30) rs) (fun g O σ H S Q q => ear_wide (u := 10) (d := 30) hold (ed_var rfl) (by decide) g O σ H S _ fun vs H1 ds f1 i1 ⟨rs, e, hr⟩ r1 => ?_) (of_decide_eq_true rfl) fun d ⟨rs, e, hr⟩ => ?_
    · subst e
      show spX W.C R _ _ _ _ (vs ++ []) H1 Q E0
      rw [List.append_nil]
      exact ⟨W.M O, (namW, rs), (S.step f1 i1).there, r1, hr.s, fun v H' d ex rv pd => q v H' d (f1.trans (Fr.all ex)) (k.all i1 ex) ⟨rs, pd.2, hr⟩ rv, fun dd H' wd _ _ z => absurd z.1 (show ¬ (3000 : Int) < manyE rs 4 by rw [hr.m]; decide)⟩
    subst e
    have hl : ∀ r ∈ rs, r.1.length = 4 := fun r hr' => (hr.s.r.2.1 r hr').1
    have hlen : ((tripsE rs rs.length).length : Int) = 3000 := by rw [trips_many hl, hr.m]; decide
    have hpl : plA ((tripsE rs rs.length).map trD) = true := pl_trs _
    have hdp := dep_trs (tripsE rs rs.length)
    refine sd_if (et_or (et_test (ed_op (Ed.to (ed_cb (ea_cons (ed_var rfl) ea_nil) cd_lenT) (by rw [List.length_map, hlen])) ed_int od_neI)) fun _ => et_test (ed_op (z := .bl (!deq (.lst ((tripsE rs rs.length).map trD)) (.lst ((tripsE rs rs.length).map trD)))) (d1 := .lst ((tripsE rs rs.length).map trD)) (d2 := .lst ((tripsE rs rs.length).map trD)) (Ef.ed (ef_listT k (ed_var rfl))) (Er.imp (Efr.er (efr_sortedT k (ed_var rfl) hpl (by omega) (alk_trs _) fun d hd => by
      obtain ⟨t, _, e⟩ := List.mem_map.mp hd
      subst e
      exact ⟨_, _, rfl⟩)) fun d ⟨es, e, h1, h2⟩ => by rw [e, sorted_same hpl (alk_trs _) h1 h2 (trips_pair rs rs.length)]) (od_neD (by simpa [pl] using hpl) (by simpa [pl] using hpl) (by simp only [dep]; omega) (by simp only [dep]; omega)))) (fun z => ?_) fun _ => sd_next ⟨_, rfl⟩
    rw [deq_self (by simpa [pl] using hpl)] at z
    cases z
  rintro δ' ⟨q6, rfl⟩
  have p1 := pl_leastD (elimP 2 x1 0) (elimB x1 0)
  have p2 := pl_leastD (elimP 2 x1 1) (elimB x1 1)
  have d1 := dep_leastD (elimP 2 x1 0) (elimB x1 0)
  have d2 := dep_leastD (elimP 2 x1 1) (elimB x1 1)
  refine sq_when (et_or (et_test (ed_op (er_callX0 (⟨2, x1, 0⟩ : WoG) k (ea_cons (ed_row2 k ed_int ed_sub0 ed_int) (ea_cons (ed_row2 k ed_sub0 ed_int ed_int) (ea_cons ed_int ea_nil))) ⟨t1, by decide⟩ (fun d h => h.2) fun w h => h.1 s10) (Ed.to (ed_row2 k ed_int ed_int ed_int) e10.symm) (od_neD p1 p1 (Nat.le_trans d1 (by decide)) (Nat.le_trans d1 (by decide))))) fun _ => et_test (ed_op (er_callX0 (⟨2, x1, 1⟩ : WoG) k (ea_cons (ed_row2 k ed_int ed_sub0 ed_int) (ea_cons (ed_row2 k ed_sub0 ed_int ed_int) (ea_cons ed_int ea_nil))) ⟨t1, by decide⟩ (fun d h => h.2) fun w h => h.1 s11) (Ed.to (ed_row2 k ed_int ed_int ed_int) e11.symm) (od_neD p2 p2 (Nat.le_trans d2 (by decide)) (Nat.le_trans d2 (by decide))))) (fun z => ?_) fun _ => ?_
  · rw [deq_self p1, deq_self p2] at z; cases z
  refine sq_when (et_or (et_test (ed_op (ed_call (⟨1, x2⟩ : TwoG) k (ea_cons (ed_row1 k ed_int ed_int) (ea_cons (ed_row1 k ed_sub0 ed_sub0) ea_nil)) t2 fun d e => e) ed_bl od_notB)) fun _ => et_test (ed_op (ed_call (⟨1, x3⟩ : TwoG) k (ea_cons (ed_row1 k ed_int ed_int) (ea_cons (ed_row1 k ed_sub0 ed_sub0) ea_nil)) t3 fun d e => e) ed_bl od_notB)) (fun z => ?_) fun _ => ?_
  · rw [c2, c3] at z; cases z
  refine sq_when (et_or (et_test (ed_op (ed_call (⟨2, x4⟩ : TwoG) k (ea_cons (ed_row2 k ed_int ed_int ed_int) (ea_cons (ed_row2 k ed_sub0 ed_int ed_int) ea_nil)) t4 fun d e => e) ed_bl od_notB)) fun _ => et_test (ed_op (ed_call (⟨2, x5⟩ : TwoG) k (ea_cons (ed_row2 k ed_sub0 ed_int ed_int) (ea_cons (ed_row2 k ed_int ed_sub0 ed_int) ea_nil)) t5 fun d e => e) ed_bl od_notB)) (fun z => ?_) fun _ => ?_
  · rw [c4, c5] at z; cases z
  refine sd_ret (Ed.er (ed_op (er_callX0 (⟨2, x5, 1⟩ : WoG) k (ea_cons (ed_row2 k ed_sub0 ed_int ed_int) (ea_cons (ed_row2 k ed_int ed_sub0 ed_int) (ea_cons ed_int ea_nil))) ⟨t5, by decide⟩ (fun d h => h.2) fun w h => h.1 s51) ed_non od_isN) ?_)
  show Dt.bl (isNo (leastD (elimP 2 x5 1) (elimB x5 1))) = _
  rw [e51]
  rfl
theorem len_law {K : PySem.W.Frag} {LP PP : Addr} {vs : List V} {H : Hp} {Q : VK} {E : XK} (h : sp_law K LP PP vs H Q E) : vs.length = 1 := by
  obtain ⟨a, l, rfl, _⟩ := h
  rfl
theorem run_law {K : PySem.W.Frag} {C R LP PP : Addr} (ne : PP ≠ LP) {vs : List V} {H : Hp} {Q : VK} {E : XK} (h : sp_law K LP PP vs H Q E) : t_law K C R LP PP { nx := fun _ H' => Q .non H', rt := Q } (L2.start N_law vs) H := by
  obtain ⟨a, l, rfl, hs, hL, hP, q⟩ := h
  refine ⟨.ref a, rfl, a, l, rfl, hs, fun v H' d ext rv hd => ?_⟩
  obtain ⟨ns, s, e, hz, h0, h1⟩ := hd
  subst e
  cases rv with
  | @lst p ys _ hp nA r =>
    cases r with
    | cons r1 rr =>
      cases rr with
      | cons r2 rr =>
        cases rr
        cases r2
        cases r1 with
        | @lst c zs _ hc nC r =>
          have ez := r.ints
          subst ez
          have nep : p ≠ c := fun z => by
            rw [z, hc] at hp
            have := Option.some.inj hp
            have := HO.lst.inj this
            cases ns with
            | nil => cases this
            | cons n ns => cases this
          have hHp : HeapAt p c H' := ⟨nep, s, ns, hp, hc, h0, h1, hz⟩
          have hPP : H PP ≠ none := tabS_there hP
          have hLP : H LP ≠ none := tabS_there hL
          let A : Addr → Prop := fun b => H b ≠ none ∨ b = p ∨ b = c
          have hI : WlI K A p c LP PP a l H' := ⟨hHp, hs.keep fun b o _ _ e => ext b o e, tabS_nl hL fun b o _ e => ext b o e, tabS_nl hP fun b o _ e => ext b o e, fun b hb => by
            rcases hb with hb | hb | hb
            · cases e : H b with
              | none => exact absurd e hb
              | some o => rw [ext b o e]; simp
            · rw [hb, hp]; simp
            · rw [hb, hc]; simp⟩
          show t_law_rest K C R LP PP { nx := fun _ H' => Q .non H', rt := Q } ((L2.start N_law [.ref a]).set 1 (some (.ref p))) H'
          refine sd_law_rest (Wl C K A p c LP PP a l (.inr (.inl rfl)) (.inr (.inr rfl)) (.inl hLP) (.inl hPP)) Wl.ok R p c LP PP a l Wl.hold (Wl.holdL ne) (Wl.holdP ne) (fun H i => i.sc.sq) Gh.tt (fun _ => False) _ H' _ ⟨rfl, fun i d hd => ?_, fun i ds hd => ?_, fun i j p ds es hd => ?_, fun _ z => z.elim, True.intro, hI, fun _ z => z.elim⟩ ⟨fun _ _ _ _ _ z => z.elim, fun O v H' d _ _ rv e => ?_, fun _ _ _ _ _ z => z.elim, fun _ _ _ _ _ z => z.elim, fun _ _ _ _ _ _ _ z => z.elim, fun _ _ _ _ _ _ _ _ _ _ z => z.elim⟩
          · match i, hd with
            | 0, hd => cases hd; exact ⟨_, rfl, .adr a⟩
            | 1, hd => cases hd; exact ⟨_, rfl, .adr p⟩
            | 2, hd => cases hd
            | 3, hd => cases hd
            | 4, hd => cases hd
            | 5, hd => cases hd
            | 6, hd => cases hd
            | i + 7, hd => cases hd
          · match i, hd with
            | 0, hd => cases hd
            | 1, hd => cases hd
            | 2, hd => cases hd
            | 3, hd => cases hd
            | 4, hd => cases hd
            | 5, hd => cases hd
            | 6, hd => cases hd
            | i + 7, hd => cases hd
          · match i, hd with
            | 0, hd => cases hd
            | 1, hd => cases hd
            | 2, hd => cases hd
            | 3, hd => cases hd
            | 4, hd => cases hd
            | 5, hd => cases hd
            | 6, hd => cases hd
            | i + 7, hd => cases hd
          · subst e
            cases rv
            exact q _ _ rfl

theorem sc_law : FnScope N_law ["_law_script"] (defScope s_law) := ⟨rfl, rfl, rfl, by decide +kernel, rfl, by decide +kernel, by decide +kernel⟩
section
variable {P : Program} {w : World} {K : PySem.W.Frag} {mg : Str → Option Value} {base : Heap}
theorem b_law (T : FxE P K mg) : Binds K T.f_law.fd ["_law_script"] [] := T.f_law.F.bindsN fun _ _ _ _ _ _ us hl => match us, hl with | [_], _ => rfl
theorem d_law (T : FxE P K mg) (L : FxL P K mg T) (TB : LamX.TabB base mg L.lc L.lP) (TP : LamX.TabB base mg L.pc L.pP) {A : Around} {outer : List Env} {s : Shared} {H : Hp} {E : XK} (hG : (A.deeper (envOfC "law" (defScope s_law) s.heap.objs.size T.f_law.f (.ref L.lc))).guards = some []) (hr : Room 9 (A.deeper (envOfC "law" (defScope s_law) s.heap.objs.size T.f_law.f (.ref L.lc)))) : PSs (cxOf CX0 P w K mg base N_law "law" (defScope s_law) T.f_law.f (.ref L.lc) A outer s H E).nox (defBody s_law) (t_law K T.C T.R L.lP L.pP) :=
  have nd := sc_law.nd
  (pss_cons (ps_set (i := 1) nd rfl (by first | exact Or.inl rfl | exact Or.inr rfl) (pe_call (ok__law_heap T.toFx) (hr.mono (by decide)) rfl T.f__law_heap.g T.f__law_heap.F.kp (b__law_heap T.toFx) .nil pass0 (pa_cons (pv 0) pa_nil)))
  (pss_cons (ps_for PassesOwn.never rfl (pi_range1 rfl T.b_range (pa_cons (pe_op op_add pe_int (pe_callTy o_int1 rfl T.b_int boot_int (pa_cons (pe_cmpR op_gt (pe_callB call_len rfl T.b_len boot_len (pa_cons (pv 0) pa_nil)) pe_int (nomark _)) pa_nil))) pa_nil)) (pg_name (i := 2) nd rfl (by first | exact Or.inl rfl | exact Or.inr rfl)) (pss_cons (ps_set (i := 3) nd rfl (by first | exact Or.inl rfl | exact Or.inr rfl) (pe_call (ok__law_names T.toFx) (hr.mono (by decide)) rfl T.f__law_names.g T.f__law_names.F.kp (b__law_names T.toFx) .nil pass0 (pa_cons (pv 1) (pa_cons (pe_call (ok__law_pick T.toFx) (hr.mono (by decide)) rfl T.f__law_pick.g T.f__law_pick.F.kp (b__law_pick T.toFx) .nil pass0 (pa_cons (pv 1) (pa_cons (pe_lst (pa_cons pe_int (pa_cons pe_int (pa_cons pe_int (pa_cons pe_int (pa_cons pe_int (pa_cons pe_int (pa_cons pe_int pa_nil)))))))) pa_nil))) pa_nil))))
  (pss_cons (ps_asg (pe_call (ok__law_pair T.toFx) (hr.mono (by decide)) rfl T.f__law_pair.g T.f__law_pair.F.kp (b__law_pair T.toFx) .nil pass0 (pa_cons (pv 1) (pa_cons (pe_callB call_len rfl T.b_len boot_len (pa_cons (pv 3) pa_nil)) pa_nil))) (pg_tup rfl (pgs_cons (pg_name (i := 4) nd rfl (by first | exact Or.inl rfl | exact Or.inr rfl)) (pgs_cons (pg_name (i := 5) nd rfl (by first | exact Or.inl rfl | exact Or.inr rfl)) pgs_nil))))
  (pss_one (ps_if (pt_not (pt_val (pe_call (ok__law_pair_right T L TP) (hr.mono (by decide)) rfl T.f__law_pair_right.g T.f__law_pair_right.F.kp (b__law_pair_right T) .nil pass0 (pa_cons (pv 1) (pa_cons (pv 3) (pa_cons (pv 4) (pa_cons (pv 5) pa_nil))))))) (pss_one (ps_ret pe_bl)) pss_nil)))))
  (pss_cons (ps_set (i := 3) nd rfl (by first | exact Or.inl rfl | exact Or.inr rfl) (pe_call (ok__law_names T.toFx) (hr.mono (by decide)) rfl T.f__law_names.g T.f__law_names.F.kp (b__law_names T.toFx) .nil pass0 (pa_cons (pv 1) (pa_cons (pe_call (ok__law_pick T.toFx) (hr.mono (by decide)) rfl T.f__law_pick.g T.f__law_pick.F.kp (b__law_pick T.toFx) .nil pass0 (pa_cons (pv 1) (pa_cons (pe_lst (pa_cons pe_int (pa_cons pe_int (pa_cons pe_int (pa_cons pe_int pa_nil))))) pa_nil))) pa_nil))))
  (pss_cons (ps_if (pt_not (pt_val (pe_callG hG (ok__law_triples_right T) (hr.mono (by decide)) rfl T.f__law_triples_right.g T.f__law_triples_right.F.kp (b__law_triples_right T) (pa_cons (pv 3) (pa_cons (pe_call (ok__law_rows T.toFx) (hr.mono (by decide)) rfl T.f__law_rows.g T.f__law_rows.F.kp (b__law_rows T.toFx) .nil pass0 (pa_cons (pv 1) (pa_cons (pe_callB call_len rfl T.b_len boot_len (pa_cons (pv 3) pa_nil)) pa_nil))) pa_nil))))) (pss_one (ps_ret pe_bl)) pss_nil)
  (pss_cons (ps_if (pt_cmpR (op_neD hr.units) (pe_lamS (k := 7) rfl T.f__law_heard.g T.f__law_heard.F (b__law_heard T.toFx) sc_heard rfl (by first | exact Or.inl rfl | exact Or.inr (Or.inl rfl)) (fun cdv => heard_gives L.xf T.X.noW L.te T.g_Refused) TB rfl (hr.mono (by decide)) (show LamX.LamS (defScope s_law) _ from LamX.lamS_by (by decide +kernel)) rfl (fun _ _ _ _ _ => rfl) (fun A outer s H E f c hr2 => (pe_call (ok_eliminations T) (hr2.mono (by decide)) rfl T.f_eliminations.g T.f_eliminations.F.kp (b_eliminations T) .nil (passes_call (takes_of rfl rfl rfl rfl) (fun _ _ _ _ h => h)) (pa_cons (pe_call (ok__law_wide T.toFx) (hr2.mono (by decide)) rfl T.f__law_wide.g T.f__law_wide.F.kp (b__law_wide T.toFx) .nil pass0 (pa_cons (pv 1) (pa_cons pe_int (pa_cons pe_int pa_nil)))) pa_nil)))) (pe_tup (pa_cons pe_str (pa_cons pe_str pa_nil))) (nomark _)) (pss_one (ps_ret pe_bl)) pss_nil)
  (pss_cons (ps_if (pt_cmpR op_gt (pe_callB call_len rfl T.b_len boot_len (pa_cons (pv 0) pa_nil)) pe_int (nomark _)) (pss_cons (ps_set (i := 6) nd rfl (by first | exact Or.inl rfl | exact Or.inr rfl) (pe_call (ok_eliminations T) (hr.mono (by decide)) rfl T.f_eliminations.g T.f_eliminations.F.kp (b_eliminations T) .nil passE0 (pa_cons (pe_call (ok__law_wide T.toFx) (hr.mono (by decide)) rfl T.f__law_wide.g T.f__law_wide.F.kp (b__law_wide T.toFx) .nil pass0 (pa_cons (pv 1) (pa_cons pe_int (pa_cons pe_int pa_nil)))) pa_nil)))
  (pss_one (ps_if (PW.pt (pw_or (pt_cmpR op_ne (pe_callB call_len rfl T.b_len boot_len (pa_cons (pv 6) pa_nil)) pe_int (nomark _)) (pw_or1 (pt_cmpR (op_neD hr.units) (pe_callTy call_list_of rfl T.b_list boot_list (pa_cons (pv 6) pa_nil)) (pe_callB (callSortT (hu100 hr)) rfl T.b_sorted boot_sorted (pa_cons (pv 6) pa_nil)) (nomark _))))) (pss_one (ps_ret pe_bl)) pss_nil))) pss_nil)
  (pss_cons (ps_if (PW.pt (pw_or (pt_cmpR (op_neD hr.units) (pe_call (ok_eliminated T) (hr.mono (by decide)) rfl T.f_eliminated.g T.f_eliminated.F.kp (b_eliminated T) .nil passE0 (pa_cons (pe_tup (pa_cons (pe_tup (pa_cons pe_int (pa_cons (pe_op op_sub pe_int pe_int) pa_nil))) (pa_cons pe_int pa_nil))) (pa_cons (pe_tup (pa_cons (pe_tup (pa_cons (pe_op op_sub pe_int pe_int) (pa_cons pe_int pa_nil))) (pa_cons pe_int pa_nil))) (pa_cons pe_int pa_nil)))) (pe_tup (pa_cons (pe_tup (pa_cons pe_int (pa_cons pe_int pa_nil))) (pa_cons pe_int pa_nil))) (nomark _)) (pw_or1 (pt_cmpR (op_neD hr.units) (pe_call (ok_eliminated T) (hr.mono (by decide)) rfl T.f_eliminated.g T.f_eliminated.F.kp (b_eliminated T) .nil passE0 (pa_cons (pe_tup (pa_cons (pe_tup (pa_cons pe_int (pa_cons (pe_op op_sub pe_int pe_int) pa_nil))) (pa_cons pe_int pa_nil))) (pa_cons (pe_tup (pa_cons (pe_tup (pa_cons (pe_op op_sub pe_int pe_int) (pa_cons pe_int pa_nil))) (pa_cons pe_int pa_nil))) (pa_cons pe_int pa_nil)))) (pe_tup (pa_cons (pe_tup (pa_cons pe_int (pa_cons pe_int pa_nil))) (pa_cons pe_int pa_nil))) (nomark _))))) (pss_one (ps_ret pe_bl)) pss_nil)
  (pss_cons (ps_if (PW.pt (pw_or (pt_cmpR op_notBl (pe_call (ok_clash T) (hr.mono (by decide)) rfl T.f_clash.g T.f_clash.F.kp (b_clash T) .nil pass0 (pa_cons (pe_tup (pa_cons (pe_tup (pa_cons pe_int pa_nil)) (pa_cons pe_int pa_nil))) (pa_cons (pe_tup (pa_cons (pe_tup (pa_cons (pe_op op_sub pe_int pe_int) pa_nil)) (pa_cons (pe_op op_sub pe_int pe_int) pa_nil))) pa_nil))) pe_bl (nomark _)) (pw_or1 (pt_cmpR op_notBl (pe_call (ok_clash T) (hr.mono (by decide)) rfl T.f_clash.g T.f_clash.F.kp (b_clash T) .nil pass0 (pa_cons (pe_tup (pa_cons (pe_tup (pa_cons pe_int pa_nil)) (pa_cons pe_int pa_nil))) (pa_cons (pe_tup (pa_cons (pe_tup (pa_cons (pe_op op_sub pe_int pe_int) pa_nil)) (pa_cons (pe_op op_sub pe_int pe_int) pa_nil))) pa_nil))) pe_bl (nomark _))))) (pss_one (ps_ret pe_bl)) pss_nil)
  (pss_cons (ps_if (PW.pt (pw_or (pt_cmpR op_notBl (pe_call (ok_clash T) (hr.mono (by decide)) rfl T.f_clash.g T.f_clash.F.kp (b_clash T) .nil pass0 (pa_cons (pe_tup (pa_cons (pe_tup (pa_cons pe_int (pa_cons pe_int pa_nil))) (pa_cons pe_int pa_nil))) (pa_cons (pe_tup (pa_cons (pe_tup (pa_cons (pe_op op_sub pe_int pe_int) (pa_cons pe_int pa_nil))) (pa_cons pe_int pa_nil))) pa_nil))) pe_bl (nomark _)) (pw_or1 (pt_cmpR op_notBl (pe_call (ok_clash T) (hr.mono (by decide)) rfl T.f_clash.g T.f_clash.F.kp (b_clash T) .nil pass0 (pa_cons (pe_tup (pa_cons (pe_tup (pa_cons (pe_op op_sub pe_int pe_int) (pa_cons pe_int pa_nil))) (pa_cons pe_int pa_nil))) (pa_cons (pe_tup (pa_cons (pe_tup (pa_cons pe_int (pa_cons (pe_op op_sub pe_int pe_int) pa_nil))) (pa_cons pe_int pa_nil))) pa_nil))) pe_bl (nomark _))))) (pss_one (ps_ret pe_bl)) pss_nil)
  (pss_one (ps_ret (pe_cmpR o_isN (pe_call (ok_eliminated T) (hr.mono (by decide)) rfl T.f_eliminated.g T.f_eliminated.F.kp (b_eliminated T) .nil passE0 (pa_cons (pe_tup (pa_cons (pe_tup (pa_cons (pe_op op_sub pe_int pe_int) (pa_cons pe_int pa_nil))) (pa_cons pe_int pa_nil))) (pa_cons (pe_tup (pa_cons (pe_tup (pa_cons pe_int (pa_cons (pe_op op_sub pe_int pe_int) pa_nil))) (pa_cons pe_int pa_nil))) (pa_cons pe_int pa_nil)))) pe_non (nomark _)))))))))))))
theorem ok_law (T : FxE P K mg) (L : FxL P K mg T) (TB : LamX.TabB base mg L.lc L.lP) (TP : LamX.TabB base mg L.pc L.pP) : FnG P w K mg base 10 T.f_law.f T.f_law.fd ["_law_script"] (sp_law K L.lP L.pP) :=
  okSG T.f_law.F L.lA sc_law (fun vs H Q E h => len_law h) fun A outer s H vs Q E hG hr h => ⟨t_law K T.C T.R L.lP L.pP, PSs.nox (d_law T L TB TP hG hr), run_law L.ne h⟩
end
end DL
set_option maxHeartbeats 0
/-! what the head is asked: the facts of HdDefs, the class Refused, the two tables -/
namespace Hd
open PySem PySem.Spec PyProof.Rows L2 DL
abbrev RR : PySem.W.OpenRow := PySem.W.OpenLaw.row PySem.Challenge.rw_rowalone_k16_whole_rows_without_an_unkno
abbrev SupV : Type := Option (Str × Str × Arguments × FuncBody × Scope × Addr × List Str × Addr)
def supObs (K : PySem.W.Frag) : SupV := match K.lookup (He.ma K (He.ga K "Refused") "__init__") with
  | some ⟨_, _, .func fd, _⟩ => some (fd.name, fd.qualname, fd.params, fd.body, fd.scope, fd.globals, fd.closure.map (·.1), fd.builtins)
  | _ => none
def supVal : SupV := some ("__init__", "Refused.__init__", defArgs s_Refused_init, .stmts (defBody s_Refused_init), defScope s_Refused_init, mainGlobals, ["__class__"], builtinsNs)
def oexB (K : PySem.W.Frag) (C : Addr) : Bool := match K.lookup C with
  | some ⟨.type c, _, .cls cd, sl⟩ => decide (c = "type") && (match cd.mro, sl.toList with
    | .ref C' :: bm, [_, _, _, _, some (.builtin n), _] => decide (C' = C) && (decide (n = "ValueError.__new__") && (!cd.hasDel && (cd.hasDict && PySem.HandSPX.refsVE bm)))
    | _, _ => false)
  | _ => false
def supB (P : Program) (K : PySem.W.Frag) (C : Addr) : Bool := match K.lookup (He.ma K C "__init__") with
  | some ⟨_, _, .func fd, _⟩ => (match fd.defaults, fd.kwdefaults, fd.closure, fd.code with
    | .none, .none, [q], .ref cda => PySem.W.codeIn K (.ref cda) "Refused.__init__" && ((match K.lookup cda with
      | some ⟨_, _, .fields vs, _⟩ => (match (vs[2]? : Option Value) with
        | some (Value.str file _) => (P.main.file : Str) == file
        | _ => false)
      | _ => false) && (match K.lookup q.2 with
      | some ⟨_, _, .cell (some (.ref R')), _⟩ => decide (R' = C)
      | _ => false))
    | _, _, _, _ => false)
  | _ => false
def exL (K : PySem.W.Frag) : List Bool :=
  let C := He.ga K "Refused"
  [oexB K C, decide (PySem.W.findIn K (.ref C) "__setattr__" = some (some (.builtin "object.__setattr__"))), decide (PySem.W.subIn K (.ref C) (.type "BaseException") = some true), decide (PySem.W.typeIn K (.ref C) = some (.type "type")), PySem.W.keepIn K (.ref C),
    supB RR.prog K C, decide (PySem.W.ks_superIn K C C "__init__" = some (some (.builtin "ValueError.__init__"))), decide (PySem.W.mroIn K C (.ref C) = some true), decide (PySem.W.subIn K (.ref C) (.type "ValueError") = some true), decide (PySem.W.nsIn K PySem.cStatics "thirdparty.any" = some none),
    (He.Fa.free "super").ok K, decide (PySem.W.findIn K (.ref C) "__init__" = some (some (.ref (He.ma K C "__init__")))), decide (PySem.W.typeIn K (.ref (He.ma K C "__init__")) = some (.type "function")), decide (PySem.W.findIn K (.ref C) "word" = some none),
    xfB K C, decide (PySem.W.exmOne K (.ref C) (.ref C) = some true), decide ((He.cT K ("law", none)).2 ≠ (He.cT K ("_law_pair_right", none)).2)]
def asX (g : Addr → Option Obj) : List Addr := PySem.cStatics :: He.asD g 5
def KX (g : Addr → Option Obj) : PySem.W.Frag := He.frT g (asX g)
abbrev AlS : Type := (He.AlT × Bool) × (List Bool × SupV)
def obsS (g : Addr → Option Obj) : AlS := ((He.obsT fa fn [] (KX g), He.tabsB g tf (KX g)), exL (KX g), supObs (KX g))
def valS (w : World) : AlS := ((He.valT fn [] w, true), List.replicate 17 true, supVal)
structure SaysS (w : World) (h : Heap) (K : PySem.W.Frag) : Prop where
  t : He.SaysT fa fn [] w K
  hd : ∀ p ∈ tf, PySem.W.codeHdIn K (He.cT K p).1 (He.cT K p).2 = true
  out : ∀ p ∈ tf, K.lookup (He.cT K p).2 = none
  empty : ∀ p ∈ tf, h.get? (He.cT K p).2 = some { cls := .none, data := .fields #[] }
  ex : exL K = List.replicate 17 true
  sup : supObs K = supVal
theorem saysS_of {w : World} {h : Heap} (e : obsS h.get? = valS w) : SaysS w h (KX h.get?) := by
  have e1 : He.obsT fa fn [] (KX h.get?) = He.valT fn [] w := congrArg (fun z : AlS => z.1.1) e
  have e2 : He.tabsB h.get? tf (KX h.get?) = true := congrArg (fun z : AlS => z.1.2) e
  have key : ∀ p ∈ tf, PySem.W.codeHdIn (KX h.get?) (He.cT (KX h.get?) p).1 (He.cT (KX h.get?) p).2 = true ∧ ∃ o, h.get? (He.cT (KX h.get?) p).2 = some o ∧ He.emptyTab o = true := fun p hp => by
    obtain ⟨h3, h4⟩ := He.ba (List.all_eq_true.mp e2 p hp)
    refine ⟨h3, ?_⟩
    cases q : h.get? (He.cT (KX h.get?) p).2 with
    | none => rw [q] at h4; cases h4
    | some o => rw [q] at h4; exact ⟨o, rfl, h4⟩
  refine ⟨e1, fun p hp => (key p hp).1, fun p hp => ?_, fun p hp => ?_, congrArg (fun z : AlS => z.2.1) e, congrArg (fun z : AlS => z.2.2) e⟩
  · obtain ⟨_, o, q, z⟩ := key p hp
    exact He.frT_none q z
  · obtain ⟨_, o, q, z⟩ := key p hp
    rw [q, He.emptyTab_eq z]
def hkS : PySem.W.Hook where
  α := AlS
  obs := fun s => obsS s.heap.get?
  val := valS
  says := fun w h => ∃ K : PySem.W.Frag, K.In h ∧ SaysS w h K
  of := fun _ _ e => ⟨_, He.frT_in, saysS_of e⟩
  keeps := fun _ _ _ ⟨K, hK, c⟩ k => ⟨K, PySem.W.Frag.In.keeps hK k, ⟨c.t, c.hd, c.out, fun p hp => k _ _ (c.empty p hp), c.ex, c.sup⟩⟩
def obX (s : PySem.W.SharedT) : AlS := obsS (HandSHeadRun.getT s)
theorem obX_eq (s : PySem.W.SharedT) : obX s = hkS.obs s.abs := by
  have e : HandSHeadRun.getT s = s.abs.heap.get? := funext (HandSHeadRun.getT_eq s)
  unfold obX
  rw [e]
  rfl
def loose0 : List Str := ["RowError", "InvalidSystem", "InvalidBox", "InvalidNumber", "Refused", "LETTERS", "LONGEST_NAME", "MOST_NAMES", "MOST_ROWS", "is_integer", "is_name", "is_name_lot", "divisor_of", "fraction_of", "is_fraction", "less", "common_divisor", "is_row", "check_system", "System", "least_form", "MOST_ELIMINATIONS", "unlike", "elimination_sum", "eliminated", "clash", "eliminations", "is_range", "is_above", "check_box"]
def loose1 : List Str := ["free_box", "first_table", "entering", "leaving", "pivoted", "numbers_of", "best_mix", "rows_of_ends", "point_or_numbers", "point_or_paper", "_law_heap", "_law_draw", "_law_pick", "_law_factor", "_law_low", "_law_sum", "_law_less", "_law_is_fraction", "_law_are_fractions", "_law_names", "_law_least", "_law_row", "_law_chain", "_law_rows", "_law_mixed", "_law_plain", "_law_kept", "_law_heard", "_law_far", "_law_pair"]
def loose2 : List Str := ["_law_without", "_law_shared_point", "_law_pair_right", "_law_triples_right", "_law_wide"]
abbrev loose : List Str := loose0 ++ loose1 ++ loose2
end Hd
namespace Hd
open PySem PySem.Spec PyProof.Rows L2 DL
theorem run (w : World) : HandSHeadRun.RunEq RR (PySem.W.view RR.prog [74]) hkS obX 6000 loose w := by
  intro os
  kernel_rfl
end Hd
set_option maxHeartbeats 4000000
/-! the end: the law is called from outside, where nothing guards -/
namespace DL
open PySem PySem.Spec PyProof.Rows L2 LamX
section
variable {P : Program} {w : World} {K : PySem.W.Frag} {mg mb : Str → Option Value} {k : Nat} {fa a : Addr} {cs : List (Addr × Addr)} {fd : FuncData} {x : Str} {sp : Sp} {s₁ : Shared} {vs : List Value} {ns : List Int}
/-- what is tracked at the entry: the tables, the script where the written part does not tell it -/
def entryH (K : PySem.W.Frag) (cs : List (Addr × Addr)) (a : Addr) (vs : List Value) (ns : List Int) : Hp := fun b =>
  if b ∈ cs.map (·.2) then some (.tbl #[]) else if b = a ∧ K.lookup a = none then some (.frz { cls := .type "list", data := .seq vs.toArray } (.lst (ns.map V.int))) else none
theorem entry_tab {b : Addr} (h : b ∈ cs.map (·.2)) : entryH K cs a vs ns b = some (.tbl #[]) := if_pos h
theorem entry_script (h : a ∉ cs.map (·.2)) (n : K.lookup a = none) : entryH K cs a vs ns a = some (.frz { cls := .type "list", data := .seq vs.toArray } (.lst (ns.map V.int))) := (if_neg h).trans (if_pos ⟨rfl, n⟩)
theorem entry_cases {b : Addr} {o : HO} (h : entryH K cs a vs ns b = some o) : (b ∈ cs.map (·.2) ∧ o = .tbl #[]) ∨ (b = a ∧ K.lookup a = none ∧ o = .frz { cls := .type "list", data := .seq vs.toArray } (.lst (ns.map V.int))) := by
  unfold entryH at h
  split at h
  · rename_i h1
    exact .inl ⟨h1, (Option.some.inj h).symm⟩
  · split at h
    · rename_i h2
      exact .inr ⟨h2.1, h2.2, (Option.some.inj h).symm⟩
    · cases h
theorem entry_none {b : Addr} (h1 : b ∉ cs.map (·.2)) (h2 : b = a → K.lookup a ≠ none) : entryH K cs a vs ns b = none := by
  cases e : entryH K cs a vs ns b with
  | none => rfl
  | some o =>
    rcases entry_cases e with ⟨z, _⟩ | ⟨z, y, _⟩
    · exact absurd z h1
    · exact absurd y (h2 z)
theorem law_callG (hK : K.In s₁.heap) (hns : s₁.heap.Ns mainGlobals mg) (hb : s₁.heap.Ns builtinsNs mb) (hbb : ∀ x : Str, x ≠ "__name__" → mb x = bootBuiltins x) (hlim : s₁.heap.NoLimit) (hg : s₁.gens = #[])
    (hT : ∀ p ∈ cs, s₁.heap.get? p.2 = some { cls := .none, data := .fields #[] }) (nT : ∀ p ∈ cs, K.lookup p.2 = none) (C : ∀ p ∈ cs, PySem.W.CodeHd s₁.heap p.1 p.2)
    (hbm : ∃ (bm : Addr) (ob : Obj), mg "__builtins__" = some (.ref bm) ∧ bm ≠ builtinsNs ∧ s₁.heap.get? bm = some ob ∧ ob.cls = .type "module" ∧ ob.dict = some builtinsNs ∧ ob.data = .plain)
    (ha : s₁.heap.get? a = some { cls := .type "list", data := .seq vs.toArray }) (hi : IntsAre vs ns) (hl : ns.length ≤ sizeLine) (hr : Room k callerA)
    (F : ∀ base : Heap, K.In base → base.Ns mainGlobals mg → (∀ p ∈ cs, TabB base mg p.1 p.2) → FnG P w K mg base k fa fd [x] sp) (hbind : ∀ (s : Shared) (u : Value), BindsTo s fd ⟨[u], []⟩ [(x, u)])
    (hsp : ∀ H : Hp, (∀ p ∈ cs, H p.2 = some (.tbl #[])) → SqF K H a (ns.map V.int) → sp [.ref a] H (fun v _ => v = .bl true) fun _ _ _ => False) :
    codeAny (model P w) callerA (.call (.ref fa) ⟨[.ref a], []⟩) (fun r s' => r = .ok (.ret (.bool true)) ∧ OldK s₁.heap s'.heap ∧ s'.os = s₁.os ∧ AllBare s'.gens) s₁ := by
  have rv := vals_ints hi
  have lenV := hi.length
  have tabAt : ∀ b : Addr, b ∈ cs.map (·.2) → s₁.heap.get? b = some { cls := .none, data := .fields #[] } ∧ K.lookup b = none := fun b hb => by
    obtain ⟨p, hp, e⟩ := List.mem_map.mp hb
    rw [← e]
    exact ⟨hT p hp, nT p hp⟩
  have aT : a ∉ cs.map (·.2) := fun z => by
    have q := (tabAt a z).1
    rw [ha] at q
    cases congrArg Obj.data (Option.some.inj q)
  have tabIn : ∀ p ∈ cs, p.2 ∈ cs.map (·.2) := fun p hp => List.mem_map.mpr ⟨p, hp, rfl⟩
  generalize hH : entryH K cs a vs ns = H
  have at_tab : ∀ p ∈ cs, H p.2 = some (.tbl #[]) := fun p hp => by rw [← hH]; exact entry_tab (tabIn p hp)
  -- what isn't tracked: whatever the written part tells; whatever is neither a list nor empty fields
  have freeK : ∀ {b : Addr} {o : Obj}, K.lookup b = some o → H b = none := fun {b o} e => by
    rw [← hH]
    exact entry_none (fun z => by rw [(tabAt b z).2] at e; cases e) fun z => by rw [← z, e]; simp
  have freeD : ∀ {b : Addr} {o : Obj}, s₁.heap.get? b = some o → (∀ vs n, o.data ≠ .seq vs n) → o.data ≠ .fields #[] → H b = none := fun {b o} e h1 h2 => by
    rw [← hH]
    refine entry_none (fun z => ?_) fun z => ?_
    · rw [(tabAt b z).1] at e
      cases e
      exact (h2 rfl).elim
    · rw [z, ha] at e
      cases e
      exact (h1 _ _ rfl).elim
  have toBase : ∀ {b : Addr} {o : Obj}, s₁.heap.get? b = some o → H b = none → (hidT s₁.heap H).get? b = some o := fun e n => hidT_get e n
  have dictB : ∀ {b : Addr} {m : Str → Option Value}, s₁.heap.Ns b m → (hidT s₁.heap H).Ns b m := fun {b m} ⟨o, es, ep, e, d, r⟩ => ⟨o, es, ep, toBase e (freeD e (fun vs n z => by rw [d] at z; cases z) fun z => by rw [d] at z; cases z), d, r⟩
  have hKb : K.In (hidT s₁.heap H) := fun b o e => toBase (hK b o e) (freeK e)
  have hM : L2.Mod K mg (hidT s₁.heap H) := ⟨hKb, dictB hns, ⟨mb, dictB hb, hbb⟩, let ⟨mc, h1, h2⟩ := hlim; ⟨mc, dictB h1, h2⟩⟩
  have TB : ∀ p ∈ cs, TabB (hidT s₁.heap H) mg p.1 p.2 := fun p hp => by
    refine ⟨?_, ?_, fun z => ?_⟩
    · obtain ⟨o, us, file, tf, flags, tg, inF, text, tt, e1, r1, r2, r3, r4, r5, r6, r7, r8, hne⟩ := C p hp
      refine ⟨o, us, file, tf, flags, tg, inF, text, tt, toBase e1 (freeD e1 (fun vs n z => by rw [r2] at z; cases z) fun z => ?_), r1, r2, r3, r4, r5, r6, r7, r8, hne⟩
      rw [r2] at z
      cases z
      simp at r3
    · obtain ⟨bm, ob, b1, b2, b3, b4, b5, b6⟩ := hbm
      refine ⟨bm, ob, b1, b2, fun q => ?_, fun q => ?_, toBase b3 (freeD b3 (fun vs n z => by rw [b6] at z; cases z) fun z => by rw [b6] at z; cases z), b4, b5, b6⟩
      · obtain ⟨o, es, ep, e, hd, _⟩ := hns
        rw [q, e] at b3
        cases b3
        rw [hd] at b6
        cases b6
      · rw [q, hT p hp] at b3
        cases b3
        cases b6
    · obtain ⟨o, es, ep, e, hd, _⟩ := hns
      rw [z, hT p hp] at e
      cases e
      cases hd
  have hok : HOk P w H s₁.heap := fun b u z => by
    rw [← hH] at z
    rcases entry_cases z with ⟨hb, e⟩ | ⟨hb, _, e⟩
    · rw [e]
      exact (tabAt b hb).1
    · rw [e, hb]
      exact ⟨ha, by rw [List.length_map]; exact hl, vs, _, rv, ha⟩
  have hS : SqF K H a (ns.map V.int) := by
    cases e : K.lookup a with
    | none => exact .inl ⟨_, by rw [← hH]; exact entry_script aT e⟩
    | some o =>
      have eo := hK a o e
      rw [ha] at eo
      cases eo
      exact .inr fun H' => .inr ⟨_, vs.toArray, _, e, rfl, rfl, rfl, by rw [List.size_toArray, lenV]; exact hl, by simpa using rv⟩
  have e0 : Env0 P w K mg (hidT s₁.heap H) callerA [] s₁ H := ⟨rfl, hM, fun b o e => of_hidT e, Nat.le_of_eq (hidT_size _ _), trivial, fun b hb => absurd (show b ∈ ([] : List Addr) from hb) (by simp), hok, .of_eq hg⟩
  refine codeAny_mono ((F _ hKb (dictB hns) TB).run callerA [] s₁ H ⟨[.ref a], []⟩ [.ref a] [.ref a] _ _ rfl hr e0 (hbind s₁ (.ref a)) (.cons rfl .nil) (hsp H at_tab hS)) fun r s' h => ?_
  match r, h with
  | .error e, h => exact False.elim h
  | .ok .next, h => exact False.elim h
  | .ok .brk, h => exact False.elim h
  | .ok .cont, h => exact False.elim h
  | .ok (.ret u), h =>
    obtain ⟨v, H', os, bare, un, hok', r', q⟩ := h
    obtain rfl : v = V.bl true := q
    obtain rfl : u = Value.bool true := r'
    have stay : ∀ b o, b ∉ cs.map (·.2) → s₁.heap.get? b = some o → s'.heap.get? b = some o := fun b o nb e => by
      cases q : H b with
      | none => exact un.keep b o e q (by intro z; exact absurd (show b ∈ ([] : List Addr) from z) (by simp)) (by simp)
      | some u =>
        have q0 := q
        rw [← hH] at q
        rcases entry_cases q with ⟨z, _⟩ | ⟨_, _, z⟩
        · exact absurd z nb
        · rw [z] at q0
          obtain ⟨e1, _⟩ := hok b _ q0
          obtain ⟨e2, _⟩ := hok' b _ (un.frzs b _ _ q0)
          rw [e] at e1
          cases e1
          exact e2
    have grown : ∀ b, b ∈ cs.map (·.2) → ∃ more : Array Value, s'.heap.get? b = some { cls := .none, data := .fields more } := fun b hb => by
      obtain ⟨p, hp, ep⟩ := List.mem_map.mp hb
      obtain ⟨more, z⟩ := un.tbls p.2 #[] (at_tab p hp)
      rw [← ep]
      exact ⟨_, hok' p.2 _ z⟩
    refine ⟨rfl, ⟨fun b o e => ?_, fun b o e => ?_⟩, os, bare⟩
    · by_cases hb : b ∈ cs.map (·.2)
      · obtain ⟨more, hm⟩ := grown b hb
        obtain ⟨p, hp, ep⟩ := List.mem_map.mp hb
        have eo := (tabAt b hb).1
        rw [e] at eo
        cases eo
        exact .inr (.inl ⟨by rw [← ep]; exact ((C p hp).tab (hT p hp)).isCodeTable, rfl, #[], more, rfl, by rw [Array.empty_append]; exact hm⟩)
      · exact .inl (stay b o hb e)
    · by_cases hb : b ∈ cs.map (·.2)
      · obtain ⟨more, hm⟩ := grown b hb
        exact ⟨_, hm⟩
      · exact ⟨o, stay b o hb e⟩
end
end DL
/-! from what the head tells to what the walks want -/
namespace DL
open PySem PySem.Spec PyProof.Rows L2 Hd
noncomputable section
variable {K : PySem.W.Frag} {mg : Str → Option Value} {h : Heap} {w : World}
def fdOf {x : Str} {st : Stmt} (F : ∃ fd, FunD K x x (defArgs st) (defBody st) (defScope st) [] [] (He.ga K x) fd) (g : mg x = some (.ref (He.ga K x))) : FD K mg x st := ⟨He.ga K x, Classical.choose F, Classical.choose_spec F, g⟩
def fxOf (X : K.In h) (G : h.Ns mainGlobals mg) (c : He.SaysD fa fn K) : Fx K mg where
  f_is_integer := fdOf (c.def_ 0 (d := Hd.d_is_integer) rfl) (He.glo_ok X G (c.fact 0 (f := .glo "is_integer") rfl))
  f_is_name := fdOf (c.def_ 1 (d := Hd.d_is_name) rfl) (He.glo_ok X G (c.fact 1 (f := .glo "is_name") rfl))
  f_is_name_lot := fdOf (c.def_ 2 (d := Hd.d_is_name_lot) rfl) (He.glo_ok X G (c.fact 2 (f := .glo "is_name_lot") rfl))
  f_divisor_of := fdOf (c.def_ 3 (d := Hd.d_divisor_of) rfl) (He.glo_ok X G (c.fact 3 (f := .glo "divisor_of") rfl))
  f_fraction_of := fdOf (c.def_ 4 (d := Hd.d_fraction_of) rfl) (He.glo_ok X G (c.fact 4 (f := .glo "fraction_of") rfl))
  f_is_fraction := fdOf (c.def_ 5 (d := Hd.d_is_fraction) rfl) (He.glo_ok X G (c.fact 5 (f := .glo "is_fraction") rfl))
  f_less := fdOf (c.def_ 6 (d := Hd.d_less) rfl) (He.glo_ok X G (c.fact 6 (f := .glo "less") rfl))
  f_common_divisor := fdOf (c.def_ 7 (d := Hd.d_common_divisor) rfl) (He.glo_ok X G (c.fact 7 (f := .glo "common_divisor") rfl))
  f_is_row := fdOf (c.def_ 8 (d := Hd.d_is_row) rfl) (He.glo_ok X G (c.fact 8 (f := .glo "is_row") rfl))
  f_check_system := fdOf (c.def_ 9 (d := Hd.d_check_system) rfl) (He.glo_ok X G (c.fact 9 (f := .glo "check_system") rfl))
  f_least_form := fdOf (c.def_ 10 (d := Hd.d_least_form) rfl) (He.glo_ok X G (c.fact 10 (f := .glo "least_form") rfl))
  f_unlike := fdOf (c.def_ 11 (d := Hd.d_unlike) rfl) (He.glo_ok X G (c.fact 11 (f := .glo "unlike") rfl))
  f_elimination_sum := fdOf (c.def_ 12 (d := Hd.d_elimination_sum) rfl) (He.glo_ok X G (c.fact 12 (f := .glo "elimination_sum") rfl))
  f_eliminated := fdOf (c.def_ 13 (d := Hd.d_eliminated) rfl) (He.glo_ok X G (c.fact 13 (f := .glo "eliminated") rfl))
  f_clash := fdOf (c.def_ 14 (d := Hd.d_clash) rfl) (He.glo_ok X G (c.fact 14 (f := .glo "clash") rfl))
  f_eliminations := fdOf (c.def_ 15 (d := Hd.d_eliminations) rfl) (He.glo_ok X G (c.fact 15 (f := .glo "eliminations") rfl))
  f_is_range := fdOf (c.def_ 16 (d := Hd.d_is_range) rfl) (He.glo_ok X G (c.fact 16 (f := .glo "is_range") rfl))
  f_is_above := fdOf (c.def_ 17 (d := Hd.d_is_above) rfl) (He.glo_ok X G (c.fact 17 (f := .glo "is_above") rfl))
  f_check_box := fdOf (c.def_ 18 (d := Hd.d_check_box) rfl) (He.glo_ok X G (c.fact 18 (f := .glo "check_box") rfl))
  f_free_box := fdOf (c.def_ 19 (d := Hd.d_free_box) rfl) (He.glo_ok X G (c.fact 19 (f := .glo "free_box") rfl))
  f_first_table := fdOf (c.def_ 20 (d := Hd.d_first_table) rfl) (He.glo_ok X G (c.fact 20 (f := .glo "first_table") rfl))
  f_entering := fdOf (c.def_ 21 (d := Hd.d_entering) rfl) (He.glo_ok X G (c.fact 21 (f := .glo "entering") rfl))
  f_leaving := fdOf (c.def_ 22 (d := Hd.d_leaving) rfl) (He.glo_ok X G (c.fact 22 (f := .glo "leaving") rfl))
  f_pivoted := fdOf (c.def_ 23 (d := Hd.d_pivoted) rfl) (He.glo_ok X G (c.fact 23 (f := .glo "pivoted") rfl))
  f_numbers_of := fdOf (c.def_ 24 (d := Hd.d_numbers_of) rfl) (He.glo_ok X G (c.fact 24 (f := .glo "numbers_of") rfl))
  f_best_mix := fdOf (c.def_ 25 (d := Hd.d_best_mix) rfl) (He.glo_ok X G (c.fact 25 (f := .glo "best_mix") rfl))
  f_rows_of_ends := fdOf (c.def_ 26 (d := Hd.d_rows_of_ends) rfl) (He.glo_ok X G (c.fact 26 (f := .glo "rows_of_ends") rfl))
  f_point_or_numbers := fdOf (c.def_ 27 (d := Hd.d_point_or_numbers) rfl) (He.glo_ok X G (c.fact 27 (f := .glo "point_or_numbers") rfl))
  f_point_or_paper := fdOf (c.def_ 28 (d := Hd.d_point_or_paper) rfl) (He.glo_ok X G (c.fact 28 (f := .glo "point_or_paper") rfl))
  f__law_heap := fdOf (c.def_ 29 (d := Hd.d__law_heap) rfl) (He.glo_ok X G (c.fact 29 (f := .glo "_law_heap") rfl))
  f__law_draw := fdOf (c.def_ 30 (d := Hd.d__law_draw) rfl) (He.glo_ok X G (c.fact 30 (f := .glo "_law_draw") rfl))
  f__law_pick := fdOf (c.def_ 31 (d := Hd.d__law_pick) rfl) (He.glo_ok X G (c.fact 31 (f := .glo "_law_pick") rfl))
  f__law_factor := fdOf (c.def_ 32 (d := Hd.d__law_factor) rfl) (He.glo_ok X G (c.fact 32 (f := .glo "_law_factor") rfl))
  f__law_low := fdOf (c.def_ 33 (d := Hd.d__law_low) rfl) (He.glo_ok X G (c.fact 33 (f := .glo "_law_low") rfl))
  f__law_sum := fdOf (c.def_ 34 (d := Hd.d__law_sum) rfl) (He.glo_ok X G (c.fact 34 (f := .glo "_law_sum") rfl))
  f__law_less := fdOf (c.def_ 35 (d := Hd.d__law_less) rfl) (He.glo_ok X G (c.fact 35 (f := .glo "_law_less") rfl))
  f__law_is_fraction := fdOf (c.def_ 36 (d := Hd.d__law_is_fraction) rfl) (He.glo_ok X G (c.fact 36 (f := .glo "_law_is_fraction") rfl))
  f__law_are_fractions := fdOf (c.def_ 37 (d := Hd.d__law_are_fractions) rfl) (He.glo_ok X G (c.fact 37 (f := .glo "_law_are_fractions") rfl))
  f__law_names := fdOf (c.def_ 38 (d := Hd.d__law_names) rfl) (He.glo_ok X G (c.fact 38 (f := .glo "_law_names") rfl))
  f__law_least := fdOf (c.def_ 39 (d := Hd.d__law_least) rfl) (He.glo_ok X G (c.fact 39 (f := .glo "_law_least") rfl))
  f__law_row := fdOf (c.def_ 40 (d := Hd.d__law_row) rfl) (He.glo_ok X G (c.fact 40 (f := .glo "_law_row") rfl))
  f__law_chain := fdOf (c.def_ 41 (d := Hd.d__law_chain) rfl) (He.glo_ok X G (c.fact 41 (f := .glo "_law_chain") rfl))
  f__law_rows := fdOf (c.def_ 42 (d := Hd.d__law_rows) rfl) (He.glo_ok X G (c.fact 42 (f := .glo "_law_rows") rfl))
  f__law_mixed := fdOf (c.def_ 43 (d := Hd.d__law_mixed) rfl) (He.glo_ok X G (c.fact 43 (f := .glo "_law_mixed") rfl))
  f__law_plain := fdOf (c.def_ 44 (d := Hd.d__law_plain) rfl) (He.glo_ok X G (c.fact 44 (f := .glo "_law_plain") rfl))
  f__law_kept := fdOf (c.def_ 45 (d := Hd.d__law_kept) rfl) (He.glo_ok X G (c.fact 45 (f := .glo "_law_kept") rfl))
  f__law_heard := fdOf (c.def_ 46 (d := Hd.d__law_heard) rfl) (He.glo_ok X G (c.fact 46 (f := .glo "_law_heard") rfl))
  f__law_far := fdOf (c.def_ 47 (d := Hd.d__law_far) rfl) (He.glo_ok X G (c.fact 47 (f := .glo "_law_far") rfl))
  f__law_pair := fdOf (c.def_ 48 (d := Hd.d__law_pair) rfl) (He.glo_ok X G (c.fact 48 (f := .glo "_law_pair") rfl))
  f__law_without := fdOf (c.def_ 49 (d := Hd.d__law_without) rfl) (He.glo_ok X G (c.fact 49 (f := .glo "_law_without") rfl))
  f__law_shared_point := fdOf (c.def_ 50 (d := Hd.d__law_shared_point) rfl) (He.glo_ok X G (c.fact 50 (f := .glo "_law_shared_point") rfl))
  f__law_pair_right := fdOf (c.def_ 51 (d := Hd.d__law_pair_right) rfl) (He.glo_ok X G (c.fact 51 (f := .glo "_law_pair_right") rfl))
  f__law_triples_right := fdOf (c.def_ 52 (d := Hd.d__law_triples_right) rfl) (He.glo_ok X G (c.fact 52 (f := .glo "_law_triples_right") rfl))
  f__law_wide := fdOf (c.def_ 53 (d := Hd.d__law_wide) rfl) (He.glo_ok X G (c.fact 53 (f := .glo "_law_wide") rfl))
  f_law := fdOf (c.def_ 54 (d := Hd.d_law) rfl) (He.glo_ok X G (c.fact 54 (f := .glo "law") rfl))
  b_len := He.free_ok X G (c.fact 66 (f := .free "len") rfl)
  b_abs := He.free_ok X G (c.fact 67 (f := .free "abs") rfl)
  b_int := He.free_ok X G (c.fact 68 (f := .free "int") rfl)
  b_tuple := He.free_ok X G (c.fact 69 (f := .free "tuple") rfl)
  b_list := He.free_ok X G (c.fact 70 (f := .free "list") rfl)
  b_range := He.free_ok X G (c.fact 71 (f := .free "range") rfl)
  b_zip := He.free_ok X G (c.fact 72 (f := .free "zip") rfl)
  b_enumerate := He.free_ok X G (c.fact 73 (f := .free "enumerate") rfl)
  b_isinstance := He.free_ok X G (c.fact 74 (f := .free "isinstance") rfl)
  b_bool := He.free_ok X G (c.fact 75 (f := .free "bool") rfl)
  b_str := He.free_ok X G (c.fact 76 (f := .free "str") rfl)
  b_all := He.free_ok X G (c.fact 77 (f := .free "all") rfl)
  b_any := He.free_ok X G (c.fact 78 (f := .free "any") rfl)
  b_sum := He.free_ok X G (c.fact 79 (f := .free "sum") rfl)
  b_sorted := He.free_ok X G (c.fact 80 (f := .free "sorted") rfl)
  b_repr := He.free_ok X G (c.fact 81 (f := .free "repr") rfl)
  C := He.ga K "System"
  R := He.ga K "Refused"
  g_System := He.glo_ok X G (c.fact 55 (f := .glo "System") rfl)
  g_Refused := He.glo_ok X G (c.fact 56 (f := .glo "Refused") rfl)
  clC := He.cls_ok (c.fact 62 (f := .cls "System") rfl)
  noN := He.noat_ok (c.fact 63 (f := .noat "System" "names") rfl)
  noR := He.noat_ok (c.fact 64 (f := .noat "System" "rows") rfl)
  t1 := Classical.choose (He.str_ok X G (c.fact 57 (f := .str "LETTERS" "abcdefghijklmnopqrstuvwxyz") rfl))
  t2 := Classical.choose (He.int_ok X G (c.fact 58 (f := .int "LONGEST_NAME" 5) rfl))
  t3 := Classical.choose (He.int_ok X G (c.fact 59 (f := .int "MOST_NAMES" 6) rfl))
  t4 := Classical.choose (He.int_ok X G (c.fact 60 (f := .int "MOST_ROWS" 60) rfl))
  t5 := Classical.choose (He.int_ok X G (c.fact 61 (f := .int "MOST_ELIMINATIONS" 3000) rfl))
  k_LETTERS := Classical.choose_spec (He.str_ok X G (c.fact 57 (f := .str "LETTERS" "abcdefghijklmnopqrstuvwxyz") rfl))
  k_LONGEST_NAME := Classical.choose_spec (He.int_ok X G (c.fact 58 (f := .int "LONGEST_NAME" 5) rfl))
  k_MOST_NAMES := Classical.choose_spec (He.int_ok X G (c.fact 59 (f := .int "MOST_NAMES" 6) rfl))
  k_MOST_ROWS := Classical.choose_spec (He.int_ok X G (c.fact 60 (f := .int "MOST_ROWS" 60) rfl))
  k_MOST_ELIMINATIONS := Classical.choose_spec (He.int_ok X G (c.fact 61 (f := .int "MOST_ELIMINATIONS" 3000) rfl))
  a_init := He.ma K (He.ga K "System") "__init__"
  fd_init := Classical.choose (c.def_ 55 (d := Hd.d_System_init) rfl)
  F_init := Classical.choose_spec (c.def_ 55 (d := Hd.d_System_init) rfl)
  M := He.mkr_ok (c.fact 65 (f := .mkr "System") rfl)
end
theorem oex_of {K : PySem.W.Frag} {C : Addr} (h : oexB K C = true) (h2 : PySem.W.findIn K (.ref C) "__setattr__" = some (some (.builtin "object.__setattr__"))) (h3 : PySem.W.subIn K (.ref C) (.type "BaseException") = some true) (h4 : PySem.W.typeIn K (.ref C) = some (.type "type")) (h5 : PySem.W.keepIn K (.ref C) = true) : OexC K C := by
  refine ⟨?_, h2, h3, h4, h5⟩
  unfold oexB at h
  split at h
  · rename_i cn dd cd sl ho
    obtain ⟨h0, h⟩ := He.ba h
    split at h
    · rename_i C' bm k0 k1 k2 k3 n k5 hm hs
      simp only [Bool.and_eq_true, decide_eq_true_eq, Bool.not_eq_true'] at h
      obtain ⟨e1, e2, e3, e4, e5⟩ := h
      obtain ⟨nm, bs, mro, ns, qn, hd, sn, sub, ab, col, del⟩ := cd
      dsimp only at hm e3 e4
      have e0 := of_decide_eq_true h0
      subst hm e1 e2 e3 e4 e0
      have hsl : sl = #[k0, k1, k2, k3, some (.builtin "ValueError.__new__"), k5] := by
        obtain ⟨l⟩ := sl
        simp only at hs
        rw [hs]
      subst hsl
      exact ⟨nm, qn, ns, bs, bm, sn, sub, ab, col, dd, k0, k1, k2, k3, k5, ho, e5⟩
    · cases h
  · cases h
theorem refF_of {K : PySem.W.Frag} {mg : Str → Option Value} {h : Heap} {w : World} (X : K.In h) (G : h.Ns mainGlobals mg) (c : SaysS w h K) : Nonempty (RefF RR.prog K mg (He.ga K "Refused")) := by
  have e := c.ex
  unfold exL at e
  simp only [List.replicate, List.cons.injEq, decide_eq_true_eq, and_true] at e
  obtain ⟨x0, x1, x2, x3, x4, x5, x6, x7, x8, x9, x10, x11, x12, x13, x14, x15, x16⟩ := e
  have O := oex_of x0 x1 x2 x3 x4
  have s := c.sup
  unfold supObs supVal at s
  unfold supB at x5
  cases q : K.lookup (He.ma K (He.ga K "Refused") "__init__") with
  | none => rw [q] at x5; cases x5
  | some o =>
    obtain ⟨oc, od, dt, osl⟩ := o
    rw [q] at x5 s
    cases dt with
    | func fd =>
      obtain ⟨n1, n2, n3, n4, n5, n6, n7, n8, n9, n10, n11, n12, n13, n14, n15⟩ := fd
      simp only [Option.some.injEq, Prod.mk.injEq] at s
      obtain ⟨h1, h2, h3, h4, h5, h6, h7, h8⟩ := s
      simp only at x5
      split at x5
      · rename_i y cda
        obtain ⟨z1, z2⟩ := He.ba x5
        obtain ⟨z3, z4⟩ := He.ba z2
        obtain ⟨y1, y2⟩ := y
        simp only [List.map_cons, List.map_nil, List.cons.injEq, and_true] at h7
        subst h1 h2 h3 h4 h5 h6 h7 h8
        refine ⟨⟨_, _, y2, cda, O, ⟨oc, od, n10, n11, n12, n14, osl, rfl, q⟩, z1, ?_, ?_, x6, x7, x8, x9, He.free_ok X G x10, by kernel_rfl, x11, x12, x13⟩⟩
        · cases qc : K.lookup cda with
          | none => rw [qc] at z3; cases z3
          | some o2 =>
            obtain ⟨ccl, cdd, dt2, ccs⟩ := o2
            rw [qc] at z3
            cases dt2 with
            | fields vs =>
              simp only at z3
              split at z3
              · rename_i file tf hv
                exact ⟨ccl, cdd, vs, ccs, file, tf, rfl, hv, z3⟩
              · cases z3
            | _ => cases z3
        · cases qc : K.lookup y2 with
          | none => rw [qc] at z4; cases z4
          | some o2 =>
            obtain ⟨cl, cld, dt2, csl⟩ := o2
            rw [qc] at z4
            split at z4
            · rename_i a1 a2 R' a3 hv
              injection hv with hv
              injection hv with v1 v2 v3 v4
              have eR := of_decide_eq_true z4
              subst v1 v2 v3 v4 eR
              exact ⟨_, _, _, rfl⟩
            · cases z4
      · cases x5
    | _ => cases x5
noncomputable section
variable {K : PySem.W.Frag} {mg : Str → Option Value} {h : Heap} {w : World}
def fxeOf (X : K.In h) (G : h.Ns mainGlobals mg) (c : SaysS w h K) : FxE RR.prog K mg := { fxOf X G c.t.d with X := Classical.choice (refF_of X G c) }
theorem codeAt_of {x : Str} : CodeAt K (He.ga K x) (He.cT K (x, none)).1 := fun o fd c' e1 e2 e3 => by
  obtain ⟨oc, od, dt, osl⟩ := o
  simp only at e2
  subst e2
  exact (He.codeOf_eq (K := K) (p := (x, none)) e1 e3).symm
def fxlOf (X : K.In h) (G : h.Ns mainGlobals mg) (c : SaysS w h K) : FxL RR.prog K mg (fxeOf X G c) where
  xf := by
    have e := c.ex
    unfold exL at e
    simp only [List.replicate, List.cons.injEq, decide_eq_true_eq, and_true] at e
    obtain ⟨x0, x1, x2, x3, x4, x5, x6, x7, x8, x9, x10, x11, x12, x13, x14, x15, x16⟩ := e
    exact xfB_ok x14
  te := by
    have e := c.ex
    unfold exL at e
    simp only [List.replicate, List.cons.injEq, decide_eq_true_eq, and_true] at e
    obtain ⟨x0, x1, x2, x3, x4, x5, x6, x7, x8, x9, x10, x11, x12, x13, x14, x15, x16⟩ := e
    exact x15
  pc := (He.cT K ("_law_pair_right", none)).1
  pP := (He.cT K ("_law_pair_right", none)).2
  lc := (He.cT K ("law", none)).1
  lP := (He.cT K ("law", none)).2
  ne := by
    have e := c.ex
    unfold exL at e
    simp only [List.replicate, List.cons.injEq, decide_eq_true_eq, and_true] at e
    obtain ⟨x0, x1, x2, x3, x4, x5, x6, x7, x8, x9, x10, x11, x12, x13, x14, x15, x16⟩ := e
    exact fun z => x16 z.symm
  pA := codeAt_of
  lA := codeAt_of
end
end DL
/-! the law's end -/
namespace DL
open PySem PySem.Spec PyProof.Rows L2 Hd
theorem law_walk {q : Program} {loose : List Str} {XP : (Str → Option Value) → Heap → Prop} {d : DefRec} (hd : d.name = ("law" : Str)) (hdf : d.params.defaults = []) :
    PySem.W.WalkO q loose XP hkS.says (PySem.W.OpenLaw.row PySem.Challenge.rw_rowalone_k16_whole_rows_without_an_unkno).toRowW d [] (fun f vs => PySem.call f vs) := by
  refine Att.attach_callB (l := PySem.Challenge.rw_rowalone_k16_whole_rows_without_an_unkno) (n := 63) rfl hdf fun w s₀ s₁ mg mb fa o pm cd doc a vs ns G Y ho hdd hcd hmg hobj hints hlen hbits hg => ?_
  obtain ⟨K, KX, c⟩ := Y
  rw [hd] at hmg
  let T := fxeOf KX G.T.g c
  let L : FxL RR.prog K mg T := fxlOf KX G.T.g c
  have efa : fa = T.f_law.f := by
    have e := hmg.symm.trans T.f_law.g
    exact Value.ref.inj (Option.some.inj e)
  have b := FunD.bindsA (ps := ["_law_script"]) T.f_law.F fun _ _ _ _ _ _ us hl => match us, hl with | [_], _ => rfl
  have hcs : ∀ p ∈ ([(L.lc, L.lP), (L.pc, L.pP)] : List (Addr × Addr)), ∃ x ∈ tf, p = He.cT K x := fun p hp => by
    rcases List.mem_cons.mp hp with e | hp
    · exact ⟨("law", none), by decide, e⟩
    · rw [List.mem_singleton.mp hp]
      exact ⟨("_law_pair_right", none), by decide, rfl⟩
  rw [efa]
  refine law_callG (P := RR.prog) (cs := [(L.lc, L.lP), (L.pc, L.pP)]) (k := 10) (x := "_law_script") KX G.T.g G.T.b G.T.builtins G.T.nolimit hg (fun p hp => ?_) (fun p hp => ?_) (fun p hp => ?_) G.T.bmain hobj hints (Nat.le_trans hlen (by decide)) ⟨rfl, by decide, by decide⟩ (fun base hb _ hT => ok_law T L (hT (L.lc, L.lP) (by simp)) (hT (L.pc, L.pP) (by simp))) (fun s u => b s [u] rfl) fun H hH hS => ?_
  · obtain ⟨x, hx, e⟩ := hcs p hp
    rw [e]; exact c.empty x hx
  · obtain ⟨x, hx, e⟩ := hcs p hp
    rw [e]; exact c.out x hx
  · obtain ⟨x, hx, e⟩ := hcs p hp
    rw [e]; exact PySem.W.codeHd_of_K KX (c.hd x hx)
  · exact ⟨a, ns, rfl, hS, LamX.TabS.nil (hH (L.lc, L.lP) (by simp)), LamX.TabS.nil (hH (L.pc, L.pP) (by simp)), fun v H' e => e⟩
end DL
set_option maxHeartbeats 0
open PySem PySem.W PySem.Calls PyProof.Rows
theorem PySem.Challenge.cw_rowalone_k16_whole_rows_without_an_unkno_holds : PySem.Challenge.rw_rowalone_k16_whole_rows_without_an_unkno.Holds := by
  w_on; o_law
  refine HandSHeadRun.head_any (r := OpenLaw.row PySem.Challenge.rw_rowalone_k16_whole_rows_without_an_unkno) (q := view (OpenLaw.row PySem.Challenge.rw_rowalone_k16_whole_rows_without_an_unkno).prog [74]) (H := Hd.hkS) (ob := Hd.obX) (M := 6000) (loose := Hd.loose) (d := HandSHeadRun.topDef (OpenLaw.row PySem.Challenge.rw_rowalone_k16_whole_rows_without_an_unkno).prog 74) (kwd := []) Hd.obX_eq
    (by kernel_rfl) (fun s => by kernel_rfl) Hd.run (by kernel_rfl) (by kernel_rfl) (by kernel_rfl) (by rfl) (by first | assumption | decide +kernel) (by decide +kernel) ⟨rfl, rfl, rfl, rfl, rfl, by decide +kernel⟩ ?hw ?hc
  case hw => w_witness2
  case hc => exact DL.law_walk (by kernel_rfl) (by kernel_rfl)
