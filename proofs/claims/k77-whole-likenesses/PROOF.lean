import PyProof.Rows.All
import Wide.All
import OpenK.AllK
import Wide.FinOn
import HandS.ForMost
import HandS.Defaults
import HandS.Exc
import HandS.More
import KE.KStateDown
import HandS.Head0
import HandS.Head1
import HandS.Head2
import HandS.HeadEnd
import HandS.HeadHook1
import HandS.HeadHook2
import HandS.HeadHook3
import HandS.HeadHook4
import HandS.IsInst
import HandS.NoneIn
import HandS.Conv
import HandS.TupLen
import HandS.DictComp
import HandS.DictTup
import HandS.ListItems
import HandS.TupSets
import HandS.SortInts
import HandS.Deep
import HandS.Style
import HandS.Strs
import KE.KTupSum
import KE.SortData
import HandS.Walk
import KE.DatumOrd
import KE.DatumMoreOrd
import KE.SortUse
import PySem.Challenge.RW_paironce_k77_whole_likenesses
set_option Elab.async false
set_option linter.all false
set_option maxRecDepth 100000
section
namespace PK
open PySem L2
def top (i : Nat) : Stmt := PySem.Challenge.pw_paironce_k77_whole_likenesses.main.body.getD i (.Pass ⟨0, 0, 0, 0⟩)
abbrev s_is_row : Stmt := top 13
abbrev s_is_integer : Stmt := top 14
abbrev s_require : Stmt := top 15
abbrev s_checked_threes : Stmt := top 16
abbrev s_checked_leaf : Stmt := top 17
abbrev s_checked_part : Stmt := top 18
abbrev s_checked : Stmt := top 19
abbrev s_size_of : Stmt := top 20
abbrev s_power_of : Stmt := top 21
abbrev s_third_of : Stmt := top 24
abbrev s_both : Stmt := top 25
abbrev s_point_at : Stmt := top 26
abbrev s_in_order : Stmt := top 27
abbrev s_third_in_bose : Stmt := top 28
abbrev s_half_of : Stmt := top 29
abbrev s_twice_of : Stmt := top 30
abbrev s_third_in_skolem : Stmt := top 31
abbrev s_figures_apart : Stmt := top 32
abbrev s_third_in_double : Stmt := top 33
abbrev s_third_in_product : Stmt := top 34
abbrev s_table_of : Stmt := top 37
abbrev s_is_likeness : Stmt := top 38
abbrev s_closure_in : Stmt := top 39
abbrev s_base_in : Stmt := top 40
abbrev s_searched : Stmt := top 42
abbrev s_likeness : Stmt := top 43
abbrev s_are_alike : Stmt := top 44
abbrev s_fours_at : Stmt := top 46
abbrev s_fours : Stmt := top 47
abbrev s_rounds_in : Stmt := top 48
abbrev s_rounds : Stmt := top 49
abbrev s_all_rounds : Stmt := top 50
abbrev s_counts_of : Stmt := top 51
abbrev s_shows_unlike : Stmt := top 52
abbrev s_law_row : Stmt := top 54
abbrev s_law_numbers : Stmt := top 55
abbrev s_law_count : Stmt := top 56
abbrev s_law_threes : Stmt := top 57
abbrev s_law_built : Stmt := top 58
abbrev s_law_third : Stmt := top 59
abbrev s_law_table : Stmt := top 60
abbrev s_law_system : Stmt := top 61
abbrev s_law_mixed : Stmt := top 62
abbrev s_law_thirteen : Stmt := top 63
abbrev s_law : Stmt := top 64
abbrev s_Search_init : Stmt := inClass (top 41) 0
abbrev s_Search_with_image : Stmt := inClass (top 41) 1
abbrev s_Search_go : Stmt := inClass (top 41) 2
/-- a def of the top as it stands -/
abbrev FnP (K : PySem.W.Frag) (x : Str) (st : Stmt) (f : Addr) (fd : FuncData) : Prop := FunD K x x (defArgs st) (defBody st) (defScope st) [] [] f fd
abbrev FnM (K : PySem.W.Frag) (x q : Str) (st : Stmt) (f : Addr) (fd : FuncData) : Prop := FunD K x q (defArgs st) (defBody st) (defScope st) [] [] f fd
/-- what the top leaves behind -/
structure Txt (w : World) (K : PySem.W.Frag) (mg : Str → Option Value) : Prop where
  n_abs : mg "abs" = none
  n_all : mg "all" = none
  n_bool : mg "bool" = none
  n_dict : mg "dict" = none
  n_enumerate : mg "enumerate" = none
  n_int : mg "int" = none
  n_isinstance : mg "isinstance" = none
  n_len : mg "len" = none
  n_list : mg "list" = none
  n_max : mg "max" = none
  n_min : mg "min" = none
  n_range : mg "range" = none
  n_sorted : mg "sorted" = none
  n_str : mg "str" = none
  n_sum : mg "sum" = none
  n_tuple : mg "tuple" = none
  i_MOST_POINTS : ∃ t, mg "MOST_POINTS" = some (.int 1000000000000000000000000000000 t)
  i_MOST_PARTS : ∃ t, mg "MOST_PARTS" = some (.int 12 t)
  i_MOST_LISTED : ∃ t, mg "MOST_LISTED" = some (.int 60 t)
  i_MOST_AFFINE : ∃ t, mg "MOST_AFFINE" = some (.int 60 t)
  i_MOST_BINARY : ∃ t, mg "MOST_BINARY" = some (.int 99 t)
  i_LEVELS : ∃ t, mg "LEVELS" = some (.int 3 t)
  i_MOST_SMALL : ∃ t, mg "MOST_SMALL" = some (.int 60 t)
  arms : ∃ a es n, mg "ARMS" = some (.ref a) ∧ KDict K w a es n ∧ (∃ t, PySem.W.nsIn K a "bose" = some (some (.int 0 t))) ∧ (∃ t, PySem.W.nsIn K a "skolem" = some (some (.int 0 t))) ∧ (∃ t, PySem.W.nsIn K a "affine" = some (some (.int 0 t))) ∧ (∃ t, PySem.W.nsIn K a "binary" = some (some (.int 0 t))) ∧ (∃ t, PySem.W.nsIn K a "listed" = some (some (.int 0 t))) ∧ (∃ t, PySem.W.nsIn K a "double" = some (some (.int 1 t))) ∧ (∃ t, PySem.W.nsIn K a "product" = some (some (.int 2 t)))
  d_is_row : ∃ f fd, mg "is_row" = some (.ref f) ∧ FnP K "is_row" s_is_row f fd
  d_is_integer : ∃ f fd, mg "is_integer" = some (.ref f) ∧ FnP K "is_integer" s_is_integer f fd
  d_require : ∃ f fd, mg "require" = some (.ref f) ∧ FnP K "require" s_require f fd
  d_checked_threes : ∃ f fd, mg "checked_threes" = some (.ref f) ∧ FnP K "checked_threes" s_checked_threes f fd
  d_checked_leaf : ∃ f fd, mg "checked_leaf" = some (.ref f) ∧ FnP K "checked_leaf" s_checked_leaf f fd
  d_checked_part : ∃ f fd, mg "checked_part" = some (.ref f) ∧ FunD K "checked_part" "checked_part" (defArgs s_checked_part) (defBody s_checked_part) (defScope s_checked_part) [.int 1] [] f fd
  d_checked : ∃ f fd, mg "checked" = some (.ref f) ∧ FnP K "checked" s_checked f fd
  d_size_of : ∃ f fd, mg "size_of" = some (.ref f) ∧ FnP K "size_of" s_size_of f fd
  d_power_of : ∃ f fd, mg "power_of" = some (.ref f) ∧ FnP K "power_of" s_power_of f fd
  d_third_of : ∃ f fd, mg "third_of" = some (.ref f) ∧ FnP K "third_of" s_third_of f fd
  d_both : ∃ f fd, mg "both" = some (.ref f) ∧ FnP K "both" s_both f fd
  d_point_at : ∃ f fd, mg "point_at" = some (.ref f) ∧ FnP K "point_at" s_point_at f fd
  d_in_order : ∃ f fd, mg "in_order" = some (.ref f) ∧ FnP K "in_order" s_in_order f fd
  d_third_in_bose : ∃ f fd, mg "third_in_bose" = some (.ref f) ∧ FnP K "third_in_bose" s_third_in_bose f fd
  d_half_of : ∃ f fd, mg "half_of" = some (.ref f) ∧ FnP K "half_of" s_half_of f fd
  d_twice_of : ∃ f fd, mg "twice_of" = some (.ref f) ∧ FnP K "twice_of" s_twice_of f fd
  d_third_in_skolem : ∃ f fd, mg "third_in_skolem" = some (.ref f) ∧ FnP K "third_in_skolem" s_third_in_skolem f fd
  d_figures_apart : ∃ f fd, mg "figures_apart" = some (.ref f) ∧ FnP K "figures_apart" s_figures_apart f fd
  d_third_in_double : ∃ f fd, mg "third_in_double" = some (.ref f) ∧ FnP K "third_in_double" s_third_in_double f fd
  d_third_in_product : ∃ f fd, mg "third_in_product" = some (.ref f) ∧ FnP K "third_in_product" s_third_in_product f fd
  d_table_of : ∃ f fd, mg "table_of" = some (.ref f) ∧ FnP K "table_of" s_table_of f fd
  d_is_likeness : ∃ f fd, mg "is_likeness" = some (.ref f) ∧ FnP K "is_likeness" s_is_likeness f fd
  d_closure_in : ∃ f fd, mg "closure_in" = some (.ref f) ∧ FnP K "closure_in" s_closure_in f fd
  d_base_in : ∃ f fd, mg "base_in" = some (.ref f) ∧ FnP K "base_in" s_base_in f fd
  d_searched : ∃ f fd, mg "searched" = some (.ref f) ∧ FnP K "searched" s_searched f fd
  d_likeness : ∃ f fd, mg "likeness" = some (.ref f) ∧ FnP K "likeness" s_likeness f fd
  d_are_alike : ∃ f fd, mg "are_alike" = some (.ref f) ∧ FnP K "are_alike" s_are_alike f fd
  d_fours_at : ∃ f fd, mg "fours_at" = some (.ref f) ∧ FnP K "fours_at" s_fours_at f fd
  d_fours : ∃ f fd, mg "fours" = some (.ref f) ∧ FnP K "fours" s_fours f fd
  d_rounds_in : ∃ f fd, mg "rounds_in" = some (.ref f) ∧ FnP K "rounds_in" s_rounds_in f fd
  d_rounds : ∃ f fd, mg "rounds" = some (.ref f) ∧ FnP K "rounds" s_rounds f fd
  d_all_rounds : ∃ f fd, mg "all_rounds" = some (.ref f) ∧ FnP K "all_rounds" s_all_rounds f fd
  d_counts_of : ∃ f fd, mg "counts_of" = some (.ref f) ∧ FnP K "counts_of" s_counts_of f fd
  d_shows_unlike : ∃ f fd, mg "shows_unlike" = some (.ref f) ∧ FnP K "shows_unlike" s_shows_unlike f fd
  d_law_row : ∃ f fd, mg "_law_row" = some (.ref f) ∧ FnP K "_law_row" s_law_row f fd
  d_law_numbers : ∃ f fd, mg "_law_numbers" = some (.ref f) ∧ FnP K "_law_numbers" s_law_numbers f fd
  d_law_count : ∃ f fd, mg "_law_count" = some (.ref f) ∧ FnP K "_law_count" s_law_count f fd
  d_law_threes : ∃ f fd, mg "_law_threes" = some (.ref f) ∧ FnP K "_law_threes" s_law_threes f fd
  d_law_built : ∃ f fd, mg "_law_built" = some (.ref f) ∧ FnP K "_law_built" s_law_built f fd
  d_law_third : ∃ f fd, mg "_law_third" = some (.ref f) ∧ FnP K "_law_third" s_law_third f fd
  d_law_table : ∃ f fd, mg "_law_table" = some (.ref f) ∧ FnP K "_law_table" s_law_table f fd
  d_law_system : ∃ f fd, mg "_law_system" = some (.ref f) ∧ FnP K "_law_system" s_law_system f fd
  d_law_mixed : ∃ f fd, mg "_law_mixed" = some (.ref f) ∧ FnP K "_law_mixed" s_law_mixed f fd
  d_law_thirteen : ∃ f fd, mg "_law_thirteen" = some (.ref f) ∧ FnP K "_law_thirteen" s_law_thirteen f fd
  d_law : ∃ f fd, mg "law" = some (.ref f) ∧ FnP K "law" s_law f fd
  search : ∃ C f1 f2 f3 fd1 fd2 fd3, mg "Search" = some (.ref C) ∧ Cls K C ∧ (NoAttr K C "table" ∧ NoAttr K C "far" ∧ NoAttr K C "limit" ∧ NoAttr K C "base" ∧ NoAttr K C "found") ∧ Mk K C f1 ∧ Meth K C "with_image" f2 ∧ Meth K C "go" f3 ∧ FnM K "__init__" "Search.__init__" s_Search_init f1 fd1 ∧ FnM K "with_image" "Search.with_image" s_Search_with_image f2 fd2 ∧ FnM K "go" "Search.go" s_Search_go f3 fd3
end PK
end

section
set_option maxHeartbeats 0
namespace PK
open PySem PySem.Spec PyProof.Rows L2
def h_is_row : He.DefD := ⟨("is_row", none), "is_row", "is_row", defArgs s_is_row, defBody s_is_row, defScope s_is_row, [], []⟩
def h_is_integer : He.DefD := ⟨("is_integer", none), "is_integer", "is_integer", defArgs s_is_integer, defBody s_is_integer, defScope s_is_integer, [], []⟩
def h_require : He.DefD := ⟨("require", none), "require", "require", defArgs s_require, defBody s_require, defScope s_require, [], []⟩
def h_checked_threes : He.DefD := ⟨("checked_threes", none), "checked_threes", "checked_threes", defArgs s_checked_threes, defBody s_checked_threes, defScope s_checked_threes, [], []⟩
def h_checked_leaf : He.DefD := ⟨("checked_leaf", none), "checked_leaf", "checked_leaf", defArgs s_checked_leaf, defBody s_checked_leaf, defScope s_checked_leaf, [], []⟩
def h_checked_part : He.DefD := ⟨("checked_part", none), "checked_part", "checked_part", defArgs s_checked_part, defBody s_checked_part, defScope s_checked_part, [.int 1], []⟩
def h_checked : He.DefD := ⟨("checked", none), "checked", "checked", defArgs s_checked, defBody s_checked, defScope s_checked, [], []⟩
def h_size_of : He.DefD := ⟨("size_of", none), "size_of", "size_of", defArgs s_size_of, defBody s_size_of, defScope s_size_of, [], []⟩
def h_power_of : He.DefD := ⟨("power_of", none), "power_of", "power_of", defArgs s_power_of, defBody s_power_of, defScope s_power_of, [], []⟩
def h_third_of : He.DefD := ⟨("third_of", none), "third_of", "third_of", defArgs s_third_of, defBody s_third_of, defScope s_third_of, [], []⟩
def h_both : He.DefD := ⟨("both", none), "both", "both", defArgs s_both, defBody s_both, defScope s_both, [], []⟩
def h_point_at : He.DefD := ⟨("point_at", none), "point_at", "point_at", defArgs s_point_at, defBody s_point_at, defScope s_point_at, [], []⟩
def h_in_order : He.DefD := ⟨("in_order", none), "in_order", "in_order", defArgs s_in_order, defBody s_in_order, defScope s_in_order, [], []⟩
def h_third_in_bose : He.DefD := ⟨("third_in_bose", none), "third_in_bose", "third_in_bose", defArgs s_third_in_bose, defBody s_third_in_bose, defScope s_third_in_bose, [], []⟩
def h_half_of : He.DefD := ⟨("half_of", none), "half_of", "half_of", defArgs s_half_of, defBody s_half_of, defScope s_half_of, [], []⟩
def h_twice_of : He.DefD := ⟨("twice_of", none), "twice_of", "twice_of", defArgs s_twice_of, defBody s_twice_of, defScope s_twice_of, [], []⟩
def h_third_in_skolem : He.DefD := ⟨("third_in_skolem", none), "third_in_skolem", "third_in_skolem", defArgs s_third_in_skolem, defBody s_third_in_skolem, defScope s_third_in_skolem, [], []⟩
def h_figures_apart : He.DefD := ⟨("figures_apart", none), "figures_apart", "figures_apart", defArgs s_figures_apart, defBody s_figures_apart, defScope s_figures_apart, [], []⟩
def h_third_in_double : He.DefD := ⟨("third_in_double", none), "third_in_double", "third_in_double", defArgs s_third_in_double, defBody s_third_in_double, defScope s_third_in_double, [], []⟩
def h_third_in_product : He.DefD := ⟨("third_in_product", none), "third_in_product", "third_in_product", defArgs s_third_in_product, defBody s_third_in_product, defScope s_third_in_product, [], []⟩
def h_table_of : He.DefD := ⟨("table_of", none), "table_of", "table_of", defArgs s_table_of, defBody s_table_of, defScope s_table_of, [], []⟩
def h_is_likeness : He.DefD := ⟨("is_likeness", none), "is_likeness", "is_likeness", defArgs s_is_likeness, defBody s_is_likeness, defScope s_is_likeness, [], []⟩
def h_closure_in : He.DefD := ⟨("closure_in", none), "closure_in", "closure_in", defArgs s_closure_in, defBody s_closure_in, defScope s_closure_in, [], []⟩
def h_base_in : He.DefD := ⟨("base_in", none), "base_in", "base_in", defArgs s_base_in, defBody s_base_in, defScope s_base_in, [], []⟩
def h_searched : He.DefD := ⟨("searched", none), "searched", "searched", defArgs s_searched, defBody s_searched, defScope s_searched, [], []⟩
def h_likeness : He.DefD := ⟨("likeness", none), "likeness", "likeness", defArgs s_likeness, defBody s_likeness, defScope s_likeness, [], []⟩
def h_are_alike : He.DefD := ⟨("are_alike", none), "are_alike", "are_alike", defArgs s_are_alike, defBody s_are_alike, defScope s_are_alike, [], []⟩
def h_fours_at : He.DefD := ⟨("fours_at", none), "fours_at", "fours_at", defArgs s_fours_at, defBody s_fours_at, defScope s_fours_at, [], []⟩
def h_fours : He.DefD := ⟨("fours", none), "fours", "fours", defArgs s_fours, defBody s_fours, defScope s_fours, [], []⟩
def h_rounds_in : He.DefD := ⟨("rounds_in", none), "rounds_in", "rounds_in", defArgs s_rounds_in, defBody s_rounds_in, defScope s_rounds_in, [], []⟩
def h_rounds : He.DefD := ⟨("rounds", none), "rounds", "rounds", defArgs s_rounds, defBody s_rounds, defScope s_rounds, [], []⟩
def h_all_rounds : He.DefD := ⟨("all_rounds", none), "all_rounds", "all_rounds", defArgs s_all_rounds, defBody s_all_rounds, defScope s_all_rounds, [], []⟩
def h_counts_of : He.DefD := ⟨("counts_of", none), "counts_of", "counts_of", defArgs s_counts_of, defBody s_counts_of, defScope s_counts_of, [], []⟩
def h_shows_unlike : He.DefD := ⟨("shows_unlike", none), "shows_unlike", "shows_unlike", defArgs s_shows_unlike, defBody s_shows_unlike, defScope s_shows_unlike, [], []⟩
def h_law_row : He.DefD := ⟨("_law_row", none), "_law_row", "_law_row", defArgs s_law_row, defBody s_law_row, defScope s_law_row, [], []⟩
def h_law_numbers : He.DefD := ⟨("_law_numbers", none), "_law_numbers", "_law_numbers", defArgs s_law_numbers, defBody s_law_numbers, defScope s_law_numbers, [], []⟩
def h_law_count : He.DefD := ⟨("_law_count", none), "_law_count", "_law_count", defArgs s_law_count, defBody s_law_count, defScope s_law_count, [], []⟩
def h_law_threes : He.DefD := ⟨("_law_threes", none), "_law_threes", "_law_threes", defArgs s_law_threes, defBody s_law_threes, defScope s_law_threes, [], []⟩
def h_law_built : He.DefD := ⟨("_law_built", none), "_law_built", "_law_built", defArgs s_law_built, defBody s_law_built, defScope s_law_built, [], []⟩
def h_law_third : He.DefD := ⟨("_law_third", none), "_law_third", "_law_third", defArgs s_law_third, defBody s_law_third, defScope s_law_third, [], []⟩
def h_law_table : He.DefD := ⟨("_law_table", none), "_law_table", "_law_table", defArgs s_law_table, defBody s_law_table, defScope s_law_table, [], []⟩
def h_law_system : He.DefD := ⟨("_law_system", none), "_law_system", "_law_system", defArgs s_law_system, defBody s_law_system, defScope s_law_system, [], []⟩
def h_law_mixed : He.DefD := ⟨("_law_mixed", none), "_law_mixed", "_law_mixed", defArgs s_law_mixed, defBody s_law_mixed, defScope s_law_mixed, [], []⟩
def h_law_thirteen : He.DefD := ⟨("_law_thirteen", none), "_law_thirteen", "_law_thirteen", defArgs s_law_thirteen, defBody s_law_thirteen, defScope s_law_thirteen, [], []⟩
def h_law : He.DefD := ⟨("law", none), "law", "law", defArgs s_law, defBody s_law, defScope s_law, [], []⟩
def h_Search_init : He.DefD := ⟨("Search", some "__init__"), "__init__", "Search.__init__", defArgs s_Search_init, defBody s_Search_init, defScope s_Search_init, [], []⟩
def h_Search_with_image : He.DefD := ⟨("Search", some "with_image"), "with_image", "Search.with_image", defArgs s_Search_with_image, defBody s_Search_with_image, defScope s_Search_with_image, [], []⟩
def h_Search_go : He.DefD := ⟨("Search", some "go"), "go", "Search.go", defArgs s_Search_go, defBody s_Search_go, defScope s_Search_go, [], []⟩
def fnL : List He.DefD := [h_is_row, h_is_integer, h_require, h_checked_threes, h_checked_leaf, h_checked_part, h_checked, h_size_of, h_power_of, h_third_of, h_both, h_point_at, h_in_order, h_third_in_bose, h_half_of, h_twice_of, h_third_in_skolem, h_figures_apart, h_third_in_double, h_third_in_product, h_table_of, h_is_likeness, h_closure_in, h_base_in, h_searched, h_likeness, h_are_alike, h_fours_at, h_fours, h_rounds_in, h_rounds, h_all_rounds, h_counts_of, h_shows_unlike, h_law_row, h_law_numbers, h_law_count, h_law_threes, h_law_built, h_law_third, h_law_table, h_law_system, h_law_mixed, h_law_thirteen, h_law, h_Search_init, h_Search_with_image, h_Search_go]
def faL : List He.Fa := [.glo "is_row", .glo "is_integer", .glo "require", .glo "checked_threes", .glo "checked_leaf", .glo "checked_part", .glo "checked", .glo "size_of", .glo "power_of", .glo "third_of", .glo "both", .glo "point_at", .glo "in_order", .glo "third_in_bose", .glo "half_of", .glo "twice_of", .glo "third_in_skolem", .glo "figures_apart", .glo "third_in_double", .glo "third_in_product", .glo "table_of", .glo "is_likeness", .glo "closure_in", .glo "base_in", .glo "searched", .glo "likeness", .glo "are_alike", .glo "fours_at", .glo "fours", .glo "rounds_in", .glo "rounds", .glo "all_rounds", .glo "counts_of", .glo "shows_unlike", .glo "_law_row", .glo "_law_numbers", .glo "_law_count", .glo "_law_threes", .glo "_law_built", .glo "_law_third", .glo "_law_table", .glo "_law_system", .glo "_law_mixed", .glo "_law_thirteen", .glo "law", .glo "ARMS", .glo "Search", .free "abs", .free "all", .free "bool", .free "dict", .free "enumerate", .free "int", .free "isinstance", .free "len", .free "list", .free "max", .free "min", .free "range", .free "sorted", .free "str", .free "sum", .free "tuple", .int "MOST_POINTS" 1000000000000000000000000000000, .int "MOST_PARTS" 12, .int "MOST_LISTED" 60, .int "MOST_AFFINE" 60, .int "MOST_BINARY" 99, .int "LEVELS" 3, .int "MOST_SMALL" 60, .cls "Search", .noat "Search" "table", .noat "Search" "far", .noat "Search" "limit", .noat "Search" "base", .noat "Search" "found", .meth "Search" "with_image", .meth "Search" "go", .mkr "Search"]
def tsL : List He.Tab := [(fun K => He.ga K "ARMS", ["bose", "skolem", "affine", "binary", "listed", "double", "product"])]
def armL : List (Str × He.Dv) := [("bose", .int 0), ("skolem", .int 0), ("affine", .int 0), ("binary", .int 0), ("listed", .int 0), ("double", .int 1), ("product", .int 2)]
def exL (K : PySem.W.Frag) : Bool := He.valsB K (He.ga K "ARMS") armL
abbrev R : PySem.W.OpenRow := PySem.W.OpenLaw.row PySem.Challenge.rw_paironce_k77_whole_likenesses
abbrev hk : PySem.W.Hook := He.hookX 5 faL fnL tsL [] exL
def ob (s : PySem.W.SharedT) : He.AlX := He.obsX 5 faL fnL tsL [] exL (HandSHeadRun.getT s)
theorem ob_eq (s : PySem.W.SharedT) : ob s = hk.obs s.abs := He.obsX_eq (HandSHeadRun.getT_eq s)
def looseL : List PySem.Str := (["PaironceError", "InvalidSystem", "UnknownPoint", "InvalidQuestion", "TooMany", "MOST_POINTS", "MOST_PARTS", "MOST_LISTED", "MOST_AFFINE", "MOST_BINARY", "ARMS", "is_row", "is_integer", "require", "checked_threes", "checked_leaf", "checked_part", "checked", "size_of", "power_of", "LEVELS", "third_of", "both", "point_at", "in_order", "third_in_bose", "half_of", "twice_of", "third_in_skolem", "figures_apart"] : List PySem.Str) ++ (["third_in_double", "third_in_product", "MOST_SMALL", "table_of", "is_likeness", "closure_in", "base_in", "Search", "searched", "likeness", "are_alike", "fours_at", "fours", "rounds_in", "rounds", "all_rounds", "counts_of", "shows_unlike", "_law_row", "_law_numbers", "_law_count", "_law_threes", "_law_built", "_law_third", "_law_table", "_law_system", "_law_mixed", "_law_thirteen"] : List PySem.Str)
theorem run_f (w : World) : HandSHeadRun.RunEq R (PySem.W.view R.prog [64]) hk ob 4000 looseL (w.withFollow "special-get-raises" false) := by
  intro os
  kernel_rfl
theorem run_t (w : World) : HandSHeadRun.RunEq R (PySem.W.view R.prog [64]) hk ob 4000 looseL (w.withFollow "special-get-raises" true) := by
  intro os
  kernel_rfl
theorem run (w : World) : HandSHeadRun.RunEq R (PySem.W.view R.prog [64]) hk ob 4000 looseL w := by
  have e := World.withFollow_self w "special-get-raises"
  cases hb : w.params.followText "special-get-raises" with
  | false =>
    rw [hb] at e
    have q := run_f w
    rw [e] at q
    exact q
  | true =>
    rw [hb] at e
    have q := run_t w
    rw [e] at q
    exact q
end PK
end

section
set_option autoImplicit false
namespace PK

/-! ## Steiner quasigroups on the points below n, and likenesses of them -/
structure Sts (n : Nat) (f : Nat → Nat → Nat) : Prop where
  lt : ∀ a b, a < n → b < n → f a b < n
  idem : ∀ a, a < n → f a a = a
  comm : ∀ a b, a < n → b < n → f a b = f b a
  back : ∀ a b, a < n → b < n → f a (f a b) = b

structure Iso (n : Nat) (f g : Nat → Nat → Nat) (φ : Nat → Nat) : Prop where
  lt : ∀ a, a < n → φ a < n
  inj : ∀ a b, a < n → b < n → φ a = φ b → a = b
  hom : ∀ a b, a < n → b < n → φ (f a b) = g (φ a) (φ b)

namespace Sts
variable {n : Nat} {f : Nat → Nat → Nat}
theorem ne_left (S : Sts n f) {a b : Nat} (ha : a < n) (hb : b < n) (h : a ≠ b) : f a b ≠ a := fun e => by
  have q := S.back a b ha hb
  rw [e, S.idem a ha] at q
  exact h q
theorem ne_right (S : Sts n f) {a b : Nat} (ha : a < n) (hb : b < n) (h : a ≠ b) : f a b ≠ b := fun e => by
  rw [S.comm a b ha hb] at e
  exact S.ne_left hb ha (Ne.symm h) e
theorem cancel (S : Sts n f) {a b c : Nat} (ha : a < n) (hb : b < n) (hc : c < n) (h : f a b = f a c) : b = c := by
  rw [← S.back a b ha hb, h, S.back a c ha hc]
/-- the third of the third -/
theorem back' (S : Sts n f) {a b : Nat} (ha : a < n) (hb : b < n) : f (f a b) b = a := by
  rw [S.comm _ b (S.lt a b ha hb) hb, S.comm a b ha hb, S.back b a hb ha]
end Sts

theorem range_surj {n : Nat} {φ : Nat → Nat} (hl : ∀ a, a < n → φ a < n) (hi : ∀ a b, a < n → b < n → φ a = φ b → a = b) {b : Nat} (hb : b < n) : ∃ a, a < n ∧ φ a = b := by
  refine Classical.byContradiction fun hne => ?_
  have hnd : ((List.range n).map φ).Nodup := by
    refine List.pairwise_map.mpr ?_
    refine List.Pairwise.imp_of_mem (R := fun a b => a ≠ b) ?_ List.nodup_range
    intro a c ha hc hac e
    exact hac (hi a c (List.mem_range.mp ha) (List.mem_range.mp hc) e)
  have hnot : b ∉ (List.range n).map φ := fun h => by
    obtain ⟨a, ha, e⟩ := List.mem_map.mp h
    exact hne ⟨a, List.mem_range.mp ha, e⟩
  have h2 : (b :: (List.range n).map φ).Nodup := List.nodup_cons.mpr ⟨hnot, hnd⟩
  have h3 : (b :: (List.range n).map φ) ⊆ List.range n := fun x hx => by
    rcases List.mem_cons.mp hx with rfl | hx
    · exact List.mem_range.mpr hb
    · obtain ⟨a, ha, rfl⟩ := List.mem_map.mp hx
      exact List.mem_range.mpr (hl a (List.mem_range.mp ha))
  have h4 := List.Nodup.length_le_of_subset h2 h3
  simp at h4
  omega

theorem range_perm {n : Nat} {φ : Nat → Nat} (hl : ∀ a, a < n → φ a < n) (hi : ∀ a b, a < n → b < n → φ a = φ b → a = b) : ((List.range n).map φ).Perm (List.range n) := by
  have hnd : ((List.range n).map φ).Nodup := by
    refine List.pairwise_map.mpr ?_
    refine List.Pairwise.imp_of_mem (R := fun a b => a ≠ b) ?_ List.nodup_range
    intro a c ha hc hac e
    exact hac (hi a c (List.mem_range.mp ha) (List.mem_range.mp hc) e)
  refine (List.perm_ext_iff_of_nodup hnd List.nodup_range).mpr fun x => ⟨fun hx => ?_, fun hx => ?_⟩
  · obtain ⟨a, ha, rfl⟩ := List.mem_map.mp hx
    exact List.mem_range.mpr (hl a (List.mem_range.mp ha))
  · obtain ⟨a, ha, rfl⟩ := range_surj hl hi (List.mem_range.mp hx)
    exact List.mem_map.mpr ⟨a, List.mem_range.mpr ha, rfl⟩

/-- the way back -/
def inv (n : Nat) (φ : Nat → Nat) (b : Nat) : Nat := ((List.range n).find? fun a => φ a == b).getD 0
theorem inv_spec {n : Nat} {φ : Nat → Nat} (hl : ∀ a, a < n → φ a < n) (hi : ∀ a b, a < n → b < n → φ a = φ b → a = b) {b : Nat} (hb : b < n) : inv n φ b < n ∧ φ (inv n φ b) = b := by
  unfold inv
  cases h : (List.range n).find? fun a => φ a == b with
  | none =>
    obtain ⟨a, ha, e⟩ := range_surj hl hi hb
    have q := List.find?_eq_none.mp h a (List.mem_range.mpr ha)
    simp [e] at q
  | some a =>
    have h1 := List.find?_some h
    have h2 := List.mem_of_find?_eq_some h
    exact ⟨List.mem_range.mp h2, by simpa using h1⟩
theorem inv_left {n : Nat} {φ : Nat → Nat} (hl : ∀ a, a < n → φ a < n) (hi : ∀ a b, a < n → b < n → φ a = φ b → a = b) {a : Nat} (ha : a < n) : inv n φ (φ a) = a := by
  obtain ⟨h1, h2⟩ := inv_spec hl hi (hl a ha)
  exact hi _ _ h1 ha h2

namespace Iso
variable {n : Nat} {f g h : Nat → Nat → Nat} {φ ψ : Nat → Nat}
theorem refl : Iso n f f id := ⟨fun _ h => h, fun _ _ _ _ h => h, fun _ _ _ _ => rfl⟩
theorem comp (I : Iso n f g φ) (J : Iso n g h ψ) : Iso n f h (fun a => ψ (φ a)) :=
  ⟨fun a ha => J.lt _ (I.lt a ha), fun a b ha hb e => I.inj a b ha hb (J.inj _ _ (I.lt a ha) (I.lt b hb) e), fun a b ha hb => by
    show ψ (φ (f a b)) = _
    rw [I.hom a b ha hb, J.hom _ _ (I.lt a ha) (I.lt b hb)]⟩
theorem inv_lt (I : Iso n f g φ) {b : Nat} (hb : b < n) : inv n φ b < n := (inv_spec I.lt I.inj hb).1
theorem inv_right (I : Iso n f g φ) {b : Nat} (hb : b < n) : φ (inv n φ b) = b := (inv_spec I.lt I.inj hb).2
theorem back (I : Iso n f g φ) (S : Sts n f) : Iso n g f (inv n φ) := by
  refine ⟨fun a ha => I.inv_lt ha, fun a b ha hb e => ?_, fun a b ha hb => ?_⟩
  · rw [← I.inv_right ha, e, I.inv_right hb]
  · refine I.inj _ _ ?_ (S.lt _ _ (I.inv_lt ha) (I.inv_lt hb)) ?_
    · have q : g a b < n := by
        have := I.hom _ _ (I.inv_lt ha) (I.inv_lt hb)
        rw [I.inv_right ha, I.inv_right hb] at this
        rw [← this]
        exact I.lt _ (S.lt _ _ (I.inv_lt ha) (I.inv_lt hb))
      exact I.inv_lt q
    · have q := I.hom _ _ (I.inv_lt ha) (I.inv_lt hb)
      rw [I.inv_right ha, I.inv_right hb] at q
      rw [q, I.inv_right]
      rw [← q]
      exact I.lt _ (S.lt _ _ (I.inv_lt ha) (I.inv_lt hb))
theorem perm (I : Iso n f g φ) : ((List.range n).map φ).Perm (List.range n) := range_perm I.lt I.inj
end Iso

/-! ## the same system with other names -/
def conj (n : Nat) (f : Nat → Nat → Nat) (π : Nat → Nat) (a b : Nat) : Nat := π (f (inv n π a) (inv n π b))
theorem conj_iso {n : Nat} {f : Nat → Nat → Nat} {π : Nat → Nat} (hl : ∀ a, a < n → π a < n) (hi : ∀ a b, a < n → b < n → π a = π b → a = b) : Iso n f (conj n f π) π :=
  ⟨hl, hi, fun a b ha hb => by unfold conj; rw [inv_left hl hi ha, inv_left hl hi hb]⟩
theorem Iso.sts {n : Nat} {f g : Nat → Nat → Nat} {φ : Nat → Nat} (I : Iso n f g φ) (S : Sts n f) : Sts n g := by
  have e : ∀ a b, a < n → b < n → g a b = φ (f (inv n φ a) (inv n φ b)) := fun a b ha hb => by
    rw [I.hom _ _ (I.inv_lt ha) (I.inv_lt hb), I.inv_right ha, I.inv_right hb]
  have il : ∀ a, a < n → inv n φ a < n := fun a ha => I.inv_lt ha
  refine ⟨fun a b ha hb => ?_, fun a ha => ?_, fun a b ha hb => ?_, fun a b ha hb => ?_⟩
  · rw [e a b ha hb]; exact I.lt _ (S.lt _ _ (il a ha) (il b hb))
  · rw [e a a ha ha, S.idem _ (il a ha), I.inv_right ha]
  · rw [e a b ha hb, e b a hb ha, S.comm _ _ (il a ha) (il b hb)]
  · have q : g a b < n := by rw [e a b ha hb]; exact I.lt _ (S.lt _ _ (il a ha) (il b hb))
    rw [e a (g a b) ha q, e a b ha hb, inv_left I.lt I.inj (S.lt _ _ (il a ha) (il b hb)), S.back _ _ (il a ha) (il b hb), I.inv_right hb]

/-! ## fours -/
/-- the pairs of points that make a three with p -/
def pairsAt (n : Nat) (f : Nat → Nat → Nat) (p : Nat) : List (Nat × Nat) := ((List.range n).filter fun a => decide (p ≠ a) && decide (a < f p a)).map fun a => (a, f p a)
def b2n (b : Bool) : Nat := if b then 1 else 0
def wt (f : Nat → Nat → Nat) (x y : Nat × Nat) : Nat := b2n (f x.1 y.1 == f x.2 y.2) + b2n (f x.1 y.2 == f x.2 y.1)
/-- the sum of w (a later one, an earlier one) -/
def pairSum {α : Type} (w : α → α → Nat) : List α → Nat
  | [] => 0
  | x :: l => (l.map fun y => w y x).sum + pairSum w l
def foursAt (n : Nat) (f : Nat → Nat → Nat) (p : Nat) : Nat := pairSum (wt f) (pairsAt n f p)
def foursOf (n : Nat) (f : Nat → Nat → Nat) : List Nat := (List.range n).map (foursAt n f)

theorem pairSum_snoc {α : Type} (w : α → α → Nat) (z : α) : ∀ l : List α, pairSum w (l ++ [z]) = pairSum w l + (l.map fun y => w z y).sum
  | [] => rfl
  | x :: l => by
    show ((l ++ [z]).map fun y => w y x).sum + pairSum w (l ++ [z]) = ((l.map fun y => w y x).sum + pairSum w l) + ((x :: l).map fun y => w z y).sum
    rw [pairSum_snoc w z l, List.map_append, List.sum_append, List.map_cons, List.sum_cons]
    simp only [List.map_cons, List.map_nil, List.sum_cons, List.sum_nil]
    omega
theorem pairSum_perm {α : Type} {w : α → α → Nat} {l l' : List α} (hp : l.Perm l') : (∀ x y, x ∈ l → y ∈ l → w x y = w y x) → pairSum w l = pairSum w l' := by
  induction hp with
  | nil => intro _; rfl
  | cons x hp ih =>
    intro hs
    show _ + pairSum w _ = _ + pairSum w _
    rw [ih fun a b ha hb => hs a b (List.mem_cons_of_mem _ ha) (List.mem_cons_of_mem _ hb), (hp.map fun y => w y x).sum_nat]
  | swap x y l =>
    intro hs
    show ((x :: l).map fun z => w z y).sum + ((l.map fun z => w z x).sum + pairSum w l) = ((y :: l).map fun z => w z x).sum + ((l.map fun z => w z y).sum + pairSum w l)
    rw [List.map_cons, List.sum_cons, List.map_cons, List.sum_cons, hs x y (List.mem_cons_of_mem _ (List.mem_cons_self ..)) (List.mem_cons_self ..)]
    omega
  | trans p q ih1 ih2 =>
    intro hs
    rw [ih1 hs, ih2 fun a b ha hb => hs a b (p.symm.subset ha) (p.symm.subset hb)]
theorem pairSum_map {α β : Type} {w : β → β → Nat} {v : α → α → Nat} (m : α → β) : ∀ l : List α, (∀ x y, x ∈ l → y ∈ l → w (m x) (m y) = v x y) → pairSum w (l.map m) = pairSum v l
  | [], _ => rfl
  | x :: l, h => by
    show ((l.map m).map fun y => w y (m x)).sum + pairSum w (l.map m) = (l.map fun y => v y x).sum + pairSum v l
    rw [pairSum_map m l fun a b ha hb => h a b (List.mem_cons_of_mem _ ha) (List.mem_cons_of_mem _ hb), List.map_map]
    congr 1
    refine congrArg List.sum (List.map_congr_left fun y hy => ?_)
    exact h y x (List.mem_cons_of_mem _ hy) (List.mem_cons_self ..)

theorem mem_pairsAt {n : Nat} {f : Nat → Nat → Nat} {p : Nat} {x : Nat × Nat} : x ∈ pairsAt n f p ↔ x.1 < n ∧ p ≠ x.1 ∧ x.1 < x.2 ∧ x.2 = f p x.1 := by
  unfold pairsAt
  constructor
  · intro h
    obtain ⟨a, ha, rfl⟩ := List.mem_map.mp h
    obtain ⟨h1, h2⟩ := List.mem_filter.mp ha
    simp only [Bool.and_eq_true, decide_eq_true_eq] at h2
    exact ⟨List.mem_range.mp h1, h2.1, h2.2, rfl⟩
  · rintro ⟨h1, h2, h3, h4⟩
    refine List.mem_map.mpr ⟨x.1, List.mem_filter.mpr ⟨List.mem_range.mpr h1, ?_⟩, by rw [← h4]⟩
    simp only [Bool.and_eq_true, decide_eq_true_eq]
    exact ⟨h2, by rw [← h4]; exact h3⟩
theorem nodup_pairsAt (n : Nat) (f : Nat → Nat → Nat) (p : Nat) : (pairsAt n f p).Nodup := by
  unfold pairsAt
  refine List.pairwise_map.mpr ?_
  refine List.Pairwise.imp (R := fun a b => a ≠ b) ?_ (List.nodup_range.sublist List.filter_sublist)
  intro a b h e
  exact h (congrArg Prod.fst e)

/-- the lesser point first -/
def norm2 (x : Nat × Nat) : Nat × Nat := if x.1 < x.2 then x else (x.2, x.1)
theorem b2n_congr {a b : Bool} (h : a = b) : b2n a = b2n b := by rw [h]
theorem beq_iff {a b c d : Nat} (h : a = b ↔ c = d) : (a == b) = (c == d) := by
  rw [Bool.eq_iff_iff]; simp [h]
theorem wt_swap_left (f : Nat → Nat → Nat) (x y : Nat × Nat) : wt f (x.2, x.1) y = wt f x y := by
  unfold wt
  rw [Nat.add_comm]
  congr 1
  · exact b2n_congr (beq_iff eq_comm)
  · exact b2n_congr (beq_iff eq_comm)
theorem wt_swap_right (f : Nat → Nat → Nat) (x y : Nat × Nat) : wt f x (y.2, y.1) = wt f x y := by
  unfold wt
  rw [Nat.add_comm]
theorem wt_norm (f : Nat → Nat → Nat) (x y : Nat × Nat) : wt f (norm2 x) (norm2 y) = wt f x y := by
  unfold norm2
  split <;> split <;> simp only [wt_swap_left, wt_swap_right]

theorem wt_symm {n : Nat} {f : Nat → Nat → Nat} (S : Sts n f) {x y : Nat × Nat} (x1 : x.1 < n) (x2 : x.2 < n) (y1 : y.1 < n) (y2 : y.2 < n) : wt f x y = wt f y x := by
  unfold wt
  rw [S.comm x.1 y.1 x1 y1, S.comm x.2 y.2 x2 y2, S.comm x.1 y.2 x1 y2, S.comm x.2 y.1 x2 y1]
  congr 1
  exact b2n_congr (beq_iff eq_comm)

theorem pairsAt_lt {n : Nat} {f : Nat → Nat → Nat} (S : Sts n f) {p : Nat} (hp : p < n) {x : Nat × Nat} (h : x ∈ pairsAt n f p) : x.1 < n ∧ x.2 < n := by
  obtain ⟨h1, _, _, h4⟩ := mem_pairsAt.mp h
  exact ⟨h1, by rw [h4]; exact S.lt _ _ hp h1⟩

theorem pairsAt_perm {n : Nat} {f g : Nat → Nat → Nat} {φ : Nat → Nat} (S : Sts n f) (I : Iso n f g φ) {p : Nat} (hp : p < n) :
    ((pairsAt n f p).map fun x => norm2 (φ x.1, φ x.2)).Perm (pairsAt n g (φ p)) := by
  have T := I.sts S
  refine (List.perm_ext_iff_of_nodup ?_ (nodup_pairsAt n g (φ p))).mpr fun y => ⟨fun hy => ?_, fun hy => ?_⟩
  · refine List.pairwise_map.mpr ?_
    refine List.Pairwise.imp_of_mem (R := fun a b => a ≠ b) ?_ (nodup_pairsAt n f p)
    intro x y hx hy hne e
    obtain ⟨x1, x2, x3, x4⟩ := mem_pairsAt.mp hx
    obtain ⟨y1, y2, y3, y4⟩ := mem_pairsAt.mp hy
    have xl := (pairsAt_lt S hp hx).2
    have yl := (pairsAt_lt S hp hy).2
    have key : (φ x.1 = φ y.1 ∧ φ x.2 = φ y.2) ∨ (φ x.1 = φ y.2 ∧ φ x.2 = φ y.1) := by
      unfold norm2 at e
      simp only at e
      split at e <;> split at e <;> simp only [Prod.mk.injEq] at e
      · exact .inl e
      · exact .inr e
      · exact .inr ⟨e.2, e.1⟩
      · exact .inl ⟨e.2, e.1⟩
    rcases key with ⟨k1, k2⟩ | ⟨k1, k2⟩
    · exact hne (Prod.ext (I.inj _ _ x1 y1 k1) (I.inj _ _ xl yl k2))
    · have e1 := I.inj _ _ x1 yl k1
      have e2 := I.inj _ _ xl y1 k2
      omega
  · obtain ⟨x, hx, rfl⟩ := List.mem_map.mp hy
    obtain ⟨x1, x2, x3, x4⟩ := mem_pairsAt.mp hx
    have xl := (pairsAt_lt S hp hx).2
    have hn1 : φ p ≠ φ x.1 := fun e => x2 (I.inj _ _ hp x1 e)
    have hq : p ≠ x.2 := fun e => by
      rw [x4] at e
      exact S.ne_left hp x1 x2 e.symm
    have hn2 : φ p ≠ φ x.2 := fun e => hq (I.inj _ _ hp xl e)
    have hne : φ x.1 ≠ φ x.2 := fun e => by
      have := I.inj _ _ x1 xl e
      omega
    have e1 : φ x.2 = g (φ p) (φ x.1) := by rw [x4, I.hom p x.1 hp x1]
    have e2 : φ x.1 = g (φ p) (φ x.2) := by rw [e1, T.back _ _ (I.lt p hp) (I.lt _ x1)]
    unfold norm2
    simp only
    split
    · rename_i hlt
      exact mem_pairsAt.mpr ⟨I.lt _ x1, hn1, hlt, e1⟩
    · rename_i hlt
      exact mem_pairsAt.mpr ⟨I.lt _ xl, hn2, by show φ x.2 < φ x.1; omega, e2⟩
  · obtain ⟨y1, y2, y3, y4⟩ := mem_pairsAt.mp hy
    have yl := (pairsAt_lt T (I.lt p hp) hy).2
    -- the way back
    obtain ⟨u, hu, eu⟩ := range_surj I.lt I.inj y1
    have hpu : p ≠ u := fun e => y2 (by rw [e, eu])
    have hv : f p u < n := S.lt _ _ hp hu
    have ev : φ (f p u) = y.2 := by rw [I.hom p u hp hu, eu, y4]
    have hne : u ≠ f p u := fun e => S.ne_right hp hu hpu e.symm
    rcases Nat.lt_or_gt_of_ne hne with hlt | hgt
    · refine List.mem_map.mpr ⟨(u, f p u), mem_pairsAt.mpr ⟨hu, hpu, hlt, rfl⟩, ?_⟩
      unfold norm2
      simp only [eu, ev]
      rw [if_pos y3]
    · refine List.mem_map.mpr ⟨(f p u, u), mem_pairsAt.mpr ⟨hv, fun e => S.ne_left hp hu hpu e.symm, hgt, (S.back p u hp hu).symm⟩, ?_⟩
      unfold norm2
      simp only [eu, ev]
      rw [if_neg (by omega)]

theorem foursAt_iso {n : Nat} {f g : Nat → Nat → Nat} {φ : Nat → Nat} (S : Sts n f) (I : Iso n f g φ) {p : Nat} (hp : p < n) : foursAt n g (φ p) = foursAt n f p := by
  have T := I.sts S
  unfold foursAt
  rw [← pairSum_perm (pairsAt_perm S I hp) ?_]
  · refine pairSum_map _ _ fun x y hx hy => ?_
    obtain ⟨x1, x2⟩ := pairsAt_lt S hp hx
    obtain ⟨y1, y2⟩ := pairsAt_lt S hp hy
    rw [wt_norm]
    unfold wt
    simp only
    rw [← I.hom _ _ x1 y1, ← I.hom _ _ x2 y2, ← I.hom _ _ x1 y2, ← I.hom _ _ x2 y1]
    congr 1
    · exact b2n_congr (beq_iff ⟨fun e => I.inj _ _ (S.lt _ _ x1 y1) (S.lt _ _ x2 y2) e, fun e => by rw [e]⟩)
    · exact b2n_congr (beq_iff ⟨fun e => I.inj _ _ (S.lt _ _ x1 y2) (S.lt _ _ x2 y1) e, fun e => by rw [e]⟩)
  · intro x y hx hy
    have hx := (pairsAt_perm S I hp).subset hx
    have hy := (pairsAt_perm S I hp).subset hy
    obtain ⟨x1, x2⟩ := pairsAt_lt T (I.lt p hp) hx
    obtain ⟨y1, y2⟩ := pairsAt_lt T (I.lt p hp) hy
    exact wt_symm T x1 x2 y1 y2

theorem foursOf_perm {n : Nat} {f g : Nat → Nat → Nat} {φ : Nat → Nat} (S : Sts n f) (I : Iso n f g φ) : (foursOf n f).Perm (foursOf n g) := by
  unfold foursOf
  have h := (I.perm).map (foursAt n g)
  rw [List.map_map] at h
  have e : (List.range n).map (foursAt n f) = (List.range n).map (foursAt n g ∘ φ) := List.map_congr_left fun a ha => (foursAt_iso S I (List.mem_range.mp ha)).symm
  rw [e]
  exact h
end PK
end

section
set_option autoImplicit false
namespace PK
/-! ## rounds -/
def stp (f : Nat → Nat → Nat) (a b x : Nat) : Nat := f b (f a x)
def itr (f : Nat → Nat → Nat) (a b : Nat) : Nat → Nat → Nat
  | 0, x => x
  | k + 1, x => stp f a b (itr f a b k x)
def per (n : Nat) (f : Nat → Nat → Nat) (a b x : Nat) : Nat := (((List.range n).find? fun k => itr f a b (k + 1) x == x).map (· + 1)).getD 0
def inS (f : Nat → Nat → Nat) (a b x : Nat) : Bool := decide (x ≠ a) && (decide (x ≠ b) && decide (x ≠ f a b))
def pts (n : Nat) (f : Nat → Nat → Nat) (a b : Nat) : List Nat := (List.range n).filter (inS f a b)
def szIs (n : Nat) (f : Nat → Nat → Nat) (a b l x : Nat) : Bool := 2 * per n f a b x == l
def cnt (n : Nat) (f : Nat → Nat → Nat) (a b l : Nat) : Nat := (pts n f a b).countP (szIs n f a b l)
def repOf (c : Nat → Nat) (n : Nat) : List Nat := (List.range n).flatMap fun l => List.replicate (c l) l
def roundsOf (n : Nat) (f : Nat → Nat → Nat) (a b : Nat) : List Nat := repOf (fun l => cnt n f a b l / l) (n + 1)

theorem mem_pts {n : Nat} {f : Nat → Nat → Nat} {a b x : Nat} : x ∈ pts n f a b ↔ x < n ∧ x ≠ a ∧ x ≠ b ∧ x ≠ f a b := by
  unfold pts inS
  rw [List.mem_filter, List.mem_range]
  simp only [Bool.and_eq_true, decide_eq_true_eq]
theorem nodup_pts (n : Nat) (f : Nat → Nat → Nat) (a b : Nat) : (pts n f a b).Nodup := List.nodup_range.sublist List.filter_sublist

section
variable {n : Nat} {f : Nat → Nat → Nat} {a b : Nat}
theorem pts_a (S : Sts n f) (ha : a < n) (hb : b < n) {x : Nat} (h : x ∈ pts n f a b) : f a x ∈ pts n f a b := by
  obtain ⟨h1, h2, h3, h4⟩ := mem_pts.mp h
  refine mem_pts.mpr ⟨S.lt _ _ ha h1, S.ne_left ha h1 (Ne.symm h2), fun e => h4 ?_, fun e => h3 (S.cancel ha h1 hb e)⟩
  rw [← e, S.back _ _ ha h1]
theorem pts_b (S : Sts n f) (ha : a < n) (hb : b < n) {x : Nat} (h : x ∈ pts n f a b) : f b x ∈ pts n f a b := by
  obtain ⟨h1, h2, h3, h4⟩ := mem_pts.mp h
  refine mem_pts.mpr ⟨S.lt _ _ hb h1, fun e => h4 ?_, S.ne_left hb h1 (Ne.symm h3), fun e => h2 ?_⟩
  · rw [S.comm a b ha hb, ← e, S.back _ _ hb h1]
  · rw [S.comm a b ha hb] at e
    exact S.cancel hb h1 ha e
theorem stp_lt (S : Sts n f) (ha : a < n) (hb : b < n) {x : Nat} (h : x < n) : stp f a b x < n := S.lt _ _ hb (S.lt _ _ ha h)
theorem itr_lt (S : Sts n f) (ha : a < n) (hb : b < n) {x : Nat} (h : x < n) : ∀ k, itr f a b k x < n
  | 0 => h
  | k + 1 => stp_lt S ha hb (itr_lt S ha hb h k)
theorem itr_add (k : Nat) (x : Nat) : ∀ m, itr f a b (m + k) x = itr f a b m (itr f a b k x)
  | 0 => by rw [Nat.zero_add]; rfl
  | m + 1 => by
    rw [show m + 1 + k = (m + k) + 1 by omega]
    show stp f a b (itr f a b (m + k) x) = stp f a b (itr f a b m (itr f a b k x))
    rw [itr_add k x m]
theorem itr_comm (k m : Nat) (x : Nat) : itr f a b m (itr f a b k x) = itr f a b k (itr f a b m x) := by
  rw [← itr_add, ← itr_add, Nat.add_comm]
theorem stp_inj (S : Sts n f) (ha : a < n) (hb : b < n) {x y : Nat} (hx : x < n) (hy : y < n) (e : stp f a b x = stp f a b y) : x = y :=
  S.cancel ha hx hy (S.cancel hb (S.lt _ _ ha hx) (S.lt _ _ ha hy) e)
theorem itr_inj (S : Sts n f) (ha : a < n) (hb : b < n) {x y : Nat} (hx : x < n) (hy : y < n) : ∀ k, itr f a b k x = itr f a b k y → x = y
  | 0, e => e
  | k + 1, e => itr_inj S ha hb hx hy k (stp_inj S ha hb (itr_lt S ha hb hx k) (itr_lt S ha hb hy k) e)
theorem itr_pts (S : Sts n f) (ha : a < n) (hb : b < n) {x : Nat} (h : x ∈ pts n f a b) : ∀ k, itr f a b k x ∈ pts n f a b
  | 0 => h
  | k + 1 => pts_b S ha hb (pts_a S ha hb (itr_pts S ha hb h k))

theorem find_congr {α : Type} {p q : α → Bool} : ∀ {l : List α}, (∀ x ∈ l, p x = q x) → l.find? p = l.find? q
  | [], _ => rfl
  | x :: l, h => by
    rw [List.find?_cons, List.find?_cons, h x (List.mem_cons_self ..), find_congr fun y hy => h y (List.mem_cons_of_mem _ hy)]
theorem per_congr {g : Nat → Nat → Nat} {c d x y : Nat} (h : ∀ k, itr f a b (k + 1) x = x ↔ itr g c d (k + 1) y = y) : per n f a b x = per n g c d y := by
  unfold per
  rw [find_congr fun k _ => beq_iff (h k)]
/-- a point's step has its period -/
theorem per_itr (S : Sts n f) (ha : a < n) (hb : b < n) {x : Nat} (hx : x < n) (j : Nat) : per n f a b (itr f a b j x) = per n f a b x := by
  refine per_congr fun k => ?_
  rw [itr_comm j (k + 1) x]
  exact ⟨fun e => itr_inj S ha hb (itr_lt S ha hb hx _) hx j e, fun e => by rw [e]⟩
theorem turn_a (S : Sts n f) (ha : a < n) (hb : b < n) {x : Nat} (hx : x < n) : ∀ k, itr f a b k (f a (itr f a b k x)) = f a x
  | 0 => rfl
  | k + 1 => by
    rw [itr_add 1 _ k]
    have e : itr f a b 1 (f a (itr f a b (k + 1) x)) = f a (itr f a b k x) := by
      show f b (f a (f a (f b (f a (itr f a b k x))))) = _
      have h1 := itr_lt S ha hb hx k
      have h2 := S.lt _ _ ha h1
      rw [S.back a _ ha (S.lt _ _ hb h2), S.back b _ hb h2]
    rw [e, turn_a S ha hb hx k]
theorem per_a (S : Sts n f) (ha : a < n) (hb : b < n) {x : Nat} (hx : x < n) : per n f a b (f a x) = per n f a b x := by
  refine per_congr fun k => ?_
  have hy := S.lt _ _ ha hx
  constructor
  · intro e
    have q := turn_a S ha hb hy (k + 1)
    rw [e, S.back a x ha hx] at q
    exact q
  · intro e
    have q := turn_a S ha hb hx (k + 1)
    rw [e] at q
    exact q
/-- the other way round -/
theorem itr_back (S : Sts n f) (ha : a < n) (hb : b < n) {x : Nat} (hx : x < n) : ∀ k, itr f b a k (itr f a b k x) = x
  | 0 => rfl
  | k + 1 => by
    rw [itr_add 1 _ k]
    have e : itr f b a 1 (itr f a b (k + 1) x) = itr f a b k x := by
      show f a (f b (f b (f a (itr f a b k x)))) = _
      have h1 := itr_lt S ha hb hx k
      rw [S.back b _ hb (S.lt _ _ ha h1), S.back a _ ha h1]
    rw [e, itr_back S ha hb hx k]
theorem per_comm (S : Sts n f) (ha : a < n) (hb : b < n) {x : Nat} (hx : x < n) : per n f b a x = per n f a b x := by
  refine per_congr fun k => ⟨fun e => ?_, fun e => ?_⟩
  · have q := itr_back S hb ha hx (k + 1)
    rw [e] at q
    exact q
  · have q := itr_back S ha hb hx (k + 1)
    rw [e] at q
    exact q
theorem pts_comm (S : Sts n f) (ha : a < n) (hb : b < n) : pts n f b a = pts n f a b := by
  unfold pts
  refine List.filter_congr fun x _ => ?_
  unfold inS
  rw [S.comm b a hb ha, ← Bool.and_assoc, ← Bool.and_assoc, Bool.and_comm (decide (x ≠ b))]
theorem repOf_congr {c d : Nat → Nat} (h : ∀ l, c l = d l) (n : Nat) : repOf c n = repOf d n := by
  have e : c = d := funext h
  rw [e]
theorem roundsOf_comm (S : Sts n f) (ha : a < n) (hb : b < n) : roundsOf n f b a = roundsOf n f a b := by
  unfold roundsOf
  refine repOf_congr (fun l => ?_) _
  unfold cnt
  rw [pts_comm S ha hb]
  congr 1
  refine List.countP_congr fun x hx => ?_
  unfold szIs
  rw [per_comm S ha hb (mem_pts.mp hx).1]

theorem itr_iso {g : Nat → Nat → Nat} {φ : Nat → Nat} (S : Sts n f) (I : Iso n f g φ) (ha : a < n) (hb : b < n) {x : Nat} (hx : x < n) : ∀ k, itr g (φ a) (φ b) k (φ x) = φ (itr f a b k x)
  | 0 => rfl
  | k + 1 => by
    show stp g (φ a) (φ b) (itr g (φ a) (φ b) k (φ x)) = φ (stp f a b (itr f a b k x))
    rw [itr_iso S I ha hb hx k]
    unfold stp
    have h1 := itr_lt S ha hb hx k
    rw [I.hom b _ hb (S.lt _ _ ha h1), I.hom a _ ha h1]
theorem per_iso {g : Nat → Nat → Nat} {φ : Nat → Nat} (S : Sts n f) (I : Iso n f g φ) (ha : a < n) (hb : b < n) {x : Nat} (hx : x < n) : per n g (φ a) (φ b) (φ x) = per n f a b x := by
  refine per_congr fun k => ?_
  rw [itr_iso S I ha hb hx]
  exact ⟨fun e => I.inj _ _ (itr_lt S ha hb hx _) hx e, fun e => by rw [e]⟩
theorem pts_iso {g : Nat → Nat → Nat} {φ : Nat → Nat} (S : Sts n f) (I : Iso n f g φ) (ha : a < n) (hb : b < n) : ((pts n f a b).map φ).Perm (pts n g (φ a) (φ b)) := by
  refine (List.perm_ext_iff_of_nodup ?_ (nodup_pts n g _ _)).mpr fun y => ⟨fun hy => ?_, fun hy => ?_⟩
  · refine List.pairwise_map.mpr ?_
    refine List.Pairwise.imp_of_mem (R := fun a b => a ≠ b) ?_ (nodup_pts n f a b)
    intro x y hx hy hne e
    exact hne (I.inj _ _ (mem_pts.mp hx).1 (mem_pts.mp hy).1 e)
  · obtain ⟨x, hx, rfl⟩ := List.mem_map.mp hy
    obtain ⟨h1, h2, h3, h4⟩ := mem_pts.mp hx
    refine mem_pts.mpr ⟨I.lt _ h1, fun e => h2 (I.inj _ _ h1 ha e), fun e => h3 (I.inj _ _ h1 hb e), fun e => h4 ?_⟩
    rw [← I.hom a b ha hb] at e
    exact I.inj _ _ h1 (S.lt _ _ ha hb) e
  · obtain ⟨h1, h2, h3, h4⟩ := mem_pts.mp hy
    obtain ⟨x, hx, rfl⟩ := range_surj I.lt I.inj h1
    refine List.mem_map.mpr ⟨x, mem_pts.mpr ⟨hx, fun e => h2 (by rw [e]), fun e => h3 (by rw [e]), fun e => h4 ?_⟩, rfl⟩
    rw [e, I.hom a b ha hb]
theorem roundsOf_iso {g : Nat → Nat → Nat} {φ : Nat → Nat} (S : Sts n f) (I : Iso n f g φ) (ha : a < n) (hb : b < n) : roundsOf n g (φ a) (φ b) = roundsOf n f a b := by
  unfold roundsOf
  refine repOf_congr (fun l => ?_) _
  unfold cnt
  rw [← (pts_iso S I ha hb).countP_eq, List.countP_map]
  congr 1
  refine List.countP_congr fun x hx => ?_
  show szIs n g (φ a) (φ b) l (φ x) = true ↔ _
  unfold szIs
  rw [per_iso S I ha hb (mem_pts.mp hx).1]

/-! ### one round gone through -/
def rem (l : List Nat) (x : Nat) : List Nat := l.filter fun z => z != x
theorem mem_rem {l : List Nat} {x z : Nat} : z ∈ rem l x ↔ z ∈ l ∧ z ≠ x := by
  unfold rem
  rw [List.mem_filter]
  simp
theorem nodup_rem {l : List Nat} (h : l.Nodup) (x : Nat) : (rem l x).Nodup := h.sublist List.filter_sublist
theorem countP_rem (q : Nat → Bool) : ∀ {l : List Nat} {x : Nat}, l.Nodup → x ∈ l → l.countP q = (rem l x).countP q + b2n (q x)
  | [], x, _, h => by simp at h
  | y :: l, x, hn, h => by
    obtain ⟨h1, h2⟩ := List.nodup_cons.mp hn
    by_cases e : y = x
    · subst e
      have e1 : rem (y :: l) y = l := by
        unfold rem
        rw [List.filter_cons]
        simp only [bne_self_eq_false, Bool.false_eq_true, if_false]
        refine List.filter_eq_self.mpr fun z hz => ?_
        simp only [bne_iff_ne, ne_eq]
        intro e
        exact h1 (e ▸ hz)
      rw [e1, List.countP_cons]
      rfl
    · have e1 : rem (y :: l) x = y :: rem l x := by
        unfold rem
        rw [List.filter_cons]
        simp [e]
      have hx : x ∈ l := by
        rcases List.mem_cons.mp h with h | h
        · exact absurd h.symm e
        · exact h
      rw [e1, List.countP_cons, List.countP_cons, countP_rem q h2 hx]
      omega
theorem length_rem {l : List Nat} {x : Nat} (hn : l.Nodup) (h : x ∈ l) : l.length = (rem l x).length + 1 := by
  have q := countP_rem (fun _ => true) hn h
  simp only [List.countP_true] at q
  exact q

structure InR (n : Nat) (f : Nat → Nat → Nat) (a b : Nat) (left0 : List Nat) (s k : Nat) (left : List Nat) : Prop where
  nd : left.Nodup
  sub : ∀ z ∈ left, z ∈ left0
  out : ∀ z ∈ left0, z ∈ left ∨ ∃ j, j < k ∧ (z = itr f a b j s ∨ z = f a (itr f a b j s))
  gone : ∀ j, j < k → itr f a b j s ∉ left ∧ f a (itr f a b j s) ∉ left
  acl : ∀ z ∈ left, f a z ∈ left
  dist : ∀ i j, i < j → j < k → itr f a b i s ≠ itr f a b j s ∧ f a (itr f a b i s) ≠ f a (itr f a b j s) ∧ itr f a b i s ≠ f a (itr f a b j s) ∧ f a (itr f a b i s) ≠ itr f a b j s
  cn : ∀ l, left0.countP (szIs n f a b l) = left.countP (szIs n f a b l) + 2 * k * b2n (szIs n f a b l s)
  len : left0.length = left.length + 2 * k

/-- what is left ahead of a round -/
structure Clo (n : Nat) (f : Nat → Nat → Nat) (a b : Nat) (left : List Nat) : Prop where
  nd : left.Nodup
  sub : ∀ z ∈ left, z ∈ pts n f a b
  acl : ∀ z ∈ left, f a z ∈ left
  bcl : ∀ z ∈ left, f b z ∈ left

theorem InR.start {left0 : List Nat} (C : Clo n f a b left0) (s : Nat) : InR n f a b left0 s 0 left0 :=
  ⟨C.nd, fun _ h => h, fun _ h => .inl h, fun _ h => absurd h (Nat.not_lt_zero _), C.acl, fun _ _ _ h => absurd h (Nat.not_lt_zero _), fun l => by simp, by simp⟩

theorem InR.step {left0 left : List Nat} {s k : Nat} (S : Sts n f) (ha : a < n) (hb : b < n) (C : Clo n f a b left0) (hs : s ∈ left0) (R : InR n f a b left0 s k left) (hp : itr f a b k s ∈ left) :
    f a (itr f a b k s) ∈ rem left (itr f a b k s) ∧ InR n f a b left0 s (k + 1) (rem (rem left (itr f a b k s)) (f a (itr f a b k s))) := by
  have hsp := C.sub s hs
  have hsn := (mem_pts.mp hsp).1
  have hpn := itr_lt S ha hb hsn k
  have hpp := itr_pts S ha hb hsp k
  have hne : f a (itr f a b k s) ≠ itr f a b k s := S.ne_right ha hpn (Ne.symm (mem_pts.mp hpp).2.1)
  have hq : f a (itr f a b k s) ∈ rem left (itr f a b k s) := mem_rem.mpr ⟨R.acl _ hp, hne⟩
  have sz1 : ∀ l, szIs n f a b l (itr f a b k s) = szIs n f a b l s := fun l => by unfold szIs; rw [per_itr S ha hb hsn]
  have sz2 : ∀ l, szIs n f a b l (f a (itr f a b k s)) = szIs n f a b l s := fun l => by unfold szIs; rw [per_a S ha hb hpn, per_itr S ha hb hsn]
  refine ⟨hq, ?_⟩
  constructor
  · exact nodup_rem (nodup_rem R.nd _) _
  · exact fun z hz => R.sub z (mem_rem.mp (mem_rem.mp hz).1).1
  · intro z hz
    rcases R.out z hz with h | ⟨j, hj, h⟩
    · by_cases e1 : z = itr f a b k s
      · exact .inr ⟨k, Nat.lt_succ_self _, .inl e1⟩
      · by_cases e2 : z = f a (itr f a b k s)
        · exact .inr ⟨k, Nat.lt_succ_self _, .inr e2⟩
        · exact .inl (mem_rem.mpr ⟨mem_rem.mpr ⟨h, e1⟩, e2⟩)
    · exact .inr ⟨j, Nat.lt_succ_of_lt hj, h⟩
  · intro j hj
    rcases Nat.lt_succ_iff_lt_or_eq.mp hj with hj | rfl
    · exact ⟨fun h => (R.gone j hj).1 (mem_rem.mp (mem_rem.mp h).1).1, fun h => (R.gone j hj).2 (mem_rem.mp (mem_rem.mp h).1).1⟩
    · exact ⟨fun h => (mem_rem.mp (mem_rem.mp h).1).2 rfl, fun h => (mem_rem.mp h).2 rfl⟩
  · intro z hz
    obtain ⟨h1, h2⟩ := mem_rem.mp hz
    obtain ⟨h3, h4⟩ := mem_rem.mp h1
    have hzn := (mem_pts.mp (C.sub z (R.sub z h3))).1
    refine mem_rem.mpr ⟨mem_rem.mpr ⟨R.acl z h3, fun e => h2 ?_⟩, fun e => h4 (S.cancel ha hzn hpn e)⟩
    rw [← e, S.back a z ha hzn]
  · intro i j hij hj
    rcases Nat.lt_succ_iff_lt_or_eq.mp hj with hj | rfl
    · exact R.dist i j hij hj
    · obtain ⟨g1, g2⟩ := R.gone i hij
      have hin := itr_lt S ha hb hsn i
      exact ⟨fun e => g1 (e ▸ hp), fun e => g2 (e ▸ R.acl _ hp), fun e => g1 (e ▸ R.acl _ hp), fun e => g2 (e ▸ hp)⟩
  · intro l
    rw [R.cn l, countP_rem _ R.nd hp, countP_rem _ (nodup_rem R.nd _) hq, sz1, sz2]
    rw [show 2 * (k + 1) = 2 * k + 2 by omega, Nat.add_mul]
    omega
  · have e1 := length_rem R.nd hp
    have e2 := length_rem (nodup_rem R.nd _) hq
    have e3 := R.len
    omega

theorem per_is {s k : Nat} (hk : 0 < k) (hkn : k ≤ n) (h1 : itr f a b k s = s) (h2 : ∀ j, 0 < j → j < k → itr f a b j s ≠ s) : per n f a b s = k := by
  unfold per
  have e : (List.range n).find? (fun k => itr f a b (k + 1) s == s) = some (k - 1) := by
    rw [List.find?_range_eq_some]
    refine ⟨by rw [show k - 1 + 1 = k by omega]; simp [h1], List.mem_range.mpr (by omega), fun j hj => ?_⟩
    simp only [Bool.not_eq_true', beq_eq_false_iff_ne, ne_eq]
    exact h2 (j + 1) (by omega) (by omega)
  rw [e]
  show k - 1 + 1 = k
  omega

theorem InR.done {left0 left : List Nat} {s k : Nat} (S : Sts n f) (ha : a < n) (hb : b < n) (C : Clo n f a b left0) (hs : s ∈ left0) (R : InR n f a b left0 s k left) (hp : itr f a b k s ∉ left) :
    per n f a b s = k ∧ 0 < k ∧ Clo n f a b left := by
  have hsp := C.sub s hs
  have hsn := (mem_pts.mp hsp).1
  have hk : 0 < k := by
    rcases Nat.eq_zero_or_pos k with e | h
    · subst e
      rcases R.out s hs with h | ⟨j, hj, _⟩
      · exact absurd h hp
      · exact absurd hj (Nat.not_lt_zero _)
    · exact h
  have lt : ∀ j, itr f a b j s < n := itr_lt S ha hb hsn
  have inP : ∀ j, itr f a b j s ∈ pts n f a b := itr_pts S ha hb hsp
  have stepE : ∀ j, itr f a b (j + 1) s = f b (f a (itr f a b j s)) := fun _ => rfl
  -- the point at the end stood at the start
  have in0 : itr f a b k s ∈ left0 := by
    have all : ∀ j, itr f a b j s ∈ left0 := fun j => by
      induction j with
      | zero => exact hs
      | succ j ih => rw [stepE]; exact C.bcl _ (C.acl _ ih)
    exact all k
  have bsame : ∀ i j, f b (f a (itr f a b i s)) = f b (f a (itr f a b j s)) → f a (itr f a b i s) = f a (itr f a b j s) := fun i j e => S.cancel hb (S.lt _ _ ha (lt i)) (S.lt _ _ ha (lt j)) e
  have back : itr f a b k s = s := by
    obtain ⟨m, rfl⟩ : ∃ m, k = m + 1 := ⟨k - 1, by omega⟩
    rcases R.out _ in0 with h | ⟨j, hj, h | h⟩
    · exact absurd h hp
    · cases j with
      | zero => exact h
      | succ j =>
        rw [stepE, stepE] at h
        have q := bsame _ _ h
        exact absurd q.symm (R.dist j m (by omega) (by omega)).2.1
    · -- x = y: then the step behind y is the last y
      have q : itr f a b (j + 1) s = f a (itr f a b m s) := by
        rw [stepE j, ← h, stepE m, S.back b _ hb (S.lt _ _ ha (lt m))]
      rcases Nat.lt_trichotomy (j + 1) m with hlt | heq | hgt
      · exact absurd q (R.dist (j + 1) m hlt (by omega)).2.2.1
      · subst heq
        exact absurd q.symm (S.ne_right ha (lt _) (Ne.symm (mem_pts.mp (inP _)).2.1))
      · have ejm : j = m := by omega
        subst ejm
        rw [stepE] at q
        have hy := pts_a S ha hb (inP j)
        exact absurd q (S.ne_right hb (mem_pts.mp hy).1 (Ne.symm (mem_pts.mp hy).2.2.1))
  have hkn : k ≤ n := by
    have h1 : left0.length ≤ (List.range n).length := List.Nodup.length_le_of_subset C.nd fun z hz => List.mem_range.mpr (mem_pts.mp (C.sub z hz)).1
    rw [List.length_range] at h1
    have h2 := R.len
    omega
  have hmin : ∀ j, 0 < j → j < k → itr f a b j s ≠ s := fun j h0 h1 e => (R.dist 0 j h0 h1).1 e.symm
  refine ⟨per_is hk hkn back hmin, hk, R.nd, fun z hz => C.sub z (R.sub z hz), R.acl, fun z hz => ?_⟩
  have hzn := (mem_pts.mp (C.sub z (R.sub z hz))).1
  rcases R.out _ (C.bcl z (R.sub z hz)) with h | ⟨j, hj, h | h⟩
  · exact h
  · -- β z = x j
    cases j with
    | zero =>
      -- z = β s = the last y
      obtain ⟨m, rfl⟩ : ∃ m, k = m + 1 := ⟨k - 1, by omega⟩
      have e : f b z = f b (f a (itr f a b m s)) := by rw [h]; exact back.symm
      have q := S.cancel hb hzn (S.lt _ _ ha (lt m)) e
      exact absurd hz (q ▸ (R.gone m (by omega)).2)
    | succ j =>
      rw [stepE] at h
      have q := S.cancel hb hzn (S.lt _ _ ha (lt j)) h
      exact absurd hz (q ▸ (R.gone j (by omega)).2)
  · -- β z = y j: z = x (j + 1)
    have e : z = itr f a b (j + 1) s := by rw [stepE, ← h, S.back b z hb hzn]
    by_cases hj1 : j + 1 < k
    · exact absurd hz (e ▸ (R.gone (j + 1) hj1).1)
    · have : j + 1 = k := by omega
      rw [this] at e
      exact absurd hz (e ▸ hp)

/-! ### all rounds of two points -/
structure OutR (n : Nat) (f : Nat → Nat → Nat) (a b : Nat) (left found : List Nat) : Prop where
  clo : Clo n f a b left
  cn : ∀ l, cnt n f a b l = left.countP (szIs n f a b l) + l * found.count l
  pos : ∀ x ∈ found, 0 < x ∧ x ≤ 2 * n

theorem OutR.start (S : Sts n f) (ha : a < n) (hb : b < n) : OutR n f a b (pts n f a b) [] :=
  ⟨⟨nodup_pts n f a b, fun _ h => h, fun _ h => pts_a S ha hb h, fun _ h => pts_b S ha hb h⟩, fun l => by simp [cnt], fun _ h => by simp at h⟩
theorem per_le (n : Nat) (f : Nat → Nat → Nat) (a b x : Nat) : per n f a b x ≤ n := by
  unfold per
  cases h : (List.range n).find? fun k => itr f a b (k + 1) x == x with
  | none => exact Nat.zero_le _
  | some k =>
    have := List.mem_range.mp (List.mem_of_find?_eq_some h)
    show k + 1 ≤ n
    omega
theorem OutR.next {left left' found : List Nat} {s k : Nat} (S : Sts n f) (ha : a < n) (hb : b < n) (O : OutR n f a b left found) (hs : s ∈ left) (R : InR n f a b left s k left') (hp : itr f a b k s ∉ left') :
    OutR n f a b left' (found ++ [2 * k]) := by
  obtain ⟨h1, h2, h3⟩ := R.done S ha hb O.clo hs hp
  refine ⟨h3, fun l => ?_, fun x hx => ?_⟩
  · rw [O.cn l, R.cn l, List.count_append, List.count_singleton, Nat.mul_add]
    have e : szIs n f a b l s = (2 * k == l) := by unfold szIs; rw [h1]
    rw [e]
    by_cases q : 2 * k = l
    · subst q
      simp [b2n]
      omega
    · have q' : (2 * k == l) = false := by simp [q]
      rw [q']
      simp [b2n]
  · rcases List.mem_append.mp hx with hx | hx
    · exact O.pos x hx
    · have e := List.mem_singleton.mp hx
      have := per_le n f a b s
      omega

theorem count_repOf (c : Nat → Nat) (l : Nat) : ∀ n, (repOf c n).count l = if l < n then c l else 0
  | 0 => rfl
  | n + 1 => by
    have e : repOf c (n + 1) = repOf c n ++ List.replicate (c n) n := by
      unfold repOf
      rw [List.range_succ, List.flatMap_append]
      simp
    rw [e, List.count_append, count_repOf c l n, List.count_replicate]
    by_cases h : l < n
    · have e1 : (n == l) = false := by simp; omega
      rw [if_pos h, e1, if_pos (show l < n + 1 by omega)]
      simp
    · rw [if_neg h]
      by_cases h2 : n = l
      · subst h2
        simp
      · have e1 : (n == l) = false := by simpa using h2
        rw [e1, if_neg (show ¬ l < n + 1 by omega)]
        simp
theorem sorted_repOf (c : Nat → Nat) : ∀ n, (repOf c n).Pairwise (· ≤ ·) ∧ ∀ x ∈ repOf c n, x < n
  | 0 => ⟨.nil, fun _ h => by simp [repOf] at h⟩
  | n + 1 => by
    have e : repOf c (n + 1) = repOf c n ++ List.replicate (c n) n := by
      unfold repOf
      rw [List.range_succ, List.flatMap_append]
      simp
    obtain ⟨h1, h2⟩ := sorted_repOf c n
    rw [e]
    refine ⟨List.pairwise_append.mpr ⟨h1, ?_, fun x hx y hy => ?_⟩, fun x hx => ?_⟩
    · exact List.pairwise_replicate.mpr (.inr (Nat.le_refl _))
    · have := (List.mem_replicate.mp hy).2
      have := h2 x hx
      omega
    · rcases List.mem_append.mp hx with hx | hx
      · have := h2 x hx
        omega
      · have := (List.mem_replicate.mp hx).2
        omega

/-- behind all rounds: the sorted lengths -/
theorem OutR.done {found L : List Nat} (O : OutR n f a b [] found) (hp : found.Perm L) (hs : L.Pairwise (· ≤ ·)) : L = roundsOf n f a b := by
  have hcn : ∀ l, cnt n f a b l = l * found.count l := fun l => by rw [O.cn l]; simp
  have big : ∀ l, n < l → found.count l = 0 := fun l hl => by
    refine Classical.byContradiction fun h => ?_
    have h1 := hcn l
    have h2 : cnt n f a b l ≤ n := by
      unfold cnt
      refine Nat.le_trans List.countP_le_length ?_
      unfold pts
      refine Nat.le_trans (List.length_filter_le _ _) ?_
      rw [List.length_range]
      exact Nat.le_refl _
    have h3 : l * 1 ≤ l * found.count l := Nat.mul_le_mul_left l (by omega)
    omega
  refine List.Perm.eq_of_pairwise (le := fun x y => x ≤ y) (fun x y _ _ h1 h2 => Nat.le_antisymm h1 h2) hs (sorted_repOf _ _).1 ?_
  refine hp.symm.trans (List.perm_iff_count.mpr fun l => ?_)
  unfold roundsOf
  rw [count_repOf]
  by_cases h : l < n + 1
  · rw [if_pos h, hcn l]
    rcases Nat.eq_zero_or_pos l with e | h0
    · subst e
      rw [Nat.zero_mul, Nat.zero_div]
      refine List.count_eq_zero.mpr fun h => ?_
      have := (O.pos 0 h).1
      omega
    · rw [Nat.mul_div_cancel_left _ h0]
  · rw [if_neg h]
    exact big l (by omega)
end
end PK
end

section
set_option autoImplicit false
namespace PK
/-! ## likenesses, searched for -/
abbrev Prs := List (Nat × Nat)
def keysOf (l : Prs) : List Nat := l.map (·.1)
def valsOf (l : Prs) : List Nat := l.map (·.2)

/-- a partial map, one to one, and what waits to be put in -/
structure Wi (n : Nat) (f g : Nat → Nat → Nat) (found waiting : Prs) : Prop where
  kn : (keysOf found).Nodup
  vn : (valsOf found).Nodup
  lt : ∀ x ∈ found, x.1 < n ∧ x.2 < n
  wlt : ∀ x ∈ waiting, x.1 < n ∧ x.2 < n
  hom : ∀ x ∈ found, ∀ y ∈ found, (f x.1 y.1, g x.2 y.2) ∈ found ∨ (f x.1 y.1, g x.2 y.2) ∈ waiting
/-- a partial likeness on a subsystem -/
abbrev Par (n : Nat) (f g : Nat → Nat → Nat) (found : Prs) : Prop := Wi n f g found []
def Ext (ψ : Nat → Nat) (l : Prs) : Prop := ∀ x ∈ l, x.2 = ψ x.1

theorem mem_keys {l : Prs} {p : Nat} : p ∈ keysOf l ↔ ∃ i, (p, i) ∈ l := by
  unfold keysOf
  rw [List.mem_map]
  exact ⟨fun ⟨x, hx, e⟩ => ⟨x.2, by rw [← e]; exact hx⟩, fun ⟨i, h⟩ => ⟨_, h, rfl⟩⟩
theorem mem_vals {l : Prs} {i : Nat} : i ∈ valsOf l ↔ ∃ p, (p, i) ∈ l := by
  unfold valsOf
  rw [List.mem_map]
  exact ⟨fun ⟨x, hx, e⟩ => ⟨x.1, by rw [← e]; exact hx⟩, fun ⟨i, h⟩ => ⟨_, h, rfl⟩⟩
theorem key_uniq : ∀ {l : Prs}, (keysOf l).Nodup → ∀ {p i j : Nat}, (p, i) ∈ l → (p, j) ∈ l → i = j
  | [], _, _, _, _, h, _ => by simp at h
  | x :: l, hn, p, i, j, h1, h2 => by
    have hn : (x.1 :: keysOf l).Nodup := hn
    obtain ⟨n1, n2⟩ := List.nodup_cons.mp hn
    rcases List.mem_cons.mp h1 with e1 | m1 <;> rcases List.mem_cons.mp h2 with e2 | m2
    · rw [← e1] at e2
      exact (congrArg Prod.snd e2).symm
    · exact absurd (mem_keys.mpr ⟨j, m2⟩) (by rw [← e1] at n1; exact n1)
    · exact absurd (mem_keys.mpr ⟨i, m1⟩) (by rw [← e2] at n1; exact n1)
    · exact key_uniq n2 m1 m2
theorem val_uniq : ∀ {l : Prs}, (valsOf l).Nodup → ∀ {p q i : Nat}, (p, i) ∈ l → (q, i) ∈ l → p = q
  | [], _, _, _, _, h, _ => by simp at h
  | x :: l, hn, p, q, i, h1, h2 => by
    have hn : (x.2 :: valsOf l).Nodup := hn
    obtain ⟨n1, n2⟩ := List.nodup_cons.mp hn
    rcases List.mem_cons.mp h1 with e1 | m1 <;> rcases List.mem_cons.mp h2 with e2 | m2
    · rw [← e1] at e2
      exact (congrArg Prod.fst e2).symm
    · exact absurd (mem_vals.mpr ⟨q, m2⟩) (by rw [← e1] at n1; exact n1)
    · exact absurd (mem_vals.mpr ⟨p, m1⟩) (by rw [← e2] at n1; exact n1)
    · exact val_uniq n2 m1 m2

section
variable {n : Nat} {f g : Nat → Nat → Nat} {found waiting ws : Prs} {p i : Nat}
theorem Wi.len (W : Wi n f g found waiting) : found.length ≤ n := by
  have h := List.Nodup.length_le_of_subset W.kn (l₂ := List.range n) fun x hx => by
    obtain ⟨i, h⟩ := mem_keys.mp hx
    exact List.mem_range.mpr (W.lt _ h).1
  unfold keysOf at h
  rw [List.length_map, List.length_range] at h
  exact h
theorem Wi.start (P : Par n f g found) (hp : p < n) (hi : i < n) : Wi n f g found [(p, i)] :=
  ⟨P.kn, P.vn, P.lt, fun x hx => by rw [List.mem_singleton.mp hx]; exact ⟨hp, hi⟩, fun x hx y hy => (P.hom x hx y hy).elim .inl fun h => by simp at h⟩
theorem Par.nil : Par n f g [] := ⟨List.nodup_nil, List.nodup_nil, fun _ h => by simp at h, fun _ h => by simp at h, fun _ h => by simp at h⟩
/-- one that is there already -/
theorem Wi.drop (W : Wi n f g found (ws ++ [(p, i)])) (h : (p, i) ∈ found) : Wi n f g found ws :=
  ⟨W.kn, W.vn, W.lt, fun x hx => W.wlt x (List.mem_append_left _ hx), fun x hx y hy => by
    rcases W.hom x hx y hy with q | q
    · exact .inl q
    · rcases List.mem_append.mp q with q | q
      · exact .inr q
      · exact .inl (by rw [List.mem_singleton.mp q]; exact h)⟩
def moreOf (f g : Nat → Nat → Nat) (p i : Nat) (found : Prs) : Prs := found.map fun x => (f p x.1, g i x.2)
/-- a new one -/
theorem Wi.push (S : Sts n f) (T : Sts n g) (W : Wi n f g found (ws ++ [(p, i)])) (h1 : p ∉ keysOf found) (h2 : i ∉ valsOf found) :
    Wi n f g (found ++ [(p, i)]) (ws ++ moreOf f g p i found) := by
  obtain ⟨hp, hi⟩ := W.wlt (p, i) (List.mem_append_right _ (List.mem_singleton.mpr rfl))
  refine ⟨?_, ?_, fun x hx => ?_, fun x hx => ?_, fun x hx y hy => ?_⟩
  · unfold keysOf
    rw [List.map_append]
    exact List.nodup_append.mpr ⟨W.kn, by simp, fun a ha b hb => by
      rw [List.mem_singleton.mp hb]
      rintro rfl
      exact h1 ha⟩
  · unfold valsOf
    rw [List.map_append]
    exact List.nodup_append.mpr ⟨W.vn, by simp, fun a ha b hb => by
      rw [List.mem_singleton.mp hb]
      rintro rfl
      exact h2 ha⟩
  · rcases List.mem_append.mp hx with hx | hx
    · exact W.lt x hx
    · rw [List.mem_singleton.mp hx]
      exact ⟨hp, hi⟩
  · rcases List.mem_append.mp hx with hx | hx
    · exact W.wlt x (List.mem_append_left _ hx)
    · obtain ⟨y, hy, rfl⟩ := List.mem_map.mp hx
      exact ⟨S.lt _ _ hp (W.lt y hy).1, T.lt _ _ hi (W.lt y hy).2⟩
  · rcases List.mem_append.mp hx with hx | hx <;> rcases List.mem_append.mp hy with hy | hy
    · rcases W.hom x hx y hy with q | q
      · exact .inl (List.mem_append_left _ q)
      · rcases List.mem_append.mp q with q | q
        · exact .inr (List.mem_append_left _ q)
        · exact .inl (List.mem_append_right _ q)
    · rw [List.mem_singleton.mp hy]
      refine .inr (List.mem_append_right _ (List.mem_map.mpr ⟨x, hx, ?_⟩))
      simp only [S.comm p x.1 hp (W.lt x hx).1, T.comm i x.2 hi (W.lt x hx).2]
    · rw [List.mem_singleton.mp hx]
      exact .inr (List.mem_append_right _ (List.mem_map.mpr ⟨y, hy, rfl⟩))
    · rw [List.mem_singleton.mp hx, List.mem_singleton.mp hy]
      simp only [S.idem p hp, T.idem i hi]
      exact .inl (List.mem_append_right _ (List.mem_singleton.mpr rfl))
/-- what falls -/
def msr (n : Nat) (found waiting : Prs) : Nat := (n - found.length) * (n + 1) + waiting.length
theorem msr_drop : msr n found ws < msr n found (ws ++ [(p, i)]) := by
  unfold msr
  rw [List.length_append]
  simp
theorem msr_push (S : Sts n f) (T : Sts n g) (W : Wi n f g found (ws ++ [(p, i)])) (h1 : p ∉ keysOf found) (h2 : i ∉ valsOf found) :
    msr n (found ++ [(p, i)]) (ws ++ moreOf f g p i found) < msr n found (ws ++ [(p, i)]) := by
  have h := (W.push S T h1 h2).len
  unfold msr moreOf
  rw [List.length_append] at h
  simp only [List.length_append, List.length_map, List.length_singleton] at h ⊢
  obtain ⟨k, hk⟩ : ∃ k, n - found.length = k + 1 := ⟨n - found.length - 1, by omega⟩
  have e : n - (found.length + 1) = k := by omega
  rw [hk, e, Nat.add_mul]
  omega
/-- none is refused that belongs to a likeness -/
theorem Ext.keeps {ψ : Nat → Nat} (I : Iso n f g ψ) (W : Wi n f g found (ws ++ [(p, i)])) (X : Ext ψ found) (Y : Ext ψ (ws ++ [(p, i)])) (h : p ∈ keysOf found ∨ i ∈ valsOf found) : (p, i) ∈ found := by
  have e : i = ψ p := Y (p, i) (List.mem_append_right _ (List.mem_singleton.mpr rfl))
  obtain ⟨hp, hi⟩ := W.wlt (p, i) (List.mem_append_right _ (List.mem_singleton.mpr rfl))
  rcases h with h | h
  · obtain ⟨j, hj⟩ := mem_keys.mp h
    have e2 : j = ψ p := X _ hj
    rw [e, ← e2]
    exact hj
  · obtain ⟨q, hq⟩ := mem_vals.mp h
    have e2 : i = ψ q := X _ hq
    have e3 : q = p := I.inj _ _ (W.lt _ hq).1 hp (by rw [← e2, e])
    rw [← e3]
    exact hq
theorem Ext.push {ψ : Nat → Nat} (I : Iso n f g ψ) (W : Wi n f g found (ws ++ [(p, i)])) (X : Ext ψ found) (Y : Ext ψ (ws ++ [(p, i)])) :
    Ext ψ (found ++ [(p, i)]) ∧ Ext ψ (ws ++ moreOf f g p i found) := by
  have hpi : (p, i) ∈ ws ++ [(p, i)] := List.mem_append_right _ (List.mem_singleton.mpr rfl)
  refine ⟨fun x hx => ?_, fun x hx => ?_⟩
  · rcases List.mem_append.mp hx with hx | hx
    · exact X x hx
    · exact Y x (List.mem_append_right _ hx)
  · rcases List.mem_append.mp hx with hx | hx
    · exact Y x (List.mem_append_left _ hx)
    · obtain ⟨y, hy, rfl⟩ := List.mem_map.mp hx
      show g i y.2 = ψ (f p y.1)
      have e1 : i = ψ p := Y _ hpi
      rw [e1, X y hy, I.hom _ _ (W.wlt _ hpi).1 (W.lt y hy).1]

/-- what the points of a list make: in every closed set over them -/
def Gen (n : Nat) (f : Nat → Nat → Nat) (base : List Nat) (p : Nat) : Prop :=
  ∀ C : Nat → Prop, (∀ x y, x < n → y < n → C x → C y → C (f x y)) → (∀ x ∈ base, C x) → C p
theorem Gen.mem {base : List Nat} (h : p ∈ base) : Gen n f base p := fun _ _ q => q p h
theorem Gen.mono {base base' : List Nat} (h : Gen n f base p) (s : ∀ x ∈ base, x ∈ base') : Gen n f base' p := fun C c q => h C c fun x hx => q x (s x hx)
theorem Gen.mk {base : List Nat} {q : Nat} (h1 : Gen n f base p) (h2 : Gen n f base q) (hp : p < n) (hq : q < n) : Gen n f base (f p q) := fun C c b => c p q hp hq (h1 C c b) (h2 C c b)

/-- the map that a partial one tells -/
def mapOf (l : Prs) (p : Nat) : Nat := (l.lookup p).getD 0
theorem lookup_of_mem : ∀ {l : Prs}, (keysOf l).Nodup → (p, i) ∈ l → l.lookup p = some i
  | [], _, h => by simp at h
  | x :: l, hn, h => by
    have hn : (x.1 :: keysOf l).Nodup := hn
    obtain ⟨n1, n2⟩ := List.nodup_cons.mp hn
    rcases List.mem_cons.mp h with e | m
    · subst e
      simp
    · have hne : (p == x.1) = false := by
        rw [beq_eq_false_iff_ne]
        rintro rfl
        exact n1 (mem_keys.mpr ⟨i, m⟩)
      show (match p == x.1 with | true => some x.2 | false => l.lookup p) = some i
      rw [hne]
      exact lookup_of_mem n2 m
theorem mem_of_lookup : ∀ {l : Prs}, l.lookup p = some i → (p, i) ∈ l
  | [], h => by simp at h
  | x :: l, h => by
    have h : (match p == x.1 with | true => some x.2 | false => l.lookup p) = some i := h
    cases e : p == x.1 with
    | true =>
      rw [e] at h
      have e1 : x.2 = i := Option.some.inj h
      have e2 : p = x.1 := beq_iff_eq.mp e
      subst e1 e2
      exact List.mem_cons_self ..
    | false =>
      rw [e] at h
      exact List.mem_cons_of_mem _ (mem_of_lookup h)
theorem lookup_none : ∀ {l : Prs}, p ∉ keysOf l → l.lookup p = none := fun {l} h => by
  cases e : l.lookup p with
  | none => rfl
  | some i => exact absurd (mem_keys.mpr ⟨i, mem_of_lookup e⟩) h

/-- all points have an image: a likeness -/
theorem Par.total (P : Par n f g found) {base : List Nat} (hb : ∀ x ∈ base, x ∈ keysOf found) (hg : ∀ q, q < n → Gen n f base q) :
    (∀ q, q < n → (q, mapOf found q) ∈ found) ∧ Iso n f g (mapOf found) := by
  have all : ∀ q, q < n → q ∈ keysOf found := fun q hq => by
    refine hg q hq (fun x => x ∈ keysOf found) (fun x y _ _ hx hy => ?_) hb
    obtain ⟨i, hi⟩ := mem_keys.mp hx
    obtain ⟨j, hj⟩ := mem_keys.mp hy
    rcases P.hom _ hi _ hj with h | h
    · exact mem_keys.mpr ⟨_, h⟩
    · simp at h
  have mem : ∀ q, q < n → (q, mapOf found q) ∈ found := fun q hq => by
    obtain ⟨i, hi⟩ := mem_keys.mp (all q hq)
    unfold mapOf
    rw [lookup_of_mem P.kn hi]
    exact hi
  refine ⟨mem, fun a ha => (P.lt _ (mem a ha)).2, fun a b ha hb e => ?_, fun a b ha hb => ?_⟩
  · have h1 := mem a ha
    rw [e] at h1
    exact val_uniq P.vn h1 (mem b hb)
  · rcases P.hom _ (mem a ha) _ (mem b hb) with h | h
    · unfold mapOf at h ⊢
      rw [lookup_of_mem P.kn h]
      rfl
    · simp at h
end
end PK
end

section
set_option autoImplicit false
namespace PK
/-! ## the program's sums, as plain functions -/
def ptAt (n x l : Int) : Int := x + n * (l % 3)
def inOrder (n a b : Int) : Int × Int × Int := if (a / n + 1) % 3 = b / n then (a % n, a / n, b % n) else (b % n, b / n, a % n)
def halfOf (n s : Int) : Int := (s % n) / 2 + (if s % n % 2 = 1 then n / 2 else 0)
def twiceOf (n x : Int) : Int := if x < n / 2 then 2 * x else 2 * x - n + 1
def thirdBose (n a b : Int) : Int :=
  if a / n = b / n then ptAt n ((a % n + b % n) * ((n + 1) / 2) % n) (a / n + 1)
  else if a % n = b % n then ptAt n (a % n) (3 - a / n - b / n)
  else ptAt n ((2 * (inOrder n a b).2.2 - (inOrder n a b).1) % n) (inOrder n a b).2.1
def thirdSkolem (n a b : Int) : Int :=
  if a = 3 * n ∨ b = 3 * n then
    (if (a + b - 3 * n) % n ≥ n / 2 then ptAt n ((a + b - 3 * n) % n - n / 2) ((a + b - 3 * n) / n + 1) else ptAt n ((a + b - 3 * n) % n + n / 2) ((a + b - 3 * n) / n - 1))
  else if a / n = b / n then ptAt n (halfOf n (a % n + b % n)) (a / n + 1)
  else if (inOrder n a b).1 = (inOrder n a b).2.2 ∧ (inOrder n a b).1 < n / 2 then ptAt n (inOrder n a b).1 ((inOrder n a b).2.1 + 2)
  else if (inOrder n a b).1 ≥ n / 2 ∧ (inOrder n a b).2.2 = (inOrder n a b).1 - n / 2 then 3 * n
  else ptAt n ((twiceOf n (inOrder n a b).2.2 - (inOrder n a b).1) % n) (inOrder n a b).2.1
/-- figure by figure, by a bound of the turns -/
def figs : Nat → Int → Int → Int → Int → Int
  | 0, _, _, found, _ => found
  | k + 1, a, b, found, step => if a > 0 ∨ b > 0 then figs k (a / 3) (b / 3) (found + -(a % 3 + b % 3) % 3 * step) (step * 3) else found
def figsApart (a b : Int) : Int := figs (a + b).toNat a b 0 1
theorem figs_more : ∀ (k m : Nat) (a b found step : Int), 0 ≤ a → 0 ≤ b → (a + b).toNat ≤ k → k ≤ m → figs m a b found step = figs k a b found step
  | 0, 0, _, _, _, _, _, _, _, _ => rfl
  | 0, m + 1, a, b, found, step, ha, hb, h, _ => by
    show (if a > 0 ∨ b > 0 then _ else found) = found
    rw [if_neg (by omega)]
  | k + 1, 0, _, _, _, _, _, _, _, h => by omega
  | k + 1, m + 1, a, b, found, step, ha, hb, h, hm => by
    show (if a > 0 ∨ b > 0 then figs m (a / 3) (b / 3) (found + -(a % 3 + b % 3) % 3 * step) (step * 3) else found) = (if a > 0 ∨ b > 0 then figs k (a / 3) (b / 3) (found + -(a % 3 + b % 3) % 3 * step) (step * 3) else found)
    by_cases c : a > 0 ∨ b > 0
    · rw [if_pos c, if_pos c]
      exact figs_more k m _ _ _ _ (by omega) (by omega) (by omega) (by omega)
    · rw [if_neg c, if_neg c]

/-! ## systems as trees -/
abbrev Tri := Nat × Nat × Nat
inductive Tree where
  | bose (n : Nat) | skolem (n : Nat) | affine (k : Nat) | binary (k : Nat)
  | listed (n : Nat) (ts : List Tri)
  | double (t : Tree) | product (s t : Tree)

def sizeOf : Tree → Nat
  | .bose n => n
  | .skolem n => n
  | .affine k => 3 ^ k
  | .binary k => 2 ^ k - 1
  | .listed n _ => n
  | .double t => 2 * sizeOf t + 1
  | .product s t => sizeOf s * sizeOf t
def depth : Tree → Nat
  | .double t => depth t + 1
  | .product s t => max (depth s) (depth t) + 1
  | _ => 0
def partsOf : Tree → Nat
  | .double t => 1 + partsOf t
  | .product s t => 1 + partsOf s + partsOf t
  | _ => 1
/-- ascending -/
def sort3 (t : Tri) : Tri :=
  if t.1 < t.2.1 then (if t.2.1 < t.2.2 then t else if t.1 < t.2.2 then (t.1, t.2.2, t.2.1) else (t.2.2, t.1, t.2.1))
  else if t.1 < t.2.2 then (t.2.1, t.1, t.2.2) else if t.2.1 < t.2.2 then (t.2.1, t.2.2, t.1) else (t.2.2, t.2.1, t.1)
def norm : Tree → Tree
  | .listed n ts => .listed n (ts.map sort3)
  | .double t => .double (norm t)
  | .product s t => .product (norm s) (norm t)
  | t => t
def inTri (a : Int) (t : Tri) : Bool := decide ((t.1 : Int) = a) || (decide ((t.2.1 : Int) = a) || decide ((t.2.2 : Int) = a))
def triSum (t : Tri) : Int := (t.1 : Int) + ((t.2.1 : Int) + (t.2.2 : Int))
/-- the third point by a list of threes -/
def byThrees (ts : List Tri) (a b : Int) : Option Int := (ts.find? fun t => inTri a t && inTri b t).map fun t => triSum t - a - b
/-- the program's third_of -/
def thirdOf : Tree → Int → Int → Option Int
  | .bose n, a, b => if 0 < (n : Int) / 3 ∧ (n : Int) / 3 < 1000000 then some (thirdBose ((n : Int) / 3) a b) else none
  | .skolem n, a, b => if 0 < ((n : Int) - 1) / 3 ∧ ((n : Int) - 1) / 3 < 1000000 then some (thirdSkolem (((n : Int) - 1) / 3) a b) else none
  | .affine _, a, b => if 0 ≤ a ∧ 0 ≤ b then some (figsApart a b) else none
  | .binary _, a, b => if 0 ≤ a ∧ 0 ≤ b then some ((((a + 1).toNat ^^^ (b + 1).toNat : Nat) : Int) - 1) else none
  | .listed _ ts, a, b => byThrees ts a b
  | .double t, a, b =>
    if 0 < (sizeOf t : Int) ∧ (sizeOf t : Int) < 1000000 then
      (if a = 2 * (sizeOf t : Int) ∨ b = 2 * (sizeOf t : Int) then
        some (if a + b - 2 * (sizeOf t : Int) < sizeOf t then a + b - 2 * (sizeOf t : Int) + sizeOf t else a + b - 2 * (sizeOf t : Int) - sizeOf t)
      else if a % (sizeOf t : Int) = b % (sizeOf t : Int) then some (2 * (sizeOf t : Int))
      else (thirdOf t (a % (sizeOf t : Int)) (b % (sizeOf t : Int))).map fun c => c + if decide (a < (sizeOf t : Int)) = decide (b < (sizeOf t : Int)) then 0 else (sizeOf t : Int))
    else none
  | .product s t, a, b =>
    if 0 < (sizeOf t : Int) ∧ (sizeOf t : Int) < 1000000 then
      (if a / (sizeOf t : Int) = b / (sizeOf t : Int) then some (a / (sizeOf t : Int)) else thirdOf s (a / (sizeOf t : Int)) (b / (sizeOf t : Int))).bind fun x =>
      (if a % (sizeOf t : Int) = b % (sizeOf t : Int) then some (a % (sizeOf t : Int)) else thirdOf t (a % (sizeOf t : Int)) (b % (sizeOf t : Int))).map fun y => x * sizeOf t + y
    else none
def bothOf (t : Tree) (a b : Int) : Option Int := if a = b then some a else thirdOf t a b

/-! ## the law's own sums -/
def lawBose (m t : Nat) : List Tri := (List.range m).flatMap fun x => (x, x + m, x + 2 * m) :: (List.range x).flatMap fun y => (List.range 3).map fun i => (x + m * i, y + m * i, (x + y) * (t + 1) % m + m * ((i + 1) % 3))
def lawZ (m t x y : Nat) : Nat := if (x + y) % m % 2 = 0 then (x + y) % m / 2 else t + (x + y) % m / 2
def lawSkolem (n m t : Nat) : List Tri := (List.range m).flatMap fun x =>
  (if x < t then (x, x + m, x + 2 * m) :: (List.range 3).map fun i => (n - 1, t + x + m * i, x + m * ((i + 1) % 3)) else []) ++
  (List.range x).flatMap fun y => (List.range 3).map fun i => (x + m * i, y + m * i, lawZ m t x y + m * ((i + 1) % 3))
def lawThrees : Tree → List Tri
  | .bose n => lawBose (n / 3) ((n / 3 - 1) / 2)
  | .skolem n => lawSkolem n ((n - 1) / 3) ((n - 1) / 3 / 2)
  | _ => []
def lawAff : Nat → Int → Int → Int → Int → Int
  | 0, _, _, total, _ => total
  | k + 1, a, b, total, step => lawAff k (a / 3) (b / 3) (total + (-(a % 3) - b % 3) % 3 * step) (step * 3)
def lawBin : Nat → Int → Int → Int → Int → Int
  | 0, _, _, total, _ => total
  | k + 1, a, b, total, step => lawBin k (a / 2) (b / 2) (if a % 2 ≠ b % 2 then total + step else total) (step * 2)
def lawThird : Tree → Int → Int → Option Int
  | .listed _ ts, a, b => byThrees ts a b
  | .affine k, a, b => some (lawAff k a b 0 1)
  | .binary k, a, b => some (lawBin k (a + 1) (b + 1) 0 1 - 1)
  | .double t, a, b =>
    if a = 2 * (sizeOf t : Int) ∨ b = 2 * (sizeOf t : Int) then
      some (if a + b - 2 * (sizeOf t : Int) < sizeOf t then a + b - 2 * (sizeOf t : Int) + sizeOf t else a + b - 2 * (sizeOf t : Int) - sizeOf t)
    else if a ≥ (sizeOf t : Int) ∧ b ≥ (sizeOf t : Int) then lawThird t (a - sizeOf t) (b - sizeOf t)
    else if a < (sizeOf t : Int) ∧ b < (sizeOf t : Int) then lawThird t a b
    else if (if b < a then b else a) = (if b > a then b else a) - (sizeOf t : Int) then some (2 * (sizeOf t : Int))
    else (lawThird t (if b < a then b else a) ((if b > a then b else a) - (sizeOf t : Int))).map fun c => c + (sizeOf t : Int)
  | .product s t, a, b =>
    if 0 < (sizeOf t : Int) ∧ (sizeOf t : Int) < 1000000 then
      (if a / (sizeOf t : Int) = b / (sizeOf t : Int) then some (a / (sizeOf t : Int)) else lawThird s (a / (sizeOf t : Int)) (b / (sizeOf t : Int))).bind fun x =>
      (if a % (sizeOf t : Int) = b % (sizeOf t : Int) then some (a % (sizeOf t : Int)) else lawThird t (a % (sizeOf t : Int)) (b % (sizeOf t : Int))).map fun y => x * sizeOf t + y
    else none
  | .bose n, a, b => byThrees (lawThrees (.bose n)) a b
  | .skolem n, a, b => byThrees (lawThrees (.skolem n)) a b

/-! ## what is checked -/
def pairs3 (t : Tri) : List (Nat × Nat) := [(t.1, t.2.1), (t.1, t.2.2), (t.2.1, t.2.2)]
def pairsL (ts : List Tri) : List (Nat × Nat) := ts.flatMap pairs3
/-- a list of threes passes the program's check -/
structure Chk (n : Nat) (ts : List Tri) : Prop where
  lt : ∀ t ∈ ts, t.1 < n ∧ t.2.1 < n ∧ t.2.2 < n
  asc : ∀ t ∈ ts, (sort3 t).1 < (sort3 t).2.1 ∧ (sort3 t).2.1 < (sort3 t).2.2
  nd : (pairsL (ts.map sort3)).Nodup
  len : (pairsL (ts.map sort3)).length = n * (n - 1) / 2
/-- a tree that the program takes (small ones) -/
def okT : Tree → Prop
  | .bose n => 3 ≤ n ∧ n ≤ 60 ∧ n % 6 = 3
  | .skolem n => 7 ≤ n ∧ n ≤ 60 ∧ n % 6 = 1
  | .affine k => 1 ≤ k ∧ k ≤ 3
  | .binary k => 2 ≤ k ∧ k ≤ 5
  | .listed n ts => 1 ≤ n ∧ n ≤ 60 ∧ ts.length ≤ 1000 ∧ Chk n ts
  | .double t => okT t ∧ sizeOf t ≤ 60
  | .product s t => okT s ∧ okT t ∧ sizeOf s ≤ 60 ∧ sizeOf t ≤ 60
/-- a tree and its table, by the program and by the law -/
structure Sys (t : Tree) (n : Nat) (f : Nat → Nat → Nat) : Prop where
  ok : okT t
  dep : depth t ≤ 1
  size : sizeOf t = n
  third : ∀ a b : Nat, a < n → b < n → a ≠ b → thirdOf (norm t) a b = some ((f a b : Nat) : Int)
  lthird : ∀ a b : Nat, a < n → b < n → a ≠ b → lawThird t a b = some ((f a b : Nat) : Int)
def tabF (t : Tree) (a b : Nat) : Nat := if a = b then a else ((thirdOf (norm t) a b).getD 0).toNat
/-- all of it, decided -/
def stsB (n : Nat) (f : Nat → Nat → Nat) : Bool := (List.range n).all fun a => (f a a == a) && (List.range n).all fun b => decide (f a b < n) && ((f a b == f b a) && (f a (f a b) == b))
theorem stsB_ok {n : Nat} {f : Nat → Nat → Nat} (h : stsB n f = true) : Sts n f := by
  have h1 : ∀ a, a < n → f a a = a ∧ ∀ b, b < n → f a b < n ∧ f a b = f b a ∧ f a (f a b) = b := fun a ha => by
    have q := List.all_eq_true.mp h a (List.mem_range.mpr ha)
    simp only [Bool.and_eq_true, beq_iff_eq] at q
    refine ⟨q.1, fun b hb => ?_⟩
    have r := List.all_eq_true.mp q.2 b (List.mem_range.mpr hb)
    simp only [Bool.and_eq_true, beq_iff_eq, decide_eq_true_eq] at r
    exact r
  exact ⟨fun a b ha hb => ((h1 a ha).2 b hb).1, fun a ha => (h1 a ha).1, fun a b ha hb => ((h1 a ha).2 b hb).2.1, fun a b ha hb => ((h1 a ha).2 b hb).2.2⟩
def sysB (t : Tree) (n : Nat) : Bool := (List.range n).all fun a => (List.range n).all fun b => (a == b) || (decide (thirdOf (norm t) a b = some ((tabF t a b : Nat) : Int)) && decide (lawThird t a b = some ((tabF t a b : Nat) : Int)))
theorem sysB_ok {t : Tree} {n : Nat} (h : sysB t n = true) (ok : okT t) (dep : depth t ≤ 1) (size : sizeOf t = n) : Sys t n (tabF t) := by
  have h1 : ∀ a b : Nat, a < n → b < n → a ≠ b → thirdOf (norm t) a b = some ((tabF t a b : Nat) : Int) ∧ lawThird t a b = some ((tabF t a b : Nat) : Int) := fun a b ha hb hab => by
    have q := List.all_eq_true.mp (List.all_eq_true.mp h a (List.mem_range.mpr ha)) b (List.mem_range.mpr hb)
    simp only [Bool.or_eq_true, Bool.and_eq_true, beq_iff_eq, decide_eq_true_eq] at q
    exact q.resolve_left hab
  exact ⟨ok, dep, size, fun a b ha hb hab => (h1 a b ha hb hab).1, fun a b ha hb hab => (h1 a b ha hb hab).2⟩
end PK
end

section
set_option autoImplicit false
namespace PK
theorem sts_bose9 : Sts 9 (tabF (.bose 9)) := stsB_ok (by decide +kernel)
theorem sys_bose9 : Sys (.bose 9) 9 (tabF (.bose 9)) := sysB_ok (by decide +kernel) ⟨by decide, by decide, by decide⟩ (by decide) (by decide)
theorem sts_bose15 : Sts 15 (tabF (.bose 15)) := stsB_ok (by decide +kernel)
theorem sys_bose15 : Sys (.bose 15) 15 (tabF (.bose 15)) := sysB_ok (by decide +kernel) ⟨by decide, by decide, by decide⟩ (by decide) (by decide)
theorem sts_sk7 : Sts 7 (tabF (.skolem 7)) := stsB_ok (by decide +kernel)
theorem sys_sk7 : Sys (.skolem 7) 7 (tabF (.skolem 7)) := sysB_ok (by decide +kernel) ⟨by decide, by decide, by decide⟩ (by decide) (by decide)
theorem sts_sk13 : Sts 13 (tabF (.skolem 13)) := stsB_ok (by decide +kernel)
theorem sys_sk13 : Sys (.skolem 13) 13 (tabF (.skolem 13)) := sysB_ok (by decide +kernel) ⟨by decide, by decide, by decide⟩ (by decide) (by decide)
theorem sts_aff2 : Sts 9 (tabF (.affine 2)) := stsB_ok (by decide +kernel)
theorem sys_aff2 : Sys (.affine 2) 9 (tabF (.affine 2)) := sysB_ok (by decide +kernel) ⟨by decide, by decide⟩ (by decide) (by decide)
theorem sts_aff1 : Sts 3 (tabF (.affine 1)) := stsB_ok (by decide +kernel)
theorem sys_aff1 : Sys (.affine 1) 3 (tabF (.affine 1)) := sysB_ok (by decide +kernel) ⟨by decide, by decide⟩ (by decide) (by decide)
theorem sts_bin3 : Sts 7 (tabF (.binary 3)) := stsB_ok (by decide +kernel)
theorem sys_bin3 : Sys (.binary 3) 7 (tabF (.binary 3)) := sysB_ok (by decide +kernel) ⟨by decide, by decide⟩ (by decide) (by decide)
theorem sts_bin2 : Sts 3 (tabF (.binary 2)) := stsB_ok (by decide +kernel)
theorem sys_bin2 : Sys (.binary 2) 3 (tabF (.binary 2)) := sysB_ok (by decide +kernel) ⟨by decide, by decide⟩ (by decide) (by decide)
theorem sts_dsk7 : Sts 15 (tabF (.double (.skolem 7))) := stsB_ok (by decide +kernel)
theorem sys_dsk7 : Sys (.double (.skolem 7)) 15 (tabF (.double (.skolem 7))) := sysB_ok (by decide +kernel) ⟨⟨by decide, by decide, by decide⟩, by decide⟩ (by decide) (by decide)
theorem sts_db3 : Sts 7 (tabF (.double (.bose 3))) := stsB_ok (by decide +kernel)
theorem sys_db3 : Sys (.double (.bose 3)) 7 (tabF (.double (.bose 3))) := sysB_ok (by decide +kernel) ⟨⟨by decide, by decide, by decide⟩, by decide⟩ (by decide) (by decide)
theorem sts_pr : Sts 9 (tabF (.product (.affine 1) (.bose 3))) := stsB_ok (by decide +kernel)
theorem sys_pr : Sys (.product (.affine 1) (.bose 3)) 9 (tabF (.product (.affine 1) (.bose 3))) := sysB_ok (by decide +kernel) ⟨⟨by decide, by decide⟩, ⟨by decide, by decide, by decide⟩, by decide, by decide⟩ (by decide) (by decide)
end PK
end

section
set_option autoImplicit false
namespace PK
/-! ## systems told by all their threes -/
def memT (x : Nat) (t : Tri) : Prop := x = t.1 ∨ x = t.2.1 ∨ x = t.2.2
structure Lists (n : Nat) (h : Nat → Nat → Nat) (ts : List Tri) : Prop where
  lt : ∀ t ∈ ts, t.1 < n ∧ t.2.1 < n ∧ t.2.2 < n
  ne : ∀ t ∈ ts, t.1 ≠ t.2.1 ∧ t.1 ≠ t.2.2 ∧ t.2.1 ≠ t.2.2
  third : ∀ t ∈ ts, h t.1 t.2.1 = t.2.2
  once : ts.Pairwise fun t u => ∀ x y, x ≠ y → memT x t → memT y t → memT x u → memT y u → False
  all : ∀ a b, a < n → b < n → a ≠ b → ∃ t ∈ ts, memT a t ∧ memT b t

theorem inTri_nat (a : Nat) (t : Tri) : inTri (a : Int) t = true ↔ memT a t := by
  unfold inTri memT
  simp only [Bool.or_eq_true, decide_eq_true_eq]
  omega

/-- of a three's points two have the last one as third -/
theorem tri_third {n : Nat} {h : Nat → Nat → Nat} (S : Sts n h) {t : Tri} (l : t.1 < n ∧ t.2.1 < n ∧ t.2.2 < n) (th : h t.1 t.2.1 = t.2.2) {a b : Nat} (hab : a ≠ b) (ha : memT a t) (hb : memT b t) :
    ((h a b : Nat) : Int) = triSum t - a - b := by
  obtain ⟨l1, l2, l3⟩ := l
  have e1 : h t.1 t.2.2 = t.2.1 := by rw [← th, S.back _ _ l1 l2]
  have e2 : h t.2.1 t.2.2 = t.1 := by rw [← th, S.comm t.1 t.2.1 l1 l2, S.back _ _ l2 l1]
  unfold triSum
  rcases ha with rfl | rfl | rfl <;> rcases hb with rfl | rfl | rfl
  · exact absurd rfl hab
  · rw [th]; omega
  · rw [e1]; omega
  · rw [S.comm _ _ l2 l1, th]; omega
  · exact absurd rfl hab
  · rw [e2]; omega
  · rw [S.comm _ _ l3 l1, e1]; omega
  · rw [S.comm _ _ l3 l2, e2]; omega
  · exact absurd rfl hab

theorem Lists.by {n : Nat} {h : Nat → Nat → Nat} {ts : List Tri} (S : Sts n h) (L : Lists n h ts) {a b : Nat} (ha : a < n) (hb : b < n) (hab : a ≠ b) : byThrees ts a b = some ((h a b : Nat) : Int) := by
  unfold byThrees
  cases e : ts.find? fun t => inTri a t && inTri b t with
  | none =>
    obtain ⟨t, ht, h1, h2⟩ := L.all a b ha hb hab
    have q := List.find?_eq_none.mp e t ht
    rw [(inTri_nat a t).mpr h1, (inTri_nat b t).mpr h2] at q
    exact absurd rfl q
  | some t =>
    have q := List.find?_some e
    simp only [Bool.and_eq_true] at q
    have ht := List.mem_of_find?_eq_some e
    show some _ = _
    rw [tri_third S (L.lt t ht) (L.third t ht) hab ((inTri_nat a t).mp q.1) ((inTri_nat b t).mp q.2)]

/-! ### sorted threes -/
theorem memT_sort3 (x : Nat) (t : Tri) : memT x (sort3 t) ↔ memT x t := by
  unfold sort3 memT
  split <;> (try split) <;> (try split) <;> simp only <;> omega
theorem triSum_sort3 (t : Tri) : triSum (sort3 t) = triSum t := by
  unfold sort3 triSum
  split <;> (try split) <;> (try split) <;> simp only <;> omega
theorem sort3_asc {t : Tri} (h : t.1 ≠ t.2.1 ∧ t.1 ≠ t.2.2 ∧ t.2.1 ≠ t.2.2) : (sort3 t).1 < (sort3 t).2.1 ∧ (sort3 t).2.1 < (sort3 t).2.2 := by
  unfold sort3
  split <;> (try split) <;> (try split) <;> (try simp only) <;> omega
theorem inTri_sort3 (a : Int) (t : Tri) : inTri a (sort3 t) = inTri a t := by
  rw [Bool.eq_iff_iff]
  unfold inTri sort3
  split <;> (try split) <;> (try split) <;> simp only [Bool.or_eq_true, decide_eq_true_eq] <;> omega
theorem byThrees_sort3 (ts : List Tri) (a b : Int) : byThrees (ts.map sort3) a b = byThrees ts a b := by
  unfold byThrees
  rw [List.find?_map]
  have e : ((fun t => inTri a t && inTri b t) ∘ sort3) = fun t => inTri a t && inTri b t := funext fun t => by
    show (inTri a (sort3 t) && inTri b (sort3 t)) = _
    rw [inTri_sort3, inTri_sort3]
  rw [e, Option.map_map]
  congr 1
  funext t
  show triSum (sort3 t) - a - b = _
  rw [triSum_sort3]

/-! ### the check -/
def allPairs (n : Nat) : List (Nat × Nat) := (List.range n).flatMap fun b => (List.range b).map fun a => (a, b)
theorem mem_allPairs {n : Nat} {p : Nat × Nat} : p ∈ allPairs n ↔ p.1 < p.2 ∧ p.2 < n := by
  unfold allPairs
  rw [List.mem_flatMap]
  constructor
  · rintro ⟨b, hb, hp⟩
    obtain ⟨a, ha, rfl⟩ := List.mem_map.mp hp
    exact ⟨List.mem_range.mp ha, List.mem_range.mp hb⟩
  · rintro ⟨h1, h2⟩
    exact ⟨p.2, List.mem_range.mpr h2, List.mem_map.mpr ⟨p.1, List.mem_range.mpr h1, rfl⟩⟩
theorem nodup_allPairs (n : Nat) : (allPairs n).Nodup := by
  unfold allPairs
  refine List.pairwise_flatMap.mpr ⟨fun b _ => ?_, ?_⟩
  · refine List.pairwise_map.mpr (List.Pairwise.imp (R := fun a b => a ≠ b) ?_ List.nodup_range)
    intro x y h e
    exact h (congrArg Prod.fst e)
  · refine List.Pairwise.imp (R := fun a b => a ≠ b) ?_ List.nodup_range
    intro b b' h x hx y hy e
    obtain ⟨_, _, rfl⟩ := List.mem_map.mp hx
    obtain ⟨_, _, rfl⟩ := List.mem_map.mp hy
    exact h (congrArg Prod.snd e)
theorem length_allPairs : ∀ n, 2 * (allPairs n).length = n * (n - 1)
  | 0 => rfl
  | n + 1 => by
    have e : allPairs (n + 1) = allPairs n ++ (List.range n).map fun a => (a, n) := by
      unfold allPairs
      rw [List.range_succ, List.flatMap_append]
      simp
    rw [e, List.length_append, List.length_map, List.length_range, Nat.mul_add, length_allPairs n]
    cases n with
    | zero => rfl
    | succ m =>
      simp only [Nat.add_sub_cancel]
      rw [Nat.mul_comm 2 (m + 1), ← Nat.mul_add, Nat.mul_comm (m + 1 + 1)]
theorem mem_pairs3 {p : Nat × Nat} {t : Tri} (h : p ∈ pairs3 t) : memT p.1 t ∧ memT p.2 t := by
  unfold pairs3 at h
  unfold memT
  simp only [List.mem_cons, List.not_mem_nil, or_false] at h
  rcases h with rfl | rfl | rfl <;> simp
theorem pairs3_lt {p : Nat × Nat} {t : Tri} (h : p ∈ pairs3 t) (a : t.1 < t.2.1 ∧ t.2.1 < t.2.2) : p.1 < p.2 := by
  unfold pairs3 at h
  simp only [List.mem_cons, List.not_mem_nil, or_false] at h
  rcases h with rfl | rfl | rfl <;> simp only <;> omega
theorem Lists.chk {n : Nat} {h : Nat → Nat → Nat} {ts : List Tri} (L : Lists n h ts) : Chk n ts := by
  have nd : (pairsL (ts.map sort3)).Nodup := by
    unfold pairsL
    refine List.pairwise_flatMap.mpr ⟨fun t ht => ?_, ?_⟩
    · obtain ⟨u, hu, rfl⟩ := List.mem_map.mp ht
      have a := sort3_asc (L.ne u hu)
      unfold pairs3
      simp only [List.pairwise_cons, List.mem_cons, List.not_mem_nil, or_false, forall_eq_or_imp, forall_eq, Prod.mk.injEq, ne_eq, List.Pairwise.nil, and_true, false_imp_iff, implies_true]
      refine ⟨⟨fun e => ?_, fun e => ?_⟩, fun e => ?_⟩ <;> omega
    · refine List.pairwise_map.mpr (L.once.imp_of_mem ?_)
      intro t u ht hu hno x hx y hy e
      subst e
      have a := pairs3_lt hx (sort3_asc (L.ne t ht))
      obtain ⟨m1, m2⟩ := mem_pairs3 hx
      obtain ⟨m3, m4⟩ := mem_pairs3 hy
      exact hno x.1 x.2 (Nat.ne_of_lt a) ((memT_sort3 _ _).mp m1) ((memT_sort3 _ _).mp m2) ((memT_sort3 _ _).mp m3) ((memT_sort3 _ _).mp m4)
  refine ⟨L.lt, fun t ht => sort3_asc (L.ne t ht), nd, ?_⟩
  have hp : (pairsL (ts.map sort3)).Perm (allPairs n) := by
    refine (List.perm_ext_iff_of_nodup nd (nodup_allPairs n)).mpr fun p => ⟨fun hp => ?_, fun hp => ?_⟩
    · obtain ⟨t, ht, hpt⟩ := List.mem_flatMap.mp hp
      obtain ⟨u, hu, rfl⟩ := List.mem_map.mp ht
      refine mem_allPairs.mpr ⟨pairs3_lt hpt (sort3_asc (L.ne u hu)), ?_⟩
      have m := (memT_sort3 _ _).mp (mem_pairs3 hpt).2
      have l := L.lt u hu
      unfold memT at m
      omega
    · obtain ⟨h1, h2⟩ := mem_allPairs.mp hp
      obtain ⟨t, ht, m1, m2⟩ := L.all p.1 p.2 (by omega) h2 (by omega)
      refine List.mem_flatMap.mpr ⟨sort3 t, List.mem_map.mpr ⟨t, ht, rfl⟩, ?_⟩
      have a := sort3_asc (L.ne t ht)
      have q1 := (memT_sort3 _ _).mpr m1
      have q2 := (memT_sort3 _ _).mpr m2
      unfold memT at q1 q2
      unfold pairs3
      simp only [List.mem_cons, List.not_mem_nil, or_false]
      obtain ⟨p1, p2⟩ := p
      simp only [Prod.mk.injEq] at *
      omega
  have e := length_allPairs n
  rw [hp.length_eq]
  omega

/-! ## mixed: all threes, with other names -/
def mixT (n : Nat) (f : Nat → Nat → Nat) (π : Nat → Nat) : List Tri := (List.range n).flatMap fun a => ((List.range a).filter fun b => decide (f a b < b)).map fun b => (π a, π b, π (f a b))
/-- which of a three's points two are, and which their third is -/
theorem which {n : Nat} {f : Nat → Nat → Nat} (S : Sts n f) {a b x y : Nat} (ha : a < n) (hba : b < a) (hc : f a b < b) (hxy : x ≠ y) (hx : x = a ∨ x = b ∨ x = f a b) (hy : y = a ∨ y = b ∨ y = f a b) :
    (x = a ∧ y = b ∧ f x y = f a b) ∨ (x = b ∧ y = a ∧ f x y = f a b) ∨ (x = a ∧ y = f a b ∧ f x y = b) ∨ (x = f a b ∧ y = a ∧ f x y = b) ∨ (x = b ∧ y = f a b ∧ f x y = a) ∨ (x = f a b ∧ y = b ∧ f x y = a) := by
  have hb : b < n := by omega
  have hcn : f a b < n := by omega
  have e1 : f a (f a b) = b := S.back a b ha hb
  have e2 : f b (f a b) = a := by rw [S.comm a b ha hb, S.back b a hb ha]
  rcases hx with rfl | rfl | rfl <;> rcases hy with rfl | rfl | rfl
  · exact absurd rfl hxy
  · exact .inl ⟨rfl, rfl, rfl⟩
  · exact .inr (.inr (.inl ⟨rfl, rfl, e1⟩))
  · exact .inr (.inl ⟨rfl, rfl, S.comm _ _ hb ha⟩)
  · exact absurd rfl hxy
  · exact .inr (.inr (.inr (.inr (.inl ⟨rfl, rfl, e2⟩))))
  · exact .inr (.inr (.inr (.inl ⟨rfl, rfl, by rw [S.comm _ _ hcn ha, e1]⟩)))
  · exact .inr (.inr (.inr (.inr (.inr ⟨rfl, rfl, by rw [S.comm _ _ hcn hb, e2]⟩))))
  · exact absurd rfl hxy
theorem mem_mixT {n : Nat} {f : Nat → Nat → Nat} {π : Nat → Nat} {t : Tri} : t ∈ mixT n f π ↔ ∃ a b, a < n ∧ b < a ∧ f a b < b ∧ t = (π a, π b, π (f a b)) := by
  unfold mixT
  rw [List.mem_flatMap]
  constructor
  · rintro ⟨a, ha, ht⟩
    obtain ⟨b, hb, rfl⟩ := List.mem_map.mp ht
    obtain ⟨h1, h2⟩ := List.mem_filter.mp hb
    exact ⟨a, b, List.mem_range.mp ha, List.mem_range.mp h1, of_decide_eq_true h2, rfl⟩
  · rintro ⟨a, b, ha, hb, hc, rfl⟩
    exact ⟨a, List.mem_range.mpr ha, List.mem_map.mpr ⟨b, List.mem_filter.mpr ⟨List.mem_range.mpr hb, decide_eq_true hc⟩, rfl⟩⟩
section
variable {n : Nat} {f : Nat → Nat → Nat} {π : Nat → Nat}
/-- two threes that share two points are one -/
theorem mix_same (S : Sts n f) (hi : ∀ a b, a < n → b < n → π a = π b → a = b) {a b a' b' : Nat} (ha : a < n) (hb : b < a) (hc : f a b < b) (ha' : a' < n) (hb' : b' < a') (hc' : f a' b' < b')
    {x y : Nat} (hxy : x ≠ y) (h1 : memT x (π a, π b, π (f a b))) (h2 : memT y (π a, π b, π (f a b))) (h3 : memT x (π a', π b', π (f a' b'))) (h4 : memT y (π a', π b', π (f a' b'))) : a = a' ∧ b = b' := by
  have lt : ∀ {z : Nat}, (z = a ∨ z = b ∨ z = f a b) → z < n := fun h => by omega
  have lt' : ∀ {z : Nat}, (z = a' ∨ z = b' ∨ z = f a' b') → z < n := fun h => by omega
  have get : ∀ {x : Nat}, memT x (π a, π b, π (f a b)) → ∃ u, (u = a ∨ u = b ∨ u = f a b) ∧ x = π u := fun {x} h => by
    rcases h with h | h | h
    · exact ⟨a, .inl rfl, h⟩
    · exact ⟨b, .inr (.inl rfl), h⟩
    · exact ⟨f a b, .inr (.inr rfl), h⟩
  have get' : ∀ {x : Nat}, memT x (π a', π b', π (f a' b')) → ∃ u, (u = a' ∨ u = b' ∨ u = f a' b') ∧ x = π u := fun {x} h => by
    rcases h with h | h | h
    · exact ⟨a', .inl rfl, h⟩
    · exact ⟨b', .inr (.inl rfl), h⟩
    · exact ⟨f a' b', .inr (.inr rfl), h⟩
  obtain ⟨u, hu, rfl⟩ := get h1
  obtain ⟨v, hv, rfl⟩ := get h2
  obtain ⟨u', hu', e1⟩ := get' h3
  obtain ⟨v', hv', e2⟩ := get' h4
  have e3 := hi _ _ (lt hu) (lt' hu') e1
  have e4 := hi _ _ (lt hv) (lt' hv') e2
  subst e3 e4
  have huv : u ≠ v := fun e => hxy (by rw [e])
  have w1 := which S ha hb hc huv hu hv
  have w2 := which S ha' hb' hc' huv hu' hv'
  omega
theorem mix_lists (S : Sts n f) (hl : ∀ a, a < n → π a < n) (hi : ∀ a b, a < n → b < n → π a = π b → a = b) : Lists n (conj n f π) (mixT n f π) := by
  have I := conj_iso (f := f) hl hi
  refine ⟨fun t ht => ?_, fun t ht => ?_, fun t ht => ?_, ?_, fun x y hx hy hxy => ?_⟩
  · obtain ⟨a, b, ha, hb, hc, rfl⟩ := mem_mixT.mp ht
    exact ⟨hl _ ha, hl _ (by omega), hl _ (by omega)⟩
  · obtain ⟨a, b, ha, hb, hc, rfl⟩ := mem_mixT.mp ht
    exact ⟨fun e => by have := hi _ _ ha (by omega) e; omega, fun e => by have := hi _ _ ha (by omega) e; omega, fun e => by have := hi _ _ (by omega) (by omega) e; omega⟩
  · obtain ⟨a, b, ha, hb, hc, rfl⟩ := mem_mixT.mp ht
    exact (I.hom a b ha (by omega)).symm
  · unfold mixT
    refine List.pairwise_flatMap.mpr ⟨fun a ha => ?_, ?_⟩
    · refine List.pairwise_map.mpr ?_
      refine List.Pairwise.imp_of_mem (R := fun a b => a ≠ b) ?_ (List.nodup_range.sublist List.filter_sublist)
      intro b b' hb hb' hne x y hxy h1 h2 h3 h4
      obtain ⟨k1, k2⟩ := List.mem_filter.mp hb
      obtain ⟨k3, k4⟩ := List.mem_filter.mp hb'
      exact hne (mix_same S hi (List.mem_range.mp ha) (List.mem_range.mp k1) (of_decide_eq_true k2) (List.mem_range.mp ha) (List.mem_range.mp k3) (of_decide_eq_true k4) hxy h1 h2 h3 h4).2
    · refine List.Pairwise.imp_of_mem (R := fun a b => a ≠ b) ?_ List.nodup_range
      intro a a' ha ha' hne t ht u hu x y hxy h1 h2 h3 h4
      obtain ⟨b, hb, rfl⟩ := List.mem_map.mp ht
      obtain ⟨b', hb', rfl⟩ := List.mem_map.mp hu
      obtain ⟨k1, k2⟩ := List.mem_filter.mp hb
      obtain ⟨k3, k4⟩ := List.mem_filter.mp hb'
      exact hne (mix_same S hi (List.mem_range.mp ha) (List.mem_range.mp k1) (of_decide_eq_true k2) (List.mem_range.mp ha') (List.mem_range.mp k3) (of_decide_eq_true k4) hxy h1 h2 h3 h4).1
  · obtain ⟨u, hu, rfl⟩ := range_surj hl hi hx
    obtain ⟨v, hv, rfl⟩ := range_surj hl hi hy
    have huv : u ≠ v := fun e => hxy (by rw [e])
    have hw := S.lt u v hu hv
    have n1 := S.ne_left hu hv huv
    have n2 := S.ne_right hu hv huv
    have e1 : f u (f u v) = v := S.back u v hu hv
    have e2 : f v (f u v) = u := by rw [S.comm u v hu hv, S.back v u hv hu]
    have c1 : f v u = f u v := S.comm v u hv hu
    have c2 : f (f u v) u = v := by rw [S.comm _ _ hw hu, e1]
    have c3 : f (f u v) v = u := by rw [S.comm _ _ hw hv, e2]
    have mk : ∀ a b, a < n → b < a → f a b < b → (u = a ∨ u = b ∨ u = f a b) → (v = a ∨ v = b ∨ v = f a b) → ∃ t ∈ mixT n f π, memT (π u) t ∧ memT (π v) t := fun a b ha hb hc h1 h2 => by
      refine ⟨(π a, π b, π (f a b)), mem_mixT.mpr ⟨a, b, ha, hb, hc, rfl⟩, ?_, ?_⟩
      · rcases h1 with h | h | h
        · exact .inl (by rw [← h])
        · exact .inr (.inl (by rw [← h]))
        · exact .inr (.inr (by show π u = π (f a b); rw [← h]))
      · rcases h2 with h | h | h
        · exact .inl (by rw [← h])
        · exact .inr (.inl (by rw [← h]))
        · exact .inr (.inr (by show π v = π (f a b); rw [← h]))
    by_cases o1 : v < u
    · by_cases o2 : f u v < v
      · exact mk u v hu o1 o2 (.inl rfl) (.inr (.inl rfl))
      · by_cases o3 : f u v < u
        · exact mk u (f u v) hu o3 (by rw [e1]; omega) (.inl rfl) (.inr (.inr e1.symm))
        · exact mk (f u v) u hw (by omega) (by rw [c2]; omega) (.inr (.inl rfl)) (.inr (.inr c2.symm))
    · by_cases o2 : f u v < u
      · exact mk v u hv (by omega) (by rw [c1]; omega) (.inr (.inl rfl)) (.inl rfl)
      · by_cases o3 : f u v < v
        · exact mk v (f u v) hv o3 (by rw [e2]; omega) (.inr (.inr e2.symm)) (.inl rfl)
        · exact mk (f u v) v hw (by omega) (by rw [c3]; omega) (.inr (.inr c3.symm)) (.inr (.inl rfl))
theorem len_mixT : (mixT n f π).length ≤ n * n := by
  unfold mixT
  rw [List.length_flatMap]
  have h : ∀ a ∈ List.range n, (((List.range a).filter fun b => decide (f a b < b)).map fun b => (π a, π b, π (f a b))).length ≤ n := fun a ha => by
    rw [List.length_map]
    refine Nat.le_trans (List.length_filter_le _ _) ?_
    rw [List.length_range]
    have := List.mem_range.mp ha
    omega
  have key : ∀ (l : List Nat) (g : Nat → Nat), (∀ a ∈ l, g a ≤ n) → (l.map g).sum ≤ l.length * n := fun l g => by
    induction l with
    | nil => intro _; simp
    | cons x l ih =>
      intro hg
      rw [List.map_cons, List.sum_cons, List.length_cons, Nat.add_mul]
      have h1 := hg x (List.mem_cons_self ..)
      have h2 := ih fun a ha => hg a (List.mem_cons_of_mem _ ha)
      omega
  have q := key (List.range n) _ h
  rw [List.length_range] at q
  exact q
theorem sys_mix (S : Sts n f) (hl : ∀ a, a < n → π a < n) (hi : ∀ a b, a < n → b < n → π a = π b → a = b) (h1 : 1 ≤ n) (h2 : n ≤ 30) : Sys (.listed n (mixT n f π)) n (conj n f π) := by
  have T := (conj_iso (f := f) hl hi).sts S
  have L := mix_lists S hl hi
  refine ⟨⟨h1, by omega, ?_, L.chk⟩, Nat.zero_le _, rfl, fun a b ha hb hab => ?_, fun a b ha hb hab => L.by T ha hb hab⟩
  · refine Nat.le_trans len_mixT ?_
    have : n * n ≤ 30 * 30 := Nat.mul_le_mul h2 h2
    omega
  · show byThrees ((mixT n f π).map sort3) a b = _
    rw [byThrees_sort3]
    exact L.by T ha hb hab
end
end PK
end

section
set_option autoImplicit false
namespace PK
/-! ## the rounds of all two points -/
def prsOf (n : Nat) : List (Nat × Nat) := (List.range n).flatMap fun a => (List.range a).map fun b => (a, b)
def roundsL (n : Nat) (f : Nat → Nat → Nat) : List (List Nat) := (prsOf n).map fun p => roundsOf n f p.1 p.2
theorem mem_prsOf {n : Nat} {p : Nat × Nat} : p ∈ prsOf n ↔ p.2 < p.1 ∧ p.1 < n := by
  unfold prsOf
  rw [List.mem_flatMap]
  constructor
  · rintro ⟨a, ha, hp⟩
    obtain ⟨b, hb, rfl⟩ := List.mem_map.mp hp
    exact ⟨List.mem_range.mp hb, List.mem_range.mp ha⟩
  · rintro ⟨h1, h2⟩
    exact ⟨p.1, List.mem_range.mpr h2, List.mem_map.mpr ⟨p.2, List.mem_range.mpr h1, rfl⟩⟩
theorem nodup_prsOf (n : Nat) : (prsOf n).Nodup := by
  unfold prsOf
  refine List.pairwise_flatMap.mpr ⟨fun b _ => ?_, ?_⟩
  · refine List.pairwise_map.mpr (List.Pairwise.imp (R := fun a b => a ≠ b) ?_ List.nodup_range)
    intro x y h e
    exact h (congrArg Prod.snd e)
  · refine List.Pairwise.imp (R := fun a b => a ≠ b) ?_ List.nodup_range
    intro b b' h x hx y hy e
    obtain ⟨_, _, rfl⟩ := List.mem_map.mp hx
    obtain ⟨_, _, rfl⟩ := List.mem_map.mp hy
    exact h (congrArg Prod.fst e)
/-- the greater point first -/
def big2 (x : Nat × Nat) : Nat × Nat := if x.2 < x.1 then x else (x.2, x.1)
theorem prs_perm {n : Nat} {φ : Nat → Nat} (hl : ∀ a, a < n → φ a < n) (hi : ∀ a b, a < n → b < n → φ a = φ b → a = b) : ((prsOf n).map fun p => big2 (φ p.1, φ p.2)).Perm (prsOf n) := by
  refine (List.perm_ext_iff_of_nodup ?_ (nodup_prsOf n)).mpr fun y => ⟨fun hy => ?_, fun hy => ?_⟩
  · refine List.pairwise_map.mpr ?_
    refine List.Pairwise.imp_of_mem (R := fun a b => a ≠ b) ?_ (nodup_prsOf n)
    intro x y hx hy hne e
    obtain ⟨x1, x2⟩ := mem_prsOf.mp hx
    obtain ⟨y1, y2⟩ := mem_prsOf.mp hy
    have key : (φ x.1 = φ y.1 ∧ φ x.2 = φ y.2) ∨ (φ x.1 = φ y.2 ∧ φ x.2 = φ y.1) := by
      unfold big2 at e
      simp only at e
      split at e <;> split at e <;> simp only [Prod.mk.injEq] at e
      · exact .inl e
      · exact .inr e
      · exact .inr ⟨e.2, e.1⟩
      · exact .inl ⟨e.2, e.1⟩
    rcases key with ⟨k1, k2⟩ | ⟨k1, k2⟩
    · exact hne (Prod.ext (hi _ _ x2 y2 k1) (hi _ _ (by omega) (by omega) k2))
    · have e1 := hi _ _ x2 (by omega) k1
      have e2 := hi _ _ (by omega) y2 k2
      omega
  · obtain ⟨x, hx, rfl⟩ := List.mem_map.mp hy
    obtain ⟨x1, x2⟩ := mem_prsOf.mp hx
    have hne : φ x.1 ≠ φ x.2 := fun e => by
      have := hi _ _ x2 (by omega) e
      omega
    have l1 := hl _ x2
    have l2 := hl x.2 (by omega)
    refine mem_prsOf.mpr ?_
    unfold big2
    simp only
    split <;> simp only <;> omega
  · obtain ⟨y1, y2⟩ := mem_prsOf.mp hy
    obtain ⟨u, hu, eu⟩ := range_surj hl hi y2
    obtain ⟨v, hv, ev⟩ := range_surj hl hi (b := y.2) (by omega)
    have hne : u ≠ v := fun e => by
      rw [e, ev] at eu
      omega
    rcases Nat.lt_or_gt_of_ne hne with h | h
    · refine List.mem_map.mpr ⟨(v, u), mem_prsOf.mpr ⟨h, hv⟩, ?_⟩
      unfold big2
      simp only [eu, ev]
      rw [if_neg (by omega)]
    · refine List.mem_map.mpr ⟨(u, v), mem_prsOf.mpr ⟨h, hu⟩, ?_⟩
      unfold big2
      simp only [eu, ev]
      rw [if_pos y1]
theorem roundsL_perm {n : Nat} {f g : Nat → Nat → Nat} {φ : Nat → Nat} (S : Sts n f) (I : Iso n f g φ) : (roundsL n f).Perm (roundsL n g) := by
  have T := I.sts S
  unfold roundsL
  have h := (prs_perm I.lt I.inj).map fun p => roundsOf n g p.1 p.2
  rw [List.map_map] at h
  have e : (prsOf n).map (fun p => roundsOf n f p.1 p.2) = (prsOf n).map ((fun p => roundsOf n g p.1 p.2) ∘ fun p => big2 (φ p.1, φ p.2)) := List.map_congr_left fun p hp => by
    obtain ⟨p1, p2⟩ := mem_prsOf.mp hp
    have hb : p.2 < n := by omega
    show roundsOf n f p.1 p.2 = roundsOf n g (big2 (φ p.1, φ p.2)).1 (big2 (φ p.1, φ p.2)).2
    unfold big2
    simp only
    split
    · exact (roundsOf_iso S I p2 hb).symm
    · show _ = roundsOf n g (φ p.2) (φ p.1)
      rw [roundsOf_comm T (I.lt _ p2) (I.lt _ hb)]
      exact (roundsOf_iso S I p2 hb).symm
  rw [e]
  exact h

/-- how often each -/
structure Tally (kvs : List (List Nat × Nat)) (M : List (List Nat)) : Prop where
  nd : (kvs.map (·.1)).Nodup
  mem : ∀ r c, (r, c) ∈ kvs ↔ (r ∈ M ∧ c = M.count r)
theorem Tally.perm {kvs kvs' : List (List Nat × Nat)} {M M' : List (List Nat)} (T : Tally kvs M) (T' : Tally kvs' M') (h : M.Perm M') : kvs.Perm kvs' := by
  have nd : ∀ {l : List (List Nat × Nat)}, (l.map (·.1)).Nodup → l.Nodup := fun {l} h => by
    have q := List.pairwise_map.mp h
    refine List.Pairwise.imp ?_ q
    intro a b h e
    exact h (congrArg Prod.fst e)
  refine (List.perm_ext_iff_of_nodup (nd T.nd) (nd T'.nd)).mpr fun p => ?_
  obtain ⟨r, c⟩ := p
  rw [T.mem, T'.mem, h.mem_iff, h.count_eq]
def tal (M : List (List Nat)) : List (List Nat × Nat) := M.eraseDups.map fun r => (r, M.count r)
theorem nodup_eraseDups : ∀ (n : Nat) (l : List (List Nat)), l.length ≤ n → l.eraseDups.Nodup
  | 0, [], _ => by simp
  | n + 1, [], _ => by simp
  | 0, _ :: _, h => by simp at h
  | n + 1, a :: l, h => by
    rw [List.eraseDups_cons]
    refine List.nodup_cons.mpr ⟨fun hm => ?_, nodup_eraseDups n _ ?_⟩
    · have := List.mem_eraseDups.mp hm
      simp at this
    · have := List.length_filter_le (fun b => !b == a) l
      simp only [List.length_cons] at h
      omega
theorem tal_ok (M : List (List Nat)) : Tally (tal M) M := by
  unfold tal
  refine ⟨?_, fun r c => ?_⟩
  · rw [List.map_map]
    have e : ((fun x : List Nat × Nat => x.1) ∘ fun r => (r, M.count r)) = id := rfl
    rw [e, List.map_id]
    exact nodup_eraseDups _ _ (Nat.le_refl _)
  · rw [List.mem_map]
    constructor
    · rintro ⟨r', hr, e⟩
      obtain ⟨rfl, rfl⟩ := Prod.mk.inj e
      exact ⟨List.mem_eraseDups.mp hr, rfl⟩
    · rintro ⟨h1, rfl⟩
      exact ⟨r, List.mem_eraseDups.mpr h1, rfl⟩
theorem Tally.nil : Tally [] [] := ⟨List.nodup_nil, fun _ _ => by simp⟩
/-- one more: there is none yet | there are some -/
theorem Tally.new {kvs : List (List Nat × Nat)} {M : List (List Nat)} {r : List Nat} (T : Tally kvs M) (h : r ∉ kvs.map (·.1)) : Tally (kvs ++ [(r, 1)]) (M ++ [r]) := by
  have hr : r ∉ M := fun hm => h (List.mem_map.mpr ⟨(r, M.count r), (T.mem r _).mpr ⟨hm, rfl⟩, rfl⟩)
  refine ⟨?_, fun q c => ?_⟩
  · rw [List.map_append]
    refine List.nodup_append.mpr ⟨T.nd, by simp, fun a ha b hb => ?_⟩
    rw [List.mem_singleton.mp hb]
    rintro rfl
    exact h ha
  · rw [List.mem_append, List.mem_append, List.mem_singleton, List.mem_singleton, T.mem, List.count_append, List.count_singleton, Prod.mk.injEq]
    by_cases e : q = r
    · subst e
      rw [List.count_eq_zero.mpr hr]
      simp [hr]
    · have e2 : (r == q) = false := by simpa using fun z : r = q => e z.symm
      rw [e2]
      simp [e]
theorem Tally.more {kvs : List (List Nat × Nat)} {M : List (List Nat)} {r : List Nat} {c : Nat} (T : Tally kvs M) (h : (r, c) ∈ kvs) : Tally (kvs.map fun kv => if kv.1 = r then (kv.1, c + 1) else kv) (M ++ [r]) := by
  obtain ⟨hr, hc⟩ := (T.mem r c).mp h
  have ek : (kvs.map fun kv => if kv.1 = r then (kv.1, c + 1) else kv).map (·.1) = kvs.map (·.1) := by
    rw [List.map_map]
    refine List.map_congr_left fun kv _ => ?_
    show (if kv.1 = r then (kv.1, c + 1) else kv).1 = kv.1
    split <;> rfl
  refine ⟨by rw [ek]; exact T.nd, fun q d => ?_⟩
  rw [List.mem_append, List.mem_singleton, List.count_append, List.count_singleton, List.mem_map]
  constructor
  · rintro ⟨⟨k, v⟩, hkv, e⟩
    obtain ⟨h1, h2⟩ := (T.mem k v).mp hkv
    by_cases ek : k = r
    · subst ek
      simp only [if_true, Prod.mk.injEq] at e
      obtain ⟨rfl, rfl⟩ := e
      exact ⟨.inl hr, by simp [hc]⟩
    · simp only [ek, if_false, Prod.mk.injEq] at e
      obtain ⟨rfl, rfl⟩ := e
      have e2 : (r == k) = false := by simpa using fun z : r = k => ek z.symm
      exact ⟨.inl h1, by rw [e2]; simpa using h2⟩
  · rintro ⟨h1, h2⟩
    by_cases e : q = r
    · subst e
      refine ⟨(q, c), h, ?_⟩
      simp only [if_true, Prod.mk.injEq, true_and]
      rw [h2, hc]
      simp
    · have e2 : (r == q) = false := by simpa using fun z : r = q => e z.symm
      rw [e2] at h2
      refine ⟨(q, d), (T.mem q d).mpr ⟨h1.resolve_right e, by simpa using h2⟩, ?_⟩
      simp only [e, if_false]

/-! ## the other system of 13 points -/
def t13 : List Tri := [(2, 4, 9), (6, 8, 9), (2, 8, 12), (4, 6, 12)] ++
  (List.range 13).flatMap fun a => ((List.range a).filter fun b => decide (tabF (.skolem 13) a b < b) && !([(2, 4, 12), (6, 8, 12), (2, 8, 9), (4, 6, 9)] : List Tri).contains (tabF (.skolem 13) a b, b, a)).map fun b => (tabF (.skolem 13) a b, b, a)
end PK
end

section
set_option autoImplicit false
namespace PK
def t13L : List Tri := [(2, 4, 9), (6, 8, 9), (2, 8, 12), (4, 6, 12), (1, 3, 4), (0, 2, 5), (0, 1, 6), (2, 3, 6), (1, 2, 7), (0, 3, 7), (0, 4, 8), (5, 7, 8), (1, 5, 9), (4, 5, 10),
  (6, 7, 10), (1, 8, 10), (3, 9, 10), (5, 6, 11), (4, 7, 11), (3, 8, 11), (0, 9, 11), (2, 10, 11), (3, 5, 12), (7, 9, 12), (0, 10, 12), (1, 11, 12)]
theorem t13_eq : t13 = t13L := by decide +kernel
theorem sts_t13 : Sts 13 (tabF (.listed 13 t13L)) := stsB_ok (by decide +kernel)
theorem sys_t13 : Sys (.listed 13 t13L) 13 (tabF (.listed 13 t13L)) := sysB_ok (by decide +kernel) ⟨by decide, by decide, by decide, by decide +kernel, by decide +kernel, by decide +kernel, by decide +kernel⟩ (by decide) (by decide)
theorem fours_sk13 : foursOf 13 (tabF (.skolem 13)) = List.replicate 13 6 := by decide +kernel
theorem fours_t13 : 4 ∈ foursOf 13 (tabF (.listed 13 t13L)) := by decide +kernel
theorem unlike13 : ¬ (foursOf 13 (tabF (.skolem 13))).Perm (foursOf 13 (tabF (.listed 13 t13L))) := fun h => by
  have q := h.symm.subset fours_t13
  rw [fours_sk13] at q
  have := (List.mem_replicate.mp q).2
  omega
end PK
end

section
set_option autoImplicit false
namespace PK
theorem pairsL_at : ∀ (ts : List Tri) (i j : Nat) (t : Tri), ts[i]? = some t → j < 3 → (pairsL ts)[3 * i + j]? = (pairs3 t)[j]?
  | [], _, _, _, h, _ => by simp at h
  | u :: ts, 0, j, t, h, hj => by
    have e : u = t := Option.some.inj h
    subst e
    show (pairs3 u ++ pairsL ts)[3 * 0 + j]? = _
    rw [Nat.mul_zero, Nat.zero_add]
    exact List.getElem?_append_left (show j < 3 from hj)
  | u :: ts, i + 1, j, t, h, hj => by
    have q := pairsL_at ts i j t h hj
    show (pairs3 u ++ pairsL ts)[3 * (i + 1) + j]? = _
    rw [List.getElem?_append_right (show 3 ≤ 3 * (i + 1) + j by omega)]
    have e : 3 * (i + 1) + j - (pairs3 u).length = 3 * i + j := by
      show 3 * (i + 1) + j - 3 = _
      omega
    rw [e]
    exact q
theorem pairsL_len : ∀ ts : List Tri, (pairsL ts).length = 3 * ts.length
  | [] => rfl
  | u :: ts => by
    show (pairs3 u ++ pairsL ts).length = _
    rw [List.length_append, pairsL_len ts, List.length_cons]
    show 3 + _ = _
    omega
/-- in a list without doubles the next one is not among those ahead -/
theorem next_new {α : Type} {l : List α} (h : l.Nodup) {m : Nat} {x : α} (e : l[m]? = some x) : x ∉ l.take m := fun hx => by
  obtain ⟨i, hi, e2⟩ := List.mem_iff_getElem.mp hx
  rw [List.length_take] at hi
  rw [List.getElem_take] at e2
  obtain ⟨hm, e3⟩ := List.getElem?_eq_some_iff.mp e
  have q := (List.getElem_inj h).mp (e2.trans e3.symm)
  omega
theorem sort3_perm (t : Tri) : ([((sort3 t).1 : Int), ((sort3 t).2.1 : Int), ((sort3 t).2.2 : Int)]).Perm [(t.1 : Int), (t.2.1 : Int), (t.2.2 : Int)] := by
  refine List.perm_iff_count.mpr fun x => ?_
  unfold sort3
  split <;> (try split) <;> (try split) <;> simp only [List.count_cons, List.count_nil] <;> omega
/-- sorted gives it -/
theorem sort3_is {t : Tri} {ns : List Int} (h : t.1 ≠ t.2.1 ∧ t.1 ≠ t.2.2 ∧ t.2.1 ≠ t.2.2) (hp : ns.Perm [(t.1 : Int), (t.2.1 : Int), (t.2.2 : Int)]) (hs : ns.Pairwise (· ≤ ·)) :
    ns = [((sort3 t).1 : Int), ((sort3 t).2.1 : Int), ((sort3 t).2.2 : Int)] := by
  have a := sort3_asc h
  refine List.Perm.eq_of_pairwise (le := fun x y => x ≤ y) (fun x y _ _ h1 h2 => Int.le_antisymm h1 h2) hs ?_ (hp.trans (sort3_perm t).symm)
  simp only [List.pairwise_cons, List.mem_cons, List.not_mem_nil, or_false, forall_eq_or_imp, forall_eq, List.Pairwise.nil, and_true, false_imp_iff, implies_true]
  omega
theorem Chk.ne {n : Nat} {ts : List Tri} (C : Chk n ts) {t : Tri} (ht : t ∈ ts) : t.1 ≠ t.2.1 ∧ t.1 ≠ t.2.2 ∧ t.2.1 ≠ t.2.2 := by
  have a := C.asc t ht
  unfold sort3 at a
  split at a <;> (try split at a) <;> (try split at a) <;> (try simp only at a) <;> omega
end PK
end

section
namespace PK
open PySem PySem.Spec PyProof.Rows L2

/-! ### a def, ready to be called -/
structure Fc (P : Program) (w : World) (K : PySem.W.Frag) (mg : Str → Option Value) (base : Heap) (k : Nat) (x : Str) (ps : List Str) (sp : Sp) : Prop where
  ex : ∃ f fd, mg x = some (.ref f) ∧ PySem.W.keepIn K (.ref f) = true ∧ Binds K fd ps [] ∧ FnOk P w K mg base CX0 k f fd ps sp

theorem pe_fc {X : Cx} {j k : Nat} {x : Str} {ps : List Str} {sp : Sp} {p pos : Pos} {e : Expr} {es : List Expr} {t : TA} (F : Fc X.prog X.w X.K X.mg X.base j x ps sp) (hr : Room k X.A) (hg : Gl X x) (ha : PA X (e :: es) t) (hj : j ≤ k := by decide)
    (hdb : (x == ("__debug__" : Str)) = false := by decide) (he : starEach (e :: es) X.env = (false, eval e X.env) :: starEach es X.env := by rfl) (hpl : (backTo pos (starEach es X.env)).any (·.1) = false := by rfl) :
    PE X (.Call (.Name x p) (e :: es) [] pos) (tCall sp [] E0 t) := by
  obtain ⟨f, fd, hm, hk, hb, hF⟩ := F.ex
  exact pe_call hF (hr.mono hj) hg hm hk hb .nil pass0 ha hdb he hpl

section
variable {P : Program} {w : World} {K : PySem.W.Frag} {mg : Str → Option Value} {base : Heap}
theorem Fc.imp {k : Nat} {x : Str} {ps : List Str} {sp sp' : Sp} (F : Fc P w K mg base k x ps sp) (h : ∀ vs H Q E, sp' vs H Q E → sp vs H Q E) : Fc P w K mg base k x ps sp' := by
  obtain ⟨f, fd, hm, hk, hb, hF⟩ := F.ex
  exact ⟨f, fd, hm, hk, hb, hF.imp h⟩
theorem Fc.mono {j k : Nat} {x : Str} {ps : List Str} {sp : Sp} (F : Fc P w K mg base j x ps sp) (h : j ≤ k) : Fc P w K mg base k x ps sp := by
  obtain ⟨f, fd, hm, hk, hb, hF⟩ := F.ex
  exact ⟨f, fd, hm, hk, hb, hF.mono h⟩
/-- a def of the top keeps its promise: its body's walk -/
theorem mk_fc {x : Str} {st : Stmt} {N ps : List Str} {k : Nat} {sp : Sp} (D : ∃ f fd, mg x = some (.ref f) ∧ FnP K x st f fd) (S : FnScope N ps (defScope st))
    (hb : ∀ (kV doc pm : Value) (an : Option Addr) (cdv ct : Value) (us : List Value), us.length = ps.length → bindArgs (PySem.W.fnOf x x (defArgs st) (defBody st) (defScope st) .none kV doc pm an cdv ct) ⟨us, []⟩ = pure (ps.zip us))
    (len : ∀ vs H Q E, sp vs H Q E → vs.length = ps.length)
    (hbody : ∀ (f : Addr) (cdv : Value) (A : Around) (outer : List Env) (s : Shared) (H : Hp) (vs : List V) (Q : VK) (E : XK), Room k (A.deeper (envOfC x (defScope st) s.heap.objs.size f cdv)) → sp vs H Q E →
      ∃ t, PSs (cxOf CX0 P w K mg base N x (defScope st) f cdv A outer s H E).nox (defBody st) t ∧ t { nx := fun _ H' => Q .non H', rt := Q } (start N vs) H) : Fc P w K mg base (k + 1) x ps sp := by
  obtain ⟨f, fd, hm, F⟩ := D
  refine ⟨f, fd, hm, F.kp, F.bindsN hb, F.ok S len fun cdv A outer s H vs Q E hr hsp => ?_⟩
  obtain ⟨t, h, q⟩ := hbody f cdv A outer s H vs Q E hr hsp
  exact ⟨t, h.nox, q⟩
end

theorem st_is {t : TS} {D : Ends} {σ σ' : L2.St} {H : Hp} (e : σ' = σ) (h : t D σ H) : t D σ' H := by
  rw [e]
  exact h
theorem ite_no {c : Bool} {A B : Prop} (h : c = false) (b : B) : if c = true then A else B := by
  rw [h]
  exact iteF b
theorem ite_yes {c : Bool} {A B : Prop} (h : c = true) (a : A) : if c = true then A else B := by
  rw [if_pos h]
  exact a

/-! ### heaps -/
/-- the tuples stay -/
def TupSub (H H' : Hp) : Prop := ∀ b xs, H b = some (.tup xs) → H' b = some (.tup xs)
theorem TupSub.refl (H : Hp) : TupSub H H := fun _ _ h => h
theorem TupSub.trans {H H1 H2 : Hp} (a : TupSub H H1) (b : TupSub H1 H2) : TupSub H H2 := fun c xs h => b c xs (a c xs h)
theorem Same.tups {H H' : Hp} (h : Same H H') : TupSub H H' := fun b xs e => h b _ e
theorem TupSub.put {H : Hp} {a : Addr} {o : HO} (h : ∀ xs, H a ≠ some (.tup xs)) : TupSub H (upd H a o) := fun b xs e => by
  rw [upd_ne]
  · exact e
  · rintro rfl
    exact h xs e
theorem TupSub.new {H : Hp} {a : Addr} {o : HO} (h : H a = none) : TupSub H (L2.upd H a o) := TupSub.put fun xs e => by rw [h] at e; cases e
theorem Same.new {H : Hp} {a : Addr} {o : HO} (h : H a = none) : Same H (upd H a o) := fun b u e => by
  rw [upd_ne (ne_of_none e h)]
  exact e
/-- behind a store to what H0 doesn't have -/
theorem Same.put {H0 H : Hp} {a : Addr} {o : HO} (s : Same H0 H) (h : H0 a = none) : Same H0 (upd H a o) := fun b u e => by
  rw [upd_ne (ne_of_none e h)]
  exact s _ _ e

/-! ### lists of ints, tables -/
def rowV (n : Nat) (f : Nat → Nat → Nat) (a : Nat) : List V := (List.range n).map fun b => V.int ((f a b : Nat) : Int)
/-- a table of n lines -/
def TblAt (H : Hp) (v : V) (n : Nat) (f : Nat → Nat → Nat) : Prop :=
  ∃ (p : Addr) (rs : List Addr), v = .ref p ∧ H p = some (.lst (rs.map V.ref)) ∧ rs.length = n ∧ ∀ (a : Nat) (r : Addr), rs[a]? = some r → H r = some (.lst (rowV n f a))
theorem TblAt.same {H H' : Hp} {v : V} {n : Nat} {f : Nat → Nat → Nat} (h : TblAt H v n f) (s : Same H H') : TblAt H' v n f := by
  obtain ⟨p, rs, e, h1, h2, h3⟩ := h
  exact ⟨p, rs, e, s _ _ h1, h2, fun a r q => s _ _ (h3 a r q)⟩
theorem rowV_at {n : Nat} {f : Nat → Nat → Nat} {a b : Nat} (hb : b < n) : atI (rowV n f a) (b : Int) = some (.int ((f a b : Nat) : Int)) := by
  refine atI_nat ?_
  unfold rowV
  rw [List.getElem?_map, List.getElem?_range hb]
  rfl
theorem rowV_length (n : Nat) (f : Nat → Nat → Nat) (a : Nat) : (rowV n f a).length = n := by simp [rowV]
theorem TblAt.row {K : PySem.W.Frag} {H : Hp} {v : V} {n : Nat} {f : Nat → Nat → Nat} (h : TblAt H v n f) {a : Nat} (ha : a < n) :
    ∃ (p : Addr) (xs : List V) (r : Addr), v = .ref p ∧ SqL K H p xs ∧ atI xs (a : Int) = some (.ref r) ∧ SqL K H r (rowV n f a) := by
  obtain ⟨p, rs, e, h1, h2, h3⟩ := h
  have hl : a < rs.length := by omega
  have q : rs[a]? = some rs[a] := List.getElem?_eq_getElem hl
  exact ⟨p, rs.map V.ref, rs[a], e, SqL.of h1, atI_nat (by rw [List.getElem?_map, q]; rfl), SqL.of (h3 a _ q)⟩
theorem TblAt.list {K : PySem.W.Frag} {H : Hp} {v : V} {n : Nat} {f : Nat → Nat → Nat} (h : TblAt H v n f) : ∃ (p : Addr) (xs : List V), v = .ref p ∧ SqL K H p xs ∧ xs.length = n := by
  obtain ⟨p, rs, e, h1, h2, h3⟩ := h
  exact ⟨p, _, e, SqL.of h1, by rw [List.length_map]; exact h2⟩
/-- t[a][b], read -/
theorem TblAt.get {K : PySem.W.Frag} {H : Hp} {v : V} {n : Nat} {f : Nat → Nat → Nat} (h : TblAt H v n f) {a b : Nat} (ha : a < n) (hb : b < n) {σ : L2.St} {tb : TE} {Q : VK} (hQ : ∀ q : VK, q (.int (b : Int)) H → tb σ H q) (q : Q (.int ((f a b : Nat) : Int)) H) :
    rIxL K v (.int (a : Int)) H (fun x H1 => tb σ H1 fun y H2 => rIxL K x y H2 Q) := by
  obtain ⟨p, xs, r, e, h1, h2, h3⟩ := h.row (K := K) ha
  exact ⟨p, xs, _, _, e, rfl, h1, h2, hQ _ ⟨_, _, _, _, rfl, rfl, h3, rowV_at hb, q⟩⟩
end PK
end

section
namespace PK
open PySem PySem.Spec PyProof.Rows L2
section
variable {P : Program} {w : World} {K : PySem.W.Frag} {mg : Str → Option Value} {base : Heap}

theorem sc_require : FnScope ["holds"] ["holds"] (defScope s_require) := ⟨rfl, rfl, rfl, by decide +kernel, rfl, by decide +kernel, by decide +kernel⟩
def spRequire : Sp := fun vs H Q _ => vs = [.bl true] ∧ Q .non H
theorem fc_require (T : Txt w K mg) : Fc P w K mg base 1 "require" ["holds"] spRequire := by
  refine mk_fc T.d_require sc_require (fun _ _ _ _ _ _ us hl => match us, hl with | [_], _ => rfl) (fun vs H Q E h => ?_) (fun f cdv A outer s H vs Q E hr h => ?_)
  · obtain ⟨rfl, _⟩ := h
    rfl
  · obtain ⟨rfl, k⟩ := h
    refine ⟨_, pss_one (ps_if (pt_not (pt_val (pv 0))) (pss_one ps_never) pss_nil), ?_⟩
    exact ⟨_, rfl, true, rfl, iteF k⟩

theorem sc_point_at : FnScope ["size", "x", "level"] ["size", "x", "level"] (defScope s_point_at) := ⟨rfl, rfl, rfl, by decide +kernel, rfl, by decide +kernel, by decide +kernel⟩
def spPointAt : Sp := fun vs H Q _ => ∃ n x l : Int, vs = [.int n, .int x, .int l] ∧ Q (.int (ptAt n x l)) H
theorem fc_point_at (T : Txt w K mg) : Fc P w K mg base 1 "point_at" ["size", "x", "level"] spPointAt := by
  refine mk_fc T.d_point_at sc_point_at (fun _ _ _ _ _ _ us hl => match us, hl with | [_, _, _], _ => rfl) (fun vs H Q E h => ?_) (fun f cdv A outer s H vs Q E hr h => ?_)
  · obtain ⟨n, x, l, rfl, _⟩ := h
    rfl
  · obtain ⟨n, x, l, rfl, k⟩ := h
    obtain ⟨t, hLEVELS⟩ := T.i_LEVELS
    refine ⟨_, pss_one (ps_ret (pe_op op_add (pv 1) (pe_op op_mul (pv 0) (pe_op op_mod (pv 2) (pe_glob (v := .int 3) rfl hLEVELS ⟨_, rfl⟩))))), ?_⟩
    repeat ((try simp only [List.set_cons_zero, List.set_cons_succ]); (first | with_reducible refine iteF ?_ | with_reducible refine iteT ?_ | with_reducible refine ite_no (by decide +kernel) ?_ | with_reducible refine ite_yes (by decide +kernel) ?_ | (fail_if_success (with_reducible refine ite2 ?_ ?_)); (first | refine ⟨_, rfl, ?_⟩ | refine ⟨_, _, rfl, rfl, ?_⟩ | refine ⟨rfl, _, rfl, ?_⟩ | refine ⟨_, _, rfl, ?_⟩ | refine ⟨_, _, _, rfl, ?_⟩ | refine ⟨rfl, ?_⟩ | with_reducible refine And.intro (by (try dsimp only [CDiv, CMul]); omega) ?_)))
    exact k

theorem sc_in_order : FnScope ["size", "a", "b", "x", "i", "y", "j"] ["size", "a", "b"] (defScope s_in_order) := ⟨rfl, rfl, rfl, by decide +kernel, rfl, by decide +kernel, by decide +kernel⟩
def i3 (t : Int × Int × Int) : List V := [.int t.1, .int t.2.1, .int t.2.2]
def spInOrder : Sp := fun vs H Q _ => ∃ n a b : Int, vs = [.int n, .int a, .int b] ∧ 0 < n ∧ n < 1000000 ∧ ∀ p, H p = none → Q (.ref p) (upd H p (.tup (i3 (inOrder n a b))))
theorem fc_in_order (T : Txt w K mg) : Fc P w K mg base 1 "in_order" ["size", "a", "b"] spInOrder := by
  refine mk_fc T.d_in_order sc_in_order (fun _ _ _ _ _ _ us hl => match us, hl with | [_, _, _], _ => rfl) (fun vs H Q E h => ?_) (fun f cdv A outer s H vs Q E hr h => ?_)
  · obtain ⟨n, a, b, rfl, _⟩ := h
    rfl
  · obtain ⟨n, a, b, rfl, n0, n1, k⟩ := h
    obtain ⟨t, hLEVELS⟩ := T.i_LEVELS
    refine ⟨_, (pss_cons (ps_par (i := 3) (j := 4) (by rfl) sc_in_order.nd rfl rfl (by decide) rfl rfl (pa_cons (pe_op op_mod (pv 1) (pv 0)) (pa_cons (pe_op op_fdiv (pv 1) (pv 0)) pa_nil)) (by rfl))
      (pss_cons (ps_par (i := 5) (j := 6) (by rfl) sc_in_order.nd rfl rfl (by decide) rfl rfl (pa_cons (pe_op op_mod (pv 2) (pv 0)) (pa_cons (pe_op op_fdiv (pv 2) (pv 0)) pa_nil)) (by rfl))
      (pss_one (ps_ret (pe_ifExp (pt_cmpR op_eq (pe_op op_mod (pe_op op_add (pv 4) pe_int) (pe_glob (v := .int 3) rfl hLEVELS ⟨_, rfl⟩)) (pv 6) (nomark _)) (pe_tup (pa_cons (pv 3) (pa_cons (pv 4) (pa_cons (pv 5) pa_nil)))) (pe_tup (pa_cons (pv 5) (pa_cons (pv 6) (pa_cons (pv 3) pa_nil))))))))), ?_⟩
    repeat ((try simp only [List.set_cons_zero, List.set_cons_succ]); (first | with_reducible refine iteF ?_ | with_reducible refine iteT ?_ | with_reducible refine ite_no (by decide +kernel) ?_ | with_reducible refine ite_yes (by decide +kernel) ?_ | (fail_if_success (with_reducible refine ite2 ?_ ?_)); (first | refine ⟨_, rfl, ?_⟩ | refine ⟨_, _, rfl, rfl, ?_⟩ | refine ⟨rfl, _, rfl, ?_⟩ | refine ⟨_, _, rfl, ?_⟩ | refine ⟨_, _, _, rfl, ?_⟩ | refine ⟨rfl, ?_⟩ | with_reducible refine And.intro (by (try dsimp only [CDiv, CMul]); omega) ?_)))
    refine ite2 (fun h => ?_) (fun h => ?_)
    · repeat ((try simp only [List.set_cons_zero, List.set_cons_succ]); (first | with_reducible refine iteF ?_ | with_reducible refine iteT ?_ | with_reducible refine ite_no (by decide +kernel) ?_ | with_reducible refine ite_yes (by decide +kernel) ?_ | (fail_if_success (with_reducible refine ite2 ?_ ?_)); (first | refine ⟨_, rfl, ?_⟩ | refine ⟨_, _, rfl, rfl, ?_⟩ | refine ⟨rfl, _, rfl, ?_⟩ | refine ⟨_, _, rfl, ?_⟩ | refine ⟨_, _, _, rfl, ?_⟩ | refine ⟨rfl, ?_⟩ | with_reducible refine And.intro (by (try dsimp only [CDiv, CMul]); omega) ?_)))
      refine ⟨(by show 3 ≤ sizeLine; decide), fun p hp => ?_⟩
      have q := k p hp
      have e : (a / n + 1) % 3 = b / n := V.int.inj (of_decide_eq_true h)
      unfold inOrder at q
      rw [if_pos e] at q
      exact q
    · repeat ((try simp only [List.set_cons_zero, List.set_cons_succ]); (first | with_reducible refine iteF ?_ | with_reducible refine iteT ?_ | with_reducible refine ite_no (by decide +kernel) ?_ | with_reducible refine ite_yes (by decide +kernel) ?_ | (fail_if_success (with_reducible refine ite2 ?_ ?_)); (first | refine ⟨_, rfl, ?_⟩ | refine ⟨_, _, rfl, rfl, ?_⟩ | refine ⟨rfl, _, rfl, ?_⟩ | refine ⟨_, _, rfl, ?_⟩ | refine ⟨_, _, _, rfl, ?_⟩ | refine ⟨rfl, ?_⟩ | with_reducible refine And.intro (by (try dsimp only [CDiv, CMul]); omega) ?_)))
      refine ⟨(by show 3 ≤ sizeLine; decide), fun p hp => ?_⟩
      have q := k p hp
      have e : ¬ (a / n + 1) % 3 = b / n := fun e => h (decide_eq_true (congrArg V.int e))
      unfold inOrder at q
      rw [if_neg e] at q
      exact q
end
end PK
end

section
namespace PK
open PySem PySem.Spec PyProof.Rows L2
section
variable {P : Program} {w : World} {K : PySem.W.Frag} {mg : Str → Option Value} {base : Heap}

/-! ### power_of, half_of, twice_of, figures_apart -/
theorem sc_power_of : FnScope ["base", "many", "found", "_"] ["base", "many"] (defScope s_power_of) := ⟨rfl, rfl, rfl, by decide +kernel, rfl, by decide +kernel, by decide +kernel⟩
def spPower : Sp := fun vs H Q _ => ∃ (b : Int) (k : Nat), vs = [.int b, .int k] ∧ k ≤ 100 ∧ -100 < b ∧ b < 100 ∧ Q (.int (b ^ k)) H
theorem fc_power_of (T : Txt w K mg) : Fc P w K mg base 1 "power_of" ["base", "many"] spPower := by
  refine mk_fc T.d_power_of sc_power_of (fun _ _ _ _ _ _ us hl => match us, hl with | [_, _], _ => rfl) (fun vs H Q E h => ?_) (fun f cdv A outer s H vs Q E hr h => ?_)
  · obtain ⟨b, k, rfl, _⟩ := h
    rfl
  · obtain ⟨b, k, rfl, hk, b0, b1, q⟩ := h
    refine ⟨_, (pss_cons (ps_set (i := 2) sc_power_of.nd rfl (Or.inl rfl) pe_int)
      (pss_cons (ps_for PassesOwn.never rfl (pi_range1 (by rfl) T.n_range (pa_cons (pv 1) pa_nil)) (pg_name (i := 3) sc_power_of.nd rfl (Or.inl rfl))
      (pss_one (ps_aug (i := 2) sc_power_of.nd rfl (Or.inl rfl) (pv 0) iop_mul)))
      (pss_one (ps_ret (pv 2))))), ?_⟩
    refine ⟨_, rfl, _, rfl, (by omega), (by omega), for_range (n := (k : Int).toNat) (fun i σ H' => H' = H ∧ ∃ x, σ = [some (.int b), some (.int k), some (.int (b ^ i)), x]) ⟨rfl, none, by rw [Int.pow_zero]; rfl⟩ ?_ ?_⟩
    · rintro i σ H' hi ⟨rfl, x, rfl⟩
      refine ⟨_, rfl, _, rfl, _, _, rfl, rfl, .inr ⟨by omega, by omega⟩, rfl, some (.int (0 + (i : Int))), ?_⟩
      show [some (V.int b), some (V.int k), some (V.int (b ^ i * b)), some (V.int (0 + (i : Int)))] = _
      rw [Int.pow_succ]
    · rintro σ H' ⟨rfl, x, rfl⟩
      refine ⟨_, rfl, ?_⟩
      rw [Int.toNat_natCast]
      exact q

theorem sc_half_of : FnScope ["size", "number", "rest"] ["size", "number"] (defScope s_half_of) := ⟨rfl, rfl, rfl, by decide +kernel, rfl, by decide +kernel, by decide +kernel⟩
def spHalf : Sp := fun vs H Q _ => ∃ n s : Int, vs = [.int n, .int s] ∧ 0 < n ∧ Q (.int (halfOf n s)) H
theorem fc_half_of (T : Txt w K mg) : Fc P w K mg base 1 "half_of" ["size", "number"] spHalf := by
  refine mk_fc T.d_half_of sc_half_of (fun _ _ _ _ _ _ us hl => match us, hl with | [_, _], _ => rfl) (fun vs H Q E h => ?_) (fun f cdv A outer s H vs Q E hr h => ?_)
  · obtain ⟨b, k, rfl, _⟩ := h
    rfl
  · obtain ⟨n, z, rfl, n0, q⟩ := h
    refine ⟨_, (pss_cons (ps_set (i := 2) sc_half_of.nd rfl (Or.inl rfl) (pe_op op_mod (pv 1) (pv 0)))
      (pss_one (ps_ret (pe_op op_add (pe_op op_fdiv (pv 2) pe_int) (pe_ifExp (pt_cmpR op_eq (pe_op op_mod (pv 2) pe_int) pe_int (nomark _)) (pe_op op_fdiv (pv 0) pe_int) pe_int))))), ?_⟩
    unfold halfOf at q
    repeat ((try simp only [List.set_cons_zero, List.set_cons_succ]); (first | with_reducible refine iteF ?_ | with_reducible refine iteT ?_ | with_reducible refine ite_no (by decide +kernel) ?_ | with_reducible refine ite_yes (by decide +kernel) ?_ | (fail_if_success (with_reducible refine ite2 ?_ ?_)); (first | refine ⟨_, rfl, ?_⟩ | refine ⟨_, _, rfl, rfl, ?_⟩ | refine ⟨rfl, _, rfl, ?_⟩ | refine ⟨_, _, rfl, ?_⟩ | refine ⟨_, _, _, rfl, ?_⟩ | refine ⟨rfl, ?_⟩ | with_reducible refine And.intro (by (try dsimp only [CDiv, CMul]); omega) ?_)))
    refine ite2 (fun h => ?_) (fun h => ?_)
    · have e : z % n % 2 = 1 := V.int.inj (of_decide_eq_true h)
      rw [if_pos e] at q
      repeat ((try simp only [List.set_cons_zero, List.set_cons_succ]); (first | with_reducible refine iteF ?_ | with_reducible refine iteT ?_ | with_reducible refine ite_no (by decide +kernel) ?_ | with_reducible refine ite_yes (by decide +kernel) ?_ | (fail_if_success (with_reducible refine ite2 ?_ ?_)); (first | refine ⟨_, rfl, ?_⟩ | refine ⟨_, _, rfl, rfl, ?_⟩ | refine ⟨rfl, _, rfl, ?_⟩ | refine ⟨_, _, rfl, ?_⟩ | refine ⟨_, _, _, rfl, ?_⟩ | refine ⟨rfl, ?_⟩ | with_reducible refine And.intro (by (try dsimp only [CDiv, CMul]); omega) ?_)))
      exact q
    · have e : ¬ z % n % 2 = 1 := fun e => h (decide_eq_true (congrArg V.int e))
      rw [if_neg e] at q
      repeat ((try simp only [List.set_cons_zero, List.set_cons_succ]); (first | with_reducible refine iteF ?_ | with_reducible refine iteT ?_ | with_reducible refine ite_no (by decide +kernel) ?_ | with_reducible refine ite_yes (by decide +kernel) ?_ | (fail_if_success (with_reducible refine ite2 ?_ ?_)); (first | refine ⟨_, rfl, ?_⟩ | refine ⟨_, _, rfl, rfl, ?_⟩ | refine ⟨rfl, _, rfl, ?_⟩ | refine ⟨_, _, rfl, ?_⟩ | refine ⟨_, _, _, rfl, ?_⟩ | refine ⟨rfl, ?_⟩ | with_reducible refine And.intro (by (try dsimp only [CDiv, CMul]); omega) ?_)))
      exact q

theorem sc_twice_of : FnScope ["size", "number"] ["size", "number"] (defScope s_twice_of) := ⟨rfl, rfl, rfl, by decide +kernel, rfl, by decide +kernel, by decide +kernel⟩
def spTwice : Sp := fun vs H Q _ => ∃ n s : Int, vs = [.int n, .int s] ∧ Q (.int (twiceOf n s)) H
theorem fc_twice_of (T : Txt w K mg) : Fc P w K mg base 1 "twice_of" ["size", "number"] spTwice := by
  refine mk_fc T.d_twice_of sc_twice_of (fun _ _ _ _ _ _ us hl => match us, hl with | [_, _], _ => rfl) (fun vs H Q E h => ?_) (fun f cdv A outer s H vs Q E hr h => ?_)
  · obtain ⟨b, k, rfl, _⟩ := h
    rfl
  · obtain ⟨n, z, rfl, q⟩ := h
    refine ⟨_, (pss_one (ps_ret (pe_ifExp (pt_cmpR op_lt (pv 1) (pe_op op_fdiv (pv 0) pe_int) (nomark _)) (pe_op op_mul pe_int (pv 1)) (pe_op op_add (pe_op op_sub (pe_op op_mul pe_int (pv 1)) (pv 0)) pe_int)))), ?_⟩
    unfold twiceOf at q
    repeat ((try simp only [List.set_cons_zero, List.set_cons_succ]); (first | with_reducible refine iteF ?_ | with_reducible refine iteT ?_ | with_reducible refine ite_no (by decide +kernel) ?_ | with_reducible refine ite_yes (by decide +kernel) ?_ | (fail_if_success (with_reducible refine ite2 ?_ ?_)); (first | refine ⟨_, rfl, ?_⟩ | refine ⟨_, _, rfl, rfl, ?_⟩ | refine ⟨rfl, _, rfl, ?_⟩ | refine ⟨_, _, rfl, ?_⟩ | refine ⟨_, _, _, rfl, ?_⟩ | refine ⟨rfl, ?_⟩ | with_reducible refine And.intro (by (try dsimp only [CDiv, CMul]); omega) ?_)))
    refine ite2 (fun h => ?_) (fun h => ?_)
    · have e : z < n / 2 := of_decide_eq_true h
      rw [if_pos e] at q
      repeat ((try simp only [List.set_cons_zero, List.set_cons_succ]); (first | with_reducible refine iteF ?_ | with_reducible refine iteT ?_ | with_reducible refine ite_no (by decide +kernel) ?_ | with_reducible refine ite_yes (by decide +kernel) ?_ | (fail_if_success (with_reducible refine ite2 ?_ ?_)); (first | refine ⟨_, rfl, ?_⟩ | refine ⟨_, _, rfl, rfl, ?_⟩ | refine ⟨rfl, _, rfl, ?_⟩ | refine ⟨_, _, rfl, ?_⟩ | refine ⟨_, _, _, rfl, ?_⟩ | refine ⟨rfl, ?_⟩ | with_reducible refine And.intro (by (try dsimp only [CDiv, CMul]); omega) ?_)))
      exact q
    · have e : ¬ z < n / 2 := fun e => h (decide_eq_true e)
      rw [if_neg e] at q
      repeat ((try simp only [List.set_cons_zero, List.set_cons_succ]); (first | with_reducible refine iteF ?_ | with_reducible refine iteT ?_ | with_reducible refine ite_no (by decide +kernel) ?_ | with_reducible refine ite_yes (by decide +kernel) ?_ | (fail_if_success (with_reducible refine ite2 ?_ ?_)); (first | refine ⟨_, rfl, ?_⟩ | refine ⟨_, _, rfl, rfl, ?_⟩ | refine ⟨rfl, _, rfl, ?_⟩ | refine ⟨_, _, rfl, ?_⟩ | refine ⟨_, _, _, rfl, ?_⟩ | refine ⟨rfl, ?_⟩ | with_reducible refine And.intro (by (try dsimp only [CDiv, CMul]); omega) ?_)))
      exact q

theorem sc_figures_apart : FnScope ["a", "b", "found", "step"] ["a", "b"] (defScope s_figures_apart) := ⟨rfl, rfl, rfl, by decide +kernel, rfl, by decide +kernel, by decide +kernel⟩
def spFigs : Sp := fun vs H Q _ => ∃ a b : Int, vs = [.int a, .int b] ∧ 0 ≤ a ∧ 0 ≤ b ∧ Q (.int (figsApart a b)) H
theorem fc_figures_apart (T : Txt w K mg) : Fc P w K mg base 1 "figures_apart" ["a", "b"] spFigs := by
  refine mk_fc T.d_figures_apart sc_figures_apart (fun _ _ _ _ _ _ us hl => match us, hl with | [_, _], _ => rfl) (fun vs H Q E h => ?_) (fun f cdv A outer s H vs Q E hr h => ?_)
  · obtain ⟨b, k, rfl, _⟩ := h
    rfl
  · obtain ⟨a, b, rfl, ha, hb, q⟩ := h
    refine ⟨_, (pss_cons (ps_set (i := 2) sc_figures_apart.nd rfl (Or.inl rfl) pe_int)
      (pss_cons (ps_set (i := 3) sc_figures_apart.nd rfl (Or.inl rfl) pe_int)
      (pss_cons (ps_while PassesOwn.never (PW.pt (pw_or (pt_cmpR op_gt (pv 0) pe_int (nomark _)) (pw_or1 (pt_cmpR op_gt (pv 1) pe_int (nomark _)))))
      (pss_cons (ps_aug (i := 2) sc_figures_apart.nd rfl (Or.inl rfl) (pe_op op_mul (pe_op op_mod (pe_un un_neg (pe_op op_add (pe_op op_mod (pv 0) pe_int) (pe_op op_mod (pv 1) pe_int))) pe_int) (pv 3)) iop_add)
        (pss_cons (ps_aug (i := 0) sc_figures_apart.nd rfl (Or.inl rfl) pe_int iop_fdiv)
        (pss_cons (ps_aug (i := 1) sc_figures_apart.nd rfl (Or.inl rfl) pe_int iop_fdiv)
        (pss_one (ps_aug (i := 3) sc_figures_apart.nd rfl (Or.inl rfl) pe_int iop_mul))))))
      (pss_one (ps_ret (pv 2)))))), ?_⟩
    refine ⟨fun m σ H' => H' = H ∧ ∃ x y z t : Int, σ = [some (.int x), some (.int y), some (.int z), some (.int t)] ∧ 0 ≤ x ∧ 0 ≤ y ∧ m = (x + y).toNat ∧ figs (x + y).toNat x y z t = figsApart a b, ⟨_, rfl, a, b, 0, 1, rfl, ha, hb, rfl, rfl⟩, ?_⟩
    rintro m σ H' ⟨rfl, x, y, z, t, rfl, hx, hy, rfl, hf⟩
    have body : x > 0 ∨ y > 0 → figs (x / 3 + y / 3).toNat (x / 3) (y / 3) (z + -(x % 3 + y % 3) % 3 * t) (t * 3) = figsApart a b := fun c => by
      obtain ⟨k, hk⟩ : ∃ k : Nat, (x + y).toNat = k + 1 := ⟨(x + y).toNat - 1, by omega⟩
      rw [hk] at hf
      have hf : (if x > 0 ∨ y > 0 then figs k (x / 3) (y / 3) (z + -(x % 3 + y % 3) % 3 * t) (t * 3) else z) = figsApart a b := hf
      rw [if_pos c] at hf
      rw [← hf]
      exact (figs_more _ _ _ _ _ _ (by omega) (by omega) (Nat.le_refl _) (by omega)).symm
    have turn : x > 0 ∨ y > 0 → ∃ N : L2.St → Hp → Prop, (∀ σ' H'', N σ' H'' → ∃ m', m' < (x + y).toNat ∧ H'' = H' ∧ ∃ x y z t : Int, σ' = [some (.int x), some (.int y), some (.int z), some (.int t)] ∧ 0 ≤ x ∧ 0 ≤ y ∧ m' = (x + y).toNat ∧ figs (x + y).toNat x y z t = figsApart a b) ∧
        N [some (.int (x / 3)), some (.int (y / 3)), some (.int (z + -(x % 3 + y % 3) % 3 * t)), some (.int (t * 3))] H' := fun c =>
      ⟨_, fun _ _ h => h, (x / 3 + y / 3).toNat, by omega, rfl, _, _, _, _, rfl, by omega, by omega, rfl, body c⟩
    repeat ((try simp only [List.set_cons_zero, List.set_cons_succ]); (first | with_reducible refine iteF ?_ | with_reducible refine iteT ?_ | with_reducible refine ite_no (by decide +kernel) ?_ | with_reducible refine ite_yes (by decide +kernel) ?_ | (fail_if_success (with_reducible refine ite2 ?_ ?_)); (first | refine ⟨_, rfl, ?_⟩ | refine ⟨_, _, rfl, rfl, ?_⟩ | refine ⟨rfl, _, rfl, ?_⟩ | refine ⟨_, _, rfl, ?_⟩ | refine ⟨_, _, _, rfl, ?_⟩ | refine ⟨rfl, ?_⟩ | with_reducible refine And.intro (by (try dsimp only [CDiv, CMul]); omega) ?_)))
    refine ite2 (fun h => ?_) (fun h => ?_)
    · obtain ⟨N, hN, n⟩ := turn (.inl (of_decide_eq_true h))
      first | refine iteT ⟨N, hN, ?_⟩ | (rw [if_pos trivial]; refine ⟨N, hN, ?_⟩)
      repeat ((try simp only [List.set_cons_zero, List.set_cons_succ]); (first | with_reducible refine iteF ?_ | with_reducible refine iteT ?_ | with_reducible refine ite_no (by decide +kernel) ?_ | with_reducible refine ite_yes (by decide +kernel) ?_ | (fail_if_success (with_reducible refine ite2 ?_ ?_)); (first | refine ⟨_, rfl, ?_⟩ | refine ⟨_, _, rfl, rfl, ?_⟩ | refine ⟨rfl, _, rfl, ?_⟩ | refine ⟨_, _, rfl, ?_⟩ | refine ⟨_, _, _, rfl, ?_⟩ | refine ⟨rfl, ?_⟩ | with_reducible refine And.intro (by (try dsimp only [CDiv, CMul]); omega) ?_)))
      exact n
    · repeat ((try simp only [List.set_cons_zero, List.set_cons_succ]); (first | with_reducible refine iteF ?_ | with_reducible refine iteT ?_ | with_reducible refine ite_no (by decide +kernel) ?_ | with_reducible refine ite_yes (by decide +kernel) ?_ | (fail_if_success (with_reducible refine ite2 ?_ ?_)); (first | refine ⟨_, rfl, ?_⟩ | refine ⟨_, _, rfl, rfl, ?_⟩ | refine ⟨rfl, _, rfl, ?_⟩ | refine ⟨_, _, rfl, ?_⟩ | refine ⟨_, _, _, rfl, ?_⟩ | refine ⟨rfl, ?_⟩ | with_reducible refine And.intro (by (try dsimp only [CDiv, CMul]); omega) ?_)))
      refine ite2 (fun h2 => ?_) (fun h2 => ?_)
      · obtain ⟨N, hN, n⟩ := turn (.inr (of_decide_eq_true h2))
        refine ⟨N, hN, ?_⟩
        repeat ((try simp only [List.set_cons_zero, List.set_cons_succ]); (first | with_reducible refine iteF ?_ | with_reducible refine iteT ?_ | with_reducible refine ite_no (by decide +kernel) ?_ | with_reducible refine ite_yes (by decide +kernel) ?_ | (fail_if_success (with_reducible refine ite2 ?_ ?_)); (first | refine ⟨_, rfl, ?_⟩ | refine ⟨_, _, rfl, rfl, ?_⟩ | refine ⟨rfl, _, rfl, ?_⟩ | refine ⟨_, _, rfl, ?_⟩ | refine ⟨_, _, _, rfl, ?_⟩ | refine ⟨rfl, ?_⟩ | with_reducible refine And.intro (by (try dsimp only [CDiv, CMul]); omega) ?_)))
        exact n
      · repeat ((try simp only [List.set_cons_zero, List.set_cons_succ]); (first | with_reducible refine iteF ?_ | with_reducible refine iteT ?_ | with_reducible refine ite_no (by decide +kernel) ?_ | with_reducible refine ite_yes (by decide +kernel) ?_ | (fail_if_success (with_reducible refine ite2 ?_ ?_)); (first | refine ⟨_, rfl, ?_⟩ | refine ⟨_, _, rfl, rfl, ?_⟩ | refine ⟨rfl, _, rfl, ?_⟩ | refine ⟨_, _, rfl, ?_⟩ | refine ⟨_, _, _, rfl, ?_⟩ | refine ⟨rfl, ?_⟩ | with_reducible refine And.intro (by (try dsimp only [CDiv, CMul]); omega) ?_)))
        have e : figs (x + y).toNat x y z t = z := by
          have c : ¬ (x > 0 ∨ y > 0) := fun c => c.elim (fun c => h (decide_eq_true c)) fun c => h2 (decide_eq_true c)
          have e0 : (x + y).toNat = 0 := by omega
          rw [e0]
          rfl
        rw [← hf, e] at q
        exact q
end
end PK
end

section
namespace PK
open PySem PySem.Spec PyProof.Rows L2
section
variable {P : Program} {w : World} {K : PySem.W.Frag} {mg : Str → Option Value} {base : Heap}
theorem dec_int_eq {a b : Int} (h : a = b) : decide (V.int a = V.int b) = true := decide_eq_true (congrArg V.int h)
theorem dec_int_ne {a b : Int} (h : ¬ a = b) : decide (V.int a = V.int b) = false := decide_eq_false fun e => h (V.int.inj e)
theorem of_dec_int {a b : Int} (h : decide (V.int a = V.int b) = true) : a = b := V.int.inj (of_decide_eq_true h)

theorem sc_third_in_bose : FnScope ["size", "a", "b", "half", "x", "i", "y", "j"] ["size", "a", "b"] (defScope s_third_in_bose) := ⟨rfl, rfl, rfl, by decide +kernel, rfl, by decide +kernel, by decide +kernel⟩
def spThirdBose : Sp := fun vs H Q _ => ∃ n a b : Int, vs = [.int n, .int a, .int b] ∧ 0 < n ∧ n < 1000000 ∧ ∀ H', Same H H' → Q (.int (thirdBose n a b)) H'
theorem fc_third_in_bose (T : Txt w K mg) : Fc P w K mg base 2 "third_in_bose" ["size", "a", "b"] spThirdBose := by
  have F_point_at := fc_point_at (P := P) (base := base) T
  have F_in_order := fc_in_order (P := P) (base := base) T
  refine mk_fc T.d_third_in_bose sc_third_in_bose (fun _ _ _ _ _ _ us hl => match us, hl with | [_, _, _], _ => rfl) (fun vs H Q E h => ?_) (fun f cdv A outer s H vs Q E hr h => ?_)
  · obtain ⟨n, a, b, rfl, _⟩ := h
    rfl
  · obtain ⟨n, a, b, rfl, n0, n1, k⟩ := h
    obtain ⟨t, hLEVELS⟩ := T.i_LEVELS
    refine ⟨_, (pss_cons (ps_set (i := 3) sc_third_in_bose.nd rfl (Or.inl rfl) (pe_op op_fdiv (pe_op op_add (pv 0) pe_int) pe_int))
      (pss_cons (ps_par (i := 4) (j := 5) (by rfl) sc_third_in_bose.nd rfl rfl (by decide) rfl rfl (pa_cons (pe_op op_mod (pv 1) (pv 0)) (pa_cons (pe_op op_fdiv (pv 1) (pv 0)) pa_nil)) (by rfl))
      (pss_cons (ps_par (i := 6) (j := 7) (by rfl) sc_third_in_bose.nd rfl rfl (by decide) rfl rfl (pa_cons (pe_op op_mod (pv 2) (pv 0)) (pa_cons (pe_op op_fdiv (pv 2) (pv 0)) pa_nil)) (by rfl))
      (pss_cons (ps_if (pt_cmpR op_eq (pv 5) (pv 7) (nomark _)) (pss_one (ps_ret (pe_fc F_point_at hr rfl (pa_cons (pv 0) (pa_cons (pe_op op_mod (pe_op op_mul (pe_op op_add (pv 4) (pv 6)) (pv 3)) (pv 0)) (pa_cons (pe_op op_add (pv 5) pe_int) pa_nil)))))) pss_nil)
      (pss_cons (ps_if (pt_cmpR op_eq (pv 4) (pv 6) (nomark _)) (pss_one (ps_ret (pe_fc F_point_at hr rfl (pa_cons (pv 0) (pa_cons (pv 4) (pa_cons (pe_op op_sub (pe_op op_sub (pe_glob (v := .int 3) rfl hLEVELS ⟨_, rfl⟩) (pv 5)) (pv 7)) pa_nil)))))) pss_nil)
      (pss_cons (ps_asg (pe_fc F_in_order hr rfl (pa_cons (pv 0) (pa_cons (pv 1) (pa_cons (pv 2) pa_nil)))) (pg_tup rfl (pgs_cons (pg_name (i := 4) sc_third_in_bose.nd rfl (Or.inl rfl)) (pgs_cons (pg_name (i := 5) sc_third_in_bose.nd rfl (Or.inl rfl)) (pgs_cons (pg_name (i := 6) sc_third_in_bose.nd rfl (Or.inl rfl)) pgs_nil)))))
      (pss_one (ps_ret (pe_fc F_point_at hr rfl (pa_cons (pv 0) (pa_cons (pe_op op_mod (pe_op op_sub (pe_op op_mul pe_int (pv 6)) (pv 4)) (pv 0)) (pa_cons (pv 5) pa_nil)))))))))))), ?_⟩
    have a0 := Int.emod_nonneg a (Int.ne_of_gt n0)
    have a1 := Int.emod_lt_of_pos a n0
    have b0 := Int.emod_nonneg b (Int.ne_of_gt n0)
    have b1 := Int.emod_lt_of_pos b n0
    unfold thirdBose at k
    refine st_is (σ := [some _, some _, some _, none, none, none, none, none]) rfl ?_
    repeat ((try simp only [List.set_cons_zero, List.set_cons_succ]); (first | with_reducible refine iteF ?_ | with_reducible refine iteT ?_ | with_reducible refine ite_no (by decide +kernel) ?_ | with_reducible refine ite_yes (by decide +kernel) ?_ | (fail_if_success (with_reducible refine ite2 ?_ ?_)); (first | refine ⟨_, rfl, ?_⟩ | refine ⟨_, _, rfl, rfl, ?_⟩ | refine ⟨rfl, _, rfl, ?_⟩ | refine ⟨_, _, rfl, ?_⟩ | refine ⟨_, _, _, rfl, ?_⟩ | refine ⟨rfl, ?_⟩ | with_reducible refine And.intro (by (try dsimp only [CDiv, CMul]); omega) ?_)))
    refine ite2 (fun h => ?_) (fun h => ?_)
    · rw [if_pos (of_dec_int h)] at k
      repeat ((try simp only [List.set_cons_zero, List.set_cons_succ]); (first | with_reducible refine iteF ?_ | with_reducible refine iteT ?_ | with_reducible refine ite_no (by decide +kernel) ?_ | with_reducible refine ite_yes (by decide +kernel) ?_ | (fail_if_success (with_reducible refine ite2 ?_ ?_)); (first | refine ⟨_, rfl, ?_⟩ | refine ⟨_, _, rfl, rfl, ?_⟩ | refine ⟨rfl, _, rfl, ?_⟩ | refine ⟨_, _, rfl, ?_⟩ | refine ⟨_, _, _, rfl, ?_⟩ | refine ⟨rfl, ?_⟩ | with_reducible refine And.intro (by (try dsimp only [CDiv, CMul]); omega) ?_)))
      exact k _ (Same.refl H)
    · rw [if_neg fun e => h (dec_int_eq e)] at k
      repeat ((try simp only [List.set_cons_zero, List.set_cons_succ]); (first | with_reducible refine iteF ?_ | with_reducible refine iteT ?_ | with_reducible refine ite_no (by decide +kernel) ?_ | with_reducible refine ite_yes (by decide +kernel) ?_ | (fail_if_success (with_reducible refine ite2 ?_ ?_)); (first | refine ⟨_, rfl, ?_⟩ | refine ⟨_, _, rfl, rfl, ?_⟩ | refine ⟨rfl, _, rfl, ?_⟩ | refine ⟨_, _, rfl, ?_⟩ | refine ⟨_, _, _, rfl, ?_⟩ | refine ⟨rfl, ?_⟩ | with_reducible refine And.intro (by (try dsimp only [CDiv, CMul]); omega) ?_)))
      refine ite2 (fun h => ?_) (fun h => ?_)
      · rw [if_pos (of_dec_int h)] at k
        repeat ((try simp only [List.set_cons_zero, List.set_cons_succ]); (first | with_reducible refine iteF ?_ | with_reducible refine iteT ?_ | with_reducible refine ite_no (by decide +kernel) ?_ | with_reducible refine ite_yes (by decide +kernel) ?_ | (fail_if_success (with_reducible refine ite2 ?_ ?_)); (first | refine ⟨_, rfl, ?_⟩ | refine ⟨_, _, rfl, rfl, ?_⟩ | refine ⟨rfl, _, rfl, ?_⟩ | refine ⟨_, _, rfl, ?_⟩ | refine ⟨_, _, _, rfl, ?_⟩ | refine ⟨rfl, ?_⟩ | with_reducible refine And.intro (by (try dsimp only [CDiv, CMul]); omega) ?_)))
        exact k _ (Same.refl H)
      · rw [if_neg fun e => h (dec_int_eq e)] at k
        repeat ((try simp only [List.set_cons_zero, List.set_cons_succ]); (first | with_reducible refine iteF ?_ | with_reducible refine iteT ?_ | with_reducible refine ite_no (by decide +kernel) ?_ | with_reducible refine ite_yes (by decide +kernel) ?_ | (fail_if_success (with_reducible refine ite2 ?_ ?_)); (first | refine ⟨_, rfl, ?_⟩ | refine ⟨_, _, rfl, rfl, ?_⟩ | refine ⟨rfl, _, rfl, ?_⟩ | refine ⟨_, _, rfl, ?_⟩ | refine ⟨_, _, _, rfl, ?_⟩ | refine ⟨rfl, ?_⟩ | with_reducible refine And.intro (by (try dsimp only [CDiv, CMul]); omega) ?_)))
        refine fun p hp => ?_
        refine ⟨p, _, rfl, SqT.of upd_same, rfl, ?_⟩
        refine ⟨_, _, rfl, _, _, rfl, _, _, rfl, rfl, ?_⟩
        repeat ((try simp only [List.set_cons_zero, List.set_cons_succ]); (first | with_reducible refine iteF ?_ | with_reducible refine iteT ?_ | with_reducible refine ite_no (by decide +kernel) ?_ | with_reducible refine ite_yes (by decide +kernel) ?_ | (fail_if_success (with_reducible refine ite2 ?_ ?_)); (first | refine ⟨_, rfl, ?_⟩ | refine ⟨_, _, rfl, rfl, ?_⟩ | refine ⟨rfl, _, rfl, ?_⟩ | refine ⟨_, _, rfl, ?_⟩ | refine ⟨_, _, _, rfl, ?_⟩ | refine ⟨rfl, ?_⟩ | with_reducible refine And.intro (by (try dsimp only [CDiv, CMul]); omega) ?_)))
        exact k _ (Same.new hp)

theorem sc_third_in_skolem : FnScope ["size", "a", "b", "odd", "middle", "point", "x", "i", "y"] ["size", "a", "b"] (defScope s_third_in_skolem) := ⟨rfl, rfl, rfl, by decide +kernel, rfl, by decide +kernel, by decide +kernel⟩
def spThirdSkolem : Sp := fun vs H Q _ => ∃ n a b : Int, vs = [.int n, .int a, .int b] ∧ 0 < n ∧ n < 1000000 ∧ ∀ H', Same H H' → Q (.int (thirdSkolem n a b)) H'
theorem fc_third_in_skolem (T : Txt w K mg) : Fc P w K mg base 2 "third_in_skolem" ["size", "a", "b"] spThirdSkolem := by
  have F_point_at := fc_point_at (P := P) (base := base) T
  have F_in_order := fc_in_order (P := P) (base := base) T
  have F_half_of := fc_half_of (P := P) (base := base) T
  have F_twice_of := fc_twice_of (P := P) (base := base) T
  refine mk_fc T.d_third_in_skolem sc_third_in_skolem (fun _ _ _ _ _ _ us hl => match us, hl with | [_, _, _], _ => rfl) (fun vs H Q E h => ?_) (fun f cdv A outer s H vs Q E hr h => ?_)
  · obtain ⟨n, a, b, rfl, _⟩ := h
    rfl
  · obtain ⟨n, a, b, rfl, n0, n1, k⟩ := h
    obtain ⟨t, hLEVELS⟩ := T.i_LEVELS
    refine ⟨_, (pss_cons (ps_set (i := 3) sc_third_in_skolem.nd rfl (Or.inl rfl) (pe_op op_mul (pe_glob (v := .int 3) rfl hLEVELS ⟨_, rfl⟩) (pv 0)))
      (pss_cons (ps_set (i := 4) sc_third_in_skolem.nd rfl (Or.inl rfl) (pe_op op_fdiv (pv 0) pe_int))
      (pss_cons (ps_if (pt_cmpR op_in_seq (pv 3) (pe_tup (pa_cons (pv 1) (pa_cons (pv 2) pa_nil))) (by rfl)) (pss_cons (ps_set (i := 5) sc_third_in_skolem.nd rfl (Or.inl rfl) (pe_op op_sub (pe_op op_add (pv 1) (pv 2)) (pv 3)))
        (pss_cons (ps_par (i := 6) (j := 7) (by rfl) sc_third_in_skolem.nd rfl rfl (by decide) rfl rfl (pa_cons (pe_op op_mod (pv 5) (pv 0)) (pa_cons (pe_op op_fdiv (pv 5) (pv 0)) pa_nil)) (by rfl))
        (pss_one (ps_ret (pe_ifExp (pt_cmpR op_ge (pv 6) (pv 4) (nomark _)) (pe_fc F_point_at hr rfl (pa_cons (pv 0) (pa_cons (pe_op op_sub (pv 6) (pv 4)) (pa_cons (pe_op op_add (pv 7) pe_int) pa_nil)))) (pe_fc F_point_at hr rfl (pa_cons (pv 0) (pa_cons (pe_op op_add (pv 6) (pv 4)) (pa_cons (pe_op op_sub (pv 7) pe_int) pa_nil))))))))) pss_nil)
      (pss_cons (ps_if (pt_cmpR op_eq (pe_op op_fdiv (pv 1) (pv 0)) (pe_op op_fdiv (pv 2) (pv 0)) (nomark _)) (pss_one (ps_ret (pe_fc F_point_at hr rfl (pa_cons (pv 0) (pa_cons (pe_fc F_half_of hr rfl (pa_cons (pv 0) (pa_cons (pe_op op_add (pe_op op_mod (pv 1) (pv 0)) (pe_op op_mod (pv 2) (pv 0))) pa_nil))) (pa_cons (pe_op op_add (pe_op op_fdiv (pv 1) (pv 0)) pe_int) pa_nil)))))) pss_nil)
      (pss_cons (ps_asg (pe_fc F_in_order hr rfl (pa_cons (pv 0) (pa_cons (pv 1) (pa_cons (pv 2) pa_nil)))) (pg_tup rfl (pgs_cons (pg_name (i := 6) sc_third_in_skolem.nd rfl (Or.inl rfl)) (pgs_cons (pg_name (i := 7) sc_third_in_skolem.nd rfl (Or.inl rfl)) (pgs_cons (pg_name (i := 8) sc_third_in_skolem.nd rfl (Or.inl rfl)) pgs_nil)))))
      (pss_cons (ps_if (PW.pt (pw_and (pt_cmpR op_eq (pv 6) (pv 8) (nomark _)) (pw_and1 (pt_cmpR op_lt (pv 6) (pv 4) (nomark _))))) (pss_one (ps_ret (pe_fc F_point_at hr rfl (pa_cons (pv 0) (pa_cons (pv 6) (pa_cons (pe_op op_add (pv 7) pe_int) pa_nil)))))) pss_nil)
      (pss_cons (ps_if (PW.pt (pw_and (pt_cmpR op_ge (pv 6) (pv 4) (nomark _)) (pw_and1 (pt_cmpR op_eq (pv 8) (pe_op op_sub (pv 6) (pv 4)) (nomark _))))) (pss_one (ps_ret (pv 3))) pss_nil)
      (pss_one (ps_ret (pe_fc F_point_at hr rfl (pa_cons (pv 0) (pa_cons (pe_op op_mod (pe_op op_sub (pe_fc F_twice_of hr rfl (pa_cons (pv 0) (pa_cons (pv 8) pa_nil))) (pv 6)) (pv 0)) (pa_cons (pv 7) pa_nil))))))))))))), ?_⟩
    have inE : inV (.int (3 * n)) [.int a, .int b] = true ↔ (a = 3 * n ∨ b = 3 * n) := by
      unfold inV
      simp only [List.any_cons, List.any_nil, Bool.or_false, Bool.or_eq_true, eqV]
      simp
    unfold thirdSkolem at k
    refine st_is (σ := [some _, some _, some _, none, none, none, none, none, none]) rfl ?_
    repeat ((try simp only [List.set_cons_zero, List.set_cons_succ]); (first | with_reducible refine iteF ?_ | with_reducible refine iteT ?_ | with_reducible refine ite_no (by decide +kernel) ?_ | with_reducible refine ite_yes (by decide +kernel) ?_ | (fail_if_success (with_reducible refine ite2 ?_ ?_)); (first | refine ⟨_, rfl, ?_⟩ | refine ⟨_, _, rfl, rfl, ?_⟩ | refine ⟨rfl, _, rfl, ?_⟩ | refine ⟨_, _, rfl, ?_⟩ | refine ⟨_, _, _, rfl, ?_⟩ | refine ⟨rfl, ?_⟩ | with_reducible refine And.intro (by (try dsimp only [CDiv, CMul]); omega) ?_)))
    refine ⟨(by show 2 ≤ sizeLine; decide), fun p hp => ?_⟩
    refine ⟨p, _, rfl, .inr (SqT.of upd_same), rfl, rfl, _, rfl, ?_⟩
    refine ite2 (fun h => ?_) (fun h => ?_)
    · rw [if_pos (inE.mp h)] at k
      repeat ((try simp only [List.set_cons_zero, List.set_cons_succ]); (first | with_reducible refine iteF ?_ | with_reducible refine iteT ?_ | with_reducible refine ite_no (by decide +kernel) ?_ | with_reducible refine ite_yes (by decide +kernel) ?_ | (fail_if_success (with_reducible refine ite2 ?_ ?_)); (first | refine ⟨_, rfl, ?_⟩ | refine ⟨_, _, rfl, rfl, ?_⟩ | refine ⟨rfl, _, rfl, ?_⟩ | refine ⟨_, _, rfl, ?_⟩ | refine ⟨_, _, _, rfl, ?_⟩ | refine ⟨rfl, ?_⟩ | with_reducible refine And.intro (by (try dsimp only [CDiv, CMul]); omega) ?_)))
      refine ite2 (fun h => ?_) (fun h => ?_)
      · rw [if_pos (of_decide_eq_true h)] at k
        repeat ((try simp only [List.set_cons_zero, List.set_cons_succ]); (first | with_reducible refine iteF ?_ | with_reducible refine iteT ?_ | with_reducible refine ite_no (by decide +kernel) ?_ | with_reducible refine ite_yes (by decide +kernel) ?_ | (fail_if_success (with_reducible refine ite2 ?_ ?_)); (first | refine ⟨_, rfl, ?_⟩ | refine ⟨_, _, rfl, rfl, ?_⟩ | refine ⟨rfl, _, rfl, ?_⟩ | refine ⟨_, _, rfl, ?_⟩ | refine ⟨_, _, _, rfl, ?_⟩ | refine ⟨rfl, ?_⟩ | with_reducible refine And.intro (by (try dsimp only [CDiv, CMul]); omega) ?_)))
        exact k _ (Same.new hp)
      · rw [if_neg fun e => h (decide_eq_true e)] at k
        repeat ((try simp only [List.set_cons_zero, List.set_cons_succ]); (first | with_reducible refine iteF ?_ | with_reducible refine iteT ?_ | with_reducible refine ite_no (by decide +kernel) ?_ | with_reducible refine ite_yes (by decide +kernel) ?_ | (fail_if_success (with_reducible refine ite2 ?_ ?_)); (first | refine ⟨_, rfl, ?_⟩ | refine ⟨_, _, rfl, rfl, ?_⟩ | refine ⟨rfl, _, rfl, ?_⟩ | refine ⟨_, _, rfl, ?_⟩ | refine ⟨_, _, _, rfl, ?_⟩ | refine ⟨rfl, ?_⟩ | with_reducible refine And.intro (by (try dsimp only [CDiv, CMul]); omega) ?_)))
        exact k _ (Same.new hp)
    · rw [if_neg fun e => h (inE.mpr e)] at k
      repeat ((try simp only [List.set_cons_zero, List.set_cons_succ]); (first | with_reducible refine iteF ?_ | with_reducible refine iteT ?_ | with_reducible refine ite_no (by decide +kernel) ?_ | with_reducible refine ite_yes (by decide +kernel) ?_ | (fail_if_success (with_reducible refine ite2 ?_ ?_)); (first | refine ⟨_, rfl, ?_⟩ | refine ⟨_, _, rfl, rfl, ?_⟩ | refine ⟨rfl, _, rfl, ?_⟩ | refine ⟨_, _, rfl, ?_⟩ | refine ⟨_, _, _, rfl, ?_⟩ | refine ⟨rfl, ?_⟩ | with_reducible refine And.intro (by (try dsimp only [CDiv, CMul]); omega) ?_)))
      refine ite2 (fun h => ?_) (fun h => ?_)
      · rw [if_pos (of_dec_int h)] at k
        repeat ((try simp only [List.set_cons_zero, List.set_cons_succ]); (first | with_reducible refine iteF ?_ | with_reducible refine iteT ?_ | with_reducible refine ite_no (by decide +kernel) ?_ | with_reducible refine ite_yes (by decide +kernel) ?_ | (fail_if_success (with_reducible refine ite2 ?_ ?_)); (first | refine ⟨_, rfl, ?_⟩ | refine ⟨_, _, rfl, rfl, ?_⟩ | refine ⟨rfl, _, rfl, ?_⟩ | refine ⟨_, _, rfl, ?_⟩ | refine ⟨_, _, _, rfl, ?_⟩ | refine ⟨rfl, ?_⟩ | with_reducible refine And.intro (by (try dsimp only [CDiv, CMul]); omega) ?_)))
        exact k _ (Same.new hp)
      · rw [if_neg fun e => h (dec_int_eq e)] at k
        repeat ((try simp only [List.set_cons_zero, List.set_cons_succ]); (first | with_reducible refine iteF ?_ | with_reducible refine iteT ?_ | with_reducible refine ite_no (by decide +kernel) ?_ | with_reducible refine ite_yes (by decide +kernel) ?_ | (fail_if_success (with_reducible refine ite2 ?_ ?_)); (first | refine ⟨_, rfl, ?_⟩ | refine ⟨_, _, rfl, rfl, ?_⟩ | refine ⟨rfl, _, rfl, ?_⟩ | refine ⟨_, _, rfl, ?_⟩ | refine ⟨_, _, _, rfl, ?_⟩ | refine ⟨rfl, ?_⟩ | with_reducible refine And.intro (by (try dsimp only [CDiv, CMul]); omega) ?_)))
        refine fun q hq => ?_
        refine ⟨q, _, rfl, SqT.of upd_same, rfl, ?_⟩
        refine ⟨_, _, rfl, _, _, rfl, _, _, rfl, rfl, ?_⟩
        have sm : Same H (upd (upd H p (.tup [.int a, .int b])) q (.tup (i3 (inOrder n a b)))) := (Same.new hp).trans (Same.new hq)
        repeat ((try simp only [List.set_cons_zero, List.set_cons_succ]); (first | with_reducible refine iteF ?_ | with_reducible refine iteT ?_ | with_reducible refine ite_no (by decide +kernel) ?_ | with_reducible refine ite_yes (by decide +kernel) ?_ | (fail_if_success (with_reducible refine ite2 ?_ ?_)); (first | refine ⟨_, rfl, ?_⟩ | refine ⟨_, _, rfl, rfl, ?_⟩ | refine ⟨rfl, _, rfl, ?_⟩ | refine ⟨_, _, rfl, ?_⟩ | refine ⟨_, _, _, rfl, ?_⟩ | refine ⟨rfl, ?_⟩ | with_reducible refine And.intro (by (try dsimp only [CDiv, CMul]); omega) ?_)))
        refine ite2 (fun h1 => ?_) (fun h1 => ?_)
        · repeat ((try simp only [List.set_cons_zero, List.set_cons_succ]); (first | with_reducible refine iteF ?_ | with_reducible refine iteT ?_ | with_reducible refine ite_no (by decide +kernel) ?_ | with_reducible refine ite_yes (by decide +kernel) ?_ | (fail_if_success (with_reducible refine ite2 ?_ ?_)); (first | refine ⟨_, rfl, ?_⟩ | refine ⟨_, _, rfl, rfl, ?_⟩ | refine ⟨rfl, _, rfl, ?_⟩ | refine ⟨_, _, rfl, ?_⟩ | refine ⟨_, _, _, rfl, ?_⟩ | refine ⟨rfl, ?_⟩ | with_reducible refine And.intro (by (try dsimp only [CDiv, CMul]); omega) ?_)))
          refine ite2 (fun h2 => ?_) (fun h2 => ?_)
          · rw [if_pos ⟨of_dec_int h1, of_decide_eq_true h2⟩] at k
            repeat ((try simp only [List.set_cons_zero, List.set_cons_succ]); (first | with_reducible refine iteF ?_ | with_reducible refine iteT ?_ | with_reducible refine ite_no (by decide +kernel) ?_ | with_reducible refine ite_yes (by decide +kernel) ?_ | (fail_if_success (with_reducible refine ite2 ?_ ?_)); (first | refine ⟨_, rfl, ?_⟩ | refine ⟨_, _, rfl, rfl, ?_⟩ | refine ⟨rfl, _, rfl, ?_⟩ | refine ⟨_, _, rfl, ?_⟩ | refine ⟨_, _, _, rfl, ?_⟩ | refine ⟨rfl, ?_⟩ | with_reducible refine And.intro (by (try dsimp only [CDiv, CMul]); omega) ?_)))
            exact k _ sm
          · rw [if_neg fun e => h2 (decide_eq_true e.2)] at k
            repeat ((try simp only [List.set_cons_zero, List.set_cons_succ]); (first | with_reducible refine iteF ?_ | with_reducible refine iteT ?_ | with_reducible refine ite_no (by decide +kernel) ?_ | with_reducible refine ite_yes (by decide +kernel) ?_ | (fail_if_success (with_reducible refine ite2 ?_ ?_)); (first | refine ⟨_, rfl, ?_⟩ | refine ⟨_, _, rfl, rfl, ?_⟩ | refine ⟨rfl, _, rfl, ?_⟩ | refine ⟨_, _, rfl, ?_⟩ | refine ⟨_, _, _, rfl, ?_⟩ | refine ⟨rfl, ?_⟩ | with_reducible refine And.intro (by (try dsimp only [CDiv, CMul]); omega) ?_)))
            refine ite2 (fun h3 => ?_) (fun h3 => ?_)
            · repeat ((try simp only [List.set_cons_zero, List.set_cons_succ]); (first | with_reducible refine iteF ?_ | with_reducible refine iteT ?_ | with_reducible refine ite_no (by decide +kernel) ?_ | with_reducible refine ite_yes (by decide +kernel) ?_ | (fail_if_success (with_reducible refine ite2 ?_ ?_)); (first | refine ⟨_, rfl, ?_⟩ | refine ⟨_, _, rfl, rfl, ?_⟩ | refine ⟨rfl, _, rfl, ?_⟩ | refine ⟨_, _, rfl, ?_⟩ | refine ⟨_, _, _, rfl, ?_⟩ | refine ⟨rfl, ?_⟩ | with_reducible refine And.intro (by (try dsimp only [CDiv, CMul]); omega) ?_)))
              refine ite2 (fun h4 => ?_) (fun h4 => ?_)
              · rw [if_pos ⟨of_decide_eq_true h3, of_dec_int h4⟩] at k
                repeat ((try simp only [List.set_cons_zero, List.set_cons_succ]); (first | with_reducible refine iteF ?_ | with_reducible refine iteT ?_ | with_reducible refine ite_no (by decide +kernel) ?_ | with_reducible refine ite_yes (by decide +kernel) ?_ | (fail_if_success (with_reducible refine ite2 ?_ ?_)); (first | refine ⟨_, rfl, ?_⟩ | refine ⟨_, _, rfl, rfl, ?_⟩ | refine ⟨rfl, _, rfl, ?_⟩ | refine ⟨_, _, rfl, ?_⟩ | refine ⟨_, _, _, rfl, ?_⟩ | refine ⟨rfl, ?_⟩ | with_reducible refine And.intro (by (try dsimp only [CDiv, CMul]); omega) ?_)))
                exact k _ sm
              · rw [if_neg fun e => h4 (dec_int_eq e.2)] at k
                repeat ((try simp only [List.set_cons_zero, List.set_cons_succ]); (first | with_reducible refine iteF ?_ | with_reducible refine iteT ?_ | with_reducible refine ite_no (by decide +kernel) ?_ | with_reducible refine ite_yes (by decide +kernel) ?_ | (fail_if_success (with_reducible refine ite2 ?_ ?_)); (first | refine ⟨_, rfl, ?_⟩ | refine ⟨_, _, rfl, rfl, ?_⟩ | refine ⟨rfl, _, rfl, ?_⟩ | refine ⟨_, _, rfl, ?_⟩ | refine ⟨_, _, _, rfl, ?_⟩ | refine ⟨rfl, ?_⟩ | with_reducible refine And.intro (by (try dsimp only [CDiv, CMul]); omega) ?_)))
                exact k _ sm
            · rw [if_neg fun e => h3 (decide_eq_true e.1)] at k
              repeat ((try simp only [List.set_cons_zero, List.set_cons_succ]); (first | with_reducible refine iteF ?_ | with_reducible refine iteT ?_ | with_reducible refine ite_no (by decide +kernel) ?_ | with_reducible refine ite_yes (by decide +kernel) ?_ | (fail_if_success (with_reducible refine ite2 ?_ ?_)); (first | refine ⟨_, rfl, ?_⟩ | refine ⟨_, _, rfl, rfl, ?_⟩ | refine ⟨rfl, _, rfl, ?_⟩ | refine ⟨_, _, rfl, ?_⟩ | refine ⟨_, _, _, rfl, ?_⟩ | refine ⟨rfl, ?_⟩ | with_reducible refine And.intro (by (try dsimp only [CDiv, CMul]); omega) ?_)))
              exact k _ sm
        · rw [if_neg fun e => h1 (dec_int_eq e.1)] at k
          repeat ((try simp only [List.set_cons_zero, List.set_cons_succ]); (first | with_reducible refine iteF ?_ | with_reducible refine iteT ?_ | with_reducible refine ite_no (by decide +kernel) ?_ | with_reducible refine ite_yes (by decide +kernel) ?_ | (fail_if_success (with_reducible refine ite2 ?_ ?_)); (first | refine ⟨_, rfl, ?_⟩ | refine ⟨_, _, rfl, rfl, ?_⟩ | refine ⟨rfl, _, rfl, ?_⟩ | refine ⟨_, _, rfl, ?_⟩ | refine ⟨_, _, _, rfl, ?_⟩ | refine ⟨rfl, ?_⟩ | with_reducible refine And.intro (by (try dsimp only [CDiv, CMul]); omega) ?_)))
          refine ite2 (fun h3 => ?_) (fun h3 => ?_)
          · repeat ((try simp only [List.set_cons_zero, List.set_cons_succ]); (first | with_reducible refine iteF ?_ | with_reducible refine iteT ?_ | with_reducible refine ite_no (by decide +kernel) ?_ | with_reducible refine ite_yes (by decide +kernel) ?_ | (fail_if_success (with_reducible refine ite2 ?_ ?_)); (first | refine ⟨_, rfl, ?_⟩ | refine ⟨_, _, rfl, rfl, ?_⟩ | refine ⟨rfl, _, rfl, ?_⟩ | refine ⟨_, _, rfl, ?_⟩ | refine ⟨_, _, _, rfl, ?_⟩ | refine ⟨rfl, ?_⟩ | with_reducible refine And.intro (by (try dsimp only [CDiv, CMul]); omega) ?_)))
            refine ite2 (fun h4 => ?_) (fun h4 => ?_)
            · rw [if_pos ⟨of_decide_eq_true h3, of_dec_int h4⟩] at k
              repeat ((try simp only [List.set_cons_zero, List.set_cons_succ]); (first | with_reducible refine iteF ?_ | with_reducible refine iteT ?_ | with_reducible refine ite_no (by decide +kernel) ?_ | with_reducible refine ite_yes (by decide +kernel) ?_ | (fail_if_success (with_reducible refine ite2 ?_ ?_)); (first | refine ⟨_, rfl, ?_⟩ | refine ⟨_, _, rfl, rfl, ?_⟩ | refine ⟨rfl, _, rfl, ?_⟩ | refine ⟨_, _, rfl, ?_⟩ | refine ⟨_, _, _, rfl, ?_⟩ | refine ⟨rfl, ?_⟩ | with_reducible refine And.intro (by (try dsimp only [CDiv, CMul]); omega) ?_)))
              exact k _ sm
            · rw [if_neg fun e => h4 (dec_int_eq e.2)] at k
              repeat ((try simp only [List.set_cons_zero, List.set_cons_succ]); (first | with_reducible refine iteF ?_ | with_reducible refine iteT ?_ | with_reducible refine ite_no (by decide +kernel) ?_ | with_reducible refine ite_yes (by decide +kernel) ?_ | (fail_if_success (with_reducible refine ite2 ?_ ?_)); (first | refine ⟨_, rfl, ?_⟩ | refine ⟨_, _, rfl, rfl, ?_⟩ | refine ⟨rfl, _, rfl, ?_⟩ | refine ⟨_, _, rfl, ?_⟩ | refine ⟨_, _, _, rfl, ?_⟩ | refine ⟨rfl, ?_⟩ | with_reducible refine And.intro (by (try dsimp only [CDiv, CMul]); omega) ?_)))
              exact k _ sm
          · rw [if_neg fun e => h3 (decide_eq_true e.1)] at k
            repeat ((try simp only [List.set_cons_zero, List.set_cons_succ]); (first | with_reducible refine iteF ?_ | with_reducible refine iteT ?_ | with_reducible refine ite_no (by decide +kernel) ?_ | with_reducible refine ite_yes (by decide +kernel) ?_ | (fail_if_success (with_reducible refine ite2 ?_ ?_)); (first | refine ⟨_, rfl, ?_⟩ | refine ⟨_, _, rfl, rfl, ?_⟩ | refine ⟨rfl, _, rfl, ?_⟩ | refine ⟨_, _, rfl, ?_⟩ | refine ⟨_, _, _, rfl, ?_⟩ | refine ⟨rfl, ?_⟩ | with_reducible refine And.intro (by (try dsimp only [CDiv, CMul]); omega) ?_)))
            exact k _ sm
end
end PK
end

section
namespace PK
open PySem PySem.Spec PyProof.Rows L2
/-! ### sum and sorted of a tuple of ints -/
section
variable {prog : Program} {w : World} {A : Around} {E : Value → Shared → Prop} {s : Shared}
theorem sumT_raw {t : Addr} {its : List Value} {ns : List Int} {Q : Value → Shared → Prop} (hh : A.handled = none) (ht : IsTup s.heap t its.toArray) (hi : IntsAre its ns)
    (h : ∀ h' tk t', (∀ b o, s.heap.get? b = some o → h'.get? b = some o) → Q (.int ns.sum t') { s with heap := h', toks := tk }) :
    wpAny (model prog w) A (call (.builtin "sum") [.ref t]) Q E s := by
  obtain ⟨xs, e⟩ := hi.allInts.items
  have hn := hi.numsOf
  have e2 : its = (intItems xs).toList := by rw [← e]
  rw [e2, nums_intItems] at hn
  rw [e] at ht
  refine PySem.W.ktm_sumG hh (show s.heap.IsTuple t (intItems xs) from ht) fun h' tk t' hk => ?_
  have q := h h' tk t' hk
  rw [← hn] at q
  rw [preSum_eq, List.take_of_length_le (by simp)]
  exact q
/-- the items of a tuple, gathered -/
theorem gather_tup {t : Addr} {vs : List Value} {Q : List Value → Shared → Prop} (ht : IsTup s.heap t vs.toArray) (hz : vs.length ≤ sizeLine)
    (h : Q vs { s with heap := (s.heap.push (seqObj "list" #[] 0)).update s.heap.objs.size (Obj.mapSeq (· ++ vs.toArray)) }) : wpAny (model prog w) A (collect (.ref t)) Q E s := by
  obtain ⟨o, ho, hc, n, hd⟩ := ht
  have old : (s.heap.push (seqObj "list" #[] 0)).get? t = some o := Heap.get?_push_of_some _ ho
  have new : (s.heap.push (seqObj "list" #[] 0)).get? s.heap.objs.size = some (seqObj "list" #[] 0) := Heap.get?_push_size _ rfl
  unfold collect
  apply wpAny_bind
  apply wpAny_runValue
  refine codeAny_builtin entry_proto_collect' ?_
  show wpAny _ _ (newList [] >>= fun l => again (.builtin "list.__iadd__" ⟨[l, .ref t], []⟩)) _ _ s
  refine wpAny_bind (wpAny_newList ?_)
  refine wpAny_pure ⟨Code.quiet_builtin _ (by decide +kernel), ?_⟩
  refine codeAny_builtin entry_list_iadd' ?_
  show wpAny _ _ (Builtin.List.listExtendWith (.ref s.heap.objs.size) (.ref t) (.ref s.heap.objs.size)) _ _ _
  unfold Builtin.List.listExtendWith
  refine wpAny_bind (wpAny_typeOf (T := "tuple") ⟨o, old, hc⟩ ?_)
  have c : (Builtin.List.listSameRef (Value.ref s.heap.objs.size) (Value.ref t) || Value.type "tuple" == Value.type "list" || Value.type "tuple" == Value.type "tuple") = true := by
    rw [Bool.or_eq_true]
    exact .inr (by rfl)
  rw [if_pos c]
  refine wpAny_bind (listItems_at old hd ?_)
  refine wpAny_bind (listItems_at (xs := #[]) (n := 0) new rfl ?_)
  rw [if_neg (by simp)]
  have fits : ((#[] : Array Value) ++ vs.toArray).size ≤ sizeLine + 1 := by
    rw [Array.size_append, List.size_toArray]
    show 0 + vs.length ≤ _
    omega
  refine wpAny_bind (listUpdate_at (xs := #[]) (n := 0) new rfl ?_ (Nat.zero_le _) fits)
  refine wpAny_pure ?_
  have at2 := get?_update_seq new (fun a => a ++ vs.toArray)
  have em : ((#[] : Array Value) ++ vs.toArray).toList = vs := by simp
  refine wpAny_bind (wpAny_load at2 ?_)
  show wpAny _ _ (pure ((#[] : Array Value) ++ vs.toArray).toList) Q E _
  rw [em]
  exact wpAny_pure h
theorem sortedT_raw {t : Addr} {vs : List Value} {ns : List Int} {Q : Value → Shared → Prop} (ht : IsTup s.heap t vs.toArray) (hI : IntsAre vs ns) (hz : vs.length ≤ sizeLine)
    (h : ∀ (out : Array Value) (ns' : List Int), IntsAre out.toList ns' → ns'.Perm ns → ns'.Pairwise (· ≤ ·) → Q (.ref (s.heap.objs.size + 1)) { s with heap := sortedAll s.heap vs out }) :
    wpAny (model prog w) A (call (.builtin "sorted") [.ref t]) Q E s := by
  refine Calls.call_function_entry kind_sorted plain_sorted entry_sorted (args_sorted1 _) ?_
  unfold Builtin.«sorted»
  refine wpAny_bind (m := checkCount "sorted" 1 1 _) (wpAny_pure ?_)
  refine wpAny_bind (gather_tup ht hz ?_)
  refine wpAny_bind (wpAny_newList ?_)
  have n1 : ((s.heap.push (seqObj "list" #[] 0)).update s.heap.objs.size (Obj.mapSeq (· ++ vs.toArray))).objs.size = s.heap.objs.size + 1 := (Heap.size_update ..).trans (size_push' ..)
  generalize hg : (s.heap.push (seqObj "list" #[] 0)).update s.heap.objs.size (Obj.mapSeq (· ++ vs.toArray)) = g at n1 ⊢
  have there : (g.push (seqObj "list" vs.toArray 0)).get? (s.heap.objs.size + 1) = some (seqObj "list" vs.toArray 0) := by
    rw [← n1]
    exact Heap.get?_push_size _ rfl
  show wpAny _ _ _ _ _ { s with heap := g.push (seqObj "list" vs.toArray 0) }
  rw [n1]
  refine wpAny_bind (wpAny_holding (wpAny_call_entry slot_list_sort ⟨_, there, rfl⟩ entry_list_sort ?_ (args_list_sort _)))
  refine list_sort_treeAny there hI hz fun out ns' a1 a2 a3 => ⟨_, rfl, wpAny_pure ⟨_, rfl, ?_⟩⟩
  have q := h out ns' a1 a2 a3
  unfold sortedAll at q
  rw [hg] at q
  exact q
end
def rSumT (K : PySem.W.Frag) : List V → Hp → VK → Prop := fun vs H Q => ∃ (a : Addr) (ns : List Int), vs = [V.ref a] ∧ SqT K H a (ns.map V.int) ∧ Q (.int ns.sum) H
theorem cr_sumT {X : Cx} (hc : X.calm = true) : CallR X (.builtin "sum") (rSumT X.K) := by
  intro pins s σ H vs us Q I r h
  obtain ⟨a, ns, rfl, hs, q⟩ := h
  obtain ⟨its, rv, ht, _⟩ := I.tuple hs
  rw [Vals.ref1 r]
  exact sumT_raw (I.ok.hd hc) ht rv.ints fun h' tk t' hk => ⟨.int _, H, I.kept hk, ⟨_, rfl⟩, q⟩
def rSortedTI (K : PySem.W.Frag) : List V → Hp → VK → Prop := fun vs H Q => ∃ (a : Addr) (ns : List Int), vs = [V.ref a] ∧ SqT K H a (ns.map V.int) ∧
  ∀ (ns' : List Int) (p : Addr), ns'.Perm ns → ns'.Pairwise (· ≤ ·) → H p = none → Q (.ref p) (upd H p (.lst (ns'.map V.int)))
theorem cr_sortedTI {X : Cx} : CallR X (.builtin "sorted") (rSortedTI X.K) := by
  intro pins s σ H vs us Q I r h
  obtain ⟨a, ns, rfl, hs, q⟩ := h
  obtain ⟨its, rv, ht, hz⟩ := I.tuple hs
  rw [Vals.ref1 r]
  have hz2 : its.length ≤ sizeLine := by rw [← rv.length]; exact hz
  refine sortedT_raw ht rv.ints hz2 fun out ns' k1 k2 k3 => ?_
  obtain ⟨ep, he⟩ := PyProof.Rows.sortedAll_at s.heap its out
  have hlen : (ns'.map V.int).length ≤ sizeLine := by
    rw [List.length_map, k2.length_eq]
    rw [List.length_map] at hz
    exact hz
  refine ⟨.ref _, upd H (s.heap.objs.size + 1) (.lst (ns'.map V.int)), I.laid (t' := s.toks) (fun _ _ => PyProof.Rows.sortedAll_old) (Nat.le_succ _) ?_, rfl, q ns' _ k2 k3 (I.hok.fresh (Nat.le_succ _))⟩
  exact ⟨hlen, out.toList, ep, vals_of_ints k1, he⟩
end PK
end

section
namespace PK
open PySem PySem.Spec PyProof.Rows L2
/-! ### trees in the heap -/
def thV (t : Tri) : List V := [.int (t.1 : Int), .int (t.2.1 : Int), .int (t.2.2 : Int)]
def ThsAt (H : Hp) (q : Addr) (ts : List Tri) : Prop :=
  ∃ rs : List Addr, H q = some (.tup (rs.map V.ref)) ∧ rs.length = ts.length ∧ ∀ (i : Nat) (r : Addr) (t : Tri), rs[i]? = some r → ts[i]? = some t → H r = some (.tup (thV t))
def TrAt (H : Hp) : Tree → V → Prop
  | .bose n, v => ∃ p, v = .ref p ∧ H p = some (.tup [.str "bose", .int (n : Int)])
  | .skolem n, v => ∃ p, v = .ref p ∧ H p = some (.tup [.str "skolem", .int (n : Int)])
  | .affine n, v => ∃ p, v = .ref p ∧ H p = some (.tup [.str "affine", .int (n : Int)])
  | .binary n, v => ∃ p, v = .ref p ∧ H p = some (.tup [.str "binary", .int (n : Int)])
  | .listed n ts, v => ∃ p q, v = .ref p ∧ H p = some (.tup [.str "listed", .int (n : Int), .ref q]) ∧ ThsAt H q ts
  | .double t, v => ∃ p u, v = .ref p ∧ H p = some (.tup [.str "double", u]) ∧ TrAt H t u
  | .product s t, v => ∃ p u u', v = .ref p ∧ H p = some (.tup [.str "product", u, u']) ∧ TrAt H s u ∧ TrAt H t u'
theorem ThsAt.keep {H H' : Hp} {q : Addr} {ts : List Tri} (h : ThsAt H q ts) (s : TupSub H H') : ThsAt H' q ts := by
  obtain ⟨rs, h1, h2, h3⟩ := h
  exact ⟨rs, s _ _ h1, h2, fun i r t e1 e2 => s _ _ (h3 i r t e1 e2)⟩
theorem TrAt.keep {H H' : Hp} (s : TupSub H H') : ∀ {t : Tree} {v : V}, TrAt H t v → TrAt H' t v
  | .bose _, _, ⟨p, e, h⟩ => ⟨p, e, s _ _ h⟩
  | .skolem _, _, ⟨p, e, h⟩ => ⟨p, e, s _ _ h⟩
  | .affine _, _, ⟨p, e, h⟩ => ⟨p, e, s _ _ h⟩
  | .binary _, _, ⟨p, e, h⟩ => ⟨p, e, s _ _ h⟩
  | .listed _ _, _, ⟨p, q, e, h, h2⟩ => ⟨p, q, e, s _ _ h, h2.keep s⟩
  | .double _, _, ⟨p, u, e, h, h2⟩ => ⟨p, u, e, s _ _ h, TrAt.keep s h2⟩
  | .product _ _, _, ⟨p, u, u', e, h, h2, h3⟩ => ⟨p, u, u', e, s _ _ h, TrAt.keep s h2, TrAt.keep s h3⟩
/-- within the bounds of the walks -/
def bd : Tree → Prop
  | .affine k => k ≤ 60
  | .binary k => k ≤ 60
  | .double t => bd t
  | .product s t => bd s ∧ bd t ∧ sizeOf s < 1000000
  | .listed n ts => n < 1000000 ∧ ts.length ≤ 90000
  | _ => True
section
variable {P : Program} {w : World} {K : PySem.W.Frag} {mg : Str → Option Value} {base : Heap}
theorem sc_size_of : FnScope ["tree", "kind"] ["tree"] (defScope s_size_of) := ⟨rfl, rfl, rfl, by decide +kernel, rfl, by decide +kernel, by decide +kernel⟩
def spSize (d : Nat) : Sp := fun vs H Q _ => ∃ v t, vs = [v] ∧ TrAt H t v ∧ depth t ≤ d ∧ bd t ∧ Q (.int (sizeOf t : Int)) H
theorem Fc.never {x : Str} {st : Stmt} {ps : List Str} {sp : Sp} {k : Nat} (D : ∃ f fd, mg x = some (.ref f) ∧ FnP K x st f fd)
    (hb : ∀ (kV doc pm : Value) (an : Option Addr) (cdv ct : Value) (us : List Value), us.length = ps.length → bindArgs (PySem.W.fnOf x x (defArgs st) (defBody st) (defScope st) .none kV doc pm an cdv ct) ⟨us, []⟩ = pure (ps.zip us))
    (no : ∀ vs H Q E, ¬ sp vs H Q E) : Fc P w K mg base k x ps sp := by
  obtain ⟨f, fd, hm, F⟩ := D
  exact ⟨f, fd, hm, F.kp, F.bindsN hb, ⟨fun vs H Q E h => (no _ _ _ _ h).elim, fun A outer s H args us vs Q E _ _ _ _ h => (no _ _ _ _ h).elim⟩⟩
/-- one turn of the depth -/
theorem fc_size_turn {d : Nat} {k : Nat} (T : Txt w K mg) (F_size_of : ∀ j, d = j + 1 → Fc P w K mg base (k + 1) "size_of" ["tree"] (spSize j)) : Fc P w K mg base (k + 2) "size_of" ["tree"] (spSize d) := by
  have F_power_of := fc_power_of (P := P) (base := base) T
  obtain ⟨j, hj, F_size_of⟩ : ∃ j : Nat, (∀ t, depth t + 1 ≤ d → depth t ≤ j) ∧ Fc P w K mg base (k + 1) "size_of" ["tree"] (fun vs H Q E => d ≠ 0 ∧ spSize j vs H Q E) := by
    cases d with
    | zero => exact ⟨0, fun t h => absurd h (Nat.not_succ_le_zero _), Fc.never T.d_size_of (fun _ _ _ _ _ _ us hl => match us, hl with | [_], _ => rfl) fun _ _ _ _ h => h.1 rfl⟩
    | succ j => exact ⟨j, fun t h => Nat.le_of_succ_le_succ h, (F_size_of j rfl).imp fun _ _ _ _ h => h.2⟩
  refine mk_fc T.d_size_of sc_size_of (fun _ _ _ _ _ _ us hl => match us, hl with | [_], _ => rfl) (fun vs H Q E h => ?_) (fun f cdv A outer s H vs Q E hr h => ?_)
  · obtain ⟨v, t, rfl, _⟩ := h
    rfl
  · obtain ⟨v, t, rfl, hT, hd, hb, q⟩ := h
    have hr1 : Room 1 _ := hr.mono (by omega)
    refine ⟨_, (pss_cons (ps_set (i := 1) sc_size_of.nd rfl (Or.inl rfl) (pe_ix ix_tup (pv 0) pe_int (fun _ _ => rfl)))
      (pss_cons (ps_if (pt_cmpR op_eq (pv 1) pe_str (nomark _)) (pss_one (ps_ret (pe_fc F_power_of hr1 rfl (pa_cons pe_int (pa_cons (pe_ix ix_tup (pv 0) pe_int (fun _ _ => rfl)) pa_nil))))) pss_nil)
      (pss_cons (ps_if (pt_cmpR op_eq (pv 1) pe_str (nomark _)) (pss_one (ps_ret (pe_op op_sub (pe_fc F_power_of hr1 rfl (pa_cons pe_int (pa_cons (pe_ix ix_tup (pv 0) pe_int (fun _ _ => rfl)) pa_nil))) pe_int))) pss_nil)
      (pss_cons (ps_if (pt_cmpR op_eq (pv 1) pe_str (nomark _)) (pss_one (ps_ret (pe_op op_add (pe_op op_mul pe_int (pe_fc F_size_of hr rfl (pa_cons (pe_ix ix_tup (pv 0) pe_int (fun _ _ => rfl)) pa_nil) (Nat.le_refl _))) pe_int))) pss_nil)
      (pss_cons (ps_if (pt_cmpR op_eq (pv 1) pe_str (nomark _)) (pss_one (ps_ret (pe_op op_mul (pe_fc F_size_of hr rfl (pa_cons (pe_ix ix_tup (pv 0) pe_int (fun _ _ => rfl)) pa_nil) (Nat.le_refl _)) (pe_fc F_size_of hr rfl (pa_cons (pe_ix ix_tup (pv 0) pe_int (fun _ _ => rfl)) pa_nil) (Nat.le_refl _))))) pss_nil)
      (pss_one (ps_ret (pe_ix ix_tup (pv 0) pe_int (fun _ _ => rfl))))))))), ?_⟩
    refine st_is (σ := [some _, none]) rfl ?_
    cases t with
    | bose n =>
      obtain ⟨p, rfl, hp⟩ := hT
      repeat ((try simp only [List.set_cons_zero, List.set_cons_succ]); (first | with_reducible refine iteF ?_ | with_reducible refine iteT ?_ | with_reducible refine ite_no (by decide +kernel) ?_ | with_reducible refine ite_yes (by decide +kernel) ?_ | (fail_if_success (with_reducible refine ite2 ?_ ?_)); (first | refine ⟨_, rfl, ?_⟩ | refine ⟨_, _, rfl, rfl, ?_⟩ | refine ⟨rfl, _, rfl, ?_⟩ | refine ⟨_, _, rfl, ?_⟩ | refine ⟨_, _, _, rfl, ?_⟩ | refine ⟨_, _, _, _, rfl, rfl, SqT.of hp, rfl, ?_⟩ | refine ⟨rfl, ?_⟩ | with_reducible refine And.intro (by (try dsimp only [CDiv, CMul]); omega) ?_)))
      exact q
    | skolem n =>
      obtain ⟨p, rfl, hp⟩ := hT
      repeat ((try simp only [List.set_cons_zero, List.set_cons_succ]); (first | with_reducible refine iteF ?_ | with_reducible refine iteT ?_ | with_reducible refine ite_no (by decide +kernel) ?_ | with_reducible refine ite_yes (by decide +kernel) ?_ | (fail_if_success (with_reducible refine ite2 ?_ ?_)); (first | refine ⟨_, rfl, ?_⟩ | refine ⟨_, _, rfl, rfl, ?_⟩ | refine ⟨rfl, _, rfl, ?_⟩ | refine ⟨_, _, rfl, ?_⟩ | refine ⟨_, _, _, rfl, ?_⟩ | refine ⟨_, _, _, _, rfl, rfl, SqT.of hp, rfl, ?_⟩ | refine ⟨rfl, ?_⟩ | with_reducible refine And.intro (by (try dsimp only [CDiv, CMul]); omega) ?_)))
      exact q
    | affine n =>
      obtain ⟨p, rfl, hp⟩ := hT
      have hb : n ≤ 60 := hb
      repeat ((try simp only [List.set_cons_zero, List.set_cons_succ]); (first | with_reducible refine iteF ?_ | with_reducible refine iteT ?_ | with_reducible refine ite_no (by decide +kernel) ?_ | with_reducible refine ite_yes (by decide +kernel) ?_ | (fail_if_success (with_reducible refine ite2 ?_ ?_)); (first | refine ⟨_, rfl, ?_⟩ | refine ⟨_, _, rfl, rfl, ?_⟩ | refine ⟨rfl, _, rfl, ?_⟩ | refine ⟨_, _, rfl, ?_⟩ | refine ⟨_, _, _, rfl, ?_⟩ | refine ⟨_, _, _, _, rfl, rfl, SqT.of hp, rfl, ?_⟩ | refine ⟨rfl, ?_⟩ | with_reducible refine And.intro (by (try dsimp only [CDiv, CMul]); omega) ?_)))
      have e : ((3 ^ n : Nat) : Int) = (3 : Int) ^ n := by rw [Int.natCast_pow]; rfl
      rw [← e]
      exact q
    | binary n =>
      obtain ⟨p, rfl, hp⟩ := hT
      have hb : n ≤ 60 := hb
      repeat ((try simp only [List.set_cons_zero, List.set_cons_succ]); (first | with_reducible refine iteF ?_ | with_reducible refine iteT ?_ | with_reducible refine ite_no (by decide +kernel) ?_ | with_reducible refine ite_yes (by decide +kernel) ?_ | (fail_if_success (with_reducible refine ite2 ?_ ?_)); (first | refine ⟨_, rfl, ?_⟩ | refine ⟨_, _, rfl, rfl, ?_⟩ | refine ⟨rfl, _, rfl, ?_⟩ | refine ⟨_, _, rfl, ?_⟩ | refine ⟨_, _, _, rfl, ?_⟩ | refine ⟨_, _, _, _, rfl, rfl, SqT.of hp, rfl, ?_⟩ | refine ⟨rfl, ?_⟩ | with_reducible refine And.intro (by (try dsimp only [CDiv, CMul]); omega) ?_)))
      have h1 : 0 < 2 ^ n := Nat.two_pow_pos n
      have e : ((2 ^ n : Nat) : Int) = (2 : Int) ^ n := by rw [Int.natCast_pow]; rfl
      have e2 : (((2 ^ n - 1 : Nat)) : Int) = (2 : Int) ^ n - 1 := by rw [← e]; omega
      have q : Q (V.int ((2 ^ n - 1 : Nat) : Int)) H := q
      rw [e2] at q
      exact q
    | listed n ts =>
      obtain ⟨p, u, rfl, hp, _⟩ := hT
      repeat ((try simp only [List.set_cons_zero, List.set_cons_succ]); (first | with_reducible refine iteF ?_ | with_reducible refine iteT ?_ | with_reducible refine ite_no (by decide +kernel) ?_ | with_reducible refine ite_yes (by decide +kernel) ?_ | (fail_if_success (with_reducible refine ite2 ?_ ?_)); (first | refine ⟨_, rfl, ?_⟩ | refine ⟨_, _, rfl, rfl, ?_⟩ | refine ⟨rfl, _, rfl, ?_⟩ | refine ⟨_, _, rfl, ?_⟩ | refine ⟨_, _, _, rfl, ?_⟩ | refine ⟨_, _, _, _, rfl, rfl, SqT.of hp, rfl, ?_⟩ | refine ⟨rfl, ?_⟩ | with_reducible refine And.intro (by (try dsimp only [CDiv, CMul]); omega) ?_)))
      exact q
    | double t =>
      obtain ⟨p, u, rfl, hp, hu⟩ := hT
      have hd : depth t + 1 ≤ d := hd
      repeat ((try simp only [List.set_cons_zero, List.set_cons_succ]); (first | with_reducible refine iteF ?_ | with_reducible refine iteT ?_ | with_reducible refine ite_no (by decide +kernel) ?_ | with_reducible refine ite_yes (by decide +kernel) ?_ | (fail_if_success (with_reducible refine ite2 ?_ ?_)); (first | refine ⟨_, rfl, ?_⟩ | refine ⟨_, _, rfl, rfl, ?_⟩ | refine ⟨rfl, _, rfl, ?_⟩ | refine ⟨_, _, rfl, ?_⟩ | refine ⟨_, _, _, rfl, ?_⟩ | refine ⟨_, _, _, _, rfl, rfl, SqT.of hp, rfl, ?_⟩ | refine ⟨rfl, ?_⟩ | with_reducible refine And.intro (by (try dsimp only [CDiv, CMul]); omega) ?_)))
      refine ⟨by omega, u, t, rfl, hu, hj t hd, hb, ?_⟩
      repeat ((try simp only [List.set_cons_zero, List.set_cons_succ]); (first | with_reducible refine iteF ?_ | with_reducible refine iteT ?_ | with_reducible refine ite_no (by decide +kernel) ?_ | with_reducible refine ite_yes (by decide +kernel) ?_ | (fail_if_success (with_reducible refine ite2 ?_ ?_)); (first | refine ⟨_, rfl, ?_⟩ | refine ⟨_, _, rfl, rfl, ?_⟩ | refine ⟨rfl, _, rfl, ?_⟩ | refine ⟨_, _, rfl, ?_⟩ | refine ⟨_, _, _, rfl, ?_⟩ | refine ⟨_, _, _, _, rfl, rfl, SqT.of hp, rfl, ?_⟩ | refine ⟨rfl, ?_⟩ | with_reducible refine And.intro (by (try dsimp only [CDiv, CMul]); omega) ?_)))
      have e : ((2 * sizeOf t + 1 : Nat) : Int) = 2 * (sizeOf t : Int) + 1 := by omega
      have q : Q (V.int ((2 * sizeOf t + 1 : Nat) : Int)) H := q
      rw [e] at q
      exact q
    | product s t =>
      obtain ⟨p, u, u', rfl, hp, hu, hu'⟩ := hT
      have hd : max (depth s) (depth t) + 1 ≤ d := hd
      obtain ⟨b1, b2, b3⟩ : bd s ∧ bd t ∧ sizeOf s < 1000000 := hb
      repeat ((try simp only [List.set_cons_zero, List.set_cons_succ]); (first | with_reducible refine iteF ?_ | with_reducible refine iteT ?_ | with_reducible refine ite_no (by decide +kernel) ?_ | with_reducible refine ite_yes (by decide +kernel) ?_ | (fail_if_success (with_reducible refine ite2 ?_ ?_)); (first | refine ⟨_, rfl, ?_⟩ | refine ⟨_, _, rfl, rfl, ?_⟩ | refine ⟨rfl, _, rfl, ?_⟩ | refine ⟨_, _, rfl, ?_⟩ | refine ⟨_, _, _, rfl, ?_⟩ | refine ⟨_, _, _, _, rfl, rfl, SqT.of hp, rfl, ?_⟩ | refine ⟨rfl, ?_⟩ | with_reducible refine And.intro (by (try dsimp only [CDiv, CMul]); omega) ?_)))
      refine ⟨by omega, u, s, rfl, hu, hj s (by omega), b1, ?_⟩
      repeat ((try simp only [List.set_cons_zero, List.set_cons_succ]); (first | with_reducible refine iteF ?_ | with_reducible refine iteT ?_ | with_reducible refine ite_no (by decide +kernel) ?_ | with_reducible refine ite_yes (by decide +kernel) ?_ | (fail_if_success (with_reducible refine ite2 ?_ ?_)); (first | refine ⟨_, rfl, ?_⟩ | refine ⟨_, _, rfl, rfl, ?_⟩ | refine ⟨rfl, _, rfl, ?_⟩ | refine ⟨_, _, rfl, ?_⟩ | refine ⟨_, _, _, rfl, ?_⟩ | refine ⟨_, _, _, _, rfl, rfl, SqT.of hp, rfl, ?_⟩ | refine ⟨rfl, ?_⟩ | with_reducible refine And.intro (by (try dsimp only [CDiv, CMul]); omega) ?_)))
      refine ⟨by omega, u', t, rfl, hu', hj t (by omega), b2, ?_⟩
      repeat ((try simp only [List.set_cons_zero, List.set_cons_succ]); (first | with_reducible refine iteF ?_ | with_reducible refine iteT ?_ | with_reducible refine ite_no (by decide +kernel) ?_ | with_reducible refine ite_yes (by decide +kernel) ?_ | (fail_if_success (with_reducible refine ite2 ?_ ?_)); (first | refine ⟨_, rfl, ?_⟩ | refine ⟨_, _, rfl, rfl, ?_⟩ | refine ⟨rfl, _, rfl, ?_⟩ | refine ⟨_, _, rfl, ?_⟩ | refine ⟨_, _, _, rfl, ?_⟩ | refine ⟨_, _, _, _, rfl, rfl, SqT.of hp, rfl, ?_⟩ | refine ⟨rfl, ?_⟩ | with_reducible refine And.intro (by (try dsimp only [CDiv, CMul]); omega) ?_)))
      have q : Q (V.int ((sizeOf s * sizeOf t : Nat) : Int)) H := q
      rw [Int.natCast_mul] at q
      exact q
theorem fc_size_of (T : Txt w K mg) : ∀ d : Nat, Fc P w K mg base (d + 2) "size_of" ["tree"] (spSize d)
  | 0 => fc_size_turn (k := 0) T fun _ h => nomatch h
  | d + 1 => fc_size_turn (k := d + 1) T fun j h => by
    obtain rfl : d = j := Nat.succ.inj h
    exact fc_size_of T d
end
end PK
end

section
namespace PK
open PySem PySem.Spec PyProof.Rows L2
theorem inV_tri (a : Int) (t : Tri) : inV (.int a) (thV t) = inTri a t := by
  unfold inV thV inTri
  simp only [List.any_cons, List.any_nil, Bool.or_false, eqV, Bool.beq_eq_decide_eq]
theorem thV_sum (t : Tri) : ([(t.1 : Int), (t.2.1 : Int), (t.2.2 : Int)] : List Int).sum = triSum t := by
  unfold triSum
  simp [List.sum_cons]
theorem thV_ints (t : Tri) : thV t = ([(t.1 : Int), (t.2.1 : Int), (t.2.2 : Int)] : List Int).map V.int := rfl
theorem inV2 (x a b : Int) : inV (.int x) [.int a, .int b] = true ↔ (a = x ∨ b = x) := by
  unfold inV
  simp only [List.any_cons, List.any_nil, Bool.or_false, Bool.or_eq_true, eqV]
  simp
/-- what the comprehension of the threes holds -/
def hits (ts : List Tri) (a b : Int) : List V := (ts.filter fun t => inTri a t && inTri b t).map fun t => V.int (triSum t - a - b)
theorem hits_first {ts : List Tri} {a b c : Int} (h : byThrees ts a b = some c) : atI (hits ts a b) 0 = some (.int c) := by
  unfold byThrees at h
  obtain ⟨t, ht, e⟩ := Option.map_eq_some_iff.mp h
  refine atI_nat (j := 0) ?_
  unfold hits
  rw [List.getElem?_map, ← List.head?_eq_getElem?, List.head?_filter, ht]
  show some (V.int (triSum t - a - b)) = _
  rw [e]
section
variable {P : Program} {w : World} {K : PySem.W.Frag} {mg : Str → Option Value} {base : Heap}
def spThird (d : Nat) : Sp := fun vs H Q _ => ∃ v t a b c, vs = [v, .int a, .int b] ∧ TrAt H t v ∧ depth t ≤ d ∧ bd t ∧ thirdOf t a b = some c ∧ ∀ H', Same H H' → Q (.int c) H'
def spBoth (d : Nat) : Sp := fun vs H Q _ => ∃ v t a b c, vs = [v, .int a, .int b] ∧ TrAt H t v ∧ depth t ≤ d ∧ bd t ∧ bothOf t a b = some c ∧ ∀ H', Same H H' → Q (.int c) H'
def spDouble (d : Nat) : Sp := fun vs H Q _ => ∃ v t a b c, vs = [v, .int a, .int b] ∧ TrAt H t v ∧ depth t + 1 ≤ d ∧ bd t ∧ thirdOf (.double t) a b = some c ∧ ∀ H', Same H H' → Q (.int c) H'
def spProduct (d : Nat) : Sp := fun vs H Q _ => ∃ u v s t a b c, vs = [u, v, .int a, .int b] ∧ TrAt H s u ∧ TrAt H t v ∧ depth s + 1 ≤ d ∧ depth t + 1 ≤ d ∧ bd s ∧ bd t ∧ thirdOf (.product s t) a b = some c ∧ ∀ H', Same H H' → Q (.int c) H'

theorem sc_both : FnScope ["tree", "a", "b"] ["tree", "a", "b"] (defScope s_both) := ⟨rfl, rfl, rfl, by decide +kernel, rfl, by decide +kernel, by decide +kernel⟩
theorem fc_both {d k : Nat} (T : Txt w K mg) (F_third_of : Fc P w K mg base k "third_of" ["tree", "a", "b"] (spThird d)) : Fc P w K mg base (k + 1) "both" ["tree", "a", "b"] (spBoth d) := by
  refine mk_fc T.d_both sc_both (fun _ _ _ _ _ _ us hl => match us, hl with | [_, _, _], _ => rfl) (fun vs H Q E h => ?_) (fun f cdv A outer s H vs Q E hr h => ?_)
  · obtain ⟨v, t, a, b, c, rfl, _⟩ := h
    rfl
  · obtain ⟨v, t, a, b, c, rfl, hT, hd, hb, hc, q⟩ := h
    refine ⟨_, (pss_one (ps_ret (pe_ifExp (pt_cmpR op_eq (pv 1) (pv 2) (nomark _)) (pv 1) (pe_fc F_third_of hr rfl (pa_cons (pv 0) (pa_cons (pv 1) (pa_cons (pv 2) pa_nil))) (Nat.le_refl _))))), ?_⟩
    refine st_is (σ := [some _, some _, some _]) rfl ?_
    unfold bothOf at hc
    repeat ((try simp only [List.set_cons_zero, List.set_cons_succ]); (first | with_reducible refine iteF ?_ | with_reducible refine iteT ?_ | with_reducible refine ite_no (by decide +kernel) ?_ | with_reducible refine ite_yes (by decide +kernel) ?_ | (fail_if_success (with_reducible refine ite2 ?_ ?_)); (first | refine ⟨_, rfl, ?_⟩ | refine ⟨_, _, rfl, rfl, ?_⟩ | refine ⟨rfl, _, rfl, ?_⟩ | refine ⟨_, _, rfl, ?_⟩ | refine ⟨_, _, _, rfl, ?_⟩ | refine ⟨rfl, ?_⟩ | with_reducible refine And.intro (by (try dsimp only [CDiv, CMul]); omega) ?_)))
    refine ite2 (fun h => ?_) (fun h => ?_)
    · rw [if_pos (of_dec_int h)] at hc
      cases hc
      repeat ((try simp only [List.set_cons_zero, List.set_cons_succ]); (first | with_reducible refine iteF ?_ | with_reducible refine iteT ?_ | with_reducible refine ite_no (by decide +kernel) ?_ | with_reducible refine ite_yes (by decide +kernel) ?_ | (fail_if_success (with_reducible refine ite2 ?_ ?_)); (first | refine ⟨_, rfl, ?_⟩ | refine ⟨_, _, rfl, rfl, ?_⟩ | refine ⟨rfl, _, rfl, ?_⟩ | refine ⟨_, _, rfl, ?_⟩ | refine ⟨_, _, _, rfl, ?_⟩ | refine ⟨rfl, ?_⟩ | with_reducible refine And.intro (by (try dsimp only [CDiv, CMul]); omega) ?_)))
      exact q _ (Same.refl H)
    · rw [if_neg fun e => h (dec_int_eq e)] at hc
      repeat ((try simp only [List.set_cons_zero, List.set_cons_succ]); (first | with_reducible refine iteF ?_ | with_reducible refine iteT ?_ | with_reducible refine ite_no (by decide +kernel) ?_ | with_reducible refine ite_yes (by decide +kernel) ?_ | (fail_if_success (with_reducible refine ite2 ?_ ?_)); (first | refine ⟨_, rfl, ?_⟩ | refine ⟨_, _, rfl, rfl, ?_⟩ | refine ⟨rfl, _, rfl, ?_⟩ | refine ⟨_, _, rfl, ?_⟩ | refine ⟨_, _, _, rfl, ?_⟩ | refine ⟨rfl, ?_⟩ | with_reducible refine And.intro (by (try dsimp only [CDiv, CMul]); omega) ?_)))
      exact ⟨v, t, a, b, c, rfl, hT, hd, hb, hc, q⟩

theorem sc_third_in_double : FnScope ["part", "a", "b", "size", "odd", "point", "first", "second"] ["part", "a", "b"] (defScope s_third_in_double) := ⟨rfl, rfl, rfl, by decide +kernel, rfl, by decide +kernel, by decide +kernel⟩
theorem fc_third_in_double {d k : Nat} (T : Txt w K mg) (hk : d + 2 ≤ k) (F_third_of : Fc P w K mg base k "third_of" ["tree", "a", "b"] (spThird d)) : Fc P w K mg base (k + 1) "third_in_double" ["part", "a", "b"] (spDouble (d + 1)) := by
  have F_size_of := fc_size_of (P := P) (base := base) T d
  refine mk_fc T.d_third_in_double sc_third_in_double (fun _ _ _ _ _ _ us hl => match us, hl with | [_, _, _], _ => rfl) (fun vs H Q E h => ?_) (fun f cdv A outer s H vs Q E hr h => ?_)
  · obtain ⟨v, t, a, b, c, rfl, _⟩ := h
    rfl
  · obtain ⟨v, t, a, b, c, rfl, hT, hd, hb, hc, q⟩ := h
    refine ⟨_, (pss_cons (ps_set (i := 3) sc_third_in_double.nd rfl (Or.inl rfl) (pe_fc F_size_of hr rfl (pa_cons (pv 0) pa_nil) hk))
      (pss_cons (ps_set (i := 4) sc_third_in_double.nd rfl (Or.inl rfl) (pe_op op_mul pe_int (pv 3)))
      (pss_cons (ps_if (pt_cmpR op_in_seq (pv 4) (pe_tup (pa_cons (pv 1) (pa_cons (pv 2) pa_nil))) (by rfl)) (pss_cons (ps_set (i := 5) sc_third_in_double.nd rfl (Or.inl rfl) (pe_op op_sub (pe_op op_add (pv 1) (pv 2)) (pv 4)))
        (pss_one (ps_ret (pe_ifExp (pt_cmpR op_lt (pv 5) (pv 3) (nomark _)) (pe_op op_add (pv 5) (pv 3)) (pe_op op_sub (pv 5) (pv 3)))))) pss_nil)
      (pss_cons (ps_par (i := 6) (j := 7) (by rfl) sc_third_in_double.nd rfl rfl (by decide) rfl rfl (pa_cons (pe_op op_mod (pv 1) (pv 3)) (pa_cons (pe_op op_mod (pv 2) (pv 3)) pa_nil)) (by rfl))
      (pss_cons (ps_if (pt_cmpR op_eq (pv 6) (pv 7) (nomark _)) (pss_one (ps_ret (pv 4))) pss_nil)
      (pss_one (ps_ret (pe_op op_add (pe_fc F_third_of hr rfl (pa_cons (pv 0) (pa_cons (pv 6) (pa_cons (pv 7) pa_nil))) (Nat.le_refl _)) (pe_ifExp (pt_cmpR op_ne (pe_cmpR op_lt (pv 1) (pv 3) (nomark _)) (pe_cmpR op_lt (pv 2) (pv 3) (nomark _)) (nomark _)) (pv 3) pe_int))))))))), ?_⟩
    refine st_is (σ := [some _, some _, some _, none, none, none, none, none]) rfl ?_
    unfold thirdOf at hc
    generalize hn : (sizeOf t : Int) = n at hc
    by_cases h0 : 0 < n ∧ n < 1000000
    · rw [if_pos h0] at hc
      obtain ⟨n0, n1⟩ := h0
      repeat ((try simp only [List.set_cons_zero, List.set_cons_succ]); (first | with_reducible refine iteF ?_ | with_reducible refine iteT ?_ | with_reducible refine ite_no (by decide +kernel) ?_ | with_reducible refine ite_yes (by decide +kernel) ?_ | (fail_if_success (with_reducible refine ite2 ?_ ?_)); (first | refine ⟨_, rfl, ?_⟩ | refine ⟨_, _, rfl, rfl, ?_⟩ | refine ⟨rfl, _, rfl, ?_⟩ | refine ⟨_, _, rfl, ?_⟩ | refine ⟨_, _, _, rfl, ?_⟩ | refine ⟨rfl, ?_⟩ | with_reducible refine And.intro (by (try dsimp only [CDiv, CMul]); omega) ?_)))
      refine ⟨v, t, rfl, hT, by omega, hb, ?_⟩
      rw [hn]
      repeat ((try simp only [List.set_cons_zero, List.set_cons_succ]); (first | with_reducible refine iteF ?_ | with_reducible refine iteT ?_ | with_reducible refine ite_no (by decide +kernel) ?_ | with_reducible refine ite_yes (by decide +kernel) ?_ | (fail_if_success (with_reducible refine ite2 ?_ ?_)); (first | refine ⟨_, rfl, ?_⟩ | refine ⟨_, _, rfl, rfl, ?_⟩ | refine ⟨rfl, _, rfl, ?_⟩ | refine ⟨_, _, rfl, ?_⟩ | refine ⟨_, _, _, rfl, ?_⟩ | refine ⟨rfl, ?_⟩ | with_reducible refine And.intro (by (try dsimp only [CDiv, CMul]); omega) ?_)))
      refine ⟨(by show 2 ≤ sizeLine; decide), fun p hp => ?_⟩
      refine ⟨p, _, rfl, .inr (SqT.of upd_same), rfl, rfl, _, rfl, ?_⟩
      have sm : Same H (upd H p (.tup [.int a, .int b])) := Same.new hp
      refine ite2 (fun h => ?_) (fun h => ?_)
      · rw [if_pos ((inV2 _ _ _).mp h)] at hc
        cases hc
        repeat ((try simp only [List.set_cons_zero, List.set_cons_succ]); (first | with_reducible refine iteF ?_ | with_reducible refine iteT ?_ | with_reducible refine ite_no (by decide +kernel) ?_ | with_reducible refine ite_yes (by decide +kernel) ?_ | (fail_if_success (with_reducible refine ite2 ?_ ?_)); (first | refine ⟨_, rfl, ?_⟩ | refine ⟨_, _, rfl, rfl, ?_⟩ | refine ⟨rfl, _, rfl, ?_⟩ | refine ⟨_, _, rfl, ?_⟩ | refine ⟨_, _, _, rfl, ?_⟩ | refine ⟨rfl, ?_⟩ | with_reducible refine And.intro (by (try dsimp only [CDiv, CMul]); omega) ?_)))
        refine ite2 (fun h => ?_) (fun h => ?_)
        · rw [if_pos (of_decide_eq_true h)] at q
          repeat ((try simp only [List.set_cons_zero, List.set_cons_succ]); (first | with_reducible refine iteF ?_ | with_reducible refine iteT ?_ | with_reducible refine ite_no (by decide +kernel) ?_ | with_reducible refine ite_yes (by decide +kernel) ?_ | (fail_if_success (with_reducible refine ite2 ?_ ?_)); (first | refine ⟨_, rfl, ?_⟩ | refine ⟨_, _, rfl, rfl, ?_⟩ | refine ⟨rfl, _, rfl, ?_⟩ | refine ⟨_, _, rfl, ?_⟩ | refine ⟨_, _, _, rfl, ?_⟩ | refine ⟨rfl, ?_⟩ | with_reducible refine And.intro (by (try dsimp only [CDiv, CMul]); omega) ?_)))
          exact q _ sm
        · rw [if_neg fun e => h (decide_eq_true e)] at q
          repeat ((try simp only [List.set_cons_zero, List.set_cons_succ]); (first | with_reducible refine iteF ?_ | with_reducible refine iteT ?_ | with_reducible refine ite_no (by decide +kernel) ?_ | with_reducible refine ite_yes (by decide +kernel) ?_ | (fail_if_success (with_reducible refine ite2 ?_ ?_)); (first | refine ⟨_, rfl, ?_⟩ | refine ⟨_, _, rfl, rfl, ?_⟩ | refine ⟨rfl, _, rfl, ?_⟩ | refine ⟨_, _, rfl, ?_⟩ | refine ⟨_, _, _, rfl, ?_⟩ | refine ⟨rfl, ?_⟩ | with_reducible refine And.intro (by (try dsimp only [CDiv, CMul]); omega) ?_)))
          exact q _ sm
      · rw [if_neg fun e => h ((inV2 _ _ _).mpr e)] at hc
        repeat ((try simp only [List.set_cons_zero, List.set_cons_succ]); (first | with_reducible refine iteF ?_ | with_reducible refine iteT ?_ | with_reducible refine ite_no (by decide +kernel) ?_ | with_reducible refine ite_yes (by decide +kernel) ?_ | (fail_if_success (with_reducible refine ite2 ?_ ?_)); (first | refine ⟨_, rfl, ?_⟩ | refine ⟨_, _, rfl, rfl, ?_⟩ | refine ⟨rfl, _, rfl, ?_⟩ | refine ⟨_, _, rfl, ?_⟩ | refine ⟨_, _, _, rfl, ?_⟩ | refine ⟨rfl, ?_⟩ | with_reducible refine And.intro (by (try dsimp only [CDiv, CMul]); omega) ?_)))
        refine ite2 (fun h => ?_) (fun h => ?_)
        · rw [if_pos (of_dec_int h)] at hc
          cases hc
          repeat ((try simp only [List.set_cons_zero, List.set_cons_succ]); (first | with_reducible refine iteF ?_ | with_reducible refine iteT ?_ | with_reducible refine ite_no (by decide +kernel) ?_ | with_reducible refine ite_yes (by decide +kernel) ?_ | (fail_if_success (with_reducible refine ite2 ?_ ?_)); (first | refine ⟨_, rfl, ?_⟩ | refine ⟨_, _, rfl, rfl, ?_⟩ | refine ⟨rfl, _, rfl, ?_⟩ | refine ⟨_, _, rfl, ?_⟩ | refine ⟨_, _, _, rfl, ?_⟩ | refine ⟨rfl, ?_⟩ | with_reducible refine And.intro (by (try dsimp only [CDiv, CMul]); omega) ?_)))
          exact q _ sm
        · rw [if_neg fun e => h (dec_int_eq e)] at hc
          obtain ⟨c0, hc0, e⟩ := Option.map_eq_some_iff.mp hc
          repeat ((try simp only [List.set_cons_zero, List.set_cons_succ]); (first | with_reducible refine iteF ?_ | with_reducible refine iteT ?_ | with_reducible refine ite_no (by decide +kernel) ?_ | with_reducible refine ite_yes (by decide +kernel) ?_ | (fail_if_success (with_reducible refine ite2 ?_ ?_)); (first | refine ⟨_, rfl, ?_⟩ | refine ⟨_, _, rfl, rfl, ?_⟩ | refine ⟨rfl, _, rfl, ?_⟩ | refine ⟨_, _, rfl, ?_⟩ | refine ⟨_, _, _, rfl, ?_⟩ | refine ⟨rfl, ?_⟩ | with_reducible refine And.intro (by (try dsimp only [CDiv, CMul]); omega) ?_)))
          refine ⟨v, t, _, _, c0, rfl, hT.keep (Same.tups sm), by omega, hb, hc0, fun H' sm' => ?_⟩
          repeat ((try simp only [List.set_cons_zero, List.set_cons_succ]); (first | with_reducible refine iteF ?_ | with_reducible refine iteT ?_ | with_reducible refine ite_no (by decide +kernel) ?_ | with_reducible refine ite_yes (by decide +kernel) ?_ | (fail_if_success (with_reducible refine ite2 ?_ ?_)); (first | refine ⟨_, rfl, ?_⟩ | refine ⟨_, _, rfl, rfl, ?_⟩ | refine ⟨rfl, _, rfl, ?_⟩ | refine ⟨_, _, rfl, ?_⟩ | refine ⟨_, _, _, rfl, ?_⟩ | refine ⟨rfl, ?_⟩ | with_reducible refine And.intro (by (try dsimp only [CDiv, CMul]); omega) ?_)))
          refine ite2 (fun h => ?_) (fun h => ?_)
          · repeat ((try simp only [List.set_cons_zero, List.set_cons_succ]); (first | with_reducible refine iteF ?_ | with_reducible refine iteT ?_ | with_reducible refine ite_no (by decide +kernel) ?_ | with_reducible refine ite_yes (by decide +kernel) ?_ | (fail_if_success (with_reducible refine ite2 ?_ ?_)); (first | refine ⟨_, rfl, ?_⟩ | refine ⟨_, _, rfl, rfl, ?_⟩ | refine ⟨rfl, _, rfl, ?_⟩ | refine ⟨_, _, rfl, ?_⟩ | refine ⟨_, _, _, rfl, ?_⟩ | refine ⟨rfl, ?_⟩ | with_reducible refine And.intro (by (try dsimp only [CDiv, CMul]); omega) ?_)))
            rw [if_neg fun z => by rw [z] at h; simp at h] at e
            show Q (.int (c0 + n)) H'
            rw [e]
            exact q _ (sm.trans sm')
          · repeat ((try simp only [List.set_cons_zero, List.set_cons_succ]); (first | with_reducible refine iteF ?_ | with_reducible refine iteT ?_ | with_reducible refine ite_no (by decide +kernel) ?_ | with_reducible refine ite_yes (by decide +kernel) ?_ | (fail_if_success (with_reducible refine ite2 ?_ ?_)); (first | refine ⟨_, rfl, ?_⟩ | refine ⟨_, _, rfl, rfl, ?_⟩ | refine ⟨rfl, _, rfl, ?_⟩ | refine ⟨_, _, rfl, ?_⟩ | refine ⟨_, _, _, rfl, ?_⟩ | refine ⟨rfl, ?_⟩ | with_reducible refine And.intro (by (try dsimp only [CDiv, CMul]); omega) ?_)))
            rw [if_pos (by simpa using h)] at e
            show Q (.int (c0 + 0)) H'
            rw [e]
            exact q _ (sm.trans sm')
    · rw [if_neg h0] at hc
      cases hc

theorem sc_third_in_product : FnScope ["one", "other", "a", "b", "size"] ["one", "other", "a", "b"] (defScope s_third_in_product) := ⟨rfl, rfl, rfl, by decide +kernel, rfl, by decide +kernel, by decide +kernel⟩
theorem fc_third_in_product {d k : Nat} (T : Txt w K mg) (hk : d + 2 ≤ k) (F_both : Fc P w K mg base k "both" ["tree", "a", "b"] (spBoth d)) : Fc P w K mg base (k + 1) "third_in_product" ["one", "other", "a", "b"] (spProduct (d + 1)) := by
  have F_size_of := fc_size_of (P := P) (base := base) T d
  refine mk_fc T.d_third_in_product sc_third_in_product (fun _ _ _ _ _ _ us hl => match us, hl with | [_, _, _, _], _ => rfl) (fun vs H Q E h => ?_) (fun f cdv A outer s H vs Q E hr h => ?_)
  · obtain ⟨u, v, s, t, a, b, c, rfl, _⟩ := h
    rfl
  · obtain ⟨u, v, s, t, a, b, c, rfl, hS, hT, hd, hd2, hb, hb2, hc, q⟩ := h
    refine ⟨_, (pss_cons (ps_set (i := 4) sc_third_in_product.nd rfl (Or.inl rfl) (pe_fc F_size_of hr rfl (pa_cons (pv 1) pa_nil) hk))
      (pss_one (ps_ret (pe_op op_add (pe_op op_mul (pe_fc F_both hr rfl (pa_cons (pv 0) (pa_cons (pe_op op_fdiv (pv 2) (pv 4)) (pa_cons (pe_op op_fdiv (pv 3) (pv 4)) pa_nil))) (Nat.le_refl _)) (pv 4)) (pe_fc F_both hr rfl (pa_cons (pv 1) (pa_cons (pe_op op_mod (pv 2) (pv 4)) (pa_cons (pe_op op_mod (pv 3) (pv 4)) pa_nil))) (Nat.le_refl _)))))), ?_⟩
    refine st_is (σ := [some _, some _, some _, some _, none]) rfl ?_
    unfold thirdOf at hc
    generalize hn : (sizeOf t : Int) = n at hc
    by_cases h0 : 0 < n ∧ n < 1000000
    · rw [if_pos h0] at hc
      obtain ⟨n0, n1⟩ := h0
      obtain ⟨x, hx, hc⟩ := Option.bind_eq_some_iff.mp hc
      obtain ⟨y, hy, e⟩ := Option.map_eq_some_iff.mp hc
      repeat ((try simp only [List.set_cons_zero, List.set_cons_succ]); (first | with_reducible refine iteF ?_ | with_reducible refine iteT ?_ | with_reducible refine ite_no (by decide +kernel) ?_ | with_reducible refine ite_yes (by decide +kernel) ?_ | (fail_if_success (with_reducible refine ite2 ?_ ?_)); (first | refine ⟨_, rfl, ?_⟩ | refine ⟨_, _, rfl, rfl, ?_⟩ | refine ⟨rfl, _, rfl, ?_⟩ | refine ⟨_, _, rfl, ?_⟩ | refine ⟨_, _, _, rfl, ?_⟩ | refine ⟨rfl, ?_⟩ | with_reducible refine And.intro (by (try dsimp only [CDiv, CMul]); omega) ?_)))
      refine ⟨v, t, rfl, hT, by omega, hb2, ?_⟩
      rw [hn]
      repeat ((try simp only [List.set_cons_zero, List.set_cons_succ]); (first | with_reducible refine iteF ?_ | with_reducible refine iteT ?_ | with_reducible refine ite_no (by decide +kernel) ?_ | with_reducible refine ite_yes (by decide +kernel) ?_ | (fail_if_success (with_reducible refine ite2 ?_ ?_)); (first | refine ⟨_, rfl, ?_⟩ | refine ⟨_, _, rfl, rfl, ?_⟩ | refine ⟨rfl, _, rfl, ?_⟩ | refine ⟨_, _, rfl, ?_⟩ | refine ⟨_, _, _, rfl, ?_⟩ | refine ⟨rfl, ?_⟩ | with_reducible refine And.intro (by (try dsimp only [CDiv, CMul]); omega) ?_)))
      refine ⟨u, s, _, _, x, rfl, hS, by omega, hb, hx, fun H1 s1 => ?_⟩
      repeat ((try simp only [List.set_cons_zero, List.set_cons_succ]); (first | with_reducible refine iteF ?_ | with_reducible refine iteT ?_ | with_reducible refine ite_no (by decide +kernel) ?_ | with_reducible refine ite_yes (by decide +kernel) ?_ | (fail_if_success (with_reducible refine ite2 ?_ ?_)); (first | refine ⟨_, rfl, ?_⟩ | refine ⟨_, _, rfl, rfl, ?_⟩ | refine ⟨rfl, _, rfl, ?_⟩ | refine ⟨_, _, rfl, ?_⟩ | refine ⟨_, _, _, rfl, ?_⟩ | refine ⟨rfl, ?_⟩ | with_reducible refine And.intro (by (try dsimp only [CDiv, CMul]); omega) ?_)))
      refine ⟨v, t, _, _, y, rfl, hT.keep (Same.tups s1), by omega, hb2, hy, fun H2 s2 => ?_⟩
      repeat ((try simp only [List.set_cons_zero, List.set_cons_succ]); (first | with_reducible refine iteF ?_ | with_reducible refine iteT ?_ | with_reducible refine ite_no (by decide +kernel) ?_ | with_reducible refine ite_yes (by decide +kernel) ?_ | (fail_if_success (with_reducible refine ite2 ?_ ?_)); (first | refine ⟨_, rfl, ?_⟩ | refine ⟨_, _, rfl, rfl, ?_⟩ | refine ⟨rfl, _, rfl, ?_⟩ | refine ⟨_, _, rfl, ?_⟩ | refine ⟨_, _, _, rfl, ?_⟩ | refine ⟨rfl, ?_⟩ | with_reducible refine And.intro (by (try dsimp only [CDiv, CMul]); omega) ?_)))
      show Q (.int (x * n + y)) H2
      rw [e]
      exact q _ (s1.trans s2)
    · rw [if_neg h0] at hc
      cases hc
end
end PK
end

section
namespace PK
open PySem PySem.Spec PyProof.Rows L2
theorem hits_take {ts : List Tri} {i : Nat} {t : Tri} (a b : Int) (h : ts[i]? = some t) : hits (ts.take (i + 1)) a b = hits (ts.take i) a b ++ (if inTri a t && inTri b t then [V.int (triSum t - a - b)] else []) := by
  unfold hits
  rw [List.take_succ, h, List.filter_append, List.map_append]
  congr 1
  show ((([t] : List Tri).filter fun t => inTri a t && inTri b t).map fun t => V.int (triSum t - a - b)) = _
  rw [List.filter_cons]
  split <;> rfl
theorem hits_len (ts : List Tri) (a b : Int) : (hits ts a b).length ≤ ts.length := by
  unfold hits
  rw [List.length_map]
  exact List.length_filter_le _ _
theorem sz1000 {n : Nat} (h : n ≤ 100000) : n ≤ sizeLine := Nat.le_trans h (by decide)
theorem szlt {n : Nat} (h : n < 100000) : n < sizeLine := Nat.lt_of_lt_of_le h (by decide)
section
variable {P : Program} {w : World} {K : PySem.W.Frag} {mg : Str → Option Value} {base : Heap}
theorem sc_third_of : FnScope ["tree", "a", "b", "kind", "three"] ["tree", "a", "b"] (defScope s_third_of) := ⟨rfl, rfl, rfl, by decide +kernel, rfl, by decide +kernel, by decide +kernel⟩
theorem third_turn {d j1 j2 k : Nat} (T : Txt w K mg) (h1 : j1 ≤ k) (h2 : j2 ≤ k) (h3 : 2 ≤ k) (F_third_in_double : Fc P w K mg base j1 "third_in_double" ["part", "a", "b"] (spDouble d)) (F_third_in_product : Fc P w K mg base j2 "third_in_product" ["one", "other", "a", "b"] (spProduct d)) :
    Fc P w K mg base (k + 1) "third_of" ["tree", "a", "b"] (spThird d) := by
  have F_third_in_bose := fc_third_in_bose (P := P) (base := base) T
  have F_third_in_skolem := fc_third_in_skolem (P := P) (base := base) T
  have F_figures_apart := fc_figures_apart (P := P) (base := base) T
  refine mk_fc T.d_third_of sc_third_of (fun _ _ _ _ _ _ us hl => match us, hl with | [_, _, _], _ => rfl) (fun vs H Q E h => ?_) (fun f cdv A outer s H vs Q E hr h => ?_)
  · obtain ⟨v, t, a, b, c, rfl, _⟩ := h
    rfl
  · obtain ⟨v, t, a, b, c, rfl, hT, hd, hb, hc, q⟩ := h
    refine ⟨_, (pss_cons (ps_set (i := 3) sc_third_of.nd rfl (Or.inl rfl) (pe_ix ix_tup (pv 0) pe_int (fun _ _ => rfl)))
      (pss_cons (ps_if (pt_cmpR op_eq (pv 3) pe_str (nomark _)) (pss_one (ps_ret (pe_fc F_third_in_bose hr rfl (pa_cons (pe_op op_fdiv (pe_ix ix_tup (pv 0) pe_int (fun _ _ => rfl)) pe_int) (pa_cons (pv 1) (pa_cons (pv 2) pa_nil))) h3))) pss_nil)
      (pss_cons (ps_if (pt_cmpR op_eq (pv 3) pe_str (nomark _)) (pss_one (ps_ret (pe_fc F_third_in_skolem hr rfl (pa_cons (pe_op op_fdiv (pe_op op_sub (pe_ix ix_tup (pv 0) pe_int (fun _ _ => rfl)) pe_int) pe_int) (pa_cons (pv 1) (pa_cons (pv 2) pa_nil))) h3))) pss_nil)
      (pss_cons (ps_if (pt_cmpR op_eq (pv 3) pe_str (nomark _)) (pss_one (ps_ret (pe_fc F_figures_apart hr rfl (pa_cons (pv 1) (pa_cons (pv 2) pa_nil)) (Nat.le_trans (by decide) h3)))) pss_nil)
      (pss_cons (ps_if (pt_cmpR op_eq (pv 3) pe_str (nomark _)) (pss_one (ps_ret (pe_op op_sub (pe_op op_xor (pe_op op_add (pv 1) pe_int) (pe_op op_add (pv 2) pe_int)) pe_int))) pss_nil)
      (pss_cons (ps_if (pt_cmpR op_eq (pv 3) pe_str (nomark _)) (pss_one (ps_ret (pe_ix ix_list (pe_lc (own := [("three", 4)]) (g := gName 4) rfl sc_third_of.nd (pi_tup (pe_ix ix_tup (pv 0) pe_int (fun _ _ => rfl))) (blkOk_by (by kernel_rfl)) (fun _ _ _ _ _ => (pg_name (i := 4) sc_third_of.nd rfl (Or.inl rfl))) (fun _ _ _ _ _ => (pts_one (PW.pt (pw_and (pt_cmpR (r := rIn K false) op_in_seq (pv 1) (pv 4) (by rfl)) (pw_and1 (pt_cmpR (r := rIn K false) op_in_seq (pv 2) (pv 4) (by rfl))))))) (fun _ _ _ _ _ => (pe_op op_sub (pe_op op_sub (pe_callB (r := rSumT K) (cr_sumT rfl) (by rfl) T.n_sum (by decide +kernel) (pa_cons (pv 4) pa_nil)) (pv 1)) (pv 2)))) pe_int (fun _ _ => rfl)))) pss_nil)
      (pss_cons (ps_if (pt_cmpR op_eq (pv 3) pe_str (nomark _)) (pss_one (ps_ret (pe_fc F_third_in_double hr rfl (pa_cons (pe_ix ix_tup (pv 0) pe_int (fun _ _ => rfl)) (pa_cons (pv 1) (pa_cons (pv 2) pa_nil))) h1))) pss_nil)
      (pss_one (ps_ret (pe_fc F_third_in_product hr rfl (pa_cons (pe_ix ix_tup (pv 0) pe_int (fun _ _ => rfl)) (pa_cons (pe_ix ix_tup (pv 0) pe_int (fun _ _ => rfl)) (pa_cons (pv 1) (pa_cons (pv 2) pa_nil)))) h2)))))))))), ?_⟩
    refine st_is (σ := [some _, some _, some _, none, none]) rfl ?_
    cases t with
    | bose n =>
      obtain ⟨p, rfl, hp⟩ := hT
      unfold thirdOf at hc
      by_cases h0 : 0 < (n : Int) / 3 ∧ (n : Int) / 3 < 1000000
      · rw [if_pos h0] at hc
        cases hc
        repeat ((try simp only [List.set_cons_zero, List.set_cons_succ]); (first | with_reducible refine iteF ?_ | with_reducible refine iteT ?_ | with_reducible refine ite_no (by decide +kernel) ?_ | with_reducible refine ite_yes (by decide +kernel) ?_ | (fail_if_success (with_reducible refine ite2 ?_ ?_)); (first | refine ⟨_, rfl, ?_⟩ | refine ⟨_, _, rfl, rfl, ?_⟩ | refine ⟨rfl, _, rfl, ?_⟩ | refine ⟨_, _, rfl, ?_⟩ | refine ⟨_, _, _, rfl, ?_⟩ | refine ⟨_, _, _, _, rfl, rfl, SqT.of hp, rfl, ?_⟩ | refine ⟨rfl, ?_⟩ | with_reducible refine And.intro (by (try dsimp only [CDiv, CMul]); omega) ?_)))
        exact q
      · rw [if_neg h0] at hc
        cases hc
    | skolem n =>
      obtain ⟨p, rfl, hp⟩ := hT
      unfold thirdOf at hc
      by_cases h0 : 0 < ((n : Int) - 1) / 3 ∧ ((n : Int) - 1) / 3 < 1000000
      · rw [if_pos h0] at hc
        cases hc
        repeat ((try simp only [List.set_cons_zero, List.set_cons_succ]); (first | with_reducible refine iteF ?_ | with_reducible refine iteT ?_ | with_reducible refine ite_no (by decide +kernel) ?_ | with_reducible refine ite_yes (by decide +kernel) ?_ | (fail_if_success (with_reducible refine ite2 ?_ ?_)); (first | refine ⟨_, rfl, ?_⟩ | refine ⟨_, _, rfl, rfl, ?_⟩ | refine ⟨rfl, _, rfl, ?_⟩ | refine ⟨_, _, rfl, ?_⟩ | refine ⟨_, _, _, rfl, ?_⟩ | refine ⟨_, _, _, _, rfl, rfl, SqT.of hp, rfl, ?_⟩ | refine ⟨rfl, ?_⟩ | with_reducible refine And.intro (by (try dsimp only [CDiv, CMul]); omega) ?_)))
        exact q
      · rw [if_neg h0] at hc
        cases hc
    | affine n =>
      obtain ⟨p, rfl, hp⟩ := hT
      unfold thirdOf at hc
      by_cases h0 : 0 ≤ a ∧ 0 ≤ b
      · rw [if_pos h0] at hc
        cases hc
        repeat ((try simp only [List.set_cons_zero, List.set_cons_succ]); (first | with_reducible refine iteF ?_ | with_reducible refine iteT ?_ | with_reducible refine ite_no (by decide +kernel) ?_ | with_reducible refine ite_yes (by decide +kernel) ?_ | (fail_if_success (with_reducible refine ite2 ?_ ?_)); (first | refine ⟨_, rfl, ?_⟩ | refine ⟨_, _, rfl, rfl, ?_⟩ | refine ⟨rfl, _, rfl, ?_⟩ | refine ⟨_, _, rfl, ?_⟩ | refine ⟨_, _, _, rfl, ?_⟩ | refine ⟨_, _, _, _, rfl, rfl, SqT.of hp, rfl, ?_⟩ | refine ⟨rfl, ?_⟩ | with_reducible refine And.intro (by (try dsimp only [CDiv, CMul]); omega) ?_)))
        exact q _ (Same.refl H)
      · rw [if_neg h0] at hc
        cases hc
    | binary n =>
      obtain ⟨p, rfl, hp⟩ := hT
      unfold thirdOf at hc
      by_cases h0 : 0 ≤ a ∧ 0 ≤ b
      · rw [if_pos h0] at hc
        cases hc
        have e := Bits.bitXor_pp (x := a + 1) (y := b + 1) (by omega) (by omega)
        repeat ((try simp only [List.set_cons_zero, List.set_cons_succ]); (first | with_reducible refine iteF ?_ | with_reducible refine iteT ?_ | with_reducible refine ite_no (by decide +kernel) ?_ | with_reducible refine ite_yes (by decide +kernel) ?_ | (fail_if_success (with_reducible refine ite2 ?_ ?_)); (first | refine ⟨_, rfl, ?_⟩ | refine ⟨_, _, rfl, rfl, ?_⟩ | refine ⟨rfl, _, rfl, ?_⟩ | refine ⟨_, _, rfl, ?_⟩ | refine ⟨_, _, _, rfl, ?_⟩ | refine ⟨_, _, _, _, rfl, rfl, SqT.of hp, rfl, ?_⟩ | refine ⟨rfl, ?_⟩ | with_reducible refine And.intro (by (try dsimp only [CDiv, CMul]); omega) ?_)))
        show Q (.int (Builtin.bitXor (a + 1) (b + 1) - 1)) H
        rw [e]
        exact q _ (Same.refl H)
      · rw [if_neg h0] at hc
        cases hc
    | listed n ts =>
      obtain ⟨p, u, rfl, hp, rs, h1, h2, h3⟩ := hT
      have hc : byThrees ts a b = some c := hc
      repeat ((try simp only [List.set_cons_zero, List.set_cons_succ]); (first | with_reducible refine iteF ?_ | with_reducible refine iteT ?_ | with_reducible refine ite_no (by decide +kernel) ?_ | with_reducible refine ite_yes (by decide +kernel) ?_ | (fail_if_success (with_reducible refine ite2 ?_ ?_)); (first | refine ⟨_, rfl, ?_⟩ | refine ⟨_, _, rfl, rfl, ?_⟩ | refine ⟨rfl, _, rfl, ?_⟩ | refine ⟨_, _, rfl, ?_⟩ | refine ⟨_, _, _, rfl, ?_⟩ | refine ⟨_, _, _, _, rfl, rfl, SqT.of hp, rfl, ?_⟩ | refine ⟨rfl, ?_⟩ | with_reducible refine And.intro (by (try dsimp only [CDiv, CMul]); omega) ?_)))
      refine ⟨⟨_, SqT.of h1⟩, fun D hD => ?_⟩
      refine lc_tup (K := K) (a := u) (xs := rs.map V.ref) (fun i H' => Same H H' ∧ H' D = some (.lst (hits (ts.take i) a b))) ⟨Same.new hD, upd_same⟩ (fun i H' _ h => SqT.of (h.1 _ _ h1)) ?_ ?_
      · rintro i x H' hx ⟨s1, h4⟩
        rw [List.getElem?_map] at hx
        obtain ⟨r, hr, rfl⟩ := Option.map_eq_some_iff.mp hx
        have hi : i < ts.length := by
          rw [← h2]
          exact (List.getElem?_eq_some_iff.mp hr).1
        have ht : ts[i]? = some ts[i] := List.getElem?_eq_getElem hi
        have hr3 := s1 _ _ (h3 i r _ hr ht)
        have ht2 := hits_take a b ht
        generalize ts[i] = t at ht hr3 ht2
        have hz : (hits (ts.take i) a b).length < sizeLine := Nat.lt_of_le_of_lt (Nat.le_trans (hits_len _ _ _) (List.length_take_le _ _)) (szlt (by have : n < 1000000 ∧ ts.length ≤ 90000 := hb; omega))
        refine ⟨rfl, ?_⟩
        refine ⟨_, rfl, _, rfl, r, _, rfl, .inr (SqT.of hr3), rfl, rfl, _, rfl, ?_⟩
        rw [if_neg Bool.false_ne_true, inV_tri]
        cases ea : inTri a t with
        | false =>
          refine iteF (iteF ?_)
          rw [ea, Bool.false_and] at ht2
          exact ⟨s1, by rw [h4, ht2]; simp⟩
        | true =>
          refine iteT ?_
          refine ⟨_, rfl, _, rfl, r, _, rfl, .inr (SqT.of hr3), rfl, rfl, _, rfl, ?_⟩
          rw [if_neg Bool.false_ne_true, inV_tri]
          cases eb : inTri b t with
          | false =>
            refine iteF ?_
            rw [eb, Bool.and_false] at ht2
            exact ⟨s1, by rw [h4, ht2]; simp⟩
          | true =>
            refine iteT ?_
            rw [ea, eb] at ht2
            refine ⟨_, rfl, r, [(t.1 : Int), (t.2.1 : Int), (t.2.2 : Int)], rfl, SqT.of hr3, ?_⟩
            repeat ((try simp only [List.set_cons_zero, List.set_cons_succ]); (first | with_reducible refine iteF ?_ | with_reducible refine iteT ?_ | with_reducible refine ite_no (by decide +kernel) ?_ | with_reducible refine ite_yes (by decide +kernel) ?_ | (fail_if_success (with_reducible refine ite2 ?_ ?_)); (first | refine ⟨_, rfl, ?_⟩ | refine ⟨_, _, rfl, rfl, ?_⟩ | refine ⟨rfl, _, rfl, ?_⟩ | refine ⟨_, _, rfl, ?_⟩ | refine ⟨_, _, _, rfl, ?_⟩ | refine ⟨rfl, ?_⟩ | with_reducible refine And.intro (by (try dsimp only [CDiv, CMul]); omega) ?_)))
            refine ⟨_, h4, hz, Same.put s1 hD, ?_⟩
            rw [upd_same, ht2, ← thV_sum]
            rfl
      · rintro H' ⟨s1, h4⟩
        rw [List.length_map, h2, List.take_length] at h4
        refine ⟨D, _, 0, _, rfl, rfl, SqL.of h4, hits_first hc, q _ s1⟩
    | double t =>
      obtain ⟨p, u, rfl, hp, hu⟩ := hT
      repeat ((try simp only [List.set_cons_zero, List.set_cons_succ]); (first | with_reducible refine iteF ?_ | with_reducible refine iteT ?_ | with_reducible refine ite_no (by decide +kernel) ?_ | with_reducible refine ite_yes (by decide +kernel) ?_ | (fail_if_success (with_reducible refine ite2 ?_ ?_)); (first | refine ⟨_, rfl, ?_⟩ | refine ⟨_, _, rfl, rfl, ?_⟩ | refine ⟨rfl, _, rfl, ?_⟩ | refine ⟨_, _, rfl, ?_⟩ | refine ⟨_, _, _, rfl, ?_⟩ | refine ⟨_, _, _, _, rfl, rfl, SqT.of hp, rfl, ?_⟩ | refine ⟨rfl, ?_⟩ | with_reducible refine And.intro (by (try dsimp only [CDiv, CMul]); omega) ?_)))
      exact ⟨u, t, a, b, c, rfl, hu, hd, hb, hc, q⟩
    | product s t =>
      obtain ⟨p, u, u', rfl, hp, hu, hu'⟩ := hT
      have hd : max (depth s) (depth t) + 1 ≤ d := hd
      obtain ⟨b1, b2, b3⟩ : bd s ∧ bd t ∧ sizeOf s < 1000000 := hb
      repeat ((try simp only [List.set_cons_zero, List.set_cons_succ]); (first | with_reducible refine iteF ?_ | with_reducible refine iteT ?_ | with_reducible refine ite_no (by decide +kernel) ?_ | with_reducible refine ite_yes (by decide +kernel) ?_ | (fail_if_success (with_reducible refine ite2 ?_ ?_)); (first | refine ⟨_, rfl, ?_⟩ | refine ⟨_, _, rfl, rfl, ?_⟩ | refine ⟨rfl, _, rfl, ?_⟩ | refine ⟨_, _, rfl, ?_⟩ | refine ⟨_, _, _, rfl, ?_⟩ | refine ⟨_, _, _, _, rfl, rfl, SqT.of hp, rfl, ?_⟩ | refine ⟨rfl, ?_⟩ | with_reducible refine And.intro (by (try dsimp only [CDiv, CMul]); omega) ?_)))
      exact ⟨u, u', s, t, a, b, c, rfl, hu, hu', by omega, by omega, b1, b2, hc, q⟩
end
end PK
end

section
namespace PK
open PySem PySem.Spec PyProof.Rows L2
theorem ix_kd {X : Cx} {d : Addr} {es : Array DictEntry} {n : Nat} (D : KDict X.K X.w d es n) :
    IxR X (fun x y H Q => ∃ (z : Str) (u0 : Value) (v0 : V), x = .ref d ∧ y = .str z ∧ PySem.W.nsIn X.K d z = some (some u0) ∧ RelV v0 u0 ∧ Q v0 H) :=
  fun value slice pins s σ H x y v u Q I rx ry h hs => by
    have tp := kd_type D I
    have go := op_item_kd D pins s σ H x y v u Q I rx ry h
    obtain ⟨z, u0, v0, rfl, rfl, _⟩ := h
    cases rx
    obtain ⟨t, rfl⟩ := ry
    exact tail_any tp slot_dict_getitem.lookup go hs
section
variable {P : Program} {w : World} {K : PySem.W.Frag} {mg : Str → Option Value} {base : Heap}
theorem fc_third_of (T : Txt w K mg) : ∀ d : Nat, Fc P w K mg base (3 * d + 3) "third_of" ["tree", "a", "b"] (spThird d)
  | 0 => third_turn (k := 2) (j1 := 0) (j2 := 0) T (by decide) (by decide) (by decide)
      (Fc.never T.d_third_in_double (fun _ _ _ _ _ _ us hl => match us, hl with | [_, _, _], _ => rfl) fun vs H Q E h => by
        obtain ⟨v, t, a, b, c, _, _, h, _⟩ := h
        exact absurd h (Nat.not_succ_le_zero _))
      (Fc.never T.d_third_in_product (fun _ _ _ _ _ _ us hl => match us, hl with | [_, _, _, _], _ => rfl) fun vs H Q E h => by
        obtain ⟨u, v, s, t, a, b, c, _, _, _, h, _⟩ := h
        exact absurd h (Nat.not_succ_le_zero _))
  | d + 1 => third_turn (k := 3 * d + 5) (j1 := 3 * d + 4) (j2 := 3 * d + 5) T (by omega) (by omega) (by omega)
      (fc_third_in_double T (by omega) (fc_third_of T d)) (fc_third_in_product T (by omega) (fc_both T (fc_third_of T d)))

theorem sc_is_row : FnScope ["value"] ["value"] (defScope s_is_row) := ⟨rfl, rfl, rfl, by decide +kernel, rfl, by decide +kernel, by decide +kernel⟩
def spIsRow : Sp := fun vs H Q _ => ∃ p xs, vs = [.ref p] ∧ H p = some (.tup xs) ∧ ∀ H', Same H H' → Q (.bl true) H'
theorem fc_is_row (T : Txt w K mg) : Fc P w K mg base 1 "is_row" ["value"] spIsRow := by
  refine mk_fc T.d_is_row sc_is_row (fun _ _ _ _ _ _ us hl => match us, hl with | [_], _ => rfl) (fun vs H Q E h => ?_) (fun f cdv A outer s H vs Q E hr h => ?_)
  · obtain ⟨p, xs, rfl, _⟩ := h
    rfl
  · obtain ⟨p, xs, rfl, hp, q⟩ := h
    refine ⟨_, (pss_one (ps_ret (pe_callB call_isiT (by rfl) T.n_isinstance (by decide +kernel) (pa_cons (pv 0) (pa_cons (pe_tup (pa_cons (pe_bltn (v := .ty "tuple") (by rfl) T.n_tuple (by decide +kernel) rfl) (pa_cons (pe_bltn (v := .ty "list") (by rfl) T.n_list (by decide +kernel) rfl) pa_nil))) pa_nil))))), ?_⟩
    refine ⟨_, rfl, (by show 2 ≤ sizeLine; decide), fun t ht => ?_⟩
    refine ⟨_, t, _, .type "tuple", [.type "tuple", .type "list"], true, rfl, upd_same, .cons (.ty _) (.cons (.ty _) .nil), .base (.tup (by rw [upd_ne (ne_of_none hp ht)]; exact hp)), ?_, q _ (Same.new ht)⟩
    exact kitAny_cons (kit_ty (r := true) (by decide +kernel)) (fun h => nomatch h) fun _ => rfl

theorem sc_is_integer : FnScope ["value"] ["value"] (defScope s_is_integer) := ⟨rfl, rfl, rfl, by decide +kernel, rfl, by decide +kernel, by decide +kernel⟩
def spIsInt : Sp := fun vs H Q _ => ∃ i, vs = [.int i] ∧ Q (.bl true) H
theorem fc_is_integer (T : Txt w K mg) : Fc P w K mg base 1 "is_integer" ["value"] spIsInt := by
  refine mk_fc T.d_is_integer sc_is_integer (fun _ _ _ _ _ _ us hl => match us, hl with | [_], _ => rfl) (fun vs H Q E h => ?_) (fun f cdv A outer s H vs Q E hr h => ?_)
  · obtain ⟨i, rfl, _⟩ := h
    rfl
  · obtain ⟨i, rfl, q⟩ := h
    refine ⟨_, (pss_one (ps_ret (pe_and (pe_callB call_isi (by rfl) T.n_isinstance (by decide +kernel) (pa_cons (pv 0) (pa_cons (pe_bltn (v := .ty "int") (by rfl) T.n_int (by decide +kernel) rfl) pa_nil))) (pe_one (pe_not (pe_callB call_isi (by rfl) T.n_isinstance (by decide +kernel) (pa_cons (pv 0) (pa_cons (pe_bltn (v := .ty "bool") (by rfl) T.n_bool (by decide +kernel) rfl) pa_nil)))))))), ?_⟩
    refine ⟨_, rfl, _, _, .type "int", .type "int", true, rfl, .ty _, .base (.int _), kit_ty (by decide +kernel), true, rfl, iteT ?_⟩
    exact ⟨_, rfl, _, _, .type "int", .type "bool", false, rfl, .ty _, .base (.int _), kit_ty (by decide +kernel), false, rfl, q⟩
end
end PK
end

section
namespace PK
open PySem PySem.Spec PyProof.Rows L2
def kOf (p : Nat × Nat) : List L2.Key := [.inl (p.1 : Int), .inl (p.2 : Int)]
theorem kOf_inj {p q : Nat × Nat} (h : kOf p = kOf q) : p = q := by
  unfold kOf at h
  simp only [List.cons.injEq, Sum.inl.injEq, Int.natCast_inj, and_true] at h
  exact Prod.ext h.1 h.2
theorem valV_no {κ : Type} [DecidableEq κ] {kvs : List (κ × V)} {k : κ} (h : k ∉ kvs.map (·.1)) : valV kvs k = none := by
  cases e : valV kvs k with
  | none => rfl
  | some v => exact absurd (valV_in e) h
/-- a comprehension over a tuple whose items all give True -/
theorem lc_true {K : PySem.W.Frag} {a : Addr} {xs : List V} {i : Nat} {te : TE} {σ : L2.St} {H1 : Hp} {D : Addr} {Qd : Hp → Prop} (hD : H1 D = none) (ha : H1 a = some (.tup xs)) (hz : xs.length ≤ 1000)
    (hs : ∀ x H2, x ∈ xs → Same H1 H2 → ∀ q : VK, q (.bl true) H2 → te ((wipe σ [i]).set i (some x)) H2 q) (hw : ∀ x, wipe ((wipe σ [i]).set i (some x)) [i] = wipe σ [i])
    (hd : ∀ H2, Same H1 H2 → H2 D = some (.lst ((List.replicate xs.length true).map V.bl)) → Qd H2) :
    ∃ W : Nat → Nat → Hp → Prop, (∃ m, W 0 m (upd H1 D (.lst []))) ∧ ∀ i' m H, W i' m H →
      ((Itt K a).stop i' H ∧ Qd H) ∨ ((Itt K a).go i' H ∧ ∃ Nx : Hp → Prop, (∀ H', Nx H' → ∃ m', m' < m ∧ W (i' + 1) m' H') ∧ ∀ x H', (Itt K a).yld i' H x H' → gName i x (wipe σ [i]) H' fun σ2 H2 => wipe σ2 [i] = wipe σ [i] ∧ tYes σ2 H2 fun b H3 =>
        if b = true then te σ2 H3 fun y H4 => ∃ acc, H4 D = some (.lst acc) ∧ acc.length < sizeLine ∧ Nx (upd H4 D (.lst (acc ++ [y]))) else Nx H3) := by
  refine lc_tup (K := K) (a := a) (xs := xs) (fun j H2 => Same H1 H2 ∧ H2 D = some (.lst ((List.replicate j true).map V.bl))) ⟨Same.new hD, upd_same⟩ (fun j H2 _ h => SqT.of (h.1 _ _ ha)) ?_ fun H2 h => hd H2 h.1 h.2
  rintro j x H2 hx ⟨s1, h2⟩
  refine ⟨hw x, ?_⟩
  have hj : j < xs.length := (List.getElem?_eq_some_iff.mp hx).1
  show te ((wipe σ [i]).set i (some x)) H2 _
  refine hs x H2 (List.mem_of_getElem? hx) s1 _ ⟨_, h2, ?_, Same.put s1 hD, ?_⟩
  · rw [List.length_map, List.length_replicate]
    exact szlt (by omega)
  · rw [upd_same, List.replicate_succ', List.map_append]
    rfl
section
variable {P : Program} {w : World} {K : PySem.W.Frag} {mg : Str → Option Value} {base : Heap}
theorem sc_checked_threes : FnScope ["count", "threes", "found", "pairs", "three", "point", "a", "b", "c", "pair"] ["count", "threes"] (defScope s_checked_threes) := ⟨rfl, rfl, rfl, by decide +kernel, rfl, by decide +kernel, by decide +kernel⟩
def spChkThrees : Sp := fun vs H Q _ => ∃ (n : Nat) (q : Addr) (ts : List Tri), vs = [.int (n : Int), .ref q] ∧ ThsAt H q ts ∧ Chk n ts ∧ ts.length ≤ 1000 ∧ n ≤ 60 ∧
  ∀ p H', Same H H' → ThsAt H' p (ts.map sort3) → Q (.ref p) H'
/-- behind i threes -/
structure ChkI (H : Hp) (q : Addr) (n : Nat) (ts : List Tri) (L D : Addr) (i j : Nat) (H' : Hp) : Prop where
  sm : Same H H'
  lst : ∃ rs : List Addr, H' L = some (.lst (rs.map V.ref)) ∧ rs.length = i ∧ ∀ (k : Nat) (r : Addr) (t : Tri), rs[k]? = some r → ts[k]? = some t → H' r = some (.tup (thV (sort3 t)))
  dic : ∃ kvs : List (List L2.Key × V), H' D = some (.dT kvs) ∧ kvs.map (·.1) = ((pairsL (ts.map sort3)).take (3 * i + j)).map kOf
theorem ChkI.tups {H : Hp} {q : Addr} {n : Nat} {ts : List Tri} {L D : Addr} {i j : Nat} {H1 H2 : Hp} (c : ChkI H q n ts L D i j H1) (s : Same H1 H2) : ChkI H q n ts L D i j H2 := by
  obtain ⟨s0, ⟨rs, h1, h2, h3⟩, ⟨kvs, h4, h5⟩⟩ := c
  exact ⟨s0.trans s, ⟨rs, s _ _ h1, h2, fun k r t e1 e2 => s _ _ (h3 k r t e1 e2)⟩, ⟨kvs, s _ _ h4, h5⟩⟩
theorem fc_checked_threes (T : Txt w K mg) : Fc P w K mg base 2 "checked_threes" ["count", "threes"] spChkThrees := by
  have F_require := fc_require (P := P) (base := base) T
  have F_is_row := fc_is_row (P := P) (base := base) T
  have F_is_integer := fc_is_integer (P := P) (base := base) T
  refine mk_fc T.d_checked_threes sc_checked_threes (fun _ _ _ _ _ _ us hl => match us, hl with | [_, _], _ => rfl) (fun vs H Q E h => ?_) (fun f cdv A outer s H vs Q E hr h => ?_)
  · obtain ⟨n, q, ts, rfl, _⟩ := h
    rfl
  · obtain ⟨n, q, ts, rfl, hT, C, hz, hn, k⟩ := h
    have hu := hu_of hr
    refine ⟨_, (pss_cons (ps_expr (pe_fc F_require hr rfl (pa_cons (pe_fc F_is_row hr rfl (pa_cons (pv 1) pa_nil)) pa_nil)))
      (pss_cons (ps_set (i := 2) sc_checked_threes.nd rfl (Or.inl rfl) (pe_lst pa_nil))
      (pss_cons (ps_set (i := 3) sc_checked_threes.nd rfl (Or.inl rfl) pe_dnewT)
      (pss_cons (ps_for PassesOwn.never rfl (pi_tup (pv 1)) (pg_name (i := 4) sc_checked_threes.nd rfl (Or.inl rfl))
      (pss_cons (ps_expr (pe_fc F_require hr rfl (pa_cons (pe_and (pe_fc F_is_row hr rfl (pa_cons (pv 4) pa_nil)) (pe_one (pe_callB (cr_all rfl) (by rfl) T.n_all (by decide +kernel) (pa_cons (pe_lc (own := [("point", 5)]) (g := gName 5) (tt := tYes) rfl sc_checked_threes.nd (pi_tup (pv 4)) (blkOk_by (by kernel_rfl)) (fun _ _ _ _ _ => (pg_name (i := 5) sc_checked_threes.nd rfl (Or.inl rfl))) (fun _ _ _ _ _ => pts_nil) (fun _ _ _ _ _ => (pe_fc F_is_integer hr rfl (pa_cons (pv 5) pa_nil)))) pa_nil)))) pa_nil)))
        (pss_cons (ps_expr (pe_fc F_require hr rfl (pa_cons (pe_and (pe_cmpR op_eq (pe_callB call_len_seq (by rfl) T.n_len (by decide +kernel) (pa_cons (pv 4) pa_nil)) pe_int (nomark _)) (pe_one (pe_callB (cr_all rfl) (by rfl) T.n_all (by decide +kernel) (pa_cons (pe_lc (own := [("point", 5)]) (g := gName 5) (tt := tYes) rfl sc_checked_threes.nd (pi_tup (pv 4)) (blkOk_by (by kernel_rfl)) (fun _ _ _ _ _ => (pg_name (i := 5) sc_checked_threes.nd rfl (Or.inl rfl))) (fun _ _ _ _ _ => pts_nil) (fun _ _ _ _ _ => (pe_chain op_le op_lt pe_int (pv 5) (pv 0)))) pa_nil)))) pa_nil)))
        (pss_cons (ps_asg (pe_callB cr_sortedTI (by rfl) T.n_sorted (by decide +kernel) (pa_cons (pv 4) pa_nil)) (pg_unl rfl (pgs_cons (pg_name (i := 6) sc_checked_threes.nd rfl (Or.inl rfl)) (pgs_cons (pg_name (i := 7) sc_checked_threes.nd rfl (Or.inl rfl)) (pgs_cons (pg_name (i := 8) sc_checked_threes.nd rfl (Or.inl rfl)) pgs_nil)))))
        (pss_cons (ps_for PassesOwn.never rfl (pi_tup (pe_tup (pa_cons (pe_tup (pa_cons (pv 6) (pa_cons (pv 7) pa_nil))) (pa_cons (pe_tup (pa_cons (pv 6) (pa_cons (pv 8) pa_nil))) (pa_cons (pe_tup (pa_cons (pv 7) (pa_cons (pv 8) pa_nil))) pa_nil))))) (pg_name (i := 9) sc_checked_threes.nd rfl (Or.inl rfl))
        (pss_cons (ps_expr (pe_fc F_require hr rfl (pa_cons (pe_and (pe_cmpR op_lt (pe_ix ix_tup (pv 9) pe_int (fun _ _ => rfl)) (pe_ix ix_tup (pv 9) pe_int (fun _ _ => rfl)) (nomark _)) (pe_one (pe_cmp (pc_dnotin hu (pv 9) (pv 3)) (by rfl)))) pa_nil)))
          (pss_one (ps_dput hu (pv 3) (pv 9) pe_bl rfl))))
        (pss_one (ps_expr (pe_bm PySem.F.plainAttrs_list PySem.F.slot_list_append PySem.F.type_list_append mt_append (pv 2) (pa_cons (pe_tup (pa_cons (pv 6) (pa_cons (pv 7) (pa_cons (pv 8) pa_nil)))) pa_nil)))))))))
      (pss_cons (ps_expr (pe_fc F_require hr rfl (pa_cons (pe_cmpR op_eq (pe_callB call_len_dT (by rfl) T.n_len (by decide +kernel) (pa_cons (pv 3) pa_nil)) (pe_op op_fdiv (pe_op op_mul (pv 0) (pe_op op_sub (pv 0) pe_int)) pe_int) (nomark _)) pa_nil)))
      (pss_one (ps_ret (pe_callTy call_tuple_of (by rfl) T.n_tuple (by decide +kernel) (pa_cons (pv 2) pa_nil))))))))), ?_⟩
    refine st_is (σ := [some _, some _, none, none, none, none, none, none, none, none]) rfl ?_
    obtain ⟨rs0, g1, g2, g3⟩ := id hT
    repeat ((try simp only [List.set_cons_zero, List.set_cons_succ]); (first | with_reducible refine iteF ?_ | with_reducible refine iteT ?_ | with_reducible refine ite_no (by decide +kernel) ?_ | with_reducible refine ite_yes (by decide +kernel) ?_ | (fail_if_success (with_reducible refine ite2 ?_ ?_)); (first | refine ⟨_, rfl, ?_⟩ | refine ⟨_, _, rfl, rfl, ?_⟩ | refine ⟨rfl, _, rfl, ?_⟩ | refine ⟨_, _, rfl, ?_⟩ | refine ⟨_, _, _, rfl, ?_⟩ | refine ⟨rfl, ?_⟩ | with_reducible refine And.intro (by (try dsimp only [CDiv, CMul]); omega) ?_)))
    refine ⟨q, _, rfl, g1, fun H1 s1 => ?_⟩
    refine ⟨rfl, ?_⟩
    refine ⟨Nat.zero_le _, fun L hL => ?_⟩
    refine fun D hD => ?_
    have hLD : L ≠ D := fun e => by rw [e, upd_same] at hD; cases hD
    have hL0 : H L = none := s1.free hL
    have hD0 : H D = none := by
      rw [upd_ne (Ne.symm hLD)] at hD
      exact s1.free hD
    have c0 : ChkI H q n ts L D 0 0 (upd (upd H1 L (.lst [])) D (.dT [])) := by
      refine ⟨Same.put (Same.put s1 hL0) hD0, ⟨[], by rw [upd_ne hLD, upd_same]; rfl, rfl, fun k r t e => by simp at e⟩, ⟨[], upd_same, rfl⟩⟩
    refine ⟨_, rfl, q, rfl, ⟨_, SqT.of (c0.sm _ _ g1)⟩, ?_⟩
    refine for_tup (K := K) (a := q) (xs := rs0.map V.ref) (fun i σ H' => ∃ x4 x6 x7 x8 x9 : Option V, σ = [some (.int n), some (.ref q), some (.ref L), some (.ref D), x4, none, x6, x7, x8, x9] ∧ ChkI H q n ts L D i 0 H')
      ⟨none, none, none, none, none, rfl, c0⟩ (fun i σ H' _ h => by
        obtain ⟨_, _, _, _, _, _, h⟩ := h
        exact SqT.of (h.sm _ _ g1)) ?_ ?_
    · rintro i x σ H2 hx ⟨x4, x6, x7, x8, x9, rfl, c⟩
      rw [List.getElem?_map] at hx
      obtain ⟨r, hr0, rfl⟩ := Option.map_eq_some_iff.mp hx
      have hi : i < ts.length := by
        rw [← g2]
        exact (List.getElem?_eq_some_iff.mp hr0).1
      have ht : ts[i]? = some ts[i] := List.getElem?_eq_getElem hi
      have htm : ts[i] ∈ ts := List.getElem_mem hi
      have hr1 := c.sm _ _ (g3 i r _ hr0 ht)
      have hlt := C.lt _ htm
      have hne := C.ne htm
      have hasc := C.asc _ htm
      have htS : (ts.map sort3)[i]? = some (sort3 ts[i]) := by rw [List.getElem?_map, ht]; rfl
      generalize ts[i] = t at *
      -- require(is_row(three) and all([..]))
      repeat ((try simp only [List.set_cons_zero, List.set_cons_succ]); (first | with_reducible refine iteF ?_ | with_reducible refine iteT ?_ | with_reducible refine ite_no (by decide +kernel) ?_ | with_reducible refine ite_yes (by decide +kernel) ?_ | (fail_if_success (with_reducible refine ite2 ?_ ?_)); (first | refine ⟨_, rfl, ?_⟩ | refine ⟨_, _, rfl, rfl, ?_⟩ | refine ⟨rfl, _, rfl, ?_⟩ | refine ⟨_, _, rfl, ?_⟩ | refine ⟨_, _, _, rfl, ?_⟩ | refine ⟨rfl, ?_⟩ | with_reducible refine And.intro (by (try dsimp only [CDiv, CMul]); omega) ?_)))
      refine ⟨r, _, rfl, hr1, fun H3 s3 => ?_⟩
      refine ⟨true, rfl, iteT ?_⟩
      have hr3 := s3 _ _ hr1
      refine ⟨_, rfl, r, rfl, ⟨_, SqT.of hr3⟩, fun D1 hD1 => ?_⟩
      refine lc_true hD1 hr3 (by show 3 ≤ 1000; decide) (fun x H4 hx s4 q hq => ?_) (fun _ => rfl) fun H4 s4 h4 => ?_
      · unfold thV at hx
        simp only [List.mem_cons, List.not_mem_nil, or_false] at hx
        rcases hx with rfl | rfl | rfl
        all_goals exact ⟨_, rfl, _, rfl, hq⟩
      refine ⟨D1, _, rfl, SqL.of h4, rfl, ?_⟩
      have c4 := (c.tups s3).tups s4
      have hr4 := s4 _ _ hr3
      -- require(len(three) == 3 and all([0 <= point < count ..]))
      repeat ((try simp only [List.set_cons_zero, List.set_cons_succ]); (first | with_reducible refine iteF ?_ | with_reducible refine iteT ?_ | with_reducible refine ite_no (by decide +kernel) ?_ | with_reducible refine ite_yes (by decide +kernel) ?_ | (fail_if_success (with_reducible refine ite2 ?_ ?_)); (first | refine ⟨_, rfl, ?_⟩ | refine ⟨_, _, rfl, rfl, ?_⟩ | refine ⟨rfl, _, rfl, ?_⟩ | refine ⟨_, _, rfl, ?_⟩ | refine ⟨_, _, _, rfl, ?_⟩ | refine ⟨rfl, ?_⟩ | with_reducible refine And.intro (by (try dsimp only [CDiv, CMul]); omega) ?_)))
      refine ⟨r, _, rfl, .inr (SqT.of hr4), ?_⟩
      repeat ((try simp only [List.set_cons_zero, List.set_cons_succ]); (first | with_reducible refine iteF ?_ | with_reducible refine iteT ?_ | with_reducible refine ite_no (by decide +kernel) ?_ | with_reducible refine ite_yes (by decide +kernel) ?_ | (fail_if_success (with_reducible refine ite2 ?_ ?_)); (first | refine ⟨_, rfl, ?_⟩ | refine ⟨_, _, rfl, rfl, ?_⟩ | refine ⟨rfl, _, rfl, ?_⟩ | refine ⟨_, _, rfl, ?_⟩ | refine ⟨_, _, _, rfl, ?_⟩ | refine ⟨rfl, ?_⟩ | with_reducible refine And.intro (by (try dsimp only [CDiv, CMul]); omega) ?_)))
      refine ⟨_, rfl, r, rfl, ⟨_, SqT.of hr4⟩, fun D2 hD2 => ?_⟩
      refine lc_true hD2 hr4 (by show 3 ≤ 1000; decide) (fun x H5 hx s5 qq hq => ?_) (fun _ => rfl) fun H5 s5 h5 => ?_
      · have key : ∀ p : Nat, p < n → tChain (rI0 fun i j => V.bl (decide (i ≤ j))) (rI0 fun i j => V.bl (decide (i < j))) (tC (.int 0)) (tVar 5) (tVar 0) ((wipe [some (.int n), some (.ref q), some (.ref L), some (.ref D), some (.ref r), none, x6, x7, x8, x9] [5]).set 5 (some (.int p))) H5 qq := fun p hp => by
          refine ⟨_, rfl, _, _, rfl, rfl, _, rfl, ite_yes (decide_eq_true (by omega)) ⟨_, rfl, _, _, rfl, rfl, ?_⟩⟩
          show qq (.bl (decide ((p : Int) < (n : Int)))) H5
          rw [show decide ((p : Int) < (n : Int)) = true from decide_eq_true (by omega)]
          exact hq
        unfold thV at hx
        simp only [List.mem_cons, List.not_mem_nil, or_false] at hx
        rcases hx with rfl | rfl | rfl
        · exact key _ hlt.1
        · exact key _ hlt.2.1
        · exact key _ hlt.2.2
      refine ⟨D2, _, rfl, SqL.of h5, rfl, ?_⟩
      have c5 := c4.tups s5
      have hr5 := s5 _ _ hr4
      -- a, b, c = sorted(three)
      repeat ((try simp only [List.set_cons_zero, List.set_cons_succ]); (first | with_reducible refine iteF ?_ | with_reducible refine iteT ?_ | with_reducible refine ite_no (by decide +kernel) ?_ | with_reducible refine ite_yes (by decide +kernel) ?_ | (fail_if_success (with_reducible refine ite2 ?_ ?_)); (first | refine ⟨_, rfl, ?_⟩ | refine ⟨_, _, rfl, rfl, ?_⟩ | refine ⟨rfl, _, rfl, ?_⟩ | refine ⟨_, _, rfl, ?_⟩ | refine ⟨_, _, _, rfl, ?_⟩ | refine ⟨rfl, ?_⟩ | with_reducible refine And.intro (by (try dsimp only [CDiv, CMul]); omega) ?_)))
      refine ⟨r, [(t.1 : Int), (t.2.1 : Int), (t.2.2 : Int)], rfl, SqT.of hr5, fun ns' p0 hp hs hp0 => ?_⟩
      have e := sort3_is hne hp hs
      subst e
      refine ⟨p0, _, rfl, SqL.of upd_same, rfl, ?_⟩
      have c6 := c5.tups (Same.new (o := .lst ([((sort3 t).1 : Int), ((sort3 t).2.1 : Int), ((sort3 t).2.2 : Int)].map V.int)) hp0)
      generalize upd H5 p0 (.lst ([((sort3 t).1 : Int), ((sort3 t).2.1 : Int), ((sort3 t).2.2 : Int)].map V.int)) = H6 at c6 ⊢
      refine ⟨_, _, rfl, _, _, rfl, _, _, rfl, rfl, ?_⟩
      -- for pair in ((a, b), (a, c), (b, c))
      refine ⟨_, rfl, _, rfl, (by show 2 ≤ sizeLine; decide), fun p1 hp1 => ?_⟩
      refine ⟨_, rfl, _, rfl, (by show 2 ≤ sizeLine; decide), fun p2 hp2 => ?_⟩
      refine ⟨_, rfl, _, rfl, (by show 2 ≤ sizeLine; decide), fun p3 hp3 => ?_⟩
      refine ⟨(by show 3 ≤ sizeLine; decide), fun p4 hp4 => ?_⟩
      have n21 : p1 ≠ p2 := ne_of_none upd_same hp2
      have n32 : p2 ≠ p3 := ne_of_none upd_same hp3
      have n31 : p1 ≠ p3 := ne_of_none (Eq.trans (upd_ne n21) upd_same) hp3
      have n43 : p3 ≠ p4 := ne_of_none upd_same hp4
      have n42 : p2 ≠ p4 := ne_of_none (Eq.trans (upd_ne n32) upd_same) hp4
      have n41 : p1 ≠ p4 := ne_of_none (Eq.trans (upd_ne n31) (Eq.trans (upd_ne n21) upd_same)) hp4
      refine ⟨p4, rfl, ⟨_, SqT.of upd_same⟩, ?_⟩
      have q1 := Eq.trans (upd_ne (H := upd (upd (upd H6 p1 (.tup [.int ((sort3 t).1 : Int), .int ((sort3 t).2.1 : Int)])) p2 (.tup [.int ((sort3 t).1 : Int), .int ((sort3 t).2.2 : Int)])) p3 (.tup [.int ((sort3 t).2.1 : Int), .int ((sort3 t).2.2 : Int)])) (o := .tup [.ref p1, .ref p2, .ref p3]) n41) (Eq.trans (upd_ne n31) (Eq.trans (upd_ne n21) upd_same))
      have q2 := Eq.trans (upd_ne (H := upd (upd (upd H6 p1 (.tup [.int ((sort3 t).1 : Int), .int ((sort3 t).2.1 : Int)])) p2 (.tup [.int ((sort3 t).1 : Int), .int ((sort3 t).2.2 : Int)])) p3 (.tup [.int ((sort3 t).2.1 : Int), .int ((sort3 t).2.2 : Int)])) (o := .tup [.ref p1, .ref p2, .ref p3]) n42) (Eq.trans (upd_ne n32) upd_same)
      have q3 := Eq.trans (upd_ne (H := upd (upd (upd H6 p1 (.tup [.int ((sort3 t).1 : Int), .int ((sort3 t).2.1 : Int)])) p2 (.tup [.int ((sort3 t).1 : Int), .int ((sort3 t).2.2 : Int)])) p3 (.tup [.int ((sort3 t).2.1 : Int), .int ((sort3 t).2.2 : Int)])) (o := .tup [.ref p1, .ref p2, .ref p3]) n43) upd_same
      have c7 := (((c6.tups (Same.new hp1)).tups (Same.new hp2)).tups (Same.new hp3)).tups (Same.new (o := .tup [.ref p1, .ref p2, .ref p3]) hp4)
      have q4 : (upd (upd (upd (upd H6 p1 (.tup [.int ((sort3 t).1 : Int), .int ((sort3 t).2.1 : Int)])) p2 (.tup [.int ((sort3 t).1 : Int), .int ((sort3 t).2.2 : Int)])) p3 (.tup [.int ((sort3 t).2.1 : Int), .int ((sort3 t).2.2 : Int)])) p4 (.tup [.ref p1, .ref p2, .ref p3])) p4 = some (.tup [.ref p1, .ref p2, .ref p3]) := upd_same
      generalize upd (upd (upd (upd H6 p1 (.tup [.int ((sort3 t).1 : Int), .int ((sort3 t).2.1 : Int)])) p2 (.tup [.int ((sort3 t).1 : Int), .int ((sort3 t).2.2 : Int)])) p3 (.tup [.int ((sort3 t).2.1 : Int), .int ((sort3 t).2.2 : Int)])) p4 (.tup [.ref p1, .ref p2, .ref p3]) = H7 at q1 q2 q3 q4 c7 ⊢
      have pairAt : ∀ (j : Nat) (x : V), ([.ref p1, .ref p2, .ref p3] : List V)[j]? = some x → j < 3 ∧ ∃ (pa : Addr) (u : Nat × Nat), x = .ref pa ∧ (pairs3 (sort3 t))[j]? = some u ∧ u.1 < u.2 ∧ H7 pa = some (.tup ((kOf u).map kV)) := fun j x hx => by
        match j, hx with
        | 0, hx => exact ⟨by decide, p1, _, (Option.some.inj hx).symm, rfl, hasc.1, q1⟩
        | 1, hx => exact ⟨by decide, p2, _, (Option.some.inj hx).symm, rfl, Nat.lt_trans hasc.1 hasc.2, q2⟩
        | 2, hx => exact ⟨by decide, p3, _, (Option.some.inj hx).symm, rfl, hasc.2, q3⟩
        | j + 3, hx => simp at hx
      refine for_tup (K := K) (a := p4) (xs := [.ref p1, .ref p2, .ref p3]) (fun j σ H' => ∃ y9 : Option V, σ = [some (.int n), some (.ref q), some (.ref L), some (.ref D), some (.ref r), none, some (.int ((sort3 t).1 : Int)), some (.int ((sort3 t).2.1 : Int)), some (.int ((sort3 t).2.2 : Int)), y9] ∧ TupSub H7 H' ∧ ChkI H q n ts L D i j H')
        ⟨_, rfl, TupSub.refl _, c7⟩ (fun j σ H' _ h => by
          obtain ⟨_, _, h, _⟩ := h
          exact SqT.of (h _ _ q4)) ?_ ?_
      · rintro j x σ H8 hx ⟨y9, rfl, ss, c⟩
        obtain ⟨hj, pa, u, rfl, hu3, hult, hpa⟩ := pairAt j x hx
        have hpa8 := ss _ _ hpa
        obtain ⟨s8, l8, kvs, d8, e8⟩ := c
        have nx : (pairsL (ts.map sort3))[3 * i + j]? = some u := (pairsL_at _ i j _ htS hj).trans hu3
        have new : kOf u ∉ kvs.map (·.1) := fun hm => by
          rw [e8] at hm
          obtain ⟨u', hu', e⟩ := List.mem_map.mp hm
          rw [kOf_inj e] at hu'
          exact next_new C.nd nx hu'
        have vno := valV_no new
        have hlen : kvs.length < sizeLine := by
          have e := congrArg List.length e8
          rw [List.length_map, List.length_map, List.length_take, pairsL_len, List.length_map] at e
          exact szlt (by omega)
        have hD8 : H D = none := hD0
        -- require(pair[0] < pair[1] and pair not in pairs)
        repeat ((try simp only [List.set_cons_zero, List.set_cons_succ]); (first | with_reducible refine iteF ?_ | with_reducible refine iteT ?_ | with_reducible refine ite_no (by decide +kernel) ?_ | with_reducible refine ite_yes (by decide +kernel) ?_ | (fail_if_success (with_reducible refine ite2 ?_ ?_)); (first | refine ⟨_, rfl, ?_⟩ | refine ⟨_, _, rfl, rfl, ?_⟩ | refine ⟨rfl, _, rfl, ?_⟩ | refine ⟨_, _, rfl, ?_⟩ | refine ⟨_, _, _, rfl, ?_⟩ | refine ⟨_, _, _, _, rfl, rfl, SqT.of hpa8, rfl, ?_⟩ | refine ⟨rfl, ?_⟩ | with_reducible refine And.intro (by (try dsimp only [CDiv, CMul]); omega) ?_)))
        refine ite_yes (decide_eq_true (show (u.1 : Int) < (u.2 : Int) by omega)) ?_
        refine ⟨_, rfl, _, rfl, D, _, rfl, DGet.t d8 hpa8, ?_⟩
        rw [vno]
        refine ⟨rfl, ?_⟩
        -- pairs[pair] = True
        refine ⟨_, rfl, _, rfl, D, _, rfl, DPut.t d8 hpa8 hlen, ?_⟩
        rw [putK_new _ vno]
        have hDt : ∀ xs, H8 D ≠ some (.tup xs) := fun xs e => by rw [d8] at e; cases e
        obtain ⟨rs, l1, l2, l3⟩ := l8
        refine ⟨_, rfl, ss.trans (TupSub.put hDt), Same.put s8 hD0, ⟨rs, by rw [upd_ne hLD]; exact l1, l2, fun k r t e1 e2 => TupSub.put hDt _ _ (l3 k r t e1 e2)⟩, ⟨_, upd_same, ?_⟩⟩
        rw [List.map_append, e8, show 3 * i + (j + 1) = (3 * i + j) + 1 by omega, List.take_succ, nx, List.map_append]
        rfl
      · rintro σ H8 ⟨y9, rfl, ss, c⟩
        obtain ⟨s8, ⟨rs, l1, l2, l3⟩, kvs, d8, e8⟩ := c
        -- found.append((a, b, c))
        have hz2 : (rs.map V.ref).length < sizeLine := by
          rw [List.length_map]
          exact szlt (by omega)
        refine ⟨_, rfl, .inl ⟨rfl, _, SqL.of l1⟩, ?_⟩
        repeat ((try simp only [List.set_cons_zero, List.set_cons_succ]); (first | with_reducible refine iteF ?_ | with_reducible refine iteT ?_ | with_reducible refine ite_no (by decide +kernel) ?_ | with_reducible refine ite_yes (by decide +kernel) ?_ | (fail_if_success (with_reducible refine ite2 ?_ ?_)); (first | refine ⟨_, rfl, ?_⟩ | refine ⟨_, _, rfl, rfl, ?_⟩ | refine ⟨rfl, _, rfl, ?_⟩ | refine ⟨_, _, rfl, ?_⟩ | refine ⟨_, _, _, rfl, ?_⟩ | refine ⟨rfl, ?_⟩ | with_reducible refine And.intro (by (try dsimp only [CDiv, CMul]); omega) ?_)))
        refine ⟨(by show 3 ≤ sizeLine; decide), fun p5 hp5 => ?_⟩
        have nL5 : L ≠ p5 := ne_of_none l1 hp5
        have nD5 : D ≠ p5 := ne_of_none d8 hp5
        refine ⟨L, _, _, rfl, rfl, Eq.trans (upd_ne nL5) l1, hz2, ?_⟩
        have hLt : ∀ xs, (upd H8 p5 (.tup [.int ((sort3 t).1 : Int), .int ((sort3 t).2.1 : Int), .int ((sort3 t).2.2 : Int)])) L ≠ some (.tup xs) := fun xs e => by
          rw [upd_ne nL5, l1] at e
          cases e
        have tt : TupSub H8 (upd (upd H8 p5 (.tup [.int ((sort3 t).1 : Int), .int ((sort3 t).2.1 : Int), .int ((sort3 t).2.2 : Int)])) L (.lst (rs.map V.ref ++ [.ref p5]))) := (TupSub.new hp5).trans (TupSub.put hLt)
        refine ⟨_, _, _, _, _, rfl, Same.put (s8.trans (Same.new hp5)) hL0, ⟨rs ++ [p5], by rw [upd_same, List.map_append]; rfl, by rw [List.length_append, l2]; rfl, fun k r' t' e1 e2 => ?_⟩, ⟨kvs, by rw [upd_ne (Ne.symm hLD), upd_ne nD5]; exact d8, by rw [e8, show 3 * i + ([V.ref p1, V.ref p2, V.ref p3] : List V).length = 3 * (i + 1) + 0 from rfl]⟩⟩
        by_cases hk : k < rs.length
        · rw [List.getElem?_append_left hk] at e1
          exact tt _ _ (l3 k r' t' e1 e2)
        · have hk2 : k = i := by
            have := (List.getElem?_eq_some_iff.mp e1).1
            rw [List.length_append] at this
            simp only [List.length_singleton] at this
            omega
          subst hk2
          rw [ht] at e2
          cases e2
          rw [List.getElem?_append_right (by omega), l2, Nat.sub_self] at e1
          cases e1
          rw [upd_ne (Ne.symm nL5), upd_same]
          rfl
    · rintro σ H2 ⟨x4, x6, x7, x8, x9, rfl, c⟩
      obtain ⟨s8, ⟨rs, l1, l2, l3⟩, kvs, d8, e8⟩ := c
      rw [List.length_map, g2] at l2 e8
      have hlen : kvs.length = n * (n - 1) / 2 := by
        have e := congrArg List.length e8
        rw [List.length_map, List.length_map, List.take_of_length_le (by rw [pairsL_len, List.length_map]; omega)] at e
        rw [e, C.len]
      repeat ((try simp only [List.set_cons_zero, List.set_cons_succ]); (first | with_reducible refine iteF ?_ | with_reducible refine iteT ?_ | with_reducible refine ite_no (by decide +kernel) ?_ | with_reducible refine ite_yes (by decide +kernel) ?_ | (fail_if_success (with_reducible refine ite2 ?_ ?_)); (first | refine ⟨_, rfl, ?_⟩ | refine ⟨_, _, rfl, rfl, ?_⟩ | refine ⟨rfl, _, rfl, ?_⟩ | refine ⟨_, _, rfl, ?_⟩ | refine ⟨_, _, _, rfl, ?_⟩ | refine ⟨rfl, ?_⟩ | with_reducible refine And.intro (by (try dsimp only [CDiv, CMul]); omega) ?_)))
      refine ⟨D, kvs, rfl, d8, ?_⟩
      repeat ((try simp only [List.set_cons_zero, List.set_cons_succ]); (first | with_reducible refine iteF ?_ | with_reducible refine iteT ?_ | with_reducible refine ite_no (by decide +kernel) ?_ | with_reducible refine ite_yes (by decide +kernel) ?_ | (fail_if_success (with_reducible refine ite2 ?_ ?_)); (first | refine ⟨_, rfl, ?_⟩ | refine ⟨_, _, rfl, rfl, ?_⟩ | refine ⟨rfl, _, rfl, ?_⟩ | refine ⟨_, _, rfl, ?_⟩ | refine ⟨_, _, _, rfl, ?_⟩ | refine ⟨rfl, ?_⟩ | with_reducible refine And.intro (by (try dsimp only [CDiv, CMul]); omega) ?_)))
      have ek : decide (V.int (kvs.length : Int) = V.int ((n : Int) * ((n : Int) - 1) / 2)) = true := dec_int_eq (by
        rw [hlen]
        cases n with
        | zero => rfl
        | succ m =>
          have e1 : ((m + 1 : Nat) : Int) - 1 = (m : Int) := by omega
          rw [e1, ← Int.natCast_mul, Nat.add_sub_cancel]
          omega)
      refine ⟨congrArg (fun b => [V.bl b]) ek, ?_⟩
      refine ⟨_, rfl, L, _, rfl, .inl ⟨SqL.of l1, fun p hp => ?_⟩⟩
      refine k p _ (Same.trans s8 (Same.new hp)) ⟨rs, upd_same, by rw [l2, List.length_map], fun i r t e1 e2 => ?_⟩
      rw [List.getElem?_map] at e2
      obtain ⟨t0, ht0, rfl⟩ := Option.map_eq_some_iff.mp e2
      exact Same.new hp _ _ (l3 i r t0 e1 ht0)
end
end PK
end

section
namespace PK
open PySem PySem.Spec PyProof.Rows L2
def leafT : Tree → Bool
  | .double _ => false
  | .product _ _ => false
  | _ => true
theorem bd_of : ∀ {t : Tree}, okT t → bd t
  | .bose _, _ => True.intro
  | .skolem _, _ => True.intro
  | .affine k, h => Nat.le_trans h.2 (by decide)
  | .binary k, h => Nat.le_trans h.2 (by decide)
  | .listed n ts, h => ⟨by have := h.2.1; omega, by have := h.2.2.1; omega⟩
  | .double t, h => bd_of (t := t) h.1
  | .product s t, h => ⟨bd_of h.1, bd_of h.2.1, by have := h.2.2.1; omega⟩
theorem size_norm : ∀ t : Tree, sizeOf (norm t) = sizeOf t
  | .bose _ => rfl
  | .skolem _ => rfl
  | .affine _ => rfl
  | .binary _ => rfl
  | .listed _ _ => rfl
  | .double t => by
    show 2 * sizeOf (norm t) + 1 = _
    rw [size_norm t]
    rfl
  | .product s t => by
    show sizeOf (norm s) * sizeOf (norm t) = _
    rw [size_norm s, size_norm t]
    rfl
theorem depth_norm : ∀ t : Tree, depth (norm t) = depth t
  | .bose _ => rfl
  | .skolem _ => rfl
  | .affine _ => rfl
  | .binary _ => rfl
  | .listed _ _ => rfl
  | .double t => by
    show depth (norm t) + 1 = _
    rw [depth_norm t]
    rfl
  | .product s t => by
    show max (depth (norm s)) (depth (norm t)) + 1 = _
    rw [depth_norm s, depth_norm t]
    rfl
theorem bd_norm : ∀ {t : Tree}, bd t → bd (norm t)
  | .bose _, _ => True.intro
  | .skolem _, _ => True.intro
  | .affine k, h => h
  | .binary k, h => h
  | .listed n ts, h => ⟨h.1, by rw [List.length_map]; exact h.2⟩
  | .double t, h => bd_norm (t := t) h
  | .product s t, h => ⟨bd_norm h.1, bd_norm h.2.1, by rw [size_norm]; exact h.2.2⟩
section
variable {P : Program} {w : World} {K : PySem.W.Frag} {mg : Str → Option Value} {base : Heap}
theorem sc_checked_leaf : FnScope ["tree", "kind", "number"] ["tree"] (defScope s_checked_leaf) := ⟨rfl, rfl, rfl, by decide +kernel, rfl, by decide +kernel, by decide +kernel⟩
def spChkLeaf : Sp := fun vs H Q _ => ∃ v t, vs = [v] ∧ TrAt H t v ∧ leafT t = true ∧ okT t ∧ ∀ u H', Same H H' → TrAt H' (norm t) u → Q u H'
theorem fc_checked_leaf (T : Txt w K mg) : Fc P w K mg base 3 "checked_leaf" ["tree"] spChkLeaf := by
  have F_require := fc_require (P := P) (base := base) T
  have F_is_integer := fc_is_integer (P := P) (base := base) T
  have F_checked_threes := fc_checked_threes (P := P) (base := base) T
  refine mk_fc T.d_checked_leaf sc_checked_leaf (fun _ _ _ _ _ _ us hl => match us, hl with | [_], _ => rfl) (fun vs H Q E h => ?_) (fun f cdv A outer s H vs Q E hr h => ?_)
  · obtain ⟨v, t, rfl, _⟩ := h
    rfl
  · obtain ⟨v, t, rfl, hT, hl, ok, q⟩ := h
    obtain ⟨_, hMOST_LISTED⟩ := T.i_MOST_LISTED
    obtain ⟨_, hMOST_POINTS⟩ := T.i_MOST_POINTS
    obtain ⟨_, hMOST_AFFINE⟩ := T.i_MOST_AFFINE
    obtain ⟨_, hMOST_BINARY⟩ := T.i_MOST_BINARY
    refine ⟨_, (pss_cons (ps_set (i := 1) sc_checked_leaf.nd rfl (Or.inl rfl) (pe_ix ix_tup (pv 0) pe_int (fun _ _ => rfl)))
      (pss_cons (ps_expr (pe_fc F_require hr rfl (pa_cons (pe_and (pe_cmpR op_eq (pe_callB call_len_seq (by rfl) T.n_len (by decide +kernel) (pa_cons (pv 0) pa_nil)) (pe_ifExp (pt_cmpR op_eq (pv 1) pe_str (nomark _)) pe_int pe_int) (nomark _)) (pe_one (pe_fc F_is_integer hr rfl (pa_cons (pe_ix ix_tup (pv 0) pe_int (fun _ _ => rfl)) pa_nil)))) pa_nil)))
      (pss_cons (ps_if (pt_cmpR op_eq (pv 1) pe_str (nomark _)) (pss_cons (ps_expr (pe_fc F_require hr rfl (pa_cons (pe_chain op_le op_le pe_int (pe_ix ix_tup (pv 0) pe_int (fun _ _ => rfl)) (pe_glob (v := .int 60) rfl hMOST_LISTED ⟨_, rfl⟩)) pa_nil)))
        (pss_one (ps_ret (pe_tup (pa_cons (pv 1) (pa_cons (pe_ix ix_tup (pv 0) pe_int (fun _ _ => rfl)) (pa_cons (pe_fc F_checked_threes hr rfl (pa_cons (pe_ix ix_tup (pv 0) pe_int (fun _ _ => rfl)) (pa_cons (pe_ix ix_tup (pv 0) pe_int (fun _ _ => rfl)) pa_nil))) pa_nil))))))) pss_nil)
      (pss_cons (ps_set (i := 2) sc_checked_leaf.nd rfl (Or.inl rfl) (pe_ix ix_tup (pv 0) pe_int (fun _ _ => rfl)))
      (pss_cons (ps_if (pt_cmpR op_eq (pv 1) pe_str (nomark _)) (pss_one (ps_expr (pe_fc F_require hr rfl (pa_cons (pe_and (pe_chain op_le op_le pe_int (pv 2) (pe_glob (v := .int 1000000000000000000000000000000) rfl hMOST_POINTS ⟨_, rfl⟩)) (pe_one (pe_cmpR op_eq (pe_op op_mod (pv 2) pe_int) pe_int (nomark _)))) pa_nil)))) (pss_one (ps_if (pt_cmpR op_eq (pv 1) pe_str (nomark _)) (pss_one (ps_expr (pe_fc F_require hr rfl (pa_cons (pe_and (pe_chain op_le op_le pe_int (pv 2) (pe_glob (v := .int 1000000000000000000000000000000) rfl hMOST_POINTS ⟨_, rfl⟩)) (pe_one (pe_cmpR op_eq (pe_op op_mod (pv 2) pe_int) pe_int (nomark _)))) pa_nil)))) (pss_one (ps_if (pt_cmpR op_eq (pv 1) pe_str (nomark _)) (pss_one (ps_expr (pe_fc F_require hr rfl (pa_cons (pe_chain op_le op_le pe_int (pv 2) (pe_glob (v := .int 60) rfl hMOST_AFFINE ⟨_, rfl⟩)) pa_nil)))) (pss_one (ps_expr (pe_fc F_require hr rfl (pa_cons (pe_chain op_le op_le pe_int (pv 2) (pe_glob (v := .int 99) rfl hMOST_BINARY ⟨_, rfl⟩)) pa_nil)))))))))
      (pss_one (ps_ret (pe_tup (pa_cons (pv 1) (pa_cons (pv 2) pa_nil)))))))))), ?_⟩
    refine st_is (σ := [some _, none, none]) rfl ?_
    cases t with
    | double t => cases hl
    | product s t => cases hl
    | bose n =>
      obtain ⟨p, rfl, hp⟩ := hT
      obtain ⟨o1, o2, o3⟩ : 3 ≤ n ∧ n ≤ 60 ∧ n % 6 = 3 := ok
      repeat ((try simp only [List.set_cons_zero, List.set_cons_succ]); (first | with_reducible refine iteF ?_ | with_reducible refine iteT ?_ | with_reducible refine ite_no (by decide +kernel) ?_ | with_reducible refine ite_yes (by decide +kernel) ?_ | (fail_if_success (with_reducible refine ite2 ?_ ?_)); (first | refine ⟨_, rfl, ?_⟩ | refine ⟨_, _, rfl, rfl, ?_⟩ | refine ⟨rfl, _, rfl, ?_⟩ | refine ⟨_, _, rfl, ?_⟩ | refine ⟨_, _, _, rfl, ?_⟩ | refine ⟨_, _, _, _, rfl, rfl, SqT.of hp, rfl, ?_⟩ | refine ⟨rfl, ?_⟩ | with_reducible refine And.intro (by (try dsimp only [CDiv, CMul]); omega) ?_)))
      refine ⟨p, _, rfl, .inr (SqT.of hp), ?_⟩
      repeat ((try simp only [List.set_cons_zero, List.set_cons_succ]); (first | with_reducible refine iteF ?_ | with_reducible refine iteT ?_ | with_reducible refine ite_no (by decide +kernel) ?_ | with_reducible refine ite_yes (by decide +kernel) ?_ | (fail_if_success (with_reducible refine ite2 ?_ ?_)); (first | refine ⟨_, rfl, ?_⟩ | refine ⟨_, _, rfl, rfl, ?_⟩ | refine ⟨rfl, _, rfl, ?_⟩ | refine ⟨_, _, rfl, ?_⟩ | refine ⟨_, _, _, rfl, ?_⟩ | refine ⟨_, _, _, _, rfl, rfl, SqT.of hp, rfl, ?_⟩ | refine ⟨rfl, ?_⟩ | with_reducible refine And.intro (by (try dsimp only [CDiv, CMul]); omega) ?_)))
      refine ite_yes (decide_eq_true rfl) ?_
      repeat ((try simp only [List.set_cons_zero, List.set_cons_succ]); (first | with_reducible refine iteF ?_ | with_reducible refine iteT ?_ | with_reducible refine ite_no (by decide +kernel) ?_ | with_reducible refine ite_yes (by decide +kernel) ?_ | (fail_if_success (with_reducible refine ite2 ?_ ?_)); (first | refine ⟨_, rfl, ?_⟩ | refine ⟨_, _, rfl, rfl, ?_⟩ | refine ⟨rfl, _, rfl, ?_⟩ | refine ⟨_, _, rfl, ?_⟩ | refine ⟨_, _, _, rfl, ?_⟩ | refine ⟨_, _, _, _, rfl, rfl, SqT.of hp, rfl, ?_⟩ | refine ⟨rfl, ?_⟩ | with_reducible refine And.intro (by (try dsimp only [CDiv, CMul]); omega) ?_)))
      refine ite_yes (decide_eq_true (show (3 : Int) ≤ (n : Int) by omega)) ?_
      repeat ((try simp only [List.set_cons_zero, List.set_cons_succ]); (first | with_reducible refine iteF ?_ | with_reducible refine iteT ?_ | with_reducible refine ite_no (by decide +kernel) ?_ | with_reducible refine ite_yes (by decide +kernel) ?_ | (fail_if_success (with_reducible refine ite2 ?_ ?_)); (first | refine ⟨_, rfl, ?_⟩ | refine ⟨_, _, rfl, rfl, ?_⟩ | refine ⟨rfl, _, rfl, ?_⟩ | refine ⟨_, _, rfl, ?_⟩ | refine ⟨_, _, _, rfl, ?_⟩ | refine ⟨_, _, _, _, rfl, rfl, SqT.of hp, rfl, ?_⟩ | refine ⟨rfl, ?_⟩ | with_reducible refine And.intro (by (try dsimp only [CDiv, CMul]); omega) ?_)))
      refine ite_yes (decide_eq_true (show (n : Int) ≤ 1000000000000000000000000000000 by omega)) ?_
      repeat ((try simp only [List.set_cons_zero, List.set_cons_succ]); (first | with_reducible refine iteF ?_ | with_reducible refine iteT ?_ | with_reducible refine ite_no (by decide +kernel) ?_ | with_reducible refine ite_yes (by decide +kernel) ?_ | (fail_if_success (with_reducible refine ite2 ?_ ?_)); (first | refine ⟨_, rfl, ?_⟩ | refine ⟨_, _, rfl, rfl, ?_⟩ | refine ⟨rfl, _, rfl, ?_⟩ | refine ⟨_, _, rfl, ?_⟩ | refine ⟨_, _, _, rfl, ?_⟩ | refine ⟨_, _, _, _, rfl, rfl, SqT.of hp, rfl, ?_⟩ | refine ⟨rfl, ?_⟩ | with_reducible refine And.intro (by (try dsimp only [CDiv, CMul]); omega) ?_)))
      refine ⟨congrArg (fun b => [V.bl b]) (dec_int_eq (show (n : Int) % 6 = 3 by omega)), ?_⟩
      repeat ((try simp only [List.set_cons_zero, List.set_cons_succ]); (first | with_reducible refine iteF ?_ | with_reducible refine iteT ?_ | with_reducible refine ite_no (by decide +kernel) ?_ | with_reducible refine ite_yes (by decide +kernel) ?_ | (fail_if_success (with_reducible refine ite2 ?_ ?_)); (first | refine ⟨_, rfl, ?_⟩ | refine ⟨_, _, rfl, rfl, ?_⟩ | refine ⟨rfl, _, rfl, ?_⟩ | refine ⟨_, _, rfl, ?_⟩ | refine ⟨_, _, _, rfl, ?_⟩ | refine ⟨_, _, _, _, rfl, rfl, SqT.of hp, rfl, ?_⟩ | refine ⟨rfl, ?_⟩ | with_reducible refine And.intro (by (try dsimp only [CDiv, CMul]); omega) ?_)))
      refine ⟨(by show 2 ≤ sizeLine; decide), fun u hu => q _ _ (Same.new hu) ⟨u, rfl, upd_same⟩⟩
    | skolem n =>
      obtain ⟨p, rfl, hp⟩ := hT
      obtain ⟨o1, o2, o3⟩ : 7 ≤ n ∧ n ≤ 60 ∧ n % 6 = 1 := ok
      repeat ((try simp only [List.set_cons_zero, List.set_cons_succ]); (first | with_reducible refine iteF ?_ | with_reducible refine iteT ?_ | with_reducible refine ite_no (by decide +kernel) ?_ | with_reducible refine ite_yes (by decide +kernel) ?_ | (fail_if_success (with_reducible refine ite2 ?_ ?_)); (first | refine ⟨_, rfl, ?_⟩ | refine ⟨_, _, rfl, rfl, ?_⟩ | refine ⟨rfl, _, rfl, ?_⟩ | refine ⟨_, _, rfl, ?_⟩ | refine ⟨_, _, _, rfl, ?_⟩ | refine ⟨_, _, _, _, rfl, rfl, SqT.of hp, rfl, ?_⟩ | refine ⟨rfl, ?_⟩ | with_reducible refine And.intro (by (try dsimp only [CDiv, CMul]); omega) ?_)))
      refine ⟨p, _, rfl, .inr (SqT.of hp), ?_⟩
      repeat ((try simp only [List.set_cons_zero, List.set_cons_succ]); (first | with_reducible refine iteF ?_ | with_reducible refine iteT ?_ | with_reducible refine ite_no (by decide +kernel) ?_ | with_reducible refine ite_yes (by decide +kernel) ?_ | (fail_if_success (with_reducible refine ite2 ?_ ?_)); (first | refine ⟨_, rfl, ?_⟩ | refine ⟨_, _, rfl, rfl, ?_⟩ | refine ⟨rfl, _, rfl, ?_⟩ | refine ⟨_, _, rfl, ?_⟩ | refine ⟨_, _, _, rfl, ?_⟩ | refine ⟨_, _, _, _, rfl, rfl, SqT.of hp, rfl, ?_⟩ | refine ⟨rfl, ?_⟩ | with_reducible refine And.intro (by (try dsimp only [CDiv, CMul]); omega) ?_)))
      refine ite_yes (decide_eq_true rfl) ?_
      repeat ((try simp only [List.set_cons_zero, List.set_cons_succ]); (first | with_reducible refine iteF ?_ | with_reducible refine iteT ?_ | with_reducible refine ite_no (by decide +kernel) ?_ | with_reducible refine ite_yes (by decide +kernel) ?_ | (fail_if_success (with_reducible refine ite2 ?_ ?_)); (first | refine ⟨_, rfl, ?_⟩ | refine ⟨_, _, rfl, rfl, ?_⟩ | refine ⟨rfl, _, rfl, ?_⟩ | refine ⟨_, _, rfl, ?_⟩ | refine ⟨_, _, _, rfl, ?_⟩ | refine ⟨_, _, _, _, rfl, rfl, SqT.of hp, rfl, ?_⟩ | refine ⟨rfl, ?_⟩ | with_reducible refine And.intro (by (try dsimp only [CDiv, CMul]); omega) ?_)))
      refine ite_yes (decide_eq_true (show (7 : Int) ≤ (n : Int) by omega)) ?_
      repeat ((try simp only [List.set_cons_zero, List.set_cons_succ]); (first | with_reducible refine iteF ?_ | with_reducible refine iteT ?_ | with_reducible refine ite_no (by decide +kernel) ?_ | with_reducible refine ite_yes (by decide +kernel) ?_ | (fail_if_success (with_reducible refine ite2 ?_ ?_)); (first | refine ⟨_, rfl, ?_⟩ | refine ⟨_, _, rfl, rfl, ?_⟩ | refine ⟨rfl, _, rfl, ?_⟩ | refine ⟨_, _, rfl, ?_⟩ | refine ⟨_, _, _, rfl, ?_⟩ | refine ⟨_, _, _, _, rfl, rfl, SqT.of hp, rfl, ?_⟩ | refine ⟨rfl, ?_⟩ | with_reducible refine And.intro (by (try dsimp only [CDiv, CMul]); omega) ?_)))
      refine ite_yes (decide_eq_true (show (n : Int) ≤ 1000000000000000000000000000000 by omega)) ?_
      repeat ((try simp only [List.set_cons_zero, List.set_cons_succ]); (first | with_reducible refine iteF ?_ | with_reducible refine iteT ?_ | with_reducible refine ite_no (by decide +kernel) ?_ | with_reducible refine ite_yes (by decide +kernel) ?_ | (fail_if_success (with_reducible refine ite2 ?_ ?_)); (first | refine ⟨_, rfl, ?_⟩ | refine ⟨_, _, rfl, rfl, ?_⟩ | refine ⟨rfl, _, rfl, ?_⟩ | refine ⟨_, _, rfl, ?_⟩ | refine ⟨_, _, _, rfl, ?_⟩ | refine ⟨_, _, _, _, rfl, rfl, SqT.of hp, rfl, ?_⟩ | refine ⟨rfl, ?_⟩ | with_reducible refine And.intro (by (try dsimp only [CDiv, CMul]); omega) ?_)))
      refine ⟨congrArg (fun b => [V.bl b]) (dec_int_eq (show (n : Int) % 6 = 1 by omega)), ?_⟩
      repeat ((try simp only [List.set_cons_zero, List.set_cons_succ]); (first | with_reducible refine iteF ?_ | with_reducible refine iteT ?_ | with_reducible refine ite_no (by decide +kernel) ?_ | with_reducible refine ite_yes (by decide +kernel) ?_ | (fail_if_success (with_reducible refine ite2 ?_ ?_)); (first | refine ⟨_, rfl, ?_⟩ | refine ⟨_, _, rfl, rfl, ?_⟩ | refine ⟨rfl, _, rfl, ?_⟩ | refine ⟨_, _, rfl, ?_⟩ | refine ⟨_, _, _, rfl, ?_⟩ | refine ⟨_, _, _, _, rfl, rfl, SqT.of hp, rfl, ?_⟩ | refine ⟨rfl, ?_⟩ | with_reducible refine And.intro (by (try dsimp only [CDiv, CMul]); omega) ?_)))
      refine ⟨(by show 2 ≤ sizeLine; decide), fun u hu => q _ _ (Same.new hu) ⟨u, rfl, upd_same⟩⟩
    | affine n =>
      obtain ⟨p, rfl, hp⟩ := hT
      obtain ⟨o1, o2⟩ : 1 ≤ n ∧ n ≤ 3 := ok
      repeat ((try simp only [List.set_cons_zero, List.set_cons_succ]); (first | with_reducible refine iteF ?_ | with_reducible refine iteT ?_ | with_reducible refine ite_no (by decide +kernel) ?_ | with_reducible refine ite_yes (by decide +kernel) ?_ | (fail_if_success (with_reducible refine ite2 ?_ ?_)); (first | refine ⟨_, rfl, ?_⟩ | refine ⟨_, _, rfl, rfl, ?_⟩ | refine ⟨rfl, _, rfl, ?_⟩ | refine ⟨_, _, rfl, ?_⟩ | refine ⟨_, _, _, rfl, ?_⟩ | refine ⟨_, _, _, _, rfl, rfl, SqT.of hp, rfl, ?_⟩ | refine ⟨rfl, ?_⟩ | with_reducible refine And.intro (by (try dsimp only [CDiv, CMul]); omega) ?_)))
      refine ⟨p, _, rfl, .inr (SqT.of hp), ?_⟩
      repeat ((try simp only [List.set_cons_zero, List.set_cons_succ]); (first | with_reducible refine iteF ?_ | with_reducible refine iteT ?_ | with_reducible refine ite_no (by decide +kernel) ?_ | with_reducible refine ite_yes (by decide +kernel) ?_ | (fail_if_success (with_reducible refine ite2 ?_ ?_)); (first | refine ⟨_, rfl, ?_⟩ | refine ⟨_, _, rfl, rfl, ?_⟩ | refine ⟨rfl, _, rfl, ?_⟩ | refine ⟨_, _, rfl, ?_⟩ | refine ⟨_, _, _, rfl, ?_⟩ | refine ⟨_, _, _, _, rfl, rfl, SqT.of hp, rfl, ?_⟩ | refine ⟨rfl, ?_⟩ | with_reducible refine And.intro (by (try dsimp only [CDiv, CMul]); omega) ?_)))
      refine ite_yes (decide_eq_true rfl) ?_
      repeat ((try simp only [List.set_cons_zero, List.set_cons_succ]); (first | with_reducible refine iteF ?_ | with_reducible refine iteT ?_ | with_reducible refine ite_no (by decide +kernel) ?_ | with_reducible refine ite_yes (by decide +kernel) ?_ | (fail_if_success (with_reducible refine ite2 ?_ ?_)); (first | refine ⟨_, rfl, ?_⟩ | refine ⟨_, _, rfl, rfl, ?_⟩ | refine ⟨rfl, _, rfl, ?_⟩ | refine ⟨_, _, rfl, ?_⟩ | refine ⟨_, _, _, rfl, ?_⟩ | refine ⟨_, _, _, _, rfl, rfl, SqT.of hp, rfl, ?_⟩ | refine ⟨rfl, ?_⟩ | with_reducible refine And.intro (by (try dsimp only [CDiv, CMul]); omega) ?_)))
      refine ite_yes (decide_eq_true (show (1 : Int) ≤ (n : Int) by omega)) ?_
      repeat ((try simp only [List.set_cons_zero, List.set_cons_succ]); (first | with_reducible refine iteF ?_ | with_reducible refine iteT ?_ | with_reducible refine ite_no (by decide +kernel) ?_ | with_reducible refine ite_yes (by decide +kernel) ?_ | (fail_if_success (with_reducible refine ite2 ?_ ?_)); (first | refine ⟨_, rfl, ?_⟩ | refine ⟨_, _, rfl, rfl, ?_⟩ | refine ⟨rfl, _, rfl, ?_⟩ | refine ⟨_, _, rfl, ?_⟩ | refine ⟨_, _, _, rfl, ?_⟩ | refine ⟨_, _, _, _, rfl, rfl, SqT.of hp, rfl, ?_⟩ | refine ⟨rfl, ?_⟩ | with_reducible refine And.intro (by (try dsimp only [CDiv, CMul]); omega) ?_)))
      refine ⟨congrArg (fun b => [V.bl b]) (decide_eq_true (show (n : Int) ≤ 60 by omega)), ?_⟩
      repeat ((try simp only [List.set_cons_zero, List.set_cons_succ]); (first | with_reducible refine iteF ?_ | with_reducible refine iteT ?_ | with_reducible refine ite_no (by decide +kernel) ?_ | with_reducible refine ite_yes (by decide +kernel) ?_ | (fail_if_success (with_reducible refine ite2 ?_ ?_)); (first | refine ⟨_, rfl, ?_⟩ | refine ⟨_, _, rfl, rfl, ?_⟩ | refine ⟨rfl, _, rfl, ?_⟩ | refine ⟨_, _, rfl, ?_⟩ | refine ⟨_, _, _, rfl, ?_⟩ | refine ⟨_, _, _, _, rfl, rfl, SqT.of hp, rfl, ?_⟩ | refine ⟨rfl, ?_⟩ | with_reducible refine And.intro (by (try dsimp only [CDiv, CMul]); omega) ?_)))
      refine ⟨(by show 2 ≤ sizeLine; decide), fun u hu => q _ _ (Same.new hu) ⟨u, rfl, upd_same⟩⟩
    | binary n =>
      obtain ⟨p, rfl, hp⟩ := hT
      obtain ⟨o1, o2⟩ : 2 ≤ n ∧ n ≤ 5 := ok
      repeat ((try simp only [List.set_cons_zero, List.set_cons_succ]); (first | with_reducible refine iteF ?_ | with_reducible refine iteT ?_ | with_reducible refine ite_no (by decide +kernel) ?_ | with_reducible refine ite_yes (by decide +kernel) ?_ | (fail_if_success (with_reducible refine ite2 ?_ ?_)); (first | refine ⟨_, rfl, ?_⟩ | refine ⟨_, _, rfl, rfl, ?_⟩ | refine ⟨rfl, _, rfl, ?_⟩ | refine ⟨_, _, rfl, ?_⟩ | refine ⟨_, _, _, rfl, ?_⟩ | refine ⟨_, _, _, _, rfl, rfl, SqT.of hp, rfl, ?_⟩ | refine ⟨rfl, ?_⟩ | with_reducible refine And.intro (by (try dsimp only [CDiv, CMul]); omega) ?_)))
      refine ⟨p, _, rfl, .inr (SqT.of hp), ?_⟩
      repeat ((try simp only [List.set_cons_zero, List.set_cons_succ]); (first | with_reducible refine iteF ?_ | with_reducible refine iteT ?_ | with_reducible refine ite_no (by decide +kernel) ?_ | with_reducible refine ite_yes (by decide +kernel) ?_ | (fail_if_success (with_reducible refine ite2 ?_ ?_)); (first | refine ⟨_, rfl, ?_⟩ | refine ⟨_, _, rfl, rfl, ?_⟩ | refine ⟨rfl, _, rfl, ?_⟩ | refine ⟨_, _, rfl, ?_⟩ | refine ⟨_, _, _, rfl, ?_⟩ | refine ⟨_, _, _, _, rfl, rfl, SqT.of hp, rfl, ?_⟩ | refine ⟨rfl, ?_⟩ | with_reducible refine And.intro (by (try dsimp only [CDiv, CMul]); omega) ?_)))
      refine ite_yes (decide_eq_true rfl) ?_
      repeat ((try simp only [List.set_cons_zero, List.set_cons_succ]); (first | with_reducible refine iteF ?_ | with_reducible refine iteT ?_ | with_reducible refine ite_no (by decide +kernel) ?_ | with_reducible refine ite_yes (by decide +kernel) ?_ | (fail_if_success (with_reducible refine ite2 ?_ ?_)); (first | refine ⟨_, rfl, ?_⟩ | refine ⟨_, _, rfl, rfl, ?_⟩ | refine ⟨rfl, _, rfl, ?_⟩ | refine ⟨_, _, rfl, ?_⟩ | refine ⟨_, _, _, rfl, ?_⟩ | refine ⟨_, _, _, _, rfl, rfl, SqT.of hp, rfl, ?_⟩ | refine ⟨rfl, ?_⟩ | with_reducible refine And.intro (by (try dsimp only [CDiv, CMul]); omega) ?_)))
      refine ite_yes (decide_eq_true (show (2 : Int) ≤ (n : Int) by omega)) ?_
      repeat ((try simp only [List.set_cons_zero, List.set_cons_succ]); (first | with_reducible refine iteF ?_ | with_reducible refine iteT ?_ | with_reducible refine ite_no (by decide +kernel) ?_ | with_reducible refine ite_yes (by decide +kernel) ?_ | (fail_if_success (with_reducible refine ite2 ?_ ?_)); (first | refine ⟨_, rfl, ?_⟩ | refine ⟨_, _, rfl, rfl, ?_⟩ | refine ⟨rfl, _, rfl, ?_⟩ | refine ⟨_, _, rfl, ?_⟩ | refine ⟨_, _, _, rfl, ?_⟩ | refine ⟨_, _, _, _, rfl, rfl, SqT.of hp, rfl, ?_⟩ | refine ⟨rfl, ?_⟩ | with_reducible refine And.intro (by (try dsimp only [CDiv, CMul]); omega) ?_)))
      refine ⟨congrArg (fun b => [V.bl b]) (decide_eq_true (show (n : Int) ≤ 99 by omega)), ?_⟩
      repeat ((try simp only [List.set_cons_zero, List.set_cons_succ]); (first | with_reducible refine iteF ?_ | with_reducible refine iteT ?_ | with_reducible refine ite_no (by decide +kernel) ?_ | with_reducible refine ite_yes (by decide +kernel) ?_ | (fail_if_success (with_reducible refine ite2 ?_ ?_)); (first | refine ⟨_, rfl, ?_⟩ | refine ⟨_, _, rfl, rfl, ?_⟩ | refine ⟨rfl, _, rfl, ?_⟩ | refine ⟨_, _, rfl, ?_⟩ | refine ⟨_, _, _, rfl, ?_⟩ | refine ⟨_, _, _, _, rfl, rfl, SqT.of hp, rfl, ?_⟩ | refine ⟨rfl, ?_⟩ | with_reducible refine And.intro (by (try dsimp only [CDiv, CMul]); omega) ?_)))
      refine ⟨(by show 2 ≤ sizeLine; decide), fun u hu => q _ _ (Same.new hu) ⟨u, rfl, upd_same⟩⟩
    | listed n ts =>
      obtain ⟨p, u, rfl, hp, hu⟩ := hT
      obtain ⟨o1, o2, o3, o4⟩ : 1 ≤ n ∧ n ≤ 60 ∧ ts.length ≤ 1000 ∧ Chk n ts := ok
      repeat ((try simp only [List.set_cons_zero, List.set_cons_succ]); (first | with_reducible refine iteF ?_ | with_reducible refine iteT ?_ | with_reducible refine ite_no (by decide +kernel) ?_ | with_reducible refine ite_yes (by decide +kernel) ?_ | (fail_if_success (with_reducible refine ite2 ?_ ?_)); (first | refine ⟨_, rfl, ?_⟩ | refine ⟨_, _, rfl, rfl, ?_⟩ | refine ⟨rfl, _, rfl, ?_⟩ | refine ⟨_, _, rfl, ?_⟩ | refine ⟨_, _, _, rfl, ?_⟩ | refine ⟨_, _, _, _, rfl, rfl, SqT.of hp, rfl, ?_⟩ | refine ⟨rfl, ?_⟩ | with_reducible refine And.intro (by (try dsimp only [CDiv, CMul]); omega) ?_)))
      refine ⟨p, _, rfl, .inr (SqT.of hp), ?_⟩
      repeat ((try simp only [List.set_cons_zero, List.set_cons_succ]); (first | with_reducible refine iteF ?_ | with_reducible refine iteT ?_ | with_reducible refine ite_no (by decide +kernel) ?_ | with_reducible refine ite_yes (by decide +kernel) ?_ | (fail_if_success (with_reducible refine ite2 ?_ ?_)); (first | refine ⟨_, rfl, ?_⟩ | refine ⟨_, _, rfl, rfl, ?_⟩ | refine ⟨rfl, _, rfl, ?_⟩ | refine ⟨_, _, rfl, ?_⟩ | refine ⟨_, _, _, rfl, ?_⟩ | refine ⟨_, _, _, _, rfl, rfl, SqT.of hp, rfl, ?_⟩ | refine ⟨rfl, ?_⟩ | with_reducible refine And.intro (by (try dsimp only [CDiv, CMul]); omega) ?_)))
      refine ite_yes (decide_eq_true rfl) ?_
      repeat ((try simp only [List.set_cons_zero, List.set_cons_succ]); (first | with_reducible refine iteF ?_ | with_reducible refine iteT ?_ | with_reducible refine ite_no (by decide +kernel) ?_ | with_reducible refine ite_yes (by decide +kernel) ?_ | (fail_if_success (with_reducible refine ite2 ?_ ?_)); (first | refine ⟨_, rfl, ?_⟩ | refine ⟨_, _, rfl, rfl, ?_⟩ | refine ⟨rfl, _, rfl, ?_⟩ | refine ⟨_, _, rfl, ?_⟩ | refine ⟨_, _, _, rfl, ?_⟩ | refine ⟨_, _, _, _, rfl, rfl, SqT.of hp, rfl, ?_⟩ | refine ⟨rfl, ?_⟩ | with_reducible refine And.intro (by (try dsimp only [CDiv, CMul]); omega) ?_)))
      refine ite_yes (decide_eq_true (show (1 : Int) ≤ (n : Int) by omega)) ?_
      repeat ((try simp only [List.set_cons_zero, List.set_cons_succ]); (first | with_reducible refine iteF ?_ | with_reducible refine iteT ?_ | with_reducible refine ite_no (by decide +kernel) ?_ | with_reducible refine ite_yes (by decide +kernel) ?_ | (fail_if_success (with_reducible refine ite2 ?_ ?_)); (first | refine ⟨_, rfl, ?_⟩ | refine ⟨_, _, rfl, rfl, ?_⟩ | refine ⟨rfl, _, rfl, ?_⟩ | refine ⟨_, _, rfl, ?_⟩ | refine ⟨_, _, _, rfl, ?_⟩ | refine ⟨_, _, _, _, rfl, rfl, SqT.of hp, rfl, ?_⟩ | refine ⟨rfl, ?_⟩ | with_reducible refine And.intro (by (try dsimp only [CDiv, CMul]); omega) ?_)))
      refine ⟨congrArg (fun b => [V.bl b]) (decide_eq_true (show (n : Int) ≤ 60 by omega)), ?_⟩
      repeat ((try simp only [List.set_cons_zero, List.set_cons_succ]); (first | with_reducible refine iteF ?_ | with_reducible refine iteT ?_ | with_reducible refine ite_no (by decide +kernel) ?_ | with_reducible refine ite_yes (by decide +kernel) ?_ | (fail_if_success (with_reducible refine ite2 ?_ ?_)); (first | refine ⟨_, rfl, ?_⟩ | refine ⟨_, _, rfl, rfl, ?_⟩ | refine ⟨rfl, _, rfl, ?_⟩ | refine ⟨_, _, rfl, ?_⟩ | refine ⟨_, _, _, rfl, ?_⟩ | refine ⟨_, _, _, _, rfl, rfl, SqT.of hp, rfl, ?_⟩ | refine ⟨rfl, ?_⟩ | with_reducible refine And.intro (by (try dsimp only [CDiv, CMul]); omega) ?_)))
      refine ⟨n, u, ts, rfl, hu, o4, o3, o2, fun p2 H2 s2 hp2 => ?_⟩
      refine ⟨(by show 3 ≤ sizeLine; decide), fun p3 hp3 => q _ _ (Same.trans s2 (Same.new hp3)) ⟨p3, p2, rfl, upd_same, hp2.keep (TupSub.new hp3)⟩⟩
end
end PK
end

section
namespace PK
open PySem PySem.Spec PyProof.Rows L2
/-- checked_part, with and without its second argument -/
structure FcP (P : Program) (w : World) (K : PySem.W.Frag) (mg : Str → Option Value) (base : Heap) (k : Nat) (sp : Sp) : Prop where
  ex : ∃ f fd, mg "checked_part" = some (.ref f) ∧ PySem.W.keepIn K (.ref f) = true ∧ Binds K fd ["tree", "depth"] [] ∧ (∃ ds, Vals [V.int 1] ds ∧ Binds K fd ["tree", "depth"] ds) ∧ FnOk P w K mg base CX0 k f fd ["tree", "depth"] sp
theorem FcP.fc {P : Program} {w : World} {K : PySem.W.Frag} {mg : Str → Option Value} {base : Heap} {k : Nat} {sp : Sp} (F : FcP P w K mg base k sp) : Fc P w K mg base k "checked_part" ["tree", "depth"] sp := by
  obtain ⟨f, fd, h1, h2, h3, _, h5⟩ := F.ex
  exact ⟨f, fd, h1, h2, h3, h5⟩
theorem pe_fcP {X : Cx} {j k : Nat} {sp : Sp} {p pos : Pos} {e : Expr} {t : TA} (F : FcP X.prog X.w X.K X.mg X.base j sp) (hr : Room k X.A) (hg : Gl X "checked_part") (ha : PA X [e] t) (hj : j ≤ k)
    (he : starEach [e] X.env = (false, eval e X.env) :: starEach [] X.env := by rfl) (hpl : (backTo pos (starEach [] X.env)).any (·.1) = false := by rfl) :
    PE X (.Call (.Name "checked_part" p) [e] [] pos) (tCall sp [V.int 1] E0 t) := by
  obtain ⟨f, fd, hm, hk, _, ⟨ds, hv, hb⟩, hF⟩ := F.ex
  exact pe_call hF (hr.mono hj) hg hm hk hb hv pass0 ha (by decide) he hpl
/-- a tree with parts: its kind, its parts -/
def nodeOf : Tree → Str × List Tree
  | .double t => ("double", [t])
  | .product s t => ("product", [s, t])
  | _ => ("", [])
theorem node_at {H : Hp} : ∀ {t : Tree} {v : V}, leafT t = false → TrAt H t v → ∃ p us, v = .ref p ∧ H p = some (.tup (.str (nodeOf t).1 :: us)) ∧ us.length = (nodeOf t).2.length ∧ ∀ (j : Nat) (u : V) (s : Tree), us[j]? = some u → (nodeOf t).2[j]? = some s → TrAt H s u
  | .double t, v, _, ⟨p, u, e, h, h2⟩ => ⟨p, [u], e, h, rfl, fun j x s e1 e2 => by
    match j, e1, e2 with
    | 0, e1, e2 => cases e1; cases e2; exact h2
    | j + 1, e1, _ => simp at e1⟩
  | .product s t, v, _, ⟨p, u, u', e, h, h2, h3⟩ => ⟨p, [u, u'], e, h, rfl, fun j x s e1 e2 => by
    match j, e1, e2 with
    | 0, e1, e2 => cases e1; cases e2; exact h2
    | 1, e1, e2 => cases e1; cases e2; exact h3
    | j + 2, e1, _ => simp at e1⟩
theorem node_mk {H : Hp} {t : Tree} {p : Addr} {us : List V} (hl : leafT t = false) (h : H p = some (.tup (.str (nodeOf t).1 :: us))) (hn : us.length = (nodeOf t).2.length) (ha : ∀ (j : Nat) (u : V) (s : Tree), us[j]? = some u → (nodeOf t).2[j]? = some s → TrAt H (norm s) u) : TrAt H (norm t) (.ref p) := by
  cases t with
  | double t =>
    match us, hn, h, ha with
    | [u], _, h, ha => exact ⟨p, u, rfl, h, ha 0 u t rfl rfl⟩
  | product s t =>
    match us, hn, h, ha with
    | [u, u'], _, h, ha => exact ⟨p, u, u', rfl, h, ha 0 u s rfl rfl, ha 1 u' t rfl rfl⟩
  | _ => cases hl
theorem node_ok {t : Tree} (hl : leafT t = false) (ok : okT t) : ∀ s ∈ (nodeOf t).2, okT s ∧ sizeOf s ≤ 60 ∧ depth s + 1 ≤ depth t := by
  cases t with
  | double t =>
    intro s hs
    obtain rfl := List.mem_singleton.mp hs
    exact ⟨ok.1, ok.2, Nat.le_refl _⟩
  | product s t =>
    intro x hx
    rcases List.mem_cons.mp hx with rfl | hx
    · exact ⟨ok.1, ok.2.2.1, by show depth x + 1 ≤ max (depth x) (depth t) + 1; omega⟩
    · obtain rfl := List.mem_singleton.mp hx
      exact ⟨ok.2.1, ok.2.2.2, by show depth x + 1 ≤ max (depth s) (depth x) + 1; omega⟩
  | _ => cases hl
theorem node_parts {t : Tree} (hl : leafT t = false) : partsOf t = 1 + ((nodeOf t).2.map partsOf).sum := by
  cases t with
  | double t => simp [nodeOf, partsOf]
  | product s t => simp [nodeOf, partsOf]; omega
  | _ => cases hl
theorem parts_leaf {t : Tree} (hl : leafT t = true) : partsOf t = 1 := by
  cases t <;> first | rfl | cases hl
theorem sIx_one (n d : Nat) : HT.sIx (n + 1) d (some 1) = 1 := by
  show (if (1 : Int) < 0 then ((1 : Int) + ((n + 1 : Nat) : Int)).toNat else min (1 : Int).toNat (n + 1)) = 1
  rw [if_neg (by decide)]
  show min 1 (n + 1) = 1
  omega
theorem cut_tail (x : V) (us : List V) : cutV (x :: us) (some 1) none = us := by
  unfold cutV
  rw [List.length_cons, sIx_one]
  show (List.drop 1 (x :: us)).take (us.length + 1 - 1) = us
  simp
theorem sum_take_le : ∀ (l : List Nat) (i : Nat), (l.take i).sum ≤ l.sum
  | [], i => by simp
  | x :: l, 0 => by simp
  | x :: l, i + 1 => by
    have := sum_take_le l i
    simp only [List.take_succ_cons, List.sum_cons]
    omega
section
variable {P : Program} {w : World} {K : PySem.W.Frag} {mg : Str → Option Value} {base : Heap}
theorem sc_checked_part : FnScope ["tree", "depth", "many_arms", "leaf", "found", "parts", "sizes", "arm", "part", "many", "points"] ["tree", "depth"] (defScope s_checked_part) := ⟨rfl, rfl, rfl, by decide +kernel, rfl, by decide +kernel, by decide +kernel⟩
def spPart (d : Nat) : Sp := fun vs H Q _ => ∃ v t, ∃ e : Nat, vs = [v, .int (e : Int)] ∧ TrAt H t v ∧ depth t ≤ d ∧ okT t ∧ e + depth t ≤ 12 ∧ partsOf t ≤ 12 ∧
  ∀ p u H', Same H H' → TrAt H' (norm t) u → H' p = some (.tup [u, .int (partsOf t : Int), .int (sizeOf t : Int)]) → Q (.ref p) H'
/-- what the table of kinds says -/
theorem arms_leaf {a : Addr} (hA : (∃ t, PySem.W.nsIn K a "bose" = some (some (.int 0 t))) ∧ (∃ t, PySem.W.nsIn K a "skolem" = some (some (.int 0 t))) ∧ (∃ t, PySem.W.nsIn K a "affine" = some (some (.int 0 t))) ∧ (∃ t, PySem.W.nsIn K a "binary" = some (some (.int 0 t))) ∧ (∃ t, PySem.W.nsIn K a "listed" = some (some (.int 0 t))) ∧ (∃ t, PySem.W.nsIn K a "double" = some (some (.int 1 t))) ∧ (∃ t, PySem.W.nsIn K a "product" = some (some (.int 2 t))))
    {H : Hp} {t : Tree} {v : V} (hl : leafT t = true) (h : TrAt H t v) : ∃ p z us tk, v = .ref p ∧ H p = some (.tup (.str z :: us)) ∧ PySem.W.nsIn K a z = some (some (.int 0 tk)) := by
  obtain ⟨⟨t1, h1⟩, ⟨t2, h2⟩, ⟨t3, h3⟩, ⟨t4, h4⟩, ⟨t5, h5⟩, _⟩ := hA
  cases t with
  | bose n => obtain ⟨p, e, h⟩ := h; exact ⟨p, _, _, t1, e, h, h1⟩
  | skolem n => obtain ⟨p, e, h⟩ := h; exact ⟨p, _, _, t2, e, h, h2⟩
  | affine n => obtain ⟨p, e, h⟩ := h; exact ⟨p, _, _, t3, e, h, h3⟩
  | binary n => obtain ⟨p, e, h⟩ := h; exact ⟨p, _, _, t4, e, h, h4⟩
  | listed n ts => obtain ⟨p, q, e, h, _⟩ := h; exact ⟨p, _, _, t5, e, h, h5⟩
  | double t => cases hl
  | product s t => cases hl
theorem arms_node {a : Addr} (hA : (∃ t, PySem.W.nsIn K a "bose" = some (some (.int 0 t))) ∧ (∃ t, PySem.W.nsIn K a "skolem" = some (some (.int 0 t))) ∧ (∃ t, PySem.W.nsIn K a "affine" = some (some (.int 0 t))) ∧ (∃ t, PySem.W.nsIn K a "binary" = some (some (.int 0 t))) ∧ (∃ t, PySem.W.nsIn K a "listed" = some (some (.int 0 t))) ∧ (∃ t, PySem.W.nsIn K a "double" = some (some (.int 1 t))) ∧ (∃ t, PySem.W.nsIn K a "product" = some (some (.int 2 t))))
    {t : Tree} (hl : leafT t = false) : ∃ tk, PySem.W.nsIn K a (nodeOf t).1 = some (some (.int ((nodeOf t).2.length : Int) tk)) := by
  obtain ⟨_, _, _, _, _, h6, h7⟩ := hA
  cases t with
  | double t => exact h6
  | product s t => exact h7
  | _ => cases hl
theorem part_turn {d k : Nat} (T : Txt w K mg) (hk : 3 ≤ k) (hk2 : d + 2 ≤ k) (FP : ∀ j, d = j + 1 → FcP P w K mg base k (spPart j)) : FcP P w K mg base (k + 1) (spPart d) := by
  have F_require := fc_require (P := P) (base := base) T
  have F_is_row := fc_is_row (P := P) (base := base) T
  have F_checked_leaf := fc_checked_leaf (P := P) (base := base) T
  have F_size_of := fc_size_of (P := P) (base := base) T d
  obtain ⟨f, fd, hm, F⟩ := T.d_checked_part
  obtain ⟨ds2, v2, b2⟩ := F.binds1 (ps := ["tree", "depth"]) 2 1 (by decide) rfl fun T kV doc pm an cdv ct us its hl hi => match us, its, hl, hi with | [_, _], [_], _, _ => ⟨_, rfl, rfl⟩
  obtain ⟨ds1, v1, b1⟩ := F.binds1 (ps := ["tree", "depth"]) 1 0 (by decide) rfl fun T kV doc pm an cdv ct us its hl hi => match us, its, hl, hi with | [_], [_], _, _ => ⟨_, rfl, rfl⟩
  cases v2
  obtain ⟨j, hj, F_checked_part⟩ : ∃ j : Nat, (∀ m, m + 1 ≤ d → m ≤ j) ∧ Fc P w K mg base k "checked_part" ["tree", "depth"] (fun vs H Q E => d ≠ 0 ∧ spPart j vs H Q E) := by
    cases d with
    | zero => exact ⟨0, fun t h => absurd h (Nat.not_succ_le_zero _), ⟨f, fd, hm, F.kp, b2, ⟨fun vs H Q E h => absurd rfl h.1, fun A outer s H args us vs Q E _ _ _ _ h => absurd rfl h.1⟩⟩⟩
    | succ j => exact ⟨j, fun t h => Nat.le_of_succ_le_succ h, (FP j rfl).fc.imp fun _ _ _ _ h => h.2⟩
  refine ⟨f, fd, hm, F.kp, b2, ⟨ds1, v1, b1⟩, F.ok sc_checked_part (fun vs H Q E h => ?_) fun cdv A outer s H vs Q E hr h => ?_⟩
  · obtain ⟨v, t, e, rfl, _⟩ := h
    rfl
  · obtain ⟨v, t, e, rfl, hT, hd, ok, he, hpa, q⟩ := h
    have hu := hu_of hr
    obtain ⟨_, hMOST_PARTS⟩ := T.i_MOST_PARTS
    obtain ⟨_, hMOST_POINTS⟩ := T.i_MOST_POINTS
    obtain ⟨aA, es, nA, hARMS, KD, hA⟩ := T.arms
    have h1 : (1 : Nat) ≤ k := by omega
    suffices hh : ∃ t, PSs (cxOf CX0 P w K mg base ["tree", "depth", "many_arms", "leaf", "found", "parts", "sizes", "arm", "part", "many", "points"] "checked_part" (defScope s_checked_part) f cdv A outer s H E).nox (defBody s_checked_part) t ∧ t { nx := fun _ H' => Q .non H', rt := Q } (start ["tree", "depth", "many_arms", "leaf", "found", "parts", "sizes", "arm", "part", "many", "points"] [v, .int (e : Int)]) H by
      obtain ⟨t, a, b⟩ := hh
      exact ⟨t, a.nox, b⟩
    refine ⟨_, (pss_cons (ps_expr (pe_fc F_require hr rfl (pa_cons (pe_and (pe_cmpR op_le (pv 1) (pe_glob (v := .int 12) rfl hMOST_PARTS ⟨_, rfl⟩) (nomark _)) (pe_and (pe_fc F_is_row hr rfl (pa_cons (pv 0) pa_nil) h1) (pe_one (pe_cmpR op_gt (pe_callB call_len_seq (by rfl) T.n_len (by decide +kernel) (pa_cons (pv 0) pa_nil)) pe_int (nomark _))))) pa_nil) h1))
      (pss_cons (ps_expr (pe_fc F_require hr rfl (pa_cons (pe_and (pe_callB call_isi (by rfl) T.n_isinstance (by decide +kernel) (pa_cons (pe_ix ix_tup (pv 0) pe_int (fun _ _ => rfl)) (pa_cons (pe_bltn (v := .ty "str") (by rfl) T.n_str (by decide +kernel) rfl) pa_nil))) (pe_one (pe_cmpR (op_in_kd KD) (pe_ix ix_tup (pv 0) pe_int (fun _ _ => rfl)) (pe_glob (v := .ref aA) rfl hARMS rfl) (by rfl)))) pa_nil) h1))
      (pss_cons (ps_set (i := 2) sc_checked_part.nd rfl (Or.inl rfl) (pe_ix (ix_kd KD) (pe_glob (v := .ref aA) rfl hARMS rfl) (pe_ix ix_tup (pv 0) pe_int (fun _ _ => rfl)) (fun _ _ => rfl)))
      (pss_cons (ps_if (pt_cmpR op_eq (pv 2) pe_int (nomark _)) (pss_cons (ps_set (i := 3) sc_checked_part.nd rfl (Or.inl rfl) (pe_fc F_checked_leaf hr rfl (pa_cons (pv 0) pa_nil) hk))
        (pss_one (ps_ret (pe_tup (pa_cons (pv 3) (pa_cons pe_int (pa_cons (pe_fc F_size_of hr rfl (pa_cons (pv 3) pa_nil) hk2) pa_nil))))))) pss_nil)
      (pss_cons (ps_expr (pe_fc F_require hr rfl (pa_cons (pe_cmpR op_eq (pe_callB call_len_seq (by rfl) T.n_len (by decide +kernel) (pa_cons (pv 0) pa_nil)) (pe_op op_add (pv 2) pe_int) (nomark _)) pa_nil) h1))
      (pss_cons (ps_set (i := 4) sc_checked_part.nd rfl (Or.inl rfl) (pe_lst (pa_cons (pe_ix ix_tup (pv 0) pe_int (fun _ _ => rfl)) pa_nil)))
      (pss_cons (ps_set (i := 5) sc_checked_part.nd rfl (Or.inl rfl) pe_int)
      (pss_cons (ps_set (i := 6) sc_checked_part.nd rfl (Or.inl rfl) (pe_lst pa_nil))
      (pss_cons (ps_for PassesOwn.never rfl (pi_tup (pe_slice sl_tup (pv 0) (po_some pe_int) po_none)) (pg_name (i := 7) sc_checked_part.nd rfl (Or.inl rfl))
      (pss_cons (ps_asg (pe_fc F_checked_part hr rfl (pa_cons (pv 7) (pa_cons (pe_op op_add (pv 1) pe_int) pa_nil)) (Nat.le_refl _)) (pg_tup rfl (pgs_cons (pg_name (i := 8) sc_checked_part.nd rfl (Or.inl rfl)) (pgs_cons (pg_name (i := 9) sc_checked_part.nd rfl (Or.inl rfl)) (pgs_cons (pg_name (i := 10) sc_checked_part.nd rfl (Or.inl rfl)) pgs_nil)))))
        (pss_cons (ps_expr (pe_bm PySem.F.plainAttrs_list PySem.F.slot_list_append PySem.F.type_list_append mt_append (pv 4) (pa_cons (pv 8) pa_nil)))
        (pss_cons (ps_aug (i := 5) sc_checked_part.nd rfl (Or.inl rfl) (pv 9) iop_add)
        (pss_cons (ps_expr (pe_bm PySem.F.plainAttrs_list PySem.F.slot_list_append PySem.F.type_list_append mt_append (pv 6) (pa_cons (pv 10) pa_nil)))
        (pss_one (ps_expr (pe_fc F_require hr rfl (pa_cons (pe_cmpR op_le (pv 5) (pe_glob (v := .int 12) rfl hMOST_PARTS ⟨_, rfl⟩) (nomark _)) pa_nil) h1))))))))
      (pss_cons (ps_set (i := 10) sc_checked_part.nd rfl (Or.inl rfl) (pe_ifExp (pt_cmpR op_eq (pe_ix ix_tup (pv 0) pe_int (fun _ _ => rfl)) pe_str (nomark _)) (pe_op op_add (pe_op op_mul pe_int (pe_ix ix_list (pv 6) pe_int (fun _ _ => rfl))) pe_int) (pe_op op_mul (pe_ix ix_list (pv 6) pe_int (fun _ _ => rfl)) (pe_ix ix_list (pv 6) pe_int (fun _ _ => rfl)))))
      (pss_cons (ps_expr (pe_fc F_require hr rfl (pa_cons (pe_cmpR op_le (pv 10) (pe_glob (v := .int 1000000000000000000000000000000) rfl hMOST_POINTS ⟨_, rfl⟩) (nomark _)) pa_nil) h1))
      (pss_one (ps_ret (pe_tup (pa_cons (pe_callTy call_tuple_of (by rfl) T.n_tuple (by decide +kernel) (pa_cons (pv 4) pa_nil)) (pa_cons (pv 5) (pa_cons (pv 10) pa_nil))))))))))))))))), ?_⟩
    refine st_is (σ := [some _, some _, none, none, none, none, none, none, none, none, none]) rfl ?_
    cases hl : leafT t with
    | true =>
      obtain ⟨p, z, us, tk, rfl, hp, hz⟩ := arms_leaf hA hl hT
      repeat ((try simp only [List.set_cons_zero, List.set_cons_succ]); (first | with_reducible refine iteF ?_ | with_reducible refine iteT ?_ | with_reducible refine ite_no (by decide +kernel) ?_ | with_reducible refine ite_yes (by decide +kernel) ?_ | (fail_if_success (with_reducible refine ite2 ?_ ?_)); (first | refine ⟨_, rfl, ?_⟩ | refine ⟨_, _, rfl, rfl, ?_⟩ | refine ⟨rfl, _, rfl, ?_⟩ | refine ⟨_, _, rfl, ?_⟩ | refine ⟨_, _, _, rfl, ?_⟩ | refine ⟨_, _, _, _, rfl, rfl, SqT.of hp, rfl, ?_⟩ | refine ⟨rfl, ?_⟩ | with_reducible refine And.intro (by (try dsimp only [CDiv, CMul]); omega) ?_)))
      refine ite_yes (decide_eq_true (show (e : Int) ≤ 12 by omega)) ?_
      repeat ((try simp only [List.set_cons_zero, List.set_cons_succ]); (first | with_reducible refine iteF ?_ | with_reducible refine iteT ?_ | with_reducible refine ite_no (by decide +kernel) ?_ | with_reducible refine ite_yes (by decide +kernel) ?_ | (fail_if_success (with_reducible refine ite2 ?_ ?_)); (first | refine ⟨_, rfl, ?_⟩ | refine ⟨_, _, rfl, rfl, ?_⟩ | refine ⟨rfl, _, rfl, ?_⟩ | refine ⟨_, _, rfl, ?_⟩ | refine ⟨_, _, _, rfl, ?_⟩ | refine ⟨_, _, _, _, rfl, rfl, SqT.of hp, rfl, ?_⟩ | refine ⟨rfl, ?_⟩ | with_reducible refine And.intro (by (try dsimp only [CDiv, CMul]); omega) ?_)))
      refine ⟨p, _, rfl, hp, fun H1 s1 => ?_⟩
      have hp1 := s1 _ _ hp
      refine ⟨_, rfl, iteT ?_⟩
      repeat ((try simp only [List.set_cons_zero, List.set_cons_succ]); (first | with_reducible refine iteF ?_ | with_reducible refine iteT ?_ | with_reducible refine ite_no (by decide +kernel) ?_ | with_reducible refine ite_yes (by decide +kernel) ?_ | (fail_if_success (with_reducible refine ite2 ?_ ?_)); (first | refine ⟨_, rfl, ?_⟩ | refine ⟨_, _, rfl, rfl, ?_⟩ | refine ⟨rfl, _, rfl, ?_⟩ | refine ⟨_, _, rfl, ?_⟩ | refine ⟨_, _, _, rfl, ?_⟩ | refine ⟨_, _, _, _, rfl, rfl, SqT.of hp1, rfl, ?_⟩ | refine ⟨rfl, ?_⟩ | with_reducible refine And.intro (by (try dsimp only [CDiv, CMul]); omega) ?_)))
      refine ⟨p, _, rfl, .inr (SqT.of hp1), ?_⟩
      repeat ((try simp only [List.set_cons_zero, List.set_cons_succ]); (first | with_reducible refine iteF ?_ | with_reducible refine iteT ?_ | with_reducible refine ite_no (by decide +kernel) ?_ | with_reducible refine ite_yes (by decide +kernel) ?_ | (fail_if_success (with_reducible refine ite2 ?_ ?_)); (first | refine ⟨_, rfl, ?_⟩ | refine ⟨_, _, rfl, rfl, ?_⟩ | refine ⟨rfl, _, rfl, ?_⟩ | refine ⟨_, _, rfl, ?_⟩ | refine ⟨_, _, _, rfl, ?_⟩ | refine ⟨_, _, _, _, rfl, rfl, SqT.of hp1, rfl, ?_⟩ | refine ⟨rfl, ?_⟩ | with_reducible refine And.intro (by (try dsimp only [CDiv, CMul]); omega) ?_)))
      refine ⟨congrArg (fun b => [V.bl b]) (decide_eq_true (show (0 : Int) < ((V.str z :: us).length : Int) by simp)), ?_⟩
      have h0 : atI (V.str z :: us) 0 = some (V.str z) := atI_nat (j := 0) rfl
      repeat ((try simp only [List.set_cons_zero, List.set_cons_succ]); (first | with_reducible refine iteF ?_ | with_reducible refine iteT ?_ | with_reducible refine ite_no (by decide +kernel) ?_ | with_reducible refine ite_yes (by decide +kernel) ?_ | (fail_if_success (with_reducible refine ite2 ?_ ?_)); (first | refine ⟨_, rfl, ?_⟩ | refine ⟨_, _, rfl, rfl, ?_⟩ | refine ⟨rfl, _, rfl, ?_⟩ | refine ⟨_, _, rfl, ?_⟩ | refine ⟨_, _, _, rfl, ?_⟩ | refine ⟨_, _, _, _, rfl, rfl, SqT.of hp1, h0, ?_⟩ | refine ⟨rfl, ?_⟩ | with_reducible refine And.intro (by (try dsimp only [CDiv, CMul]); omega) ?_)))
      refine ⟨_, _, .type "str", .type "str", true, rfl, .ty _, .base (.str _), kit_ty (by decide +kernel), true, rfl, iteT ?_⟩
      repeat ((try simp only [List.set_cons_zero, List.set_cons_succ]); (first | with_reducible refine iteF ?_ | with_reducible refine iteT ?_ | with_reducible refine ite_no (by decide +kernel) ?_ | with_reducible refine ite_yes (by decide +kernel) ?_ | (fail_if_success (with_reducible refine ite2 ?_ ?_)); (first | refine ⟨_, rfl, ?_⟩ | refine ⟨_, _, rfl, rfl, ?_⟩ | refine ⟨rfl, _, rfl, ?_⟩ | refine ⟨_, _, rfl, ?_⟩ | refine ⟨_, _, _, rfl, ?_⟩ | refine ⟨_, _, _, _, rfl, rfl, SqT.of hp1, h0, ?_⟩ | refine ⟨rfl, ?_⟩ | with_reducible refine And.intro (by (try dsimp only [CDiv, CMul]); omega) ?_)))
      refine ⟨z, _, rfl, rfl, hz, rfl, ?_⟩
      repeat ((try simp only [List.set_cons_zero, List.set_cons_succ]); (first | with_reducible refine iteF ?_ | with_reducible refine iteT ?_ | with_reducible refine ite_no (by decide +kernel) ?_ | with_reducible refine ite_yes (by decide +kernel) ?_ | (fail_if_success (with_reducible refine ite2 ?_ ?_)); (first | refine ⟨_, rfl, ?_⟩ | refine ⟨_, _, rfl, rfl, ?_⟩ | refine ⟨rfl, _, rfl, ?_⟩ | refine ⟨_, _, rfl, ?_⟩ | refine ⟨_, _, _, rfl, ?_⟩ | refine ⟨_, _, _, _, rfl, rfl, SqT.of hp1, h0, ?_⟩ | refine ⟨rfl, ?_⟩ | with_reducible refine And.intro (by (try dsimp only [CDiv, CMul]); omega) ?_)))
      refine ⟨z, _, .int 0, trivial, rfl, hz, ⟨_, rfl⟩, ?_⟩
      repeat ((try simp only [List.set_cons_zero, List.set_cons_succ]); (first | with_reducible refine iteF ?_ | with_reducible refine iteT ?_ | with_reducible refine ite_no (by decide +kernel) ?_ | with_reducible refine ite_yes (by decide +kernel) ?_ | (fail_if_success (with_reducible refine ite2 ?_ ?_)); (first | refine ⟨_, rfl, ?_⟩ | refine ⟨_, _, rfl, rfl, ?_⟩ | refine ⟨rfl, _, rfl, ?_⟩ | refine ⟨_, _, rfl, ?_⟩ | refine ⟨_, _, _, rfl, ?_⟩ | refine ⟨_, _, _, _, rfl, rfl, SqT.of hp1, h0, ?_⟩ | refine ⟨rfl, ?_⟩ | with_reducible refine And.intro (by (try dsimp only [CDiv, CMul]); omega) ?_)))
      refine ⟨_, t, rfl, hT.keep (Same.tups s1), hl, ok, fun u H2 s2 hu2 => ?_⟩
      repeat ((try simp only [List.set_cons_zero, List.set_cons_succ]); (first | with_reducible refine iteF ?_ | with_reducible refine iteT ?_ | with_reducible refine ite_no (by decide +kernel) ?_ | with_reducible refine ite_yes (by decide +kernel) ?_ | (fail_if_success (with_reducible refine ite2 ?_ ?_)); (first | refine ⟨_, rfl, ?_⟩ | refine ⟨_, _, rfl, rfl, ?_⟩ | refine ⟨rfl, _, rfl, ?_⟩ | refine ⟨_, _, rfl, ?_⟩ | refine ⟨_, _, _, rfl, ?_⟩ | refine ⟨_, _, _, _, rfl, rfl, SqT.of hp1, h0, ?_⟩ | refine ⟨rfl, ?_⟩ | with_reducible refine And.intro (by (try dsimp only [CDiv, CMul]); omega) ?_)))
      refine ⟨u, norm t, rfl, hu2, by rw [depth_norm]; exact hd, bd_norm (bd_of ok), ?_⟩
      repeat ((try simp only [List.set_cons_zero, List.set_cons_succ]); (first | with_reducible refine iteF ?_ | with_reducible refine iteT ?_ | with_reducible refine ite_no (by decide +kernel) ?_ | with_reducible refine ite_yes (by decide +kernel) ?_ | (fail_if_success (with_reducible refine ite2 ?_ ?_)); (first | refine ⟨_, rfl, ?_⟩ | refine ⟨_, _, rfl, rfl, ?_⟩ | refine ⟨rfl, _, rfl, ?_⟩ | refine ⟨_, _, rfl, ?_⟩ | refine ⟨_, _, _, rfl, ?_⟩ | refine ⟨_, _, _, _, rfl, rfl, SqT.of hp1, h0, ?_⟩ | refine ⟨rfl, ?_⟩ | with_reducible refine And.intro (by (try dsimp only [CDiv, CMul]); omega) ?_)))
      refine ⟨(by show 3 ≤ sizeLine; decide), fun p2 hp2 => ?_⟩
      rw [size_norm]
      have sS := Same.new (o := .tup [u, .int 1, .int (sizeOf t : Int)]) hp2
      refine q p2 u _ (Same.trans s1 (Same.trans s2 sS)) (hu2.keep (Same.tups sS)) ?_
      rw [parts_leaf hl]
      exact upd_same
    | false =>
      obtain ⟨p, us, rfl, hp, hus, hat⟩ := node_at hl hT
      obtain ⟨tk, hz⟩ := arms_node hA hl
      have hok := node_ok hl ok
      have hpt := node_parts hl
      have hm : (nodeOf t).2.length = 1 ∨ (nodeOf t).2.length = 2 := by
        cases t <;> first | exact .inl rfl | exact .inr rfl | cases hl
      repeat ((try simp only [List.set_cons_zero, List.set_cons_succ]); (first | with_reducible refine iteF ?_ | with_reducible refine iteT ?_ | with_reducible refine ite_no (by decide +kernel) ?_ | with_reducible refine ite_yes (by decide +kernel) ?_ | (fail_if_success (with_reducible refine ite2 ?_ ?_)); (first | refine ⟨_, rfl, ?_⟩ | refine ⟨_, _, rfl, rfl, ?_⟩ | refine ⟨rfl, _, rfl, ?_⟩ | refine ⟨_, _, rfl, ?_⟩ | refine ⟨_, _, _, rfl, ?_⟩ | refine ⟨_, _, _, _, rfl, rfl, SqT.of hp, rfl, ?_⟩ | refine ⟨rfl, ?_⟩ | with_reducible refine And.intro (by (try dsimp only [CDiv, CMul]); omega) ?_)))
      refine ite_yes (decide_eq_true (show (e : Int) ≤ 12 by omega)) ?_
      repeat ((try simp only [List.set_cons_zero, List.set_cons_succ]); (first | with_reducible refine iteF ?_ | with_reducible refine iteT ?_ | with_reducible refine ite_no (by decide +kernel) ?_ | with_reducible refine ite_yes (by decide +kernel) ?_ | (fail_if_success (with_reducible refine ite2 ?_ ?_)); (first | refine ⟨_, rfl, ?_⟩ | refine ⟨_, _, rfl, rfl, ?_⟩ | refine ⟨rfl, _, rfl, ?_⟩ | refine ⟨_, _, rfl, ?_⟩ | refine ⟨_, _, _, rfl, ?_⟩ | refine ⟨_, _, _, _, rfl, rfl, SqT.of hp, rfl, ?_⟩ | refine ⟨rfl, ?_⟩ | with_reducible refine And.intro (by (try dsimp only [CDiv, CMul]); omega) ?_)))
      refine ⟨p, _, rfl, hp, fun H1 s1 => ?_⟩
      have hp1 := s1 _ _ hp
      refine ⟨_, rfl, iteT ?_⟩
      repeat ((try simp only [List.set_cons_zero, List.set_cons_succ]); (first | with_reducible refine iteF ?_ | with_reducible refine iteT ?_ | with_reducible refine ite_no (by decide +kernel) ?_ | with_reducible refine ite_yes (by decide +kernel) ?_ | (fail_if_success (with_reducible refine ite2 ?_ ?_)); (first | refine ⟨_, rfl, ?_⟩ | refine ⟨_, _, rfl, rfl, ?_⟩ | refine ⟨rfl, _, rfl, ?_⟩ | refine ⟨_, _, rfl, ?_⟩ | refine ⟨_, _, _, rfl, ?_⟩ | refine ⟨_, _, _, _, rfl, rfl, SqT.of hp1, rfl, ?_⟩ | refine ⟨rfl, ?_⟩ | with_reducible refine And.intro (by (try dsimp only [CDiv, CMul]); omega) ?_)))
      refine ⟨p, _, rfl, .inr (SqT.of hp1), ?_⟩
      repeat ((try simp only [List.set_cons_zero, List.set_cons_succ]); (first | with_reducible refine iteF ?_ | with_reducible refine iteT ?_ | with_reducible refine ite_no (by decide +kernel) ?_ | with_reducible refine ite_yes (by decide +kernel) ?_ | (fail_if_success (with_reducible refine ite2 ?_ ?_)); (first | refine ⟨_, rfl, ?_⟩ | refine ⟨_, _, rfl, rfl, ?_⟩ | refine ⟨rfl, _, rfl, ?_⟩ | refine ⟨_, _, rfl, ?_⟩ | refine ⟨_, _, _, rfl, ?_⟩ | refine ⟨_, _, _, _, rfl, rfl, SqT.of hp1, rfl, ?_⟩ | refine ⟨rfl, ?_⟩ | with_reducible refine And.intro (by (try dsimp only [CDiv, CMul]); omega) ?_)))
      refine ⟨congrArg (fun b => [V.bl b]) (decide_eq_true (show (0 : Int) < ((V.str (nodeOf t).1 :: us).length : Int) by simp)), ?_⟩
      have h0 : atI (V.str (nodeOf t).1 :: us) 0 = some (V.str (nodeOf t).1) := atI_nat (j := 0) rfl
      repeat ((try simp only [List.set_cons_zero, List.set_cons_succ]); (first | with_reducible refine iteF ?_ | with_reducible refine iteT ?_ | with_reducible refine ite_no (by decide +kernel) ?_ | with_reducible refine ite_yes (by decide +kernel) ?_ | (fail_if_success (with_reducible refine ite2 ?_ ?_)); (first | refine ⟨_, rfl, ?_⟩ | refine ⟨_, _, rfl, rfl, ?_⟩ | refine ⟨rfl, _, rfl, ?_⟩ | refine ⟨_, _, rfl, ?_⟩ | refine ⟨_, _, _, rfl, ?_⟩ | refine ⟨_, _, _, _, rfl, rfl, SqT.of hp1, h0, ?_⟩ | refine ⟨rfl, ?_⟩ | with_reducible refine And.intro (by (try dsimp only [CDiv, CMul]); omega) ?_)))
      refine ⟨_, _, .type "str", .type "str", true, rfl, .ty _, .base (.str _), kit_ty (by decide +kernel), true, rfl, iteT ?_⟩
      repeat ((try simp only [List.set_cons_zero, List.set_cons_succ]); (first | with_reducible refine iteF ?_ | with_reducible refine iteT ?_ | with_reducible refine ite_no (by decide +kernel) ?_ | with_reducible refine ite_yes (by decide +kernel) ?_ | (fail_if_success (with_reducible refine ite2 ?_ ?_)); (first | refine ⟨_, rfl, ?_⟩ | refine ⟨_, _, rfl, rfl, ?_⟩ | refine ⟨rfl, _, rfl, ?_⟩ | refine ⟨_, _, rfl, ?_⟩ | refine ⟨_, _, _, rfl, ?_⟩ | refine ⟨_, _, _, _, rfl, rfl, SqT.of hp1, h0, ?_⟩ | refine ⟨rfl, ?_⟩ | with_reducible refine And.intro (by (try dsimp only [CDiv, CMul]); omega) ?_)))
      refine ⟨_, _, rfl, rfl, hz, rfl, ?_⟩
      repeat ((try simp only [List.set_cons_zero, List.set_cons_succ]); (first | with_reducible refine iteF ?_ | with_reducible refine iteT ?_ | with_reducible refine ite_no (by decide +kernel) ?_ | with_reducible refine ite_yes (by decide +kernel) ?_ | (fail_if_success (with_reducible refine ite2 ?_ ?_)); (first | refine ⟨_, rfl, ?_⟩ | refine ⟨_, _, rfl, rfl, ?_⟩ | refine ⟨rfl, _, rfl, ?_⟩ | refine ⟨_, _, rfl, ?_⟩ | refine ⟨_, _, _, rfl, ?_⟩ | refine ⟨_, _, _, _, rfl, rfl, SqT.of hp1, h0, ?_⟩ | refine ⟨rfl, ?_⟩ | with_reducible refine And.intro (by (try dsimp only [CDiv, CMul]); omega) ?_)))
      refine ⟨_, _, .int ((nodeOf t).2.length : Int), trivial, rfl, hz, ⟨_, rfl⟩, ?_⟩
      repeat ((try simp only [List.set_cons_zero, List.set_cons_succ]); (first | with_reducible refine iteF ?_ | with_reducible refine iteT ?_ | with_reducible refine ite_no (by decide +kernel) ?_ | with_reducible refine ite_yes (by decide +kernel) ?_ | (fail_if_success (with_reducible refine ite2 ?_ ?_)); (first | refine ⟨_, rfl, ?_⟩ | refine ⟨_, _, rfl, rfl, ?_⟩ | refine ⟨rfl, _, rfl, ?_⟩ | refine ⟨_, _, rfl, ?_⟩ | refine ⟨_, _, _, rfl, ?_⟩ | refine ⟨_, _, _, _, rfl, rfl, SqT.of hp1, h0, ?_⟩ | refine ⟨rfl, ?_⟩ | with_reducible refine And.intro (by (try dsimp only [CDiv, CMul]); omega) ?_)))
      refine ite_no (dec_int_ne (by omega)) ?_
      repeat ((try simp only [List.set_cons_zero, List.set_cons_succ]); (first | with_reducible refine iteF ?_ | with_reducible refine iteT ?_ | with_reducible refine ite_no (by decide +kernel) ?_ | with_reducible refine ite_yes (by decide +kernel) ?_ | (fail_if_success (with_reducible refine ite2 ?_ ?_)); (first | refine ⟨_, rfl, ?_⟩ | refine ⟨_, _, rfl, rfl, ?_⟩ | refine ⟨rfl, _, rfl, ?_⟩ | refine ⟨_, _, rfl, ?_⟩ | refine ⟨_, _, _, rfl, ?_⟩ | refine ⟨_, _, _, _, rfl, rfl, SqT.of hp1, h0, ?_⟩ | refine ⟨rfl, ?_⟩ | with_reducible refine And.intro (by (try dsimp only [CDiv, CMul]); omega) ?_)))
      refine ⟨p, _, rfl, .inr (SqT.of hp1), ?_⟩
      repeat ((try simp only [List.set_cons_zero, List.set_cons_succ]); (first | with_reducible refine iteF ?_ | with_reducible refine iteT ?_ | with_reducible refine ite_no (by decide +kernel) ?_ | with_reducible refine ite_yes (by decide +kernel) ?_ | (fail_if_success (with_reducible refine ite2 ?_ ?_)); (first | refine ⟨_, rfl, ?_⟩ | refine ⟨_, _, rfl, rfl, ?_⟩ | refine ⟨rfl, _, rfl, ?_⟩ | refine ⟨_, _, rfl, ?_⟩ | refine ⟨_, _, _, rfl, ?_⟩ | refine ⟨_, _, _, _, rfl, rfl, SqT.of hp1, h0, ?_⟩ | refine ⟨rfl, ?_⟩ | with_reducible refine And.intro (by (try dsimp only [CDiv, CMul]); omega) ?_)))
      refine ⟨congrArg (fun b => [V.bl b]) (dec_int_eq (show ((V.str (nodeOf t).1 :: us).length : Int) = ((nodeOf t).2.length : Int) + 1 by rw [List.length_cons, hus]; rfl)), ?_⟩
      -- found, parts, sizes
      repeat ((try simp only [List.set_cons_zero, List.set_cons_succ]); (first | with_reducible refine iteF ?_ | with_reducible refine iteT ?_ | with_reducible refine ite_no (by decide +kernel) ?_ | with_reducible refine ite_yes (by decide +kernel) ?_ | (fail_if_success (with_reducible refine ite2 ?_ ?_)); (first | refine ⟨_, rfl, ?_⟩ | refine ⟨_, _, rfl, rfl, ?_⟩ | refine ⟨rfl, _, rfl, ?_⟩ | refine ⟨_, _, rfl, ?_⟩ | refine ⟨_, _, _, rfl, ?_⟩ | refine ⟨_, _, _, _, rfl, rfl, SqT.of hp1, h0, ?_⟩ | refine ⟨rfl, ?_⟩ | with_reducible refine And.intro (by (try dsimp only [CDiv, CMul]); omega) ?_)))
      refine ⟨(by show 1 ≤ sizeLine; decide), fun L1 hL1 => ?_⟩
      have e1 : (upd H1 L1 (.lst [.str (nodeOf t).1])) L1 = some (.lst [.str (nodeOf t).1]) := upd_same
      have s2 := Same.trans s1 (Same.new (o := .lst [.str (nodeOf t).1]) hL1)
      have hL1H : H L1 = none := by
        cases q : H L1 with
        | none => rfl
        | some o => rw [s1 _ _ q] at hL1; cases hL1
      generalize upd H1 L1 (.lst [.str (nodeOf t).1]) = H2 at e1 s2 ⊢
      repeat ((try simp only [List.set_cons_zero, List.set_cons_succ]); (first | with_reducible refine iteF ?_ | with_reducible refine iteT ?_ | with_reducible refine ite_no (by decide +kernel) ?_ | with_reducible refine ite_yes (by decide +kernel) ?_ | (fail_if_success (with_reducible refine ite2 ?_ ?_)); (first | refine ⟨_, rfl, ?_⟩ | refine ⟨_, _, rfl, rfl, ?_⟩ | refine ⟨rfl, _, rfl, ?_⟩ | refine ⟨_, _, rfl, ?_⟩ | refine ⟨_, _, _, rfl, ?_⟩ | refine ⟨rfl, ?_⟩ | with_reducible refine And.intro (by (try dsimp only [CDiv, CMul]); omega) ?_)))
      refine ⟨(by show 0 ≤ sizeLine; decide), fun L2 hL2 => ?_⟩
      have hL2H : H L2 = none := by
        cases q : H L2 with
        | none => rfl
        | some o => rw [s2 _ _ q] at hL2; cases hL2
      have n12 : L1 ≠ L2 := ne_of_none e1 hL2
      have e2 : (upd H2 L2 (.lst [])) L1 = some (.lst [.str (nodeOf t).1]) := by rw [upd_ne n12]; exact e1
      have e3 : (upd H2 L2 (.lst [])) L2 = some (.lst []) := upd_same
      have s3 := Same.trans s2 (Same.new (o := .lst []) hL2)
      generalize upd H2 L2 (.lst []) = H3 at e2 e3 s3 ⊢
      have hp3 := s3 _ _ hp
      -- for arm in tree[1:]
      refine ⟨_, rfl, 1, rfl, p, _, rfl, SqT.of hp3, ?_, fun ps hps => ⟨ps, rfl, ⟨us, ?_⟩, ?_⟩⟩
      · rintro ⟨h, _⟩
        rw [List.length_cons, sIx_one] at h
        exact absurd h (by decide)
      · rw [cut_tail]
        exact SqT.of upd_same
      rw [cut_tail]
      have hps4 : (upd H3 ps (.tup us)) ps = some (.tup us) := upd_same
      have s4 := Same.trans s3 (Same.new (o := .tup us) hps)
      have n13 : L1 ≠ ps := ne_of_none e2 hps
      have n23 : L2 ≠ ps := ne_of_none e3 hps
      have f1 : (upd H3 ps (.tup us)) L1 = some (.lst [.str (nodeOf t).1]) := by rw [upd_ne n13]; exact e2
      have f2 : (upd H3 ps (.tup us)) L2 = some (.lst []) := by rw [upd_ne n23]; exact e3
      generalize upd H3 ps (.tup us) = H4 at hps4 s4 f1 f2 ⊢
      have hz2 : (nodeOf t).2.length ≤ 2 := by omega
      refine for_tup (K := K) (a := ps) (xs := us) (fun i σ H' => ∃ (a7 a8 a9 a10 : Option V) (P0 : Nat) (rs : List V), σ = [some (.ref p), some (.int (e : Int)), some (.int ((nodeOf t).2.length : Int)), none, some (.ref L1), some (.int (P0 : Int)), some (.ref L2), a7, a8, a9, a10] ∧
          P0 = 1 + (((nodeOf t).2.take i).map partsOf).sum ∧ rs.length = i ∧ Same H H' ∧ H' ps = some (.tup us) ∧ H' L1 = some (.lst (.str (nodeOf t).1 :: rs)) ∧ H' L2 = some (.lst (((nodeOf t).2.take i).map fun s => V.int (sizeOf s : Int))) ∧
          ∀ (j : Nat) (u : V) (s : Tree), rs[j]? = some u → (nodeOf t).2[j]? = some s → TrAt H' (norm s) u)
        ⟨none, none, none, none, 1, [], rfl, rfl, rfl, s4, hps4, f1, f2, fun j u s q => by simp at q⟩ (fun i σ H' _ h => by
          obtain ⟨_, _, _, _, _, _, _, _, _, _, h, _⟩ := h
          exact SqT.of h) ?_ ?_
      · rintro i x σ H5 hx ⟨a7, a8, a9, a10, P0, rs, rfl, hP, hl5, s5, hps5, g1, g2, g3⟩
        have hi : i < us.length := (List.getElem?_eq_some_iff.mp hx).1
        have hi2 : i < (nodeOf t).2.length := by omega
        have hs : (nodeOf t).2[i]? = some (nodeOf t).2[i] := List.getElem?_eq_getElem hi2
        have hsm : (nodeOf t).2[i] ∈ (nodeOf t).2 := List.getElem_mem hi2
        have htk : (nodeOf t).2.take (i + 1) = (nodeOf t).2.take i ++ [(nodeOf t).2[i]] := by rw [List.take_succ, hs]; rfl
        have hsum : (((nodeOf t).2.take (i + 1)).map partsOf).sum = (((nodeOf t).2.take i).map partsOf).sum + partsOf (nodeOf t).2[i] := by
          rw [htk, List.map_append, List.sum_append]
          rfl
        have hle : (((nodeOf t).2.take (i + 1)).map partsOf).sum ≤ ((nodeOf t).2.map partsOf).sum := by
          rw [List.map_take]
          exact sum_take_le _ _
        obtain ⟨ok1, sz1, dp1⟩ := hok _ hsm
        have hTx := (hat i x _ hx hs).keep (Same.tups s5)
        generalize (nodeOf t).2[i] = r at *
        repeat ((try simp only [List.set_cons_zero, List.set_cons_succ]); (first | with_reducible refine iteF ?_ | with_reducible refine iteT ?_ | with_reducible refine ite_no (by decide +kernel) ?_ | with_reducible refine ite_yes (by decide +kernel) ?_ | (fail_if_success (with_reducible refine ite2 ?_ ?_)); (first | refine ⟨_, rfl, ?_⟩ | refine ⟨_, _, rfl, rfl, ?_⟩ | refine ⟨rfl, _, rfl, ?_⟩ | refine ⟨_, _, rfl, ?_⟩ | refine ⟨_, _, _, rfl, ?_⟩ | refine ⟨rfl, ?_⟩ | with_reducible refine And.intro (by (try dsimp only [CDiv, CMul]); omega) ?_)))
        refine ⟨by omega, x, r, e + 1, rfl, hTx, by have := hj (depth r) (by omega); omega, ok1, by omega, by omega, fun p6 u6 H6 s6 hu6 hp6 => ?_⟩
        refine ⟨p6, _, rfl, SqT.of hp6, rfl, ?_⟩
        repeat ((try simp only [List.set_cons_zero, List.set_cons_succ]); (first | with_reducible refine iteF ?_ | with_reducible refine iteT ?_ | with_reducible refine ite_no (by decide +kernel) ?_ | with_reducible refine ite_yes (by decide +kernel) ?_ | (fail_if_success (with_reducible refine ite2 ?_ ?_)); (first | refine ⟨_, rfl, ?_⟩ | refine ⟨_, _, rfl, rfl, ?_⟩ | refine ⟨rfl, _, rfl, ?_⟩ | refine ⟨_, _, rfl, ?_⟩ | refine ⟨_, _, _, rfl, ?_⟩ | refine ⟨rfl, ?_⟩ | with_reducible refine And.intro (by (try dsimp only [CDiv, CMul]); omega) ?_)))
        refine ⟨.inl ⟨rfl, _, SqL.of (s6 _ _ g1)⟩, ?_⟩
        repeat ((try simp only [List.set_cons_zero, List.set_cons_succ]); (first | with_reducible refine iteF ?_ | with_reducible refine iteT ?_ | with_reducible refine ite_no (by decide +kernel) ?_ | with_reducible refine ite_yes (by decide +kernel) ?_ | (fail_if_success (with_reducible refine ite2 ?_ ?_)); (first | refine ⟨_, rfl, ?_⟩ | refine ⟨_, _, rfl, rfl, ?_⟩ | refine ⟨rfl, _, rfl, ?_⟩ | refine ⟨_, _, rfl, ?_⟩ | refine ⟨_, _, _, rfl, ?_⟩ | refine ⟨rfl, ?_⟩ | with_reducible refine And.intro (by (try dsimp only [CDiv, CMul]); omega) ?_)))
        refine ⟨L1, _, _, rfl, rfl, s6 _ _ g1, szlt (by simp only [List.length_cons, hl5]; omega), ?_⟩
        have g2' : (upd H6 L1 (.lst (.str (nodeOf t).1 :: rs ++ [u6]))) L2 = some (.lst (((nodeOf t).2.take i).map fun s => V.int (sizeOf s : Int))) := by rw [upd_ne (Ne.symm n12)]; exact s6 _ _ g2
        repeat ((try simp only [List.set_cons_zero, List.set_cons_succ]); (first | with_reducible refine iteF ?_ | with_reducible refine iteT ?_ | with_reducible refine ite_no (by decide +kernel) ?_ | with_reducible refine ite_yes (by decide +kernel) ?_ | (fail_if_success (with_reducible refine ite2 ?_ ?_)); (first | refine ⟨_, rfl, ?_⟩ | refine ⟨_, _, rfl, rfl, ?_⟩ | refine ⟨rfl, _, rfl, ?_⟩ | refine ⟨_, _, rfl, ?_⟩ | refine ⟨_, _, _, rfl, ?_⟩ | refine ⟨rfl, ?_⟩ | with_reducible refine And.intro (by (try dsimp only [CDiv, CMul]); omega) ?_)))
        refine ⟨.inl ⟨rfl, _, SqL.of g2'⟩, ?_⟩
        repeat ((try simp only [List.set_cons_zero, List.set_cons_succ]); (first | with_reducible refine iteF ?_ | with_reducible refine iteT ?_ | with_reducible refine ite_no (by decide +kernel) ?_ | with_reducible refine ite_yes (by decide +kernel) ?_ | (fail_if_success (with_reducible refine ite2 ?_ ?_)); (first | refine ⟨_, rfl, ?_⟩ | refine ⟨_, _, rfl, rfl, ?_⟩ | refine ⟨rfl, _, rfl, ?_⟩ | refine ⟨_, _, rfl, ?_⟩ | refine ⟨_, _, _, rfl, ?_⟩ | refine ⟨rfl, ?_⟩ | with_reducible refine And.intro (by (try dsimp only [CDiv, CMul]); omega) ?_)))
        refine ⟨L2, _, _, rfl, rfl, g2', szlt (by rw [List.length_map, List.length_take]; omega), ?_⟩
        repeat ((try simp only [List.set_cons_zero, List.set_cons_succ]); (first | with_reducible refine iteF ?_ | with_reducible refine iteT ?_ | with_reducible refine ite_no (by decide +kernel) ?_ | with_reducible refine ite_yes (by decide +kernel) ?_ | (fail_if_success (with_reducible refine ite2 ?_ ?_)); (first | refine ⟨_, rfl, ?_⟩ | refine ⟨_, _, rfl, rfl, ?_⟩ | refine ⟨rfl, _, rfl, ?_⟩ | refine ⟨_, _, rfl, ?_⟩ | refine ⟨_, _, _, rfl, ?_⟩ | refine ⟨rfl, ?_⟩ | with_reducible refine And.intro (by (try dsimp only [CDiv, CMul]); omega) ?_)))
        have tt : TupSub H6 (upd (upd H6 L1 (.lst (.str (nodeOf t).1 :: rs ++ [u6]))) L2 (.lst ((((nodeOf t).2.take i).map fun s => V.int (sizeOf s : Int)) ++ [.int (sizeOf r : Int)]))) :=
          (TupSub.put fun xs e => by rw [s6 _ _ g1] at e; cases e).trans (TupSub.put fun xs e => by rw [g2'] at e; cases e)
        refine ⟨congrArg (fun b => [V.bl b]) (decide_eq_true (show (P0 : Int) + (partsOf r : Int) ≤ 12 by omega)), _, _, _, _, P0 + partsOf r, rs ++ [u6], rfl, by omega, by rw [List.length_append, hl5]; rfl, Same.put (Same.put (Same.trans s5 s6) hL1H) hL2H, ?_, ?_, ?_, ?_⟩
        · exact tt _ _ (s6 _ _ hps5)
        · rw [upd_ne n12, upd_same]
          rfl
        · rw [upd_same, htk, List.map_append]
          rfl
        · intro j u s q1 q2
          by_cases hj : j < rs.length
          · rw [List.getElem?_append_left hj] at q1
            exact ((g3 j u s q1 q2).keep (Same.tups s6)).keep tt
          · have hj2 : j = i := by
              have := (List.getElem?_eq_some_iff.mp q1).1
              rw [List.length_append] at this
              simp only [List.length_singleton] at this
              omega
            subst hj2
            rw [hs] at q2
            cases q2
            rw [List.getElem?_append_right (by omega), hl5, Nat.sub_self] at q1
            cases q1
            exact hu6.keep tt
      · rintro σ H5 ⟨a7, a8, a9, a10, P0, rs, rfl, hP, hl5, s5, hps5, g1, g2, g3⟩
        have hp5 := s5 _ _ hp
        rw [List.take_of_length_le (by omega)] at hP g2
        rw [hus] at hl5
        obtain rfl : P0 = partsOf t := by omega
        cases t with
        | double r =>
          dsimp only [nodeOf] at *
          have z1 : sizeOf r ≤ 60 := ok.2
          refine ⟨_, rfl, _, _, _, _, rfl, rfl, SqT.of hp5, h0, ?_⟩
          refine ⟨rfl, _, rfl, ite_yes (by decide +kernel) ?_⟩
          refine ⟨_, rfl, _, _, _, _, rfl, rfl, SqL.of g2, rfl, ?_⟩
          refine ⟨_, _, rfl, rfl, (by dsimp only [CMul]; omega), ?_⟩
          refine ⟨_, _, rfl, rfl, ?_⟩
          refine ⟨_, rfl, _, _, rfl, rfl, ?_⟩
          refine ⟨congrArg (fun b => [V.bl b]) (decide_eq_true ?_), ?_⟩
          · show 2 * (sizeOf r : Int) + 1 ≤ _; omega
          repeat ((try simp only [List.set_cons_zero, List.set_cons_succ]); (first | with_reducible refine iteF ?_ | with_reducible refine iteT ?_ | with_reducible refine ite_no (by decide +kernel) ?_ | with_reducible refine ite_yes (by decide +kernel) ?_ | (fail_if_success (with_reducible refine ite2 ?_ ?_)); (first | refine ⟨_, rfl, ?_⟩ | refine ⟨_, _, rfl, rfl, ?_⟩ | refine ⟨rfl, _, rfl, ?_⟩ | refine ⟨_, _, rfl, ?_⟩ | refine ⟨_, _, _, rfl, ?_⟩ | refine ⟨rfl, ?_⟩ | with_reducible refine And.intro (by (try dsimp only [CDiv, CMul]); omega) ?_)))
          refine ⟨L1, _, rfl, .inl ⟨SqL.of g1, fun p6 hp6 => ?_⟩⟩
          repeat ((try simp only [List.set_cons_zero, List.set_cons_succ]); (first | with_reducible refine iteF ?_ | with_reducible refine iteT ?_ | with_reducible refine ite_no (by decide +kernel) ?_ | with_reducible refine ite_yes (by decide +kernel) ?_ | (fail_if_success (with_reducible refine ite2 ?_ ?_)); (first | refine ⟨_, rfl, ?_⟩ | refine ⟨_, _, rfl, rfl, ?_⟩ | refine ⟨rfl, _, rfl, ?_⟩ | refine ⟨_, _, rfl, ?_⟩ | refine ⟨_, _, _, rfl, ?_⟩ | refine ⟨rfl, ?_⟩ | with_reducible refine And.intro (by (try dsimp only [CDiv, CMul]); omega) ?_)))
          refine ⟨(by show 3 ≤ sizeLine; decide), fun p7 hp7 => ?_⟩
          have sA := Same.new (o := .tup (.str "double" :: rs)) hp6
          have sB := Same.new (o := .tup [.ref p6, .int (partsOf (.double r) : Int), .int (2 * (sizeOf r : Int) + 1)]) hp7
          refine q p7 (.ref p6) _ (Same.trans s5 (Same.trans sA sB)) ?_ ?_
          · exact node_mk (t := .double r) rfl (sB _ _ upd_same) hl5 fun j u s q1 q2 => ((g3 j u s q1 q2).keep (Same.tups sA)).keep (Same.tups sB)
          · rw [upd_same]
            rfl
        | product r r2 =>
          dsimp only [nodeOf] at *
          have z1 : sizeOf r * sizeOf r2 ≤ 60 * 60 := Nat.mul_le_mul ok.2.2.1 ok.2.2.2
          have z2 : sizeOf r ≤ 60 := ok.2.2.1
          have z3 : sizeOf r2 ≤ 60 := ok.2.2.2
          repeat ((try simp only [List.set_cons_zero, List.set_cons_succ]); (first | with_reducible refine iteF ?_ | with_reducible refine iteT ?_ | with_reducible refine ite_no (by decide +kernel) ?_ | with_reducible refine ite_yes (by decide +kernel) ?_ | (fail_if_success (with_reducible refine ite2 ?_ ?_)); (first | refine ⟨_, rfl, ?_⟩ | refine ⟨_, _, rfl, rfl, ?_⟩ | refine ⟨rfl, _, rfl, ?_⟩ | refine ⟨_, _, rfl, ?_⟩ | refine ⟨_, _, _, rfl, ?_⟩ | refine ⟨_, _, _, _, rfl, rfl, SqT.of hp5, h0, ?_⟩ | refine ⟨_, _, _, _, rfl, rfl, SqL.of g2, rfl, ?_⟩ | refine ⟨rfl, ?_⟩ | with_reducible refine And.intro (by (try dsimp only [CDiv, CMul]); omega) ?_)))
          refine ⟨congrArg (fun b => [V.bl b]) (decide_eq_true ?_), ?_⟩
          · show (sizeOf r : Int) * (sizeOf r2 : Int) ≤ _; rw [← Int.natCast_mul]; omega
          repeat ((try simp only [List.set_cons_zero, List.set_cons_succ]); (first | with_reducible refine iteF ?_ | with_reducible refine iteT ?_ | with_reducible refine ite_no (by decide +kernel) ?_ | with_reducible refine ite_yes (by decide +kernel) ?_ | (fail_if_success (with_reducible refine ite2 ?_ ?_)); (first | refine ⟨_, rfl, ?_⟩ | refine ⟨_, _, rfl, rfl, ?_⟩ | refine ⟨rfl, _, rfl, ?_⟩ | refine ⟨_, _, rfl, ?_⟩ | refine ⟨_, _, _, rfl, ?_⟩ | refine ⟨rfl, ?_⟩ | with_reducible refine And.intro (by (try dsimp only [CDiv, CMul]); omega) ?_)))
          refine ⟨L1, _, rfl, .inl ⟨SqL.of g1, fun p6 hp6 => ?_⟩⟩
          repeat ((try simp only [List.set_cons_zero, List.set_cons_succ]); (first | with_reducible refine iteF ?_ | with_reducible refine iteT ?_ | with_reducible refine ite_no (by decide +kernel) ?_ | with_reducible refine ite_yes (by decide +kernel) ?_ | (fail_if_success (with_reducible refine ite2 ?_ ?_)); (first | refine ⟨_, rfl, ?_⟩ | refine ⟨_, _, rfl, rfl, ?_⟩ | refine ⟨rfl, _, rfl, ?_⟩ | refine ⟨_, _, rfl, ?_⟩ | refine ⟨_, _, _, rfl, ?_⟩ | refine ⟨rfl, ?_⟩ | with_reducible refine And.intro (by (try dsimp only [CDiv, CMul]); omega) ?_)))
          refine ⟨(by show 3 ≤ sizeLine; decide), fun p7 hp7 => ?_⟩
          have sA := Same.new (o := .tup (.str "product" :: rs)) hp6
          have sB := Same.new (o := .tup [.ref p6, .int (partsOf (.product r r2) : Int), .int ((sizeOf r : Int) * (sizeOf r2 : Int))]) hp7
          refine q p7 (.ref p6) _ (Same.trans s5 (Same.trans sA sB)) ?_ ?_
          · exact node_mk (t := .product r r2) rfl (sB _ _ upd_same) hl5 fun j u s q1 q2 => ((g3 j u s q1 q2).keep (Same.tups sA)).keep (Same.tups sB)
          · rw [upd_same]
            rfl
        | _ => cases hl
end
end PK
end

section
namespace PK
open PySem PySem.Spec PyProof.Rows L2
/-- a comprehension over range(n), its values known -/
theorem lc_rngV {n i : Nat} {te : TE} {σ : L2.St} {H1 : Hp} {D : Addr} {Qd : Hp → Prop} (gv : Nat → V) (hD : H1 D = none) (hz : n ≤ 1000)
    (hs : ∀ k H2, k < n → Same H1 H2 → ∀ q : VK, (∀ H3, Same H2 H3 → q (gv k) H3) → te ((wipe σ [i]).set i (some (.int ((k : Nat) : Int)))) H2 q) (hw : ∀ x, wipe ((wipe σ [i]).set i (some x)) [i] = wipe σ [i])
    (hd : ∀ H2, Same H1 H2 → H2 D = some (.lst ((List.range n).map gv)) → Qd H2) :
    ∃ W : Nat → Nat → Hp → Prop, (∃ m, W 0 m (upd H1 D (.lst []))) ∧ ∀ i' m H, W i' m H →
      ((Itr 0 n).stop i' H ∧ Qd H) ∨ ((Itr 0 n).go i' H ∧ ∃ Nx : Hp → Prop, (∀ H', Nx H' → ∃ m', m' < m ∧ W (i' + 1) m' H') ∧ ∀ x H', (Itr 0 n).yld i' H x H' → gName i x (wipe σ [i]) H' fun σ2 H2 => wipe σ2 [i] = wipe σ [i] ∧ tYes σ2 H2 fun b H3 =>
        if b = true then te σ2 H3 fun y H4 => ∃ acc, H4 D = some (.lst acc) ∧ acc.length < sizeLine ∧ Nx (upd H4 D (.lst (acc ++ [y]))) else Nx H3) := by
  refine lc_range (fun j H2 => Same H1 H2 ∧ H2 D = some (.lst ((List.range j).map gv))) ⟨Same.new hD, upd_same⟩ ?_ fun H2 h => hd H2 h.1 h.2
  rintro j H2 hj ⟨s1, h2⟩
  refine ⟨hw _, ?_⟩
  show te ((wipe σ [i]).set i (some (.int (0 + ((j : Nat) : Int))))) H2 _
  rw [Int.zero_add]
  refine hs j H2 hj s1 _ fun H3 s3 => ⟨_, s3 _ _ h2, ?_, Same.put (Same.trans s1 s3) hD, ?_⟩
  · rw [List.length_map, List.length_range]
    exact szlt (by omega)
  · rw [upd_same, List.range_succ, List.map_append]
    rfl
theorem parts0 : ∀ t : Tree, depth t ≤ 0 → partsOf t = 1
  | .bose _, _ => rfl
  | .skolem _, _ => rfl
  | .affine _, _ => rfl
  | .binary _, _ => rfl
  | .listed _ _, _ => rfl
  | .double t, h => absurd h (Nat.not_succ_le_zero _)
  | .product s t, h => absurd h (Nat.not_succ_le_zero _)
theorem parts1 {t : Tree} (h : depth t ≤ 1) : partsOf t ≤ 3 := by
  cases t with
  | double t =>
    have h : depth t + 1 ≤ 1 := h
    have := parts0 t (by omega)
    show 1 + partsOf t ≤ 3
    omega
  | product s t =>
    have h : max (depth s) (depth t) + 1 ≤ 1 := h
    have := parts0 t (by omega)
    have := parts0 s (by omega)
    show 1 + partsOf s + partsOf t ≤ 3
    omega
  | _ => exact (by decide : 1 ≤ 3)
section
variable {P : Program} {w : World} {K : PySem.W.Frag} {mg : Str → Option Value} {base : Heap}
theorem fcP_checked_part (T : Txt w K mg) : ∀ d : Nat, FcP P w K mg base (d + 4) (spPart d)
  | 0 => part_turn (k := 3) T (by decide) (by decide) fun _ h => nomatch h
  | d + 1 => part_turn (k := d + 4) T (by omega) (by omega) fun j h => by
    obtain rfl : d = j := Nat.succ.inj h
    exact fcP_checked_part T d
theorem sc_checked : FnScope ["tree"] ["tree"] (defScope s_checked) := ⟨rfl, rfl, rfl, by decide +kernel, rfl, by decide +kernel, by decide +kernel⟩
def spChecked : Sp := fun vs H Q _ => ∃ v t, vs = [v] ∧ TrAt H t v ∧ depth t ≤ 1 ∧ okT t ∧ ∀ u H', Same H H' → TrAt H' (norm t) u → Q u H'
theorem fc_checked (T : Txt w K mg) : Fc P w K mg base 6 "checked" ["tree"] spChecked := by
  have F_checked_part := fcP_checked_part (P := P) (base := base) T 1
  refine mk_fc T.d_checked sc_checked (fun _ _ _ _ _ _ us hl => match us, hl with | [_], _ => rfl) (fun vs H Q E h => ?_) (fun f cdv A outer s H vs Q E hr h => ?_)
  · obtain ⟨v, t, rfl, _⟩ := h
    rfl
  · obtain ⟨v, t, rfl, hT, hd, ok, q⟩ := h
    refine ⟨_, (pss_one (ps_ret (pe_ix ix_tup (pe_fcP F_checked_part hr rfl (pa_cons (pv 0) pa_nil) (Nat.le_refl _)) pe_int (fun _ _ => rfl)))), ?_⟩
    refine st_is (σ := [some _]) rfl ?_
    refine ⟨_, rfl, v, t, 1, rfl, hT, hd, ok, by omega, by have := parts1 hd; omega, fun p u H1 s1 hu hp => ?_⟩
    exact ⟨_, _, _, _, rfl, rfl, SqT.of hp, rfl, q u H1 s1 hu⟩
theorem sc_table_of : FnScope ["tree", "whole", "count", "b", "a"] ["tree"] (defScope s_table_of) := ⟨rfl, rfl, rfl, by decide +kernel, rfl, by decide +kernel, by decide +kernel⟩
def spTable : Sp := fun vs H Q _ => ∃ v t n f, vs = [v] ∧ TrAt H t v ∧ Sys t n f ∧ Sts n f ∧ n ≤ 60 ∧ ∀ u H', Same H H' → TblAt H' u n f → Q u H'
theorem fc_table_of (T : Txt w K mg) : Fc P w K mg base 8 "table_of" ["tree"] spTable := by
  have F_checked := fc_checked (P := P) (base := base) T
  have F_size_of := fc_size_of (P := P) (base := base) T 1
  have F_both := fc_both T (fc_third_of (P := P) (base := base) T 1)
  refine mk_fc T.d_table_of sc_table_of (fun _ _ _ _ _ _ us hl => match us, hl with | [_], _ => rfl) (fun vs H Q E h => ?_) (fun f cdv A outer s H vs Q E hr h => ?_)
  · obtain ⟨v, t, n, f, rfl, _⟩ := h
    rfl
  · obtain ⟨v, t, n, f, rfl, hT, S, St, hn, q⟩ := h
    obtain ⟨_, hMOST_SMALL⟩ := T.i_MOST_SMALL
    refine ⟨_, (pss_cons (ps_set (i := 1) sc_table_of.nd rfl (Or.inr rfl) (pe_fc F_checked hr rfl (pa_cons (pv 0) pa_nil)))
      (pss_cons (ps_set (i := 2) sc_table_of.nd rfl (Or.inr rfl) (pe_fc F_size_of hr rfl (pa_cons (pv 1) pa_nil)))
      (pss_cons (ps_if (pt_cmpR op_gt (pv 2) (pe_glob (v := .int 60) rfl hMOST_SMALL ⟨_, rfl⟩) (nomark _)) (pss_one ps_never) pss_nil)
      (pss_one (ps_ret (pe_lc (own := [("a", 4)]) (g := gName 4) (tt := tYes) rfl sc_table_of.nd (pi_range1 (by rfl) T.n_range (pa_cons (pv 2) pa_nil)) (blkOk_by (by kernel_rfl)) (fun _ _ _ _ _ => (pg_name (i := 4) sc_table_of.nd rfl (Or.inr rfl))) (fun _ _ _ _ _ => pts_nil) (fun _ _ _ _ _ => (pe_lc (own := [("b", 3)]) (g := gName 3) (tt := tYes) rfl sc_table_of.nd (pi_range1 (by rfl) T.n_range (pa_cons (pv 2) pa_nil)) (blkOk_by (by kernel_rfl)) (fun _ _ _ _ _ => (pg_name (i := 3) sc_table_of.nd rfl (Or.inl rfl))) (fun _ _ _ _ _ => pts_nil) (fun _ _ _ _ _ => (pe_fc F_both hr rfl (pa_cons (pv 1) (pa_cons (pv 4) (pa_cons (pv 3) pa_nil))) (by decide))))))))))), ?_⟩
    refine st_is (σ := [some _, none, none, none, none]) rfl ?_
    have hd1 : depth (norm t) ≤ 1 := by rw [depth_norm]; exact S.dep
    have hbd := bd_norm (bd_of S.ok)
    refine ⟨_, rfl, v, t, rfl, hT, S.dep, S.ok, fun u H1 s1 hu => ?_⟩
    refine ⟨_, rfl, u, norm t, rfl, hu, hd1, hbd, ?_⟩
    rw [size_norm, S.size]
    repeat ((try simp only [List.set_cons_zero, List.set_cons_succ]); (first | with_reducible refine iteF ?_ | with_reducible refine iteT ?_ | with_reducible refine ite_no (by decide +kernel) ?_ | with_reducible refine ite_yes (by decide +kernel) ?_ | (fail_if_success (with_reducible refine ite2 ?_ ?_)); (first | refine ⟨_, rfl, ?_⟩ | refine ⟨_, _, rfl, rfl, ?_⟩ | refine ⟨rfl, _, rfl, ?_⟩ | refine ⟨_, _, rfl, ?_⟩ | refine ⟨_, _, _, rfl, ?_⟩ | refine ⟨rfl, ?_⟩ | with_reducible refine And.intro (by (try dsimp only [CDiv, CMul]); omega) ?_)))
    refine ite_no (decide_eq_false (by omega)) ?_
    refine ⟨_, rfl, n, rfl, by omega, by omega, fun D hD => ?_⟩
    refine lc_range (n := n) (fun j H2 => ∃ rs : List Addr, Same H1 H2 ∧ H2 D = some (.lst (rs.map V.ref)) ∧ rs.length = j ∧ ∀ (a : Nat) (r : Addr), rs[a]? = some r → r ≠ D ∧ H2 r = some (.lst (rowV n f a)))
      ⟨[], Same.new hD, upd_same, rfl, fun a r e => by simp at e⟩ ?_ ?_
    · rintro j H2 hj ⟨rs, s2, d2, l2, g2⟩
      rw [Int.zero_add]
      refine ⟨rfl, ?_⟩
      refine ⟨_, rfl, n, rfl, by omega, by omega, fun D2 hD2 => ?_⟩
      refine lc_rngV (n := n) (fun b => V.int ((f j b : Nat) : Int)) hD2 (by omega) (fun k H3 hk s3 qq hq => ?_) (fun _ => rfl) fun H3 s3 h3 => ?_
      · refine ⟨_, rfl, _, rfl, _, rfl, u, norm t, (j : Int), (k : Int), ((f j k : Nat) : Int), rfl, (hu.keep (Same.tups s2)).keep (Same.tups s3), hd1, hbd, ?_, hq⟩
        unfold bothOf
        by_cases e : j = k
        · subst e
          rw [if_pos rfl, St.idem j hj]
        · rw [if_neg (by omega)]
          exact S.third j k hj hk e
      · have nD : D ≠ D2 := ne_of_none d2 hD2
        refine ⟨_, s3 _ _ d2, ?_, rs ++ [D2], Same.put (Same.trans s2 s3) hD, ?_, ?_, ?_⟩
        · rw [List.length_map]
          exact szlt (by omega)
        · rw [upd_same, List.map_append]
          rfl
        · rw [List.length_append, l2]
          rfl
        · intro a r e
          by_cases ha : a < rs.length
          · rw [List.getElem?_append_left ha] at e
            obtain ⟨q0, q1⟩ := g2 a r e
            refine ⟨q0, ?_⟩
            rw [upd_ne q0]
            exact s3 _ _ q1
          · have ha2 : a = j := by
              have := (List.getElem?_eq_some_iff.mp e).1
              rw [List.length_append] at this
              simp only [List.length_singleton] at this
              omega
            subst ha2
            rw [List.getElem?_append_right (by omega), l2, Nat.sub_self] at e
            cases e
            refine ⟨Ne.symm nD, ?_⟩
            rw [upd_ne (Ne.symm nD)]
            exact h3
    · rintro H2 ⟨rs, s2, d2, l2, g2⟩
      exact q _ _ (Same.trans s1 s2) ⟨D, rs, rfl, d2, l2, fun a r e => (g2 a r e).2⟩
end
end PK
end

section
namespace PK
open PySem PySem.Spec PyProof.Rows L2
/-- a list of pairs -/
def PrsAt (H : Hp) (D : Addr) (ps : List (Nat × Nat)) : Prop :=
  ∃ rs : List Addr, H D = some (.lst (rs.map V.ref)) ∧ rs.length = ps.length ∧ ∀ (k : Nat) (r : Addr) (p : Nat × Nat), rs[k]? = some r → ps[k]? = some p → H r = some (.tup [.int (p.1 : Int), .int (p.2 : Int)])
theorem PrsAt.same {H H' : Hp} {D : Addr} {ps : List (Nat × Nat)} (h : PrsAt H D ps) (s : Same H H') : PrsAt H' D ps := by
  obtain ⟨rs, h1, h2, h3⟩ := h
  exact ⟨rs, s _ _ h1, h2, fun k r p e1 e2 => s _ _ (h3 k r p e1 e2)⟩
/-- one more pair at the end -/
theorem PrsAt.push {H H' : Hp} {D p : Addr} {ps : List (Nat × Nat)} {rs : List Addr} {a b : Nat} (h1 : H D = some (.lst (rs.map V.ref))) (h2 : rs.length = ps.length)
    (h3 : ∀ (k : Nat) (r : Addr) (p : Nat × Nat), rs[k]? = some r → ps[k]? = some p → H r = some (.tup [.int (p.1 : Int), .int (p.2 : Int)])) (hp : H p = none) (s : Same (upd H p (.tup [.int (a : Int), .int (b : Int)])) H') :
    PrsAt (upd H' D (.lst (rs.map V.ref ++ [.ref p]))) D (ps ++ [(a, b)]) := by
  have nDp : D ≠ p := ne_of_none h1 hp
  have hD' : H' D = some (.lst (rs.map V.ref)) := s _ _ (by rw [upd_ne nDp]; exact h1)
  have tt : TupSub H' (upd H' D (.lst (rs.map V.ref ++ [.ref p]))) := TupSub.put fun xs e => by rw [hD'] at e; cases e
  refine ⟨rs ++ [p], ?_, ?_, fun k r q e1 e2 => ?_⟩
  · rw [upd_same, List.map_append]
    rfl
  · rw [List.length_append, List.length_append, h2]
    rfl
  · by_cases hk : k < rs.length
    · rw [List.getElem?_append_left hk] at e1
      rw [List.getElem?_append_left (by omega)] at e2
      exact tt _ _ (s _ _ (Same.new hp _ _ (h3 k r q e1 e2)))
    · have hk2 : k = rs.length := by
        have := (List.getElem?_eq_some_iff.mp e1).1
        rw [List.length_append] at this
        simp only [List.length_singleton] at this
        omega
      subst hk2
      rw [List.getElem?_append_right (by omega), Nat.sub_self] at e1
      rw [h2, List.getElem?_append_right (by omega), Nat.sub_self] at e2
      cases e1
      cases e2
      exact tt _ _ (s _ _ upd_same)
theorem cut_upto (xs : List V) {k : Nat} (h : k ≤ xs.length) : cutV xs none (some (k : Int)) = xs.take k := by
  unfold cutV
  rw [HT.sIx_none, HT.sIx_nat]
  simp [Nat.min_eq_left h]
theorem b2n_int {a b : Nat} : (if decide (V.int ((a : Nat) : Int) = V.int ((b : Nat) : Int)) = true then (1 : Int) else 0) = ((b2n (a == b) : Nat) : Int) := by
  by_cases h : a = b
  · subst h
    rw [if_pos (dec_int_eq rfl)]
    simp [b2n]
  · rw [if_neg (by rw [dec_int_ne (by omega)]; decide)]
    simp [b2n, h]
section
variable {P : Program} {w : World} {K : PySem.W.Frag} {mg : Str → Option Value} {base : Heap}
theorem sc_fours_at : FnScope ["table", "point", "pairs", "a", "found", "at", "b", "c", "d"] ["table", "point"] (defScope s_fours_at) := ⟨rfl, rfl, rfl, by decide +kernel, rfl, by decide +kernel, by decide +kernel⟩
def spFoursAt : Sp := fun vs H Q _ => ∃ v p n f, vs = [v, .int ((p : Nat) : Int)] ∧ TblAt H v n f ∧ Sts n f ∧ n ≤ 60 ∧ p < n ∧ ∀ H', Same H H' → Q (.int ((foursAt n f p : Nat) : Int)) H'
theorem fc_fours_at (T : Txt w K mg) : Fc P w K mg base 1 "fours_at" ["table", "point"] spFoursAt := by
  refine mk_fc T.d_fours_at sc_fours_at (fun _ _ _ _ _ _ us hl => match us, hl with | [_, _], _ => rfl) (fun vs H Q E h => ?_) (fun f cdv A outer s H vs Q E hr h => ?_)
  · obtain ⟨v, p, n, f, rfl, _⟩ := h
    rfl
  · obtain ⟨v, p, n, g, rfl, hT, S, hn, hp, q⟩ := h
    refine ⟨_, (pss_cons (ps_setLc (i := 2) (own := [("a", 3)]) (g := gName 3) rfl sc_fours_at.nd rfl rfl (sw_true rfl rfl rfl (by decide +kernel)) (pi_range1 (by rfl) T.n_range (pa_cons (pe_callB call_len_seq (by rfl) T.n_len (by decide +kernel) (pa_cons (pv 0) pa_nil)) pa_nil)) (blkOk_by (by kernel_rfl)) (fun _ _ _ _ _ => (pg_name (i := 3) sc_fours_at.nd rfl (Or.inl rfl))) (fun _ _ _ _ _ => (pts_one (pt_chain op_ne op_lt (pv 1) (pv 3) (pe_ix (r := rIxL K) ix_list (pe_ix (r := rIxL K) ix_list (pv 0) (pv 1) (fun _ _ => rfl)) (pv 3) (fun _ _ => rfl))))) (fun _ _ _ _ _ => (pe_tup (pa_cons (pv 3) (pa_cons (pe_ix (r := rIxL K) ix_list (pe_ix (r := rIxL K) ix_list (pv 0) (pv 1) (fun _ _ => rfl)) (pv 3) (fun _ _ => rfl)) pa_nil)))))
      (pss_cons (ps_set (i := 4) sc_fours_at.nd rfl (Or.inl rfl) pe_int)
      (pss_cons (ps_for PassesOwn.never rfl (pi_enum (by rfl) T.n_enumerate (pa_cons (pv 2) pa_nil)) (pg_tup rfl (pgs_cons (pg_name (i := 5) sc_fours_at.nd rfl (Or.inl rfl)) (pgs_cons (pg_tup rfl (pgs_cons (pg_name (i := 3) sc_fours_at.nd rfl (Or.inl rfl)) (pgs_cons (pg_name (i := 6) sc_fours_at.nd rfl (Or.inl rfl)) pgs_nil))) pgs_nil)))
      (pss_one (ps_for PassesOwn.never rfl (pi_list (pe_slice sl_list (pv 2) po_none (po_some (pv 5)))) (pg_tup rfl (pgs_cons (pg_name (i := 7) sc_fours_at.nd rfl (Or.inl rfl)) (pgs_cons (pg_name (i := 8) sc_fours_at.nd rfl (Or.inl rfl)) pgs_nil)))
        (pss_one (ps_aug (i := 4) sc_fours_at.nd rfl (Or.inl rfl) (pe_op op_add (pe_callTy call_int1 (by rfl) T.n_int (by decide +kernel) (pa_cons (pe_cmpR op_eq (pe_ix ix_list (pe_ix ix_list (pv 0) (pv 3) (fun _ _ => rfl)) (pv 7) (fun _ _ => rfl)) (pe_ix ix_list (pe_ix ix_list (pv 0) (pv 6) (fun _ _ => rfl)) (pv 8) (fun _ _ => rfl)) (nomark _)) pa_nil)) (pe_callTy call_int1 (by rfl) T.n_int (by decide +kernel) (pa_cons (pe_cmpR op_eq (pe_ix ix_list (pe_ix ix_list (pv 0) (pv 3) (fun _ _ => rfl)) (pv 8) (fun _ _ => rfl)) (pe_ix ix_list (pe_ix ix_list (pv 0) (pv 6) (fun _ _ => rfl)) (pv 7) (fun _ _ => rfl)) (nomark _)) pa_nil))) iop_add)))))
      (pss_one (ps_ret (pv 4)))))), ?_⟩
    refine st_is (σ := [some _, some _, none, none, none, none, none, none, none]) rfl ?_
    obtain ⟨vp, vxs, hv, hvl, hvn⟩ := hT.list (K := K)
    refine ⟨_, rfl, vp, _, by rw [hv], .inl hvl, ?_⟩
    rw [hvn]
    refine ⟨n, rfl, by omega, by omega, fun D hD => ?_⟩
    refine lc_range (n := n) (fun j H2 => Same H H2 ∧ PrsAt H2 D (((List.range j).filter fun a => decide (p ≠ a) && decide (a < g p a)).map fun a => (a, g p a))) ⟨Same.new hD, [], upd_same, rfl, fun k r p e => by simp at e⟩ ?_ ?_
    · rintro j H2 hj ⟨s2, rs, d1, d2, d3⟩
      rw [Int.zero_add]
      have hT2 := hT.same s2
      have hgj : g p j < n := S.lt p j hp hj
      refine ⟨rfl, ?_⟩
      refine ⟨_, rfl, _, rfl, rfl, _, rfl, ?_⟩
      have fl : ∀ c : Nat → Bool, (List.range (j + 1)).filter c = (List.range j).filter c ++ if c j = true then [j] else [] := fun c => by
        rw [List.range_succ, List.filter_append]
        by_cases h : c j = true <;> simp [h]
      by_cases hpj : p = j
      · refine ite_no (by rw [dec_int_eq (by rw [hpj])]; rfl) ?_
        refine ⟨false, rfl, ?_⟩
        refine ite_no rfl ?_
        rw [fl, if_neg (by simp [hpj]), List.append_nil]
        exact ⟨s2, rs, d1, d2, d3⟩
      refine ite_yes (by rw [dec_int_ne (by omega)]; rfl) ?_
      refine ⟨_, rfl, _, rfl, hT2.get hp hj (fun q hq => ⟨_, rfl, hq⟩) ?_⟩
      refine ⟨_, _, rfl, rfl, _, rfl, ?_⟩
      by_cases hlt : j < g p j
      · refine ite_yes (decide_eq_true (by omega)) ?_
        refine ⟨_, rfl, _, rfl, _, rfl, hT2.get hp hj (fun q hq => ⟨_, rfl, hq⟩) ?_⟩
        refine ⟨(by show 2 ≤ sizeLine; decide), fun a ha => ?_⟩
        have nDa : D ≠ a := ne_of_none d1 ha
        refine ⟨_, by rw [upd_ne nDa]; exact d1, ?_, ?_, ?_⟩
        · rw [List.length_map, d2, List.length_map]
          have := List.length_filter_le (fun a => decide (p ≠ a) && decide (a < g p a)) (List.range j)
          rw [List.length_range] at this
          exact szlt (by omega)
        · exact Same.put (Same.trans s2 (Same.new ha)) hD
        · rw [fl, if_pos (by simp [hpj, hlt]), List.map_append]
          exact PrsAt.push d1 d2 d3 ha (Same.refl _)
      · refine ite_no (decide_eq_false (by omega)) ?_
        rw [fl, if_neg (by simp [hlt]), List.append_nil]
        exact ⟨s2, rs, d1, d2, d3⟩
    · rintro H1 ⟨s1, hP⟩
      change PrsAt H1 D (pairsAt n g p) at hP
      have hlt := fun {x} (h : x ∈ pairsAt n g p) => pairsAt_lt S hp h
      have hlen : (pairsAt n g p).length ≤ 60 := by
        unfold pairsAt
        rw [List.length_map]
        have := List.length_filter_le (fun a => decide (p ≠ a) && decide (a < g p a)) (List.range n)
        rw [List.length_range] at this
        omega
      unfold foursAt at q
      generalize pairsAt n g p = ps at hP hlt hlen q
      have hT1 := hT.same s1
      obtain ⟨rs, d1, d2, d3⟩ := hP
      repeat ((try simp only [List.set_cons_zero, List.set_cons_succ]); (first | with_reducible refine iteF ?_ | with_reducible refine iteT ?_ | with_reducible refine ite_no (by decide +kernel) ?_ | with_reducible refine ite_yes (by decide +kernel) ?_ | (fail_if_success (with_reducible refine ite2 ?_ ?_)); (first | refine ⟨_, rfl, ?_⟩ | refine ⟨_, _, rfl, rfl, ?_⟩ | refine ⟨rfl, _, rfl, ?_⟩ | refine ⟨_, _, rfl, ?_⟩ | refine ⟨_, _, _, rfl, ?_⟩ | refine ⟨rfl, ?_⟩ | with_reducible refine And.intro (by (try dsimp only [CDiv, CMul]); omega) ?_)))
      refine ⟨D, _, rfl, SqL.of d1, ?_⟩
      refine for_it (n := (rs.map V.ref).length) (walk_enum (K := K)) (fun k σ H' => ∃ a3 a5 a6 a7 a8 : Option V, σ = [some v, some (.int (p : Int)), some (.ref D), a3, some (.int ((pairSum (wt g) (ps.take k) : Nat) : Int)), a5, a6, a7, a8] ∧ Same H1 H')
        ⟨none, none, none, none, none, rfl, Same.refl _⟩ (fun i σ H' _ h => by
          obtain ⟨_, _, _, _, _, _, h⟩ := h
          exact SqL.of (h _ _ d1)) ?_ ?_
      · rintro k x σ H2 H3 hk ⟨a3, a5, a6, a7, a8, rfl, s2⟩ ⟨t, x1, y1, rfl, ht, rfl, e1, e2⟩
        rw [List.length_map, d2] at hk
        cases e1
        have hz : ps[k]? = some ps[k] := List.getElem?_eq_getElem hk
        have hzm : ps[k] ∈ ps := List.getElem_mem hk
        obtain ⟨z1, z2⟩ := hlt hzm
        have e2 : (rs.map V.ref)[k]? = some y1 := e2
        rw [List.getElem?_map] at e2
        obtain ⟨r, hr, rfl⟩ := Option.map_eq_some_iff.mp e2
        have hr2 := s2 _ _ (d3 k r _ hr hz)
        have s3 := Same.new (o := .tup [.int ((k : Nat) : Int), .ref r]) ht
        have htk : ps.take (k + 1) = ps.take k ++ [ps[k]] := by rw [List.take_succ, hz]; rfl
        rw [htk, pairSum_snoc]
        generalize ps[k] = z at *
        refine ⟨t, _, rfl, SqT.of upd_same, rfl, ?_⟩
        refine ⟨_, _, rfl, _, _, rfl, r, _, rfl, SqT.of (s3 _ _ hr2), rfl, _, _, rfl, _, _, rfl, rfl, rfl, ?_⟩
        have d13 := s3 _ _ (s2 _ _ d1)
        refine ⟨_, rfl, _, rfl, _, rfl, D, _, rfl, SqL.of d13, fun S hS => ⟨S, rfl, ⟨_, SqL.of upd_same⟩, ?_⟩⟩
        rw [cut_upto _ (by rw [List.length_map]; omega), ← List.map_take]
        have s4 := Same.trans s3 (Same.new (o := .lst ((rs.take k).map V.ref)) hS)
        have hS4 : (upd (upd H2 t (.tup [.int ((k : Nat) : Int), .ref r])) S (.lst ((rs.take k).map V.ref))) S = some (.lst ((rs.take k).map V.ref)) := upd_same
        generalize upd (upd H2 t (.tup [.int ((k : Nat) : Int), .ref r])) S (.lst ((rs.take k).map V.ref)) = H4 at s4 hS4 ⊢
        refine for_list (K := K) (a := S) (xs := (rs.take k).map V.ref) (fun m σ H' => ∃ a7 a8 : Option V, σ = [some v, some (.int (p : Int)), some (.ref D), some (.int (z.1 : Int)), some (.int ((pairSum (wt g) (ps.take k) + (((ps.take k).take m).map fun y => wt g z y).sum : Nat) : Int)), some (.int ((k : Nat) : Int)), some (.int (z.2 : Int)), a7, a8] ∧ Same H4 H')
          ⟨a7, a8, rfl, Same.refl _⟩ (fun i σ H' _ h => by
            obtain ⟨_, _, _, h⟩ := h
            exact SqL.of (h _ _ hS4)) ?_ ?_
        · rintro m x σ H5 hx ⟨b7, b8, rfl, s5⟩
          rw [List.getElem?_map] at hx
          obtain ⟨r', hr', rfl⟩ := Option.map_eq_some_iff.mp hx
          have hm : m < k := by
            have := (List.getElem?_eq_some_iff.mp hr').1
            rw [List.length_take] at this
            omega
          have hr0 : rs[m]? = some r' := by rw [List.getElem?_take_of_lt hm] at hr'; exact hr'
          have hy : ps[m]? = some ps[m] := List.getElem?_eq_getElem (by omega)
          have hmp : m < ps.length := by omega
          have hym : ps[m] ∈ ps := List.getElem_mem hmp
          obtain ⟨y1, y2⟩ := hlt hym
          have hr5 := s5 _ _ (s4 _ _ (s2 _ _ (d3 m r' _ hr0 hy)))
          have hT5 := ((hT1.same s2).same s4).same s5
          have htk2 : (ps.take k).take (m + 1) = (ps.take k).take m ++ [ps[m]] := by
            rw [List.take_succ, List.getElem?_take_of_lt hm, hy]
            rfl
          rw [htk2, List.map_append, List.sum_append]
          generalize ps[m] = y at *
          rw [show ([y].map fun y => wt g z y).sum = b2n (g z.1 y.1 == g z.2 y.2) + b2n (g z.1 y.2 == g z.2 y.1) by simp [wt], ← Nat.add_assoc]
          refine ⟨r', _, rfl, SqT.of hr5, rfl, _, _, rfl, _, _, rfl, rfl, ?_⟩
          refine ⟨_, rfl, ?_⟩
          refine ⟨_, rfl, _, rfl, hT5.get z1 y1 (fun q hq => ⟨_, rfl, hq⟩) ?_⟩
          refine ⟨_, rfl, _, rfl, hT5.get z2 y2 (fun q hq => ⟨_, rfl, hq⟩) ?_⟩
          refine ⟨rfl, .inr ⟨_, rfl, ?_⟩⟩
          refine ⟨_, rfl, _, rfl, hT5.get z1 y2 (fun q hq => ⟨_, rfl, hq⟩) ?_⟩
          refine ⟨_, rfl, _, rfl, hT5.get z2 y1 (fun q hq => ⟨_, rfl, hq⟩) ?_⟩
          refine ⟨rfl, .inr ⟨_, rfl, ?_⟩⟩
          rw [b2n_int, b2n_int]
          refine ⟨_, _, rfl, rfl, _, _, rfl, rfl, ?_⟩
          exact ⟨some (.int (y.1 : Int)), some (.int (y.2 : Int)), rfl, s5⟩
        · rintro σ H5 ⟨b7, b8, rfl, s5⟩
          rw [List.length_map, List.length_take, d2, Nat.min_eq_left (by omega), List.take_of_length_le (l := ps.take k) (by rw [List.length_take]; omega)]
          exact ⟨_, _, _, _, _, rfl, Same.trans s2 (Same.trans s4 s5)⟩
      · rintro σ H2 ⟨a3, a5, a6, a7, a8, rfl, s2⟩
        rw [List.length_map, List.take_of_length_le (by omega)]
        repeat ((try simp only [List.set_cons_zero, List.set_cons_succ]); (first | with_reducible refine iteF ?_ | with_reducible refine iteT ?_ | with_reducible refine ite_no (by decide +kernel) ?_ | with_reducible refine ite_yes (by decide +kernel) ?_ | (fail_if_success (with_reducible refine ite2 ?_ ?_)); (first | refine ⟨_, rfl, ?_⟩ | refine ⟨_, _, rfl, rfl, ?_⟩ | refine ⟨rfl, _, rfl, ?_⟩ | refine ⟨_, _, rfl, ?_⟩ | refine ⟨_, _, _, rfl, ?_⟩ | refine ⟨rfl, ?_⟩ | with_reducible refine And.intro (by (try dsimp only [CDiv, CMul]); omega) ?_)))
        exact q _ (Same.trans s1 s2)
end
end PK
end

section
namespace PK
open PySem PySem.Spec PyProof.Rows L2
/-! ### dicts with points as keys -/
def kK (x : Nat) : Key := .inl (x : Int)
theorem kK_inj {x y : Nat} (h : kK x = kK y) : x = y := by
  have e : (x : Int) = (y : Int) := Sum.inl.inj h
  omega
def kvT (l : List Nat) : List (Key × V) := l.map fun x => (kK x, .bl true)
theorem valT (x : Nat) : ∀ l : List Nat, valV (kvT l) (kK x) = if x ∈ l then some (.bl true) else none
  | [] => rfl
  | y :: l => by
    by_cases e : y = x
    · subst e
      rw [if_pos (List.mem_cons_self ..)]
      exact valV_pos rfl
    · have e1 : valV (kvT (y :: l)) (kK x) = valV (kvT l) (kK x) := valV_neg (p := (kK y, .bl true)) fun h => e (kK_inj h)
      rw [e1, valT x l]
      have e2 : (x ∈ y :: l) ↔ x ∈ l := by
        rw [List.mem_cons]
        exact ⟨fun h => h.resolve_left fun q => e q.symm, .inr⟩
      simp only [e2]
theorem dropT (x : Nat) (l : List Nat) : dropK (kvT l) (kK x) = kvT (rem l x) := by
  unfold dropK kvT rem
  rw [List.filter_map]
  congr 1
  refine List.filter_congr fun y _ => ?_
  by_cases e : y = x
  · subst e
    simp
  · have : kK y ≠ kK x := fun h => e (kK_inj h)
    simp [this, e]
theorem putT {x : Nat} {l : List Nat} (h : x ∉ l) : putK (kvT l) (kK x) (.bl true) = kvT (l ++ [x]) := by
  rw [putK_new _ (by rw [valT, if_neg h])]
  unfold kvT
  rw [List.map_append]
  rfl
/-- a dict comprehension over a range -/
theorem dc_range {lo : Int} {n : Nat} {g : TG} {tt : TT} {tk tv : TE} {vs : List Nat} {σ : L2.St} {H1 : Hp} {D : Addr} {Qd : Hp → Prop} (Pv : Nat → Hp → Prop) (h0 : Pv 0 (upd H1 D (.dK [])))
    (hs : ∀ i H, i < n → Pv i H → g (.int (lo + i)) (wipe σ vs) H fun σ2 H2 => wipe σ2 vs = wipe σ vs ∧ tt σ2 H2 fun b H3 =>
      if b = true then tk σ2 H3 fun y H4 => tv σ2 H4 fun z H5 => ∃ kvs k, y = kV k ∧ H5 D = some (.dK kvs) ∧ kvs.length < sizeLine ∧ Pv (i + 1) (upd H5 D (.dK (putK kvs k z))) else Pv (i + 1) H3) (hd : ∀ H, Pv n H → Qd H) :
    ∃ W : Nat → Nat → Hp → Prop, (∃ m, W 0 m (upd H1 D (.dK []))) ∧ ∀ i m H, W i m H →
      ((Itr lo n).stop i H ∧ Qd H) ∨ ((Itr lo n).go i H ∧ ∃ Nx : Hp → Prop, (∀ H', Nx H' → ∃ m', m' < m ∧ W (i + 1) m' H') ∧ ∀ x H', (Itr lo n).yld i H x H' → g x (wipe σ vs) H' fun σ2 H2 => wipe σ2 vs = wipe σ vs ∧ tt σ2 H2 fun b H3 =>
        if b = true then tk σ2 H3 fun y H4 => tv σ2 H4 fun z H5 => ∃ kvs k, y = kV k ∧ H5 D = some (.dK kvs) ∧ kvs.length < sizeLine ∧ Nx (upd H5 D (.dK (putK kvs k z))) else Nx H3) := by
  refine ⟨fun i m H => m = n - i ∧ i ≤ n ∧ Pv i H, ⟨n, by simp, Nat.zero_le _, h0⟩, ?_⟩
  rintro i m H ⟨rfl, hi, p⟩
  by_cases hlt : i < n
  · refine .inr ⟨hlt, Pv (i + 1), fun H' p' => ⟨n - (i + 1), by omega, rfl, hlt, p'⟩, fun x H' y => ?_⟩
    obtain ⟨e1, e2⟩ := y
    subst e1
    subst e2
    exact hs i _ hlt p
  · have e : i = n := by omega
    subst e
    exact .inl ⟨Nat.le_refl _, hd H p⟩
theorem inS_in (g : Nat → Nat → Nat) (a b x : Nat) : (!inV (.int (x : Int)) [.int (a : Int), .int (b : Int), .int ((g a b : Nat) : Int)]) = inS g a b x := by
  unfold inV inS
  simp only [List.any_cons, List.any_nil, Bool.or_false, eqV]
  have e : ∀ u : Nat, ((u : Int) == (x : Int)) = !decide (x ≠ u) := fun u => by
    by_cases h : x = u
    · subst h; simp
    · have : ¬ ((u : Int) = (x : Int)) := by omega
      simp [h, this]
  rw [e, e, e]
  simp [Bool.not_or]
theorem sorted_nat {ns : List Int} {l : List Nat} (hp : ns.Perm (l.map fun x : Nat => (x : Int))) (hs : ns.Pairwise (· ≤ ·)) : ∃ L : List Nat, ns = L.map (fun x : Nat => (x : Int)) ∧ l.Perm L ∧ L.Pairwise (· ≤ ·) := by
  have h0 : ∀ x ∈ ns, ((x.toNat : Nat) : Int) = x := fun x hx => by
    obtain ⟨y, _, rfl⟩ := List.mem_map.mp (hp.mem_iff.mp hx)
    show (((y : Int).toNat : Nat) : Int) = (y : Int)
    rfl
  have e : (ns.map Int.toNat).map (fun x : Nat => (x : Int)) = ns := by
    rw [List.map_map]
    exact (List.map_congr_left fun x hx => h0 x hx).trans (List.map_id _)
  refine ⟨ns.map Int.toNat, e.symm, ?_, ?_⟩
  · have q := (hp.map Int.toNat).symm
    rw [List.map_map] at q
    have e2 : (l.map (Int.toNat ∘ fun x : Nat => (x : Int))) = l := (List.map_congr_left fun x _ => rfl).trans (List.map_id _)
    rw [e2] at q
    exact q
  · rw [List.pairwise_map]
    exact hs.imp fun {a b} h => by omega
def intsN (l : List Nat) : List V := l.map fun x : Nat => V.int (x : Int)
theorem ints_map (l : List Nat) : (l.map fun x : Nat => (x : Int)).map V.int = intsN l := by rw [List.map_map]; rfl
/-- name = {..}, the name a local: the dict's comprehension -/
theorem ps_setDc {X : Cx} {i : Nat} {z : Str} {pz : Pos} {kx vx tgt itr : Expr} {tests : List Expr} {sco : Scope} {own : List (Str × Nat)} {pos stp : Pos} {ti : TI} {gg : TG} {tst : TT} {tk tv : TE} (calm : X.calm = true) (nd : X.N.Nodup) (at_ : X.N[i]? = some z) (lcl : X.env.scope.names.lookup z = some .local)
    (sw : swapsWith (.DictComp kx vx [⟨tgt, itr, tests, 0⟩] sco pos) (some (.Name z pz)) stp.line X.env = pure true) (hI : PI X tgt itr ti) (bok : BlkOk X.N X.env.scope sco own)
    (hG : ∀ (s : Shared) (H : Hp) (C : Addr) (cl : List (Str × Addr)) (fp : List Addr), PG (X.blk s H sco (compEnvC sco cl C X.env) fp) tgt gg) (hT : ∀ (s : Shared) (H : Hp) (C : Addr) (cl : List (Str × Addr)) (fp : List Addr), PTs (X.blk s H sco (compEnvC sco cl C X.env) fp) tests tst)
    (hK : ∀ (s : Shared) (H : Hp) (C : Addr) (cl : List (Str × Addr)) (fp : List Addr), PE (X.blk s H sco (compEnvC sco cl C X.env) fp) kx tk)
    (hE : ∀ (s : Shared) (H : Hp) (C : Addr) (cl : List (Str × Addr)) (fp : List Addr), PE (X.blk s H sco (compEnvC sco cl C X.env) fp) vx tv) (fo : ∀ x, foldedSetIterable itr X.env x = pure x := by intro _; rfl) :
    PS X (.Assign [.Name z pz] (.DictComp kx vx [⟨tgt, itr, tests, 0⟩] sco pos) stp) (tAsg (tDc ti gg tst tk tv (own.map (·.2))) (gName i)) := by
  refine ⟨fun held s σ H D Iv w0 => ?_⟩
  rw [exec_Assign_Name_used _ _ _ _ sw]
  refine wpAny_bind (wpAny_standAt (wpAny_bind ?_))
  show wpAny _ X.A (do let _ ← comprehension (.DictComp kx vx [⟨tgt, itr, tests, 0⟩] sco pos) sco X.env (firstIterPos [⟨tgt, itr, tests, 0⟩] pos) newDict false (eval itr X.env) (some (assign (.Name z pz) X.env))) _ _ s
  have w1 : tDc ti gg tst tk tv (own.map (·.2)) σ H (fun x H1 => gName i x σ H1 D.nx) := w0
  refine wpAny_bind (thn (dc_core (Qf := fun _ s' => SP X held D .next s') calm nd Iv hI bok hG hT hK hE fo w1 fun L C s' m H' I' qq hn ff => ?_) fun _ s' hq => wpAny_pure (wpAny_pure hq))
  show wpAny _ _ (assign (.Name z pz) X.env (.ref L)) _ _ _
  refine wpAny_assign_Name (store_ok2 (v := V.ref L) I' nd at_ (.inl lcl) rfl (fun s2 I2 ⟨a, sb, ha⟩ => ?_) (.inr lcl))
  obtain ⟨g0, g1, g2, g3, g4, g5⟩ := ff
  have nCa : C ≠ a := by
    rcases ha with e | e
    · rw [e]; exact g1
    · exact fun e2 => g4 z a e e2.symm
  refine ⟨m, hn.sameBut sb nCa, fun h3 sb3 => ?_⟩
  exact ⟨_, H', I2.turned (t' := s2.toks) (fun b o hb e => (sb3.2 b hb).trans e) g0 g1 g3 g4 g5, qq⟩
theorem swd_true {kx vx : Expr} {gens : List Comprehension} {sco : Scope} {pos py : Pos} {y : Str} {l : Nat} {en : Env} (fnk : en.scope.kind = .function) (lcl : en.scope.names.lookup y = some .local) (ln : (py.line == pos.line) = true)
    (own : (sco.names.any fun (n, k) => n == y && (k == .local || k == .cell)) = false) : swapsWith (.DictComp kx vx gens sco pos) (some (.Name y py)) l en = pure true := by
  have k1 : en.kindOf y = some .local := lcl
  have k2 : en.blockKind = .function := by unfold Env.blockKind; rw [fnk]; rfl
  unfold swapsWith
  simp only [k2, k1, own, Expr.pos, ln]
  rfl
section
variable {P : Program} {w : World} {K : PySem.W.Frag} {mg : Str → Option Value} {base : Heap}
theorem sc_fours : FnScope ["tree", "table", "point"] ["tree"] (defScope s_fours) := ⟨rfl, rfl, rfl, by decide +kernel, rfl, by decide +kernel, by decide +kernel⟩
def spFours : Sp := fun vs H Q _ => ∃ v t n f, vs = [v] ∧ TrAt H t v ∧ Sys t n f ∧ Sts n f ∧ n ≤ 60 ∧ ∀ p H', Same H H' → H' p = some (.lst (intsN (foursOf n f))) → Q (.ref p) H'
theorem fc_fours (T : Txt w K mg) : Fc P w K mg base 9 "fours" ["tree"] spFours := by
  have F_table_of := fc_table_of (P := P) (base := base) T
  have F_fours_at := fc_fours_at (P := P) (base := base) T
  refine mk_fc T.d_fours sc_fours (fun _ _ _ _ _ _ us hl => match us, hl with | [_], _ => rfl) (fun vs H Q E h => ?_) (fun f cdv A outer s H vs Q E hr h => ?_)
  · obtain ⟨v, t, n, f, rfl, _⟩ := h
    rfl
  · obtain ⟨v, t, n, g, rfl, hT, S, St, hn, q⟩ := h
    refine ⟨_, (pss_cons (ps_set (i := 1) sc_fours.nd rfl (Or.inr rfl) (pe_fc F_table_of hr rfl (pa_cons (pv 0) pa_nil)))
      (pss_one (ps_ret (pe_lc (own := [("point", 2)]) (g := gName 2) (tt := tYes) rfl sc_fours.nd (pi_range1 (by rfl) T.n_range (pa_cons (pe_callB call_len_seq (by rfl) T.n_len (by decide +kernel) (pa_cons (pv 1) pa_nil)) pa_nil)) (blkOk_by (by kernel_rfl)) (fun _ _ _ _ _ => (pg_name (i := 2) sc_fours.nd rfl (Or.inl rfl))) (fun _ _ _ _ _ => pts_nil) (fun _ _ _ _ _ => (pe_fc F_fours_at hr rfl (pa_cons (pv 1) (pa_cons (pv 2) pa_nil)))))))), ?_⟩
    refine st_is (σ := [some _, none, none]) rfl ?_
    refine ⟨_, rfl, v, t, n, g, rfl, hT, S, St, hn, fun u H1 s1 hu => ?_⟩
    obtain ⟨vp, vxs, hv, hvl, hvn⟩ := hu.list (K := K)
    refine ⟨_, rfl, vp, _, by rw [hv], .inl hvl, ?_⟩
    rw [hvn]
    refine ⟨n, rfl, by omega, by omega, fun D hD => ?_⟩
    refine lc_rngV (n := n) (fun k => V.int ((foursAt n g k : Nat) : Int)) hD (by omega) (fun k H3 hk s3 qq hq => ?_) (fun _ => rfl) fun H3 s3 h3 => ?_
    · exact ⟨_, rfl, _, rfl, u, k, n, g, rfl, hu.same s3, St, hn, hk, hq⟩
    · refine q D H3 (Same.trans s1 s3) ?_
      rw [h3]
      unfold intsN foursOf
      rw [List.map_map]
      rfl
theorem sc_rounds_in : FnScope ["table", "one", "other", "left", "point", "found", "start", "length", "across"] ["table", "one", "other"] (defScope s_rounds_in) := ⟨rfl, rfl, rfl, by decide +kernel, rfl, by decide +kernel, by decide +kernel⟩
def spRoundsIn : Sp := fun vs H Q _ => ∃ v, ∃ a b n : Nat, ∃ f, vs = [v, .int (a : Int), .int (b : Int)] ∧ TblAt H v n f ∧ Sts n f ∧ n ≤ 60 ∧ a < n ∧ b < n ∧ ∀ p H', Same H H' → H p = none → H' p = some (.lst (intsN (roundsOf n f a b))) → Q (.ref p) H'
theorem fc_rounds_in (T : Txt w K mg) : Fc P w K mg base 1 "rounds_in" ["table", "one", "other"] spRoundsIn := by
  refine mk_fc T.d_rounds_in sc_rounds_in (fun _ _ _ _ _ _ us hl => match us, hl with | [_, _, _], _ => rfl) (fun vs H Q E h => ?_) (fun f cdv A outer s H vs Q E hr h => ?_)
  · obtain ⟨v, a, b, n, f, rfl, _⟩ := h
    rfl
  · obtain ⟨v, a, b, n, g, rfl, hT, S, hn, ha, hb, q⟩ := h
    have hu := hu_of hr
    refine ⟨_, (pss_cons (ps_setDc (i := 3) (own := [("point", 4)]) (gg := gName 4) rfl sc_rounds_in.nd rfl rfl (swd_true rfl rfl rfl (by decide +kernel)) (pi_range1 (by rfl) T.n_range (pa_cons (pe_callB call_len_seq (by rfl) T.n_len (by decide +kernel) (pa_cons (pv 0) pa_nil)) pa_nil)) (blkOk_by (by kernel_rfl)) (fun _ _ _ _ _ => (pg_name (i := 4) sc_rounds_in.nd rfl (Or.inl rfl))) (fun _ _ _ _ _ => (pts_one (pt_cmpR (r := rIn K true) op_notIn_seq (pv 4) (pe_tup (pa_cons (pv 1) (pa_cons (pv 2) (pa_cons (pe_ix (r := rIxL K) ix_list (pe_ix (r := rIxL K) ix_list (pv 0) (pv 1) (fun _ _ => rfl)) (pv 2) (fun _ _ => rfl)) pa_nil)))) (by rfl)))) (fun _ _ _ _ _ => (pv 4)) (fun _ _ _ _ _ => pe_bl))
      (pss_cons (ps_set (i := 5) sc_rounds_in.nd rfl (Or.inl rfl) (pe_lst pa_nil))
      (pss_cons (ps_while PassesOwn.never (pt_truth (pv 3) (by intro _; rfl))
      (pss_cons (ps_set (i := 6) sc_rounds_in.nd rfl (Or.inl rfl) (pe_callB (cr_minK rfl) (by rfl) T.n_min (by decide +kernel) (pa_cons (pv 3) pa_nil)))
        (pss_cons (ps_set (i := 4) sc_rounds_in.nd rfl (Or.inl rfl) (pv 6))
        (pss_cons (ps_set (i := 7) sc_rounds_in.nd rfl (Or.inl rfl) pe_int)
        (pss_cons (ps_while PassesOwn.never (pt_cmp (pc_din hu (pv 4) (pv 3)))
        (pss_cons (ps_set (i := 8) sc_rounds_in.nd rfl (Or.inl rfl) (pe_ix ix_list (pe_ix ix_list (pv 0) (pv 1) (fun _ _ => rfl)) (pv 4) (fun _ _ => rfl)))
          (pss_cons (ps_expr (pe_dpop1 (pv 3) (pv 4) ⟨rfl, rfl, rfl, rfl⟩))
          (pss_cons (ps_expr (pe_dpop1 (pv 3) (pv 8) ⟨rfl, rfl, rfl, rfl⟩))
          (pss_cons (ps_aug (i := 7) sc_rounds_in.nd rfl (Or.inl rfl) pe_int iop_add)
          (pss_one (ps_set (i := 4) sc_rounds_in.nd rfl (Or.inl rfl) (pe_ix ix_list (pe_ix ix_list (pv 0) (pv 2) (fun _ _ => rfl)) (pv 8) (fun _ _ => rfl)))))))))
        (pss_one (ps_expr (pe_bm PySem.F.plainAttrs_list PySem.F.slot_list_append PySem.F.type_list_append mt_append (pv 5) (pa_cons (pv 7) pa_nil)))))))))
      (pss_one (ps_ret (pe_callB cr_sortedI (by rfl) T.n_sorted (by decide +kernel) (pa_cons (pv 5) pa_nil))))))), ?_⟩
    refine st_is (σ := [some _, some _, some _, none, none, none, none, none, none]) rfl ?_
    obtain ⟨vp, vxs, hv, hvl, hvn⟩ := hT.list (K := K)
    have hnab : g a b < n := S.lt a b ha hb
    -- left
    refine ⟨_, rfl, vp, _, by rw [hv], .inl hvl, ?_⟩
    rw [hvn]
    refine ⟨n, rfl, by omega, by omega, fun D hD => ?_⟩
    refine dc_range (n := n) (fun j H2 => Same H H2 ∧ H2 D = some (.dK (kvT ((List.range j).filter (inS g a b))))) ⟨Same.new hD, upd_same⟩ ?_ ?_
    · rintro j H2 hj ⟨s2, d2⟩
      rw [Int.zero_add]
      have hT2 := hT.same s2
      have fl : (List.range (j + 1)).filter (inS g a b) = (List.range j).filter (inS g a b) ++ if inS g a b j = true then [j] else [] := by
        rw [List.range_succ, List.filter_append]
        by_cases h : inS g a b j = true <;> simp [h]
      refine ⟨rfl, ?_⟩
      refine ⟨_, rfl, _, rfl, _, rfl, _, rfl, _, rfl, hT2.get ha hb (fun q hq => ⟨_, rfl, hq⟩) ?_⟩
      refine ⟨(by show 3 ≤ sizeLine; decide), fun p hp => ?_⟩
      refine ⟨p, _, rfl, .inr (SqT.of upd_same), rfl, rfl, ?_⟩
      have s3 := Same.new (o := .tup [.int (a : Int), .int (b : Int), .int ((g a b : Nat) : Int)]) hp
      generalize upd H2 p (.tup [.int (a : Int), .int (b : Int), .int ((g a b : Nat) : Int)]) = H3 at s3 ⊢
      have d3 := s3 _ _ d2
      refine ⟨_, rfl, ?_⟩
      show if (!inV (.int (j : Int)) [.int (a : Int), .int (b : Int), .int ((g a b : Nat) : Int)]) = true then _ else _
      rw [inS_in, fl]
      by_cases hin : inS g a b j = true
      · rw [if_pos hin, if_pos hin]
        refine ⟨_, rfl, kvT ((List.range j).filter (inS g a b)), kK j, rfl, d3, ?_, ?_, ?_⟩
        · unfold kvT
          rw [List.length_map]
          have := List.length_filter_le (inS g a b) (List.range j)
          rw [List.length_range] at this
          exact szlt (by omega)
        · exact Same.put (Same.trans s2 s3) hD
        · rw [upd_same, putT]
          intro h
          have := List.mem_range.mp (List.mem_filter.mp h).1
          omega
      · rw [if_neg hin, if_neg hin, List.append_nil]
        exact ⟨Same.trans s2 s3, d3⟩
    · rintro H1 ⟨s1, d1⟩
      change H1 D = some (.dK (kvT (pts n g a b))) at d1
      have O0 := OutR.start S ha hb
      have l0 : (pts n g a b).length ≤ n := by
        unfold pts
        have := List.length_filter_le (inS g a b) (List.range n)
        rw [List.length_range] at this
        exact this
      -- found
      refine ⟨Nat.zero_le _, fun L hL => ?_⟩
      have hL0 : H L = none := s1.free hL
      have hD0 : H D = none := hD
      have nDL : D ≠ L := ne_of_none d1 hL
      have d2 : (upd H1 L (.lst [])) D = some (.dK (kvT (pts n g a b))) := by rw [upd_ne nDL]; exact d1
      have s2 := Same.trans s1 (Same.new (o := .lst []) hL)
      have e2 : (upd H1 L (.lst [])) L = some (.lst (intsN [])) := upd_same
      generalize upd H1 L (.lst []) = H2 at d2 s2 e2 ⊢
      generalize pts n g a b = left0 at O0 l0 d2
      refine ⟨fun m σ H' => ∃ (left found : List Nat) (x4 x6 x7 x8 : Option V), m = left.length ∧ σ = [some v, some (.int (a : Int)), some (.int (b : Int)), some (.ref D), x4, some (.ref L), x6, x7, x8] ∧ Same H H' ∧ H' D = some (.dK (kvT left)) ∧ H' L = some (.lst (intsN found)) ∧ OutR n g a b left found ∧ found.length + left.length ≤ n,
        ⟨_, left0, [], none, none, none, none, rfl, rfl, s2, d2, e2, O0, by simpa using l0⟩, ?_⟩
      rintro m σ H3 ⟨left, found, x4, x6, x7, x8, rfl, rfl, s3, d3, e3, O, hl⟩
      refine ⟨_, rfl, _, .inr (.inr ⟨_, d3, rfl⟩), ?_⟩
      rcases left with _ | ⟨y0, ys⟩
      · skip
        refine ite_no rfl ?_
        refine ⟨_, rfl, L, found.map (fun x : Nat => (x : Int)), rfl, SqL.of (by rw [ints_map]; exact e3), fun ns p hp hs hp0 => ?_⟩
        obtain ⟨L', rfl, hp2, hs2⟩ := sorted_nat hp hs
        obtain rfl := O.done hp2 hs2
        refine q p _ (Same.trans s3 (Same.new hp0)) (s3.free hp0) ?_
        rw [upd_same, ints_map]
      · have hleft : (y0 :: ys) ≠ [] := fun h => nomatch h
        have hemp : (!(kvT (y0 :: ys)).isEmpty) = true := rfl
        generalize y0 :: ys = left at *
        refine ite_yes hemp ?_
        refine ⟨_, fun _ _ h => h, ?_⟩
        -- start = min(left)
        refine ⟨_, rfl, D, kvT left, left.map (fun x : Nat => (x : Int)), rfl, d3, by unfold kvT; rw [List.map_map, List.map_map]; rfl, by simpa using hleft, fun m hm _ => ?_⟩
        obtain ⟨s, hs, rfl⟩ := List.mem_map.mp hm
        have hsn := (mem_pts.mp (O.clo.sub s hs)).1
        repeat ((try simp only [List.set_cons_zero, List.set_cons_succ]); (first | with_reducible refine iteF ?_ | with_reducible refine iteT ?_ | with_reducible refine ite_no (by decide +kernel) ?_ | with_reducible refine ite_yes (by decide +kernel) ?_ | (fail_if_success (with_reducible refine ite2 ?_ ?_)); (first | refine ⟨_, rfl, ?_⟩ | refine ⟨_, _, rfl, rfl, ?_⟩ | refine ⟨rfl, _, rfl, ?_⟩ | refine ⟨_, _, rfl, ?_⟩ | refine ⟨_, _, _, rfl, ?_⟩ | refine ⟨rfl, ?_⟩ | with_reducible refine And.intro (by (try dsimp only [CDiv, CMul]); omega) ?_)))
        refine ⟨fun m2 σ H' => ∃ (k : Nat) (left' : List Nat) (x8 : Option V), m2 = left'.length ∧ σ = [some v, some (.int (a : Int)), some (.int (b : Int)), some (.ref D), some (.int ((itr g a b k s : Nat) : Int)), some (.ref L), some (.int (s : Int)), some (.int ((2 * k : Nat) : Int)), x8] ∧ Same H H' ∧ H' D = some (.dK (kvT left')) ∧ H' L = some (.lst (intsN found)) ∧ InR n g a b left s k left',
          ⟨_, 0, left, x8, rfl, rfl, s3, d3, e3, InR.start O.clo s⟩, ?_⟩
        rintro m2 σ H4 ⟨k, left', y8, rfl, rfl, s4, d4, e4, R⟩
        have hxn := itr_lt S ha hb hsn k
        refine ⟨_, rfl, _, rfl, D, _, rfl, DGet.k (k := kK (itr g a b k s)) d4, ?_⟩
        rw [valT]
        refine ⟨_, rfl, ?_⟩
        by_cases hin : itr g a b k s ∈ left'
        · rw [if_pos hin]
          refine iteT ?_
          refine ⟨_, fun _ _ h => h, ?_⟩
          obtain ⟨hq, R2⟩ := R.step S ha hb O.clo hs hin
          have hT4 := hT.same s4
          have han := S.lt a _ ha hxn
          refine ⟨_, rfl, _, rfl, hT4.get ha hxn (fun q hq => ⟨_, rfl, hq⟩) ?_⟩
          refine ⟨_, rfl, D, rfl, .inl ⟨_, .inl d4⟩, _, rfl, _, kK (itr g a b k s), .bl true, d4, rfl, by rw [valT, if_pos hin], ?_⟩
          rw [dropT]
          have d5 : (upd H4 D (.dK (kvT (rem left' (itr g a b k s))))) D = some (.dK (kvT (rem left' (itr g a b k s)))) := upd_same
          refine ⟨_, rfl, D, rfl, .inl ⟨_, .inl d5⟩, _, rfl, _, kK (g a (itr g a b k s)), .bl true, d5, rfl, by rw [valT, if_pos hq], ?_⟩
          rw [dropT]
          have s6 := Same.put (o := .dK (kvT (rem (rem left' (itr g a b k s)) (g a (itr g a b k s))))) (Same.put (o := .dK (kvT (rem left' (itr g a b k s)))) s4 hD0) hD0
          have e6 : (upd (upd H4 D (.dK (kvT (rem left' (itr g a b k s))))) D (.dK (kvT (rem (rem left' (itr g a b k s)) (g a (itr g a b k s)))))) L = some (.lst (intsN found)) := by
            rw [upd_ne (Ne.symm nDL), upd_ne (Ne.symm nDL)]
            exact e4
          refine ⟨_, rfl, _, _, rfl, rfl, ?_⟩
          refine ⟨_, rfl, _, rfl, (hT.same s6).get hb han (fun q hq => ⟨_, rfl, hq⟩) ?_⟩
          refine ⟨_, ?_, k + 1, _, some (.int ((g a (itr g a b k s) : Nat) : Int)), rfl, rfl, s6, upd_same, e6, R2⟩
          have h1 := length_rem R.nd hin
          have h2 := length_rem (nodup_rem R.nd (itr g a b k s)) hq
          omega
        · rw [if_neg hin]
          refine iteF ?_
          obtain ⟨_, hk, _⟩ := R.done S ha hb O.clo hs hin
          have O2 := O.next S ha hb hs R hin
          have hlen := R.len
          refine ⟨_, rfl, .inl ⟨rfl, _, SqL.of e4⟩, ?_⟩
          refine ⟨_, rfl, L, _, _, rfl, rfl, e4, szlt (by unfold intsN; rw [List.length_map]; omega), ?_⟩
          have nLD : L ≠ D := Ne.symm nDL
          refine ⟨_, ?_, left', found ++ [2 * k], _, _, _, _, rfl, rfl, Same.put s4 hL0, by rw [upd_ne nDL]; exact d4, ?_, O2, ?_⟩
          · omega
          · rw [upd_same]
            unfold intsN
            rw [List.map_append]
            rfl
          · rw [List.length_append, List.length_singleton]
            omega
end
end PK
end

section
namespace PK
open PySem PySem.Spec PyProof.Rows L2
/-! ### sorted, a list of data -/
section
variable {α : Type} [DecidableEq α] [PySem.W.DatumOrd α]
/-- Python's order is one order of the values -/
theorem dat_antisymm {x y : α} (h1 : PySem.W.dataLe false (PySem.W.Datum.toD (α := α)) x y = true) (h2 : PySem.W.dataLe false (PySem.W.Datum.toD (α := α)) y x = true) : x = y := by
  have b1 : PyProof.Rows.lexLt PyProof.Rows.itemOrd (PySem.W.keyToks (PySem.W.Datum.toD y)) (PySem.W.keyToks (PySem.W.Datum.toD x)) = false := by
    have q : (!PySem.W.dataLt (PySem.W.Datum.toD y) (PySem.W.Datum.toD x)) = true := h1
    rw [Bool.not_eq_true'] at q
    exact q
  have b2 : PyProof.Rows.lexLt PyProof.Rows.itemOrd (PySem.W.keyToks (PySem.W.Datum.toD x)) (PySem.W.keyToks (PySem.W.Datum.toD y)) = false := by
    have q : (!PySem.W.dataLt (PySem.W.Datum.toD x) (PySem.W.Datum.toD y)) = true := h2
    rw [Bool.not_eq_true'] at q
    exact q
  have ek := (PyProof.Rows.listOrd PyProof.Rows.itemOrd).total _ _ b2 b1
  have al := PySem.W.DatumOrd.alike x y
  cases e : PyData.eqv (PySem.W.Datum.toD x) (PySem.W.Datum.toD y) with
  | true =>
    rw [PySem.W.Datum.eqv] at e
    exact of_decide_eq_true e
  | false =>
    have q := (PySem.W.toks_eqv _ _ al).2 e [] [.inl 0]
    rw [ek, PySem.W.lex_pre] at q
    have q2 : PyProof.Rows.lexLt PyProof.Rows.itemOrd (PySem.W.keyToks (PySem.W.Datum.toD y)) (PySem.W.keyToks (PySem.W.Datum.toD y)) = false := (PyProof.Rows.listOrd PyProof.Rows.itemOrd).irrefl _
    rw [q2] at q
    exact absurd q (by decide)
def sortD (l : List α) : List α := l.mergeSort (PySem.W.dataLe false (PySem.W.Datum.toD (α := α)))
theorem sortD_perm {l l' : List α} (h : l.Perm l') : sortD l = sortD l' := by
  have T := PySem.W.sortLe_total (PyProof.Rows.listOrd PyProof.Rows.itemOrd) false fun b : α => PySem.W.keyToks (PySem.W.Datum.toD b)
  have tot : ∀ a b : α, (PySem.W.dataLe false (PySem.W.Datum.toD (α := α)) a b || PySem.W.dataLe false (PySem.W.Datum.toD (α := α)) b a) = true := fun a b => Bool.or_eq_true_iff.mpr (T.total a b)
  have hp : (sortD l).Perm (sortD l') := (List.mergeSort_perm l _).trans (h.trans (List.mergeSort_perm l' _).symm)
  have s1 := List.pairwise_mergeSort (le := PySem.W.dataLe false (PySem.W.Datum.toD (α := α))) (fun a b c => T.trans a b c) tot l
  have s2 := List.pairwise_mergeSort (le := PySem.W.dataLe false (PySem.W.Datum.toD (α := α))) (fun a b c => T.trans a b c) tot l'
  exact hp.eq_of_pairwise (fun a b _ _ h1 h2 => dat_antisymm h1 h2) s1 s2
theorem sortD_mem {l : List α} {x : α} : x ∈ sortD l ↔ x ∈ l := (List.mergeSort_perm l _).mem_iff
def rSortD (α : Type) [DecidableEq α] [PySem.W.DatumOrd α] (K : PySem.W.Frag) : List V → Hp → VK → Prop := fun vs H Q => ∃ (a : Addr) (xs : List V) (bs : List α), vs = [V.ref a] ∧ SqL K H a xs ∧ DpAll K H xs (bs.map PySem.W.Datum.toD) ∧
  PySem.W.Sortable (bs.map PySem.W.Datum.toD) ∧ ∀ p ys, H p = none → DpAll K H ys ((sortD bs).map PySem.W.Datum.toD) → Q (.ref p) (upd H p (.lst ys))
theorem each_of_dp {X : Cx} {pins : List (Addr × Obj)} {σ : L2.St} {H : Hp} {s : Shared} (I : Inv X pins σ H s) : ∀ {xs : List V} {its : List Value} {bs : List α}, Vals xs its → DpAll X.K H xs (bs.map PySem.W.Datum.toD) →
    PySem.W.EachIs (fun v (b : α) => ∃ y, RelV y v ∧ Dp X.K H y (PySem.W.Datum.toD b)) its bs
  | _, _, [], r, d => by
    cases d
    cases r
    exact .nil
  | _, _, b :: bs, r, d => by
    cases d with
    | cons d1 d2 =>
      cases r with
      | cons r1 r2 => exact .cons ⟨_, r1, d1⟩ (each_of_dp I r2 d2)
theorem dp_of_each {K : PySem.W.Frag} {H : Hp} : ∀ {out : List Value} {bs : List α}, PySem.W.EachIs (fun v (b : α) => ∃ y, RelV y v ∧ Dp K H y (PySem.W.Datum.toD b)) out bs → ∃ ys, Vals ys out ∧ DpAll K H ys (bs.map PySem.W.Datum.toD)
  | _, _, .nil => ⟨[], .nil, .nil⟩
  | _, _, .cons ⟨y, r1, d1⟩ t => by
    obtain ⟨ys, r2, d2⟩ := dp_of_each t
    exact ⟨y :: ys, .cons r1 r2, .cons d1 d2⟩
theorem cr_sortD {X : Cx} (hu : X.A.units + 2 + PySem.W.Datum.depth α < cLine) : CallR X (.builtin "sorted") (rSortD α X.K) := by
  intro pins s σ H vs us Q I r h
  obtain ⟨a, xs, bs, rfl, hs, hd, ho, q⟩ := h
  obtain ⟨its, rv, hl, hz⟩ := I.list hs
  rw [Vals.ref1 r]
  have e := each_of_dp I rv hd
  have hlen : bs.length = xs.length := by rw [← e.length]; exact rv.length.symm
  refine PySem.W.sorted_data (enc := PySem.W.Datum.toD) (R := fun v (b : α) => ∃ y, RelV y v ∧ Dp X.K H y (PySem.W.Datum.toD b)) (vs := its) (bs := bs) hl.isList e (e.mono fun v b ⟨y, r, d⟩ => Dp.reads I _ y v d r) (PySem.W.AllAlike.of fun b b' => PySem.W.DatumOrd.alike b b') ho (by omega)
    (fun b _ => by have := PySem.W.Datum.depth_le b; omega) fun out ho e2 => ?_
  obtain ⟨ys, r2, d2⟩ := dp_of_each e2
  obtain ⟨ep, he⟩ := PyProof.Rows.sortedAll_at s.heap its (List.toArray out)
  have hyl : ys.length ≤ sizeLine := by
    rw [r2.length, ho, hlen]
    exact hz
  refine ⟨.ref _, upd H (s.heap.objs.size + 1) (.lst ys), I.laid (t' := s.toks) (fun _ _ => PyProof.Rows.sortedAll_old) (Nat.le_succ _) ⟨hyl, out, ep, r2, he⟩, rfl, q _ ys (I.hok.fresh (Nat.le_succ _)) d2⟩
def rNeDat (α : Type) [DecidableEq α] [PySem.W.DatumOrd α] (K : PySem.W.Frag) : R2 := fun x y H Q => ∃ a b : α, Dp K H x (PySem.W.Datum.toD a) ∧ Dp K H y (PySem.W.Datum.toD b) ∧ Q (.bl (decide (a ≠ b))) H
theorem op_neDat {X : Cx} (hu : X.A.units + PySem.W.Datum.depth α < cLine) : OpR X (compareOp .NotEq) (rNeDat α X.K) := by
  intro pins s σ H x y v u Q I rx ry h
  obtain ⟨a, b, ha, hb, q⟩ := h
  exact PySem.W.ne_datum (x := a) (y := b) (Dp.reads I _ x v ha rx) (Dp.reads I _ y u hb ry) hu ⟨.bl _, H, I, rfl, q⟩
end
end PK
end

section
namespace PK
open PySem PySem.Spec PySem.W PySem.Calls PyProof.Rows L2
/-! ### list(view): the pairs of a dict with tuple keys -/
section
variable {prog : Program} {w : World} {A : Around} {E : Value → Shared → Prop} {s : Shared} {r d : Addr} {es : Array DictEntry} {ep : Nat}
theorem viewList_init {R : Result → Shared → Prop} (calm : A.handled = none) (view : s.heap.IsItemsView r d) (raw : DT.Raw s.heap d es ep) (S : Addr) (hSr : S ≠ r) (hSd : d ≠ S) (hS : s.heap.get? S = some { cls := .type "list", data := .seq #[] })
    (fin : ∀ h' tk acc c as, (∀ b o, b ≠ S → s.heap.get? b = some o → h'.get? b = some o) → h'.get? S = some { cls := .type "list", dict := none, data := .seq acc c, slots := #[] } → as.length = es.size → DT.Made es S h' as →
      acc.toList = as.map Value.ref → R (.ok (.ret .none)) { s with heap := h', toks := tk }) (few : es.size ≤ sizeLine) :
    wpAny (model prog w) A.in1 (Builtin.«list.__init__» ⟨[.ref S, .ref r], []⟩)
      (fun f s' => match f with | .done f => R (.ok f) s' | .again c' => c'.quiet = true ∧ codeAny (model prog w) A c' R s') (fun e s' => R (.error e) s') s := by
  show wpAny _ _ (do let old ← Builtin.List.listItems (.ref S); Builtin.List.listUpdate (.ref S) (fun _ => #[]); letGo old.toList.reverse; Builtin.List.listExtendWith (.ref S) (.ref r) .none) _ _ s
  refine wpAny_bind ?_
  unfold Builtin.List.listItems
  refine wpAny_bind (wpAny_seqItems hS rfl (wpAny_pure ?_))
  show wpAny _ _ (updateSeq S (fun _ => #[]) >>= fun _ => letGo (#[] : Array Value).toList.reverse >>= fun _ => Builtin.List.listExtendWith (.ref S) (.ref r) .none) _ _ s
  refine wpAny_bind (wpAny_updateSeq hS rfl ?_)
  have at2 := Heap.get?_update_self (Obj.mapSeq (fun _ => (#[] : Array Value))) hS rfl
  have off : ∀ b o, b ≠ S → s.heap.get? b = some o → (s.heap.update S (Obj.mapSeq (fun _ => (#[] : Array Value)))).get? b = some o := fun b o hb e => (Heap.get?_update_other _ _ (Ne.symm hb)).trans e
  refine wpAny_bind (wpAny_letGo ?_)
  refine DT.extI (es := es) (ep := ep) calm (let ⟨o, ho, x⟩ := view; ⟨o, off r o hSr.symm ho, x⟩) (raw.at' fun o e => off d o hSd e) S hSr hSd .none _ at2 (fun h' tk acc c as k1 k2 k3 k4 k5 => ?_) few
  exact fin h' tk acc c as (fun b o hb e => k1 b o hb (off b o hb e)) k2 k3 (k4.low (Nat.le_of_lt (Heap.lt_size at2))) k5
theorem viewList_call {Q : Value → Shared → Prop} (calm : A.handled = none) (view : s.heap.IsItemsView r d) (raw : DT.Raw s.heap d es ep) (few : es.size ≤ sizeLine)
    (fin : ∀ h' tk acc c as, (∀ b o, s.heap.get? b = some o → h'.get? b = some o) → h'.get? s.heap.objs.size = some { cls := .type "list", dict := none, data := .seq acc c, slots := #[] } → as.length = es.size → DT.Made es s.heap.objs.size h' as →
      acc.toList = as.map Value.ref → Q (.ref s.heap.objs.size) { s with heap := h', toks := tk }) :
    wpAny (model prog w) A (call (.type "list") [.ref r]) Q E s := by
  refine callType_codes (Q₁ := fun obj s₁ => obj = .ref s.heap.objs.size ∧ s₁ = { s with heap := s.heap.push { cls := .type "list", data := .seq #[] } }) PySem.F.called_list (PySem.F.typeCall_list_1 _) PySem.F.entry_list_init
    (code_list_new _ ⟨rfl, rfl⟩) fun obj s₁ h₁ => ?_
  obtain ⟨rfl, rfl⟩ := h₁
  have new : (s.heap.push { cls := .type "list", data := .seq #[] }).get? s.heap.objs.size = some { cls := .type "list", data := .seq #[] } := Heap.get?_push_size _ rfl
  have ltr : r < s.heap.objs.size := let ⟨_, ho, _⟩ := view; Heap.lt_size ho
  refine ⟨⟨_, new, rfl⟩, PySem.F.args_list_init_2 _ _, viewList_init (es := es) (ep := ep) (A := A.in1) calm (let ⟨o, ho, x⟩ := view; ⟨o, Heap.get?_push_of_some _ ho, x⟩) (raw.push _) _ (Nat.ne_of_gt ltr) (Nat.ne_of_lt raw.lt) new (fun h' tk acc c as k1 k2 k3 k4 k5 => ?_) few⟩
  exact ⟨rfl, fin h' tk acc c as (fun b o e => k1 b o (Nat.ne_of_lt (Heap.lt_size e)) (Heap.get?_push_of_some _ e)) k2 k3 k4 k5⟩
end
def rListView : List V → Hp → VK → Prop := fun vs H Q => ∃ (p a : Addr) (kvs : List (List L2.Key × V)), vs = [V.ref p] ∧ H p = some (L2.DX.itemsO p a) ∧ H a = some (.dT kvs) ∧
  ∀ (H' : Hp) (l : Addr) (ts : List Addr), Same H H' → H' l = some (.lst (ts.map V.ref)) → ts.length = kvs.length →
    (∀ (j : Nat) (t : Addr) (kv : List L2.Key × V), ts[j]? = some t → kvs[j]? = some kv → ∃ q, H' t = some (.tup [.ref q, kv.2]) ∧ H' q = some (.tup (kv.1.map kV))) → Q (.ref l) H'
theorem cr_listView {X : Cx} (calm : X.calm = true) : CallR X (.type "list") rListView := by
  intro pins s σ H vs us Q I r h
  obtain ⟨p, a, kvs, rfl, hp, ha, q⟩ := h
  rw [Vals.ref1 r]
  have view : s.heap.IsItemsView p a := (show ObjOk X.prog X.w H s.heap p (L2.DX.itemsO p a) from I.hok p _ hp).1
  obtain ⟨z, hd, xs', rel, o, es, ep, ho, hx, hdat, hes, his, hn⟩ := dt_of I.hok ha
  have l1 : kvs.length = xs'.length := Paired.length rel
  have l2 : es.size = xs'.length := size_of_entries hes
  have hh : X.A.handled = none := I.ok.hd calm
  refine viewList_call (es := es) (ep := ep) hh view ⟨o, ho, hx, hdat⟩ (by omega) fun h' tk acc c as hk hS hl hG hacc => ?_
  have nd : as.Nodup := List.Pairwise.imp (fun h => Nat.ne_of_lt h) hG.rise
  have newS : H s.heap.objs.size = none := I.hok.fresh (Nat.le_refl _)
  have pr : ∀ (j : Nat) (b : Addr), as[j]? = some b → ∃ (kv : List L2.Key × V) (kq : Addr) (u : Value), kvs[j]? = some kv ∧ H kq = some (.tup (kv.1.map kV)) ∧ RelV kv.2 u ∧ h'.get? b = some { cls := .type "tuple", data := .seq #[Value.ref kq, u] } := by
    intro j b hj
    obtain ⟨en, he, hg⟩ := hG.pairs j b hj
    rw [entry_at hes j] at he
    cases hxj : xs'[j]? with
    | none =>
      rw [hxj] at he
      exact nomatch (show (none : Option DictEntry) = some en from he)
    | some x =>
      rw [hxj] at he
      have een : entryOfKey (tupleKind (mixKind X.prog X.w)) x = en := Option.some.inj he
      obtain ⟨e0, he0, r1, r2, r3⟩ := L2.DX.pget rel hxj
      refine ⟨e0, x.2.1, x.2.2, he0, r2, r3, ?_⟩
      rw [hg, ← een]
      all_goals rfl
  have hlen : (as.map V.ref).length ≤ sizeLine := by
    rw [List.length_map]
    omega
  have I1 : Inv X pins σ (upd H s.heap.objs.size (.lst (as.map V.ref))) { s with heap := h', toks := tk } := by
    refine I.laid (t' := tk) hk (Nat.le_refl _) ⟨hlen, acc.toList, c, by rw [hacc]; exact LiI.vals_refs as, ?_⟩
    rw [Array.toArray_toList]
    exact hS
  obtain ⟨H2, I2, k2, q2⟩ := L2.DX.takeT (P := fun a vs => ∃ (j : Nat) (kv : List L2.Key × V) (kq : Addr), as[j]? = some a ∧ kvs[j]? = some kv ∧ H kq = some (.tup (kv.1.map kV)) ∧ vs = [.ref kq, kv.2]) I as _ I1 nd fun b hb => by
    obtain ⟨j, hj⟩ := List.mem_iff_getElem?.mp hb
    obtain ⟨kv, kq, u, e1, e2, e3, e4⟩ := pr j b hj
    have lo := hG.above b hb
    refine ⟨Nat.le_of_lt lo, ?_, [.ref kq, kv.2], ⟨j, kv, kq, hj, e1, e2, rfl⟩, fun H2 => ⟨by show 2 ≤ sizeLine; decide, [Value.ref kq, u], .cons rfl (.cons e3 .nil), ⟨_, e4, rfl, 0, rfl⟩⟩⟩
    rw [upd_ne (Nat.ne_of_gt lo)]
    exact I.hok.fresh (Nat.le_of_lt lo)
  refine ⟨.ref _, H2, I2, rfl, q H2 _ as (fun b o e => k2 b o (Same.new newS b o e)) (k2 _ _ upd_same) (by omega) fun j t kv e1 e2 => ?_⟩
  obtain ⟨vs, ⟨j', kv', kq, f1, f2, f3, rfl⟩, g⟩ := q2 t (List.mem_of_getElem? e1)
  have ej : j' = j := by
    exact (List.getElem?_inj (List.getElem?_eq_some_iff.mp f1).1 nd).mp (f1.trans e1.symm)
  subst ej
  rw [e2] at f2
  cases f2
  exact ⟨kq, g, k2 _ _ (Same.new newS _ _ f3)⟩
end PK
end

section
namespace PK
open PySem PySem.Spec PyProof.Rows L2
/-! ### the counts, as data -/
def tupI (l : List Nat) : PySem.W.Tup Int := ⟨l.map fun x : Nat => (x : Int)⟩
theorem tupI_inj {l m : List Nat} (h : tupI l = tupI m) : l = m := by
  have e := congrArg (fun t : PySem.W.Tup Int => t.items.map Int.toNat) h
  have f : ∀ l : List Nat, (tupI l).items.map Int.toNat = l := fun l => by
    show (l.map fun x : Nat => (x : Int)).map Int.toNat = l
    rw [List.map_map]
    exact (List.map_congr_left fun x _ => rfl).trans (List.map_id _)
  exact (f l).symm.trans (e.trans (f m))
def itOf (kvs : List (List Nat × Nat)) : List (PySem.W.Tup Int × Int) := kvs.map fun kc => (tupI kc.1, (kc.2 : Int))
def itD (n : Nat) (f : Nat → Nat → Nat) : List (PySem.W.Tup Int × Int) := sortD (itOf (tal (roundsL n f)))
def sI (l : List Nat) : List Int := (l.map fun x : Nat => (x : Int)).mergeSort fun a b => decide (a ≤ b)
theorem sI_is {l : List Nat} {ns : List Int} (hp : ns.Perm (l.map fun x : Nat => (x : Int))) (hs : ns.Pairwise (· ≤ ·)) : ns = sI l := by
  have s2 := List.pairwise_mergeSort (le := fun a b : Int => decide (a ≤ b)) (fun a b c h1 h2 => decide_eq_true (Int.le_trans (of_decide_eq_true h1) (of_decide_eq_true h2))) (fun a b => by
    rw [Bool.or_eq_true, decide_eq_true_eq, decide_eq_true_eq]
    exact Int.le_total a b) (l.map fun x : Nat => (x : Int))
  refine List.Perm.eq_of_pairwise (le := fun a b : Int => a ≤ b) (fun a b _ _ h1 h2 => Int.le_antisymm h1 h2) hs (s2.imp fun {a b} h => of_decide_eq_true h) ?_
  exact hp.trans (List.mergeSort_perm _ _).symm
theorem sI_perm {l m : List Nat} (h : l.Perm m) : sI l = sI m := by
  have q := List.mergeSort_perm (l.map fun x : Nat => (x : Int)) fun a b => decide (a ≤ b)
  have s2 := List.pairwise_mergeSort (le := fun a b : Int => decide (a ≤ b)) (fun a b c h1 h2 => decide_eq_true (Int.le_trans (of_decide_eq_true h1) (of_decide_eq_true h2))) (fun a b => by
    rw [Bool.or_eq_true, decide_eq_true_eq, decide_eq_true_eq]
    exact Int.le_total a b) (l.map fun x : Nat => (x : Int))
  exact sI_is (q.trans (h.map _)) (s2.imp fun {a b} h => of_decide_eq_true h)
theorem perm_of_sI {l m : List Nat} (h : sI l = sI m) : l.Perm m := by
  have q1 := List.mergeSort_perm (l.map fun x : Nat => (x : Int)) fun a b => decide (a ≤ b)
  have q2 := List.mergeSort_perm (m.map fun x : Nat => (x : Int)) fun a b => decide (a ≤ b)
  have h' : (l.map fun x : Nat => (x : Int)).mergeSort (fun a b => decide (a ≤ b)) = (m.map fun x : Nat => (x : Int)).mergeSort fun a b => decide (a ≤ b) := h
  rw [h'] at q1
  have q := (q1.symm.trans q2).map Int.toNat
  have f : ∀ l : List Nat, (l.map fun x : Nat => (x : Int)).map Int.toNat = l := fun l => by
    rw [List.map_map]
    exact (List.map_congr_left fun x _ => rfl).trans (List.map_id _)
  rw [f, f] at q
  exact q
def countsD (n : Nat) (f : Nat → Nat → Nat) : PySem.W.T3 Int (PySem.W.Tup Int) (PySem.W.Tup (PySem.W.Tup Int × Int)) := ⟨(n : Int), ⟨sI (foursOf n f)⟩, ⟨itD n f⟩⟩
theorem counts_iso {n : Nat} {f g : Nat → Nat → Nat} {φ : Nat → Nat} (S : Sts n f) (I : Iso n f g φ) : countsD n f = countsD n g := by
  unfold countsD itD itOf
  rw [sI_perm (foursOf_perm S I), sortD_perm (((tal_ok _).perm (tal_ok _) (roundsL_perm S I)).map _)]
theorem counts_unlike {n : Nat} {f g : Nat → Nat → Nat} (h : ¬ (foursOf n f).Perm (foursOf n g)) : countsD n f ≠ countsD n g := fun e =>
  h (perm_of_sI (congrArg (fun t : PySem.W.T3 Int (PySem.W.Tup Int) (PySem.W.Tup (PySem.W.Tup Int × Int)) => t.b.items) e))
theorem dp_ints {K : PySem.W.Frag} {H : Hp} : ∀ l : List Nat, DpAll K H (intsN l) ((l.map fun x : Nat => (x : Int)).map PySem.W.Datum.toD)
  | [] => .nil
  | x :: l => .cons (.int _) (dp_ints l)
theorem dp_intsI {K : PySem.W.Frag} {H : Hp} : ∀ l : List Int, DpAll K H (l.map V.int) (l.map PySem.W.Datum.toD)
  | [] => .nil
  | x :: l => .cons (.int _) (dp_intsI l)
/-- the dict of the tally -/
def kvT2 (kvs : List (List Nat × Nat)) : List (List Key × V) := kvs.map fun kc => (kc.1.map kK, .int (kc.2 : Int))
theorem kKs_inj {l m : List Nat} (h : l.map kK = m.map kK) : l = m := by
  induction l generalizing m with
  | nil => cases m <;> simp_all
  | cons x l ih =>
    cases m with
    | nil => simp at h
    | cons y m =>
      rw [List.map_cons, List.map_cons] at h
      injection h with h1 h2
      rw [kK_inj h1, ih h2]
theorem kKs_V (l : List Nat) : (l.map kK).map kV = intsN l := by
  rw [List.map_map]
  rfl
theorem val2_no {l : List Nat} : ∀ {kvs : List (List Nat × Nat)}, l ∉ kvs.map (·.1) → valV (kvT2 kvs) (l.map kK) = none
  | [], _ => rfl
  | kc :: kvs, h => by
    rw [List.map_cons, List.mem_cons, not_or] at h
    exact (valV_neg (p := (kc.1.map kK, .int (kc.2 : Int))) fun e => h.1 (kKs_inj e).symm).trans (val2_no h.2)
theorem val2_yes {l : List Nat} {c : Nat} : ∀ {kvs : List (List Nat × Nat)}, (kvs.map (·.1)).Nodup → (l, c) ∈ kvs → valV (kvT2 kvs) (l.map kK) = some (.int (c : Int))
  | kc :: kvs, hn, h => by
    rw [List.map_cons, List.nodup_cons] at hn
    rcases List.mem_cons.mp h with rfl | h
    · exact valV_pos rfl
    · refine (valV_neg (p := (kc.1.map kK, .int (kc.2 : Int))) fun e => hn.1 ?_).trans (val2_yes hn.2 h)
      rw [kKs_inj e]
      exact List.mem_map.mpr ⟨_, h, rfl⟩
theorem put2_yes {l : List Nat} {c : Nat} {kvs : List (List Nat × Nat)} (hn : (kvs.map (·.1)).Nodup) (h : (l, c) ∈ kvs) (d : Nat) : putK (kvT2 kvs) (l.map kK) (.int (d : Int)) = kvT2 (kvs.map fun kv => if kv.1 = l then (kv.1, d) else kv) := by
  unfold putK
  rw [valV_any, val2_yes hn h]
  refine (if_pos rfl).trans ?_
  unfold kvT2
  rw [List.map_map, List.map_map]
  refine List.map_congr_left fun kc _ => ?_
  show (if kc.1.map kK = l.map kK then (kc.1.map kK, V.int (d : Int)) else (kc.1.map kK, V.int (kc.2 : Int))) = ((if kc.1 = l then (kc.1, d) else kc).1.map kK, V.int ((if kc.1 = l then (kc.1, d) else kc).2 : Int))
  by_cases e : kc.1 = l
  · rw [if_pos (by rw [e]), if_pos e]
  · rw [if_neg fun q => e (kKs_inj q), if_neg e]
theorem put2_no {l : List Nat} {kvs : List (List Nat × Nat)} (h : l ∉ kvs.map (·.1)) (d : Nat) : putK (kvT2 kvs) (l.map kK) (.int (d : Int)) = kvT2 (kvs ++ [(l, d)]) := by
  rw [putK_new _ (val2_no h)]
  unfold kvT2
  rw [List.map_append]
  rfl
theorem dp_items {K : PySem.W.Frag} {H : Hp} : ∀ {kvs : List (List Nat × Nat)} {ts : List Addr}, ts.length = (kvT2 kvs).length →
    (∀ (j : Nat) (t : Addr) (kv : List Key × V), ts[j]? = some t → (kvT2 kvs)[j]? = some kv → ∃ q, H t = some (.tup [.ref q, kv.2]) ∧ H q = some (.tup (kv.1.map kV))) → DpAll K H (ts.map V.ref) ((itOf kvs).map PySem.W.Datum.toD)
  | [], [], _, _ => .nil
  | [], _ :: _, h, _ => by cases h
  | _ :: _, [], h, _ => by cases h
  | kc :: kvs, t :: ts, h, g => by
    obtain ⟨q, h1, h2⟩ := g 0 t _ rfl rfl
    refine .cons (.tup (SqT.of h1) (.cons (.tup (SqT.of h2) ?_) (.cons (.int _) .nil))) (dp_items (Nat.succ.inj h) fun j t kv e1 e2 => g (j + 1) t kv e1 e2)
    show DpAll K H ((kc.1.map kK).map kV) _
    rw [kKs_V]
    exact dp_ints kc.1
theorem sqL_same {K : PySem.W.Frag} {H H' : Hp} {a : Addr} {xs : List V} (s : Same H H') (h : SqL K H a xs) : SqL K H' a xs := Same.seq s h
theorem sqT_same {K : PySem.W.Frag} {H H' : Hp} {a : Addr} {xs : List V} (s : Same H H') (h : SqT K H a xs) : SqT K H' a xs := by
  rcases h with h | h
  · refine .inl ?_
    unfold Rd at h ⊢
    rcases h with h | ⟨u, h⟩
    · exact .inl (s _ _ h)
    · exact .inr ⟨u, s _ _ h⟩
  · exact .inr h
mutual
theorem dp_same {K : PySem.W.Frag} {H H' : Hp} (s : Same H H') : ∀ {v : V} {d : PyData}, Dp K H v d → Dp K H' v d
  | _, _, .non => .non
  | _, _, .bl b => .bl b
  | _, _, .int i => .int i
  | _, _, .str x => .str x
  | _, _, .lst a b => .lst (sqL_same s a) (dpAll_same s b)
  | _, _, .tup a b => .tup (sqT_same s a) (dpAll_same s b)
theorem dpAll_same {K : PySem.W.Frag} {H H' : Hp} (s : Same H H') : ∀ {vs : List V} {ds : List PyData}, DpAll K H vs ds → DpAll K H' vs ds
  | _, _, .nil => .nil
  | _, _, .cons a b => .cons (dp_same s a) (dpAll_same s b)
end
theorem prsOf_succ (a : Nat) : prsOf (a + 1) = prsOf a ++ (List.range a).map fun b => (a, b) := by
  unfold prsOf
  rw [List.range_succ, List.flatMap_append]
  simp
theorem prsOf_len : ∀ n, (prsOf n).length ≤ n * n
  | 0 => by decide
  | n + 1 => by
    have := prsOf_len n
    rw [prsOf_succ, List.length_append, List.length_map, List.length_range, Nat.add_mul, Nat.mul_add]
    omega
theorem room4 {k : Nat} {A : Around} (r : Room k A) : A.units + 2 + 2 < cLine := by
  have := r.units
  omega
theorem room3 {k : Nat} {A : Around} (r : Room k A) : A.units + 3 < cLine := by
  have := r.units
  omega
section
variable {P : Program} {w : World} {K : PySem.W.Frag} {mg : Str → Option Value} {base : Heap}
theorem sc_rounds : FnScope ["tree", "one", "other", "table", "point"] ["tree", "one", "other"] (defScope s_rounds) := ⟨rfl, rfl, rfl, by decide +kernel, rfl, by decide +kernel, by decide +kernel⟩
def spRounds : Sp := fun vs H Q _ => ∃ v t, ∃ a b n : Nat, ∃ f, vs = [v, .int (a : Int), .int (b : Int)] ∧ TrAt H t v ∧ Sys t n f ∧ Sts n f ∧ n ≤ 60 ∧ a < n ∧ b < n ∧ a ≠ b ∧ ∀ p H', Same H H' → H' p = some (.lst (intsN (roundsOf n f a b))) → Q (.ref p) H'
theorem fc_rounds (T : Txt w K mg) : Fc P w K mg base 9 "rounds" ["tree", "one", "other"] spRounds := by
  have F_table_of := fc_table_of (P := P) (base := base) T
  have F_rounds_in := fc_rounds_in (P := P) (base := base) T
  refine mk_fc T.d_rounds sc_rounds (fun _ _ _ _ _ _ us hl => match us, hl with | [_, _, _], _ => rfl) (fun vs H Q E h => ?_) (fun f cdv A outer s H vs Q E hr h => ?_)
  · obtain ⟨v, t, a, b, n, f, rfl, _⟩ := h
    rfl
  · obtain ⟨v, t, a, b, n, g, rfl, hT, S, St, hn, ha, hb, hab, q⟩ := h
    refine ⟨_, (pss_cons (ps_set (i := 3) sc_rounds.nd rfl (Or.inl rfl) (pe_fc F_table_of hr rfl (pa_cons (pv 0) pa_nil)))
      (pss_cons (ps_for PassesOwn.never rfl (pi_tup (pe_tup (pa_cons (pv 1) (pa_cons (pv 2) pa_nil)))) (pg_name (i := 4) sc_rounds.nd rfl (Or.inl rfl))
      (pss_one (ps_if (pt_not (pt_chain op_le op_lt pe_int (pv 4) (pe_callB call_len_seq (by rfl) T.n_len (by decide +kernel) (pa_cons (pv 3) pa_nil)))) (pss_one ps_never) pss_nil)))
      (pss_cons (ps_if (pt_cmpR op_eq (pv 1) (pv 2) (nomark _)) (pss_one ps_never) pss_nil)
      (pss_one (ps_ret (pe_fc F_rounds_in hr rfl (pa_cons (pv 3) (pa_cons (pv 1) (pa_cons (pv 2) pa_nil))))))))), ?_⟩
    refine st_is (σ := [some _, some _, some _, none, none]) rfl ?_
    refine ⟨_, rfl, v, t, n, g, rfl, hT, S, St, hn, fun u H1 s1 hu => ?_⟩
    refine ⟨_, rfl, _, rfl, (by show 2 ≤ sizeLine; decide), fun p hp => ⟨p, rfl, ⟨_, SqT.of upd_same⟩, ?_⟩⟩
    have s2 := Same.trans s1 (Same.new (o := .tup [.int (a : Int), .int (b : Int)]) hp)
    have hu2 := hu.same (Same.new (o := .tup [.int (a : Int), .int (b : Int)]) hp)
    have hp2 : (upd H1 p (.tup [.int (a : Int), .int (b : Int)])) p = some (.tup [.int (a : Int), .int (b : Int)]) := upd_same
    generalize upd H1 p (.tup [.int (a : Int), .int (b : Int)]) = H2 at s2 hu2 hp2 ⊢
    obtain ⟨vp, vxs, hv, hvl, hvn⟩ := hu2.list (K := K)
    refine for_tup (K := K) (a := p) (xs := [.int (a : Int), .int (b : Int)]) (fun i σ H' => ∃ x4 : Option V, σ = [some v, some (.int (a : Int)), some (.int (b : Int)), some u, x4] ∧ H' = H2)
      ⟨none, rfl, rfl⟩ (fun i σ H' _ h => by
        obtain ⟨_, _, rfl⟩ := h
        exact SqT.of hp2) ?_ ?_
    · rintro i x σ H3 hx ⟨x4, rfl, rfl⟩
      have key : ∃ c : Nat, x = .int (c : Int) ∧ c < n := by
        match i, hx with
        | 0, hx => exact ⟨a, (Option.some.inj hx).symm, ha⟩
        | 1, hx => exact ⟨b, (Option.some.inj hx).symm, hb⟩
        | i + 2, hx => simp at hx
      obtain ⟨c, rfl, hc⟩ := key
      refine ⟨_, rfl, _, _, rfl, rfl, _, rfl, ite_yes (decide_eq_true (by omega)) ⟨_, rfl, vp, _, by rw [hv], .inl hvl, _, _, rfl, rfl, _, rfl, ?_⟩⟩
      refine ite_no ?_ ⟨_, rfl, rfl⟩
      rw [hvn, decide_eq_true (show (c : Int) < (n : Int) by omega)]
      rfl
    · rintro σ H3 ⟨x4, rfl, rfl⟩
      refine ⟨_, rfl, _, rfl, rfl, _, rfl, ite_no (dec_int_ne (by omega)) ?_⟩
      exact ⟨_, rfl, _, rfl, _, rfl, u, a, b, n, g, rfl, hu2, St, hn, ha, hb, fun p H' s' _ h' => q p H' (Same.trans s2 s') h'⟩
theorem sc_all_rounds : FnScope ["tree", "table", "found", "one", "other", "lengths"] ["tree"] (defScope s_all_rounds) := ⟨rfl, rfl, rfl, by decide +kernel, rfl, by decide +kernel, by decide +kernel⟩
def spAllRounds (K : PySem.W.Frag) : Sp := fun vs H Q _ => ∃ v t, ∃ n : Nat, ∃ f, vs = [v] ∧ TrAt H t v ∧ Sys t n f ∧ Sts n f ∧ n ≤ 60 ∧ ∀ p ys H', Same H H' → H' p = some (.lst ys) → DpAll K H' ys ((itD n f).map PySem.W.Datum.toD) → Q (.ref p) H'
theorem fc_all_rounds (T : Txt w K mg) : Fc P w K mg base 9 "all_rounds" ["tree"] (spAllRounds K) := by
  have F_table_of := fc_table_of (P := P) (base := base) T
  have F_rounds_in := fc_rounds_in (P := P) (base := base) T
  refine mk_fc T.d_all_rounds sc_all_rounds (fun _ _ _ _ _ _ us hl => match us, hl with | [_], _ => rfl) (fun vs H Q E h => ?_) (fun f cdv A outer s H vs Q E hr h => ?_)
  · obtain ⟨v, t, n, f, rfl, _⟩ := h
    rfl
  · obtain ⟨v, t, n, g, rfl, hT, S, St, hn, q⟩ := h
    have hu := hu_of hr
    refine ⟨_, (pss_cons (ps_set (i := 1) sc_all_rounds.nd rfl (Or.inl rfl) (pe_fc F_table_of hr rfl (pa_cons (pv 0) pa_nil)))
      (pss_cons (ps_set (i := 2) sc_all_rounds.nd rfl (Or.inl rfl) pe_dnewT)
      (pss_cons (ps_for PassesOwn.never rfl (pi_range1 (by rfl) T.n_range (pa_cons (pe_callB call_len_seq (by rfl) T.n_len (by decide +kernel) (pa_cons (pv 1) pa_nil)) pa_nil)) (pg_name (i := 3) sc_all_rounds.nd rfl (Or.inl rfl))
      (pss_one (ps_for PassesOwn.never rfl (pi_range1 (by rfl) T.n_range (pa_cons (pv 3) pa_nil)) (pg_name (i := 4) sc_all_rounds.nd rfl (Or.inl rfl))
        (pss_cons (ps_set (i := 5) sc_all_rounds.nd rfl (Or.inl rfl) (pe_callTy call_tuple_of (by rfl) T.n_tuple (by decide +kernel) (pa_cons (pe_fc F_rounds_in hr rfl (pa_cons (pv 1) (pa_cons (pv 3) (pa_cons (pv 4) pa_nil)))) pa_nil)))
          (pss_one (ps_dput hu (pv 2) (pv 5) (pe_op op_add (pe_dget2 hu (pv 2) (pv 5) pe_int ⟨rfl, rfl, rfl, rfl⟩) pe_int) rfl))))))
      (pss_one (ps_ret (pe_callB (cr_sortD (α := PySem.W.Tup Int × Int) (room4 hr)) (by rfl) T.n_sorted (by decide +kernel) (pa_cons (pe_callTy (cr_listView rfl) (by rfl) T.n_list (by decide +kernel) (pa_cons (pe_bm0 PySem.F.plainAttrs_dict PySem.F.slot_dict_items PySem.F.type_dict_items L2.DX.mt_itemsT (pv 2)) pa_nil)) pa_nil))))))), ?_⟩
    refine st_is (σ := [some _, none, none, none, none, none]) rfl ?_
    refine ⟨_, rfl, v, t, n, g, rfl, hT, S, St, hn, fun u H1 s1 hu1 => ?_⟩
    refine fun D hD => ?_
    have s2 := Same.trans s1 (Same.new (o := .dT []) hD)
    have hu2 := hu1.same (Same.new (o := .dT []) hD)
    have hD0 : H D = none := s1.free hD
    have d2 : (upd H1 D (.dT [])) D = some (.dT (kvT2 [])) := upd_same
    obtain ⟨vp, vxs, hv, hvl, hvn⟩ := hu2.list (K := K)
    refine ⟨_, rfl, vp, _, by rw [hv], .inl hvl, ?_⟩
    rw [hvn]
    refine ⟨n, rfl, by omega, by omega, ?_⟩
    refine for_range (n := n) (fun a σ H' => ∃ (x3 x4 x5 : Option V) (kvs : List (List Nat × Nat)), σ = [some v, some u, some (.ref D), x3, x4, x5] ∧ Same H1 H' ∧ H' D = some (.dT (kvT2 kvs)) ∧ Tally kvs ((prsOf a).map fun p => roundsOf n g p.1 p.2) ∧ kvs.length ≤ (prsOf a).length)
      ⟨none, none, none, [], rfl, Same.new hD, d2, Tally.nil, Nat.le_refl _⟩ ?_ ?_
    · rintro a σ H2 ha ⟨x3, x4, x5, kvs0, rfl, s3, d3, TA, lA⟩
      rw [Int.zero_add]
      refine ⟨_, rfl, (a : Int), rfl, by omega, by omega, ?_⟩
      refine for_range (n := a) (fun b σ H' => ∃ (x4 x5 : Option V) (kvs : List (List Nat × Nat)), σ = [some v, some u, some (.ref D), some (.int (a : Int)), x4, x5] ∧ Same H1 H' ∧ H' D = some (.dT (kvT2 kvs)) ∧ Tally kvs (((prsOf a).map fun p => roundsOf n g p.1 p.2) ++ (List.range b).map fun b => roundsOf n g a b) ∧ kvs.length ≤ (prsOf a).length + b)
        ⟨x4, x5, kvs0, rfl, s3, d3, by simpa using TA, lA⟩ ?_ ?_
      · rintro b σ H3 hb ⟨y4, y5, kvs, rfl, s4, d4, TB, lB⟩
        rw [Int.zero_add]
        have hbn : b < n := Nat.lt_trans hb ha
        refine ⟨_, rfl, _, rfl, _, rfl, u, a, b, n, g, rfl, hu1.same s4, St, hn, ha, hbn, fun p H4 s5 hpn hp => ?_⟩
        refine ⟨p, _, rfl, .inl ⟨SqL.of hp, fun l hl => ?_⟩⟩
        have s6 := Same.trans s5 (Same.new (o := .tup (intsN (roundsOf n g a b))) hl)
        have d6 := s6 _ _ d4
        have e6 : (upd H4 l (.tup (intsN (roundsOf n g a b)))) l = some (.tup (((roundsOf n g a b).map kK).map kV)) := by rw [upd_same, kKs_V]
        generalize upd H4 l (.tup (intsN (roundsOf n g a b))) = H5 at s6 d6 e6 ⊢
        have hsz : kvs.length < 100000 := by
          have h1 := prsOf_len a
          have h2 : a * a ≤ 60 * 60 := Nat.mul_le_mul (by omega) (by omega)
          omega
        have hsz2 : (kvT2 kvs).length < sizeLine := szlt (by unfold kvT2; rw [List.length_map]; exact hsz)
        have eM : ((List.range (b + 1)).map fun b => roundsOf n g a b) = ((List.range b).map fun b => roundsOf n g a b) ++ [roundsOf n g a b] := by
          rw [List.range_succ, List.map_append]
          rfl
        rw [eM, ← List.append_assoc]
        generalize roundsOf n g a b = R at *
        refine ⟨_, rfl, D, rfl, .inr ⟨_, .inl d6⟩, _, rfl, _, DGet.t d6 e6, ?_⟩
        by_cases hm : R ∈ kvs.map (·.1)
        · obtain ⟨⟨R', c⟩, hm2, hR⟩ := List.mem_map.mp hm
          have hR : R' = R := hR
          subst hR
          rw [val2_yes TB.nd hm2]
          refine ⟨_, _, rfl, rfl, ?_⟩
          refine ⟨_, rfl, _, rfl, D, _, rfl, DPut.t d6 e6 hsz2, ?_⟩
          refine ⟨_, _, _, rfl, Same.put (Same.trans s4 s6) hD, ?_, TB.more hm2, ?_⟩
          · rw [upd_same]
            exact congrArg (fun x => some (HO.dT x)) (put2_yes TB.nd hm2 (c + 1))
          · rw [List.length_map]
            omega
        · rw [val2_no hm]
          refine ⟨_, _, rfl, rfl, ?_⟩
          refine ⟨_, rfl, _, rfl, D, _, rfl, DPut.t d6 e6 hsz2, ?_⟩
          refine ⟨_, _, _, rfl, Same.put (Same.trans s4 s6) hD, ?_, TB.new hm, ?_⟩
          · rw [upd_same]
            exact congrArg (fun x => some (HO.dT x)) (put2_no hm 1)
          · rw [List.length_append, List.length_singleton]
            omega
      · rintro σ H3 ⟨y4, y5, kvs, rfl, s4, d4, TB, lB⟩
        refine ⟨_, _, _, kvs, rfl, s4, d4, ?_, ?_⟩
        · rw [prsOf_succ, List.map_append, List.map_map]
          exact TB
        · rw [prsOf_succ, List.length_append, List.length_map, List.length_range]
          exact lB
    · rintro σ H2 ⟨x3, x4, x5, kvs, rfl, s3, d3, TA, lA⟩
      have s4 := Same.trans (Same.trans s1 (Same.refl _)) s3
      refine ⟨_, rfl, .inr (.inr (.inl ⟨rfl, .inr ⟨_, d3⟩⟩)), D, _, rfl, rfl, d3, fun w hw => ?_⟩
      have nDw : D ≠ w := ne_of_none d3 hw
      refine ⟨w, D, _, rfl, upd_same, by rw [upd_ne nDw]; exact d3, fun H' l ts s5 hl5 hlen hts => ?_⟩
      have s6 := Same.trans (Same.new (o := L2.DX.itemsO w D) hw) s5
      refine ⟨l, _, itOf kvs, rfl, SqL.of hl5, dp_items hlen hts, PySem.W.Sortable.tuples fun b => ⟨_, _, rfl⟩, fun p ys hp hys => ?_⟩
      refine q p ys _ (Same.trans s4 (Same.trans s6 (Same.new hp))) upd_same ?_
      have e : itD n g = sortD (itOf kvs) := sortD_perm (((tal_ok _).perm TA (.refl _)).map _)
      rw [e]
      exact dpAll_same (Same.new hp) hys
end
end PK
end

section
namespace PK
open PySem PySem.Spec PyProof.Rows L2
theorem room1 {k : Nat} {A : Around} (r : Room k A) : A.units + 1 < cLine := hu_of r
theorem room5 {k : Nat} {A : Around} (r : Room k A) : A.units + 4 < cLine := by
  have := r.units
  omega
section
variable {P : Program} {w : World} {K : PySem.W.Frag} {mg : Str → Option Value} {base : Heap}
theorem sc_counts_of : FnScope ["tree"] ["tree"] (defScope s_counts_of) := ⟨rfl, rfl, rfl, by decide +kernel, rfl, by decide +kernel, by decide +kernel⟩
def spCounts (K : PySem.W.Frag) : Sp := fun vs H Q _ => ∃ v t, ∃ n : Nat, ∃ f, vs = [v] ∧ TrAt H t v ∧ Sys t n f ∧ Sts n f ∧ n ≤ 60 ∧ ∀ u H', Same H H' → Dp K H' u (PySem.W.Datum.toD (countsD n f)) → Q u H'
theorem fc_counts_of (T : Txt w K mg) : Fc P w K mg base 10 "counts_of" ["tree"] (spCounts K) := by
  have F_table_of := fc_table_of (P := P) (base := base) T
  have F_fours := fc_fours (P := P) (base := base) T
  have F_all_rounds := fc_all_rounds (P := P) (base := base) T
  refine mk_fc T.d_counts_of sc_counts_of (fun _ _ _ _ _ _ us hl => match us, hl with | [_], _ => rfl) (fun vs H Q E h => ?_) (fun f cdv A outer s H vs Q E hr h => ?_)
  · obtain ⟨v, t, n, f, rfl, _⟩ := h
    rfl
  · obtain ⟨v, t, n, g, rfl, hT, S, St, hn, q⟩ := h
    refine ⟨_, (pss_one (ps_ret (pe_tup (pa_cons (pe_callB call_len_seq (by rfl) T.n_len (by decide +kernel) (pa_cons (pe_fc F_table_of hr rfl (pa_cons (pv 0) pa_nil)) pa_nil)) (pa_cons (pe_callTy call_tuple_of (by rfl) T.n_tuple (by decide +kernel) (pa_cons (pe_callB cr_sortedI (by rfl) T.n_sorted (by decide +kernel) (pa_cons (pe_fc F_fours hr rfl (pa_cons (pv 0) pa_nil)) pa_nil)) pa_nil)) (pa_cons (pe_callTy call_tuple_of (by rfl) T.n_tuple (by decide +kernel) (pa_cons (pe_fc F_all_rounds hr rfl (pa_cons (pv 0) pa_nil)) pa_nil)) pa_nil)))))), ?_⟩
    refine st_is (σ := [some _]) rfl ?_
    refine ⟨_, rfl, v, t, n, g, rfl, hT, S, St, hn, fun u H1 s1 hu1 => ?_⟩
    obtain ⟨vp, vxs, hv, hvl, hvn⟩ := hu1.list (K := K)
    refine ⟨vp, _, by rw [hv], .inl hvl, ?_⟩
    rw [hvn]
    refine ⟨_, rfl, v, t, n, g, rfl, hT.keep (Same.tups s1), S, St, hn, fun p2 H2 s2 hp2 => ?_⟩
    refine ⟨p2, (foursOf n g).map fun x : Nat => (x : Int), rfl, SqL.of (by rw [ints_map]; exact hp2), fun ns p3 hperm hsort hp3 => ?_⟩
    obtain rfl := sI_is hperm hsort
    refine ⟨p3, _, rfl, .inl ⟨SqL.of upd_same, fun p4 hp4 => ?_⟩⟩
    have s4 := Same.trans s2 (Same.trans (Same.new (o := .lst ((sI (foursOf n g)).map V.int)) hp3) (Same.new (o := .tup ((sI (foursOf n g)).map V.int)) hp4))
    have e4 : (upd (upd H2 p3 (.lst ((sI (foursOf n g)).map V.int))) p4 (.tup ((sI (foursOf n g)).map V.int))) p4 = some (.tup ((sI (foursOf n g)).map V.int)) := upd_same
    generalize upd (upd H2 p3 (.lst ((sI (foursOf n g)).map V.int))) p4 (.tup ((sI (foursOf n g)).map V.int)) = H4 at s4 e4 ⊢
    refine ⟨_, rfl, v, t, n, g, rfl, (hT.keep (Same.tups s1)).keep (Same.tups s4), S, St, hn, fun p5 ys H5 s5 hp5 hys => ?_⟩
    refine ⟨p5, _, rfl, .inl ⟨SqL.of hp5, fun p6 hp6 => ?_⟩⟩
    have s6 := Same.trans s5 (Same.new (o := .tup ys) hp6)
    have e6 : (upd H5 p6 (.tup ys)) p6 = some (.tup ys) := upd_same
    have y6 := dpAll_same (Same.new (o := .tup ys) hp6) hys
    generalize upd H5 p6 (.tup ys) = H6 at s6 e6 y6 ⊢
    refine ⟨(by show 3 ≤ sizeLine; decide), fun p7 hp7 => ?_⟩
    have s7 := Same.new (o := .tup [.int (n : Int), .ref p4, .ref p6]) hp7
    refine q _ _ (Same.trans s1 (Same.trans s4 (Same.trans s6 s7))) ?_
    exact .tup (SqT.of upd_same) (.cons (.int _) (.cons (.tup (SqT.of (s7 _ _ (s6 _ _ e4))) (dp_intsI _)) (.cons (.tup (SqT.of (s7 _ _ e6)) (dpAll_same s7 y6)) .nil)))
theorem sc_shows_unlike : FnScope ["one", "other"] ["one", "other"] (defScope s_shows_unlike) := ⟨rfl, rfl, rfl, by decide +kernel, rfl, by decide +kernel, by decide +kernel⟩
def spUnlike : Sp := fun vs H Q _ => ∃ v t v2 t2, ∃ n m : Nat, ∃ f g, vs = [v, v2] ∧ TrAt H t v ∧ Sys t n f ∧ Sts n f ∧ n ≤ 60 ∧ TrAt H t2 v2 ∧ Sys t2 m g ∧ Sts m g ∧ m ≤ 60 ∧ ∀ H', Same H H' → Q (.bl (decide (countsD n f ≠ countsD m g))) H'
theorem fc_shows_unlike (T : Txt w K mg) : Fc P w K mg base 11 "shows_unlike" ["one", "other"] spUnlike := by
  have F_counts_of := fc_counts_of (P := P) (base := base) T
  refine mk_fc T.d_shows_unlike sc_shows_unlike (fun _ _ _ _ _ _ us hl => match us, hl with | [_, _], _ => rfl) (fun vs H Q E h => ?_) (fun f cdv A outer s H vs Q E hr h => ?_)
  · obtain ⟨v, t, v2, t2, n, m, f, g, rfl, _⟩ := h
    rfl
  · obtain ⟨v, t, v2, t2, n, m, f1, g, rfl, hT, S, St, hn, hT2, S2, St2, hm, q⟩ := h
    refine ⟨_, (pss_one (ps_ret (pe_cmpR (op_neDat (α := PySem.W.T3 Int (PySem.W.Tup Int) (PySem.W.Tup (PySem.W.Tup Int × Int))) (room5 hr)) (pe_fc F_counts_of hr rfl (pa_cons (pv 0) pa_nil)) (pe_fc F_counts_of hr rfl (pa_cons (pv 1) pa_nil)) (nomark _)))), ?_⟩
    refine st_is (σ := [some _, some _]) rfl ?_
    refine ⟨_, rfl, v, t, n, f1, rfl, hT, S, St, hn, fun u H1 s1 hu => ?_⟩
    refine ⟨_, rfl, v2, t2, m, g, rfl, hT2.keep (Same.tups s1), S2, St2, hm, fun u2 H2 s2 hu2 => ?_⟩
    exact ⟨_, _, dp_same s2 hu, hu2, q H2 (Same.trans s1 s2)⟩
end
end PK
end

section
namespace PK
open PySem PySem.Spec PyProof.Rows L2
/-- a store to what is no list leaves a table -/
theorem TblAt.put {H : Hp} {v : V} {n : Nat} {f : Nat → Nat → Nat} {d : Addr} {o : HO} (h : TblAt H v n f) (hd : ∀ xs, H d ≠ some (.lst xs)) : TblAt (upd H d o) v n f := by
  obtain ⟨p, rs, e, h1, h2, h3⟩ := h
  refine ⟨p, rs, e, ?_, h2, fun a r q => ?_⟩
  · rw [upd_ne]
    · exact h1
    · rintro rfl
      exact hd _ h1
  · rw [upd_ne]
    · exact h3 a r q
    · rintro rfl
      exact hd _ (h3 a r q)
/-- the dict that stood locked stands again -/
theorem Same.unlock {H H' : Hp} {d : Addr} {u w : HO} (s : Same (upd H d w) H') (hd : H d = some u) : Same H (upd H' d u) := fun b o e => by
  by_cases h : b = d
  · subst h
    rw [hd] at e
    rw [upd_same]
    exact e
  · rw [upd_ne h]
    exact s _ _ (by rw [upd_ne h]; exact e)
/-- a comprehension over the keys of a locked dict, its values known -/
theorem lc_keysV {kvs : List (Key × V)} {d : Addr} {od : Obj} {i : Nat} {te : TE} {σ : L2.St} {H1 : Hp} {D : Addr} {Qd : Hp → Prop} (gv : Key × V → V) (hD : H1 D = none) (hf : H1 d = some (.frz od (.dK kvs))) (hz : kvs.length ≤ 1000)
    (hs : ∀ kv H2, kv ∈ kvs → Same H1 H2 → ∀ q : VK, q (gv kv) H2 → te ((wipe σ [i]).set i (some (kV kv.1))) H2 q) (hw : ∀ x, wipe ((wipe σ [i]).set i (some x)) [i] = wipe σ [i])
    (hd : ∀ H2, Same H1 H2 → H2 D = some (.lst (kvs.map gv)) → Qd H2) :
    ∃ W : Nat → Nat → Hp → Prop, (∃ m, W 0 m (upd H1 D (.lst []))) ∧ ∀ i' m H, W i' m H →
      ((Itk d od kvs).stop i' H ∧ Qd H) ∨ ((Itk d od kvs).go i' H ∧ ∃ Nx : Hp → Prop, (∀ H', Nx H' → ∃ m', m' < m ∧ W (i' + 1) m' H') ∧ ∀ x H', (Itk d od kvs).yld i' H x H' → gName i x (wipe σ [i]) H' fun σ2 H2 => wipe σ2 [i] = wipe σ [i] ∧ tYes σ2 H2 fun b H3 =>
        if b = true then te σ2 H3 fun y H4 => ∃ acc, H4 D = some (.lst acc) ∧ acc.length < sizeLine ∧ Nx (upd H4 D (.lst (acc ++ [y]))) else Nx H3) := by
  refine lc_it (n := kvs.length) walk_keys (fun j H2 => Same H1 H2 ∧ H2 D = some (.lst ((kvs.take j).map gv))) ⟨Same.new hD, upd_same⟩ (fun j H2 _ h => h.1 _ _ hf) ?_ fun H2 h => hd H2 h.1 (by rw [h.2, List.take_length])
  rintro j x H2 H3 hj ⟨s1, h2⟩ ⟨e3, k, v, hk, rfl⟩
  subst e3
  refine ⟨hw _, ?_⟩
  show te ((wipe σ [i]).set i (some (kV k))) _ _
  refine hs (k, v) _ (List.mem_of_getElem? hk) s1 _ ⟨_, h2, ?_, Same.put s1 hD, ?_⟩
  · rw [List.length_map, List.length_take]
    exact szlt (by omega)
  · rw [upd_same, List.take_succ, hk, List.map_append]
    rfl
theorem intsN_last (ws : List Nat) (x : Nat) : (intsN (ws ++ [x]))[(intsN (ws ++ [x])).length - 1]? = some (.int (x : Int)) := by
  unfold intsN
  rw [List.map_append, List.length_append, List.getElem?_append_right (by simp)]
  simp
theorem intsN_drop (ws : List Nat) (x : Nat) : (intsN (ws ++ [x])).dropLast = intsN ws := by
  unfold intsN
  rw [List.map_append]
  simp
theorem intsN_app (a b : List Nat) : intsN a ++ intsN b = intsN (a ++ b) := by
  unfold intsN
  rw [List.map_append]
theorem intsN_len (a : List Nat) : (intsN a).length = a.length := by
  unfold intsN
  rw [List.length_map]
theorem kvT_len (a : List Nat) : (kvT a).length = a.length := by
  unfold kvT
  rw [List.length_map]
theorem len_lt {l : List Nat} {n : Nat} (hn : l.Nodup) (h : ∀ x ∈ l, x < n) : l.length ≤ n := by
  have q := List.Nodup.length_le_of_subset hn (l₂ := List.range n) fun x hx => List.mem_range.mpr (h x hx)
  rw [List.length_range] at q
  exact q
section
variable {P : Program} {w : World} {K : PySem.W.Frag} {mg : Str → Option Value} {base : Heap}
theorem sc_closure_in : FnScope ["table", "points", "found", "waiting", "point", "other"] ["table", "points"] (defScope s_closure_in) := ⟨rfl, rfl, rfl, by decide +kernel, rfl, by decide +kernel, by decide +kernel⟩
def spClosure : Sp := fun vs H Q _ => ∃ v q, ∃ n : Nat, ∃ f, ∃ ps : List Nat, vs = [v, .ref q] ∧ TblAt H v n f ∧ Sts n f ∧ n ≤ 60 ∧ H q = some (.lst (intsN ps)) ∧ (∀ x ∈ ps, x < n) ∧ ps.length ≤ 100 ∧
  ∀ p keys H', Same H H' → H p = none → H' p = some (.dK (kvT keys)) → (∀ x ∈ keys, x < n ∧ Gen n f ps x) → Q (.ref p) H'
theorem fc_closure_in (T : Txt w K mg) : Fc P w K mg base 1 "closure_in" ["table", "points"] spClosure := by
  refine mk_fc T.d_closure_in sc_closure_in (fun _ _ _ _ _ _ us hl => match us, hl with | [_, _], _ => rfl) (fun vs H Q E h => ?_) (fun f cdv A outer s H vs Q E hr h => ?_)
  · obtain ⟨v, q, n, f, ps, rfl, _⟩ := h
    rfl
  · obtain ⟨v, q, n, g, ps, rfl, hT, S, hn, hq, hb, hbl, k⟩ := h
    have hu := hu_of hr
    refine ⟨_, (pss_cons (ps_set (i := 2) sc_closure_in.nd rfl (Or.inl rfl) pe_dnewK)
      (pss_cons (ps_set (i := 3) sc_closure_in.nd rfl (Or.inl rfl) (pe_callTy call_list_of (by rfl) T.n_list (by decide +kernel) (pa_cons (pv 1) pa_nil)))
      (pss_cons (ps_while PassesOwn.never (pt_truth (pv 3) (by intro _; rfl))
      (pss_cons (ps_set (i := 4) sc_closure_in.nd rfl (Or.inr rfl) (pe_bm0 PySem.F.plainAttrs_list PySem.F.slot_list_pop PySem.F.type_list_pop mt_pop (pv 3)))
        (pss_one (ps_if (pt_cmp (pc_dnotin hu (pv 4) (pv 2))) (pss_cons (ps_expr (pe_bm PySem.F.plainAttrs_list PySem.F.slot_list_extend PySem.F.type_list_extend mt_extend (pv 3) (pa_cons (pe_lock (pe_lc (own := [("other", 5)]) (g := gName 5) (tt := tYes) rfl sc_closure_in.nd (pi_keys (pv 2)) (blkOk_by (by kernel_rfl)) (fun _ _ _ _ _ => (pg_name (i := 5) sc_closure_in.nd rfl (Or.inl rfl))) (fun _ _ _ _ _ => pts_nil) (fun _ _ _ _ _ => (pe_ix (r := rIxL K) ix_list (pe_ix (r := rIxL K) ix_list (pv 0) (pv 4) (fun _ _ => rfl)) (pv 5) (fun _ _ => rfl))))) pa_nil)))
          (pss_one (ps_dput hu (pv 2) (pv 4) pe_bl rfl))) pss_nil))))
      (pss_one (ps_ret (pv 2)))))), ?_⟩
    refine st_is (σ := [some _, some _, none, none, none, none]) rfl ?_
    refine fun D hD => ?_
    have d1 : (upd H D (.dK [])) D = some (.dK (kvT [])) := upd_same
    have s1 := Same.new (o := .dK []) hD
    generalize upd H D (.dK []) = H1 at d1 s1 ⊢
    refine ⟨_, rfl, q, _, rfl, .inl (SqL.of (s1 _ _ hq)), fun L hL => ?_⟩
    have hL0 : H L = none := s1.free hL
    have nDL : D ≠ L := ne_of_none d1 hL
    have d2 : (upd H1 L (.lst (intsN ps))) D = some (.dK (kvT [])) := by rw [upd_ne nDL]; exact d1
    have s2 := Same.trans s1 (Same.new (o := .lst (intsN ps)) hL)
    have e2 : (upd H1 L (.lst (intsN ps))) L = some (.lst (intsN ps)) := upd_same
    generalize upd H1 L (.lst (intsN ps)) = H2 at d2 s2 e2 ⊢
    refine ⟨fun m σ H' => ∃ (keys ws : List Nat) (x4 : Option V), m = (n - keys.length) * (n + 1) + ws.length ∧ σ = [some v, some (.ref q), some (.ref D), some (.ref L), x4, none] ∧ Same H H' ∧ H' D = some (.dK (kvT keys)) ∧ H' L = some (.lst (intsN ws)) ∧ keys.Nodup ∧
        (∀ x ∈ keys, x < n ∧ Gen n g ps x) ∧ (∀ x ∈ ws, x < n ∧ Gen n g ps x) ∧ ws.length ≤ 100 + keys.length * n,
      ⟨_, [], ps, none, rfl, rfl, s2, d2, e2, List.nodup_nil, fun x h => by simp at h, fun x h => ⟨hb x h, Gen.mem h⟩, by simpa using hbl⟩, ?_⟩
    rintro m σ H3 ⟨keys, ws, x4, rfl, rfl, s3, d3, e3, kn, kg, wg, wl⟩
    refine ⟨_, rfl, _, .inl ⟨_, SqL.of e3, rfl⟩, ?_⟩
    rcases List.eq_nil_or_concat ws with rfl | ⟨ws', x, rfl⟩
    · refine ite_no rfl ?_
      exact ⟨_, rfl, k D keys H3 s3 hD d3 kg⟩
    · rw [List.concat_eq_append] at *
      refine ite_yes (by unfold intsN; rw [List.map_append]; simp) ?_
      refine ⟨_, fun _ _ h => h, ?_⟩
      have hD0 : H D = none := hD
      have klen : keys.length ≤ n := len_lt kn fun x h => (kg x h).1
      have kmul : keys.length * n ≤ 60 * 60 := Nat.mul_le_mul (by omega) (by omega)
      obtain ⟨hxn, hxg⟩ := wg x (List.mem_append_right _ (List.mem_singleton.mpr rfl))
      -- point = waiting.pop()
      refine ⟨_, rfl, .inl ⟨rfl, _, SqL.of e3⟩, L, _, _, rfl, rfl, e3, intsN_last ws' x, ?_⟩
      rw [intsN_drop]
      have s4 := Same.put (o := .lst (intsN ws')) s3 hL0
      have d4 : (upd H3 L (.lst (intsN ws'))) D = some (.dK (kvT keys)) := by rw [upd_ne nDL]; exact d3
      have e4 : (upd H3 L (.lst (intsN ws'))) L = some (.lst (intsN ws')) := upd_same
      generalize upd H3 L (.lst (intsN ws')) = H4 at s4 d4 e4 ⊢
      refine ⟨_, rfl, _, rfl, D, _, rfl, DGet.k (k := kK x) d4, ?_⟩
      rw [valT]
      refine ⟨_, rfl, ?_⟩
      by_cases hin : x ∈ keys
      · rw [if_pos hin]
        refine ite_no rfl ?_
        refine ⟨_, ?_, keys, ws', some (.int (x : Int)), rfl, rfl, s4, d4, e4, kn, kg, fun y h => wg y (List.mem_append_left _ h), ?_⟩
        · rw [List.length_append, List.length_singleton]
          omega
        · rw [List.length_append, List.length_singleton] at wl
          omega
      · rw [if_neg hin]
        refine ite_yes rfl ?_
        -- waiting.extend(..)
        refine ⟨_, rfl, .inl ⟨rfl, _, SqL.of e4⟩, ?_⟩
        refine ⟨D, .dK (kvT keys), d4, True.intro, fun od => ?_⟩
        have hT5 : TblAt (upd H4 D (.frz od (.dK (kvT keys)))) v n g := (hT.same s4).put fun xs e => by rw [d4] at e; cases e
        have f5 : (upd H4 D (.frz od (.dK (kvT keys)))) D = some (.frz od (.dK (kvT keys))) := upd_same
        refine ⟨_, rfl, D, od, rfl, .inl ⟨kvT keys, f5, fun Z hZ => ?_⟩⟩
        refine lc_keysV (fun kv => match kv.1 with | .inl z => V.int ((g x z.toNat : Nat) : Int) | .inr _ => V.non) hZ f5 (by rw [kvT_len]; omega) (fun kv H6 hkv s6 qq hq => ?_) (fun _ => rfl) fun H6 s6 z6 => ?_
        · obtain ⟨y, hy, rfl⟩ := List.mem_map.mp hkv
          exact ⟨_, rfl, _, rfl, (hT5.same s6).get hxn (kg y hy).1 (fun q hq => ⟨_, rfl, hq⟩) hq⟩
        · have ez : (kvT keys).map (fun kv : Key × V => match kv.1 with | .inl z => V.int ((g x z.toNat : Nat) : Int) | .inr _ => V.non) = intsN (keys.map (g x)) := by
            unfold kvT intsN
            rw [List.map_map, List.map_map]
            rfl
          rw [ez] at z6
          refine ⟨s6 _ _ f5, ?_⟩
          have s7 := Same.unlock s6 d4
          have nZD : Z ≠ D := fun e => by rw [e, f5] at hZ; cases hZ
          have z7 : (upd H6 D (.dK (kvT keys))) Z = some (.lst (intsN (keys.map (g x)))) := by rw [upd_ne nZD]; exact z6
          have d7 : (upd H6 D (.dK (kvT keys))) D = some (.dK (kvT keys)) := upd_same
          generalize upd H6 D (.dK (kvT keys)) = H7 at s7 z7 d7 ⊢
          have e7 := s7 _ _ e4
          have hle : (intsN ws').length + (intsN (keys.map (g x))).length < 100000 := by
            rw [intsN_len, intsN_len, List.length_map]
            rw [List.length_append] at wl
            omega
          refine ⟨L, Z, _, _, rfl, rfl, e7, z7, Nat.le_of_lt (szlt hle), ?_⟩
          rw [intsN_app]
          have d8 : (upd H7 L (.lst (intsN (ws' ++ keys.map (g x))))) D = some (.dK (kvT keys)) := by rw [upd_ne nDL]; exact d7
          have e8 : (upd H7 L (.lst (intsN (ws' ++ keys.map (g x))))) L = some (.lst (intsN (ws' ++ keys.map (g x)))) := upd_same
          have s8 := Same.put (o := .lst (intsN (ws' ++ keys.map (g x)))) (Same.trans s4 s7) hL0
          generalize upd H7 L (.lst (intsN (ws' ++ keys.map (g x)))) = H8 at s8 d8 e8 ⊢
          -- found[point] = True
          refine ⟨_, rfl, _, rfl, D, _, rfl, DPut.k (k := kK x) d8 (szlt (by rw [kvT_len]; omega)), ?_⟩
          rw [putT hin]
          have kn2 : (keys ++ [x]).Nodup := List.nodup_append.mpr ⟨kn, by simp, fun a ha b hb => by
            rw [List.mem_singleton.mp hb]
            rintro rfl
            exact hin ha⟩
          have kg2 : ∀ y ∈ keys ++ [x], y < n ∧ Gen n g ps y := fun y hy => (List.mem_append.mp hy).elim (kg y) fun h => by rw [List.mem_singleton.mp h]; exact ⟨hxn, hxg⟩
          have klen2 := len_lt kn2 fun y h => (kg2 y h).1
          rw [List.length_append, List.length_singleton] at klen2 wl
          refine ⟨_, ?_, keys ++ [x], ws' ++ keys.map (g x), some (.int (x : Int)), rfl, rfl, Same.put s8 hD0, upd_same, by rw [upd_ne (Ne.symm nDL)]; exact e8, kn2, kg2, fun y hy => ?_, ?_⟩
          · rw [List.length_append, List.length_append, List.length_append, List.length_map, List.length_singleton]
            obtain ⟨j, hj⟩ : ∃ j, n - keys.length = j + 1 := ⟨n - keys.length - 1, by omega⟩
            rw [show n - (keys.length + 1) = j by omega, hj, Nat.add_mul]
            omega
          · rcases List.mem_append.mp hy with hy | hy
            · exact wg y (List.mem_append_left _ hy)
            · obtain ⟨z, hz, rfl⟩ := List.mem_map.mp hy
              exact ⟨S.lt _ _ hxn (kg z hz).1, Gen.mk hxg (kg z hz).2 hxn (kg z hz).1⟩
          · rw [List.length_append, List.length_append, List.length_map, List.length_singleton, Nat.add_mul]
            omega
theorem sc_base_in : FnScope ["table", "base", "made", "point"] ["table"] (defScope s_base_in) := ⟨rfl, rfl, rfl, by decide +kernel, rfl, by decide +kernel, by decide +kernel⟩
def spBase : Sp := fun vs H Q _ => ∃ v, ∃ n : Nat, ∃ f, vs = [v] ∧ TblAt H v n f ∧ Sts n f ∧ n ≤ 60 ∧
  ∀ p bs H', Same H H' → H p = none → H' p = some (.lst (intsN bs)) → (∀ x ∈ bs, x < n) → (∀ q, q < n → Gen n f bs q) → bs.length ≤ n → Q (.ref p) H'
theorem fc_base_in (T : Txt w K mg) : Fc P w K mg base 2 "base_in" ["table"] spBase := by
  have F_closure_in := fc_closure_in (P := P) (base := base) T
  refine mk_fc T.d_base_in sc_base_in (fun _ _ _ _ _ _ us hl => match us, hl with | [_], _ => rfl) (fun vs H Q E h => ?_) (fun f cdv A outer s H vs Q E hr h => ?_)
  · obtain ⟨v, n, f, rfl, _⟩ := h
    rfl
  · obtain ⟨v, n, g, rfl, hT, S, hn, k⟩ := h
    have hu := hu_of hr
    refine ⟨_, (pss_cons (ps_set (i := 1) sc_base_in.nd rfl (Or.inl rfl) (pe_lst pa_nil))
      (pss_cons (ps_set (i := 2) sc_base_in.nd rfl (Or.inl rfl) pe_dnewK)
      (pss_cons (ps_for PassesOwn.never rfl (pi_range1 (by rfl) T.n_range (pa_cons (pe_callB call_len_seq (by rfl) T.n_len (by decide +kernel) (pa_cons (pv 0) pa_nil)) pa_nil)) (pg_name (i := 3) sc_base_in.nd rfl (Or.inl rfl))
      (pss_one (ps_if (pt_cmp (pc_dnotin hu (pv 3) (pv 2))) (pss_cons (ps_expr (pe_bm PySem.F.plainAttrs_list PySem.F.slot_list_append PySem.F.type_list_append mt_append (pv 1) (pa_cons (pv 3) pa_nil)))
          (pss_one (ps_set (i := 2) sc_base_in.nd rfl (Or.inl rfl) (pe_fc F_closure_in hr rfl (pa_cons (pv 0) (pa_cons (pv 1) pa_nil)))))) pss_nil)))
      (pss_one (ps_ret (pv 1)))))), ?_⟩
    refine st_is (σ := [some _, none, none, none]) rfl ?_
    refine ⟨Nat.zero_le _, fun B hB => ?_⟩
    have hB0 : H B = none := hB
    have s1 := Same.new (o := .lst []) hB
    have e1 : (upd H B (.lst [])) B = some (.lst (intsN [])) := upd_same
    generalize upd H B (.lst []) = H1 at s1 e1 ⊢
    refine fun M hM => ?_
    have nBM : B ≠ M := ne_of_none e1 hM
    have hM0 : H M = none := s1.free hM
    have s2 := Same.trans s1 (Same.new (o := .dK []) hM)
    have e2 : (upd H1 M (.dK [])) B = some (.lst (intsN [])) := by rw [upd_ne nBM]; exact e1
    have m2 : (upd H1 M (.dK [])) M = some (.dK (kvT [])) := upd_same
    generalize upd H1 M (.dK []) = H2 at s2 e2 m2 ⊢
    obtain ⟨vp, vxs, hv, hvl, hvn⟩ := (hT.same s2).list (K := K)
    refine ⟨_, rfl, vp, _, by rw [hv], .inl hvl, ?_⟩
    rw [hvn]
    refine ⟨n, rfl, by omega, by omega, ?_⟩
    refine for_range (n := n) (fun i σ H' => ∃ (bs keys : List Nat) (M : Addr) (x3 : Option V), σ = [some v, some (.ref B), some (.ref M), x3] ∧ Same H H' ∧ H' B = some (.lst (intsN bs)) ∧ H' M = some (.dK (kvT keys)) ∧
        (∀ x ∈ bs, x < n) ∧ bs.length ≤ i ∧ (∀ x ∈ keys, x < n ∧ Gen n g bs x) ∧ ∀ q, q < i → Gen n g bs q)
      ⟨[], [], M, none, rfl, s2, e2, m2, fun x h => by simp at h, Nat.le_refl _, fun x h => by simp at h, fun q h => absurd h (Nat.not_lt_zero _)⟩ ?_ ?_
    · rintro i σ H3 hi ⟨bs, keys, M, x3, rfl, s3, e3, m3, hb, hl, hk, hg⟩
      rw [Int.zero_add]
      refine ⟨_, rfl, _, rfl, M, _, rfl, DGet.k (k := kK i) m3, ?_⟩
      rw [valT]
      refine ⟨_, rfl, ?_⟩
      by_cases hin : i ∈ keys
      · rw [if_pos hin]
        refine ite_no rfl ?_
        refine ⟨bs, keys, M, _, rfl, s3, e3, m3, hb, Nat.le_succ_of_le hl, hk, fun q hq => ?_⟩
        by_cases e : q = i
        · subst e
          exact (hk q hin).2
        · exact hg q (by omega)
      · rw [if_neg hin]
        refine ite_yes rfl ?_
        refine ⟨_, rfl, .inl ⟨rfl, _, SqL.of e3⟩, ?_⟩
        refine ⟨_, rfl, B, _, _, rfl, rfl, e3, szlt (by rw [intsN_len]; omega), ?_⟩
        have eb : intsN bs ++ [V.int (i : Int)] = intsN (bs ++ [i]) := intsN_app bs [i]
        rw [eb]
        have s4 := Same.put (o := .lst (intsN (bs ++ [i]))) s3 hB0
        have e4 : (upd H3 B (.lst (intsN (bs ++ [i])))) B = some (.lst (intsN (bs ++ [i]))) := upd_same
        generalize upd H3 B (.lst (intsN (bs ++ [i]))) = H4 at s4 e4 ⊢
        have hb2 : ∀ x ∈ bs ++ [i], x < n := fun x hx => (List.mem_append.mp hx).elim (hb x) fun h => by rw [List.mem_singleton.mp h]; exact hi
        refine ⟨_, rfl, _, rfl, v, B, n, g, bs ++ [i], rfl, hT.same s4, S, hn, e4, hb2, by rw [List.length_append, List.length_singleton]; omega, fun p keys2 H5 s5 hp hp5 hk5 => ?_⟩
        have sub : ∀ x ∈ bs, x ∈ bs ++ [i] := fun x h => List.mem_append_left _ h
        refine ⟨bs ++ [i], keys2, p, _, rfl, Same.trans s4 s5, s5 _ _ e4, hp5, hb2, by rw [List.length_append, List.length_singleton]; omega, hk5, fun q hq => ?_⟩
        by_cases e : q = i
        · subst e
          exact Gen.mem (List.mem_append_right _ (List.mem_singleton.mpr rfl))
        · exact (hg q (by omega)).mono sub
    · rintro σ H3 ⟨bs, keys, M, x3, rfl, s3, e3, m3, hb, hl, hk, hg⟩
      exact ⟨_, rfl, k B bs H3 s3 hB0 e3 hb hg hl⟩
end
end PK
end

section
namespace PK
open PySem PySem.Spec PyProof.Rows L2
def mapV (n : Nat) (φ : Nat → Nat) : List V := (List.range n).map fun p => V.int ((φ p : Nat) : Int)
theorem mapV_ints (n : Nat) (φ : Nat → Nat) : mapV n φ = intsN ((List.range n).map φ) := by
  unfold mapV intsN
  rw [List.map_map]
  rfl
theorem mapV_at {n : Nat} {φ : Nat → Nat} {p : Nat} (h : p < n) : atI (mapV n φ) (p : Int) = some (.int ((φ p : Nat) : Int)) := by
  refine atI_nat ?_
  unfold mapV
  rw [List.getElem?_map, List.getElem?_range h]
  rfl
theorem rgV_nat (n : Nat) : rgV 0 (n : Int) = intsN (List.range n) := by
  unfold rgV intsN
  rw [Int.sub_zero, Int.toNat_natCast]
  exact List.map_congr_left fun i _ => by rw [Int.zero_add]
theorem sI_range (n : Nat) : sI (List.range n) = (List.range n).map fun x : Nat => (x : Int) :=
  (sI_is (.refl _) (List.pairwise_map.mpr (List.pairwise_lt_range.imp fun {a b} h => by omega))).symm
section
variable {P : Program} {w : World} {K : PySem.W.Frag} {mg : Str → Option Value} {base : Heap}
theorem sc_is_likeness : FnScope ["one", "other", "images", "table", "far", "count", "a", "b"] ["one", "other", "images"] (defScope s_is_likeness) := ⟨rfl, rfl, rfl, by decide +kernel, rfl, by decide +kernel, by decide +kernel⟩
def spIsLike : Sp := fun vs H Q _ => ∃ v t v2 t2 q, ∃ n : Nat, ∃ f g φ, vs = [v, v2, .ref q] ∧ TrAt H t v ∧ Sys t n f ∧ Sts n f ∧ n ≤ 60 ∧ TrAt H t2 v2 ∧ Sys t2 n g ∧ Sts n g ∧ H q = some (.lst (mapV n φ)) ∧ Iso n f g φ ∧ ∀ H', Same H H' → Q (.bl true) H'
theorem fc_is_likeness (T : Txt w K mg) : Fc P w K mg base 9 "is_likeness" ["one", "other", "images"] spIsLike := by
  have F_table_of := fc_table_of (P := P) (base := base) T
  refine mk_fc T.d_is_likeness sc_is_likeness (fun _ _ _ _ _ _ us hl => match us, hl with | [_, _, _], _ => rfl) (fun vs H Q E h => ?_) (fun f cdv A outer s H vs Q E hr h => ?_)
  · obtain ⟨v, t, v2, t2, q, n, f, g, φ, rfl, _⟩ := h
    rfl
  · obtain ⟨v, t, v2, t2, q, n, f1, g, φ, rfl, hT, S, St, hn, hT2, S2, St2, hq, I, k⟩ := h
    refine ⟨_, (pss_cons (ps_set (i := 3) sc_is_likeness.nd rfl (Or.inl rfl) (pe_fc F_table_of hr rfl (pa_cons (pv 0) pa_nil)))
      (pss_cons (ps_set (i := 4) sc_is_likeness.nd rfl (Or.inl rfl) (pe_fc F_table_of hr rfl (pa_cons (pv 1) pa_nil)))
      (pss_cons (ps_set (i := 5) sc_is_likeness.nd rfl (Or.inl rfl) (pe_callB call_len_seq (by rfl) T.n_len (by decide +kernel) (pa_cons (pv 3) pa_nil)))
      (pss_cons (ps_if (PW.pt (pw_or (pt_cmpR op_ne (pe_callB call_len_seq (by rfl) T.n_len (by decide +kernel) (pa_cons (pv 4) pa_nil)) (pv 5) (nomark _)) (pw_or1 (pt_cmpR (op_neDat (α := List Int) (room1 hr)) (pe_callB cr_sortedI (by rfl) T.n_sorted (by decide +kernel) (pa_cons (pv 2) pa_nil)) (pe_listRg (by rfl) (by rfl) T.n_list (prg_1 (by rfl) T.n_range (pv 5))) (nomark _))))) (pss_one (ps_ret pe_bl)) pss_nil)
      (pss_cons (ps_for PassesOwn.never rfl (pi_range1 (by rfl) T.n_range (pa_cons (pv 5) pa_nil)) (pg_name (i := 6) sc_is_likeness.nd rfl (Or.inl rfl))
      (pss_one (ps_for PassesOwn.never rfl (pi_range1 (by rfl) T.n_range (pa_cons (pv 6) pa_nil)) (pg_name (i := 7) sc_is_likeness.nd rfl (Or.inl rfl))
        (pss_one (ps_if (pt_cmpR op_ne (pe_ix ix_list (pv 2) (pe_ix ix_list (pe_ix ix_list (pv 3) (pv 6) (fun _ _ => rfl)) (pv 7) (fun _ _ => rfl)) (fun _ _ => rfl)) (pe_ix ix_list (pe_ix ix_list (pv 4) (pe_ix ix_list (pv 2) (pv 6) (fun _ _ => rfl)) (fun _ _ => rfl)) (pe_ix ix_list (pv 2) (pv 7) (fun _ _ => rfl)) (fun _ _ => rfl)) (nomark _)) (pss_one (ps_ret pe_bl)) pss_nil)))))
      (pss_one (ps_ret pe_bl))))))), ?_⟩
    refine st_is (σ := [some _, some _, some _, none, none, none, none, none]) rfl ?_
    refine ⟨_, rfl, v, t, n, f1, rfl, hT, S, St, hn, fun u H1 s1 hu => ?_⟩
    refine ⟨_, rfl, v2, t2, n, g, rfl, hT2.keep (Same.tups s1), S2, St2, hn, fun u2 H2 s2 hu2 => ?_⟩
    have hu := hu.same s2
    have hq2 := s2 _ _ (s1 _ _ hq)
    obtain ⟨vp, vxs, hv, hvl, hvn⟩ := hu.list (K := K)
    obtain ⟨vp2, vxs2, hv2, hvl2, hvn2⟩ := hu2.list (K := K)
    refine ⟨_, rfl, vp, _, by rw [hv], .inl hvl, ?_⟩
    rw [hvn]
    refine ⟨_, rfl, vp2, _, by rw [hv2], .inl hvl2, ?_⟩
    rw [hvn2]
    refine ⟨_, rfl, rfl, _, rfl, ite_no (by rw [dec_int_eq rfl]; rfl) ?_⟩
    refine ⟨_, rfl, q, ((List.range n).map φ).map (fun x : Nat => (x : Int)), rfl, SqL.of (by rw [ints_map, ← mapV_ints]; exact hq2), fun ns p hperm hsort hp => ?_⟩
    obtain rfl := sI_is hperm hsort
    rw [sI_perm I.perm, sI_range, ints_map]
    refine ⟨_, rfl, n, rfl, RgOk.of_le (Int.le_refl _) (by omega) (by omega) (by omega), fun p2 hp2 => ?_⟩
    rw [rgV_nat]
    have s3 := Same.new (o := .lst (intsN (List.range n))) hp
    have s4 := Same.new (o := .lst (intsN (List.range n))) hp2
    have e3 := s4 _ _ (upd_same (H := H2) (a := p) (o := .lst (intsN (List.range n))))
    have hu5 := (hu.same s3).same s4
    have hu25 := (hu2.same s3).same s4
    have hq5 := s4 _ _ (s3 _ _ hq2)
    have e4 : (upd (upd H2 p (.lst (intsN (List.range n)))) p2 (.lst (intsN (List.range n)))) p2 = some (.lst (intsN (List.range n))) := upd_same
    have s5 := Same.trans s1 (Same.trans s2 (Same.trans s3 s4))
    generalize upd (upd H2 p (.lst (intsN (List.range n)))) p2 (.lst (intsN (List.range n))) = H5 at e3 e4 hu5 hu25 hq5 s5 ⊢
    refine ⟨(List.range n).map (fun x : Nat => (x : Int)), (List.range n).map (fun x : Nat => (x : Int)), .lst (SqL.of e3) (dp_ints _), .lst (SqL.of e4) (dp_ints _), ?_⟩
    refine ⟨_, rfl, ite_no (decide_eq_false fun h => h rfl) ?_⟩
    refine ⟨_, rfl, n, rfl, by omega, by omega, ?_⟩
    refine for_range (n := n) (fun a σ H' => ∃ x6 x7 : Option V, σ = [some v, some v2, some (.ref q), some u, some u2, some (.int (n : Int)), x6, x7] ∧ H' = H5) ⟨none, none, rfl, rfl⟩ ?_ ?_
    · rintro a σ H6 ha ⟨x6, x7, rfl, e6⟩
      subst e6
      rw [Int.zero_add]
      refine ⟨_, rfl, (a : Int), rfl, by omega, by omega, ?_⟩
      refine for_range (n := a) (fun b σ H' => ∃ x7 : Option V, σ = [some v, some v2, some (.ref q), some u, some u2, some (.int (n : Int)), some (.int (a : Int)), x7] ∧ H' = H6) ⟨x7, rfl, rfl⟩ ?_ ?_
      · rintro b σ H7 hb ⟨y7, rfl, e7⟩
        subst e7
        rw [Int.zero_add]
        have hbn : b < n := Nat.lt_trans hb ha
        have h1 := St.lt a b ha hbn
        refine ⟨_, rfl, _, rfl, _, rfl, hu5.get ha hbn (fun q hq => ⟨_, rfl, hq⟩) ?_⟩
        refine ⟨_, _, _, _, rfl, rfl, SqL.of hq5, mapV_at h1, ?_⟩
        refine ⟨_, rfl, _, rfl, _, rfl, _, _, _, _, rfl, rfl, SqL.of hq5, mapV_at ha, ?_⟩
        refine hu25.get (I.lt a ha) (I.lt b hbn) (fun q' hq' => ⟨_, rfl, _, rfl, _, _, _, _, rfl, rfl, SqL.of hq5, mapV_at hbn, hq'⟩) ?_
        refine ⟨rfl, _, rfl, ite_no ?_ ⟨_, rfl, rfl⟩⟩
        rw [I.hom a b ha hbn, dec_int_eq rfl]
        rfl
      · rintro σ H7 ⟨y7, rfl, rfl⟩
        exact ⟨_, _, rfl, rfl⟩
    · rintro σ H6 ⟨x6, x7, rfl, rfl⟩
      exact k _ s5
end
end PK
end

section
namespace PK
open PySem PySem.Spec PyProof.Rows L2
/-! ### methods -/
structure Me (P : Program) (w : World) (K : PySem.W.Frag) (mg : Str → Option Value) (base : Heap) (k : Nat) (C : Addr) (m : Str) (ps : List Str) (sp : Sp) : Prop where
  ex : ∃ f fd, Meth K C m f ∧ Binds K fd ps [] ∧ FnOk P w K mg base CX0 k f fd ps sp
theorem pe_me {X : Cx} {j k : Nat} {C : Addr} {m : Str} {ps : List Str} {sp : Sp} {o e : Expr} {es : List Expr} {apos pos : Pos} {ta : TE} {t : TA} {pl : Sem Bool} (M : Me X.prog X.w X.K X.mg X.base j C m ps sp) (c : Cls X.K C) (hr : Room k X.A) (hj : j ≤ k) (he : PE X o ta) (ha : PA X (e :: es) t)
    (hst : starEach (e :: es) X.env = (false, eval e X.env) :: starEach es X.env := by rfl) (hpl : (backTo pos (starEach es X.env)).any (·.1) = false := by rfl)
    (ht : eval (.Call (.Attribute o m apos) (e :: es) [] pos) X.env = (do
      let ov ← eval o X.env
      standAt apos.atName
      let (f, first) ← holding [ov] (getMethod ov m pl)
      callWith pos f first (backTo pos (starEach (e :: es) X.env)) (backToKw pos (keywordEach [] X.env))) := by rfl) :
    PE X (.Call (.Attribute o m apos) (e :: es) [] pos) (tMeth C m sp [] E0 ta t) := by
  obtain ⟨f, fd, hm, hb, hF⟩ := M.ex
  exact pe_meth he c hm hF (hr.mono hj) hb .nil pass0 ha hst hpl ht
section
variable {P : Program} {w : World} {K : PySem.W.Frag} {mg : Str → Option Value} {base : Heap}
theorem mk_me {C f : Addr} {fd : FuncData} {m q : Str} {st : Stmt} {N ps : List Str} {k : Nat} {sp : Sp} (M : Meth K C m f) (F : FnM K m q st f fd) (S : FnScope N ps (defScope st))
    (hb : ∀ (kV doc pm : Value) (an : Option Addr) (cdv ct : Value) (us : List Value), us.length = ps.length → bindArgs (PySem.W.fnOf m q (defArgs st) (defBody st) (defScope st) .none kV doc pm an cdv ct) ⟨us, []⟩ = pure (ps.zip us))
    (len : ∀ vs H Q E, sp vs H Q E → vs.length = ps.length)
    (hbody : ∀ (cdv : Value) (A : Around) (outer : List Env) (s : Shared) (H : Hp) (vs : List V) (Q : VK) (E : XK), Room k (A.deeper (envOfC q (defScope st) s.heap.objs.size f cdv)) → sp vs H Q E →
      ∃ t, PSs (cxOf CX0 P w K mg base N q (defScope st) f cdv A outer s H E).nox (defBody st) t ∧ t { nx := fun _ H' => Q .non H', rt := Q } (start N vs) H) : Me P w K mg base (k + 1) C m ps sp :=
  ⟨f, fd, M, F.bindsN hb, F.ok S len fun cdv A outer s H vs Q E hr hsp => by
    obtain ⟨t, h, q⟩ := hbody cdv A outer s H vs Q E hr hsp
    exact ⟨t, h.nox, q⟩⟩
theorem Me.imp {k : Nat} {C : Addr} {m : Str} {ps : List Str} {sp sp' : Sp} (M : Me P w K mg base k C m ps sp) (h : ∀ vs H Q E, sp' vs H Q E → sp vs H Q E) : Me P w K mg base k C m ps sp' := by
  obtain ⟨f, fd, hm, hb, hF⟩ := M.ex
  exact ⟨f, fd, hm, hb, hF.imp h⟩
/-- the class Search -/
structure SrC (K : PySem.W.Frag) (C : Addr) : Prop where
  cls : Cls K C
  n1 : NoAttr K C "table"
  n2 : NoAttr K C "far"
  n3 : NoAttr K C "limit"
  n4 : NoAttr K C "base"
  n5 : NoAttr K C "found"
end
/-- an instance of it -/
def srF (v v2 : V) (B F : Addr) : List (Str × V) := [("table", v), ("far", v2), ("limit", .int 1), ("base", .ref B), ("found", .ref F)]
/-- all but x stays -/
def SameBut (x : Addr) (H H' : Hp) : Prop := ∀ b o, b ≠ x → H b = some o → H' b = some o
theorem SameBut.refl (x : Addr) (H : Hp) : SameBut x H H := fun _ _ _ e => e
theorem SameBut.put {x : Addr} {H H' : Hp} {o : HO} (s : SameBut x H H') : SameBut x H (upd H' x o) := fun b u hb e => by
  rw [upd_ne hb]
  exact s b u hb e
theorem SameBut.same {x : Addr} {H H1 H2 : Hp} (a : SameBut x H H1) (b : Same H1 H2) : SameBut x H H2 := fun c o hc e => b c o (a c o hc e)
theorem TblAt.but {H H' : Hp} {v : V} {n : Nat} {f : Nat → Nat → Nat} {x : Addr} (h : TblAt H v n f) (s : SameBut x H H') (hx : ∀ xs, H x ≠ some (.lst xs)) : TblAt H' v n f := by
  obtain ⟨p, rs, e, h1, h2, h3⟩ := h
  refine ⟨p, rs, e, s _ _ (fun e => hx _ (e ▸ h1)) h1, h2, fun a r q => s _ _ (fun e => hx _ (e ▸ h3 a r q)) (h3 a r q)⟩
section
variable {P : Program} {w : World} {K : PySem.W.Frag} {mg : Str → Option Value} {base : Heap}
theorem sc_Search_init : FnScope ["self", "table", "far", "limit"] ["self", "table", "far", "limit"] (defScope s_Search_init) := ⟨rfl, rfl, rfl, by decide +kernel, rfl, by decide +kernel, by decide +kernel⟩
def spInit (C : Addr) : Sp := fun vs H Q _ => ∃ x dx v v2, ∃ n : Nat, ∃ f, vs = [.ref x, v, v2, .int 1] ∧ H x = some (.ins C dx []) ∧ TblAt H v n f ∧ Sts n f ∧ n ≤ 60 ∧
  ∀ B F bs H', SameBut x H H' → H B = none → H F = none → B ≠ F → H' x = some (.ins C dx (srF v v2 B F)) → H' B = some (.lst (intsN bs)) → H' F = some (.lst []) →
    (∀ y ∈ bs, y < n) → (∀ q, q < n → Gen n f bs q) → bs.length ≤ n → Q .non H'
theorem fn_init {C f : Addr} {fd : FuncData} (T : Txt w K mg) (c : SrC K C) (F : FnM K "__init__" "Search.__init__" s_Search_init f fd) : Binds K fd ["self", "table", "far", "limit"] [] ∧ FnOk P w K mg base CX0 3 f fd ["self", "table", "far", "limit"] (spInit C) := by
  have F_base_in := fc_base_in (P := P) (base := base) T
  refine ⟨F.bindsN fun _ _ _ _ _ _ us hl => match us, hl with | [_, _, _, _], _ => rfl, F.ok sc_Search_init (fun vs H Q E h => ?_) fun cdv A outer s H vs Q E hr h => ?_⟩
  · obtain ⟨x, dx, v, v2, n, f, rfl, _⟩ := h
    rfl
  · obtain ⟨x, dx, v, v2, n, g, rfl, hx, hT, S, hn, k⟩ := h
    suffices hh : ∃ t, PSs (cxOf CX0 P w K mg base ["self", "table", "far", "limit"] "Search.__init__" (defScope s_Search_init) f cdv A outer s H E).nox (defBody s_Search_init) t ∧ t { nx := fun _ H' => Q .non H', rt := Q } (start ["self", "table", "far", "limit"] [.ref x, v, v2, .int 1]) H by
      obtain ⟨t, a, b⟩ := hh
      exact ⟨t, a.nox, b⟩
    refine ⟨_, (pss_cons (ps_fld (pv 0) (pv 1) rfl)
      (pss_cons (ps_fld (pv 0) (pv 2) rfl)
      (pss_cons (ps_fld (pv 0) (pv 3) rfl)
      (pss_cons (ps_fld (pv 0) (pe_fc F_base_in hr rfl (pa_cons (pv 1) pa_nil)) rfl)
      (pss_one (ps_fld (pv 0) (pe_lst pa_nil) rfl)))))), ?_⟩
    refine st_is (σ := [some _, some _, some _, some _]) rfl ?_
    refine ⟨_, rfl, _, rfl, x, C, dx, _, rfl, hx, c.cls, c.n1, (by show 0 < 1000; decide), ?_⟩
    have b1 : SameBut x H (upd H x (.ins C dx (putF "table" v []))) := SameBut.put (SameBut.refl x H)
    have x1 : (upd H x (.ins C dx (putF "table" v []))) x = some (.ins C dx [("table", v)]) := upd_same
    generalize upd H x (.ins C dx (putF "table" v [])) = H1 at b1 x1 ⊢
    refine ⟨_, rfl, _, rfl, x, C, dx, _, rfl, x1, c.cls, c.n2, (by show 1 < 1000; decide), ?_⟩
    have b2 : SameBut x H (upd H1 x (.ins C dx (putF "far" v2 [("table", v)]))) := SameBut.put b1
    have x2 : (upd H1 x (.ins C dx (putF "far" v2 [("table", v)]))) x = some (.ins C dx [("table", v), ("far", v2)]) := upd_same
    generalize upd H1 x (.ins C dx (putF "far" v2 [("table", v)])) = H2 at b2 x2 ⊢
    refine ⟨_, rfl, _, rfl, x, C, dx, _, rfl, x2, c.cls, c.n3, (by show 2 < 1000; decide), ?_⟩
    have b3 : SameBut x H (upd H2 x (.ins C dx (putF "limit" (.int 1) [("table", v), ("far", v2)]))) := SameBut.put b2
    have x3 : (upd H2 x (.ins C dx (putF "limit" (.int 1) [("table", v), ("far", v2)]))) x = some (.ins C dx [("table", v), ("far", v2), ("limit", .int 1)]) := upd_same
    generalize upd H2 x (.ins C dx (putF "limit" (.int 1) [("table", v), ("far", v2)])) = H3 at b3 x3 ⊢
    have hT3 : TblAt H3 v n g := hT.but b3 fun xs e => by rw [hx] at e; cases e
    refine ⟨_, rfl, v, n, g, rfl, hT3, S, hn, fun B bs H4 s4 hB4 e4 p1 p2 p3 => ?_⟩
    have x4 := s4 _ _ x3
    refine ⟨_, rfl, x, C, dx, _, rfl, x4, c.cls, c.n4, (by show 3 < 1000; decide), ?_⟩
    have b5 : SameBut x H (upd H4 x (.ins C dx (putF "base" (.ref B) [("table", v), ("far", v2), ("limit", .int 1)]))) := SameBut.put (b3.same s4)
    have x5 : (upd H4 x (.ins C dx (putF "base" (.ref B) [("table", v), ("far", v2), ("limit", .int 1)]))) x = some (.ins C dx [("table", v), ("far", v2), ("limit", .int 1), ("base", .ref B)]) := upd_same
    have nBx : B ≠ x := fun e => by rw [e, x3] at hB4; cases hB4
    have e5 : (upd H4 x (.ins C dx (putF "base" (.ref B) [("table", v), ("far", v2), ("limit", .int 1)]))) B = some (.lst (intsN bs)) := by rw [upd_ne nBx]; exact e4
    generalize upd H4 x (.ins C dx (putF "base" (.ref B) [("table", v), ("far", v2), ("limit", .int 1)])) = H5 at b5 x5 e5 ⊢
    refine ⟨Nat.zero_le _, fun F hF => ?_⟩
    have s6 := Same.new (o := .lst []) hF
    have x6 := s6 _ _ x5
    have f6 : (upd H5 F (.lst [])) F = some (.lst []) := upd_same
    refine ⟨_, rfl, x, C, dx, _, rfl, x6, c.cls, c.n5, (by show 4 < 1000; decide), ?_⟩
    have nFx : F ≠ x := fun e => by rw [e, x5] at hF; cases hF
    have nBF : B ≠ F := ne_of_none e5 hF
    refine k B F bs _ (SameBut.put (b5.same s6)) ?_ ?_ nBF upd_same ?_ ?_ p1 p2 p3
    · cases q : H B with
      | none => rfl
      | some o => rw [b3 _ _ nBx q] at hB4; cases hB4
    · cases q : H F with
      | none => rfl
      | some o => rw [b5 _ _ nFx q] at hF; cases hF
    · rw [upd_ne nBx]
      exact s6 _ _ e5
    · rw [upd_ne nFx]
      exact f6
end
end PK
end

section
namespace PK
open PySem PySem.Spec PyProof.Rows L2
/-! ### dicts of points -/
def kvN (l : Prs) : List (Key × V) := l.map fun x => (kK x.1, .int (x.2 : Int))
def kvS (l : Prs) : List (Key × V) := l.map fun x => (kK x.2, .int (x.1 : Int))
theorem valN_no {p : Nat} : ∀ {l : Prs}, p ∉ keysOf l → valV (kvN l) (kK p) = none
  | [], _ => rfl
  | x :: l, h => by
    have h : p ∉ x.1 :: keysOf l := h
    rw [List.mem_cons, not_or] at h
    exact (valV_neg (p := (kK x.1, .int (x.2 : Int))) fun e => h.1 (kK_inj e).symm).trans (valN_no h.2)
theorem valN_yes {p i : Nat} : ∀ {l : Prs}, (keysOf l).Nodup → (p, i) ∈ l → valV (kvN l) (kK p) = some (.int (i : Int))
  | x :: l, hn, h => by
    have hn : (x.1 :: keysOf l).Nodup := hn
    rw [List.nodup_cons] at hn
    rcases List.mem_cons.mp h with e | h
    · rw [← e]
      exact valV_pos rfl
    · exact (valV_neg (p := (kK x.1, .int (x.2 : Int))) fun e => hn.1 (by rw [kK_inj e]; exact mem_keys.mpr ⟨i, h⟩)).trans (valN_yes hn.2 h)
theorem valS_no {p : Nat} : ∀ {l : Prs}, p ∉ valsOf l → valV (kvS l) (kK p) = none
  | [], _ => rfl
  | x :: l, h => by
    have h : p ∉ x.2 :: valsOf l := h
    rw [List.mem_cons, not_or] at h
    exact (valV_neg (p := (kK x.2, .int (x.1 : Int))) fun e => h.1 (kK_inj e).symm).trans (valS_no h.2)
theorem valS_yes {p : Nat} : ∀ {l : Prs}, p ∈ valsOf l → (valV (kvS l) (kK p)).isSome = true
  | x :: l, h => by
    have h : p ∈ x.2 :: valsOf l := h
    by_cases e : x.2 = p
    · have q : valV (kvS (x :: l)) (kK p) = some (.int (x.1 : Int)) := valV_pos (p := (kK x.2, .int (x.1 : Int))) (by rw [e])
      rw [q]
      rfl
    · have q : valV (kvS (x :: l)) (kK p) = valV (kvS l) (kK p) := valV_neg (p := (kK x.2, .int (x.1 : Int))) fun h => e (kK_inj h)
      rw [q]
      exact valS_yes ((List.mem_cons.mp h).resolve_left fun q => e q.symm)
theorem putN {p i : Nat} {l : Prs} (h : p ∉ keysOf l) : putK (kvN l) (kK p) (.int (i : Int)) = kvN (l ++ [(p, i)]) := by
  rw [putK_new _ (valN_no h)]
  unfold kvN
  rw [List.map_append]
  rfl
theorem putS {p i : Nat} {l : Prs} (h : i ∉ valsOf l) : putK (kvS l) (kK i) (.int (p : Int)) = kvS (l ++ [(p, i)]) := by
  rw [putK_new _ (valS_no h)]
  unfold kvS
  rw [List.map_append]
  rfl
theorem kvN_len (l : Prs) : (kvN l).length = l.length := by
  unfold kvN
  rw [List.length_map]
theorem kvS_len (l : Prs) : (kvS l).length = l.length := by
  unfold kvS
  rw [List.length_map]
/-- a dict comprehension, any walk -/
theorem dc_it {J : It} {n : Nat} {G : Hp → Prop} {Y : Nat → Hp → V → Hp → Prop} (w : Walk J n G Y) {g : TG} {tt : TT} {tk tv : TE} {vs : List Nat} {σ : L2.St} {H1 : Hp} {D : Addr} {Qd : Hp → Prop} (Pv : Nat → Hp → Prop) (h0 : Pv 0 (upd H1 D (.dK []))) (hG : ∀ i H, i ≤ n → Pv i H → G H)
    (hs : ∀ i x H H', i < n → Pv i H → Y i H x H' → g x (wipe σ vs) H' fun σ2 H2 => wipe σ2 vs = wipe σ vs ∧ tt σ2 H2 fun b H3 =>
      if b = true then tk σ2 H3 fun y H4 => tv σ2 H4 fun z H5 => ∃ kvs k, y = kV k ∧ H5 D = some (.dK kvs) ∧ kvs.length < sizeLine ∧ Pv (i + 1) (upd H5 D (.dK (putK kvs k z))) else Pv (i + 1) H3) (hd : ∀ H, Pv n H → Qd H) :
    ∃ W : Nat → Nat → Hp → Prop, (∃ m, W 0 m (upd H1 D (.dK []))) ∧ ∀ i m H, W i m H →
      (J.stop i H ∧ Qd H) ∨ (J.go i H ∧ ∃ Nx : Hp → Prop, (∀ H', Nx H' → ∃ m', m' < m ∧ W (i + 1) m' H') ∧ ∀ x H', J.yld i H x H' → g x (wipe σ vs) H' fun σ2 H2 => wipe σ2 vs = wipe σ vs ∧ tt σ2 H2 fun b H3 =>
        if b = true then tk σ2 H3 fun y H4 => tv σ2 H4 fun z H5 => ∃ kvs k, y = kV k ∧ H5 D = some (.dK kvs) ∧ kvs.length < sizeLine ∧ Nx (upd H5 D (.dK (putK kvs k z))) else Nx H3) := by
  refine ⟨fun i m H => m = n - i ∧ i ≤ n ∧ Pv i H, ⟨n, by simp, Nat.zero_le _, h0⟩, ?_⟩
  rintro i m H ⟨rfl, hi, p⟩
  have q := hG i H hi p
  by_cases hlt : i < n
  · exact .inr ⟨w.goes i H hlt q, Pv (i + 1), fun H' p' => ⟨n - (i + 1), by omega, rfl, hlt, p'⟩, fun x H' y => hs i x H H' hlt p (w.yields i H x H' hlt q y)⟩
  · have e : i = n := by omega
    subst e
    exact .inl ⟨w.stops H q, hd H p⟩
theorem PrsAt.put {H : Hp} {D d : Addr} {o : HO} {ps : List (Nat × Nat)} (h : PrsAt H D ps) (hd : D ≠ d) (ht : ∀ xs, H d ≠ some (.tup xs)) : PrsAt (upd H d o) D ps := by
  obtain ⟨rs, h1, h2, h3⟩ := h
  refine ⟨rs, by rw [upd_ne hd]; exact h1, h2, fun k r p e1 e2 => ?_⟩
  rw [upd_ne]
  · exact h3 k r p e1 e2
  · rintro rfl
    exact ht _ (h3 k r p e1 e2)
theorem PrsAt.last {H : Hp} {D : Addr} {ps : List (Nat × Nat)} {x : Nat × Nat} (h : PrsAt H D (ps ++ [x])) :
    ∃ (xs : List V) (r : Addr), H D = some (.lst xs) ∧ xs[xs.length - 1]? = some (.ref r) ∧ H r = some (.tup [.int (x.1 : Int), .int (x.2 : Int)]) ∧ PrsAt (upd H D (.lst xs.dropLast)) D ps ∧ (!xs.isEmpty) = true := by
  obtain ⟨rs, h1, h2, h3⟩ := h
  rw [List.length_append, List.length_singleton] at h2
  rcases List.eq_nil_or_concat rs with rfl | ⟨rs', r, rfl⟩
  · simp at h2
  · rw [List.concat_eq_append] at *
    rw [List.length_append, List.length_singleton] at h2
    have hl : rs'.length = ps.length := by omega
    have hr : H r = some (.tup [.int (x.1 : Int), .int (x.2 : Int)]) := h3 rs'.length r x (by simp) (by rw [hl]; simp)
    refine ⟨_, r, h1, by simp, hr, ⟨rs', ?_, hl, fun k r' p e1 e2 => ?_⟩, by simp⟩
    · rw [upd_same, List.map_append]
      simp
    · have hk := (List.getElem?_eq_some_iff.mp e1).1
      have q := h3 k r' p (by rw [List.getElem?_append_left hk]; exact e1) (by rw [List.getElem?_append_left (by omega)]; exact e2)
      rw [upd_ne]
      · exact q
      · rintro rfl
        rw [h1] at q
        cases q
/-- two new objects have changed, the old ones stand -/
theorem lockSame {H H8 H9 : Hp} {L D : Addr} {o : HO} (hL : H L = none) (hD : H D = none) (s8 : Same H H8) (s9 : ∀ b u, b ≠ L → (upd H8 D o) b = some u → H9 b = some u) : Same H H9 := fun b u e => by
  refine s9 b u (ne_of_none e hL) ?_
  rw [upd_ne (ne_of_none e hD)]
  exact s8 b u e
theorem moreOf_snoc (f g : Nat → Nat → Nat) (p i : Nat) (l : Prs) (x : Nat × Nat) : moreOf f g p i (l ++ [x]) = moreOf f g p i l ++ [(f p x.1, g i x.2)] := by
  unfold moreOf
  rw [List.map_append]
  rfl
section
variable {P : Program} {w : World} {K : PySem.W.Frag} {mg : Str → Option Value} {base : Heap}
theorem sc_Search_with_image : FnScope ["self", "images", "point", "image", "found", "taken", "one", "waiting"] ["self", "images", "point", "image"] (defScope s_Search_with_image) := ⟨rfl, rfl, rfl, by decide +kernel, rfl, by decide +kernel, by decide +kernel⟩
def spWith (C : Addr) : Sp := fun vs H Q _ => ∃ a D0 dx v v2 B F, ∃ p i n : Nat, ∃ f g l0, vs = [.ref a, .ref D0, .int (p : Int), .int (i : Int)] ∧ H a = some (.ins C dx (srF v v2 B F)) ∧ TblAt H v n f ∧ TblAt H v2 n g ∧ Sts n f ∧ Sts n g ∧ n ≤ 60 ∧
  H D0 = some (.dK (kvN l0)) ∧ Par n f g l0 ∧ p < n ∧ i < n ∧
  (∀ H', Same H H' → (∀ ψ, Iso n f g ψ → Ext ψ l0 → ψ p = i → False) → Q .non H') ∧
  ∀ D' l H', Same H H' → H D' = none → H' D' = some (.dK (kvN l)) → Par n f g l → (∀ x ∈ l0, x ∈ l) → (p, i) ∈ l → (∀ ψ, Iso n f g ψ → Ext ψ l0 → ψ p = i → Ext ψ l) → Q (.ref D') H'
theorem me_with_image {C f : Addr} {fd : FuncData} (T : Txt w K mg) (c : SrC K C) (M : Meth K C "with_image" f) (F : FnM K "with_image" "Search.with_image" s_Search_with_image f fd) : Me P w K mg base 1 C "with_image" ["self", "images", "point", "image"] (spWith C) := by
  refine mk_me M F sc_Search_with_image (fun _ _ _ _ _ _ us hl => match us, hl with | [_, _, _, _], _ => rfl) (fun vs H Q E h => ?_) (fun cdv A outer s H vs Q E hr h => ?_)
  · obtain ⟨a, D0, dx, v, v2, B, F, p, i, n, f, g, l0, rfl, _⟩ := h
    rfl
  · obtain ⟨a, D0, dx, v, v2, B, Fa, p0, i0, n, f1, g, l0, rfl, ha, hT, hT2, S, S2, hn, hD0, PR, hp0, hi0, kno, kyes⟩ := h
    have hu := hu_of hr
    refine ⟨_, (pss_cons (ps_set (i := 4) sc_Search_with_image.nd rfl (Or.inr rfl) (pe_callTy call_dictD (by rfl) T.n_dict (by decide +kernel) (pa_cons (pv 1) pa_nil)))
      (pss_cons (ps_lock (ps_setDc (i := 5) (own := [("one", 6)]) (gg := gName 6) (tst := tYes) rfl sc_Search_with_image.nd rfl rfl (swd_true rfl rfl rfl (by decide +kernel)) (pi_keys (pv 4)) (blkOk_by (by kernel_rfl)) (fun _ _ _ _ _ => (pg_name (i := 6) sc_Search_with_image.nd rfl (Or.inl rfl))) (fun _ _ _ _ _ => pts_nil) (fun _ _ _ _ _ => (pe_dget hu (pv 4) (pv 6) (fun _ _ => rfl))) (fun _ _ _ _ _ => (pv 6))))
      (pss_cons (ps_set (i := 7) sc_Search_with_image.nd rfl (Or.inl rfl) (pe_lst (pa_cons (pe_tup (pa_cons (pv 2) (pa_cons (pv 3) pa_nil))) pa_nil)))
      (pss_cons (ps_while PassesOwn.never (pt_truth (pv 7) (by intro _; rfl))
      (pss_cons (ps_asg (pe_bm0 PySem.F.plainAttrs_list PySem.F.slot_list_pop PySem.F.type_list_pop mt_pop (pv 7)) (pg_tup rfl (pgs_cons (pg_name (i := 2) sc_Search_with_image.nd rfl (Or.inl rfl)) (pgs_cons (pg_name (i := 3) sc_Search_with_image.nd rfl (Or.inl rfl)) pgs_nil))))
        (pss_one (ps_if (PW.pt (pw_or (pt_cmp (pc_din hu (pv 2) (pv 4))) (pw_or1 (pt_cmp (pc_din hu (pv 3) (pv 5)))))) (pss_one (ps_if (pt_cmpR op_ne (pe_dget2 hu (pv 4) (pv 2) pe_non ⟨rfl, rfl, rfl, rfl⟩) (pv 3) (nomark _)) (pss_one (ps_ret pe_non)) pss_nil)) (pss_cons (ps_lock (ps_for PassesOwn.never rfl (pi_keys (pv 4)) (pg_name (i := 6) sc_Search_with_image.nd rfl (Or.inl rfl))
          (pss_one (ps_expr (pe_bm PySem.F.plainAttrs_list PySem.F.slot_list_append PySem.F.type_list_append mt_append (pv 7) (pa_cons (pe_tup (pa_cons (pe_ix ix_list (pe_ix ix_list (pe_fld (pv 0) rfl) (pv 2) (fun _ _ => rfl)) (pv 6) (fun _ _ => rfl)) (pa_cons (pe_ix ix_list (pe_ix ix_list (pe_fld (pv 0) rfl) (pv 3) (fun _ _ => rfl)) (pe_dget hu (pv 4) (pv 6) (fun _ _ => rfl)) (fun _ _ => rfl)) pa_nil))) pa_nil))))))
          (pss_cons (ps_dput hu (pv 4) (pv 2) (pv 3) rfl)
          (pss_one (ps_dput hu (pv 5) (pv 3) (pv 2) rfl))))))))
      (pss_one (ps_ret (pv 4))))))), ?_⟩
    refine st_is (σ := [some _, some _, some _, some _, none, none, none, none]) rfl ?_
    refine ⟨_, rfl, D0, _, rfl, .inl hD0, fun D hD => ?_⟩
    have d1 : (upd H D (.dK (kvN l0))) D = some (.dK (kvN l0)) := upd_same
    have s1 := Same.new (o := .dK (kvN l0)) hD
    generalize upd H D (.dK (kvN l0)) = H1 at d1 s1 ⊢
    have l0n : l0.length ≤ n := Wi.len PR
    -- taken
    refine ⟨D, .dK (kvN l0), d1, True.intro, fun od => ?_⟩
    have f1' : (upd H1 D (.frz od (.dK (kvN l0)))) D = some (.frz od (.dK (kvN l0))) := upd_same
    refine ⟨_, rfl, D, od, rfl, .inl ⟨kvN l0, f1', fun Tk hTk => ?_⟩⟩
    have nTD : Tk ≠ D := fun e => by rw [e, f1'] at hTk; cases hTk
    refine dc_it (n := (kvN l0).length) walk_keys (fun j H2 => Same (upd H1 D (.frz od (.dK (kvN l0)))) H2 ∧ H2 Tk = some (.dK (kvS (l0.take j)))) ⟨Same.new hTk, upd_same⟩ (fun j H2 _ h => h.1 _ _ f1') ?_ ?_
    · rintro j x H2 H3 hj ⟨s2, t2⟩ ⟨e3, kk, vv, hk, rfl⟩
      subst e3
      rw [kvN_len] at hj
      have hx : l0[j]? = some l0[j] := List.getElem?_eq_getElem hj
      have hxm : l0[j] ∈ l0 := List.getElem_mem hj
      have htk : l0.take (j + 1) = l0.take j ++ [l0[j]] := by rw [List.take_succ, hx]; rfl
      have hk2 : (kvN l0)[j]? = some (kK l0[j].1, .int (l0[j].2 : Int)) := by
        unfold kvN
        rw [List.getElem?_map, hx]
        rfl
      rw [hk] at hk2
      cases hk2
      have hnv : l0[j].2 ∉ valsOf (l0.take j) := by
        have q := PR.vn
        unfold valsOf at q ⊢
        rw [← List.take_append_drop j l0, List.map_append, List.nodup_append] at q
        intro hm
        refine q.2.2 _ hm _ (List.mem_map.mpr ⟨l0[j], ?_, rfl⟩) rfl
        rw [List.mem_iff_getElem?]
        exact ⟨0, by rw [List.getElem?_drop, Nat.add_zero, hx]⟩
      rw [htk]
      generalize l0[j] = y at *
      refine ⟨rfl, ?_⟩
      show tDGet (tVar 4) (tVar 6) _ _ _
      refine ⟨_, rfl, _, rfl, D, .int (y.2 : Int), rfl, .inl ⟨kvN l0, kK y.1, .inr ⟨od, s2 _ _ f1'⟩, rfl, (valN_yes PR.kn hxm).symm⟩, _, rfl, _, kK y.2, rfl, t2, ?_, Same.put s2 hTk, ?_⟩
      · rw [kvS_len, List.length_take]
        exact szlt (by omega)
      · rw [upd_same]
        exact congrArg (fun x => some (HO.dK x)) (putS (p := y.1) hnv)
    · rintro H2 ⟨s2, t2⟩
      rw [kvN_len, List.take_length] at t2
      refine ⟨s2 _ _ f1', ?_⟩
      have s3 := Same.trans s1 (Same.unlock s2 d1)
      have d3 : (upd H2 D (.dK (kvN l0))) D = some (.dK (kvN l0)) := upd_same
      have t3 : (upd H2 D (.dK (kvN l0))) Tk = some (.dK (kvS l0)) := by rw [upd_ne nTD]; exact t2
      have hTk0 : H Tk = none := by
        cases q : H Tk with
        | none => rfl
        | some o =>
          have q1 := s1 _ _ q
          rw [upd_ne nTD, q1] at hTk
          cases hTk
      generalize upd H2 D (.dK (kvN l0)) = H3 at s3 d3 t3 ⊢
      -- waiting
      refine ⟨_, rfl, _, rfl, (by show 2 ≤ sizeLine; decide), fun p1 hp1 => ?_⟩
      refine ⟨(by show 1 ≤ sizeLine; decide), fun L hL => ?_⟩
      have s4 := Same.new (o := .tup [.int (p0 : Int), .int (i0 : Int)]) hp1
      have s5 := Same.trans s4 (Same.new (o := .lst [.ref p1]) hL)
      have hL0 : H L = none := (Same.trans s3 s4).free hL
      have w5 : PrsAt (upd (upd H3 p1 (.tup [.int (p0 : Int), .int (i0 : Int)])) L (.lst [.ref p1])) L [(p0, i0)] := by
        refine ⟨[p1], upd_same, rfl, fun k r p e1 e2 => ?_⟩
        match k, e1, e2 with
        | 0, e1, e2 =>
          cases e1
          cases e2
          exact Same.new hL _ _ upd_same
        | k + 1, e1, _ => simp at e1
      have d5 := s5 _ _ d3
      have t5 := s5 _ _ t3
      have s6 := Same.trans s3 s5
      have hDL : D ≠ L := ne_of_none (s4 _ _ d3) hL
      have hTL : Tk ≠ L := ne_of_none (s4 _ _ t3) hL
      generalize upd (upd H3 p1 (.tup [.int (p0 : Int), .int (i0 : Int)])) L (.lst [.ref p1]) = H5 at w5 d5 t5 s6 ⊢
      refine ⟨fun m σ H' => ∃ (found ws : Prs) (x2 x3 x6 : Option V), m = msr n found ws ∧ σ = [some (.ref a), some (.ref D0), x2, x3, some (.ref D), some (.ref Tk), x6, some (.ref L)] ∧ Same H H' ∧ H' D = some (.dK (kvN found)) ∧ H' Tk = some (.dK (kvS found)) ∧ PrsAt H' L ws ∧
          Wi n f1 g found ws ∧ (∀ x ∈ l0, x ∈ found) ∧ ((p0, i0) ∈ found ∨ (p0, i0) ∈ ws) ∧ (∀ ψ, Iso n f1 g ψ → Ext ψ l0 → ψ p0 = i0 → Ext ψ found ∧ Ext ψ ws) ∧ ws.length ≤ 1 + found.length * n,
        ⟨_, l0, [(p0, i0)], some (.int (p0 : Int)), some (.int (i0 : Int)), none, rfl, rfl, s6, d5, t5, w5, PR.start hp0 hi0, fun _ h => h, .inr (List.mem_singleton.mpr rfl), fun ψ _ h1 h2 => ⟨h1, fun x hx => by rw [List.mem_singleton.mp hx]; exact h2.symm⟩, by rw [List.length_singleton]; omega⟩, ?_⟩
      rintro m σ H6 ⟨found, ws, x2, x3, x6, rfl, rfl, s7, d7, t7, w7, W, sub, hin0, hext, hwl⟩
      have fn := W.len
      have fmul : found.length * n ≤ 60 * 60 := Nat.mul_le_mul (by omega) (by omega)
      rcases List.eq_nil_or_concat ws with rfl | ⟨ws', pi, rfl⟩
      · obtain ⟨rs, r1, r2, _⟩ := w7
        obtain rfl : rs = [] := List.length_eq_zero_iff.mp r2
        refine ⟨_, rfl, _, .inl ⟨_, SqL.of r1, rfl⟩, ite_no rfl ?_⟩
        refine ⟨_, rfl, kyes D found H6 s7 hD d7 W sub (hin0.resolve_right fun h => by simp at h) fun ψ h1 h2 h3 => (hext ψ h1 h2 h3).1⟩
      · rw [List.concat_eq_append] at *
        obtain ⟨p, i⟩ := pi
        obtain ⟨xs, r, x1, x2', hr7, w8, xe⟩ := w7.last
        refine ⟨_, rfl, _, .inl ⟨_, SqL.of x1, rfl⟩, ite_yes xe ?_⟩
        refine ⟨_, fun _ _ h => h, ?_⟩
        obtain ⟨hpn, hin⟩ := W.wlt (p, i) (List.mem_append_right _ (List.mem_singleton.mpr rfl))
        -- point, image = waiting.pop()
        refine ⟨_, rfl, .inl ⟨rfl, _, SqL.of x1⟩, L, _, _, rfl, rfl, x1, x2', ?_⟩
        have s8 := Same.put (o := .lst xs.dropLast) s7 hL0
        have d8 : (upd H6 L (.lst xs.dropLast)) D = some (.dK (kvN found)) := by rw [upd_ne hDL]; exact d7
        have t8 : (upd H6 L (.lst xs.dropLast)) Tk = some (.dK (kvS found)) := by rw [upd_ne hTL]; exact t7
        have r8 : (upd H6 L (.lst xs.dropLast)) r = some (.tup [.int (p : Int), .int (i : Int)]) := by
          rw [upd_ne]
          · exact hr7
          · rintro rfl
            rw [x1] at hr7
            cases hr7
        generalize upd H6 L (.lst xs.dropLast) = H8 at s8 d8 t8 r8 w8 ⊢
        refine ⟨r, _, rfl, SqT.of r8, rfl, _, _, rfl, _, _, rfl, rfl, ?_⟩
        have klen : (kvN found).length < sizeLine := szlt (by rw [kvN_len]; omega)
        refine ⟨_, rfl, _, rfl, D, _, rfl, DGet.k (k := kK p) d8, _, rfl, ?_⟩
        by_cases hk1 : p ∈ keysOf found
        · obtain ⟨j, hj⟩ := mem_keys.mp hk1
          rw [valN_yes W.kn hj]
          refine ite_yes rfl (ite_yes rfl ?_)
          refine ⟨_, rfl, D, rfl, .inl ⟨_, .inl d8⟩, _, rfl, _, DGet.k (k := kK p) d8, ?_⟩
          rw [valN_yes W.kn hj]
          refine ⟨_, rfl, rfl, _, rfl, ?_⟩
          by_cases e : j = i
          · subst e
            refine ite_no (by show (!decide (V.int (j : Int) = V.int (j : Int))) = false; rw [dec_int_eq rfl]; rfl) ?_
            refine ⟨_, msr_drop, found, ws', _, _, _, rfl, rfl, s8, d8, t8, w8, W.drop hj, sub, ?_, fun ψ h1 h2 h3 => ?_, ?_⟩
            · rcases hin0 with h | h
              · exact .inl h
              · rcases List.mem_append.mp h with h | h
                · exact .inr h
                · rw [List.mem_singleton.mp h]
                  exact .inl hj
            · obtain ⟨X, Y⟩ := hext ψ h1 h2 h3
              exact ⟨X, fun x hx => Y x (List.mem_append_left _ hx)⟩
            · rw [List.length_append, List.length_singleton] at hwl
              omega
          · refine ite_yes (by show (!decide (V.int (j : Int) = V.int (i : Int))) = true; rw [dec_int_ne (by omega)]; rfl) ?_
            refine kno H8 s8 fun ψ h1 h2 h3 => ?_
            obtain ⟨X, Y⟩ := hext ψ h1 h2 h3
            exact e (key_uniq W.kn hj (Ext.keeps h1 W X Y (.inl hk1)))
        · rw [valN_no hk1]
          refine ite_no rfl ?_
          refine ⟨_, rfl, _, rfl, Tk, _, rfl, DGet.k (k := kK i) t8, _, rfl, ?_⟩
          by_cases hk2 : i ∈ valsOf found
          · rw [valS_yes hk2]
            refine ite_yes rfl ?_
            refine ⟨_, rfl, D, rfl, .inl ⟨_, .inl d8⟩, _, rfl, _, DGet.k (k := kK p) d8, ?_⟩
            rw [valN_no hk1]
            refine ⟨_, rfl, rfl, _, rfl, ite_yes rfl ?_⟩
            refine kno H8 s8 fun ψ h1 h2 h3 => ?_
            obtain ⟨X, Y⟩ := hext ψ h1 h2 h3
            exact hk1 (mem_keys.mpr ⟨i, Ext.keeps h1 W X Y (.inr hk2)⟩)
          · rw [valS_no hk2]
            refine ite_no rfl ?_
            -- for one in found
            refine ⟨D, .dK (kvN found), d8, True.intro, fun od2 => ?_⟩
            have f9 : (upd H8 D (.frz od2 (.dK (kvN found)))) D = some (.frz od2 (.dK (kvN found))) := upd_same
            have w9 : PrsAt (upd H8 D (.frz od2 (.dK (kvN found)))) L ws' := w8.put (Ne.symm hDL) fun xs e => by rw [d8] at e; cases e
            refine ⟨_, rfl, D, od2, rfl, .inl ⟨kvN found, f9, ?_⟩⟩
            refine for_it (n := (kvN found).length) walk_keys (fun j σ H' => ∃ y6 : Option V, σ = [some (.ref a), some (.ref D0), some (.int (p : Int)), some (.int (i : Int)), some (.ref D), some (.ref Tk), y6, some (.ref L)] ∧ (∀ b o, b ≠ L → (upd H8 D (.frz od2 (.dK (kvN found)))) b = some o → H' b = some o) ∧ PrsAt H' L (ws' ++ moreOf f1 g p i (found.take j)))
              ⟨x6, rfl, fun _ _ _ e => e, by simpa [moreOf] using w9⟩ (fun j σ H' _ h => by
                obtain ⟨_, _, h, _⟩ := h
                exact h _ _ hDL f9) ?_ ?_
            · rintro j x σ H9 H10 hj ⟨y6, rfl, s9, w10⟩ ⟨e3, kk, vv, hkk, rfl⟩
              subst e3
              rw [kvN_len] at hj
              have hx : found[j]? = some found[j] := List.getElem?_eq_getElem hj
              have hxm : found[j] ∈ found := List.getElem_mem hj
              have htk : found.take (j + 1) = found.take j ++ [found[j]] := by rw [List.take_succ, hx]; rfl
              have hk2 : (kvN found)[j]? = some (kK found[j].1, .int (found[j].2 : Int)) := by
                unfold kvN
                rw [List.getElem?_map, hx]
                rfl
              rw [hkk] at hk2
              cases hk2
              rw [htk, moreOf_snoc, ← List.append_assoc]
              have hml : (ws' ++ moreOf f1 g p i (found.take j)).length < 100000 := by
                unfold moreOf
                rw [List.length_append, List.length_map, List.length_take]
                rw [List.length_append, List.length_singleton] at hwl
                omega
              generalize found[j] = y at *
              obtain ⟨hy1, hy2⟩ := W.lt y hxm
              have sH := lockSame hL0 hD s8 s9
              have f10 := s9 _ _ hDL f9
              obtain ⟨rs, r1, r2, r3⟩ := w10
              refine ⟨_, rfl, .inl ⟨rfl, _, SqL.of r1⟩, ?_⟩
              refine ⟨_, rfl, a, C, dx, _, v, rfl, sH _ _ ha, c.cls, c.n1, rfl, _, rfl, (hT.same sH).get hpn hy1 (fun q hq => ⟨_, rfl, hq⟩) ?_⟩
              refine ⟨_, rfl, a, C, dx, _, v2, rfl, sH _ _ ha, c.cls, c.n2, rfl, _, rfl, (hT2.same sH).get hin hy2 (fun q hq => ⟨_, rfl, _, rfl, D, _, rfl, .inl ⟨kvN found, kK y.1, .inr ⟨od2, f10⟩, rfl, (valN_yes W.kn hxm).symm⟩, hq⟩) ?_⟩
              refine ⟨(by show 2 ≤ sizeLine; decide), fun t ht => ?_⟩
              have nLt : L ≠ t := ne_of_none r1 ht
              refine ⟨L, _, _, rfl, rfl, by rw [upd_ne nLt]; exact r1, szlt (by rw [List.length_map, r2]; exact hml), ?_⟩
              refine ⟨_, rfl, fun b o hb e => ?_, PrsAt.push r1 r2 r3 ht (Same.refl _)⟩
              rw [upd_ne hb]
              exact Same.new ht _ _ (s9 b o hb e)
            · rintro σ H9 ⟨y6, rfl, s9, w10⟩
              rw [kvN_len, List.take_length] at w10
              have f10 := s9 _ _ hDL f9
              refine ⟨f10, ?_⟩
              have s11 := Same.put (o := .dK (kvN found)) (lockSame hL0 hD s8 s9) hD
              have d11 : (upd H9 D (.dK (kvN found))) D = some (.dK (kvN found)) := upd_same
              have t11 : (upd H9 D (.dK (kvN found))) Tk = some (.dK (kvS found)) := by
                rw [upd_ne nTD]
                exact s9 _ _ hTL (by rw [upd_ne nTD]; exact t8)
              have w11 : PrsAt (upd H9 D (.dK (kvN found))) L (ws' ++ moreOf f1 g p i found) := w10.put (Ne.symm hDL) fun xs e => by rw [f10] at e; cases e
              generalize upd H9 D (.dK (kvN found)) = H11 at s11 d11 t11 w11 ⊢
              refine ⟨_, rfl, _, rfl, _, rfl, D, _, rfl, DPut.k (k := kK p) d11 klen, ?_⟩
              rw [putN hk1]
              have s12 := Same.put (o := .dK (kvN (found ++ [(p, i)]))) s11 hD
              have d12 : (upd H11 D (.dK (kvN (found ++ [(p, i)])))) D = some (.dK (kvN (found ++ [(p, i)]))) := upd_same
              have t12 : (upd H11 D (.dK (kvN (found ++ [(p, i)])))) Tk = some (.dK (kvS found)) := by rw [upd_ne nTD]; exact t11
              have w12 : PrsAt (upd H11 D (.dK (kvN (found ++ [(p, i)])))) L (ws' ++ moreOf f1 g p i found) := w11.put (Ne.symm hDL) fun xs e => by rw [d11] at e; cases e
              generalize upd H11 D (.dK (kvN (found ++ [(p, i)]))) = H12 at s12 d12 t12 w12 ⊢
              refine ⟨_, rfl, _, rfl, _, rfl, Tk, _, rfl, DPut.k (k := kK i) t12 (szlt (by rw [kvS_len]; omega)), ?_⟩
              rw [putS hk2]
              have W2 := W.push S S2 hk1 hk2
              refine ⟨_, msr_push S S2 W hk1 hk2, found ++ [(p, i)], ws' ++ moreOf f1 g p i found, _, _, _, rfl, rfl, Same.put s12 hTk0, by rw [upd_ne (Ne.symm nTD)]; exact d12, upd_same, w12.put (Ne.symm hTL) (fun xs e => by rw [t12] at e; cases e), W2, fun x hx => List.mem_append_left _ (sub x hx), ?_, fun ψ h1 h2 h3 => ?_, ?_⟩
              · rcases hin0 with h | h
                · exact .inl (List.mem_append_left _ h)
                · rcases List.mem_append.mp h with h | h
                  · exact .inr (List.mem_append_left _ h)
                  · rw [List.mem_singleton.mp h]
                    exact .inl (List.mem_append_right _ (List.mem_singleton.mpr rfl))
              · obtain ⟨X, Y⟩ := hext ψ h1 h2 h3
                exact Ext.push h1 W X Y
              · unfold moreOf
                rw [List.length_append, List.length_append, List.length_map, List.length_singleton, Nat.add_mul]
                rw [List.length_append, List.length_singleton] at hwl
                omega
end
end PK
end

section
namespace PK
open PySem PySem.Spec PyProof.Rows L2
/-! ### a tuple of ints, its object told (no dict): one may call its methods -/
def tupE (q : Addr) (ns : List Int) : HO := .ext fun h => ∃ its : List Value, Vals (ns.map V.int) its ∧ ns.length ≤ sizeLine ∧ h.get? q = some { cls := .type "tuple", data := .seq its.toArray }
section
variable {X : Cx}
theorem tupE_ok {P : Program} {w : World} {H : Hp} {h : Heap} {q : Addr} {ns : List Int} {its : List Value} (r : Vals (ns.map V.int) its) (hz : ns.length ≤ sizeLine) (e : h.get? q = some { cls := .type "tuple", data := .seq its.toArray }) : ObjOk P w H h q (tupE q ns) :=
  ⟨⟨its, r, hz, e⟩, ⟨_, e⟩, fun h1 h2 x k => let ⟨i2, r2, z2, e2⟩ := x; ⟨i2, r2, z2, k _ e2⟩⟩
theorem tupE_of {pins : List (Addr × Obj)} {σ : L2.St} {H : Hp} {s : Shared} {q : Addr} {ns : List Int} (I : Inv X pins σ H s) (h : H q = some (tupE q ns)) : ∃ its : List Value, Vals (ns.map V.int) its ∧ ns.length ≤ sizeLine ∧ s.heap.get? q = some { cls := .type "tuple", data := .seq its.toArray } :=
  (show ObjOk X.prog X.w H s.heap q (tupE q ns) from I.hok q _ h).1
def rTupE (K : PySem.W.Frag) : List V → Hp → VK → Prop := fun xs H Q => ∃ (p : Addr) (ns : List Int), xs = [.ref p] ∧ SqL K H p (ns.map V.int) ∧ ∀ l, H l = none → Q (.ref l) (upd H l (tupE l ns))
/-- tuple(list of ints) -/
theorem call_tupE : CallR X (.type "tuple") (rTupE X.K) := by
  intro pins s σ H xs us Q I r h
  obtain ⟨p, ns, rfl, hq, q⟩ := h
  obtain ⟨u, rfl, rx⟩ := vals1 r
  cases rx
  obtain ⟨its, rv, plain, hz⟩ := I.list hq
  have lens := rv.length
  have hz2 : ns.length ≤ sizeLine := by rw [List.length_map] at hz; exact hz
  refine call_tuple_list plain.isList (fun h' kp => ?_) (by simp only [List.size_toArray] <;> omega)
  have J1 : Inv X pins σ H { s with heap := h' } := I.kept (t' := s.toks) kp
  have J2 : Inv X pins σ (upd H h'.objs.size (tupE h'.objs.size ns)) { s with heap := h'.push { cls := .type "tuple", data := .seq its.toArray } } :=
    J1.laid (t' := s.toks) (fun b o e => Heap.get?_push_of_some _ e) (Nat.le_refl _) (tupE_ok rv hz2 (Heap.get?_push_size _ rfl))
  exact ⟨.ref h'.objs.size, _, J2, rfl, q _ (J1.hok.fresh (Nat.le_refl _))⟩
def rIxE : V → V → Hp → VK → Prop := fun x y H Q => ∃ (p : Addr) (ns : List Int) (i z : Int), x = .ref p ∧ y = .int i ∧ H p = some (tupE p ns) ∧ atI (ns.map V.int) i = some (.int z) ∧ Q (.int z) H
theorem ix_tupE : IxR X rIxE := by
  intro value slice pins s σ H x y v u Q I rx ry h hs
  obtain ⟨p, ns, i, z, rfl, rfl, hp, he, q⟩ := h
  cases rx
  obtain ⟨tk, rfl⟩ := ry
  obtain ⟨its, rv, hz, there⟩ := tupE_of I hp
  have isT : IsTup s.heap p its.toArray := ⟨_, there, rfl, 0, rfl⟩
  obtain ⟨j, a1, a2, a3, a4, a5⟩ := atI_get he
  obtain ⟨w, ew, rw'⟩ := rv.get a2
  have lens := rv.length
  rw [List.length_map] at lens
  have big := line63
  rw [List.length_map] at a1 a3 a4 a5
  have done : EP X pins σ Q w s := ⟨.int z, H, I, rw', q⟩
  exact subscriptTail_builtinR (x := w) isT.typeIs slot_tuple_getitem.lookup
    (getItem_tuple (j := j) (Q := fun r s' => r = w ∧ EP X pins σ Q r s') isT (by omega) (by omega) (by rw [List.size_toArray, ← lens]; exact a1) (by simpa using ew) ⟨rfl, done⟩) hs
/-- t.index(i), the first place -/
def tTupIx (ta te : TE) : TE := fun σ H Q => ta σ H fun x H1 => ∃ (p : Addr) (ns : List Int), x = .ref p ∧ H1 p = some (tupE p ns) ∧ te σ H1 fun y H2 => ∃ (i : Int) (j : Nat), y = .int i ∧ H2 p = some (tupE p ns) ∧ ns[j]? = some i ∧ (∀ m, m < j → ns[m]? ≠ some i) ∧ Q (.int (j : Nat)) H2
theorem pe_tupIx {o e : Expr} {apos cpos : Pos} {ta te : TE} (ho : PE X o ta) (he : PE X e te) (m : M1 X o "index" apos e cpos) : PE X (.Call (.Attribute o "index" apos) [e] [] cpos) (tTupIx ta te) := by
  refine ⟨fun pins s σ H Q I h => ?_⟩
  refine wpAny_Call_method m.base m.few m.line PySem.F.plainAttrs_tuple PySem.F.slot_tuple_index PySem.F.type_tuple_index (thn (ho.run pins s σ H _ I h) fun u s1 ⟨x, H1, I1, rx, p, ns, ex, hp, q1⟩ => ?_)
  subst ex
  obtain rfl : u = Value.ref p := rx
  obtain ⟨its1, _, _, there1⟩ := tupE_of I1 hp
  refine ⟨⟨_, there1, rfl⟩, fun b hb => by cases hb; exact ⟨_, there1, rfl⟩, ?_⟩
  rw [m.trees]
  refine Calls.callWith_builtin rfl (Calls.evalArgs_plain (Calls.spliced_cons (thn (he.run pins s1 σ H1 _ I1 q1) fun iv s2 ⟨y, H2, I2, ry, i, j, ey, hp2, hat, first, q⟩ => Calls.spliced_nil ?_)))
  subst ey
  obtain ⟨tk, rfl⟩ := ry
  obtain ⟨its, rv, hz, there⟩ := tupE_of I2 hp2
  have len : its.toArray.size = ns.length := by rw [List.size_toArray, ← rv.length, List.length_map]
  have jlt : j < its.toArray.size := by rw [len]; exact (List.getElem?_eq_some_iff.mp hat).1
  have item : ∀ (k : Nat) (hm : k < its.toArray.size), ∃ z t, ns[k]? = some z ∧ its.toArray[k] = Value.int z t := fun k hm => by
    have hm2 : k < ns.length := by rw [← len]; exact hm
    obtain ⟨w, hw, t, ht⟩ := rv.get (i := k) (x := .int ns[k]) (by simp [hm2])
    refine ⟨ns[k], t, List.getElem?_eq_getElem hm2, ?_⟩
    rw [← ht, ← (List.getElem?_eq_some_iff.mp hw).2]
    simp
  have flats : (ns.map V.int).all flatV = true := by
    rw [List.all_map]
    exact List.all_eq_true.mpr fun _ _ => rfl
  refine call_meets PySem.F.slot_tuple_index ⟨_, there, rfl⟩ PySem.F.entry_tuple_index (PySem.F.args_tuple_index_2 _ _) (TI.tuple_indexAt p its.toArray _ _ _ (.int i tk) (eqU (.int i)) j jlt ?_ ?_)
    ⟨there, fun w hw => mem_eqAt (x := .int i) ⟨tk, rfl⟩ rfl rv flats w (by simpa using hw), ⟨.int (j : Nat), H2, I2.tok _, ⟨_, rfl⟩, q⟩⟩
  · obtain ⟨z, t, h1, h2⟩ := item j jlt
    rw [hat] at h1
    cases h1
    rw [h2]
    show (i == i) = true
    exact beq_self_eq_true i
  · intro k hm hmj
    obtain ⟨z, t, h1, h2⟩ := item k hm
    rw [h2]
    show (z == i) = false
    cases e : z == i with
    | false => rfl
    | true =>
      rw [eq_of_beq e] at h1
      exact absurd h1 (first k hmj)
end
end PK
end

section
namespace PK
open PySem PySem.Spec PyProof.Rows L2
def mapI (n : Nat) (φ : Nat → Nat) : List Int := (List.range n).map fun p => ((φ p : Nat) : Int)
theorem mapI_V (n : Nat) (φ : Nat → Nat) : (mapI n φ).map V.int = mapV n φ := by
  unfold mapI mapV
  rw [List.map_map]
  rfl
theorem Same.but {x : Addr} {H H1 H2 : Hp} (a : Same H H1) (b : SameBut x H1 H2) : SameBut x H H2 := fun c o hc e => b c o hc (a c o e)
section
variable {P : Program} {w : World} {K : PySem.W.Frag} {mg : Str → Option Value} {base : Heap}
theorem sc_Search_go : FnScope ["self", "images", "at", "most", "point", "image", "more"] ["self", "images", "at", "most"] (defScope s_Search_go) := ⟨rfl, rfl, rfl, by decide +kernel, rfl, by decide +kernel, by decide +kernel⟩
def spGo (C : Addr) (R : Nat) : Sp := fun vs H Q _ => ∃ a D0 dx v v2 B F, ∃ z n : Nat, ∃ f g l0 bs, vs = [.ref a, .ref D0, .int (z : Int), .int 1] ∧ H a = some (.ins C dx (srF v v2 B F)) ∧ TblAt H v n f ∧ TblAt H v2 n g ∧ Sts n f ∧ Sts n g ∧ n ≤ 60 ∧
  H D0 = some (.dK (kvN l0)) ∧ Par n f g l0 ∧ H B = some (.lst (intsN bs)) ∧ H F = some (.lst []) ∧ (∀ y ∈ bs, y < n) ∧ (∀ q, q < n → Gen n f bs q) ∧ z ≤ bs.length ∧ bs.length ≤ z + R ∧ (∀ y ∈ bs.take z, y ∈ keysOf l0) ∧
  (∀ H', Same H H' → (∀ ψ, Iso n f g ψ → Ext ψ l0 → False) → Q .non H') ∧
  ∀ H' q φ, SameBut F H H' → H' F = some (.lst [.ref q]) → H' q = some (tupE q (mapI n φ)) → Iso n f g φ → Q .non H'
theorem Me.never {C f : Addr} {fd : FuncData} {m q : Str} {st : Stmt} {ps : List Str} {sp : Sp} {k : Nat} (M : Meth K C m f) (F : FnM K m q st f fd)
    (hb : ∀ (kV doc pm : Value) (an : Option Addr) (cdv ct : Value) (us : List Value), us.length = ps.length → bindArgs (PySem.W.fnOf m q (defArgs st) (defBody st) (defScope st) .none kV doc pm an cdv ct) ⟨us, []⟩ = pure (ps.zip us))
    (no : ∀ vs H Q E, ¬ sp vs H Q E) : Me P w K mg base k C m ps sp :=
  ⟨f, fd, M, F.bindsN hb, ⟨fun vs H Q E h => (no _ _ _ _ h).elim, fun A outer s H args us vs Q E _ _ _ _ h => (no _ _ _ _ h).elim⟩⟩
theorem go_turn {C f f2 : Addr} {fd fd2 : FuncData} {R k : Nat} (T : Txt w K mg) (c : SrC K C) (M2 : Meth K C "with_image" f2) (F2 : FnM K "with_image" "Search.with_image" s_Search_with_image f2 fd2) (M : Meth K C "go" f) (F : FnM K "go" "Search.go" s_Search_go f fd) (hk : 1 ≤ k)
    (G : ∀ j, R = j + 1 → Me P w K mg base k C "go" ["self", "images", "at", "most"] (spGo C j)) : Me P w K mg base (k + 1) C "go" ["self", "images", "at", "most"] (spGo C R) := by
  have F_with := me_with_image (P := P) (base := base) T c M2 F2
  obtain ⟨j, hj, F_go⟩ : ∃ j : Nat, (R ≠ 0 → R = j + 1) ∧ Me P w K mg base k C "go" ["self", "images", "at", "most"] (fun vs H Q E => R ≠ 0 ∧ spGo C j vs H Q E) := by
    cases R with
    | zero => exact ⟨0, fun h => absurd rfl h, Me.never M F (fun _ _ _ _ _ _ us hl => match us, hl with | [_, _, _, _], _ => rfl) fun _ _ _ _ h => h.1 rfl⟩
    | succ j => exact ⟨j, fun _ => rfl, (G j rfl).imp fun _ _ _ _ h => h.2⟩
  refine mk_me M F sc_Search_go (fun _ _ _ _ _ _ us hl => match us, hl with | [_, _, _, _], _ => rfl) (fun vs H Q E h => ?_) (fun cdv A outer s H vs Q E hr h => ?_)
  · obtain ⟨a, D0, dx, v, v2, B, F, z, n, f, g, l0, bs, rfl, _⟩ := h
    rfl
  · obtain ⟨a, D0, dx, v, v2, B, Fa, z, n, f1, g, l0, bs, rfl, ha, hT, hT2, S, S2, hn, hD0, PR, hB, hF, hbn, hgen, hz, hzR, hks, kno, kyes⟩ := h
    have hu := hu_of hr
    refine ⟨_, (pss_cons (ps_if (pt_cmpR op_eq (pv 2) (pe_callB call_len_seq (by rfl) T.n_len (by decide +kernel) (pa_cons (pe_fld (pv 0) rfl) pa_nil)) (nomark _)) (pss_cons (ps_if (pt_cmpR op_eq (pe_callB call_len_seq (by rfl) T.n_len (by decide +kernel) (pa_cons (pe_fld (pv 0) rfl) pa_nil)) (pe_fld (pv 0) rfl) (nomark _)) (pss_one ps_never) pss_nil)
        (pss_cons (ps_expr (pe_bm PySem.F.plainAttrs_list PySem.F.slot_list_append PySem.F.type_list_append mt_append (pe_fld (pv 0) rfl) (pa_cons (pe_callTy call_tupE (by rfl) T.n_tuple (by decide +kernel) (pa_cons (pe_lc (own := [("point", 4)]) (g := gName 4) (tt := tYes) rfl sc_Search_go.nd (pi_range1 (by rfl) T.n_range (pa_cons (pe_callB call_len_seq (by rfl) T.n_len (by decide +kernel) (pa_cons (pe_fld (pv 0) rfl) pa_nil)) pa_nil)) (blkOk_by (by kernel_rfl)) (fun _ _ _ _ _ => (pg_name (i := 4) sc_Search_go.nd rfl (Or.inl rfl))) (fun _ _ _ _ _ => pts_nil) (fun _ _ _ _ _ => (pe_dget hu (pv 1) (pv 4) (fun _ _ => rfl)))) pa_nil)) pa_nil)))
        (pss_one ps_retN))) pss_nil)
      (pss_one (ps_for PassesOwn.never rfl (pi_range1 (by rfl) T.n_range (pa_cons (pe_callB call_len_seq (by rfl) T.n_len (by decide +kernel) (pa_cons (pe_fld (pv 0) rfl) pa_nil)) pa_nil)) (pg_name (i := 5) sc_Search_go.nd rfl (Or.inl rfl))
      (pss_one (ps_if (pt_cmpR op_lt (pe_callB call_len_seq (by rfl) T.n_len (by decide +kernel) (pa_cons (pe_fld (pv 0) rfl) pa_nil)) (pv 3) (nomark _)) (pss_cons (ps_set (i := 6) sc_Search_go.nd rfl (Or.inl rfl) (pe_me F_with c.cls hr hk (pv 0) (pa_cons (pv 1) (pa_cons (pe_ix ix_list (pe_fld (pv 0) rfl) (pv 2) (fun _ _ => rfl)) (pa_cons (pv 5) pa_nil)))))
          (pss_one (ps_if (pt_cmpR op_notN (pv 6) pe_non (nomark _)) (pss_one (ps_expr (pe_me F_go c.cls hr (Nat.le_refl _) (pv 0) (pa_cons (pv 6) (pa_cons (pe_op op_add (pv 2) pe_int) (pa_cons (pv 3) pa_nil)))))) pss_nil))) pss_nil))))), ?_⟩
    refine st_is (σ := [some _, some _, some _, some _, none, none, none]) rfl ?_
    refine ⟨_, rfl, _, rfl, a, C, dx, _, .ref B, rfl, ha, c.cls, c.n4, rfl, B, _, rfl, .inl (SqL.of hB), ?_⟩
    rw [intsN_len]
    refine ⟨rfl, _, rfl, ?_⟩
    by_cases hzl : z = bs.length
    · refine ite_yes (dec_int_eq (by omega)) ?_
      obtain ⟨all, I⟩ := Par.total PR (base := bs) (fun y hy => hks y (by rw [hzl, List.take_length]; exact hy)) hgen
      refine ⟨_, rfl, a, C, dx, _, .ref Fa, rfl, ha, c.cls, c.n5, rfl, Fa, _, rfl, .inl (SqL.of hF), ?_⟩
      refine ⟨_, rfl, a, C, dx, _, .int 1, rfl, ha, c.cls, c.n3, rfl, rfl, _, rfl, ite_no (dec_int_ne (by decide)) ?_⟩
      refine ⟨_, rfl, a, C, dx, _, .ref Fa, rfl, ha, c.cls, c.n5, rfl, .inl ⟨rfl, _, SqL.of hF⟩, ?_⟩
      obtain ⟨vp, vxs, hv, hvl, hvn⟩ := hT.list (K := K)
      refine ⟨_, rfl, a, C, dx, _, v, rfl, ha, c.cls, c.n1, rfl, vp, _, by rw [hv], .inl hvl, ?_⟩
      rw [hvn]
      refine ⟨n, rfl, by omega, by omega, fun Z hZ => ?_⟩
      refine lc_rngV (n := n) (fun p => V.int ((mapOf l0 p : Nat) : Int)) hZ (by omega) (fun p H3 hp s3 qq hq => ?_) (fun _ => rfl) fun H3 s3 h3 => ?_
      · exact ⟨_, rfl, _, rfl, D0, _, rfl, .inl ⟨kvN l0, kK p, .inl (s3 _ _ hD0), rfl, (valN_yes PR.kn (all p hp)).symm⟩, hq _ (Same.refl _)⟩
      · refine ⟨Z, mapI n (mapOf l0), rfl, SqL.of (by rw [h3, mapI_V]; rfl), fun t ht => ?_⟩
        have hF3 := s3 _ _ hF
        have nFt : Fa ≠ t := ne_of_none hF3 ht
        refine ⟨Fa, _, _, rfl, rfl, by rw [upd_ne nFt]; exact hF3, szlt (by decide), ?_⟩
        refine kyes _ t (mapOf l0) (SameBut.put (Same.but (Same.trans s3 (Same.new ht)) (SameBut.refl _ _))) upd_same ?_ I
        rw [upd_ne (Ne.symm nFt), upd_same]
    · refine ite_no (dec_int_ne (by omega)) ?_
      have hzlt : z < bs.length := by omega
      obtain ⟨vp2, vxs2, hv2, hvl2, hvn2⟩ := hT2.list (K := K)
      refine ⟨_, rfl, a, C, dx, _, v2, rfl, ha, c.cls, c.n2, rfl, vp2, _, by rw [hv2], .inl hvl2, ?_⟩
      rw [hvn2]
      refine ⟨n, rfl, by omega, by omega, ?_⟩
      have hbz : bs[z]? = some bs[z] := List.getElem?_eq_getElem hzlt
      have hbzm : bs[z] ∈ bs := List.getElem_mem hzlt
      have htk : bs.take (z + 1) = bs.take z ++ [bs[z]] := by rw [List.take_succ, hbz]; rfl
      have hbzn := hbn _ hbzm
      have hbat : atI (intsN bs) (z : Int) = some (.int (bs[z] : Int)) := atI_nat (by unfold intsN; rw [List.getElem?_map, hbz]; rfl)
      generalize bs[z] = b at *
      have nFa : a ≠ Fa := fun e => by rw [e, hF] at ha; cases ha
      refine for_range (n := n) (fun i σ H' => ∃ x5 x6 : Option V, σ = [some (.ref a), some (.ref D0), some (.int (z : Int)), some (.int 1), none, x5, x6] ∧
          ((Same H H' ∧ ∀ ψ, Iso n f1 g ψ → Ext ψ l0 → i ≤ ψ b) ∨ ∃ q φ, SameBut Fa H H' ∧ H' Fa = some (.lst [.ref q]) ∧ H' q = some (tupE q (mapI n φ)) ∧ Iso n f1 g φ))
        ⟨none, none, rfl, .inl ⟨Same.refl _, fun _ _ _ => Nat.zero_le _⟩⟩ ?_ ?_
      · rintro i σ H1 hi ⟨x5, x6, rfl, hc⟩
        rw [Int.zero_add]
        rcases hc with ⟨s1, hno⟩ | ⟨q, φ, s1, hF1, hq1, I⟩
        · have ha1 := s1 _ _ ha
          refine ⟨_, rfl, a, C, dx, _, .ref Fa, rfl, ha1, c.cls, c.n5, rfl, Fa, _, rfl, .inl (SqL.of (s1 _ _ hF)), _, rfl, _, _, rfl, rfl, _, rfl, ite_yes (by decide) ?_⟩
          -- more = self.with_image(..)
          refine ⟨_, rfl, a, dx, _, rfl, ha1, rfl, ?_⟩
          refine ⟨_, rfl, _, rfl, a, C, dx, _, .ref B, rfl, ha1, c.cls, c.n4, rfl, ?_⟩
          refine ⟨_, rfl, _, _, _, _, rfl, rfl, SqL.of (s1 _ _ hB), hbat, ?_⟩
          refine ⟨_, rfl, a, D0, dx, v, v2, B, Fa, b, i, n, f1, g, l0, rfl, ha1, hT.same s1, hT2.same s1, S, S2, hn, s1 _ _ hD0, PR, hbzn, hi, fun H2 s2 hnone => ?_, fun D2 l H2 s2 hD2 hd2 PR2 hsub hmem hext => ?_⟩
          · refine ⟨_, rfl, rfl, _, rfl, ite_no (by decide) ?_⟩
            refine ⟨_, _, rfl, .inl ⟨Same.trans s1 s2, fun ψ h1 h2 => ?_⟩⟩
            have h3 := hno ψ h1 h2
            by_cases e : ψ b = i
            · exact (hnone ψ h1 h2 e).elim
            · omega
          · refine ⟨_, rfl, rfl, _, rfl, ite_yes (by simp) ?_⟩
            have s12 := Same.trans s1 s2
            have hR0 : R ≠ 0 := by omega
            have hRj := hj hR0
            refine ⟨_, rfl, a, dx, _, rfl, s2 _ _ ha1, rfl, ?_⟩
            refine ⟨_, rfl, _, rfl, _, _, rfl, rfl, _, rfl, ?_⟩
            refine ⟨hR0, a, D2, dx, v, v2, B, Fa, z + 1, n, f1, g, l, bs, rfl, s2 _ _ ha1, hT.same s12, hT2.same s12, S, S2, hn, hd2, PR2, s12 _ _ hB, s12 _ _ hF, hbn, hgen, hzlt, by omega, ?_, fun H3 s3 hnone => ?_, fun H3 q φ s3 hF3 hq3 I => ?_⟩
            · intro y hy
              rw [htk] at hy
              rcases List.mem_append.mp hy with hy | hy
              · obtain ⟨u, hu⟩ := mem_keys.mp (hks y hy)
                exact mem_keys.mpr ⟨u, hsub _ hu⟩
              · rw [List.mem_singleton.mp hy]
                exact mem_keys.mpr ⟨i, hmem⟩
            · refine ⟨_, _, rfl, .inl ⟨Same.trans s12 s3, fun ψ h1 h2 => ?_⟩⟩
              have h3 := hno ψ h1 h2
              by_cases e : ψ b = i
              · exact (hnone ψ h1 (hext ψ h1 h2 e)).elim
              · omega
            · exact ⟨_, _, rfl, .inr ⟨q, φ, Same.but s12 s3, hF3, hq3, I⟩⟩
        · have ha1 := s1 _ _ nFa ha
          refine ⟨_, rfl, a, C, dx, _, .ref Fa, rfl, ha1, c.cls, c.n5, rfl, Fa, _, rfl, .inl (SqL.of hF1), _, rfl, _, _, rfl, rfl, _, rfl, ite_no (decide_eq_false (show ¬ ((1 : Nat) : Int) < 1 by decide)) ?_⟩
          exact ⟨_, _, rfl, .inr ⟨q, φ, s1, hF1, hq1, I⟩⟩
      · rintro σ H1 ⟨x5, x6, rfl, hc⟩
        rcases hc with ⟨s1, hno⟩ | ⟨q, φ, s1, hF1, hq1, I⟩
        · exact kno H1 s1 fun ψ h1 h2 => by
            have := hno ψ h1 h2
            have := h1.lt b hbzn
            omega
        · exact kyes H1 q φ s1 hF1 hq1 I
end
end PK
end

section
namespace PK
open PySem PySem.Spec PyProof.Rows L2
theorem sameOf {x : Addr} {H H3 H4 : Hp} (s : Same H H3) (h : H x = none) (b : SameBut x H3 H4) : Same H H4 := fun c o e => b c o (ne_of_none e h) (s c o e)
section
variable {P : Program} {w : World} {K : PySem.W.Frag} {mg : Str → Option Value} {base : Heap}
theorem me_go {C f f2 : Addr} {fd fd2 : FuncData} (T : Txt w K mg) (c : SrC K C) (M2 : Meth K C "with_image" f2) (F2 : FnM K "with_image" "Search.with_image" s_Search_with_image f2 fd2) (M : Meth K C "go" f) (F : FnM K "go" "Search.go" s_Search_go f fd) :
    ∀ R : Nat, Me P w K mg base (R + 2) C "go" ["self", "images", "at", "most"] (spGo C R)
  | 0 => go_turn (k := 1) T c M2 F2 M F (by decide) fun _ h => nomatch h
  | R + 1 => go_turn (k := R + 2) T c M2 F2 M F (by omega) fun j h => by
    obtain rfl : R = j := Nat.succ.inj h
    exact me_go T c M2 F2 M F R
theorem sc_searched : FnScope ["one", "other", "limit", "most", "table", "far", "search"] ["one", "other", "limit", "most"] (defScope s_searched) := ⟨rfl, rfl, rfl, by decide +kernel, rfl, by decide +kernel, by decide +kernel⟩
def spSearched : Sp := fun vs H Q _ => ∃ v t v2 t2, ∃ n : Nat, ∃ f g, vs = [v, v2, .int 1, .int 1] ∧ TrAt H t v ∧ Sys t n f ∧ Sts n f ∧ n ≤ 60 ∧ TrAt H t2 v2 ∧ Sys t2 n g ∧ Sts n g ∧
  ((∀ ψ, Iso n f g ψ → False) → ∀ p H', Same H H' → H' p = some (.lst []) → Q (.ref p) H') ∧
  ∀ p q φ H', Same H H' → H' p = some (.lst [.ref q]) → H' q = some (tupE q (mapI n φ)) → Iso n f g φ → Q (.ref p) H'
theorem fc_searched (T : Txt w K mg) : Fc P w K mg base 63 "searched" ["one", "other", "limit", "most"] spSearched := by
  have F_table_of := fc_table_of (P := P) (base := base) T
  obtain ⟨C, f1, f2, f3, fd1, fd2, fd3, hSearch, hcls, ⟨n1, n2, n3, n4, n5⟩, mk, m2, m3, F1, F2, F3⟩ := T.search
  have c : SrC K C := ⟨hcls, n1, n2, n3, n4, n5⟩
  obtain ⟨bI, fI⟩ := fn_init (P := P) (base := base) T c F1
  have F_go := me_go (P := P) (base := base) T c m2 F2 m3 F3 60
  refine mk_fc T.d_searched sc_searched (fun _ _ _ _ _ _ us hl => match us, hl with | [_, _, _, _], _ => rfl) (fun vs H Q E h => ?_) (fun f cdv A outer s H vs Q E hr h => ?_)
  · obtain ⟨v, t, v2, t2, n, f, g, rfl, _⟩ := h
    rfl
  · obtain ⟨v, t, v2, t2, n, f, g, rfl, hT, S, St, hn, hT2, S2, St2, kno, kyes⟩ := h
    refine ⟨_, (pss_cons (ps_set (i := 4) sc_searched.nd rfl (Or.inl rfl) (pe_fc F_table_of hr rfl (pa_cons (pv 0) pa_nil)))
      (pss_cons (ps_set (i := 5) sc_searched.nd rfl (Or.inl rfl) (pe_fc F_table_of hr rfl (pa_cons (pv 1) pa_nil)))
      (pss_cons (ps_if (pt_cmpR op_ne (pe_callB call_len_seq (by rfl) T.n_len (by decide +kernel) (pa_cons (pv 4) pa_nil)) (pe_callB call_len_seq (by rfl) T.n_len (by decide +kernel) (pa_cons (pv 5) pa_nil)) (nomark _)) (pss_one (ps_ret (pe_lst pa_nil))) pss_nil)
      (pss_cons (ps_set (i := 6) sc_searched.nd rfl (Or.inl rfl) (pe_make mk fI (hr.mono (by decide)) rfl hSearch bI .nil pass0 (pa_cons (pv 4) (pa_cons (pv 5) (pa_cons (pv 2) pa_nil)))))
      (pss_cons (ps_expr (pe_me F_go c.cls hr (Nat.le_refl _) (pv 6) (pa_cons pe_dnewK (pa_cons pe_int (pa_cons (pv 3) pa_nil)))))
      (pss_one (ps_ret (pe_fld (pv 6) rfl)))))))), ?_⟩
    refine st_is (σ := [some _, some _, some _, some _, none, none, none]) rfl ?_
    refine ⟨_, rfl, v, t, n, f, rfl, hT, S, St, hn, fun u H1 s1 hu => ?_⟩
    refine ⟨_, rfl, v2, t2, n, g, rfl, hT2.keep (Same.tups s1), S2, St2, hn, fun u2 H2 s2 hu2 => ?_⟩
    have hu := hu.same s2
    have s12 := Same.trans s1 s2
    obtain ⟨vp, vxs, hv, hvl, hvn⟩ := hu.list (K := K)
    obtain ⟨vp2, vxs2, hv2, hvl2, hvn2⟩ := hu2.list (K := K)
    refine ⟨_, rfl, vp, _, by rw [hv], .inl hvl, _, rfl, vp2, _, by rw [hv2], .inl hvl2, ?_⟩
    rw [hvn, hvn2]
    refine ⟨rfl, _, rfl, ite_no (by rw [dec_int_eq rfl]; rfl) ?_⟩
    -- search = Search(..)
    refine ⟨_, rfl, _, rfl, _, rfl, fun x dx hx hdx hne => ?_⟩
    have nxd : x ≠ dx := Ne.symm hne
    have s3 : Same H2 (upd (upd H2 dx (.own x)) x (.ins C dx [])) := Same.trans (Same.new hdx) (Same.new (by rw [upd_ne nxd]; exact hx))
    have x3 : (upd (upd H2 dx (.own x)) x (.ins C dx [])) x = some (.ins C dx []) := upd_same
    generalize upd (upd H2 dx (.own x)) x (.ins C dx []) = H3 at s3 x3 ⊢
    refine ⟨x, dx, u, u2, n, f, rfl, x3, hu.same s3, St, hn, fun B Fa bs H4 b4 hB3 hF3 nBF x4 e4 f4 p1 p2 p3 => ⟨rfl, ?_⟩⟩
    have s4 : Same H2 H4 := sameOf s3 hx b4
    have hF2 : H2 Fa = none := s3.free hF3
    -- search.go({}, 0, most)
    refine ⟨_, rfl, x, dx, _, rfl, x4, rfl, ?_⟩
    refine fun D0 hD0 => ?_
    have s5 := Same.trans s4 (Same.new (o := .dK (kvN [])) hD0)
    have x5 := Same.new (o := .dK (kvN [])) hD0 _ _ x4
    have e5 := Same.new (o := .dK (kvN [])) hD0 _ _ e4
    have f5 := Same.new (o := .dK (kvN [])) hD0 _ _ f4
    have d5 : (upd H4 D0 (.dK (kvN []))) D0 = some (.dK (kvN [])) := upd_same
    have g5 : upd H4 D0 (.dK []) = upd H4 D0 (.dK (kvN [])) := rfl
    rw [g5]
    generalize upd H4 D0 (.dK (kvN [])) = H5 at s5 x5 e5 f5 d5 ⊢
    refine ⟨_, rfl, x, D0, dx, u, u2, B, Fa, 0, n, f, g, [], bs, rfl, x5, hu.same s5, hu2.same s5, St, St2, hn, d5, Par.nil, e5, f5, p1, p2, Nat.zero_le _, by omega, fun y h => by simp at h, fun H6 s6 hnone => ?_, fun H6 q φ s6 hF6 hq6 I => ?_⟩
    · refine ⟨_, rfl, x, C, dx, _, .ref Fa, rfl, s6 _ _ x5, c.cls, c.n5, rfl, ?_⟩
      exact kno (fun ψ h => hnone ψ h fun y hy => by simp at hy) Fa H6 (Same.trans s12 (Same.trans s5 s6)) (s6 _ _ f5)
    · have nxF : x ≠ Fa := fun e => by rw [← e, x3] at hF3; cases hF3
      refine ⟨_, rfl, x, C, dx, _, .ref Fa, rfl, s6 _ _ nxF x5, c.cls, c.n5, rfl, ?_⟩
      exact kyes Fa q φ H6 (Same.trans s12 (sameOf s5 hF2 s6)) hF6 hq6 I
theorem sc_likeness : FnScope ["one", "other", "found"] ["one", "other"] (defScope s_likeness) := ⟨rfl, rfl, rfl, by decide +kernel, rfl, by decide +kernel, by decide +kernel⟩
def spLikeness : Sp := fun vs H Q _ => ∃ v t v2 t2, ∃ n : Nat, ∃ f g, vs = [v, v2] ∧ TrAt H t v ∧ Sys t n f ∧ Sts n f ∧ n ≤ 60 ∧ TrAt H t2 v2 ∧ Sys t2 n g ∧ Sts n g ∧
  ((∀ ψ, Iso n f g ψ → False) → ∀ H', Same H H' → Q .non H') ∧
  ∀ q φ H', Same H H' → H' q = some (tupE q (mapI n φ)) → Iso n f g φ → Q (.ref q) H'
theorem fc_likeness (T : Txt w K mg) : Fc P w K mg base 64 "likeness" ["one", "other"] spLikeness := by
  have F_searched := fc_searched (P := P) (base := base) T
  refine mk_fc T.d_likeness sc_likeness (fun _ _ _ _ _ _ us hl => match us, hl with | [_, _], _ => rfl) (fun vs H Q E h => ?_) (fun f cdv A outer s H vs Q E hr h => ?_)
  · obtain ⟨v, t, v2, t2, n, f, g, rfl, _⟩ := h
    rfl
  · obtain ⟨v, t, v2, t2, n, f1, g, rfl, hT, S, St, hn, hT2, S2, St2, kno, kyes⟩ := h
    refine ⟨_, (pss_cons (ps_set (i := 2) sc_likeness.nd rfl (Or.inl rfl) (pe_fc F_searched hr rfl (pa_cons (pv 0) (pa_cons (pv 1) (pa_cons pe_int (pa_cons pe_int pa_nil)))) (Nat.le_refl _)))
      (pss_one (ps_ret (pe_ifExp (pt_truth (pv 2) (by intro _; rfl)) (pe_ix ix_list (pv 2) pe_int (fun _ _ => rfl)) pe_non)))), ?_⟩
    refine st_is (σ := [some _, some _, none]) rfl ?_
    refine ⟨_, rfl, _, rfl, v, t, v2, t2, n, f1, g, rfl, hT, S, St, hn, hT2, S2, St2, fun h p H1 s1 hp => ?_, fun p q φ H1 s1 hp hq I => ?_⟩
    · exact ⟨_, rfl, _, .inl ⟨_, SqL.of hp, rfl⟩, ite_no rfl (kno h H1 s1)⟩
    · exact ⟨_, rfl, _, .inl ⟨_, SqL.of hp, rfl⟩, ite_yes rfl ⟨_, rfl, _, _, _, _, rfl, rfl, SqL.of hp, rfl, kyes q φ H1 s1 hq I⟩⟩
theorem sc_are_alike : FnScope ["one", "other"] ["one", "other"] (defScope s_are_alike) := ⟨rfl, rfl, rfl, by decide +kernel, rfl, by decide +kernel, by decide +kernel⟩
def spAlike : Sp := fun vs H Q _ => ∃ v t v2 t2, ∃ n : Nat, ∃ f g, vs = [v, v2] ∧ TrAt H t v ∧ Sys t n f ∧ Sts n f ∧ n ≤ 60 ∧ TrAt H t2 v2 ∧ Sys t2 n g ∧ Sts n g ∧
  ((∀ ψ, Iso n f g ψ → False) → ∀ H', Same H H' → Q (.bl false) H') ∧ ∀ φ H', Same H H' → Iso n f g φ → Q (.bl true) H'
theorem fc_are_alike (T : Txt w K mg) : Fc P w K mg base 65 "are_alike" ["one", "other"] spAlike := by
  have F_likeness := fc_likeness (P := P) (base := base) T
  refine mk_fc T.d_are_alike sc_are_alike (fun _ _ _ _ _ _ us hl => match us, hl with | [_, _], _ => rfl) (fun vs H Q E h => ?_) (fun f cdv A outer s H vs Q E hr h => ?_)
  · obtain ⟨v, t, v2, t2, n, f, g, rfl, _⟩ := h
    rfl
  · obtain ⟨v, t, v2, t2, n, f1, g, rfl, hT, S, St, hn, hT2, S2, St2, kno, kyes⟩ := h
    refine ⟨_, (pss_one (ps_ret (pe_cmpR op_notN (pe_fc F_likeness hr rfl (pa_cons (pv 0) (pa_cons (pv 1) pa_nil)) (Nat.le_refl _)) pe_non (nomark _)))), ?_⟩
    refine st_is (σ := [some _, some _]) rfl ?_
    refine ⟨_, rfl, _, rfl, v, t, v2, t2, n, f1, g, rfl, hT, S, St, hn, hT2, S2, St2, fun h H1 s1 => ?_, fun q φ H1 s1 hq I => ?_⟩
    · exact ⟨rfl, kno h H1 s1⟩
    · refine ⟨rfl, ?_⟩
      have e : (!decide (V.ref q = V.non)) = true := by simp
      rw [e]
      exact kyes φ H1 s1 I
end
end PK
end

section
namespace PK
open PySem PySem.Spec PyProof.Rows L2
theorem cut_short (xs : List V) {k : Nat} (h : xs.length ≤ k) : cutV xs none (some (k : Int)) = xs := by
  unfold cutV
  rw [HT.sIx_none, HT.sIx_nat]
  simp [Nat.min_eq_right h]
section
variable {P : Program} {w : World} {K : PySem.W.Frag} {mg : Str → Option Value} {base : Heap}
theorem sc_law_row : FnScope ["_law_cell", "_law_many", "_law_row_here", "_law_rest", "_law_mixed_here", "_law_k"] ["_law_cell", "_law_many"] (defScope s_law_row) := ⟨rfl, rfl, rfl, by decide +kernel, rfl, by decide +kernel, by decide +kernel⟩
def spRow : Sp := fun vs H Q _ => ∃ (c : Int) (m : Nat), vs = [.int c, .int (m : Int)] ∧ m ≤ 1000 ∧ ∀ p (ns : List Int) H', Same H H' → H' p = some (.lst (ns.map V.int)) → H p = none → ns.length = m → (∀ x ∈ ns, 0 ≤ x ∧ x < 1009) → Q (.ref p) H'
theorem fc_law_row (T : Txt w K mg) : Fc P w K mg base 1 "_law_row" ["_law_cell", "_law_many"] spRow := by
  refine mk_fc T.d_law_row sc_law_row (fun _ _ _ _ _ _ us hl => match us, hl with | [_, _], _ => rfl) (fun vs H Q E h => ?_) (fun f cdv A outer s H vs Q E hr h => ?_)
  · obtain ⟨c, m, rfl, _⟩ := h
    rfl
  · obtain ⟨c, m, rfl, hm, k⟩ := h
    refine ⟨_, (pss_cons (ps_set (i := 2) sc_law_row.nd rfl (Or.inl rfl) (pe_lst pa_nil))
      (pss_cons (ps_set (i := 3) sc_law_row.nd rfl (Or.inl rfl) (pe_callB call_abs (by rfl) T.n_abs (by decide +kernel) (pa_cons (pv 0) pa_nil)))
      (pss_cons (ps_set (i := 4) sc_law_row.nd rfl (Or.inl rfl) (pe_op op_mod (pe_callTy call_int1 (by rfl) T.n_int (by decide +kernel) (pa_cons (pe_op op_add (pe_op op_mul (pv 3) pe_int) pe_int) pa_nil)) pe_int))
      (pss_cons (ps_for PassesOwn.never rfl (pi_range1 (by rfl) T.n_range (pa_cons (pv 1) pa_nil)) (pg_name (i := 5) sc_law_row.nd rfl (Or.inl rfl))
      (pss_cons (ps_set (i := 4) sc_law_row.nd rfl (Or.inl rfl) (pe_op op_mod (pe_callTy call_int1 (by rfl) T.n_int (by decide +kernel) (pa_cons (pe_op op_add (pe_op op_mul (pv 4) pe_int) (pe_op op_mul pe_int (pe_op op_add (pv 5) pe_int))) pa_nil)) pe_int))
        (pss_one (ps_if (pt_cmpR op_ge (pe_callB call_abs (by rfl) T.n_abs (by decide +kernel) (pa_cons (pv 0) pa_nil)) (pe_op op_pow pe_int pe_int) (nomark _)) (pss_cons (ps_expr (pe_bm PySem.F.plainAttrs_list PySem.F.slot_list_append PySem.F.type_list_append mt_append (pv 2) (pa_cons (pe_op op_mod (pe_callTy call_int1 (by rfl) T.n_int (by decide +kernel) (pa_cons (pv 3) pa_nil)) pe_int) pa_nil)))
          (pss_one (ps_set (i := 3) sc_law_row.nd rfl (Or.inl rfl) (pe_op op_fdiv (pv 3) pe_int)))) (pss_one (ps_expr (pe_bm PySem.F.plainAttrs_list PySem.F.slot_list_append PySem.F.type_list_append mt_append (pv 2) (pa_cons (pe_op op_mod (pe_callTy call_int1 (by rfl) T.n_int (by decide +kernel) (pa_cons (pe_op op_fdiv (pv 4) pe_int) pa_nil)) pe_int) pa_nil))))))))
      (pss_one (ps_ret (pv 2))))))), ?_⟩
    refine st_is (σ := [some _, some _, none, none, none, none]) rfl ?_
    refine ⟨Nat.zero_le _, fun R hR => ?_⟩
    have hR0 : H R = none := hR
    have s1 := Same.new (o := .lst []) hR
    have e1 : (upd H R (.lst [])) R = some (.lst (([] : List Int).map V.int)) := upd_same
    generalize upd H R (.lst []) = H1 at s1 e1 ⊢
    refine ⟨_, rfl, c, rfl, ?_⟩
    generalize (if c < 0 then -c else c) = r
    repeat ((try simp only [List.set_cons_zero, List.set_cons_succ]); (first | with_reducible refine iteF ?_ | with_reducible refine iteT ?_ | with_reducible refine ite_no (by decide +kernel) ?_ | with_reducible refine ite_yes (by decide +kernel) ?_ | (fail_if_success (with_reducible refine ite2 ?_ ?_)); (first | refine ⟨_, rfl, ?_⟩ | refine ⟨_, _, rfl, rfl, ?_⟩ | refine ⟨rfl, _, rfl, ?_⟩ | refine ⟨_, _, rfl, ?_⟩ | refine ⟨_, _, _, rfl, ?_⟩ | refine ⟨rfl, ?_⟩ | with_reducible refine And.intro (by (try dsimp only [CDiv, CMul]); omega) ?_)))
    refine .inl ⟨_, rfl, _, _, rfl, rfl, (by show (0 : Int) < 2147483647; decide), ?_⟩
    refine ⟨_, rfl, (m : Int), rfl, by omega, by omega, ?_⟩
    refine for_range (n := m) (fun i σ H' => ∃ (rest mixed : Int) (ns : List Int) (x5 : Option V), σ = [some (.int c), some (.int (m : Int)), some (.ref R), some (.int rest), some (.int mixed), x5] ∧ Same H H' ∧ H' R = some (.lst (ns.map V.int)) ∧ ns.length = i ∧ ∀ x ∈ ns, 0 ≤ x ∧ x < 1009)
      ⟨r, _, [], none, rfl, s1, e1, rfl, fun x h => by simp at h⟩ ?_ ?_
    · rintro i σ H2 hi ⟨rest, mixed, ns, x5, rfl, s2, e2, hl, hb⟩
      rw [Int.zero_add]
      have hsz : (ns.map V.int).length < sizeLine := szlt (by rw [List.length_map]; omega)
      have go : ∀ (z : Int) (rest' mixed' : Int) (H' : Hp), H' = upd H2 R (.lst (ns.map V.int ++ [.int (z % 1009)])) → ∃ (rest mixed : Int) (ns : List Int) (x5 : Option V), [some (V.int c), some (.int (m : Int)), some (.ref R), some (.int rest'), some (.int mixed'), some (.int (i : Int))] = [some (.int c), some (.int (m : Int)), some (.ref R), some (.int rest), some (.int mixed), x5] ∧ Same H H' ∧ H' R = some (.lst (ns.map V.int)) ∧ ns.length = i + 1 ∧ ∀ x ∈ ns, 0 ≤ x ∧ x < 1009 := fun z rest' mixed' H' e => by
        subst e
        refine ⟨rest', mixed', ns ++ [z % 1009], _, rfl, Same.put s2 hR, by rw [upd_same, List.map_append]; rfl, by rw [List.length_append, hl]; rfl, fun x hx => ?_⟩
        rcases List.mem_append.mp hx with hx | hx
        · exact hb x hx
        · rw [List.mem_singleton.mp hx]
          exact ⟨Int.emod_nonneg _ (by decide), Int.emod_lt_of_pos _ (by decide)⟩
      repeat ((try simp only [List.set_cons_zero, List.set_cons_succ]); (first | with_reducible refine iteF ?_ | with_reducible refine iteT ?_ | with_reducible refine ite_no (by decide +kernel) ?_ | with_reducible refine ite_yes (by decide +kernel) ?_ | (fail_if_success (with_reducible refine ite2 ?_ ?_)); (first | refine ⟨_, rfl, ?_⟩ | refine ⟨_, _, rfl, rfl, ?_⟩ | refine ⟨rfl, _, rfl, ?_⟩ | refine ⟨_, _, rfl, ?_⟩ | refine ⟨_, _, _, rfl, ?_⟩ | refine ⟨rfl, ?_⟩ | with_reducible refine And.intro (by (try dsimp only [CDiv, CMul]); omega) ?_)))
      refine .inl ⟨_, rfl, _, _, rfl, rfl, (by show (0 : Int) < 2147483629; decide), ?_⟩
      refine ⟨_, rfl, c, rfl, ?_⟩
      generalize (if c < 0 then -c else c) = r2
      refine ⟨_, _, rfl, rfl, ⟨by decide, by decide, by decide⟩, ?_⟩
      refine ⟨_, _, rfl, rfl, _, rfl, ?_⟩
      by_cases hbig : (10 : Int) ^ (18 : Int).toNat ≤ r2
      · refine ite_yes (decide_eq_true hbig) ?_
        refine ⟨_, rfl, .inl ⟨rfl, _, SqL.of e2⟩, ?_⟩
        refine ⟨_, rfl, .inl ⟨_, rfl, _, _, rfl, rfl, (by show (0 : Int) < 1009; decide), R, _, _, rfl, rfl, e2, hsz, ?_⟩⟩
        refine ⟨_, rfl, _, _, rfl, rfl, (by show (0 : Int) < 1009 ∧ (1009 : Int) < 1073741824; decide), ?_⟩
        exact go _ _ _ _ rfl
      · refine ite_no (decide_eq_false hbig) ?_
        refine ⟨_, rfl, .inl ⟨rfl, _, SqL.of e2⟩, ?_⟩
        refine ⟨_, rfl, _, _, rfl, rfl, (by show (0 : Int) < 7 ∧ (7 : Int) < 1073741824; decide), .inl ⟨_, rfl, _, _, rfl, rfl, (by show (0 : Int) < 1009; decide), R, _, _, rfl, rfl, e2, hsz, ?_⟩⟩
        exact go _ _ _ _ rfl
    · rintro σ H2 ⟨rest, mixed, ns, x5, rfl, s2, e2, hl, hb⟩
      exact ⟨_, rfl, k R ns H2 s2 e2 hR0 hl hb⟩
theorem sc_law_numbers : FnScope ["_law_script", "_law_many", "_law_cells", "_law_each", "_law_numbers_here", "_law_cell", "_law_number"] ["_law_script", "_law_many"] (defScope s_law_numbers) := ⟨rfl, rfl, rfl, by decide +kernel, rfl, by decide +kernel, by decide +kernel⟩
def spNumbers (K : PySem.W.Frag) : Sp := fun vs H Q _ => ∃ (a : Addr) (ns0 : List Int), vs = [.ref a, .int 80] ∧ SqL K H a (ns0.map V.int) ∧ ns0.length ≤ 63 ∧ ∀ p (ns : List Int) H', Same H H' → H' p = some (.lst (ns.map V.int)) → ns.length = 80 → (∀ x ∈ ns, 0 ≤ x ∧ x < 1009) → Q (.ref p) H'
theorem fc_law_numbers (T : Txt w K mg) : Fc P w K mg base 2 "_law_numbers" ["_law_script", "_law_many"] (spNumbers K) := by
  have F_law_row := fc_law_row (P := P) (base := base) T
  refine mk_fc T.d_law_numbers sc_law_numbers (fun _ _ _ _ _ _ us hl => match us, hl with | [_, _], _ => rfl) (fun vs H Q E h => ?_) (fun f cdv A outer s H vs Q E hr h => ?_)
  · obtain ⟨a, ns0, rfl, _⟩ := h
    rfl
  · obtain ⟨a, ns0, rfl, ha, h63, k⟩ := h
    refine ⟨_, (pss_cons (ps_set (i := 2) sc_law_numbers.nd rfl (Or.inl rfl) (pe_slice sl_list (pv 0) po_none (po_some pe_int)))
      (pss_cons (ps_set (i := 3) sc_law_numbers.nd rfl (Or.inl rfl) (pe_op op_add pe_int (pe_op op_fdiv (pv 1) (pe_callB (call_max2 rfl) (by rfl) T.n_max (by decide +kernel) (pa_cons pe_int (pa_cons (pe_callB call_len_seq (by rfl) T.n_len (by decide +kernel) (pa_cons (pv 2) pa_nil)) pa_nil))))))
      (pss_cons (ps_set (i := 4) sc_law_numbers.nd rfl (Or.inl rfl) (pe_lst pa_nil))
      (pss_cons (ps_for PassesOwn.never rfl (pi_list (pv 2)) (pg_name (i := 5) sc_law_numbers.nd rfl (Or.inl rfl))
      (pss_one (ps_for PassesOwn.never rfl (pi_list (pe_fc F_law_row hr rfl (pa_cons (pv 5) (pa_cons (pv 3) pa_nil)))) (pg_name (i := 6) sc_law_numbers.nd rfl (Or.inl rfl))
        (pss_one (ps_expr (pe_bm PySem.F.plainAttrs_list PySem.F.slot_list_append PySem.F.type_list_append mt_append (pv 4) (pa_cons (pv 6) pa_nil)))))))
      (pss_cons (ps_while PassesOwn.never (pt_cmpR op_lt (pe_callB call_len_seq (by rfl) T.n_len (by decide +kernel) (pa_cons (pv 4) pa_nil)) (pv 1) (nomark _))
      (pss_one (ps_expr (pe_bm PySem.F.plainAttrs_list PySem.F.slot_list_append PySem.F.type_list_append mt_append (pv 4) (pa_cons pe_int pa_nil)))))
      (pss_one (ps_ret (pe_slice sl_list (pv 4) po_none (po_some (pv 1)))))))))), ?_⟩
    refine st_is (σ := [some _, some _, none, none, none, none, none]) rfl ?_
    refine ⟨_, rfl, 63, rfl, a, _, rfl, ha, fun cl hcl => ?_⟩
    have ec : cutV (ns0.map V.int) none (some 63) = ns0.map V.int := cut_short (k := 63) _ (by rw [List.length_map]; exact h63)
    rw [ec]
    have s1 := Same.new (o := .lst (ns0.map V.int)) hcl
    have c1 : (upd H cl (.lst (ns0.map V.int))) cl = some (.lst (ns0.map V.int)) := upd_same
    generalize upd H cl (.lst (ns0.map V.int)) = H1 at s1 c1 ⊢
    refine ⟨_, rfl, _, rfl, cl, _, rfl, .inl (SqL.of c1), ?_⟩
    rw [List.length_map]
    obtain ⟨m, hm, hm2⟩ : ∃ m : Nat, (1 : Int) + 80 / (if (ns0.length : Int) > 1 then (ns0.length : Int) else 1) = (m : Int) ∧ m ≤ 81 := by
      have hd : (0 : Int) < (if (ns0.length : Int) > 1 then (ns0.length : Int) else 1) := by split <;> omega
      generalize (if (ns0.length : Int) > 1 then (ns0.length : Int) else 1) = d at hd
      have q1 : (0 : Int) ≤ 80 / d := Int.ediv_nonneg (by decide) (by omega)
      have q2 : (80 : Int) / d ≤ 80 := Int.ediv_le_self _ (by decide)
      exact ⟨(1 + 80 / d).toNat, by omega, by omega⟩
    refine ⟨_, _, rfl, _, _, rfl, rfl, (by show (0 : Int) < (if (ns0.length : Int) > 1 then (ns0.length : Int) else 1) ∧ (if (ns0.length : Int) > 1 then (ns0.length : Int) else 1) < 1073741824; split <;> omega), _, _, rfl, rfl, ?_⟩
    refine ⟨Nat.zero_le _, fun N hN => ?_⟩
    have hN0 : H N = none := s1.free hN
    have s2 := Same.trans s1 (Same.new (o := .lst []) hN)
    have c2 := Same.new (o := .lst []) hN _ _ c1
    have n2 : (upd H1 N (.lst [])) N = some (.lst (([] : List Int).map V.int)) := upd_same
    have nCN : cl ≠ N := ne_of_none c1 hN
    generalize upd H1 N (.lst []) = H2 at s2 c2 n2 ⊢
    refine ⟨_, rfl, cl, rfl, ⟨_, SqL.of c2⟩, ?_⟩
    refine for_list (K := K) (a := cl) (xs := ns0.map V.int) (fun i σ H' => ∃ (ns : List Int) (x5 x6 : Option V), σ = [some (.ref a), some (.int 80), some (.ref cl), some (.int (1 + 80 / (if (ns0.length : Int) > 1 then (ns0.length : Int) else 1))), some (.ref N), x5, x6] ∧ Same H H' ∧ H' cl = some (.lst (ns0.map V.int)) ∧ H' N = some (.lst (ns.map V.int)) ∧ ns.length ≤ i * 81 ∧ ∀ x ∈ ns, 0 ≤ x ∧ x < 1009)
      ⟨[], none, none, rfl, s2, c2, n2, Nat.zero_le _, fun x h => by simp at h⟩ (fun i σ H' _ h => by
        obtain ⟨_, _, _, _, _, h, _⟩ := h
        exact SqL.of h) ?_ ?_
    · rintro i x σ H3 hx ⟨ns, x5, x6, rfl, s3, c3, n3, hl, hb⟩
      have hi : i < 63 := by
        have := (List.getElem?_eq_some_iff.mp hx).1
        rw [List.length_map] at this
        omega
      rw [List.getElem?_map] at hx
      obtain ⟨c, _, rfl⟩ := Option.map_eq_some_iff.mp hx
      refine ⟨_, rfl, _, rfl, c, m, by rw [← hm]; rfl, by omega, fun p ns2 H4 s4 hp hpn hl2 hb2 => ⟨p, rfl, ⟨_, SqL.of hp⟩, ?_⟩⟩
      have nNp : N ≠ p := ne_of_none n3 hpn
      refine for_list (K := K) (a := p) (xs := ns2.map V.int) (fun j σ H' => ∃ x6 : Option V, σ = [some (.ref a), some (.int 80), some (.ref cl), some (.int (1 + 80 / (if (ns0.length : Int) > 1 then (ns0.length : Int) else 1))), some (.ref N), some (.int c), x6] ∧ Same H H' ∧ H' cl = some (.lst (ns0.map V.int)) ∧ H' N = some (.lst ((ns ++ ns2.take j).map V.int)) ∧ H' p = some (.lst (ns2.map V.int)))
        ⟨x6, rfl, Same.trans s3 s4, s4 _ _ c3, by simpa using s4 _ _ n3, hp⟩ (fun j σ H' _ h => by
          obtain ⟨_, _, _, _, _, h⟩ := h
          exact SqL.of h) ?_ ?_
      · rintro j y σ H5 hy ⟨y6, rfl, s5, c5, n5, p5⟩
        rw [List.getElem?_map] at hy
        obtain ⟨z, hz, rfl⟩ := Option.map_eq_some_iff.mp hy
        have htk : ns2.take (j + 1) = ns2.take j ++ [z] := by rw [List.take_succ, hz]; rfl
        refine ⟨_, rfl, .inl ⟨rfl, _, SqL.of n5⟩, ?_⟩
        refine ⟨_, rfl, N, _, _, rfl, rfl, n5, szlt (by rw [List.length_map, List.length_append, List.length_take]; omega), ?_⟩
        refine ⟨_, rfl, Same.put s5 hN0, by rw [upd_ne nCN]; exact c5, ?_, by rw [upd_ne (Ne.symm nNp)]; exact p5⟩
        rw [upd_same, htk, ← List.append_assoc, List.map_append (l₂ := [z])]
        rfl
      · rintro σ H5 ⟨y6, rfl, s5, c5, n5, p5⟩
        rw [List.length_map, List.take_length] at n5
        refine ⟨ns ++ ns2, _, _, rfl, s5, c5, n5, by rw [List.length_append, hl2]; omega, fun x hx => ?_⟩
        rcases List.mem_append.mp hx with hx | hx
        · exact hb x hx
        · exact hb2 x hx
    · rintro σ H3 ⟨ns, x5, x6, rfl, s3, c3, n3, hl, hb⟩
      rw [List.length_map] at hl
      refine ⟨fun q σ H' => ∃ ns : List Int, q = 80 - ns.length ∧ σ = [some (.ref a), some (.int 80), some (.ref cl), some (.int (1 + 80 / (if (ns0.length : Int) > 1 then (ns0.length : Int) else 1))), some (.ref N), x5, x6] ∧ Same H H' ∧ H' N = some (.lst (ns.map V.int)) ∧ ns.length ≤ 63 * 81 + 80 ∧ ∀ x ∈ ns, 0 ≤ x ∧ x < 1009,
        ⟨_, ns, rfl, rfl, s3, n3, by omega, hb⟩, ?_⟩
      rintro q σ H4 ⟨ns, rfl, rfl, s4, n4, hl, hb⟩
      refine ⟨_, rfl, N, _, rfl, .inl (SqL.of n4), _, rfl, _, _, rfl, rfl, _, rfl, ?_⟩
      rw [List.length_map]
      by_cases hlt : ns.length < 80
      · refine ite_yes (decide_eq_true (show (ns.length : Int) < 80 by omega)) ?_
        refine ⟨_, fun _ _ h => h, ?_⟩
        refine ⟨_, rfl, .inl ⟨rfl, _, SqL.of n4⟩, N, _, _, rfl, rfl, n4, szlt (by rw [List.length_map]; omega), ?_⟩
        refine ⟨_, ?_, ns ++ [0], rfl, rfl, Same.put s4 hN0, by rw [upd_same, List.map_append]; rfl, by rw [List.length_append, List.length_singleton]; omega, fun x hx => ?_⟩
        · rw [List.length_append, List.length_singleton]
          omega
        · rcases List.mem_append.mp hx with hx | hx
          · exact hb x hx
          · rw [List.mem_singleton.mp hx]
            decide
      · refine ite_no (decide_eq_false (show ¬ (ns.length : Int) < 80 by omega)) ?_
        refine ⟨_, rfl, _, rfl, 80, rfl, N, _, rfl, SqL.of n4, fun p hp => ?_⟩
        have ec : cutV (ns.map V.int) none (some 80) = (ns.take 80).map V.int := by
          rw [List.map_take]
          exact cut_upto (k := 80) _ (by rw [List.length_map]; omega)
        rw [ec]
        exact k p (ns.take 80) _ (Same.trans s4 (Same.new hp)) upd_same (by rw [List.length_take]; omega) fun x hx => hb x (List.mem_of_mem_take hx)
end
end PK
end

section
namespace PK
open PySem PySem.Spec PyProof.Rows L2
section
variable {P : Program} {w : World} {K : PySem.W.Frag} {mg : Str → Option Value} {base : Heap}
theorem sc_law_count : FnScope ["_law_tree", "_law_total", "_law_k"] ["_law_tree"] (defScope s_law_count) := ⟨rfl, rfl, rfl, by decide +kernel, rfl, by decide +kernel, by decide +kernel⟩
theorem fc_lcount_turn {d : Nat} {k : Nat} (T : Txt w K mg) (F_law_count : ∀ j, d = j + 1 → Fc P w K mg base k "_law_count" ["_law_tree"] (spSize j)) : Fc P w K mg base (k + 1) "_law_count" ["_law_tree"] (spSize d) := by
  obtain ⟨j, hj, F_law_count⟩ : ∃ j : Nat, (∀ t, depth t + 1 ≤ d → depth t ≤ j) ∧ Fc P w K mg base k "_law_count" ["_law_tree"] (fun vs H Q E => d ≠ 0 ∧ spSize j vs H Q E) := by
    cases d with
    | zero => exact ⟨0, fun t h => absurd h (Nat.not_succ_le_zero _), Fc.never T.d_law_count (fun _ _ _ _ _ _ us hl => match us, hl with | [_], _ => rfl) fun _ _ _ _ h => h.1 rfl⟩
    | succ j => exact ⟨j, fun t h => Nat.le_of_succ_le_succ h, (F_law_count j rfl).imp fun _ _ _ _ h => h.2⟩
  refine mk_fc T.d_law_count sc_law_count (fun _ _ _ _ _ _ us hl => match us, hl with | [_], _ => rfl) (fun vs H Q E h => ?_) (fun f cdv A outer s H vs Q E hr h => ?_)
  · obtain ⟨v, t, rfl, _⟩ := h
    rfl
  · obtain ⟨v, t, rfl, hT, hd, hb, q⟩ := h
    refine ⟨_, (pss_cons (ps_if (pt_cmpR op_eq (pe_ix ix_tup (pv 0) pe_int (fun _ _ => rfl)) pe_str (nomark _)) (pss_cons (ps_set (i := 1) sc_law_count.nd rfl (Or.inl rfl) pe_int)
        (pss_cons (ps_for PassesOwn.never rfl (pi_range1 (by rfl) T.n_range (pa_cons (pe_ix ix_tup (pv 0) pe_int (fun _ _ => rfl)) pa_nil)) (pg_name (i := 2) sc_law_count.nd rfl (Or.inl rfl))
        (pss_one (ps_set (i := 1) sc_law_count.nd rfl (Or.inl rfl) (pe_op op_mul (pv 1) pe_int))))
        (pss_one (ps_ret (pv 1))))) pss_nil)
      (pss_cons (ps_if (pt_cmpR op_eq (pe_ix ix_tup (pv 0) pe_int (fun _ _ => rfl)) pe_str (nomark _)) (pss_cons (ps_set (i := 1) sc_law_count.nd rfl (Or.inl rfl) pe_int)
        (pss_cons (ps_for PassesOwn.never rfl (pi_range1 (by rfl) T.n_range (pa_cons (pe_ix ix_tup (pv 0) pe_int (fun _ _ => rfl)) pa_nil)) (pg_name (i := 2) sc_law_count.nd rfl (Or.inl rfl))
        (pss_one (ps_set (i := 1) sc_law_count.nd rfl (Or.inl rfl) (pe_op op_mul (pv 1) pe_int))))
        (pss_one (ps_ret (pe_op op_sub (pv 1) pe_int))))) pss_nil)
      (pss_cons (ps_if (pt_cmpR op_eq (pe_ix ix_tup (pv 0) pe_int (fun _ _ => rfl)) pe_str (nomark _)) (pss_one (ps_ret (pe_op op_add (pe_op op_mul pe_int (pe_fc F_law_count hr rfl (pa_cons (pe_ix ix_tup (pv 0) pe_int (fun _ _ => rfl)) pa_nil) (Nat.le_refl _))) pe_int))) pss_nil)
      (pss_cons (ps_if (pt_cmpR op_eq (pe_ix ix_tup (pv 0) pe_int (fun _ _ => rfl)) pe_str (nomark _)) (pss_one (ps_ret (pe_op op_mul (pe_fc F_law_count hr rfl (pa_cons (pe_ix ix_tup (pv 0) pe_int (fun _ _ => rfl)) pa_nil) (Nat.le_refl _)) (pe_fc F_law_count hr rfl (pa_cons (pe_ix ix_tup (pv 0) pe_int (fun _ _ => rfl)) pa_nil) (Nat.le_refl _))))) pss_nil)
      (pss_one (ps_ret (pe_ix ix_tup (pv 0) pe_int (fun _ _ => rfl)))))))), ?_⟩
    refine st_is (σ := [some _, none, none]) rfl ?_
    cases t with
    | bose n =>
      obtain ⟨p, rfl, hp⟩ := hT
      repeat ((try simp only [List.set_cons_zero, List.set_cons_succ]); (first | with_reducible refine iteF ?_ | with_reducible refine iteT ?_ | with_reducible refine ite_no (by decide +kernel) ?_ | with_reducible refine ite_yes (by decide +kernel) ?_ | (fail_if_success (with_reducible refine ite2 ?_ ?_)); (first | refine ⟨_, rfl, ?_⟩ | refine ⟨_, _, rfl, rfl, ?_⟩ | refine ⟨rfl, _, rfl, ?_⟩ | refine ⟨_, _, rfl, ?_⟩ | refine ⟨_, _, _, rfl, ?_⟩ | refine ⟨_, _, _, _, rfl, rfl, SqT.of hp, rfl, ?_⟩ | refine ⟨rfl, ?_⟩ | with_reducible refine And.intro (by (try dsimp only [CDiv, CMul]); omega) ?_)))
      exact q
    | skolem n =>
      obtain ⟨p, rfl, hp⟩ := hT
      repeat ((try simp only [List.set_cons_zero, List.set_cons_succ]); (first | with_reducible refine iteF ?_ | with_reducible refine iteT ?_ | with_reducible refine ite_no (by decide +kernel) ?_ | with_reducible refine ite_yes (by decide +kernel) ?_ | (fail_if_success (with_reducible refine ite2 ?_ ?_)); (first | refine ⟨_, rfl, ?_⟩ | refine ⟨_, _, rfl, rfl, ?_⟩ | refine ⟨rfl, _, rfl, ?_⟩ | refine ⟨_, _, rfl, ?_⟩ | refine ⟨_, _, _, rfl, ?_⟩ | refine ⟨_, _, _, _, rfl, rfl, SqT.of hp, rfl, ?_⟩ | refine ⟨rfl, ?_⟩ | with_reducible refine And.intro (by (try dsimp only [CDiv, CMul]); omega) ?_)))
      exact q
    | affine n =>
      obtain ⟨p, rfl, hp⟩ := hT
      have hb : n ≤ 60 := hb
      refine ⟨_, rfl, _, _, _, _, rfl, rfl, SqT.of hp, rfl, ?_⟩
      refine ⟨rfl, _, rfl, ite_yes (by decide +kernel) ?_⟩
      refine ⟨_, rfl, _, _, _, _, rfl, rfl, SqT.of hp, rfl, (n : Int), rfl, by omega, by omega, ?_⟩
      refine for_range (n := n) (fun i σ H' => ∃ x2 : Option V, σ = [some (.ref p), some (.int ((3 ^ i : Nat) : Int)), x2] ∧ H' = H) ⟨none, rfl, rfl⟩ ?_ ?_
      · rintro i σ H1 hi ⟨x2, rfl, rfl⟩
        refine ⟨_, rfl, _, _, rfl, rfl, (by dsimp only [CMul]; omega), some (.int (0 + (i : Int))), ?_, rfl⟩
        rw [Nat.pow_succ]
        rfl
      · rintro σ H1 ⟨x2, rfl, rfl⟩
        exact ⟨_, rfl, q⟩
    | binary n =>
      obtain ⟨p, rfl, hp⟩ := hT
      have hb : n ≤ 60 := hb
      refine ⟨_, rfl, _, _, _, _, rfl, rfl, SqT.of hp, rfl, ?_⟩
      refine ⟨rfl, _, rfl, ite_no (by decide +kernel) ?_⟩
      refine ⟨_, rfl, _, _, _, _, rfl, rfl, SqT.of hp, rfl, ?_⟩
      refine ⟨rfl, _, rfl, ite_yes (by decide +kernel) ?_⟩
      refine ⟨_, rfl, _, _, _, _, rfl, rfl, SqT.of hp, rfl, (n : Int), rfl, by omega, by omega, ?_⟩
      refine for_range (n := n) (fun i σ H' => ∃ x2 : Option V, σ = [some (.ref p), some (.int ((2 ^ i : Nat) : Int)), x2] ∧ H' = H) ⟨none, rfl, rfl⟩ ?_ ?_
      · rintro i σ H1 hi ⟨x2, rfl, rfl⟩
        refine ⟨_, rfl, _, _, rfl, rfl, (by dsimp only [CMul]; omega), some (.int (0 + (i : Int))), ?_, rfl⟩
        rw [Nat.pow_succ]
        rfl
      · rintro σ H1 ⟨x2, rfl, rfl⟩
        refine ⟨_, rfl, _, _, rfl, rfl, ?_⟩
        have h1 : 0 < 2 ^ n := Nat.two_pow_pos n
        have q : Q (V.int ((2 ^ n - 1 : Nat) : Int)) H1 := q
        rw [show ((2 ^ n - 1 : Nat) : Int) = ((2 ^ n : Nat) : Int) - 1 by omega] at q
        exact q
    | listed n ts =>
      obtain ⟨p, u, rfl, hp, _⟩ := hT
      repeat ((try simp only [List.set_cons_zero, List.set_cons_succ]); (first | with_reducible refine iteF ?_ | with_reducible refine iteT ?_ | with_reducible refine ite_no (by decide +kernel) ?_ | with_reducible refine ite_yes (by decide +kernel) ?_ | (fail_if_success (with_reducible refine ite2 ?_ ?_)); (first | refine ⟨_, rfl, ?_⟩ | refine ⟨_, _, rfl, rfl, ?_⟩ | refine ⟨rfl, _, rfl, ?_⟩ | refine ⟨_, _, rfl, ?_⟩ | refine ⟨_, _, _, rfl, ?_⟩ | refine ⟨_, _, _, _, rfl, rfl, SqT.of hp, rfl, ?_⟩ | refine ⟨rfl, ?_⟩ | with_reducible refine And.intro (by (try dsimp only [CDiv, CMul]); omega) ?_)))
      exact q
    | double t =>
      obtain ⟨p, u, rfl, hp, hu⟩ := hT
      have hd : depth t + 1 ≤ d := hd
      repeat ((try simp only [List.set_cons_zero, List.set_cons_succ]); (first | with_reducible refine iteF ?_ | with_reducible refine iteT ?_ | with_reducible refine ite_no (by decide +kernel) ?_ | with_reducible refine ite_yes (by decide +kernel) ?_ | (fail_if_success (with_reducible refine ite2 ?_ ?_)); (first | refine ⟨_, rfl, ?_⟩ | refine ⟨_, _, rfl, rfl, ?_⟩ | refine ⟨rfl, _, rfl, ?_⟩ | refine ⟨_, _, rfl, ?_⟩ | refine ⟨_, _, _, rfl, ?_⟩ | refine ⟨_, _, _, _, rfl, rfl, SqT.of hp, rfl, ?_⟩ | refine ⟨rfl, ?_⟩ | with_reducible refine And.intro (by (try dsimp only [CDiv, CMul]); omega) ?_)))
      refine ⟨by omega, u, t, rfl, hu, hj t hd, hb, ?_⟩
      repeat ((try simp only [List.set_cons_zero, List.set_cons_succ]); (first | with_reducible refine iteF ?_ | with_reducible refine iteT ?_ | with_reducible refine ite_no (by decide +kernel) ?_ | with_reducible refine ite_yes (by decide +kernel) ?_ | (fail_if_success (with_reducible refine ite2 ?_ ?_)); (first | refine ⟨_, rfl, ?_⟩ | refine ⟨_, _, rfl, rfl, ?_⟩ | refine ⟨rfl, _, rfl, ?_⟩ | refine ⟨_, _, rfl, ?_⟩ | refine ⟨_, _, _, rfl, ?_⟩ | refine ⟨_, _, _, _, rfl, rfl, SqT.of hp, rfl, ?_⟩ | refine ⟨rfl, ?_⟩ | with_reducible refine And.intro (by (try dsimp only [CDiv, CMul]); omega) ?_)))
      have e : ((2 * sizeOf t + 1 : Nat) : Int) = 2 * (sizeOf t : Int) + 1 := by omega
      have q : Q (V.int ((2 * sizeOf t + 1 : Nat) : Int)) H := q
      rw [e] at q
      exact q
    | product s t =>
      obtain ⟨p, u, u', rfl, hp, hu, hu'⟩ := hT
      have hd : max (depth s) (depth t) + 1 ≤ d := hd
      obtain ⟨b1, b2, b3⟩ : bd s ∧ bd t ∧ sizeOf s < 1000000 := hb
      repeat ((try simp only [List.set_cons_zero, List.set_cons_succ]); (first | with_reducible refine iteF ?_ | with_reducible refine iteT ?_ | with_reducible refine ite_no (by decide +kernel) ?_ | with_reducible refine ite_yes (by decide +kernel) ?_ | (fail_if_success (with_reducible refine ite2 ?_ ?_)); (first | refine ⟨_, rfl, ?_⟩ | refine ⟨_, _, rfl, rfl, ?_⟩ | refine ⟨rfl, _, rfl, ?_⟩ | refine ⟨_, _, rfl, ?_⟩ | refine ⟨_, _, _, rfl, ?_⟩ | refine ⟨_, _, _, _, rfl, rfl, SqT.of hp, rfl, ?_⟩ | refine ⟨rfl, ?_⟩ | with_reducible refine And.intro (by (try dsimp only [CDiv, CMul]); omega) ?_)))
      refine ⟨by omega, u, s, rfl, hu, hj s (by omega), b1, ?_⟩
      repeat ((try simp only [List.set_cons_zero, List.set_cons_succ]); (first | with_reducible refine iteF ?_ | with_reducible refine iteT ?_ | with_reducible refine ite_no (by decide +kernel) ?_ | with_reducible refine ite_yes (by decide +kernel) ?_ | (fail_if_success (with_reducible refine ite2 ?_ ?_)); (first | refine ⟨_, rfl, ?_⟩ | refine ⟨_, _, rfl, rfl, ?_⟩ | refine ⟨rfl, _, rfl, ?_⟩ | refine ⟨_, _, rfl, ?_⟩ | refine ⟨_, _, _, rfl, ?_⟩ | refine ⟨_, _, _, _, rfl, rfl, SqT.of hp, rfl, ?_⟩ | refine ⟨rfl, ?_⟩ | with_reducible refine And.intro (by (try dsimp only [CDiv, CMul]); omega) ?_)))
      refine ⟨by omega, u', t, rfl, hu', hj t (by omega), b2, ?_⟩
      repeat ((try simp only [List.set_cons_zero, List.set_cons_succ]); (first | with_reducible refine iteF ?_ | with_reducible refine iteT ?_ | with_reducible refine ite_no (by decide +kernel) ?_ | with_reducible refine ite_yes (by decide +kernel) ?_ | (fail_if_success (with_reducible refine ite2 ?_ ?_)); (first | refine ⟨_, rfl, ?_⟩ | refine ⟨_, _, rfl, rfl, ?_⟩ | refine ⟨rfl, _, rfl, ?_⟩ | refine ⟨_, _, rfl, ?_⟩ | refine ⟨_, _, _, rfl, ?_⟩ | refine ⟨_, _, _, _, rfl, rfl, SqT.of hp, rfl, ?_⟩ | refine ⟨rfl, ?_⟩ | with_reducible refine And.intro (by (try dsimp only [CDiv, CMul]); omega) ?_)))
      have q : Q (V.int ((sizeOf s * sizeOf t : Nat) : Int)) H := q
      rw [Int.natCast_mul] at q
      exact q
theorem fc_law_count (T : Txt w K mg) : ∀ d : Nat, Fc P w K mg base (d + 1) "_law_count" ["_law_tree"] (spSize d)
  | 0 => fc_lcount_turn (k := 0) T fun _ h => nomatch h
  | d + 1 => fc_lcount_turn (k := d + 1) T fun j h => by
    obtain rfl : d = j := Nat.succ.inj h
    exact fc_law_count T d
end
end PK
end

section
namespace PK
open PySem PySem.Spec PyProof.Rows L2
/-- a list of threes -/
def TriL (H : Hp) (D : Addr) (ts : List Tri) : Prop :=
  ∃ rs : List Addr, H D = some (.lst (rs.map V.ref)) ∧ rs.length = ts.length ∧ ∀ (k : Nat) (r : Addr) (t : Tri), rs[k]? = some r → ts[k]? = some t → H r = some (.tup (thV t))
theorem TriL.push {H : Hp} {D p : Addr} {ts : List Tri} {rs : List Addr} {t : Tri} {xs : List V} (h1 : H D = some (.lst (rs.map V.ref))) (h2 : rs.length = ts.length)
    (h3 : ∀ (k : Nat) (r : Addr) (t : Tri), rs[k]? = some r → ts[k]? = some t → H r = some (.tup (thV t))) (hp : H p = none) (hx : xs = thV t) :
    TriL (upd (upd H p (.tup xs)) D (.lst (rs.map V.ref ++ [.ref p]))) D (ts ++ [t]) := by
  subst hx
  have nDp : D ≠ p := ne_of_none h1 hp
  have hD' : (upd H p (.tup (thV t))) D = some (.lst (rs.map V.ref)) := by rw [upd_ne nDp]; exact h1
  have tt : TupSub (upd H p (.tup (thV t))) (upd (upd H p (.tup (thV t))) D (.lst (rs.map V.ref ++ [.ref p]))) := TupSub.put fun xs e => by rw [hD'] at e; cases e
  refine ⟨rs ++ [p], ?_, ?_, fun k r q e1 e2 => ?_⟩
  · rw [upd_same, List.map_append]
    rfl
  · rw [List.length_append, List.length_append, h2]
    rfl
  · by_cases hk : k < rs.length
    · rw [List.getElem?_append_left hk] at e1
      rw [List.getElem?_append_left (by omega)] at e2
      exact tt _ _ (Same.new hp _ _ (h3 k r q e1 e2))
    · have hk2 : k = rs.length := by
        have := (List.getElem?_eq_some_iff.mp e1).1
        rw [List.length_append] at this
        simp only [List.length_singleton] at this
        omega
      subst hk2
      rw [List.getElem?_append_right (by omega), Nat.sub_self] at e1
      rw [h2, List.getElem?_append_right (by omega), Nat.sub_self] at e2
      cases e1
      cases e2
      exact tt _ _ upd_same
theorem ifx {c : Bool} {A B R : Prop} (h1 : c = true → R → A) (h2 : c = false → R → B) (r : R) : if c = true then A else B := by
  cases c with
  | true => exact iteT (h1 rfl r)
  | false => exact iteF (h2 rfl r)
theorem gName_tr {i : Nat} {x y : V} {σ : L2.St} {H : Hp} {k : L2.St → Hp → Prop} (e : x = y) (h : gName i x σ H k) : gName i y σ H k := by
  rw [← e]
  exact h
theorem flat_succ {α : Type} (F : Nat → List α) (x : Nat) : (List.range (x + 1)).flatMap F = (List.range x).flatMap F ++ F x := by
  rw [List.range_succ, List.flatMap_append]
  simp
theorem map_succ {α : Type} (F : Nat → α) (x : Nat) : (List.range (x + 1)).map F = (List.range x).map F ++ [F x] := by
  rw [List.range_succ, List.map_append]
  rfl
section
variable {P : Program} {w : World} {K : PySem.W.Frag} {mg : Str → Option Value} {base : Heap}
theorem sc_law_threes : FnScope ["_law_tree", "_law_n", "_law_found", "_law_m", "_law_t", "_law_x", "_law_y", "_law_z", "_law_i", "_law_s"] ["_law_tree"] (defScope s_law_threes) := ⟨rfl, rfl, rfl, by decide +kernel, rfl, by decide +kernel, by decide +kernel⟩
def spThrees : Sp := fun vs H Q _ => ∃ v t, ∃ n : Nat, vs = [v] ∧ TrAt H t v ∧ (t = .bose n ∨ t = .skolem n) ∧ 3 ≤ n ∧ n ≤ 60 ∧ ∀ p H', Same H H' → TriL H' p (lawThrees t) → Q (.ref p) H'
theorem fc_law_threes (T : Txt w K mg) : Fc P w K mg base 1 "_law_threes" ["_law_tree"] spThrees := by
  refine mk_fc T.d_law_threes sc_law_threes (fun _ _ _ _ _ _ us hl => match us, hl with | [_], _ => rfl) (fun vs H Q E h => ?_) (fun f cdv A outer s H vs Q E hr h => ?_)
  · obtain ⟨v, t, n, rfl, _⟩ := h
    rfl
  · obtain ⟨v, t, n, rfl, hT, ht, h3, h60, k⟩ := h
    refine ⟨_, (pss_cons (ps_set (i := 1) sc_law_threes.nd rfl (Or.inl rfl) (pe_ix ix_tup (pv 0) pe_int (fun _ _ => rfl)))
      (pss_cons (ps_set (i := 2) sc_law_threes.nd rfl (Or.inl rfl) (pe_lst pa_nil))
      (pss_cons (ps_if (pt_cmpR op_eq (pe_ix ix_tup (pv 0) pe_int (fun _ _ => rfl)) pe_str (nomark _)) (pss_cons (ps_set (i := 3) sc_law_threes.nd rfl (Or.inl rfl) (pe_callTy call_int1 (by rfl) T.n_int (by decide +kernel) (pa_cons (pe_op op_fdiv (pv 1) pe_int) pa_nil)))
        (pss_cons (ps_set (i := 4) sc_law_threes.nd rfl (Or.inl rfl) (pe_callTy call_int1 (by rfl) T.n_int (by decide +kernel) (pa_cons (pe_op op_fdiv (pe_op op_sub (pv 3) pe_int) pe_int) pa_nil)))
        (pss_cons (ps_for PassesOwn.never rfl (pi_range1 (by rfl) T.n_range (pa_cons (pv 3) pa_nil)) (pg_name (i := 5) sc_law_threes.nd rfl (Or.inl rfl))
        (pss_cons (ps_expr (pe_bm PySem.F.plainAttrs_list PySem.F.slot_list_append PySem.F.type_list_append mt_append (pv 2) (pa_cons (pe_tup (pa_cons (pv 5) (pa_cons (pe_op op_add (pv 5) (pv 3)) (pa_cons (pe_op op_add (pv 5) (pe_op op_mul pe_int (pv 3))) pa_nil)))) pa_nil)))
          (pss_one (ps_for PassesOwn.never rfl (pi_range1 (by rfl) T.n_range (pa_cons (pv 5) pa_nil)) (pg_name (i := 6) sc_law_threes.nd rfl (Or.inl rfl))
          (pss_cons (ps_set (i := 7) sc_law_threes.nd rfl (Or.inl rfl) (pe_op op_mod (pe_callTy call_int1 (by rfl) T.n_int (by decide +kernel) (pa_cons (pe_op op_mul (pe_op op_add (pv 5) (pv 6)) (pe_op op_add (pv 4) pe_int)) pa_nil)) (pv 3)))
            (pss_one (ps_for PassesOwn.never rfl (pi_range1 (by rfl) T.n_range (pa_cons pe_int pa_nil)) (pg_name (i := 8) sc_law_threes.nd rfl (Or.inl rfl))
            (pss_one (ps_expr (pe_bm PySem.F.plainAttrs_list PySem.F.slot_list_append PySem.F.type_list_append mt_append (pv 2) (pa_cons (pe_tup (pa_cons (pe_op op_add (pv 5) (pe_op op_mul (pv 3) (pv 8))) (pa_cons (pe_op op_add (pv 6) (pe_op op_mul (pv 3) (pv 8))) (pa_cons (pe_op op_add (pv 7) (pe_op op_mul (pv 3) (pe_op op_mod (pe_callTy call_int1 (by rfl) T.n_int (by decide +kernel) (pa_cons (pe_op op_add (pv 8) pe_int) pa_nil)) pe_int))) pa_nil)))) pa_nil)))))))))))
        (pss_one (ps_ret (pv 2)))))) pss_nil)
      (pss_cons (ps_set (i := 3) sc_law_threes.nd rfl (Or.inl rfl) (pe_callTy call_int1 (by rfl) T.n_int (by decide +kernel) (pa_cons (pe_op op_fdiv (pe_op op_sub (pv 1) pe_int) pe_int) pa_nil)))
      (pss_cons (ps_set (i := 4) sc_law_threes.nd rfl (Or.inl rfl) (pe_callTy call_int1 (by rfl) T.n_int (by decide +kernel) (pa_cons (pe_op op_fdiv (pv 3) pe_int) pa_nil)))
      (pss_cons (ps_for PassesOwn.never rfl (pi_range1 (by rfl) T.n_range (pa_cons (pv 3) pa_nil)) (pg_name (i := 5) sc_law_threes.nd rfl (Or.inl rfl))
      (pss_cons (ps_if (pt_cmpR op_lt (pv 5) (pv 4) (nomark _)) (pss_cons (ps_expr (pe_bm PySem.F.plainAttrs_list PySem.F.slot_list_append PySem.F.type_list_append mt_append (pv 2) (pa_cons (pe_tup (pa_cons (pv 5) (pa_cons (pe_op op_add (pv 5) (pv 3)) (pa_cons (pe_op op_add (pv 5) (pe_op op_mul pe_int (pv 3))) pa_nil)))) pa_nil)))
          (pss_one (ps_for PassesOwn.never rfl (pi_range1 (by rfl) T.n_range (pa_cons pe_int pa_nil)) (pg_name (i := 8) sc_law_threes.nd rfl (Or.inl rfl))
          (pss_one (ps_expr (pe_bm PySem.F.plainAttrs_list PySem.F.slot_list_append PySem.F.type_list_append mt_append (pv 2) (pa_cons (pe_tup (pa_cons (pe_op op_sub (pv 1) pe_int) (pa_cons (pe_op op_add (pe_op op_add (pv 4) (pv 5)) (pe_op op_mul (pv 3) (pv 8))) (pa_cons (pe_op op_add (pv 5) (pe_op op_mul (pv 3) (pe_op op_mod (pe_callTy call_int1 (by rfl) T.n_int (by decide +kernel) (pa_cons (pe_op op_add (pv 8) pe_int) pa_nil)) pe_int))) pa_nil)))) pa_nil))))))) pss_nil)
        (pss_one (ps_for PassesOwn.never rfl (pi_range1 (by rfl) T.n_range (pa_cons (pv 5) pa_nil)) (pg_name (i := 6) sc_law_threes.nd rfl (Or.inl rfl))
        (pss_cons (ps_set (i := 9) sc_law_threes.nd rfl (Or.inl rfl) (pe_op op_mod (pe_callTy call_int1 (by rfl) T.n_int (by decide +kernel) (pa_cons (pe_op op_add (pv 5) (pv 6)) pa_nil)) (pv 3)))
          (pss_cons (ps_set (i := 7) sc_law_threes.nd rfl (Or.inl rfl) (pe_ifExp (pt_cmpR op_eq (pe_op op_mod (pv 9) pe_int) pe_int (nomark _)) (pe_callTy call_int1 (by rfl) T.n_int (by decide +kernel) (pa_cons (pe_op op_fdiv (pv 9) pe_int) pa_nil)) (pe_op op_add (pv 4) (pe_callTy call_int1 (by rfl) T.n_int (by decide +kernel) (pa_cons (pe_op op_fdiv (pv 9) pe_int) pa_nil)))))
          (pss_one (ps_for PassesOwn.never rfl (pi_range1 (by rfl) T.n_range (pa_cons pe_int pa_nil)) (pg_name (i := 8) sc_law_threes.nd rfl (Or.inl rfl))
          (pss_one (ps_expr (pe_bm PySem.F.plainAttrs_list PySem.F.slot_list_append PySem.F.type_list_append mt_append (pv 2) (pa_cons (pe_tup (pa_cons (pe_op op_add (pv 5) (pe_op op_mul (pv 3) (pv 8))) (pa_cons (pe_op op_add (pv 6) (pe_op op_mul (pv 3) (pv 8))) (pa_cons (pe_op op_add (pv 7) (pe_op op_mul (pv 3) (pe_op op_mod (pe_callTy call_int1 (by rfl) T.n_int (by decide +kernel) (pa_cons (pe_op op_add (pv 8) pe_int) pa_nil)) pe_int))) pa_nil)))) pa_nil))))))))))))
      (pss_one (ps_ret (pv 2))))))))), ?_⟩
    refine st_is (σ := [some _, none, none, none, none, none, none, none, none, none]) rfl ?_
    rcases ht with rfl | rfl
    · obtain ⟨a, rfl, ha⟩ := hT
      refine ⟨_, rfl, _, _, _, _, rfl, rfl, SqT.of ha, rfl, ?_⟩
      refine ⟨Nat.zero_le _, fun L hL => ?_⟩
      have hL0 : H L = none := hL
      have s1 := Same.new (o := .lst []) hL
      have a1 := s1 _ _ ha
      have l1 : TriL (upd H L (.lst [])) L [] := ⟨[], upd_same, rfl, fun k r t e => by simp at e⟩
      generalize upd H L (.lst []) = H1 at s1 a1 l1 ⊢
      refine ⟨_, rfl, _, _, _, _, rfl, rfl, SqT.of a1, rfl, ?_⟩
      refine ⟨rfl, _, rfl, ite_yes (by decide +kernel) ?_⟩
      have hm1 : 1 ≤ n / 3 := by omega
      have hm2 : n / 3 ≤ 20 := by omega
      refine ⟨_, rfl, _, _, rfl, rfl, (by show (0 : Int) < 3 ∧ (3 : Int) < 1073741824; decide), .inl ⟨((n / 3 : Nat) : Int), rfl, ?_⟩⟩
      refine ⟨_, rfl, _, _, rfl, rfl, _, _, rfl, rfl, (by show (0 : Int) < 2 ∧ (2 : Int) < 1073741824; decide), .inl ⟨(((n / 3 - 1) / 2 : Nat) : Int), congrArg (fun z => [V.int z]) (by omega), ?_⟩⟩
      have k : ∀ p H', Same H H' → TriL H' p (lawBose (n / 3) ((n / 3 - 1) / 2)) → Q (.ref p) H' := k
      unfold lawBose at k
      generalize (n / 3 - 1) / 2 = t at *
      generalize n / 3 = m at *
      refine ⟨_, rfl, (m : Int), rfl, by omega, by omega, ?_⟩
      refine for_range (n := m) (fun x σ H' => ∃ (ts : List Tri) (x5 x6 x7 x8 : Option V), σ = [some (.ref a), some (.int (n : Int)), some (.ref L), some (.int (m : Int)), some (.int (t : Int)), x5, x6, x7, x8, none] ∧ Same H H' ∧ TriL H' L ts ∧ ts.length ≤ x * 64 ∧
          ts = (List.range x).flatMap fun x => (x, x + m, x + 2 * m) :: (List.range x).flatMap fun y => (List.range 3).map fun i => (x + m * i, y + m * i, (x + y) * (t + 1) % m + m * ((i + 1) % 3)))
        ⟨[], none, none, none, none, rfl, s1, l1, Nat.zero_le _, rfl⟩ ?_ ?_
      · rintro x σ H2 hx ⟨ts, x5, x6, x7, x8, rfl, s2, ⟨rs, r1, r2, r3⟩, hl, ht⟩
        rw [Int.zero_add]
        rw [flat_succ, ← ht]
        -- the three of x
        refine ⟨_, rfl, .inl ⟨rfl, _, SqL.of r1⟩, ?_⟩
        refine ⟨_, rfl, _, rfl, _, rfl, _, _, rfl, rfl, _, rfl, _, rfl, _, _, rfl, rfl, (by dsimp only [CMul]; omega), _, _, rfl, rfl, ?_⟩
        refine ⟨(by show 3 ≤ sizeLine; decide), fun p hp => ?_⟩
        have nLp : L ≠ p := ne_of_none r1 hp
        refine ⟨L, _, _, rfl, rfl, by rw [upd_ne nLp]; exact r1, szlt (by rw [List.length_map, r2]; omega), ?_⟩
        have s3 := Same.put (o := .lst (rs.map V.ref ++ [.ref p])) (Same.trans s2 (Same.new (o := .tup [.int (x : Int), .int ((x : Int) + (m : Int)), .int ((x : Int) + 2 * (m : Int))]) hp)) hL0
        have l3 := TriL.push (t := (x, x + m, x + 2 * m)) r1 r2 r3 hp (xs := [.int (x : Int), .int ((x : Int) + (m : Int)), .int ((x : Int) + 2 * (m : Int))]) rfl
        refine ⟨_, rfl, (x : Int), rfl, by omega, by omega, ?_⟩
        refine for_range (n := x) (fun y σ H' => ∃ (us : List Tri) (x6 x7 x8 : Option V), σ = [some (.ref a), some (.int (n : Int)), some (.ref L), some (.int (m : Int)), some (.int (t : Int)), some (.int (x : Int)), x6, x7, x8, none] ∧ Same H H' ∧ TriL H' L us ∧ us.length ≤ x * 64 + 1 + y * 3 ∧
            us = ts ++ [(x, x + m, x + 2 * m)] ++ (List.range y).flatMap fun y => (List.range 3).map fun i => (x + m * i, y + m * i, (x + y) * (t + 1) % m + m * ((i + 1) % 3)))
          ⟨_, x6, x7, x8, rfl, s3, l3, by rw [List.length_append, List.length_singleton]; omega, by simp⟩ ?_ ?_
        · rintro y σ H4 hy ⟨us, y6, y7, y8, rfl, s4, l4, hl4, hu⟩
          rw [Int.zero_add]
          rw [flat_succ (x := y), ← List.append_assoc, ← hu]
          refine ⟨_, rfl, _, rfl, _, _, rfl, rfl, _, rfl, _, _, rfl, rfl, _, _, rfl, rfl, (by dsimp only [CMul]; omega), .inl ⟨((((x + y) * (t + 1) : Nat)) : Int), rfl, ?_⟩⟩
          refine ⟨_, rfl, _, _, rfl, rfl, (by show (0 : Int) < (m : Int); omega), ?_⟩
          refine ⟨3, rfl, by decide, by decide, ?_⟩
          refine for_range (n := 3) (fun i σ H' => ∃ (ws : List Tri) (x8 : Option V), σ = [some (.ref a), some (.int (n : Int)), some (.ref L), some (.int (m : Int)), some (.int (t : Int)), some (.int (x : Int)), some (.int (y : Int)), some (.int (((x + y) * (t + 1) % m : Nat) : Int)), x8, none] ∧ Same H H' ∧ TriL H' L ws ∧ ws.length ≤ x * 64 + 1 + y * 3 + i ∧
              ws = us ++ (List.range i).map fun i => (x + m * i, y + m * i, (x + y) * (t + 1) % m + m * ((i + 1) % 3)))
            ⟨us, y8, rfl, s4, l4, hl4, by simp⟩ ?_ ?_
          · rintro i σ H5 hi ⟨ws, x8, rfl, s5, ⟨rs5, r51, r52, r53⟩, hl5, hw⟩
            rw [Int.zero_add]
            generalize (x + y) * (t + 1) % m = z at *
            rw [map_succ (x := i), ← List.append_assoc, ← hw]
            refine ⟨_, rfl, .inl ⟨rfl, _, SqL.of r51⟩, ?_⟩
            refine ⟨_, rfl, _, rfl, _, rfl, _, _, rfl, rfl, (by dsimp only [CMul]; omega), _, _, rfl, rfl, ?_⟩
            refine ⟨_, rfl, _, rfl, _, rfl, _, _, rfl, rfl, (by dsimp only [CMul]; omega), _, _, rfl, rfl, ?_⟩
            refine ⟨_, rfl, _, rfl, _, rfl, _, _, rfl, rfl, .inl ⟨((i + 1 : Nat) : Int), rfl, ?_⟩⟩
            refine ⟨_, _, rfl, rfl, (by show (0 : Int) < 3; decide), _, _, rfl, rfl, (by dsimp only [CMul]; omega), _, _, rfl, rfl, ?_⟩
            refine ⟨(by show 3 ≤ sizeLine; decide), fun p5 hp5 => ?_⟩
            have nLp5 : L ≠ p5 := ne_of_none r51 hp5
            refine ⟨L, _, _, rfl, rfl, by rw [upd_ne nLp5]; exact r51, szlt (by rw [List.length_map, r52]; omega), ?_⟩
            refine ⟨ws ++ [(x + m * i, y + m * i, z + m * ((i + 1) % 3))], _, rfl, Same.put (Same.trans s5 (Same.new hp5)) hL0, TriL.push (t := (x + m * i, y + m * i, z + m * ((i + 1) % 3))) r51 r52 r53 hp5 rfl, by rw [List.length_append, List.length_singleton]; omega, rfl⟩
          · rintro σ H5 ⟨ws, x8, rfl, s5, l5, hl5, hw⟩
            exact ⟨ws, _, _, _, rfl, s5, l5, by omega, hw⟩
        · rintro σ H4 ⟨us, y6, y7, y8, rfl, s4, l4, hl4, hu⟩
          exact ⟨us, _, _, _, _, rfl, s4, l4, by omega, by rw [hu, List.append_assoc]; rfl⟩
      · rintro σ H2 ⟨ts, x5, x6, x7, x8, rfl, s2, l2, hl, ht⟩
        refine ⟨_, rfl, k L H2 s2 ?_⟩
        rw [← ht]
        exact l2
    · obtain ⟨a, rfl, ha⟩ := hT
      refine ⟨_, rfl, _, _, _, _, rfl, rfl, SqT.of ha, rfl, ?_⟩
      refine ⟨Nat.zero_le _, fun L hL => ?_⟩
      have hL0 : H L = none := hL
      have s1 := Same.new (o := .lst []) hL
      have a1 := s1 _ _ ha
      have l1 : TriL (upd H L (.lst [])) L [] := ⟨[], upd_same, rfl, fun k r t e => by simp at e⟩
      generalize upd H L (.lst []) = H1 at s1 a1 l1 ⊢
      refine ⟨_, rfl, _, _, _, _, rfl, rfl, SqT.of a1, rfl, ?_⟩
      refine ⟨rfl, _, rfl, ite_no (by decide +kernel) ?_⟩
      have hm2 : (n - 1) / 3 ≤ 20 := by omega
      have k : ∀ p H', Same H H' → TriL H' p (lawSkolem n ((n - 1) / 3) ((n - 1) / 3 / 2)) → Q (.ref p) H' := k
      unfold lawSkolem at k
      refine ⟨_, rfl, _, _, rfl, rfl, _, _, rfl, rfl, (by show (0 : Int) < 3 ∧ (3 : Int) < 1073741824; decide), .inl ⟨(((n - 1) / 3 : Nat) : Int), congrArg (fun z => [V.int z]) (by omega), ?_⟩⟩
      refine ⟨_, rfl, _, _, rfl, rfl, (by show (0 : Int) < 2 ∧ (2 : Int) < 1073741824; decide), .inl ⟨(((n - 1) / 3 / 2 : Nat) : Int), rfl, ?_⟩⟩
      generalize (n - 1) / 3 / 2 = t at *
      generalize (n - 1) / 3 = m at *
      refine ⟨_, rfl, (m : Int), rfl, by omega, by omega, ?_⟩
      refine for_range (n := m) (fun x σ H' => ∃ (ts : List Tri) (x5 x6 x7 x8 x9 : Option V), σ = [some (.ref a), some (.int (n : Int)), some (.ref L), some (.int (m : Int)), some (.int (t : Int)), x5, x6, x7, x8, x9] ∧ Same H H' ∧ TriL H' L ts ∧ ts.length ≤ x * 64 ∧
          ts = (List.range x).flatMap fun x => (if x < t then (x, x + m, x + 2 * m) :: (List.range 3).map fun i => (n - 1, t + x + m * i, x + m * ((i + 1) % 3)) else []) ++ (List.range x).flatMap fun y => (List.range 3).map fun i => (x + m * i, y + m * i, lawZ m t x y + m * ((i + 1) % 3)))
        ⟨[], none, none, none, none, none, rfl, s1, l1, Nat.zero_le _, rfl⟩ ?_ ?_
      · rintro x σ H2 hx ⟨ts, x5, x6, x7, x8, x9, rfl, s2, l2, hl, ht⟩
        rw [Int.zero_add]
        rw [flat_succ, ← ht]
        refine ⟨_, rfl, _, rfl, _, _, rfl, rfl, _, rfl, ?_⟩
        by_cases hxt : x < t
        · refine ite_yes (decide_eq_true (by omega)) ?_
          rw [if_pos hxt]
          obtain ⟨rs, r1, r2, r3⟩ := l2
          refine ⟨_, rfl, .inl ⟨rfl, _, SqL.of r1⟩, ?_⟩
          refine ⟨_, rfl, _, rfl, _, rfl, _, _, rfl, rfl, _, rfl, _, rfl, _, _, rfl, rfl, (by dsimp only [CMul]; omega), _, _, rfl, rfl, ?_⟩
          refine ⟨(by show 3 ≤ sizeLine; decide), fun p hp => ?_⟩
          have nLp : L ≠ p := ne_of_none r1 hp
          refine ⟨L, _, _, rfl, rfl, by rw [upd_ne nLp]; exact r1, szlt (by rw [List.length_map, r2]; omega), ?_⟩
          have s3 := Same.put (o := .lst (rs.map V.ref ++ [.ref p])) (Same.trans s2 (Same.new (o := .tup [.int (x : Int), .int ((x : Int) + (m : Int)), .int ((x : Int) + 2 * (m : Int))]) hp)) hL0
          have l3 := TriL.push (t := (x, x + m, x + 2 * m)) r1 r2 r3 hp (xs := [.int (x : Int), .int ((x : Int) + (m : Int)), .int ((x : Int) + 2 * (m : Int))]) rfl
          refine ⟨3, rfl, by decide, by decide, ?_⟩
          refine for_range (n := 3) (fun i σ H' => ∃ (ws : List Tri) (x8 : Option V), σ = [some (.ref a), some (.int (n : Int)), some (.ref L), some (.int (m : Int)), some (.int (t : Int)), some (.int (x : Int)), x6, x7, x8, x9] ∧ Same H H' ∧ TriL H' L ws ∧ ws.length ≤ x * 64 + 1 + i ∧
              ws = ts ++ [(x, x + m, x + 2 * m)] ++ (List.range i).map fun i => (n - 1, t + x + m * i, x + m * ((i + 1) % 3)))
            ⟨_, x8, rfl, s3, l3, by rw [List.length_append, List.length_singleton]; omega, by simp⟩ ?_ ?_
          · rintro i σ H5 hi ⟨ws, x8, rfl, s5, ⟨rs5, r51, r52, r53⟩, hl5, hw⟩
            rw [Int.zero_add]
            rw [map_succ (x := i), ← List.append_assoc, ← hw]
            refine ⟨_, rfl, .inl ⟨rfl, _, SqL.of r51⟩, ?_⟩
            refine ⟨_, rfl, _, _, rfl, rfl, ?_⟩
            refine ⟨_, rfl, _, rfl, _, _, rfl, rfl, _, rfl, _, rfl, _, _, rfl, rfl, (by dsimp only [CMul]; omega), _, _, rfl, rfl, ?_⟩
            refine ⟨_, rfl, _, rfl, _, rfl, _, _, rfl, rfl, .inl ⟨((i + 1 : Nat) : Int), rfl, ?_⟩⟩
            refine ⟨_, _, rfl, rfl, (by show (0 : Int) < 3; decide), _, _, rfl, rfl, (by dsimp only [CMul]; omega), _, _, rfl, rfl, ?_⟩
            refine ⟨(by show 3 ≤ sizeLine; decide), fun p5 hp5 => ?_⟩
            have nLp5 : L ≠ p5 := ne_of_none r51 hp5
            refine ⟨L, _, _, rfl, rfl, by rw [upd_ne nLp5]; exact r51, szlt (by rw [List.length_map, r52]; omega), ?_⟩
            have en : ((n - 1 : Nat) : Int) = (n : Int) - 1 := by omega
            refine ⟨ws ++ [(n - 1, t + x + m * i, x + m * ((i + 1) % 3))], _, rfl, Same.put (Same.trans s5 (Same.new hp5)) hL0, TriL.push (t := (n - 1, t + x + m * i, x + m * ((i + 1) % 3))) r51 r52 r53 hp5 (by show _ = [V.int ((n - 1 : Nat) : Int), _, _]; rw [en]; rfl), by rw [List.length_append, List.length_singleton]; omega, rfl⟩
          · rintro σ H5 ⟨ws, x8, rfl, s6, l6, hl6, hw⟩
            refine ⟨_, rfl, (x : Int), rfl, by omega, by omega, ?_⟩
            refine for_range (n := x) (fun y σ H' => ∃ (us : List Tri) (x6 x7 x8 x9 : Option V), σ = [some (.ref a), some (.int (n : Int)), some (.ref L), some (.int (m : Int)), some (.int (t : Int)), some (.int (x : Int)), x6, x7, x8, x9] ∧ Same H H' ∧ TriL H' L us ∧ us.length ≤ x * 64 + 4 + y * 3 ∧
                us = ws ++ (List.range y).flatMap fun y => (List.range 3).map fun i => (x + m * i, y + m * i, lawZ m t x y + m * ((i + 1) % 3)))
              ⟨_, _, _, _, _, rfl, s6, l6, by omega, by simp⟩ ?_ ?_
            · rintro y σ H4 hy ⟨us, y6, y7, y8, y9, rfl, s4, l4, hl4, hu⟩
              rw [Int.zero_add]
              rw [flat_succ (x := y), ← List.append_assoc, ← hu]
              refine ⟨_, rfl, _, rfl, _, _, rfl, rfl, .inl ⟨((x + y : Nat) : Int), rfl, ?_⟩⟩
              refine ⟨_, rfl, _, _, rfl, rfl, (by show (0 : Int) < (m : Int); omega), ?_⟩
              refine ⟨_, rfl, _, _, rfl, rfl, (by show (0 : Int) < 2; decide), rfl, _, rfl, ?_⟩
              apply ifx
              case h1 =>
                intro hc
                have hc2 : (((x + y : Nat) : Int) % (m : Int)) % 2 = 0 := of_dec_int hc
                have hc3 : (x + y) % m % 2 = 0 := by
                  have e : ((((x + y) % m % 2 : Nat)) : Int) = (((x + y : Nat) : Int) % (m : Int)) % 2 := rfl
                  omega
                have ez : lawZ m t x y = (x + y) % m / 2 := by unfold lawZ; rw [if_pos hc3]
                intro r
                exact ⟨_, rfl, _, _, rfl, rfl, (by show (0 : Int) < 2 ∧ (2 : Int) < 1073741824; decide), .inl ⟨((lawZ m t x y : Nat) : Int), congrArg (fun z : Nat => [V.int (z : Int)]) ez.symm, r⟩⟩
              case h2 =>
                intro hc
                have hc3 : ¬ (x + y) % m % 2 = 0 := fun e => by
                  have q : decide (V.int ((((x + y : Nat) : Int) % (m : Int)) % 2) = V.int 0) = true := dec_int_eq (by
                    have e2 : ((((x + y) % m % 2 : Nat)) : Int) = (((x + y : Nat) : Int) % (m : Int)) % 2 := rfl
                    omega)
                  rw [q] at hc
                  cases hc
                have ez : lawZ m t x y = t + (x + y) % m / 2 := by unfold lawZ; rw [if_neg hc3]
                intro r
                have e4 : V.int ((lawZ m t x y : Nat) : Int) = V.int ((t : Int) + (((x + y) % m / 2 : Nat) : Int)) := congrArg (fun z : Nat => V.int (z : Int)) ez
                refine ⟨_, rfl, _, rfl, _, _, rfl, rfl, (by show (0 : Int) < 2 ∧ (2 : Int) < 1073741824; decide), .inl ⟨(((x + y) % m / 2 : Nat) : Int), rfl, _, _, rfl, rfl, ?_⟩⟩
                exact gName_tr e4 r
              case r =>
                refine ⟨3, rfl, by decide, by decide, ?_⟩
                refine for_range (n := 3) (fun i σ H' => ∃ (vs : List Tri) (x8 x9 : Option V), σ = [some (.ref a), some (.int (n : Int)), some (.ref L), some (.int (m : Int)), some (.int (t : Int)), some (.int (x : Int)), some (.int (y : Int)), some (.int ((lawZ m t x y : Nat) : Int)), x8, x9] ∧ Same H H' ∧ TriL H' L vs ∧ vs.length ≤ x * 64 + 4 + y * 3 + i ∧
                    vs = us ++ (List.range i).map fun i => (x + m * i, y + m * i, lawZ m t x y + m * ((i + 1) % 3)))
                  ⟨us, y8, _, rfl, s4, l4, hl4, by simp⟩ ?_ ?_
                · rintro i σ H5 hi ⟨vs, x8, x9, rfl, s5, ⟨rs5, r51, r52, r53⟩, hl5, hw⟩
                  rw [Int.zero_add]
                  generalize lawZ m t x y = z at *
                  rw [map_succ (x := i), ← List.append_assoc, ← hw]
                  refine ⟨_, rfl, .inl ⟨rfl, _, SqL.of r51⟩, ?_⟩
                  refine ⟨_, rfl, _, rfl, _, rfl, _, _, rfl, rfl, (by dsimp only [CMul]; omega), _, _, rfl, rfl, ?_⟩
                  refine ⟨_, rfl, _, rfl, _, rfl, _, _, rfl, rfl, (by dsimp only [CMul]; omega), _, _, rfl, rfl, ?_⟩
                  refine ⟨_, rfl, _, rfl, _, rfl, _, _, rfl, rfl, .inl ⟨((i + 1 : Nat) : Int), rfl, ?_⟩⟩
                  refine ⟨_, _, rfl, rfl, (by show (0 : Int) < 3; decide), _, _, rfl, rfl, (by dsimp only [CMul]; omega), _, _, rfl, rfl, ?_⟩
                  refine ⟨(by show 3 ≤ sizeLine; decide), fun p5 hp5 => ?_⟩
                  have nLp5 : L ≠ p5 := ne_of_none r51 hp5
                  refine ⟨L, _, _, rfl, rfl, by rw [upd_ne nLp5]; exact r51, szlt (by rw [List.length_map, r52]; omega), ?_⟩
                  refine ⟨vs ++ [(x + m * i, y + m * i, z + m * ((i + 1) % 3))], _, _, rfl, Same.put (Same.trans s5 (Same.new hp5)) hL0, TriL.push (t := (x + m * i, y + m * i, z + m * ((i + 1) % 3))) r51 r52 r53 hp5 rfl, by rw [List.length_append, List.length_singleton]; omega, rfl⟩
                · rintro σ H5 ⟨vs, x8, x9, rfl, s5, l5, hl5, hw⟩
                  exact ⟨vs, _, _, _, _, rfl, s5, l5, by omega, hw⟩
            · rintro σ H4 ⟨us, y6, y7, y8, y9, rfl, s4, l4, hl4, hu⟩
              exact ⟨us, _, _, _, _, _, rfl, s4, l4, by omega, by rw [hu, hw, List.append_assoc, List.append_assoc]; rfl⟩
        · refine ite_no (decide_eq_false (by omega)) ?_
          rw [if_neg hxt, List.nil_append]
          refine ⟨_, rfl, (x : Int), rfl, by omega, by omega, ?_⟩
          refine for_range (n := x) (fun y σ H' => ∃ (us : List Tri) (x6 x7 x8 x9 : Option V), σ = [some (.ref a), some (.int (n : Int)), some (.ref L), some (.int (m : Int)), some (.int (t : Int)), some (.int (x : Int)), x6, x7, x8, x9] ∧ Same H H' ∧ TriL H' L us ∧ us.length ≤ x * 64 + 4 + y * 3 ∧
              us = ts ++ (List.range y).flatMap fun y => (List.range 3).map fun i => (x + m * i, y + m * i, lawZ m t x y + m * ((i + 1) % 3)))
            ⟨_, _, _, _, _, rfl, s2, l2, by omega, by simp⟩ ?_ ?_
          · rintro y σ H4 hy ⟨us, y6, y7, y8, y9, rfl, s4, l4, hl4, hu⟩
            rw [Int.zero_add]
            rw [flat_succ (x := y), ← List.append_assoc, ← hu]
            refine ⟨_, rfl, _, rfl, _, _, rfl, rfl, .inl ⟨((x + y : Nat) : Int), rfl, ?_⟩⟩
            refine ⟨_, rfl, _, _, rfl, rfl, (by show (0 : Int) < (m : Int); omega), ?_⟩
            refine ⟨_, rfl, _, _, rfl, rfl, (by show (0 : Int) < 2; decide), rfl, _, rfl, ?_⟩
            apply ifx
            case h1 =>
              intro hc
              have hc2 : (((x + y : Nat) : Int) % (m : Int)) % 2 = 0 := of_dec_int hc
              have hc3 : (x + y) % m % 2 = 0 := by
                have e : ((((x + y) % m % 2 : Nat)) : Int) = (((x + y : Nat) : Int) % (m : Int)) % 2 := rfl
                omega
              have ez : lawZ m t x y = (x + y) % m / 2 := by unfold lawZ; rw [if_pos hc3]
              intro r
              exact ⟨_, rfl, _, _, rfl, rfl, (by show (0 : Int) < 2 ∧ (2 : Int) < 1073741824; decide), .inl ⟨((lawZ m t x y : Nat) : Int), congrArg (fun z : Nat => [V.int (z : Int)]) ez.symm, r⟩⟩
            case h2 =>
              intro hc
              have hc3 : ¬ (x + y) % m % 2 = 0 := fun e => by
                have q : decide (V.int ((((x + y : Nat) : Int) % (m : Int)) % 2) = V.int 0) = true := dec_int_eq (by
                  have e2 : ((((x + y) % m % 2 : Nat)) : Int) = (((x + y : Nat) : Int) % (m : Int)) % 2 := rfl
                  omega)
                rw [q] at hc
                cases hc
              have ez : lawZ m t x y = t + (x + y) % m / 2 := by unfold lawZ; rw [if_neg hc3]
              intro r
              have e4 : V.int ((lawZ m t x y : Nat) : Int) = V.int ((t : Int) + (((x + y) % m / 2 : Nat) : Int)) := congrArg (fun z : Nat => V.int (z : Int)) ez
              refine ⟨_, rfl, _, rfl, _, _, rfl, rfl, (by show (0 : Int) < 2 ∧ (2 : Int) < 1073741824; decide), .inl ⟨(((x + y) % m / 2 : Nat) : Int), rfl, _, _, rfl, rfl, ?_⟩⟩
              exact gName_tr e4 r
            case r =>
              refine ⟨3, rfl, by decide, by decide, ?_⟩
              refine for_range (n := 3) (fun i σ H' => ∃ (ws : List Tri) (x8 x9 : Option V), σ = [some (.ref a), some (.int (n : Int)), some (.ref L), some (.int (m : Int)), some (.int (t : Int)), some (.int (x : Int)), some (.int (y : Int)), some (.int ((lawZ m t x y : Nat) : Int)), x8, x9] ∧ Same H H' ∧ TriL H' L ws ∧ ws.length ≤ x * 64 + 4 + y * 3 + i ∧
                  ws = us ++ (List.range i).map fun i => (x + m * i, y + m * i, lawZ m t x y + m * ((i + 1) % 3)))
                ⟨us, y8, _, rfl, s4, l4, hl4, by simp⟩ ?_ ?_
              · rintro i σ H5 hi ⟨ws, x8, x9, rfl, s5, ⟨rs5, r51, r52, r53⟩, hl5, hw⟩
                rw [Int.zero_add]
                generalize lawZ m t x y = z at *
                rw [map_succ (x := i), ← List.append_assoc, ← hw]
                refine ⟨_, rfl, .inl ⟨rfl, _, SqL.of r51⟩, ?_⟩
                refine ⟨_, rfl, _, rfl, _, rfl, _, _, rfl, rfl, (by dsimp only [CMul]; omega), _, _, rfl, rfl, ?_⟩
                refine ⟨_, rfl, _, rfl, _, rfl, _, _, rfl, rfl, (by dsimp only [CMul]; omega), _, _, rfl, rfl, ?_⟩
                refine ⟨_, rfl, _, rfl, _, rfl, _, _, rfl, rfl, .inl ⟨((i + 1 : Nat) : Int), rfl, ?_⟩⟩
                refine ⟨_, _, rfl, rfl, (by show (0 : Int) < 3; decide), _, _, rfl, rfl, (by dsimp only [CMul]; omega), _, _, rfl, rfl, ?_⟩
                refine ⟨(by show 3 ≤ sizeLine; decide), fun p5 hp5 => ?_⟩
                have nLp5 : L ≠ p5 := ne_of_none r51 hp5
                refine ⟨L, _, _, rfl, rfl, by rw [upd_ne nLp5]; exact r51, szlt (by rw [List.length_map, r52]; omega), ?_⟩
                refine ⟨ws ++ [(x + m * i, y + m * i, z + m * ((i + 1) % 3))], _, _, rfl, Same.put (Same.trans s5 (Same.new hp5)) hL0, TriL.push (t := (x + m * i, y + m * i, z + m * ((i + 1) % 3))) r51 r52 r53 hp5 rfl, by rw [List.length_append, List.length_singleton]; omega, rfl⟩
              · rintro σ H5 ⟨ws, x8, x9, rfl, s5, l5, hl5, hw⟩
                exact ⟨ws, _, _, _, _, rfl, s5, l5, by omega, hw⟩
          · rintro σ H4 ⟨us, y6, y7, y8, y9, rfl, s4, l4, hl4, hu⟩
            exact ⟨us, _, _, _, _, _, rfl, s4, l4, by omega, by first | exact hu | exact hu.trans (List.append_assoc ..)⟩
      · rintro σ H2 ⟨ts, x5, x6, x7, x8, x9, rfl, s2, l2, hl, ht⟩
        refine ⟨_, rfl, k L H2 s2 ?_⟩
        rw [← ht]
        exact l2
end
end PK
end

section
namespace PK
open PySem PySem.Spec PyProof.Rows L2
theorem by_step {ts : List Tri} {i : Nat} {t : Tri} {a b c : Int} (h : ts[i]? = some t) (hb : byThrees (ts.drop i) a b = some c) :
    ((inTri a t && inTri b t) = true ∧ c = triSum t - a - b) ∨ ((inTri a t && inTri b t) = false ∧ byThrees (ts.drop (i + 1)) a b = some c) := by
  have hi := (List.getElem?_eq_some_iff.mp h).1
  have e : ts.drop i = t :: ts.drop (i + 1) := by
    rw [List.drop_eq_getElem_cons hi]
    congr 1
    exact (List.getElem?_eq_some_iff.mp h).2
  rw [e] at hb
  unfold byThrees at hb ⊢
  rw [List.find?_cons] at hb
  cases q : (inTri a t && inTri b t) with
  | true =>
    rw [q] at hb
    exact .inl ⟨rfl, (Option.some.inj hb).symm⟩
  | false =>
    rw [q] at hb
    exact .inr ⟨rfl, hb⟩
theorem by_end {ts : List Tri} {a b c : Int} (h : byThrees (ts.drop ts.length) a b = some c) : False := by
  rw [List.drop_length] at h
  cases h
theorem thV_flat (t : Tri) : (thV t).all flatV = true := rfl
section
variable {P : Program} {w : World} {K : PySem.W.Frag} {mg : Str → Option Value} {base : Heap}
theorem sc_law_built : FnScope ["_law_tree", "_law_a", "_law_b", "_law_three"] ["_law_tree", "_law_a", "_law_b"] (defScope s_law_built) := ⟨rfl, rfl, rfl, by decide +kernel, rfl, by decide +kernel, by decide +kernel⟩
def spBuilt : Sp := fun vs H Q _ => ∃ v t, ∃ n : Nat, ∃ a b c, vs = [v, .int a, .int b] ∧ TrAt H t v ∧ (t = .bose n ∨ t = .skolem n) ∧ 3 ≤ n ∧ n ≤ 60 ∧ byThrees (lawThrees t) a b = some c ∧ ∀ H', Same H H' → Q (.int c) H'
theorem fc_law_built (T : Txt w K mg) : Fc P w K mg base 2 "_law_built" ["_law_tree", "_law_a", "_law_b"] spBuilt := by
  have F_law_threes := fc_law_threes (P := P) (base := base) T
  refine mk_fc T.d_law_built sc_law_built (fun _ _ _ _ _ _ us hl => match us, hl with | [_, _, _], _ => rfl) (fun vs H Q E h => ?_) (fun f cdv A outer s H vs Q E hr h => ?_)
  · obtain ⟨v, t, n, a, b, c, rfl, _⟩ := h
    rfl
  · obtain ⟨v, t, n, a, b, c, rfl, hT, ht, h3, h60, hc, k⟩ := h
    refine ⟨_, (pss_cons (ps_for PassesOwn.never rfl (pi_list (pe_fc F_law_threes hr rfl (pa_cons (pv 0) pa_nil))) (pg_name (i := 3) sc_law_built.nd rfl (Or.inl rfl))
      (pss_one (ps_if (PW.pt (pw_and (pt_cmpR op_in_seq (pv 1) (pv 3) (by rfl)) (pw_and1 (pt_cmpR op_in_seq (pv 2) (pv 3) (by rfl))))) (pss_one (ps_ret (pe_op op_sub (pe_op op_sub (pe_callB (r := rSumT K) (cr_sumT rfl) (by rfl) T.n_sum (by decide +kernel) (pa_cons (pv 3) pa_nil)) (pv 1)) (pv 2)))) pss_nil)))
      (pss_one (ps_ret pe_non))), ?_⟩
    refine st_is (σ := [some _, some _, some _, none]) rfl ?_
    refine ⟨_, rfl, v, t, n, rfl, hT, ht, h3, h60, fun p H1 s1 hp => ?_⟩
    generalize lawThrees t = ts at *
    obtain ⟨rs, r1, r2, r3⟩ := hp
    refine ⟨p, rfl, ⟨_, SqL.of r1⟩, ?_⟩
    refine for_list (K := K) (a := p) (xs := rs.map V.ref) (fun i σ H' => ∃ x3 : Option V, σ = [some v, some (.int a), some (.int b), x3] ∧ H' = H1 ∧ byThrees (ts.drop i) a b = some c)
      ⟨none, rfl, rfl, by simpa using hc⟩ (fun i σ H' _ h => by
        obtain ⟨_, _, e, _⟩ := h
        subst e
        exact SqL.of r1) ?_ ?_
    · rintro i x σ H2 hx ⟨x3, rfl, e2, hb⟩
      subst e2
      rw [List.getElem?_map] at hx
      obtain ⟨r, hr, rfl⟩ := Option.map_eq_some_iff.mp hx
      have hi : i < ts.length := by
        rw [← r2]
        exact (List.getElem?_eq_some_iff.mp hr).1
      have hti : ts[i]? = some ts[i] := List.getElem?_eq_getElem hi
      have hr3 := r3 i r _ hr hti
      have hstep := by_step hti hb
      generalize ts[i] = u at *
      refine ⟨_, rfl, _, rfl, r, _, rfl, .inr (SqT.of hr3), rfl, thV_flat u, _, rfl, ?_⟩
      rw [if_neg (by decide : ¬ false = true), inV_tri]
      rcases hstep with ⟨hit, hce⟩ | ⟨hno, hb2⟩
      · obtain ⟨h1, h2⟩ := Bool.and_eq_true_iff.mp hit
        refine ite_yes h1 ?_
        refine ⟨_, rfl, _, rfl, r, _, rfl, .inr (SqT.of hr3), rfl, thV_flat u, _, rfl, ?_⟩
        rw [if_neg (by decide : ¬ false = true), inV_tri]
        refine ite_yes h2 ?_
        refine ⟨_, rfl, r, [(u.1 : Int), (u.2.1 : Int), (u.2.2 : Int)], rfl, SqT.of hr3, _, rfl, _, _, rfl, rfl, _, rfl, _, _, rfl, rfl, ?_⟩
        have k2 := k _ s1
        rw [hce, ← thV_sum] at k2
        exact k2
      · cases h1 : inTri a u with
        | false => exact ite_no rfl ⟨_, rfl, rfl, hb2⟩
        | true =>
          rw [h1, Bool.true_and] at hno
          refine ite_yes rfl ?_
          refine ⟨_, rfl, _, rfl, r, _, rfl, .inr (SqT.of hr3), rfl, thV_flat u, _, rfl, ?_⟩
          rw [if_neg (by decide : ¬ false = true), inV_tri]
          exact ite_no hno ⟨_, rfl, rfl, hb2⟩
    · rintro σ H2 ⟨x3, rfl, e2, hb⟩
      rw [List.length_map, r2] at hb
      exact (by_end hb).elim
end
end PK
end

section
namespace PK
open PySem PySem.Spec PyProof.Rows L2
section
variable {P : Program} {w : World} {K : PySem.W.Frag} {mg : Str → Option Value} {base : Heap}
theorem sc_law_third : FnScope ["_law_tree", "_law_a", "_law_b", "_law_kind", "_law_three", "_law_total", "_law_step", "_law_k", "_law_first", "_law_second", "_law_v", "_law_other", "_law_low", "_law_high", "_law_w", "_law_one"] ["_law_tree", "_law_a", "_law_b"] (defScope s_law_third) := ⟨rfl, rfl, rfl, by decide +kernel, rfl, by decide +kernel, by decide +kernel⟩
def spLThird (d : Nat) : Sp := fun vs H Q _ => ∃ v t a b c, vs = [v, .int a, .int b] ∧ TrAt H t v ∧ depth t ≤ d ∧ okT t ∧ lawThird t a b = some c ∧ ∀ H', Same H H' → Q (.int c) H'
theorem lthird_turn {d k : Nat} (T : Txt w K mg) (hk2 : 2 ≤ k) (hk1 : d + 1 ≤ k) (G : ∀ j, d = j + 1 → Fc P w K mg base k "_law_third" ["_law_tree", "_law_a", "_law_b"] (spLThird j)) : Fc P w K mg base (k + 1) "_law_third" ["_law_tree", "_law_a", "_law_b"] (spLThird d) := by
  have F_law_count := fc_law_count (P := P) (base := base) T d
  have F_law_built := fc_law_built (P := P) (base := base) T
  obtain ⟨j, hj, F_law_third⟩ : ∃ j : Nat, (∀ m, m + 1 ≤ d → m ≤ j) ∧ Fc P w K mg base k "_law_third" ["_law_tree", "_law_a", "_law_b"] (fun vs H Q E => d ≠ 0 ∧ spLThird j vs H Q E) := by
    cases d with
    | zero => exact ⟨0, fun t h => absurd h (Nat.not_succ_le_zero _), Fc.never T.d_law_third (fun _ _ _ _ _ _ us hl => match us, hl with | [_, _, _], _ => rfl) fun _ _ _ _ h => h.1 rfl⟩
    | succ j => exact ⟨j, fun t h => Nat.le_of_succ_le_succ h, (G j rfl).imp fun _ _ _ _ h => h.2⟩
  refine mk_fc T.d_law_third sc_law_third (fun _ _ _ _ _ _ us hl => match us, hl with | [_, _, _], _ => rfl) (fun vs H Q E h => ?_) (fun f cdv A outer s H vs Q E hr h => ?_)
  · obtain ⟨v, t, a, b, c, rfl, _⟩ := h
    rfl
  · obtain ⟨v, t, a, b, c, rfl, hT, hd, ok, hc, q⟩ := h
    refine ⟨_, (pss_cons (ps_set (i := 3) sc_law_third.nd rfl (Or.inl rfl) (pe_ix ix_tup (pv 0) pe_int (fun _ _ => rfl)))
      (pss_cons (ps_if (pt_cmpR op_eq (pv 3) pe_str (nomark _)) (pss_cons (ps_for PassesOwn.never rfl (pi_tup (pe_ix ix_tup (pv 0) pe_int (fun _ _ => rfl))) (pg_name (i := 4) sc_law_third.nd rfl (Or.inl rfl))
        (pss_one (ps_if (PW.pt (pw_and (pt_cmpR op_in_seq (pv 1) (pv 4) (by rfl)) (pw_and1 (pt_cmpR op_in_seq (pv 2) (pv 4) (by rfl))))) (pss_one (ps_ret (pe_op op_sub (pe_op op_sub (pe_callB (r := rSumT K) (cr_sumT rfl) (by rfl) T.n_sum (by decide +kernel) (pa_cons (pv 4) pa_nil)) (pv 1)) (pv 2)))) pss_nil)))
        (pss_one (ps_ret pe_non))) pss_nil)
      (pss_cons (ps_if (pt_cmpR op_eq (pv 3) pe_str (nomark _)) (pss_cons (ps_set (i := 5) sc_law_third.nd rfl (Or.inl rfl) pe_int)
        (pss_cons (ps_set (i := 6) sc_law_third.nd rfl (Or.inl rfl) pe_int)
        (pss_cons (ps_for PassesOwn.never rfl (pi_range1 (by rfl) T.n_range (pa_cons (pe_ix ix_tup (pv 0) pe_int (fun _ _ => rfl)) pa_nil)) (pg_name (i := 7) sc_law_third.nd rfl (Or.inl rfl))
        (pss_cons (ps_set (i := 5) sc_law_third.nd rfl (Or.inl rfl) (pe_op op_add (pv 5) (pe_op op_mul (pe_op op_mod (pe_callTy call_int1 (by rfl) T.n_int (by decide +kernel) (pa_cons (pe_op op_sub (pe_un un_neg (pe_op op_mod (pe_callTy call_int1 (by rfl) T.n_int (by decide +kernel) (pa_cons (pv 1) pa_nil)) pe_int)) (pe_op op_mod (pe_callTy call_int1 (by rfl) T.n_int (by decide +kernel) (pa_cons (pv 2) pa_nil)) pe_int)) pa_nil)) pe_int) (pv 6))))
          (pss_cons (ps_set (i := 1) sc_law_third.nd rfl (Or.inl rfl) (pe_callTy call_int1 (by rfl) T.n_int (by decide +kernel) (pa_cons (pe_op op_fdiv (pv 1) pe_int) pa_nil)))
          (pss_cons (ps_set (i := 2) sc_law_third.nd rfl (Or.inl rfl) (pe_callTy call_int1 (by rfl) T.n_int (by decide +kernel) (pa_cons (pe_op op_fdiv (pv 2) pe_int) pa_nil)))
          (pss_one (ps_set (i := 6) sc_law_third.nd rfl (Or.inl rfl) (pe_op op_mul (pv 6) pe_int)))))))
        (pss_one (ps_ret (pv 5)))))) pss_nil)
      (pss_cons (ps_if (pt_cmpR op_eq (pv 3) pe_str (nomark _)) (pss_cons (ps_set (i := 5) sc_law_third.nd rfl (Or.inl rfl) pe_int)
        (pss_cons (ps_set (i := 6) sc_law_third.nd rfl (Or.inl rfl) pe_int)
        (pss_cons (ps_set (i := 8) sc_law_third.nd rfl (Or.inl rfl) (pe_op op_add (pv 1) pe_int))
        (pss_cons (ps_set (i := 9) sc_law_third.nd rfl (Or.inl rfl) (pe_op op_add (pv 2) pe_int))
        (pss_cons (ps_for PassesOwn.never rfl (pi_range1 (by rfl) T.n_range (pa_cons (pe_ix ix_tup (pv 0) pe_int (fun _ _ => rfl)) pa_nil)) (pg_name (i := 7) sc_law_third.nd rfl (Or.inl rfl))
        (pss_cons (ps_if (pt_cmpR op_ne (pe_op op_mod (pe_callTy call_int1 (by rfl) T.n_int (by decide +kernel) (pa_cons (pv 8) pa_nil)) pe_int) (pe_op op_mod (pe_callTy call_int1 (by rfl) T.n_int (by decide +kernel) (pa_cons (pv 9) pa_nil)) pe_int) (nomark _)) (pss_one (ps_set (i := 5) sc_law_third.nd rfl (Or.inl rfl) (pe_op op_add (pv 5) (pv 6)))) pss_nil)
          (pss_cons (ps_set (i := 8) sc_law_third.nd rfl (Or.inl rfl) (pe_callTy call_int1 (by rfl) T.n_int (by decide +kernel) (pa_cons (pe_op op_fdiv (pv 8) pe_int) pa_nil)))
          (pss_cons (ps_set (i := 9) sc_law_third.nd rfl (Or.inl rfl) (pe_callTy call_int1 (by rfl) T.n_int (by decide +kernel) (pa_cons (pe_op op_fdiv (pv 9) pe_int) pa_nil)))
          (pss_one (ps_set (i := 6) sc_law_third.nd rfl (Or.inl rfl) (pe_op op_mul (pv 6) pe_int)))))))
        (pss_one (ps_ret (pe_op op_sub (pv 5) pe_int)))))))) pss_nil)
      (pss_cons (ps_if (pt_cmpR op_eq (pv 3) pe_str (nomark _)) (pss_cons (ps_set (i := 10) sc_law_third.nd rfl (Or.inl rfl) (pe_fc F_law_count hr rfl (pa_cons (pe_ix ix_tup (pv 0) pe_int (fun _ _ => rfl)) pa_nil) hk1))
        (pss_cons (ps_if (PW.pt (pw_or (pt_cmpR op_eq (pv 1) (pe_op op_mul pe_int (pv 10)) (nomark _)) (pw_or1 (pt_cmpR op_eq (pv 2) (pe_op op_mul pe_int (pv 10)) (nomark _))))) (pss_cons (ps_set (i := 11) sc_law_third.nd rfl (Or.inl rfl) (pe_op op_sub (pe_op op_add (pv 1) (pv 2)) (pe_op op_mul pe_int (pv 10))))
          (pss_one (ps_ret (pe_ifExp (pt_cmpR op_lt (pv 11) (pv 10) (nomark _)) (pe_op op_add (pv 11) (pv 10)) (pe_op op_sub (pv 11) (pv 10)))))) pss_nil)
        (pss_cons (ps_if (PW.pt (pw_and (pt_cmpR op_ge (pv 1) (pv 10) (nomark _)) (pw_and1 (pt_cmpR op_ge (pv 2) (pv 10) (nomark _))))) (pss_one (ps_ret (pe_fc F_law_third hr rfl (pa_cons (pe_ix ix_tup (pv 0) pe_int (fun _ _ => rfl)) (pa_cons (pe_op op_sub (pv 1) (pv 10)) (pa_cons (pe_op op_sub (pv 2) (pv 10)) pa_nil))) (Nat.le_refl _)))) pss_nil)
        (pss_cons (ps_if (PW.pt (pw_and (pt_cmpR op_lt (pv 1) (pv 10) (nomark _)) (pw_and1 (pt_cmpR op_lt (pv 2) (pv 10) (nomark _))))) (pss_one (ps_ret (pe_fc F_law_third hr rfl (pa_cons (pe_ix ix_tup (pv 0) pe_int (fun _ _ => rfl)) (pa_cons (pv 1) (pa_cons (pv 2) pa_nil))) (Nat.le_refl _)))) pss_nil)
        (pss_cons (ps_set (i := 12) sc_law_third.nd rfl (Or.inl rfl) (pe_callB (call_min2 rfl) (by rfl) T.n_min (by decide +kernel) (pa_cons (pv 1) (pa_cons (pv 2) pa_nil))))
        (pss_cons (ps_set (i := 13) sc_law_third.nd rfl (Or.inl rfl) (pe_op op_sub (pe_callB (call_max2 rfl) (by rfl) T.n_max (by decide +kernel) (pa_cons (pv 1) (pa_cons (pv 2) pa_nil))) (pv 10)))
        (pss_one (ps_ret (pe_ifExp (pt_cmpR op_eq (pv 12) (pv 13) (nomark _)) (pe_op op_mul pe_int (pv 10)) (pe_op op_add (pe_fc F_law_third hr rfl (pa_cons (pe_ix ix_tup (pv 0) pe_int (fun _ _ => rfl)) (pa_cons (pv 12) (pa_cons (pv 13) pa_nil))) (Nat.le_refl _)) (pv 10))))))))))) pss_nil)
      (pss_cons (ps_if (pt_cmpR op_eq (pv 3) pe_str (nomark _)) (pss_cons (ps_set (i := 14) sc_law_third.nd rfl (Or.inl rfl) (pe_fc F_law_count hr rfl (pa_cons (pe_ix ix_tup (pv 0) pe_int (fun _ _ => rfl)) pa_nil) hk1))
        (pss_cons (ps_set (i := 8) sc_law_third.nd rfl (Or.inl rfl) (pe_tup (pa_cons (pe_callTy call_int1 (by rfl) T.n_int (by decide +kernel) (pa_cons (pe_op op_fdiv (pv 1) (pv 14)) pa_nil)) (pa_cons (pe_callTy call_int1 (by rfl) T.n_int (by decide +kernel) (pa_cons (pe_op op_fdiv (pv 2) (pv 14)) pa_nil)) pa_nil))))
        (pss_cons (ps_set (i := 9) sc_law_third.nd rfl (Or.inl rfl) (pe_tup (pa_cons (pe_op op_mod (pe_callTy call_int1 (by rfl) T.n_int (by decide +kernel) (pa_cons (pv 1) pa_nil)) (pv 14)) (pa_cons (pe_op op_mod (pe_callTy call_int1 (by rfl) T.n_int (by decide +kernel) (pa_cons (pv 2) pa_nil)) (pv 14)) pa_nil))))
        (pss_cons (ps_set (i := 15) sc_law_third.nd rfl (Or.inl rfl) (pe_ifExp (pt_cmpR op_eq (pe_ix ix_tup (pv 8) pe_int (fun _ _ => rfl)) (pe_ix ix_tup (pv 8) pe_int (fun _ _ => rfl)) (nomark _)) (pe_ix ix_tup (pv 8) pe_int (fun _ _ => rfl)) (pe_fc F_law_third hr rfl (pa_cons (pe_ix ix_tup (pv 0) pe_int (fun _ _ => rfl)) (pa_cons (pe_ix ix_tup (pv 8) pe_int (fun _ _ => rfl)) (pa_cons (pe_ix ix_tup (pv 8) pe_int (fun _ _ => rfl)) pa_nil))) (Nat.le_refl _))))
        (pss_cons (ps_set (i := 11) sc_law_third.nd rfl (Or.inl rfl) (pe_ifExp (pt_cmpR op_eq (pe_ix ix_tup (pv 9) pe_int (fun _ _ => rfl)) (pe_ix ix_tup (pv 9) pe_int (fun _ _ => rfl)) (nomark _)) (pe_ix ix_tup (pv 9) pe_int (fun _ _ => rfl)) (pe_fc F_law_third hr rfl (pa_cons (pe_ix ix_tup (pv 0) pe_int (fun _ _ => rfl)) (pa_cons (pe_ix ix_tup (pv 9) pe_int (fun _ _ => rfl)) (pa_cons (pe_ix ix_tup (pv 9) pe_int (fun _ _ => rfl)) pa_nil))) (Nat.le_refl _))))
        (pss_one (ps_ret (pe_op op_add (pe_op op_mul (pv 15) (pv 14)) (pv 11))))))))) pss_nil)
      (pss_one (ps_ret (pe_fc F_law_built hr rfl (pa_cons (pv 0) (pa_cons (pv 1) (pa_cons (pv 2) pa_nil))) hk2))))))))), ?_⟩
    refine st_is (σ := [some _, some _, some _, none, none, none, none, none, none, none, none, none, none, none, none, none]) rfl ?_
    cases t with
    | bose n =>
      have o : 3 ≤ n ∧ n ≤ 60 ∧ n % 6 = 3 := ok
      have hT0 := hT
      obtain ⟨p, rfl, hp⟩ := hT
      repeat ((try simp only [List.set_cons_zero, List.set_cons_succ]); (first | with_reducible refine iteF ?_ | with_reducible refine iteT ?_ | with_reducible refine ite_no (by decide +kernel) ?_ | with_reducible refine ite_yes (by decide +kernel) ?_ | (fail_if_success (with_reducible refine ite2 ?_ ?_)); (first | refine ⟨_, rfl, ?_⟩ | refine ⟨_, _, rfl, rfl, ?_⟩ | refine ⟨rfl, _, rfl, ?_⟩ | refine ⟨_, _, rfl, ?_⟩ | refine ⟨_, _, _, rfl, ?_⟩ | refine ⟨_, _, _, _, rfl, rfl, SqT.of hp, rfl, ?_⟩ | refine ⟨rfl, ?_⟩ | with_reducible refine And.intro (by (try dsimp only [CDiv, CMul]); omega) ?_)))
      exact ⟨_, _, n, a, b, c, rfl, hT0, .inl rfl, o.1, o.2.1, hc, q⟩
    | skolem n =>
      have o : 7 ≤ n ∧ n ≤ 60 ∧ n % 6 = 1 := ok
      have hT0 := hT
      obtain ⟨p, rfl, hp⟩ := hT
      repeat ((try simp only [List.set_cons_zero, List.set_cons_succ]); (first | with_reducible refine iteF ?_ | with_reducible refine iteT ?_ | with_reducible refine ite_no (by decide +kernel) ?_ | with_reducible refine ite_yes (by decide +kernel) ?_ | (fail_if_success (with_reducible refine ite2 ?_ ?_)); (first | refine ⟨_, rfl, ?_⟩ | refine ⟨_, _, rfl, rfl, ?_⟩ | refine ⟨rfl, _, rfl, ?_⟩ | refine ⟨_, _, rfl, ?_⟩ | refine ⟨_, _, _, rfl, ?_⟩ | refine ⟨_, _, _, _, rfl, rfl, SqT.of hp, rfl, ?_⟩ | refine ⟨rfl, ?_⟩ | with_reducible refine And.intro (by (try dsimp only [CDiv, CMul]); omega) ?_)))
      exact ⟨_, _, n, a, b, c, rfl, hT0, .inr rfl, by omega, o.2.1, hc, q⟩
    | affine n =>
      have o : 1 ≤ n ∧ n ≤ 3 := ok
      obtain ⟨p, rfl, hp⟩ := hT
      have hc : lawAff n a b 0 1 = c := Option.some.inj hc
      refine ⟨_, rfl, _, _, _, _, rfl, rfl, SqT.of hp, rfl, ?_⟩
      refine ⟨_, rfl, rfl, _, rfl, ite_no (by decide +kernel) ?_⟩
      refine ⟨_, rfl, rfl, _, rfl, ite_yes (by decide +kernel) ?_⟩
      refine ⟨_, rfl, _, _, _, _, rfl, rfl, SqT.of hp, rfl, (n : Int), rfl, by omega, by omega, ?_⟩
      refine for_range (n := n) (fun i σ H' => ∃ (a' b' total step : Int) (x7 : Option V), σ = [some (.ref p), some (.int a'), some (.int b'), some (.str "affine"), none, some (.int total), some (.int step), x7, none, none, none, none, none, none, none, none] ∧ H' = H ∧ lawAff (n - i) a' b' total step = c)
        ⟨a, b, 0, 1, none, rfl, rfl, hc⟩ ?_ ?_
      · rintro i σ H1 hi ⟨a', b', total, step, x7, rfl, e1, hc⟩
        subst e1
        have en : n - i = (n - (i + 1)) + 1 := by omega
        rw [en] at hc
        refine ⟨_, rfl, _, rfl, .inl ⟨_, rfl, _, _, rfl, rfl, (by show (0 : Int) < 3; decide), _, rfl, _, rfl, .inl ⟨_, rfl, _, _, rfl, rfl, (by show (0 : Int) < 3; decide), _, _, rfl, rfl, .inl ⟨_, rfl, _, _, rfl, rfl, (by show (0 : Int) < 3; decide), _, rfl, _, _, rfl, rfl, (by dsimp only [CMul]; omega), _, _, rfl, rfl, ?_⟩⟩⟩⟩
        refine ⟨_, rfl, _, _, rfl, rfl, (by show (0 : Int) < 3 ∧ (3 : Int) < 1073741824; decide), .inl ⟨_, rfl, ?_⟩⟩
        refine ⟨_, rfl, _, _, rfl, rfl, (by show (0 : Int) < 3 ∧ (3 : Int) < 1073741824; decide), .inl ⟨_, rfl, ?_⟩⟩
        refine ⟨_, rfl, _, _, rfl, rfl, (by dsimp only [CMul]; omega), ?_⟩
        exact ⟨_, _, _, _, _, rfl, rfl, hc⟩
      · rintro σ H1 ⟨a', b', total, step, x7, rfl, e1, hc⟩
        subst e1
        rw [Nat.sub_self] at hc
        have hc : total = c := hc
        subst hc
        exact ⟨_, rfl, q _ (Same.refl _)⟩
    | binary n =>
      have o : 2 ≤ n ∧ n ≤ 5 := ok
      obtain ⟨p, rfl, hp⟩ := hT
      have hc : lawBin n (a + 1) (b + 1) 0 1 - 1 = c := Option.some.inj hc
      refine ⟨_, rfl, _, _, _, _, rfl, rfl, SqT.of hp, rfl, ?_⟩
      refine ⟨_, rfl, rfl, _, rfl, ite_no (by decide +kernel) ?_⟩
      refine ⟨_, rfl, rfl, _, rfl, ite_no (by decide +kernel) ?_⟩
      refine ⟨_, rfl, rfl, _, rfl, ite_yes (by decide +kernel) ?_⟩
      refine ⟨_, rfl, _, _, rfl, rfl, ?_⟩
      refine ⟨_, rfl, _, _, rfl, rfl, ?_⟩
      refine ⟨_, rfl, _, _, _, _, rfl, rfl, SqT.of hp, rfl, (n : Int), rfl, by omega, by omega, ?_⟩
      refine for_range (n := n) (fun i σ H' => ∃ (a' b' total step : Int) (x7 : Option V), σ = [some (.ref p), some (.int a), some (.int b), some (.str "binary"), none, some (.int total), some (.int step), x7, some (.int a'), some (.int b'), none, none, none, none, none, none] ∧ H' = H ∧ lawBin (n - i) a' b' total step - 1 = c)
        ⟨a + 1, b + 1, 0, 1, none, rfl, rfl, hc⟩ ?_ ?_
      · rintro i σ H1 hi ⟨a', b', total, step, x7, rfl, e1, hc⟩
        subst e1
        have en : n - i = (n - (i + 1)) + 1 := by omega
        rw [en] at hc
        refine ⟨_, rfl, .inl ⟨_, rfl, _, _, rfl, rfl, (by show (0 : Int) < 2; decide), _, rfl, .inl ⟨_, rfl, _, _, rfl, rfl, (by show (0 : Int) < 2; decide), rfl, _, rfl, ?_⟩⟩⟩
        by_cases hne : a' % 2 = b' % 2
        · refine ite_no (by show (!decide (V.int (a' % 2) = V.int (b' % 2))) = false; rw [dec_int_eq hne]; rfl) ?_
          refine ⟨_, rfl, _, _, rfl, rfl, (by show (0 : Int) < 2 ∧ (2 : Int) < 1073741824; decide), .inl ⟨_, rfl, ?_⟩⟩
          refine ⟨_, rfl, _, _, rfl, rfl, (by show (0 : Int) < 2 ∧ (2 : Int) < 1073741824; decide), .inl ⟨_, rfl, ?_⟩⟩
          refine ⟨_, rfl, _, _, rfl, rfl, (by dsimp only [CMul]; omega), ?_⟩
          refine ⟨_, _, _, _, _, rfl, rfl, ?_⟩
          unfold lawBin at hc
          rw [if_neg (fun h => h hne)] at hc
          exact hc
        · refine ite_yes (by show (!decide (V.int (a' % 2) = V.int (b' % 2))) = true; rw [dec_int_ne hne]; rfl) ?_
          refine ⟨_, rfl, _, rfl, _, _, rfl, rfl, ?_⟩
          refine ⟨_, rfl, _, _, rfl, rfl, (by show (0 : Int) < 2 ∧ (2 : Int) < 1073741824; decide), .inl ⟨_, rfl, ?_⟩⟩
          refine ⟨_, rfl, _, _, rfl, rfl, (by show (0 : Int) < 2 ∧ (2 : Int) < 1073741824; decide), .inl ⟨_, rfl, ?_⟩⟩
          refine ⟨_, rfl, _, _, rfl, rfl, (by dsimp only [CMul]; omega), ?_⟩
          refine ⟨_, _, _, _, _, rfl, rfl, ?_⟩
          unfold lawBin at hc
          rw [if_pos hne] at hc
          exact hc
      · rintro σ H1 ⟨a', b', total, step, x7, rfl, e1, hc⟩
        subst e1
        rw [Nat.sub_self] at hc
        have hc : total - 1 = c := hc
        subst hc
        exact ⟨_, rfl, _, _, rfl, rfl, q _ (Same.refl _)⟩
    | listed n ts =>
      obtain ⟨p, u, rfl, hp, hu⟩ := hT
      have hc : byThrees ts a b = some c := hc
      obtain ⟨rs, r1, r2, r3⟩ := hu
      refine ⟨_, rfl, _, _, _, _, rfl, rfl, SqT.of hp, rfl, ?_⟩
      refine ⟨_, rfl, rfl, _, rfl, ite_yes (by decide +kernel) ?_⟩
      refine ⟨_, rfl, _, _, _, _, rfl, rfl, SqT.of hp, rfl, u, rfl, ⟨_, SqT.of r1⟩, ?_⟩
      refine for_tup (K := K) (a := u) (xs := rs.map V.ref) (fun i σ H' => ∃ x4 : Option V, σ = [some (.ref p), some (.int a), some (.int b), some (.str "listed"), x4, none, none, none, none, none, none, none, none, none, none, none] ∧ H' = H ∧ byThrees (ts.drop i) a b = some c)
        ⟨none, rfl, rfl, by simpa using hc⟩ (fun i σ H' _ h => by
          obtain ⟨_, _, e, _⟩ := h
          subst e
          exact SqT.of r1) ?_ ?_
      · rintro i x σ H2 hx ⟨x4, rfl, e2, hb⟩
        subst e2
        rw [List.getElem?_map] at hx
        obtain ⟨r, hr, rfl⟩ := Option.map_eq_some_iff.mp hx
        have hi : i < ts.length := by
          rw [← r2]
          exact (List.getElem?_eq_some_iff.mp hr).1
        have hti : ts[i]? = some ts[i] := List.getElem?_eq_getElem hi
        have hr3 := r3 i r _ hr hti
        have hstep := by_step hti hb
        generalize ts[i] = w at *
        refine ⟨_, rfl, _, rfl, r, _, rfl, .inr (SqT.of hr3), rfl, thV_flat w, _, rfl, ?_⟩
        rw [if_neg (by decide : ¬ false = true), inV_tri]
        rcases hstep with ⟨hit, hce⟩ | ⟨hno, hb2⟩
        · obtain ⟨h1, h2⟩ := Bool.and_eq_true_iff.mp hit
          refine ite_yes h1 ?_
          refine ⟨_, rfl, _, rfl, r, _, rfl, .inr (SqT.of hr3), rfl, thV_flat w, _, rfl, ?_⟩
          rw [if_neg (by decide : ¬ false = true), inV_tri]
          refine ite_yes h2 ?_
          refine ⟨_, rfl, r, [(w.1 : Int), (w.2.1 : Int), (w.2.2 : Int)], rfl, SqT.of hr3, _, rfl, _, _, rfl, rfl, _, rfl, _, _, rfl, rfl, ?_⟩
          have k2 := q _ (Same.refl _)
          rw [hce, ← thV_sum] at k2
          exact k2
        · cases h1 : inTri a w with
          | false => exact ite_no rfl ⟨_, rfl, rfl, hb2⟩
          | true =>
            rw [h1, Bool.true_and] at hno
            refine ite_yes rfl ?_
            refine ⟨_, rfl, _, rfl, r, _, rfl, .inr (SqT.of hr3), rfl, thV_flat w, _, rfl, ?_⟩
            rw [if_neg (by decide : ¬ false = true), inV_tri]
            exact ite_no hno ⟨_, rfl, rfl, hb2⟩
      · rintro σ H2 ⟨x4, rfl, e2, hb⟩
        rw [List.length_map, r2] at hb
        exact (by_end hb).elim
    | double t =>
      obtain ⟨p, u, rfl, hp, hu⟩ := hT
      have hd : depth t + 1 ≤ d := hd
      have ok1 : okT t := ok.1
      have hz : sizeOf t ≤ 60 := ok.2
      unfold lawThird at hc
      refine ⟨_, rfl, _, _, _, _, rfl, rfl, SqT.of hp, rfl, ?_⟩
      refine ⟨_, rfl, rfl, _, rfl, ite_no (by decide +kernel) ?_⟩
      refine ⟨_, rfl, rfl, _, rfl, ite_no (by decide +kernel) ?_⟩
      refine ⟨_, rfl, rfl, _, rfl, ite_no (by decide +kernel) ?_⟩
      refine ⟨_, rfl, rfl, _, rfl, ite_yes (by decide +kernel) ?_⟩
      refine ⟨_, rfl, _, _, _, _, rfl, rfl, SqT.of hp, rfl, ?_⟩
      refine ⟨u, t, rfl, hu, by omega, bd_of ok1, ?_⟩
      have hw : sizeOf t ≤ 60 := hz
      generalize hS : (sizeOf t : Int) = S at *
      have hS0 : 0 ≤ S ∧ S ≤ 60 := by omega
      have third : ∀ (a' b' : Int) {c : Int}, lawThird t a' b' = some c → ∀ {Qx : VK} {Ex : XK}, (∀ H', Same H H' → Qx (.int c) H') → (d ≠ 0 ∧ spLThird j [u, .int a', .int b'] H Qx Ex) := fun a' b' {c} h Qx Ex hq => ⟨by omega, u, t, a', b', c, rfl, hu, hj _ hd, ok1, h, hq⟩
      have tail1 : (if a + b - 2 * S < S then a + b - 2 * S + S else a + b - 2 * S - S) = c → True := fun _ => trivial
      refine ⟨_, rfl, _, rfl, _, _, rfl, rfl, (by dsimp only [CMul]; omega), rfl, _, rfl, ?_⟩
      by_cases h1 : a = 2 * S
      · rw [if_pos (.inl h1)] at hc
        refine ite_yes (dec_int_eq h1) (ite_yes rfl ?_)
        refine ⟨_, rfl, _, rfl, _, _, rfl, rfl, _, rfl, _, _, rfl, rfl, (by dsimp only [CMul]; omega), _, _, rfl, rfl, ?_⟩
        refine ⟨_, rfl, _, rfl, _, _, rfl, rfl, _, rfl, ?_⟩
        have hc := Option.some.inj hc
        by_cases hlt : a + b - 2 * S < S
        · rw [if_pos hlt] at hc
          refine ite_yes (decide_eq_true hlt) ⟨_, rfl, _, rfl, _, _, rfl, rfl, ?_⟩
          subst hc
          exact q _ (Same.refl _)
        · rw [if_neg hlt] at hc
          refine ite_no (decide_eq_false hlt) ⟨_, rfl, _, rfl, _, _, rfl, rfl, ?_⟩
          subst hc
          exact q _ (Same.refl _)
      refine ite_no (dec_int_ne h1) ?_
      refine ⟨_, rfl, _, rfl, _, _, rfl, rfl, (by dsimp only [CMul]; omega), rfl, _, rfl, ?_⟩
      by_cases h2 : b = 2 * S
      · rw [if_pos (.inr h2)] at hc
        refine ite_yes (dec_int_eq h2) ?_
        refine ⟨_, rfl, _, rfl, _, _, rfl, rfl, _, rfl, _, _, rfl, rfl, (by dsimp only [CMul]; omega), _, _, rfl, rfl, ?_⟩
        refine ⟨_, rfl, _, rfl, _, _, rfl, rfl, _, rfl, ?_⟩
        have hc := Option.some.inj hc
        by_cases hlt : a + b - 2 * S < S
        · rw [if_pos hlt] at hc
          refine ite_yes (decide_eq_true hlt) ⟨_, rfl, _, rfl, _, _, rfl, rfl, ?_⟩
          subst hc
          exact q _ (Same.refl _)
        · rw [if_neg hlt] at hc
          refine ite_no (decide_eq_false hlt) ⟨_, rfl, _, rfl, _, _, rfl, rfl, ?_⟩
          subst hc
          exact q _ (Same.refl _)
      refine ite_no (dec_int_ne h2) ?_
      rw [if_neg (fun h => h.elim h1 h2)] at hc
      -- both above
      refine ⟨_, rfl, _, rfl, _, _, rfl, rfl, _, rfl, ?_⟩
      by_cases h3 : a ≥ S ∧ b ≥ S
      · rw [if_pos h3] at hc
        refine ite_yes (decide_eq_true h3.1) ?_
        refine ⟨_, rfl, _, rfl, _, _, rfl, rfl, _, rfl, ite_yes (decide_eq_true h3.2) ?_⟩
        refine ⟨_, rfl, _, _, _, _, rfl, rfl, SqT.of hp, rfl, ?_⟩
        refine ⟨_, rfl, _, rfl, _, _, rfl, rfl, ?_⟩
        refine ⟨_, rfl, _, rfl, _, _, rfl, rfl, ?_⟩
        exact third _ _ hc q
      · rw [if_neg h3] at hc
        by_cases x : S ≤ a
        · have y : ¬ S ≤ b := fun y => h3 ⟨x, y⟩
          refine ite_yes (decide_eq_true x) ?_
          refine ⟨_, rfl, _, rfl, _, _, rfl, rfl, _, rfl, ite_no (decide_eq_false y) ?_⟩
          refine ⟨_, rfl, _, rfl, _, _, rfl, rfl, _, rfl, ite_no (decide_eq_false (show ¬ a < S by omega)) (ite_no rfl ?_)⟩
          rw [if_neg (fun h => by omega)] at hc
          refine ⟨_, rfl, _, rfl, _, _, rfl, ?_⟩
          refine ⟨_, rfl, _, rfl, _, _, rfl, _, rfl, _, _, rfl, rfl, ?_⟩
          refine ⟨_, rfl, _, rfl, rfl, _, rfl, ?_⟩
          by_cases hlh : (if b < a then b else a) = (if b > a then b else a) - S
          · rw [if_pos hlh] at hc
            have hc := Option.some.inj hc
            subst hc
            exact ite_yes (dec_int_eq hlh) ⟨_, rfl, _, _, rfl, rfl, (by dsimp only [CMul]; omega), q _ (Same.refl _)⟩
          · rw [if_neg hlh] at hc
            obtain ⟨c', h', hc'⟩ := Option.map_eq_some_iff.mp hc
            subst hc'
            refine ite_no (dec_int_ne hlh) ?_
            refine ⟨_, rfl, _, _, _, _, rfl, rfl, SqT.of hp, rfl, ?_⟩
            refine ⟨_, rfl, _, rfl, ?_⟩
            exact third _ _ h' fun H' s' => ⟨_, rfl, _, _, rfl, rfl, q H' s'⟩
        · refine ite_no (decide_eq_false x) (ite_no rfl ?_)
          refine ⟨_, rfl, _, rfl, _, _, rfl, rfl, _, rfl, ite_yes (decide_eq_true (show a < S by omega)) ?_⟩
          by_cases y : b < S
          · refine ⟨_, rfl, _, rfl, _, _, rfl, rfl, _, rfl, ite_yes (decide_eq_true y) ?_⟩
            rw [if_pos (⟨by omega, y⟩ : a < S ∧ b < S)] at hc
            refine ⟨_, rfl, _, _, _, _, rfl, rfl, SqT.of hp, rfl, ?_⟩
            refine ⟨_, rfl, _, rfl, ?_⟩
            exact third _ _ hc q
          · refine ⟨_, rfl, _, rfl, _, _, rfl, rfl, _, rfl, ite_no (decide_eq_false y) ?_⟩
            rw [if_neg (fun h => by omega)] at hc
            refine ⟨_, rfl, _, rfl, _, _, rfl, ?_⟩
            refine ⟨_, rfl, _, rfl, _, _, rfl, _, rfl, _, _, rfl, rfl, ?_⟩
            refine ⟨_, rfl, _, rfl, rfl, _, rfl, ?_⟩
            by_cases hlh : (if b < a then b else a) = (if b > a then b else a) - S
            · rw [if_pos hlh] at hc
              have hc := Option.some.inj hc
              subst hc
              exact ite_yes (dec_int_eq hlh) ⟨_, rfl, _, _, rfl, rfl, (by dsimp only [CMul]; omega), q _ (Same.refl _)⟩
            · rw [if_neg hlh] at hc
              obtain ⟨c', h', hc'⟩ := Option.map_eq_some_iff.mp hc
              subst hc'
              refine ite_no (dec_int_ne hlh) ?_
              refine ⟨_, rfl, _, _, _, _, rfl, rfl, SqT.of hp, rfl, ?_⟩
              refine ⟨_, rfl, _, rfl, ?_⟩
              exact third _ _ h' fun H' s' => ⟨_, rfl, _, _, rfl, rfl, q H' s'⟩
    | product s t =>
      obtain ⟨p, u, u', rfl, hp, hu, hu'⟩ := hT
      have hd : max (depth s) (depth t) + 1 ≤ d := hd
      obtain ⟨ok1, ok2, hz1, hz2⟩ : okT s ∧ okT t ∧ sizeOf s ≤ 60 ∧ sizeOf t ≤ 60 := ok
      unfold lawThird at hc
      by_cases hpos : 0 < (sizeOf t : Int) ∧ (sizeOf t : Int) < 1000000
      · rw [if_pos hpos] at hc
        obtain ⟨x, hx, hc⟩ := Option.bind_eq_some_iff.mp hc
        obtain ⟨y, hy, hc⟩ := Option.map_eq_some_iff.mp hc
        subst hc
        refine ⟨_, rfl, _, _, _, _, rfl, rfl, SqT.of hp, rfl, ?_⟩
        refine ⟨_, rfl, rfl, _, rfl, ite_no (by decide +kernel) ?_⟩
        refine ⟨_, rfl, rfl, _, rfl, ite_no (by decide +kernel) ?_⟩
        refine ⟨_, rfl, rfl, _, rfl, ite_no (by decide +kernel) ?_⟩
        refine ⟨_, rfl, rfl, _, rfl, ite_no (by decide +kernel) ?_⟩
        refine ⟨_, rfl, rfl, _, rfl, ite_yes (by decide +kernel) ?_⟩
        refine ⟨_, rfl, _, _, _, _, rfl, rfl, SqT.of hp, rfl, ?_⟩
        refine ⟨u', t, rfl, hu', by omega, bd_of ok2, ?_⟩
        generalize (sizeOf t : Int) = S at *
        have hu0 : S ≠ 0 := by omega
        refine ⟨_, rfl, _, rfl, _, _, rfl, rfl, ⟨hpos.1, by omega⟩, .inl ⟨_, rfl, _, rfl, _, rfl, _, _, rfl, rfl, ⟨hpos.1, by omega⟩, .inl ⟨_, rfl, (by show 2 ≤ sizeLine; decide), fun F hF => ?_⟩⟩⟩
        have s1 := Same.new (o := .tup [.int (a / S), .int (b / S)]) hF
        have f1 : (upd H F (.tup [.int (a / S), .int (b / S)])) F = some (.tup [.int (a / S), .int (b / S)]) := upd_same
        generalize upd H F (.tup [.int (a / S), .int (b / S)]) = H1 at s1 f1 ⊢
        refine ⟨_, rfl, .inl ⟨_, rfl, _, rfl, _, _, rfl, rfl, hpos.1, _, rfl, .inl ⟨_, rfl, _, rfl, _, _, rfl, rfl, hpos.1, (by show 2 ≤ sizeLine; decide), fun G hG => ?_⟩⟩⟩
        have s2 := Same.trans s1 (Same.new (o := .tup [.int (a % S), .int (b % S)]) hG)
        have f2 := Same.new (o := .tup [.int (a % S), .int (b % S)]) hG _ _ f1
        have g2 : (upd H1 G (.tup [.int (a % S), .int (b % S)])) G = some (.tup [.int (a % S), .int (b % S)]) := upd_same
        generalize upd H1 G (.tup [.int (a % S), .int (b % S)]) = H2 at s2 f2 g2 ⊢
        refine ⟨_, rfl, _, _, _, _, rfl, rfl, SqT.of f2, rfl, ?_⟩
        refine ⟨_, rfl, _, _, _, _, rfl, rfl, SqT.of f2, rfl, ?_⟩
        refine ⟨rfl, _, rfl, ?_⟩
        by_cases e1 : a / S = b / S
        · rw [if_pos e1] at hx
          have hx := Option.some.inj hx
          subst hx
          refine ite_yes (dec_int_eq e1) ⟨_, rfl, _, _, _, _, rfl, rfl, SqT.of f2, rfl, ?_⟩
          refine ⟨_, rfl, _, _, _, _, rfl, rfl, SqT.of (g2), rfl, ?_⟩
          refine ⟨_, rfl, _, _, _, _, rfl, rfl, SqT.of (g2), rfl, ?_⟩
          refine ⟨rfl, _, rfl, ?_⟩
          by_cases e2 : a % S = b % S
          · rw [if_pos e2] at hy
            have hy := Option.some.inj hy
            refine ite_yes (dec_int_eq e2) ⟨_, rfl, _, _, _, _, rfl, rfl, SqT.of (g2), rfl, ?_⟩
            refine ⟨_, rfl, _, rfl, _, _, rfl, rfl, (by dsimp only [CMul]; omega), _, rfl, _, _, rfl, rfl, ?_⟩
            subst hy
            exact q _ (s2)
          · rw [if_neg e2] at hy
            refine ite_no (dec_int_ne e2) ?_
            refine ⟨_, rfl, _, _, _, _, rfl, rfl, SqT.of ((s2) _ _ hp), rfl, ?_⟩
            refine ⟨_, rfl, _, _, _, _, rfl, rfl, SqT.of (g2), rfl, ?_⟩
            refine ⟨_, rfl, _, _, _, _, rfl, rfl, SqT.of (g2), rfl, ?_⟩
            refine ⟨by omega, u', t, a % S, b % S, y, rfl, hu'.keep (Same.tups (s2)), hj _ (by omega), ok2, hy, fun H7 s7 => ?_⟩
            refine ⟨_, rfl, _, rfl, _, _, rfl, rfl, (by dsimp only [CMul]; omega), _, rfl, _, _, rfl, rfl, ?_⟩
            exact q _ (Same.trans (s2) s7)
        · rw [if_neg e1] at hx
          refine ite_no (dec_int_ne e1) ?_
          refine ⟨_, rfl, _, _, _, _, rfl, rfl, SqT.of (s2 _ _ hp), rfl, ?_⟩
          refine ⟨_, rfl, _, _, _, _, rfl, rfl, SqT.of f2, rfl, ?_⟩
          refine ⟨_, rfl, _, _, _, _, rfl, rfl, SqT.of f2, rfl, ?_⟩
          refine ⟨by omega, u, s, a / S, b / S, x, rfl, hu.keep (Same.tups s2), hj _ (by omega), ok1, hx, fun H5 s5 => ?_⟩
          refine ⟨_, rfl, _, _, _, _, rfl, rfl, SqT.of (s5 _ _ g2), rfl, ?_⟩
          refine ⟨_, rfl, _, _, _, _, rfl, rfl, SqT.of (s5 _ _ g2), rfl, ?_⟩
          refine ⟨rfl, _, rfl, ?_⟩
          by_cases e2 : a % S = b % S
          · rw [if_pos e2] at hy
            have hy := Option.some.inj hy
            refine ite_yes (dec_int_eq e2) ⟨_, rfl, _, _, _, _, rfl, rfl, SqT.of (s5 _ _ g2), rfl, ?_⟩
            refine ⟨_, rfl, _, rfl, _, _, rfl, rfl, (by dsimp only [CMul]; omega), _, rfl, _, _, rfl, rfl, ?_⟩
            subst hy
            exact q _ (Same.trans s2 s5)
          · rw [if_neg e2] at hy
            refine ite_no (dec_int_ne e2) ?_
            refine ⟨_, rfl, _, _, _, _, rfl, rfl, SqT.of ((Same.trans s2 s5) _ _ hp), rfl, ?_⟩
            refine ⟨_, rfl, _, _, _, _, rfl, rfl, SqT.of (s5 _ _ g2), rfl, ?_⟩
            refine ⟨_, rfl, _, _, _, _, rfl, rfl, SqT.of (s5 _ _ g2), rfl, ?_⟩
            refine ⟨by omega, u', t, a % S, b % S, y, rfl, hu'.keep (Same.tups (Same.trans s2 s5)), hj _ (by omega), ok2, hy, fun H7 s7 => ?_⟩
            refine ⟨_, rfl, _, rfl, _, _, rfl, rfl, (by dsimp only [CMul]; omega), _, rfl, _, _, rfl, rfl, ?_⟩
            exact q _ (Same.trans (Same.trans s2 s5) s7)
      · rw [if_neg hpos] at hc
        cases hc
theorem fc_law_third (T : Txt w K mg) : ∀ d : Nat, Fc P w K mg base (d + 3) "_law_third" ["_law_tree", "_law_a", "_law_b"] (spLThird d)
  | 0 => lthird_turn (k := 2) T (by decide) (by decide) fun _ h => nomatch h
  | d + 1 => lthird_turn (k := d + 3) T (by omega) (by omega) fun j h => by
    obtain rfl : d = j := Nat.succ.inj h
    exact fc_law_third T d
end
end PK
end

section
namespace PK
open PySem PySem.Spec PyProof.Rows L2
section
variable {P : Program} {w : World} {K : PySem.W.Frag} {mg : Str → Option Value} {base : Heap}
theorem sc_law_table : FnScope ["_law_tree", "_law_count_here", "_law_rows", "_law_a", "_law_row_here", "_law_b"] ["_law_tree"] (defScope s_law_table) := ⟨rfl, rfl, rfl, by decide +kernel, rfl, by decide +kernel, by decide +kernel⟩
def spLTable : Sp := fun vs H Q _ => ∃ v t n f, vs = [v] ∧ TrAt H t v ∧ Sys t n f ∧ Sts n f ∧ n ≤ 60 ∧ ∀ u H', Same H H' → TblAt H' u n f → Q u H'
theorem fc_law_table (T : Txt w K mg) : Fc P w K mg base 5 "_law_table" ["_law_tree"] spLTable := by
  have F_law_count := fc_law_count (P := P) (base := base) T 1
  have F_law_third := fc_law_third (P := P) (base := base) T 1
  refine mk_fc T.d_law_table sc_law_table (fun _ _ _ _ _ _ us hl => match us, hl with | [_], _ => rfl) (fun vs H Q E h => ?_) (fun f cdv A outer s H vs Q E hr h => ?_)
  · obtain ⟨v, t, n, f, rfl, _⟩ := h
    rfl
  · obtain ⟨v, t, n, g, rfl, hT, S, St, hn, k⟩ := h
    refine ⟨_, (pss_cons (ps_set (i := 1) sc_law_table.nd rfl (Or.inl rfl) (pe_fc F_law_count hr rfl (pa_cons (pv 0) pa_nil)))
      (pss_cons (ps_set (i := 2) sc_law_table.nd rfl (Or.inl rfl) (pe_lst pa_nil))
      (pss_cons (ps_for PassesOwn.never rfl (pi_range1 (by rfl) T.n_range (pa_cons (pv 1) pa_nil)) (pg_name (i := 3) sc_law_table.nd rfl (Or.inl rfl))
      (pss_cons (ps_set (i := 4) sc_law_table.nd rfl (Or.inl rfl) (pe_lst pa_nil))
        (pss_cons (ps_for PassesOwn.never rfl (pi_range1 (by rfl) T.n_range (pa_cons (pv 1) pa_nil)) (pg_name (i := 5) sc_law_table.nd rfl (Or.inl rfl))
        (pss_one (ps_if (pt_cmpR op_eq (pv 3) (pv 5) (nomark _)) (pss_one (ps_expr (pe_bm PySem.F.plainAttrs_list PySem.F.slot_list_append PySem.F.type_list_append mt_append (pv 4) (pa_cons (pv 3) pa_nil)))) (pss_one (ps_expr (pe_bm PySem.F.plainAttrs_list PySem.F.slot_list_append PySem.F.type_list_append mt_append (pv 4) (pa_cons (pe_fc F_law_third hr rfl (pa_cons (pv 0) (pa_cons (pv 3) (pa_cons (pv 5) pa_nil)))) pa_nil)))))))
        (pss_one (ps_expr (pe_bm PySem.F.plainAttrs_list PySem.F.slot_list_append PySem.F.type_list_append mt_append (pv 2) (pa_cons (pv 4) pa_nil)))))))
      (pss_one (ps_ret (pv 2)))))), ?_⟩
    refine st_is (σ := [some _, none, none, none, none, none]) rfl ?_
    refine ⟨_, rfl, v, t, rfl, hT, S.dep, bd_of S.ok, ?_⟩
    rw [S.size]
    refine ⟨Nat.zero_le _, fun R hR => ?_⟩
    have hR0 : H R = none := hR
    have s1 := Same.new (o := .lst []) hR
    have r1 : (upd H R (.lst [])) R = some (.lst (([] : List Addr).map V.ref)) := upd_same
    generalize upd H R (.lst []) = H1 at s1 r1 ⊢
    refine ⟨_, rfl, (n : Int), rfl, by omega, by omega, ?_⟩
    refine for_range (n := n) (fun a σ H' => ∃ (rs : List Addr) (x3 x4 x5 : Option V), σ = [some v, some (.int (n : Int)), some (.ref R), x3, x4, x5] ∧ Same H H' ∧ H' R = some (.lst (rs.map V.ref)) ∧ rs.length = a ∧ ∀ (j : Nat) (r : Addr), rs[j]? = some r → r ≠ R ∧ H' r = some (.lst (rowV n g j)))
      ⟨[], none, none, none, rfl, s1, r1, rfl, fun j r e => by simp at e⟩ ?_ ?_
    · rintro a σ H2 ha ⟨rs, x3, x4, x5, rfl, s2, r2, hl, hrs⟩
      rw [Int.zero_add]
      refine ⟨Nat.zero_le _, fun W hW => ?_⟩
      have nRW : R ≠ W := ne_of_none r2 hW
      have w3 : (upd H2 W (.lst [])) W = some (.lst ((List.range 0).map fun b => V.int ((g a b : Nat) : Int))) := upd_same
      have s3 := Same.new (o := .lst []) hW
      generalize upd H2 W (.lst []) = H3 at w3 s3 ⊢
      refine ⟨_, rfl, (n : Int), rfl, by omega, by omega, ?_⟩
      refine for_range (n := n) (fun b σ H' => ∃ x5 : Option V, σ = [some v, some (.int (n : Int)), some (.ref R), some (.int (a : Int)), some (.ref W), x5] ∧ Same H2 H' ∧ H' W = some (.lst ((List.range b).map fun b => V.int ((g a b : Nat) : Int))))
        ⟨x5, rfl, s3, w3⟩ ?_ ?_
      · rintro b σ H4 hb ⟨y5, rfl, s4, w4⟩
        rw [Int.zero_add]
        have hz : (((List.range b).map fun b => V.int ((g a b : Nat) : Int)) : List V).length < sizeLine := szlt (by rw [List.length_map, List.length_range]; omega)
        have fin : ∀ (c : Nat) (H5 : Hp), c = g a b → Same H4 H5 → ∃ x5 : Option V, [some v, some (.int (n : Int)), some (.ref R), some (.int (a : Int)), some (.ref W), some (.int (b : Int))] = [some v, some (.int (n : Int)), some (.ref R), some (.int (a : Int)), some (.ref W), x5] ∧ Same H2 (upd H5 W (.lst (((List.range b).map fun b => V.int ((g a b : Nat) : Int)) ++ [.int (c : Int)]))) ∧ (upd H5 W (.lst (((List.range b).map fun b => V.int ((g a b : Nat) : Int)) ++ [.int (c : Int)]))) W = some (.lst ((List.range (b + 1)).map fun b => V.int ((g a b : Nat) : Int))) := fun c H5 hc s5 => by
          subst hc
          refine ⟨_, rfl, Same.put (Same.trans s4 s5) hW, ?_⟩
          rw [upd_same, map_succ]
        refine ⟨_, rfl, _, rfl, rfl, _, rfl, ?_⟩
        by_cases e : a = b
        · refine ite_yes (dec_int_eq (by omega)) ?_
          refine ⟨_, rfl, .inl ⟨rfl, _, SqL.of w4⟩, _, rfl, W, _, _, rfl, rfl, w4, hz, ?_⟩
          exact fin a H4 (by rw [← e, St.idem a ha]) (Same.refl _)
        · refine ite_no (dec_int_ne (by omega)) ?_
          refine ⟨_, rfl, .inl ⟨rfl, _, SqL.of w4⟩, ?_⟩
          refine ⟨_, rfl, _, rfl, _, rfl, v, t, (a : Int), (b : Int), ((g a b : Nat) : Int), rfl, (hT.keep (Same.tups s2)).keep (Same.tups s4), S.dep, S.ok, S.lthird a b ha hb e, fun H5 s5 => ?_⟩
          exact ⟨W, _, _, rfl, rfl, s5 _ _ w4, hz, fin _ H5 rfl s5⟩
      · rintro σ H4 ⟨y5, rfl, s4, w4⟩
        have r4 := s4 _ _ r2
        refine ⟨_, rfl, .inl ⟨rfl, _, SqL.of r4⟩, _, rfl, R, _, _, rfl, rfl, r4, szlt (by rw [List.length_map]; omega), ?_⟩
        refine ⟨rs ++ [W], _, _, _, rfl, Same.put (Same.trans s2 s4) hR0, by rw [upd_same, List.map_append]; rfl, by rw [List.length_append, hl]; rfl, fun j r e => ?_⟩
        by_cases hj : j < rs.length
        · rw [List.getElem?_append_left hj] at e
          obtain ⟨q0, q1⟩ := hrs j r e
          exact ⟨q0, by rw [upd_ne q0]; exact s4 _ _ q1⟩
        · have hj2 : j = a := by
            have := (List.getElem?_eq_some_iff.mp e).1
            rw [List.length_append] at this
            simp only [List.length_singleton] at this
            omega
          subst hj2
          rw [List.getElem?_append_right (by omega), hl, Nat.sub_self] at e
          cases e
          exact ⟨Ne.symm nRW, by rw [upd_ne (Ne.symm nRW)]; exact w4⟩
    · rintro σ H2 ⟨rs, x3, x4, x5, rfl, s2, r2, hl, hrs⟩
      exact ⟨_, rfl, k _ H2 s2 ⟨R, rs, rfl, r2, hl, fun a r e => (hrs a r e).2⟩⟩
end
end PK
end

section
namespace PK
open PySem PySem.Spec PyProof.Rows L2
theorem ixN_of {n j : Nat} (h : j < n) : ixN n (j : Int) = some j := by
  have a : (0 : Int) ≤ (j : Int) := by omega
  have b : (j : Int) < (n : Int) := by omega
  simp [ixN, a, b]
section
variable {P : Program} {w : World} {K : PySem.W.Frag} {mg : Str → Option Value} {base : Heap}
theorem sc_law_mixed : FnScope ["_law_tree", "_law_numbers_here", "_law_at", "_law_rows", "_law_count_here", "_law_names", "_law_k", "_law_j", "_law_threes_here", "_law_a", "_law_b"] ["_law_tree", "_law_numbers_here", "_law_at"] (defScope s_law_mixed) := ⟨rfl, rfl, rfl, by decide +kernel, rfl, by decide +kernel, by decide +kernel⟩
def spMixed : Sp := fun vs H Q _ => ∃ v t n f a, ∃ (ns : List Int) (z : Nat), vs = [v, .ref a, .int (z : Int)] ∧ TrAt H t v ∧ Sys t n f ∧ Sts n f ∧ 1 ≤ n ∧ n ≤ 31 ∧ H a = some (.lst (ns.map V.int)) ∧ ns.length = 80 ∧ (∀ x ∈ ns, 0 ≤ x ∧ x < 1009) ∧ z + n ≤ 80 ∧
  ∀ p π H', Same H H' → (∀ a, a < n → π a < n) → (∀ a b, a < n → b < n → π a = π b → a = b) → TrAt H' (.listed n (mixT n f π)) (.ref p) → Q (.ref p) H'
theorem fc_law_mixed (T : Txt w K mg) : Fc P w K mg base 6 "_law_mixed" ["_law_tree", "_law_numbers_here", "_law_at"] spMixed := by
  have F_law_table := fc_law_table (P := P) (base := base) T
  refine mk_fc T.d_law_mixed sc_law_mixed (fun _ _ _ _ _ _ us hl => match us, hl with | [_, _, _], _ => rfl) (fun vs H Q E h => ?_) (fun f cdv A outer s H vs Q E hr h => ?_)
  · obtain ⟨v, t, n, f, a, ns, z, rfl, _⟩ := h
    rfl
  · obtain ⟨v, t, n, g, a, ns, z, rfl, hT, S, St, hn1, hn, ha, h80, hns, hzn, k⟩ := h
    refine ⟨_, (pss_cons (ps_set (i := 3) sc_law_mixed.nd rfl (Or.inl rfl) (pe_fc F_law_table hr rfl (pa_cons (pv 0) pa_nil)))
      (pss_cons (ps_set (i := 4) sc_law_mixed.nd rfl (Or.inl rfl) (pe_callB call_len_seq (by rfl) T.n_len (by decide +kernel) (pa_cons (pv 3) pa_nil)))
      (pss_cons (ps_set (i := 5) sc_law_mixed.nd rfl (Or.inl rfl) (pe_listRg (by rfl) (by rfl) T.n_list (prg_1 (by rfl) T.n_range (pv 4))))
      (pss_cons (ps_for PassesOwn.never rfl (pi_range3 (by rfl) T.n_range (pa_cons (pe_op op_sub (pv 4) pe_int) (pa_cons pe_int (pa_cons (pe_un un_neg pe_int) pa_nil)))) (pg_name (i := 6) sc_law_mixed.nd rfl (Or.inl rfl))
      (pss_cons (ps_set (i := 7) sc_law_mixed.nd rfl (Or.inl rfl) (pe_op op_mod (pe_callTy call_int1 (by rfl) T.n_int (by decide +kernel) (pa_cons (pe_ix ix_list (pv 1) (pe_op op_add (pv 2) (pv 6)) (fun _ _ => rfl)) pa_nil)) (pe_op op_add (pv 6) pe_int)))
        (pss_one (ps_asg (pe_tup (pa_cons (pe_ix ix_list (pv 5) (pv 7) (fun _ _ => rfl)) (pa_cons (pe_ix ix_list (pv 5) (pv 6) (fun _ _ => rfl)) pa_nil))) (pg_tup rfl (pgs_cons (pg_sub (pv 5) (pv 6) set_list) (pgs_cons (pg_sub (pv 5) (pv 7) set_list) pgs_nil)))))))
      (pss_cons (ps_set (i := 8) sc_law_mixed.nd rfl (Or.inl rfl) (pe_lst pa_nil))
      (pss_cons (ps_for PassesOwn.never rfl (pi_range1 (by rfl) T.n_range (pa_cons (pv 4) pa_nil)) (pg_name (i := 9) sc_law_mixed.nd rfl (Or.inl rfl))
      (pss_one (ps_for PassesOwn.never rfl (pi_range1 (by rfl) T.n_range (pa_cons (pv 9) pa_nil)) (pg_name (i := 10) sc_law_mixed.nd rfl (Or.inl rfl))
        (pss_one (ps_if (pt_cmpR op_lt (pe_ix ix_list (pe_ix ix_list (pv 3) (pv 9) (fun _ _ => rfl)) (pv 10) (fun _ _ => rfl)) (pv 10) (nomark _)) (pss_one (ps_expr (pe_bm PySem.F.plainAttrs_list PySem.F.slot_list_append PySem.F.type_list_append mt_append (pv 8) (pa_cons (pe_tup (pa_cons (pe_ix ix_list (pv 5) (pv 9) (fun _ _ => rfl)) (pa_cons (pe_ix ix_list (pv 5) (pv 10) (fun _ _ => rfl)) (pa_cons (pe_ix ix_list (pv 5) (pe_ix ix_list (pe_ix ix_list (pv 3) (pv 9) (fun _ _ => rfl)) (pv 10) (fun _ _ => rfl)) (fun _ _ => rfl)) pa_nil)))) pa_nil)))) pss_nil)))))
      (pss_one (ps_ret (pe_tup (pa_cons pe_str (pa_cons (pv 4) (pa_cons (pe_callTy call_tuple_of (by rfl) T.n_tuple (by decide +kernel) (pa_cons (pv 8) pa_nil)) pa_nil)))))))))))), ?_⟩
    refine st_is (σ := [some _, some _, some _, none, none, none, none, none, none, none, none]) rfl ?_
    refine ⟨_, rfl, v, t, n, g, rfl, hT, S, St, by omega, fun u H1 s1 hu => ?_⟩
    obtain ⟨vp, vxs, hv, hvl, hvn⟩ := hu.list (K := K)
    refine ⟨_, rfl, vp, _, by rw [hv], .inl hvl, ?_⟩
    rw [hvn]
    refine ⟨_, rfl, n, rfl, RgOk.of_le (Int.le_refl _) (by omega) (by omega) (by omega), fun N hN => ?_⟩
    rw [rgV_nat]
    have hN0 : H1 N = none := hN
    have s2 := Same.new (o := .lst (intsN (List.range n))) hN
    have n2 : (upd H1 N (.lst (intsN (List.range n)))) N = some (.lst (intsN (List.range n))) := upd_same
    generalize upd H1 N (.lst (intsN (List.range n))) = H2 at s2 n2 ⊢
    refine ⟨_, rfl, _, _, rfl, rfl, ?_⟩
    refine ⟨_, rfl, (n : Int) - 1, 0, -1, ((n : Int) - 1 - 0).toNat, rfl, RgC.neg (by omega) (by omega) (by omega) (by omega), ?_⟩
    have em : ((n : Int) - 1 - 0).toNat = n - 1 := by omega
    rw [em]
    have ha2 := s2 _ _ (s1 _ _ ha)
    refine for_rangeC (n := n - 1) (fun i σ H' => ∃ (l : List Nat) (x6 x7 : Option V), σ = [some v, some (.ref a), some (.int (z : Int)), some u, some (.int (n : Int)), some (.ref N), x6, x7, none, none, none] ∧ Same H1 H' ∧ H' N = some (.lst (intsN l)) ∧ l.Perm (List.range n))
      ⟨List.range n, none, none, rfl, s2, n2, .refl _⟩ ?_ ?_
    · rintro i σ H3 hi ⟨l, x6, x7, rfl, s3, n3, hp⟩
      have eK : (n : Int) - 1 + ((i : Nat) : Int) * (-1) = ((n - 1 - i : Nat) : Int) := by omega
      rw [eK]
      have hKn : n - 1 - i < n := by omega
      generalize n - 1 - i = kk at *
      have hll : l.length = n := by rw [hp.length_eq, List.length_range]
      have hx : ns[z + kk]? = some (ns[z + kk]'(by omega)) := List.getElem?_eq_getElem (by omega)
      have hxm := hns _ (List.mem_of_getElem? hx)
      have hat : atI (ns.map V.int) ((z : Int) + (kk : Int)) = some (.int (ns[z + kk]'(by omega))) := by
        have e : (z : Int) + (kk : Int) = ((z + kk : Nat) : Int) := by omega
        rw [e]
        exact atI_nat (by rw [List.getElem?_map, hx]; rfl)
      generalize (ns[z + kk]'(by omega)) = x at *
      refine ⟨_, rfl, _, rfl, _, rfl, _, _, rfl, rfl, _, _, _, _, rfl, rfl, SqL.of (s3 _ _ (s1 _ _ ha)), hat, .inl ⟨_, rfl, _, rfl, _, _, rfl, rfl, _, _, rfl, rfl, (by show (0 : Int) < (kk : Int) + 1; omega), ?_⟩⟩
      obtain ⟨J, hJ, hJk⟩ : ∃ J : Nat, x % ((kk : Int) + 1) = (J : Int) ∧ J ≤ kk := by
        have h1 := Int.emod_nonneg x (show (kk : Int) + 1 ≠ 0 by omega)
        have h2 := Int.emod_lt_of_pos x (show 0 < (kk : Int) + 1 by omega)
        exact ⟨(x % ((kk : Int) + 1)).toNat, by omega, by omega⟩
      refine gName_tr (congrArg V.int hJ.symm) ?_
      have hJl : J < l.length := by omega
      have hKl : kk < l.length := by omega
      have aJ : atI (intsN l) (J : Int) = some (.int ((l[J] : Nat) : Int)) := atI_nat (by unfold intsN; rw [List.getElem?_map, List.getElem?_eq_getElem hJl]; rfl)
      have aK : atI (intsN l) (kk : Int) = some (.int ((l[kk] : Nat) : Int)) := atI_nat (by unfold intsN; rw [List.getElem?_map, List.getElem?_eq_getElem hKl]; rfl)
      refine ⟨_, rfl, _, rfl, _, _, _, _, rfl, rfl, SqL.of n3, aJ, _, rfl, _, rfl, _, _, _, _, rfl, rfl, SqL.of n3, aK, (by show 2 ≤ sizeLine; decide), fun p hpn => ?_⟩
      have s4 := Same.trans s3 (Same.new (o := .tup [.int ((l[J] : Nat) : Int), .int ((l[kk] : Nat) : Int)]) hpn)
      have n4 := Same.new (o := .tup [.int ((l[J] : Nat) : Int), .int ((l[kk] : Nat) : Int)]) hpn _ _ n3
      have p4 : (upd H3 p (.tup [.int ((l[J] : Nat) : Int), .int ((l[kk] : Nat) : Int)])) p = some (.tup [.int ((l[J] : Nat) : Int), .int ((l[kk] : Nat) : Int)]) := upd_same
      generalize upd H3 p (.tup [.int ((l[J] : Nat) : Int), .int ((l[kk] : Nat) : Int)]) = H4 at s4 n4 p4 ⊢
      have c1 : (intsN l).set kk (.int ((l[J] : Nat) : Int)) = intsN (l.set kk l[J]) := by unfold intsN; simp only [List.map_set]
      have c2 : (intsN (l.set kk l[J])).set J (.int ((l[kk] : Nat) : Int)) = intsN ((l.set kk l[J]).set J l[kk]) := by unfold intsN; simp only [List.map_set]
      refine ⟨p, _, rfl, SqT.of p4, rfl, _, _, rfl, _, rfl, _, rfl, N, _, _, kk, rfl, rfl, n4, ixN_of (by rw [intsN_len]; omega), ?_⟩
      rw [c1]
      refine ⟨_, _, rfl, _, rfl, _, rfl, N, _, _, J, rfl, rfl, upd_same, ixN_of (by rw [intsN_len, List.length_set]; omega), ?_⟩
      rw [c2]
      exact ⟨rfl, _, _, _, rfl, Same.put (Same.put s4 hN0) hN0, upd_same, (List.set_set_perm hKl hJl).trans hp⟩
    · rintro σ H3 ⟨l, x6, x7, rfl, s3, n3, hp⟩
      have hll : l.length = n := by rw [hp.length_eq, List.length_range]
      obtain ⟨π, hπ⟩ : ∃ π : Nat → Nat, π = fun a => (l[a]?).getD 0 := ⟨_, rfl⟩
      have hget : ∀ a, a < n → l[a]? = some (π a) := fun a h => by
        rw [hπ]
        show l[a]? = some ((l[a]?).getD 0)
        rw [List.getElem?_eq_getElem (by omega)]
        rfl
      have hlt : ∀ a, a < n → π a < n := fun a h => List.mem_range.mp (hp.mem_iff.mp (List.mem_of_getElem? (hget a h)))
      have hinj : ∀ a b, a < n → b < n → π a = π b → a = b := fun a b h1 h2 e => by
        have nd : l.Nodup := hp.nodup_iff.mpr List.nodup_range
        exact (List.getElem?_inj (by omega) nd).mp ((hget a h1).trans ((congrArg some e).trans (hget b h2).symm))
      have aN : ∀ a, a < n → atI (intsN l) (a : Int) = some (.int ((π a : Nat) : Int)) := fun a h => atI_nat (by unfold intsN; rw [List.getElem?_map, hget a h]; rfl)
      -- threes
      refine ⟨Nat.zero_le _, fun L hL => ?_⟩
      have hL0 : H1 L = none := s3.free hL
      have s4 := Same.trans s3 (Same.new (o := .lst []) hL)
      have n4 := Same.new (o := .lst []) hL _ _ n3
      have l4 : TriL (upd H3 L (.lst [])) L [] := ⟨[], upd_same, rfl, fun k r t e => by simp at e⟩
      have nNL : N ≠ L := ne_of_none n3 hL
      generalize upd H3 L (.lst []) = H4 at s4 n4 l4 ⊢
      refine ⟨_, rfl, (n : Int), rfl, by omega, by omega, ?_⟩
      refine for_range (n := n) (fun a' σ H' => ∃ (ts : List Tri) (x9 x10 : Option V), σ = [some v, some (.ref a), some (.int (z : Int)), some u, some (.int (n : Int)), some (.ref N), x6, x7, some (.ref L), x9, x10] ∧ Same H1 H' ∧ H' N = some (.lst (intsN l)) ∧ TriL H' L ts ∧ ts.length ≤ a' * 64 ∧
          ts = (List.range a').flatMap fun a => ((List.range a).filter fun b => decide (g a b < b)).map fun b => (π a, π b, π (g a b)))
        ⟨[], none, none, rfl, s4, n4, l4, Nat.zero_le _, rfl⟩ ?_ ?_
      · rintro a' σ H5 ha' ⟨ts, x9, x10, rfl, s5, n5, l5, hl5, ht5⟩
        rw [Int.zero_add]
        rw [flat_succ, ← ht5]
        refine ⟨_, rfl, (a' : Int), rfl, by omega, by omega, ?_⟩
        refine for_range (n := a') (fun b σ H' => ∃ (us : List Tri) (x10 : Option V), σ = [some v, some (.ref a), some (.int (z : Int)), some u, some (.int (n : Int)), some (.ref N), x6, x7, some (.ref L), some (.int (a' : Int)), x10] ∧ Same H1 H' ∧ H' N = some (.lst (intsN l)) ∧ TriL H' L us ∧ us.length ≤ a' * 64 + b ∧
            us = ts ++ ((List.range b).filter fun b => decide (g a' b < b)).map fun b => (π a', π b, π (g a' b)))
          ⟨ts, x10, rfl, s5, n5, l5, hl5, by simp⟩ ?_ ?_
        · rintro b σ H6 hb ⟨us, y10, rfl, s6, n6, l6, hl6, hu6⟩
          rw [Int.zero_add]
          have hbn : b < n := Nat.lt_trans hb ha'
          have hg := St.lt a' b ha' hbn
          have fl : ((List.range (b + 1)).filter fun b => decide (g a' b < b)).map (fun b => (π a', π b, π (g a' b))) = (((List.range b).filter fun b => decide (g a' b < b)).map fun b => (π a', π b, π (g a' b))) ++ if g a' b < b then [(π a', π b, π (g a' b))] else [] := by
            rw [List.range_succ, List.filter_append, List.map_append]
            by_cases h : g a' b < b <;> simp [h]
          rw [fl, ← List.append_assoc, ← hu6]
          have hu' := hu.same s6
          refine ⟨_, rfl, _, rfl, hu'.get ha' hbn (fun q hq => ⟨_, rfl, hq⟩) ?_⟩
          refine ⟨_, rfl, _, _, rfl, rfl, _, rfl, ?_⟩
          by_cases hlt2 : g a' b < b
          · refine ite_yes (decide_eq_true (by omega)) ?_
            rw [if_pos hlt2]
            obtain ⟨rs, r1, r2, r3⟩ := l6
            refine ⟨_, rfl, .inl ⟨rfl, _, SqL.of r1⟩, ?_⟩
            refine ⟨_, rfl, _, rfl, _, _, _, _, rfl, rfl, SqL.of n6, aN a' ha', ?_⟩
            refine ⟨_, rfl, _, rfl, _, _, _, _, rfl, rfl, SqL.of n6, aN b hbn, ?_⟩
            refine ⟨_, rfl, _, rfl, _, rfl, hu'.get ha' hbn (fun q hq => ⟨_, rfl, hq⟩) ⟨_, _, _, _, rfl, rfl, SqL.of n6, aN _ hg, ?_⟩⟩
            refine ⟨(by show 3 ≤ sizeLine; decide), fun p hpn => ?_⟩
            have nLp : L ≠ p := ne_of_none r1 hpn
            refine ⟨L, _, _, rfl, rfl, by rw [upd_ne nLp]; exact r1, szlt (by rw [List.length_map, r2]; omega), ?_⟩
            refine ⟨us ++ [(π a', π b, π (g a' b))], _, rfl, Same.put (Same.trans s6 (Same.new hpn)) hL0, by rw [upd_ne nNL]; exact Same.new hpn _ _ n6, TriL.push (t := (π a', π b, π (g a' b))) r1 r2 r3 hpn rfl, by rw [List.length_append, List.length_singleton]; omega, rfl⟩
          · refine ite_no (decide_eq_false (by omega)) ?_
            rw [if_neg hlt2, List.append_nil]
            exact ⟨us, _, rfl, s6, n6, l6, by omega, rfl⟩
        · rintro σ H6 ⟨us, y10, rfl, s6, n6, l6, hl6, hu6⟩
          exact ⟨us, _, _, rfl, s6, n6, l6, by omega, hu6⟩
      · rintro σ H5 ⟨ts, x9, x10, rfl, s5, n5, l5, hl5, ht5⟩
        change ts = mixT n g π at ht5
        subst ht5
        obtain ⟨rs, r1, r2, r3⟩ := l5
        refine ⟨_, rfl, _, rfl, L, _, rfl, .inl ⟨SqL.of r1, fun q hq => ?_⟩⟩
        have sq := Same.new (o := .tup (rs.map V.ref)) hq
        have q6 : (upd H5 q (.tup (rs.map V.ref))) q = some (.tup (rs.map V.ref)) := upd_same
        refine ⟨(by show 3 ≤ sizeLine; decide), fun p hpn => ?_⟩
        have sp := Same.new (o := .tup [.str "listed", .int (n : Int), .ref q]) hpn
        refine k p π _ (Same.trans s1 (Same.trans s5 (Same.trans sq sp))) hlt hinj ⟨p, q, rfl, upd_same, rs, sp _ _ q6, r2, fun i r t e1 e2 => sp _ _ (sq _ _ (r3 i r t e1 e2))⟩
end
end PK
end

section
namespace PK
open PySem PySem.Spec PyProof.Rows L2
section
variable {P : Program} {w : World} {K : PySem.W.Frag} {mg : Str → Option Value} {base : Heap}
theorem sc_law_system : FnScope ["_law_numbers_here", "_law_at", "_law_trees", "_law_tree"] ["_law_numbers_here", "_law_at"] (defScope s_law_system) := ⟨rfl, rfl, rfl, by decide +kernel, rfl, by decide +kernel, by decide +kernel⟩
def spSystem : Sp := fun vs H Q _ => ∃ (a : Addr) (ns : List Int), vs = [.ref a, .int 0] ∧ H a = some (.lst (ns.map V.int)) ∧ ns.length = 80 ∧ (∀ x ∈ ns, 0 ≤ x ∧ x < 1009) ∧
  ∀ v t n f H', Same H H' → TrAt H' t v → Sys t n f → Sts n f → 3 ≤ n → n ≤ 15 → Q v H'
theorem fc_law_system (T : Txt w K mg) : Fc P w K mg base 7 "_law_system" ["_law_numbers_here", "_law_at"] spSystem := by
  have F_law_mixed := fc_law_mixed (P := P) (base := base) T
  refine mk_fc T.d_law_system sc_law_system (fun _ _ _ _ _ _ us hl => match us, hl with | [_, _], _ => rfl) (fun vs H Q E h => ?_) (fun f cdv A outer s H vs Q E hr h => ?_)
  · obtain ⟨a, ns, rfl, _⟩ := h
    rfl
  · obtain ⟨a, ns, rfl, ha, h80, hns, k⟩ := h
    refine ⟨_, (pss_cons (ps_set (i := 2) sc_law_system.nd rfl (Or.inl rfl) (pe_lst (pa_cons (pe_tup (pa_cons pe_str (pa_cons pe_int pa_nil))) (pa_cons (pe_tup (pa_cons pe_str (pa_cons pe_int pa_nil))) (pa_cons (pe_tup (pa_cons pe_str (pa_cons pe_int pa_nil))) (pa_cons (pe_tup (pa_cons pe_str (pa_cons pe_int pa_nil))) (pa_cons (pe_tup (pa_cons pe_str (pa_cons pe_int pa_nil))) (pa_cons (pe_tup (pa_cons pe_str (pa_cons pe_int pa_nil))) (pa_cons (pe_tup (pa_cons pe_str (pa_cons (pe_tup (pa_cons pe_str (pa_cons pe_int pa_nil))) pa_nil))) pa_nil)))))))))
      (pss_cons (ps_set (i := 2) sc_law_system.nd rfl (Or.inl rfl) (pe_op op_cat (pv 2) (pe_lst (pa_cons (pe_tup (pa_cons pe_str (pa_cons (pe_tup (pa_cons pe_str (pa_cons pe_int pa_nil))) pa_nil))) (pa_cons (pe_tup (pa_cons pe_str (pa_cons (pe_tup (pa_cons pe_str (pa_cons pe_int pa_nil))) (pa_cons (pe_tup (pa_cons pe_str (pa_cons pe_int pa_nil))) pa_nil)))) (pa_cons (pe_tup (pa_cons pe_str (pa_cons pe_int pa_nil))) (pa_cons (pe_tup (pa_cons pe_str (pa_cons pe_int pa_nil))) (pa_cons (pe_tup (pa_cons pe_str (pa_cons pe_int pa_nil))) pa_nil))))))))
      (pss_cons (ps_set (i := 3) sc_law_system.nd rfl (Or.inl rfl) (pe_ix ix_list (pv 2) (pe_op op_mod (pe_callTy call_int1 (by rfl) T.n_int (by decide +kernel) (pa_cons (pe_ix ix_list (pv 0) (pv 1) (fun _ _ => rfl)) pa_nil)) pe_int) (fun _ _ => rfl)))
      (pss_cons (ps_if (pt_cmpR op_eq (pe_op op_mod (pe_callTy call_int1 (by rfl) T.n_int (by decide +kernel) (pa_cons (pe_ix ix_list (pv 0) (pe_op op_add (pv 1) pe_int) (fun _ _ => rfl)) pa_nil)) pe_int) pe_int (nomark _)) (pss_one (ps_ret (pv 3))) pss_nil)
      (pss_one (ps_ret (pe_fc F_law_mixed hr rfl (pa_cons (pv 3) (pa_cons (pv 0) (pa_cons (pe_op op_add (pv 1) pe_int) pa_nil)))))))))), ?_⟩
    refine st_is (σ := [some _, some _, none, none]) rfl ?_
    have sm := Same.refl H
    refine ⟨(by show 2 ≤ sizeLine; decide), fun p1 h1 => ?_⟩
    have w1 := Same.new (o := .tup [.str "bose", .int 9]) h1
    have t1 : TrAt (upd H p1 (.tup [.str "bose", .int 9])) (.bose 9) (.ref p1) := ⟨_, rfl, upd_same⟩
    have sm := Same.trans sm w1
    generalize upd H p1 (.tup [.str "bose", .int 9]) = G1 at sm t1  ⊢
    refine ⟨(by show 2 ≤ sizeLine; decide), fun p2 h2 => ?_⟩
    have w2 := Same.new (o := .tup [.str "skolem", .int 7]) h2
    have t1 := t1.keep (Same.tups w2)
    have t2 : TrAt (upd G1 p2 (.tup [.str "skolem", .int 7])) (.skolem 7) (.ref p2) := ⟨_, rfl, upd_same⟩
    have sm := Same.trans sm w2
    generalize upd G1 p2 (.tup [.str "skolem", .int 7]) = G2 at sm t1 t2  ⊢
    refine ⟨(by show 2 ≤ sizeLine; decide), fun p3 h3 => ?_⟩
    have w3 := Same.new (o := .tup [.str "skolem", .int 13]) h3
    have t1 := t1.keep (Same.tups w3)
    have t2 := t2.keep (Same.tups w3)
    have t3 : TrAt (upd G2 p3 (.tup [.str "skolem", .int 13])) (.skolem 13) (.ref p3) := ⟨_, rfl, upd_same⟩
    have sm := Same.trans sm w3
    generalize upd G2 p3 (.tup [.str "skolem", .int 13]) = G3 at sm t1 t2 t3  ⊢
    refine ⟨(by show 2 ≤ sizeLine; decide), fun p4 h4 => ?_⟩
    have w4 := Same.new (o := .tup [.str "affine", .int 2]) h4
    have t1 := t1.keep (Same.tups w4)
    have t2 := t2.keep (Same.tups w4)
    have t3 := t3.keep (Same.tups w4)
    have t4 : TrAt (upd G3 p4 (.tup [.str "affine", .int 2])) (.affine 2) (.ref p4) := ⟨_, rfl, upd_same⟩
    have sm := Same.trans sm w4
    generalize upd G3 p4 (.tup [.str "affine", .int 2]) = G4 at sm t1 t2 t3 t4  ⊢
    refine ⟨(by show 2 ≤ sizeLine; decide), fun p5 h5 => ?_⟩
    have w5 := Same.new (o := .tup [.str "binary", .int 3]) h5
    have t1 := t1.keep (Same.tups w5)
    have t2 := t2.keep (Same.tups w5)
    have t3 := t3.keep (Same.tups w5)
    have t4 := t4.keep (Same.tups w5)
    have t5 : TrAt (upd G4 p5 (.tup [.str "binary", .int 3])) (.binary 3) (.ref p5) := ⟨_, rfl, upd_same⟩
    have sm := Same.trans sm w5
    generalize upd G4 p5 (.tup [.str "binary", .int 3]) = G5 at sm t1 t2 t3 t4 t5  ⊢
    refine ⟨(by show 2 ≤ sizeLine; decide), fun p6 h6 => ?_⟩
    have w6 := Same.new (o := .tup [.str "bose", .int 15]) h6
    have t1 := t1.keep (Same.tups w6)
    have t2 := t2.keep (Same.tups w6)
    have t3 := t3.keep (Same.tups w6)
    have t4 := t4.keep (Same.tups w6)
    have t5 := t5.keep (Same.tups w6)
    have t6 : TrAt (upd G5 p6 (.tup [.str "bose", .int 15])) (.bose 15) (.ref p6) := ⟨_, rfl, upd_same⟩
    have sm := Same.trans sm w6
    generalize upd G5 p6 (.tup [.str "bose", .int 15]) = G6 at sm t1 t2 t3 t4 t5 t6  ⊢
    refine ⟨(by show 2 ≤ sizeLine; decide), fun p7 h7 => ?_⟩
    have w7 := Same.new (o := .tup [.str "skolem", .int 7]) h7
    have t1 := t1.keep (Same.tups w7)
    have t2 := t2.keep (Same.tups w7)
    have t3 := t3.keep (Same.tups w7)
    have t4 := t4.keep (Same.tups w7)
    have t5 := t5.keep (Same.tups w7)
    have t6 := t6.keep (Same.tups w7)
    have t7 : TrAt (upd G6 p7 (.tup [.str "skolem", .int 7])) (.skolem 7) (.ref p7) := ⟨_, rfl, upd_same⟩
    have sm := Same.trans sm w7
    generalize upd G6 p7 (.tup [.str "skolem", .int 7]) = G7 at sm t1 t2 t3 t4 t5 t6 t7  ⊢
    refine ⟨(by show 2 ≤ sizeLine; decide), fun p8 h8 => ?_⟩
    have w8 := Same.new (o := .tup [.str "double", .ref p7]) h8
    have t1 := t1.keep (Same.tups w8)
    have t2 := t2.keep (Same.tups w8)
    have t3 := t3.keep (Same.tups w8)
    have t4 := t4.keep (Same.tups w8)
    have t5 := t5.keep (Same.tups w8)
    have t6 := t6.keep (Same.tups w8)
    have t7 := t7.keep (Same.tups w8)
    have t8 : TrAt (upd G7 p8 (.tup [.str "double", .ref p7])) (.double (.skolem 7)) (.ref p8) := ⟨_, _, rfl, upd_same, t7⟩
    have sm := Same.trans sm w8
    generalize upd G7 p8 (.tup [.str "double", .ref p7]) = G8 at sm t1 t2 t3 t4 t5 t6 t7 t8  ⊢
    refine ⟨(by show 7 ≤ sizeLine; decide), fun L1 hL1 => ?_⟩
    have w9 := Same.new (o := .lst [.ref p1, .ref p2, .ref p3, .ref p4, .ref p5, .ref p6, .ref p8]) hL1
    have t1 := t1.keep (Same.tups w9)
    have t2 := t2.keep (Same.tups w9)
    have t3 := t3.keep (Same.tups w9)
    have t4 := t4.keep (Same.tups w9)
    have t5 := t5.keep (Same.tups w9)
    have t6 := t6.keep (Same.tups w9)
    have t7 := t7.keep (Same.tups w9)
    have t8 := t8.keep (Same.tups w9)
    have eL1 : (upd G8 L1 (.lst [.ref p1, .ref p2, .ref p3, .ref p4, .ref p5, .ref p6, .ref p8])) L1 = some (.lst [.ref p1, .ref p2, .ref p3, .ref p4, .ref p5, .ref p6, .ref p8]) := upd_same
    have sm := Same.trans sm w9
    generalize upd G8 L1 (.lst [.ref p1, .ref p2, .ref p3, .ref p4, .ref p5, .ref p6, .ref p8]) = G9 at sm t1 t2 t3 t4 t5 t6 t7 t8 eL1 ⊢
    refine ⟨_, rfl, ?_⟩
    refine ⟨(by show 2 ≤ sizeLine; decide), fun p10 h10 => ?_⟩
    have w10 := Same.new (o := .tup [.str "bose", .int 3]) h10
    have t1 := t1.keep (Same.tups w10)
    have t2 := t2.keep (Same.tups w10)
    have t3 := t3.keep (Same.tups w10)
    have t4 := t4.keep (Same.tups w10)
    have t5 := t5.keep (Same.tups w10)
    have t6 := t6.keep (Same.tups w10)
    have t7 := t7.keep (Same.tups w10)
    have t8 := t8.keep (Same.tups w10)
    have eL1 := w10 _ _ eL1
    have t10 : TrAt (upd G9 p10 (.tup [.str "bose", .int 3])) (.bose 3) (.ref p10) := ⟨_, rfl, upd_same⟩
    have sm := Same.trans sm w10
    generalize upd G9 p10 (.tup [.str "bose", .int 3]) = G10 at sm t1 t2 t3 t4 t5 t6 t7 t8 t10 eL1 ⊢
    refine ⟨(by show 2 ≤ sizeLine; decide), fun p11 h11 => ?_⟩
    have w11 := Same.new (o := .tup [.str "double", .ref p10]) h11
    have t1 := t1.keep (Same.tups w11)
    have t2 := t2.keep (Same.tups w11)
    have t3 := t3.keep (Same.tups w11)
    have t4 := t4.keep (Same.tups w11)
    have t5 := t5.keep (Same.tups w11)
    have t6 := t6.keep (Same.tups w11)
    have t7 := t7.keep (Same.tups w11)
    have t8 := t8.keep (Same.tups w11)
    have t10 := t10.keep (Same.tups w11)
    have eL1 := w11 _ _ eL1
    have t11 : TrAt (upd G10 p11 (.tup [.str "double", .ref p10])) (.double (.bose 3)) (.ref p11) := ⟨_, _, rfl, upd_same, t10⟩
    have sm := Same.trans sm w11
    generalize upd G10 p11 (.tup [.str "double", .ref p10]) = G11 at sm t1 t2 t3 t4 t5 t6 t7 t8 t10 t11 eL1 ⊢
    refine ⟨(by show 2 ≤ sizeLine; decide), fun p12 h12 => ?_⟩
    have w12 := Same.new (o := .tup [.str "affine", .int 1]) h12
    have t1 := t1.keep (Same.tups w12)
    have t2 := t2.keep (Same.tups w12)
    have t3 := t3.keep (Same.tups w12)
    have t4 := t4.keep (Same.tups w12)
    have t5 := t5.keep (Same.tups w12)
    have t6 := t6.keep (Same.tups w12)
    have t7 := t7.keep (Same.tups w12)
    have t8 := t8.keep (Same.tups w12)
    have t10 := t10.keep (Same.tups w12)
    have t11 := t11.keep (Same.tups w12)
    have eL1 := w12 _ _ eL1
    have t12 : TrAt (upd G11 p12 (.tup [.str "affine", .int 1])) (.affine 1) (.ref p12) := ⟨_, rfl, upd_same⟩
    have sm := Same.trans sm w12
    generalize upd G11 p12 (.tup [.str "affine", .int 1]) = G12 at sm t1 t2 t3 t4 t5 t6 t7 t8 t10 t11 t12 eL1 ⊢
    refine ⟨(by show 2 ≤ sizeLine; decide), fun p13 h13 => ?_⟩
    have w13 := Same.new (o := .tup [.str "bose", .int 3]) h13
    have t1 := t1.keep (Same.tups w13)
    have t2 := t2.keep (Same.tups w13)
    have t3 := t3.keep (Same.tups w13)
    have t4 := t4.keep (Same.tups w13)
    have t5 := t5.keep (Same.tups w13)
    have t6 := t6.keep (Same.tups w13)
    have t7 := t7.keep (Same.tups w13)
    have t8 := t8.keep (Same.tups w13)
    have t10 := t10.keep (Same.tups w13)
    have t11 := t11.keep (Same.tups w13)
    have t12 := t12.keep (Same.tups w13)
    have eL1 := w13 _ _ eL1
    have t13 : TrAt (upd G12 p13 (.tup [.str "bose", .int 3])) (.bose 3) (.ref p13) := ⟨_, rfl, upd_same⟩
    have sm := Same.trans sm w13
    generalize upd G12 p13 (.tup [.str "bose", .int 3]) = G13 at sm t1 t2 t3 t4 t5 t6 t7 t8 t10 t11 t12 t13 eL1 ⊢
    refine ⟨(by show 3 ≤ sizeLine; decide), fun p14 h14 => ?_⟩
    have w14 := Same.new (o := .tup [.str "product", .ref p12, .ref p13]) h14
    have t1 := t1.keep (Same.tups w14)
    have t2 := t2.keep (Same.tups w14)
    have t3 := t3.keep (Same.tups w14)
    have t4 := t4.keep (Same.tups w14)
    have t5 := t5.keep (Same.tups w14)
    have t6 := t6.keep (Same.tups w14)
    have t7 := t7.keep (Same.tups w14)
    have t8 := t8.keep (Same.tups w14)
    have t10 := t10.keep (Same.tups w14)
    have t11 := t11.keep (Same.tups w14)
    have t12 := t12.keep (Same.tups w14)
    have t13 := t13.keep (Same.tups w14)
    have eL1 := w14 _ _ eL1
    have t14 : TrAt (upd G13 p14 (.tup [.str "product", .ref p12, .ref p13])) (.product (.affine 1) (.bose 3)) (.ref p14) := ⟨_, _, _, rfl, upd_same, t12, t13⟩
    have sm := Same.trans sm w14
    generalize upd G13 p14 (.tup [.str "product", .ref p12, .ref p13]) = G14 at sm t1 t2 t3 t4 t5 t6 t7 t8 t10 t11 t12 t13 t14 eL1 ⊢
    refine ⟨(by show 2 ≤ sizeLine; decide), fun p15 h15 => ?_⟩
    have w15 := Same.new (o := .tup [.str "affine", .int 1]) h15
    have t1 := t1.keep (Same.tups w15)
    have t2 := t2.keep (Same.tups w15)
    have t3 := t3.keep (Same.tups w15)
    have t4 := t4.keep (Same.tups w15)
    have t5 := t5.keep (Same.tups w15)
    have t6 := t6.keep (Same.tups w15)
    have t7 := t7.keep (Same.tups w15)
    have t8 := t8.keep (Same.tups w15)
    have t10 := t10.keep (Same.tups w15)
    have t11 := t11.keep (Same.tups w15)
    have t12 := t12.keep (Same.tups w15)
    have t13 := t13.keep (Same.tups w15)
    have t14 := t14.keep (Same.tups w15)
    have eL1 := w15 _ _ eL1
    have t15 : TrAt (upd G14 p15 (.tup [.str "affine", .int 1])) (.affine 1) (.ref p15) := ⟨_, rfl, upd_same⟩
    have sm := Same.trans sm w15
    generalize upd G14 p15 (.tup [.str "affine", .int 1]) = G15 at sm t1 t2 t3 t4 t5 t6 t7 t8 t10 t11 t12 t13 t14 t15 eL1 ⊢
    refine ⟨(by show 2 ≤ sizeLine; decide), fun p16 h16 => ?_⟩
    have w16 := Same.new (o := .tup [.str "binary", .int 2]) h16
    have t1 := t1.keep (Same.tups w16)
    have t2 := t2.keep (Same.tups w16)
    have t3 := t3.keep (Same.tups w16)
    have t4 := t4.keep (Same.tups w16)
    have t5 := t5.keep (Same.tups w16)
    have t6 := t6.keep (Same.tups w16)
    have t7 := t7.keep (Same.tups w16)
    have t8 := t8.keep (Same.tups w16)
    have t10 := t10.keep (Same.tups w16)
    have t11 := t11.keep (Same.tups w16)
    have t12 := t12.keep (Same.tups w16)
    have t13 := t13.keep (Same.tups w16)
    have t14 := t14.keep (Same.tups w16)
    have t15 := t15.keep (Same.tups w16)
    have eL1 := w16 _ _ eL1
    have t16 : TrAt (upd G15 p16 (.tup [.str "binary", .int 2])) (.binary 2) (.ref p16) := ⟨_, rfl, upd_same⟩
    have sm := Same.trans sm w16
    generalize upd G15 p16 (.tup [.str "binary", .int 2]) = G16 at sm t1 t2 t3 t4 t5 t6 t7 t8 t10 t11 t12 t13 t14 t15 t16 eL1 ⊢
    refine ⟨(by show 2 ≤ sizeLine; decide), fun p17 h17 => ?_⟩
    have w17 := Same.new (o := .tup [.str "skolem", .int 13]) h17
    have t1 := t1.keep (Same.tups w17)
    have t2 := t2.keep (Same.tups w17)
    have t3 := t3.keep (Same.tups w17)
    have t4 := t4.keep (Same.tups w17)
    have t5 := t5.keep (Same.tups w17)
    have t6 := t6.keep (Same.tups w17)
    have t7 := t7.keep (Same.tups w17)
    have t8 := t8.keep (Same.tups w17)
    have t10 := t10.keep (Same.tups w17)
    have t11 := t11.keep (Same.tups w17)
    have t12 := t12.keep (Same.tups w17)
    have t13 := t13.keep (Same.tups w17)
    have t14 := t14.keep (Same.tups w17)
    have t15 := t15.keep (Same.tups w17)
    have t16 := t16.keep (Same.tups w17)
    have eL1 := w17 _ _ eL1
    have t17 : TrAt (upd G16 p17 (.tup [.str "skolem", .int 13])) (.skolem 13) (.ref p17) := ⟨_, rfl, upd_same⟩
    have sm := Same.trans sm w17
    generalize upd G16 p17 (.tup [.str "skolem", .int 13]) = G17 at sm t1 t2 t3 t4 t5 t6 t7 t8 t10 t11 t12 t13 t14 t15 t16 t17 eL1 ⊢
    refine ⟨(by show 5 ≤ sizeLine; decide), fun L2 hL2 => ?_⟩
    have w18 := Same.new (o := .lst [.ref p11, .ref p14, .ref p15, .ref p16, .ref p17]) hL2
    have t1 := t1.keep (Same.tups w18)
    have t2 := t2.keep (Same.tups w18)
    have t3 := t3.keep (Same.tups w18)
    have t4 := t4.keep (Same.tups w18)
    have t5 := t5.keep (Same.tups w18)
    have t6 := t6.keep (Same.tups w18)
    have t7 := t7.keep (Same.tups w18)
    have t8 := t8.keep (Same.tups w18)
    have t10 := t10.keep (Same.tups w18)
    have t11 := t11.keep (Same.tups w18)
    have t12 := t12.keep (Same.tups w18)
    have t13 := t13.keep (Same.tups w18)
    have t14 := t14.keep (Same.tups w18)
    have t15 := t15.keep (Same.tups w18)
    have t16 := t16.keep (Same.tups w18)
    have t17 := t17.keep (Same.tups w18)
    have eL1 := w18 _ _ eL1
    have eL2 : (upd G17 L2 (.lst [.ref p11, .ref p14, .ref p15, .ref p16, .ref p17])) L2 = some (.lst [.ref p11, .ref p14, .ref p15, .ref p16, .ref p17]) := upd_same
    have sm := Same.trans sm w18
    generalize upd G17 L2 (.lst [.ref p11, .ref p14, .ref p15, .ref p16, .ref p17]) = G18 at sm t1 t2 t3 t4 t5 t6 t7 t8 t10 t11 t12 t13 t14 t15 t16 t17 eL1 eL2 ⊢
    refine ⟨L1, L2, _, _, rfl, rfl, eL1, eL2, (by show 7 + 5 ≤ sizeLine; decide), fun L3 hL3 => ?_⟩
    have w99 := Same.new (o := .lst [.ref p1, .ref p2, .ref p3, .ref p4, .ref p5, .ref p6, .ref p8, .ref p11, .ref p14, .ref p15, .ref p16, .ref p17]) hL3
    have t1 := t1.keep (Same.tups w99)
    have t2 := t2.keep (Same.tups w99)
    have t3 := t3.keep (Same.tups w99)
    have t4 := t4.keep (Same.tups w99)
    have t5 := t5.keep (Same.tups w99)
    have t6 := t6.keep (Same.tups w99)
    have t7 := t7.keep (Same.tups w99)
    have t8 := t8.keep (Same.tups w99)
    have t10 := t10.keep (Same.tups w99)
    have t11 := t11.keep (Same.tups w99)
    have t12 := t12.keep (Same.tups w99)
    have t13 := t13.keep (Same.tups w99)
    have t14 := t14.keep (Same.tups w99)
    have t15 := t15.keep (Same.tups w99)
    have t16 := t16.keep (Same.tups w99)
    have t17 := t17.keep (Same.tups w99)
    have e3 : (upd G18 L3 (.lst [.ref p1, .ref p2, .ref p3, .ref p4, .ref p5, .ref p6, .ref p8, .ref p11, .ref p14, .ref p15, .ref p16, .ref p17])) L3 = some (.lst [.ref p1, .ref p2, .ref p3, .ref p4, .ref p5, .ref p6, .ref p8, .ref p11, .ref p14, .ref p15, .ref p16, .ref p17]) := upd_same
    have sm := Same.trans sm w99
    have g3 : upd G18 L3 (.lst ([.ref p1, .ref p2, .ref p3, .ref p4, .ref p5, .ref p6, .ref p8] ++ [.ref p11, .ref p14, .ref p15, .ref p16, .ref p17])) = upd G18 L3 (.lst [.ref p1, .ref p2, .ref p3, .ref p4, .ref p5, .ref p6, .ref p8, .ref p11, .ref p14, .ref p15, .ref p16, .ref p17]) := rfl
    rw [g3]
    generalize upd G18 L3 (.lst [.ref p1, .ref p2, .ref p3, .ref p4, .ref p5, .ref p6, .ref p8, .ref p11, .ref p14, .ref p15, .ref p16, .ref p17]) = G at sm e3 t1 t2 t3 t4 t5 t6 t7 t8 t10 t11 t12 t13 t14 t15 t16 t17 ⊢
    have ha3 := sm _ _ ha
    have pick : ∀ J : Nat, J < 12 → ∃ (p : Addr) (t : Tree) (n : Nat) (f : Nat → Nat → Nat), ([.ref p1, .ref p2, .ref p3, .ref p4, .ref p5, .ref p6, .ref p8, .ref p11, .ref p14, .ref p15, .ref p16, .ref p17] : List V)[J]? = some (.ref p) ∧ TrAt G t (.ref p) ∧ Sys t n f ∧ Sts n f ∧ 3 ≤ n ∧ n ≤ 15 := fun J hJ => match J, hJ with
      | 0, _ => ⟨p1, _, _, _, rfl, t1, sys_bose9, sts_bose9, by decide, by decide⟩
      | 1, _ => ⟨p2, _, _, _, rfl, t2, sys_sk7, sts_sk7, by decide, by decide⟩
      | 2, _ => ⟨p3, _, _, _, rfl, t3, sys_sk13, sts_sk13, by decide, by decide⟩
      | 3, _ => ⟨p4, _, _, _, rfl, t4, sys_aff2, sts_aff2, by decide, by decide⟩
      | 4, _ => ⟨p5, _, _, _, rfl, t5, sys_bin3, sts_bin3, by decide, by decide⟩
      | 5, _ => ⟨p6, _, _, _, rfl, t6, sys_bose15, sts_bose15, by decide, by decide⟩
      | 6, _ => ⟨p8, _, _, _, rfl, t8, sys_dsk7, sts_dsk7, by decide, by decide⟩
      | 7, _ => ⟨p11, _, _, _, rfl, t11, sys_db3, sts_db3, by decide, by decide⟩
      | 8, _ => ⟨p14, _, _, _, rfl, t14, sys_pr, sts_pr, by decide, by decide⟩
      | 9, _ => ⟨p15, _, _, _, rfl, t15, sys_aff1, sts_aff1, by decide, by decide⟩
      | 10, _ => ⟨p16, _, _, _, rfl, t16, sys_bin2, sts_bin2, by decide, by decide⟩
      | 11, _ => ⟨p17, _, _, _, rfl, t17, sys_sk13, sts_sk13, by decide, by decide⟩
      | J + 12, h => absurd h (by omega)
    have x0 : ns[0]? = some (ns[0]'(by omega)) := List.getElem?_eq_getElem (by omega)
    have x1 : ns[1]? = some (ns[1]'(by omega)) := List.getElem?_eq_getElem (by omega)
    have at0 : atI (ns.map V.int) 0 = some (.int (ns[0]'(by omega))) := atI_nat (j := 0) (by rw [List.getElem?_map, x0]; rfl)
    have at1 : atI (ns.map V.int) (0 + 1) = some (.int (ns[1]'(by omega))) := atI_nat (j := 1) (by rw [List.getElem?_map, x1]; rfl)
    generalize (ns[0]'(by omega)) = y0 at *
    generalize (ns[1]'(by omega)) = y1 at *
    obtain ⟨J, hJ, hJ12⟩ : ∃ J : Nat, y0 % 12 = (J : Int) ∧ J < 12 := ⟨(y0 % 12).toNat, by omega, by omega⟩
    obtain ⟨p, t, n, f1, hpick, hT, S, St, h3, h15⟩ := pick J hJ12
    refine ⟨_, rfl, _, rfl, _, rfl, _, _, _, _, rfl, rfl, SqL.of ha3, at0, .inl ⟨_, rfl, _, _, rfl, rfl, (by show (0 : Int) < 12; decide), _, _, _, _, rfl, rfl, SqL.of e3, (by show atI _ (y0 % 12) = _; rw [hJ]; exact atI_nat hpick), ?_⟩⟩
    refine ⟨_, rfl, _, rfl, _, _, rfl, rfl, _, _, _, _, rfl, rfl, SqL.of ha3, at1, .inl ⟨_, rfl, _, _, rfl, rfl, (by show (0 : Int) < 4; decide), rfl, _, rfl, ?_⟩⟩
    by_cases h4 : y1 % 4 = 0
    · exact ite_yes (dec_int_eq h4) ⟨_, rfl, k _ t n f1 G sm hT S St h3 h15⟩
    · refine ite_no (dec_int_ne h4) ?_
      exact ⟨_, rfl, _, rfl, _, rfl, _, _, rfl, rfl, .ref p, t, n, f1, a, ns, 2, rfl, hT, S, St, by omega, by omega, ha3, h80, hns, by omega, fun p' π H' s' hl hi hT' => k _ _ n (conj n f1 π) H' (Same.trans sm s') hT' (sys_mix St hl hi (by omega) (by omega)) ((conj_iso hl hi).sts St) h3 h15⟩
end
end PK
end

section
namespace PK
open PySem PySem.Spec PyProof.Rows L2
section
variable {α : Type} [DecidableEq α] [PySem.W.Datum α]
def rNotInDat (α : Type) [DecidableEq α] [PySem.W.Datum α] (K : PySem.W.Frag) : R2 := fun x y H Q => ∃ (a : Addr) (ys : List V) (b : α) (bs : List α), y = .ref a ∧ SqL K H a ys ∧ DpAll K H ys (bs.map PySem.W.Datum.toD) ∧ Dp K H x (PySem.W.Datum.toD b) ∧ Q (.bl (decide (b ∉ bs))) H
theorem op_notInDat {X : Cx} (hu : X.A.units + 1 + PySem.W.Datum.depth α < cLine) : OpR X (compareOp .NotIn) (rNotInDat α X.K) := by
  intro pins s σ H x y v u Q I rx ry h
  obtain ⟨a, ys, b, bs, rfl, hs, hd, hb, q⟩ := h
  cases ry
  obtain ⟨its, rv, hl, hz⟩ := I.list hs
  obtain ⟨as, r1⟩ := Dp.readsAll I _ ys its hd rv
  exact PySem.W.notIn_list_datum (vs := its.toArray) (x := b) (xs := bs) hl.isList ⟨as, by simpa using r1⟩ (Dp.reads I _ x v hb rx) hu ⟨.bl _, H, I, rfl, q⟩
end
theorem room2 {k : Nat} {A : Around} (r : Room k A) : A.units + 1 + 1 < cLine := by
  have := r.units
  omega
theorem tri_in (g b a : Nat) : decide ((PySem.W.T3.mk (g : Int) (b : Int) (a : Int)) ∉ ([⟨2, 4, 12⟩, ⟨6, 8, 12⟩, ⟨2, 8, 9⟩, ⟨4, 6, 9⟩] : List (PySem.W.T3 Int Int Int))) = !([(2, 4, 12), (6, 8, 12), (2, 8, 9), (4, 6, 9)] : List Tri).contains (g, b, a) := by
  rw [Bool.eq_iff_iff, decide_eq_true_eq, Bool.not_eq_true', ← Bool.not_eq_true, List.contains_iff_mem]
  refine not_congr ?_
  simp only [List.mem_cons, List.not_mem_nil, or_false, PySem.W.T3.mk.injEq, Prod.mk.injEq]
  omega
theorem dp_t3 {K : PySem.W.Frag} {H : Hp} {p : Addr} {x y z : Int} (h : H p = some (.tup [.int x, .int y, .int z])) : Dp K H (.ref p) (PySem.W.Datum.toD (⟨x, y, z⟩ : PySem.W.T3 Int Int Int)) :=
  .tup (SqT.of h) (.cons (.int x) (.cons (.int y) (.cons (.int z) .nil)))
theorem TriL.add {H : Hp} {D p : Addr} {ts : List Tri} {rs : List Addr} {t : Tri} (h1 : H D = some (.lst (rs.map V.ref))) (h2 : rs.length = ts.length)
    (h3 : ∀ (k : Nat) (r : Addr) (t : Tri), rs[k]? = some r → ts[k]? = some t → H r = some (.tup (thV t))) (hp : H p = some (.tup (thV t))) : TriL (upd H D (.lst (rs.map V.ref ++ [.ref p]))) D (ts ++ [t]) := by
  have tt : TupSub H (upd H D (.lst (rs.map V.ref ++ [.ref p]))) := TupSub.put fun xs e => by rw [h1] at e; cases e
  refine ⟨rs ++ [p], by rw [upd_same, List.map_append]; rfl, by rw [List.length_append, List.length_append, h2]; rfl, fun k r q e1 e2 => ?_⟩
  by_cases hk : k < rs.length
  · rw [List.getElem?_append_left hk] at e1
    rw [List.getElem?_append_left (h2 ▸ hk)] at e2
    exact tt _ _ (h3 k r q e1 e2)
  · obtain rfl : k = rs.length := by
      have := (List.getElem?_eq_some_iff.mp e1).1
      rw [List.length_append, List.length_singleton] at this
      omega
    rw [List.getElem?_append_right (Nat.le_refl _), Nat.sub_self] at e1
    rw [h2, List.getElem?_append_right (Nat.le_refl _), Nat.sub_self] at e2
    cases e1
    cases e2
    exact tt _ _ hp
section
variable {P : Program} {w : World} {K : PySem.W.Frag} {mg : Str → Option Value} {base : Heap}
theorem sc_law_thirteen : FnScope ["_law_number", "_law_rows", "_law_threes_here", "_law_a", "_law_b", "_law_three"] ["_law_number"] (defScope s_law_thirteen) := ⟨rfl, rfl, rfl, by decide +kernel, rfl, by decide +kernel, by decide +kernel⟩
def spThirteen : Sp := fun vs H Q _ => vs = [.int 1] ∧ ∀ v H', Same H H' → TrAt H' (.listed 13 t13L) v → Q v H'
theorem fc_law_thirteen (T : Txt w K mg) : Fc P w K mg base 6 "_law_thirteen" ["_law_number"] spThirteen := by
  have F_law_table := fc_law_table (P := P) (base := base) T
  refine mk_fc T.d_law_thirteen sc_law_thirteen (fun _ _ _ _ _ _ us hl => match us, hl with | [_], _ => rfl) (fun vs H Q E h => ?_) (fun f cdv A outer s H vs Q E hr h => ?_)
  · obtain ⟨rfl, _⟩ := h
    rfl
  · obtain ⟨rfl, k⟩ := h
    refine ⟨_, (pss_cons (ps_if (pt_cmpR op_eq (pv 0) pe_int (nomark _)) (pss_one (ps_ret (pe_tup (pa_cons pe_str (pa_cons pe_int pa_nil))))) pss_nil)
      (pss_cons (ps_set (i := 1) sc_law_thirteen.nd rfl (Or.inl rfl) (pe_fc F_law_table hr rfl (pa_cons (pe_tup (pa_cons pe_str (pa_cons pe_int pa_nil))) pa_nil)))
      (pss_cons (ps_set (i := 2) sc_law_thirteen.nd rfl (Or.inl rfl) (pe_lst (pa_cons (pe_tup (pa_cons pe_int (pa_cons pe_int (pa_cons pe_int pa_nil)))) (pa_cons (pe_tup (pa_cons pe_int (pa_cons pe_int (pa_cons pe_int pa_nil)))) (pa_cons (pe_tup (pa_cons pe_int (pa_cons pe_int (pa_cons pe_int pa_nil)))) (pa_cons (pe_tup (pa_cons pe_int (pa_cons pe_int (pa_cons pe_int pa_nil)))) pa_nil))))))
      (pss_cons (ps_for PassesOwn.never rfl (pi_range1 (by rfl) T.n_range (pa_cons pe_int pa_nil)) (pg_name (i := 3) sc_law_thirteen.nd rfl (Or.inl rfl))
      (pss_one (ps_for PassesOwn.never rfl (pi_range1 (by rfl) T.n_range (pa_cons (pv 3) pa_nil)) (pg_name (i := 4) sc_law_thirteen.nd rfl (Or.inl rfl))
        (pss_cons (ps_set (i := 5) sc_law_thirteen.nd rfl (Or.inl rfl) (pe_tup (pa_cons (pe_ix ix_list (pe_ix ix_list (pv 1) (pv 3) (fun _ _ => rfl)) (pv 4) (fun _ _ => rfl)) (pa_cons (pv 4) (pa_cons (pv 3) pa_nil)))))
          (pss_one (ps_if (PW.pt (pw_and (pt_cmpR op_lt (pe_ix ix_list (pe_ix ix_list (pv 1) (pv 3) (fun _ _ => rfl)) (pv 4) (fun _ _ => rfl)) (pv 4) (nomark _)) (pw_and1 (pt_cmpR (op_notInDat (α := PySem.W.T3 Int Int Int) (room2 hr)) (pv 5) (pe_lst (pa_cons (pe_tup (pa_cons pe_int (pa_cons pe_int (pa_cons pe_int pa_nil)))) (pa_cons (pe_tup (pa_cons pe_int (pa_cons pe_int (pa_cons pe_int pa_nil)))) (pa_cons (pe_tup (pa_cons pe_int (pa_cons pe_int (pa_cons pe_int pa_nil)))) (pa_cons (pe_tup (pa_cons pe_int (pa_cons pe_int (pa_cons pe_int pa_nil)))) pa_nil))))) (by rfl))))) (pss_one (ps_expr (pe_bm PySem.F.plainAttrs_list PySem.F.slot_list_append PySem.F.type_list_append mt_append (pv 2) (pa_cons (pv 5) pa_nil)))) pss_nil))))))
      (pss_one (ps_ret (pe_tup (pa_cons pe_str (pa_cons pe_int (pa_cons (pe_callTy call_tuple_of (by rfl) T.n_tuple (by decide +kernel) (pa_cons (pv 2) pa_nil)) pa_nil)))))))))), ?_⟩
    refine st_is (σ := [some _, none, none, none, none, none]) rfl ?_
    refine ⟨_, rfl, rfl, _, rfl, ite_no (by decide +kernel) ?_⟩
    refine ⟨(by show 2 ≤ sizeLine; decide), fun p0 h0 => ?_⟩
    have s1 := Same.new (o := .tup [.str "skolem", .int 13]) h0
    have t1 : TrAt (upd H p0 (.tup [.str "skolem", .int 13])) (.skolem 13) (.ref p0) := ⟨p0, rfl, upd_same⟩
    generalize upd H p0 (.tup [.str "skolem", .int 13]) = H1 at s1 t1 ⊢
    refine ⟨_, _, 13, _, rfl, t1, sys_sk13, sts_sk13, by decide, fun u H2 s2 hu => ?_⟩
    have sm := Same.refl H2
    have hu0 := hu
    refine ⟨(by show 3 ≤ sizeLine; decide), fun p1 h1 => ?_⟩
    have w1 := Same.new (o := .tup [.int 2, .int 4, .int 9]) h1
    have hu := hu.same w1
    have q1 : (upd H2 p1 (.tup [.int 2, .int 4, .int 9])) p1 = some (.tup [.int 2, .int 4, .int 9]) := upd_same
    have sm := Same.trans sm w1
    generalize upd H2 p1 (.tup [.int 2, .int 4, .int 9]) = J1 at sm hu q1 ⊢
    refine ⟨(by show 3 ≤ sizeLine; decide), fun p2 h2 => ?_⟩
    have w2 := Same.new (o := .tup [.int 6, .int 8, .int 9]) h2
    have hu := hu.same w2
    have q1 := w2 _ _ q1
    have q2 : (upd J1 p2 (.tup [.int 6, .int 8, .int 9])) p2 = some (.tup [.int 6, .int 8, .int 9]) := upd_same
    have sm := Same.trans sm w2
    generalize upd J1 p2 (.tup [.int 6, .int 8, .int 9]) = J2 at sm hu q1 q2 ⊢
    refine ⟨(by show 3 ≤ sizeLine; decide), fun p3 h3 => ?_⟩
    have w3 := Same.new (o := .tup [.int 2, .int 8, .int 12]) h3
    have hu := hu.same w3
    have q1 := w3 _ _ q1
    have q2 := w3 _ _ q2
    have q3 : (upd J2 p3 (.tup [.int 2, .int 8, .int 12])) p3 = some (.tup [.int 2, .int 8, .int 12]) := upd_same
    have sm := Same.trans sm w3
    generalize upd J2 p3 (.tup [.int 2, .int 8, .int 12]) = J3 at sm hu q1 q2 q3 ⊢
    refine ⟨(by show 3 ≤ sizeLine; decide), fun p4 h4 => ?_⟩
    have w4 := Same.new (o := .tup [.int 4, .int 6, .int 12]) h4
    have hu := hu.same w4
    have q1 := w4 _ _ q1
    have q2 := w4 _ _ q2
    have q3 := w4 _ _ q3
    have q4 : (upd J3 p4 (.tup [.int 4, .int 6, .int 12])) p4 = some (.tup [.int 4, .int 6, .int 12]) := upd_same
    have sm := Same.trans sm w4
    generalize upd J3 p4 (.tup [.int 4, .int 6, .int 12]) = J4 at sm hu q1 q2 q3 q4 ⊢
    refine ⟨(by show 4 ≤ sizeLine; decide), fun L hL => ?_⟩
    have l0 : TriL (upd J4 L (.lst [.ref p1, .ref p2, .ref p3, .ref p4])) L [(2, 4, 9), (6, 8, 9), (2, 8, 12), (4, 6, 12)] := by
      refine ⟨[p1, p2, p3, p4], upd_same, rfl, fun i r t e1 e2 => ?_⟩
      match i, e1, e2 with
      | 0, e1, e2 => cases e1; cases e2; exact Same.new hL _ _ q1
      | 1, e1, e2 => cases e1; cases e2; exact Same.new hL _ _ q2
      | 2, e1, e2 => cases e1; cases e2; exact Same.new hL _ _ q3
      | 3, e1, e2 => cases e1; cases e2; exact Same.new hL _ _ q4
      | i + 4, e1, _ => simp at e1
    have hL0 : H2 L = none := sm.free hL
    have s5 := Same.new (o := .lst [.ref p1, .ref p2, .ref p3, .ref p4]) hL
    have hu := hu.same s5
    have sm := Same.trans sm s5
    generalize upd J4 L (.lst [.ref p1, .ref p2, .ref p3, .ref p4]) = J5 at l0 hu sm ⊢
    refine ⟨13, rfl, by decide, by decide, ?_⟩
    refine for_range (n := 13) (fun a σ H' => ∃ (ts : List Tri) (x3 x4 x5 : Option V), σ = [some (.int 1), some u, some (.ref L), x3, x4, x5] ∧ Same H2 H' ∧ TriL H' L ts ∧ ts.length ≤ 4 + a * 64 ∧
        ts = [(2, 4, 9), (6, 8, 9), (2, 8, 12), (4, 6, 12)] ++ (List.range a).flatMap fun a => ((List.range a).filter fun b => decide (tabF (.skolem 13) a b < b) && !([(2, 4, 12), (6, 8, 12), (2, 8, 9), (4, 6, 9)] : List Tri).contains (tabF (.skolem 13) a b, b, a)).map fun b => (tabF (.skolem 13) a b, b, a))
      ⟨_, none, none, none, rfl, sm, l0, by decide, by simp⟩ ?_ ?_
    · rintro a σ H5 ha ⟨ts, x3, x4, x5, rfl, sA, lA, lenA, htA⟩
      rw [Int.zero_add]
      rw [flat_succ, ← List.append_assoc, ← htA]
      refine ⟨_, rfl, (a : Int), rfl, by omega, by omega, ?_⟩
      refine for_range (n := a) (fun b σ H' => ∃ (us : List Tri) (x4 x5 : Option V), σ = [some (.int 1), some u, some (.ref L), some (.int (a : Int)), x4, x5] ∧ Same H2 H' ∧ TriL H' L us ∧ us.length ≤ 4 + a * 64 + b ∧
          us = ts ++ ((List.range b).filter fun b => decide (tabF (.skolem 13) a b < b) && !([(2, 4, 12), (6, 8, 12), (2, 8, 9), (4, 6, 9)] : List Tri).contains (tabF (.skolem 13) a b, b, a)).map fun b => (tabF (.skolem 13) a b, b, a))
        ⟨ts, x4, x5, rfl, sA, lA, lenA, by simp⟩ ?_ ?_
      · rintro b σ H6 hb ⟨us, y4, y5, rfl, s6, l6, len6, hus⟩
        rw [Int.zero_add]
        have hu6 := hu0.same s6
        have hbn : b < 13 := Nat.lt_trans hb ha
        have fl : ∀ c : Nat → Bool, ((List.range (b + 1)).filter c).map (fun b => (tabF (.skolem 13) a b, b, a)) = (((List.range b).filter c).map fun b => (tabF (.skolem 13) a b, b, a)) ++ if c b = true then [(tabF (.skolem 13) a b, b, a)] else [] := fun c => by
          rw [List.range_succ, List.filter_append, List.map_append]
          by_cases h : c b = true <;> simp [h]
        rw [fl, ← List.append_assoc, ← hus]
        have hgb : tabF (.skolem 13) a b < 13 := sts_sk13.lt a b ha hbn
        refine ⟨_, rfl, _, rfl, hu6.get ha hbn (fun q hq => ⟨_, rfl, hq⟩) ?_⟩
        refine ⟨_, rfl, _, rfl, (by show 3 ≤ sizeLine; decide), fun p hp => ?_⟩
        have wp := Same.new (o := .tup [.int ((tabF (.skolem 13) a b : Nat) : Int), .int (b : Int), .int (a : Int)]) hp
        have hp6 : (upd H6 p (.tup [.int ((tabF (.skolem 13) a b : Nat) : Int), .int (b : Int), .int (a : Int)])) p = some (.tup (thV (tabF (.skolem 13) a b, b, a))) := upd_same
        generalize upd H6 p (.tup [.int ((tabF (.skolem 13) a b : Nat) : Int), .int (b : Int), .int (a : Int)]) = J6 at wp hp6 ⊢
        refine ⟨_, rfl, _, rfl, (hu6.same wp).get ha hbn (fun q hq => ⟨_, rfl, hq⟩) ?_⟩
        refine ⟨_, rfl, _, _, rfl, rfl, _, rfl, ?_⟩
        have huT := hu6
        generalize tabF (.skolem 13) a b = g at *
        by_cases hlt : g < b
        · refine ite_yes (decide_eq_true (by omega)) ?_
          have s7 := Same.refl J6
          refine ⟨_, rfl, ?_⟩
          refine ⟨(by show 3 ≤ sizeLine; decide), fun z0 y0 => ?_⟩
          have v0 := Same.new (o := .tup [.int 2, .int 4, .int 12]) y0
          have x0 : (upd J6 z0 (.tup [.int 2, .int 4, .int 12])) z0 = some (.tup [.int 2, .int 4, .int 12]) := upd_same
          have s7 := Same.trans s7 v0
          generalize upd J6 z0 (.tup [.int 2, .int 4, .int 12]) = Z0 at s7 x0 ⊢
          refine ⟨(by show 3 ≤ sizeLine; decide), fun z1 y1 => ?_⟩
          have v1 := Same.new (o := .tup [.int 6, .int 8, .int 12]) y1
          have x0 := v1 _ _ x0
          have x1 : (upd Z0 z1 (.tup [.int 6, .int 8, .int 12])) z1 = some (.tup [.int 6, .int 8, .int 12]) := upd_same
          have s7 := Same.trans s7 v1
          generalize upd Z0 z1 (.tup [.int 6, .int 8, .int 12]) = Z1 at s7 x0 x1 ⊢
          refine ⟨(by show 3 ≤ sizeLine; decide), fun z2 y2 => ?_⟩
          have v2 := Same.new (o := .tup [.int 2, .int 8, .int 9]) y2
          have x0 := v2 _ _ x0
          have x1 := v2 _ _ x1
          have x2 : (upd Z1 z2 (.tup [.int 2, .int 8, .int 9])) z2 = some (.tup [.int 2, .int 8, .int 9]) := upd_same
          have s7 := Same.trans s7 v2
          generalize upd Z1 z2 (.tup [.int 2, .int 8, .int 9]) = Z2 at s7 x0 x1 x2 ⊢
          refine ⟨(by show 3 ≤ sizeLine; decide), fun z3 y3 => ?_⟩
          have v3 := Same.new (o := .tup [.int 4, .int 6, .int 9]) y3
          have x0 := v3 _ _ x0
          have x1 := v3 _ _ x1
          have x2 := v3 _ _ x2
          have x3 : (upd Z2 z3 (.tup [.int 4, .int 6, .int 9])) z3 = some (.tup [.int 4, .int 6, .int 9]) := upd_same
          have s7 := Same.trans s7 v3
          generalize upd Z2 z3 (.tup [.int 4, .int 6, .int 9]) = Z3 at s7 x0 x1 x2 x3 ⊢
          refine ⟨(by show 4 ≤ sizeLine; decide), fun M hM => ?_⟩
          have s7 := Same.trans s7 (Same.new (o := .lst [.ref z0, .ref z1, .ref z2, .ref z3]) hM)
          have m7 : (upd Z3 M (.lst [.ref z0, .ref z1, .ref z2, .ref z3])) M = some (.lst [.ref z0, .ref z1, .ref z2, .ref z3]) := upd_same
          have x0 := Same.new (o := .lst [.ref z0, .ref z1, .ref z2, .ref z3]) hM _ _ x0
          have x1 := Same.new (o := .lst [.ref z0, .ref z1, .ref z2, .ref z3]) hM _ _ x1
          have x2 := Same.new (o := .lst [.ref z0, .ref z1, .ref z2, .ref z3]) hM _ _ x2
          have x3 := Same.new (o := .lst [.ref z0, .ref z1, .ref z2, .ref z3]) hM _ _ x3
          generalize upd Z3 M (.lst [.ref z0, .ref z1, .ref z2, .ref z3]) = J7 at s7 m7 x0 x1 x2 x3 ⊢
          have s17 := Same.trans s6 (Same.trans wp s7)
          have hp7 := s7 _ _ hp6
          have l7 : TriL J7 L us := by
            obtain ⟨rs, r1, r2, r3⟩ := l6
            exact ⟨rs, s7 _ _ (wp _ _ r1), r2, fun i r t e1 e2 => s7 _ _ (wp _ _ (r3 i r t e1 e2))⟩
          refine ⟨M, _, (⟨(g : Int), (b : Int), (a : Int)⟩ : PySem.W.T3 Int Int Int), [⟨2, 4, 12⟩, ⟨6, 8, 12⟩, ⟨2, 8, 9⟩, ⟨4, 6, 9⟩], rfl, SqL.of m7, ?_, ?_, _, rfl, ?_⟩
          · exact .cons (dp_t3 x0) (.cons (dp_t3 x1) (.cons (dp_t3 x2) (.cons (dp_t3 x3) .nil)))
          · exact dp_t3 hp7
          · rw [tri_in]
            cases hcn : ([(2, 4, 12), (6, 8, 12), (2, 8, 9), (4, 6, 9)] : List Tri).contains (g, b, a) with
            | true =>
              refine ite_no rfl ?_
              rw [if_neg (by rw [Bool.not_true, Bool.and_false]; decide), List.append_nil]
              exact ⟨us, _, _, rfl, s17, l7, by omega, rfl⟩
            | false =>
              refine ite_yes rfl ?_
              rw [if_pos (by rw [decide_eq_true hlt]; rfl)]
              obtain ⟨rs, r1, r2, r3⟩ := l7
              refine ⟨_, rfl, .inl ⟨rfl, _, SqL.of r1⟩, ?_⟩
              refine ⟨_, rfl, L, _, _, rfl, rfl, r1, szlt (by rw [List.length_map, r2]; omega), ?_⟩
              refine ⟨us ++ [(g, b, a)], _, _, rfl, Same.put s17 hL0, TriL.add r1 r2 r3 hp7, by rw [List.length_append, List.length_singleton]; omega, rfl⟩
        · refine ite_no (decide_eq_false (by omega)) (ite_no rfl ?_)
          rw [if_neg (by rw [decide_eq_false hlt, Bool.false_and]; decide), List.append_nil]
          exact ⟨us, _, _, rfl, Same.trans s6 wp, (by
            obtain ⟨rs, r1, r2, r3⟩ := l6
            exact ⟨rs, wp _ _ r1, r2, fun i r t e1 e2 => wp _ _ (r3 i r t e1 e2)⟩), by omega, rfl⟩
      · rintro σ H6 ⟨us, y4, y5, rfl, s6, l6, len6, hus⟩
        exact ⟨us, _, _, _, rfl, s6, l6, by omega, hus⟩
    · rintro σ H5 ⟨ts, x3, x4, x5, rfl, sA, lA, lenA, htA⟩
      have e13 : ts = t13L := htA.trans t13_eq
      subst e13
      obtain ⟨rs, r1, r2, r3⟩ := lA
      refine ⟨_, rfl, L, _, rfl, .inl ⟨SqL.of r1, fun q hq => ?_⟩⟩
      have sq := Same.new (o := .tup (rs.map V.ref)) hq
      have q6 : (upd H5 q (.tup (rs.map V.ref))) q = some (.tup (rs.map V.ref)) := upd_same
      refine ⟨(by show 3 ≤ sizeLine; decide), fun p hpn => ?_⟩
      have sp := Same.new (o := .tup [.str "listed", .int 13, .ref q]) hpn
      exact k _ _ (Same.trans s1 (Same.trans s2 (Same.trans sA (Same.trans sq sp)))) ⟨p, q, rfl, upd_same, rs, sp _ _ q6, r2, fun i r t e1 e2 => sp _ _ (sq _ _ (r3 i r t e1 e2))⟩
end
end PK
end

section
namespace PK
open PySem PySem.Spec PyProof.Rows L2
def rEqDat (α : Type) [DecidableEq α] [PySem.W.DatumOrd α] (K : PySem.W.Frag) : R2 := fun x y H Q => ∃ a b : α, Dp K H x (PySem.W.Datum.toD a) ∧ Dp K H y (PySem.W.Datum.toD b) ∧ Q (.bl (decide (a = b))) H
theorem op_eqDat {α : Type} [DecidableEq α] [PySem.W.DatumOrd α] {X : Cx} (hu : X.A.units + PySem.W.Datum.depth α < cLine) : OpR X (compareOp .Eq) (rEqDat α X.K) := by
  intro pins s σ H x y v u Q I rx ry h
  obtain ⟨a, b, ha, hb, q⟩ := h
  exact PySem.W.eq_datum (x := a) (y := b) (Dp.reads I _ x v ha rx) (Dp.reads I _ y u hb ry) hu ⟨.bl _, H, I, rfl, q⟩
end PK
end

section
set_option maxHeartbeats 4000000
namespace PK
open PySem PySem.Spec PyProof.Rows L2
section
variable {P : Program} {w : World} {K : PySem.W.Frag} {mg : Str → Option Value} {base : Heap}
theorem sc_law : FnScope ["_law_script", "_law_numbers_here", "_law_one", "_law_far_one", "_law_other", "_law_third_one", "_law_count_here", "_law_first", "_law_second", "_law_point", "_law_back", "_law_told", "_law_far", "_law_a", "_law_b"] ["_law_script"] (defScope s_law) := ⟨rfl, rfl, rfl, by decide +kernel, rfl, by decide +kernel, by decide +kernel⟩
theorem law_rest5 {f : Addr} {cdv : Value} {A : Around} {outer : List Env} {s : Shared} {H : Hp} {E : XK} (T : Txt w K mg) (hr : Room 65 (A.deeper (envOfC "law" (defScope s_law) s.heap.objs.size f cdv))) : ∃ tR, PSs (cxOf CX0 P w K mg base ["_law_script", "_law_numbers_here", "_law_one", "_law_far_one", "_law_other", "_law_third_one", "_law_count_here", "_law_first", "_law_second", "_law_point", "_law_back", "_law_told", "_law_far", "_law_a", "_law_b"] "law" (defScope s_law) f cdv A outer s H E).nox ((defBody s_law).drop 5) tR ∧ ∀ (Q : VK) (a pn : Addr) (ns : List Int) (v : V) (t : Tree) (n : Nat) (f1 : Nat → Nat → Nat) (H2 : Hp), H2 pn = some (.lst (ns.map V.int)) → ns.length = 80 → (∀ x ∈ ns, 0 ≤ x ∧ x < 1009) → TrAt H2 t v → Sys t n f1 → Sts n f1 → 3 ≤ n → n ≤ 15 → (∀ H', Same H2 H' → Q (.bl true) H') →  tR { nx := fun _ H' => Q .non H', rt := Q } [some (.ref a), some (.ref pn), some v, none, none, none, none, none, none, none, none, none, none, none, none] H2 := by
  have F_law_numbers := fc_law_numbers (P := P) (base := base) T
  have F_law_system := fc_law_system (P := P) (base := base) T
  have F_law_count := fc_law_count (P := P) (base := base) T 1
  have F_law_thirteen := fc_law_thirteen (P := P) (base := base) T
  have F_law_mixed := fc_law_mixed (P := P) (base := base) T
  have F_are_alike := fc_are_alike (P := P) (base := base) T
  have F_shows_unlike := fc_shows_unlike (P := P) (base := base) T
  have F_counts_of := fc_counts_of (P := P) (base := base) T
  have F_likeness := fc_likeness (P := P) (base := base) T
  have F_is_likeness := fc_is_likeness (P := P) (base := base) T
  have F_fours := fc_fours (P := P) (base := base) T
  have F_rounds := fc_rounds (P := P) (base := base) T
  refine ⟨_, (pss_cons (ps_set (i := 4) sc_law.nd rfl (Or.inl rfl) (pe_fc F_law_mixed hr rfl (pa_cons (pv 2) (pa_cons (pv 1) (pa_cons pe_int pa_nil)))))
      (pss_cons (ps_set (i := 5) sc_law.nd rfl (Or.inl rfl) (pe_fc F_law_mixed hr rfl (pa_cons (pv 4) (pa_cons (pv 1) (pa_cons pe_int pa_nil)))))
      (pss_cons (ps_set (i := 6) sc_law.nd rfl (Or.inl rfl) (pe_fc F_law_count hr rfl (pa_cons (pv 2) pa_nil)))
      (pss_cons (ps_if (PW.pt (pw_or (pt_val (pe_fc F_shows_unlike hr rfl (pa_cons (pv 2) (pa_cons (pv 4) pa_nil)))) (pw_or (pt_cmpR (op_neDat (α := PySem.W.T3 Int (PySem.W.Tup Int) (PySem.W.Tup (PySem.W.Tup Int × Int))) (room5 hr)) (pe_fc F_counts_of hr rfl (pa_cons (pv 5) pa_nil)) (pe_fc F_counts_of hr rfl (pa_cons (pv 2) pa_nil)) (nomark _)) (pw_or1 (pt_not (pt_val (pe_fc F_are_alike hr rfl (pa_cons (pv 2) (pa_cons (pv 5) pa_nil)) (by decide)))))))) (pss_one (ps_ret pe_bl)) pss_nil)
      (pss_cons (ps_set (i := 7) sc_law.nd rfl (Or.inr rfl) (pe_fc F_likeness hr rfl (pa_cons (pv 2) (pa_cons (pv 4) pa_nil)) (by decide)))
      (pss_cons (ps_set (i := 8) sc_law.nd rfl (Or.inr rfl) (pe_fc F_likeness hr rfl (pa_cons (pv 4) (pa_cons (pv 5) pa_nil)) (by decide)))
      (pss_cons (ps_if (PW.pt (pw_or (pt_cmpR op_isN (pv 7) pe_non (nomark _)) (pw_or1 (pt_cmpR op_isN (pv 8) pe_non (nomark _))))) (pss_one (ps_ret pe_bl)) pss_nil)
      (pss_cons (ps_if (pt_not (pt_val (pe_fc F_is_likeness hr rfl (pa_cons (pv 2) (pa_cons (pv 5) (pa_cons (pe_lc (own := [("_law_point", 9)]) (g := gName 9) (tt := tYes) rfl sc_law.nd (pi_range1 (by rfl) T.n_range (pa_cons (pv 6) pa_nil)) (blkOk_by (by kernel_rfl)) (fun _ _ _ _ _ => (pg_name (i := 9) sc_law.nd rfl (Or.inl rfl))) (fun _ _ _ _ _ => pts_nil) (fun _ _ _ _ _ => (pe_ix (r := rIxE) ix_tupE (pv 8) (pe_ix (r := rIxE) ix_tupE (pv 7) (pv 9) (fun _ _ => rfl)) (fun _ _ => rfl)))) pa_nil)))))) (pss_one (ps_ret pe_bl)) pss_nil)
      (pss_cons (ps_setLc (i := 10) (own := [("_law_point", 9)]) (g := gName 9) (tt := tYes) rfl sc_law.nd rfl rfl (sw_true rfl rfl rfl (by decide +kernel)) (pi_range1 (by rfl) T.n_range (pa_cons (pv 6) pa_nil)) (blkOk_by (by kernel_rfl)) (fun _ _ _ _ _ => (pg_name (i := 9) sc_law.nd rfl (Or.inl rfl))) (fun _ _ _ _ _ => pts_nil) (fun _ _ _ _ _ => (pe_tupIx (pv 7) (pv 9) ⟨rfl, rfl, rfl, rfl⟩)))
      (pss_cons (ps_if (pt_not (pt_val (pe_fc F_is_likeness hr rfl (pa_cons (pv 4) (pa_cons (pv 2) (pa_cons (pv 10) pa_nil)))))) (pss_one (ps_ret pe_bl)) pss_nil)
      (pss_cons (ps_set (i := 11) sc_law.nd rfl (Or.inr rfl) (pe_fc F_fours hr rfl (pa_cons (pv 2) pa_nil)))
      (pss_cons (ps_set (i := 12) sc_law.nd rfl (Or.inr rfl) (pe_fc F_fours hr rfl (pa_cons (pv 4) pa_nil)))
      (pss_cons (ps_if (pt_cmpR (op_neDat (α := List Int) (room1 hr)) (pe_lc (own := [("_law_point", 9)]) (g := gName 9) (tt := tYes) rfl sc_law.nd (pi_range1 (by rfl) T.n_range (pa_cons (pv 6) pa_nil)) (blkOk_by (by kernel_rfl)) (fun _ _ _ _ _ => (pg_name (i := 9) sc_law.nd rfl (Or.inl rfl))) (fun _ _ _ _ _ => pts_nil) (fun _ _ _ _ _ => (pe_ix (r := rIxL K) ix_list (pv 11) (pv 9) (fun _ _ => rfl)))) (pe_lc (own := [("_law_point", 9)]) (g := gName 9) (tt := tYes) rfl sc_law.nd (pi_range1 (by rfl) T.n_range (pa_cons (pv 6) pa_nil)) (blkOk_by (by kernel_rfl)) (fun _ _ _ _ _ => (pg_name (i := 9) sc_law.nd rfl (Or.inl rfl))) (fun _ _ _ _ _ => pts_nil) (fun _ _ _ _ _ => (pe_ix (r := rIxL K) ix_list (pv 12) (pe_ix (r := rIxE) ix_tupE (pv 7) (pv 9) (fun _ _ => rfl)) (fun _ _ => rfl)))) (nomark _)) (pss_one (ps_ret pe_bl)) pss_nil)
      (pss_cons (ps_set (i := 13) sc_law.nd rfl (Or.inl rfl) (pe_op op_mod (pe_callTy call_int1 (by rfl) T.n_int (by decide +kernel) (pa_cons (pe_ix ix_list (pv 1) pe_int (fun _ _ => rfl)) pa_nil)) (pv 6)))
      (pss_cons (ps_set (i := 14) sc_law.nd rfl (Or.inl rfl) (pe_op op_mod (pe_callTy call_int1 (by rfl) T.n_int (by decide +kernel) (pa_cons (pe_op op_add (pe_op op_add (pv 13) pe_int) (pe_op op_mod (pe_callTy call_int1 (by rfl) T.n_int (by decide +kernel) (pa_cons (pe_ix ix_list (pv 1) pe_int (fun _ _ => rfl)) pa_nil)) (pe_op op_sub (pv 6) pe_int))) pa_nil)) (pv 6)))
      (pss_one (ps_ret (pe_cmpR (op_eqDat (α := List Int) (room1 hr)) (pe_fc F_rounds hr rfl (pa_cons (pv 2) (pa_cons (pv 13) (pa_cons (pv 14) pa_nil)))) (pe_fc F_rounds hr rfl (pa_cons (pv 4) (pa_cons (pe_ix ix_tupE (pv 7) (pv 13) (fun _ _ => rfl)) (pa_cons (pe_ix ix_tupE (pv 7) (pv 14) (fun _ _ => rfl)) pa_nil)))) (nomark _))))))))))))))))))), ?_⟩
  intro Q a pn ns v t n f1 H2 hpn h80 hns hT S St h3 h15 k
  -- other, third
  refine ⟨_, rfl, _, rfl, v, t, n, f1, pn, ns, 22, rfl, hT, S, St, by omega, by omega, hpn, h80, hns, by omega, fun p1 π H3 s3 hl hi hT3 => ?_⟩
  have I1 : Iso n f1 (conj n f1 π) π := conj_iso hl hi
  have S3 := sys_mix St hl hi (by omega) (by omega)
  have St3 := I1.sts St
  generalize hg : conj n f1 π = g at I1 S3 St3
  generalize mixT n f1 π = ts at hT3 S3
  refine ⟨_, rfl, _, rfl, .ref p1, .listed n ts, n, g, pn, ns, 42, rfl, hT3, S3, St3, by omega, by omega, s3 _ _ hpn, h80, hns, by omega, fun p2 ρ H4 s4 hl2 hi2 hT4 => ?_⟩
  have I2 : Iso n g (conj n g ρ) ρ := conj_iso hl2 hi2
  have S4 := sys_mix St3 hl2 hi2 (by omega) (by omega)
  have St4 := I2.sts St3
  generalize conj n g ρ = h at I2 S4 St4
  generalize mixT n g ρ = us at hT4 S4
  have hT1 := (hT.keep (Same.tups s3)).keep (Same.tups s4)
  have hT3 := hT3.keep (Same.tups s4)
  refine ⟨_, rfl, v, t, rfl, hT1, S.dep, bd_of S.ok, ?_⟩
  rw [S.size]
  -- the counts
  refine ⟨_, rfl, _, rfl, v, t, .ref p1, .listed n ts, n, n, f1, g, rfl, hT1, S, St, by omega, hT3, S3, St3, by omega, fun H5 s5 => ?_⟩
  refine ⟨_, rfl, ite_no (decide_eq_false fun q => q (counts_iso St I1)) ?_⟩
  have hT1 := hT1.keep (Same.tups s5)
  have hT3 := hT3.keep (Same.tups s5)
  have hT4 := hT4.keep (Same.tups s5)
  have I12 := I1.comp I2
  refine ⟨_, rfl, .ref p2, .listed n us, n, h, rfl, hT4, S4, St4, by omega, fun u6 H6 s6 d6 => ?_⟩
  refine ⟨_, rfl, v, t, n, f1, rfl, hT1.keep (Same.tups s6), S, St, by omega, fun u7 H7 s7 d7 => ?_⟩
  refine ⟨_, _, dp_same s7 d6, d7, _, rfl, ite_no (decide_eq_false fun q => q (counts_iso St I12).symm) ?_⟩
  have s57 := Same.trans s6 s7
  have hT1 := hT1.keep (Same.tups s57)
  have hT3 := hT3.keep (Same.tups s57)
  have hT4 := hT4.keep (Same.tups s57)
  refine ⟨_, rfl, _, rfl, v, t, .ref p2, .listed n us, n, f1, h, rfl, hT1, S, St, by omega, hT4, S4, St4, fun no => (no _ I12).elim, fun _ H8 s8 _ => ?_⟩
  refine ⟨_, rfl, ite_no rfl ?_⟩
  have hT1 := hT1.keep (Same.tups s8)
  have hT3 := hT3.keep (Same.tups s8)
  have hT4 := hT4.keep (Same.tups s8)
  -- first, second
  refine ⟨_, rfl, _, rfl, v, t, .ref p1, .listed n ts, n, f1, g, rfl, hT1, S, St, by omega, hT3, S3, St3, fun no => (no _ I1).elim, fun q1 φ H9 s9 hq1 J1 => ?_⟩
  have hT1 := hT1.keep (Same.tups s9)
  have hT3 := hT3.keep (Same.tups s9)
  have hT4 := hT4.keep (Same.tups s9)
  refine ⟨_, rfl, _, rfl, .ref p1, .listed n ts, .ref p2, .listed n us, n, g, h, rfl, hT3, S3, St3, by omega, hT4, S4, St4, fun no => (no _ I2).elim, fun q2 ψ H10 s10 hq2 J2 => ?_⟩
  have hT1 := hT1.keep (Same.tups s10)
  have hT3 := hT3.keep (Same.tups s10)
  have hT4 := hT4.keep (Same.tups s10)
  have hq1 := s10 _ _ hq1
  refine ⟨_, rfl, rfl, _, rfl, ite_no rfl ?_⟩
  refine ⟨_, rfl, rfl, _, rfl, ite_no rfl ?_⟩
  have aφ : ∀ p, p < n → atI ((mapI n φ).map V.int) (p : Int) = some (.int ((φ p : Nat) : Int)) := fun p hp => by rw [mapI_V]; exact mapV_at hp
  have aψ : ∀ p, p < n → atI ((mapI n ψ).map V.int) (p : Int) = some (.int ((ψ p : Nat) : Int)) := fun p hp => by rw [mapI_V]; exact mapV_at hp
  have J12 := J1.comp J2
  -- is_likeness(one, third, ..)
  refine ⟨_, rfl, _, rfl, _, rfl, n, rfl, by omega, by omega, fun Z hZ => ?_⟩
  refine lc_rngV (n := n) (fun p => V.int ((ψ (φ p) : Nat) : Int)) hZ (by omega) (fun p H11 hp s11 qq hq => ?_) (fun _ => rfl) fun H11 s11 z11 => ?_
  · exact ⟨_, rfl, _, rfl, _, rfl, q1, _, _, _, rfl, rfl, s11 _ _ hq1, aφ p hp, q2, _, _, _, rfl, rfl, s11 _ _ hq2, aψ _ (J1.lt p hp), hq _ (Same.refl _)⟩
  have hT1 := hT1.keep (Same.tups s11)
  have hT3 := hT3.keep (Same.tups s11)
  have hT4 := hT4.keep (Same.tups s11)
  refine ⟨v, t, .ref p2, .listed n us, Z, n, f1, h, fun a => ψ (φ a), rfl, hT1, S, St, by omega, hT4, S4, St4, z11, J12, fun H12 s12 => ⟨_, rfl, ite_no rfl ?_⟩⟩
  have hT1 := hT1.keep (Same.tups s12)
  have hT3 := hT3.keep (Same.tups s12)
  have hq1 := s12 _ _ (s11 _ _ hq1)
  -- back
  have iφ : ∀ m : Nat, m < n → (mapI n φ)[m]? = some ((φ m : Nat) : Int) := fun m hm => by
    unfold mapI
    rw [List.getElem?_map, List.getElem?_range hm]
    rfl
  refine ⟨_, rfl, n, rfl, by omega, by omega, fun Y hY => ?_⟩
  refine lc_rngV (n := n) (fun p => V.int ((inv n φ p : Nat) : Int)) hY (by omega) (fun p H13 hp s13 qq hq => ?_) (fun _ => rfl) fun H13 s13 y13 => ?_
  · have hil : inv n φ p < n := J1.inv_lt hp
    refine ⟨_, rfl, q1, mapI n φ, rfl, s13 _ _ hq1, _, rfl, (p : Int), inv n φ p, rfl, s13 _ _ hq1, ?_, fun m hm e => ?_, hq _ (Same.refl _)⟩
    · rw [iφ _ hil, J1.inv_right hp]
    · rw [iφ m (by omega)] at e
      have e2 : φ m = p := by have := Option.some.inj e; omega
      have e3 : φ m = φ (inv n φ p) := e2.trans (J1.inv_right hp).symm
      exact absurd (J1.inj m _ (by omega) hil e3) (by omega)
  have hT1 := hT1.keep (Same.tups s13)
  have hT3 := hT3.keep (Same.tups s13)
  have hq1 := s13 _ _ hq1
  refine ⟨_, rfl, _, rfl, _, rfl, .ref p1, .listed n ts, v, t, Y, n, g, f1, inv n φ, rfl, hT3, S3, St3, by omega, hT1, S, St, y13, J1.back St, fun H14 s14 => ⟨_, rfl, ite_no rfl ?_⟩⟩
  have hT1 := hT1.keep (Same.tups s14)
  have hT3 := hT3.keep (Same.tups s14)
  have hq1 := s14 _ _ hq1
  -- fours
  refine ⟨_, rfl, v, t, n, f1, rfl, hT1, S, St, by omega, fun w1 H15 s15 hw1 => ?_⟩
  refine ⟨_, rfl, .ref p1, .listed n ts, n, g, rfl, hT3.keep (Same.tups s15), S3, St3, by omega, fun w2 H16 s16 hw2 => ?_⟩
  have hw1 := s16 _ _ hw1
  have hq1 := s16 _ _ (s15 _ _ hq1)
  have told : ∀ p : Nat, p < n → atI (intsN (foursOf n f1)) (p : Int) = some (.int ((foursAt n f1 p : Nat) : Int)) := fun p hp => atI_nat (by unfold intsN foursOf; rw [List.getElem?_map, List.getElem?_map, List.getElem?_range hp]; rfl)
  have far : ∀ p : Nat, p < n → atI (intsN (foursOf n g)) (p : Int) = some (.int ((foursAt n g p : Nat) : Int)) := fun p hp => atI_nat (by unfold intsN foursOf; rw [List.getElem?_map, List.getElem?_map, List.getElem?_range hp]; rfl)
  refine ⟨_, rfl, n, rfl, by omega, by omega, fun A1 hA1 => ?_⟩
  refine lc_rngV (n := n) (fun p => V.int ((foursAt n f1 p : Nat) : Int)) hA1 (by omega) (fun p H17 hp s17 qq hq => ?_) (fun _ => rfl) fun H17 s17 a17 => ?_
  · exact ⟨_, rfl, _, rfl, _, _, _, _, rfl, rfl, SqL.of (s17 _ _ hw1), told p hp, hq _ (Same.refl _)⟩
  have hq1 := s17 _ _ hq1
  refine ⟨_, rfl, n, rfl, by omega, by omega, fun A2 hA2 => ?_⟩
  refine lc_rngV (n := n) (fun p => V.int ((foursAt n f1 p : Nat) : Int)) hA2 (by omega) (fun p H18 hp s18 qq hq => ?_) (fun _ => rfl) fun H18 s18 a18 => ?_
  · refine ⟨_, rfl, _, rfl, _, rfl, q1, _, _, _, rfl, rfl, s18 _ _ hq1, aφ p hp, _, _, _, _, rfl, rfl, SqL.of (s18 _ _ (s17 _ _ hw2)), ?_, hq _ (Same.refl _)⟩
    rw [← foursAt_iso St J1 hp]
    exact far _ (J1.lt p hp)
  have hq1 := s18 _ _ hq1
  have e1 : ((List.range n).map fun p => V.int ((foursAt n f1 p : Nat) : Int)) = intsN (foursOf n f1) := by unfold intsN foursOf; rw [List.map_map]; rfl
  rw [e1] at a17 a18
  refine ⟨(foursOf n f1).map (fun x : Nat => (x : Int)), (foursOf n f1).map (fun x : Nat => (x : Int)), .lst (SqL.of (s18 _ _ a17)) (dp_ints _), .lst (SqL.of a18) (dp_ints _), _, rfl, ite_no (decide_eq_false fun q => q rfl) ?_⟩
  have hpnZ := s18 _ _ (s17 _ _ (s16 _ _ (s15 _ _ (s14 _ _ (s13 _ _ (s12 _ _ (s11 _ _ (s10 _ _ (s9 _ _ (s8 _ _ (s57 _ _ (s5 _ _ (s4 _ _ (s3 _ _ hpn))))))))))))))
  have hT1 := (((hT1.keep (Same.tups s15)).keep (Same.tups s16)).keep (Same.tups s17)).keep (Same.tups s18)
  have hT3 := (((hT3.keep (Same.tups s15)).keep (Same.tups s16)).keep (Same.tups s17)).keep (Same.tups s18)
  have at60 : atI (ns.map V.int) 60 = some (.int (ns[60]'(by omega))) := atI_nat (j := 60) (by rw [List.getElem?_map, List.getElem?_eq_getElem (by omega)]; rfl)
  have at61 : atI (ns.map V.int) 61 = some (.int (ns[61]'(by omega))) := atI_nat (j := 61) (by rw [List.getElem?_map, List.getElem?_eq_getElem (by omega)]; rfl)
  generalize (ns[60]'(by omega)) = x60 at at60
  generalize (ns[61]'(by omega)) = x61 at at61
  refine ⟨_, rfl, _, _, _, _, rfl, rfl, SqL.of hpnZ, at60, .inl ⟨_, rfl, _, rfl, _, _, rfl, rfl, (by show (0 : Int) < (n : Int); omega), ?_⟩⟩
  obtain ⟨A0, hA, hAn⟩ : ∃ A0 : Nat, x60 % (n : Int) = (A0 : Int) ∧ A0 < n := by
    have h1 := Int.emod_nonneg x60 (show (n : Int) ≠ 0 by omega)
    have h2 := Int.emod_lt_of_pos x60 (show 0 < (n : Int) by omega)
    exact ⟨(x60 % (n : Int)).toNat, by omega, by omega⟩
  refine gName_tr (congrArg V.int hA.symm) ?_
  refine ⟨_, rfl, _, _, rfl, rfl, _, rfl, _, _, _, _, rfl, rfl, SqL.of hpnZ, at61, .inl ⟨_, rfl, _, rfl, _, _, rfl, rfl, _, _, rfl, rfl, (by show (0 : Int) < (n : Int) - 1; omega), _, _, rfl, rfl, .inl ⟨_, rfl, _, rfl, _, _, rfl, rfl, (by show (0 : Int) < (n : Int); omega), ?_⟩⟩⟩
  obtain ⟨B0, hB, hBn, hne⟩ : ∃ B0 : Nat, ((A0 : Int) + 1 + x61 % ((n : Int) - 1)) % (n : Int) = (B0 : Int) ∧ B0 < n ∧ A0 ≠ B0 := by
    have h1 := Int.emod_nonneg x61 (show (n : Int) - 1 ≠ 0 by omega)
    have h2 := Int.emod_lt_of_pos x61 (show 0 < (n : Int) - 1 by omega)
    generalize x61 % ((n : Int) - 1) = y at h1 h2
    rcases Nat.lt_or_ge (A0 + 1 + y.toNat) n with c | c
    · exact ⟨A0 + 1 + y.toNat, by rw [Int.emod_eq_of_lt (by omega) (by omega)]; omega, c, by omega⟩
    · refine ⟨A0 + 1 + y.toNat - n, ?_, by omega, by omega⟩
      have e : (A0 : Int) + 1 + y = ((A0 + 1 + y.toNat - n : Nat) : Int) + (n : Int) := by omega
      rw [e, Int.add_emod_right, Int.emod_eq_of_lt (by omega) (by omega)]
  refine gName_tr (congrArg V.int hB.symm) ?_
  -- the rounds
  refine ⟨_, rfl, _, rfl, _, rfl, v, t, A0, B0, n, f1, rfl, hT1, S, St, by omega, hAn, hBn, hne, fun r1 H19 s19 hr1 => ?_⟩
  have hT3 := hT3.keep (Same.tups s19)
  have hq1 := s19 _ _ hq1
  refine ⟨_, rfl, _, rfl, _, rfl, q1, _, _, _, rfl, rfl, hq1, aφ A0 hAn, _, rfl, _, rfl, q1, _, _, _, rfl, rfl, hq1, aφ B0 hBn, .ref p1, .listed n ts, φ A0, φ B0, n, g, rfl, hT3, S3, St3, by omega, J1.lt A0 hAn, J1.lt B0 hBn, fun e => hne (J1.inj A0 B0 hAn hBn e), fun r2 H20 s20 hr2 => ?_⟩
  refine ⟨(roundsOf n f1 A0 B0).map (fun x : Nat => (x : Int)), (roundsOf n g (φ A0) (φ B0)).map (fun x : Nat => (x : Int)), .lst (SqL.of (s20 _ _ hr1)) (dp_ints _), .lst (SqL.of hr2) (dp_ints _), ?_⟩
  rw [roundsOf_iso St J1 hAn hBn]
  rw [decide_eq_true (rfl : (roundsOf n f1 A0 B0).map (fun x : Nat => (x : Int)) = _)]
  exact k _ (Same.trans s3 (Same.trans s4 (Same.trans s5 (Same.trans s57 (Same.trans s8 (Same.trans s9 (Same.trans s10 (Same.trans s11 (Same.trans s12 (Same.trans s13 (Same.trans s14 (Same.trans s15 (Same.trans s16 (Same.trans s17 (Same.trans s18 (Same.trans s19 s20))))))))))))))))
end
end PK
end

section
set_option maxHeartbeats 4000000
namespace PK
open PySem PySem.Spec PyProof.Rows L2
section
variable {P : Program} {w : World} {K : PySem.W.Frag} {mg : Str → Option Value} {base : Heap}
theorem law_rest3 {f : Addr} {cdv : Value} {A : Around} {outer : List Env} {s : Shared} {H : Hp} {E : XK} (T : Txt w K mg) (hr : Room 65 (A.deeper (envOfC "law" (defScope s_law) s.heap.objs.size f cdv))) : ∃ tR, PSs (cxOf CX0 P w K mg base ["_law_script", "_law_numbers_here", "_law_one", "_law_far_one", "_law_other", "_law_third_one", "_law_count_here", "_law_first", "_law_second", "_law_point", "_law_back", "_law_told", "_law_far", "_law_a", "_law_b"] "law" (defScope s_law) f cdv A outer s H E).nox ((defBody s_law).drop 3) tR ∧ ∀ (Q : VK) (a pn : Addr) (ns : List Int) (v : V) (t : Tree) (n : Nat) (f1 : Nat → Nat → Nat) (H2 : Hp), H2 pn = some (.lst (ns.map V.int)) → ns.length = 80 → (∀ x ∈ ns, 0 ≤ x ∧ x < 1009) → TrAt H2 t v → Sys t n f1 → Sts n f1 → 3 ≤ n → n ≤ 15 → (∀ H', Same H2 H' → Q (.bl true) H') →  tR { nx := fun _ H' => Q .non H', rt := Q } [some (.ref a), some (.ref pn), some v, none, none, none, none, none, none, none, none, none, none, none, none] H2 := by
  have F_law_numbers := fc_law_numbers (P := P) (base := base) T
  have F_law_system := fc_law_system (P := P) (base := base) T
  have F_law_count := fc_law_count (P := P) (base := base) T 1
  have F_law_thirteen := fc_law_thirteen (P := P) (base := base) T
  have F_law_mixed := fc_law_mixed (P := P) (base := base) T
  have F_are_alike := fc_are_alike (P := P) (base := base) T
  have F_shows_unlike := fc_shows_unlike (P := P) (base := base) T
  have F_counts_of := fc_counts_of (P := P) (base := base) T
  have F_likeness := fc_likeness (P := P) (base := base) T
  have F_is_likeness := fc_is_likeness (P := P) (base := base) T
  have F_fours := fc_fours (P := P) (base := base) T
  have F_rounds := fc_rounds (P := P) (base := base) T
  obtain ⟨t5, hR5, k5⟩ := law_rest5 (P := P) (base := base) (outer := outer) (s := s) (H := H) (E := E) T hr
  refine ⟨_, (pss_cons (ps_if (pt_cmpR op_eq (pe_op op_mod (pe_callTy call_int1 (by rfl) T.n_int (by decide +kernel) (pa_cons (pe_ix ix_list (pv 1) pe_int (fun _ _ => rfl)) pa_nil)) pe_int) pe_int (nomark _)) (pss_one (ps_set (i := 2) sc_law.nd rfl (Or.inl rfl) (pe_fc F_law_thirteen hr rfl (pa_cons pe_int pa_nil)))) pss_nil)
      (pss_cons (ps_if (pt_cmpR op_eq (pe_op op_mod (pe_callTy call_int1 (by rfl) T.n_int (by decide +kernel) (pa_cons (pe_ix ix_list (pv 1) pe_int (fun _ _ => rfl)) pa_nil)) pe_int) pe_int (nomark _)) (pss_cons (ps_set (i := 3) sc_law.nd rfl (Or.inl rfl) (pe_fc F_law_mixed hr rfl (pa_cons (pe_fc F_law_thirteen hr rfl (pa_cons pe_int pa_nil)) (pa_cons (pv 1) (pa_cons pe_int pa_nil)))))
        (pss_one (ps_ret (pe_and (pe_not (pe_fc F_are_alike hr rfl (pa_cons (pe_tup (pa_cons pe_str (pa_cons pe_int pa_nil))) (pa_cons (pv 3) pa_nil)) (by decide))) (pe_one (pe_cmpR op_isBl (pe_fc F_shows_unlike hr rfl (pa_cons (pe_tup (pa_cons pe_str (pa_cons pe_int pa_nil))) (pa_cons (pv 3) pa_nil))) pe_bl (nomark _))))))) pss_nil)
      hR5)), ?_⟩
  intro Q a pn ns v t n f1 H2 hpn h80 hns hT S St h3 h15 k
  have at62 : atI (ns.map V.int) 62 = some (.int (ns[62]'(by omega))) := atI_nat (j := 62) (by rw [List.getElem?_map, List.getElem?_eq_getElem (by omega)]; rfl)
  generalize (ns[62]'(by omega)) = x62 at at62
  refine ⟨_, rfl, _, _, _, _, rfl, rfl, SqL.of hpn, at62, .inl ⟨_, rfl, _, _, rfl, rfl, (by show (0 : Int) < 4; decide), rfl, _, rfl, ?_⟩⟩
  by_cases c2 : x62 % 4 = 2
  · refine ite_yes (decide_eq_true (congrArg V.int c2)) ?_
    refine ⟨rfl, fun v3 H3 s3 hT3 => ?_⟩
    refine ⟨_, rfl, _, _, _, _, rfl, rfl, SqL.of (s3 _ _ hpn), at62, .inl ⟨_, rfl, _, _, rfl, rfl, (by show (0 : Int) < 4; decide), rfl, _, rfl, ?_⟩⟩
    refine ite_no (decide_eq_false fun e => ?_) ?_
    · have := V.int.inj e
      omega
    · exact k5 Q a pn ns v3 _ 13 _ H3 (s3 _ _ hpn) h80 hns hT3 sys_t13 sts_t13 (by omega) (by omega) fun H' s' => k H' (Same.trans s3 s')
  · refine ite_no (decide_eq_false fun e => c2 (V.int.inj e)) ?_
    refine ⟨_, rfl, _, _, _, _, rfl, rfl, SqL.of hpn, at62, .inl ⟨_, rfl, _, _, rfl, rfl, (by show (0 : Int) < 4; decide), rfl, _, rfl, ?_⟩⟩
    by_cases c1 : x62 % 4 = 1
    · refine ite_yes (decide_eq_true (congrArg V.int c1)) ?_
      refine ⟨rfl, fun v3 H3 s3 hT3 => ?_⟩
      refine ⟨_, rfl, v3, _, 13, _, pn, ns, 22, rfl, hT3, sys_t13, sts_t13, by omega, by omega, s3 _ _ hpn, h80, hns, by omega, fun p1 π H4 s4 hl hi hT4 => ?_⟩
      have I1 := conj_iso (f := tabF (.listed 13 t13L)) hl hi
      have S4 := sys_mix sts_t13 hl hi (by omega) (by omega)
      have St4 := I1.sts sts_t13
      have cu := counts_unlike unlike13
      rw [counts_iso sts_t13 I1] at cu
      have nu : ∀ ψ, Iso 13 (tabF (.skolem 13)) (conj 13 (tabF (.listed 13 t13L)) π) ψ → False := fun ψ J => unlike13 ((foursOf_perm sts_sk13 J).trans (foursOf_perm sts_t13 I1).symm)
      generalize conj 13 (tabF (.listed 13 t13L)) π = g at I1 S4 St4 cu nu
      generalize mixT 13 (tabF (.listed 13 t13L)) π = ts at hT4 S4
      have sm := Same.trans s3 s4
      refine ⟨(by show 2 ≤ sizeLine; decide), fun q1 hq1 => ?_⟩
      have w1 := Same.new (o := .tup [.str "skolem", .int 13]) hq1
      have t1 : TrAt (upd H4 q1 (.tup [.str "skolem", .int 13])) (.skolem 13) (.ref q1) := ⟨q1, rfl, upd_same⟩
      have hT4 := hT4.keep (Same.tups w1)
      have sm := Same.trans sm w1
      generalize upd H4 q1 (.tup [.str "skolem", .int 13]) = H5 at sm t1 hT4 ⊢
      refine ⟨_, rfl, .ref q1, .skolem 13, .ref p1, .listed 13 ts, 13, _, g, rfl, t1, sys_sk13, sts_sk13, by omega, hT4, S4, St4, fun _ H6 s6 => ?_, fun ψ _ _ J => (nu ψ J).elim⟩
      have hT4 := hT4.keep (Same.tups s6)
      have sm := Same.trans sm s6
      refine ⟨false, rfl, _, rfl, ite_yes rfl ?_⟩
      refine ⟨(by show 2 ≤ sizeLine; decide), fun q2 hq2 => ?_⟩
      have w2 := Same.new (o := .tup [.str "skolem", .int 13]) hq2
      have t2 : TrAt (upd H6 q2 (.tup [.str "skolem", .int 13])) (.skolem 13) (.ref q2) := ⟨q2, rfl, upd_same⟩
      have hT4 := hT4.keep (Same.tups w2)
      have sm := Same.trans sm w2
      generalize upd H6 q2 (.tup [.str "skolem", .int 13]) = H7 at sm t2 hT4 ⊢
      refine ⟨_, rfl, .ref q2, .skolem 13, .ref p1, .listed 13 ts, 13, 13, _, g, rfl, t2, sys_sk13, sts_sk13, by omega, hT4, S4, St4, by omega, fun H8 s8 => ?_⟩
      rw [decide_eq_true cu]
      exact ⟨true, true, rfl, rfl, k _ (Same.trans sm s8)⟩
    · refine ite_no (decide_eq_false fun e => c1 (V.int.inj e)) ?_
      exact k5 Q a pn ns v t n f1 H2 hpn h80 hns hT S St h3 h15 k
end
end PK
end

section
set_option maxHeartbeats 4000000
namespace PK
open PySem PySem.Spec PyProof.Rows L2
section
variable {P : Program} {w : World} {K : PySem.W.Frag} {mg : Str → Option Value} {base : Heap}
theorem law_rest2 {f : Addr} {cdv : Value} {A : Around} {outer : List Env} {s : Shared} {H : Hp} {E : XK} (T : Txt w K mg) (hr : Room 65 (A.deeper (envOfC "law" (defScope s_law) s.heap.objs.size f cdv))) : ∃ tR, PSs (cxOf CX0 P w K mg base ["_law_script", "_law_numbers_here", "_law_one", "_law_far_one", "_law_other", "_law_third_one", "_law_count_here", "_law_first", "_law_second", "_law_point", "_law_back", "_law_told", "_law_far", "_law_a", "_law_b"] "law" (defScope s_law) f cdv A outer s H E).nox ((defBody s_law).drop 2) tR ∧ ∀ (Q : VK) (a pn : Addr) (ns : List Int) (v : V) (t : Tree) (n : Nat) (f1 : Nat → Nat → Nat) (H2 : Hp), H2 pn = some (.lst (ns.map V.int)) → ns.length = 80 → (∀ x ∈ ns, 0 ≤ x ∧ x < 1009) → TrAt H2 t v → Sys t n f1 → Sts n f1 → 3 ≤ n → n ≤ 15 → (∀ H', Same H2 H' → Q (.bl true) H') →  tR { nx := fun _ H' => Q .non H', rt := Q } [some (.ref a), some (.ref pn), some v, none, none, none, none, none, none, none, none, none, none, none, none] H2 := by
  have F_law_numbers := fc_law_numbers (P := P) (base := base) T
  have F_law_system := fc_law_system (P := P) (base := base) T
  have F_law_count := fc_law_count (P := P) (base := base) T 1
  have F_law_thirteen := fc_law_thirteen (P := P) (base := base) T
  have F_law_mixed := fc_law_mixed (P := P) (base := base) T
  have F_are_alike := fc_are_alike (P := P) (base := base) T
  have F_shows_unlike := fc_shows_unlike (P := P) (base := base) T
  have F_counts_of := fc_counts_of (P := P) (base := base) T
  have F_likeness := fc_likeness (P := P) (base := base) T
  have F_is_likeness := fc_is_likeness (P := P) (base := base) T
  have F_fours := fc_fours (P := P) (base := base) T
  have F_rounds := fc_rounds (P := P) (base := base) T
  obtain ⟨t3, hR3, k3⟩ := law_rest3 (P := P) (base := base) (outer := outer) (s := s) (H := H) (E := E) T hr
  refine ⟨_, (pss_cons (ps_if (pt_cmpR op_gt (pe_fc F_law_count hr rfl (pa_cons (pv 2) pa_nil)) pe_int (nomark _)) (pss_one (ps_set (i := 2) sc_law.nd rfl (Or.inl rfl) (pe_tup (pa_cons pe_str (pa_cons pe_int pa_nil))))) pss_nil)
      hR3), ?_⟩
  intro Q a pn ns v t n f1 H2 hpn h80 hns hT S St h3 h15 k
  refine ⟨_, rfl, v, t, rfl, hT, S.dep, bd_of S.ok, ?_⟩
  rw [S.size]
  refine ⟨_, _, rfl, rfl, _, rfl, ?_⟩
  by_cases c : 13 < n
  · refine ite_yes (decide_eq_true (show (13 : Int) < (n : Int) by omega)) ?_
    refine ⟨(by show 2 ≤ sizeLine; decide), fun q1 hq1 => ?_⟩
    have w1 := Same.new (o := .tup [.str "bose", .int 9]) hq1
    have t1 : TrAt (upd H2 q1 (.tup [.str "bose", .int 9])) (.bose 9) (.ref q1) := ⟨q1, rfl, upd_same⟩
    have hpn := w1 _ _ hpn
    have k : ∀ H', Same (upd H2 q1 (.tup [.str "bose", .int 9])) H' → Q (.bl true) H' := fun H' s' => k H' (Same.trans w1 s')
    generalize upd H2 q1 (.tup [.str "bose", .int 9]) = H3 at t1 hpn k ⊢
    exact k3 Q a pn ns _ _ 9 _ H3 hpn h80 hns t1 sys_bose9 sts_bose9 (by omega) (by omega) k
  · refine ite_no (decide_eq_false (show ¬ (13 : Int) < (n : Int) by omega)) ?_
    exact k3 Q a pn ns v t n f1 H2 hpn h80 hns hT S St h3 h15 k
end
end PK
end

section
set_option maxHeartbeats 4000000
namespace PK
open PySem PySem.Spec PyProof.Rows L2
section
variable {P : Program} {w : World} {K : PySem.W.Frag} {mg : Str → Option Value} {base : Heap}
def spLaw (K : PySem.W.Frag) : Sp := fun vs H Q _ => ∃ (a : Addr) (ns0 : List Int), vs = [.ref a] ∧ SqL K H a (ns0.map V.int) ∧ ns0.length ≤ 63 ∧ ∀ H', Same H H' → Q (.bl true) H'
theorem mk_ok {x : Str} {st : Stmt} {N ps : List Str} {k : Nat} {sp : Sp} {f : Addr} {fd : FuncData} (F : FnP K x st f fd) (S : FnScope N ps (defScope st))
    (len : ∀ vs H Q E, sp vs H Q E → vs.length = ps.length)
    (hbody : ∀ (f : Addr) (cdv : Value) (A : Around) (outer : List Env) (s : Shared) (H : Hp) (vs : List V) (Q : VK) (E : XK), Room k (A.deeper (envOfC x (defScope st) s.heap.objs.size f cdv)) → sp vs H Q E →
      ∃ t, PSs (cxOf CX0 P w K mg base N x (defScope st) f cdv A outer s H E).nox (defBody st) t ∧ t { nx := fun _ H' => Q .non H', rt := Q } (start N vs) H) : FnOk P w K mg base CX0 (k + 1) f fd ps sp :=
  F.ok S len fun cdv A outer s H vs Q E hr hsp => by
    obtain ⟨t, h, q⟩ := hbody f cdv A outer s H vs Q E hr hsp
    exact ⟨t, h.nox, q⟩
theorem ok_law {fL : Addr} {fdL : FuncData} (T : Txt w K mg) (FL : FnP K "law" s_law fL fdL) : FnOk P w K mg base CX0 66 fL fdL ["_law_script"] (spLaw K) := by
  have F_law_numbers := fc_law_numbers (P := P) (base := base) T
  have F_law_system := fc_law_system (P := P) (base := base) T
  have F_law_count := fc_law_count (P := P) (base := base) T 1
  have F_law_thirteen := fc_law_thirteen (P := P) (base := base) T
  have F_law_mixed := fc_law_mixed (P := P) (base := base) T
  have F_are_alike := fc_are_alike (P := P) (base := base) T
  have F_shows_unlike := fc_shows_unlike (P := P) (base := base) T
  have F_counts_of := fc_counts_of (P := P) (base := base) T
  have F_likeness := fc_likeness (P := P) (base := base) T
  have F_is_likeness := fc_is_likeness (P := P) (base := base) T
  have F_fours := fc_fours (P := P) (base := base) T
  have F_rounds := fc_rounds (P := P) (base := base) T
  refine mk_ok FL sc_law (fun vs H Q E h => ?_) (fun f cdv A outer s H vs Q E hr h => ?_)
  · obtain ⟨a, ns0, rfl, _⟩ := h
    rfl
  · obtain ⟨a, ns0, rfl, ha, h63, k⟩ := h
    obtain ⟨t2, hR2, k2⟩ := law_rest2 (P := P) (base := base) (outer := outer) (s := s) (H := H) (E := E) T hr
    refine ⟨_, (pss_cons (ps_set (i := 1) sc_law.nd rfl (Or.inl rfl) (pe_fc F_law_numbers hr rfl (pa_cons (pv 0) (pa_cons pe_int pa_nil))))
      (pss_cons (ps_set (i := 2) sc_law.nd rfl (Or.inl rfl) (pe_fc F_law_system hr rfl (pa_cons (pv 1) (pa_cons pe_int pa_nil))))
      hR2)), ?_⟩
    refine st_is (σ := [some _, none, none, none, none, none, none, none, none, none, none, none, none, none, none]) rfl ?_
    refine ⟨_, rfl, a, ns0, rfl, ha, h63, fun pn ns H1 s1 hpn h80 hns => ?_⟩
    refine ⟨_, rfl, pn, ns, rfl, hpn, h80, hns, fun v t n f1 H2 s2 hT S St h3 h15 => ?_⟩
    exact k2 Q a pn ns v t n f1 H2 (s2 _ _ hpn) h80 hns hT S St h3 h15 fun H' s' => k H' (Same.trans s1 (Same.trans s2 s'))
end
end PK
end

section
namespace PK
open PySem PySem.Spec PyProof.Rows L2
theorem txt {w : World} {K : PySem.W.Frag} {h : Heap} {mg : Str → Option Value} (X : K.In h) (G : h.Ns mainGlobals mg) (c : He.SaysX faL fnL tsL [] exL w h K) : Txt w K mg where
  n_abs := He.free_ok X G (c.t.d.fact 47 (f := .free "abs") rfl)
  n_all := He.free_ok X G (c.t.d.fact 48 (f := .free "all") rfl)
  n_bool := He.free_ok X G (c.t.d.fact 49 (f := .free "bool") rfl)
  n_dict := He.free_ok X G (c.t.d.fact 50 (f := .free "dict") rfl)
  n_enumerate := He.free_ok X G (c.t.d.fact 51 (f := .free "enumerate") rfl)
  n_int := He.free_ok X G (c.t.d.fact 52 (f := .free "int") rfl)
  n_isinstance := He.free_ok X G (c.t.d.fact 53 (f := .free "isinstance") rfl)
  n_len := He.free_ok X G (c.t.d.fact 54 (f := .free "len") rfl)
  n_list := He.free_ok X G (c.t.d.fact 55 (f := .free "list") rfl)
  n_max := He.free_ok X G (c.t.d.fact 56 (f := .free "max") rfl)
  n_min := He.free_ok X G (c.t.d.fact 57 (f := .free "min") rfl)
  n_range := He.free_ok X G (c.t.d.fact 58 (f := .free "range") rfl)
  n_sorted := He.free_ok X G (c.t.d.fact 59 (f := .free "sorted") rfl)
  n_str := He.free_ok X G (c.t.d.fact 60 (f := .free "str") rfl)
  n_sum := He.free_ok X G (c.t.d.fact 61 (f := .free "sum") rfl)
  n_tuple := He.free_ok X G (c.t.d.fact 62 (f := .free "tuple") rfl)
  i_MOST_POINTS := He.int_ok X G (c.t.d.fact 63 (f := .int "MOST_POINTS" 1000000000000000000000000000000) rfl)
  i_MOST_PARTS := He.int_ok X G (c.t.d.fact 64 (f := .int "MOST_PARTS" 12) rfl)
  i_MOST_LISTED := He.int_ok X G (c.t.d.fact 65 (f := .int "MOST_LISTED" 60) rfl)
  i_MOST_AFFINE := He.int_ok X G (c.t.d.fact 66 (f := .int "MOST_AFFINE" 60) rfl)
  i_MOST_BINARY := He.int_ok X G (c.t.d.fact 67 (f := .int "MOST_BINARY" 99) rfl)
  i_LEVELS := He.int_ok X G (c.t.d.fact 68 (f := .int "LEVELS" 3) rfl)
  i_MOST_SMALL := He.int_ok X G (c.t.d.fact 69 (f := .int "MOST_SMALL" 60) rfl)
  arms := by
    obtain ⟨es, n, kd⟩ := c.t.tab 0 rfl
    have v : ∀ q ∈ armL, ∃ u, PySem.W.nsIn K (He.ga K "ARMS") q.1 = some (some u) ∧ RelV (q.2.v K) u := fun q hq => He.valsB_ok (K := K) (kvs := armL) c.more hq
    have v0 : ∃ t, PySem.W.nsIn K (He.ga K "ARMS") "bose" = some (some (.int 0 t)) := by
      obtain ⟨u, e, t, r⟩ := v ("bose", .int 0) (by simp [armL])
      exact ⟨t, r ▸ e⟩
    have v1 : ∃ t, PySem.W.nsIn K (He.ga K "ARMS") "skolem" = some (some (.int 0 t)) := by
      obtain ⟨u, e, t, r⟩ := v ("skolem", .int 0) (by simp [armL])
      exact ⟨t, r ▸ e⟩
    have v2 : ∃ t, PySem.W.nsIn K (He.ga K "ARMS") "affine" = some (some (.int 0 t)) := by
      obtain ⟨u, e, t, r⟩ := v ("affine", .int 0) (by simp [armL])
      exact ⟨t, r ▸ e⟩
    have v3 : ∃ t, PySem.W.nsIn K (He.ga K "ARMS") "binary" = some (some (.int 0 t)) := by
      obtain ⟨u, e, t, r⟩ := v ("binary", .int 0) (by simp [armL])
      exact ⟨t, r ▸ e⟩
    have v4 : ∃ t, PySem.W.nsIn K (He.ga K "ARMS") "listed" = some (some (.int 0 t)) := by
      obtain ⟨u, e, t, r⟩ := v ("listed", .int 0) (by simp [armL])
      exact ⟨t, r ▸ e⟩
    have v5 : ∃ t, PySem.W.nsIn K (He.ga K "ARMS") "double" = some (some (.int 1 t)) := by
      obtain ⟨u, e, t, r⟩ := v ("double", .int 1) (by simp [armL])
      exact ⟨t, r ▸ e⟩
    have v6 : ∃ t, PySem.W.nsIn K (He.ga K "ARMS") "product" = some (some (.int 2 t)) := by
      obtain ⟨u, e, t, r⟩ := v ("product", .int 2) (by simp [armL])
      exact ⟨t, r ▸ e⟩
    exact ⟨_, es, n, He.glo_ok X G (c.t.d.fact 45 (f := .glo "ARMS") rfl), kd, v0, v1, v2, v3, v4, v5, v6⟩
  d_is_row := by
    obtain ⟨fd, F⟩ := c.t.d.def_ 0 (d := h_is_row) rfl
    exact ⟨_, fd, He.glo_ok X G (c.t.d.fact 0 (f := .glo "is_row") rfl), F⟩
  d_is_integer := by
    obtain ⟨fd, F⟩ := c.t.d.def_ 1 (d := h_is_integer) rfl
    exact ⟨_, fd, He.glo_ok X G (c.t.d.fact 1 (f := .glo "is_integer") rfl), F⟩
  d_require := by
    obtain ⟨fd, F⟩ := c.t.d.def_ 2 (d := h_require) rfl
    exact ⟨_, fd, He.glo_ok X G (c.t.d.fact 2 (f := .glo "require") rfl), F⟩
  d_checked_threes := by
    obtain ⟨fd, F⟩ := c.t.d.def_ 3 (d := h_checked_threes) rfl
    exact ⟨_, fd, He.glo_ok X G (c.t.d.fact 3 (f := .glo "checked_threes") rfl), F⟩
  d_checked_leaf := by
    obtain ⟨fd, F⟩ := c.t.d.def_ 4 (d := h_checked_leaf) rfl
    exact ⟨_, fd, He.glo_ok X G (c.t.d.fact 4 (f := .glo "checked_leaf") rfl), F⟩
  d_checked_part := by
    obtain ⟨fd, F⟩ := c.t.d.def_ 5 (d := h_checked_part) rfl
    exact ⟨_, fd, He.glo_ok X G (c.t.d.fact 5 (f := .glo "checked_part") rfl), F⟩
  d_checked := by
    obtain ⟨fd, F⟩ := c.t.d.def_ 6 (d := h_checked) rfl
    exact ⟨_, fd, He.glo_ok X G (c.t.d.fact 6 (f := .glo "checked") rfl), F⟩
  d_size_of := by
    obtain ⟨fd, F⟩ := c.t.d.def_ 7 (d := h_size_of) rfl
    exact ⟨_, fd, He.glo_ok X G (c.t.d.fact 7 (f := .glo "size_of") rfl), F⟩
  d_power_of := by
    obtain ⟨fd, F⟩ := c.t.d.def_ 8 (d := h_power_of) rfl
    exact ⟨_, fd, He.glo_ok X G (c.t.d.fact 8 (f := .glo "power_of") rfl), F⟩
  d_third_of := by
    obtain ⟨fd, F⟩ := c.t.d.def_ 9 (d := h_third_of) rfl
    exact ⟨_, fd, He.glo_ok X G (c.t.d.fact 9 (f := .glo "third_of") rfl), F⟩
  d_both := by
    obtain ⟨fd, F⟩ := c.t.d.def_ 10 (d := h_both) rfl
    exact ⟨_, fd, He.glo_ok X G (c.t.d.fact 10 (f := .glo "both") rfl), F⟩
  d_point_at := by
    obtain ⟨fd, F⟩ := c.t.d.def_ 11 (d := h_point_at) rfl
    exact ⟨_, fd, He.glo_ok X G (c.t.d.fact 11 (f := .glo "point_at") rfl), F⟩
  d_in_order := by
    obtain ⟨fd, F⟩ := c.t.d.def_ 12 (d := h_in_order) rfl
    exact ⟨_, fd, He.glo_ok X G (c.t.d.fact 12 (f := .glo "in_order") rfl), F⟩
  d_third_in_bose := by
    obtain ⟨fd, F⟩ := c.t.d.def_ 13 (d := h_third_in_bose) rfl
    exact ⟨_, fd, He.glo_ok X G (c.t.d.fact 13 (f := .glo "third_in_bose") rfl), F⟩
  d_half_of := by
    obtain ⟨fd, F⟩ := c.t.d.def_ 14 (d := h_half_of) rfl
    exact ⟨_, fd, He.glo_ok X G (c.t.d.fact 14 (f := .glo "half_of") rfl), F⟩
  d_twice_of := by
    obtain ⟨fd, F⟩ := c.t.d.def_ 15 (d := h_twice_of) rfl
    exact ⟨_, fd, He.glo_ok X G (c.t.d.fact 15 (f := .glo "twice_of") rfl), F⟩
  d_third_in_skolem := by
    obtain ⟨fd, F⟩ := c.t.d.def_ 16 (d := h_third_in_skolem) rfl
    exact ⟨_, fd, He.glo_ok X G (c.t.d.fact 16 (f := .glo "third_in_skolem") rfl), F⟩
  d_figures_apart := by
    obtain ⟨fd, F⟩ := c.t.d.def_ 17 (d := h_figures_apart) rfl
    exact ⟨_, fd, He.glo_ok X G (c.t.d.fact 17 (f := .glo "figures_apart") rfl), F⟩
  d_third_in_double := by
    obtain ⟨fd, F⟩ := c.t.d.def_ 18 (d := h_third_in_double) rfl
    exact ⟨_, fd, He.glo_ok X G (c.t.d.fact 18 (f := .glo "third_in_double") rfl), F⟩
  d_third_in_product := by
    obtain ⟨fd, F⟩ := c.t.d.def_ 19 (d := h_third_in_product) rfl
    exact ⟨_, fd, He.glo_ok X G (c.t.d.fact 19 (f := .glo "third_in_product") rfl), F⟩
  d_table_of := by
    obtain ⟨fd, F⟩ := c.t.d.def_ 20 (d := h_table_of) rfl
    exact ⟨_, fd, He.glo_ok X G (c.t.d.fact 20 (f := .glo "table_of") rfl), F⟩
  d_is_likeness := by
    obtain ⟨fd, F⟩ := c.t.d.def_ 21 (d := h_is_likeness) rfl
    exact ⟨_, fd, He.glo_ok X G (c.t.d.fact 21 (f := .glo "is_likeness") rfl), F⟩
  d_closure_in := by
    obtain ⟨fd, F⟩ := c.t.d.def_ 22 (d := h_closure_in) rfl
    exact ⟨_, fd, He.glo_ok X G (c.t.d.fact 22 (f := .glo "closure_in") rfl), F⟩
  d_base_in := by
    obtain ⟨fd, F⟩ := c.t.d.def_ 23 (d := h_base_in) rfl
    exact ⟨_, fd, He.glo_ok X G (c.t.d.fact 23 (f := .glo "base_in") rfl), F⟩
  d_searched := by
    obtain ⟨fd, F⟩ := c.t.d.def_ 24 (d := h_searched) rfl
    exact ⟨_, fd, He.glo_ok X G (c.t.d.fact 24 (f := .glo "searched") rfl), F⟩
  d_likeness := by
    obtain ⟨fd, F⟩ := c.t.d.def_ 25 (d := h_likeness) rfl
    exact ⟨_, fd, He.glo_ok X G (c.t.d.fact 25 (f := .glo "likeness") rfl), F⟩
  d_are_alike := by
    obtain ⟨fd, F⟩ := c.t.d.def_ 26 (d := h_are_alike) rfl
    exact ⟨_, fd, He.glo_ok X G (c.t.d.fact 26 (f := .glo "are_alike") rfl), F⟩
  d_fours_at := by
    obtain ⟨fd, F⟩ := c.t.d.def_ 27 (d := h_fours_at) rfl
    exact ⟨_, fd, He.glo_ok X G (c.t.d.fact 27 (f := .glo "fours_at") rfl), F⟩
  d_fours := by
    obtain ⟨fd, F⟩ := c.t.d.def_ 28 (d := h_fours) rfl
    exact ⟨_, fd, He.glo_ok X G (c.t.d.fact 28 (f := .glo "fours") rfl), F⟩
  d_rounds_in := by
    obtain ⟨fd, F⟩ := c.t.d.def_ 29 (d := h_rounds_in) rfl
    exact ⟨_, fd, He.glo_ok X G (c.t.d.fact 29 (f := .glo "rounds_in") rfl), F⟩
  d_rounds := by
    obtain ⟨fd, F⟩ := c.t.d.def_ 30 (d := h_rounds) rfl
    exact ⟨_, fd, He.glo_ok X G (c.t.d.fact 30 (f := .glo "rounds") rfl), F⟩
  d_all_rounds := by
    obtain ⟨fd, F⟩ := c.t.d.def_ 31 (d := h_all_rounds) rfl
    exact ⟨_, fd, He.glo_ok X G (c.t.d.fact 31 (f := .glo "all_rounds") rfl), F⟩
  d_counts_of := by
    obtain ⟨fd, F⟩ := c.t.d.def_ 32 (d := h_counts_of) rfl
    exact ⟨_, fd, He.glo_ok X G (c.t.d.fact 32 (f := .glo "counts_of") rfl), F⟩
  d_shows_unlike := by
    obtain ⟨fd, F⟩ := c.t.d.def_ 33 (d := h_shows_unlike) rfl
    exact ⟨_, fd, He.glo_ok X G (c.t.d.fact 33 (f := .glo "shows_unlike") rfl), F⟩
  d_law_row := by
    obtain ⟨fd, F⟩ := c.t.d.def_ 34 (d := h_law_row) rfl
    exact ⟨_, fd, He.glo_ok X G (c.t.d.fact 34 (f := .glo "_law_row") rfl), F⟩
  d_law_numbers := by
    obtain ⟨fd, F⟩ := c.t.d.def_ 35 (d := h_law_numbers) rfl
    exact ⟨_, fd, He.glo_ok X G (c.t.d.fact 35 (f := .glo "_law_numbers") rfl), F⟩
  d_law_count := by
    obtain ⟨fd, F⟩ := c.t.d.def_ 36 (d := h_law_count) rfl
    exact ⟨_, fd, He.glo_ok X G (c.t.d.fact 36 (f := .glo "_law_count") rfl), F⟩
  d_law_threes := by
    obtain ⟨fd, F⟩ := c.t.d.def_ 37 (d := h_law_threes) rfl
    exact ⟨_, fd, He.glo_ok X G (c.t.d.fact 37 (f := .glo "_law_threes") rfl), F⟩
  d_law_built := by
    obtain ⟨fd, F⟩ := c.t.d.def_ 38 (d := h_law_built) rfl
    exact ⟨_, fd, He.glo_ok X G (c.t.d.fact 38 (f := .glo "_law_built") rfl), F⟩
  d_law_third := by
    obtain ⟨fd, F⟩ := c.t.d.def_ 39 (d := h_law_third) rfl
    exact ⟨_, fd, He.glo_ok X G (c.t.d.fact 39 (f := .glo "_law_third") rfl), F⟩
  d_law_table := by
    obtain ⟨fd, F⟩ := c.t.d.def_ 40 (d := h_law_table) rfl
    exact ⟨_, fd, He.glo_ok X G (c.t.d.fact 40 (f := .glo "_law_table") rfl), F⟩
  d_law_system := by
    obtain ⟨fd, F⟩ := c.t.d.def_ 41 (d := h_law_system) rfl
    exact ⟨_, fd, He.glo_ok X G (c.t.d.fact 41 (f := .glo "_law_system") rfl), F⟩
  d_law_mixed := by
    obtain ⟨fd, F⟩ := c.t.d.def_ 42 (d := h_law_mixed) rfl
    exact ⟨_, fd, He.glo_ok X G (c.t.d.fact 42 (f := .glo "_law_mixed") rfl), F⟩
  d_law_thirteen := by
    obtain ⟨fd, F⟩ := c.t.d.def_ 43 (d := h_law_thirteen) rfl
    exact ⟨_, fd, He.glo_ok X G (c.t.d.fact 43 (f := .glo "_law_thirteen") rfl), F⟩
  d_law := by
    obtain ⟨fd, F⟩ := c.t.d.def_ 44 (d := h_law) rfl
    exact ⟨_, fd, He.glo_ok X G (c.t.d.fact 44 (f := .glo "law") rfl), F⟩
  search := by
    obtain ⟨fd0, F0⟩ := c.t.d.def_ 45 (d := h_Search_init) rfl
    obtain ⟨fd1, F1⟩ := c.t.d.def_ 46 (d := h_Search_with_image) rfl
    obtain ⟨fd2, F2⟩ := c.t.d.def_ 47 (d := h_Search_go) rfl
    exact ⟨_, _, _, _, fd0, fd1, fd2, He.glo_ok X G (c.t.d.fact 46 (f := .glo "Search") rfl), He.cls_ok (c.t.d.fact 70 (f := .cls "Search") rfl), ⟨He.noat_ok (c.t.d.fact 71 (f := .noat "Search" "table") rfl), He.noat_ok (c.t.d.fact 72 (f := .noat "Search" "far") rfl), He.noat_ok (c.t.d.fact 73 (f := .noat "Search" "limit") rfl), He.noat_ok (c.t.d.fact 74 (f := .noat "Search" "base") rfl), He.noat_ok (c.t.d.fact 75 (f := .noat "Search" "found") rfl)⟩, He.mkr_ok (c.t.d.fact 78 (f := .mkr "Search") rfl), He.meth_ok (c.t.d.fact 76 (f := .meth "Search" "with_image") rfl), He.meth_ok (c.t.d.fact 77 (f := .meth "Search" "go") rfl), F0, F1, F2⟩
end PK
end

section
set_option maxHeartbeats 0
namespace PK
open PySem PySem.Spec PyProof.Rows L2
theorem law_ok {w : World} {K : PySem.W.Frag} {h : Heap} {mg : Str → Option Value} {f : Addr} (X : K.In h) (G : h.Ns mainGlobals mg) (hfa : mg ("law" : Str) = some (.ref f)) (c : He.SaysX faL fnL tsL [] exL w h K) :
    ∃ fd : FuncData, (∀ (s : Shared) (v : Value), BindsTo s fd ⟨[v], []⟩ [("_law_script", v)]) ∧ ∀ base : Heap, K.In base → base.Ns mainGlobals mg → FnOk (PySem.Challenge.rw_paironce_k77_whole_likenesses).prog w K mg base CX0 66 f fd ["_law_script"] (spLaw K) := by
  have T := txt X G c
  obtain ⟨f', fd', e', F'⟩ := T.d_law
  rw [hfa] at e'
  cases e'
  have b := FunD.bindsA (ps := ["_law_script"]) F' fun _ _ _ _ _ _ us hl => match us, hl with | [_], _ => rfl
  exact ⟨fd', fun s v => b s [v] rfl, fun base _ _ => ok_law T F'⟩
end PK
open PySem PySem.W PySem.Calls PyProof.Rows
theorem PySem.Challenge.cw_paironce_k77_whole_likenesses_holds : PySem.Challenge.rw_paironce_k77_whole_likenesses.Holds := by
  w_on; o_law
  refine HandSHeadRun.head_any (r := PK.R) (q := view PK.R.prog [64]) (H := PK.hk) (ob := PK.ob) (M := 4000) (loose := PK.looseL) (d := HandSHeadRun.topDef PK.R.prog 64) (kwd := []) PK.ob_eq
    (by kernel_rfl) (fun s => by kernel_rfl) PK.run (by kernel_rfl) (by kernel_rfl) (by kernel_rfl) (by rfl) (by first | assumption | decide +kernel) (by decide +kernel) ⟨rfl, rfl, rfl, rfl, rfl, by decide +kernel⟩ ?hw ?hc
  case hw => w_witness2
  case hc =>
    refine L2.walk_ofE (l := PySem.Challenge.rw_paironce_k77_whole_likenesses) (n := 63) (k := 66) (x := "_law_script") (CX := L2.CX0) rfl (by decide) (by kernel_rfl) ⟨rfl, by decide, by decide⟩ ?F (fun _ _ _ _ z => z)
    intro w mg fa h Y G hmg0
    obtain ⟨K, KX, c⟩ := Y
    have hmg : mg ("law" : PySem.Str) = some (.ref fa) := by
      have e : (HandSHeadRun.topDef PK.R.prog 64).name = ("law" : PySem.Str) := by kernel_rfl
      rw [← e]
      exact hmg0
    obtain ⟨fd, hb, hF⟩ := PK.law_ok KX G hmg c
    exact ⟨K, fd, PK.spLaw K, KX, hb, fun H a ns hl _ hS => ⟨a, ns, rfl, hS, hl, fun _ _ => rfl⟩, hF⟩
end
