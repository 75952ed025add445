import PyProof.Rows.All
import Wide.All
import OpenK.AllK
import Wide.FinOn
import KE.KStateDown
import Lean
import HandS.Base
import HandS.Call
import HandS.Ends
import HandS.More
import HandS.Words
import HandS.WordsExc
import HandS.Defaults
import HandS.Head0
import HandS.Head1
import HandS.Head2
import HandS.HeadEnd
import HandS.HeadHook1
import HandS.HeadHook2
import HandS.ForMost
import HandS.IsInst
import HandS.Property
import PyProof.NeKinds
import KE.DatumMoreOrd
import KE.SortData
import HandS.SortInts
import HandS.OwnEq
import HandS.Strs
import HandS.Walk
import HandS.TupAny
import HandS.SetFor
import HandS.Remove
import HandS.DictComp
import HandS.Conv
import HandS.WideBits
import HandS.RaiseMore
import KE.DatumIndex
import PyProof.ReprRoads
import PyProof.ReprReads
import KE.DatumMore
import HandS.Rev
import HandS.Flow
import HandS.Style
import PyProof.ListStr
import PySem.Challenge.RW_elderlink_k22_whole_normal_and_counted
set_option Elab.async false
set_option linter.all false
set_option maxRecDepth 100000
set_option maxHeartbeats 0
namespace Elk
open PySem PySem.Spec PyProof.Rows L2
/-! ### the text by places -/
def top (i : Nat) : Stmt := PySem.Challenge.pw_elderlink_k22_whole_normal_and_counted.main.body.getD i (.Pass ⟨0, 0, 0, 0⟩)
abbrev s_is_name : Stmt := top 12
abbrev s_is_count : Stmt := top 13
abbrev s_are_names : Stmt := top 14
abbrev s_Asker_init : Stmt := inClass (top 15) 0
abbrev s_Asker_name : Stmt := inClass (top 15) 1
abbrev s_Asker_fits : Stmt := inClass (top 15) 2
abbrev s_Asker_eq : Stmt := inClass (top 15) 4
abbrev s_check_asker : Stmt := top 16
abbrev s_check_line : Stmt := top 17
abbrev s_check_count : Stmt := top 18
abbrev s_Line_init : Stmt := inClass (top 19) 0
abbrev s_Line_eq : Stmt := inClass (top 19) 1
abbrev s_Line_askers : Stmt := inClass (top 19) 3
abbrev s_Line_names : Stmt := inClass (top 19) 4
abbrev s_Line_place : Stmt := inClass (top 19) 6
abbrev s_Line_asker : Stmt := inClass (top 19) 7
abbrev s_Line_without : Stmt := inClass (top 19) 8
abbrev s_Line_put_in : Stmt := inClass (top 19) 9
abbrev s_Line_moved : Stmt := inClass (top 19) 10
abbrev s_Line_ordered : Stmt := inClass (top 19) 12
abbrev s_check_known : Stmt := top 20
abbrev s_have_kind : Stmt := top 22
abbrev s_trees_of : Stmt := top 23
abbrev s_names_at : Stmt := top 24
abbrev s_group : Stmt := top 25
abbrev s_row_between : Stmt := top 26
abbrev s_chain : Stmt := top 27
abbrev s_parents_by_name : Stmt := top 28
abbrev s_check_same : Stmt := top 29
abbrev s_are_alike : Stmt := top 30
abbrev s_alike : Stmt := top 31
abbrev s_groups_by_name : Stmt := top 32
abbrev s_normal_order : Stmt := top 33
abbrev s_normal : Stmt := top 34
abbrev s_count_alike : Stmt := top 35
abbrev s_above : Stmt := top 36
abbrev s_positions : Stmt := top 37
abbrev s_exchanges : Stmt := top 38
abbrev s_parts_of : Stmt := top 39
abbrev s_count_ways : Stmt := top 40
abbrev s_ways_of : Stmt := top 41
abbrev s_count_unlike : Stmt := top 42
abbrev s_unlike_lines : Stmt := top 43
abbrev s_law_purse : Stmt := top 45
abbrev s_law_mixed : Stmt := top 46
abbrev s_law_draw : Stmt := top 47
abbrev s_law_shuffled : Stmt := top 48
abbrev s_law_word : Stmt := top 49
abbrev s_law_names : Stmt := top 50
abbrev s_law_kinds : Stmt := top 51
abbrev s_law_linked : Stmt := top 52
abbrev s_law_is_near : Stmt := top 53
abbrev s_law_few : Stmt := top 54
abbrev s_law_grown : Stmt := top 55
abbrev s_law_above : Stmt := top 56
abbrev s_law_same_trees : Stmt := top 57
abbrev s_law_orders_of : Stmt := top 58
abbrev s_law_alike_one : Stmt := top 59
abbrev s_law_names_of : Stmt := top 60
abbrev s_law_same : Stmt := top 61
abbrev s_law_line_right : Stmt := top 62
abbrev s_law_unlike_right : Stmt := top 63
abbrev s_law_long_right : Stmt := top 64
abbrev s_law_six_right : Stmt := top 65
abbrev s_law_forty_right : Stmt := top 66
abbrev s_law : Stmt := top 67
/-! ### each def as a datum -/
def d_is_name : He.DefD := ⟨("is_name", none), "is_name", "is_name", defArgs s_is_name, defBody s_is_name, defScope s_is_name, [], []⟩
def d_is_count : He.DefD := ⟨("is_count", none), "is_count", "is_count", defArgs s_is_count, defBody s_is_count, defScope s_is_count, [], []⟩
def d_are_names : He.DefD := ⟨("are_names", none), "are_names", "are_names", defArgs s_are_names, defBody s_are_names, defScope s_are_names, [], []⟩
def d_Asker_init : He.DefD := ⟨("Asker", some "__init__"), "__init__", "Asker.__init__", defArgs s_Asker_init, defBody s_Asker_init, defScope s_Asker_init, [], []⟩
def d_Asker_name : He.DefD := ⟨("Asker", some "name"), "name", "Asker.name", defArgs s_Asker_name, defBody s_Asker_name, defScope s_Asker_name, [], []⟩
def d_Asker_fits : He.DefD := ⟨("Asker", some "fits"), "fits", "Asker.fits", defArgs s_Asker_fits, defBody s_Asker_fits, defScope s_Asker_fits, [], []⟩
def d_Asker_eq : He.DefD := ⟨("Asker", some "__eq__"), "__eq__", "Asker.__eq__", defArgs s_Asker_eq, defBody s_Asker_eq, defScope s_Asker_eq, [], []⟩
def d_check_asker : He.DefD := ⟨("check_asker", none), "check_asker", "check_asker", defArgs s_check_asker, defBody s_check_asker, defScope s_check_asker, [], []⟩
def d_check_line : He.DefD := ⟨("check_line", none), "check_line", "check_line", defArgs s_check_line, defBody s_check_line, defScope s_check_line, [], []⟩
def d_check_count : He.DefD := ⟨("check_count", none), "check_count", "check_count", defArgs s_check_count, defBody s_check_count, defScope s_check_count, [.non], []⟩
def d_Line_init : He.DefD := ⟨("Line", some "__init__"), "__init__", "Line.__init__", defArgs s_Line_init, defBody s_Line_init, defScope s_Line_init, [], []⟩
def d_Line_eq : He.DefD := ⟨("Line", some "__eq__"), "__eq__", "Line.__eq__", defArgs s_Line_eq, defBody s_Line_eq, defScope s_Line_eq, [], []⟩
def d_Line_askers : He.DefD := ⟨("Line", some "askers"), "askers", "Line.askers", defArgs s_Line_askers, defBody s_Line_askers, defScope s_Line_askers, [], []⟩
def d_Line_names : He.DefD := ⟨("Line", some "names"), "names", "Line.names", defArgs s_Line_names, defBody s_Line_names, defScope s_Line_names, [], []⟩
def d_Line_place : He.DefD := ⟨("Line", some "place"), "place", "Line.place", defArgs s_Line_place, defBody s_Line_place, defScope s_Line_place, [], []⟩
def d_Line_asker : He.DefD := ⟨("Line", some "asker"), "asker", "Line.asker", defArgs s_Line_asker, defBody s_Line_asker, defScope s_Line_asker, [], []⟩
def d_Line_without : He.DefD := ⟨("Line", some "without"), "without", "Line.without", defArgs s_Line_without, defBody s_Line_without, defScope s_Line_without, [], []⟩
def d_Line_put_in : He.DefD := ⟨("Line", some "put_in"), "put_in", "Line.put_in", defArgs s_Line_put_in, defBody s_Line_put_in, defScope s_Line_put_in, [], []⟩
def d_Line_moved : He.DefD := ⟨("Line", some "moved"), "moved", "Line.moved", defArgs s_Line_moved, defBody s_Line_moved, defScope s_Line_moved, [], []⟩
def d_Line_ordered : He.DefD := ⟨("Line", some "ordered"), "ordered", "Line.ordered", defArgs s_Line_ordered, defBody s_Line_ordered, defScope s_Line_ordered, [], []⟩
def d_check_known : He.DefD := ⟨("check_known", none), "check_known", "check_known", defArgs s_check_known, defBody s_check_known, defScope s_check_known, [], []⟩
def d_have_kind : He.DefD := ⟨("have_kind", none), "have_kind", "have_kind", defArgs s_have_kind, defBody s_have_kind, defScope s_have_kind, [], []⟩
def d_trees_of : He.DefD := ⟨("trees_of", none), "trees_of", "trees_of", defArgs s_trees_of, defBody s_trees_of, defScope s_trees_of, [], []⟩
def d_names_at : He.DefD := ⟨("names_at", none), "names_at", "names_at", defArgs s_names_at, defBody s_names_at, defScope s_names_at, [], []⟩
def d_group : He.DefD := ⟨("group", none), "group", "group", defArgs s_group, defBody s_group, defScope s_group, [], []⟩
def d_row_between : He.DefD := ⟨("row_between", none), "row_between", "row_between", defArgs s_row_between, defBody s_row_between, defScope s_row_between, [], []⟩
def d_chain : He.DefD := ⟨("chain", none), "chain", "chain", defArgs s_chain, defBody s_chain, defScope s_chain, [], []⟩
def d_parents_by_name : He.DefD := ⟨("parents_by_name", none), "parents_by_name", "parents_by_name", defArgs s_parents_by_name, defBody s_parents_by_name, defScope s_parents_by_name, [], []⟩
def d_check_same : He.DefD := ⟨("check_same", none), "check_same", "check_same", defArgs s_check_same, defBody s_check_same, defScope s_check_same, [], []⟩
def d_are_alike : He.DefD := ⟨("are_alike", none), "are_alike", "are_alike", defArgs s_are_alike, defBody s_are_alike, defScope s_are_alike, [], []⟩
def d_alike : He.DefD := ⟨("alike", none), "alike", "alike", defArgs s_alike, defBody s_alike, defScope s_alike, [], []⟩
def d_groups_by_name : He.DefD := ⟨("groups_by_name", none), "groups_by_name", "groups_by_name", defArgs s_groups_by_name, defBody s_groups_by_name, defScope s_groups_by_name, [], []⟩
def d_normal_order : He.DefD := ⟨("normal_order", none), "normal_order", "normal_order", defArgs s_normal_order, defBody s_normal_order, defScope s_normal_order, [], []⟩
def d_normal : He.DefD := ⟨("normal", none), "normal", "normal", defArgs s_normal, defBody s_normal, defScope s_normal, [], []⟩
def d_count_alike : He.DefD := ⟨("count_alike", none), "count_alike", "count_alike", defArgs s_count_alike, defBody s_count_alike, defScope s_count_alike, [], []⟩
def d_above : He.DefD := ⟨("above", none), "above", "above", defArgs s_above, defBody s_above, defScope s_above, [], []⟩
def d_positions : He.DefD := ⟨("positions", none), "positions", "positions", defArgs s_positions, defBody s_positions, defScope s_positions, [], []⟩
def d_exchanges : He.DefD := ⟨("exchanges", none), "exchanges", "exchanges", defArgs s_exchanges, defBody s_exchanges, defScope s_exchanges, [], []⟩
def d_parts_of : He.DefD := ⟨("parts_of", none), "parts_of", "parts_of", defArgs s_parts_of, defBody s_parts_of, defScope s_parts_of, [], []⟩
def d_count_ways : He.DefD := ⟨("count_ways", none), "count_ways", "count_ways", defArgs s_count_ways, defBody s_count_ways, defScope s_count_ways, [], []⟩
def d_ways_of : He.DefD := ⟨("ways_of", none), "ways_of", "ways_of", defArgs s_ways_of, defBody s_ways_of, defScope s_ways_of, [], []⟩
def d_count_unlike : He.DefD := ⟨("count_unlike", none), "count_unlike", "count_unlike", defArgs s_count_unlike, defBody s_count_unlike, defScope s_count_unlike, [], []⟩
def d_unlike_lines : He.DefD := ⟨("unlike_lines", none), "unlike_lines", "unlike_lines", defArgs s_unlike_lines, defBody s_unlike_lines, defScope s_unlike_lines, [], []⟩
def d_law_purse : He.DefD := ⟨("_law_purse", none), "_law_purse", "_law_purse", defArgs s_law_purse, defBody s_law_purse, defScope s_law_purse, [], []⟩
def d_law_mixed : He.DefD := ⟨("_law_mixed", none), "_law_mixed", "_law_mixed", defArgs s_law_mixed, defBody s_law_mixed, defScope s_law_mixed, [], []⟩
def d_law_draw : He.DefD := ⟨("_law_draw", none), "_law_draw", "_law_draw", defArgs s_law_draw, defBody s_law_draw, defScope s_law_draw, [], []⟩
def d_law_shuffled : He.DefD := ⟨("_law_shuffled", none), "_law_shuffled", "_law_shuffled", defArgs s_law_shuffled, defBody s_law_shuffled, defScope s_law_shuffled, [], []⟩
def d_law_word : He.DefD := ⟨("_law_word", none), "_law_word", "_law_word", defArgs s_law_word, defBody s_law_word, defScope s_law_word, [], []⟩
def d_law_names : He.DefD := ⟨("_law_names", none), "_law_names", "_law_names", defArgs s_law_names, defBody s_law_names, defScope s_law_names, [], []⟩
def d_law_kinds : He.DefD := ⟨("_law_kinds", none), "_law_kinds", "_law_kinds", defArgs s_law_kinds, defBody s_law_kinds, defScope s_law_kinds, [], []⟩
def d_law_linked : He.DefD := ⟨("_law_linked", none), "_law_linked", "_law_linked", defArgs s_law_linked, defBody s_law_linked, defScope s_law_linked, [], []⟩
def d_law_is_near : He.DefD := ⟨("_law_is_near", none), "_law_is_near", "_law_is_near", defArgs s_law_is_near, defBody s_law_is_near, defScope s_law_is_near, [], []⟩
def d_law_few : He.DefD := ⟨("_law_few", none), "_law_few", "_law_few", defArgs s_law_few, defBody s_law_few, defScope s_law_few, [], []⟩
def d_law_grown : He.DefD := ⟨("_law_grown", none), "_law_grown", "_law_grown", defArgs s_law_grown, defBody s_law_grown, defScope s_law_grown, [], []⟩
def d_law_above : He.DefD := ⟨("_law_above", none), "_law_above", "_law_above", defArgs s_law_above, defBody s_law_above, defScope s_law_above, [], []⟩
def d_law_same_trees : He.DefD := ⟨("_law_same_trees", none), "_law_same_trees", "_law_same_trees", defArgs s_law_same_trees, defBody s_law_same_trees, defScope s_law_same_trees, [], []⟩
def d_law_orders_of : He.DefD := ⟨("_law_orders_of", none), "_law_orders_of", "_law_orders_of", defArgs s_law_orders_of, defBody s_law_orders_of, defScope s_law_orders_of, [], []⟩
def d_law_alike_one : He.DefD := ⟨("_law_alike_one", none), "_law_alike_one", "_law_alike_one", defArgs s_law_alike_one, defBody s_law_alike_one, defScope s_law_alike_one, [], []⟩
def d_law_names_of : He.DefD := ⟨("_law_names_of", none), "_law_names_of", "_law_names_of", defArgs s_law_names_of, defBody s_law_names_of, defScope s_law_names_of, [], []⟩
def d_law_same : He.DefD := ⟨("_law_same", none), "_law_same", "_law_same", defArgs s_law_same, defBody s_law_same, defScope s_law_same, [], []⟩
def d_law_line_right : He.DefD := ⟨("_law_line_right", none), "_law_line_right", "_law_line_right", defArgs s_law_line_right, defBody s_law_line_right, defScope s_law_line_right, [], []⟩
def d_law_unlike_right : He.DefD := ⟨("_law_unlike_right", none), "_law_unlike_right", "_law_unlike_right", defArgs s_law_unlike_right, defBody s_law_unlike_right, defScope s_law_unlike_right, [], []⟩
def d_law_long_right : He.DefD := ⟨("_law_long_right", none), "_law_long_right", "_law_long_right", defArgs s_law_long_right, defBody s_law_long_right, defScope s_law_long_right, [], []⟩
def d_law_six_right : He.DefD := ⟨("_law_six_right", none), "_law_six_right", "_law_six_right", defArgs s_law_six_right, defBody s_law_six_right, defScope s_law_six_right, [], []⟩
def d_law_forty_right : He.DefD := ⟨("_law_forty_right", none), "_law_forty_right", "_law_forty_right", defArgs s_law_forty_right, defBody s_law_forty_right, defScope s_law_forty_right, [], []⟩
def d_law : He.DefD := ⟨("law", none), "law", "law", defArgs s_law, defBody s_law, defScope s_law, [], []⟩
def fn : List He.DefD := [d_is_name, d_is_count, d_are_names, d_Asker_init, d_Asker_eq, d_check_asker, d_check_line, d_check_count,
  d_Line_init, d_Line_eq, d_Line_askers, d_Line_names, d_Line_place, d_Line_asker, d_Line_without, d_Line_put_in,
  d_Line_moved, d_Line_ordered, d_check_known, d_have_kind, d_trees_of, d_names_at, d_group, d_row_between,
  d_chain, d_parents_by_name, d_check_same, d_are_alike, d_alike, d_groups_by_name, d_normal_order, d_normal,
  d_count_alike, d_above, d_positions, d_exchanges, d_parts_of, d_count_ways, d_ways_of, d_count_unlike,
  d_unlike_lines, d_law_purse, d_law_mixed, d_law_draw, d_law_shuffled, d_law_word, d_law_names, d_law_kinds,
  d_law_linked, d_law_is_near, d_law_few, d_law_grown, d_law_above, d_law_same_trees, d_law_orders_of, d_law_alike_one,
  d_law_names_of, d_law_same, d_law_line_right, d_law_unlike_right, d_law_long_right, d_law_six_right, d_law_forty_right, d_law]
def fa : List He.Fa := [.glo "is_name", .glo "is_count", .glo "are_names", .glo "Asker", .glo "check_asker", .glo "check_line",
  .glo "check_count", .glo "Line", .glo "check_known", .glo "have_kind", .glo "trees_of", .glo "names_at",
  .glo "group", .glo "row_between", .glo "chain", .glo "parents_by_name", .glo "check_same", .glo "are_alike",
  .glo "alike", .glo "groups_by_name", .glo "normal_order", .glo "normal", .glo "count_alike", .glo "above",
  .glo "positions", .glo "exchanges", .glo "parts_of", .glo "count_ways", .glo "ways_of", .glo "count_unlike",
  .glo "unlike_lines", .glo "_law_purse", .glo "_law_mixed", .glo "_law_draw", .glo "_law_shuffled", .glo "_law_word",
  .glo "_law_names", .glo "_law_kinds", .glo "_law_linked", .glo "_law_is_near", .glo "_law_few", .glo "_law_grown",
  .glo "_law_above", .glo "_law_same_trees", .glo "_law_orders_of", .glo "_law_alike_one", .glo "_law_names_of", .glo "_law_same",
  .glo "_law_line_right", .glo "_law_unlike_right", .glo "_law_long_right", .glo "_law_six_right", .glo "_law_forty_right", .glo "law",
  .free "isinstance", .free "len", .free "set", .free "tuple", .free "sorted", .free "list",
  .free "range", .free "enumerate", .free "sum", .free "min", .free "max", .free "repr",
  .free "int", .free "str", .free "bool", .str "LOWER" "abcdefghijklmnopqrstuvwxyz", .cls "Asker", .cls "Line",
  .mkr "Asker", .mkr "Line", .noat "Asker" "row", .noat "Line" "all", .noat "Line" "every", .keep "Asker",
  .keep "Line", .meth "Asker" "__init__", .meth "Asker" "__eq__", .meth "Line" "__init__", .meth "Line" "__eq__", .meth "Line" "askers",
  .meth "Line" "names", .meth "Line" "place", .meth "Line" "asker", .meth "Line" "without", .meth "Line" "put_in", .meth "Line" "moved",
  .meth "Line" "ordered"]
def looseA : List Str := ["_wall", "ElderError", "InvalidAsker", "InvalidLine", "InvalidNames", "InvalidCount", "UnknownName", "TakenName",
  "Unlike", "LOWER", "is_name", "is_count", "are_names", "Asker", "check_asker", "check_line",
  "check_count", "Line", "check_known", "have_kind", "trees_of", "names_at", "group", "row_between",
  "chain", "parents_by_name", "check_same", "are_alike", "alike", "groups_by_name", "normal_order"]
def looseB : List Str := ["normal", "count_alike", "above", "positions", "exchanges", "parts_of", "count_ways", "ways_of",
  "count_unlike", "unlike_lines", "_law_purse", "_law_mixed", "_law_draw", "_law_shuffled", "_law_word", "_law_names",
  "_law_kinds", "_law_linked", "_law_is_near", "_law_few", "_law_grown", "_law_above", "_law_same_trees", "_law_orders_of",
  "_law_alike_one", "_law_names_of", "_law_same", "_law_line_right", "_law_unlike_right", "_law_long_right", "_law_six_right", "_law_forty_right"]
abbrev lawAt : Nat := 67
/-! ### what is known of the top -/
abbrev cA (K : W.Frag) : Addr := He.ga K "Asker"
abbrev cL (K : W.Frag) : Addr := He.ga K "Line"
/-- a property's getter: where it stands, its function -/
def GetterOf (K : W.Frag) (f qual : Str) (st : Stmt) : Prop := ∃ p g fd, PropOf K (cA K) f p g ∧ FunD K f qual (defArgs st) (defBody st) (defScope st) [] [] g fd
structure Tp (K : W.Frag) (mg : Str → Option Value) : Prop where
  says : He.SaysD fa fn K
  ih : ∃ h : Heap, K.In h ∧ h.Ns mainGlobals mg
  pname : GetterOf K "name" "Asker.name" s_Asker_name
  pfits : GetterOf K "fits" "Asker.fits" s_Asker_fits
  ne : W.findIn K (.ref (cL K)) "__ne__" = some (some (.builtin "object.__ne__"))
  mro : W.mroIn K (cL K) (.type "object") = some true
  mroA : W.mroIn K (cA K) (.type "object") = some true
  clsA : W.findIn K (.ref (cA K)) "__class__" = some (some (.builtin "object.__class__"))
  clsL : W.findIn K (.ref (cL K)) "__class__" = some (some (.builtin "object.__class__"))
  cget : W.specialIn K (.builtin "object.__class__") "__get__" = some (some (.builtin "getset_descriptor.__get__"))
  ctak : W.takesIn K (.builtin "object.__class__") = some true
section
variable {K : W.Frag} {mg : Str → Option Value}
theorem Tp.g (T : Tp K mg) {x : Str} (i : Nat) (h : fa[i]? = some (.glo x)) : mg x = some (.ref (He.ga K x)) := by
  obtain ⟨hp, X, G⟩ := T.ih
  exact He.glo_ok X G (T.says.fact i h)
theorem Tp.n (T : Tp K mg) {x : Str} (i : Nat) (h : fa[i]? = some (.free x)) : mg x = none := by
  obtain ⟨hp, X, G⟩ := T.ih
  exact He.free_ok X G (T.says.fact i h)
theorem g_is_name (T : Tp K mg) : mg "is_name" = some (.ref (He.ga K "is_name")) := T.g 0 rfl
theorem g_is_count (T : Tp K mg) : mg "is_count" = some (.ref (He.ga K "is_count")) := T.g 1 rfl
theorem g_are_names (T : Tp K mg) : mg "are_names" = some (.ref (He.ga K "are_names")) := T.g 2 rfl
theorem g_Asker (T : Tp K mg) : mg "Asker" = some (.ref (He.ga K "Asker")) := T.g 3 rfl
theorem g_check_asker (T : Tp K mg) : mg "check_asker" = some (.ref (He.ga K "check_asker")) := T.g 4 rfl
theorem g_check_line (T : Tp K mg) : mg "check_line" = some (.ref (He.ga K "check_line")) := T.g 5 rfl
theorem g_check_count (T : Tp K mg) : mg "check_count" = some (.ref (He.ga K "check_count")) := T.g 6 rfl
theorem g_Line (T : Tp K mg) : mg "Line" = some (.ref (He.ga K "Line")) := T.g 7 rfl
theorem g_check_known (T : Tp K mg) : mg "check_known" = some (.ref (He.ga K "check_known")) := T.g 8 rfl
theorem g_have_kind (T : Tp K mg) : mg "have_kind" = some (.ref (He.ga K "have_kind")) := T.g 9 rfl
theorem g_trees_of (T : Tp K mg) : mg "trees_of" = some (.ref (He.ga K "trees_of")) := T.g 10 rfl
theorem g_names_at (T : Tp K mg) : mg "names_at" = some (.ref (He.ga K "names_at")) := T.g 11 rfl
theorem g_group (T : Tp K mg) : mg "group" = some (.ref (He.ga K "group")) := T.g 12 rfl
theorem g_row_between (T : Tp K mg) : mg "row_between" = some (.ref (He.ga K "row_between")) := T.g 13 rfl
theorem g_chain (T : Tp K mg) : mg "chain" = some (.ref (He.ga K "chain")) := T.g 14 rfl
theorem g_parents_by_name (T : Tp K mg) : mg "parents_by_name" = some (.ref (He.ga K "parents_by_name")) := T.g 15 rfl
theorem g_check_same (T : Tp K mg) : mg "check_same" = some (.ref (He.ga K "check_same")) := T.g 16 rfl
theorem g_are_alike (T : Tp K mg) : mg "are_alike" = some (.ref (He.ga K "are_alike")) := T.g 17 rfl
theorem g_alike (T : Tp K mg) : mg "alike" = some (.ref (He.ga K "alike")) := T.g 18 rfl
theorem g_groups_by_name (T : Tp K mg) : mg "groups_by_name" = some (.ref (He.ga K "groups_by_name")) := T.g 19 rfl
theorem g_normal_order (T : Tp K mg) : mg "normal_order" = some (.ref (He.ga K "normal_order")) := T.g 20 rfl
theorem g_normal (T : Tp K mg) : mg "normal" = some (.ref (He.ga K "normal")) := T.g 21 rfl
theorem g_count_alike (T : Tp K mg) : mg "count_alike" = some (.ref (He.ga K "count_alike")) := T.g 22 rfl
theorem g_above (T : Tp K mg) : mg "above" = some (.ref (He.ga K "above")) := T.g 23 rfl
theorem g_positions (T : Tp K mg) : mg "positions" = some (.ref (He.ga K "positions")) := T.g 24 rfl
theorem g_exchanges (T : Tp K mg) : mg "exchanges" = some (.ref (He.ga K "exchanges")) := T.g 25 rfl
theorem g_parts_of (T : Tp K mg) : mg "parts_of" = some (.ref (He.ga K "parts_of")) := T.g 26 rfl
theorem g_count_ways (T : Tp K mg) : mg "count_ways" = some (.ref (He.ga K "count_ways")) := T.g 27 rfl
theorem g_ways_of (T : Tp K mg) : mg "ways_of" = some (.ref (He.ga K "ways_of")) := T.g 28 rfl
theorem g_count_unlike (T : Tp K mg) : mg "count_unlike" = some (.ref (He.ga K "count_unlike")) := T.g 29 rfl
theorem g_unlike_lines (T : Tp K mg) : mg "unlike_lines" = some (.ref (He.ga K "unlike_lines")) := T.g 30 rfl
theorem g_law_purse (T : Tp K mg) : mg "_law_purse" = some (.ref (He.ga K "_law_purse")) := T.g 31 rfl
theorem g_law_mixed (T : Tp K mg) : mg "_law_mixed" = some (.ref (He.ga K "_law_mixed")) := T.g 32 rfl
theorem g_law_draw (T : Tp K mg) : mg "_law_draw" = some (.ref (He.ga K "_law_draw")) := T.g 33 rfl
theorem g_law_shuffled (T : Tp K mg) : mg "_law_shuffled" = some (.ref (He.ga K "_law_shuffled")) := T.g 34 rfl
theorem g_law_word (T : Tp K mg) : mg "_law_word" = some (.ref (He.ga K "_law_word")) := T.g 35 rfl
theorem g_law_names (T : Tp K mg) : mg "_law_names" = some (.ref (He.ga K "_law_names")) := T.g 36 rfl
theorem g_law_kinds (T : Tp K mg) : mg "_law_kinds" = some (.ref (He.ga K "_law_kinds")) := T.g 37 rfl
theorem g_law_linked (T : Tp K mg) : mg "_law_linked" = some (.ref (He.ga K "_law_linked")) := T.g 38 rfl
theorem g_law_is_near (T : Tp K mg) : mg "_law_is_near" = some (.ref (He.ga K "_law_is_near")) := T.g 39 rfl
theorem g_law_few (T : Tp K mg) : mg "_law_few" = some (.ref (He.ga K "_law_few")) := T.g 40 rfl
theorem g_law_grown (T : Tp K mg) : mg "_law_grown" = some (.ref (He.ga K "_law_grown")) := T.g 41 rfl
theorem g_law_above (T : Tp K mg) : mg "_law_above" = some (.ref (He.ga K "_law_above")) := T.g 42 rfl
theorem g_law_same_trees (T : Tp K mg) : mg "_law_same_trees" = some (.ref (He.ga K "_law_same_trees")) := T.g 43 rfl
theorem g_law_orders_of (T : Tp K mg) : mg "_law_orders_of" = some (.ref (He.ga K "_law_orders_of")) := T.g 44 rfl
theorem g_law_alike_one (T : Tp K mg) : mg "_law_alike_one" = some (.ref (He.ga K "_law_alike_one")) := T.g 45 rfl
theorem g_law_names_of (T : Tp K mg) : mg "_law_names_of" = some (.ref (He.ga K "_law_names_of")) := T.g 46 rfl
theorem g_law_same (T : Tp K mg) : mg "_law_same" = some (.ref (He.ga K "_law_same")) := T.g 47 rfl
theorem g_law_line_right (T : Tp K mg) : mg "_law_line_right" = some (.ref (He.ga K "_law_line_right")) := T.g 48 rfl
theorem g_law_unlike_right (T : Tp K mg) : mg "_law_unlike_right" = some (.ref (He.ga K "_law_unlike_right")) := T.g 49 rfl
theorem g_law_long_right (T : Tp K mg) : mg "_law_long_right" = some (.ref (He.ga K "_law_long_right")) := T.g 50 rfl
theorem g_law_six_right (T : Tp K mg) : mg "_law_six_right" = some (.ref (He.ga K "_law_six_right")) := T.g 51 rfl
theorem g_law_forty_right (T : Tp K mg) : mg "_law_forty_right" = some (.ref (He.ga K "_law_forty_right")) := T.g 52 rfl
theorem g_law (T : Tp K mg) : mg "law" = some (.ref (He.ga K "law")) := T.g 53 rfl
theorem n_isinstance (T : Tp K mg) : mg "isinstance" = none := T.n 54 rfl
theorem n_len (T : Tp K mg) : mg "len" = none := T.n 55 rfl
theorem n_set (T : Tp K mg) : mg "set" = none := T.n 56 rfl
theorem n_tuple (T : Tp K mg) : mg "tuple" = none := T.n 57 rfl
theorem n_sorted (T : Tp K mg) : mg "sorted" = none := T.n 58 rfl
theorem n_list (T : Tp K mg) : mg "list" = none := T.n 59 rfl
theorem n_range (T : Tp K mg) : mg "range" = none := T.n 60 rfl
theorem n_enumerate (T : Tp K mg) : mg "enumerate" = none := T.n 61 rfl
theorem n_sum (T : Tp K mg) : mg "sum" = none := T.n 62 rfl
theorem n_min (T : Tp K mg) : mg "min" = none := T.n 63 rfl
theorem n_max (T : Tp K mg) : mg "max" = none := T.n 64 rfl
theorem n_repr (T : Tp K mg) : mg "repr" = none := T.n 65 rfl
theorem n_int (T : Tp K mg) : mg "int" = none := T.n 66 rfl
theorem n_str (T : Tp K mg) : mg "str" = none := T.n 67 rfl
theorem n_bool (T : Tp K mg) : mg "bool" = none := T.n 68 rfl
theorem t_LOWER (T : Tp K mg) : ∃ t, mg "LOWER" = some (.str "abcdefghijklmnopqrstuvwxyz" t) := by
  obtain ⟨hp, X, G⟩ := T.ih
  exact He.str_ok X G (T.says.fact 69 (f := .str "LOWER" "abcdefghijklmnopqrstuvwxyz") rfl)
theorem cls_Asker (T : Tp K mg) : Cls K (He.ga K "Asker") := He.cls_ok (T.says.fact 70 (f := .cls "Asker") rfl)
theorem cls_Line (T : Tp K mg) : Cls K (He.ga K "Line") := He.cls_ok (T.says.fact 71 (f := .cls "Line") rfl)
theorem mkr_Asker (T : Tp K mg) : Mk K (He.ga K "Asker") (He.ma K (He.ga K "Asker") "__init__") := He.mkr_ok (T.says.fact 72 (f := .mkr "Asker") rfl)
theorem mkr_Line (T : Tp K mg) : Mk K (He.ga K "Line") (He.ma K (He.ga K "Line") "__init__") := He.mkr_ok (T.says.fact 73 (f := .mkr "Line") rfl)
theorem noat_Asker_row (T : Tp K mg) : NoAttr K (He.ga K "Asker") "row" := He.noat_ok (T.says.fact 74 (f := .noat "Asker" "row") rfl)
theorem noat_Line_all (T : Tp K mg) : NoAttr K (He.ga K "Line") "all" := He.noat_ok (T.says.fact 75 (f := .noat "Line" "all") rfl)
theorem noat_Line_every (T : Tp K mg) : NoAttr K (He.ga K "Line") "every" := He.noat_ok (T.says.fact 76 (f := .noat "Line" "every") rfl)
theorem keep_Asker (T : Tp K mg) : W.keepIn K (.ref (He.ga K "Asker")) = true := T.says.fact 77 (f := .keep "Asker") rfl
theorem keep_Line (T : Tp K mg) : W.keepIn K (.ref (He.ga K "Line")) = true := T.says.fact 78 (f := .keep "Line") rfl
theorem m_Asker_init (T : Tp K mg) : Meth K (He.ga K "Asker") "__init__" (He.ma K (He.ga K "Asker") "__init__") := He.meth_ok (T.says.fact 79 (f := .meth "Asker" "__init__") rfl)
theorem m_Asker_eq (T : Tp K mg) : Meth K (He.ga K "Asker") "__eq__" (He.ma K (He.ga K "Asker") "__eq__") := He.meth_ok (T.says.fact 80 (f := .meth "Asker" "__eq__") rfl)
theorem m_Line_init (T : Tp K mg) : Meth K (He.ga K "Line") "__init__" (He.ma K (He.ga K "Line") "__init__") := He.meth_ok (T.says.fact 81 (f := .meth "Line" "__init__") rfl)
theorem m_Line_eq (T : Tp K mg) : Meth K (He.ga K "Line") "__eq__" (He.ma K (He.ga K "Line") "__eq__") := He.meth_ok (T.says.fact 82 (f := .meth "Line" "__eq__") rfl)
theorem m_Line_askers (T : Tp K mg) : Meth K (He.ga K "Line") "askers" (He.ma K (He.ga K "Line") "askers") := He.meth_ok (T.says.fact 83 (f := .meth "Line" "askers") rfl)
theorem m_Line_names (T : Tp K mg) : Meth K (He.ga K "Line") "names" (He.ma K (He.ga K "Line") "names") := He.meth_ok (T.says.fact 84 (f := .meth "Line" "names") rfl)
theorem m_Line_place (T : Tp K mg) : Meth K (He.ga K "Line") "place" (He.ma K (He.ga K "Line") "place") := He.meth_ok (T.says.fact 85 (f := .meth "Line" "place") rfl)
theorem m_Line_asker (T : Tp K mg) : Meth K (He.ga K "Line") "asker" (He.ma K (He.ga K "Line") "asker") := He.meth_ok (T.says.fact 86 (f := .meth "Line" "asker") rfl)
theorem m_Line_without (T : Tp K mg) : Meth K (He.ga K "Line") "without" (He.ma K (He.ga K "Line") "without") := He.meth_ok (T.says.fact 87 (f := .meth "Line" "without") rfl)
theorem m_Line_put_in (T : Tp K mg) : Meth K (He.ga K "Line") "put_in" (He.ma K (He.ga K "Line") "put_in") := He.meth_ok (T.says.fact 88 (f := .meth "Line" "put_in") rfl)
theorem m_Line_moved (T : Tp K mg) : Meth K (He.ga K "Line") "moved" (He.ma K (He.ga K "Line") "moved") := He.meth_ok (T.says.fact 89 (f := .meth "Line" "moved") rfl)
theorem m_Line_ordered (T : Tp K mg) : Meth K (He.ga K "Line") "ordered" (He.ma K (He.ga K "Line") "ordered") := He.meth_ok (T.says.fact 90 (f := .meth "Line" "ordered") rfl)
theorem F_is_name (T : Tp K mg) : ∃ fd, FunD K "is_name" "is_name" (defArgs s_is_name) (defBody s_is_name) (defScope s_is_name) [] [] (He.ga K "is_name") fd := T.says.def_ 0 (d := d_is_name) rfl
theorem F_is_count (T : Tp K mg) : ∃ fd, FunD K "is_count" "is_count" (defArgs s_is_count) (defBody s_is_count) (defScope s_is_count) [] [] (He.ga K "is_count") fd := T.says.def_ 1 (d := d_is_count) rfl
theorem F_are_names (T : Tp K mg) : ∃ fd, FunD K "are_names" "are_names" (defArgs s_are_names) (defBody s_are_names) (defScope s_are_names) [] [] (He.ga K "are_names") fd := T.says.def_ 2 (d := d_are_names) rfl
theorem F_Asker_init (T : Tp K mg) : ∃ fd, FunD K "__init__" "Asker.__init__" (defArgs s_Asker_init) (defBody s_Asker_init) (defScope s_Asker_init) [] [] (He.ma K (He.ga K "Asker") "__init__") fd := T.says.def_ 3 (d := d_Asker_init) rfl
theorem F_Asker_eq (T : Tp K mg) : ∃ fd, FunD K "__eq__" "Asker.__eq__" (defArgs s_Asker_eq) (defBody s_Asker_eq) (defScope s_Asker_eq) [] [] (He.ma K (He.ga K "Asker") "__eq__") fd := T.says.def_ 4 (d := d_Asker_eq) rfl
theorem F_check_asker (T : Tp K mg) : ∃ fd, FunD K "check_asker" "check_asker" (defArgs s_check_asker) (defBody s_check_asker) (defScope s_check_asker) [] [] (He.ga K "check_asker") fd := T.says.def_ 5 (d := d_check_asker) rfl
theorem F_check_line (T : Tp K mg) : ∃ fd, FunD K "check_line" "check_line" (defArgs s_check_line) (defBody s_check_line) (defScope s_check_line) [] [] (He.ga K "check_line") fd := T.says.def_ 6 (d := d_check_line) rfl
theorem F_check_count (T : Tp K mg) : ∃ fd, FunD K "check_count" "check_count" (defArgs s_check_count) (defBody s_check_count) (defScope s_check_count) [.non] [] (He.ga K "check_count") fd := T.says.def_ 7 (d := d_check_count) rfl
theorem F_Line_init (T : Tp K mg) : ∃ fd, FunD K "__init__" "Line.__init__" (defArgs s_Line_init) (defBody s_Line_init) (defScope s_Line_init) [] [] (He.ma K (He.ga K "Line") "__init__") fd := T.says.def_ 8 (d := d_Line_init) rfl
theorem F_Line_eq (T : Tp K mg) : ∃ fd, FunD K "__eq__" "Line.__eq__" (defArgs s_Line_eq) (defBody s_Line_eq) (defScope s_Line_eq) [] [] (He.ma K (He.ga K "Line") "__eq__") fd := T.says.def_ 9 (d := d_Line_eq) rfl
theorem F_Line_askers (T : Tp K mg) : ∃ fd, FunD K "askers" "Line.askers" (defArgs s_Line_askers) (defBody s_Line_askers) (defScope s_Line_askers) [] [] (He.ma K (He.ga K "Line") "askers") fd := T.says.def_ 10 (d := d_Line_askers) rfl
theorem F_Line_names (T : Tp K mg) : ∃ fd, FunD K "names" "Line.names" (defArgs s_Line_names) (defBody s_Line_names) (defScope s_Line_names) [] [] (He.ma K (He.ga K "Line") "names") fd := T.says.def_ 11 (d := d_Line_names) rfl
theorem F_Line_place (T : Tp K mg) : ∃ fd, FunD K "place" "Line.place" (defArgs s_Line_place) (defBody s_Line_place) (defScope s_Line_place) [] [] (He.ma K (He.ga K "Line") "place") fd := T.says.def_ 12 (d := d_Line_place) rfl
theorem F_Line_asker (T : Tp K mg) : ∃ fd, FunD K "asker" "Line.asker" (defArgs s_Line_asker) (defBody s_Line_asker) (defScope s_Line_asker) [] [] (He.ma K (He.ga K "Line") "asker") fd := T.says.def_ 13 (d := d_Line_asker) rfl
theorem F_Line_without (T : Tp K mg) : ∃ fd, FunD K "without" "Line.without" (defArgs s_Line_without) (defBody s_Line_without) (defScope s_Line_without) [] [] (He.ma K (He.ga K "Line") "without") fd := T.says.def_ 14 (d := d_Line_without) rfl
theorem F_Line_put_in (T : Tp K mg) : ∃ fd, FunD K "put_in" "Line.put_in" (defArgs s_Line_put_in) (defBody s_Line_put_in) (defScope s_Line_put_in) [] [] (He.ma K (He.ga K "Line") "put_in") fd := T.says.def_ 15 (d := d_Line_put_in) rfl
theorem F_Line_moved (T : Tp K mg) : ∃ fd, FunD K "moved" "Line.moved" (defArgs s_Line_moved) (defBody s_Line_moved) (defScope s_Line_moved) [] [] (He.ma K (He.ga K "Line") "moved") fd := T.says.def_ 16 (d := d_Line_moved) rfl
theorem F_Line_ordered (T : Tp K mg) : ∃ fd, FunD K "ordered" "Line.ordered" (defArgs s_Line_ordered) (defBody s_Line_ordered) (defScope s_Line_ordered) [] [] (He.ma K (He.ga K "Line") "ordered") fd := T.says.def_ 17 (d := d_Line_ordered) rfl
theorem F_check_known (T : Tp K mg) : ∃ fd, FunD K "check_known" "check_known" (defArgs s_check_known) (defBody s_check_known) (defScope s_check_known) [] [] (He.ga K "check_known") fd := T.says.def_ 18 (d := d_check_known) rfl
theorem F_have_kind (T : Tp K mg) : ∃ fd, FunD K "have_kind" "have_kind" (defArgs s_have_kind) (defBody s_have_kind) (defScope s_have_kind) [] [] (He.ga K "have_kind") fd := T.says.def_ 19 (d := d_have_kind) rfl
theorem F_trees_of (T : Tp K mg) : ∃ fd, FunD K "trees_of" "trees_of" (defArgs s_trees_of) (defBody s_trees_of) (defScope s_trees_of) [] [] (He.ga K "trees_of") fd := T.says.def_ 20 (d := d_trees_of) rfl
theorem F_names_at (T : Tp K mg) : ∃ fd, FunD K "names_at" "names_at" (defArgs s_names_at) (defBody s_names_at) (defScope s_names_at) [] [] (He.ga K "names_at") fd := T.says.def_ 21 (d := d_names_at) rfl
theorem F_group (T : Tp K mg) : ∃ fd, FunD K "group" "group" (defArgs s_group) (defBody s_group) (defScope s_group) [] [] (He.ga K "group") fd := T.says.def_ 22 (d := d_group) rfl
theorem F_row_between (T : Tp K mg) : ∃ fd, FunD K "row_between" "row_between" (defArgs s_row_between) (defBody s_row_between) (defScope s_row_between) [] [] (He.ga K "row_between") fd := T.says.def_ 23 (d := d_row_between) rfl
theorem F_chain (T : Tp K mg) : ∃ fd, FunD K "chain" "chain" (defArgs s_chain) (defBody s_chain) (defScope s_chain) [] [] (He.ga K "chain") fd := T.says.def_ 24 (d := d_chain) rfl
theorem F_parents_by_name (T : Tp K mg) : ∃ fd, FunD K "parents_by_name" "parents_by_name" (defArgs s_parents_by_name) (defBody s_parents_by_name) (defScope s_parents_by_name) [] [] (He.ga K "parents_by_name") fd := T.says.def_ 25 (d := d_parents_by_name) rfl
theorem F_check_same (T : Tp K mg) : ∃ fd, FunD K "check_same" "check_same" (defArgs s_check_same) (defBody s_check_same) (defScope s_check_same) [] [] (He.ga K "check_same") fd := T.says.def_ 26 (d := d_check_same) rfl
theorem F_are_alike (T : Tp K mg) : ∃ fd, FunD K "are_alike" "are_alike" (defArgs s_are_alike) (defBody s_are_alike) (defScope s_are_alike) [] [] (He.ga K "are_alike") fd := T.says.def_ 27 (d := d_are_alike) rfl
theorem F_alike (T : Tp K mg) : ∃ fd, FunD K "alike" "alike" (defArgs s_alike) (defBody s_alike) (defScope s_alike) [] [] (He.ga K "alike") fd := T.says.def_ 28 (d := d_alike) rfl
theorem F_groups_by_name (T : Tp K mg) : ∃ fd, FunD K "groups_by_name" "groups_by_name" (defArgs s_groups_by_name) (defBody s_groups_by_name) (defScope s_groups_by_name) [] [] (He.ga K "groups_by_name") fd := T.says.def_ 29 (d := d_groups_by_name) rfl
theorem F_normal_order (T : Tp K mg) : ∃ fd, FunD K "normal_order" "normal_order" (defArgs s_normal_order) (defBody s_normal_order) (defScope s_normal_order) [] [] (He.ga K "normal_order") fd := T.says.def_ 30 (d := d_normal_order) rfl
theorem F_normal (T : Tp K mg) : ∃ fd, FunD K "normal" "normal" (defArgs s_normal) (defBody s_normal) (defScope s_normal) [] [] (He.ga K "normal") fd := T.says.def_ 31 (d := d_normal) rfl
theorem F_count_alike (T : Tp K mg) : ∃ fd, FunD K "count_alike" "count_alike" (defArgs s_count_alike) (defBody s_count_alike) (defScope s_count_alike) [] [] (He.ga K "count_alike") fd := T.says.def_ 32 (d := d_count_alike) rfl
theorem F_above (T : Tp K mg) : ∃ fd, FunD K "above" "above" (defArgs s_above) (defBody s_above) (defScope s_above) [] [] (He.ga K "above") fd := T.says.def_ 33 (d := d_above) rfl
theorem F_positions (T : Tp K mg) : ∃ fd, FunD K "positions" "positions" (defArgs s_positions) (defBody s_positions) (defScope s_positions) [] [] (He.ga K "positions") fd := T.says.def_ 34 (d := d_positions) rfl
theorem F_exchanges (T : Tp K mg) : ∃ fd, FunD K "exchanges" "exchanges" (defArgs s_exchanges) (defBody s_exchanges) (defScope s_exchanges) [] [] (He.ga K "exchanges") fd := T.says.def_ 35 (d := d_exchanges) rfl
theorem F_parts_of (T : Tp K mg) : ∃ fd, FunD K "parts_of" "parts_of" (defArgs s_parts_of) (defBody s_parts_of) (defScope s_parts_of) [] [] (He.ga K "parts_of") fd := T.says.def_ 36 (d := d_parts_of) rfl
theorem F_count_ways (T : Tp K mg) : ∃ fd, FunD K "count_ways" "count_ways" (defArgs s_count_ways) (defBody s_count_ways) (defScope s_count_ways) [] [] (He.ga K "count_ways") fd := T.says.def_ 37 (d := d_count_ways) rfl
theorem F_ways_of (T : Tp K mg) : ∃ fd, FunD K "ways_of" "ways_of" (defArgs s_ways_of) (defBody s_ways_of) (defScope s_ways_of) [] [] (He.ga K "ways_of") fd := T.says.def_ 38 (d := d_ways_of) rfl
theorem F_count_unlike (T : Tp K mg) : ∃ fd, FunD K "count_unlike" "count_unlike" (defArgs s_count_unlike) (defBody s_count_unlike) (defScope s_count_unlike) [] [] (He.ga K "count_unlike") fd := T.says.def_ 39 (d := d_count_unlike) rfl
theorem F_unlike_lines (T : Tp K mg) : ∃ fd, FunD K "unlike_lines" "unlike_lines" (defArgs s_unlike_lines) (defBody s_unlike_lines) (defScope s_unlike_lines) [] [] (He.ga K "unlike_lines") fd := T.says.def_ 40 (d := d_unlike_lines) rfl
theorem F_law_purse (T : Tp K mg) : ∃ fd, FunD K "_law_purse" "_law_purse" (defArgs s_law_purse) (defBody s_law_purse) (defScope s_law_purse) [] [] (He.ga K "_law_purse") fd := T.says.def_ 41 (d := d_law_purse) rfl
theorem F_law_mixed (T : Tp K mg) : ∃ fd, FunD K "_law_mixed" "_law_mixed" (defArgs s_law_mixed) (defBody s_law_mixed) (defScope s_law_mixed) [] [] (He.ga K "_law_mixed") fd := T.says.def_ 42 (d := d_law_mixed) rfl
theorem F_law_draw (T : Tp K mg) : ∃ fd, FunD K "_law_draw" "_law_draw" (defArgs s_law_draw) (defBody s_law_draw) (defScope s_law_draw) [] [] (He.ga K "_law_draw") fd := T.says.def_ 43 (d := d_law_draw) rfl
theorem F_law_shuffled (T : Tp K mg) : ∃ fd, FunD K "_law_shuffled" "_law_shuffled" (defArgs s_law_shuffled) (defBody s_law_shuffled) (defScope s_law_shuffled) [] [] (He.ga K "_law_shuffled") fd := T.says.def_ 44 (d := d_law_shuffled) rfl
theorem F_law_word (T : Tp K mg) : ∃ fd, FunD K "_law_word" "_law_word" (defArgs s_law_word) (defBody s_law_word) (defScope s_law_word) [] [] (He.ga K "_law_word") fd := T.says.def_ 45 (d := d_law_word) rfl
theorem F_law_names (T : Tp K mg) : ∃ fd, FunD K "_law_names" "_law_names" (defArgs s_law_names) (defBody s_law_names) (defScope s_law_names) [] [] (He.ga K "_law_names") fd := T.says.def_ 46 (d := d_law_names) rfl
theorem F_law_kinds (T : Tp K mg) : ∃ fd, FunD K "_law_kinds" "_law_kinds" (defArgs s_law_kinds) (defBody s_law_kinds) (defScope s_law_kinds) [] [] (He.ga K "_law_kinds") fd := T.says.def_ 47 (d := d_law_kinds) rfl
theorem F_law_linked (T : Tp K mg) : ∃ fd, FunD K "_law_linked" "_law_linked" (defArgs s_law_linked) (defBody s_law_linked) (defScope s_law_linked) [] [] (He.ga K "_law_linked") fd := T.says.def_ 48 (d := d_law_linked) rfl
theorem F_law_is_near (T : Tp K mg) : ∃ fd, FunD K "_law_is_near" "_law_is_near" (defArgs s_law_is_near) (defBody s_law_is_near) (defScope s_law_is_near) [] [] (He.ga K "_law_is_near") fd := T.says.def_ 49 (d := d_law_is_near) rfl
theorem F_law_few (T : Tp K mg) : ∃ fd, FunD K "_law_few" "_law_few" (defArgs s_law_few) (defBody s_law_few) (defScope s_law_few) [] [] (He.ga K "_law_few") fd := T.says.def_ 50 (d := d_law_few) rfl
theorem F_law_grown (T : Tp K mg) : ∃ fd, FunD K "_law_grown" "_law_grown" (defArgs s_law_grown) (defBody s_law_grown) (defScope s_law_grown) [] [] (He.ga K "_law_grown") fd := T.says.def_ 51 (d := d_law_grown) rfl
theorem F_law_above (T : Tp K mg) : ∃ fd, FunD K "_law_above" "_law_above" (defArgs s_law_above) (defBody s_law_above) (defScope s_law_above) [] [] (He.ga K "_law_above") fd := T.says.def_ 52 (d := d_law_above) rfl
theorem F_law_same_trees (T : Tp K mg) : ∃ fd, FunD K "_law_same_trees" "_law_same_trees" (defArgs s_law_same_trees) (defBody s_law_same_trees) (defScope s_law_same_trees) [] [] (He.ga K "_law_same_trees") fd := T.says.def_ 53 (d := d_law_same_trees) rfl
theorem F_law_orders_of (T : Tp K mg) : ∃ fd, FunD K "_law_orders_of" "_law_orders_of" (defArgs s_law_orders_of) (defBody s_law_orders_of) (defScope s_law_orders_of) [] [] (He.ga K "_law_orders_of") fd := T.says.def_ 54 (d := d_law_orders_of) rfl
theorem F_law_alike_one (T : Tp K mg) : ∃ fd, FunD K "_law_alike_one" "_law_alike_one" (defArgs s_law_alike_one) (defBody s_law_alike_one) (defScope s_law_alike_one) [] [] (He.ga K "_law_alike_one") fd := T.says.def_ 55 (d := d_law_alike_one) rfl
theorem F_law_names_of (T : Tp K mg) : ∃ fd, FunD K "_law_names_of" "_law_names_of" (defArgs s_law_names_of) (defBody s_law_names_of) (defScope s_law_names_of) [] [] (He.ga K "_law_names_of") fd := T.says.def_ 56 (d := d_law_names_of) rfl
theorem F_law_same (T : Tp K mg) : ∃ fd, FunD K "_law_same" "_law_same" (defArgs s_law_same) (defBody s_law_same) (defScope s_law_same) [] [] (He.ga K "_law_same") fd := T.says.def_ 57 (d := d_law_same) rfl
theorem F_law_line_right (T : Tp K mg) : ∃ fd, FunD K "_law_line_right" "_law_line_right" (defArgs s_law_line_right) (defBody s_law_line_right) (defScope s_law_line_right) [] [] (He.ga K "_law_line_right") fd := T.says.def_ 58 (d := d_law_line_right) rfl
theorem F_law_unlike_right (T : Tp K mg) : ∃ fd, FunD K "_law_unlike_right" "_law_unlike_right" (defArgs s_law_unlike_right) (defBody s_law_unlike_right) (defScope s_law_unlike_right) [] [] (He.ga K "_law_unlike_right") fd := T.says.def_ 59 (d := d_law_unlike_right) rfl
theorem F_law_long_right (T : Tp K mg) : ∃ fd, FunD K "_law_long_right" "_law_long_right" (defArgs s_law_long_right) (defBody s_law_long_right) (defScope s_law_long_right) [] [] (He.ga K "_law_long_right") fd := T.says.def_ 60 (d := d_law_long_right) rfl
theorem F_law_six_right (T : Tp K mg) : ∃ fd, FunD K "_law_six_right" "_law_six_right" (defArgs s_law_six_right) (defBody s_law_six_right) (defScope s_law_six_right) [] [] (He.ga K "_law_six_right") fd := T.says.def_ 61 (d := d_law_six_right) rfl
theorem F_law_forty_right (T : Tp K mg) : ∃ fd, FunD K "_law_forty_right" "_law_forty_right" (defArgs s_law_forty_right) (defBody s_law_forty_right) (defScope s_law_forty_right) [] [] (He.ga K "_law_forty_right") fd := T.says.def_ 62 (d := d_law_forty_right) rfl
theorem F_law (T : Tp K mg) : ∃ fd, FunD K "law" "law" (defArgs s_law) (defBody s_law) (defScope s_law) [] [] (He.ga K "law") fd := T.says.def_ 63 (d := d_law) rfl
end
end Elk
set_option Elab.async false
set_option linter.all false
set_option maxRecDepth 100000
set_option maxHeartbeats 0
namespace Elk
open PySem PySem.Spec PyProof.Rows L2
/-! ### what the head tells beside the defs: two getters, some facts of the two classes -/
def propA (K : W.Frag) (f : Str) : Addr := He.ma K (cA K) f
def getA (K : W.Frag) (f : Str) : Addr := match W.recIn K (propA K f) "property" with
  | some (.ref g :: _) => g
  | _ => 0
def propB (K : W.Frag) (f : Str) : Bool := decide (W.findIn K (.ref (cA K)) f = some (some (.ref (propA K f)))) && (decide (W.specialIn K (.ref (propA K f)) "__get__" = some (some (.builtin "property.__get__"))) && (decide (W.takesIn K (.ref (propA K f)) = some true) && (match W.recIn K (propA K f) "property" with
  | some (.ref _ :: _) => true
  | _ => false)))
theorem propB_ok {K : W.Frag} {f : Str} (h : propB K f = true) : PropOf K (cA K) f (propA K f) (getA K f) := by
  unfold propB at h
  rw [Bool.and_eq_true, Bool.and_eq_true, Bool.and_eq_true] at h
  obtain ⟨h1, h2, h3, h4⟩ := h
  refine ⟨of_decide_eq_true h1, of_decide_eq_true h2, of_decide_eq_true h3, ?_⟩
  unfold getA
  cases e : W.recIn K (propA K f) "property" with
  | none => rw [e] at h4; cases h4
  | some l =>
    rw [e] at h4
    cases l with
    | nil => cases h4
    | cons v r => cases v with
      | ref g => exact ⟨r, rfl⟩
      | _ => cases h4
def funW (K : W.Frag) (a : Addr) : He.FnW := match K.lookup a with
  | some o => (match o.data with
    | .func q => some (q.name, q.qualname, q.params, q.body, q.scope, q.globals, q.closure, q.builtins)
    | _ => none)
  | none => none
def funB (K : W.Frag) (a : Addr) (qual : Str) : Bool := W.keepIn K (.ref a) && (match K.lookup a with
  | some o => (match o.data with
    | .func q => W.codeIn K q.code qual && (He.dflB K q.defaults [] && He.kwdB K q.kwdefaults [])
    | _ => false)
  | none => false)
theorem funD_at {K : W.Frag} {a : Addr} {nm qual : Str} {ar : Arguments} {bd : List Stmt} {sc : Scope} (e : funW K a = some (nm, qual, ar, .stmts bd, sc, mainGlobals, [], builtinsNs)) (c : funB K a qual = true) : ∃ fd, FunD K nm qual ar bd sc [] [] a fd := by
  unfold funB at c
  rw [Bool.and_eq_true] at c
  obtain ⟨kp, c⟩ := c
  unfold funW at e
  cases q : K.lookup a with
  | none => rw [q] at e; cases e
  | some o =>
    rw [q] at e c
    obtain ⟨oc, od, dt, os⟩ := o
    cases dt with
    | func f =>
      obtain ⟨m1, m2, m3, m4, m5, m6, m7, m8, m9, m10, m11, m12, m13, m14, m15⟩ := f
      have e : (some (m1, m2, m3, m4, m5, m6, m7, m15) : He.FnW) = some (nm, qual, ar, .stmts bd, sc, mainGlobals, [], builtinsNs) := e
      cases e
      have c : (W.codeIn K m13 qual && (He.dflB K m8 [] && He.kwdB K m9 [])) = true := c
      rw [Bool.and_eq_true, Bool.and_eq_true] at c
      exact ⟨_, ⟨oc, od, m8, m9, m10, m11, m12, m13, m14, os, rfl, q, c.1, He.dflB_ok c.2.1, He.kwdB_ok c.2.2⟩, kp⟩
    | _ => cases e
def factsB (K : W.Frag) : Bool := decide (W.findIn K (.ref (cL K)) "__ne__" = some (some (.builtin "object.__ne__"))) && (decide (W.mroIn K (cL K) (.type "object") = some true) && (decide (W.mroIn K (cA K) (.type "object") = some true) &&
  (decide (W.findIn K (.ref (cA K)) "__class__" = some (some (.builtin "object.__class__"))) && (decide (W.findIn K (.ref (cL K)) "__class__" = some (some (.builtin "object.__class__"))) &&
  (decide (W.specialIn K (.builtin "object.__class__") "__get__" = some (some (.builtin "getset_descriptor.__get__"))) && decide (W.takesIn K (.builtin "object.__class__") = some true))))))
def moreB (K : W.Frag) : Bool := factsB K && (propB K "name" && (propB K "fits" && (funB K (getA K "name") "Asker.name" && funB K (getA K "fits") "Asker.fits")))
abbrev AlE : Type := He.AlD × (He.FnW × He.FnW) × Bool
def obsE (K : W.Frag) : AlE := (He.obsD fa fn K, (funW K (getA K "name"), funW K (getA K "fits")), moreB K)
def valE : AlE := (He.valD fn, (some ("name", "Asker.name", defArgs s_Asker_name, .stmts (defBody s_Asker_name), defScope s_Asker_name, mainGlobals, [], builtinsNs), some ("fits", "Asker.fits", defArgs s_Asker_fits, .stmts (defBody s_Asker_fits), defScope s_Asker_fits, mainGlobals, [], builtinsNs)), true)
def stepE (g : Addr → Option Obj) (s : List Addr × List Addr) : List Addr × List Addr := (s.1 ++ s.2, (s.2.flatMap fun a => match g a with
  | some o => He.refsD o
  | none => []).filter fun a => !((s.1.any fun b => Nat.beq a b) || s.2.any fun b => Nat.beq a b))
def reachE (g : Addr → Option Obj) : Nat → List Addr × List Addr
  | 0 => ([], [mainGlobals])
  | n + 1 => stepE g (reachE g n)
/-- what the module's names reach in n steps, each once looked into -/
def asE (g : Addr → Option Obj) (n : Nat) : List Addr := (reachE g n).1 ++ (reachE g n).2
def hookE (n : Nat) : W.Hook where
  α := AlE
  obs := fun s => obsE (He.frG s.heap.get? (asE s.heap.get? n))
  val := fun _ => valE
  says := fun _ h => ∃ K : W.Frag, K.In h ∧ obsE K = valE
  of := fun _ _ e => ⟨_, He.frG_in, e⟩
  keeps := fun _ _ _ ⟨K, i, c⟩ kp => ⟨K, W.Frag.In.keeps i kp, c⟩
theorem tp_of {K : W.Frag} {h : Heap} {mg : Str → Option Value} (X : K.In h) (G : h.Ns mainGlobals mg) (c : obsE K = valE) : Tp K mg := by
  have c1 : He.SaysD fa fn K := congrArg (fun z : AlE => z.1) c
  have c2 : funW K (getA K "name") = _ := congrArg (fun z : AlE => z.2.1.1) c
  have c3 : funW K (getA K "fits") = _ := congrArg (fun z : AlE => z.2.1.2) c
  have c4 : moreB K = true := congrArg (fun z : AlE => z.2.2) c
  unfold moreB factsB at c4
  simp only [Bool.and_eq_true, decide_eq_true_eq] at c4
  obtain ⟨⟨f1, f2, f3, f4, f5, f6, f7⟩, p1, p2, q1, q2⟩ := c4
  obtain ⟨fd1, F1⟩ := funD_at c2 q1
  obtain ⟨fd2, F2⟩ := funD_at c3 q2
  exact ⟨c1, ⟨h, X, G⟩, ⟨_, _, fd1, propB_ok p1, F1⟩, ⟨_, _, fd2, propB_ok p2, F2⟩, f1, f2, f3, f4, f5, f6, f7⟩
abbrev RowE : W.OpenRow := W.OpenLaw.row PySem.Challenge.rw_elderlink_k22_whole_normal_and_counted
abbrev hkE : W.Hook := hookE 5
def obT (s : W.SharedT) : AlE := obsE (He.frG (HandSHeadRun.getT s) (asE (HandSHeadRun.getT s) 5))
theorem obT_eq (s : W.SharedT) : obT s = hkE.obs s.abs := by
  have e : HandSHeadRun.getT s = s.abs.heap.get? := funext (HandSHeadRun.getT_eq s)
  unfold obT
  rw [e]
  rfl
theorem runE (w : World) : HandSHeadRun.RunEq RowE (W.view RowE.prog [lawAt]) hkE obT 5200 (looseA ++ looseB) w := by
  intro os
  kernel_rfl
end Elk
set_option Elab.async false
set_option linter.all false
set_option maxRecDepth 100000
set_option maxHeartbeats 4000000
namespace Elk
open PySem PySem.Spec PyProof.Rows L2
/-! ### what a value stands for -/
abbrev VP (α : Type) := α → V → Hp → Prop
class Mo {α : Type} (p : VP α) : Prop where
  mo : ∀ {x : α} {v : V} {H H' : Hp}, Same H H' → p x v H → p x v H'
abbrev All2 {α : Type} (p : VP α) (xs : List α) (vs : List V) (H : Hp) : Prop := Paired (fun x v => p x v H) xs vs
def vS : VP Str := fun x v _ => v = .str x
def vI : VP Int := fun i v _ => v = .int i
def vN : VP Nat := fun i v _ => v = .int (i : Int)
def vO {α : Type} (p : VP α) : VP (Option α) := fun x v H => match x with
  | none => v = .non
  | some y => p y v H
def vL {α : Type} (p : VP α) : VP (List α) := fun xs v H => ∃ a vs, v = .ref a ∧ H a = some (.lst vs) ∧ All2 p xs vs H
def vT {α : Type} (p : VP α) : VP (W.Tup α) := fun t v H => ∃ a vs, v = .ref a ∧ H a = some (.tup vs) ∧ All2 p t.items vs H
def vP {α β : Type} (p : VP α) (q : VP β) : VP (α × β) := fun t v H => ∃ a u w, v = .ref a ∧ H a = some (.tup [u, w]) ∧ p t.1 u H ∧ q t.2 w H
def v3 {α β γ : Type} (p : VP α) (q : VP β) (r : VP γ) : VP (W.T3 α β γ) := fun t v H => ∃ a u w z, v = .ref a ∧ H a = some (.tup [u, w, z]) ∧ p t.a u H ∧ q t.b w H ∧ r t.c z H
section
variable {α β γ : Type} {p : VP α} {q : VP β} {r : VP γ} {H H' : Hp}
theorem All2.mo [Mo p] (s : Same H H') {xs : List α} {vs : List V} (h : All2 p xs vs H) : All2 p xs vs H' := Paired.mapP h fun _ _ e => Mo.mo s e
instance : Mo vS := ⟨fun _ h => h⟩
instance : Mo vI := ⟨fun _ h => h⟩
instance : Mo vN := ⟨fun _ h => h⟩
instance [Mo p] : Mo (vO p) := ⟨fun {x v H H'} s h => by
  cases x with
  | none => exact h
  | some y => exact Mo.mo (p := p) s h⟩
instance [Mo p] : Mo (vL p) := ⟨fun s ⟨a, vs, e, h, l⟩ => ⟨a, vs, e, s _ _ h, All2.mo s l⟩⟩
instance [Mo p] : Mo (vT p) := ⟨fun s ⟨a, vs, e, h, l⟩ => ⟨a, vs, e, s _ _ h, All2.mo s l⟩⟩
instance [Mo p] [Mo q] : Mo (vP p q) := ⟨fun s ⟨a, u, w, e, h, h1, h2⟩ => ⟨a, u, w, e, s _ _ h, Mo.mo s h1, Mo.mo s h2⟩⟩
instance [Mo p] [Mo q] [Mo r] : Mo (v3 p q r) := ⟨fun s ⟨a, u, w, z, e, h, h1, h2, h3⟩ => ⟨a, u, w, z, e, s _ _ h, Mo.mo s h1, Mo.mo s h2, Mo.mo s h3⟩⟩
theorem All2.len {xs : List α} {vs : List V} (h : All2 p xs vs H) : xs.length = vs.length := Paired.length h
theorem All2.app {xs ys : List α} {vs us : List V} (h : All2 p xs vs H) (k : All2 p ys us H) : All2 p (xs ++ ys) (vs ++ us) H := by
  induction h with
  | nil => exact k
  | cons a _ ih => exact .cons a ih
theorem All2.snoc {xs : List α} {vs : List V} {x : α} {v : V} (h : All2 p xs vs H) (k : p x v H) : All2 p (xs ++ [x]) (vs ++ [v]) H := h.app (.cons k .nil)
theorem All2.at {xs : List α} {vs : List V} (h : All2 p xs vs H) : ∀ {i : Nat} {v : V}, vs[i]? = some v → ∃ x, xs[i]? = some x ∧ p x v H := by
  induction h with
  | nil => intro i v e; simp at e
  | cons a _ ih =>
    intro i v e
    cases i with
    | zero => simp at e; subst e; exact ⟨_, rfl, a⟩
    | succ i => exact ih (i := i) (by simpa using e)
theorem All2.at' {xs : List α} {vs : List V} (h : All2 p xs vs H) : ∀ {i : Nat} {x : α}, xs[i]? = some x → ∃ v, vs[i]? = some v ∧ p x v H := by
  induction h with
  | nil => intro i v e; simp at e
  | cons a _ ih =>
    intro i v e
    cases i with
    | zero => simp at e; subst e; exact ⟨_, rfl, a⟩
    | succ i => exact ih (i := i) (by simpa using e)
theorem All2.take {xs : List α} {vs : List V} (h : All2 p xs vs H) : ∀ n : Nat, All2 p (xs.take n) (vs.take n) H := by
  induction h with
  | nil => intro n; simp only [List.take_nil]; exact .nil
  | cons a _ ih =>
    intro n
    cases n with
    | zero => exact .nil
    | succ n => exact .cons a (ih n)
theorem All2.drop {xs : List α} {vs : List V} (h : All2 p xs vs H) : ∀ n : Nat, All2 p (xs.drop n) (vs.drop n) H := by
  induction h with
  | nil => intro n; simp only [List.drop_nil]; exact .nil
  | cons a t ih =>
    intro n
    cases n with
    | zero => exact .cons a t
    | succ n => exact ih n
theorem All2.set {xs : List α} {vs : List V} {x : α} {v : V} (h : All2 p xs vs H) (k : p x v H) : ∀ n : Nat, All2 p (xs.set n x) (vs.set n v) H := by
  induction h with
  | nil => intro n; exact .nil
  | cons a t ih =>
    intro n
    cases n with
    | zero => exact .cons k t
    | succ n => exact .cons a (ih n)
theorem All2.rev {xs : List α} {vs : List V} (h : All2 p xs vs H) : All2 p xs.reverse vs.reverse H := by
  induction h with
  | nil => exact .nil
  | cons a _ ih => rw [List.reverse_cons, List.reverse_cons]; exact ih.snoc a
theorem all2_map {f : α → V} (hp : ∀ x v, p x v H ↔ v = f x) : ∀ {xs : List α} {vs : List V}, All2 p xs vs H ↔ vs = xs.map f
  | [], vs => ⟨fun h => by cases h; rfl, fun h => by subst h; exact .nil⟩
  | x :: xs, vs => ⟨fun h => by
      cases h with
      | cons a t => rw [(hp _ _).mp a, (all2_map hp).mp t]; rfl, fun h => by
      subst h
      exact .cons ((hp _ _).mpr rfl) ((all2_map hp).mpr rfl)⟩
theorem all2S {xs : List Str} {vs : List V} : All2 vS xs vs H ↔ vs = xs.map V.str := all2_map fun _ _ => Iff.rfl
theorem all2I {xs : List Int} {vs : List V} : All2 vI xs vs H ↔ vs = xs.map V.int := all2_map fun _ _ => Iff.rfl
theorem all2N {xs : List Nat} {vs : List V} : All2 vN xs vs H ↔ vs = xs.map (fun n : Nat => V.int (n : Int)) := all2_map fun _ _ => Iff.rfl
theorem all2N_I {xs : List Nat} {vs : List V} (h : All2 vN xs vs H) : All2 vI (xs.map (fun n : Nat => (n : Int))) vs H := by
  rw [all2N.mp h]; exact all2I.mpr (by simp)
theorem vL.mk {xs : List α} {vs : List V} {a : Addr} (h : H a = some (.lst vs)) (k : All2 p xs vs H) : vL p xs (.ref a) H := ⟨a, vs, rfl, h, k⟩
theorem vT.mk' {xs : List α} {vs : List V} {a : Addr} (h : H a = some (.tup vs)) (k : All2 p xs vs H) : vT p ⟨xs⟩ (.ref a) H := ⟨a, vs, rfl, h, k⟩
end
/-! ### heaps that grow -/
theorem same_upd {H : Hp} {a : Addr} {o : HO} (h : H a = none) : Same H (upd H a o) := fun b u e => by rw [upd_ne (ne_of_none e h)]; exact e
theorem same_upd' {H H1 : Hp} {a : Addr} {o : HO} (s : Same H H1) (h : H1 a = none) : Same H (upd H1 a o) := s.trans (same_upd h)
/-- a store to what is new since H -/
theorem same_store {H H1 : Hp} {a : Addr} {o : HO} (s : Same H H1) (h : H a = none) : Same H (upd H1 a o) := fun b u e => by
  rw [upd_ne (ne_of_none e h)]; exact s b u e
/-! ### the library's typed data, out of these -/
class Br {α : Type} [DecidableEq α] [W.Datum α] (p : VP α) : Prop where
  br : ∀ {P : Program} {w : World} {H : Hp} {h : Heap} {x : α} {v : V} {u : Value}, HOk P w H h → p x v H → RelV v u → W.Holds h u x
section
variable {α β γ : Type} [DecidableEq α] [W.Datum α] {p : VP α} [DecidableEq β] [W.Datum β] {q : VP β} [DecidableEq γ] [W.Datum γ] {r : VP γ} {P : Program} {w : World} {H : Hp} {h : Heap}
instance : Br vS := ⟨fun _ e r => by cases e; obtain ⟨t, rfl⟩ := r; exact W.holds_str _ _⟩
instance : Br vI := ⟨fun _ e r => by cases e; obtain ⟨t, rfl⟩ := r; exact W.holds_int _ _⟩
theorem br_all [Br p] (ok : HOk P w H h) {xs : List α} {vs : List V} (l : All2 p xs vs H) : ∀ {us : List Value}, Vals vs us → W.HoldAll h us xs := by
  induction l with
  | nil => intro us r; cases r; exact W.HoldAll.nil
  | cons a _ ih =>
    intro us r
    cases r with
    | cons r1 r2 => exact W.HoldAll.cons (Br.br ok a r1) (ih r2)
theorem br_lst (ok : HOk P w H h) {a : Addr} {vs : List V} (e : H a = some (.lst vs)) : ∃ us : List Value, Vals vs us ∧ h.IsList a us.toArray ∧ vs.length ≤ sizeLine := by
  obtain ⟨z, us, n, rv, g⟩ := ok a _ e
  exact ⟨us, rv, ⟨_, g, rfl, n, rfl⟩, z⟩
theorem br_tup (ok : HOk P w H h) {a : Addr} {vs : List V} (e : H a = some (.tup vs)) : ∃ us : List Value, Vals vs us ∧ h.IsTuple a us.toArray ∧ vs.length ≤ sizeLine := by
  obtain ⟨z, us, rv, g⟩ := ok a _ e
  exact ⟨us, rv, g, z⟩
instance [Br p] : Br (vL p) := ⟨fun ok ⟨a, vs, e, g, l⟩ r => by
  subst e; cases r
  obtain ⟨us, rv, il, _⟩ := br_lst ok g
  exact W.holds_list il (br_all ok l (by simpa using rv))⟩
instance [Br p] : Br (vT p) := ⟨fun {P w H h x v u} ok ⟨a, vs, e, g, l⟩ r => by
  subst e; cases r
  obtain ⟨us, rv, il, _⟩ := br_tup ok g
  exact W.holds_tup il (br_all ok l (by simpa using rv))⟩
instance [Br p] [Br q] : Br (vP p q) := ⟨fun {P w H h x v u} ok ⟨a, y, z, e, g, l1, l2⟩ r => by
  subst e; cases r
  obtain ⟨us, rv, il, _⟩ := br_tup ok g
  cases rv with
  | cons r1 rv => cases rv with
    | cons r2 rv =>
      cases rv
      exact W.holds_pair il (Br.br ok l1 r1) (Br.br ok l2 r2)⟩
instance [Br p] [Br q] [Br r] : Br (v3 p q r) := ⟨fun {P w H h x v u} ok ⟨a, y, z, t, e, g, l1, l2, l3⟩ r => by
  subst e; cases r
  obtain ⟨us, rv, il, _⟩ := br_tup ok g
  cases rv with
  | cons r1 rv => cases rv with
    | cons r2 rv => cases rv with
      | cons r3 rv =>
        cases rv
        exact W.holds_t3 il (Br.br ok l1 r1) (Br.br ok l2 r2) (Br.br ok l3 r3)⟩
instance [W.SomeDatum α] [Br p] : Br (vO p) := ⟨fun {P w H h x v u} ok e r => by
  cases x with
  | none => cases e; cases r; exact W.holds_nothing
  | some y => exact W.holds_some (Br.br (p := p) ok e r)⟩
/-! ### == and != -/
def rEqP (p : VP α) : R2 := fun x y H Q => ∃ a b, p a x H ∧ p b y H ∧ Q (.bl (decide (a = b))) H
def rNeP (p : VP α) : R2 := fun x y H Q => ∃ a b, p a x H ∧ p b y H ∧ Q (.bl (decide (a ≠ b))) H
theorem op_eqP (p : VP α) [Br p] {X : Cx} (hu : X.A.units + 64 < cLine) (hd : W.Datum.depth α ≤ 60 := by decide) : OpR X (compareOp .Eq) (rEqP p) := by
  intro pins s σ H x y v u Q I rx ry ⟨a, b, ha, hb, k⟩
  exact W.eq_datum (Br.br I.hok ha rx) (Br.br I.hok hb ry) (by omega) ⟨.bl _, H, I, rfl, k⟩
theorem op_neP (p : VP α) [Br p] {X : Cx} (hu : X.A.units + 64 < cLine) (hd : W.Datum.depth α ≤ 60 := by decide) : OpR X (compareOp .NotEq) (rNeP p) := by
  intro pins s σ H x y v u Q I rx ry ⟨a, b, ha, hb, k⟩
  exact W.ne_datum (Br.br I.hok ha rx) (Br.br I.hok hb ry) (by omega) ⟨.bl _, H, I, rfl, k⟩
end
/-! ### a list against an empty list: whatever it holds -/
def rNeNil : R2 := fun x y H Q => ∃ a b xs, x = .ref a ∧ y = .ref b ∧ H a = some (.lst xs) ∧ H b = some (.lst []) ∧ Q (.bl (!xs.isEmpty)) H
def rEqNil : R2 := fun x y H Q => ∃ a b xs, x = .ref a ∧ y = .ref b ∧ H a = some (.lst xs) ∧ H b = some (.lst []) ∧ Q (.bl xs.isEmpty) H
theorem op_neNil {X : Cx} (hu : X.A.units + 64 < cLine) : OpR X (compareOp .NotEq) rNeNil := by
  intro pins s σ H x y v u Q I rx ry ⟨a, b, xs, ex, ey, ha, hb, k⟩
  subst ex ey; cases rx; cases ry
  obtain ⟨us, rv, il, _⟩ := br_lst I.hok ha
  obtain ⟨us', rv', il', _⟩ := br_lst I.hok hb
  cases rv'
  have lt : X.A.units < cLine := by omega
  cases xs with
  | nil =>
    cases rv
    exact SeqAt.RcNeAt.lists (e := fun _ => true) il il' rfl lt (fun j h1 _ => absurd h1 (by simp)) X.prog X.w X.xe _ ⟨.bl _, H, I, rfl, k⟩
  | cons x xs =>
    cases rv with
    | cons r1 r2 => exact SeqAt.RcNeAt.lists_lengths il il' (by simp) lt X.prog X.w X.xe _ ⟨.bl _, H, I, rfl, k⟩
theorem op_eqNil {X : Cx} (hu : X.A.units + 64 < cLine) : OpR X (compareOp .Eq) rEqNil := by
  intro pins s σ H x y v u Q I rx ry ⟨a, b, xs, ex, ey, ha, hb, k⟩
  subst ex ey; cases rx; cases ry
  obtain ⟨us, rv, il, _⟩ := br_lst I.hok ha
  obtain ⟨us', rv', il', _⟩ := br_lst I.hok hb
  cases rv'
  have lt : X.A.units < cLine := by omega
  cases xs with
  | nil =>
    cases rv
    exact SeqAt.eq_listAt (e := fun _ => true) il il' rfl lt (fun j h1 _ => absurd h1 (by simp)) ⟨.bl _, H, I, rfl, k⟩
  | cons x xs =>
    cases rv with
    | cons r1 r2 => exact SeqAt.eq_list_lengthsAt il il' (by simp) lt ⟨.bl _, H, I, rfl, k⟩
/-! ### min, sorted, over what has an order -/
section
variable {α : Type} [DecidableEq α] [W.DatumOrd α] {p : VP α}
theorem toD_inj {a b : α} (h : W.Datum.toD a = W.Datum.toD b) : a = b := by
  have e := W.Datum.eqv a b
  rw [← h, W.Datum.eqv a a] at e
  exact of_decide_eq_true (e.symm.trans (decide_eq_true rfl))
theorem holds_one {h : Heap} {u : Value} {a b : α} (ha : W.Holds h u a) (hb : W.Holds h u b) : a = b := by
  obtain ⟨as, ra⟩ := ha
  obtain ⟨bs, rb⟩ := hb
  exact toD_inj (W.alike_unique _ _ _ _ _ (W.DatumOrd.alike a b) ra rb)
/-- min(xs): the item -/
def rMinP (p : VP α) : List V → Hp → VK → Prop := fun vs H Q => ∃ (a : Addr) (x : α) (xs : List α) (us : List V), vs = [.ref a] ∧ H a = some (.lst us) ∧ All2 p (x :: xs) us H ∧ ∀ v, p (W.minOf x xs) v H → Q v H
theorem cr_minP (p : VP α) [Br p] {X : Cx} (hc : X.calm = true) (hu : X.A.units + 64 < cLine) (hd : W.Datum.depth α ≤ 60 := by decide) : CallR X (.builtin "min") (rMinP p) := by
  intro pins s σ H vs us Q I rv ⟨a, x, xs, ys, e, ha, l, k⟩
  subst e
  rw [Vals.ref1 rv]
  obtain ⟨zs, rz, il, _⟩ := br_lst I.hok ha
  refine W.min_list_datum (x := x) (xs := xs) (I.ok.hd hc) il (br_all I.hok l (by simpa using rz)) (by omega) fun i v h' tk hi hm kp => ?_
  have hi' : zs[i]? = some v := by simpa using hi
  have hl := rz.length
  have hlt : i < ys.length := by rw [hl]; exact (List.getElem?_eq_some_iff.mp hi').1
  obtain ⟨v', e1, r1⟩ := rz.get (List.getElem?_eq_getElem hlt)
  rw [hi'] at e1; cases e1
  obtain ⟨y, ey, py⟩ := l.at (List.getElem?_eq_getElem hlt)
  have em : y = W.minOf x xs := holds_one ((Br.br I.hok py r1).keeps kp) hm
  subst em
  exact ⟨_, H, I.kept (t' := tk) kp, r1, k _ py⟩
end
/-! the one sorted list -/
section
variable {α : Type}
def ins (lt : α → α → Bool) (x : α) : List α → List α
  | [] => [x]
  | y :: ys => if lt y x = true then y :: ins lt x ys else x :: y :: ys
def isort (lt : α → α → Bool) : List α → List α
  | [] => []
  | x :: xs => ins lt x (isort lt xs)
/-- a strict linear order -/
structure Slo (lt : α → α → Bool) : Prop where
  irr : ∀ x, lt x x = false
  tr : ∀ x y z, lt x y = true → lt y z = true → lt x z = true
  tot : ∀ x y, lt x y = false → lt y x = false → x = y
theorem ins_perm (lt : α → α → Bool) (x : α) : ∀ ys : List α, (ins lt x ys).Perm (x :: ys)
  | [] => .refl _
  | y :: ys => by
    unfold ins
    split
    · exact ((ins_perm lt x ys).cons y).trans (.swap _ _ _)
    · exact .refl _
theorem isort_perm (lt : α → α → Bool) : ∀ xs : List α, (isort lt xs).Perm xs
  | [] => .refl _
  | x :: xs => (ins_perm lt x _).trans ((isort_perm lt xs).cons x)
theorem Slo.asym {lt : α → α → Bool} (O : Slo lt) {x y : α} (h : lt x y = true) : lt y x = false := by
  cases e : lt y x with
  | false => rfl
  | true => rw [← O.irr x, O.tr _ _ _ h e]
theorem ins_srtd {lt : α → α → Bool} (O : Slo lt) {x : α} : ∀ {ys : List α}, ys.Pairwise (fun a b => lt b a = false) → (ins lt x ys).Pairwise (fun a b => lt b a = false)
  | [], _ => by simp [ins]
  | y :: ys, h => by
    obtain ⟨h1, h2⟩ := List.pairwise_cons.mp h
    unfold ins
    split
    · rename_i e
      refine List.pairwise_cons.mpr ⟨fun z hz => ?_, ins_srtd O h2⟩
      rcases List.mem_cons.mp ((ins_perm lt x ys).mem_iff.mp hz) with q | q
      · subst q; exact O.asym e
      · exact h1 z q
    · rename_i e
      have e' : lt y x = false := by simpa using e
      refine List.pairwise_cons.mpr ⟨fun z hz => ?_, h⟩
      rcases List.mem_cons.mp hz with q | q
      · subst q; exact e'
      · cases ez : lt z x with
        | false => rfl
        | true =>
          by_cases exy : lt x y = true
          · have := O.tr _ _ _ ez exy
            rw [h1 z q] at this; cases this
          · have hxy : y = x := O.tot _ _ e' (by simpa using exy)
            subst hxy
            rw [h1 z q] at ez; cases ez
theorem isort_srtd {lt : α → α → Bool} (O : Slo lt) : ∀ xs : List α, (isort lt xs).Pairwise (fun a b => lt b a = false)
  | [] => .nil
  | x :: xs => ins_srtd O (isort_srtd O xs)
theorem srtd_uniq {lt : α → α → Bool} (O : Slo lt) : ∀ {xs ys : List α}, xs.Perm ys → xs.Pairwise (fun a b => lt b a = false) → ys.Pairwise (fun a b => lt b a = false) → xs = ys
  | [], ys, p, _, _ => (List.Perm.eq_nil p.symm).symm
  | x :: xs, [], p, _, _ => absurd p.length_eq (by simp)
  | x :: xs, y :: ys, p, h, k => by
    obtain ⟨h1, h2⟩ := List.pairwise_cons.mp h
    obtain ⟨k1, k2⟩ := List.pairwise_cons.mp k
    have a : lt y x = false := by
      rcases List.mem_cons.mp (p.mem_iff.mpr (List.mem_cons_self (a := y) (l := ys))) with q | q
      · rw [q]; exact O.irr _
      · exact h1 y q
    have b : lt x y = false := by
      rcases List.mem_cons.mp (p.mem_iff.mp (List.mem_cons_self (a := x) (l := xs))) with q | q
      · rw [q]; exact O.irr _
      · exact k1 x q
    have e := O.tot _ _ b a
    subst e
    rw [srtd_uniq O p.cons_inv h2 k2]
theorem isort_of {lt : α → α → Bool} (O : Slo lt) {xs ys : List α} (p : ys.Perm xs) (h : ys.Pairwise (fun a b => lt b a = false)) : ys = isort lt xs :=
  srtd_uniq O (p.trans (isort_perm lt xs).symm) h (isort_srtd O xs)
end
end Elk
set_option Elab.async false
set_option linter.all false
set_option maxRecDepth 100000
set_option maxHeartbeats 4000000
namespace Elk
open PySem PySem.Spec PyProof.Rows L2
/-! ### the orders -/
theorem slo_int : Slo (W.DatumOrd.lt : Int → Int → Bool) := by
  refine ⟨fun x => ?_, fun x y z h k => ?_, fun x y h k => ?_⟩
  · exact decide_eq_false (Int.lt_irrefl x)
  · have a := of_decide_eq_true (p := x < y) h
    have b := of_decide_eq_true (p := y < z) k
    exact decide_eq_true (p := x < z) (by omega)
  · have a := of_decide_eq_false (p := x < y) h
    have b := of_decide_eq_false (p := y < x) k
    omega
theorem slo_str : Slo (W.DatumOrd.lt : Str → Str → Bool) := by
  refine ⟨fun x => ?_, fun x y z h k => ?_, fun x y h k => ?_⟩
  · exact decide_eq_false (List.lt_irrefl x.cps.toList)
  · have a := of_decide_eq_true (p := x.cps.toList < y.cps.toList) h
    have b := of_decide_eq_true (p := y.cps.toList < z.cps.toList) k
    exact decide_eq_true (p := x.cps.toList < z.cps.toList) (List.lt_trans a b)
  · have a := of_decide_eq_false (p := x.cps.toList < y.cps.toList) h
    have b := of_decide_eq_false (p := y.cps.toList < x.cps.toList) k
    exact W.str_of_cps (List.le_antisymm (List.not_lt.mp b) (List.not_lt.mp a))
section
variable {α β γ : Type} [DecidableEq α] [W.DatumOrd α] [DecidableEq β] [W.DatumOrd β] [DecidableEq γ] [W.DatumOrd γ]
theorem slo_listLt (O : Slo (W.DatumOrd.lt : α → α → Bool)) : Slo (W.listLt : List α → List α → Bool) := by
  refine ⟨fun x => ?_, fun x => ?_, fun x => ?_⟩
  · induction x with
    | nil => rfl
    | cons a x ih => rw [W.listLt, if_pos rfl]; exact ih
  · induction x with
    | nil =>
      intro y z h k
      cases y with
      | nil => cases h
      | cons b y => cases z with
        | nil => cases k
        | cons c z => rfl
    | cons a x ih =>
      intro y z h k
      cases y with
      | nil => cases h
      | cons b y =>
        cases z with
        | nil => cases k
        | cons c z =>
          rw [W.listLt] at h k ⊢
          by_cases ab : a = b
          · rw [if_pos ab] at h
            subst ab
            by_cases ac : a = c
            · rw [if_pos ac] at k ⊢; exact ih _ _ h k
            · rw [if_neg ac] at k ⊢; exact k
          · rw [if_neg ab] at h
            by_cases bc : b = c
            · subst bc; rw [if_neg ab]; exact h
            · rw [if_neg bc] at k
              have t := O.tr _ _ _ h k
              by_cases ac : a = c
              · subst ac; rw [O.irr] at t; cases t
              · rw [if_neg ac]; exact t
  · induction x with
    | nil =>
      intro y h k
      cases y with
      | nil => rfl
      | cons b y => cases h
    | cons a x ih =>
      intro y h k
      cases y with
      | nil => cases k
      | cons b y =>
        rw [W.listLt] at h k
        by_cases ab : a = b
        · subst ab
          rw [if_pos rfl] at h k
          rw [ih y h k]
        · rw [if_neg ab] at h
          rw [if_neg (Ne.symm ab)] at k
          exact absurd (O.tot _ _ h k) ab
theorem slo_list (O : Slo (W.DatumOrd.lt : α → α → Bool)) : Slo (W.DatumOrd.lt : List α → List α → Bool) := slo_listLt O
theorem slo_tup (O : Slo (W.DatumOrd.lt : α → α → Bool)) : Slo (W.DatumOrd.lt : W.Tup α → W.Tup α → Bool) :=
  ⟨fun x => (slo_listLt O).irr x.items, fun x y z h k => (slo_listLt O).tr _ _ _ h k, fun x y h k => by
    have e := (slo_listLt O).tot x.items y.items h k
    cases x; cases y; exact congrArg W.Tup.mk e⟩
theorem slo_prod (O : Slo (W.DatumOrd.lt : α → α → Bool)) (O' : Slo (W.DatumOrd.lt : β → β → Bool)) : Slo (W.DatumOrd.lt : α × β → α × β → Bool) := by
  have eq : ∀ x y : α × β, W.DatumOrd.lt x y = if x.1 = y.1 then W.DatumOrd.lt x.2 y.2 else W.DatumOrd.lt x.1 y.1 := fun _ _ => rfl
  refine ⟨fun x => ?_, fun x y z h k => ?_, fun x y h k => ?_⟩
  · rw [eq, if_pos rfl]; exact O'.irr _
  · rw [eq] at h k ⊢
    by_cases ab : x.1 = y.1
    · rw [if_pos ab] at h
      by_cases bc : y.1 = z.1
      · rw [if_pos bc] at k; rw [if_pos (ab.trans bc)]; exact O'.tr _ _ _ h k
      · rw [if_neg bc] at k; rw [ab, if_neg bc]; exact k
    · rw [if_neg ab] at h
      by_cases bc : y.1 = z.1
      · rw [← bc, if_neg ab]; exact h
      · rw [if_neg bc] at k
        have t := O.tr _ _ _ h k
        by_cases ac : x.1 = z.1
        · rw [ac, O.irr] at t; cases t
        · rw [if_neg ac]; exact t
  · rw [eq] at h k
    by_cases ab : x.1 = y.1
    · rw [if_pos ab] at h; rw [if_pos ab.symm] at k
      exact Prod.ext ab (O'.tot _ _ h k)
    · rw [if_neg ab] at h; rw [if_neg (Ne.symm ab)] at k
      exact absurd (O.tot _ _ h k) ab
theorem slo_t3 (O : Slo (W.DatumOrd.lt : α → α → Bool)) (O' : Slo (W.DatumOrd.lt : β → β → Bool)) (O2 : Slo (W.DatumOrd.lt : γ → γ → Bool)) : Slo (W.DatumOrd.lt : W.T3 α β γ → W.T3 α β γ → Bool) := by
  have e2 : ∀ x y : W.T3 α β γ, W.DatumOrd.lt x y = W.DatumOrd.lt (x.a, x.b, x.c) (y.a, y.b, y.c) := fun _ _ => rfl
  have S : Slo (W.DatumOrd.lt : α × β × γ → α × β × γ → Bool) := slo_prod O (slo_prod O' O2)
  refine ⟨fun x => (e2 x x).trans (S.irr _), fun x y z h k => (e2 x z).trans (S.tr _ _ _ ((e2 x y).symm.trans h) ((e2 y z).symm.trans k)), fun x y h k => ?_⟩
  have e := S.tot _ _ ((e2 x y).symm.trans h) ((e2 y x).symm.trans k)
  cases x; cases y
  simp only [Prod.mk.injEq] at e
  obtain ⟨a, b, c⟩ := e
  subst a b c
  rfl
end
theorem isort_map {α β : Type} {lt : α → α → Bool} {lt' : β → β → Bool} {f : α → β} : ∀ {xs : List α}, (∀ x ∈ xs, ∀ y ∈ xs, lt' (f x) (f y) = lt x y) → isort lt' (xs.map f) = (isort lt xs).map f
  | [], _ => rfl
  | x :: xs, h => by
    have hi : ∀ ys : List α, (∀ y ∈ ys, y ∈ xs) → ins lt' (f x) (ys.map f) = (ins lt x ys).map f := by
      intro ys
      induction ys with
      | nil => intro _; rfl
      | cons y ys ih =>
        intro hy
        have e := h y (List.mem_cons_of_mem _ (hy y List.mem_cons_self)) x List.mem_cons_self
        rw [List.map_cons, ins, ins, e]
        split
        · rw [List.map_cons, ih fun z hz => hy z (List.mem_cons_of_mem _ hz)]
        · rfl
    show ins lt' (f x) (isort lt' (xs.map f)) = _
    rw [isort_map fun a ha b hb => h a (List.mem_cons_of_mem _ ha) b (List.mem_cons_of_mem _ hb)]
    exact hi _ fun y hy => (isort_perm lt xs).mem_iff.mp hy
/-! ### sorted -/
section
variable {α : Type} [DecidableEq α] [W.DatumOrd α] {p : VP α}
def rSortedP (p : VP α) : List V → Hp → VK → Prop := fun vs H Q => ∃ (a : Addr) (xs : List α) (us : List V), vs = [.ref a] ∧ H a = some (.lst us) ∧ All2 p xs us H ∧
  ∀ q ys, H q = none → All2 p (isort W.DatumOrd.lt xs) ys H → Q (.ref q) (upd H q (.lst ys))
/-- how the keys are told apart: tuples, or neither tuples nor None -/
def SortK (α : Type) [DecidableEq α] [W.DatumOrd α] : Prop := (∀ a : α, ∃ x r, W.Datum.toD a = .tuple (x :: r)) ∨ (∀ a : α, W.Datum.toD a ≠ .none ∧ ∀ xs, W.Datum.toD a ≠ .tuple xs)
theorem each_two {P : Program} {w : World} {H : Hp} {xs : List α} {vs : List V} (l : All2 p xs vs H) : ∀ {us : List Value}, Vals vs us →
    W.EachIs (fun (u : Value) (b : V × α) => RelV b.1 u ∧ p b.2 b.1 H) us (vs.zip xs) := by
  induction l with
  | nil => intro us r; cases r; exact .nil
  | cons a _ ih =>
    intro us r
    cases r with
    | cons r1 r2 => exact .cons ⟨r1, a⟩ (ih r2)
theorem each_back {H : Hp} {bs : List (V × α)} {us : List Value} (e : W.EachIs (fun (u : Value) (b : V × α) => RelV b.1 u ∧ p b.2 b.1 H) us bs) :
    Vals (bs.map (·.1)) us ∧ All2 p (bs.map (·.2)) (bs.map (·.1)) H := by
  induction e with
  | nil => exact ⟨.nil, .nil⟩
  | cons h _ ih => exact ⟨.cons h.1 ih.1, .cons h.2 ih.2⟩
theorem cr_sortedP (p : VP α) [Br p] {X : Cx} (hu : X.A.units + 64 < cLine) (O : Slo (W.DatumOrd.lt : α → α → Bool)) (hk : SortK α) (hd : W.Datum.depth α ≤ 60 := by decide) : CallR X (.builtin "sorted") (rSortedP p) := by
  intro pins s σ H vs us Q I rv ⟨a, xs, ys, e, ha, l, k⟩
  subst e
  rw [Vals.ref1 rv]
  obtain ⟨zs, rz, il, hz⟩ := br_lst I.hok ha
  have hlen := l.len
  have hzl : (ys.zip xs).map Prod.snd = xs := by rw [List.map_snd_zip]; omega
  have e1 := each_two (P := X.prog) (w := X.w) l rz
  refine W.sorted_data (enc := fun b : V × α => W.Datum.toD b.2) il e1 (e1.mono fun u b ⟨h1, h2⟩ => Br.br I.hok h2 h1) (W.AllAlike.of fun b b' => W.DatumOrd.alike _ _) ?_ (by rw [List.length_zip]; omega) (fun b _ => ?_) fun out hl eo => ?_
  · rcases hk with h | h
    · exact W.Sortable.tuples fun b => h b.2
    · exact W.Sortable.others fun b => h b.2
  · have := W.Datum.depth_le b.2
    omega
  · obtain ⟨r1, r2⟩ := each_back eo
    have es : ((ys.zip xs).mergeSort (W.dataLe false fun b : V × α => W.Datum.toD b.2)).map (·.2) = isort W.DatumOrd.lt xs := by
      refine isort_of O ?_ ?_
      · have q := (List.mergeSort_perm (ys.zip xs) (W.dataLe false fun b : V × α => W.Datum.toD b.2)).map Prod.snd
        rw [hzl] at q
        exact q
      · have q := W.sort_pairwise (le := W.dataLe false fun b : V × α => W.Datum.toD b.2) (W.sortLe_total (PyProof.Rows.listOrd PyProof.Rows.itemOrd) false _) (ys.zip xs)
        refine List.pairwise_map.mpr (List.Pairwise.imp (fun {b c} h => ?_) q)
        have h' : W.dataLe false (fun b : V × α => W.Datum.toD b.2) b c = true := h
        rw [W.dataLe_eq] at h'
        have h2 : (!W.dataLt (W.Datum.toD c.2) (W.Datum.toD b.2)) = true := h'
        rw [W.DatumOrd.lt_eq] at h2
        simpa using h2
    rw [es] at r2
    obtain ⟨ep, he'⟩ := PyProof.Rows.sortedAll_at s.heap zs out.toArray
    refine ⟨.ref _, upd H (s.heap.objs.size + 1) (.lst _), I.laid (t' := s.toks) (fun _ _ => PyProof.Rows.sortedAll_old) (Nat.le_succ _) ⟨?_, out, ep, r1, he'⟩, rfl, k _ _ (I.hok.fresh (Nat.le_succ _)) r2⟩
    rw [r1.length, hl, List.length_zip]
    omega
theorem sortK_int : SortK Int := .inr fun a => ⟨fun e => (nomatch e), fun _ e => (nomatch e)⟩
theorem sortK_str : SortK Str := .inr fun a => ⟨fun e => (nomatch e), fun _ e => (nomatch e)⟩
theorem sortK_list : SortK (List α) := .inr fun a => ⟨fun e => (nomatch e), fun _ e => (nomatch e)⟩
theorem sortK_prod {β : Type} [DecidableEq β] [W.DatumOrd β] : SortK (α × β) := .inl fun a => ⟨_, _, rfl⟩
theorem sortK_t3 {β γ : Type} [DecidableEq β] [W.DatumOrd β] [DecidableEq γ] [W.DatumOrd γ] : SortK (W.T3 α β γ) := .inl fun a => ⟨_, _, rfl⟩
end
end Elk
set_option Elab.async false
set_option linter.all false
set_option maxRecDepth 100000
set_option maxHeartbeats 4000000
namespace Elk
open PySem PySem.Spec PyProof.Rows L2
open PySem.SeqAt
open AutoSeq1 (wpAny_loadPart')
open MeetsSeq MeetsSeq2 MeetsSeq3 SeqRoads2
/-! ### searching and comparing lists where == runs the program's own code -/
/-- the first of k places from i on that answers yes -/
def anyAt (e : Nat → Bool) : Nat → Nat → Bool
  | _, 0 => false
  | i, k + 1 => if e i = true then true else anyAt e (i + 1) k
def allAt (e : Nat → Bool) : Nat → Nat → Bool
  | _, 0 => true
  | i, k + 1 => if e i = true then allAt e (i + 1) k else false
section
variable {prog : Program} {w : World} {A : Around} {R : Result → Shared → Prop} {l b : Addr} {x : Value} {N : Nat} {I : Shared → Prop} {e : Nat → Bool}
/-- wherever I holds, the list at l has N items, and the i-th compared with x gives e i and keeps I -/
def Turns (prog : Program) (w : World) (A : Around) (E : Value → Shared → Prop) (l : Addr) (x : Value) (N : Nat) (I : Shared → Prop) (e : Nat → Bool) : Prop :=
  ∀ i s, I s → ∃ (its : Array Value) (n : Nat), s.heap.get? l = some { cls := .type "list", data := .seq its n } ∧ its.size = N ∧
    ∀ lt : i < its.size, wpAny (model prog w) A.in1 (eqBool its[i] x) (fun r t => r = e i ∧ I t) E s
theorem has_turns (T : Turns prog w A (fun er t => R (.error er) t) l x N I e) (k : Nat) :
    ∀ i, N - i = k → i ≤ N → ∀ s, I s → (∀ t, I t → R (.ok (.ret (.bool (anyAt e i k)))) t) →
      wpAny (model prog w) A.in1 (Builtin.«list.__contains__.loop» ⟨[.ref l, x, rawInt i], []⟩) (GQ.FinOf prog w A R) (fun er t => R (.error er) t) s := by
  induction k with
  | zero =>
    intro i hk hi s hs out
    obtain ⟨its, n, hg, hz, _⟩ := T i s hs
    have q := out s hs
    obtain ⟨hp, gn, dr, tk, os⟩ := s
    wp_walk using wpAny_loadPart' hg
    have h0 : its[((i : Nat) : Int).toNat]? = none := by simp; omega
    rw [h0]
    wp_walk
    exact q
  | succ k ih =>
    intro i hk hi s hs out
    obtain ⟨its, n, hg, hz, turn⟩ := T i s hs
    have lt : i < its.size := by omega
    have go := turn lt
    obtain ⟨hp, gn, dr, tk, os⟩ := s
    wp_walk using wpAny_loadPart' hg
    have h0 : its[((i : Nat) : Int).toNat]? = some its[i] := by simp [lt]
    rw [h0]
    refine wpAny_bind (wpAny_mono go (fun r t ht => ?_) fun _ _ z => z)
    obtain ⟨er, it⟩ := ht
    subst er
    cases hb : e i with
    | true =>
      have q := out t it
      rw [anyAt, if_pos hb] at q
      obtain ⟨hp2, gn2, dr2, tk2, os2⟩ := t
      wp_walk
      exact q
    | false =>
      have hc : ((i : Int) + 1) = ((i + 1 : Nat) : Int) := by omega
      have more := ih (i + 1) (by omega) (by omega) t it fun t' h' => by
        have q := out t' h'
        rw [anyAt, if_neg (by rw [hb]; exact Bool.false_ne_true)] at q
        exact q
      obtain ⟨hp2, gn2, dr2, tk2, os2⟩ := t
      wp_walk
      rw [hc]
      refine ⟨plainId_quiet plain_contains_loop _, codeAny_builtin entry_contains_loop ?_⟩
      rw [Around.under_plainId plain_contains_loop _]
      exact more
theorem has_list (T : Turns prog w A (fun er t => R (.error er) t) l x N I e) {s : Shared} (hs : I s) (out : ∀ t, I t → R (.ok (.ret (.bool (anyAt e 0 N)))) t) :
    wpAny (model prog w) A.in1 (Builtin.«list.__contains__» ⟨[.ref l, x], []⟩) (GQ.FinOf prog w A R) (fun er t => R (.error er) t) s := by
  have more := has_turns T N 0 (by omega) (Nat.zero_le _) s hs out
  obtain ⟨its, n, hg, hz, _⟩ := T 0 s hs
  obtain ⟨hp, gn, dr, tk, os⟩ := s
  wp_walk using wpAny_loadPart' hg
  refine ⟨plainId_quiet plain_contains_loop _, codeAny_builtin entry_contains_loop ?_⟩
  rw [Around.under_plainId plain_contains_loop _]
  exact more
theorem at_turns {upto : Int} {j : Nat} (T : Turns prog w A (fun er t => R (.error er) t) l x N I e) (hj : j < N) (hup : (j : Int) < upto) (hit : e j = true) (hno : ∀ m, m < j → e m = false) (k : Nat) :
    ∀ i, j - i = k → i ≤ j → ∀ s, I s → (∀ t, I t → R (.ok (.ret (.int j t.toks))) { t with toks := t.toks + 1 }) →
      wpAny (model prog w) A.in1 (Builtin.«list.index.loop» ⟨[.ref l, x, rawInt i, rawInt upto], []⟩) (GQ.FinOf prog w A R) (fun er t => R (.error er) t) s := by
  induction k with
  | zero =>
    intro i hk hi s hs out
    obtain rfl : i = j := by omega
    obtain ⟨its, n, hg, hz, turn⟩ := T i s hs
    have lt : i < its.size := by omega
    have go := turn lt
    obtain ⟨hp, gn, dr, tk, os⟩ := s
    wp_walk using wpAny_loadPart' hg
    have h0 : (if (i : Int) < upto then its[((i : Nat) : Int).toNat]? else none) = some its[i] := by simp [hup, lt]
    rw [h0]
    refine wpAny_bind (wpAny_mono go (fun r t ht => ?_) fun _ _ z => z)
    obtain ⟨er, it⟩ := ht
    rw [hit] at er
    subst er
    have q := out t it
    obtain ⟨hp2, gn2, dr2, tk2, os2⟩ := t
    wp_walk
    exact q
  | succ k ih =>
    intro i hk hi s hs out
    obtain ⟨its, n, hg, hz, turn⟩ := T i s hs
    have lt : i < its.size := by omega
    have lu : (i : Int) < upto := by omega
    have go := turn lt
    obtain ⟨hp, gn, dr, tk, os⟩ := s
    wp_walk using wpAny_loadPart' hg
    have h0 : (if (i : Int) < upto then its[((i : Nat) : Int).toNat]? else none) = some its[i] := by simp [lu, lt]
    rw [h0]
    refine wpAny_bind (wpAny_mono go (fun r t ht => ?_) fun _ _ z => z)
    obtain ⟨er, it⟩ := ht
    rw [hno i (by omega)] at er
    subst er
    have hc : ((i : Int) + 1) = ((i + 1 : Nat) : Int) := by omega
    have more := ih (i + 1) (by omega) (by omega) t it out
    obtain ⟨hp2, gn2, dr2, tk2, os2⟩ := t
    wp_walk
    rw [hc]
    refine ⟨plainId_quiet plain_index_loop _, codeAny_builtin entry_index_loop ?_⟩
    rw [Around.under_plainId plain_index_loop _]
    exact more
theorem at_list {j : Nat} (T : Turns prog w A (fun er t => R (.error er) t) l x N I e) (hj : j < N) (hsm : (j : Int) < 2 ^ 63 - 1) (hit : e j = true) (hno : ∀ m, m < j → e m = false) {s : Shared} (hs : I s)
    (out : ∀ t, I t → R (.ok (.ret (.int j t.toks))) { t with toks := t.toks + 1 }) :
    wpAny (model prog w) A.in1 (Builtin.«list.index» ⟨[.ref l, x], []⟩) (GQ.FinOf prog w A R) (fun er t => R (.error er) t) s := by
  have more := at_turns (upto := 2 ^ 63 - 1) T hj hsm hit hno j 0 (by omega) (Nat.zero_le _) s hs out
  obtain ⟨its, n, hg, hz, _⟩ := T 0 s hs
  obtain ⟨hp, gn, dr, tk, os⟩ := s
  wp_walk using wpAny_loadPart' hg
  have a1 : ((fun i : Int => if i < 0 then max 0 (i + (its.size : Int)) else i) ((none : Option Int).getD 0)) = ((0 : Nat) : Int) := by simp
  have a2 : ((fun i : Int => if i < 0 then max 0 (i + (its.size : Int)) else i) ((none : Option Int).getD (2 ^ 63 - 1))) = 2 ^ 63 - 1 := by simp
  rw [a1, a2]
  refine ⟨plainId_quiet plain_index_loop _, codeAny_builtin entry_index_loop ?_⟩
  rw [Around.under_plainId plain_index_loop _]
  exact more
/-- two lists of N items, pair by pair -/
def Pairs2 (prog : Program) (w : World) (A : Around) (E : Value → Shared → Prop) (l b : Addr) (N : Nat) (I : Shared → Prop) (e : Nat → Bool) : Prop :=
  ∀ i s, I s → ∃ (its its2 : Array Value) (n n2 : Nat), s.heap.get? l = some { cls := .type "list", data := .seq its n } ∧ s.heap.get? b = some { cls := .type "list", data := .seq its2 n2 } ∧ its.size = N ∧ its2.size = N ∧
    ∀ (lt : i < its.size) (lt2 : i < its2.size), wpAny (model prog w) A.in1 (eqBool its[i] its2[i]) (fun r t => r = e i ∧ I t) E s
theorem same_turns (T : Pairs2 prog w A (fun er t => R (.error er) t) l b N I e) (k : Nat) :
    ∀ i, N - i = k → i ≤ N → ∀ s, I s → (∀ t, I t → R (.ok (.ret (.bool (allAt e i k)))) t) →
      wpAny (model prog w) A.in1 (Builtin.«list.__eq__.loop» ⟨[.ref l, .ref b, rawInt i, rawInt 2], []⟩) (GQ.FinOf prog w A R) (fun er t => R (.error er) t) s := by
  induction k with
  | zero =>
    intro i hk hi s hs out
    obtain ⟨its, its2, n, n2, hg, hg2, hz, hz2, _⟩ := T i s hs
    have q := out s hs
    obtain ⟨hp, gn, dr, tk, os⟩ := s
    wp_walk using wpAny_loadPart' hg, wpAny_loadPart' hg2
    have h0 : its[((i : Nat) : Int).toNat]? = none := by simp; omega
    have h1 : its2[((i : Nat) : Int).toNat]? = none := by simp; omega
    rw [h0, h1]
    wp_walk using wpAny_loadPart' hg, wpAny_loadPart' hg2
    show R (.ok (.ret (.bool (its.size == its2.size)))) _
    rw [hz, hz2]
    simpa [allAt] using q
  | succ k ih =>
    intro i hk hi s hs out
    obtain ⟨its, its2, n, n2, hg, hg2, hz, hz2, turn⟩ := T i s hs
    have lt : i < its.size := by omega
    have lt2 : i < its2.size := by omega
    have go := turn lt lt2
    obtain ⟨hp, gn, dr, tk, os⟩ := s
    wp_walk using wpAny_loadPart' hg, wpAny_loadPart' hg2
    have h0 : its[((i : Nat) : Int).toNat]? = some its[i] := by simp [lt]
    have h1 : its2[((i : Nat) : Int).toNat]? = some its2[i] := by simp [lt2]
    rw [h0, h1]
    refine wpAny_bind (wpAny_mono go (fun r t ht => ?_) fun _ _ z => z)
    obtain ⟨er, it⟩ := ht
    subst er
    cases hb : e i with
    | true =>
      have hc : ((i : Int) + 1) = ((i + 1 : Nat) : Int) := by omega
      have more := ih (i + 1) (by omega) (by omega) t it fun t' h' => by
        have q := out t' h'
        rw [allAt, if_pos hb] at q
        exact q
      obtain ⟨hp2, gn2, dr2, tk2, os2⟩ := t
      wp_walk
      rw [hc]
      refine ⟨plainId_quiet plain_eq_loop _, codeAny_builtin entry_eq_loop ?_⟩
      rw [Around.under_plainId plain_eq_loop _]
      exact more
    | false =>
      have q := out t it
      rw [allAt, if_neg (by rw [hb]; exact Bool.false_ne_true)] at q
      obtain ⟨jts, jts2, m, m2, hk1, hk2, hy, hy2, _⟩ := T i t it
      have g0 : jts[((i : Nat) : Int).toNat]? = some jts[i] := by simp [show i < jts.size by omega]
      have g1 : jts2[((i : Nat) : Int).toNat]? = some jts2[i] := by simp [show i < jts2.size by omega]
      obtain ⟨hp2, gn2, dr2, tk2, os2⟩ := t
      wp_walk using wpAny_loadPart' hk1, wpAny_loadPart' hk2
      rw [g0, g1]
      wp_walk
      exact q
theorem same_list (T : Pairs2 prog w A (fun er t => R (.error er) t) l b N I e) {s : Shared} (hs : I s) (out : ∀ t, I t → R (.ok (.ret (.bool (allAt e 0 N)))) t) :
    wpAny (model prog w) A.in1 (Builtin.«list.__eq__» ⟨[.ref l, .ref b], []⟩) (GQ.FinOf prog w A R) (fun er t => R (.error er) t) s := by
  have more := same_turns T N 0 (by omega) (Nat.zero_le _) s hs out
  obtain ⟨its, its2, n, n2, hg, hg2, hz, hz2, _⟩ := T 0 s hs
  obtain ⟨hp, gn, dr, tk, os⟩ := s
  have f3 := AutoSeq1.sub_list_list
  have hne : ¬ (its.size != its2.size) = true := by simp [hz, hz2]
  wp_walk using wpAny_loadPart' hg, wpAny_loadPart' hg2
  refine ⟨plainId_quiet plain_eq_loop _, codeAny_builtin entry_eq_loop ?_⟩
  rw [Around.under_plainId plain_eq_loop _]
  exact more
end
end Elk
set_option Elab.async false
set_option linter.all false
set_option maxRecDepth 100000
set_option maxHeartbeats 4000000
namespace Elk
open PySem PySem.Spec PyProof.Rows L2
/-! ### == that runs the program's code, as the layer's rules -/
/-- what == answers on two values, by the abstract heap -/
abbrev DB := V → V → Bool → Hp → Prop
def MonB (D : DB) : Prop := ∀ x y b H H', Same H H' → D x y b H → D x y b H'
def EqB (X : Cx) (n : Nat) (D : DB) : Prop :=
  ∀ (A : Around) (pins : List (Addr × Obj)) (s : Shared) (σ : L2.St) (H : Hp) (x y : V) (b : Bool) (u v : Value), Sub X n A → Inv X pins σ H s → RelV x u → RelV y v → D x y b H →
    wpAny (model X.prog X.w) A (eqBool u v) (fun r t => r = b ∧ ∃ H', Inv X pins σ H' t ∧ Same H H') X.xe s
def RcB (X : Cx) (n : Nat) (D : DB) : Prop :=
  ∀ (A : Around) (pins : List (Addr × Obj)) (s : Shared) (σ : L2.St) (H : Hp) (x y : V) (b : Bool) (u v : Value), Sub X n A → Inv X pins σ H s → RelV x u → RelV y v → D x y b H →
    wpAny (model X.prog X.w) A (richCompare .Eq u v) (fun r t => r = .bool b ∧ ∃ H', Inv X pins σ H' t ∧ Same H H') X.xe s
section
variable {X : Cx} {n : Nat} {D : DB}
/-- what holds while a builtin compares -/
def Mid (X : Cx) (pins : List (Addr × Obj)) (σ : L2.St) (H : Hp) (t : Shared) : Prop := ∃ H', Inv X pins σ H' t ∧ Same H H'
theorem RcB.eqB (h : RcB X n D) (hr : ∀ x y b H, D x y b H → ∃ a c, x = .ref a ∧ y = .ref c ∧ (a = c → b = true)) : EqB X n D := by
  intro A pins s σ H x y b u v sb I rx ry d
  obtain ⟨a, c, ex, ey, hs⟩ := hr _ _ _ _ d
  subst ex ey; cases rx; cases ry
  by_cases q : a = c
  · subst q
    rw [hs rfl]
    exact SeqAt.EqAt.same (A := A) (s := s) (.ref a) X.prog X.w X.xe _ ⟨rfl, H, I, Same.refl H⟩
  · refine GQ.eqBool_refG q (wpAny_mono (h A pins s σ H (.ref a) (.ref c) b _ _ sb I rfl rfl d) (fun r t z => ?_) fun _ _ z => z)
    obtain ⟨e, z⟩ := z
    exact ⟨b, e, rfl, z⟩
/-- one turn: the item at i of the list of xs against y -/
theorem turns_of (hD : MonB D) (h : EqB X n D) {A : Around} (sb : Sub X (n + 1) A) {pins : List (Addr × Obj)} {σ : L2.St} {H : Hp} {a : Addr} {xs : List V} {y : V} {v : Value} {e : Nat → Bool} (ha : H a = some (.lst xs)) (ry : RelV y v)
    (hd : ∀ i x, xs[i]? = some x → D x y (e i) H) : Turns X.prog X.w A X.xe a v xs.length (Mid X pins σ H) e := by
  intro i s ⟨H1, I1, s1⟩
  obtain ⟨z, us, k, r, g⟩ := I1.hok a _ (s1 _ _ ha)
  refine ⟨us.toArray, k, g, by rw [List.size_toArray, ← r.length], fun lt => ?_⟩
  have lt' : i < us.length := by simpa using lt
  have lx : i < xs.length := by rw [r.length]; exact lt'
  obtain ⟨u, hu, ru⟩ := r.get (List.getElem?_eq_getElem lx)
  rw [List.getElem?_eq_getElem lt'] at hu
  have eu : us.toArray[i] = u := by simpa using hu
  rw [eu]
  refine wpAny_mono (h A.in1 pins s σ H1 _ _ _ u v sb.in1 I1 ru ry (hD _ _ _ _ _ s1 (hd i _ (List.getElem?_eq_getElem lx)))) (fun r t q => ?_) fun _ _ z => z
  obtain ⟨er, H2, I2, s2⟩ := q
  exact ⟨er, H2, I2, s1.trans s2⟩
theorem pairs_of (hD : MonB D) (h : EqB X n D) {A : Around} (sb : Sub X (n + 1) A) {pins : List (Addr × Obj)} {σ : L2.St} {H : Hp} {a c : Addr} {xs ys : List V} {e : Nat → Bool} (ha : H a = some (.lst xs)) (hc : H c = some (.lst ys)) (hl : xs.length = ys.length)
    (hd : ∀ i x y, xs[i]? = some x → ys[i]? = some y → D x y (e i) H) : Pairs2 X.prog X.w A X.xe a c xs.length (Mid X pins σ H) e := by
  intro i s ⟨H1, I1, s1⟩
  obtain ⟨z, us, k, r, g⟩ := I1.hok a _ (s1 _ _ ha)
  obtain ⟨z2, us2, k2, r2, g2⟩ := I1.hok c _ (s1 _ _ hc)
  refine ⟨us.toArray, us2.toArray, k, k2, g, g2, by rw [List.size_toArray, ← r.length], by rw [List.size_toArray, ← r2.length, hl], fun lt lt2 => ?_⟩
  have lt' : i < us.length := by simpa using lt
  have lt2' : i < us2.length := by simpa using lt2
  have lx : i < xs.length := by rw [r.length]; exact lt'
  have ly : i < ys.length := by rw [r2.length]; exact lt2'
  obtain ⟨u, hu, ru⟩ := r.get (List.getElem?_eq_getElem lx)
  obtain ⟨u2, hu2, ru2⟩ := r2.get (List.getElem?_eq_getElem ly)
  rw [List.getElem?_eq_getElem lt'] at hu
  rw [List.getElem?_eq_getElem lt2'] at hu2
  have eu : us.toArray[i] = u := by simpa using hu
  have eu2 : us2.toArray[i] = u2 := by simpa using hu2
  rw [eu, eu2]
  refine wpAny_mono (h A.in1 pins s σ H1 _ _ _ u u2 sb.in1 I1 ru ru2 (hD _ _ _ _ _ s1 (hd i _ _ (List.getElem?_eq_getElem lx) (List.getElem?_eq_getElem ly)))) (fun r t q => ?_) fun _ _ z => z
  obtain ⟨er, H2, I2, s2⟩ := q
  exact ⟨er, H2, I2, s1.trans s2⟩
/-- == of two lists -/
def DLst (D : DB) : DB := fun x y b H => ∃ a c xs ys, ∃ e : Nat → Bool, x = .ref a ∧ y = .ref c ∧ H a = some (.lst xs) ∧ H c = some (.lst ys) ∧ (xs.length = ys.length → ∀ i x y, xs[i]? = some x → ys[i]? = some y → D x y (e i) H) ∧
  b = (decide (xs.length = ys.length) && allAt e 0 xs.length) ∧ (a = c → b = true)
theorem monB_lst (hD : MonB D) : MonB (DLst D) := fun x y b H H' s ⟨a, c, xs, ys, e, h1, h2, h3, h4, h5, h6, h7⟩ => ⟨a, c, xs, ys, e, h1, h2, s _ _ h3, s _ _ h4, fun hl i x y g1 g2 => hD _ _ _ _ _ s (h5 hl i x y g1 g2), h6, h7⟩
theorem rcB_lst (hD : MonB D) (h : EqB X n D) : RcB X (n + 1) (DLst D) := by
  intro A pins s σ H x y b u v sb I rx ry ⟨a, c, xs, ys, e, ex, ey, ha, hc, hd, hb, _⟩
  subst ex ey; cases rx; cases ry
  obtain ⟨us, r1, il, _⟩ := br_lst I.hok ha
  obtain ⟨us2, r2, il2, _⟩ := br_lst I.hok hc
  by_cases hl : xs.length = ys.length
  · have hb' : b = allAt e 0 xs.length := by rw [hb, decide_eq_true hl]; rfl
    have T := pairs_of (pins := pins) (σ := σ) hD h sb ha hc hl (hd hl)
    obtain ⟨z, _, k, _, g⟩ := I.hok a _ ha
    obtain ⟨z2, _, k2, _, g2⟩ := I.hok c _ hc
    refine wpAny_richCompare_same_room (op := .Eq) ⟨_, g, rfl⟩ ⟨_, g2, rfl⟩ F.slot_list_eq (GQ.call_here F.slot_list_eq ⟨_, g, rfl⟩ F.entry_list_eq (F.args_list_eq_2 _ _) ?_) sb.room.units0
    refine same_list (R := wants (fun v s' => v ≠ .notImplemented ∧ (v = .bool b ∧ ∃ H', Inv X pins σ H' s' ∧ Same H H')) X.xe) T ⟨H, I, Same.refl H⟩ fun t q => ?_
    exact ⟨(fun x => nomatch x), by rw [hb'], q⟩
  · have hb' : b = false := by rw [hb, decide_eq_false hl]; rfl
    refine SeqAt.RcAt.lists_lengths il il2 ?_ sb.room.units0 X.prog X.w X.xe _ ⟨by rw [hb'], H, I, Same.refl H⟩
    have e1 := r1.length
    have e2 := r2.length
    simp only [List.size_toArray, bne_iff_ne, ne_eq]
    omega
theorem eqB_lst (hD : MonB D) (h : EqB X n D) : EqB X (n + 1) (DLst D) := (rcB_lst hD h).eqB fun _ _ _ _ ⟨a, c, _, _, _, h1, h2, _, _, _, _, h7⟩ => ⟨a, c, h1, h2, h7⟩
/-- x in xs, x not in xs -/
def rHas (D : DB) (neg : Bool) : R2 := fun x y H Q => ∃ a xs, ∃ e : Nat → Bool, y = .ref a ∧ H a = some (.lst xs) ∧ (∀ i z, xs[i]? = some z → D z x (e i) H) ∧ ∀ H', Same H H' → Q (.bl (if neg then !anyAt e 0 xs.length else anyAt e 0 xs.length)) H'
theorem has_wp (hD : MonB D) (h : EqB X n D) {pins : List (Addr × Obj)} {s : Shared} {σ : L2.St} {H : Hp} {a : Addr} {xs : List V} {x : V} {u : Value} {e : Nat → Bool} (hr : Room (n + 1) X.A) (I : Inv X pins σ H s) (rx : RelV x u) (ha : H a = some (.lst xs))
    (hd : ∀ i z, xs[i]? = some z → D z x (e i) H) {Q : Value → Shared → Prop} (k : ∀ t, Mid X pins σ H t → Q (.bool (anyAt e 0 xs.length)) t) :
    wpAny (model X.prog X.w) X.A (call (.builtin "list.__contains__") [.ref a, u]) Q X.xe s := by
  obtain ⟨z, _, m, _, g⟩ := I.hok a _ ha
  have T := turns_of (pins := pins) (σ := σ) hD h (⟨hr, rfl⟩ : Sub X (n + 1) X.A) ha rx hd
  refine GQ.call_here F.slot_list_contains ⟨_, g, rfl⟩ F.entry_list_contains (F.args_list_contains_2 _ _) ?_
  exact has_list (R := wants Q X.xe) T ⟨H, I, Same.refl H⟩ fun t q => k t q
theorem op_inB (hD : MonB D) (h : EqB X n D) (hr : Room (n + 1) X.A) : OpR X (compareOp .In) (rHas D false) := by
  intro pins s σ H x y u v Q I rx ry ⟨a, xs, e, ey, ha, hd, k⟩
  subst ey; cases ry
  obtain ⟨z, _, m, _, g⟩ := I.hok a _ ha
  show wpAny _ _ (do return Value.bool (← contains (.ref a) u) : Sem Value) _ _ s
  refine wpAny_bind (wpAny_contains_slot ⟨_, g, rfl⟩ F.slot_list_contains (has_wp hD h hr I rx ha hd fun t ⟨H', I', s'⟩ => ?_))
  exact wpAny_truthy_bool (wpAny_pure ⟨.bl _, H', I', rfl, k H' s'⟩)
theorem op_notInB (hD : MonB D) (h : EqB X n D) (hr : Room (n + 1) X.A) : OpR X (compareOp .NotIn) (rHas D true) := by
  intro pins s σ H x y u v Q I rx ry ⟨a, xs, e, ey, ha, hd, k⟩
  subst ey; cases ry
  obtain ⟨z, _, m, _, g⟩ := I.hok a _ ha
  show wpAny _ _ (do return Value.bool (!(← contains (.ref a) u)) : Sem Value) _ _ s
  refine wpAny_bind (wpAny_contains_slot ⟨_, g, rfl⟩ F.slot_list_contains (has_wp hD h hr I rx ha hd fun t ⟨H', I', s'⟩ => ?_))
  exact wpAny_truthy_bool (wpAny_pure ⟨.bl _, H', I', rfl, k H' s'⟩)
/-- xs.index(x): the first place -/
def rIdxB (D : DB) : V → List V → Hp → VK → Prop := fun x ys H Q => ∃ a xs y j, ∃ e : Nat → Bool, x = .ref a ∧ ys = [y] ∧ H a = some (.lst xs) ∧ (∀ i z, xs[i]? = some z → D z y (e i) H) ∧ j < xs.length ∧ e j = true ∧ (∀ m, m < j → e m = false) ∧ ∀ H', Same H H' → Q (.int j) H'
theorem mt_indexB (hD : MonB D) (h : EqB X n D) (hr : Room (n + 1) X.A) : MtR X "list.index" (rIdxB D) := by
  intro pins s σ H x ys u us Q I rx rxs ⟨a, xs, y, j, e, ex, ey, ha, hd, hj, hit, hno, k⟩
  subst ex ey; cases rx
  obtain ⟨v, ev, ry⟩ := vals1 rxs
  subst ev
  obtain ⟨z, _, m, _, g⟩ := I.hok a _ ha
  have T := turns_of (pins := pins) (σ := σ) hD h (⟨hr, rfl⟩ : Sub X (n + 1) X.A) ha ry hd
  refine GQ.call_here F.slot_list_index ⟨_, g, rfl⟩ F.entry_list_index (F.args_list_index_2 _ _) ?_
  have hz := (I.hok a _ ha).1
  rw [sizeLine_eq] at hz
  refine at_list (R := wants (EP X pins σ Q) X.xe) T hj (by omega) hit hno ⟨H, I, Same.refl H⟩ fun t ⟨H', I', s'⟩ => ?_
  exact ⟨.int j, H', I'.tok _, ⟨_, rfl⟩, k H' s'⟩
/-! ### instances with an __eq__ of their own -/
/-- D's answer is what the promise of __eq__ says -/
def DOwn (C : Addr) (sp : Sp) (D : DB) : Prop := ∀ x y b H, D x y b H → ∃ a c dx dy fs gs, x = .ref a ∧ y = .ref c ∧ H a = some (.ins C dx fs) ∧ H c = some (.ins C dy gs) ∧ (a = c → b = true) ∧
  ∀ (Q : VK) (E : XK), (∀ H', Same H H' → Q (.bl b) H') → sp [x, y] H Q E
/-- the call of the own __eq__ -/
theorem own_eq {f : Addr} {fd : FuncData} {ps : List Str} {sp : Sp} (G : FnOk X.prog X.w X.K X.mg X.base CX0 n f fd ps sp) (hb : Binds X.K fd ps []) {A : Around} (sb : Sub X n A) {pins : List (Addr × Obj)} {s : Shared} {σ : L2.St} {H : Hp} {a c : Addr} {b : Bool}
    (I : Inv X pins σ H s) (hsp : ∀ (Q : VK) (E : XK), (∀ H', Same H H' → Q (.bl b) H') → sp [.ref a, .ref c] H Q E) {Q : Value → Shared → Prop} (k : ∀ t, Mid X pins σ H t → Q (.bool b) t) :
    wpAny (model X.prog X.w) A (call (.ref f) [.ref a, .ref c]) Q X.xe s := by
  have h := hsp (fun v H' => v = .bl b ∧ Same H H') (fun _ _ _ => False) fun H' e => ⟨rfl, e⟩
  have e0 : Env0 X.prog X.w X.K X.mg X.base A X.stack s H := by
    have e := I.env0
    exact ⟨by rw [sb.fr]; exact e.frames, e.mod, e.bs, e.bsz, e.funs, e.frf, e.hok, e.bare⟩
  have hl := G.len _ _ _ _ h
  have rr : Vals [V.ref a, V.ref c] [Value.ref a, Value.ref c] := .cons rfl (.cons rfl .nil)
  have bd := hb s [.ref a, .ref c] I.kIn (by simpa using hl)
  refine wpAny_call (codeAny_mono (G.run A X.stack s H ⟨[.ref a, .ref c], []⟩ [.ref a, .ref c] [.ref a, .ref c] _ _ sb.room e0 (by simpa using bd) rr h) fun r t q => ?_)
  cases r with
  | error er => exact False.elim q
  | ok fl =>
    cases fl with
    | next => exact False.elim q
    | brk => exact False.elim q
    | cont => exact False.elim q
    | ret w =>
      obtain ⟨z, H', I', rz, ez, ex⟩ := I.after q
      subst ez
      cases rz
      exact k t ⟨H', I', ex⟩
theorem rcB_ins {C f : Addr} {fd : FuncData} {ps : List Str} {sp : Sp} (G : FnOk X.prog X.w X.K X.mg X.base CX0 n f fd ps sp) (hb : Binds X.K fd ps []) (hs : W.findIn X.K (.ref C) "__eq__" = some (some (.ref f))) (hf : W.isFn X.K (.ref f) = true) (ho : DOwn C sp D) :
    RcB X n D := by
  intro A pins s σ H x y b u v sb I rx ry d
  obtain ⟨a, c, dx, dy, fs, gs, ex, ey, ha, hc, _, hsp⟩ := ho _ _ _ _ d
  subst ex ey; cases rx; cases ry
  obtain ⟨mA, J, _⟩ := ins_get I.hok ha
  obtain ⟨mB, J', _⟩ := ins_get I.hok hc
  obtain ⟨od, J, _⟩ := J.look
  obtain ⟨od', J', _⟩ := J'.look
  obtain ⟨m, hF⟩ := I.fr
  refine W.cmp_K (op := .Eq) (tb := .ref C) sb.room.units0 hF I.ok.mod.kin J J'.type (by simp [W.notFirst]) hs hf ?_
  exact own_eq G hb sb I hsp fun t q => ⟨rfl, q⟩
theorem eqB_ins {C f : Addr} {fd : FuncData} {ps : List Str} {sp : Sp} (G : FnOk X.prog X.w X.K X.mg X.base CX0 n f fd ps sp) (hb : Binds X.K fd ps []) (hs : W.findIn X.K (.ref C) "__eq__" = some (some (.ref f))) (hf : W.isFn X.K (.ref f) = true) (ho : DOwn C sp D) :
    EqB X n D := (rcB_ins G hb hs hf ho).eqB fun x y b H d => let ⟨a, c, _, _, _, _, h1, h2, _, _, h3, _⟩ := ho x y b H d; ⟨a, c, h1, h2, h3⟩
/-- x == y -/
def rEqB (D : DB) : R2 := fun x y H Q => ∃ b, D x y b H ∧ ∀ H', Same H H' → Q (.bl b) H'
def rNeB (D : DB) : R2 := fun x y H Q => ∃ b, D x y b H ∧ ∀ H', Same H H' → Q (.bl (!b)) H'
theorem op_eqB (h : RcB X n D) (hr : Room n X.A) : OpR X (compareOp .Eq) (rEqB D) := by
  intro pins s σ H x y u v Q I rx ry ⟨b, d, k⟩
  show wpAny (model X.prog X.w) X.A (richCompare .Eq u v) (EP X pins σ Q) X.xe s
  refine wpAny_mono (h X.A pins s σ H x y b u v ⟨hr, rfl⟩ I rx ry d) (fun r t z => ?_) fun _ _ z => z
  obtain ⟨er, H', I', e⟩ := z
  subst er
  exact ⟨.bl b, H', I', rfl, k H' e⟩
end
section
variable {M : Model} {prog : Program} {w : World} {A : Around} {E : Value → Shared → Prop} {s : Shared} {K : W.Frag} {a C f L : Addr} {h₀ : Heap} {m : Str → Option Value} {ox : Obj} {od : Option Obj} {c : Value}
/-- object.__ne__ of an instance whose class has an __eq__ of its own -/
theorem ne_entry (X : K.In s.heap) (J : W.InstAt s.heap a ox C od) (hs : W.findIn K (.ref C) "__eq__" = some (some (.ref f))) (hf : W.isFn K (.ref f) = true) (hu : A.units < cLine) {Q : Fin → Shared → Prop}
    (h : wpAny (model prog w) A (call (.ref f) [.ref a, c]) (fun v t => ∃ b, v = .bool b ∧ Q (.done (.ret (.bool (!b)))) t) E s) :
    wpAny (model prog w) A (Builtin.«object.__ne__» ⟨[.ref a, c], []⟩) Q E s := by
  unfold Builtin.«object.__ne__»
  repeat (first
    | with_reducible refine wpAny_cRoomFor hu ?_
    | (refine wpAny_bind (m := callSpecialIfBound? (.ref a) (Str.ofString "__eq__") [c]) (W.ifBound_K X J hs hf (wpAny_mono h (fun v t hv => by
        obtain ⟨b, e, q⟩ := hv
        subst e
        repeat (first | exact q | exact wpAny_pure q | exact wpAny_truthy_bool q | (refine wpAny_bind (m := truthy (.bool _)) (wpAny_truthy_bool ?_)) | wp_step)) fun _ _ z => z)))
    | wp_step)
theorem ne_bound {args : List Value} {Q : Option Value → Shared → Prop} (X : K.In s.heap) (J : W.InstAt s.heap a ox C od) (hs : W.findIn K (.ref C) "__ne__" = some (some (.builtin "object.__ne__")))
    (h : wpAny M A (call (.builtin "object.__ne__") (.ref a :: args)) (fun v => Q (some v)) E s) : wpAny M A (callSpecialIfBound? (.ref a) "__ne__" args) Q E s := by
  simp only [callSpecialIfBound?, bindSpecialIfBound?]
  refine wpAny_holding (wpAny_bind (wpAny_bind (wpAny_bind (J.type.here ((W.looks_findIn X hs).here ?_)))))
  refine wpAny_bind (wpAny_askSetting (wpAny_ite ?_))
  have out : wpAny M A (call (.builtin "object.__ne__") ([.ref a] ++ args) >>= fun v => pure (some v)) Q E s := wpAny_bind (wpAny_mono h (fun v t q => wpAny_pure q) fun _ _ z => z)
  split
  · exact wpAny_bind (wpAny_of_eq (F.cmp_object.ne.bind _) (wpAny_pure (by exact out)))
  · exact wpAny_tryCatch (wpAny_bind (wpAny_of_eq (F.cmp_object.ne.bind _) (wpAny_pure (by exact out))))
/-- a != c, two instances of C -/
theorem ne_own (hu : A.units + 1 < cLine) (F0 : Fr h₀ L s.heap m) (X₀ : K.In h₀) (J : W.InstAt s.heap a ox C od) (hb : W.Looks (model prog w) s.heap (typeOf c) (.ref C)) (hm : W.mroIn K C (.type "object") = some true)
    (hn : W.findIn K (.ref C) "__ne__" = some (some (.builtin "object.__ne__"))) (hs : W.findIn K (.ref C) "__eq__" = some (some (.ref f))) (hf : W.isFn K (.ref f) = true) {Q : Value → Shared → Prop}
    (h : wpAny (model prog w) A.in1 (call (.ref f) [.ref a, c]) (fun v t => ∃ b, v = .bool b ∧ Q (.bool (!b)) t) E s) : wpAny (model prog w) A (richCompare .NotEq (.ref a) c) Q E s := by
  have X := X₀.keeps F0.keep
  have inner : wpAny (model prog w) A (call (.builtin "object.__ne__") [.ref a, c]) (fun v t => ∃ b, v = .bool b ∧ Q v t) E s := by
    refine wpAny_call (codeAny_call_builtin F.cmp_object.ne.plain F.cmpEntry_ne (W.check_slot F.cmpKind_ne F.cmpSplit_ne (J.type.andThen (W.looks_mroIn X hm)) (F.cmpArgs_ne _ _) ?_))
    refine ne_entry X J hs hf (by show A.units + 1 < cLine; exact hu) (wpAny_mono h (fun v t hv => ?_) fun _ _ z => z)
    obtain ⟨b, e, q⟩ := hv
    exact ⟨b, e, _, rfl, q⟩
  have one : wpAny (model prog w) A (tryCompare (.ref a) "__ne__" c) (fun r t => ∃ v, r = some v ∧ Q v t) E s := by
    unfold tryCompare
    refine wpAny_bind (ne_bound X J hn (wpAny_mono inner (fun v t hv => ?_) fun _ _ z => z))
    obtain ⟨b, e, q⟩ := hv
    subst e
    exact wpAny_pure ⟨_, rfl, q⟩
  unfold richCompare
  simp only [oneThing_ref, cmpInfo_NotEq]
  refine wpAny_holding (wpAny_bind (wpAny_cRoomFor (Nat.lt_of_succ_lt hu) ?_))
  refine wpAny_bind (J.type.here (wpAny_bind (hb.here ?_)))
  rw [if_neg (by simp)]
  refine wpAny_bind (wpAny_pure ?_)
  simp only [Bool.false_eq_true, if_false]
  refine wpAny_bind (wpAny_mono one (fun r t z => ?_) fun _ _ z => z)
  obtain ⟨v, e, q⟩ := z
  subst e
  exact wpAny_pure q
end
theorem op_neB {X : Cx} {n : Nat} {D : DB} {C f : Addr} {fd : FuncData} {ps : List Str} {sp : Sp} (G : FnOk X.prog X.w X.K X.mg X.base CX0 n f fd ps sp) (hb : Binds X.K fd ps []) (hm : W.mroIn X.K C (.type "object") = some true) (hn : W.findIn X.K (.ref C) "__ne__" = some (some (.builtin "object.__ne__")))
    (hs : W.findIn X.K (.ref C) "__eq__" = some (some (.ref f))) (hf : W.isFn X.K (.ref f) = true) (ho : DOwn C sp D) (hr : Room (n + 1) X.A) : OpR X (compareOp .NotEq) (rNeB D) := by
  intro pins s σ H x y u v Q I rx ry ⟨b, d, k⟩
  obtain ⟨a, c, dx, dy, fs, gs, ex, ey, ha, hc, _, hsp⟩ := ho _ _ _ _ d
  subst ex ey; cases rx; cases ry
  obtain ⟨mA, J, _⟩ := ins_get I.hok ha
  obtain ⟨mB, J', _⟩ := ins_get I.hok hc
  obtain ⟨od, J, _⟩ := J.look
  obtain ⟨od', J', _⟩ := J'.look
  obtain ⟨m, hF⟩ := I.fr
  show wpAny (model X.prog X.w) X.A (richCompare .NotEq (.ref a) (.ref c)) (EP X pins σ Q) X.xe s
  have hun := hr.units
  refine ne_own (by omega) hF I.ok.mod.kin J J'.type hm hn hs hf ?_
  exact own_eq G hb (⟨hr.in1, rfl⟩ : Sub X n X.A.in1) I hsp fun t ⟨H', I', e⟩ => ⟨b, rfl, .bl (!b), H', I', rfl, k H' e⟩
end Elk
set_option Elab.async false
set_option linter.all false
set_option maxRecDepth 100000
set_option maxHeartbeats 4000000
namespace Elk
open PySem PySem.Spec PyProof.Rows L2
abbrev St := L2.St
/-! ### defs -/
/-- the def at f keeps the promise sp, by at most k levels -/
def Ok (P : Program) (w : World) (K : W.Frag) (mg : Str → Option Value) (base : Heap) (k : Nat) (f : Addr) (ps : List Str) (sp : Sp) : Prop :=
  ∃ fd, FnOk P w K mg base CX0 k f fd ps sp ∧ L2.Binds K fd ps [] ∧ W.keepIn K (.ref f) = true
section
variable {P : Program} {w : World} {K : W.Frag} {mg : Str → Option Value} {base : Heap}
theorem mk_ok {x qual : Str} {st : Stmt} {f : Addr} {N ps : List Str} {k : Nat} {sp : Sp} (F : ∃ fd, FunD K x qual (defArgs st) (defBody st) (defScope st) [] [] f fd) (S : FnScope N ps (defScope st)) (len : ∀ vs H Q E, sp vs H Q E → vs.length = ps.length)
    (bnd : ∀ (kV doc pm : Value) (an : Option Addr) (cdv ct : Value) (us : List Value), us.length = ps.length → bindArgs (W.fnOf x qual (defArgs st) (defBody st) (defScope st) .none kV doc pm an cdv ct) ⟨us, []⟩ = pure (ps.zip us))
    (body : ∀ (cdv : Value) (A : Around) (outer : List Env) (s : Shared) (H : Hp) (vs : List V) (Q : VK) (E : XK), Room k (A.deeper (envOfC qual (defScope st) s.heap.objs.size f cdv)) → sp vs H Q E →
      ∃ t, PSs (cxOf CX0 P w K mg base N qual (defScope st) f cdv A outer s H E).nox (defBody st) t ∧ t { nx := fun _ H' => Q .non H', rt := Q } (start N vs) H) : Ok P w K mg base (k + 1) f ps sp := by
  obtain ⟨fd, F⟩ := F
  refine ⟨fd, F.ok S len fun cdv A outer s H vs Q E hr h => ?_, FunD.bindsN F bnd, F.kp⟩
  obtain ⟨t, ht, q⟩ := body cdv A outer s H vs Q E hr h
  exact ⟨t, ht.nox, q⟩
end
/-! ### what stands for good: F, a part of the heap that is never changed again -/
structure Grow (F H F' H' : Hp) : Prop where
  h : Same H H'
  f : Same F F'
  i : Same F' H'
  n : ∀ b o, F' b = some o → F b = some o ∨ H b = none
section
variable {F H F1 H1 F2 H2 : Hp} {a : Addr} {o : HO}
theorem Grow.refl (s : Same F H) : Grow F H F H := ⟨Same.refl H, Same.refl F, s, fun _ _ e => .inl e⟩
theorem Grow.trans (a : Grow F H F1 H1) (b : Grow F1 H1 F2 H2) : Grow F H F2 H2 := ⟨a.h.trans b.h, a.f.trans b.f, b.i, fun c o e => (b.n c o e).elim (a.n c o) fun z => .inr (a.h.free z)⟩
/-- what changes and is no part of F stays out of it -/
theorem Grow.out (g : Grow F H F1 H1) (h : H a = some o) (h0 : F a = none) : F1 a = none := by
  cases e : F1 a with
  | none => rfl
  | some u =>
    rcases g.n a u e with z | z
    · rw [h0] at z; cases z
    · rw [h] at z; cases z
theorem Grow.out' (g : Grow F H F1 H1) (h1 : H1 a = none) : F1 a = none := g.i.free h1
/-- a new object for good -/
theorem Grow.put (s : Same F H) (h : H a = none) : Grow F H (upd F a o) (upd H a o) := ⟨same_upd h, same_upd (s.free h), fun b u e => by
    by_cases q : b = a
    · subst q; rw [upd_same] at e ⊢; exact e
    · rw [upd_ne q] at e ⊢; exact s _ _ e, fun b u e => by
    by_cases q : b = a
    · subst q; exact .inr h
    · rw [upd_ne q] at e; exact .inl e⟩
/-- a new object that is to be changed yet -/
theorem Grow.new (s : Same F H) (h : H a = none) : Grow F H F (upd H a o) := ⟨same_upd h, Same.refl F, s.trans (same_upd h), fun _ _ e => .inl e⟩
/-- a store to one's own -/
theorem Grow.set (g : Grow F H F1 H1) (h : H a = none) (h1 : F1 a = none) : Grow F H F1 (upd H1 a o) := ⟨same_store g.h h, g.f, fun b u e => by rw [upd_ne (ne_of_none e h1)]; exact g.i _ _ e, g.n⟩
/-- one's own object is left as it is from now on -/
theorem Grow.keep (g : Grow F H F1 H1) (h : H a = none) (h1 : H1 a = some o) : Grow F H (upd F1 a o) H1 := ⟨g.h, fun b u e => by
    by_cases q : b = a
    · subst q
      have := g.h.trans (Same.refl H1)
      have e1 := g.i _ _ (g.f _ _ e)
      rw [h1] at e1; cases e1
      exact upd_same
    · rw [upd_ne q]; exact g.f _ _ e, fun b u e => by
    by_cases q : b = a
    · subst q; rw [upd_same] at e; cases e; exact h1
    · rw [upd_ne q] at e; exact g.i _ _ e, fun b u e => by
    by_cases q : b = a
    · subst q; exact .inr h
    · rw [upd_ne q] at e; exact g.n _ _ e⟩
theorem same_keep (h : F a = none) : Same F (upd F a o) := same_upd h
end
/-- the promise of a def that only makes objects: args said of F by pre, the result by post -/
def Pm {ι : Type} (pre : ι → List V → Hp → Prop) (post : ι → V → Hp → Prop) : Sp := fun vs H Q _ => ∃ (i : ι) (F : Hp), Same F H ∧ pre i vs F ∧ ∀ v F' H', Grow F H F' H' → post i v F' → Q v H'
/-! ### rules by what the values stand for -/
/-- a list that may be changed yet: its items said of F -/
def vM {α : Type} (p : VP α) (xs : List α) (v : V) (F H : Hp) : Prop := ∃ a vs, v = .ref a ∧ H a = some (.lst vs) ∧ All2 p xs vs F
theorem vL.m {α : Type} {p : VP α} {xs : List α} {v : V} {F H : Hp} (h : vL p xs v F) (s : Same F H) : vM p xs v F H := by
  obtain ⟨a, vs, e, g, l⟩ := h
  exact ⟨a, vs, e, s _ _ g, l⟩
section
variable {X : Cx} {α β γ : Type} {p : VP α} {q : VP β} {r : VP γ}
theorem OpR.imp {f : Value → Value → Sem Value} {r r' : R2} (h : OpR X f r) (i : ∀ x y H Q, r' x y H Q → r x y H Q) : OpR X f r' := fun pins s σ H x y v u Q I rx ry z => h pins s σ H x y v u Q I rx ry (i _ _ _ _ z)
theorem IxR.imp {r r' : R2} (h : IxR X r) (i : ∀ x y H Q, r' x y H Q → r x y H Q) : IxR X r' := fun value slice pins s σ H x y v u Q I rx ry z hs => h value slice pins s σ H x y v u Q I rx ry (i _ _ _ _ z) hs
theorem CallR.imp {f : Value} {r r' : List V → Hp → VK → Prop} (h : CallR X f r) (i : ∀ x H Q, r' x H Q → r x H Q) : CallR X f r' := fun pins s σ H xs us Q I rx z => h pins s σ H xs us Q I rx (i _ _ _ z)
theorem MtR.imp {id : String} {r r' : V → List V → Hp → VK → Prop} (h : MtR X id r) (i : ∀ y x H Q, r' y x H Q → r y x H Q) : MtR X id r' := fun pins s σ H y xs u us Q I ry rx z => h pins s σ H y xs u us Q I ry rx (i _ _ _ _ z)
/-- == and != -/
def rEqF (p : VP α) [DecidableEq α] : R2 := fun x y H Q => ∃ F a b, Same F H ∧ p a x F ∧ p b y F ∧ Q (.bl (decide (a = b))) H
def rNeF (p : VP α) [DecidableEq α] : R2 := fun x y H Q => ∃ F a b, Same F H ∧ p a x F ∧ p b y F ∧ Q (.bl (decide (a ≠ b))) H
theorem opF_eq (p : VP α) [DecidableEq α] [W.Datum α] [Br p] [Mo p] (hu : X.A.units + 64 < cLine) (hd : W.Datum.depth α ≤ 60 := by decide) : OpR X (compareOp .Eq) (rEqF p) := OpR.imp (op_eqP p hu hd) fun x y H Q ⟨F, a, b, s, h1, h2, k⟩ => ⟨a, b, Mo.mo s h1, Mo.mo s h2, k⟩
theorem opF_ne (p : VP α) [DecidableEq α] [W.Datum α] [Br p] [Mo p] (hu : X.A.units + 64 < cLine) (hd : W.Datum.depth α ≤ 60 := by decide) : OpR X (compareOp .NotEq) (rNeF p) := OpR.imp (op_neP p hu hd) fun x y H Q ⟨F, a, b, s, h1, h2, k⟩ => ⟨a, b, Mo.mo s h1, Mo.mo s h2, k⟩
/-- xs[i] -/
def rIxL (p : VP α) : R2 := fun x y H Q => ∃ F xs, ∃ (i : Nat) (a : α), vM p xs x F H ∧ y = .int (i : Int) ∧ xs[i]? = some a ∧ ∀ v, p a v F → Q v H
theorem ixL (p : VP α) : IxR X (rIxL p) := IxR.imp ix_list fun x y H Q ⟨F, xs, i, a, ⟨b, vs, e, hb, l⟩, ey, hi, k⟩ => by
  obtain ⟨v, hv, pv⟩ := l.at' hi
  exact ⟨b, vs, _, v, e, ey, SqL.of hb, atI_nat hv, k v pv⟩
def rIxT (p : VP α) : R2 := fun x y H Q => ∃ F xs, ∃ (i : Nat) (a : α), Same F H ∧ vT p ⟨xs⟩ x F ∧ y = .int (i : Int) ∧ xs[i]? = some a ∧ ∀ v, p a v F → Q v H
theorem ixT (p : VP α) : IxR X (rIxT p) := IxR.imp ix_tup fun x y H Q ⟨F, xs, i, a, s, ⟨b, vs, e, hb, l⟩, ey, hi, k⟩ => by
  obtain ⟨v, hv, pv⟩ := l.at' hi
  exact ⟨b, vs, _, v, e, ey, SqT.of (s _ _ hb), atI_nat hv, k v pv⟩
/-- xs[-1] -/
def rIxZ (p : VP α) : R2 := fun x y H Q => ∃ F xs, ∃ a : α, vM p xs x F H ∧ y = .int (-1) ∧ xs[xs.length - 1]? = some a ∧ ∀ v, p a v F → Q v H
theorem ixZ (p : VP α) : IxR X (rIxZ p) := IxR.imp ix_list fun x y H Q ⟨F, xs, a, ⟨b, vs, e, hb, l⟩, ey, hi, k⟩ => by
  obtain ⟨v, hv, pv⟩ := l.at' hi
  have hl := l.len
  have hj := (List.getElem?_eq_some_iff.mp hv).1
  refine ⟨b, vs, _, v, e, ey, SqL.of hb, ?_, k v pv⟩
  unfold atI ixN
  rw [if_neg (by omega), if_pos (by omega)]
  have : ((-1 : Int) + (vs.length : Int)).toNat = xs.length - 1 := by omega
  rw [this]
  exact hv
/-- a place of a tuple of three, of two -/
def rIx3a (p : VP α) (q : VP β) (r : VP γ) : R2 := fun x y H Q => ∃ F t, Same F H ∧ v3 p q r t x F ∧ y = .int 0 ∧ ∀ v, p t.a v F → Q v H
def rIx3b (p : VP α) (q : VP β) (r : VP γ) : R2 := fun x y H Q => ∃ F t, Same F H ∧ v3 p q r t x F ∧ y = .int 1 ∧ ∀ v, q t.b v F → Q v H
theorem ix3a (p : VP α) (q : VP β) (r : VP γ) : IxR X (rIx3a p q r) := IxR.imp ix_tup fun x y H Q ⟨F, t, s, ⟨b, u, w, z, e, hb, h1, h2, h3⟩, ey, k⟩ => ⟨b, _, _, u, e, ey, SqT.of (s _ _ hb), rfl, k u h1⟩
theorem ix3b (p : VP α) (q : VP β) (r : VP γ) : IxR X (rIx3b p q r) := IxR.imp ix_tup fun x y H Q ⟨F, t, s, ⟨b, u, w, z, e, hb, h1, h2, h3⟩, ey, k⟩ => ⟨b, _, _, w, e, ey, SqT.of (s _ _ hb), rfl, k w h2⟩
def rIx2a (p : VP α) (q : VP β) : R2 := fun x y H Q => ∃ F t, Same F H ∧ vP p q t x F ∧ y = .int 0 ∧ ∀ v, p t.1 v F → Q v H
def rIx2b (p : VP α) (q : VP β) : R2 := fun x y H Q => ∃ F t, Same F H ∧ vP p q t x F ∧ y = .int 1 ∧ ∀ v, q t.2 v F → Q v H
theorem ix2a (p : VP α) (q : VP β) : IxR X (rIx2a p q) := IxR.imp ix_tup fun x y H Q ⟨F, t, s, ⟨b, u, w, e, hb, h1, h2⟩, ey, k⟩ => ⟨b, _, _, u, e, ey, SqT.of (s _ _ hb), rfl, k u h1⟩
theorem ix2b (p : VP α) (q : VP β) : IxR X (rIx2b p q) := IxR.imp ix_tup fun x y H Q ⟨F, t, s, ⟨b, u, w, e, hb, h1, h2⟩, ey, k⟩ => ⟨b, _, _, w, e, ey, SqT.of (s _ _ hb), rfl, k w h2⟩
/-- x in xs -/
def rInL (p : VP α) [DecidableEq α] : R2 := fun x y H Q => ∃ F a xs, Same F H ∧ p a x F ∧ vM p xs y F H ∧ Q (.bl (decide (a ∈ xs))) H
def rNotInL (p : VP α) [DecidableEq α] : R2 := fun x y H Q => ∃ F a xs, Same F H ∧ p a x F ∧ vM p xs y F H ∧ Q (.bl (decide (a ∉ xs))) H
def rInT (p : VP α) [DecidableEq α] : R2 := fun x y H Q => ∃ F a xs, Same F H ∧ p a x F ∧ vT p ⟨xs⟩ y F ∧ Q (.bl (decide (a ∈ xs))) H
theorem op_inL (p : VP α) [DecidableEq α] [W.Datum α] [Br p] [Mo p] (hu : X.A.units + 64 < cLine) (hd : W.Datum.depth α ≤ 60 := by decide) : OpR X (compareOp .In) (rInL p) := by
  intro pins s σ H x y v u Q I rx ry ⟨F, a, xs, sm, ha, ⟨b, vs, e, hb, l⟩, k⟩
  subst e; cases ry
  obtain ⟨us, rv, il, _⟩ := br_lst I.hok hb
  exact W.in_list_datum il (br_all I.hok (l.mo sm) (by simpa using rv)) (Br.br I.hok (Mo.mo sm ha) rx) (by omega) ⟨.bl _, H, I, rfl, k⟩
theorem op_notInL (p : VP α) [DecidableEq α] [W.Datum α] [Br p] [Mo p] (hu : X.A.units + 64 < cLine) (hd : W.Datum.depth α ≤ 60 := by decide) : OpR X (compareOp .NotIn) (rNotInL p) := by
  intro pins s σ H x y v u Q I rx ry ⟨F, a, xs, sm, ha, ⟨b, vs, e, hb, l⟩, k⟩
  subst e; cases ry
  obtain ⟨us, rv, il, _⟩ := br_lst I.hok hb
  exact W.notIn_list_datum il (br_all I.hok (l.mo sm) (by simpa using rv)) (Br.br I.hok (Mo.mo sm ha) rx) (by omega) ⟨.bl _, H, I, rfl, k⟩
theorem op_inT (p : VP α) [DecidableEq α] [W.Datum α] [Br p] [Mo p] (hu : X.A.units + 64 < cLine) (hd : W.Datum.depth α ≤ 60 := by decide) : OpR X (compareOp .In) (rInT p) := by
  intro pins s σ H x y v u Q I rx ry ⟨F, a, xs, sm, ha, ⟨b, vs, e, hb, l⟩, k⟩
  subst e; cases ry
  obtain ⟨us, rv, il, _⟩ := br_tup I.hok (sm _ _ hb)
  exact W.in_tuple_datum il (br_all I.hok (l.mo sm) (by simpa using rv)) (Br.br I.hok (Mo.mo sm ha) rx) (by omega) ⟨.bl _, H, I, rfl, k⟩
/-- len(xs) -/
def rLenL (p : VP α) : List V → Hp → VK → Prop := fun vs H Q => ∃ F v xs, vs = [v] ∧ vM p xs v F H ∧ Q (.int (xs.length : Int)) H
def rLenT (p : VP α) : List V → Hp → VK → Prop := fun vs H Q => ∃ F v xs, vs = [v] ∧ Same F H ∧ vT p ⟨xs⟩ v F ∧ Q (.int (xs.length : Int)) H
theorem call_lenL (p : VP α) : CallR X (.builtin "len") (rLenL p) := CallR.imp call_len_seq fun vs H Q ⟨F, v, xs, e, ⟨b, us, ev, hb, l⟩, k⟩ => by
  subst ev
  exact ⟨b, us, e, .inl (SqL.of hb), by rw [← l.len]; exact k⟩
theorem call_lenT (p : VP α) : CallR X (.builtin "len") (rLenT p) := CallR.imp call_len_seq fun vs H Q ⟨F, v, xs, e, s, ⟨b, us, ev, hb, l⟩, k⟩ => by
  subst ev
  exact ⟨b, us, e, .inr (SqT.of (s _ _ hb)), by have := l.len; simp only at this; rw [← this]; exact k⟩
end
/-! ### comprehensions that only make objects -/
theorem small_of {n : Nat} (h : n ≤ 100000) : n < sizeLine := Nat.lt_of_le_of_lt h (by decide)
section
variable {α β : Type} {p : VP α} {q : VP β} [Mo p] [Mo q] {f : α → β} {t : α → Bool} {xs : List α} {vs : List V} {g : TG} {tt : TT} {te : TE} {own : List Nat} {σ : St} {F1 H1 : Hp} {D : Addr} {Qd : Hp → Prop}
/-- one turn: the test says t x, the element's value stands for f x -/
def StepC (p : VP α) (q : VP β) (f : α → β) (t : α → Bool) (xs : List α) (g : TG) (tt : TT) (te : TE) (own : List Nat) (σ : St) (F1 H1 : Hp) : Prop :=
  ∀ x v F' H', x ∈ xs → Grow F1 H1 F' H' → p x v F' → ∀ (N : Hp → Prop) (Y : VK), (∀ F3 H3, Grow F' H' F3 H3 → t x = false → N H3) → (∀ y F4 H4, Grow F' H' F4 H4 → t x = true → q (f x) y F4 → Y y H4) →
    g v (wipe σ own) H' fun σ2 H2 => wipe σ2 own = wipe σ own ∧ tt σ2 H2 fun b H3 => if b = true then te σ2 H3 Y else N H3
/-- what stands behind i turns -/
def AccC (q : VP β) (f : α → β) (t : α → Bool) (xs : List α) (F1 H1 : Hp) (D : Addr) (i : Nat) (H : Hp) : Prop := ∃ F, Grow F1 H1 F H ∧ F D = none ∧ ∃ ys, H D = some (.lst ys) ∧ All2 q (((xs.take i).filter t).map f) ys F
theorem acc_start (s : Same F1 H1) (hD : H1 D = none) : AccC q f t xs F1 H1 D 0 (upd H1 D (.lst [])) := ⟨F1, Grow.new s hD, s.free hD, [], upd_same, .nil⟩
theorem acc_turn (hD : H1 D = none) (hz : xs.length ≤ 100000) {i : Nat} {x : α} {v : V} {H : Hp} (hi : xs[i]? = some x) (px : p x v F1) (A : AccC q f t xs F1 H1 D i H) (S : StepC p q f t xs g tt te own σ F1 H1) :
    g v (wipe σ own) H fun σ2 H2 => wipe σ2 own = wipe σ own ∧ tt σ2 H2 fun b H3 =>
      if b = true then te σ2 H3 fun y H4 => ∃ acc, H4 D = some (.lst acc) ∧ acc.length < sizeLine ∧ AccC q f t xs F1 H1 D (i + 1) (upd H4 D (.lst (acc ++ [y]))) else AccC q f t xs F1 H1 D (i + 1) H3 := by
  obtain ⟨F, gr, fD, ys, hy, l⟩ := A
  have et : xs.take (i + 1) = xs.take i ++ [x] := by rw [List.take_succ, hi]; rfl
  refine S x v F H (List.mem_of_getElem? hi) gr (Mo.mo gr.f px) _ _ (fun F3 H3 g3 ht => ?_) (fun y F4 H4 g4 ht qy => ?_)
  · refine ⟨F3, gr.trans g3, g3.out hy fD, ys, g3.h _ _ hy, ?_⟩
    rw [et, List.filter_append, List.map_append, List.filter_cons_of_neg (by rw [ht]; exact Bool.false_ne_true)]
    simp only [List.filter_nil, List.map_nil, List.append_nil]
    exact l.mo g3.f
  · have hlen : ys.length ≤ xs.length := by
      rw [← l.len, List.length_map]
      exact Nat.le_trans (List.length_filter_le _ _) (List.length_take_le' i xs)
    refine ⟨ys, g4.h _ _ hy, small_of (by omega), F4, (gr.trans g4).set hD (g4.out hy fD), g4.out hy fD, _, upd_same, ?_⟩
    rw [et, List.filter_append, List.map_append, List.filter_cons_of_pos ht]
    exact (l.mo g4.f).snoc qy
theorem acc_end {n : Nat} {H : Hp} (hD : H1 D = none) (hn : xs.length ≤ n) (A : AccC q f t xs F1 H1 D n H) (hd : ∀ F H, Grow F1 H1 F H → vL q ((xs.filter t).map f) (.ref D) F → Qd H) : Qd H := by
  obtain ⟨F, gr, fD, ys, hy, l⟩ := A
  rw [List.take_of_length_le hn] at l
  exact hd _ H (gr.keep hD hy) ⟨D, ys, rfl, upd_same, l.mo (same_keep fD)⟩
/-- over a list -/
theorem lcL {K : W.Frag} {a : Addr} (s : Same F1 H1) (hD : H1 D = none) (ha : H1 a = some (.lst vs)) (l : All2 p xs vs F1) (hz : xs.length ≤ 100000) (S : StepC p q f t xs g tt te own σ F1 H1) (hd : ∀ F H, Grow F1 H1 F H → vL q ((xs.filter t).map f) (.ref D) F → Qd H) :
    ∃ W : Nat → Nat → Hp → Prop, (∃ m, W 0 m (upd H1 D (.lst []))) ∧ ∀ i m H, W i m H →
      ((Itl K a).stop i H ∧ Qd H) ∨ ((Itl K a).go i H ∧ ∃ Nx : Hp → Prop, (∀ H', Nx H' → ∃ m', m' < m ∧ W (i + 1) m' H') ∧ ∀ x H', (Itl K a).yld i H x H' → g x (wipe σ own) H' fun σ2 H2 => wipe σ2 own = wipe σ own ∧ tt σ2 H2 fun b H3 =>
        if b = true then te σ2 H3 fun y H4 => ∃ acc, H4 D = some (.lst acc) ∧ acc.length < sizeLine ∧ Nx (upd H4 D (.lst (acc ++ [y]))) else Nx H3) := by
  refine lc_list (K := K) (a := a) (xs := vs) (AccC q f t xs F1 H1 D) (acc_start s hD) (fun i H _ A => SqL.of (A.choose_spec.1.h _ _ ha)) (fun i v H hv A => ?_) fun H A => acc_end hD (by rw [l.len]; exact Nat.le_refl _) A hd
  obtain ⟨x, hx, px⟩ := l.at hv
  exact acc_turn hD hz hx px A S
/-- over a tuple -/
theorem lcT {K : W.Frag} {a : Addr} (s : Same F1 H1) (hD : H1 D = none) (ha : H1 a = some (.tup vs)) (l : All2 p xs vs F1) (hz : xs.length ≤ 100000) (S : StepC p q f t xs g tt te own σ F1 H1) (hd : ∀ F H, Grow F1 H1 F H → vL q ((xs.filter t).map f) (.ref D) F → Qd H) :
    ∃ W : Nat → Nat → Hp → Prop, (∃ m, W 0 m (upd H1 D (.lst []))) ∧ ∀ i m H, W i m H →
      ((Itt K a).stop i H ∧ Qd H) ∨ ((Itt K a).go i H ∧ ∃ Nx : Hp → Prop, (∀ H', Nx H' → ∃ m', m' < m ∧ W (i + 1) m' H') ∧ ∀ x H', (Itt K a).yld i H x H' → g x (wipe σ own) H' fun σ2 H2 => wipe σ2 own = wipe σ own ∧ tt σ2 H2 fun b H3 =>
        if b = true then te σ2 H3 fun y H4 => ∃ acc, H4 D = some (.lst acc) ∧ acc.length < sizeLine ∧ Nx (upd H4 D (.lst (acc ++ [y]))) else Nx H3) := by
  refine lc_tup (K := K) (a := a) (xs := vs) (AccC q f t xs F1 H1 D) (acc_start s hD) (fun i H _ A => SqT.of (A.choose_spec.1.h _ _ ha)) (fun i v H hv A => ?_) fun H A => acc_end hD (by rw [l.len]; exact Nat.le_refl _) A hd
  obtain ⟨x, hx, px⟩ := l.at hv
  exact acc_turn hD hz hx px A S
end
/-- over a range from lo on -/
theorem lcR {β : Type} {q : VP β} [Mo q] {f : Nat → β} {t : Nat → Bool} {g : TG} {tt : TT} {te : TE} {own : List Nat} {σ : St} {F1 H1 : Hp} {D : Addr} {Qd : Hp → Prop} {lo n : Nat} (s : Same F1 H1) (hD : H1 D = none) (hz : n ≤ 100000)
    (S : StepC vN q f t (List.range' lo n) g tt te own σ F1 H1) (hd : ∀ F H, Grow F1 H1 F H → vL q (((List.range' lo n).filter t).map f) (.ref D) F → Qd H) :
    ∃ W : Nat → Nat → Hp → Prop, (∃ m, W 0 m (upd H1 D (.lst []))) ∧ ∀ i m H, W i m H →
      ((Itr (lo : Int) n).stop i H ∧ Qd H) ∨ ((Itr (lo : Int) n).go i H ∧ ∃ Nx : Hp → Prop, (∀ H', Nx H' → ∃ m', m' < m ∧ W (i + 1) m' H') ∧ ∀ x H', (Itr (lo : Int) n).yld i H x H' → g x (wipe σ own) H' fun σ2 H2 => wipe σ2 own = wipe σ own ∧ tt σ2 H2 fun b H3 =>
        if b = true then te σ2 H3 fun y H4 => ∃ acc, H4 D = some (.lst acc) ∧ acc.length < sizeLine ∧ Nx (upd H4 D (.lst (acc ++ [y]))) else Nx H3) := by
  have hl : (List.range' lo n).length = n := List.length_range'
  refine lc_range (lo := (lo : Int)) (n := n) (AccC q f t (List.range' lo n) F1 H1 D) (acc_start s hD) (fun i H hi A => ?_) fun H A => acc_end hD (by rw [hl]; exact Nat.le_refl _) A hd
  have hx : (List.range' lo n)[i]? = some (lo + i) := by
    rw [List.getElem?_range' hi]
    simp
  have e : V.int ((lo : Int) + (i : Int)) = V.int ((lo + i : Nat) : Int) := by simp
  rw [e]
  exact acc_turn (p := vN) hD (by rw [hl]; exact hz) hx rfl A S
end Elk
set_option Elab.async false
set_option linter.all false
set_option maxRecDepth 100000
set_option maxHeartbeats 4000000
namespace Elk
open PySem PySem.Spec PyProof.Rows L2
/-! ### for over range(n), over range(a, b), while, in short -/
theorem forN {n : Nat} {g : TG} {tb : TS} {D : Ends} {σ : St} {H : Hp} (Pv : Nat → St → Hp → Prop) (h0 : Pv 0 σ H)
    (hs : ∀ i σ H, i < n → Pv i σ H → g (.int (i : Int)) σ H fun σ2 H2 => tb { D with nx := Pv (i + 1), ct := Pv (i + 1), bk := D.nx } σ2 H2) (hd : ∀ σ H, Pv n σ H → D.nx σ H) :
    ∃ W : Nat → Nat → St → Hp → Prop, (∃ m, W 0 m σ H) ∧ ∀ i m σ H, W i m σ H →
      ((Itr 0 ((n : Int)).toNat).stop i H ∧ D.nx σ H) ∨ ((Itr 0 ((n : Int)).toNat).go i H ∧ ∃ N : St → Hp → Prop, (∀ σ' H', N σ' H' → ∃ m', m' < m ∧ W (i + 1) m' σ' H') ∧ ∀ x H', (Itr 0 ((n : Int)).toNat).yld i H x H' → g x σ H' fun σ2 H2 => tb { D with nx := N, ct := N, bk := D.nx } σ2 H2) := by
  have e : ((n : Int)).toNat = n := Int.toNat_natCast n
  rw [e]
  refine for_range (lo := 0) (n := n) Pv h0 (fun i σ H hi p => ?_) hd
  have e2 : V.int ((0 : Int) + (i : Int)) = V.int (i : Int) := by rw [Int.zero_add]
  rw [e2]
  exact hs i σ H hi p
theorem forAB {a b : Nat} {g : TG} {tb : TS} {D : Ends} {σ : St} {H : Hp} (Pv : Nat → St → Hp → Prop) (h0 : Pv 0 σ H)
    (hs : ∀ i σ H, i < b - a → Pv i σ H → g (.int ((a + i : Nat) : Int)) σ H fun σ2 H2 => tb { D with nx := Pv (i + 1), ct := Pv (i + 1), bk := D.nx } σ2 H2) (hd : ∀ σ H, Pv (b - a) σ H → D.nx σ H) :
    ∃ W : Nat → Nat → St → Hp → Prop, (∃ m, W 0 m σ H) ∧ ∀ i m σ H, W i m σ H →
      ((Itr (a : Int) ((b : Int) - (a : Int)).toNat).stop i H ∧ D.nx σ H) ∨ ((Itr (a : Int) ((b : Int) - (a : Int)).toNat).go i H ∧ ∃ N : St → Hp → Prop, (∀ σ' H', N σ' H' → ∃ m', m' < m ∧ W (i + 1) m' σ' H') ∧ ∀ x H', (Itr (a : Int) ((b : Int) - (a : Int)).toNat).yld i H x H' → g x σ H' fun σ2 H2 => tb { D with nx := N, ct := N, bk := D.nx } σ2 H2) := by
  have e : ((b : Int) - (a : Int)).toNat = b - a := by omega
  rw [e]
  refine for_range (lo := (a : Int)) (n := b - a) Pv h0 (fun i σ H hi p => ?_) hd
  have e2 : V.int ((a : Int) + (i : Int)) = V.int ((a + i : Nat) : Int) := by simp
  rw [e2]
  exact hs i σ H hi p
theorem small62 {n : Nat} (h : n ≤ 100000) : -(2 ^ 62) ≤ (n : Int) ∧ (n : Int) < 2 ^ 62 := by constructor <;> omega
/-- the answer of a test that is known to be b -/
theorem iteB {b : Bool} {A B : Prop} (h1 : b = true → A) (h2 : b = false → B) : if b = true then A else B := by
  cases b with
  | true => rw [if_pos rfl]; exact h1 rfl
  | false => rw [if_neg Bool.false_ne_true]; exact h2 rfl
theorem andB {b c : Bool} {A : Bool → Prop} (h : A (b && c)) : if b = true then A c else A false := by
  cases b <;> simpa using h
theorem vO_non {α : Type} {p : VP α} (hp : ∀ x v H, p x v H → v ≠ .non) {x : Option α} {v : V} {H : Hp} (h : vO p x v H) : decide (v = .non) = x.isNone := by
  cases x with
  | none => have e : v = .non := h; subst e; rfl
  | some y => exact decide_eq_false (hp y v H h)
theorem vN_ne : ∀ (x : Nat) v H, vN x v H → v ≠ .non := fun x v H h => by
  have e : v = .int (x : Int) := h
  subst e
  exact fun z => by cases z
theorem vS_ne : ∀ (x : Str) v H, vS x v H → v ≠ .non := fun x v H h => by
  have e : v = .str x := h
  subst e
  exact fun z => by cases z
theorem any_all2 {α β : Type} {q : VP β} {f : α → β} {t : α → Bool} {xs : List α} {ds : List V} {F : Hp} (l : All2 q ((xs.filter t).map f) ds F) : (!ds.isEmpty) = xs.any t := by
  have hl := l.len
  rw [List.length_map] at hl
  cases ds with
  | nil =>
    have e : xs.filter t = [] := List.eq_nil_of_length_eq_zero hl
    show false = _
    symm
    rw [List.any_eq_false]
    intro x hx ht
    have : x ∈ xs.filter t := List.mem_filter.mpr ⟨hx, ht⟩
    rw [e] at this
    exact absurd this List.not_mem_nil
  | cons d ds =>
    show true = _
    symm
    rw [List.any_eq_true]
    cases h : xs.filter t with
    | nil => rw [h] at hl; simp at hl
    | cons x r =>
      have : x ∈ xs.filter t := by rw [h]; exact List.mem_cons_self
      obtain ⟨a, b⟩ := List.mem_filter.mp this
      exact ⟨x, a, b⟩
theorem ixN_of {n i : Nat} (h : i < n) : ixN n (i : Int) = some i := by
  unfold ixN
  rw [if_pos (by omega), if_pos (by omega)]
  simp
end Elk
set_option Elab.async false
set_option linter.all false
set_option maxRecDepth 100000
set_option maxHeartbeats 8000000
namespace Elk
open PySem PySem.Spec PyProof.Rows
/-! ### len(set(xs)), xs a list of different texts -/
section
variable {prog : Program} {w : World} {A : Around} {R : Result → Shared → Prop} {it : Addr} {fp wr : List Addr} {G : Array GenState → Array GenState → Prop} {n : Nat} {P : Nat → Value → Prop} {Stt : Nat → Shared → Prop}
/-- the first i of xs -/
def firsts (xs : List Str) (i : Nat) (z : Str) : Bool := (xs.take i).any (· == z)
theorem firsts_next {xs : List Str} {i : Nat} {x : Str} (h : xs[i]? = some x) (z : Str) : (firsts xs i z || decide (z = x)) = firsts xs (i + 1) z := by
  have e : xs.take (i + 1) = xs.take i ++ [x] := by rw [List.take_succ, h]; rfl
  unfold firsts
  rw [e, List.any_append]
  congr 1
  by_cases q : z = x
  · subst q; simp
  · have hb : (x == z) = false := by simpa [beq_iff_eq] using (fun h' : x = z => q h'.symm)
    simp [hb, q]
theorem firsts_not {xs : List Str} {i : Nat} {x : Str} (hd : xs.Nodup) (h : xs[i]? = some x) : firsts xs i x = false := by
  unfold firsts
  rw [List.any_eq_false]
  intro y hy q
  have e : y = x := eq_of_beq q
  subst e
  obtain ⟨j, hj⟩ := List.mem_iff_getElem?.mp hy
  rw [List.getElem?_take] at hj
  by_cases hji : j < i
  · rw [if_pos hji] at hj
    obtain ⟨l1, e1⟩ := List.getElem?_eq_some_iff.mp h
    obtain ⟨l2, e2⟩ := List.getElem?_eq_some_iff.mp hj
    exact absurd (e2.trans e1.symm) (List.pairwise_iff_getElem.mp hd j i l2 l1 hji)
  · rw [if_neg hji] at hj; cases hj
theorem fill_set (W : WalksS prog w A.in1 it fp wr G n P Stt) (D : Addr) (hD : D ∉ fp) (xs : List Str) (hx : xs.length = n) (hd : xs.Nodup) (hb : n + 1 < scanBound) (hv : ∀ i v, P i v → ∃ t, v = .str (xs.getD i Str.empty) t) :
    ∀ (k i : Nat) (s : Shared), n - i = k → i ≤ n → Stt i s → s.heap.SetOf (PySem.strKind prog w) D (firsts xs i) i →
      (∀ t, Moved (D :: wr) G s t → t.heap.SetOf (PySem.strKind prog w) D (firsts xs n) n → R (.ok (.ret .none)) t) → codeAny (model prog w) A (.builtin "set.update.loop" ⟨[.ref D, .ref it], []⟩) R s := by
  have hDw : D ∉ wr := fun q => hD (W.sub _ q)
  have more : ∀ b ∈ wr, b ∈ D :: wr := fun b q => List.mem_cons_of_mem _ q
  intro k
  induction k with
  | zero =>
    intro i s hk hi st hS out
    obtain rfl : i = n := by omega
    refine codeAny_builtin PyProof.Rows.F.entry_set_update_loop ?_
    rw [Around.under_plainId PyProof.Rows.F.plain_set_update_loop _]
    show wpAny _ A.in1 (pyNext (.ref it) >>= _) _ _ s
    refine wpAny_bind (W.done s _ _ st fun t mv => ?_)
    show wpAny _ A.in1 (ret Value.none) _ _ t
    refine wpAny_pure (out t (mv.mono more) ?_)
    obtain ⟨o, es, ep, tb, go, others⟩ := hS
    exact ⟨o, es, ep, tb, mv.heap D _ hDw go, others⟩
  | succ k ih =>
    intro i s hk hi st hS out
    have lt : i < n := by omega
    have hxi : xs[i]? = some (xs.getD i Str.empty) := by rw [List.getD_eq_getElem?_getD, List.getElem?_eq_getElem (by omega)]; rfl
    refine codeAny_builtin PyProof.Rows.F.entry_set_update_loop ?_
    rw [Around.under_plainId PyProof.Rows.F.plain_set_update_loop _]
    show wpAny _ A.in1 (pyNext (.ref it) >>= _) _ _ s
    refine wpAny_bind (W.item i s _ _ lt st fun v t pv st2 mv => ?_)
    obtain ⟨tk, ev⟩ := hv i v pv
    subst ev
    have hS2 : t.heap.SetOf (PySem.strKind prog w) D (firsts xs i) i := by
      obtain ⟨o, es, ep, tb, go, others⟩ := hS
      exact ⟨o, es, ep, tb, mv.heap D _ hDw go, others⟩
    show wpAny _ A.in1 (holding [Value.str (xs.getD i Str.empty) tk] (setAdd D (.str (xs.getD i Str.empty) tk)) >>= _) _ _ t
    refine wpAny_bind (wpAny_holding ?_)
    unfold setAdd
    refine wpAny_holding (wpAny_bind ((PySem.strKind prog w).pyHash (k := xs.getD i Str.empty) (strKind_is _ _ _ _) ?_))
    refine wpAny_setAddHashed_of (knd := PySem.strKind prog w) (s := { t with toks := t.toks + 1 }) (strKind_is _ _ _ _) rfl hS2 (by unfold scanBound at hb ⊢; omega) fun h3 sb hS3 => ?_
    have hS4 : h3.SetOf (PySem.strKind prog w) D (firsts xs (i + 1)) (i + 1) := SetOf_congr hS3 (fun z => firsts_next hxi z) (by rw [firsts_not hd hxi]; rfl)
    refine wpAny_pure ⟨plainId_quiet PyProof.Rows.F.plain_set_update_loop _, ih (i + 1) _ (by omega) lt (W.frame _ t _ _ st2 (Nat.le_succ _) fun b q o e => ?_) hS4 fun u mv2 hS5 => ?_⟩
    · rw [sb.2 b (fun z : b = D => hD (z ▸ q))]; exact e
    · refine out u (Moved.trans W.gtrans ((mv.mono more).then_heap (Nat.le_succ _) fun b o q e => ?_) mv2) hS5
      rw [sb.2 b (fun z : b = D => q (z ▸ List.mem_cons_self))]; exact e
end
section
variable {prog : Program} {w : World} {A : Around} {E : Value → Shared → Prop} {s : Shared}
theorem set_of_texts {l : Addr} {items : Array Value} {xs : List Str} {Q : Value → Shared → Prop} (hh : A.handled = none) (hl : s.heap.IsList l items) (hi : StrsAre items.toList xs) (hd : xs.Nodup) (hb : xs.length + 1 < scanBound)
    (k : ∀ (g : Heap) (tk : Nat), g.SetOf (PySem.strKind prog w) s.heap.objs.size (firsts xs xs.length) xs.length → (∀ b o, b < s.heap.objs.size → s.heap.get? b = some o → g.get? b = some o) → Q (.ref s.heap.objs.size) { s with heap := g, toks := tk }) :
    wpAny (model prog w) A (call (.type "set") [.ref l]) Q E s := by
  obtain ⟨mc, mt, mm⟩ := PySem.F.called_set.mro
  have made := PySem.F.called_set.made
  have subs := PySem.F.called_set.sub
  refine wpAny_call (codeAny_of_tree ?_)
  show wpAny _ _ (callAny (.type "set") _) _ _ _
  refine wpAny_pure ⟨Code.quiet_builtin _ (by decide +kernel), codeAny_builtin PySem.F.entry_type_call ?_⟩
  rw [Around.under_plain (weight_type_call_type "set" [.ref l] []) rfl]
  have nT := PySem.F.called_set.notType
  have cC := PySem.F.called_set.canCreate
  have tC := PySem.F.typeCall_set_1 (.ref l)
  repeat (any_goals (first | assumption | wp_step))
  refine codeAny_mono (code_set_new_1 (.ref l) (E := E) (Q₁ := fun obj s1 => ∃ fr : Bool, obj = .ref s.heap.objs.size ∧ s1 = { s with heap := s.heap.push { cls := .type "set", dict := none, data := .set #[] 0 (.fresh 0 0 fr) } }) fun fr => ⟨fr, rfl, rfl⟩) fun r s1 q => ?_
  cases r with
  | error e => exact q
  | ok fl =>
    cases fl with
    | next => exact q.elim
    | brk => exact q.elim
    | cont => exact q.elim
    | ret obj =>
      obtain ⟨fr, e1, e2⟩ := q
      subst e1 e2
      have hN : (s.heap.push { cls := .type "set", dict := none, data := .set #[] 0 (.fresh 0 0 fr) }).get? s.heap.objs.size = some { cls := .type "set", dict := none, data := .set #[] 0 (.fresh 0 0 fr) } := Heap.get?_push_size _ rfl
      have tN : Shared.TypeIs { s with heap := s.heap.push { cls := .type "set", dict := none, data := .set #[] 0 (.fresh 0 0 fr) } } (.ref s.heap.objs.size) "set" := ⟨_, hN, rfl⟩
      have iL := PySem.F.called_set.init.lookup
      have iB := PySem.F.called_set.init.bind (.ref s.heap.objs.size)
      repeat (any_goals (first | assumption | wp_step))
      refine codeAny_mono (codeAny_call_builtin (R := wants (fun z s2 => z = .none ∧ ∃ g tk, s2 = { s with heap := g, toks := tk } ∧ g.SetOf (PySem.strKind prog w) s.heap.objs.size (firsts xs xs.length) xs.length ∧
          (∀ b o, b < s.heap.objs.size → s.heap.get? b = some o → g.get? b = some o)) E) PySem.F.called_set.init.plain PySem.F.entry_set_init (check_set_init_1 tN ?_)) fun r2 s2 q2 => ?_
      · obtain ⟨⟨oc, od, ob, osl⟩, go, hc, m, hdat⟩ := hl
        simp only at hc hdat
        subst hc hdat
        have go2 : (s.heap.push { cls := .type "set", dict := none, data := .set #[] 0 (.fresh 0 0 fr) }).get? l = some { cls := .type "list", dict := od, data := .seq items m, slots := osl } := Heap.get?_push_of_some _ go
        have sub1 := PySem.F.sub_list_set
        have sub2 := PySem.F.sub_list_frozenset
        have neq : (Value.type "list" == Value.type "dict") = false := by decide
        have il : (s.heap.push { cls := .type "set", dict := none, data := .set #[] 0 (.fresh 0 0 fr) }).IsList l items := ⟨_, go2, rfl, m, rfl⟩
        unfold Builtin.«set.__init__» noKeywords Builtin.Frozenset.updateFrom
        generalize hPI : pyIter = PI
        wp_walk
        subst hPI
        refine wpAny_pyIter_list il (wpAny_bind (wpAny_runValue ?_))
        have ls : l < s.heap.objs.size := Heap.lt_size go
        have hn3 : A.in1.in1.in1.handled = none := by simp [hh]
        have ne1 : l ≠ (s.heap.push { cls := .type "set", dict := none, data := .set #[] 0 (.fresh 0 0 fr) }).objs.size := by
          rw [Heap.size_push]; exact Nat.ne_of_lt (Nat.lt_succ_of_lt ls)
        have notfp : s.heap.objs.size ∉ [(s.heap.push { cls := .type "set", dict := none, data := .set #[] 0 (.fresh 0 0 fr) }).objs.size, l] := by
          rw [Heap.size_push]
          simp only [List.mem_cons, List.not_mem_nil, or_false, not_or]
          exact ⟨Nat.ne_of_lt (Nat.lt_succ_self _), Nat.ne_of_gt ls⟩
        have hsz : xs.length = items.size := by rw [← StrsAre.len_eq hi, Array.length_toList]
        have hval : ∀ (i : Nat) (v : Value), items[i]? = some v → ∃ t, v = .str (xs.getD i Str.empty) t := fun i v hv => SS.strs_at hi i v (by rw [Array.getElem?_toList]; exact hv)
        refine fill_set ((Walks.list hn3 _ l ne1 items).toS) s.heap.objs.size notfp xs hsz hd (by omega) hval (items.size - 0) 0 _ (by omega) (Nat.zero_le _) ⟨⟨_, Heap.get?_push_size _ rfl, rfl, rfl⟩, (il.push _)⟩ ?start ?last
        case start =>
          have g0 : ((s.heap.push { cls := .type "set", dict := none, data := .set #[] 0 (.fresh 0 0 fr) }).push { cls := .type "list_iterator", data := .fields #[.ref l, .int 0 0] }).get? s.heap.objs.size = some { cls := .type "set", dict := none, data := .set #[] 0 (.fresh 0 0 fr) } :=
            Heap.get?_push_of_some _ hN
          exact SetOf_congr ((setObjOf_fresh (knd := PySem.strKind prog w) fr).setOf g0 (by unfold scanBound; omega)) (fun _ => rfl) rfl
        case last =>
          intro t mv hS
          rw [← hsz] at hS
          obtain ⟨g, gn, dr, tk, os⟩ := t
          obtain rfl : gn = s.gens := mv.gens
          obtain rfl : dr = s.drawn := mv.drawn
          obtain rfl : os = s.os := mv.os
          show wpAny _ _ _ _ _ _
          refine wpAny_pure ?_
          show wpAny _ _ (ret Value.none) _ _ _
          refine wpAny_pure ⟨rfl, g, tk, rfl, hS, fun b o lb e => ?_⟩
          refine mv.heap b o ?_ (Heap.get?_push_of_some _ (Heap.get?_push_of_some _ e))
          have n2 : b ≠ (s.heap.push { cls := .type "set", dict := none, data := .set #[] 0 (.fresh 0 0 fr) }).objs.size := by
            rw [Heap.size_push]; exact Nat.ne_of_lt (Nat.lt_succ_of_lt lb)
          simp only [List.mem_cons, List.mem_singleton, List.not_mem_nil, or_false, not_or]
          exact ⟨Nat.ne_of_lt lb, n2⟩
      · cases r2 with
        | error e => exact q2
        | ok fl2 =>
          cases fl2 with
          | next => exact q2.elim
          | brk => exact q2.elim
          | cont => exact q2.elim
          | ret z =>
            obtain ⟨ez, g, tk, e2, hS, kp⟩ := q2
            subst ez e2
            repeat (any_goals (first | assumption | wp_step))
            exact k _ _ hS kp
end
open L2
/-- len(set(xs)) -/
def tLenTexts (ta : TE) : TE := fun σ H Q => ta σ H fun x H1 => ∃ F, ∃ xs : List Str, Same F H1 ∧ vL vS xs x F ∧ xs.Nodup ∧ xs.length ≤ 1000 ∧ Q (.int xs.length) H1
theorem pe_lenTexts {X : Cx} {a : Expr} {ta : TE} {p p2 q pos : Pos} (hg : Gl X "len") (hm : X.mg "len" = none) (hg2 : Gl X "set") (hm2 : X.mg "set" = none) (ha : PE X a ta) (hc : X.calm = true := by rfl)
    (na : starEach [a] X.env = (false, eval a X.env) :: starEach [] X.env := by rfl) : PE X (.Call (.Name "len" p) [.Call (.Name "set" p2) [a] [] q] [] pos) (tLenTexts ta) := by
  refine ⟨fun pins s σ H Q I h => ?_⟩
  refine Call_ (ld_blt I hg hm boot_len (callWith_builtin1 (args_cons ?_ rfl) rfl rfl))
  refine Call_ (ld_blt I hg2 hm2 boot_set (callWith_type1 (args_cons (thn (ha.run pins s σ H _ I h) fun v s1 ⟨x, H1, I1, r1, q1⟩ => args_nil ?_) na) na rfl))
  obtain ⟨F, xs, sm, ⟨l, vs, ex, hl, lx⟩, hd, hz, k⟩ := q1
  subst ex
  cases r1
  obtain ⟨us, rv, il, _⟩ := br_lst I1.hok (sm _ _ hl)
  have e := all2S.mp lx
  subst e
  refine set_of_texts (I1.ok.hd hc) il (by simpa using L2.strsAre_of rv) hd (by unfold scanBound; omega) fun g tk hS kp => args_nil ?_
  obtain ⟨o, es, ep, t, ho, hex, hdt, _, _, _, hf, hn⟩ := hS
  have I2 : L2.Inv X pins σ H1 { s1 with heap := g, toks := tk } := I1.kept fun b o e => kp b o (Heap.lt_size e) e
  exact call_len_set ho hex hdt hf (by rw [hn] <;> omega) ⟨.int xs.length, H1, I2.tok _, ⟨_, by rw [hn]⟩, k⟩
end Elk
set_option Elab.async false
set_option linter.all false
set_option maxRecDepth 100000
set_option maxHeartbeats 4000000
namespace Elk
open PySem PySem.Spec PyProof.Rows L2
abbrev Row := W.T3 Str (W.Tup Str) Int
abbrev vRow : VP Row := v3 vS (vT vS) vI
def haveKind (r s : Row) : Bool := !(r.b.items.filter fun k => decide (k ∈ s.b.items)).isEmpty
section
variable {P : Program} {w : World} {K : W.Frag} {mg : Str → Option Value} {base : Heap}
theorem sc_have_kind : FnScope ["one", "other", "kind"] ["one", "other"] (defScope s_have_kind) := ⟨rfl, rfl, rfl, by decide +kernel, rfl, by decide +kernel, by decide +kernel⟩
def sp_have_kind : Sp := Pm (ι := Row × Row) (fun i vs F => ∃ u v, vs = [u, v] ∧ vRow i.1 u F ∧ vRow i.2 v F ∧ i.1.b.items.length ≤ 1000) (fun i v _ => v = .bl (haveKind i.1 i.2))
theorem ok_have_kind (T : Tp K mg) : Ok P w K mg base 1 (He.ga K "have_kind") ["one", "other"] sp_have_kind := by
  refine mk_ok (F_have_kind T) sc_have_kind ?_ (fun _ _ _ _ _ _ us hl => match us, hl with | [_, _], _ => rfl) (fun cdv A outer s H vs Q E hr h => ?_)
  · rintro vs H Q E ⟨i, F, _, ⟨u, v, rfl, _⟩, _⟩
    rfl
  obtain ⟨⟨r, r'⟩, F, sm, ⟨u, v, rfl, hu, hv, hlen⟩, k⟩ := h
  refine ⟨_, pss_one (ps_ret (pe_cmpR (opF_ne (vL vS) hr.units)
    (pe_lc (own := [("kind", 2)]) (g := gName 2) rfl sc_have_kind.nd (pi_tup (pe_ix (ix3b vS (vT vS) vI) (pv 0) pe_int (fun _ _ => rfl))) (blkOk_by (N := ["one", "other", "kind"]) (sc := defScope s_have_kind) (by decide +kernel))
      (fun _ _ _ _ _ => pg_name (i := 2) sc_have_kind.nd rfl (Or.inl rfl)) (fun _ _ _ _ _ => pts_one (pt_cmpR (op_inT vS hr.units) (pv 2) (pe_ix (ix3b vS (vT vS) vI) (pv 1) pe_int (fun _ _ => rfl)) rfl)) (fun _ _ _ _ _ => pv 2))
    (pe_lst pa_nil) (nomark _))), ?_⟩
  refine ⟨_, rfl, F, r, sm, hu, rfl, fun x hx => ?_⟩
  obtain ⟨a, vs, rfl, ha, l⟩ := hx
  refine ⟨a, rfl, ⟨_, SqT.of (sm _ _ ha)⟩, fun D hD => ?_⟩
  refine lcT (p := vS) (q := vS) (f := id) (t := fun k => decide (k ∈ r'.b.items)) sm hD (sm _ _ ha) l (by simp only at hlen; omega) ?_ ?_
  · intro x y F' H' _ g hx N Y hN hY
    refine ⟨rfl, _, rfl, _, rfl, F', r', g.i, Mo.mo g.f hv, rfl, fun z hz => ?_⟩
    refine ⟨F', x, r'.b.items, g.i, hx, hz, _, rfl, ?_⟩
    exact ite2 (fun ht => ⟨_, rfl, hY _ F' H' (Grow.refl g.i) ht hx⟩) fun ht => hN F' H' (Grow.refl g.i) (by simpa using ht)
  · intro F2 H2 g hl
    refine ⟨Nat.zero_le _, fun e he => ?_⟩
    have g2 := g.trans (Grow.put (o := .lst []) g.i he)
    refine ⟨_, _, [], g2.i, Mo.mo (same_upd (g.i.free he)) hl, ⟨e, [], rfl, upd_same, .nil⟩, ?_⟩
    refine k _ _ _ g2 ?_
    show V.bl _ = V.bl _
    congr 1
    simp only [List.map_id, haveKind]
    cases (r.b.items.filter fun k => decide (k ∈ r'.b.items)) <;> rfl
end
end Elk
set_option Elab.async false
set_option linter.all false
set_option maxRecDepth 100000
set_option maxHeartbeats 4000000
namespace Elk
open PySem PySem.Spec PyProof.Rows L2
theorem kit_self {K : W.Frag} (t : Value) : W.kitOne K t t = some true := if_pos (beq_self_eq_true t)
/-! ### names -/
def lowerS : Str := "abcdefghijklmnopqrstuvwxyz"
structure NameOk (z : Str) : Prop where
  lo : 1 ≤ z.length
  hi : z.length ≤ 10
  sg : ∀ c ∈ z.cps.toList, c ∈ lowerS.cps.toList
theorem strlen_cps (z : Str) : z.length = z.cps.size := rfl
/-- a comprehension over a text -/
theorem lcS {β : Type} {q : VP β} [Mo q] {f : Nat → β} {t : Nat → Bool} {z : Str} {g : TG} {tt : TT} {te : TE} {own : List Nat} {σ : St} {F1 H1 : Hp} {D : Addr} {Qd : Hp → Prop} (s : Same F1 H1) (hD : H1 D = none) (hz : z.cps.size ≤ 100000)
    (S : StepC (fun c v _ => v = .str ⟨#[c]⟩) q f t z.cps.toList g tt te own σ F1 H1) (hd : ∀ F H, Grow F1 H1 F H → vL q ((z.cps.toList.filter t).map f) (.ref D) F → Qd H) :
    ∃ W : Nat → Nat → Hp → Prop, (∃ m, W 0 m (upd H1 D (.lst []))) ∧ ∀ i m H, W i m H →
      ((Its z).stop i H ∧ Qd H) ∨ ((Its z).go i H ∧ ∃ Nx : Hp → Prop, (∀ H', Nx H' → ∃ m', m' < m ∧ W (i + 1) m' H') ∧ ∀ x H', (Its z).yld i H x H' → g x (wipe σ own) H' fun σ2 H2 => wipe σ2 own = wipe σ own ∧ tt σ2 H2 fun b H3 =>
        if b = true then te σ2 H3 fun y H4 => ∃ acc, H4 D = some (.lst acc) ∧ acc.length < sizeLine ∧ Nx (upd H4 D (.lst (acc ++ [y]))) else Nx H3) := by
  refine lc_it walk_str (AccC q f t z.cps.toList F1 H1 D) (acc_start s hD) (fun _ _ _ _ => trivial) (fun i x H H' hi A y => ?_) fun H A => acc_end hD (by simp) A hd
  obtain ⟨e, c, hc, ev⟩ := y
  subst e ev
  haveI : Mo (fun (c : Nat) (v : V) (_ : Hp) => v = .str ⟨#[c]⟩) := ⟨fun _ h => h⟩
  exact acc_turn (p := fun c v _ => v = .str ⟨#[c]⟩) hD (by simpa using hz) (by rw [Array.getElem?_toList]; exact hc) rfl A S
def sp_is_name : Sp := Pm (ι := Str) (fun z vs _ => vs = [.str z] ∧ NameOk z) (fun _ v _ => v = .bl true)
section
variable {P : Program} {w : World} {K : W.Frag} {mg : Str → Option Value} {base : Heap}
abbrev N_is_name : List Str := ["value", "sign"]
theorem sc_is_name : FnScope N_is_name ["value"] (defScope s_is_name) := ⟨rfl, rfl, rfl, by decide +kernel, rfl, by decide +kernel, by decide +kernel⟩
theorem ok_is_name (T : Tp K mg) : Ok P w K mg base 1 (He.ga K "is_name") ["value"] sp_is_name := by
  refine mk_ok (F_is_name T) sc_is_name ?_ (fun _ _ _ _ _ _ us hl => match us, hl with | [_], _ => rfl) (fun cdv A outer s H vs Q E hr h => ?_)
  · rintro vs H Q E ⟨i, F, _, ⟨rfl, _⟩, _⟩
    rfl
  obtain ⟨z, F, sm, ⟨rfl, ok⟩, k⟩ := h
  refine ⟨_, (pss_cons (ps_if (PW.pt (pw_or (pt_not (pt_val (pe_callB call_isi (by rfl) (n_isinstance T) (by decide +kernel) (pa_cons (pv 0) (pa_cons (pe_bltn (v := .ty "str") (u := .type "str") (by rfl) (n_str T) (by decide +kernel) rfl) pa_nil))))) (pw_or1 (pt_not (pt_chain op_le op_le pe_int (pe_callB call_len_str (by rfl) (n_len T) (by decide +kernel) (pa_cons (pv 0) pa_nil)) pe_int)))))
      (pss_one (ps_ret pe_bl))
      pss_nil)
    (pss_one (ps_ret (pe_cmpR (op_eqNil hr.units) (pe_lc (own := [("sign", 1)]) (g := gName 1) rfl sc_is_name.nd (pi_str (pv 0)) (blkOk_by (N := N_is_name) (sc := defScope s_is_name) (by decide +kernel)) (fun _ _ _ _ _ => (pg_name (i := 1) sc_is_name.nd rfl (Or.inl rfl))) (fun _ _ _ _ _ => (pts_one (pt_cmpR op_notIn_sign (pv 1) (pe_glob (v := .str lowerS) rfl (t_LOWER T).choose_spec ⟨_, rfl⟩) rfl))) (fun _ _ _ _ _ => (pv 1))) (pe_lst pa_nil) (nomark _))))), ?_⟩
  have hlen : z.cps.size ≤ 10 := ok.hi
  -- not isinstance(value, str)
  refine ⟨_, rfl, _, _, _, _, _, rfl, .ty "str", .base (.str z), kit_self _, _, rfl, ?_⟩
  refine iteF ?_
  -- not 1 <= len(value) <= 10
  refine ⟨_, rfl, z, rfl, Nat.le_trans ok.hi (by decide), _, _, rfl, rfl, _, rfl, ?_⟩
  have e1 : decide ((1 : Int) ≤ (z.length : Int)) = true := decide_eq_true (by have := ok.lo; omega)
  have e2 : decide ((z.length : Int) ≤ (10 : Int)) = true := decide_eq_true (by have := ok.hi; omega)
  rw [e1]
  refine iteT ⟨_, _, rfl, rfl, _, rfl, ?_⟩
  rw [e2]
  refine iteF ?_
  -- return [sign for sign in value if sign not in LOWER] == []
  refine ⟨_, rfl, z, rfl, fun D hD => ?_⟩
  refine lcS (q := vS) (f := fun c => ⟨#[c]⟩) (t := fun _ => false) sm hD (by omega) ?_ ?_
  · intro c v F' H' hc g hx N Y hN hY
    refine ⟨rfl, _, rfl, c, lowerS, hx, rfl, _, rfl, ?_⟩
    rw [decide_eq_true (ok.sg c hc)]
    exact iteF (hN F' H' (Grow.refl g.i) rfl)
  · intro F2 H2 g hl
    have ef : (z.cps.toList.filter fun _ => false) = [] := List.filter_eq_nil_iff.mpr fun _ _ => Bool.false_ne_true
    rw [ef] at hl
    refine ⟨Nat.zero_le _, fun e he => ?_⟩
    have g2 := g.trans (Grow.put (o := .lst []) g.i he)
    obtain ⟨d, ds, ed, hds, lds⟩ := hl
    cases lds
    exact ⟨_, _, [], ed, rfl, by rw [upd_ne (ne_of_none (g.i _ _ hds) he)]; exact g.i _ _ hds, upd_same, k _ _ _ g2 rfl⟩
end
end Elk
set_option Elab.async false
set_option linter.all false
set_option maxRecDepth 100000
set_option maxHeartbeats 4000000
namespace Elk
open PySem PySem.Spec PyProof.Rows L2
/-! ### askers -/
def vA (K : W.Frag) : VP Row := fun r v H => ∃ a dx t, v = .ref a ∧ H a = some (.ins (cA K) dx [("row", .ref t)]) ∧ vRow r (.ref t) H
instance {K : W.Frag} : Mo (vA K) := ⟨fun s ⟨a, dx, t, e, h, r⟩ => ⟨a, dx, t, e, s _ _ h, Mo.mo s r⟩⟩
/-- one value, one thing -/
class Inj {α : Type} (p : VP α) : Prop where
  inj : ∀ {x y : α} {v : V} {H : Hp}, p x v H → p y v H → x = y
theorem all2_inj {α : Type} {p : VP α} [Inj p] {H : Hp} {xs ys : List α} {vs : List V} (h : All2 p xs vs H) : All2 p ys vs H → xs = ys := by
  induction h generalizing ys with
  | nil => intro k; cases k; rfl
  | cons a _ ih =>
    intro k
    cases k with
    | cons b k => rw [Inj.inj a b, ih k]
instance : Inj vS := ⟨fun {x y v H} h k => by
  have e1 : v = .str x := h
  have e2 : v = .str y := k
  rw [e1] at e2; cases e2; rfl⟩
instance : Inj vI := ⟨fun {x y v H} h k => by
  have e1 : v = .int x := h
  have e2 : v = .int y := k
  rw [e1] at e2; cases e2; rfl⟩
instance {α : Type} {p : VP α} [Inj p] : Inj (vL p) := ⟨fun ⟨a, vs, e, h, l⟩ ⟨a', vs', e', h', l'⟩ => by
  rw [e] at e'; cases e'; rw [h] at h'; cases h'; exact all2_inj l l'⟩
instance {α : Type} {p : VP α} [Inj p] : Inj (vT p) := ⟨fun {x y v H} ⟨a, vs, e, h, l⟩ ⟨a', vs', e', h', l'⟩ => by
  rw [e] at e'; cases e'; rw [h] at h'; cases h'
  have q := all2_inj l l'
  cases x; cases y; exact congrArg W.Tup.mk q⟩
instance {α β γ : Type} {p : VP α} {q : VP β} {r : VP γ} [Inj p] [Inj q] [Inj r] : Inj (v3 p q r) := ⟨fun {x y v H} ⟨a, u, w, z, e, h, h1, h2, h3⟩ ⟨a', u', w', z', e', h', k1, k2, k3⟩ => by
  rw [e] at e'; cases e'; rw [h] at h'; cases h'
  exact W.T3.same (Inj.inj h1 k1) (Inj.inj h2 k2) (Inj.inj h3 k3)⟩
instance {K : W.Frag} : Inj (vA K) := ⟨fun {x y v H} ⟨a, dx, t, e, h, r⟩ ⟨a', dx', t', e', h', r'⟩ => by
  rw [e] at e'; cases e'; rw [h] at h'; cases h'
  exact Inj.inj (p := vRow) r r'⟩
/-- what is made of a name, kinds, a most -/
def mkRow (name : Str) (fits : List Str) (most : Int) : Row := ⟨name, ⟨isort W.DatumOrd.lt fits⟩, most⟩
/-! ### an object that its own __init__ fills -/
structure GrowX (x : Addr) (F H F' H' : Hp) : Prop where
  h : ∀ b o, H b = some o → b ≠ x → H' b = some o
  f : Same F F'
  i : Same F' H'
  n : ∀ b o, F' b = some o → F b = some o ∨ H b = none ∨ b = x
theorem GrowX.made {C x dx : Addr} {F H1 F' H' : Hp} (nx : H1 x = none) (nd : H1 dx = none) (g : GrowX x F (upd (upd H1 dx (.own x)) x (.ins C dx [])) F' H') : Grow F H1 F' H' :=
  ⟨fun b o e => g.h b o (by rw [upd_ne (ne_of_none e nx), upd_ne (ne_of_none e nd)]; exact e) (ne_of_none e nx), g.f, g.i, fun b o e => by
    rcases g.n b o e with z | z | z
    · exact .inl z
    · by_cases q : b = x
      · subst q; exact .inr nx
      · rw [upd_ne q] at z
        by_cases q2 : b = dx
        · subst q2; exact .inr nd
        · rw [upd_ne q2] at z; exact .inr z
    · subst z; exact .inr nx⟩
theorem same_made {C x dx : Addr} {F H : Hp} (s : Same F H) (nx : H x = none) (nd : H dx = none) : Same F (upd (upd H dx (.own x)) x (.ins C dx [])) := fun b o e => by
  have e2 := s _ _ e
  rw [upd_ne (ne_of_none e2 nx), upd_ne (ne_of_none e2 nd)]; exact e2
/-- the last store of an __init__ -/
theorem Grow.fill {x : Addr} {F H F1 H1 : Hp} {o u : HO} (g : Grow F H F1 H1) (hx : H x = some u) (fx : F x = none) : GrowX x F H (upd F1 x o) (upd H1 x o) := by
  have f1 := g.out hx fx
  refine ⟨fun b w e q => by rw [upd_ne q]; exact g.h _ _ e, g.f.trans (same_upd f1), fun b w e => ?_, fun b w e => ?_⟩
  · by_cases q : b = x
    · subst q; rw [upd_same] at e ⊢; exact e
    · rw [upd_ne q] at e ⊢; exact g.i _ _ e
  · by_cases q : b = x
    · exact .inr (.inr q)
    · rw [upd_ne q] at e
      exact (g.n b w e).elim .inl fun z => .inr (.inl z)
def sp_is_count : Sp := Pm (ι := Int) (fun i vs _ => vs = [.int i] ∧ 0 ≤ i) (fun _ v _ => v = .bl true)
def sp_are_names : Sp := Pm (ι := List Str) (fun zs vs F => ∃ v, vs = [v] ∧ vL vS zs v F ∧ (∀ z ∈ zs, NameOk z) ∧ zs.Nodup ∧ zs.length ≤ 1000) (fun _ v _ => v = .bl true)
structure FitsOk (fits : List Str) : Prop where
  ok : ∀ z ∈ fits, NameOk z
  nd : fits.Nodup
  ne : fits ≠ []
  len : fits.length ≤ 1000
def sp_Asker_init (K : W.Frag) : Sp := fun vs H Q _ => ∃ (x dx : Addr) (F : Hp) (name : Str) (fits : List Str) (fv : V) (most : Int), vs = [.ref x, .str name, fv, .int most] ∧ H x = some (.ins (cA K) dx []) ∧ Same F H ∧ F x = none ∧ vL vS fits fv F ∧
  NameOk name ∧ FitsOk fits ∧ 1 ≤ most ∧ ∀ F' H', GrowX x F H F' H' → vA K (mkRow name fits most) (.ref x) F' → Q .non H'
def sp_Asker_name (K : W.Frag) : Sp := Pm (ι := Row) (fun r vs F => ∃ v, vs = [v] ∧ vA K r v F) (fun r v _ => v = .str r.a)
def sp_Asker_fits (K : W.Frag) : Sp := Pm (ι := Row) (fun r vs F => ∃ v, vs = [v] ∧ vA K r v F) (fun r v F => vL vS r.b.items v F)
def sp_Asker_eq (K : W.Frag) : Sp := Pm (ι := Row × Row) (fun i vs F => ∃ u v, vs = [u, v] ∧ vA K i.1 u F ∧ vA K i.2 v F) (fun i v _ => v = .bl (decide (i.1 = i.2)))
section
variable {P : Program} {w : World} {K : W.Frag} {mg : Str → Option Value} {base : Heap}
theorem tyA (T : Tp K mg) {H : Hp} {r : Row} {v : V} (h : vA K r v H) : TyX K H v (.ref (cA K)) := by
  obtain ⟨a, dx, t, e, g, _⟩ := h
  subst e
  exact .base (.ins g (cls_Asker T) T.clsA T.cget T.ctak T.mroA)
abbrev N_is_count : List Str := ["value"]
theorem sc_is_count : FnScope N_is_count ["value"] (defScope s_is_count) := ⟨rfl, rfl, rfl, by decide +kernel, rfl, by decide +kernel, by decide +kernel⟩
theorem ok_is_count (T : Tp K mg) : Ok P w K mg base 1 (He.ga K "is_count") ["value"] sp_is_count := by
  refine mk_ok (F_is_count T) sc_is_count ?_ (fun _ _ _ _ _ _ us hl => match us, hl with | [_], _ => rfl) (fun cdv A outer s H vs Q E hr h => ?_)
  · rintro vs H Q E ⟨i, F, _, ⟨rfl, _⟩, _⟩
    rfl
  obtain ⟨n, F, sm, ⟨rfl, ok⟩, k⟩ := h
  refine ⟨_, (pss_one (ps_ret (pe_and (pe_callB call_isi (by rfl) (n_isinstance T) (by decide +kernel) (pa_cons (pv 0) (pa_cons (pe_bltn (v := .ty "int") (u := .type "int") (by rfl) (n_int T) (by decide +kernel) rfl) pa_nil))) (pe_and (pe_not (pe_callB call_isi (by rfl) (n_isinstance T) (by decide +kernel) (pa_cons (pv 0) (pa_cons (pe_bltn (v := .ty "bool") (u := .type "bool") (by rfl) (n_bool T) (by decide +kernel) rfl) pa_nil)))) (pe_one (pe_cmpR op_ge (pv 0) pe_int (nomark _))))))), ?_⟩
  refine ⟨_, rfl, _, _, _, _, _, rfl, .ty "int", .base (.int n), kit_self _, _, rfl, ?_⟩
  refine iteT ⟨_, rfl, _, _, _, _, false, rfl, .ty "bool", .base (.int n), kit_ty (by decide +kernel), _, rfl, ?_⟩
  refine ⟨_, rfl, ?_⟩
  refine iteT ⟨_, rfl, _, _, rfl, rfl, ?_⟩
  exact k _ F H (Grow.refl sm) (by show V.bl (decide ((0 : Int) ≤ n)) = _; rw [decide_eq_true ok])
abbrev N_are_names : List Str := ["value", "one"]
theorem sc_are_names : FnScope N_are_names ["value"] (defScope s_are_names) := ⟨rfl, rfl, rfl, by decide +kernel, rfl, by decide +kernel, by decide +kernel⟩
theorem ok_are_names (T : Tp K mg) : Ok P w K mg base 2 (He.ga K "are_names") ["value"] sp_are_names := by
  obtain ⟨fd_is_name, G_is_name, b_is_name, k_is_name⟩ := ok_is_name (P := P) (w := w) (base := base) T
  refine mk_ok (F_are_names T) sc_are_names ?_ (fun _ _ _ _ _ _ us hl => match us, hl with | [_], _ => rfl) (fun cdv A outer s H vs Q E hr h => ?_)
  · rintro vs H Q E ⟨i, F, _, ⟨v, rfl, _⟩, _⟩
    rfl
  obtain ⟨zs, F, sm, ⟨v, rfl, hv, ok, nd, hlen⟩, k⟩ := h
  refine ⟨_, (pss_cons (ps_if (PW.pt (pw_or (pt_not (pt_val (pe_callB call_isi (by rfl) (n_isinstance T) (by decide +kernel) (pa_cons (pv 0) (pa_cons (pe_bltn (v := .ty "list") (u := .type "list") (by rfl) (n_list T) (by decide +kernel) rfl) pa_nil))))) (pw_or1 (pt_cmpR (op_neNil hr.units) (pe_lc (own := [("one", 1)]) (g := gName 1) rfl sc_are_names.nd (pi_list (pv 0)) (blkOk_by (N := N_are_names) (sc := defScope s_are_names) (by decide +kernel)) (fun _ _ _ _ _ => (pg_name (i := 1) sc_are_names.nd rfl (Or.inl rfl))) (fun _ _ _ _ _ => (pts_one (pt_not (pt_val (pe_call G_is_name (hr.mono (by decide)) rfl (g_is_name T) k_is_name b_is_name .nil pass0 (pa_cons (pv 1) pa_nil)))))) (fun _ _ _ _ _ => (pv 1))) (pe_lst pa_nil) (nomark _)))))
      (pss_one (ps_ret pe_bl))
      pss_nil)
    (pss_one (ps_ret (pe_cmpR (opF_eq vI hr.units) (pe_lenTexts (by rfl) (n_len T) (by rfl) (n_set T) (pv 0)) (pe_callB (call_lenL vS) (by rfl) (n_len T) (by decide +kernel) (pa_cons (pv 0) pa_nil)) (nomark _))))), ?_⟩
  obtain ⟨a, vs, rfl, ha, l⟩ := id hv
  refine ⟨_, rfl, _, _, _, _, _, rfl, .ty "list", .base (.lst (sm _ _ ha)), kit_self _, _, rfl, ?_⟩
  refine iteF ⟨_, rfl, a, rfl, ⟨_, SqL.of (sm _ _ ha)⟩, fun D hD => ?_⟩
  refine lcL (p := vS) (q := vS) (f := id) (t := fun _ => false) sm hD (sm _ _ ha) l (by omega) ?_ ?_
  · intro z y F' H' hz g hx N Y hN hY
    have ey : y = .str z := hx
    subst ey
    refine ⟨rfl, _, rfl, z, F', g.i, ⟨rfl, ok z hz⟩, fun u F2 H2 g2 hu => ?_⟩
    have eu : u = .bl true := hu
    subst eu
    exact ⟨true, rfl, iteF (hN F2 H2 g2 rfl)⟩
  · intro F2 H2 g hl
    have ef : (zs.filter fun _ => false) = [] := List.filter_eq_nil_iff.mpr fun _ _ => Bool.false_ne_true
    rw [ef] at hl
    refine ⟨Nat.zero_le _, fun e he => ?_⟩
    have g2 := g.trans (Grow.put (o := .lst []) g.i he)
    obtain ⟨d, ds, ed, hds, lds⟩ := hl
    cases lds
    refine ⟨_, _, [], ed, rfl, by rw [upd_ne (ne_of_none (g.i _ _ hds) he)]; exact g.i _ _ hds, upd_same, _, rfl, ?_⟩
    refine iteF ?_
    refine ⟨_, rfl, _, zs, g2.i, Mo.mo g2.f hv, nd, hlen, _, rfl, _, _, zs, rfl, (Mo.mo g2.f hv).m g2.i, ?_⟩
    refine ⟨_, _, _, g2.i, rfl, rfl, k _ _ _ g2 ?_⟩
    show V.bl _ = V.bl true
    rw [decide_eq_true rfl]
end
end Elk
set_option Elab.async false
set_option linter.all false
set_option maxHeartbeats 4000000
namespace Elk
/-! ### trees by places, in plain Lean -/
def nlt (a b : Nat) : Bool := decide (a < b)
theorem slo_nlt : Slo nlt := ⟨fun x => decide_eq_false (Nat.lt_irrefl x), fun x y z h k => by
  have a := of_decide_eq_true (p := x < y) h
  have b := of_decide_eq_true (p := y < z) k
  exact decide_eq_true (p := x < z) (by omega), fun x y h k => by
  have a := of_decide_eq_false (p := x < y) h
  have b := of_decide_eq_false (p := y < x) k
  omega⟩
def takes (lk : Nat → Nat → Bool) (gs : List (List Nat)) (i : Nat) (ps : List (Option Nat)) (t : Nat) : Bool := (ps.getD t none).isNone && (gs.getD t []).any fun a => lk a i
def stepIn (lk : Nat → Nat → Bool) (gs : List (List Nat)) (i : Nat) (s : List (Option Nat) × List Nat) (t : Nat) : List (Option Nat) × List Nat :=
  if takes lk gs i s.1 t = true then (s.1.set t (some i), s.2 ++ gs.getD t []) else s
def inn (lk : Nat → Nat → Bool) (gs : List (List Nat)) (i : Nat) (ps : List (Option Nat)) (j : Nat) : List (Option Nat) × List Nat := (List.range j).foldl (stepIn lk gs i) (ps, [i])
def stepOut (lk : Nat → Nat → Bool) (s : List (Option Nat) × List (List Nat)) (i : Nat) : List (Option Nat) × List (List Nat) :=
  ((inn lk s.2 i s.1 i).1, s.2 ++ [isort nlt (inn lk s.2 i s.1 i).2])
def outS (lk : Nat → Nat → Bool) (n i : Nat) : List (Option Nat) × List (List Nat) := (List.range i).foldl (stepOut lk) (List.replicate n none, [])
def trees (lk : Nat → Nat → Bool) (n : Nat) : List (Option Nat) × List (List Nat) := outS lk n n
section
variable {lk : Nat → Nat → Bool} {gs : List (List Nat)} {i n : Nat} {ps : List (Option Nat)}
theorem inn_zero : inn lk gs i ps 0 = (ps, [i]) := rfl
theorem inn_succ (j : Nat) : inn lk gs i ps (j + 1) = stepIn lk gs i (inn lk gs i ps j) j := by
  unfold inn
  rw [List.range_succ, List.foldl_append]
  rfl
theorem outS_zero : outS lk n 0 = (List.replicate n none, []) := rfl
theorem outS_succ (j : Nat) : outS lk n (j + 1) = stepOut lk (outS lk n j) j := by
  unfold outS
  rw [List.range_succ, List.foldl_append]
  rfl
theorem getD_set {α : Type} {l : List α} {a b : Nat} {x d : α} : (l.set a x).getD b d = if a = b ∧ b < l.length then x else l.getD b d := by
  rw [List.getD_eq_getElem?_getD, List.getD_eq_getElem?_getD, List.getElem?_set]
  by_cases h : a = b
  · subst h
    by_cases k : a < l.length
    · rw [if_pos rfl, if_pos k, if_pos ⟨rfl, k⟩]; rfl
    · rw [if_pos rfl, if_neg k, if_neg (fun z => k z.2), List.getElem?_eq_none (by omega)]
  · rw [if_neg h, if_neg (fun z => h z.1)]
/-- the parents behind j of the inner turns -/
theorem inn_ps (hn : i ≤ ps.length) : ∀ j, j ≤ i → (inn lk gs i ps j).1.length = ps.length ∧ ∀ t, (inn lk gs i ps j).1.getD t none = if t < j ∧ takes lk gs i ps t = true then some i else ps.getD t none
  | 0, _ => ⟨rfl, fun t => by rw [if_neg (by omega)]; rfl⟩
  | j + 1, hj => by
    obtain ⟨h1, h2⟩ := inn_ps hn j (by omega)
    have ht : takes lk gs i (inn lk gs i ps j).1 j = takes lk gs i ps j := by
      unfold takes
      rw [h2 j, if_neg (by omega)]
    rw [inn_succ, stepIn, ht]
    by_cases hk : takes lk gs i ps j = true
    · rw [if_pos hk]
      refine ⟨by rw [List.length_set]; exact h1, fun t => ?_⟩
      rw [getD_set, h1]
      by_cases e : j = t
      · subst e
        rw [if_pos ⟨rfl, by omega⟩, if_pos ⟨by omega, hk⟩]
      · rw [if_neg (fun z => e z.1), h2 t]
        by_cases q : t < j ∧ takes lk gs i ps t = true
        · rw [if_pos q, if_pos ⟨by omega, q.2⟩]
        · rw [if_neg q, if_neg (fun z => q ⟨by omega, z.2⟩)]
    · rw [if_neg hk]
      refine ⟨h1, fun t => ?_⟩
      rw [h2 t]
      by_cases q : t < j ∧ takes lk gs i ps t = true
      · rw [if_pos q, if_pos ⟨by omega, q.2⟩]
      · rw [if_neg q, if_neg (fun z => by
          have : t = j := by
            have := z.1
            by_cases e : t < j
            · exact absurd ⟨e, z.2⟩ q
            · omega
          exact hk (this ▸ z.2))]
theorem inn_mine (hn : i ≤ ps.length) : ∀ j, j ≤ i → (inn lk gs i ps j).2 = i :: ((List.range j).filter (takes lk gs i ps)).flatMap fun t => gs.getD t []
  | 0, _ => rfl
  | j + 1, hj => by
    have ih := inn_mine hn j (by omega)
    have ht : takes lk gs i (inn lk gs i ps j).1 j = takes lk gs i ps j := by
      unfold takes
      rw [(inn_ps hn j (by omega)).2 j, if_neg (by omega)]
    rw [inn_succ, stepIn, ht, List.range_succ, List.filter_append, List.flatMap_append]
    by_cases hk : takes lk gs i ps j = true
    · rw [if_pos hk, List.filter_cons_of_pos hk]
      show (inn lk gs i ps j).2 ++ _ = _
      rw [ih]
      simp
    · rw [if_neg hk, List.filter_cons_of_neg hk, ih]
      simp
end
/-- what holds of parents and groups behind i places -/
structure TreeOk (lk : Nat → Nat → Bool) (n i : Nat) (ps : List (Option Nat)) (gs : List (List Nat)) : Prop where
  pl : ps.length = n
  gl : gs.length = i
  le : ∀ k m, k < i → m ∈ gs.getD k [] → m ≤ k
  nd : ∀ k, k < i → (gs.getD k []).Nodup
  self : ∀ k, k < i → k ∈ gs.getD k []
  dis : ∀ k k', k < i → k' < i → ps.getD k none = none → ps.getD k' none = none → k ≠ k' → ∀ m, m ∈ gs.getD k [] → m ∉ gs.getD k' []
  free : ∀ k, i ≤ k → ps.getD k none = none
  srt : ∀ k, k < i → (gs.getD k []).Pairwise (fun a b => nlt b a = false)
theorem nodup_le : ∀ (b : Nat) (l : List Nat), l.Nodup → (∀ x ∈ l, x < b) → l.length ≤ b
  | 0, l, _, h => by
    cases l with
    | nil => exact Nat.le_refl _
    | cons x l => exact absurd (h x List.mem_cons_self) (by omega)
  | b + 1, l, hd, h => by
    by_cases hm : b ∈ l
    · have h1 := nodup_le b (l.erase b) (hd.erase b) (fun x hx => by
        have h2 := h x (List.mem_of_mem_erase hx)
        have h3 : x ≠ b := fun e => by subst e; exact absurd hx (hd.not_mem_erase)
        omega)
      rw [List.length_erase_of_mem hm] at h1
      omega
    · have h1 := nodup_le b l hd fun x hx => by
        have h2 := h x hx
        have h3 : x ≠ b := fun e => hm (e ▸ hx)
        omega
      omega
section
variable {lk : Nat → Nat → Bool} {gs : List (List Nat)} {i n : Nat} {ps : List (Option Nat)}
theorem mine_mem (T : TreeOk lk n i ps gs) (hi : i < n) {j : Nat} (hj : j ≤ i) {m : Nat} : m ∈ (inn lk gs i ps j).2 ↔ m = i ∨ ∃ t, t < j ∧ takes lk gs i ps t = true ∧ m ∈ gs.getD t [] := by
  rw [inn_mine (by rw [T.pl]; omega) j hj, List.mem_cons, List.mem_flatMap]
  refine or_congr Iff.rfl ⟨fun ⟨t, h1, h2⟩ => ?_, fun ⟨t, h1, h2, h3⟩ => ⟨t, List.mem_filter.mpr ⟨List.mem_range.mpr h1, h2⟩, h3⟩⟩
  obtain ⟨h3, h4⟩ := List.mem_filter.mp h1
  exact ⟨t, List.mem_range.mp h3, h4, h2⟩
theorem takes_root {t : Nat} (h : takes lk gs i ps t = true) : ps.getD t none = none := by
  unfold takes at h
  rw [Bool.and_eq_true] at h
  exact Option.isNone_iff_eq_none.mp h.1
theorem mine_le (T : TreeOk lk n i ps gs) (hi : i < n) {j : Nat} (hj : j ≤ i) {m : Nat} (h : m ∈ (inn lk gs i ps j).2) : m ≤ i := by
  rcases (mine_mem T hi hj).mp h with e | ⟨t, h1, _, h3⟩
  · omega
  · have := T.le t m (by omega) h3
    omega
theorem mine_nd (T : TreeOk lk n i ps gs) (hi : i < n) {j : Nat} (hj : j ≤ i) : (inn lk gs i ps j).2.Nodup := by
  rw [inn_mine (by rw [T.pl]; omega) j hj]
  refine List.nodup_cons.mpr ⟨fun h => ?_, ?_⟩
  · obtain ⟨t, h1, h2⟩ := List.mem_flatMap.mp h
    have h3 := List.mem_range.mp (List.mem_filter.mp h1).1
    have := T.le t i (by omega) h2
    omega
  · refine List.pairwise_flatMap.mpr ⟨fun t ht => T.nd t ?_, ?_⟩
    · have h3 := List.mem_range.mp (List.mem_filter.mp ht).1
      omega
    · have hp : ((List.range j).filter (takes lk gs i ps)).Nodup := (List.nodup_range).sublist List.filter_sublist
      refine List.Pairwise.imp_of_mem (fun {a b} ha hb hab x hx y hy e => ?_) hp
      subst e
      obtain ⟨a1, a2⟩ := List.mem_filter.mp ha
      obtain ⟨b1, b2⟩ := List.mem_filter.mp hb
      exact T.dis a b (by have := List.mem_range.mp a1; omega) (by have := List.mem_range.mp b1; omega) (takes_root a2) (takes_root b2) hab x hx hy
theorem mine_len (T : TreeOk lk n i ps gs) (hi : i < n) {j : Nat} (hj : j ≤ i) : (inn lk gs i ps j).2.length ≤ i + 1 :=
  nodup_le _ _ (mine_nd T hi hj) fun x hx => Nat.lt_succ_of_le (mine_le T hi hj hx)
theorem group_len (T : TreeOk lk n i ps gs) {k : Nat} (hk : k < i) : (gs.getD k []).length ≤ k + 1 := nodup_le _ _ (T.nd k hk) fun x hx => Nat.lt_succ_of_le (T.le k x hk hx)
theorem getD_snoc {α : Type} {l : List α} {x d : α} {k : Nat} : (l ++ [x]).getD k d = if k = l.length then x else l.getD k d := by
  rw [List.getD_eq_getElem?_getD, List.getD_eq_getElem?_getD]
  by_cases h : k < l.length
  · rw [List.getElem?_append_left h, if_neg (by omega)]
  · rw [List.getElem?_append_right (by omega)]
    by_cases e : k = l.length
    · subst e; simp
    · rw [if_neg e, List.getElem?_eq_none (l := l) (by omega), List.getElem?_eq_none (by simp; omega)]
theorem treeOk_step (T : TreeOk lk n i ps gs) (hi : i < n) : TreeOk lk n (i + 1) (stepOut lk (ps, gs) i).1 (stepOut lk (ps, gs) i).2 := by
  have hn : i ≤ ps.length := by rw [T.pl]; omega
  have e1 := (inn_ps (lk := lk) (gs := gs) hn i (Nat.le_refl _)).1
  have e2 := (inn_ps (lk := lk) (gs := gs) hn i (Nat.le_refl _)).2
  have mem_s : ∀ m, m ∈ isort nlt (inn lk gs i ps i).2 ↔ m ∈ (inn lk gs i ps i).2 := fun m => (isort_perm nlt _).mem_iff
  have gd : ∀ k, (gs ++ [isort nlt (inn lk gs i ps i).2]).getD k [] = if k = i then isort nlt (inn lk gs i ps i).2 else gs.getD k [] := fun k => by rw [getD_snoc, T.gl]
  refine ⟨by show (inn lk gs i ps i).1.length = n; rw [e1, T.pl], by show (gs ++ [_]).length = _; rw [List.length_append, T.gl]; rfl, ?_, ?_, ?_, ?_, ?_, ?_⟩
  · intro k m hk hm
    change m ∈ (gs ++ [isort nlt (inn lk gs i ps i).2]).getD k [] at hm
    rw [gd] at hm
    by_cases e : k = i
    · rw [if_pos e] at hm; have := mine_le T hi (Nat.le_refl _) ((mem_s m).mp hm); omega
    · rw [if_neg e] at hm; exact T.le k m (by omega) hm
  · intro k hk
    show ((gs ++ [isort nlt (inn lk gs i ps i).2]).getD k []).Nodup
    rw [gd]
    by_cases e : k = i
    · rw [if_pos e]; exact (isort_perm nlt _).nodup_iff.mpr (mine_nd T hi (Nat.le_refl _))
    · rw [if_neg e]; exact T.nd k (by omega)
  · intro k hk
    show k ∈ (gs ++ [isort nlt (inn lk gs i ps i).2]).getD k []
    rw [gd]
    by_cases e : k = i
    · rw [if_pos e]; exact (mem_s k).mpr ((mine_mem T hi (Nat.le_refl _)).mpr (.inl e))
    · rw [if_neg e]; exact T.self k (by omega)
  · -- the roots' groups stay apart
    have key : ∀ k, k < i → (inn lk gs i ps i).1.getD k none = none → ps.getD k none = none ∧ takes lk gs i ps k = false := fun k hk h => by
      rw [e2 k] at h
      by_cases q : takes lk gs i ps k = true
      · rw [if_pos ⟨hk, q⟩] at h; cases h
      · rw [if_neg (fun z => q z.2)] at h; exact ⟨h, by simpa using q⟩
    have new : ∀ k, k < i → (inn lk gs i ps i).1.getD k none = none → ∀ m, m ∈ gs.getD k [] → m ∉ (inn lk gs i ps i).2 := fun k hk h m hm hm2 => by
      obtain ⟨r1, r2⟩ := key k hk h
      rcases (mine_mem T hi (Nat.le_refl _)).mp hm2 with e | ⟨t, t1, t2, t3⟩
      · have := T.le k m hk hm; omega
      · by_cases q : k = t
        · subst q; rw [r2] at t2; cases t2
        · exact T.dis k t hk t1 r1 (takes_root t2) q m hm t3
    intro k k' hk hk' hr hr' hne m hm hm'
    change m ∈ (gs ++ [isort nlt (inn lk gs i ps i).2]).getD k [] at hm
    change m ∈ (gs ++ [isort nlt (inn lk gs i ps i).2]).getD k' [] at hm'
    rw [gd] at hm hm'
    by_cases e : k = i
    · rw [if_pos e] at hm
      by_cases e' : k' = i
      · omega
      · rw [if_neg e'] at hm'
        exact new k' (by omega) hr' m hm' ((mem_s m).mp hm)
    · rw [if_neg e] at hm
      by_cases e' : k' = i
      · rw [if_pos e'] at hm'
        exact new k (by omega) hr m hm ((mem_s m).mp hm')
      · rw [if_neg e'] at hm'
        exact T.dis k k' (by omega) (by omega) (key k (by omega) hr).1 (key k' (by omega) hr').1 hne m hm hm'
  · intro k hk
    show (inn lk gs i ps i).1.getD k none = none
    rw [e2 k, if_neg (by omega)]
    exact T.free k (by omega)
  · intro k hk
    show ((gs ++ [isort nlt (inn lk gs i ps i).2]).getD k []).Pairwise _
    rw [gd]
    by_cases e : k = i
    · rw [if_pos e]; exact isort_srtd slo_nlt _
    · rw [if_neg e]; exact T.srt k (by omega)
end
theorem treeOk (lk : Nat → Nat → Bool) (n : Nat) : ∀ i, i ≤ n → TreeOk lk n i (outS lk n i).1 (outS lk n i).2
  | 0, _ => by
    refine ⟨List.length_replicate, rfl, fun k m h => absurd h (by omega), fun k h => absurd h (by omega), fun k h => absurd h (by omega), fun k k' h => absurd h (by omega), fun k _ => ?_, fun k h => absurd h (by omega)⟩
    show (List.replicate n none).getD k none = none
    rw [List.getD_eq_getElem?_getD, List.getElem?_replicate]
    split <;> rfl
  | i + 1, hi => by
    rw [outS_succ]
    exact treeOk_step (treeOk lk n i (by omega)) (by omega)
end Elk
set_option Elab.async false
set_option linter.all false
set_option maxRecDepth 100000
set_option maxHeartbeats 4000000
namespace Elk
open PySem PySem.Spec PyProof.Rows L2
/-- the link of two places -/
def lkR (rs : List Row) (i j : Nat) : Bool := match rs[i]?, rs[j]? with
  | some a, some b => haveKind a b
  | _, _ => false
def treesR (rs : List Row) : List (Option Nat) × List (List Nat) := trees (lkR rs) rs.length
/-- a list of rows that is short, with few kinds -/
structure RowsOk (rs : List Row) : Prop where
  len : rs.length ≤ 100
  fits : ∀ r ∈ rs, r.b.items.length ≤ 1000
theorem lkR_at {rs : List Row} {i j : Nat} {a b : Row} (h : rs[i]? = some a) (k : rs[j]? = some b) : lkR rs i j = haveKind a b := by
  unfold lkR; rw [h, k]
theorem getD_some {α : Type} {l : List α} {d x : α} {i : Nat} (h : l[i]? = some x) : l.getD i d = x := by rw [List.getD_eq_getElem?_getD, h]; rfl
theorem some_getD {α : Type} {l : List α} {d : α} {i : Nat} (h : i < l.length) : l[i]? = some (l.getD i d) := by rw [List.getD_eq_getElem?_getD, List.getElem?_eq_getElem h]; rfl
def sp_trees_of : Sp := Pm (ι := List Row) (fun rs vs F => ∃ v, vs = [v] ∧ vT vRow ⟨rs⟩ v F ∧ RowsOk rs) (fun rs v F => vP (vL (vO vN)) (vL (vL vN)) (treesR rs) v F)
theorem all2_none {H : Hp} : ∀ n : Nat, All2 (vO vN) (List.replicate n (none : Option Nat)) (List.replicate n V.non) H
  | 0 => .nil
  | n + 1 => .cons rfl (all2_none n)
theorem rep_flat (n : Nat) : (List.replicate n [V.non]).flatten = List.replicate n V.non := by
  induction n with
  | zero => rfl
  | succ n ih => rw [List.replicate_succ, List.flatten_cons, ih]; rfl
section
variable {P : Program} {w : World} {K : W.Frag} {mg : Str → Option Value} {base : Heap}
abbrev N_trees_of : List Str := ["rows", "place", "parents", "groups", "mine", "top", "at"]
theorem sc_trees_of : FnScope N_trees_of ["rows"] (defScope s_trees_of) := ⟨rfl, rfl, rfl, by decide +kernel, rfl, by decide +kernel, by decide +kernel⟩
theorem ok_trees_of (T : Tp K mg) : Ok P w K mg base 2 (He.ga K "trees_of") ["rows"] sp_trees_of := by
  obtain ⟨fd_have_kind, G_have_kind, b_have_kind, k_have_kind⟩ := ok_have_kind (P := P) (w := w) (base := base) T
  refine mk_ok (F_trees_of T) sc_trees_of ?_ (fun _ _ _ _ _ _ us hl => match us, hl with | [_], _ => rfl) (fun cdv A outer s H vs Q E hr h => ?_)
  · rintro vs H Q E ⟨i, F, _, ⟨v, rfl, _⟩, _⟩
    rfl
  obtain ⟨rs, F, sm, ⟨v, rfl, hv, ok⟩, k⟩ := h
  refine ⟨_, (pss_cons (ps_par (i := 2) (j := 3) (by rfl) sc_trees_of.nd rfl rfl (by decide) rfl rfl (pa_cons (pe_op op_rep (pe_lst (pa_cons pe_non pa_nil)) (pe_callB (call_lenT vRow) (by rfl) (n_len T) (by decide +kernel) (pa_cons (pv 0) pa_nil))) (pa_cons (pe_lst pa_nil) pa_nil)) (by rfl))
    (pss_cons (ps_for PassesOwn.never rfl (pi_range1 rfl (n_range T) (pa_cons (pe_callB (call_lenT vRow) (by rfl) (n_len T) (by decide +kernel) (pa_cons (pv 0) pa_nil)) pa_nil)) (pg_name (i := 1) sc_trees_of.nd rfl (by first | exact Or.inl rfl | exact Or.inr rfl))
      (pss_cons (ps_set (i := 4) sc_trees_of.nd rfl (by first | exact Or.inl rfl | exact Or.inr rfl) (pe_lst (pa_cons (pv 1) pa_nil)))
      (pss_cons (ps_for PassesOwn.never rfl (pi_range1 rfl (n_range T) (pa_cons (pv 1) pa_nil)) (pg_name (i := 5) sc_trees_of.nd rfl (by first | exact Or.inl rfl | exact Or.inr rfl))
        (pss_one (ps_if (PW.pt (pw_and (pt_cmpR op_isN (pe_ix (ixL (vO vN)) (pv 2) (pv 5) (fun _ _ => rfl)) pe_non (nomark _)) (pw_and1 (pt_cmpR (op_neNil hr.units) (pe_lc (own := [("at", 6)]) (g := gName 6) rfl sc_trees_of.nd (pi_list (pe_ix (ixL (vL vN)) (pv 3) (pv 5) (fun _ _ => rfl))) (blkOk_by (N := N_trees_of) (sc := defScope s_trees_of) (by decide +kernel)) (fun _ _ _ _ _ => (pg_name (i := 6) sc_trees_of.nd rfl (Or.inl rfl))) (fun _ _ _ _ _ => (pts_one (pt_val (pe_call G_have_kind (hr.mono (by decide)) rfl (g_have_kind T) k_have_kind b_have_kind .nil pass0 (pa_cons (pe_ix (ixT vRow) (pv 0) (pv 6) (fun _ _ => rfl)) (pa_cons (pe_ix (ixT vRow) (pv 0) (pv 1) (fun _ _ => rfl)) pa_nil)))))) (fun _ _ _ _ _ => (pv 6))) (pe_lst pa_nil) (nomark _)))))
          (pss_cons (ps_asg (pv 1) (pg_sub (pv 2) (pv 5) set_list))
          (pss_one (ps_set (i := 4) sc_trees_of.nd rfl (by first | exact Or.inl rfl | exact Or.inr rfl) (pe_op op_cat (pv 4) (pe_ix (ixL (vL vN)) (pv 3) (pv 5) (fun _ _ => rfl))))))
          pss_nil)))
      (pss_one (ps_expr (pe_bm PySem.F.plainAttrs_list PySem.F.slot_list_append PySem.F.type_list_append mt_append (pv 3) (pa_cons (pe_callB (cr_sortedP vI hr.units slo_int sortK_int) (by rfl) (n_sorted T) (by decide +kernel) (pa_cons (pv 4) pa_nil)) pa_nil)))))))
    (pss_one (ps_ret (pe_tup (pa_cons (pv 2) (pa_cons (pv 3) pa_nil))))))), ?_⟩
  obtain ⟨ra, rvs, rfl, hra, hrl⟩ := id hv
  have hn : rs.length ≤ 100 := ok.len
  -- parents, groups = [None] * len(rows), []
  refine ⟨by show 1 ≤ sizeLine; decide, fun l0 hl0 => ?_⟩
  have g0 := Grow.put (o := .lst [.non]) sm hl0
  refine ⟨_, rfl, _, _, rs, rfl, g0.i, Mo.mo g0.f hv, ?_⟩
  refine ⟨l0, _, _, rfl, rfl, upd_same, by omega, by omega, ?_, fun pa hpa => ?_⟩
  · rw [Int.toNat_natCast]; show 1 * rs.length ≤ sizeLine; have := small_of (n := rs.length) (by omega); omega
  rw [Int.toNat_natCast, rep_flat]
  have g1 := g0.trans (Grow.new (o := .lst (List.replicate rs.length V.non)) g0.i hpa)
  have pa0 : H pa = none := g0.h.free hpa
  refine ⟨Nat.zero_le _, fun ga hga => ?_⟩
  have g2 := g1.trans (Grow.new (o := .lst []) g1.i hga)
  have ga0 : H ga = none := g1.h.free hga
  have hne : pa ≠ ga := ne_of_none (upd_same (H := upd H l0 _) (a := pa)) hga
  refine ⟨_, _, rfl, ?_⟩
  -- for place in range(len(rows))
  refine ⟨_, rfl, _, _, rs, rfl, g2.i, Mo.mo g2.f hv, _, rfl, (small62 (by omega)).1, (small62 (by omega)).2, ?_⟩
  refine forN (n := rs.length) (fun i σ H' => ∃ F' x1 x4 x5 psv gsv, σ = [some (.ref ra), x1, some (.ref pa), some (.ref ga), x4, x5, none] ∧ Grow F H F' H' ∧ F' pa = none ∧ F' ga = none ∧
      H' pa = some (.lst psv) ∧ H' ga = some (.lst gsv) ∧ All2 (vO vN) (outS (lkR rs) rs.length i).1 psv F' ∧ All2 (vL vN) (outS (lkR rs) rs.length i).2 gsv F') ?_ ?_ ?_
  · exact ⟨_, none, none, none, _, _, rfl, g2, g0.out' hpa, g1.out' hga, by rw [upd_ne hne]; exact upd_same, upd_same, all2_none _, .nil⟩
  · rintro i σ H' hi ⟨F', x1, x4, x5, psv, gsv, rfl, g, fp, fg, hp, hg, lp, lg⟩
    have TO := treeOk (lkR rs) rs.length i (by omega)
    have nxt : outS (lkR rs) rs.length (i + 1) = stepOut (lkR rs) (outS (lkR rs) rs.length i) i := outS_succ i
    rw [nxt]
    generalize hS : outS (lkR rs) rs.length i = S at TO lp lg ⊢
    -- mine = [place]
    refine ⟨_, rfl, by show 1 ≤ sizeLine; decide, fun m0 hm0 => ?_⟩
    have g3 := g.trans (Grow.put (o := .lst [.int (i : Int)]) g.i hm0)
    have hi' : i ≤ S.1.length := by rw [TO.pl]; omega
    -- for top in range(place)
    refine ⟨_, rfl, _, rfl, (small62 (by omega)).1, (small62 (by omega)).2, ?_⟩
    refine forN (n := i) (fun j σ H2 => ∃ F2 x5 psv mv, σ = [some (.ref ra), some (.int (i : Int)), some (.ref pa), some (.ref ga), some mv, x5, none] ∧ Grow F H F2 H2 ∧ F2 pa = none ∧ F2 ga = none ∧
      H2 pa = some (.lst psv) ∧ H2 ga = some (.lst gsv) ∧ All2 (vO vN) (inn (lkR rs) S.2 i S.1 j).1 psv F2 ∧ vL vN (inn (lkR rs) S.2 i S.1 j).2 mv F2 ∧ All2 (vL vN) S.2 gsv F2) ?_ ?_ ?_
    · have sm0 : Same F' (upd F' m0 (.lst [.int (i : Int)])) := same_upd (g.i.free hm0)
      exact ⟨_, x5, psv, _, rfl, g3, by rw [upd_ne (ne_of_none hp hm0)]; exact fp, by rw [upd_ne (ne_of_none hg hm0)]; exact fg, by rw [upd_ne (ne_of_none hp hm0)]; exact hp, by rw [upd_ne (ne_of_none hg hm0)]; exact hg,
        lp.mo sm0, ⟨m0, _, rfl, upd_same, .cons rfl .nil⟩, lg.mo sm0⟩
    · rintro j σ H2 hj ⟨F2, x5, psv, mv, rfl, g, fp, fg, hp, hg, lp, lm, lg⟩
      have e1 := (inn_ps (lk := lkR rs) (gs := S.2) hi' j (by omega)).1
      obtain ⟨gj, hgj, vgj⟩ := lg.at' (some_getD (d := []) (by rw [TO.gl]; omega : j < _))
      have hgl := group_len TO hj
      have hml := mine_len TO (by omega) (by omega : j ≤ i)
      have step := inn_succ (lk := lkR rs) (gs := S.2) (i := i) (ps := S.1) j
      -- parents[top] is None
      refine ⟨_, rfl, _, rfl, F2, _, j, _, ⟨pa, psv, rfl, hp, lp⟩, rfl, some_getD (d := none) (by rw [e1, TO.pl]; omega), fun v1 hv1 => ?_⟩
      refine ⟨rfl, _, rfl, ?_⟩
      rw [vO_non vN_ne hv1]
      have stay : takes (lkR rs) S.2 i (inn (lkR rs) S.2 i S.1 j).1 j = false → inn (lkR rs) S.2 i S.1 (j + 1) = inn (lkR rs) S.2 i S.1 j := fun ht => by
        rw [step, stepIn, if_neg (by rw [ht]; exact Bool.false_ne_true)]
      have move : takes (lkR rs) S.2 i (inn (lkR rs) S.2 i S.1 j).1 j = true → inn (lkR rs) S.2 i S.1 (j + 1) = ((inn (lkR rs) S.2 i S.1 j).1.set j (some i), (inn (lkR rs) S.2 i S.1 j).2 ++ S.2.getD j []) := fun ht => by
        rw [step, stepIn, if_pos ht]
      refine iteB (fun h0 => ?_) (fun h0 => iteF ?_)
      · -- [at for at in groups[top] if have_kind(rows[at], rows[place])] != []
        refine ⟨_, rfl, _, rfl, F2, _, j, _, ⟨ga, gsv, rfl, hg, lg⟩, rfl, some_getD (d := []) (by rw [TO.gl]; omega), fun v2 hv2 => ?_⟩
        obtain ⟨a2, vs2, rfl, ha2, l2⟩ := hv2
        refine ⟨a2, rfl, ⟨_, SqL.of (g.i _ _ ha2)⟩, fun D hD => ?_⟩
        refine lcL (p := vN) (q := vN) (f := id) (t := fun m => lkR rs m i) g.i hD (g.i _ _ ha2) l2 (by omega) ?_ ?_
        · intro m y F3 H3 hm g3 hx N Y hN hY
          have hmi : m < i := by have := TO.le j m hj hm; omega
          have r1 : rs[m]? = some (rs[m]'(by omega)) := List.getElem?_eq_getElem _
          have r2 : rs[i]? = some (rs[i]'(by omega)) := List.getElem?_eq_getElem _
          have sv : Same F F3 := g.f.trans g3.f
          refine ⟨rfl, _, rfl, _, hx ▸ rfl, F3, rs, m, _, g3.i, Mo.mo sv hv, rfl, r1, fun z1 hz1 => ?_⟩
          refine ⟨_, rfl, _, rfl, F3, rs, i, _, g3.i, Mo.mo sv hv, rfl, r2, fun z2 hz2 => ?_⟩
          refine ⟨(_, _), F3, g3.i, ⟨z1, z2, rfl, hz1, hz2, ok.fits _ (List.getElem_mem _)⟩, fun z F4 H4 g4 hz => ?_⟩
          have ez : z = .bl (haveKind rs[m] rs[i]) := hz
          refine ⟨_, ez, ?_⟩
          rw [← lkR_at r1 r2]
          exact iteB (fun ht => ⟨_, rfl, hY _ F4 H4 g4 ht (Mo.mo g4.f hx)⟩) fun ht => hN F4 H4 g4 ht
        · intro F3 H3 g3 hl
          refine ⟨Nat.zero_le _, fun e he => ?_⟩
          obtain ⟨dd, ds, ed, hds, lds⟩ := hl
          have g4 := g3.trans (Grow.put (o := .lst []) g3.i he)
          refine ⟨_, _, ds, ed, rfl, by rw [upd_ne (ne_of_none (g3.i _ _ hds) he)]; exact g3.i _ _ hds, upd_same, _, rfl, ?_⟩
          have hb : (!ds.isEmpty) = (S.2.getD j []).any fun m => lkR rs m i := any_all2 lds
          rw [hb]
          have ht : takes (lkR rs) S.2 i (inn (lkR rs) S.2 i S.1 j).1 j = (S.2.getD j []).any fun m => lkR rs m i := by unfold takes; rw [h0, Bool.true_and]
          refine iteB (fun h1 => ?_) (fun h1 => ?_)
          · rw [move (ht.trans h1)]
            have gg := g.trans g4
            have hp4 := g4.h _ _ hp
            have fp4 := g4.out hp fp
            have hl4 := lp.len
            -- parents[top] = place
            refine ⟨_, rfl, _, rfl, _, rfl, pa, psv, _, j, rfl, rfl, hp4, ixN_of (by rw [← hl4, e1, TO.pl]; omega), ?_⟩
            have g5 := gg.set (o := .lst (psv.set j (.int (i : Int)))) pa0 fp4
            -- mine = mine + groups[top]
            obtain ⟨ma, ms, rfl, hma, lms⟩ := Mo.mo g4.f lm
            have lg4 := lg.mo g4.f
            refine ⟨_, rfl, _, rfl, _, rfl, _, S.2, j, _, ⟨ga, gsv, rfl, by rw [upd_ne (Ne.symm hne)]; exact g4.h _ _ hg, lg4⟩, rfl, some_getD (d := []) (by rw [TO.gl]; omega), fun v5 hv5 => ?_⟩
            obtain ⟨b5, bs5, rfl, hb5, l5⟩ := hv5
            refine ⟨ma, b5, ms, bs5, rfl, rfl, g5.i _ _ hma, g5.i _ _ hb5, ?_, fun q hq => ?_⟩
            · have := lms.len; have := l5.len; have := small_of (n := 300) (by omega); omega
            · have g6 := g5.trans (Grow.put (o := .lst (ms ++ bs5)) g5.i hq)
              have sq : Same _ (upd _ q (.lst (ms ++ bs5))) := same_upd (g5.i.free hq)
              have np : pa ≠ q := ne_of_none (upd_same) hq
              have ng : ga ≠ q := ne_of_none (by rw [upd_ne (Ne.symm hne)]; exact g4.h _ _ hg) hq
              refine ⟨_, _, _, _, rfl, g6, by rw [upd_ne np]; exact fp4, by rw [upd_ne ng]; exact g4.out hg fg, by rw [upd_ne np]; exact upd_same, by rw [upd_ne ng, upd_ne (Ne.symm hne)]; exact g4.h _ _ hg, ?_, ⟨q, _, rfl, upd_same, (lms.app l5).mo sq⟩, lg4.mo sq⟩
              exact ((lp.mo g4.f).set (x := some i) (v := .int (i : Int)) rfl j).mo sq
          · rw [stay (ht.trans h1)]
            exact ⟨_, _, psv, mv, rfl, g.trans g4, g4.out hp fp, g4.out hg fg, g4.h _ _ hp, g4.h _ _ hg, lp.mo g4.f, Mo.mo g4.f lm, lg.mo g4.f⟩
      · rw [stay (by unfold takes; rw [h0]; rfl)]
        exact ⟨F2, _, psv, mv, rfl, g, fp, fg, hp, hg, lp, lm, lg⟩
    · rintro σ H2 ⟨F2, x5, psv, mv, rfl, g, fp, fg, hp, hg, lp, lm, lg⟩
      -- groups.append(sorted(mine))
      obtain ⟨ma, ms, rfl, hma, lms⟩ := lm
      refine ⟨_, rfl, .inl ⟨rfl, _, SqL.of hg⟩, _, rfl, ma, _, ms, rfl, g.i _ _ hma, all2N_I (lms.mo g.i), fun q ys hq hys => ?_⟩
      have hgl := lg.len
      have ng : ga ≠ q := ne_of_none hg hq
      have np : pa ≠ q := ne_of_none hp hq
      have g5 := g.trans (Grow.put (o := .lst ys) g.i hq)
      have sq : Same _ (upd F2 q (.lst ys)) := same_upd (g.i.free hq)
      refine ⟨ga, gsv, _, rfl, rfl, by rw [upd_ne ng]; exact hg, small_of (by rw [← hgl, TO.gl]; omega), ?_⟩
      have g6 := g5.set (o := .lst (gsv ++ [.ref q])) ga0 (by rw [upd_ne ng]; exact fg)
      have lys : All2 vN (isort nlt (inn (lkR rs) S.2 i S.1 i).2) ys (upd F2 q (.lst ys)) := by
        rw [isort_map (lt := nlt) fun x _ y _ => ?_] at hys
        · rw [all2I.mp hys]; exact all2N.mpr (by simp)
        · show decide ((x : Int) < (y : Int)) = decide (x < y)
          simp
      exact ⟨_, _, _, _, _, _, rfl, g6, by rw [upd_ne np]; exact fp, by rw [upd_ne ng]; exact fg, by rw [upd_ne hne, upd_ne np]; exact hp, upd_same, lp.mo sq, (lg.mo sq).snoc ⟨q, ys, rfl, upd_same, lys⟩⟩
  · rintro σ H' ⟨F', x1, x4, x5, psv, gsv, rfl, g, fp, fg, hp, hg, lp, lg⟩
    -- return (parents, groups)
    have g3 := g.keep pa0 hp
    have g4 := g3.keep ga0 hg
    refine ⟨_, rfl, _, rfl, by show 2 ≤ sizeLine; decide, fun t ht => ?_⟩
    have g5 := g4.trans (Grow.put (o := .tup [.ref pa, .ref ga]) g4.i ht)
    have s1 : Same F' (upd (upd F' pa (.lst psv)) ga (.lst gsv)) := (same_keep fp).trans (same_keep (by rw [upd_ne (Ne.symm hne)]; exact fg))
    have hm : Same (upd (upd F' pa (.lst psv)) ga (.lst gsv)) (upd (upd (upd F' pa (.lst psv)) ga (.lst gsv)) t (.tup [.ref pa, .ref ga])) := same_upd (g4.i.free ht)
    refine k _ _ _ g5 ⟨t, _, _, rfl, upd_same, ⟨pa, psv, rfl, hm _ _ (by rw [upd_ne hne]; exact upd_same), lp.mo (s1.trans hm)⟩, ⟨ga, gsv, rfl, hm _ _ upd_same, lg.mo (s1.trans hm)⟩⟩
end
end Elk
set_option Elab.async false
set_option linter.all false
set_option maxRecDepth 100000
set_option maxHeartbeats 4000000
namespace Elk
open PySem PySem.Spec PyProof.Rows L2
/-! ### rules whose answer is told by what it stands for -/
/-- what is to be shown of an answer that stands for what post says -/
abbrev Kt (F H : Hp) (Q : VK) (post : V → Hp → Prop) : Prop := ∀ v F' H', Grow F H F' H' → post v F' → Q v H'
theorem Grow.of_same {F H H' : Hp} (s : Same F H) (t : Same H H') : Grow F H F H' := ⟨t, Same.refl F, s.trans t, fun _ _ e => .inl e⟩
theorem PE.imp {X : Cx} {e : Expr} {t t' : TE} (h : PE X e t) (i : ∀ σ H Q, t' σ H Q → t σ H Q) : PE X e t' := ⟨fun pins s σ H Q I z => h.run pins s σ H Q I (i _ _ _ z)⟩
theorem PT.imp {X : Cx} {e : Expr} {t t' : TT} (h : PT X e t) (i : ∀ σ H Q, t' σ H Q → t σ H Q) : PT X e t' := ⟨fun pins s σ H Q I z => h.run pins s σ H Q I (i _ _ _ z)⟩
theorem SlR.imp {X : Cx} {r r' : V → Option Int → Option Int → Hp → VK → Prop} (h : SlR X r) (i : ∀ x lo hi H Q, r' x lo hi H Q → r x lo hi H Q) : SlR X r' := fun pins s σ H x v vl vu lo hi sl Q I rx hs pl pu z => h pins s σ H x v vl vu lo hi sl Q I rx hs pl pu (i _ _ _ _ _ z)
/-- a line -/
def vLine (K : W.Frag) : VP (List Row) := fun rs v H => ∃ a dx t1 t2, v = .ref a ∧ H a = some (.ins (cL K) dx [("all", .ref t1), ("every", .ref t2)]) ∧ vT (vA K) ⟨rs⟩ (.ref t1) H ∧ vT vRow ⟨rs⟩ (.ref t2) H
instance {K : W.Frag} : Mo (vLine K) := ⟨fun s ⟨a, dx, t1, t2, e, h, r1, r2⟩ => ⟨a, dx, t1, t2, e, s _ _ h, Mo.mo s r1, Mo.mo s r2⟩⟩
section
variable {X : Cx} {α β γ : Type} {p : VP α} {q : VP β} {r : VP γ}
/-! an empty list beside -/
def tNe0 (p : VP α) (te : TE) : TE := fun σ H Q => te σ H fun x H1 => ∃ F, ∃ xs : List α, Same F H1 ∧ vM p xs x F H1 ∧ Kt F H1 Q fun v _ => v = .bl (!xs.isEmpty)
def tEq0 (p : VP α) (te : TE) : TE := fun σ H Q => te σ H fun x H1 => ∃ F, ∃ xs : List α, Same F H1 ∧ vM p xs x F H1 ∧ Kt F H1 Q fun v _ => v = .bl xs.isEmpty
theorem emp2 {xs : List α} {vs : List V} {H : Hp} (l : All2 p xs vs H) : vs.isEmpty = xs.isEmpty := by cases l <;> rfl
theorem ne0_imp {te : TE} {X : Cx} : ∀ σ H Q, tNe0 p te σ H Q → (te σ H fun x H1 => tLst tNil σ H1 fun y H2 => rNeNil x y H2 Q) → True := fun _ _ _ _ _ => trivial
theorem pe_ne0 {e : Expr} {te : TE} {k : Pos} {pos : Pos} (p : VP α) (hu : X.A.units + 64 < cLine) (h : PE X e te) : PE X (.Compare e [.NotEq] [.List [] k] pos) (tNe0 p te) := by
  refine ⟨fun pins s σ H Q I z => ?_⟩
  refine wpAny_Compare1 (thn (h.run pins s σ H _ I z) fun v s1 ⟨x, H1, I1, rx, F, xs, sm, ⟨a, vs, ex, ha, l⟩, q⟩ => ?_) (nomark _)
  have hl : PE X (.List [] k) (tLst tNil) := pe_lst pa_nil
  refine thn (hl.run pins s1 σ H1 (fun y H2 => rNeNil x y H2 Q) I1 ⟨Nat.zero_le _, fun e he => ?_⟩) fun u s2 ⟨y, H2, I2, ry, z2⟩ => op_neNil hu pins s2 σ H2 x y v u Q I2 rx ry z2
  refine ⟨a, e, vs, ex, rfl, by rw [upd_ne (ne_of_none ha he)]; exact ha, upd_same, ?_⟩
  exact q _ _ _ (Grow.put sm he) (by rw [emp2 l])
theorem pe_eq0 {e : Expr} {te : TE} {k : Pos} {pos : Pos} (p : VP α) (hu : X.A.units + 64 < cLine) (h : PE X e te) : PE X (.Compare e [.Eq] [.List [] k] pos) (tEq0 p te) := by
  refine ⟨fun pins s σ H Q I z => ?_⟩
  refine wpAny_Compare1 (thn (h.run pins s σ H _ I z) fun v s1 ⟨x, H1, I1, rx, F, xs, sm, ⟨a, vs, ex, ha, l⟩, q⟩ => ?_) (nomark _)
  have hl : PE X (.List [] k) (tLst tNil) := pe_lst pa_nil
  refine thn (hl.run pins s1 σ H1 (fun y H2 => rEqNil x y H2 Q) I1 ⟨Nat.zero_le _, fun e he => ?_⟩) fun u s2 ⟨y, H2, I2, ry, z2⟩ => op_eqNil hu pins s2 σ H2 x y v u Q I2 rx ry z2
  refine ⟨a, e, vs, ex, rfl, by rw [upd_ne (ne_of_none ha he)]; exact ha, upd_same, ?_⟩
  exact q _ _ _ (Grow.put sm he) (by rw [emp2 l])
/-- the same as a test -/
def ttNe0 (p : VP α) (te : TE) : TT := fun σ H Q => te σ H fun x H1 => ∃ F, ∃ xs : List α, Same F H1 ∧ vM p xs x F H1 ∧ ∀ F' H', Grow F H1 F' H' → Q (!xs.isEmpty) H'
def ttEq0 (p : VP α) (te : TE) : TT := fun σ H Q => te σ H fun x H1 => ∃ F, ∃ xs : List α, Same F H1 ∧ vM p xs x F H1 ∧ ∀ F' H', Grow F H1 F' H' → Q xs.isEmpty H'
theorem pt_ne0 {e : Expr} {te : TE} {k : Pos} {pos : Pos} (p : VP α) (hu : X.A.units + 64 < cLine) (h : PE X e te) : PT X (.Compare e [.NotEq] [.List [] k] pos) (ttNe0 p te) := by
  refine ⟨fun pins s σ H Q I z => ?_⟩
  have z' : te σ H fun x H1 => ∃ F, ∃ xs : List α, Same F H1 ∧ vM p xs x F H1 ∧ ∀ F' H', Grow F H1 F' H' → Q (!xs.isEmpty) H' := z
  refine wpAny_isTrue_Compare1 (thn (h.run pins s σ H _ I z') fun v s1 ⟨x, H1, I1, rx, F, xs, sm, ⟨a, vs, ex, ha, l⟩, q⟩ => ?_) (nomark _)
  have hl : PE X (.List [] k) (tLst tNil) := pe_lst pa_nil
  refine thn (hl.run pins s1 σ H1 (fun y H2 => rNeNil x y H2 fun z H3 => ∃ k, z = .bl k ∧ Q k H3) I1 ⟨Nat.zero_le _, fun e he => ?_⟩) fun u s2 ⟨y, H2, I2, ry, z2⟩ =>
    thn (op_neNil hu pins s2 σ H2 x y v u _ I2 rx ry z2) fun c s3 ⟨z, H3, I3, r3, k, e, q3⟩ => ?_
  · refine ⟨a, e, vs, ex, rfl, by rw [upd_ne (ne_of_none ha he)]; exact ha, upd_same, _, rfl, ?_⟩
    rw [emp2 l]
    exact q _ _ (Grow.put sm he)
  · subst e
    cases r3
    exact wpAny_truthy_bool ⟨H3, I3, q3⟩
theorem pt_eq0 {e : Expr} {te : TE} {k : Pos} {pos : Pos} (p : VP α) (hu : X.A.units + 64 < cLine) (h : PE X e te) : PT X (.Compare e [.Eq] [.List [] k] pos) (ttEq0 p te) := by
  refine ⟨fun pins s σ H Q I z => ?_⟩
  have z' : te σ H fun x H1 => ∃ F, ∃ xs : List α, Same F H1 ∧ vM p xs x F H1 ∧ ∀ F' H', Grow F H1 F' H' → Q xs.isEmpty H' := z
  refine wpAny_isTrue_Compare1 (thn (h.run pins s σ H _ I z') fun v s1 ⟨x, H1, I1, rx, F, xs, sm, ⟨a, vs, ex, ha, l⟩, q⟩ => ?_) (nomark _)
  have hl : PE X (.List [] k) (tLst tNil) := pe_lst pa_nil
  refine thn (hl.run pins s1 σ H1 (fun y H2 => rEqNil x y H2 fun z H3 => ∃ k, z = .bl k ∧ Q k H3) I1 ⟨Nat.zero_le _, fun e he => ?_⟩) fun u s2 ⟨y, H2, I2, ry, z2⟩ =>
    thn (op_eqNil hu pins s2 σ H2 x y v u _ I2 rx ry z2) fun c s3 ⟨z, H3, I3, r3, k, e, q3⟩ => ?_
  · refine ⟨a, e, vs, ex, rfl, by rw [upd_ne (ne_of_none ha he)]; exact ha, upd_same, _, rfl, ?_⟩
    rw [emp2 l]
    exact q _ _ (Grow.put sm he)
  · subst e
    cases r3
    exact wpAny_truthy_bool ⟨H3, I3, q3⟩
/-! isinstance -/
def rIsA (K : W.Frag) : List V → Hp → VK → Prop := fun vs H Q => ∃ F r v, vs = [v, .ref (cA K)] ∧ Same F H ∧ vA K r v F ∧ Q (.bl true) H
def rIsLn (K : W.Frag) : List V → Hp → VK → Prop := fun vs H Q => ∃ F rs v, vs = [v, .ref (cL K)] ∧ Same F H ∧ vLine K rs v F ∧ Q (.bl true) H
def rIsLst : List V → Hp → VK → Prop := fun vs H Q => ∃ a xs, vs = [.ref a, .ty "list"] ∧ H a = some (.lst xs) ∧ Q (.bl true) H
def rIsStr : List V → Hp → VK → Prop := fun vs H Q => ∃ z, vs = [.str z, .ty "str"] ∧ Q (.bl true) H
theorem isiA {K : W.Frag} {mg : Str → Option Value} (T : Tp K mg) (hK : X.K = K := by rfl) : CallR X (.builtin "isinstance") (rIsA K) := by
  subst hK
  exact CallR.imp call_isi fun vs H Q ⟨F, r, v, e, s, h, k⟩ => ⟨v, _, _, _, true, e, .own _, tyA T (Mo.mo s h), kit_self _, k⟩
theorem isiLn {K : W.Frag} {mg : Str → Option Value} (T : Tp K mg) (hK : X.K = K := by rfl) : CallR X (.builtin "isinstance") (rIsLn K) := by
  subst hK
  refine CallR.imp call_isi fun vs H Q ⟨F, r, v, e, s, ⟨a, dx, t1, t2, ev, h, _, _⟩, k⟩ => ?_
  subst ev
  exact ⟨_, _, _, _, true, e, .own _, .base (.ins (s _ _ h) (cls_Line T) T.clsL T.cget T.ctak T.mro), kit_self _, k⟩
theorem isiLst : CallR X (.builtin "isinstance") rIsLst := CallR.imp call_isi fun vs H Q ⟨a, xs, e, h, k⟩ => ⟨_, _, _, _, true, e, .ty "list", .base (.lst h), kit_self _, k⟩
theorem isiStr : CallR X (.builtin "isinstance") rIsStr := CallR.imp call_isi fun vs H Q ⟨z, e, k⟩ => ⟨_, _, _, _, true, e, .ty "str", .base (.str z), kit_self _, k⟩
/-! tuple, list, sorted -/
def rTupF (p : VP α) : List V → Hp → VK → Prop := fun vs H Q => ∃ F v, ∃ xs : List α, vs = [v] ∧ Same F H ∧ vM p xs v F H ∧ Kt F H Q (vT p ⟨xs⟩)
def rLstF (p : VP α) : List V → Hp → VK → Prop := fun vs H Q => ∃ F v, ∃ xs : List α, vs = [v] ∧ Same F H ∧ vM p xs v F H ∧ Kt F H Q (vL p xs)
def rLstT (p : VP α) : List V → Hp → VK → Prop := fun vs H Q => ∃ F v, ∃ xs : List α, vs = [v] ∧ Same F H ∧ vT p ⟨xs⟩ v F ∧ Kt F H Q (vL p xs)
theorem cr_tupF (p : VP α) [Mo p] : CallR X (.type "tuple") (rTupF p) := CallR.imp call_tuple_of fun vs H Q ⟨F, v, xs, e, s, ⟨a, us, ev, h, l⟩, k⟩ => by
  subst ev
  exact ⟨a, us, e, .inl ⟨SqL.of h, fun b hb => k _ _ _ (Grow.put s hb) ⟨b, us, rfl, upd_same, l.mo (same_upd (s.free hb))⟩⟩⟩
theorem cr_lstF (p : VP α) [Mo p] : CallR X (.type "list") (rLstF p) := CallR.imp call_list_of fun vs H Q ⟨F, v, xs, e, s, ⟨a, us, ev, h, l⟩, k⟩ => by
  subst ev
  exact ⟨a, us, e, .inl (SqL.of h), fun b hb => k _ _ _ (Grow.put s hb) ⟨b, us, rfl, upd_same, l.mo (same_upd (s.free hb))⟩⟩
theorem cr_lstT (p : VP α) [Mo p] : CallR X (.type "list") (rLstT p) := CallR.imp call_list_of fun vs H Q ⟨F, v, xs, e, s, ⟨a, us, ev, h, l⟩, k⟩ => by
  subst ev
  exact ⟨a, us, e, .inr (SqT.of (s _ _ h)), fun b hb => k _ _ _ (Grow.put s hb) ⟨b, us, rfl, upd_same, l.mo (same_upd (s.free hb))⟩⟩
end
section
variable {X : Cx} {α : Type} {p : VP α}
def rSortF [DecidableEq α] [W.DatumOrd α] (p : VP α) : List V → Hp → VK → Prop := fun vs H Q => ∃ F v, ∃ xs : List α, vs = [v] ∧ Same F H ∧ vM p xs v F H ∧
  ∀ q ys, H q = none → All2 p (isort W.DatumOrd.lt xs) ys F → Q (.ref q) (upd H q (.lst ys))
theorem each_back2 {R : V → Value → Prop} {A : α → V → Prop} {bs : List (V × α)} {us : List Value} (e : W.EachIs (fun (u : Value) (b : V × α) => RelV b.1 u ∧ A b.2 b.1) us bs) :
    Vals (bs.map (·.1)) us ∧ Paired A (bs.map (·.2)) (bs.map (·.1)) := by
  induction e with
  | nil => exact ⟨.nil, .nil⟩
  | cons h _ ih => exact ⟨.cons h.1 ih.1, .cons h.2 ih.2⟩
theorem cr_sortF [DecidableEq α] [W.DatumOrd α] (p : VP α) [Br p] [Mo p] (hu : X.A.units + 64 < cLine) (O : Slo (W.DatumOrd.lt : α → α → Bool)) (hk : SortK α) (hd : W.Datum.depth α ≤ 60 := by decide) : CallR X (.builtin "sorted") (rSortF p) := by
  intro pins s σ H vs us Q I rv ⟨F, v, xs, e, sm, ⟨a, ys, ev, ha, l⟩, k⟩
  subst e ev
  rw [Vals.ref1 rv]
  obtain ⟨zs, rz, il, hz⟩ := br_lst I.hok ha
  have hlen := l.len
  have hzl : (ys.zip xs).map Prod.snd = xs := by rw [List.map_snd_zip]; omega
  have e1 : W.EachIs (fun (u : Value) (b : V × α) => RelV b.1 u ∧ p b.2 b.1 F) zs (ys.zip xs) := each_two (P := X.prog) (w := X.w) (H := F) l rz
  refine W.sorted_data (enc := fun b : V × α => W.Datum.toD b.2) il e1 (e1.mono fun u b ⟨h1, h2⟩ => Br.br I.hok (Mo.mo sm h2) h1) (W.AllAlike.of fun b b' => W.DatumOrd.alike _ _) ?_ (by rw [List.length_zip]; omega) (fun b _ => ?_) fun out hl eo => ?_
  · rcases hk with h | h
    · exact W.Sortable.tuples fun b => h b.2
    · exact W.Sortable.others fun b => h b.2
  · have := W.Datum.depth_le b.2
    omega
  · obtain ⟨r1, r2⟩ := each_back (p := p) (H := F) eo
    have es : ((ys.zip xs).mergeSort (W.dataLe false fun b : V × α => W.Datum.toD b.2)).map (·.2) = isort W.DatumOrd.lt xs := by
      refine isort_of O ?_ ?_
      · have q := (List.mergeSort_perm (ys.zip xs) (W.dataLe false fun b : V × α => W.Datum.toD b.2)).map Prod.snd
        rw [hzl] at q
        exact q
      · have q := W.sort_pairwise (le := W.dataLe false fun b : V × α => W.Datum.toD b.2) (W.sortLe_total (PyProof.Rows.listOrd PyProof.Rows.itemOrd) false _) (ys.zip xs)
        refine List.pairwise_map.mpr (List.Pairwise.imp (fun {b c} h => ?_) q)
        have h' : W.dataLe false (fun b : V × α => W.Datum.toD b.2) b c = true := h
        rw [W.dataLe_eq] at h'
        have h2 : (!W.dataLt (W.Datum.toD c.2) (W.Datum.toD b.2)) = true := h'
        rw [W.DatumOrd.lt_eq] at h2
        simpa using h2
    rw [es] at r2
    obtain ⟨ep, he'⟩ := PyProof.Rows.sortedAll_at s.heap zs out.toArray
    refine ⟨.ref _, upd H (s.heap.objs.size + 1) (.lst _), I.laid (t' := s.toks) (fun _ _ => PyProof.Rows.sortedAll_old) (Nat.le_succ _) ⟨?_, out, ep, r1, he'⟩, rfl, k _ _ (I.hok.fresh (Nat.le_succ _)) r2⟩
    rw [r1.length, hl, List.length_zip]
    omega
/-- min(xs), said of F -/
def rMinF [DecidableEq α] [W.DatumOrd α] (p : VP α) : List V → Hp → VK → Prop := fun vs H Q => ∃ F v, ∃ (x : α) (xs : List α), vs = [v] ∧ Same F H ∧ vM p (x :: xs) v F H ∧ ∀ v, p (W.minOf x xs) v F → Q v H
theorem cr_minF [DecidableEq α] [W.DatumOrd α] (p : VP α) [Br p] [Mo p] (hc : X.calm = true) (hu : X.A.units + 64 < cLine) (hd : W.Datum.depth α ≤ 60 := by decide) : CallR X (.builtin "min") (rMinF p) := by
  intro pins s σ H vs us Q I rv ⟨F, v0, x, xs, e, sm, ⟨a, ys, ev, ha, l⟩, k⟩
  subst e ev
  rw [Vals.ref1 rv]
  obtain ⟨zs, rz, il, _⟩ := br_lst I.hok ha
  refine W.min_list_datum (x := x) (xs := xs) (I.ok.hd hc) il (br_all I.hok (l.mo sm) (by simpa using rz)) (by omega) fun i v h' tk hi hm kp => ?_
  have hi' : zs[i]? = some v := by simpa using hi
  have hl := rz.length
  have hlt : i < ys.length := by rw [hl]; exact (List.getElem?_eq_some_iff.mp hi').1
  obtain ⟨v', e1, r1⟩ := rz.get (List.getElem?_eq_getElem hlt)
  rw [hi'] at e1; cases e1
  obtain ⟨y, ey, py⟩ := l.at (List.getElem?_eq_getElem hlt)
  have em : y = W.minOf x xs := holds_one ((Br.br I.hok (Mo.mo sm py) r1).keeps kp) hm
  subst em
  exact ⟨_, H, I.kept (t' := tk) kp, r1, k _ py⟩
/-- sorted of natural numbers -/
def rSortN : List V → Hp → VK → Prop := fun vs H Q => ∃ F v, ∃ xs : List Nat, vs = [v] ∧ Same F H ∧ vM vN xs v F H ∧ Kt F H Q (vL vN (isort nlt xs))
theorem cr_sortN (hu : X.A.units + 64 < cLine) : CallR X (.builtin "sorted") rSortN := CallR.imp (cr_sortF vI hu slo_int sortK_int) fun vs H Q ⟨F, v, xs, e, s, ⟨a, us, ev, h, l⟩, k⟩ => ⟨F, v, _, e, s, ⟨a, us, ev, h, all2N_I l⟩, fun q ys hq hys => by
  rw [isort_map (lt := nlt) fun x _ y _ => by
    show decide ((x : Int) < (y : Int)) = decide (x < y)
    simp] at hys
  refine k _ _ _ (Grow.put s hq) ⟨q, ys, rfl, upd_same, ?_⟩
  rw [all2I.mp hys]
  exact all2N.mpr (by simp)⟩
/-- lists of natural numbers -/
theorem intMap_inj {a b : List Nat} : (a.map fun n : Nat => (n : Int)) = b.map (fun n : Nat => (n : Int)) ↔ a = b :=
  ⟨fun h => by
    have := congrArg (List.map Int.toNat) h
    rw [List.map_map, List.map_map] at this
    have e : (Int.toNat ∘ fun n : Nat => (n : Int)) = id := funext fun n => Int.toNat_natCast n
    rw [e, List.map_id, List.map_id] at this
    exact this, fun h => by rw [h]⟩
theorem vL_N_I {xs : List Nat} {v : V} {H : Hp} (h : vL vN xs v H) : vL vI (xs.map fun n : Nat => (n : Int)) v H := by
  obtain ⟨a, vs, e, g, l⟩ := h
  exact ⟨a, vs, e, g, all2N_I l⟩
def rNeN : R2 := fun x y H Q => ∃ F, ∃ a b : List Nat, Same F H ∧ vL vN a x F ∧ vL vN b y F ∧ Q (.bl (decide (a ≠ b))) H
def rEqN : R2 := fun x y H Q => ∃ F, ∃ a b : List Nat, Same F H ∧ vL vN a x F ∧ vL vN b y F ∧ Q (.bl (decide (a = b))) H
theorem opN_ne (hu : X.A.units + 64 < cLine) : OpR X (compareOp .NotEq) rNeN := OpR.imp (opF_ne (vL vI) hu) fun x y H Q ⟨F, a, b, s, h1, h2, k⟩ => ⟨F, _, _, s, vL_N_I h1, vL_N_I h2, by
  have e : decide ((a.map fun n : Nat => (n : Int)) ≠ b.map fun n : Nat => (n : Int)) = decide (a ≠ b) := decide_eq_decide.mpr (not_congr intMap_inj)
  rw [e]; exact k⟩
theorem opN_eq (hu : X.A.units + 64 < cLine) : OpR X (compareOp .Eq) rEqN := OpR.imp (opF_eq (vL vI) hu) fun x y H Q ⟨F, a, b, s, h1, h2, k⟩ => ⟨F, _, _, s, vL_N_I h1, vL_N_I h2, by
  have e : decide ((a.map fun n : Nat => (n : Int)) = b.map fun n : Nat => (n : Int)) = decide (a = b) := decide_eq_decide.mpr intMap_inj
  rw [e]; exact k⟩
/-- natural numbers in a list of such -/
def rInN : R2 := fun x y H Q => ∃ F, ∃ (a : Nat) (xs : List Nat), Same F H ∧ x = .int (a : Int) ∧ vM vN xs y F H ∧ Q (.bl (decide (a ∈ xs))) H
def rNotInN : R2 := fun x y H Q => ∃ F, ∃ (a : Nat) (xs : List Nat), Same F H ∧ x = .int (a : Int) ∧ vM vN xs y F H ∧ Q (.bl (decide (a ∉ xs))) H
theorem mem_int {a : Nat} {xs : List Nat} : (a : Int) ∈ (xs.map fun n : Nat => (n : Int)) ↔ a ∈ xs := by
  rw [List.mem_map]
  exact ⟨fun ⟨b, h, e⟩ => by
    have : b = a := by omega
    exact this ▸ h, fun h => ⟨a, h, rfl⟩⟩
theorem op_inN (hu : X.A.units + 64 < cLine) : OpR X (compareOp .In) rInN := OpR.imp (op_inL vI hu) fun x y H Q ⟨F, a, xs, s, h1, ⟨b, us, e, h, l⟩, k⟩ => ⟨F, _, _, s, h1, ⟨b, us, e, h, all2N_I l⟩, by
  have e : decide ((a : Int) ∈ (xs.map fun n : Nat => (n : Int))) = decide (a ∈ xs) := decide_eq_decide.mpr mem_int
  rw [e]; exact k⟩
theorem op_notInN (hu : X.A.units + 64 < cLine) : OpR X (compareOp .NotIn) rNotInN := OpR.imp (op_notInL vI hu) fun x y H Q ⟨F, a, xs, s, h1, ⟨b, us, e, h, l⟩, k⟩ => ⟨F, _, _, s, h1, ⟨b, us, e, h, all2N_I l⟩, by
  have e : decide ((a : Int) ∉ (xs.map fun n : Nat => (n : Int))) = decide (a ∉ xs) := decide_eq_decide.mpr (not_congr mem_int)
  rw [e]; exact k⟩
/-- list + list -/
def rCatF (p : VP α) : R2 := fun x y H Q => ∃ F, ∃ xs ys : List α, Same F H ∧ vM p xs x F H ∧ vM p ys y F H ∧ xs.length + ys.length ≤ 100000 ∧ Kt F H Q (vL p (xs ++ ys))
theorem op_catF (p : VP α) [Mo p] : OpR X (binaryOp .Add) (rCatF p) := OpR.imp op_cat fun x y H Q ⟨F, xs, ys, s, ⟨a, us, e, h, l⟩, ⟨b, ws, e', h', l'⟩, hz, k⟩ => ⟨a, b, us, ws, e, e', h, h', by
  have := l.len; have := l'.len; have := small_of hz; omega, fun q hq => k _ _ _ (Grow.put s hq) ⟨q, _, rfl, upd_same, (l.app l').mo (same_upd (s.free hq))⟩⟩
/-- tuple + tuple -/
def rCatTF (p : VP α) : R2 := fun x y H Q => ∃ F, ∃ xs ys : List α, Same F H ∧ vT p ⟨xs⟩ x F ∧ vT p ⟨ys⟩ y F ∧ xs.length + ys.length ≤ 100000 ∧ Kt F H Q (vT p ⟨xs ++ ys⟩)
theorem op_catTF (p : VP α) [Mo p] : OpR X (binaryOp .Add) (rCatTF p) := OpR.imp op_catA fun x y H Q ⟨F, xs, ys, s, ⟨a, us, e, h, l⟩, ⟨b, ws, e', h', l'⟩, hz, k⟩ => by
  refine ⟨a, b, us, ws, e, e', SqT.of (s _ _ h), SqT.of (s _ _ h'), ?_, fun hx => ?_, fun _ hy => ?_, fun _ _ q hq => k _ _ _ (Grow.put s hq) ⟨q, _, rfl, upd_same, (All2.app l l').mo (same_upd (s.free hq))⟩⟩
  · have := l.len; have := l'.len; have := small_of hz; simp only at *; omega
  · subst hx; cases l
    exact k _ _ _ (Grow.refl s) ⟨b, ws, rfl, h', l'⟩
  · subst hy; cases l'
    exact k _ _ _ (Grow.refl s) ⟨a, us, rfl, h, by simpa using l⟩
/-- slices -/
def cutA {α : Type} (xs : List α) (lo hi : Option Int) : List α := (xs.drop (HT.sIx xs.length 0 lo)).take (HT.sIx xs.length xs.length hi - HT.sIx xs.length 0 lo)
theorem cutA_nn (xs : List α) (a b : Nat) : cutA xs (some (a : Int)) (some (b : Int)) = (xs.drop a).take (b - a) := by
  unfold cutA
  rw [HT.sIx_nat, HT.sIx_nat]
  by_cases h : a ≤ xs.length
  · rw [Nat.min_eq_left h]
    by_cases h2 : b ≤ xs.length
    · rw [Nat.min_eq_left h2]
    · rw [Nat.min_eq_right (by omega), List.take_of_length_le (by simp), List.take_of_length_le (by simp; omega)]
  · rw [Nat.min_eq_right (by omega : xs.length ≤ a), List.drop_of_length_le (by omega), List.drop_of_length_le (by omega)]; simp
theorem cutA_n_ (xs : List α) (a : Nat) : cutA xs (some (a : Int)) none = xs.drop a := by
  unfold cutA
  rw [HT.sIx_nat, HT.sIx_none]
  by_cases h : a ≤ xs.length
  · rw [Nat.min_eq_left h, List.take_of_length_le (by simp)]
  · rw [List.drop_of_length_le (i := a) (by omega), List.take_eq_nil_of_eq_nil (List.drop_of_length_le (by omega))]
theorem cutA__n (xs : List α) (b : Nat) : cutA xs none (some (b : Int)) = xs.take b := by
  unfold cutA
  rw [HT.sIx_nat, HT.sIx_none]
  by_cases h : b ≤ xs.length
  · rw [Nat.min_eq_left h]; rfl
  · rw [Nat.min_eq_right (by omega)]
    show (xs.drop 0).take (xs.length - 0) = _
    rw [List.drop_zero, List.take_of_length_le (by omega), List.take_of_length_le (by omega)]
theorem All2.cut {H : Hp} {xs : List α} {vs : List V} (l : All2 p xs vs H) (lo hi : Option Int) : All2 p (cutA xs lo hi) (cutV vs lo hi) H := by
  unfold cutA cutV
  rw [l.len]
  exact (l.drop _).take _
def rSlF (p : VP α) : V → Option Int → Option Int → Hp → VK → Prop := fun x lo hi H Q => ∃ F, ∃ xs : List α, Same F H ∧ vM p xs x F H ∧ Kt F H Q (vL p (cutA xs lo hi))
theorem sl_F (p : VP α) [Mo p] : SlR X (rSlF p) := SlR.imp sl_list fun x lo hi H Q ⟨F, xs, s, ⟨a, us, e, h, l⟩, k⟩ => ⟨a, us, e, SqL.of h, fun q hq => k _ _ _ (Grow.put s hq) ⟨q, _, rfl, upd_same, (l.cut lo hi).mo (same_upd (s.free hq))⟩⟩
def rSlTF (p : VP α) : V → Option Int → Option Int → Hp → VK → Prop := fun x lo hi H Q => ∃ F, ∃ xs : List α, Same F H ∧ vT p ⟨xs⟩ x F ∧ Kt F H Q (vT p ⟨cutA xs lo hi⟩)
theorem sl_TF (p : VP α) [Mo p] : SlR X (rSlTF p) := SlR.imp sl_tupA fun x lo hi H Q ⟨F, xs, s, ⟨a, us, e, h, l⟩, k⟩ => by
  refine ⟨a, us, e, SqT.of (s _ _ h), fun ⟨h1, h2⟩ => k _ _ _ (Grow.refl s) ⟨a, us, rfl, h, ?_⟩, fun _ q hq => k _ _ _ (Grow.put s hq) ⟨q, _, rfl, upd_same, (All2.cut l lo hi).mo (same_upd (s.free hq))⟩⟩
  have hl : xs.length = us.length := l.len
  show All2 p (cutA xs lo hi) us F
  unfold cutA
  rw [hl, h1, h2]
  show All2 p ((xs.drop 0).take (us.length - 0)) us F
  rw [List.drop_zero, List.take_of_length_le (by omega)]
  exact l
/-- xs.index(x) of texts -/
def rIdxS : V → List V → Hp → VK → Prop := fun x ys H Q => ∃ F, ∃ (a : Str) (xs : List Str), ys = [.str a] ∧ vM vS xs x F H ∧ a ∈ xs ∧ Q (.int ((xs.idxOf a : Nat) : Int)) H
theorem str_eqV {a b : Str} : eqV (.str a) (.str b) = (a == b) := rfl
theorem mt_idxS : MtR X "list.index" rIdxS := MtR.imp mt_index fun x ys H Q ⟨F, a, xs, e, ⟨b, us, ev, h, l⟩, hm, k⟩ => by
  have eu := all2S.mp l
  subst eu
  have hlt := List.idxOf_lt_length_iff.mpr hm
  refine ⟨b, _, .str a, xs.idxOf a, .str a, ev, e, SqL.of h, rfl, ?_, ?_, ?_, fun m z hmj hz => ?_, k⟩
  · rw [List.all_map]; exact List.all_eq_true.mpr fun _ _ => rfl
  · rw [List.getElem?_map, List.getElem?_eq_getElem hlt, List.getElem_idxOf hlt]; rfl
  · rw [str_eqV]; exact beq_self_eq_true a
  · rw [List.getElem?_map, List.getElem?_eq_getElem (by omega)] at hz
    cases hz
    rw [str_eqV]
    have := List.not_of_lt_findIdx (p := fun y => y == a) (xs := xs) hmj
    simpa using this
end
/-! the parts of an own object -/
section
variable {X : Cx} {e : Expr} {te : TE} {pos : Pos}
def tRow (K : W.Frag) (te : TE) : TE := fun σ H Q => te σ H fun x H1 => ∃ F r, Same F H1 ∧ vA K r x F ∧ ∀ v, vRow r v F → Q v H1
def tAll (K : W.Frag) (te : TE) : TE := fun σ H Q => te σ H fun x H1 => ∃ F rs, Same F H1 ∧ vLine K rs x F ∧ ∀ v, vT (vA K) ⟨rs⟩ v F → Q v H1
def tEvery (K : W.Frag) (te : TE) : TE := fun σ H Q => te σ H fun x H1 => ∃ F rs, Same F H1 ∧ vLine K rs x F ∧ ∀ v, vT vRow ⟨rs⟩ v F → Q v H1
theorem pe_row {K : W.Frag} {mg : Str → Option Value} (T : Tp K mg) (he : PE X e te) (hb : attributeBase e "row" X.env (eval e X.env) = eval e X.env) (hK : X.K = K := by rfl) : PE X (.Attribute e "row" pos) (tRow K te) := by
  subst hK
  refine ⟨fun pins s σ H Q I h => attr_of hb (thn (he.run pins s σ H _ I h) fun u s1 ⟨x, H1, I1, rx, F, r, sm, ⟨a, dx, t, ev, ha, hr⟩, k⟩ => ?_)⟩
  subst ev; cases rx
  exact getattr_ok I1 (sm _ _ ha) (cls_Asker T) (noat_Asker_row T) rfl fun u' s2 I2 ru => ⟨_, H1, I2, ru, k _ hr⟩
theorem pe_all {K : W.Frag} {mg : Str → Option Value} (T : Tp K mg) (he : PE X e te) (hb : attributeBase e "all" X.env (eval e X.env) = eval e X.env) (hK : X.K = K := by rfl) : PE X (.Attribute e "all" pos) (tAll K te) := by
  subst hK
  refine ⟨fun pins s σ H Q I h => attr_of hb (thn (he.run pins s σ H _ I h) fun u s1 ⟨x, H1, I1, rx, F, r, sm, ⟨a, dx, t, t2, ev, ha, hr, _⟩, k⟩ => ?_)⟩
  subst ev; cases rx
  exact getattr_ok I1 (sm _ _ ha) (cls_Line T) (noat_Line_all T) rfl fun u' s2 I2 ru => ⟨_, H1, I2, ru, k _ hr⟩
theorem pe_every {K : W.Frag} {mg : Str → Option Value} (T : Tp K mg) (he : PE X e te) (hb : attributeBase e "every" X.env (eval e X.env) = eval e X.env) (hK : X.K = K := by rfl) : PE X (.Attribute e "every" pos) (tEvery K te) := by
  subst hK
  refine ⟨fun pins s σ H Q I h => attr_of hb (thn (he.run pins s σ H _ I h) fun u s1 ⟨x, H1, I1, rx, F, r, sm, ⟨a, dx, t, t2, ev, ha, _, hr⟩, k⟩ => ?_)⟩
  subst ev; cases rx
  exact getattr_ok I1 (sm _ _ ha) (cls_Line T) (noat_Line_every T) rfl fun u' s2 I2 ru => ⟨_, H1, I2, ru, k _ hr⟩
/-- a method of a line -/
def tLM (K : W.Frag) (sp : Sp) (E : XK) (ta : TE) (t : TA) : TE := fun σ H Q => ta σ H fun x H1 => ∃ F rs, Same F H1 ∧ vLine K rs x F ∧ t σ H1 fun vs H2 => sp (x :: (vs ++ [])) H2 Q E
end
end Elk
set_option Elab.async false
set_option linter.all false
set_option maxRecDepth 100000
set_option maxHeartbeats 4000000
namespace Elk
open PySem PySem.Spec PyProof.Rows L2
/-! ### sorted of a tuple -/
section
variable {prog : Program} {w : World} {A : Around} {E : Value → Shared → Prop} {s : Shared}
theorem gather_tup {l : Addr} {vs : List Value} {Q : List Value → Shared → Prop} (tl : s.heap.IsTuple l vs.toArray) (k : Q vs { s with heap := (s.heap.push (seqObj "list" #[] 0)).update s.heap.objs.size (Obj.mapSeq (· ++ vs.toArray)) }) (z : vs.length ≤ sizeLine) :
    wpAny (model prog w) A (collect (.ref l)) Q E s := by
  obtain ⟨ob, g, cl, n, dt⟩ := id tl
  unfold collect
  refine wpAny_bind (wpAny_runValue (codeAny_builtin entry_proto_collect' (show wpAny _ _ (do again (.builtin "list.__iadd__" ⟨[← newList [], .ref l], []⟩)) _ _ s from ?_)))
  refine wpAny_bind (wpAny_newList (wpAny_pure ⟨Code.quiet_builtin _ (by decide +kernel), codeAny_builtin entry_list_iadd' (show wpAny _ _ (Builtin.List.listExtendWith (.ref s.heap.objs.size) (.ref l) (.ref s.heap.objs.size)) _ _ { s with heap := s.heap.push (seqObj "list" #[] 0) } from ?_)⟩))
  unfold Builtin.List.listExtendWith
  have g' : (s.heap.push (seqObj "list" #[] 0)).get? l = some ob := Heap.get?_push_of_some _ g
  refine wpAny_bind (wpAny_typeOf (T := "tuple") ⟨ob, g', cl⟩ ?_)
  have tt : (Value.type "tuple" == Value.type "tuple") = true := by rfl
  rw [if_pos (by simp)]
  refine wpAny_bind (listItems_at g' dt (wpAny_bind (listItems_at (xs := #[]) (n := 0) (Heap.get?_push_size _ rfl) rfl ?_)))
  rw [if_neg (by simp)]
  refine wpAny_bind (listUpdate_at (xs := #[]) (n := 0) (Heap.get?_push_size _ rfl) rfl (wpAny_pure ?_) (Nat.zero_le _) (by show (#[] ++ vs.toArray).size ≤ sizeLine + 1; simp only [Array.size_append, List.size_toArray, List.length_nil]; omega))
  show wpAny (model prog w) A (do
      let ob ← load s.heap.objs.size
      match ob.data with
      | .seq ys _ => pure ys.toList
      | _ => unsupported "internal:collect") Q E { s with heap := (s.heap.push (seqObj "list" #[] 0)).update s.heap.objs.size (Obj.mapSeq (· ++ vs.toArray)) }
  refine wpAny_bind (wpAny_load (get?_update_seq (Heap.get?_push_size _ rfl) _) (show wpAny _ _ (pure ((#[] : Array Value) ++ vs.toArray).toList) Q E _ from ?_))
  rw [show ((#[] : Array Value) ++ vs.toArray).toList = vs by simp]
  exact wpAny_pure k
theorem sorted_tup {l : Addr} {vs : List Value} {Q : Value → Shared → Prop} (tl : s.heap.IsTuple l vs.toArray) (z : vs.length ≤ sizeLine)
    (b : ∀ E' : Value → Shared → Prop, wpAny (model prog w) A.in1.in1 (Builtin.«list.sort» ⟨[.ref (s.heap.objs.size + 1)], []⟩) (fun f s' => f = .done (.ret .none) ∧ Q (.ref (s.heap.objs.size + 1)) s') E' { s with heap := W.copyHeap s.heap vs }) :
    wpAny (model prog w) A (call (.builtin "sorted") [.ref l]) Q E s := by
  refine call_function_entry_kw kind_sorted plain_sorted entry_sorted (args_sorted1 _) ?_
  unfold Builtin.«sorted»
  refine wpAny_bind (m := checkCount "sorted" 1 1 _) (wpAny_pure (wpAny_bind (gather_tup tl (wpAny_bind (wpAny_newList ?_ z)) z)))
  have sz : ((s.heap.push (seqObj "list" #[] 0)).update s.heap.objs.size (Obj.mapSeq (· ++ vs.toArray))).objs.size = s.heap.objs.size + 1 := by rw [Heap.size_update, size_push']
  show wpAny _ _ _ _ _ { s with heap := W.copyHeap s.heap vs }
  rw [sz]
  refine wpAny_bind (wpAny_holding (wpAny_call_entry_kw slot_list_sort ⟨_, W.copyHeap_at s.heap vs, rfl⟩ entry_list_sort ?body (args_list_sort _)))
  case body =>
    show wpAny (model prog w) A.in1.in1 (Builtin.«list.sort» ⟨[.ref (s.heap.objs.size + 1)], []⟩) _ _ _
    refine wpAny_mono (b _) (fun f s' hf => ?_) fun _ _ e => e
    obtain ⟨ef, hq⟩ := hf
    subst ef
    exact ⟨_, rfl, wpAny_pure ⟨_, rfl, hq⟩⟩
variable {β : Type} {vs : List Value} {bs : List β} {enc : β → PyData} {R : Value → β → Prop}
theorem sorted_dataT {l : Addr} {Q : Value → Shared → Prop} (tl : s.heap.IsTuple l vs.toArray) (e : W.EachIs R vs bs) (er : W.EachIs (fun v b => ∃ as, Reads s.heap v (enc b) as) vs bs) (hal : W.AllAlike (bs.map enc)) (hk : W.Sortable (bs.map enc)) (z : bs.length ≤ sizeLine)
    (hu : ∀ b, b ∈ bs → A.units + 2 + (enc b).depth < cLine) (h : ∀ out, out.length = bs.length → W.EachIs R out (bs.mergeSort (W.dataLe false enc)) → Q (.ref (s.heap.objs.size + 1)) { s with heap := sortedAll s.heap vs (List.toArray out) }) :
    wpAny (model prog w) A (call (.builtin "sorted") [.ref l]) Q E s := by
  have er' : W.EachIs (fun v b => ∃ as, Reads (W.sortingHeap (W.copyHeap s.heap vs) (s.heap.objs.size + 1) vs) v (enc b) as) vs bs := er.mono fun _ _ ⟨as, r⟩ => ⟨as, PyProof.Rows.Reads.keeps (fun _ _ => W.sorting_copy_old) r⟩
  have S : W.SortsAt prog w A.in1.in1 { s with heap := W.sortingHeap (W.copyHeap s.heap vs) (s.heap.objs.size + 1) vs } _ vs :=
    W.SortsAt.data (s := { s with heap := W.sortingHeap (W.copyHeap s.heap vs) (s.heap.objs.size + 1) vs }) (W.each_map (R := fun v d => ∃ as, Reads (W.sortingHeap (W.copyHeap s.heap vs) (s.heap.objs.size + 1) vs) v d as) enc er') hal hk (W.bound_map hu)
  have zz : vs.length ≤ sizeLine := by rw [e.length]; exact z
  exact sorted_tup tl zz fun _ => W.list_sort_vals (s := { s with heap := W.copyHeap s.heap vs }) (W.copyHeap_at s.heap vs) S zz ⟨rfl, h _ (by rw [W.sortVals_length false rfl]; exact e.length) (W.sortVals_data false e er' hal)⟩
end
section
variable {X : Cx} {α : Type} {p : VP α}
def rSortTF [DecidableEq α] [W.DatumOrd α] (p : VP α) : List V → Hp → VK → Prop := fun vs H Q => ∃ F v, ∃ xs : List α, vs = [v] ∧ Same F H ∧ vT p ⟨xs⟩ v F ∧
  ∀ q ys, H q = none → All2 p (isort W.DatumOrd.lt xs) ys F → Q (.ref q) (upd H q (.lst ys))
theorem cr_sortTF [DecidableEq α] [W.DatumOrd α] (p : VP α) [Br p] [Mo p] (hu : X.A.units + 64 < cLine) (O : Slo (W.DatumOrd.lt : α → α → Bool)) (hk : SortK α) (hd : W.Datum.depth α ≤ 60 := by decide) : CallR X (.builtin "sorted") (rSortTF p) := by
  intro pins s σ H vs us Q I rv ⟨F, v, xs, e, sm, ⟨a, ys, ev, ha, l⟩, k⟩
  subst e ev
  rw [Vals.ref1 rv]
  obtain ⟨zs, rz, il, hz⟩ := br_tup I.hok (sm _ _ ha)
  have hlen : xs.length = ys.length := l.len
  have hzl : (ys.zip xs).map Prod.snd = xs := by rw [List.map_snd_zip]; omega
  have e1 : W.EachIs (fun (u : Value) (b : V × α) => RelV b.1 u ∧ p b.2 b.1 F) zs (ys.zip xs) := each_two (P := X.prog) (w := X.w) (H := F) l rz
  refine sorted_dataT (enc := fun b : V × α => W.Datum.toD b.2) il e1 (e1.mono fun u b ⟨h1, h2⟩ => Br.br I.hok (Mo.mo sm h2) h1) (W.AllAlike.of fun b b' => W.DatumOrd.alike _ _) ?_ (by rw [List.length_zip]; omega) (fun b _ => ?_) fun out hl eo => ?_
  · rcases hk with h | h
    · exact W.Sortable.tuples fun b => h b.2
    · exact W.Sortable.others fun b => h b.2
  · have := W.Datum.depth_le b.2
    omega
  · obtain ⟨r1, r2⟩ := each_back (p := p) (H := F) eo
    have es : ((ys.zip xs).mergeSort (W.dataLe false fun b : V × α => W.Datum.toD b.2)).map (·.2) = isort W.DatumOrd.lt xs := by
      refine isort_of O ?_ ?_
      · have q := (List.mergeSort_perm (ys.zip xs) (W.dataLe false fun b : V × α => W.Datum.toD b.2)).map Prod.snd
        rw [hzl] at q
        exact q
      · have q := W.sort_pairwise (le := W.dataLe false fun b : V × α => W.Datum.toD b.2) (W.sortLe_total (PyProof.Rows.listOrd PyProof.Rows.itemOrd) false _) (ys.zip xs)
        refine List.pairwise_map.mpr (List.Pairwise.imp (fun {b c} h => ?_) q)
        have h' : W.dataLe false (fun b : V × α => W.Datum.toD b.2) b c = true := h
        rw [W.dataLe_eq] at h'
        have h2 : (!W.dataLt (W.Datum.toD c.2) (W.Datum.toD b.2)) = true := h'
        rw [W.DatumOrd.lt_eq] at h2
        simpa using h2
    rw [es] at r2
    obtain ⟨ep, he'⟩ := PyProof.Rows.sortedAll_at s.heap zs out.toArray
    refine ⟨.ref _, upd H (s.heap.objs.size + 1) (.lst _), I.laid (t' := s.toks) (fun _ _ => PyProof.Rows.sortedAll_old) (Nat.le_succ _) ⟨?_, out, ep, r1, he'⟩, rfl, k _ _ (I.hok.fresh (Nat.le_succ _)) r2⟩
    rw [r1.length, hl, List.length_zip]
    omega
/-! ### == of two dicts whose values are plain -/
def hit2 (ls : List (Key × V)) (kv : Key × V) : Bool := match valV ls kv.1 with
  | some y => eqV kv.2 y
  | none => false
theorem hits_any {A : Around} {s : Shared} {ls : List (Key × V)} {vb : List (Key × Value)} (rb : KV ls vb) (fb : ∀ q ∈ ls, flatV q.2 = true) {ks : List (Key × V)} {va : List (Key × Value)} (ra : KV ks va) :
    (∀ q ∈ ks, flatV q.2 = true) → W.KeqHits A s vb va (ks.all (hit2 ls)) := by
  unfold KV at ra
  induction ra with
  | nil => intro _; exact .nil
  | @cons p q ps qs h t ih =>
    intro hp
    obtain ⟨h1, h2⟩ := h
    obtain ⟨k, v⟩ := q
    have h1' : p.1 = k := h1
    have rr := rb.val p.1
    rw [List.all_cons]
    cases e : valV ls p.1 with
    | none =>
      rw [e] at rr
      have hn : valueAt vb k = none := by
        rw [← h1']
        cases ev : valueAt vb p.1 with
        | none => rfl
        | some y => rw [ev] at rr; exact absurd rr (by intro z; cases z)
      have eh : hit2 ls p = false := by unfold hit2; rw [e]
      rw [eh, Bool.false_and]
      exact .miss hn
    | some y =>
      rw [e] at rr
      obtain ⟨z, hz, rz⟩ := rr.some_of
      rw [h1'] at hz
      have eh : hit2 ls p = eqV p.2 y := by unfold hit2; rw [e]
      rw [eh]
      have fy : flatV y = true := by
        unfold valV at e
        obtain ⟨kv, hk, ek⟩ := Option.map_eq_some_iff.mp e
        exact ek ▸ fb kv (List.mem_of_find?_eq_some hk)
      exact .hit hz (eqAt_V h2 rz (hp p List.mem_cons_self) fy) (ih fun p' hm => hp p' (List.mem_cons_of_mem _ hm))
def rEqD : R2 := fun x y H Q => ∃ a b ks ls, x = .ref a ∧ y = .ref b ∧ H a = some (.dK ks) ∧ H b = some (.dK ls) ∧ (∀ q ∈ ks, flatV q.2 = true) ∧ (∀ q ∈ ls, flatV q.2 = true) ∧ Q (.bl (ks.length == ls.length && ks.all (hit2 ls))) H
theorem op_eqD (hu : X.A.units + 64 < cLine) : OpR X (compareOp .Eq) rEqD := by
  intro pins s σ H x y v u Q I rx ry ⟨a, b, ks, ls, ex, ey, ea, eb, f1, f2, q⟩
  subst ex ey; cases rx; cases ry
  obtain ⟨_, ya, va, ra, da⟩ := (show ObjOk X.prog X.w H s.heap a (.dK ks) from I.hok a _ ea)
  obtain ⟨_, yb, vb, rb, db⟩ := (show ObjOk X.prog X.w H s.heap b (.dK ls) from I.hok b _ eb)
  have h1 := ra.length
  have h2 := rb.length
  exact W.keq_eq (knd := mixKind X.prog X.w) ya yb da db (by omega) (fun _ => hits_any rb f2 ra f1) (fin_bl I q (by rw [h1, h2]))
end
end Elk
set_option Elab.async false
set_option linter.all false
set_option maxRecDepth 100000
set_option maxHeartbeats 8000000
namespace Elk
open PySem PySem.Spec PyProof.Rows
/-! ### sorted(set(xs)), xs a list of natural numbers, not all different -/
section
variable {prog : Program} {w : World} {A : Around} {E : Value → Shared → Prop} {s : Shared}
theorem set_of_ints {l : Addr} {items : Array Value} {ns : List Int} {Q : Value → Shared → Prop} (hh : A.handled = none) (hl : s.heap.IsList l items) (hi : IntsAre items.toList ns) (hb : ns.length + 1 < scanBound)
    (k : ∀ (g : Heap) (tk c : Nat), L2.SetR w g s.heap.objs.size (fun j => decide (j ∈ ns)) c → c ≤ ns.length → (∀ b o, s.heap.get? b = some o → g.get? b = some o) → Q (.ref s.heap.objs.size) { s with heap := g, toks := tk }) :
    wpAny (model prog w) A (call (.type "set") [.ref l]) Q E s := by
  have hsz : items.size = ns.length := by rw [← IntsAre.length hi, Array.length_toList]
  obtain ⟨mc, mt, mm⟩ := PySem.F.called_set.mro
  have made := PySem.F.called_set.made
  have subs := PySem.F.called_set.sub
  refine wpAny_call (codeAny_of_tree ?_)
  show wpAny _ _ (callAny (.type "set") _) _ _ _
  refine wpAny_pure ⟨Code.quiet_builtin _ (by decide +kernel), codeAny_builtin PySem.F.entry_type_call ?_⟩
  rw [Around.under_plain (weight_type_call_type "set" [.ref l] []) rfl]
  have nT := PySem.F.called_set.notType
  have cC := PySem.F.called_set.canCreate
  have tC := PySem.F.typeCall_set_1 (.ref l)
  repeat (any_goals (first | assumption | wp_step))
  refine codeAny_mono (L2.code_set_led1 (.ref l) (E := E) (Q₁ := fun obj s1 => obj = .ref s.heap.objs.size ∧ s1 = { s with heap := s.heap.push { cls := .type "set", dict := none, data := .set #[] 0 (.fresh 0 0 (!w.params.followText "set-order")) } }) ⟨rfl, rfl⟩) fun r s1 q => ?_
  cases r with
  | error e => exact q
  | ok fl =>
    cases fl with
    | next => exact q.elim
    | brk => exact q.elim
    | cont => exact q.elim
    | ret obj =>
      obtain ⟨e1, e2⟩ := q
      subst e1 e2
      have hN : (s.heap.push { cls := .type "set", dict := none, data := .set #[] 0 (.fresh 0 0 (!w.params.followText "set-order")) }).get? s.heap.objs.size = some { cls := .type "set", dict := none, data := .set #[] 0 (.fresh 0 0 (!w.params.followText "set-order")) } := Heap.get?_push_size _ rfl
      have tN : Shared.TypeIs { s with heap := s.heap.push { cls := .type "set", dict := none, data := .set #[] 0 (.fresh 0 0 (!w.params.followText "set-order")) } } (.ref s.heap.objs.size) "set" := ⟨_, hN, rfl⟩
      have iL := PySem.F.called_set.init.lookup
      have iB := PySem.F.called_set.init.bind (.ref s.heap.objs.size)
      repeat (any_goals (first | assumption | wp_step))
      refine codeAny_mono (codeAny_call_builtin (R := wants (fun z s2 => z = .none ∧ ∃ g tk c, s2 = { s with heap := g, toks := tk } ∧ L2.SetR w g s.heap.objs.size (fun j => decide (j ∈ ns)) c ∧ c ≤ ns.length ∧
          (∀ b o, s.heap.get? b = some o → g.get? b = some o)) E) PySem.F.called_set.init.plain PySem.F.entry_set_init (check_set_init_1 tN ?_)) fun r2 s2 q2 => ?_
      · obtain ⟨⟨oc, od, ob, osl⟩, go, hc, m, hdat⟩ := hl
        simp only at hc hdat
        subst hc hdat
        have go2 : (s.heap.push { cls := .type "set", dict := none, data := .set #[] 0 (.fresh 0 0 (!w.params.followText "set-order")) }).get? l = some { cls := .type "list", dict := od, data := .seq items m, slots := osl } := Heap.get?_push_of_some _ go
        have sub1 := PySem.F.sub_list_set
        have sub2 := PySem.F.sub_list_frozenset
        have neq : (Value.type "list" == Value.type "dict") = false := by decide
        have il : (s.heap.push { cls := .type "set", dict := none, data := .set #[] 0 (.fresh 0 0 (!w.params.followText "set-order")) }).IsList l items := ⟨_, go2, rfl, m, rfl⟩
        unfold Builtin.«set.__init__» noKeywords Builtin.Frozenset.updateFrom
        generalize hPI : pyIter = PI
        wp_walk
        subst hPI
        refine wpAny_pyIter_list il (wpAny_bind (wpAny_runValue ?_))
        have ls : l < s.heap.objs.size := Heap.lt_size go
        have hn3 : A.in1.in1.in1.handled = none := by simp [hh]
        have ne1 : l ≠ (s.heap.push { cls := .type "set", dict := none, data := .set #[] 0 (.fresh 0 0 (!w.params.followText "set-order")) }).objs.size := by
          rw [Heap.size_push]; exact Nat.ne_of_lt (Nat.lt_succ_of_lt ls)
        have notfp : s.heap.objs.size ∉ [(s.heap.push { cls := .type "set", dict := none, data := .set #[] 0 (.fresh 0 0 (!w.params.followText "set-order")) }).objs.size, l] := by
          rw [Heap.size_push]
          simp only [List.mem_cons, List.not_mem_nil, or_false, not_or]
          exact ⟨Nat.ne_of_lt (Nat.lt_succ_self _), Nat.ne_of_gt ls⟩
        have hval : ∀ (i : Nat) (v : Value), items[i]? = some v → ∃ z t, ns[i]? = some z ∧ v = .int z t := fun i v hv => by
          have hlt : i < ns.length := by rw [← hsz]; exact (Array.getElem?_eq_some_iff.mp hv).1
          obtain ⟨t, e⟩ := IntsAre.int_at hi i v (by rw [Array.getElem?_toList]; exact hv)
          refine ⟨ns[i], t, List.getElem?_eq_getElem hlt, e.trans ?_⟩
          rw [List.getD_eq_getElem?_getD, List.getElem?_eq_getElem hlt]
          rfl
        refine L2.set_update_ints ((Walks.list hn3 _ l ne1 items).toS) s.heap.objs.size notfp ns hsz hb hval (items.size - 0) 0 _ (by omega) (Nat.zero_le _) ⟨⟨_, Heap.get?_push_size _ rfl, rfl, rfl⟩, (il.push _)⟩ ?start ?last
        case start =>
          refine ⟨0, Nat.le_refl 0, L2.setR_new_at ?_⟩
          exact Heap.get?_push_of_some _ hN
        case last =>
          intro t c mv hc2 hS
          obtain ⟨g, gn, dr, tk, os⟩ := t
          obtain rfl : gn = s.gens := mv.gens
          obtain rfl : dr = s.drawn := mv.drawn
          obtain rfl : os = s.os := mv.os
          show wpAny _ _ _ _ _ _
          refine wpAny_pure ?_
          show wpAny _ _ (ret Value.none) _ _ _
          refine wpAny_pure ⟨rfl, g, tk, c, rfl, hS, by omega, fun b o e => ?_⟩
          have lb := Heap.lt_size e
          refine mv.heap b o ?_ (Heap.get?_push_of_some _ (Heap.get?_push_of_some _ e))
          have n2 : b ≠ (s.heap.push { cls := .type "set", dict := none, data := .set #[] 0 (.fresh 0 0 (!w.params.followText "set-order")) }).objs.size := by
            rw [Heap.size_push]; exact Nat.ne_of_lt (Nat.lt_succ_of_lt lb)
          simp only [List.mem_cons, List.mem_singleton, List.not_mem_nil, or_false, not_or]
          exact ⟨Nat.ne_of_lt lb, n2⟩
      · cases r2 with
        | error e => exact q2
        | ok fl2 =>
          cases fl2 with
          | next => exact q2.elim
          | brk => exact q2.elim
          | cont => exact q2.elim
          | ret z =>
            obtain ⟨ez, g, tk, c, e2, hS, hc, kp⟩ := q2
            subst ez e2
            repeat (any_goals (first | assumption | wp_step))
            exact k _ _ _ hS hc kp
end
open L2
theorem vals_intsAre : ∀ {ns : List Int} {us : List Value}, Vals (ns.map V.int) us → IntsAre us ns
  | [], _, r => by cases r; exact .nil
  | n :: ns, _, r => by
    cases r with
    | cons a r =>
      obtain ⟨t, e⟩ := a
      subst e
      exact .cons _ _ (vals_intsAre r)
/-- set(xs) -/
def rSetN (w : World) : List V → Hp → VK → Prop := fun vs H Q => ∃ F v, ∃ xs : List Nat, vs = [v] ∧ Same F H ∧ vM vN xs v F H ∧ xs.length ≤ 1000 ∧ ∀ q c, H q = none → c ≤ xs.length → Q (.ref q) (upd H q (SetO w q (fun j => decide (j ∈ xs.map fun n : Nat => (n : Int))) c))
theorem cr_setN {X : Cx} (hc : X.calm = true) : CallR X (.type "set") (rSetN X.w) := by
  intro pins s σ H vs us Q I rv ⟨F, v, xs, e, sm, ⟨a, ys, ev, ha, l⟩, hl, k⟩
  subst e ev
  rw [Vals.ref1 rv]
  obtain ⟨zs, rz, il, hz⟩ := br_lst I.hok ha
  have ey := all2I.mp (all2N_I l)
  subst ey
  refine set_of_ints (ns := xs.map fun n : Nat => (n : Int)) (I.ok.hd hc) il (vals_intsAre (by simpa using rz)) (by rw [List.length_map]; unfold scanBound; omega) fun g tk c hS hcl kp => ?_
  rw [List.length_map] at hcl
  exact ⟨.ref _, upd H s.heap.objs.size (SetO X.w s.heap.objs.size _ c), I.laid (t' := tk) (fun b u e => kp b u e) (Nat.le_refl _) (setO_new hS), rfl, k _ c (I.hok.fresh (Nat.le_refl _)) hcl⟩
/-- sorted(set(xs)): the one rising list of the same members -/
def rSortSet (w : World) : List V → Hp → VK → Prop := fun vs H Q => ∃ F v q c, ∃ xs : List Nat, vs = [v] ∧ v = .ref q ∧ Same F H ∧ H q = some (SetO w q (fun j => decide (j ∈ xs.map fun n : Nat => (n : Int))) c) ∧ c ≤ xs.length ∧ xs.length ≤ 63 ∧
  ∀ v' F' H' ys, Grow F H F' H' → vL vN ys v' F' → ys.Pairwise (· < ·) → (∀ n, n ∈ ys ↔ n ∈ xs) → Q v' H'
theorem cr_sortSetN {X : Cx} (hc : X.calm = true) : CallR X (.builtin "sorted") (rSortSet X.w) := CallR.imp (cr_sortedSet hc) fun vs H Q ⟨F, v, q, c, xs, e, ev, sm, hq, hc1, h63, k⟩ => by
  subst ev
  refine ⟨q, _, c, e, hq, by omega, fun ns p hs hm hl hp => ?_⟩
  have hn : ∀ z ∈ ns, 0 ≤ z := fun z hz => by
    have := of_decide_eq_true ((hm z).mp hz)
    obtain ⟨n, _, e⟩ := List.mem_map.mp this
    omega
  have e1 : ns = (ns.map Int.toNat).map fun n : Nat => (n : Int) := by
    rw [List.map_map]
    conv => lhs; rw [← List.map_id ns]
    exact List.map_congr_left fun z hz => by
      have := hn z hz
      show z = ((z.toNat : Nat) : Int)
      omega
  refine k _ _ _ (ns.map Int.toNat) (Grow.put sm hp) ⟨p, _, rfl, upd_same, ?_⟩ ?_ fun n => ?_
  · refine all2N.mpr ?_
    conv => lhs; rw [e1]
    rw [List.map_map]; rfl
  · refine List.pairwise_map.mpr (List.Pairwise.imp_of_mem (fun {a b} ha hb h => ?_) hs)
    have := hn a ha
    have := hn b hb
    omega
  · constructor
    · intro h
      obtain ⟨z, hz, ez⟩ := List.mem_map.mp h
      have h1 := of_decide_eq_true ((hm z).mp hz)
      obtain ⟨m, h2, h3⟩ := List.mem_map.mp h1
      have : m = n := by omega
      exact this ▸ h2
    · intro h
      refine List.mem_map.mpr ⟨(n : Int), (hm _).mpr (decide_eq_true (List.mem_map.mpr ⟨n, h, rfl⟩)), by simp⟩
end Elk
set_option Elab.async false
set_option linter.all false
set_option maxRecDepth 100000
set_option maxHeartbeats 4000000
namespace Elk
open PySem PySem.Spec PyProof.Rows L2
section
variable {X : Cx}
/-- rest.remove(z), a text -/
def rRmS : V → List V → Hp → VK → Prop := fun x vs H Q => ∃ l, ∃ (ns : List Str) (z : Str), x = .ref l ∧ vs = [.str z] ∧ H l = some (.lst (ns.map V.str)) ∧ z ∈ ns ∧ Q .non (upd H l (.lst ((ns.erase z).map V.str)))
theorem idx_map {α β : Type} (f : α → β) : ∀ (xs : List α) (j : Nat), (xs.map f).eraseIdx j = (xs.eraseIdx j).map f
  | [], _ => rfl
  | _ :: _, 0 => rfl
  | x :: xs, j + 1 => congrArg (List.cons (f x)) (idx_map f xs j)
theorem erase_idx {ns : List Str} {z : Str} : (ns.map V.str).eraseIdx (ns.idxOf z) = (ns.erase z).map V.str := by
  rw [List.erase_eq_eraseIdx_of_idxOf rfl, idx_map]
theorem mt_rmS : MtM X "list.remove" rRmS := by
  intro pins s σ H x vs v us Q I rx rv ⟨l, ns, z, ex, evs, hH, hm, q⟩
  subst ex evs
  cases rx
  obtain ⟨u, eu, ru⟩ := rv.one
  subst eu
  obtain ⟨zz, its, n, r, hl, e⟩ := I.lstM hH
  have fl : (ns.map V.str).all flatV = true := by rw [List.all_map]; exact List.all_eq_true.mpr fun _ _ => rfl
  have hj := List.idxOf_lt_length_iff.mpr hm
  have hnl : ns.length = its.length := by rw [← hl, List.length_map]
  have at_ : ∀ i, ∀ h : i < its.length, eqU (.str z) its[i] = (ns[i]'(by omega) == z) := fun i h => by
    have r1 := r.get (i := i) (x := .str (ns[i]'(by omega))) (by rw [List.getElem?_map, List.getElem?_eq_getElem (by omega)]; rfl)
    obtain ⟨w, ew, rw'⟩ := r1
    rw [List.getElem?_eq_getElem h] at ew
    cases ew
    rw [eqU_of rw' rfl]
    rfl
  have hno : ∀ m (hm : m < its.toArray.size), m < ns.idxOf z → eqU (.str z) its.toArray[m] = false := fun m h1 h2 => by
    have h3 : m < its.length := by simpa using h1
    rw [List.getElem_toArray, at_ m h3]
    simpa using List.not_of_lt_findIdx (p := fun y => y == z) (xs := ns) h2
  have hit : eqU (.str z) (its.toArray[ns.idxOf z]'(by rw [List.size_toArray]; omega)) = true := by
    rw [List.getElem_toArray, at_ _ (by omega), List.getElem_idxOf hj]
    exact beq_self_eq_true z
  refine call_meets F.slot_list_remove ⟨_, e, rfl⟩ F.entry_list_remove (F.args_list_remove_2 _ _)
    (MeetsSeq.list_remove l its.toArray n u (eqU (.str z)) (fun y hy prog w A E s Q h => mem_eqAt (A := A) (s := s) ru rfl r fl y (by simpa using hy) prog w E Q h) (ns.idxOf z) (by rw [List.size_toArray]; omega) hit hno (by rw [List.size_toArray]; omega)) ⟨e, ?_⟩
  refine ⟨.non, _, I.lset (its' := its.eraseIdx (ns.idxOf z)) hH e ?_ (by have := r.eraseIdx (ns.idxOf z); rw [erase_idx] at this; exact this) ?_, rfl, q⟩
  · show its.toArray.eraseIdxIfInBounds (ns.idxOf z) = _
    rw [List.eraseIdxIfInBounds_toArray]
  · rw [List.length_map]
    have := List.length_erase_le (a := z) (l := ns)
    omega
end
/-! ### loops -/
theorem forEnum {K : W.Frag} {a : Addr} {xs : List V} {g : TG} {tb : TS} {D : Ends} {σ : St} {H : Hp} (Pv : Nat → St → Hp → Prop) (h0 : Pv 0 σ H) (hl : ∀ i σ H, Pv i σ H → H a = some (.lst xs))
    (hs : ∀ i x σ H T, xs[i]? = some x → Pv i σ H → H T = none → g (.ref T) σ (upd H T (.tup [.int (i : Nat), x])) fun σ2 H2 => tb { D with nx := Pv (i + 1), ct := Pv (i + 1), bk := D.nx } σ2 H2) (hd : ∀ σ H, Pv xs.length σ H → D.nx σ H) :
    ∃ W : Nat → Nat → St → Hp → Prop, (∃ m, W 0 m σ H) ∧ ∀ i m σ H, W i m σ H →
      ((Ite K a).stop i H ∧ D.nx σ H) ∨ ((Ite K a).go i H ∧ ∃ N : St → Hp → Prop, (∀ σ' H', N σ' H' → ∃ m', m' < m ∧ W (i + 1) m' σ' H') ∧ ∀ x H', (Ite K a).yld i H x H' → g x σ H' fun σ2 H2 => tb { D with nx := N, ct := N, bk := D.nx } σ2 H2) := by
  refine ⟨fun i m σ H => m = xs.length - i ∧ i ≤ xs.length ∧ Pv i σ H, ⟨xs.length, by simp, Nat.zero_le _, h0⟩, ?_⟩
  intro i m σ H ⟨em, hi, p⟩
  subst em
  have q : SqL K H a xs := SqL.of (hl i σ H p)
  by_cases hlt : i < xs.length
  · refine .inr ⟨⟨xs, xs[i], q, List.getElem?_eq_getElem hlt⟩, Pv (i + 1), fun σ' H' p' => ⟨xs.length - (i + 1), by omega, rfl, hlt, p'⟩, fun x H' y => ?_⟩
    obtain ⟨T, z, ex, hT, eH, hz⟩ := y
    subst ex eH
    exact hs i z σ H T (hz xs q) p hT
  · have e : i = xs.length := by omega
    subst e
    exact .inl ⟨⟨xs, q, Nat.le_refl _⟩, hd σ H p⟩
/-- {k: v for i in range(n)} -/
theorem dcN {n : Nat} {g : TG} {tt : TT} {tk tv : TE} {vs : List Nat} {σ : St} {H1 : Hp} {D : Addr} {Qd : Hp → Prop} (Pv : Nat → Hp → Prop) (h0 : Pv 0 (upd H1 D (.dK [])))
    (hs : ∀ i H, i < n → Pv i H → g (.int (i : Nat)) (wipe σ vs) H fun σ2 H2 => wipe σ2 vs = wipe σ vs ∧ tt σ2 H2 fun b H3 =>
      if b = true then tk σ2 H3 fun y H4 => tv σ2 H4 fun z H5 => ∃ kvs k, y = kV k ∧ H5 D = some (.dK kvs) ∧ kvs.length < sizeLine ∧ Pv (i + 1) (upd H5 D (.dK (putK kvs k z))) else Pv (i + 1) H3) (hd : ∀ H, Pv n H → Qd H) :
    ∃ W : Nat → Nat → Hp → Prop, (∃ m, W 0 m (upd H1 D (.dK []))) ∧ ∀ i m H, W i m H →
      ((Itr 0 ((n : Int)).toNat).stop i H ∧ Qd H) ∨ ((Itr 0 ((n : Int)).toNat).go i H ∧ ∃ Nx : Hp → Prop, (∀ H', Nx H' → ∃ m', m' < m ∧ W (i + 1) m' H') ∧ ∀ x H', (Itr 0 ((n : Int)).toNat).yld i H x H' → g x (wipe σ vs) H' fun σ2 H2 => wipe σ2 vs = wipe σ vs ∧ tt σ2 H2 fun b H3 =>
        if b = true then tk σ2 H3 fun y H4 => tv σ2 H4 fun z H5 => ∃ kvs k, y = kV k ∧ H5 D = some (.dK kvs) ∧ kvs.length < sizeLine ∧ Nx (upd H5 D (.dK (putK kvs k z))) else Nx H3) := by
  have e : ((n : Int)).toNat = n := Int.toNat_natCast n
  rw [e]
  refine ⟨fun i m H => m = n - i ∧ i ≤ n ∧ Pv i H, ⟨n, by simp, Nat.zero_le _, h0⟩, ?_⟩
  intro i m H ⟨em, hi, p⟩
  subst em
  by_cases hlt : i < n
  · refine .inr ⟨hlt, Pv (i + 1), fun H' p' => ⟨n - (i + 1), by omega, rfl, hlt, p'⟩, fun x H' y => ?_⟩
    obtain ⟨eH, ex⟩ := y
    subst eH ex
    rw [Int.zero_add]
    exact hs i _ hlt p
  · have e : i = n := by omega
    subst e
    exact .inl ⟨Nat.le_refl _, hd H p⟩
section
variable {X : Cx} {tg o e : Expr} {es : List Expr} {to te : TE} {t : TA} {name : Str} {apos cpos : Pos} {T id : String} {r : V → List V → Hp → VK → Prop}
theorem pi_listK (K : W.Frag) (h : PE X e te) (hK : X.K = K := by rfl) : PI X tg e (iList K te) := by subst hK; exact pi_list h
theorem pi_tupK (K : W.Frag) (h : PE X e te) (hK : X.K = K := by rfl) : PI X tg e (iTup K te) := by subst hK; exact pi_tup h
theorem pe_bmK (K : W.Frag) (pa : PlainAttrs T) (slot : Slot T name id) (hty : typeOf (.builtin id) = pure (.type "method_descriptor")) (hm : MtR X id r) (ho : PE X o to) (ha : PA X (e :: es) t) (hbase : attributeBase o name X.env (eval o X.env) = eval o X.env := by rfl)
    (hfew : ((backTo cpos (starEach (e :: es) X.env)).all (fun x => !x.1) && (backToKw cpos (keywordEach [] X.env)).all (fun x => x.1.isSome) && decide ((e :: es).length + ([] : List Keyword).length + (if ([] : List Keyword).isEmpty then 0 else 1) < 30)) = true := by rfl)
    (hline : (apos.endLine == cpos.line) = true := by rfl) (hs : starEach (e :: es) X.env = (false, eval e X.env) :: starEach es X.env := by rfl) (hplain : (backTo cpos (starEach es X.env)).any (·.1) = false := by rfl) (hK : X.K = K := by rfl) :
    PE X (.Call (.Attribute o name apos) (e :: es) [] cpos) (tBM K T r to t) := by subst hK; exact pe_bm pa slot hty hm ho ha hbase hfew hline hs hplain
end
theorem all2_rg (a b : Nat) (H : Hp) : All2 vN (List.range' a (b - a)) (rgV (a : Int) (b : Int)) H := by
  refine all2N.mpr ?_
  unfold rgV
  have e : ((b : Int) - (a : Int)).toNat = b - a := by omega
  rw [e, List.range'_eq_map_range, List.map_map]
  refine List.map_congr_left fun i _ => ?_
  show V.int ((a : Int) + (i : Nat)) = V.int (((a + i : Nat) : Int))
  rw [Int.natCast_add]
theorem all2_rg0 (b : Nat) (H : Hp) : All2 vN (List.range b) (rgV 0 (b : Int)) H := by
  have := all2_rg 0 b H
  rw [Nat.sub_zero, ← List.range_eq_range'] at this
  exact this
theorem putK_new {κ : Type} [DecidableEq κ] {kvs : List (κ × V)} {k : κ} {v : V} (h : k ∉ kvs.map (·.1)) : putK kvs k v = kvs ++ [(k, v)] := by
  unfold putK
  rw [if_neg]
  intro z
  obtain ⟨q, h1, h2⟩ := List.any_eq_true.mp z
  exact h (List.mem_map.mpr ⟨q, h1, of_decide_eq_true h2⟩)
end Elk
set_option Elab.async false
set_option linter.all false
set_option maxRecDepth 100000
set_option maxHeartbeats 4000000
namespace Elk
open PySem PySem.Spec PyProof.Rows L2
def sp_check_asker (K : W.Frag) : Sp := Pm (ι := Row) (fun r vs F => ∃ v, vs = [v] ∧ vA K r v F) (fun _ v _ => v = .non)
section
variable {P : Program} {w : World} {K : W.Frag} {mg : Str → Option Value} {base : Heap}
abbrev N_Asker_init : List Str := ["self", "name", "fits", "most"]
theorem sc_Asker_init : FnScope N_Asker_init ["self", "name", "fits", "most"] (defScope s_Asker_init) := ⟨rfl, rfl, rfl, by decide +kernel, rfl, by decide +kernel, by decide +kernel⟩
theorem ok_Asker_init (T : Tp K mg) : Ok P w K mg base 4 (He.ma K (He.ga K "Asker") "__init__") ["self", "name", "fits", "most"] (sp_Asker_init K) := by
  obtain ⟨fd_is_name, G_is_name, b_is_name, k_is_name⟩ := ok_is_name (P := P) (w := w) (base := base) T
  obtain ⟨fd_are_names, G_are_names, b_are_names, k_are_names⟩ := ok_are_names (P := P) (w := w) (base := base) T
  obtain ⟨fd_is_count, G_is_count, b_is_count, k_is_count⟩ := ok_is_count (P := P) (w := w) (base := base) T
  refine mk_ok (F_Asker_init T) sc_Asker_init ?_ (fun _ _ _ _ _ _ us hl => match us, hl with | [_, _, _, _], _ => rfl) (fun cdv A outer s H vs Q E hr h => ?_)
  · rintro vs H Q E ⟨x, dx, F, name, fits, fv, most, rfl, _⟩
    rfl
  obtain ⟨x, dx, F, name, fits, fv, most, rfl, hx, sm, fx, hf, hn, fo, hm, k⟩ := h
  refine ⟨_, (pss_cons (ps_if (pt_not (pt_val (pe_call G_is_name (hr.mono (by decide)) rfl (g_is_name T) k_is_name b_is_name .nil pass0 (pa_cons (pv 1) pa_nil))))
      (pss_one ps_never)
      pss_nil)
    (pss_cons (ps_if (PW.pt (pw_or (pt_not (pt_val (pe_call G_are_names (hr.mono (by decide)) rfl (g_are_names T) k_are_names b_are_names .nil pass0 (pa_cons (pv 2) pa_nil)))) (pw_or1 (pt_eq0 vS hr.units (pv 2)))))
      (pss_one ps_never)
      pss_nil)
    (pss_cons (ps_if (PW.pt (pw_or (pt_not (pt_val (pe_call G_is_count (hr.mono (by decide)) rfl (g_is_count T) k_is_count b_is_count .nil pass0 (pa_cons (pv 3) pa_nil)))) (pw_or1 (pt_cmpR (opF_eq vI hr.units) (pv 3) pe_int (nomark _)))))
      (pss_one ps_never)
      pss_nil)
    (pss_one (ps_fld (pv 0) (pe_tup (pa_cons (pv 1) (pa_cons (pe_callTy (cr_tupF vS) (by rfl) (n_tuple T) (by decide +kernel) (pa_cons (pe_callB (cr_sortF vS hr.units slo_str sortK_str) (by rfl) (n_sorted T) (by decide +kernel) (pa_cons (pv 2) pa_nil)) pa_nil)) (pa_cons (pv 3) pa_nil)))) rfl))))), ?_⟩
  refine ⟨_, rfl, name, F, sm, ⟨rfl, hn⟩, fun u F1 H1 g1 hu => ?_⟩
  have eu : u = .bl true := hu
  subst eu
  refine ⟨true, rfl, iteF ?_⟩
  refine ⟨_, rfl, fits, F1, g1.i, ⟨fv, rfl, Mo.mo g1.f hf, fo.ok, fo.nd, fo.len⟩, fun u F2 H2 g2 hu => ?_⟩
  have eu : u = .bl true := hu
  subst eu
  have g2 := g1.trans g2
  refine ⟨true, rfl, iteF ?_⟩
  refine ⟨_, rfl, F2, fits, g2.i, (Mo.mo g2.f hf).m g2.i, fun F3 H3 g3 => ?_⟩
  have g3 := g2.trans g3
  rw [show fits.isEmpty = false from by
    have := fo.ne
    cases fits with
    | nil => exact absurd rfl this
    | cons _ _ => rfl]
  refine iteF ?_
  refine ⟨_, rfl, most, _, g3.i, ⟨rfl, by omega⟩, fun u F4 H4 g4 hu => ?_⟩
  have eu : u = .bl true := hu
  subst eu
  have g4 := g3.trans g4
  refine ⟨true, rfl, iteF ?_⟩
  refine ⟨_, rfl, F4, most, 0, g4.i, rfl, rfl, _, rfl, ?_⟩
  rw [decide_eq_false (by omega)]
  refine iteF ?_
  refine ⟨_, rfl, _, rfl, F4, fv, fits, rfl, g4.i, (Mo.mo g4.f hf).m g4.i, fun q ys hq hys => ?_⟩
  have g5 := g4.trans (Grow.put (o := .lst ys) g4.i hq)
  have s5 : Same F4 (upd F4 q (.lst ys)) := same_upd (g4.i.free hq)
  refine ⟨_, _, _, rfl, g5.i, ⟨q, ys, rfl, upd_same, hys.mo s5⟩, fun tv F6 H6 g6 ht => ?_⟩
  have g6 := g5.trans g6
  refine ⟨_, rfl, by show 3 ≤ sizeLine; decide, fun t ht0 => ?_⟩
  have g7 := g6.trans (Grow.put (o := .tup [.str name, tv, .int most]) g6.i ht0)
  refine ⟨_, rfl, x, _, dx, [], rfl, g7.h _ _ hx, cls_Asker T, noat_Asker_row T, by decide, ?_⟩
  refine k _ _ (g7.fill hx fx) ⟨x, dx, t, rfl, upd_same, ?_⟩
  have hne : x ≠ t := ne_of_none (g6.h _ _ hx) ht0
  have s7 : Same F6 (upd (upd F6 t (.tup [.str name, tv, .int most])) x (.ins (cA K) dx [("row", .ref t)])) := (same_upd (g6.i.free ht0)).trans (same_upd (g7.out hx fx))
  exact ⟨t, _, _, _, rfl, by rw [upd_ne (Ne.symm hne)]; exact upd_same, rfl, Mo.mo s7 ht, rfl⟩
/-- a getter's rule, out of its function -/
theorem getter_ok {f qual : Str} {st : Stmt} {k : Nat} {sp : Sp} {N : List Str} (h : GetterOf K f qual st) (S : FnScope N ["self"] (defScope st)) (len : ∀ vs H Q E, sp vs H Q E → vs.length = 1)
    (bnd : ∀ (kV doc pm : Value) (an : Option Addr) (cdv ct : Value) (us : List Value), us.length = 1 → bindArgs (W.fnOf f qual (defArgs st) (defBody st) (defScope st) .none kV doc pm an cdv ct) ⟨us, []⟩ = pure ((["self"] : List Str).zip us))
    (body : ∀ (g : Addr) (cdv : Value) (A : Around) (outer : List Env) (s : Shared) (H : Hp) (vs : List V) (Q : VK) (E : XK), Room k (A.deeper (envOfC qual (defScope st) s.heap.objs.size g cdv)) → sp vs H Q E →
      ∃ t, PSs (cxOf CX0 P w K mg base N qual (defScope st) g cdv A outer s H E).nox (defBody st) t ∧ t { nx := fun _ H' => Q .non H', rt := Q } (start N vs) H) :
    ∃ pa ga fd, PropOf K (cA K) f pa ga ∧ FnOk P w K mg base CX0 (k + 1) ga fd ["self"] sp ∧ L2.Binds K fd ["self"] [] := by
  obtain ⟨pa, ga, fd, hp, F⟩ := h
  refine ⟨pa, ga, fd, hp, F.ok S len fun cdv A outer s H vs Q E hr h => ?_, FunD.bindsN F bnd⟩
  obtain ⟨t, ht, q⟩ := body ga cdv A outer s H vs Q E hr h
  exact ⟨t, ht.nox, q⟩
abbrev N_Asker_name : List Str := ["self"]
theorem sc_Asker_name : FnScope N_Asker_name ["self"] (defScope s_Asker_name) := ⟨rfl, rfl, rfl, by decide +kernel, rfl, by decide +kernel, by decide +kernel⟩
theorem ok_Asker_name (T : Tp K mg) : ∃ pa ga fd, PropOf K (cA K) "name" pa ga ∧ FnOk P w K mg base CX0 1 ga fd ["self"] (sp_Asker_name K) ∧ L2.Binds K fd ["self"] [] := by
  refine getter_ok T.pname sc_Asker_name ?_ (fun _ _ _ _ _ _ us hl => match us, hl with | [_], _ => rfl) (fun ga cdv A outer s H vs Q E hr h => ?_)
  · rintro vs H Q E ⟨r, F, _, ⟨v, rfl, _⟩, _⟩
    rfl
  obtain ⟨r, F, sm, ⟨v, rfl, hv⟩, k⟩ := h
  refine ⟨_, (pss_one (ps_ret (pe_ix (ix3a vS (vT vS) vI) (pe_row T (pv 0) rfl) pe_int (fun _ _ => rfl)))), ?_⟩
  refine ⟨_, rfl, F, r, sm, hv, fun u hu => ?_⟩
  exact ⟨F, r, sm, hu, rfl, fun z hz => k _ _ _ (Grow.refl sm) hz⟩
abbrev N_Asker_fits : List Str := ["self"]
theorem sc_Asker_fits : FnScope N_Asker_fits ["self"] (defScope s_Asker_fits) := ⟨rfl, rfl, rfl, by decide +kernel, rfl, by decide +kernel, by decide +kernel⟩
theorem ok_Asker_fits (T : Tp K mg) : ∃ pa ga fd, PropOf K (cA K) "fits" pa ga ∧ FnOk P w K mg base CX0 1 ga fd ["self"] (sp_Asker_fits K) ∧ L2.Binds K fd ["self"] [] := by
  refine getter_ok T.pfits sc_Asker_fits ?_ (fun _ _ _ _ _ _ us hl => match us, hl with | [_], _ => rfl) (fun ga cdv A outer s H vs Q E hr h => ?_)
  · rintro vs H Q E ⟨r, F, _, ⟨v, rfl, _⟩, _⟩
    rfl
  obtain ⟨r, F, sm, ⟨v, rfl, hv⟩, k⟩ := h
  refine ⟨_, (pss_one (ps_ret (pe_callTy (cr_lstT vS) (by rfl) (n_list T) (by decide +kernel) (pa_cons (pe_ix (ix3b vS (vT vS) vI) (pe_row T (pv 0) rfl) pe_int (fun _ _ => rfl)) pa_nil)))), ?_⟩
  refine ⟨_, rfl, F, r, sm, hv, fun u hu => ?_⟩
  exact ⟨F, r, sm, hu, rfl, fun z hz => ⟨F, z, _, rfl, sm, hz, k⟩⟩
abbrev N_Asker_eq : List Str := ["self", "other"]
theorem sc_Asker_eq : FnScope N_Asker_eq ["self", "other"] (defScope s_Asker_eq) := ⟨rfl, rfl, rfl, by decide +kernel, rfl, by decide +kernel, by decide +kernel⟩
theorem ok_Asker_eq (T : Tp K mg) : Ok P w K mg base 1 (He.ma K (He.ga K "Asker") "__eq__") ["self", "other"] (sp_Asker_eq K) := by
  refine mk_ok (F_Asker_eq T) sc_Asker_eq ?_ (fun _ _ _ _ _ _ us hl => match us, hl with | [_, _], _ => rfl) (fun cdv A outer s H vs Q E hr h => ?_)
  · rintro vs H Q E ⟨i, F, _, ⟨u, v, rfl, _⟩, _⟩
    rfl
  obtain ⟨⟨r, r'⟩, F, sm, ⟨u, v, rfl, hu, hv⟩, k⟩ := h
  refine ⟨_, (pss_one (ps_ret (pe_and (pe_callB (isiA T) (by rfl) (n_isinstance T) (by decide +kernel) (pa_cons (pv 1) (pa_cons (pe_glob (v := .ref (He.ga K "Asker")) rfl (g_Asker T) rfl) pa_nil))) (pe_one (pe_cmpR (opF_eq vRow hr.units) (pe_row T (pv 0) rfl) (pe_row T (pv 1) rfl) (nomark _)))))), ?_⟩
  refine ⟨_, rfl, F, r', _, rfl, sm, hv, true, rfl, iteT ?_⟩
  refine ⟨_, rfl, F, r, sm, hu, fun u1 hu1 => ?_⟩
  refine ⟨_, rfl, F, r', sm, hv, fun u2 hu2 => ?_⟩
  exact ⟨F, r, r', sm, hu1, hu2, k _ _ _ (Grow.refl sm) rfl⟩
abbrev N_check_asker : List Str := ["value"]
theorem sc_check_asker : FnScope N_check_asker ["value"] (defScope s_check_asker) := ⟨rfl, rfl, rfl, by decide +kernel, rfl, by decide +kernel, by decide +kernel⟩
theorem ok_check_asker (T : Tp K mg) : Ok P w K mg base 1 (He.ga K "check_asker") ["value"] (sp_check_asker K) := by
  refine mk_ok (F_check_asker T) sc_check_asker ?_ (fun _ _ _ _ _ _ us hl => match us, hl with | [_], _ => rfl) (fun cdv A outer s H vs Q E hr h => ?_)
  · rintro vs H Q E ⟨i, F, _, ⟨v, rfl, _⟩, _⟩
    rfl
  obtain ⟨r, F, sm, ⟨v, rfl, hv⟩, k⟩ := h
  refine ⟨_, (pss_one (ps_if (pt_not (pt_val (pe_callB (isiA T) (by rfl) (n_isinstance T) (by decide +kernel) (pa_cons (pv 0) (pa_cons (pe_glob (v := .ref (He.ga K "Asker")) rfl (g_Asker T) rfl) pa_nil)))))
      (pss_one ps_never)
      pss_nil)), ?_⟩
  exact ⟨_, rfl, F, r, _, rfl, sm, hv, true, rfl, iteF (k _ _ _ (Grow.refl sm) rfl)⟩
end
end Elk
set_option Elab.async false
set_option linter.all false
set_option maxRecDepth 100000
set_option maxHeartbeats 4000000
namespace Elk
open PySem PySem.Spec PyProof.Rows L2
def namesR (rs : List Row) : List Str := rs.map (·.a)
structure LineOk (rs : List Row) : Prop where
  nd : (namesR rs).Nodup
  len : rs.length ≤ 100
  nm : ∀ r ∈ rs, NameOk r.a
  fits : ∀ r ∈ rs, r.b.items.length ≤ 1000
theorem LineOk.rows {rs : List Row} (h : LineOk rs) : RowsOk rs := ⟨h.len, h.fits⟩
theorem LineOk.perm {rs rs' : List Row} (h : LineOk rs) (p : rs'.Perm rs) : LineOk rs' :=
  ⟨(p.map fun r : Row => r.a).nodup_iff.mpr h.nd, by rw [p.length_eq]; exact h.len, fun r hr => h.nm r (p.mem_iff.mp hr), fun r hr => h.fits r (p.mem_iff.mp hr)⟩
theorem isort_perm_eq {α : Type} {lt : α → α → Bool} (O : Slo lt) {xs ys : List α} (p : xs.Perm ys) : isort lt xs = isort lt ys := isort_of O ((isort_perm lt xs).trans p) (isort_srtd O xs)
theorem vLine.at_ {K : W.Frag} {F H : Hp} {rs : List Row} {x : V} (h : vLine K rs x F) (s : Same F H) {m : Str} (hm : (m == ("all" : Str)) = false) (hm2 : (m == ("every" : Str)) = false) {R : Prop} (k : R) :
    ∃ a dx fs, x = .ref a ∧ H a = some (.ins (cL K) dx fs) ∧ fs.lookup m = none ∧ R := by
  obtain ⟨a, dx, t1, t2, e, g, _, _⟩ := h
  refine ⟨a, dx, _, e, s _ _ g, ?_, k⟩
  simp only [List.lookup, hm, hm2]
theorem vM.ty {K : W.Frag} {α : Type} {p : VP α} {xs : List α} {v : V} {F H : Hp} (h : vM p xs v F H) : tyV K "list" v H := by
  obtain ⟨a, vs, e, g, _⟩ := h
  subst e
  exact .inl ⟨rfl, _, SqL.of g⟩
theorem filter_tt {α : Type} (xs : List α) : (xs.filter fun _ => true) = xs := List.filter_eq_self.mpr fun _ _ => rfl
def sp_check_line (K : W.Frag) : Sp := Pm (ι := List Row) (fun rs vs F => ∃ v, vs = [v] ∧ vLine K rs v F) (fun _ v _ => v = .non)
def sp_check_count : Sp := Pm (ι := Int × Int) (fun i vs F => vs = [.int i.1, .int i.2] ∧ 0 ≤ i.1 ∧ i.1 ≤ i.2) (fun _ v _ => v = .non)
def sp_Line_init (K : W.Frag) : Sp := fun vs H Q _ => ∃ (x dx : Addr) (F : Hp) (rs : List Row) (v : V), vs = [.ref x, v] ∧ H x = some (.ins (cL K) dx []) ∧ Same F H ∧ F x = none ∧ vL (vA K) rs v F ∧ LineOk rs ∧
  ∀ F' H', GrowX x F H F' H' → vLine K rs (.ref x) F' → Q .non H'
def sp_Line_eq (K : W.Frag) : Sp := Pm (ι := List Row × List Row) (fun i vs F => ∃ u v, vs = [u, v] ∧ vLine K i.1 u F ∧ vLine K i.2 v F) (fun i v _ => v = .bl (decide (i.1 = i.2)))
def sp_Line_names (K : W.Frag) : Sp := Pm (ι := List Row) (fun rs vs F => ∃ v, vs = [v] ∧ vLine K rs v F ∧ rs.length ≤ 100) (fun rs v F => vL vS (namesR rs) v F)
def sp_Line_askers (K : W.Frag) : Sp := Pm (ι := List Row) (fun rs vs F => ∃ v, vs = [v] ∧ vLine K rs v F) (fun rs v F => vL (vA K) rs v F)
def sp_check_known (K : W.Frag) : Sp := Pm (ι := List Row × Str) (fun i vs F => ∃ v, vs = [v, .str i.2] ∧ vLine K i.1 v F ∧ i.1.length ≤ 100 ∧ i.2 ∈ namesR i.1) (fun _ v _ => v = .non)
/-- the row r at place i of rs -/
structure AtP (rs : List Row) (i : Nat) (r : Row) : Prop where
  nd : (namesR rs).Nodup
  len : rs.length ≤ 100
  at_ : rs[i]? = some r
theorem AtP.lt {rs : List Row} {i : Nat} {r : Row} (h : AtP rs i r) : i < rs.length := (List.getElem?_eq_some_iff.mp h.at_).1
theorem AtP.mem {rs : List Row} {i : Nat} {r : Row} (h : AtP rs i r) : r.a ∈ namesR rs := List.mem_map.mpr ⟨r, List.mem_of_getElem? h.at_, rfl⟩
theorem AtP.idx {rs : List Row} {i : Nat} {r : Row} (h : AtP rs i r) : (namesR rs).idxOf r.a = i := by
  have hl : i < (namesR rs).length := by rw [namesR, List.length_map]; exact h.lt
  have e : (namesR rs)[i] = r.a := by
    have := h.at_
    have e2 : (namesR rs)[i]? = some r.a := by rw [namesR, List.getElem?_map, this]; rfl
    exact (List.getElem?_eq_some_iff.mp e2).2
  rw [← e]
  exact h.nd.idxOf_getElem i hl
def sp_Line_place (K : W.Frag) : Sp := Pm (ι := List Row × Nat × Row) (fun i vs F => ∃ v, vs = [v, .str i.2.2.a] ∧ vLine K i.1 v F ∧ AtP i.1 i.2.1 i.2.2) (fun i v _ => v = .int (i.2.1 : Int))
def sp_Line_asker (K : W.Frag) : Sp := Pm (ι := List Row × Nat × Row) (fun i vs F => ∃ v, vs = [v, .str i.2.2.a] ∧ vLine K i.1 v F ∧ AtP i.1 i.2.1 i.2.2) (fun i v F => vA K i.2.2 v F)
def sp_Line_ordered (K : W.Frag) : Sp := Pm (ι := List Row × List Row) (fun i vs F => ∃ u v, vs = [u, v] ∧ vLine K i.1 u F ∧ vL vS (namesR i.2) v F ∧ LineOk i.1 ∧ i.2.Perm i.1) (fun i v F => vLine K i.2 v F)
section
variable {P : Program} {w : World} {K : W.Frag} {mg : Str → Option Value} {base : Heap}
abbrev N_check_line : List Str := ["value"]
theorem sc_check_line : FnScope N_check_line ["value"] (defScope s_check_line) := ⟨rfl, rfl, rfl, by decide +kernel, rfl, by decide +kernel, by decide +kernel⟩
theorem ok_check_line (T : Tp K mg) : Ok P w K mg base 1 (He.ga K "check_line") ["value"] (sp_check_line K) := by
  refine mk_ok (F_check_line T) sc_check_line ?_ (fun _ _ _ _ _ _ us hl => match us, hl with | [_], _ => rfl) (fun cdv A outer s H vs Q E hr h => ?_)
  · rintro vs H Q E ⟨i, F, _, ⟨v, rfl, _⟩, _⟩
    rfl
  obtain ⟨rs, F, sm, ⟨v, rfl, hv⟩, k⟩ := h
  refine ⟨_, (pss_one (ps_if (pt_not (pt_val (pe_callB (isiLn T) (by rfl) (n_isinstance T) (by decide +kernel) (pa_cons (pv 0) (pa_cons (pe_glob (v := .ref (He.ga K "Line")) rfl (g_Line T) rfl) pa_nil)))))
      (pss_one ps_never)
      pss_nil)), ?_⟩
  exact ⟨_, rfl, F, rs, _, rfl, sm, hv, true, rfl, iteF (k _ _ _ (Grow.refl sm) rfl)⟩
abbrev N_Line_names : List Str := ["self", "row"]
theorem sc_Line_names : FnScope N_Line_names ["self"] (defScope s_Line_names) := ⟨rfl, rfl, rfl, by decide +kernel, rfl, by decide +kernel, by decide +kernel⟩
theorem ok_Line_names (T : Tp K mg) : Ok P w K mg base 1 (He.ma K (He.ga K "Line") "names") ["self"] (sp_Line_names K) := by
  refine mk_ok (F_Line_names T) sc_Line_names ?_ (fun _ _ _ _ _ _ us hl => match us, hl with | [_], _ => rfl) (fun cdv A outer s H vs Q E hr h => ?_)
  · rintro vs H Q E ⟨i, F, _, ⟨v, rfl, _⟩, _⟩
    rfl
  obtain ⟨rs, F, sm, ⟨v, rfl, hv, hn⟩, k⟩ := h
  refine ⟨_, (pss_one (ps_ret (pe_lc (own := [("row", 1)]) (g := gName 1) rfl sc_Line_names.nd (pi_tup (pe_every T (pv 0) rfl)) (blkOk_by (N := N_Line_names) (sc := defScope s_Line_names) (by decide +kernel)) (fun _ _ _ _ _ => (pg_name (i := 1) sc_Line_names.nd rfl (by first | exact Or.inl rfl | exact Or.inr rfl))) (fun _ _ _ _ _ => pts_nil) (fun _ _ _ _ _ => (pe_ix (ix3a vS (vT vS) vI) (pv 1) pe_int (fun _ _ => rfl)))))), ?_⟩
  refine ⟨_, rfl, F, rs, sm, hv, fun u hu => ?_⟩
  obtain ⟨a, vs, rfl, ha, l⟩ := hu
  refine ⟨a, rfl, ⟨_, SqT.of (sm _ _ ha)⟩, fun D hD => ?_⟩
  refine lcT (p := vRow) (q := vS) (f := fun r => r.a) (t := fun _ => true) sm hD (sm _ _ ha) l (Nat.le_trans hn (by decide)) ?_ ?_
  · intro r y F' H' _ g hx N Y hN hY
    exact ⟨rfl, _, rfl, F', r, g.i, hx, rfl, fun z hz => hY _ F' H' (Grow.refl g.i) rfl hz⟩
  · intro F2 H2 g hl
    rw [filter_tt] at hl
    exact k _ _ _ g hl
abbrev N_Line_askers : List Str := ["self"]
theorem sc_Line_askers : FnScope N_Line_askers ["self"] (defScope s_Line_askers) := ⟨rfl, rfl, rfl, by decide +kernel, rfl, by decide +kernel, by decide +kernel⟩
theorem ok_Line_askers (T : Tp K mg) : Ok P w K mg base 1 (He.ma K (He.ga K "Line") "askers") ["self"] (sp_Line_askers K) := by
  refine mk_ok (F_Line_askers T) sc_Line_askers ?_ (fun _ _ _ _ _ _ us hl => match us, hl with | [_], _ => rfl) (fun cdv A outer s H vs Q E hr h => ?_)
  · rintro vs H Q E ⟨i, F, _, ⟨v, rfl, _⟩, _⟩
    rfl
  obtain ⟨rs, F, sm, ⟨v, rfl, hv⟩, k⟩ := h
  refine ⟨_, (pss_one (ps_ret (pe_callTy (cr_lstT (vA K)) (by rfl) (n_list T) (by decide +kernel) (pa_cons (pe_all T (pv 0) rfl) pa_nil)))), ?_⟩
  exact ⟨_, rfl, F, rs, sm, hv, fun u hu => ⟨F, u, rs, rfl, sm, hu, k⟩⟩
abbrev N_Line_eq : List Str := ["self", "other"]
theorem sc_Line_eq : FnScope N_Line_eq ["self", "other"] (defScope s_Line_eq) := ⟨rfl, rfl, rfl, by decide +kernel, rfl, by decide +kernel, by decide +kernel⟩
theorem ok_Line_eq (T : Tp K mg) : Ok P w K mg base 1 (He.ma K (He.ga K "Line") "__eq__") ["self", "other"] (sp_Line_eq K) := by
  refine mk_ok (F_Line_eq T) sc_Line_eq ?_ (fun _ _ _ _ _ _ us hl => match us, hl with | [_, _], _ => rfl) (fun cdv A outer s H vs Q E hr h => ?_)
  · rintro vs H Q E ⟨i, F, _, ⟨u, v, rfl, _⟩, _⟩
    rfl
  obtain ⟨⟨rs, rs'⟩, F, sm, ⟨u, v, rfl, hu, hv⟩, k⟩ := h
  refine ⟨_, (pss_one (ps_ret (pe_and (pe_callB (isiLn T) (by rfl) (n_isinstance T) (by decide +kernel) (pa_cons (pv 1) (pa_cons (pe_glob (v := .ref (He.ga K "Line")) rfl (g_Line T) rfl) pa_nil))) (pe_one (pe_cmpR (opF_eq (vT vRow) hr.units) (pe_every T (pv 0) rfl) (pe_every T (pv 1) rfl) (nomark _)))))), ?_⟩
  refine ⟨_, rfl, F, rs', _, rfl, sm, hv, true, rfl, iteT ?_⟩
  refine ⟨_, rfl, F, rs, sm, hu, fun u1 hu1 => ?_⟩
  refine ⟨_, rfl, F, rs', sm, hv, fun u2 hu2 => ?_⟩
  refine ⟨F, ⟨rs⟩, ⟨rs'⟩, sm, hu1, hu2, k _ _ _ (Grow.refl sm) ?_⟩
  show V.bl _ = V.bl _
  congr 1
  exact decide_eq_decide.mpr ⟨fun h => by injection h, fun h => congrArg W.Tup.mk h⟩
abbrev N_check_known : List Str := ["line", "name"]
theorem sc_check_known : FnScope N_check_known ["line", "name"] (defScope s_check_known) := ⟨rfl, rfl, rfl, by decide +kernel, rfl, by decide +kernel, by decide +kernel⟩
theorem ok_check_known (T : Tp K mg) : Ok P w K mg base 2 (He.ga K "check_known") ["line", "name"] (sp_check_known K) := by
  obtain ⟨fdL_names, GL_names, bL_names, kL_names⟩ := ok_Line_names (P := P) (w := w) (base := base) T
  refine mk_ok (F_check_known T) sc_check_known ?_ (fun _ _ _ _ _ _ us hl => match us, hl with | [_, _], _ => rfl) (fun cdv A outer s H vs Q E hr h => ?_)
  · rintro vs H Q E ⟨i, F, _, ⟨v, rfl, _⟩, _⟩
    rfl
  obtain ⟨⟨rs, z⟩, F, sm, ⟨v, rfl, hv, hn, hm⟩, k⟩ := h
  refine ⟨_, (pss_one (ps_if (PW.pt (pw_or (pt_not (pt_val (pe_callB isiStr (by rfl) (n_isinstance T) (by decide +kernel) (pa_cons (pv 1) (pa_cons (pe_bltn (v := .ty "str") (u := .type "str") (by rfl) (n_str T) (by decide +kernel) rfl) pa_nil))))) (pw_or1 (pt_cmpR (op_notInL vS hr.units) (pv 1) (pe_meth0 (pv 0) (cls_Line T) (m_Line_names T) GL_names (hr.mono (by decide)) bL_names .nil pass0) rfl))))
      (pss_one ps_never)
      pss_nil)), ?_⟩
  refine ⟨_, rfl, z, rfl, true, rfl, iteF ?_⟩
  refine ⟨_, rfl, _, rfl, hv.at_ sm rfl rfl ⟨rs, F, sm, ⟨_, rfl, hv, hn⟩, fun u F2 H2 g hu => ?_⟩⟩
  refine ⟨F2, z, namesR rs, g.i, rfl, hu.m g.i, _, rfl, ?_⟩
  rw [decide_eq_false (fun h => h hm)]
  exact iteF (k _ _ _ g rfl)
abbrev N_Line_place : List Str := ["self", "name"]
theorem sc_Line_place : FnScope N_Line_place ["self", "name"] (defScope s_Line_place) := ⟨rfl, rfl, rfl, by decide +kernel, rfl, by decide +kernel, by decide +kernel⟩
theorem ok_Line_place (T : Tp K mg) : Ok P w K mg base 3 (He.ma K (He.ga K "Line") "place") ["self", "name"] (sp_Line_place K) := by
  obtain ⟨fd_check_known, G_check_known, b_check_known, k_check_known⟩ := ok_check_known (P := P) (w := w) (base := base) T
  obtain ⟨fdL_names, GL_names, bL_names, kL_names⟩ := ok_Line_names (P := P) (w := w) (base := base) T
  refine mk_ok (F_Line_place T) sc_Line_place ?_ (fun _ _ _ _ _ _ us hl => match us, hl with | [_, _], _ => rfl) (fun cdv A outer s H vs Q E hr h => ?_)
  · rintro vs H Q E ⟨i, F, _, ⟨v, rfl, _⟩, _⟩
    rfl
  obtain ⟨⟨rs, i, r⟩, F, sm, ⟨v, rfl, hv, ap⟩, k⟩ := h
  refine ⟨_, (pss_cons (ps_expr (pe_call G_check_known (hr.mono (by decide)) rfl (g_check_known T) k_check_known b_check_known .nil pass0 (pa_cons (pv 0) (pa_cons (pv 1) pa_nil))))
    (pss_one (ps_ret (pe_bm PySem.F.plainAttrs_list PySem.F.slot_list_index PySem.F.type_list_index mt_idxS (pe_meth0 (pv 0) (cls_Line T) (m_Line_names T) GL_names (hr.mono (by decide)) bL_names .nil pass0) (pa_cons (pv 1) pa_nil))))), ?_⟩
  refine ⟨_, rfl, _, rfl, (rs, r.a), F, sm, ⟨_, rfl, hv, ap.len, ap.mem⟩, fun u F1 H1 g1 hu => ?_⟩
  refine ⟨_, rfl, (Mo.mo g1.f hv).at_ g1.i rfl rfl ⟨rs, F1, g1.i, ⟨_, rfl, Mo.mo g1.f hv, ap.len⟩, fun u2 F2 H2 g2 hu2 => ?_⟩⟩
  refine ⟨(hu2.m g2.i).ty, _, rfl, F2, r.a, namesR rs, rfl, hu2.m g2.i, ap.mem, ?_⟩
  rw [ap.idx]
  exact k _ _ _ (g1.trans g2) rfl
abbrev N_Line_asker : List Str := ["self", "name"]
theorem sc_Line_asker : FnScope N_Line_asker ["self", "name"] (defScope s_Line_asker) := ⟨rfl, rfl, rfl, by decide +kernel, rfl, by decide +kernel, by decide +kernel⟩
theorem ok_Line_asker (T : Tp K mg) : Ok P w K mg base 4 (He.ma K (He.ga K "Line") "asker") ["self", "name"] (sp_Line_asker K) := by
  obtain ⟨fdL_place, GL_place, bL_place, kL_place⟩ := ok_Line_place (P := P) (w := w) (base := base) T
  refine mk_ok (F_Line_asker T) sc_Line_asker ?_ (fun _ _ _ _ _ _ us hl => match us, hl with | [_, _], _ => rfl) (fun cdv A outer s H vs Q E hr h => ?_)
  · rintro vs H Q E ⟨i, F, _, ⟨v, rfl, _⟩, _⟩
    rfl
  obtain ⟨⟨rs, i, r⟩, F, sm, ⟨v, rfl, hv, ap⟩, k⟩ := h
  refine ⟨_, (pss_one (ps_ret (pe_ix (ixT (vA K)) (pe_all T (pv 0) rfl) (pe_meth (pv 0) (cls_Line T) (m_Line_place T) GL_place (hr.mono (by decide)) bL_place .nil pass0 (pa_cons (pv 1) pa_nil)) (fun _ _ => rfl)))), ?_⟩
  refine ⟨_, rfl, F, rs, sm, hv, fun u hu => ?_⟩
  refine ⟨_, rfl, hv.at_ sm rfl rfl ⟨_, rfl, (rs, i, r), F, sm, ⟨_, rfl, hv, ap⟩, fun u2 F2 H2 g2 hu2 => ?_⟩⟩
  exact ⟨F2, rs, i, r, g2.i, Mo.mo g2.f hu, hu2, ap.at_, fun z hz => k _ _ _ g2 hz⟩
end
end Elk
set_option Elab.async false
set_option linter.all false
set_option maxRecDepth 100000
set_option maxHeartbeats 4000000
namespace Elk
open PySem PySem.Spec PyProof.Rows L2
theorem no_t {b : Bool} {A B : Prop} (hb : b = false) (h : B) : if b = true then A else B := by subst hb; exact iteF h
theorem yes_t {b : Bool} {A B : Prop} (hb : b = true) (h : A) : if b = true then A else B := by subst hb; exact iteT h
theorem filter_ff {α : Type} (xs : List α) : (xs.filter fun _ => false) = [] := List.filter_eq_nil_iff.mpr fun _ _ => Bool.false_ne_true
theorem GrowX.trans {x : Addr} {F H F1 H1 F2 H2 : Hp} (g : GrowX x F H F1 H1) (h : GrowX x F1 H1 F2 H2) : GrowX x F H F2 H2 :=
  ⟨fun b o e q => h.h _ _ (g.h _ _ e q) q, g.f.trans h.f, h.i, fun b o e => by
    by_cases q : b = x
    · exact .inr (.inr q)
    rcases h.n b o e with z | z | z
    · exact g.n b o z
    · refine .inr (.inl ?_)
      cases eb : H b with
      | none => rfl
      | some u => rw [g.h _ _ eb q] at z; cases z
    · exact .inr (.inr z)⟩
theorem Grow.putX {x : Addr} {F H F1 H1 : Hp} {o u : HO} (g : Grow F H F1 H1) (hx : H x = some u) (fx : F x = none) : GrowX x F H F1 (upd H1 x o) := by
  have f1 := g.out hx fx
  refine ⟨fun b w e q => by rw [upd_ne q]; exact g.h _ _ e, g.f, fun b w e => by rw [upd_ne (ne_of_none e f1)]; exact g.i _ _ e, fun b w e => ?_⟩
  exact (g.n b w e).elim .inl fun z => .inr (.inl z)
def rowBy (rs : List Row) (z : Str) : Row := (rs.find? fun r => decide (r.a = z)).getD ⟨z, ⟨[]⟩, 0⟩
theorem rowBy_mem : ∀ {rs : List Row}, (namesR rs).Nodup → ∀ {r : Row}, r ∈ rs → rowBy rs r.a = r
  | x :: rs, hd, r, h => by
    obtain ⟨h1, h2⟩ := List.nodup_cons.mp hd
    unfold rowBy
    rw [List.find?_cons]
    rcases List.mem_cons.mp h with e | e
    · subst e
      rw [decide_eq_true rfl]
      rfl
    · rw [decide_eq_false fun q : x.a = r.a => h1 (List.mem_map.mpr ⟨r, e, Eq.symm q⟩)]
      exact rowBy_mem h2 e
theorem rowBy_map {rs : List Row} (h : (namesR rs).Nodup) : (namesR rs).map (rowBy rs) = rs := by
  unfold namesR at h ⊢
  rw [List.map_map]
  conv => rhs; rw [← List.map_id rs]
  exact List.map_congr_left fun r hr => rowBy_mem h hr
section
variable {P : Program} {w : World} {K : W.Frag} {mg : Str → Option Value} {base : Heap}
abbrev N_check_count : List Str := ["value", "most"]
theorem sc_check_count : FnScope N_check_count ["value", "most"] (defScope s_check_count) := ⟨rfl, rfl, rfl, by decide +kernel, rfl, by decide +kernel, by decide +kernel⟩
theorem ok_check_count (T : Tp K mg) : ∃ fd, FnOk P w K mg base CX0 2 (He.ga K "check_count") fd ["value", "most"] sp_check_count ∧ L2.Binds K fd ["value", "most"] [] ∧ W.keepIn K (.ref (He.ga K "check_count")) = true := by
  obtain ⟨fd_is_count, G_is_count, b_is_count, k_is_count⟩ := ok_is_count (P := P) (w := w) (base := base) T
  obtain ⟨fd, F⟩ := F_check_count T
  have B := F.binds1 (ps := ["value", "most"]) 2 1 (by simp) rfl fun D kV doc pm an cdv ct us its hl hi => by
    match us, hl, its, hi with
    | [u1, u2], _, [d1], _ => exact ⟨_, rfl, rfl⟩
  obtain ⟨ds, rv, b⟩ := B
  cases rv
  refine ⟨fd, F.ok sc_check_count ?_ fun cdv A outer s H vs Q E hr h => ?_, b, F.kp⟩
  · rintro vs H Q E ⟨i, F, _, ⟨rfl, _⟩, _⟩
    rfl
  obtain ⟨⟨i, m⟩, F, sm, ⟨rfl, h0, hm⟩, k⟩ := h
  refine ⟨_, PSs.nox (X := cxOf CX0 P w K mg base N_check_count "check_count" (defScope s_check_count) (He.ga K "check_count") cdv A outer s H E) (pss_one (ps_if (PW.pt (pw_or (pt_not (pt_val (pe_call G_is_count (hr.mono (by decide)) rfl (g_is_count T) k_is_count b_is_count .nil pass0 (pa_cons (pv 0) pa_nil)))) (pw_or1 (PW.pt (pw_and (pt_cmpR op_notN (pv 1) pe_non (nomark _)) (pw_and1 (pt_cmpR op_gt (pv 0) (pv 1) (nomark _))))))))
      (pss_one ps_never)
      pss_nil)), ?_⟩
  refine ⟨_, rfl, i, F, sm, ⟨rfl, h0⟩, fun u F1 H1 g1 hu => ?_⟩
  have eu : u = .bl true := hu
  subst eu
  refine ⟨true, rfl, iteF ?_⟩
  refine ⟨_, rfl, rfl, _, rfl, iteT ?_⟩
  refine ⟨_, rfl, _, rfl, i, m, rfl, rfl, _, rfl, no_t (decide_eq_false (by simp only at hm; omega)) ?_⟩
  exact k _ _ _ g1 rfl
abbrev N_Line_init : List Str := ["self", "askers", "names", "one"]
theorem sc_Line_init : FnScope N_Line_init ["self", "askers"] (defScope s_Line_init) := ⟨rfl, rfl, rfl, by decide +kernel, rfl, by decide +kernel, by decide +kernel⟩
theorem ok_Line_init (T : Tp K mg) : Ok P w K mg base 2 (He.ma K (He.ga K "Line") "__init__") ["self", "askers"] (sp_Line_init K) := by
  refine mk_ok (F_Line_init T) sc_Line_init ?_ (fun _ _ _ _ _ _ us hl => match us, hl with | [_, _], _ => rfl) (fun cdv A outer s H vs Q E hr h => ?_)
  · rintro vs H Q E ⟨x, dx, F, rs, v, rfl, _⟩
    rfl
  obtain ⟨x, dx, F, rs, v, rfl, hx, sm, fx, hv, lok, k⟩ := h
  refine ⟨_, (pss_cons (ps_if (PW.pt (pw_or (pt_not (pt_val (pe_callB isiLst (by rfl) (n_isinstance T) (by decide +kernel) (pa_cons (pv 1) (pa_cons (pe_bltn (v := .ty "list") (u := .type "list") (by rfl) (n_list T) (by decide +kernel) rfl) pa_nil))))) (pw_or1 (pt_ne0 (vA K) hr.units (pe_lc (own := [("one", 3)]) (g := gName 3) rfl sc_Line_init.nd (pi_list (pv 1)) (blkOk_by (N := N_Line_init) (sc := defScope s_Line_init) (by decide +kernel)) (fun _ _ _ _ _ => (pg_name (i := 3) sc_Line_init.nd rfl (by first | exact Or.inl rfl | exact Or.inr rfl))) (fun _ _ _ _ _ => (pts_one (pt_not (pt_val (pe_callB (isiA T) (by rfl) (n_isinstance T) (by decide +kernel) (pa_cons (pv 3) (pa_cons (pe_glob (v := .ref (He.ga K "Asker")) rfl (g_Asker T) rfl) pa_nil))))))) (fun _ _ _ _ _ => (pv 3)))))))
      (pss_one ps_never)
      pss_nil)
    (pss_cons (ps_setLc (i := 2) (own := [("one", 3)]) (g := gName 3) rfl sc_Line_init.nd rfl rfl (sw_true rfl rfl rfl (by decide +kernel)) (pi_list (pv 1)) (blkOk_by (N := N_Line_init) (sc := defScope s_Line_init) (by decide +kernel)) (fun _ _ _ _ _ => (pg_name (i := 3) sc_Line_init.nd rfl (by first | exact Or.inl rfl | exact Or.inr rfl))) (fun _ _ _ _ _ => pts_nil) (fun _ _ _ _ _ => (pe_ix (ix3a vS (vT vS) vI) (pe_row T (pv 3) rfl) pe_int (fun _ _ => rfl))))
    (pss_cons (ps_if (pt_cmpR (opF_ne vI hr.units) (pe_lenTexts (by rfl) (n_len T) (by rfl) (n_set T) (pv 2)) (pe_callB (call_lenL vS) (by rfl) (n_len T) (by decide +kernel) (pa_cons (pv 2) pa_nil)) (nomark _))
      (pss_one ps_never)
      pss_nil)
    (pss_cons (ps_fld (pv 0) (pe_callTy (cr_tupF (vA K)) (by rfl) (n_tuple T) (by decide +kernel) (pa_cons (pv 1) pa_nil)) rfl)
    (pss_one (ps_fld (pv 0) (pe_callTy (cr_tupF vRow) (by rfl) (n_tuple T) (by decide +kernel) (pa_cons (pe_lc (own := [("one", 3)]) (g := gName 3) rfl sc_Line_init.nd (pi_list (pv 1)) (blkOk_by (N := N_Line_init) (sc := defScope s_Line_init) (by decide +kernel)) (fun _ _ _ _ _ => (pg_name (i := 3) sc_Line_init.nd rfl (by first | exact Or.inl rfl | exact Or.inr rfl))) (fun _ _ _ _ _ => pts_nil) (fun _ _ _ _ _ => (pe_row T (pv 3) rfl))) pa_nil)) rfl)))))), ?_⟩
  obtain ⟨a, vs, rfl, ha, l⟩ := id hv
  have hlen : rs.length ≤ 100000 := Nat.le_trans lok.len (by decide)
  refine ⟨_, rfl, a, vs, rfl, sm _ _ ha, true, rfl, iteF ?_⟩
  refine ⟨_, rfl, a, rfl, ⟨_, SqL.of (sm _ _ ha)⟩, fun D hD => ?_⟩
  refine lcL (p := vA K) (q := vA K) (f := id) (t := fun _ => false) sm hD (sm _ _ ha) l hlen ?_ ?_
  · intro r y F' H' hr g hx N Y hN hY
    exact ⟨rfl, _, rfl, F', r, _, rfl, g.i, hx, true, rfl, iteF (hN F' H' (Grow.refl g.i) rfl)⟩
  · intro F2 H2 g hl
    rw [filter_ff] at hl
    refine ⟨F2, [], g.i, hl.m g.i, fun F3 H3 g3 => no_t rfl ?_⟩
    have g3 := g.trans g3
    have ha3 := g3.i _ _ (g3.f _ _ ha)
    -- names = [one.row[0] for one in askers]
    refine ⟨_, rfl, a, rfl, ⟨_, SqL.of ha3⟩, fun D2 hD2 => ?_⟩
    refine lcL (p := vA K) (q := vS) (f := fun r => r.a) (t := fun _ => true) g3.i hD2 ha3 (l.mo g3.f) hlen ?_ ?_
    · intro r y F' H' _ g hx N Y hN hY
      exact ⟨rfl, _, rfl, F', r, g.i, hx, fun z hz => ⟨F', r, g.i, hz, rfl, fun z2 hz2 => hY _ F' H' (Grow.refl g.i) rfl hz2⟩⟩
    · intro F4 H4 g4 hl
      rw [filter_tt] at hl
      have g4 := g3.trans g4
      have hl : vL vS (namesR rs) (.ref D2) F4 := hl
      have hle : (namesR rs).length = rs.length := List.length_map _
      refine ⟨_, rfl, F4, namesR rs, g4.i, hl, lok.nd, by have := lok.len; omega, _, rfl, F4, _, namesR rs, rfl, hl.m g4.i, F4, _, _, g4.i, rfl, rfl, _, rfl, no_t (decide_eq_false fun h => h rfl) ?_⟩
      -- self.all = tuple(askers)
      refine ⟨_, rfl, F4, _, rs, rfl, g4.i, (Mo.mo g4.f hv).m g4.i, fun t1 F5 H5 g5 h1 => ?_⟩
      have g5 := g4.trans g5
      refine ⟨_, rfl, x, _, dx, [], rfl, g5.h _ _ hx, cls_Line T, noat_Line_all T, by decide, ?_⟩
      obtain ⟨b1, bs1, rfl, hb1, l1⟩ := h1
      have gx : GrowX x F H F5 (upd H5 x (.ins (cL K) dx (putF "all" (.ref b1) []))) := g5.putX hx fx
      have f5 := g5.out hx fx
      have ha6 := gx.i _ _ (gx.f _ _ ha)
      -- self.every = tuple([one.row for one in askers])
      refine ⟨_, rfl, a, rfl, ⟨_, SqL.of ha6⟩, fun D3 hD3 => ?_⟩
      refine lcL (p := vA K) (q := vRow) (f := fun r => r) (t := fun _ => true) gx.i hD3 ha6 (l.mo gx.f) hlen ?_ ?_
      · intro r y F' H' _ g hx N Y hN hY
        exact ⟨rfl, _, rfl, F', r, g.i, hx, fun z hz => hY _ F' H' (Grow.refl g.i) rfl hz⟩
      · intro F6 H6 g6 hl6
        rw [filter_tt, List.map_id'] at hl6
        refine ⟨F6, _, rs, rfl, g6.i, hl6.m g6.i, fun t2 F7 H7 g7 h2 => ?_⟩
        have g7 := g6.trans g7
        obtain ⟨b2, bs2, rfl, hb2, l2⟩ := h2
        refine ⟨_, rfl, x, _, dx, _, rfl, g7.h _ _ upd_same, cls_Line T, noat_Line_every T, by show 1 < 1000; decide, ?_⟩
        have gy := gx.trans (g7.fill (o := .ins (cL K) dx (putF "every" (.ref b2) (putF "all" (.ref b1) []))) upd_same f5)
        have s7 := same_upd (o := .ins (cL K) dx (putF "every" (.ref b2) (putF "all" (.ref b1) []))) (g7.out upd_same f5)
        exact k _ _ gy ⟨x, dx, b1, b2, rfl, upd_same, Mo.mo (g7.f.trans s7) (⟨b1, bs1, rfl, hb1, l1⟩ : vT (vA K) ⟨rs⟩ (.ref b1) F5), Mo.mo s7 (⟨b2, bs2, rfl, hb2, l2⟩ : vT vRow ⟨rs⟩ (.ref b2) F7)⟩
abbrev N_Line_ordered : List Str := ["self", "names", "name"]
theorem sc_Line_ordered : FnScope N_Line_ordered ["self", "names"] (defScope s_Line_ordered) := ⟨rfl, rfl, rfl, by decide +kernel, rfl, by decide +kernel, by decide +kernel⟩
theorem ok_Line_ordered (T : Tp K mg) : Ok P w K mg base 5 (He.ma K (He.ga K "Line") "ordered") ["self", "names"] (sp_Line_ordered K) := by
  obtain ⟨fd_are_names, G_are_names, b_are_names, k_are_names⟩ := ok_are_names (P := P) (w := w) (base := base) T
  obtain ⟨fdL_names, GL_names, bL_names, kL_names⟩ := ok_Line_names (P := P) (w := w) (base := base) T
  obtain ⟨fdL_asker, GL_asker, bL_asker, kL_asker⟩ := ok_Line_asker (P := P) (w := w) (base := base) T
  obtain ⟨fd_Line, G_Line, b_Line, k_Line⟩ := ok_Line_init (P := P) (w := w) (base := base) T
  refine mk_ok (F_Line_ordered T) sc_Line_ordered ?_ (fun _ _ _ _ _ _ us hl => match us, hl with | [_, _], _ => rfl) (fun cdv A outer s H vs Q E hr h => ?_)
  · rintro vs H Q E ⟨i, F, _, ⟨u, v, rfl, _⟩, _⟩
    rfl
  obtain ⟨⟨rs, rs'⟩, F, sm, ⟨u, v, rfl, hu, hv, lok, pm⟩, k⟩ := h
  refine ⟨_, (pss_cons (ps_if (PW.pt (pw_or (pt_not (pt_val (pe_call G_are_names (hr.mono (by decide)) rfl (g_are_names T) k_are_names b_are_names .nil pass0 (pa_cons (pv 1) pa_nil)))) (pw_or1 (pt_cmpR (opF_ne (vL vS) hr.units) (pe_callB (cr_sortF vS hr.units slo_str sortK_str) (by rfl) (n_sorted T) (by decide +kernel) (pa_cons (pv 1) pa_nil)) (pe_callB (cr_sortF vS hr.units slo_str sortK_str) (by rfl) (n_sorted T) (by decide +kernel) (pa_cons (pe_meth0 (pv 0) (cls_Line T) (m_Line_names T) GL_names (hr.mono (by decide)) bL_names .nil pass0) pa_nil)) (nomark _)))))
      (pss_one ps_never)
      pss_nil)
    (pss_one (ps_ret (pe_make (mkr_Line T) G_Line (hr.mono (by decide)) rfl (g_Line T) b_Line .nil pass0 (pa_cons (pe_lc (own := [("name", 2)]) (g := gName 2) rfl sc_Line_ordered.nd (pi_list (pv 1)) (blkOk_by (N := N_Line_ordered) (sc := defScope s_Line_ordered) (by decide +kernel)) (fun _ _ _ _ _ => (pg_name (i := 2) sc_Line_ordered.nd rfl (by first | exact Or.inl rfl | exact Or.inr rfl))) (fun _ _ _ _ _ => pts_nil) (fun _ _ _ _ _ => (pe_meth (pv 0) (cls_Line T) (m_Line_asker T) GL_asker (hr.mono (by decide)) bL_asker .nil pass0 (pa_cons (pv 2) pa_nil)))) pa_nil))))), ?_⟩
  have lok' := lok.perm pm
  have nm' : ∀ z ∈ namesR rs', NameOk z := fun z hz => by
    obtain ⟨r, h1, h2⟩ := List.mem_map.mp hz
    exact h2 ▸ lok'.nm r h1
  have hle : (namesR rs').length = rs'.length := List.length_map _
  have hl' : rs'.length ≤ 100 := lok'.len
  refine ⟨_, rfl, namesR rs', F, sm, ⟨v, rfl, hv, nm', lok'.nd, by omega⟩, fun u1 F1 H1 g1 hu1 => ?_⟩
  have eu : u1 = .bl true := hu1
  subst eu
  refine ⟨true, rfl, iteF ?_⟩
  refine ⟨_, rfl, F1, v, namesR rs', rfl, g1.i, (Mo.mo g1.f hv).m g1.i, fun q ys hq hys => ?_⟩
  have g2 := g1.trans (Grow.put (o := .lst ys) g1.i hq)
  have v2 : vL vS (isort W.DatumOrd.lt (namesR rs')) (.ref q) (upd F1 q (.lst ys)) := ⟨q, ys, rfl, upd_same, hys.mo (same_upd (g1.i.free hq))⟩
  refine ⟨_, rfl, (Mo.mo g2.f hu).at_ g2.i rfl rfl ⟨rs, _, g2.i, ⟨_, rfl, Mo.mo g2.f hu, lok.len⟩, fun u3 F3 H3 g3 hu3 => ?_⟩⟩
  refine ⟨F3, u3, namesR rs, rfl, g3.i, hu3.m g3.i, fun q' ys' hq' hys' => ?_⟩
  have g4 := g3.trans (Grow.put (o := .lst ys') g3.i hq')
  refine ⟨_, _, _, g4.i, Mo.mo g4.f v2, ⟨q', ys', rfl, upd_same, hys'.mo (same_upd (g3.i.free hq'))⟩, _, rfl, no_t (decide_eq_false fun h => h (isort_perm_eq slo_str (pm.map fun r : Row => r.a))) ?_⟩
  have g5 := g2.trans g4
  obtain ⟨a, vs, rfl, ha, l⟩ := Mo.mo g5.f hv
  refine ⟨_, rfl, a, rfl, ⟨_, SqL.of (g5.i _ _ ha)⟩, fun D hD => ?_⟩
  refine lcL (p := vS) (q := vA K) (f := rowBy rs') (t := fun _ => true) g5.i hD (g5.i _ _ ha) l (Nat.le_trans (Nat.le_of_eq hle) (by omega)) ?_ ?_
  · intro z y F' H' hz g hx N Y hN hY
    have ey : y = .str z := hx
    subst ey
    obtain ⟨r, h1, h2⟩ := List.mem_map.mp hz
    have h2 : r.a = z := h2
    subst h2
    obtain ⟨i, hi⟩ := List.mem_iff_getElem?.mp (pm.mem_iff.mp h1)
    refine ⟨rfl, _, rfl, (Mo.mo (g5.f.trans g.f) hu).at_ g.i rfl rfl ⟨_, rfl, (rs, i, r), F', g.i, ⟨_, rfl, Mo.mo (g5.f.trans g.f) hu, ⟨lok.nd, lok.len, hi⟩⟩, fun u2 F2 H2 g2 hu2 => hY _ _ _ g2 rfl ?_⟩⟩
    rw [rowBy_mem lok'.nd h1]
    exact hu2
  · intro F6 H6 g6 hl
    rw [filter_tt] at hl
    have g6 := g5.trans g6
    rw [rowBy_map lok'.nd] at hl
    exact fun x dx hx hd hne => ⟨x, dx, F6, rs', _, rfl, upd_same, same_made g6.i hx hd, g6.i.free hx, hl, lok', fun F7 H7 g7 h7 => ⟨rfl, k _ _ _ (g6.trans (GrowX.made hx hd g7)) h7⟩⟩
end
end Elk
set_option Elab.async false
set_option linter.all false
set_option maxRecDepth 100000
set_option maxHeartbeats 4000000
namespace Elk
open PySem PySem.Spec PyProof.Rows L2
def noRow : Row := ⟨⟨#[]⟩, ⟨[]⟩, 0⟩
def nameAt (rs : List Row) (i : Nat) : Str := (rs.getD i noRow).a
def parsR (rs : List Row) : List (Option Nat) := (treesR rs).1
def grpsR (rs : List Row) : List (List Nat) := (treesR rs).2
theorem treeR (rs : List Row) : TreeOk (lkR rs) rs.length rs.length (parsR rs) (grpsR rs) := treeOk (lkR rs) rs.length rs.length (Nat.le_refl _)
/-- each name with its parent's -/
def parR (rs : List Row) : List (Str × Option Str) := (List.range rs.length).map fun i => (nameAt rs i, ((parsR rs).getD i none).map (nameAt rs))
def grpR (rs : List Row) : List (Str × List Str) := (List.range rs.length).map fun i => (nameAt rs i, ((grpsR rs).getD i []).map (nameAt rs))
def oV : Option Str → V
  | none => .non
  | some z => .str z
def kvP (x : Str × Option Str) : Key × V := (.inr x.1, oV x.2)
def vDP : VP (List (Str × Option Str)) := fun xs v H => ∃ a, v = .ref a ∧ H a = some (.dK (xs.map kvP))
def vDG : VP (List (Str × List Str)) := fun xs v H => ∃ a kvs, v = .ref a ∧ H a = some (.dK kvs) ∧ Paired (fun (x : Str × List Str) (kv : Key × V) => kv.1 = .inr x.1 ∧ vL vS x.2 kv.2 H) xs kvs
def sp_names_at (K : W.Frag) : Sp := Pm (ι := List Row × List Nat) (fun i vs F => ∃ u v, vs = [u, v] ∧ vLine K i.1 u F ∧ vL vN i.2 v F ∧ (∀ p ∈ i.2, p < i.1.length) ∧ i.2.length ≤ 1000) (fun i v F => vL vS (i.2.map (nameAt i.1)) v F)
def sp_group (K : W.Frag) : Sp := Pm (ι := List Row × Nat × Row) (fun i vs F => ∃ v, vs = [v, .str i.2.2.a] ∧ vLine K i.1 v F ∧ AtP i.1 i.2.1 i.2.2 ∧ RowsOk i.1) (fun i v F => vL vS (((grpsR i.1).getD i.2.1 []).map (nameAt i.1)) v F)
def sp_check_same (K : W.Frag) : Sp := Pm (ι := List Row × List Row) (fun i vs F => ∃ u v, vs = [u, v] ∧ vLine K i.1 u F ∧ vLine K i.2 v F ∧ i.2.Perm i.1) (fun i v F => v = .non)
def sp_parents_by_name (K : W.Frag) : Sp := Pm (ι := List Row) (fun rs vs F => ∃ v, vs = [v] ∧ vLine K rs v F ∧ LineOk rs) (fun rs v F => vDP (parR rs) v F)
def aliB (rs rs' : List Row) : Bool := (parR rs).length == (parR rs').length && ((parR rs).map kvP).all (hit2 ((parR rs').map kvP))
def sp_are_alike (K : W.Frag) : Sp := Pm (ι := List Row × List Row) (fun i vs F => ∃ u v, vs = [u, v] ∧ vLine K i.1 u F ∧ vLine K i.2 v F ∧ LineOk i.1 ∧ LineOk i.2) (fun i v F => v = .bl (aliB i.1 i.2))
def sp_alike (K : W.Frag) : Sp := Pm (ι := List Row × List Row) (fun i vs F => ∃ u v, vs = [u, v] ∧ vLine K i.1 u F ∧ vLine K i.2 v F ∧ LineOk i.1 ∧ LineOk i.2 ∧ i.2.Perm i.1) (fun i v F => v = .bl (aliB i.1 i.2))
theorem nameAt_at {rs : List Row} {i : Nat} {r : Row} (h : rs[i]? = some r) : nameAt rs i = r.a := by unfold nameAt; rw [getD_some h]
theorem row_get {rs : List Row} {i : Nat} (h : i < rs.length) : rs[i]? = some (rs.getD i noRow) := some_getD h
theorem pars_lt (lk : Nat → Nat → Bool) (n : Nat) : ∀ i, i ≤ n → ∀ t p, (outS lk n i).1.getD t none = some p → t < p ∧ p < i
  | 0, _, t, p, h => by
    rw [outS_zero] at h
    simp only [List.getD_eq_getElem?_getD, List.getElem?_replicate] at h
    split at h <;> cases h
  | i + 1, hi, t, p, h => by
    rw [outS_succ] at h
    have T := treeOk lk n i (by omega)
    change (inn lk (outS lk n i).2 i (outS lk n i).1 i).1.getD t none = some p at h
    rw [(inn_ps (by rw [T.pl]; omega) i (Nat.le_refl _)).2 t] at h
    by_cases q : t < i ∧ takes lk (outS lk n i).2 i (outS lk n i).1 t = true
    · rw [if_pos q] at h
      cases h
      exact ⟨q.1, by omega⟩
    · rw [if_neg q] at h
      have := pars_lt lk n i (by omega) t p h
      exact ⟨this.1, by omega⟩
theorem parsR_lt {rs : List Row} {t p : Nat} (h : (parsR rs).getD t none = some p) : t < p ∧ p < rs.length := pars_lt (lkR rs) rs.length rs.length (Nat.le_refl _) t p h
theorem parR_get {rs : List Row} {i : Nat} (h : i < rs.length) : (parR rs)[i]? = some (nameAt rs i, ((parsR rs).getD i none).map (nameAt rs)) := by
  unfold parR
  rw [List.getElem?_map, List.getElem?_range h]; rfl
theorem parR_len (rs : List Row) : (parR rs).length = rs.length := by unfold parR; rw [List.length_map, List.length_range]
theorem range_names (rs : List Row) : (List.range rs.length).map (nameAt rs) = namesR rs := by
  apply List.ext_getElem?
  intro i
  unfold namesR
  rw [List.getElem?_map, List.getElem?_map]
  by_cases h : i < rs.length
  · rw [List.getElem?_range h, row_get h]; rfl
  · rw [List.getElem?_eq_none (by rw [List.length_range]; omega), List.getElem?_eq_none (by omega)]; rfl
theorem parR_names (rs : List Row) : (parR rs).map (·.1) = namesR rs := by
  unfold parR
  rw [List.map_map, ← range_names]; rfl
theorem fresh_key {β : Type} {xs : List (Str × β)} (hd : (xs.map (·.1)).Nodup) {i : Nat} {x : Str × β} (h : xs[i]? = some x) {f : Str × β → Key × V} (hf : ∀ y, (f y).1 = .inr y.1) : (.inr x.1 : Key) ∉ ((xs.take i).map f).map (·.1) := by
  intro hm
  obtain ⟨q, h1, h2⟩ := List.mem_map.mp hm
  obtain ⟨y, h3, h4⟩ := List.mem_map.mp h1
  subst h4
  have e : y.1 = x.1 := by
    have := (hf y).symm.trans h2
    injection this
  obtain ⟨j, hj⟩ := List.mem_iff_getElem?.mp h3
  have hji : j < i := by
    have := (List.getElem?_eq_some_iff.mp hj).1
    rw [List.length_take] at this; omega
  rw [List.getElem?_take_of_lt hji] at hj
  have e1 : (xs.map (·.1))[j]? = some y.1 := by rw [List.getElem?_map, hj]; rfl
  have e2 : (xs.map (·.1))[i]? = some x.1 := by rw [List.getElem?_map, h]; rfl
  have hlt := (List.getElem?_eq_some_iff.mp e2).1
  rw [e] at e1
  have := ((List.getElem?_inj hlt hd).mp (e2.trans e1.symm))
  omega
section
variable {P : Program} {w : World} {K : W.Frag} {mg : Str → Option Value} {base : Heap}
abbrev N_names_at : List Str := ["line", "places", "at"]
theorem sc_names_at : FnScope N_names_at ["line", "places"] (defScope s_names_at) := ⟨rfl, rfl, rfl, by decide +kernel, rfl, by decide +kernel, by decide +kernel⟩
theorem ok_names_at (T : Tp K mg) : Ok P w K mg base 1 (He.ga K "names_at") ["line", "places"] (sp_names_at K) := by
  refine mk_ok (F_names_at T) sc_names_at ?_ (fun _ _ _ _ _ _ us hl => match us, hl with | [_, _], _ => rfl) (fun cdv A outer s H vs Q E hr h => ?_)
  · rintro vs H Q E ⟨i, F, _, ⟨u, v, rfl, _⟩, _⟩
    rfl
  obtain ⟨⟨rs, ps⟩, F, sm, ⟨u, v, rfl, hu, hv, hp, hn⟩, k⟩ := h
  refine ⟨_, (pss_one (ps_ret (pe_lc (own := [("at", 2)]) (g := gName 2) rfl sc_names_at.nd (pi_list (pv 1)) (blkOk_by (N := N_names_at) (sc := defScope s_names_at) (by decide +kernel)) (fun _ _ _ _ _ => (pg_name (i := 2) sc_names_at.nd rfl (by first | exact Or.inl rfl | exact Or.inr rfl))) (fun _ _ _ _ _ => pts_nil) (fun _ _ _ _ _ => (pe_ix (ix3a vS (vT vS) vI) (pe_ix (ixT vRow) (pe_every T (pv 0) rfl) (pv 2) (fun _ _ => rfl)) pe_int (fun _ _ => rfl)))))), ?_⟩
  obtain ⟨a, vs, rfl, ha, l⟩ := hv
  refine ⟨_, rfl, a, rfl, ⟨_, SqL.of (sm _ _ ha)⟩, fun D hD => ?_⟩
  refine lcL (p := vN) (q := vS) (f := nameAt rs) (t := fun _ => true) sm hD (sm _ _ ha) l (Nat.le_trans hn (by decide)) ?_ ?_
  · intro i y F' H' hi g hx N Y hN hY
    have e := row_get (hp i hi)
    refine ⟨rfl, _, rfl, F', rs, g.i, Mo.mo g.f hu, fun z hz => ?_⟩
    refine ⟨_, rfl, F', rs, i, _, g.i, hz, hx, e, fun z2 hz2 => ?_⟩
    exact ⟨F', _, g.i, hz2, rfl, fun z3 hz3 => hY _ F' H' (Grow.refl g.i) rfl hz3⟩
  · intro F2 H2 g hl
    rw [filter_tt] at hl
    exact k _ _ _ g hl
abbrev N_group : List Str := ["line", "name", "place"]
theorem sc_group : FnScope N_group ["line", "name"] (defScope s_group) := ⟨rfl, rfl, rfl, by decide +kernel, rfl, by decide +kernel, by decide +kernel⟩
theorem ok_group (T : Tp K mg) : Ok P w K mg base 4 (He.ga K "group") ["line", "name"] (sp_group K) := by
  obtain ⟨fd_check_line, G_check_line, b_check_line, k_check_line⟩ := ok_check_line (P := P) (w := w) (base := base) T
  obtain ⟨fd_trees_of, G_trees_of, b_trees_of, k_trees_of⟩ := ok_trees_of (P := P) (w := w) (base := base) T
  obtain ⟨fd_names_at, G_names_at, b_names_at, k_names_at⟩ := ok_names_at (P := P) (w := w) (base := base) T
  obtain ⟨fdL_place, GL_place, bL_place, kL_place⟩ := ok_Line_place (P := P) (w := w) (base := base) T
  refine mk_ok (F_group T) sc_group ?_ (fun _ _ _ _ _ _ us hl => match us, hl with | [_, _], _ => rfl) (fun cdv A outer s H vs Q E hr h => ?_)
  · rintro vs H Q E ⟨i, F, _, ⟨v, rfl, _⟩, _⟩
    rfl
  obtain ⟨⟨rs, i, r⟩, F, sm, ⟨v, rfl, hv, ap, ro⟩, k⟩ := h
  refine ⟨_, (pss_cons (ps_expr (pe_call G_check_line (hr.mono (by decide)) rfl (g_check_line T) k_check_line b_check_line .nil pass0 (pa_cons (pv 0) pa_nil)))
    (pss_cons (ps_set (i := 2) sc_group.nd rfl (by first | exact Or.inl rfl | exact Or.inr rfl) (pe_meth (pv 0) (cls_Line T) (m_Line_place T) GL_place (hr.mono (by decide)) bL_place .nil pass0 (pa_cons (pv 1) pa_nil)))
    (pss_one (ps_ret (pe_call G_names_at (hr.mono (by decide)) rfl (g_names_at T) k_names_at b_names_at .nil pass0 (pa_cons (pv 0) (pa_cons (pe_ix (ixL (vL vN)) (pe_ix (ix2b (vL (vO vN)) (vL (vL vN))) (pe_call G_trees_of (hr.mono (by decide)) rfl (g_trees_of T) k_trees_of b_trees_of .nil pass0 (pa_cons (pe_every T (pv 0) rfl) pa_nil)) pe_int (fun _ _ => rfl)) (pv 2) (fun _ _ => rfl)) pa_nil))))))), ?_⟩
  refine ⟨_, rfl, rs, F, sm, ⟨_, rfl, hv⟩, fun u1 F1 H1 g1 hu1 => ?_⟩
  refine ⟨_, rfl, (Mo.mo g1.f hv).at_ g1.i rfl rfl ⟨_, rfl, (rs, i, r), F1, g1.i, ⟨_, rfl, Mo.mo g1.f hv, ap⟩, fun u2 F2 H2 g2 hu2 => ?_⟩⟩
  have g2 := g1.trans g2
  refine ⟨_, rfl, _, rfl, F2, rs, g2.i, Mo.mo g2.f hv, fun t ht => ?_⟩
  refine ⟨rs, F2, g2.i, ⟨_, rfl, ht, ro⟩, fun u3 F3 H3 g3 hu3 => ?_⟩
  have g3 := g2.trans g3
  refine ⟨F3, _, g3.i, hu3, rfl, fun u4 hu4 => ?_⟩
  have TO := treeR rs
  have hl := ap.lt
  refine ⟨_, rfl, F3, grpsR rs, i, _, hu4.m g3.i, hu2, some_getD (d := []) (by rw [TO.gl]; exact hl), fun u5 hu5 => ?_⟩
  refine ⟨(rs, (grpsR rs).getD i []), F3, g3.i, ⟨_, _, rfl, Mo.mo g3.f hv, hu5, fun p hp => ?_, ?_⟩, fun z F5 H5 g5 hz => k _ _ _ (g3.trans g5) hz⟩
  · have := TO.le i p hl hp
    show p < rs.length
    exact Nat.lt_of_le_of_lt this hl
  · have ap : AtP rs i r := ap
    have hl : i < rs.length := ap.lt
    have h1 := group_len TO hl
    have h2 := ap.len
    show ((grpsR rs).getD i []).length ≤ 1000
    have h3 : i < rs.length := hl
    have h4 : rs.length ≤ 100 := h2
    omega
abbrev N_check_same : List Str := ["one", "other"]
theorem sc_check_same : FnScope N_check_same ["one", "other"] (defScope s_check_same) := ⟨rfl, rfl, rfl, by decide +kernel, rfl, by decide +kernel, by decide +kernel⟩
theorem ok_check_same (T : Tp K mg) : Ok P w K mg base 2 (He.ga K "check_same") ["one", "other"] (sp_check_same K) := by
  obtain ⟨fd_check_line, G_check_line, b_check_line, k_check_line⟩ := ok_check_line (P := P) (w := w) (base := base) T
  refine mk_ok (F_check_same T) sc_check_same ?_ (fun _ _ _ _ _ _ us hl => match us, hl with | [_, _], _ => rfl) (fun cdv A outer s H vs Q E hr h => ?_)
  · rintro vs H Q E ⟨i, F, _, ⟨u, v, rfl, _⟩, _⟩
    rfl
  obtain ⟨⟨rs, rs'⟩, F, sm, ⟨u, v, rfl, hu, hv, pm⟩, k⟩ := h
  refine ⟨_, (pss_cons (ps_expr (pe_call G_check_line (hr.mono (by decide)) rfl (g_check_line T) k_check_line b_check_line .nil pass0 (pa_cons (pv 0) pa_nil)))
    (pss_cons (ps_expr (pe_call G_check_line (hr.mono (by decide)) rfl (g_check_line T) k_check_line b_check_line .nil pass0 (pa_cons (pv 1) pa_nil)))
    (pss_one (ps_if (pt_cmpR (opF_ne (vL vRow) hr.units) (pe_callB (cr_sortTF vRow hr.units (slo_t3 slo_str (slo_tup slo_str) slo_int) sortK_t3) (by rfl) (n_sorted T) (by decide +kernel) (pa_cons (pe_every T (pv 0) rfl) pa_nil)) (pe_callB (cr_sortTF vRow hr.units (slo_t3 slo_str (slo_tup slo_str) slo_int) sortK_t3) (by rfl) (n_sorted T) (by decide +kernel) (pa_cons (pe_every T (pv 1) rfl) pa_nil)) (nomark _))
      (pss_one ps_never)
      pss_nil)))), ?_⟩
  refine ⟨_, rfl, rs, F, sm, ⟨_, rfl, hu⟩, fun u1 F1 H1 g1 hu1 => ?_⟩
  refine ⟨_, rfl, rs', F1, g1.i, ⟨_, rfl, Mo.mo g1.f hv⟩, fun u2 F2 H2 g2 hu2 => ?_⟩
  have g2 := g1.trans g2
  refine ⟨_, rfl, F2, rs, g2.i, Mo.mo g2.f hu, fun t ht => ?_⟩
  refine ⟨F2, _, rs, rfl, g2.i, ht, fun q ys hq hys => ?_⟩
  have g3 := g2.trans (Grow.put (o := .lst ys) g2.i hq)
  have v2 : vL vRow (isort W.DatumOrd.lt rs) (.ref q) (upd F2 q (.lst ys)) := ⟨q, ys, rfl, upd_same, hys.mo (same_upd (g2.i.free hq))⟩
  refine ⟨_, rfl, _, rs', g3.i, Mo.mo g3.f hv, fun t' ht' => ?_⟩
  refine ⟨_, _, rs', rfl, g3.i, ht', fun q' ys' hq' hys' => ?_⟩
  have g4 := g3.trans (Grow.put (o := .lst ys') g3.i hq')
  have s4 : Same (upd F2 q (.lst ys)) (upd (upd F2 q (.lst ys)) q' (.lst ys')) := same_upd (g3.i.free hq')
  refine ⟨_, _, _, g4.i, Mo.mo s4 v2, ⟨q', ys', rfl, upd_same, hys'.mo s4⟩, _, rfl, no_t (decide_eq_false fun h => h (isort_perm_eq (slo_t3 slo_str (slo_tup slo_str) slo_int) pm.symm)) ?_⟩
  exact k _ _ _ g4 rfl
abbrev N_parents_by_name : List Str := ["line", "found", "at", "parent_place"]
theorem sc_parents_by_name : FnScope N_parents_by_name ["line"] (defScope s_parents_by_name) := ⟨rfl, rfl, rfl, by decide +kernel, rfl, by decide +kernel, by decide +kernel⟩
theorem ok_parents_by_name (T : Tp K mg) : Ok P w K mg base 3 (He.ga K "parents_by_name") ["line"] (sp_parents_by_name K) := by
  obtain ⟨fd_trees_of, G_trees_of, b_trees_of, k_trees_of⟩ := ok_trees_of (P := P) (w := w) (base := base) T
  refine mk_ok (F_parents_by_name T) sc_parents_by_name ?_ (fun _ _ _ _ _ _ us hl => match us, hl with | [_], _ => rfl) (fun cdv A outer s H vs Q E hr h => ?_)
  · rintro vs H Q E ⟨i, F, _, ⟨v, rfl, _⟩, _⟩
    rfl
  obtain ⟨rs, F, sm, ⟨v, rfl, hv, lok⟩, k⟩ := h
  refine ⟨_, (pss_cons (ps_set (i := 1) sc_parents_by_name.nd rfl (by first | exact Or.inl rfl | exact Or.inr rfl) pe_dnewK)
    (pss_cons (ps_for PassesOwn.never rfl (pi_enum (by rfl) (n_enumerate T) (pa_cons (pe_ix (ix2a (vL (vO vN)) (vL (vL vN))) (pe_call G_trees_of (hr.mono (by decide)) rfl (g_trees_of T) k_trees_of b_trees_of .nil pass0 (pa_cons (pe_every T (pv 0) rfl) pa_nil)) pe_int (fun _ _ => rfl)) pa_nil)) (pg_tup (by rfl) (pgs_cons (pg_name (i := 2) sc_parents_by_name.nd rfl (by first | exact Or.inl rfl | exact Or.inr rfl)) (pgs_cons (pg_name (i := 3) sc_parents_by_name.nd rfl (by first | exact Or.inl rfl | exact Or.inr rfl)) pgs_nil)))
      (pss_one (ps_dput (hu_of hr) (pv 1) (pe_ix (ix3a vS (vT vS) vI) (pe_ix (ixT vRow) (pe_every T (pv 0) rfl) (pv 2) (fun _ _ => rfl)) pe_int (fun _ _ => rfl)) (pe_ifExp (pt_cmpR op_isN (pv 3) pe_non (nomark _)) pe_non (pe_ix (ix3a vS (vT vS) vI) (pe_ix (ixT vRow) (pe_every T (pv 0) rfl) (pv 3) (fun _ _ => rfl)) pe_int (fun _ _ => rfl))) rfl)))
    (pss_one (ps_ret (pv 1))))), ?_⟩
  refine fun D hD0 => ?_
  have g0 := Grow.new (o := .dK []) sm hD0
  refine ⟨_, rfl, _, rs, g0.i, Mo.mo g0.f hv, fun t ht => ?_⟩
  refine ⟨rs, _, g0.i, ⟨_, rfl, ht, lok.rows⟩, fun u1 F1 H1 g1 hu1 => ?_⟩
  have F1D := g1.out upd_same (sm.free hD0)
  have H1D := g1.h _ _ (upd_same (H := H) (a := D))
  have g1 := g0.trans g1
  refine ⟨F1, _, g1.i, hu1, rfl, fun u2 hu2 => ?_⟩
  obtain ⟨a, vs, rfl, ha, l⟩ := hu2
  refine ⟨a, vs, rfl, SqL.of (g1.i _ _ ha), ?_⟩
  have hlen : vs.length = rs.length := by rw [← l.len]; exact (treeR rs).pl
  have nd : ((parR rs).map (·.1)).Nodup := by rw [parR_names]; exact lok.nd
  refine forEnum (xs := vs) (fun i σ H' => ∃ F' x2 x3, σ = [some v, some (.ref D), x2, x3] ∧ Grow F H F' H' ∧ Same F1 F' ∧ F' D = none ∧ H' D = some (.dK (((parR rs).take i).map kvP))) ?_ ?_ ?_ ?_
  · exact ⟨F1, none, none, rfl, g1, Same.refl F1, F1D, H1D⟩
  · intro i σ H' ⟨F', x2, x3, es, g, s1, fD, hD⟩
    exact g.i _ _ (s1 _ _ ha)
  · intro i x σ H' U hx ⟨F', x2, x3, es, g, s1, fD, hD⟩ hU
    subst es
    have hi : i < rs.length := by
      have := (List.getElem?_eq_some_iff.mp hx).1
      omega
    obtain ⟨p, hp, hpx⟩ := l.at hx
    have hp' : (parsR rs).getD i none = p := getD_some hp
    have g2 := g.trans (Grow.put (o := .tup [.int (i : Nat), x]) g.i hU)
    have sU : Same F' (upd F' U (.tup [.int (i : Nat), x])) := same_upd (g.i.free hU)
    have neD : D ≠ U := ne_of_none hD hU
    have eD : (upd H' U (.tup [.int (i : Nat), x])) D = some (.dK (((parR rs).take i).map kvP)) := by rw [upd_ne neD]; exact hD
    have fD2 : (upd F' U (.tup [.int (i : Nat), x])) D = none := by rw [upd_ne neD]; exact fD
    have eg := parR_get hi
    rw [hp'] at eg
    have tk : (parR rs).take (i + 1) = (parR rs).take i ++ [(nameAt rs i, p.map (nameAt rs))] := by rw [List.take_succ, eg]; rfl
    have fin : ∀ z, z = oV (p.map (nameAt rs)) → ∀ F3 H3, Grow (upd F' U (.tup [.int (i : Nat), x])) (upd H' U (.tup [.int (i : Nat), x])) F3 H3 → H3 D = some (.dK (((parR rs).take i).map kvP)) →
        ∃ F' x2 x3, [some v, some (.ref D), some (.int (i : Nat)), some x] = [some v, some (.ref D), x2, x3] ∧ Grow F H F' (upd H3 D (.dK (putK (((parR rs).take i).map kvP) (.inr (nameAt rs i)) z))) ∧ Same F1 F' ∧ F' D = none ∧
          (upd H3 D (.dK (putK (((parR rs).take i).map kvP) (.inr (nameAt rs i)) z))) D = some (.dK (((parR rs).take (i + 1)).map kvP)) := fun z ez F3 H3 g3 h3 => by
      have f3 := g3.out eD fD2
      refine ⟨F3, _, _, rfl, (g2.trans g3).set hD0 f3, (s1.trans sU).trans g3.f, f3, ?_⟩
      rw [upd_same, putK_new (fresh_key nd eg fun _ => rfl), tk, List.map_append, ez]
      rfl
    have gU : Same (upd F' U (.tup [.int (i : Nat), x])) (upd H' U (.tup [.int (i : Nat), x])) := g2.i
    refine ⟨U, _, rfl, SqT.of upd_same, rfl, _, _, rfl, _, _, rfl, rfl, ?_⟩
    refine ⟨_, rfl, rfl, _, rfl, ?_⟩
    have hv2 : vLine K rs v (upd F' U (.tup [.int (i : Nat), x])) := Mo.mo g2.f hv
    have hl : (((parR rs).take i).map kvP).length < sizeLine := by
      rw [List.length_map, List.length_take, parR_len]
      exact small_of (by have := lok.len; omega)
    cases p with
    | none =>
      have ex : x = .non := hpx
      subst ex
      refine iteT ⟨_, rfl, _, rfl, _, rs, gU, hv2, fun t ht => ⟨_, rfl, _, rs, i, _, gU, ht, rfl, row_get hi, fun r hr => ⟨_, _, gU, hr, rfl, fun y hy => ?_⟩⟩⟩
      have ey : y = kV (.inr (nameAt rs i)) := hy
      subst ey
      exact ⟨D, _, rfl, DPut.k eD hl, fin .non rfl _ _ (Grow.refl gU) eD⟩
    | some p =>
      have ex : x = .int (p : Nat) := hpx
      subst ex
      have hp2 := (parsR_lt hp').2
      refine iteF ⟨_, rfl, _, rs, gU, hv2, fun t ht => ⟨_, rfl, _, rs, p, _, gU, ht, rfl, row_get hp2, fun r hr => ⟨_, _, gU, hr, rfl, fun z hz => ?_⟩⟩⟩
      refine ⟨_, rfl, _, rfl, _, rs, gU, hv2, fun t ht => ⟨_, rfl, _, rs, i, _, gU, ht, rfl, row_get hi, fun r hr => ⟨_, _, gU, hr, rfl, fun y hy => ?_⟩⟩⟩
      have ey : y = kV (.inr (nameAt rs i)) := hy
      subst ey
      exact ⟨D, _, rfl, DPut.k eD hl, fin z hz _ _ (Grow.refl gU) eD⟩
  · intro σ H' ⟨F', x2, x3, es, g, s1, fD, hD⟩
    subst es
    rw [hlen, List.take_of_length_le (by rw [parR_len]; exact Nat.le_refl _)] at hD
    exact ⟨_, rfl, k _ _ _ (g.keep hD0 hD) ⟨D, rfl, upd_same⟩⟩
abbrev N_are_alike : List Str := ["one", "other"]
theorem sc_are_alike : FnScope N_are_alike ["one", "other"] (defScope s_are_alike) := ⟨rfl, rfl, rfl, by decide +kernel, rfl, by decide +kernel, by decide +kernel⟩
theorem ok_are_alike (T : Tp K mg) : Ok P w K mg base 4 (He.ga K "are_alike") ["one", "other"] (sp_are_alike K) := by
  obtain ⟨fd_parents_by_name, G_parents_by_name, b_parents_by_name, k_parents_by_name⟩ := ok_parents_by_name (P := P) (w := w) (base := base) T
  refine mk_ok (F_are_alike T) sc_are_alike ?_ (fun _ _ _ _ _ _ us hl => match us, hl with | [_, _], _ => rfl) (fun cdv A outer s H vs Q E hr h => ?_)
  · rintro vs H Q E ⟨i, F, _, ⟨u, v, rfl, _⟩, _⟩
    rfl
  obtain ⟨⟨rs, rs'⟩, F, sm, ⟨u, v, rfl, hu, hv, lok, lok'⟩, k⟩ := h
  refine ⟨_, (pss_one (ps_ret (pe_cmpR (op_eqD hr.units) (pe_call G_parents_by_name (hr.mono (by decide)) rfl (g_parents_by_name T) k_parents_by_name b_parents_by_name .nil pass0 (pa_cons (pv 0) pa_nil)) (pe_call G_parents_by_name (hr.mono (by decide)) rfl (g_parents_by_name T) k_parents_by_name b_parents_by_name .nil pass0 (pa_cons (pv 1) pa_nil)) (nomark _)))), ?_⟩
  refine ⟨_, rfl, rs, F, sm, ⟨_, rfl, hu, lok⟩, fun u1 F1 H1 g1 hu1 => ?_⟩
  refine ⟨_, rfl, rs', F1, g1.i, ⟨_, rfl, Mo.mo g1.f hv, lok'⟩, fun u2 F2 H2 g2 hu2 => ?_⟩
  obtain ⟨a, rfl, ha⟩ := hu1
  obtain ⟨b, rfl, hb⟩ := hu2
  have fl : ∀ xs : List (Str × Option Str), ∀ q ∈ xs.map kvP, flatV q.2 = true := fun xs q hq => by
    obtain ⟨x, _, e⟩ := List.mem_map.mp hq
    subst e
    unfold kvP
    cases x.2 <;> rfl
  refine ⟨a, b, _, _, rfl, rfl, g2.i _ _ (g2.f _ _ ha), g2.i _ _ hb, fl _, fl _, k _ _ _ (g1.trans g2) ?_⟩
  show V.bl _ = V.bl (aliB rs rs')
  unfold aliB
  rw [List.length_map, List.length_map]
abbrev N_alike : List Str := ["one", "other"]
theorem sc_alike : FnScope N_alike ["one", "other"] (defScope s_alike) := ⟨rfl, rfl, rfl, by decide +kernel, rfl, by decide +kernel, by decide +kernel⟩
theorem ok_alike (T : Tp K mg) : Ok P w K mg base 5 (He.ga K "alike") ["one", "other"] (sp_alike K) := by
  obtain ⟨fd_check_same, G_check_same, b_check_same, k_check_same⟩ := ok_check_same (P := P) (w := w) (base := base) T
  obtain ⟨fd_are_alike, G_are_alike, b_are_alike, k_are_alike⟩ := ok_are_alike (P := P) (w := w) (base := base) T
  refine mk_ok (F_alike T) sc_alike ?_ (fun _ _ _ _ _ _ us hl => match us, hl with | [_, _], _ => rfl) (fun cdv A outer s H vs Q E hr h => ?_)
  · rintro vs H Q E ⟨i, F, _, ⟨u, v, rfl, _⟩, _⟩
    rfl
  obtain ⟨⟨rs, rs'⟩, F, sm, ⟨u, v, rfl, hu, hv, lok, lok', pm⟩, k⟩ := h
  refine ⟨_, (pss_cons (ps_expr (pe_call G_check_same (hr.mono (by decide)) rfl (g_check_same T) k_check_same b_check_same .nil pass0 (pa_cons (pv 0) (pa_cons (pv 1) pa_nil))))
    (pss_one (ps_ret (pe_call G_are_alike (hr.mono (by decide)) rfl (g_are_alike T) k_are_alike b_are_alike .nil pass0 (pa_cons (pv 0) (pa_cons (pv 1) pa_nil)))))), ?_⟩
  refine ⟨_, rfl, _, rfl, (rs, rs'), F, sm, ⟨_, _, rfl, hu, hv, pm⟩, fun u1 F1 H1 g1 hu1 => ?_⟩
  exact ⟨_, rfl, _, rfl, (rs, rs'), F1, g1.i, ⟨_, _, rfl, Mo.mo g1.f hu, Mo.mo g1.f hv, lok, lok'⟩, fun u2 F2 H2 g2 hu2 => k _ _ _ (g1.trans g2) hu2⟩
end
end Elk
set_option Elab.async false
set_option linter.all false
set_option maxHeartbeats 4000000
namespace Elk
open PySem PySem.Spec PyProof.Rows L2
/-! ### the normal order, plain -/
def grpOf (rs : List Row) (z : Str) : List Str := (((grpR rs).find? fun q => decide (q.1 = z)).map (·.2)).getD []
def freeB (rs : List Row) (found : List Str) (z : Str) : Bool := decide (((grpOf rs z).filter fun y => decide (y ∉ found)).length = 1)
def nrm (rs : List Row) : Nat → List Str → List Str → List Str
  | 0, found, _ => found
  | n + 1, found, rest => match rest.filter (freeB rs found) with
    | [] => found
    | z :: _ => nrm rs n (found ++ [z]) (rest.erase z)
def sortN (xs : List Str) : List Str := isort W.DatumOrd.lt xs
def normN (rs : List Row) : List Str := nrm rs rs.length [] (sortN (namesR rs))
def normR (rs : List Row) : List Row := (normN rs).map (rowBy rs)
theorem grpR_get {rs : List Row} {i : Nat} (h : i < rs.length) : (grpR rs)[i]? = some (nameAt rs i, ((grpsR rs).getD i []).map (nameAt rs)) := by
  unfold grpR
  rw [List.getElem?_map, List.getElem?_range h]; rfl
theorem grpR_len (rs : List Row) : (grpR rs).length = rs.length := by unfold grpR; rw [List.length_map, List.length_range]
theorem grpR_names (rs : List Row) : (grpR rs).map (·.1) = namesR rs := by
  unfold grpR
  rw [List.map_map, ← range_names]; rfl
theorem find_nd {β : Type} : ∀ {xs : List (Str × β)}, (xs.map (·.1)).Nodup → ∀ {x : Str × β}, x ∈ xs → (xs.find? fun q => decide (q.1 = x.1)) = some x
  | y :: xs, hd, x, h => by
    obtain ⟨h1, h2⟩ := List.nodup_cons.mp hd
    rw [List.find?_cons]
    rcases List.mem_cons.mp h with e | e
    · subst e
      rw [decide_eq_true rfl]
    · rw [decide_eq_false fun q : y.1 = x.1 => h1 (List.mem_map.mpr ⟨x, e, q.symm⟩)]
      exact find_nd h2 e
theorem grpOf_at {rs : List Row} (hd : (namesR rs).Nodup) {i : Nat} (h : i < rs.length) : grpOf rs (nameAt rs i) = ((grpsR rs).getD i []).map (nameAt rs) := by
  unfold grpOf
  have := find_nd (xs := grpR rs) (by rw [grpR_names]; exact hd) (List.mem_of_getElem? (grpR_get h))
  rw [this]; rfl
theorem nameAt_inj {rs : List Row} (hd : (namesR rs).Nodup) {i j : Nat} (hi : i < rs.length) (hj : j < rs.length) (e : nameAt rs i = nameAt rs j) : i = j := by
  have e1 : (namesR rs)[i]? = some (nameAt rs i) := by unfold namesR; rw [List.getElem?_map, row_get hi]; rfl
  have e2 : (namesR rs)[j]? = some (nameAt rs j) := by unfold namesR; rw [List.getElem?_map, row_get hj]; rfl
  rw [e] at e1
  exact (List.getElem?_inj (by unfold namesR; rw [List.length_map]; exact hi) hd).mp (e1.trans e2.symm)
theorem name_place {rs : List Row} {z : Str} (h : z ∈ namesR rs) : ∃ i, i < rs.length ∧ nameAt rs i = z := by
  rw [← range_names] at h
  obtain ⟨i, h1, h2⟩ := List.mem_map.mp h
  exact ⟨i, List.mem_range.mp h1, h2⟩
/-- found and rest make up the names -/
def Halves (rs : List Row) (found rest : List Str) : Prop := (found ++ rest).Perm (namesR rs)
theorem Halves.apart {rs : List Row} (hd : (namesR rs).Nodup) {found rest : List Str} (h : Halves rs found rest) {z : Str} (hz : z ∈ rest) : z ∉ found := fun hf =>
  (List.nodup_append.mp (h.nodup_iff.mpr hd)).2.2 z hf z hz rfl
theorem filter_one {l : List Nat} (hd : l.Nodup) {i : Nat} (h : i ∈ l) : (l.filter fun m => decide (m = i)) = [i] := by
  induction l with
  | nil => exact absurd h List.not_mem_nil
  | cons x l ih =>
    obtain ⟨h1, h2⟩ := List.nodup_cons.mp hd
    by_cases e : x = i
    · subst e
      rw [List.filter_cons, if_pos (decide_eq_true rfl)]
      congr 1
      exact List.filter_eq_nil_iff.mpr fun m hm q => h1 ((of_decide_eq_true q) ▸ hm)
    · rw [List.filter_cons_of_neg (by simpa using e)]
      exact ih h2 ((List.mem_cons.mp h).resolve_left fun q => e q.symm)
theorem least_place {p : Nat → Prop} [DecidablePred p] : ∀ {n : Nat}, p n → ∃ i, p i ∧ ∀ j, j < i → ¬ p j := by
  intro n
  induction n using Nat.strongRecOn with
  | _ n ih =>
    intro h
    by_cases q : ∃ m, m < n ∧ p m
    · obtain ⟨m, h1, h2⟩ := q
      exact ih m h1 h2
    · exact ⟨n, h, fun j hj hp => q ⟨j, hj, hp⟩⟩
theorem some_free {rs : List Row} (hd : (namesR rs).Nodup) {found rest : List Str} (h : Halves rs found rest) (hne : rest ≠ []) : ∃ z, z ∈ rest ∧ freeB rs found z = true := by
  obtain ⟨y, hy⟩ := List.exists_mem_of_ne_nil _ hne
  have mem : ∀ z, z ∈ rest → z ∈ namesR rs := fun z hz => h.mem_iff.mp (List.mem_append_right _ hz)
  obtain ⟨k, hk, ek⟩ := name_place (mem y hy)
  obtain ⟨i, ⟨hi, hri⟩, hmin⟩ := least_place (p := fun i => i < rs.length ∧ nameAt rs i ∈ rest) (n := k) ⟨hk, ek ▸ hy⟩
  refine ⟨nameAt rs i, hri, ?_⟩
  have TO := treeR rs
  unfold freeB
  rw [grpOf_at hd hi, List.filter_map, List.length_map]
  have e : ((grpsR rs).getD i []).filter ((fun y => decide (y ∉ found)) ∘ nameAt rs) = ((grpsR rs).getD i []).filter fun m => decide (m = i) := by
    apply List.filter_congr
    intro m hm
    have hmi := TO.le i m hi hm
    show decide (nameAt rs m ∉ found) = decide (m = i)
    apply decide_eq_decide.mpr
    constructor
    · intro hnf
      by_cases q : m = i
      · exact q
      · have hmr : nameAt rs m ∈ rest := by
          have : nameAt rs m ∈ namesR rs := by
            rw [← range_names]; exact List.mem_map.mpr ⟨m, List.mem_range.mpr (by omega), rfl⟩
          exact (List.mem_append.mp (h.mem_iff.mpr this)).resolve_left hnf
        exact absurd ⟨by omega, hmr⟩ (hmin m (by omega))
    · intro q
      subst q
      exact h.apart hd hri
  rw [e, filter_one (TO.nd i hi) (TO.self i hi)]
  rfl
theorem Halves.step {rs : List Row} {found rest : List Str} (h : Halves rs found rest) {z : Str} (hz : z ∈ rest) : Halves rs (found ++ [z]) (rest.erase z) := by
  have p : (found ++ rest).Perm (found ++ (z :: rest.erase z)) := (List.perm_cons_erase hz).append_left _
  have e : found ++ [z] ++ rest.erase z = found ++ (z :: rest.erase z) := by simp
  unfold Halves
  rw [e]
  exact p.symm.trans h
theorem free_head {rs : List Row} (hd : (namesR rs).Nodup) {found rest : List Str} (h : Halves rs found rest) (hne : rest ≠ []) : ∃ z r, rest.filter (freeB rs found) = z :: r ∧ z ∈ rest := by
  obtain ⟨z, hz, hf⟩ := some_free hd h hne
  cases e : rest.filter (freeB rs found) with
  | nil =>
    have := List.mem_filter.mpr ⟨hz, hf⟩
    rw [e] at this
    exact absurd this List.not_mem_nil
  | cons y r => exact ⟨y, r, rfl, (List.mem_filter.mp (e ▸ List.mem_cons_self)).1⟩
theorem nrm_perm {rs : List Row} (hd : (namesR rs).Nodup) : ∀ (n : Nat) (found rest : List Str), Halves rs found rest → rest.length = n → (nrm rs n found rest).Perm (namesR rs)
  | 0, found, rest, h, e => by
    have e := List.eq_nil_of_length_eq_zero e
    subst e
    unfold Halves at h
    rw [List.append_nil] at h
    exact h
  | n + 1, found, rest, h, e => by
    obtain ⟨z, r, e1, e2⟩ := free_head hd h (fun q => by subst q; cases e)
    show (match rest.filter (freeB rs found) with
      | [] => found
      | z :: _ => nrm rs n (found ++ [z]) (rest.erase z)).Perm _
    rw [e1]
    exact nrm_perm hd n _ _ (h.step e2) (by rw [List.length_erase_of_mem e2]; omega)
theorem sortN_len (xs : List Str) : (sortN xs).length = xs.length := (isort_perm _ xs).length_eq
theorem halves0 (rs : List Row) : Halves rs [] (sortN (namesR rs)) := isort_perm _ _
theorem namesR_len (rs : List Row) : (namesR rs).length = rs.length := List.length_map _
theorem normN_perm {rs : List Row} (hd : (namesR rs).Nodup) : (normN rs).Perm (namesR rs) := nrm_perm hd _ _ _ (halves0 rs) (by rw [sortN_len, namesR_len])
theorem by_names {rs : List Row} (hd : (namesR rs).Nodup) {ns : List Str} (p : ns.Perm (namesR rs)) : namesR (ns.map (rowBy rs)) = ns ∧ (ns.map (rowBy rs)).Perm rs := by
  refine ⟨?_, ?_⟩
  · unfold namesR
    rw [List.map_map]
    conv => rhs; rw [← List.map_id ns]
    apply List.map_congr_left
    intro z hz
    obtain ⟨r, h1, h2⟩ := List.mem_map.mp (p.mem_iff.mp hz)
    have h2 : r.a = z := h2
    subst h2
    show (rowBy rs r.a).a = r.a
    rw [rowBy_mem hd h1]
  · have := p.map (rowBy rs)
    rw [rowBy_map hd] at this
    exact this
theorem normR_names {rs : List Row} (hd : (namesR rs).Nodup) : namesR (normR rs) = normN rs := (by_names hd (normN_perm hd)).1
theorem normR_perm {rs : List Row} (hd : (namesR rs).Nodup) : (normR rs).Perm rs := (by_names hd (normN_perm hd)).2
end Elk
set_option Elab.async false
set_option linter.all false
set_option maxRecDepth 100000
set_option maxHeartbeats 4000000
namespace Elk
open PySem PySem.Spec PyProof.Rows L2
def sp_groups_by_name (K : W.Frag) : Sp := Pm (ι := List Row) (fun rs vs F => ∃ v, vs = [v] ∧ vLine K rs v F ∧ LineOk rs) (fun rs v F => vDG (grpR rs) v F)
def sp_normal_order (K : W.Frag) : Sp := Pm (ι := List Row) (fun rs vs F => ∃ v, vs = [v] ∧ vLine K rs v F ∧ LineOk rs) (fun rs v F => vL vS (normN rs) v F)
def sp_normal (K : W.Frag) : Sp := Pm (ι := List Row) (fun rs vs F => ∃ v, vs = [v] ∧ vLine K rs v F ∧ LineOk rs) (fun rs v F => vLine K (normR rs) v F)
/-- what is kept of each pair -/
def kvG (H : Hp) (x : Str × List Str) (kv : Key × V) : Prop := kv.1 = .inr x.1 ∧ vL vS x.2 kv.2 H
theorem kvG_keys {H : Hp} {xs : List (Str × List Str)} {kvs : List (Key × V)} (h : Paired (kvG H) xs kvs) : kvs.map (·.1) = xs.map fun x => (.inr x.1 : Key) := by
  induction h with
  | nil => rfl
  | cons a _ ih => rw [List.map_cons, List.map_cons, a.1, ih]
theorem kvG_mo {H H' : Hp} (s : Same H H') {xs : List (Str × List Str)} {kvs : List (Key × V)} (h : Paired (kvG H) xs kvs) : Paired (kvG H') xs kvs := Paired.mapP h fun _ _ e => ⟨e.1, Mo.mo s e.2⟩
theorem kvG_snoc {H : Hp} {xs : List (Str × List Str)} {kvs : List (Key × V)} {x : Str × List Str} {kv : Key × V} (h : Paired (kvG H) xs kvs) (k : kvG H x kv) : Paired (kvG H) (xs ++ [x]) (kvs ++ [kv]) := by
  induction h with
  | nil => exact .cons k .nil
  | cons a _ ih => exact .cons a ih
instance : Mo vDG := ⟨fun s ⟨a, kvs, e, h, l⟩ => ⟨a, kvs, e, s _ _ h, Paired.mapP l fun _ _ e => ⟨e.1, Mo.mo s e.2⟩⟩⟩
theorem kvG_find {H : Hp} {xs : List (Str × List Str)} {kvs : List (Key × V)} (h : Paired (kvG H) xs kvs) (z : Str) : ∀ x, (xs.find? fun q => decide (q.1 = z)) = some x → ∃ v, valV kvs (.inr z) = some v ∧ vL vS x.2 v H := by
  induction h with
  | nil => intro x e; cases e
  | @cons y kv ys kvs a t ih =>
    intro x e
    obtain ⟨h1, h2⟩ := a
    rw [List.find?_cons] at e
    by_cases q : y.1 = z
    · rw [decide_eq_true q] at e
      cases e
      exact ⟨kv.2, valV_pos (by rw [h1, q]), h2⟩
    · rw [decide_eq_false q] at e
      obtain ⟨v, h3, h4⟩ := ih x e
      refine ⟨v, ?_, h4⟩
      rw [valV_neg (by rw [h1]; intro w; exact q (Sum.inr.inj w))]
      exact h3
theorem grpOf_find {rs : List Row} {z : Str} (h : z ∈ namesR rs) : ∃ x, ((grpR rs).find? fun q => decide (q.1 = z)) = some x ∧ x.2 = grpOf rs z := by
  cases e : (grpR rs).find? fun q => decide (q.1 = z) with
  | none =>
    rw [List.find?_eq_none] at e
    rw [← grpR_names] at h
    obtain ⟨x, h1, h2⟩ := List.mem_map.mp h
    exact absurd (decide_eq_true h2) (e x h1)
  | some x =>
    refine ⟨x, rfl, ?_⟩
    unfold grpOf
    rw [e]; rfl
theorem nrm_step {rs : List Row} {n : Nat} {found rest r : List Str} {z : Str} (h : rest.filter (freeB rs found) = z :: r) : nrm rs (n + 1) found rest = nrm rs n (found ++ [z]) (rest.erase z) := by
  rw [nrm, h]
theorem grpOf_len {rs : List Row} (lok : LineOk rs) {z : Str} (h : z ∈ namesR rs) : (grpOf rs z).length ≤ 100 := by
  obtain ⟨i, hi, e⟩ := name_place h
  subst e
  rw [grpOf_at lok.nd hi, List.length_map]
  have h1 := group_len (treeR rs) hi
  have h2 : rs.length ≤ 100 := lok.len
  have h3 : ((grpsR rs).getD i []).length ≤ i + 1 := h1
  omega
section
variable {P : Program} {w : World} {K : W.Frag} {mg : Str → Option Value} {base : Heap}
abbrev N_groups_by_name : List Str := ["line", "groups", "at"]
theorem sc_groups_by_name : FnScope N_groups_by_name ["line"] (defScope s_groups_by_name) := ⟨rfl, rfl, rfl, by decide +kernel, rfl, by decide +kernel, by decide +kernel⟩
theorem ok_groups_by_name (T : Tp K mg) : Ok P w K mg base 3 (He.ga K "groups_by_name") ["line"] (sp_groups_by_name K) := by
  obtain ⟨fd_trees_of, G_trees_of, b_trees_of, k_trees_of⟩ := ok_trees_of (P := P) (w := w) (base := base) T
  obtain ⟨fd_names_at, G_names_at, b_names_at, k_names_at⟩ := ok_names_at (P := P) (w := w) (base := base) T
  refine mk_ok (F_groups_by_name T) sc_groups_by_name ?_ (fun _ _ _ _ _ _ us hl => match us, hl with | [_], _ => rfl) (fun cdv A outer s H vs Q E hr h => ?_)
  · rintro vs H Q E ⟨i, F, _, ⟨v, rfl, _⟩, _⟩
    rfl
  obtain ⟨rs, F, sm, ⟨v, rfl, hv, lok⟩, k⟩ := h
  refine ⟨_, (pss_cons (ps_set (i := 1) sc_groups_by_name.nd rfl (by first | exact Or.inl rfl | exact Or.inr rfl) (pe_ix (ix2b (vL (vO vN)) (vL (vL vN))) (pe_call G_trees_of (hr.mono (by decide)) rfl (g_trees_of T) k_trees_of b_trees_of .nil pass0 (pa_cons (pe_every T (pv 0) rfl) pa_nil)) pe_int (fun _ _ => rfl)))
    (pss_one (ps_ret (pe_dc (own := [("at", 2)]) (g := gName 2) rfl sc_groups_by_name.nd (pi_range1 rfl (n_range T) (pa_cons (pe_callB (call_lenL (vL vN)) (by rfl) (n_len T) (by decide +kernel) (pa_cons (pv 1) pa_nil)) pa_nil)) (blkOk_by (N := N_groups_by_name) (sc := defScope s_groups_by_name) (by decide +kernel)) (fun _ _ _ _ _ => (pg_name (i := 2) sc_groups_by_name.nd rfl (by first | exact Or.inl rfl | exact Or.inr rfl))) (fun _ _ _ _ _ => pts_nil) (fun _ _ _ _ _ => (pe_ix (ix3a vS (vT vS) vI) (pe_ix (ixT vRow) (pe_every T (pv 0) rfl) (pv 2) (fun _ _ => rfl)) pe_int (fun _ _ => rfl))) (fun _ _ _ _ _ => (pe_call G_names_at (hr.mono (by decide)) rfl (g_names_at T) k_names_at b_names_at .nil pass0 (pa_cons (pv 0) (pa_cons (pe_ix (ixL (vL vN)) (pv 1) (pv 2) (fun _ _ => rfl)) pa_nil)))))))), ?_⟩
  refine ⟨_, rfl, F, rs, sm, hv, fun t ht => ?_⟩
  refine ⟨rs, F, sm, ⟨_, rfl, ht, lok.rows⟩, fun u1 F1 H1 g1 hu1 => ?_⟩
  refine ⟨F1, _, g1.i, hu1, rfl, fun u2 hu2 => ?_⟩
  have TO := treeR rs
  have hl0 : (grpsR rs).length = rs.length := TO.gl
  have hn : rs.length ≤ 100 := lok.len
  refine ⟨_, rfl, F1, _, grpsR rs, rfl, hu2.m g1.i, ?_⟩
  refine ⟨_, rfl, (small62 (by omega)).1, (small62 (by omega)).2, fun D hD => ?_⟩
  rw [hl0]
  have fD := g1.i.free hD
  refine dcN (fun i H' => ∃ F' kvs, Grow F1 H1 F' H' ∧ F' D = none ∧ H' D = some (.dK kvs) ∧ Paired (kvG F') ((grpR rs).take i) kvs) ?_ ?_ ?_
  · exact ⟨F1, [], Grow.new g1.i hD, fD, upd_same, .nil⟩
  · intro i H' hi ⟨F', kvs, g, hf, hk, l⟩
    have g2 := g1.trans g
    refine ⟨rfl, _, rfl, F', rs, g.i, Mo.mo g2.f hv, fun t ht => ⟨_, rfl, F', rs, i, _, g.i, ht, rfl, row_get hi, fun r hr => ⟨F', _, g.i, hr, rfl, fun y hy => ?_⟩⟩⟩
    refine ⟨_, rfl, _, rfl, _, rfl, F', grpsR rs, i, _, (Mo.mo g.f hu2).m g.i, rfl, some_getD (d := []) (by rw [hl0]; exact hi), fun u5 hu5 => ?_⟩
    have gl := group_len TO hi
    refine ⟨(rs, (grpsR rs).getD i []), F', g.i, ⟨_, _, rfl, Mo.mo g2.f hv, hu5, fun p hp => Nat.lt_of_le_of_lt (TO.le i p hi hp) hi, Nat.le_trans gl (by omega)⟩, fun z F5 H5 g5 hz => ?_⟩
    have eg := grpR_get hi
    have nd : ((grpR rs).map (·.1)).Nodup := by rw [grpR_names]; exact lok.nd
    have hlen : kvs.length < sizeLine := by
      rw [← Paired.length l, List.length_take, grpR_len]
      exact small_of (by omega)
    have ey : y = kV (.inr (nameAt rs i)) := hy
    have f5 := g5.out hk hf
    refine ⟨kvs, _, ey, g5.h _ _ hk, hlen, F5, kvs ++ [(.inr (nameAt rs i), z)], (g.trans g5).set hD f5, f5, ?_, ?_⟩
    · rw [upd_same, putK_new]
      rw [kvG_keys l]
      have := fresh_key nd eg (f := fun x => ((.inr x.1 : Key), V.non)) fun _ => rfl
      rw [List.map_map] at this
      exact this
    · have tk : (grpR rs).take (i + 1) = (grpR rs).take i ++ [(nameAt rs i, ((grpsR rs).getD i []).map (nameAt rs))] := by rw [List.take_succ, eg]; rfl
      rw [tk]
      exact kvG_snoc (kvG_mo g5.f l) ⟨rfl, hz⟩
  · intro H' ⟨F', kvs, g, hf, hk, l⟩
    rw [List.take_of_length_le (by rw [grpR_len]; exact Nat.le_refl _)] at l
    exact k _ _ _ (g1.trans (g.keep hD hk)) ⟨D, kvs, rfl, upd_same, kvG_mo (same_keep hf) l⟩
abbrev scx_normal_order_0 : Scope := { kind := .function, names := [(".0", .local), ("name", .local), ("len", .globalImplicit), ("found", .cell), ("groups", .cell)], isGenerator := false, isCoroutine := false }
abbrev N_normal_order : List Str := ["line", "rest", "groups", "found", "free", "name", "one"]
theorem sc_normal_order : FnScope N_normal_order ["line"] (defScope s_normal_order) := ⟨rfl, rfl, rfl, by decide +kernel, rfl, by decide +kernel, by decide +kernel⟩
theorem ok_normal_order (T : Tp K mg) : Ok P w K mg base 4 (He.ga K "normal_order") ["line"] (sp_normal_order K) := by
  obtain ⟨fd_groups_by_name, G_groups_by_name, b_groups_by_name, k_groups_by_name⟩ := ok_groups_by_name (P := P) (w := w) (base := base) T
  obtain ⟨fdL_names, GL_names, bL_names, kL_names⟩ := ok_Line_names (P := P) (w := w) (base := base) T
  refine mk_ok (F_normal_order T) sc_normal_order ?_ (fun _ _ _ _ _ _ us hl => match us, hl with | [_], _ => rfl) (fun cdv A outer s H vs Q E hr h => ?_)
  · rintro vs H Q E ⟨i, F, _, ⟨v, rfl, _⟩, _⟩
    rfl
  obtain ⟨rs, F, sm, ⟨v, rfl, hv, lok⟩, k⟩ := h
  refine ⟨_, (pss_cons (ps_asg (pe_tup (pa_cons (pe_call G_groups_by_name (hr.mono (by decide)) rfl (g_groups_by_name T) k_groups_by_name b_groups_by_name .nil pass0 (pa_cons (pv 0) pa_nil)) (pa_cons (pe_lst pa_nil) pa_nil))) (pg_tup (by rfl) (pgs_cons (pg_name (i := 2) sc_normal_order.nd rfl (by first | exact Or.inl rfl | exact Or.inr rfl)) (pgs_cons (pg_name (i := 3) sc_normal_order.nd rfl (by first | exact Or.inl rfl | exact Or.inr rfl)) pgs_nil))))
    (pss_cons (ps_set (i := 1) sc_normal_order.nd rfl (by first | exact Or.inl rfl | exact Or.inr rfl) (pe_callB (cr_sortF vS hr.units slo_str sortK_str) (by rfl) (n_sorted T) (by decide +kernel) (pa_cons (pe_meth0 (pv 0) (cls_Line T) (m_Line_names T) GL_names (hr.mono (by decide)) bL_names .nil pass0) pa_nil)))
    (pss_cons (ps_while PassesOwn.never (pt_ne0 vS hr.units (pv 1))
      (pss_cons (ps_setLc (i := 4) (own := [("name", 5)]) (g := gName 5) rfl sc_normal_order.nd rfl rfl (sw_true rfl rfl rfl (by decide +kernel)) (pi_list (pv 1)) (blkOk_by (N := N_normal_order) (sc := defScope s_normal_order) (by decide +kernel)) (fun _ _ _ _ _ => (pg_name (i := 5) sc_normal_order.nd rfl (by first | exact Or.inl rfl | exact Or.inr rfl))) (fun _ _ _ _ _ => (pts_one (pt_cmpR (opF_eq vI hr.units) (pe_callB (call_lenL vS) (by rfl) (n_len T) (by decide +kernel) (pa_cons (pe_lc (own := [("one", 6)]) (g := gName 6) rfl sc_normal_order.nd (pi_listK K (pe_dget (hu_of hr) (pv 2) (pv 5) (fun _ _ => rfl))) (blkOk_by (N := N_normal_order) (sc := scx_normal_order_0) (by decide +kernel)) (fun _ _ _ _ _ => (pg_name (i := 6) sc_normal_order.nd rfl (by first | exact Or.inl rfl | exact Or.inr rfl))) (fun _ _ _ _ _ => (pts_one (pt_cmpR (op_notInL vS hr.units) (pv 6) (pv 3) rfl))) (fun _ _ _ _ _ => (pv 6))) pa_nil)) pe_int (nomark _)))) (fun _ _ _ _ _ => (pv 5)))
      (pss_cons (ps_expr (pe_bm PySem.F.plainAttrs_list PySem.F.slot_list_append PySem.F.type_list_append mt_append (pv 3) (pa_cons (pe_ix (ixL vS) (pv 4) pe_int (fun _ _ => rfl)) pa_nil)))
      (pss_one (ps_expr (pe_bm PySem.F.plainAttrs_list PySem.F.slot_list_remove PySem.F.type_list_remove mt_rmS (pv 1) (pa_cons (pe_ix (ixL vS) (pv 4) pe_int (fun _ _ => rfl)) pa_nil)))))))
    (pss_one (ps_ret (pv 3)))))), ?_⟩
  refine ⟨_, rfl, rs, F, sm, ⟨_, rfl, hv, lok⟩, fun u1 F1 H1 g1 hu1 => ?_⟩
  obtain ⟨ga, kvs, rfl, hga, lg⟩ := id hu1
  refine ⟨Nat.zero_le _, fun fa hfa => ?_⟩
  have fa0 : H fa = none := g1.h.free hfa
  have g2 := g1.trans (Grow.new (o := .lst []) g1.i hfa)
  have f1a : F1 fa = none := g1.i.free hfa
  refine ⟨by show 2 ≤ sizeLine; decide, fun tp htp => ?_⟩
  have nft : fa ≠ tp := ne_of_none (upd_same (H := H1) (a := fa)) htp
  have g3 := g2.trans (Grow.put (o := .tup [.ref ga, .ref fa]) g2.i htp)
  refine ⟨tp, _, rfl, SqT.of upd_same, rfl, _, _, rfl, _, _, rfl, rfl, ?_⟩
  have s13 : Same F1 (upd F1 tp (.tup [.ref ga, .ref fa])) := same_upd (g2.i.free htp)
  refine ⟨_, rfl, (Mo.mo g3.f hv).at_ g3.i rfl rfl ⟨rs, _, g3.i, ⟨_, rfl, Mo.mo g3.f hv, lok.len⟩, fun u4 F4 H4 g4 hu4 => ?_⟩⟩
  have f3a : (upd F1 tp (.tup [.ref ga, .ref fa])) fa = none := by rw [upd_ne nft]; exact f1a
  have h3a : (upd (upd H1 fa (.lst [])) tp (.tup [.ref ga, .ref fa])) fa = some (.lst []) := by rw [upd_ne nft]; exact upd_same
  have f4a := g4.out h3a f3a
  have h4a := g4.h _ _ h3a
  have s14 := s13.trans g4.f
  have g4 := g3.trans g4
  refine ⟨F4, u4, namesR rs, rfl, g4.i, hu4.m g4.i, fun qa ys hqa hys => ?_⟩
  have qa0 : H qa = none := g4.h.free hqa
  have g5 := g4.trans (Grow.new (o := .lst ys) g4.i hqa)
  have f4q := g4.i.free hqa
  have nfq : fa ≠ qa := ne_of_none h4a hqa
  have eys : ys = (sortN (namesR rs)).map V.str := all2S.mp hys
  subst eys
  have ldone : (sortN (namesR rs)).length = rs.length := by rw [sortN_len, namesR_len]
  refine ⟨fun m σ H' => ∃ F' found rest x4, σ = [some v, some (.ref qa), some (.ref ga), some (.ref fa), x4, none, none] ∧ Grow F H F' H' ∧ Same F1 F' ∧ F' fa = none ∧ F' qa = none ∧ H' fa = some (.lst (found.map V.str)) ∧
    H' qa = some (.lst (rest.map V.str)) ∧ Halves rs found rest ∧ nrm rs rest.length found rest = normN rs ∧ m = rest.length,
    ⟨_, F4, [], sortN (namesR rs), none, rfl, g5, s14, f4a, f4q, by rw [upd_ne nfq]; exact h4a, upd_same, halves0 rs, by rw [ldone]; rfl, rfl⟩, ?_⟩
  intro m σ H' ⟨F', found, rest, x4, es, g, s1, ffa, fqa, hfa', hqa', hh, en, em⟩
  subst es em
  refine ⟨_, rfl, F', rest, g.i, ⟨qa, _, rfl, hqa', all2S.mpr rfl⟩, fun F6 H6 g6 => ?_⟩
  have ffa6 := g6.out hfa' ffa
  have fqa6 := g6.out hqa' fqa
  have hfa6 := g6.h _ _ hfa'
  have hqa6 := g6.h _ _ hqa'
  have s16 := s1.trans g6.f
  have g6 := g.trans g6
  have lenr : rest.length ≤ 100 := by
    have h1 := hh.length_eq
    rw [List.length_append, namesR_len] at h1
    have h2 : rs.length ≤ 100 := lok.len
    omega
  have lenf : found.length ≤ 100 := by
    have h1 := hh.length_eq
    rw [List.length_append, namesR_len] at h1
    have h2 : rs.length ≤ 100 := lok.len
    omega
  refine iteB (fun hb => ?_) (fun hb => ?_)
  · have hne : rest ≠ [] := by
      intro e; subst e; cases hb
    obtain ⟨z, r, ez, hz⟩ := free_head lok.nd hh hne
    refine ⟨fun σ' H' => ∃ m', m' < rest.length ∧ ∃ F' found rest x4, σ' = [some v, some (.ref qa), some (.ref ga), some (.ref fa), x4, none, none] ∧ Grow F H F' H' ∧ Same F1 F' ∧ F' fa = none ∧ F' qa = none ∧ H' fa = some (.lst (found.map V.str)) ∧
      H' qa = some (.lst (rest.map V.str)) ∧ Halves rs found rest ∧ nrm rs rest.length found rest = normN rs ∧ m' = rest.length, fun _ _ z => z, ?_⟩
    refine ⟨_, rfl, qa, rfl, ⟨_, SqL.of hqa6⟩, fun D hD => ?_⟩
    refine lcL (p := vS) (q := vS) (f := id) (t := freeB rs found) g6.i hD hqa6 (all2S.mpr rfl) (by omega) ?_ ?_
    · intro y yv F7 H7 hy g7 hyv N Y hN hY
      have ey : yv = .str y := hyv
      subst ey
      have hyn : y ∈ namesR rs := hh.mem_iff.mp (List.mem_append_right _ hy)
      obtain ⟨x, hx1, hx2⟩ := grpOf_find hyn
      obtain ⟨gv, hgv, lgv⟩ := kvG_find (kvG_mo (s16.trans g7.f) lg) y x hx1
      rw [hx2] at lgv
      obtain ⟨b, bs, rfl, hb7, lb⟩ := lgv
      refine ⟨rfl, _, rfl, _, rfl, ga, _, rfl, hgv ▸ DGet.k (k := .inr y) (g7.i _ _ ((s16.trans g7.f) _ _ hga)), b, rfl, ⟨_, SqL.of (g7.i _ _ hb7)⟩, fun D2 hD2 => ?_⟩
      refine lcL (p := vS) (q := vS) (f := id) (t := fun y => decide (y ∉ found)) g7.i hD2 (g7.i _ _ hb7) lb ?_ ?_ ?_
      · exact Nat.le_trans (grpOf_len lok hyn) (by decide)
      · intro o ov F8 H8 ho g8 hov N2 Y2 hN2 hY2
        refine ⟨rfl, _, rfl, _, rfl, F8, o, found, g8.i, hov, ⟨fa, _, rfl, g8.h _ _ (g7.h _ _ hfa6), all2S.mpr rfl⟩, _, rfl, ?_⟩
        exact iteB (fun ht => ⟨_, rfl, hY2 _ _ _ (Grow.refl g8.i) ht hov⟩) fun ht => hN2 _ _ (Grow.refl g8.i) ht
      · intro F8 H8 g8 hl8
        refine ⟨F8, _, _, rfl, hl8.m g8.i, F8, _, _, g8.i, rfl, rfl, _, rfl, ?_⟩
        rw [List.map_id]
        have et : decide ((((grpOf rs y).filter fun y => decide (y ∉ found)).length : Int) = (1 : Int)) = freeB rs found y := by
          unfold freeB
          exact decide_eq_decide.mpr (by omega)
        rw [et]
        exact iteB (fun ht => ⟨_, rfl, hY _ _ _ g8 ht rfl⟩) fun ht => hN _ _ g8 ht
    · intro F7 H7 g7 hl7
      rw [List.map_id, ez] at hl7
      have hfa7 := g7.h _ _ hfa6
      have hqa7 := g7.h _ _ hqa6
      have ffa7 := g7.out hfa6 ffa6
      have fqa7 := g7.out hqa6 fqa6
      have g7' := g6.trans g7
      -- found.append(free[0])
      refine ⟨_, rfl, .inl ⟨rfl, _, SqL.of hfa7⟩, _, rfl, F7, z :: r, 0, z, hl7.m g7.i, rfl, rfl, fun w hw => ?_⟩
      have ew : w = .str z := hw
      subst ew
      refine ⟨fa, _, _, rfl, rfl, hfa7, small_of (by rw [List.length_map]; omega), ?_⟩
      have g8 := g7'.set (o := .lst (found.map V.str ++ [.str z])) fa0 ffa7
      have hqa8 : (upd H7 fa (.lst (found.map V.str ++ [.str z]))) qa = some (.lst (rest.map V.str)) := by rw [upd_ne (Ne.symm nfq)]; exact hqa7
      -- rest.remove(free[0])
      refine ⟨_, rfl, .inl ⟨rfl, _, SqL.of hqa8⟩, _, rfl, F7, z :: r, 0, z, hl7.m g8.i, rfl, rfl, fun w hw => ?_⟩
      have ew : w = .str z := hw
      subst ew
      refine ⟨qa, rest, z, rfl, rfl, hqa8, hz, ?_⟩
      have g9 := g8.set (o := .lst ((rest.erase z).map V.str)) qa0 fqa7
      have le : (rest.erase z).length + 1 = rest.length := by
        rw [List.length_erase_of_mem hz]
        have : 0 < rest.length := List.length_pos_iff.mpr hne
        omega
      refine ⟨(rest.erase z).length, by omega, F7, found ++ [z], rest.erase z, _, rfl, g9, s16.trans g7.f, ffa7, fqa7, ?_, upd_same, hh.step hz, ?_, rfl⟩
      · rw [upd_ne nfq, upd_same, List.map_append]; rfl
      · rw [← en, ← le]
        exact (nrm_step ez).symm
  · have e : rest = [] := by
      cases rest with
      | nil => rfl
      | cons _ _ => cases hb
    subst e
    have en : found = normN rs := en
    subst en
    exact ⟨_, rfl, k _ _ _ (g6.keep fa0 hfa6) ⟨fa, _, rfl, upd_same, all2S.mpr rfl⟩⟩
abbrev N_normal : List Str := ["line"]
theorem sc_normal : FnScope N_normal ["line"] (defScope s_normal) := ⟨rfl, rfl, rfl, by decide +kernel, rfl, by decide +kernel, by decide +kernel⟩
theorem ok_normal (T : Tp K mg) : Ok P w K mg base 6 (He.ga K "normal") ["line"] (sp_normal K) := by
  obtain ⟨fd_check_line, G_check_line, b_check_line, k_check_line⟩ := ok_check_line (P := P) (w := w) (base := base) T
  obtain ⟨fd_normal_order, G_normal_order, b_normal_order, k_normal_order⟩ := ok_normal_order (P := P) (w := w) (base := base) T
  obtain ⟨fdL_ordered, GL_ordered, bL_ordered, kL_ordered⟩ := ok_Line_ordered (P := P) (w := w) (base := base) T
  refine mk_ok (F_normal T) sc_normal ?_ (fun _ _ _ _ _ _ us hl => match us, hl with | [_], _ => rfl) (fun cdv A outer s H vs Q E hr h => ?_)
  · rintro vs H Q E ⟨i, F, _, ⟨v, rfl, _⟩, _⟩
    rfl
  obtain ⟨rs, F, sm, ⟨v, rfl, hv, lok⟩, k⟩ := h
  refine ⟨_, (pss_cons (ps_expr (pe_call G_check_line (hr.mono (by decide)) rfl (g_check_line T) k_check_line b_check_line .nil pass0 (pa_cons (pv 0) pa_nil)))
    (pss_one (ps_ret (pe_meth (pv 0) (cls_Line T) (m_Line_ordered T) GL_ordered (hr.mono (by decide)) bL_ordered .nil pass0 (pa_cons (pe_call G_normal_order (hr.mono (by decide)) rfl (g_normal_order T) k_normal_order b_normal_order .nil pass0 (pa_cons (pv 0) pa_nil)) pa_nil))))), ?_⟩
  refine ⟨_, rfl, rs, F, sm, ⟨_, rfl, hv⟩, fun u1 F1 H1 g1 hu1 => ?_⟩
  refine ⟨_, rfl, (Mo.mo g1.f hv).at_ g1.i rfl rfl ⟨_, rfl, rs, F1, g1.i, ⟨_, rfl, Mo.mo g1.f hv, lok⟩, fun u2 F2 H2 g2 hu2 => ?_⟩⟩
  have g2 := g1.trans g2
  exact ⟨(rs, normR rs), F2, g2.i, ⟨_, _, rfl, Mo.mo g2.f hv, by rw [normR_names lok.nd]; exact hu2, lok, normR_perm lok.nd⟩, fun z F5 H5 g5 hz => k _ _ _ (g2.trans g5) hz⟩
end
end Elk
set_option Elab.async false
set_option linter.all false
set_option maxRecDepth 100000
set_option maxHeartbeats 4000000
namespace Elk
open PySem PySem.Spec PyProof.Rows L2
def factN (n : Nat) : Nat := (List.range' 1 n).foldl (fun a b => a * b) 1
def cntG (gs : List (List Nat)) (a : Nat) : Nat := gs.foldl (fun a g => a / g.length) a
def cntA (rs : List Row) : Nat := cntG (grpsR rs) (factN rs.length)
def abv (ps : List (Option Nat)) : Nat → Nat → List Nat
  | 0, _ => []
  | n + 1, t => match ps.getD t none with
    | none => []
    | some p => p :: abv ps n p
def posA (rs : List Row) (i : Nat) : Int × Int := ((((grpsR rs).getD i []).length : Int) - 1, ((rs.length : Int) - 1) - ((abv (parsR rs) rs.length i).length : Int))
def sp_count_alike (K : W.Frag) : Sp := Pm (ι := List Row) (fun rs vs F => ∃ v, vs = [v] ∧ vLine K rs v F ∧ LineOk rs) (fun rs v F => v = .int (cntA rs : Int))
def sp_above : Sp := Pm (ι := List (Option Nat) × Nat) (fun i vs F => ∃ v, vs = [v, .int (i.2 : Int)] ∧ vL (vO vN) i.1 v F ∧ (∀ t p, i.1.getD t none = some p → t < p ∧ p < i.1.length) ∧ i.2 < i.1.length ∧ i.1.length ≤ 1000) (fun i v F => vL vN (abv i.1 i.1.length i.2) v F)
def sp_positions (K : W.Frag) : Sp := Pm (ι := List Row × Nat × Row) (fun i vs F => ∃ v, vs = [v, .str i.2.2.a] ∧ vLine K i.1 v F ∧ AtP i.1 i.2.1 i.2.2 ∧ RowsOk i.1) (fun i v F => vP vI vI (posA i.1 i.2.1) v F)
theorem factN_succ (n : Nat) : factN (n + 1) = factN n * (1 + n) := by
  unfold factN
  rw [List.range'_concat, List.foldl_append, Nat.one_mul]
  rfl
section
variable {P : Program} {w : World} {K : W.Frag} {mg : Str → Option Value} {base : Heap}
abbrev N_count_alike : List Str := ["line", "number", "many", "places"]
theorem sc_count_alike : FnScope N_count_alike ["line"] (defScope s_count_alike) := ⟨rfl, rfl, rfl, by decide +kernel, rfl, by decide +kernel, by decide +kernel⟩
theorem ok_count_alike (T : Tp K mg) : Ok P w K mg base 3 (He.ga K "count_alike") ["line"] (sp_count_alike K) := by
  obtain ⟨fd_check_line, G_check_line, b_check_line, k_check_line⟩ := ok_check_line (P := P) (w := w) (base := base) T
  obtain ⟨fd_trees_of, G_trees_of, b_trees_of, k_trees_of⟩ := ok_trees_of (P := P) (w := w) (base := base) T
  refine mk_ok (F_count_alike T) sc_count_alike ?_ (fun _ _ _ _ _ _ us hl => match us, hl with | [_], _ => rfl) (fun cdv A outer s H vs Q E hr h => ?_)
  · rintro vs H Q E ⟨i, F, _, ⟨v, rfl, _⟩, _⟩
    rfl
  obtain ⟨rs, F, sm, ⟨v, rfl, hv, lok⟩, k⟩ := h
  refine ⟨_, (pss_cons (ps_expr (pe_call G_check_line (hr.mono (by decide)) rfl (g_check_line T) k_check_line b_check_line .nil pass0 (pa_cons (pv 0) pa_nil)))
    (pss_cons (ps_set (i := 1) sc_count_alike.nd rfl (by first | exact Or.inl rfl | exact Or.inr rfl) pe_int)
    (pss_cons (ps_for PassesOwn.never rfl (pi_range2 rfl (n_range T) (pa_cons pe_int (pa_cons (pe_op op_add (pe_callB (call_lenT vRow) (by rfl) (n_len T) (by decide +kernel) (pa_cons (pe_every T (pv 0) rfl) pa_nil)) pe_int) pa_nil))) (pg_name (i := 2) sc_count_alike.nd rfl (by first | exact Or.inl rfl | exact Or.inr rfl))
      (pss_one (ps_set (i := 1) sc_count_alike.nd rfl (by first | exact Or.inl rfl | exact Or.inr rfl) (pe_op op_mul (pv 1) (pv 2)))))
    (pss_cons (ps_for PassesOwn.never rfl (pi_list (pe_ix (ix2b (vL (vO vN)) (vL (vL vN))) (pe_call G_trees_of (hr.mono (by decide)) rfl (g_trees_of T) k_trees_of b_trees_of .nil pass0 (pa_cons (pe_every T (pv 0) rfl) pa_nil)) pe_int (fun _ _ => rfl))) (pg_name (i := 3) sc_count_alike.nd rfl (by first | exact Or.inl rfl | exact Or.inr rfl))
      (pss_one (ps_set (i := 1) sc_count_alike.nd rfl (by first | exact Or.inl rfl | exact Or.inr rfl) (pe_op op_fdivNN (pv 1) (pe_callB (call_lenL vN) (by rfl) (n_len T) (by decide +kernel) (pa_cons (pv 3) pa_nil))))))
    (pss_one (ps_ret (pv 1))))))), ?_⟩
  have hn : rs.length ≤ 100 := lok.len
  refine ⟨_, rfl, rs, F, sm, ⟨_, rfl, hv⟩, fun u1 F1 H1 g1 hu1 => ?_⟩
  refine ⟨_, rfl, F1, rs, g1.i, Mo.mo g1.f hv, fun t ht => ?_⟩
  refine ⟨F1, _, rs, rfl, g1.i, ht, _, _, rfl, rfl, 1, ((rs.length + 1 : Nat) : Int), by rw [Int.natCast_add]; rfl, ⟨by decide, by decide, by omega, by omega⟩, ?_⟩
  refine forAB (a := 1) (b := rs.length + 1) (fun i σ H' => ∃ x2, σ = [some v, some (.int (factN i : Int)), x2, none] ∧ H' = H1) ?_ ?_ ?_
  · exact ⟨none, rfl, rfl⟩
  · intro i σ H' hi ⟨x2, es, eH⟩
    subst es eH
    refine ⟨_, rfl, _, rfl, _, _, rfl, rfl, .inr ⟨by omega, by omega⟩, some (.int ((1 + i : Nat) : Int)), ?_, rfl⟩
    rw [factN_succ]
    show [some v, some (V.int ((factN i : Int) * ((1 + i : Nat) : Int))), _, none] = _
    rw [← Int.natCast_mul]
  · intro σ H' ⟨x2, es, eH⟩
    subst es eH
    refine ⟨_, rfl, F1, rs, g1.i, Mo.mo g1.f hv, fun t ht => ?_⟩
    refine ⟨rs, F1, g1.i, ⟨_, rfl, ht, lok.rows⟩, fun u2 F2 H2 g2 hu2 => ?_⟩
    have g2 := g1.trans g2
    refine ⟨F2, _, g2.i, hu2, rfl, fun u3 hu3 => ?_⟩
    obtain ⟨a, gs, rfl, ha, l⟩ := hu3
    have TO := treeR rs
    refine ⟨a, rfl, ⟨_, SqL.of (g2.i _ _ ha)⟩, ?_⟩
    refine for_list (xs := gs) (fun i σ H' => ∃ x3, σ = [some v, some (.int (cntG ((grpsR rs).take i) (factN rs.length) : Int)), x2, x3] ∧ H' = H2) ?_ ?_ ?_ ?_
    · exact ⟨none, rfl, rfl⟩
    · intro i σ H' _ ⟨x3, es, eH⟩
      subst eH
      exact SqL.of (g2.i _ _ ha)
    · intro i y σ H' hy ⟨x3, es, eH⟩
      subst es eH
      obtain ⟨g, hg, hgy⟩ := l.at hy
      have hi : i < rs.length := by
        have h1 := (List.getElem?_eq_some_iff.mp hg).1
        have h2 : (grpsR rs).length = rs.length := TO.gl
        have h3 : i < (grpsR rs).length := h1
        omega
      have eg : (grpsR rs).getD i [] = g := getD_some hg
      have h1 := group_len TO hi
      have h2 := TO.self i hi
      have h3 : 1 ≤ g.length := by
        rw [eg] at h2
        exact List.length_pos_of_mem h2
      rw [eg] at h1
      have eg2 : (grpsR rs).take (i + 1) = (grpsR rs).take i ++ [g] := by
        have : (grpsR rs)[i]? = some g := hg
        rw [List.take_succ, this]; rfl
      refine ⟨_, rfl, _, rfl, F2, _, g, rfl, hgy.m g2.i, _, _, rfl, rfl, ⟨h3, by omega⟩, some y, ?_, rfl⟩
      rw [eg2]
      unfold cntG
      rw [List.foldl_append]
      rfl
    · intro σ H' ⟨x3, es, eH⟩
      subst es eH
      have h2 : (grpsR rs).length = rs.length := TO.gl
      have h3 : (grpsR rs).length = gs.length := l.len
      refine ⟨_, rfl, k _ _ _ g2 ?_⟩
      rw [← h3, List.take_length]
      rfl
abbrev N_above : List Str := ["parents", "place", "found"]
theorem sc_above : FnScope N_above ["parents", "place"] (defScope s_above) := ⟨rfl, rfl, rfl, by decide +kernel, rfl, by decide +kernel, by decide +kernel⟩
theorem ok_above (T : Tp K mg) : Ok P w K mg base 1 (He.ga K "above") ["parents", "place"] sp_above := by
  refine mk_ok (F_above T) sc_above ?_ (fun _ _ _ _ _ _ us hl => match us, hl with | [_, _], _ => rfl) (fun cdv A outer s H vs Q E hr h => ?_)
  · rintro vs H Q E ⟨i, F, _, ⟨v, rfl, _⟩, _⟩
    rfl
  obtain ⟨⟨ps, t0⟩, F, sm, ⟨v, rfl, hv, hp, ht, hn⟩, k⟩ := h
  refine ⟨_, (pss_cons (ps_set (i := 2) sc_above.nd rfl (by first | exact Or.inl rfl | exact Or.inr rfl) (pe_lst pa_nil))
    (pss_cons (ps_while PassesOwn.never (pt_cmpR op_notN (pe_ix (ixL (vO vN)) (pv 0) (pv 1) (fun _ _ => rfl)) pe_non (nomark _))
      (pss_cons (ps_set (i := 1) sc_above.nd rfl (by first | exact Or.inl rfl | exact Or.inr rfl) (pe_ix (ixL (vO vN)) (pv 0) (pv 1) (fun _ _ => rfl)))
      (pss_one (ps_expr (pe_bm PySem.F.plainAttrs_list PySem.F.slot_list_append PySem.F.type_list_append mt_append (pv 2) (pa_cons (pv 1) pa_nil))))))
    (pss_one (ps_ret (pv 2))))), ?_⟩
  obtain ⟨a, vs, rfl, ha, l⟩ := hv
  refine ⟨Nat.zero_le _, fun fa hfa => ?_⟩
  have g1 := Grow.new (o := .lst []) sm hfa
  have ff := sm.free hfa
  have hn : ps.length ≤ 1000 := hn
  have ht : t0 < ps.length := ht
  have hp : ∀ t p, ps.getD t none = some p → t < p ∧ p < ps.length := hp
  refine ⟨fun m σ H' => ∃ F', ∃ (acc : List Nat) (t : Nat), σ = [some (.ref a), some (.int (t : Int)), some (.ref fa)] ∧ Grow F H F' H' ∧ F' fa = none ∧ H' fa = some (.lst (acc.map fun n : Nat => V.int (n : Int))) ∧ t < ps.length ∧ ps.length ≤ m + t ∧
    acc.length + m ≤ ps.length ∧ acc ++ abv ps m t = abv ps ps.length t0, ⟨ps.length, F, [], t0, rfl, g1, ff, upd_same, ht, by omega, by simp, rfl⟩, ?_⟩
  intro m σ H' ⟨F', acc, t, es, g, fF, hF, h1, h2, h3, h4⟩
  subst es
  have ha' := g.i _ _ (g.f _ _ ha)
  refine ⟨_, rfl, _, rfl, F', ps, t, _, ⟨a, vs, rfl, ha', l.mo g.f⟩, rfl, some_getD (d := none) h1, fun v1 hv1 => ?_⟩
  refine ⟨rfl, _, rfl, ?_⟩
  rw [vO_non vN_ne hv1]
  refine iteB (fun hb => ?_) (fun hb => ?_)
  · cases ep : ps.getD t none with
    | none => rw [ep] at hb; cases hb
    | some p =>
      obtain ⟨q1, q2⟩ := hp t p ep
      refine ⟨fun σ' H' => ∃ m', m' < m ∧ ∃ F', ∃ (acc : List Nat) (t : Nat), σ' = [some (.ref a), some (.int (t : Int)), some (.ref fa)] ∧ Grow F H F' H' ∧ F' fa = none ∧ H' fa = some (.lst (acc.map fun n : Nat => V.int (n : Int))) ∧ t < ps.length ∧ ps.length ≤ m' + t ∧
        acc.length + m' ≤ ps.length ∧ acc ++ abv ps m' t = abv ps ps.length t0, fun _ _ z => z, ?_⟩
      refine ⟨_, rfl, _, rfl, F', ps, t, _, ⟨a, vs, rfl, ha', l.mo g.f⟩, rfl, some_getD (d := none) h1, fun v2 hv2 => ?_⟩
      rw [ep] at hv2
      have e2 : v2 = .int (p : Int) := hv2
      subst e2
      refine ⟨_, rfl, .inl ⟨rfl, _, SqL.of hF⟩, _, rfl, fa, _, _, rfl, rfl, hF, small_of (by rw [List.length_map]; omega), ?_⟩
      obtain ⟨m', em⟩ : ∃ m', m = m' + 1 := ⟨m - 1, by omega⟩
      subst em
      refine ⟨m', by omega, F', acc ++ [p], p, rfl, g.set hfa fF, fF, by rw [upd_same, List.map_append]; rfl, q2, by omega, by rw [List.length_append]; show acc.length + 1 + m' ≤ _; omega, ?_⟩
      rw [← h4]
      have : abv ps (m' + 1) t = p :: abv ps m' p := by rw [abv, ep]
      rw [this]
      simp
  · cases ep : ps.getD t none with
    | some p => rw [ep] at hb; cases hb
    | none =>
      have e0 : abv ps m t = [] := by
        cases m with
        | zero => rfl
        | succ m => rw [abv, ep]
      rw [e0, List.append_nil] at h4
      refine ⟨_, rfl, k _ _ _ (g.keep hfa hF) ⟨fa, _, rfl, upd_same, ?_⟩⟩
      rw [← h4]
      exact all2N.mpr rfl
abbrev N_positions : List Str := ["line", "name", "place", "parents", "groups"]
theorem sc_positions : FnScope N_positions ["line", "name"] (defScope s_positions) := ⟨rfl, rfl, rfl, by decide +kernel, rfl, by decide +kernel, by decide +kernel⟩
theorem ok_positions (T : Tp K mg) : Ok P w K mg base 4 (He.ga K "positions") ["line", "name"] (sp_positions K) := by
  obtain ⟨fd_check_line, G_check_line, b_check_line, k_check_line⟩ := ok_check_line (P := P) (w := w) (base := base) T
  obtain ⟨fd_trees_of, G_trees_of, b_trees_of, k_trees_of⟩ := ok_trees_of (P := P) (w := w) (base := base) T
  obtain ⟨fd_above, G_above, b_above, k_above⟩ := ok_above (P := P) (w := w) (base := base) T
  obtain ⟨fdL_place, GL_place, bL_place, kL_place⟩ := ok_Line_place (P := P) (w := w) (base := base) T
  refine mk_ok (F_positions T) sc_positions ?_ (fun _ _ _ _ _ _ us hl => match us, hl with | [_, _], _ => rfl) (fun cdv A outer s H vs Q E hr h => ?_)
  · rintro vs H Q E ⟨i, F, _, ⟨v, rfl, _⟩, _⟩
    rfl
  obtain ⟨⟨rs, i, r⟩, F, sm, ⟨v, rfl, hv, ap, ro⟩, k⟩ := h
  refine ⟨_, (pss_cons (ps_expr (pe_call G_check_line (hr.mono (by decide)) rfl (g_check_line T) k_check_line b_check_line .nil pass0 (pa_cons (pv 0) pa_nil)))
    (pss_cons (ps_set (i := 2) sc_positions.nd rfl (by first | exact Or.inl rfl | exact Or.inr rfl) (pe_meth (pv 0) (cls_Line T) (m_Line_place T) GL_place (hr.mono (by decide)) bL_place .nil pass0 (pa_cons (pv 1) pa_nil)))
    (pss_cons (ps_asg (pe_call G_trees_of (hr.mono (by decide)) rfl (g_trees_of T) k_trees_of b_trees_of .nil pass0 (pa_cons (pe_every T (pv 0) rfl) pa_nil)) (pg_tup (by rfl) (pgs_cons (pg_name (i := 3) sc_positions.nd rfl (by first | exact Or.inl rfl | exact Or.inr rfl)) (pgs_cons (pg_name (i := 4) sc_positions.nd rfl (by first | exact Or.inl rfl | exact Or.inr rfl)) pgs_nil))))
    (pss_one (ps_ret (pe_tup (pa_cons (pe_op op_sub (pe_callB (call_lenL vN) (by rfl) (n_len T) (by decide +kernel) (pa_cons (pe_ix (ixL (vL vN)) (pv 4) (pv 2) (fun _ _ => rfl)) pa_nil)) pe_int) (pa_cons (pe_op op_sub (pe_op op_sub (pe_callB (call_lenT vRow) (by rfl) (n_len T) (by decide +kernel) (pa_cons (pe_every T (pv 0) rfl) pa_nil)) pe_int) (pe_callB (call_lenL vN) (by rfl) (n_len T) (by decide +kernel) (pa_cons (pe_call G_above (hr.mono (by decide)) rfl (g_above T) k_above b_above .nil pass0 (pa_cons (pv 3) (pa_cons (pv 2) pa_nil))) pa_nil))) pa_nil)))))))), ?_⟩
  refine ⟨_, rfl, rs, F, sm, ⟨_, rfl, hv⟩, fun u1 F1 H1 g1 hu1 => ?_⟩
  refine ⟨_, rfl, (Mo.mo g1.f hv).at_ g1.i rfl rfl ⟨_, rfl, (rs, i, r), F1, g1.i, ⟨_, rfl, Mo.mo g1.f hv, ap⟩, fun u2 F2 H2 g2 hu2 => ?_⟩⟩
  have g2 := g1.trans g2
  refine ⟨_, rfl, F2, rs, g2.i, Mo.mo g2.f hv, fun t ht => ?_⟩
  refine ⟨rs, F2, g2.i, ⟨_, rfl, ht, ro⟩, fun u3 F3 H3 g3 hu3 => ?_⟩
  have g3 := g2.trans g3
  obtain ⟨a, p1, p2, rfl, ha, hp1, hp2⟩ := hu3
  have e2 : u2 = .int (i : Int) := hu2
  subst e2
  have TO := treeR rs
  have hl : i < rs.length := ap.lt
  have hn : rs.length ≤ 100 := ap.len
  refine ⟨a, _, rfl, SqT.of (g3.i _ _ ha), rfl, _, _, rfl, _, _, rfl, rfl, ?_⟩
  refine ⟨_, rfl, _, rfl, F3, grpsR rs, i, _, hp2.m g3.i, rfl, some_getD (d := []) (by rw [TO.gl]; exact hl), fun u5 hu5 => ?_⟩
  refine ⟨F3, _, _, rfl, hu5.m g3.i, _, _, rfl, rfl, ?_⟩
  refine ⟨_, rfl, F3, rs, g3.i, Mo.mo g3.f hv, fun t2 ht2 => ?_⟩
  refine ⟨F3, _, rs, rfl, g3.i, ht2, _, _, rfl, rfl, ?_⟩
  refine ⟨_, rfl, _, rfl, (parsR rs, i), F3, g3.i, ⟨_, rfl, hp1, fun t p e => ?_, by show i < (parsR rs).length; rw [TO.pl]; exact hl, by show (parsR rs).length ≤ 1000; rw [TO.pl]; omega⟩, fun u6 F6 H6 g6 hu6 => ?_⟩
  · have := parsR_lt e
    show t < p ∧ p < (parsR rs).length
    rw [TO.pl]; exact this
  · have hu6 : vL vN (abv (parsR rs) (parsR rs).length i) u6 F6 := hu6
    refine ⟨F6, _, _, rfl, hu6.m g6.i, _, _, rfl, rfl, ?_⟩
    refine ⟨by show 2 ≤ sizeLine; decide, fun tp htp => ?_⟩
    refine k _ _ _ ((g3.trans g6).trans (Grow.put g6.i htp)) ⟨tp, _, _, rfl, upd_same, rfl, ?_⟩
    show V.int _ = V.int (posA rs i).2
    unfold posA
    rw [TO.pl]
end
end Elk
set_option Elab.async false
set_option linter.all false
set_option maxHeartbeats 4000000
namespace Elk
/-! ### parts of places, plain -/
def nextF (lk : Nat → Nat → Bool) (part rest : List Nat) : List Nat := rest.filter fun a => part.any fun o => lk o a
def cutF (rest fresh : List Nat) : List Nat := rest.filter fun a => decide (a ∉ fresh)
def growL (lk : Nat → Nat → Bool) : Nat → List Nat → List Nat → List Nat → List Nat × List Nat
  | 0, part, _, rest => (part, rest)
  | f + 1, part, fresh, rest => if fresh.isEmpty then (part, rest) else growL lk f (part ++ fresh) (nextF lk (part ++ fresh) (cutF rest fresh)) (cutF rest fresh)
def partOf (lk : Nat → Nat → Bool) (rest : List Nat) : List Nat × List Nat := growL lk (rest.length + 1) [] (rest.take 1) rest
def partsL (lk : Nat → Nat → Bool) : Nat → List Nat → List (List Nat)
  | 0, _ => []
  | f + 1, rest => if rest.isEmpty then [] else isort nlt (partOf lk rest).1 :: partsL lk f (partOf lk rest).2
section
variable {lk : Nat → Nat → Bool}
theorem cutF_sub {rest fresh : List Nat} {x : Nat} (h : x ∈ cutF rest fresh) : x ∈ rest := (List.mem_filter.mp h).1
theorem nextF_sub {part rest : List Nat} {x : Nat} (h : x ∈ nextF lk part rest) : x ∈ rest := (List.mem_filter.mp h).1
theorem cutF_lt {rest fresh : List Nat} {x : Nat} (h : x ∈ fresh) (h2 : x ∈ rest) : (cutF rest fresh).length < rest.length := by
  unfold cutF
  refine Nat.lt_of_le_of_ne (List.length_filter_le _ _) fun e => ?_
  have := List.length_filter_eq_length_iff.mp e x h2
  exact of_decide_eq_true this h
theorem growL_mem : ∀ (f : Nat) (part fresh rest : List Nat), (∀ x ∈ fresh, x ∈ rest) → (∀ x ∈ (growL lk f part fresh rest).1, x ∈ part ∨ x ∈ rest) ∧ (∀ x ∈ (growL lk f part fresh rest).2, x ∈ rest) ∧ (growL lk f part fresh rest).2.length ≤ rest.length
  | 0, part, fresh, rest, _ => ⟨fun x h => .inl h, fun x h => h, Nat.le_refl _⟩
  | f + 1, part, fresh, rest, hs => by
    rw [growL]
    split
    · exact ⟨fun x h => .inl h, fun x h => h, Nat.le_refl _⟩
    · obtain ⟨h1, h2, h3⟩ := growL_mem f (part ++ fresh) (nextF lk (part ++ fresh) (cutF rest fresh)) (cutF rest fresh) (fun x h => nextF_sub h)
      refine ⟨fun x h => ?_, fun x h => cutF_sub (h2 x h), Nat.le_trans h3 (List.length_filter_le _ _)⟩
      rcases h1 x h with q | q
      · rcases List.mem_append.mp q with q | q
        · exact .inl q
        · exact .inr (hs x q)
      · exact .inr (cutF_sub q)
theorem take1_sub {rest : List Nat} {x : Nat} (h : x ∈ rest.take 1) : x ∈ rest := List.mem_of_mem_take h
theorem partOf_mem (rest : List Nat) : (∀ x ∈ (partOf lk rest).1, x ∈ rest) ∧ (∀ x ∈ (partOf lk rest).2, x ∈ rest) := by
  obtain ⟨h1, h2, _⟩ := growL_mem (lk := lk) (rest.length + 1) [] (rest.take 1) rest fun x h => take1_sub h
  exact ⟨fun x h => (h1 x h).resolve_left List.not_mem_nil, h2⟩
theorem partOf_lt {rest : List Nat} (h : rest ≠ []) : (partOf lk rest).2.length < rest.length := by
  cases rest with
  | nil => exact absurd rfl h
  | cons a r =>
    have e : partOf lk (a :: r) = growL lk (a :: r).length ([] ++ [a]) (nextF lk ([] ++ [a]) (cutF (a :: r) [a])) (cutF (a :: r) [a]) := by
      unfold partOf
      rw [growL]
      rfl
    rw [e]
    have h1 := (growL_mem (lk := lk) ((a :: r).length) ([] ++ [a]) (nextF lk ([] ++ [a]) (cutF (a :: r) [a])) (cutF (a :: r) [a]) fun x h => nextF_sub h).2.2
    have h2 : (cutF (a :: r) [a]).length < (a :: r).length := cutF_lt (x := a) List.mem_cons_self List.mem_cons_self
    exact Nat.lt_of_le_of_lt h1 h2
theorem partsL_cons {f : Nat} {rest : List Nat} (h : rest.isEmpty = false) : partsL lk (f + 1) rest = isort nlt (partOf lk rest).1 :: partsL lk f (partOf lk rest).2 := by
  rw [partsL, h, if_neg Bool.false_ne_true]
theorem growL_cons {f : Nat} {part fresh rest : List Nat} (h : fresh.isEmpty = false) : growL lk (f + 1) part fresh rest = growL lk f (part ++ fresh) (nextF lk (part ++ fresh) (cutF rest fresh)) (cutF rest fresh) := by
  rw [growL, h, if_neg Bool.false_ne_true]
theorem growL_nil {f : Nat} {part rest : List Nat} : growL lk f part [] rest = (part, rest) := by
  cases f with
  | zero => rfl
  | succ f => rw [growL]; rfl
theorem partsL_nil {f : Nat} : partsL lk f [] = [] := by
  cases f with
  | zero => rfl
  | succ f => rw [partsL]; rfl
end
end Elk
set_option Elab.async false
set_option linter.all false
set_option maxRecDepth 100000
set_option maxHeartbeats 4000000
namespace Elk
open PySem PySem.Spec PyProof.Rows L2
def partsR (rs : List Row) (ps : List Nat) : List (List Nat) := partsL (lkR rs) ps.length ps
structure PlOk (rs : List Row) (ps : List Nat) : Prop where
  lt : ∀ p ∈ ps, p < rs.length
  len : ps.length ≤ 100
def sp_parts_of : Sp := Pm (ι := List Row × List Nat) (fun i vs F => ∃ u v, vs = [u, v] ∧ vT vRow ⟨i.1⟩ u F ∧ vL vN i.2 v F ∧ RowsOk i.1 ∧ PlOk i.1 i.2) (fun i v F => vL (vL vN) (partsR i.1 i.2) v F)
theorem any_filter {α : Type} (xs : List α) (t : α → Bool) : (!(xs.filter t).isEmpty) = xs.any t := by
  induction xs with
  | nil => rfl
  | cons x xs ih =>
    rw [List.any_cons, List.filter_cons]
    cases e : t x with
    | true => rfl
    | false => rw [if_neg Bool.false_ne_true, ih]; rfl
section
variable {P : Program} {w : World} {K : W.Frag} {mg : Str → Option Value} {base : Heap}
abbrev scx_parts_of_1 : Scope := { kind := .function, names := [(".0", .local), ("at", .cell), ("part", .cell), ("rows", .cell)], isGenerator := false, isCoroutine := false }
abbrev N_parts_of : List Str := ["rows", "places", "rest", "found", "part", "fresh", "at", "one"]
theorem sc_parts_of : FnScope N_parts_of ["rows", "places"] (defScope s_parts_of) := ⟨rfl, rfl, rfl, by decide +kernel, rfl, by decide +kernel, by decide +kernel⟩
theorem ok_parts_of (T : Tp K mg) : Ok P w K mg base 2 (He.ga K "parts_of") ["rows", "places"] sp_parts_of := by
  obtain ⟨fd_have_kind, G_have_kind, b_have_kind, k_have_kind⟩ := ok_have_kind (P := P) (w := w) (base := base) T
  refine mk_ok (F_parts_of T) sc_parts_of ?_ (fun _ _ _ _ _ _ us hl => match us, hl with | [_, _], _ => rfl) (fun cdv A outer s H vs Q E hr h => ?_)
  · rintro vs H Q E ⟨i, F, _, ⟨u, v, rfl, _⟩, _⟩
    rfl
  obtain ⟨⟨rs, ps⟩, F, sm, ⟨u, v, rfl, hu, hv, ro, po⟩, k⟩ := h
  refine ⟨_, (pss_cons (ps_par (i := 2) (j := 3) (by rfl) sc_parts_of.nd rfl rfl (by decide) rfl rfl (pa_cons (pe_callTy (cr_lstF vN) (by rfl) (n_list T) (by decide +kernel) (pa_cons (pv 1) pa_nil)) (pa_cons (pe_lst pa_nil) pa_nil)) (by rfl))
    (pss_cons (ps_while PassesOwn.never (pt_ne0 vN hr.units (pv 2))
      (pss_cons (ps_asg (pe_tup (pa_cons (pe_lst pa_nil) (pa_cons (pe_lst (pa_cons (pe_ix (ixL vN) (pv 2) pe_int (fun _ _ => rfl)) pa_nil)) pa_nil))) (pg_tup (by rfl) (pgs_cons (pg_name (i := 4) sc_parts_of.nd rfl (by first | exact Or.inl rfl | exact Or.inr rfl)) (pgs_cons (pg_name (i := 5) sc_parts_of.nd rfl (by first | exact Or.inl rfl | exact Or.inr rfl)) pgs_nil))))
      (pss_cons (ps_while PassesOwn.never (pt_ne0 vN hr.units (pv 5))
        (pss_cons (ps_set (i := 4) sc_parts_of.nd rfl (by first | exact Or.inl rfl | exact Or.inr rfl) (pe_op (op_catF vN) (pv 4) (pv 5)))
        (pss_cons (ps_setLc (i := 2) (own := [("at", 6)]) (g := gName 6) rfl sc_parts_of.nd rfl rfl (sw_true rfl rfl rfl (by decide +kernel)) (pi_list (pv 2)) (blkOk_by (N := N_parts_of) (sc := defScope s_parts_of) (by decide +kernel)) (fun _ _ _ _ _ => (pg_name (i := 6) sc_parts_of.nd rfl (by first | exact Or.inl rfl | exact Or.inr rfl))) (fun _ _ _ _ _ => (pts_one (pt_cmpR (op_notInN hr.units) (pv 6) (pv 5) rfl))) (fun _ _ _ _ _ => (pv 6)))
        (pss_one (ps_set (i := 5) sc_parts_of.nd rfl (by first | exact Or.inl rfl | exact Or.inr rfl) (pe_lc (own := [("at", 6)]) (g := gName 6) rfl sc_parts_of.nd (pi_list (pv 2)) (blkOk_by (N := N_parts_of) (sc := defScope s_parts_of) (by decide +kernel)) (fun _ _ _ _ _ => (pg_name (i := 6) sc_parts_of.nd rfl (by first | exact Or.inl rfl | exact Or.inr rfl))) (fun _ _ _ _ _ => (pts_one (pt_ne0 vN hr.units (pe_lc (own := [("one", 7)]) (g := gName 7) rfl sc_parts_of.nd (pi_listK K (pv 4)) (blkOk_by (N := N_parts_of) (sc := scx_parts_of_1) (by decide +kernel)) (fun _ _ _ _ _ => (pg_name (i := 7) sc_parts_of.nd rfl (by first | exact Or.inl rfl | exact Or.inr rfl))) (fun _ _ _ _ _ => (pts_one (pt_val (pe_call G_have_kind (hr.mono (by decide)) rfl (g_have_kind T) k_have_kind b_have_kind .nil pass0 (pa_cons (pe_ix (ixT vRow) (pv 0) (pv 7) (fun _ _ => rfl)) (pa_cons (pe_ix (ixT vRow) (pv 0) (pv 6) (fun _ _ => rfl)) pa_nil)))))) (fun _ _ _ _ _ => (pv 7)))))) (fun _ _ _ _ _ => (pv 6))))))))
      (pss_one (ps_expr (pe_bm PySem.F.plainAttrs_list PySem.F.slot_list_append PySem.F.type_list_append mt_append (pv 3) (pa_cons (pe_callB (cr_sortN hr.units) (by rfl) (n_sorted T) (by decide +kernel) (pa_cons (pv 4) pa_nil)) pa_nil)))))))
    (pss_one (ps_ret (pv 3))))), ?_⟩
  refine ⟨_, rfl, F, _, ps, rfl, sm, hv.m sm, fun rv F1 H1 g1 hrv => ?_⟩
  refine ⟨Nat.zero_le _, fun fo hfo => ?_⟩
  have fo0 : H fo = none := g1.h.free hfo
  have F1o := g1.i.free hfo
  have g2 := g1.trans (Grow.new (o := .lst []) g1.i hfo)
  have hn : rs.length ≤ 100 := ro.len
  have hpl : ps.length ≤ 100 := po.len
  have hlt : ∀ p ∈ ps, p < rs.length := po.lt
  refine ⟨_, _, rfl, fun m σ H' => ∃ F' rest acc x4 x5 rv fvs, σ = [some u, some v, some rv, some (.ref fo), x4, x5, none, none] ∧ Grow F H F' H' ∧ F' fo = none ∧ H' fo = some (.lst fvs) ∧ All2 (vL vN) acc fvs F' ∧ vL vN rest rv F' ∧
    acc ++ partsL (lkR rs) m rest = partsR rs ps ∧ rest.length ≤ m ∧ acc.length + m ≤ ps.length ∧ (∀ x ∈ rest, x < rs.length), ⟨ps.length, F1, ps, [], none, none, rv, [], rfl, g2, F1o, upd_same, .nil, hrv, rfl, Nat.le_refl _, by simp, hlt⟩, ?_⟩
  intro m σ H' ⟨F', rest, acc, x4, x5, rv, fvs, es, g, fF, hF, lac, hrv, e1, h1, h2, h3⟩
  subst es
  refine ⟨_, rfl, F', rest, g.i, hrv.m g.i, fun F3 H3 g3 => ?_⟩
  have fF3 := g3.out hF fF
  have hF3 := g3.h _ _ hF
  have lac := lac.mo g3.f
  have hrv := Mo.mo g3.f hrv
  have g3 := g.trans g3
  refine iteB (fun hb => ?_) (fun hb => ?_)
  · have hne : rest ≠ [] := by
      intro e; subst e; cases hb
    have hne2 : rest.isEmpty = false := by
      cases rest with
      | nil => exact absurd rfl hne
      | cons _ _ => rfl
    obtain ⟨m', em⟩ : ∃ m', m = m' + 1 := ⟨m - 1, by have := List.length_pos_iff.mpr hne; omega⟩
    subst em
    refine ⟨fun σ' H' => ∃ m0, m0 < m' + 1 ∧ ∃ F' rest acc x4 x5 rv fvs, σ' = [some u, some v, some rv, some (.ref fo), x4, x5, none, none] ∧ Grow F H F' H' ∧ F' fo = none ∧ H' fo = some (.lst fvs) ∧ All2 (vL vN) acc fvs F' ∧ vL vN rest rv F' ∧
      acc ++ partsL (lkR rs) m0 rest = partsR rs ps ∧ rest.length ≤ m0 ∧ acc.length + m0 ≤ ps.length ∧ (∀ x ∈ rest, x < rs.length), fun _ _ z => z, ?_⟩
    -- part, fresh = [], [rest[0]]
    refine ⟨Nat.zero_le _, fun pa hpa => ?_⟩
    have g4 := g3.trans (Grow.put (o := .lst []) g3.i hpa)
    have s4 : Same F3 (upd F3 pa (.lst [])) := same_upd (g3.i.free hpa)
    have h0 : rest[0]? = some (rest.getD 0 0) := some_getD (List.length_pos_iff.mpr hne)
    refine ⟨_, rfl, _, rest, 0, _, (Mo.mo s4 hrv).m g4.i, rfl, h0, fun y hy => ?_⟩
    refine ⟨by show 1 ≤ sizeLine; decide, fun fr hfr => ?_⟩
    have g5 := g4.trans (Grow.put (o := .lst [y]) g4.i hfr)
    have s5 : Same (upd F3 pa (.lst [])) (upd (upd F3 pa (.lst [])) fr (.lst [y])) := same_upd (g4.i.free hfr)
    have npa : fo ≠ pa := ne_of_none hF3 hpa
    have nfr : fo ≠ fr := ne_of_none (by rw [upd_ne npa]; exact hF3) hfr
    refine ⟨by show 2 ≤ sizeLine; decide, fun tp htp => ?_⟩
    have g6 := g5.trans (Grow.put (o := .tup [.ref pa, .ref fr]) g5.i htp)
    have s6 : Same (upd (upd F3 pa (.lst [])) fr (.lst [y])) (upd (upd (upd F3 pa (.lst [])) fr (.lst [y])) tp (.tup [.ref pa, .ref fr])) := same_upd (g5.i.free htp)
    have ntp : fo ≠ tp := ne_of_none (by rw [upd_ne nfr, upd_ne npa]; exact hF3) htp
    refine ⟨tp, _, rfl, SqT.of upd_same, rfl, _, _, rfl, _, _, rfl, rfl, ?_⟩
    have s36 := s4.trans (s5.trans s6)
    have vpa : vL vN [] (.ref pa) (upd (upd (upd F3 pa (.lst [])) fr (.lst [y])) tp (.tup [.ref pa, .ref fr])) := Mo.mo (p := vL vN) (s5.trans s6) ⟨pa, [], rfl, upd_same, .nil⟩
    have efr : rest.take 1 = [rest.getD 0 0] := by
      cases rest with
      | nil => exact absurd rfl hne
      | cons a r => rfl
    have vfr : vL vN (rest.take 1) (.ref fr) (upd (upd (upd F3 pa (.lst [])) fr (.lst [y])) tp (.tup [.ref pa, .ref fr])) := by
      rw [efr]
      exact Mo.mo (p := vL vN) s6 ⟨fr, [y], rfl, upd_same, .cons hy .nil⟩
    have hrl : rest.length ≤ 100 := by omega
    refine ⟨fun f σ H' => ∃ F' part fresh re pv fv rv, σ = [some u, some v, some rv, some (.ref fo), some pv, some fv, none, none] ∧ Grow F H F' H' ∧ Same F3 F' ∧ F' fo = none ∧ H' fo = some (.lst fvs) ∧ vL vN part pv F' ∧ vL vN fresh fv F' ∧ vL vN re rv F' ∧
      growL (lkR rs) f part fresh re = partOf (lkR rs) rest ∧ re.length < f ∧ f ≤ 101 ∧ (∀ x ∈ fresh, x ∈ re) ∧ (∀ x ∈ re, x < rs.length) ∧ (∀ x ∈ part, x < rs.length) ∧ fresh.length ≤ 100 ∧ part.length + 101 * f ≤ 101 * 101,
      ⟨rest.length + 1, _, [], rest.take 1, rest, _, _, rv, rfl, g6, s36, by rw [upd_ne ntp, upd_ne nfr, upd_ne npa]; exact fF3, by rw [upd_ne ntp, upd_ne nfr, upd_ne npa]; exact hF3, vpa, vfr, Mo.mo s36 hrv, rfl, by omega, by omega,
        fun x hx => take1_sub hx, h3, fun x hx => absurd hx List.not_mem_nil, by rw [efr]; show 1 ≤ 100; decide, by simp only [List.length_nil]; omega⟩, ?_⟩
    intro f σ H7 ⟨F7, part, fresh, re, pv, fv, rv7, es, g7, s7, fF7, hF7, vpa, vfr, vre, eg, k1, k2, k3, k4, k5, k6, k7⟩
    subst es
    refine ⟨_, rfl, F7, fresh, g7.i, vfr.m g7.i, fun F8 H8 g8 => ?_⟩
    have fF8 := g8.out hF7 fF7
    have hF8 := g8.h _ _ hF7
    have vpa := Mo.mo g8.f vpa
    have vfr := Mo.mo g8.f vfr
    have vre := Mo.mo g8.f vre
    have s8 := s7.trans g8.f
    have g8 := g7.trans g8
    refine iteB (fun hb => ?_) (fun hb => ?_)
    · have hfe : fresh.isEmpty = false := by
        cases fresh with
        | nil => cases hb
        | cons _ _ => rfl
      obtain ⟨x0, hx0⟩ : ∃ x, x ∈ fresh := by
        cases fresh with
        | nil => cases hb
        | cons a _ => exact ⟨a, List.mem_cons_self⟩
      have hcl : (cutF re fresh).length < re.length := cutF_lt hx0 (k3 x0 hx0)
      obtain ⟨f', ef⟩ : ∃ f', f = f' + 1 := ⟨f - 1, by omega⟩
      subst ef
      refine ⟨fun σ' H' => ∃ f0, f0 < f' + 1 ∧ ∃ F' part fresh re pv fv rv, σ' = [some u, some v, some rv, some (.ref fo), some pv, some fv, none, none] ∧ Grow F H F' H' ∧ Same F3 F' ∧ F' fo = none ∧ H' fo = some (.lst fvs) ∧ vL vN part pv F' ∧ vL vN fresh fv F' ∧ vL vN re rv F' ∧
        growL (lkR rs) f0 part fresh re = partOf (lkR rs) rest ∧ re.length < f0 ∧ f0 ≤ 101 ∧ (∀ x ∈ fresh, x ∈ re) ∧ (∀ x ∈ re, x < rs.length) ∧ (∀ x ∈ part, x < rs.length) ∧ fresh.length ≤ 100 ∧ part.length + 101 * f0 ≤ 101 * 101, fun _ _ z => z, ?_⟩
      -- part = part + fresh
      refine ⟨_, rfl, _, rfl, F8, part, fresh, g8.i, vpa.m g8.i, vfr.m g8.i, by omega, fun pw F9 H9 g9 hpw => ?_⟩
      have fF9 := g9.out hF8 fF8
      have hF9 := g9.h _ _ hF8
      have vfr := Mo.mo g9.f vfr
      have vre := Mo.mo g9.f vre
      have s9 := s8.trans g9.f
      have g9 := g8.trans g9
      -- rest = [at for at in rest if at not in fresh]
      obtain ⟨ra, rvs, rfl, hra, lre⟩ := vre
      refine ⟨_, rfl, ra, rfl, ⟨_, SqL.of (g9.i _ _ hra)⟩, fun D hD => ?_⟩
      have hre : re.length ≤ 100 := by omega
      refine lcL (p := vN) (q := vN) (f := id) (t := fun a => decide (a ∉ fresh)) g9.i hD (g9.i _ _ hra) lre (by omega) ?_ ?_
      · intro a y F' H' _ g hx N Y hN hY
        refine ⟨rfl, _, rfl, _, rfl, F', a, fresh, g.i, hx, (Mo.mo g.f vfr).m g.i, _, rfl, ?_⟩
        exact iteB (fun ht => ⟨_, rfl, hY _ _ _ (Grow.refl g.i) ht hx⟩) fun ht => hN _ _ (Grow.refl g.i) ht
      · intro F10 H10 g10 hl10
        rw [List.map_id] at hl10
        have hl10 : vL vN (cutF re fresh) (.ref D) F10 := hl10
        have fF10 := g10.out hF9 fF9
        have hF10 := g10.h _ _ hF9
        have hpw := Mo.mo g10.f hpw
        have s10 := s9.trans g10.f
        have g10 := g9.trans g10
        have hu10 := Mo.mo g10.f hu
        -- fresh = [at for at in rest if [one for one in part if have_kind(rows[one], rows[at])] != []]
        obtain ⟨ca, cvs, ec, hca, lca⟩ := id hl10
        refine ⟨_, rfl, ca, ec, ⟨_, SqL.of (g10.i _ _ hca)⟩, fun D2 hD2 => ?_⟩
        obtain ⟨pb, pvs, rfl, hpb, lpb⟩ := id hpw
        have hcl2 : (cutF re fresh).length ≤ 100 := by omega
        refine lcL (p := vN) (q := vN) (f := id) (t := fun a => (part ++ fresh).any fun o => lkR rs o a) g10.i hD2 (g10.i _ _ hca) lca (by omega) ?_ ?_
        · intro a y F' H' ha g hx N Y hN hY
          have ha2 : a < rs.length := k4 a (cutF_sub ha)
          refine ⟨rfl, _, rfl, pb, rfl, ⟨_, SqL.of (g.i _ _ (g.f _ _ hpb))⟩, fun D3 hD3 => ?_⟩
          refine lcL (p := vN) (q := vN) (f := id) (t := fun o => lkR rs o a) g.i hD3 (g.i _ _ (g.f _ _ hpb)) (lpb.mo g.f) (by rw [List.length_append]; omega) ?_ ?_
          · intro o yo F'' H'' ho g' hxo N' Y' hN' hY'
            have ho2 : o < rs.length := (List.mem_append.mp ho).elim (k5 o) fun q => k4 o (k3 o q)
            have sv := g.f.trans g'.f
            refine ⟨rfl, _, rfl, _, rfl, F'', rs, o, _, g'.i, Mo.mo sv hu10, hxo, row_get ho2, fun z1 hz1 => ?_⟩
            refine ⟨_, rfl, _, rfl, F'', rs, a, _, g'.i, Mo.mo sv hu10, Mo.mo g'.f hx, row_get ha2, fun z2 hz2 => ?_⟩
            refine ⟨(_, _), F'', g'.i, ⟨z1, z2, rfl, hz1, hz2, ro.fits _ (List.mem_of_getElem? (row_get ho2))⟩, fun z F4 H4 g4 hz => ?_⟩
            have ez : z = .bl (haveKind (rs.getD o noRow) (rs.getD a noRow)) := hz
            refine ⟨_, ez, ?_⟩
            rw [← lkR_at (row_get ho2) (row_get ha2)]
            exact iteB (fun ht => ⟨_, rfl, hY' _ F4 H4 g4 ht (Mo.mo g4.f hxo)⟩) fun ht => hN' F4 H4 g4 ht
          · intro F'' H'' g' hl'
            refine ⟨F'', _, g'.i, hl'.m g'.i, fun F3' H3' g3' => ?_⟩
            rw [List.map_id, any_filter]
            have gg := g'.trans g3'
            exact iteB (fun ht => ⟨_, rfl, hY _ _ _ gg ht (Mo.mo gg.f hx)⟩) fun ht => hN _ _ gg ht
        · intro F11 H11 g11 hl11
          rw [List.map_id] at hl11
          have hl11 : vL vN (nextF (lkR rs) (part ++ fresh) (cutF re fresh)) (.ref D2) F11 := hl11
          refine ⟨f', by omega, F11, part ++ fresh, _, cutF re fresh, _, _, _, rfl, g10.trans g11, s10.trans g11.f, g11.out hF10 fF10, g11.h _ _ hF10, Mo.mo g11.f hpw, hl11, Mo.mo g11.f hl10, ?_, by omega, by omega, fun x hx => nextF_sub hx,
            fun x hx => k4 x (cutF_sub hx), fun x hx => (List.mem_append.mp hx).elim (k5 x) fun q => k4 x (k3 x q), ?_, ?_⟩
          · rw [← eg, growL_cons hfe]
          · have : (nextF (lkR rs) (part ++ fresh) (cutF re fresh)).length ≤ (cutF re fresh).length := List.length_filter_le _ _
            omega
          · rw [List.length_append]; omega
    · have hfe : fresh = [] := by
        cases fresh with
        | nil => rfl
        | cons _ _ => cases hb
      subst hfe
      rw [growL_nil] at eg
      have e2 : part = (partOf (lkR rs) rest).1 := by rw [← eg]
      have e3 : re = (partOf (lkR rs) rest).2 := by rw [← eg]
      -- found.append(sorted(part))
      refine ⟨_, rfl, .inl ⟨rfl, _, SqL.of hF8⟩, _, rfl, F8, _, part, rfl, g8.i, vpa.m g8.i, fun sv F9 H9 g9 hsv => ?_⟩
      have hal := lac.len
      refine ⟨fo, fvs, _, rfl, rfl, g9.h _ _ hF8, small_of (by omega), ?_⟩
      have fF9 := g9.out hF8 fF8
      have gS := (g8.trans g9).set (o := .lst (fvs ++ [sv])) fo0 fF9
      have lt2 := partOf_lt (lk := lkR rs) hne
      refine ⟨m', by omega, F9, re, acc ++ [isort nlt part], _, _, _, fvs ++ [sv], rfl, gS, fF9, upd_same, (lac.mo (s8.trans g9.f)).snoc hsv, Mo.mo g9.f vre, ?_, by rw [e3]; omega, by rw [List.length_append]; show acc.length + 1 + m' ≤ _; omega, k4⟩
      rw [← e1, partsL_cons hne2, e2, e3]
      simp
  · have e : rest = [] := by
      cases rest with
      | nil => rfl
      | cons _ _ => cases hb
    subst e
    rw [partsL_nil, List.append_nil] at e1
    subst e1
    exact ⟨_, rfl, k _ _ _ (g3.keep fo0 hF3) ⟨fo, fvs, rfl, upd_same, lac.mo (same_keep fF3)⟩⟩
end
end Elk
set_option Elab.async false
set_option linter.all false
set_option maxHeartbeats 4000000
namespace Elk
/-! ### parts make up the places; counts and ways, plain -/
theorem perm_nd : ∀ {xs ys : List Nat}, xs.Nodup → ys.Nodup → (∀ a, a ∈ xs ↔ a ∈ ys) → xs.Perm ys
  | [], ys, _, _, h => by
    cases ys with
    | nil => exact .refl _
    | cons y ys => exact absurd ((h y).mpr List.mem_cons_self) List.not_mem_nil
  | x :: xs, ys, hx, hy, h => by
    obtain ⟨h1, h2⟩ := List.nodup_cons.mp hx
    have hm := (h x).mp List.mem_cons_self
    refine (List.Perm.cons x (perm_nd h2 (hy.erase x) fun a => ?_)).trans (List.perm_cons_erase hm).symm
    rw [hy.mem_erase_iff]
    constructor
    · intro ha
      exact ⟨fun e => h1 (e ▸ ha), (h a).mp (List.mem_cons_of_mem _ ha)⟩
    · intro ⟨ha, hb⟩
      exact (List.mem_cons.mp ((h a).mpr hb)).resolve_left ha
section
variable {lk : Nat → Nat → Bool}
theorem cut_perm {rest fresh : List Nat} (hr : rest.Nodup) (hf : fresh.Nodup) (hs : ∀ x ∈ fresh, x ∈ rest) : (fresh ++ cutF rest fresh).Perm rest := by
  refine perm_nd (List.nodup_append.mpr ⟨hf, hr.sublist List.filter_sublist, fun a ha b hb e => ?_⟩) hr fun a => ?_
  · subst e
    exact of_decide_eq_true (List.mem_filter.mp hb).2 ha
  · rw [List.mem_append]
    constructor
    · exact fun h => h.elim (hs a) cutF_sub
    · intro h
      by_cases q : a ∈ fresh
      · exact .inl q
      · exact .inr (List.mem_filter.mpr ⟨h, decide_eq_true q⟩)
theorem growL_perm : ∀ (f : Nat) (part fresh rest : List Nat), rest.Nodup → fresh.Nodup → (∀ x ∈ fresh, x ∈ rest) → ((growL lk f part fresh rest).1 ++ (growL lk f part fresh rest).2).Perm (part ++ rest)
  | 0, part, fresh, rest, _, _, _ => .refl _
  | f + 1, part, fresh, rest, hr, hf, hs => by
    rw [growL]
    split
    · exact .refl _
    · have hc : (cutF rest fresh).Nodup := hr.sublist List.filter_sublist
      refine (growL_perm f (part ++ fresh) _ _ hc (hc.sublist List.filter_sublist) fun x h => nextF_sub h).trans ?_
      rw [List.append_assoc]
      exact (cut_perm hr hf hs).append_left part
theorem partOf_perm {rest : List Nat} (h : rest.Nodup) : ((partOf lk rest).1 ++ (partOf lk rest).2).Perm rest :=
  growL_perm (rest.length + 1) [] (rest.take 1) rest h (h.sublist (List.take_sublist 1 rest)) fun x hx => take1_sub hx
theorem partsL_perm : ∀ (f : Nat) (rest : List Nat), rest.Nodup → rest.length ≤ f → (partsL lk f rest).flatten.Perm rest
  | 0, rest, _, h => by
    have := List.eq_nil_of_length_eq_zero (Nat.le_zero.mp h)
    subst this
    exact .refl _
  | f + 1, rest, hd, h => by
    cases e : rest.isEmpty with
    | true =>
      have := List.isEmpty_iff.mp e
      subst this
      rw [partsL_nil]
      exact .refl _
    | false =>
      have hne : rest ≠ [] := fun q => by subst q; cases e
      rw [partsL_cons e, List.flatten_cons]
      have p := partOf_perm (lk := lk) hd
      have hd2 : (partOf lk rest).2.Nodup := (List.nodup_append.mp (p.nodup_iff.mpr hd)).2.1
      have hl := partOf_lt (lk := lk) hne
      have ih := partsL_perm f (partOf lk rest).2 hd2 (by omega)
      exact ((isort_perm nlt _).append ih).trans p
/-- what a part is like -/
theorem part_ok {ps : List Nat} (hd : ps.Nodup) {g : List Nat} (hg : g ∈ partsL lk ps.length ps) : g.Nodup ∧ (∀ x ∈ g, x ∈ ps) ∧ g.length ≤ ps.length := by
  have p := partsL_perm (lk := lk) ps.length ps hd (Nat.le_refl _)
  have hs : g.Sublist (partsL lk ps.length ps).flatten := by
    obtain ⟨l1, l2, e⟩ := List.append_of_mem hg
    rw [e, List.flatten_append, List.flatten_cons]
    exact ((List.sublist_append_left g _).trans (List.sublist_append_right _ _))
  refine ⟨(p.nodup_iff.mpr hd).sublist hs, fun x hx => p.mem_iff.mp (hs.subset hx), ?_⟩
  rw [← p.length_eq]
  exact hs.length_le
def minus (g : List Nat) (x : Nat) : List Nat := g.filter fun a => decide (a ≠ x)
theorem minus_lt {g : List Nat} {x : Nat} (h : x ∈ g) : (minus g x).length < g.length := by
  unfold minus
  refine Nat.lt_of_le_of_ne (List.length_filter_le _ _) fun e => ?_
  exact of_decide_eq_true (List.length_filter_eq_length_iff.mp e x h) rfl
theorem minus_nd {g : List Nat} {x : Nat} (h : g.Nodup) : (minus g x).Nodup := h.sublist List.filter_sublist
theorem minus_mem {g : List Nat} {x y : Nat} (h : y ∈ minus g x) : y ∈ g := (List.mem_filter.mp h).1
theorem minus_perm {g : List Nat} {x : Nat} (hd : g.Nodup) (h : x ∈ g) : (minus g x ++ [x]).Perm g := by
  refine perm_nd (List.nodup_append.mpr ⟨minus_nd hd, List.pairwise_singleton _ _, fun a ha b hb e => ?_⟩) hd fun a => ?_
  · rw [List.mem_singleton] at hb
    subst e hb
    exact of_decide_eq_true (List.mem_filter.mp ha).2 rfl
  · rw [List.mem_append, List.mem_singleton]
    constructor
    · exact fun q => q.elim minus_mem fun e => e ▸ h
    · intro q
      by_cases e : a = x
      · exact .inr e
      · exact .inl (List.mem_filter.mpr ⟨q, decide_eq_true e⟩)
end
/-- how many ways -/
def cwStep (cw : List Nat → Nat) (a : Nat) (g : List Nat) : Nat := if g.length > 1 then a * (g.map fun x => cw (minus g x)).sum else a
def cwL (lk : Nat → Nat → Bool) : Nat → List Nat → Nat
  | 0, _ => 1
  | f + 1, ps => (partsL lk ps.length ps).foldl (cwStep (cwL lk f)) 1
def cw (lk : Nat → Nat → Bool) (ps : List Nat) : Nat := cwL lk ps.length ps
section
variable {lk : Nat → Nat → Bool}
theorem foldl_congr {α β : Type} {f g : β → α → β} : ∀ {xs : List α} {a : β}, (∀ b, ∀ x ∈ xs, f b x = g b x) → xs.foldl f a = xs.foldl g a
  | [], _, _ => rfl
  | x :: xs, a, h => by
    rw [List.foldl_cons, List.foldl_cons, h a x List.mem_cons_self]
    exact foldl_congr fun b y hy => h b y (List.mem_cons_of_mem _ hy)
theorem cwStep_congr {c d : List Nat → Nat} {a : Nat} {g : List Nat} (h : ∀ x ∈ g, c (minus g x) = d (minus g x)) : cwStep c a g = cwStep d a g := by
  unfold cwStep
  rw [List.map_congr_left h]
theorem cwL_eq : ∀ (f : Nat) (ps : List Nat), ps.Nodup → ps.length ≤ f → cwL lk f ps = cw lk ps := by
  intro f
  induction f using Nat.strongRecOn with
  | _ f ih =>
    intro ps hd hl
    by_cases e : ps.length = f
    · unfold cw; rw [e]
    · have hlt : ps.length < f := by omega
      obtain ⟨f', ef⟩ : ∃ f', f = f' + 1 := ⟨f - 1, by omega⟩
      subst ef
      unfold cw
      cases hp : ps.length with
      | zero =>
        have := List.eq_nil_of_length_eq_zero hp
        subst this
        rfl
      | succ m =>
        rw [cwL, cwL]
        refine foldl_congr fun b g hg => cwStep_congr fun x hx => ?_
        obtain ⟨g1, _, g3⟩ := part_ok hd hg
        have h1 := minus_lt hx
        rw [ih f' (by omega) _ (minus_nd g1) (by omega), ih m (by omega) _ (minus_nd g1) (by omega)]
theorem cw_unfold {ps : List Nat} (hd : ps.Nodup) : cw lk ps = (partsL lk ps.length ps).foldl (cwStep (cw lk)) 1 := by
  cases hp : ps.length with
  | zero =>
    have := List.eq_nil_of_length_eq_zero hp
    subst this
    rfl
  | succ m =>
    have e : cw lk ps = (partsL lk ps.length ps).foldl (cwStep (cwL lk m)) 1 := by
      unfold cw
      rw [hp, cwL, hp]
    rw [e, hp]
    refine foldl_congr fun b g hg => cwStep_congr fun x hx => ?_
    rw [← hp] at hg
    obtain ⟨g1, _, g3⟩ := part_ok hd hg
    have h1 := minus_lt hx
    exact cwL_eq m _ (minus_nd g1) (by omega)
end
/-- the ways -/
def wSome (ways : List Nat → List (List Nat)) (g : List Nat) : List (List Nat) := g.flatMap fun x => (ways (minus g x)).map fun w => w ++ [x]
def wStep (ways : List Nat → List (List Nat)) (found : List (List Nat)) (g : List Nat) : List (List Nat) := found.flatMap fun w => (wSome ways g).map fun m => w ++ m
def waysL (lk : Nat → Nat → Bool) : Nat → List Nat → List (List Nat)
  | 0, _ => [[]]
  | f + 1, ps => (partsL lk ps.length ps).foldl (wStep (waysL lk f)) [[]]
section
variable {lk : Nat → Nat → Bool}
theorem wFold {ways : List Nat → List (List Nat)} : ∀ (gs : List (List Nat)), (∀ g ∈ gs, g.Nodup ∧ ∀ x ∈ g, ∀ w ∈ ways (minus g x), w.Perm (minus g x)) → ∀ (found : List (List Nat)) (done : List Nat), (∀ w ∈ found, w.Perm done) →
    ∀ w ∈ gs.foldl (wStep ways) found, w.Perm (done ++ gs.flatten)
  | [], _, found, done, h, w, hw => by rw [List.flatten_nil, List.append_nil]; exact h w hw
  | g :: gs, hg, found, done, h, w, hw => by
    rw [List.foldl_cons] at hw
    rw [List.flatten_cons, ← List.append_assoc]
    refine wFold gs (fun g' hg' => hg g' (List.mem_cons_of_mem _ hg')) _ (done ++ g) (fun v hv => ?_) w hw
    obtain ⟨u, hu, hv⟩ := List.mem_flatMap.mp hv
    obtain ⟨m, hm, em⟩ := List.mem_map.mp hv
    subst em
    obtain ⟨x, hx, hm⟩ := List.mem_flatMap.mp hm
    obtain ⟨y, hy, ey⟩ := List.mem_map.mp hm
    subst ey
    obtain ⟨g1, g2⟩ := hg g List.mem_cons_self
    exact (h u hu).append (((g2 x hx y hy).append_right [x]).trans (minus_perm g1 hx))
theorem waysL_perm : ∀ (f : Nat) (ps : List Nat), ps.Nodup → ps.length ≤ f → ∀ w ∈ waysL lk f ps, w.Perm ps
  | 0, ps, _, h, w, hw => by
    have := List.eq_nil_of_length_eq_zero (Nat.le_zero.mp h)
    subst this
    rw [waysL, List.mem_singleton] at hw
    rw [hw]
  | f + 1, ps, hd, h, w, hw => by
    rw [waysL] at hw
    have p := partsL_perm (lk := lk) ps.length ps hd (Nat.le_refl _)
    have q := wFold (ways := waysL lk f) (partsL lk ps.length ps) (fun g hg => ?_) [[]] [] (fun v hv => by rw [List.mem_singleton] at hv; rw [hv]) w hw
    · rw [List.nil_append] at q
      exact q.trans p
    · obtain ⟨g1, g2, g3⟩ := part_ok hd hg
      exact ⟨g1, fun x hx v hv => waysL_perm f _ (minus_nd g1) (by have := minus_lt hx; omega) v hv⟩
theorem flatMap_len {α β : Type} {f : α → List β} {b : Nat} : ∀ {xs : List α}, (∀ x ∈ xs, (f x).length ≤ b) → (xs.flatMap f).length ≤ xs.length * b
  | [], _ => by simp
  | x :: xs, h => by
    rw [List.flatMap_cons, List.length_append, List.length_cons, Nat.succ_mul]
    have h1 := flatMap_len (xs := xs) fun y hy => h y (List.mem_cons_of_mem _ hy)
    have h2 := h x List.mem_cons_self
    omega
theorem wSome_len {ways : List Nat → List (List Nat)} {g : List Nat} (hn : g.length ≤ 6) (h : ∀ x ∈ g, (ways (minus g x)).length ≤ 6 ^ (minus g x).length) : (wSome ways g).length ≤ 6 ^ g.length := by
  cases hg : g.length with
  | zero =>
    have := List.eq_nil_of_length_eq_zero hg
    subst this
    exact Nat.zero_le _
  | succ s =>
    have h1 : (wSome ways g).length ≤ g.length * 6 ^ s := flatMap_len fun x hx => by
      rw [List.length_map]
      have h2 := minus_lt hx
      exact Nat.le_trans (h x hx) (Nat.pow_le_pow_right (by decide) (by omega))
    rw [Nat.pow_succ, Nat.mul_comm]
    exact Nat.le_trans h1 (Nat.mul_le_mul_right _ hn)
theorem wFold_len {ways : List Nat → List (List Nat)} : ∀ (gs : List (List Nat)), (∀ g ∈ gs, (wSome ways g).length ≤ 6 ^ g.length) → ∀ (found : List (List Nat)) (d : Nat), found.length ≤ 6 ^ d → (gs.foldl (wStep ways) found).length ≤ 6 ^ (d + gs.flatten.length)
  | [], _, found, d, h => h
  | g :: gs, hg, found, d, h => by
    rw [List.foldl_cons, List.flatten_cons, List.length_append, ← Nat.add_assoc]
    refine wFold_len gs (fun g' hg' => hg g' (List.mem_cons_of_mem _ hg')) _ (d + g.length) ?_
    have h1 : (wStep ways found g).length ≤ found.length * 6 ^ g.length := flatMap_len fun w _ => by
      rw [List.length_map]
      exact hg g List.mem_cons_self
    rw [Nat.pow_add]
    exact Nat.le_trans h1 (Nat.mul_le_mul_right _ h)
theorem waysL_len : ∀ (f : Nat) (ps : List Nat), ps.Nodup → ps.length ≤ 6 → (waysL lk f ps).length ≤ 6 ^ ps.length
  | 0, ps, _, _ => Nat.one_le_pow _ _ (by decide)
  | f + 1, ps, hd, h => by
    rw [waysL]
    have p := partsL_perm (lk := lk) ps.length ps hd (Nat.le_refl _)
    have q := wFold_len (ways := waysL lk f) (partsL lk ps.length ps) (fun g hg => ?_) [[]] 0 (by decide)
    · rw [Nat.zero_add, p.length_eq] at q
      exact q
    · obtain ⟨g1, g2, g3⟩ := part_ok hd hg
      exact wSome_len (by omega) fun x hx => waysL_len f _ (minus_nd g1) (by have := minus_lt hx; omega)
theorem cwFold_len {c : List Nat → Nat} : ∀ (gs : List (List Nat)), (∀ g ∈ gs, (g.map fun x => c (minus g x)).sum ≤ 6 ^ g.length) → ∀ (a d : Nat), a ≤ 6 ^ d → gs.foldl (cwStep c) a ≤ 6 ^ (d + gs.flatten.length)
  | [], _, a, d, h => h
  | g :: gs, hg, a, d, h => by
    rw [List.foldl_cons, List.flatten_cons, List.length_append, ← Nat.add_assoc]
    refine cwFold_len gs (fun g' hg' => hg g' (List.mem_cons_of_mem _ hg')) _ (d + g.length) ?_
    unfold cwStep
    split
    · rw [Nat.pow_add]
      exact Nat.mul_le_mul h (hg g List.mem_cons_self)
    · exact Nat.le_trans h (Nat.pow_le_pow_right (by decide) (by omega))
theorem sum_len {α : Type} {f : α → Nat} {b : Nat} : ∀ {xs : List α}, (∀ x ∈ xs, f x ≤ b) → (xs.map f).sum ≤ xs.length * b
  | [], _ => by simp
  | x :: xs, h => by
    rw [List.map_cons, List.sum_cons, List.length_cons, Nat.succ_mul]
    have h1 := sum_len (xs := xs) fun y hy => h y (List.mem_cons_of_mem _ hy)
    have h2 := h x List.mem_cons_self
    omega
theorem cwSum_len {c : List Nat → Nat} {g : List Nat} (hn : g.length ≤ 6) (h : ∀ x ∈ g, c (minus g x) ≤ 6 ^ (minus g x).length) : (g.map fun x => c (minus g x)).sum ≤ 6 ^ g.length := by
  cases hg : g.length with
  | zero =>
    have := List.eq_nil_of_length_eq_zero hg
    subst this
    exact Nat.zero_le _
  | succ s =>
    have h1 : (g.map fun x => c (minus g x)).sum ≤ g.length * 6 ^ s := sum_len fun x hx => by
      have h2 := minus_lt hx
      exact Nat.le_trans (h x hx) (Nat.pow_le_pow_right (by decide) (by omega))
    rw [Nat.pow_succ, Nat.mul_comm]
    exact Nat.le_trans h1 (Nat.mul_le_mul_right _ hn)
theorem cw_len : ∀ (f : Nat) (ps : List Nat), ps.Nodup → ps.length ≤ f → f ≤ 6 → cw lk ps ≤ 6 ^ ps.length
  | 0, ps, _, h, _ => by
    have := List.eq_nil_of_length_eq_zero (Nat.le_zero.mp h)
    subst this
    exact Nat.le_refl 1
  | f + 1, ps, hd, h, h6 => by
    rw [cw_unfold hd]
    have p := partsL_perm (lk := lk) ps.length ps hd (Nat.le_refl _)
    have q := cwFold_len (c := cw lk) (partsL lk ps.length ps) (fun g hg => ?_) 1 0 (by decide)
    · rw [Nat.zero_add, p.length_eq] at q
      exact q
    · obtain ⟨g1, g2, g3⟩ := part_ok hd hg
      exact cwSum_len (by omega) fun x hx => cw_len f _ (minus_nd g1) (by have := minus_lt hx; omega) (by omega)
/-- how many entries are written at most -/
def callsN : Nat → Nat
  | 0 => 1
  | m + 1 => 1 + (m + 1) * callsN m
end
end Elk
set_option Elab.async false
set_option linter.all false
set_option maxRecDepth 100000
set_option maxHeartbeats 4000000
namespace Elk
open PySem PySem.Spec PyProof.Rows L2
def keyN (ps : List Nat) : List Key := ps.map fun n : Nat => (.inl (n : Int) : Key)
theorem keyN_inj {a b : List Nat} (h : keyN a = keyN b) : a = b := by
  unfold keyN at h
  refine (List.map_inj_right fun x y e => ?_).mp h
  have := Sum.inl.inj e
  omega
theorem keyN_V (ps : List Nat) : (keyN ps).map kV = ps.map fun n : Nat => V.int (n : Int) := by
  unfold keyN
  rw [List.map_map]; rfl
def KnOk (lk : Nat → Nat → Bool) (kvs : List (List Key × V)) : Prop := ∀ ps v, valV kvs (keyN ps) = some v → v = .int (cw lk ps : Int)
def sp_count_ways (m : Nat) : Sp := fun vs H Q _ => ∃ (F : Hp) (rs : List Row) (ps : List Nat) (u v : V) (kn : Addr) (kvs : List (List Key × V)), vs = [u, v, .ref kn] ∧ Same F H ∧ F kn = none ∧ H kn = some (.dT kvs) ∧ KnOk (lkR rs) kvs ∧ kvs.length + callsN m ≤ 100000 ∧
  vT vRow ⟨rs⟩ u F ∧ vL vN ps v F ∧ RowsOk rs ∧ ps.Nodup ∧ (∀ p ∈ ps, p < rs.length) ∧ ps.length ≤ m ∧ m ≤ 6 ∧
  ∀ F' H' kvs', GrowX kn F H F' H' → F' kn = none → H' kn = some (.dT kvs') → KnOk (lkR rs) kvs' → kvs'.length ≤ kvs.length + callsN m → Q (.int (cw (lkR rs) ps : Int)) H'
theorem Grow.toX {x : Addr} {F H F' H' : Hp} (g : Grow F H F' H') : GrowX x F H F' H' := ⟨fun b o e _ => g.h b o e, g.f, g.i, fun b o e => (g.n b o e).elim .inl fun z => .inr (.inl z)⟩
theorem GrowX.grow {x : Addr} {F H F1 H1 F2 H2 : Hp} (g : GrowX x F H F1 H1) (h : Grow F1 H1 F2 H2) : GrowX x F H F2 H2 := g.trans h.toX
theorem GrowX.out {x a : Addr} {F H F1 H1 : Hp} {o : HO} (g : GrowX x F H F1 H1) (h : H a = some o) (hne : a ≠ x) (h0 : F a = none) : F1 a = none := by
  cases e : F1 a with
  | none => rfl
  | some u =>
    rcases g.n a u e with z | z | z
    · rw [h0] at z; cases z
    · rw [h] at z; cases z
    · exact absurd z hne
theorem GrowX.set {x a : Addr} {F H F1 H1 : Hp} {o : HO} (g : GrowX x F H F1 H1) (h : H a = none) (h1 : F1 a = none) : GrowX x F H F1 (upd H1 a o) := ⟨fun b u e q => by rw [upd_ne (ne_of_none e h)]; exact g.h _ _ e q, g.f, fun b u e => by rw [upd_ne (ne_of_none e h1)]; exact g.i _ _ e, g.n⟩
theorem GrowX.setX {x : Addr} {F H F1 H1 : Hp} {o : HO} (g : GrowX x F H F1 H1) (h1 : F1 x = none) : GrowX x F H F1 (upd H1 x o) := ⟨fun b u e q => by rw [upd_ne q]; exact g.h _ _ e q, g.f, fun b u e => by rw [upd_ne (ne_of_none e h1)]; exact g.i _ _ e, g.n⟩
theorem take_flat_len (xs : List (List Nat)) (k : Nat) : (xs.take k).flatten.length ≤ xs.flatten.length := by
  conv => rhs; rw [← List.take_append_drop k xs]
  rw [List.flatten_append, List.length_append]
  omega
theorem sum_cast : ∀ xs : List Nat, (xs.map fun n : Nat => (n : Int)).sum = ((xs.sum : Nat) : Int)
  | [] => rfl
  | x :: xs => by rw [List.map_cons, List.sum_cons, List.sum_cons, sum_cast xs, Int.natCast_add]
section
variable {P : Program} {w : World} {K : W.Frag} {mg : Str → Option Value} {base : Heap}
abbrev scx_count_ways_0 : Scope := { kind := .function, names := [(".0", .local), ("last", .cell), ("count_ways", .globalImplicit), ("known", .cell), ("part", .cell), ("rows", .cell)], isGenerator := false, isCoroutine := false }
def spc : Nat → Sp
  | 0 => fun _ _ _ _ => False
  | m + 1 => sp_count_ways m
abbrev N_count_ways : List Str := ["rows", "places", "known", "number", "part", "some", "last", "at"]
theorem sc_count_ways : FnScope N_count_ways ["rows", "places", "known"] (defScope s_count_ways) := ⟨rfl, rfl, rfl, by decide +kernel, rfl, by decide +kernel, by decide +kernel⟩
theorem ok_count_ways_step (T : Tp K mg) (m : Nat) (ih : Ok P w K mg base (m + 2) (He.ga K "count_ways") ["rows", "places", "known"] (spc m)) : Ok P w K mg base (m + 3) (He.ga K "count_ways") ["rows", "places", "known"] (sp_count_ways m) := by
  obtain ⟨fd_parts_of, G_parts_of, b_parts_of, k_parts_of⟩ := ok_parts_of (P := P) (w := w) (base := base) T
  obtain ⟨fd_count_ways, G_count_ways, b_count_ways, k_count_ways⟩ := ih
  refine mk_ok (F_count_ways T) sc_count_ways ?_ (fun _ _ _ _ _ _ us hl => match us, hl with | [_, _, _], _ => rfl) (fun cdv A outer s H vs Q E hr h => ?_)
  · rintro vs H Q E ⟨F, rs, ps, u, v, kn, kvs, rfl, _⟩
    rfl
  obtain ⟨F, rs, ps, u, v, kn, kvs, rfl, sm, fK, hK, kok, kl, hu, hv, ro, nd, hlt, hm, h6, k⟩ := h
  refine ⟨_, (pss_cons (ps_if (pt_cmp (pc_dnotin (hu_of hr) (pe_callTy (cr_tupF vN) (by rfl) (n_tuple T) (by decide +kernel) (pa_cons (pv 1) pa_nil)) (pv 2)))
      (pss_cons (ps_set (i := 3) sc_count_ways.nd rfl (by first | exact Or.inl rfl | exact Or.inr rfl) pe_int)
      (pss_cons (ps_for PassesOwn.never rfl (pi_list (pe_call G_parts_of (hr.mono (by omega)) rfl (g_parts_of T) k_parts_of b_parts_of .nil pass0 (pa_cons (pv 0) (pa_cons (pv 1) pa_nil)))) (pg_name (i := 4) sc_count_ways.nd rfl (by first | exact Or.inl rfl | exact Or.inr rfl))
        (pss_one (ps_if (pt_cmpR op_gt (pe_callB (call_lenL vN) (by rfl) (n_len T) (by decide +kernel) (pa_cons (pv 4) pa_nil)) pe_int (nomark _))
          (pss_cons (ps_setLc (i := 5) (own := [("last", 6)]) (g := gName 6) rfl sc_count_ways.nd rfl rfl (sw_true rfl rfl rfl (by decide +kernel)) (pi_list (pv 4)) (blkOk_by (N := N_count_ways) (sc := defScope s_count_ways) (by decide +kernel)) (fun _ _ _ _ _ => (pg_name (i := 6) sc_count_ways.nd rfl (by first | exact Or.inl rfl | exact Or.inr rfl))) (fun _ _ _ _ _ => pts_nil) (fun _ _ _ _ _ => (pe_call G_count_ways (hr.mono (by omega)) rfl (g_count_ways T) k_count_ways b_count_ways .nil pass0 (pa_cons (pv 0) (pa_cons (pe_lc (own := [("at", 7)]) (g := gName 7) rfl sc_count_ways.nd (pi_listK K (pv 4)) (blkOk_by (N := N_count_ways) (sc := scx_count_ways_0) (by decide +kernel)) (fun _ _ _ _ _ => (pg_name (i := 7) sc_count_ways.nd rfl (by first | exact Or.inl rfl | exact Or.inr rfl))) (fun _ _ _ _ _ => (pts_one (pt_cmpR (opF_ne vI hr.units) (pv 7) (pv 6) (nomark _)))) (fun _ _ _ _ _ => (pv 7))) (pa_cons (pv 2) pa_nil))))))
          (pss_one (ps_set (i := 3) sc_count_ways.nd rfl (by first | exact Or.inl rfl | exact Or.inr rfl) (pe_op op_mul (pv 3) (pe_callB (cr_sum rfl) (by rfl) (n_sum T) (by decide +kernel) (pa_cons (pv 5) pa_nil))))))
          pss_nil)))
      (pss_one (ps_dput (hu_of hr) (pv 2) (pe_callTy (cr_tupF vN) (by rfl) (n_tuple T) (by decide +kernel) (pa_cons (pv 1) pa_nil)) (pv 3) rfl))))
      pss_nil)
    (pss_one (ps_ret (pe_dget (hu_of hr) (pv 2) (pe_callTy (cr_tupF vN) (by rfl) (n_tuple T) (by decide +kernel) (pa_cons (pv 1) pa_nil)) (fun _ _ => rfl))))), ?_⟩
  have hps : ps.length ≤ 6 := Nat.le_trans hm h6
  have hvT := hv
  refine ⟨_, rfl, F, _, ps, rfl, sm, hv.m sm, fun tv F1 H1 g1 ht => ?_⟩
  obtain ⟨ta, tus, rfl, hta, lt⟩ := ht
  have et : tus = (keyN ps).map kV := by rw [keyN_V]; exact all2N.mp lt
  subst et
  have hK1 := g1.h _ _ hK
  have fK1 := g1.out hK fK
  refine ⟨_, rfl, kn, _, rfl, DGet.t hK1 (g1.i _ _ hta), ?_⟩
  cases ev : valV kvs (keyN ps) with
  | some v0 =>
    have e0 := kok ps v0 ev
    subst e0
    refine ⟨_, rfl, no_t rfl ?_⟩
    refine ⟨_, rfl, _, rfl, F1, _, ps, rfl, g1.i, (Mo.mo g1.f hv).m g1.i, fun tv F2 H2 g2 ht => ?_⟩
    obtain ⟨tb, tus, rfl, htb, lt⟩ := ht
    have et : tus = (keyN ps).map kV := by rw [keyN_V]; exact all2N.mp lt
    subst et
    have hK2 := g2.h _ _ hK1
    exact ⟨kn, _, rfl, by rw [← ev]; exact DGet.t hK2 (g2.i _ _ htb), k _ _ _ (g1.trans g2).toX (g2.out hK1 fK1) hK2 kok (Nat.le_add_right _ _)⟩
  | none =>
    refine ⟨_, rfl, yes_t rfl ?_⟩
    refine ⟨_, rfl, _, rfl, (rs, ps), F1, g1.i, ⟨_, _, rfl, Mo.mo g1.f hu, Mo.mo g1.f hv, ro, ⟨hlt, by show ps.length ≤ 100; omega⟩⟩, fun u2 F2 H2 g2 hu2 => ?_⟩
    obtain ⟨pa, pvs, rfl, hpa, lp⟩ := hu2
    have lp : All2 (vL vN) (partsL (lkR rs) ps.length ps) pvs F2 := lp
    have hK2 := g2.h _ _ hK1
    have fK2 := g2.out hK1 fK1
    have g2 := g1.trans g2
    have pp := partsL_perm (lk := lkR rs) ps.length ps nd (Nat.le_refl _)
    have lpl := lp.len
    refine ⟨pa, rfl, ⟨_, SqL.of (g2.i _ _ hpa)⟩, ?_⟩
    refine for_list (xs := pvs) (fun i σ H' => ∃ F' kvs' x4 x5, σ = [some u, some v, some (.ref kn), some (.int ((((partsL (lkR rs) ps.length ps).take i).foldl (cwStep (cw (lkR rs))) 1 : Nat) : Int)), x4, x5, none, none] ∧ GrowX kn F H F' H' ∧ Same F2 F' ∧ F' kn = none ∧ H' kn = some (.dT kvs') ∧
      KnOk (lkR rs) kvs' ∧ kvs'.length ≤ kvs.length + ((partsL (lkR rs) ps.length ps).take i).flatten.length * callsN (m - 1)) ?_ ?_ ?_ ?_
    · exact ⟨F2, kvs, none, none, rfl, g2.toX, Same.refl F2, fK2, hK2, kok, by simp⟩
    · intro i σ H' _ ⟨F', kvs', x4, x5, es, gx, s2, _⟩
      exact SqL.of (gx.i _ _ (s2 _ _ hpa))
    · intro i y σ H' hy ⟨F', kvs', x4, x5, es, gx, s2, fK', hK', kok', kl'⟩
      subst es
      obtain ⟨g, hg, hgy⟩ := lp.at hy
      have hgm := List.mem_of_getElem? hg
      obtain ⟨g1', g2', g3'⟩ := part_ok nd hgm
      have hgy := Mo.mo s2 hgy
      have tk : (partsL (lkR rs) ps.length ps).take (i + 1) = (partsL (lkR rs) ps.length ps).take i ++ [g] := by rw [List.take_succ, hg]; rfl
      refine ⟨_, rfl, F', _, g, rfl, hgy.m gx.i, _, _, rfl, rfl, _, rfl, ?_⟩
      refine iteB (fun hb => ?_) (fun hb => ?_)
      · have hb : (1 : Int) < (g.length : Int) := of_decide_eq_true hb
        obtain ⟨m', em⟩ : ∃ m', m = m' + 1 := ⟨m - 1, by omega⟩
        subst em
        obtain ⟨ga, gvs, rfl, hga, lg⟩ := id hgy
        have egvs : gvs = g.map fun n : Nat => V.int (n : Int) := all2N.mp lg
        subst egvs
        have hgl : (g.map fun n : Nat => V.int (n : Int)).length = g.length := List.length_map _
        refine ⟨_, rfl, ga, rfl, ⟨_, SqL.of (gx.i _ _ hga)⟩, fun D hD => ?_⟩
        have nDk : D ≠ kn := fun e => by rw [e, hK'] at hD; cases hD
        have fD' := gx.i.free hD
        refine lc_list (xs := g.map fun n : Nat => V.int (n : Int)) (fun j H'' => ∃ F'' kvs'', GrowX kn F' H' F'' H'' ∧ F'' kn = none ∧ F'' D = none ∧ H'' kn = some (.dT kvs'') ∧ KnOk (lkR rs) kvs'' ∧ kvs''.length ≤ kvs'.length + j * callsN m' ∧
          H'' D = some (.lst (((g.take j).map fun x => cw (lkR rs) (minus g x)).map fun n : Nat => V.int (n : Int)))) ?_ ?_ ?_ ?_
        · exact ⟨F', kvs', (Grow.new gx.i hD).toX, fK', fD', by rw [upd_ne (Ne.symm nDk)]; exact hK', kok', by simp, upd_same⟩
        · intro j H'' _ ⟨F'', kvs'', gx2, _⟩
          exact SqL.of (gx2.i _ _ (gx2.f _ _ hga))
        · intro j x H'' hx ⟨F'', kvs'', gx2, fK2, fD2, hK2, kok2, kl2, hD2⟩
          rw [List.getElem?_map] at hx
          obtain ⟨a, ha, ex⟩ := Option.map_eq_some_iff.mp hx
          subst ex
          have hj : j < g.length := (List.getElem?_eq_some_iff.mp ha).1
          have ham := List.mem_of_getElem? ha
          have sF := gx.f.trans gx2.f
          refine ⟨rfl, _, rfl, _, rfl, ga, rfl, ⟨_, SqL.of (gx2.i _ _ (gx2.f _ _ hga))⟩, fun E2 hE2 => ?_⟩
          refine lcL (p := vN) (q := vN) (f := id) (t := fun b => decide (b ≠ a)) gx2.i hE2 (gx2.i _ _ (gx2.f _ _ hga)) (lg.mo gx2.f) (by omega) ?_ ?_
          · intro b yb F3 H3 hbm g3 hyb N Y hN hY
            refine ⟨rfl, _, rfl, _, rfl, F3, _, _, g3.i, hyb, rfl, _, rfl, ?_⟩
            have e : decide ((b : Int) ≠ (a : Int)) = decide (b ≠ a) := decide_eq_decide.mpr (by omega)
            rw [e]
            exact iteB (fun ht => ⟨_, rfl, hY _ _ _ (Grow.refl g3.i) ht hyb⟩) fun ht => hN _ _ (Grow.refl g3.i) ht
          · intro F3 H3 g3 hl3
            rw [List.map_id] at hl3
            have ml := minus_lt ham
            have hc1 : callsN (m' + 1) = 1 + (m' + 1) * callsN m' := rfl
            have hmul : (j + 1) * callsN m' + (((partsL (lkR rs) ps.length ps).take i).flatten.length) * callsN m' ≤ (m' + 1) * callsN m' := by
              rw [← Nat.add_mul]
              refine Nat.mul_le_mul_right _ ?_
              have h1 : ((partsL (lkR rs) ps.length ps).take (i + 1)).flatten.length ≤ ps.length := by
                have h0 := take_flat_len (partsL (lkR rs) ps.length ps) (i + 1)
                have h00 := pp.length_eq
                omega
              rw [tk, List.flatten_append, List.length_append, List.flatten_cons, List.flatten_nil, List.append_nil] at h1
              omega
            have hm1 : m' + 1 - 1 = m' := rfl
            rw [hm1] at kl'
            have hsp : (j + 1) * callsN m' = j * callsN m' + callsN m' := Nat.succ_mul _ _
            refine ⟨_, rfl, F3, rs, minus g a, u, _, kn, kvs'', rfl, g3.i, g3.out hK2 fK2, g3.h _ _ hK2, kok2, by omega, Mo.mo (sF.trans g3.f) hu, hl3, ro, minus_nd g1', fun p hp => hlt p (g2' p (minus_mem hp)), by omega, by omega, fun F4 H4 kvs4 gx4 f4 h4 ok4 l4 => ?_⟩
            have hD3 := g3.h _ _ hD2
            have hD4 := gx4.h _ _ hD3 nDk
            have fD4 := gx4.out hD3 nDk (g3.out hD2 fD2)
            refine ⟨_, hD4, small_of (by rw [List.length_map, List.length_map, List.length_take]; omega), F4, kvs4, ((gx2.grow g3).trans gx4).set hD fD4, f4, fD4, by rw [upd_ne (Ne.symm nDk)]; exact h4, ok4, by omega, ?_⟩
            rw [upd_same, List.take_succ, ha]
            simp
        · intro H'' ⟨F'', kvs'', gx2, fK2, fD2, hK2, kok2, kl2, hD2⟩
          rw [hgl] at kl2 hD2
          rw [List.take_length] at hD2
          have hsum : (g.map fun x => cw (lkR rs) (minus g x)).sum ≤ 6 ^ g.length := cwSum_len (by omega) fun x hx => cw_len _ _ (minus_nd g1') (Nat.le_refl _) (by have := minus_lt hx; omega)
          have h66 : 6 ^ g.length ≤ 6 ^ 6 := Nat.pow_le_pow_right (by decide) (by omega)
          have h6c : 6 ^ 6 = 46656 := by decide
          have hsI : ((g.map fun x => cw (lkR rs) (minus g x)).map fun n : Nat => V.int (n : Int)) = (((g.map fun x => cw (lkR rs) (minus g x)).map fun n : Nat => (n : Int)).map V.int) := by simp
          have hsS : ((g.map fun x => cw (lkR rs) (minus g x)).map fun n : Nat => (n : Int)).sum = (((g.map fun x => cw (lkR rs) (minus g x)).sum : Nat) : Int) := sum_cast _
          refine ⟨_, rfl, _, rfl, D, _, rfl, SqL.of (by rw [← hsI]; exact hD2), _, _, rfl, rfl, .inr ⟨by rw [hsS]; omega, by rw [hsS]; omega⟩, ?_⟩
          refine ⟨F'', kvs'', some (.ref ga), some (.ref D), ?_, gx.trans gx2, s2.trans gx2.f, fK2, hK2, kok2, ?_⟩
          · rw [tk, List.foldl_append, hsS]
            have e1 : cwStep (cw (lkR rs)) (((partsL (lkR rs) ps.length ps).take i).foldl (cwStep (cw (lkR rs))) 1) g = ((partsL (lkR rs) ps.length ps).take i).foldl (cwStep (cw (lkR rs))) 1 * (g.map fun x => cw (lkR rs) (minus g x)).sum := by
              unfold cwStep
              rw [if_pos (by omega)]
            show _ = [some u, some v, some (.ref kn), some (.int ((cwStep (cw (lkR rs)) (((partsL (lkR rs) ps.length ps).take i).foldl (cwStep (cw (lkR rs))) 1) g : Nat) : Int)), _, _, none, none]
            rw [e1, Int.natCast_mul]
            rfl
          · rw [tk, List.flatten_append, List.length_append, List.flatten_cons, List.flatten_nil, List.append_nil, Nat.add_mul]
            have hm1 : m' + 1 - 1 = m' := rfl
            rw [hm1] at kl' ⊢
            omega
      · have hb : ¬ (1 : Int) < (g.length : Int) := of_decide_eq_false hb
        refine ⟨F', kvs', some y, x5, ?_, gx, s2, fK', hK', kok', ?_⟩
        · rw [tk, List.foldl_append]
          have e1 : cwStep (cw (lkR rs)) (((partsL (lkR rs) ps.length ps).take i).foldl (cwStep (cw (lkR rs))) 1) g = ((partsL (lkR rs) ps.length ps).take i).foldl (cwStep (cw (lkR rs))) 1 := by
            unfold cwStep
            rw [if_neg (by omega)]
          show _ = [some u, some v, some (.ref kn), some (.int ((cwStep (cw (lkR rs)) (((partsL (lkR rs) ps.length ps).take i).foldl (cwStep (cw (lkR rs))) 1) g : Nat) : Int)), _, _, none, none]
          rw [e1]
          rfl
        · rw [tk, List.flatten_append, List.length_append, Nat.add_mul]
          omega
    · intro σ H' ⟨F', kvs', x4, x5, es, gx, s2, fK', hK', kok', kl'⟩
      subst es
      rw [← lpl, List.take_length, pp.length_eq] at kl'
      rw [← lpl, List.take_length, ← cw_unfold nd]
      have hcm : ps.length * callsN (m - 1) + 1 ≤ callsN m := by
        cases m with
        | zero =>
          have : ps.length = 0 := by omega
          rw [this]; decide
        | succ m' =>
          have h1 : ps.length * callsN m' ≤ (m' + 1) * callsN m' := Nat.mul_le_mul_right _ hm
          show ps.length * callsN m' + 1 ≤ 1 + (m' + 1) * callsN m'
          omega
      refine ⟨_, rfl, _, rfl, _, rfl, F', _, ps, rfl, gx.i, (Mo.mo gx.f hv).m gx.i, fun tv F3 H3 g3 ht => ?_⟩
      obtain ⟨tb, tus, rfl, htb, lt⟩ := ht
      have et : tus = (keyN ps).map kV := by rw [keyN_V]; exact all2N.mp lt
      subst et
      have hK3 := g3.h _ _ hK'
      have fK3 := g3.out hK' fK'
      refine ⟨kn, _, rfl, DPut.t hK3 (g3.i _ _ htb) (small_of (by omega)), ?_⟩
      have gx3 := (gx.grow g3).setX (o := .dT (putK kvs' (keyN ps) (.int (cw (lkR rs) ps : Int)))) fK3
      have hok : KnOk (lkR rs) (putK kvs' (keyN ps) (.int (cw (lkR rs) ps : Int))) := fun qs w hw => by
        rw [valV_put] at hw
        by_cases e : keyN qs = keyN ps
        · rw [if_pos e] at hw
          cases hw
          rw [keyN_inj e]
        · rw [if_neg e] at hw
          exact kok' qs w hw
      have hpl := length_putK kvs' (keyN ps) (.int (cw (lkR rs) ps : Int))
      refine ⟨_, rfl, _, rfl, F3, _, ps, rfl, gx3.i, (Mo.mo gx3.f hv).m gx3.i, fun tv F4 H4 g4 ht => ?_⟩
      obtain ⟨tc, tus, rfl, htc, lt⟩ := ht
      have et : tus = (keyN ps).map kV := by rw [keyN_V]; exact all2N.mp lt
      subst et
      have hK4 := g4.h _ _ (upd_same (H := H3) (a := kn) (o := .dT (putK kvs' (keyN ps) (.int (cw (lkR rs) ps : Int)))))
      have vv : valV (putK kvs' (keyN ps) (.int (cw (lkR rs) ps : Int))) (keyN ps) = some (.int (cw (lkR rs) ps : Int)) := by rw [valV_put, if_pos rfl]
      exact ⟨kn, _, rfl, by rw [← vv]; exact DGet.t hK4 (g4.i _ _ htc), k _ _ _ (gx3.grow g4) (g4.out upd_same fK3) hK4 hok (by omega)⟩
theorem ok_cw_no (T : Tp K mg) : Ok P w K mg base 2 (He.ga K "count_ways") ["rows", "places", "known"] (spc 0) :=
  mk_ok (N := N_count_ways) (F_count_ways T) sc_count_ways (fun _ _ _ _ h => h.elim) (fun _ _ _ _ _ _ us hl => match us, hl with | [_, _, _], _ => rfl) (fun cdv A outer s H vs Q E hr h => h.elim)
theorem ok_count_ways (T : Tp K mg) : ∀ m, Ok P w K mg base (m + 3) (He.ga K "count_ways") ["rows", "places", "known"] (sp_count_ways m)
  | 0 => ok_count_ways_step T 0 (ok_cw_no T)
  | m + 1 => ok_count_ways_step T (m + 1) (ok_count_ways T m)
end
end Elk
set_option Elab.async false
set_option linter.all false
set_option maxRecDepth 100000
set_option maxHeartbeats 4000000
namespace Elk
open PySem PySem.Spec PyProof.Rows L2
/-- [f x y for x in xs for y in ys] -/
theorem lc2L {K : W.Frag} {α β γ : Type} {p : VP α} {q : VP β} {r : VP γ} [Mo p] [Mo q] [Mo r] {f : α → β → γ} {xs : List α} {ys : List β} {vs ws : List V} {te : TE} {own own1 : List Nat} {σ : L2.St} {F1 H1 : Hp} {D a b : Addr} {Qd : Hp → Prop} {ia ib ic : Nat}
    (s : Same F1 H1) (hD : H1 D = none) (ha : F1 a = some (.lst vs)) (l : All2 p xs vs F1) (hb : F1 b = some (.lst ws)) (l2 : All2 q ys ws F1) (hz : xs.length * ys.length ≤ 100000)
    (w1 : ∀ v, wipe ((wipe σ own).set ia (some v)) own = wipe σ own) (w2 : ∀ v u, wipe ((wipe ((wipe σ own).set ia (some v)) own1).set ib (some u)) own1 = wipe ((wipe σ own).set ia (some v)) own1) (hc : ∀ v, ((wipe σ own).set ia (some v))[ic]? = some (some (.ref b)))
    (S : ∀ x y vx vy F' H', x ∈ xs → y ∈ ys → Grow F1 H1 F' H' → p x vx F' → q y vy F' → ∀ Y : VK, (∀ z F4 H4, Grow F' H' F4 H4 → r (f x y) z F4 → Y z H4) → te ((wipe ((wipe σ own).set ia (some vx)) own1).set ib (some vy)) H' Y)
    (hd : ∀ F H, Grow F1 H1 F H → vL r (xs.flatMap fun x => ys.map (f x)) (.ref D) F → Qd H) :
    ∃ W : Nat → Nat → Hp → Prop, (∃ m, W 0 m (upd H1 D (.lst []))) ∧ ∀ i m H, W i m H →
      ((Itl K a).stop i H ∧ Qd H) ∨ ((Itl K a).go i H ∧ ∃ Nx : Hp → Prop, (∀ H', Nx H' → ∃ m', m' < m ∧ W (i + 1) m' H') ∧ ∀ x H', (Itl K a).yld i H x H' → gName ia x (wipe σ own) H' fun σ2 H2 => wipe σ2 own = wipe σ own ∧ tYes σ2 H2 fun b H3 =>
        if b = true then iList K (tVar ic) σ2 H3 fun J1 H4 => ∃ W1 : Nat → Nat → Hp → Prop, (∃ m, W1 0 m H4) ∧ ∀ j k H, W1 j k H →
          (J1.stop j H ∧ Nx H) ∨ (J1.go j H ∧ ∃ Nx1 : Hp → Prop, (∀ H', Nx1 H' → ∃ k', k' < k ∧ W1 (j + 1) k' H') ∧ ∀ x H', J1.yld j H x H' → gName ib x (wipe σ2 own1) H' fun σ3 H5 => wipe σ3 own1 = wipe σ2 own1 ∧ tYes σ3 H5 fun b H6 =>
            if b = true then te σ3 H6 fun y H7 => ∃ acc, H7 D = some (.lst acc) ∧ acc.length < sizeLine ∧ Nx1 (upd H7 D (.lst (acc ++ [y]))) else Nx1 H6)
        else Nx H3) := by
  have hxl := l.len
  have hyl := l2.len
  refine ⟨fun i m H => m = xs.length - i ∧ i ≤ xs.length ∧ ∃ F, Grow F1 H1 F H ∧ F D = none ∧ ∃ acc, H D = some (.lst acc) ∧ All2 r ((xs.take i).flatMap fun x => ys.map (f x)) acc F, ⟨xs.length, by simp, Nat.zero_le _, F1, Grow.new s hD, s.free hD, [], upd_same, .nil⟩, ?_⟩
  intro i m H ⟨em, hi, F, g, fD, acc, hA, lA⟩
  subst em
  have hH := g.i _ _ (g.f _ _ ha)
  by_cases hlt : i < xs.length
  · obtain ⟨v, hv⟩ : ∃ v, vs[i]? = some v := ⟨_, List.getElem?_eq_getElem (by omega)⟩
    obtain ⟨x, hx, px⟩ := l.at hv
    refine .inr ⟨⟨vs, v, SqL.of hH, hv⟩, fun H' => ∃ F, Grow F1 H1 F H' ∧ F D = none ∧ ∃ acc, H' D = some (.lst acc) ∧ All2 r ((xs.take (i + 1)).flatMap fun x => ys.map (f x)) acc F, fun H' h => ⟨xs.length - (i + 1), by omega, rfl, hlt, h⟩, fun v' H' yy => ?_⟩
    obtain ⟨eH, ev⟩ := yy
    subst eH
    have e1 := ev vs (SqL.of hH)
    rw [hv] at e1
    cases e1
    have tk : xs.take (i + 1) = xs.take i ++ [x] := by rw [List.take_succ, hx]; rfl
    refine ⟨w1 v, .ref b, hc v, b, rfl, ⟨_, SqL.of (g.i _ _ (g.f _ _ hb))⟩, ?_⟩
    refine ⟨fun j k H => k = ys.length - j ∧ j ≤ ys.length ∧ ∃ F, Grow F1 H1 F H ∧ F D = none ∧ ∃ acc, H D = some (.lst acc) ∧ All2 r (((xs.take i).flatMap fun x => ys.map (f x)) ++ (ys.take j).map (f x)) acc F,
      ⟨ys.length, by simp, Nat.zero_le _, F, g, fD, acc, hA, by simpa using lA⟩, ?_⟩
    intro j k H2 ⟨ek, hj, F2, g2, fD2, acc2, hA2, lA2⟩
    subst ek
    have hH2 := g2.i _ _ (g2.f _ _ hb)
    by_cases hjt : j < ys.length
    · obtain ⟨u, hu⟩ : ∃ u, ws[j]? = some u := ⟨_, List.getElem?_eq_getElem (by omega)⟩
      obtain ⟨y, hy, py⟩ := l2.at hu
      refine .inr ⟨⟨ws, u, SqL.of hH2, hu⟩, fun H' => ∃ F, Grow F1 H1 F H' ∧ F D = none ∧ ∃ acc, H' D = some (.lst acc) ∧ All2 r (((xs.take i).flatMap fun x => ys.map (f x)) ++ (ys.take (j + 1)).map (f x)) acc F, fun H' h => ⟨ys.length - (j + 1), by omega, rfl, hjt, h⟩, fun u' H' yy => ?_⟩
      obtain ⟨eH, ev⟩ := yy
      subst eH
      have e1 := ev ws (SqL.of hH2)
      rw [hu] at e1
      cases e1
      refine ⟨w2 v u, S x y v u F2 _ (List.mem_of_getElem? hx) (List.mem_of_getElem? hy) g2 (Mo.mo g2.f px) (Mo.mo g2.f py) _ fun z F4 H4 g4 hz => ?_⟩
      have tk2 : ys.take (j + 1) = ys.take j ++ [y] := by rw [List.take_succ, hy]; rfl
      have hlen : acc2.length < 100000 + 1 := by
        rw [← lA2.len, List.length_append, List.length_map, List.length_take]
        have h1 : ((xs.take i).flatMap fun x => ys.map (f x)).length ≤ i * ys.length := by
          have := flatMap_len (f := fun x => ys.map (f x)) (b := ys.length) (xs := xs.take i) fun x _ => by rw [List.length_map]; exact Nat.le_refl _
          rw [List.length_take, Nat.min_eq_left (by omega)] at this
          exact this
        have h2 : (i + 1) * ys.length ≤ xs.length * ys.length := Nat.mul_le_mul_right _ hlt
        rw [Nat.add_mul, Nat.one_mul] at h2
        omega
      refine ⟨acc2, g4.h _ _ hA2, small_of (by omega), F4, (g2.trans g4).set hD (g4.out hA2 fD2), g4.out hA2 fD2, _, upd_same, ?_⟩
      rw [tk2, List.map_append, ← List.append_assoc]
      exact (lA2.mo g4.f).snoc hz
    · have ej : j = ys.length := by omega
      subst ej
      refine .inl ⟨⟨ws, SqL.of hH2, by omega⟩, F2, g2, fD2, acc2, hA2, ?_⟩
      rw [tk, List.flatMap_append, List.flatMap_cons, List.flatMap_nil, List.append_nil]
      rw [List.take_length] at lA2
      exact lA2
  · have e : i = xs.length := by omega
    subst e
    rw [List.take_length] at lA
    exact .inl ⟨⟨vs, SqL.of hH, by omega⟩, hd _ H (g.keep hD hA) ⟨D, acc, rfl, upd_same, lA.mo (same_keep fD)⟩⟩
def sp_count_unlike (K : W.Frag) : Sp := Pm (ι := List Row) (fun rs vs F => ∃ v, vs = [v] ∧ vLine K rs v F ∧ LineOk rs ∧ rs.length ≤ 6) (fun rs v F => v = .int (cw (lkR rs) (List.range rs.length) : Int))
def sp_ways_of (m : Nat) : Sp := Pm (ι := List Row × List Nat) (fun i vs F => ∃ u v, vs = [u, v] ∧ vT vRow ⟨i.1⟩ u F ∧ vL vN i.2 v F ∧ RowsOk i.1 ∧ i.2.Nodup ∧ (∀ p ∈ i.2, p < i.1.length) ∧ i.2.length ≤ m ∧ m ≤ 6) (fun i v F => vL (vL vN) (waysL (lkR i.1) m i.2) v F)
def wSome' (ways : List Nat → List (List Nat)) (g xs : List Nat) : List (List Nat) := xs.flatMap fun x => (ways (minus g x)).map fun w => w ++ [x]
def spw : Nat → Sp
  | 0 => fun _ _ _ _ => False
  | m + 1 => sp_ways_of m
section
variable {P : Program} {w : World} {K : W.Frag} {mg : Str → Option Value} {base : Heap}
abbrev N_count_unlike : List Str := ["line"]
theorem sc_count_unlike : FnScope N_count_unlike ["line"] (defScope s_count_unlike) := ⟨rfl, rfl, rfl, by decide +kernel, rfl, by decide +kernel, by decide +kernel⟩
theorem ok_count_unlike (T : Tp K mg) : Ok P w K mg base 10 (He.ga K "count_unlike") ["line"] (sp_count_unlike K) := by
  obtain ⟨fd_check_line, G_check_line, b_check_line, k_check_line⟩ := ok_check_line (P := P) (w := w) (base := base) T
  obtain ⟨fd_count_ways, G_count_ways, b_count_ways, k_count_ways⟩ := ok_count_ways (P := P) (w := w) (base := base) T 6
  refine mk_ok (F_count_unlike T) sc_count_unlike ?_ (fun _ _ _ _ _ _ us hl => match us, hl with | [_], _ => rfl) (fun cdv A outer s H vs Q E hr h => ?_)
  · rintro vs H Q E ⟨i, F, _, ⟨v, rfl, _⟩, _⟩
    rfl
  obtain ⟨rs, F, sm, ⟨v, rfl, hv, lok, h6⟩, k⟩ := h
  refine ⟨_, (pss_cons (ps_expr (pe_call G_check_line (hr.mono (by decide)) rfl (g_check_line T) k_check_line b_check_line .nil pass0 (pa_cons (pv 0) pa_nil)))
    (pss_one (ps_ret (pe_call G_count_ways (hr.mono (by decide)) rfl (g_count_ways T) k_count_ways b_count_ways .nil pass0 (pa_cons (pe_every T (pv 0) rfl) (pa_cons (pe_listRg rfl rfl (n_list T) (prg_1 rfl (n_range T) (pe_callB (call_lenT vRow) (by rfl) (n_len T) (by decide +kernel) (pa_cons (pe_every T (pv 0) rfl) pa_nil)))) (pa_cons pe_dnewT pa_nil))))))), ?_⟩
  refine ⟨_, rfl, rs, F, sm, ⟨_, rfl, hv⟩, fun u1 F1 H1 g1 hu1 => ?_⟩
  refine ⟨_, rfl, F1, rs, g1.i, Mo.mo g1.f hv, fun t ht => ?_⟩
  refine ⟨_, rfl, F1, rs, g1.i, Mo.mo g1.f hv, fun t2 ht2 => ?_⟩
  refine ⟨F1, _, rs, rfl, g1.i, ht2, _, rfl, RgOk.of_le (by omega) (by have := lok.len; omega) (by omega) (by omega), fun q hq => ?_⟩
  have g2 := g1.trans (Grow.put (o := .lst (rgV 0 rs.length)) g1.i hq)
  have s2 : Same F1 (upd F1 q (.lst (rgV 0 rs.length))) := same_upd (g1.i.free hq)
  refine fun kn hkn => ?_
  have g3 := Grow.new (o := .dT []) g2.i hkn
  have fk := g2.i.free hkn
  refine ⟨_, rs, List.range rs.length, t, .ref q, kn, [], rfl, g3.i, fk, upd_same, (fun _ _ e => by rw [valV_nil] at e; cases e), by show 0 + callsN 6 ≤ 100000; decide, Mo.mo s2 ht, ⟨q, _, rfl, upd_same, all2_rg0 _ _⟩, lok.rows, List.nodup_range, fun p hp => List.mem_range.mp hp, by rw [List.length_range]; exact h6, Nat.le_refl 6, fun F' H' kvs' gx f' h' _ _ => ?_⟩
  have hk0 : H kn = none := by
    cases e : H kn with
    | none => rfl
    | some o => rw [g2.h _ _ e] at hkn; cases hkn
  have gg : Grow F H F' H' := ⟨fun b o e => gx.h _ _ (g3.h _ _ (g2.h _ _ e)) (ne_of_none e hk0), g2.f.trans gx.f, gx.i, fun b o e => by
    rcases gx.n b o e with z | z | z
    · exact g2.n b o z
    · refine .inr ?_
      cases eb : H b with
      | none => rfl
      | some o' => rw [g3.h _ _ (g2.h _ _ eb)] at z; cases z
    · subst z; exact .inr hk0⟩
  exact k _ _ _ gg rfl
abbrev N_ways_of : List Str := ["rows", "places", "found", "part", "some", "last", "way", "more", "at"]
theorem sc_ways_of : FnScope N_ways_of ["rows", "places"] (defScope s_ways_of) := ⟨rfl, rfl, rfl, by decide +kernel, rfl, by decide +kernel, by decide +kernel⟩
theorem ok_ways_of_step (T : Tp K mg) (m : Nat) (ih : Ok P w K mg base (m + 2) (He.ga K "ways_of") ["rows", "places"] (spw m)) : Ok P w K mg base (m + 3) (He.ga K "ways_of") ["rows", "places"] (sp_ways_of m) := by
  obtain ⟨fd_parts_of, G_parts_of, b_parts_of, k_parts_of⟩ := ok_parts_of (P := P) (w := w) (base := base) T
  obtain ⟨fd_ways_of, G_ways_of, b_ways_of, k_ways_of⟩ := ih
  refine mk_ok (F_ways_of T) sc_ways_of ?_ (fun _ _ _ _ _ _ us hl => match us, hl with | [_, _], _ => rfl) (fun cdv A outer s H vs Q E hr h => ?_)
  · rintro vs H Q E ⟨i, F, _, ⟨u, v, rfl, _⟩, _⟩
    rfl
  obtain ⟨⟨rs, ps⟩, F, sm, ⟨u, v, rfl, hu, hv, ro, nd, hlt, hm, h6⟩, k⟩ := h
  refine ⟨_, (pss_cons (ps_set (i := 2) sc_ways_of.nd rfl (by first | exact Or.inl rfl | exact Or.inr rfl) (pe_lst (pa_cons (pe_lst pa_nil) pa_nil)))
    (pss_cons (ps_for PassesOwn.never rfl (pi_list (pe_call G_parts_of (hr.mono (by omega)) rfl (g_parts_of T) k_parts_of b_parts_of .nil pass0 (pa_cons (pv 0) (pa_cons (pv 1) pa_nil)))) (pg_name (i := 3) sc_ways_of.nd rfl (by first | exact Or.inl rfl | exact Or.inr rfl))
      (pss_cons (ps_set (i := 4) sc_ways_of.nd rfl (by first | exact Or.inl rfl | exact Or.inr rfl) (pe_lst pa_nil))
      (pss_cons (ps_for PassesOwn.never rfl (pi_list (pv 3)) (pg_name (i := 5) sc_ways_of.nd rfl (by first | exact Or.inl rfl | exact Or.inr rfl))
        (pss_one (ps_set (i := 4) sc_ways_of.nd rfl (by first | exact Or.inl rfl | exact Or.inr rfl) (pe_op (op_catF (vL vN)) (pv 4) (pe_lc (own := [("way", 6)]) (g := gName 6) rfl sc_ways_of.nd (pi_list (pe_call G_ways_of (hr.mono (by omega)) rfl (g_ways_of T) k_ways_of b_ways_of .nil pass0 (pa_cons (pv 0) (pa_cons (pe_lc (own := [("at", 8)]) (g := gName 8) rfl sc_ways_of.nd (pi_list (pv 3)) (blkOk_by (N := N_ways_of) (sc := defScope s_ways_of) (by decide +kernel)) (fun _ _ _ _ _ => (pg_name (i := 8) sc_ways_of.nd rfl (by first | exact Or.inl rfl | exact Or.inr rfl))) (fun _ _ _ _ _ => (pts_one (pt_cmpR (opF_ne vI hr.units) (pv 8) (pv 5) (nomark _)))) (fun _ _ _ _ _ => (pv 8))) pa_nil)))) (blkOk_by (N := N_ways_of) (sc := defScope s_ways_of) (by decide +kernel)) (fun _ _ _ _ _ => (pg_name (i := 6) sc_ways_of.nd rfl (by first | exact Or.inl rfl | exact Or.inr rfl))) (fun _ _ _ _ _ => pts_nil) (fun _ _ _ _ _ => (pe_op (op_catF vN) (pv 6) (pe_lst (pa_cons (pv 5) pa_nil)))))))))
      (pss_one (ps_setLc2 (i := 2) (own := [("way", 6), ("more", 7)]) (vs1 := [7]) (g := gName 6) (g1 := gName 7) rfl sc_ways_of.nd rfl rfl (sw_true rfl rfl rfl (by decide +kernel)) (pi_list (pv 2)) (blkOk_by (N := N_ways_of) (sc := defScope s_ways_of) (by decide +kernel)) (by decide) (fun _ _ _ _ _ => (pg_name (i := 6) sc_ways_of.nd rfl (by first | exact Or.inl rfl | exact Or.inr rfl))) (fun _ _ _ _ _ => pts_nil) (fun _ _ _ _ _ => (pi_listK K (pv 4))) (fun _ _ _ _ _ => (pg_name (i := 7) sc_ways_of.nd rfl (by first | exact Or.inl rfl | exact Or.inr rfl))) (fun _ _ _ _ _ => pts_nil) (fun _ _ _ _ _ => (pe_op (op_catF vN) (pv 6) (pv 7))))))))
    (pss_one (ps_ret (pv 2))))), ?_⟩
  have hps : ps.length ≤ 6 := Nat.le_trans hm h6
  have nd : ps.Nodup := nd
  have hlt : ∀ p ∈ ps, p < rs.length := hlt
  have hm : ps.length ≤ m := hm
  have h6 : m ≤ 6 := h6
  refine ⟨Nat.zero_le _, fun e0 he0 => ?_⟩
  have g0 := Grow.put (o := .lst []) sm he0
  refine ⟨by show 1 ≤ sizeLine; decide, fun o0 ho0 => ?_⟩
  have g1 := g0.trans (Grow.put (o := .lst [.ref e0]) g0.i ho0)
  have s1 : Same (upd F e0 (.lst [])) (upd (upd F e0 (.lst [])) o0 (.lst [.ref e0])) := same_upd (g0.i.free ho0)
  have v1 : vL (vL vN) [[]] (.ref o0) (upd (upd F e0 (.lst [])) o0 (.lst [.ref e0])) := ⟨o0, _, rfl, upd_same, .cons ⟨e0, [], rfl, s1 _ _ upd_same, .nil⟩ .nil⟩
  refine ⟨_, rfl, _, rfl, (rs, ps), _, g1.i, ⟨_, _, rfl, Mo.mo g1.f hu, Mo.mo g1.f hv, ro, ⟨hlt, by show ps.length ≤ 100; omega⟩⟩, fun u2 F2 H2 g2 hu2 => ?_⟩
  have v2 := Mo.mo g2.f v1
  have g2 := g1.trans g2
  obtain ⟨pa, pvs, rfl, hpa, lp⟩ := hu2
  have lp : All2 (vL vN) (partsL (lkR rs) ps.length ps) pvs F2 := lp
  have pp := partsL_perm (lk := lkR rs) ps.length ps nd (Nat.le_refl _)
  have wok : ∀ g ∈ partsL (lkR rs) ps.length ps, g.Nodup ∧ ∀ x ∈ g, ∀ w ∈ waysL (lkR rs) (m - 1) (minus g x), w.Perm (minus g x) := fun g hg => by
    obtain ⟨q1, q2, q3⟩ := part_ok nd hg
    exact ⟨q1, fun x hx w hw => waysL_perm _ _ (minus_nd q1) (by have := minus_lt hx; omega) w hw⟩
  have wlen : ∀ g ∈ partsL (lkR rs) ps.length ps, ∀ x ∈ g, (waysL (lkR rs) (m - 1) (minus g x)).length ≤ 6 ^ (minus g x).length := fun g hg x hx => by
    obtain ⟨q1, q2, q3⟩ := part_ok nd hg
    exact waysL_len _ _ (minus_nd q1) (by have := minus_lt hx; omega)
  refine ⟨pa, rfl, ⟨_, SqL.of (g2.i _ _ hpa)⟩, ?_⟩
  refine for_list (xs := pvs) (fun i σ H' => ∃ F' x3 x4 x5 fv, σ = [some u, some v, some fv, x3, x4, x5, none, none, none] ∧ Grow F H F' H' ∧ Same F2 F' ∧ vL (vL vN) (((partsL (lkR rs) ps.length ps).take i).foldl (wStep (waysL (lkR rs) (m - 1))) [[]]) fv F') ?_ ?_ ?_ ?_
  · exact ⟨F2, none, none, none, _, rfl, g2, Same.refl F2, v2⟩
  · intro i σ H' _ ⟨F', x3, x4, x5, fv, es, gr, s2, _⟩
    exact SqL.of (gr.i _ _ (s2 _ _ hpa))
  · intro i y σ H' hy ⟨F', x3, x4, x5, fv, es, gr, s2, hfv⟩
    subst es
    obtain ⟨g, hg, hgy⟩ := lp.at hy
    have hgm := List.mem_of_getElem? hg
    obtain ⟨q1, q2, q3⟩ := part_ok nd hgm
    have hgy := Mo.mo s2 hgy
    have tk : (partsL (lkR rs) ps.length ps).take (i + 1) = (partsL (lkR rs) ps.length ps).take i ++ [g] := by rw [List.take_succ, hg]; rfl
    have hfl : ((partsL (lkR rs) ps.length ps).take i).flatten.length + g.length ≤ ps.length := by
      have h0 := take_flat_len (partsL (lkR rs) ps.length ps) (i + 1)
      have h00 := pp.length_eq
      rw [tk, List.flatten_append, List.length_append, List.flatten_cons, List.flatten_nil, List.append_nil] at h0
      omega
    obtain ⟨ga, gvs, rfl, hga, lg⟩ := id hgy
    have hgl := lg.len
    -- some = []
    refine ⟨Nat.zero_le _, fun sa hsa => ?_⟩
    have g3 := gr.trans (Grow.put (o := .lst []) gr.i hsa)
    have s3 : Same F' (upd F' sa (.lst [])) := same_upd (gr.i.free hsa)
    refine ⟨_, rfl, ga, rfl, ⟨_, SqL.of (g3.i _ _ (s3 _ _ hga))⟩, ?_⟩
    refine for_list (xs := gvs) (fun j σ H'' => ∃ F'' x5 sv, σ = [some u, some v, some fv, some (.ref ga), some sv, x5, none, none, none] ∧ Grow F H F'' H'' ∧ Same F' F'' ∧ vL (vL vN) (wSome' (waysL (lkR rs) (m - 1)) g (g.take j)) sv F'') ?_ ?_ ?_ ?_
    · exact ⟨_, x5, _, rfl, g3, s3, ⟨sa, [], rfl, upd_same, .nil⟩⟩
    · intro j σ H'' _ ⟨F'', x5, sv, es, gr2, s4, _⟩
      exact SqL.of (gr2.i _ _ (s4 _ _ hga))
    · intro j z σ H'' hz ⟨F'', x5, sv, es, gr2, s4, hsv⟩
      subst es
      obtain ⟨a, ha, haz⟩ := lg.at hz
      have ez : z = .int (a : Int) := haz
      subst ez
      have ham := List.mem_of_getElem? ha
      have hjg : j < g.length := (List.getElem?_eq_some_iff.mp ha).1
      have ml := minus_lt ham
      obtain ⟨m', em⟩ : ∃ m', m = m' + 1 := ⟨m - 1, by omega⟩
      subst em
      refine ⟨_, rfl, _, rfl, _, rfl, ga, rfl, ⟨_, SqL.of (gr2.i _ _ (s4 _ _ hga))⟩, fun D hD => ?_⟩
      refine lcL (p := vN) (q := vN) (f := id) (t := fun b => decide (b ≠ a)) gr2.i hD (gr2.i _ _ (s4 _ _ hga)) (lg.mo s4) (by omega) ?_ ?_
      · intro b yb F3 H3 hbm g3 hyb N Y hN hY
        refine ⟨rfl, _, rfl, _, rfl, F3, _, _, g3.i, hyb, rfl, _, rfl, ?_⟩
        have e : decide ((b : Int) ≠ (a : Int)) = decide (b ≠ a) := decide_eq_decide.mpr (by omega)
        rw [e]
        exact iteB (fun ht => ⟨_, rfl, hY _ _ _ (Grow.refl g3.i) ht hyb⟩) fun ht => hN _ _ (Grow.refl g3.i) ht
      · intro F3 H3 g3 hl3
        rw [List.map_id] at hl3
        have hl3 : vL vN (minus g a) (.ref D) F3 := hl3
        refine ⟨(rs, minus g a), F3, g3.i, ⟨u, _, rfl, Mo.mo ((gr2.f.trans g3.f)) hu, hl3, ro, minus_nd q1, fun p hp => hlt p (q2 p (minus_mem hp)), by show (minus g a).length ≤ m'; omega, by omega⟩, fun wv F4 H4 g4 hwv => ?_⟩
        have hwv : vL (vL vN) (waysL (lkR rs) m' (minus g a)) wv F4 := hwv
        obtain ⟨wa, wvs, rfl, hwa, lw⟩ := hwv
        have hwl : (waysL (lkR rs) m' (minus g a)).length ≤ 6 ^ (minus g a).length := wlen g hgm a ham
        have h65 : 6 ^ (minus g a).length ≤ 6 ^ 5 := Nat.pow_le_pow_right (by decide) (by omega)
        have h65c : 6 ^ 5 = 7776 := by decide
        have g34 := (gr2.trans g3).trans g4
        have hsv4 := Mo.mo (g3.f.trans g4.f) hsv
        refine ⟨wa, rfl, ⟨_, SqL.of (g4.i _ _ hwa)⟩, fun D2 hD2 => ?_⟩
        refine lcL (p := vL vN) (q := vL vN) (f := fun w => w ++ [a]) (t := fun _ => true) g4.i hD2 (g4.i _ _ hwa) lw (by omega) ?_ ?_
        · intro wy ywv F5 H5 hwy g5 hywv N Y hN hY
          refine ⟨rfl, _, rfl, _, rfl, by show 1 ≤ sizeLine; decide, fun l0 hl0 => ?_⟩
          have g6 := Grow.put (o := .lst [.int (a : Int)]) g5.i hl0
          have hwp := (wok g hgm).2 a ham wy hwy
          refine ⟨_, wy, [a], g6.i, (Mo.mo g6.f hywv).m g6.i, ⟨l0, _, rfl, upd_same, .cons rfl .nil⟩, ?_, fun r F7 H7 g7 hr7 => hY _ _ _ (g6.trans g7) rfl hr7⟩
          rw [hwp.length_eq, List.length_singleton]
          omega
        · intro F5 H5 g5 hl5
          rw [filter_tt] at hl5
          have hpre : (wSome' (waysL (lkR rs) (m' + 1 - 1)) g (g.take j)).length ≤ 6 * 7776 := by
            have h1 : (wSome' (waysL (lkR rs) (m' + 1 - 1)) g (g.take j)).length ≤ (g.take j).length * 7776 := flatMap_len fun x hx => by
              rw [List.length_map]
              have hxg := List.mem_of_mem_take hx
              have h2 := wlen g hgm x hxg
              have h3 := minus_lt hxg
              have h4 : 6 ^ (minus g x).length ≤ 6 ^ 5 := Nat.pow_le_pow_right (by decide) (by omega)
              omega
            rw [List.length_take] at h1
            have h2 : min j g.length ≤ 6 := by omega
            exact Nat.le_trans h1 (Nat.mul_le_mul_right _ h2)
          refine ⟨F5, _, _, g5.i, (Mo.mo g5.f hsv4).m g5.i, hl5.m g5.i, ?_, fun r F7 H7 g7 hr7 => ?_⟩
          · rw [List.length_map]; omega
          · refine ⟨F7, some (.int (a : Int)), r, rfl, (g34.trans g5).trans g7, (((s4.trans g3.f).trans g4.f).trans g5.f).trans g7.f, ?_⟩
            have tk2 : g.take (j + 1) = g.take j ++ [a] := by rw [List.take_succ, ha]; rfl
            unfold wSome'
            rw [tk2, List.flatMap_append, List.flatMap_cons, List.flatMap_nil, List.append_nil]
            exact hr7
    · intro σ H'' ⟨F'', x5, sv, es, gr2, s4, hsv⟩
      subst es
      rw [← hgl, List.take_length] at hsv
      have hsv : vL (vL vN) (wSome (waysL (lkR rs) (m - 1)) g) sv F'' := hsv
      obtain ⟨fa, fvs, rfl, hfa, lf⟩ := Mo.mo s4 hfv
      obtain ⟨sb, svs, rfl, hsb, ls⟩ := hsv
      have hfol : (((partsL (lkR rs) ps.length ps).take i).foldl (wStep (waysL (lkR rs) (m - 1))) [[]]).length ≤ 6 ^ (0 + ((partsL (lkR rs) ps.length ps).take i).flatten.length) :=
        wFold_len _ (fun g' hg' => wSome_len (by have := (part_ok nd (List.mem_of_mem_take hg')).2.2; omega) (wlen g' (List.mem_of_mem_take hg'))) [[]] 0 (by decide)
      have hsl : (wSome (waysL (lkR rs) (m - 1)) g).length ≤ 6 ^ g.length := wSome_len (by omega) (wlen g hgm)
      have hprod : (((partsL (lkR rs) ps.length ps).take i).foldl (wStep (waysL (lkR rs) (m - 1))) [[]]).length * (wSome (waysL (lkR rs) (m - 1)) g).length ≤ 6 ^ 6 := by
        refine Nat.le_trans (Nat.mul_le_mul hfol hsl) ?_
        rw [← Nat.pow_add]
        exact Nat.pow_le_pow_right (by decide) (by omega)
      refine ⟨_, rfl, fa, rfl, ⟨_, SqL.of (gr2.i _ _ hfa)⟩, fun D hD => ?_⟩
      refine lc2L (p := vL vN) (q := vL vN) (r := vL vN) (f := fun a b => a ++ b) gr2.i hD hfa lf hsb ls (Nat.le_trans hprod (by decide)) (fun _ => rfl) (fun _ _ => rfl) (fun _ => rfl) ?_ ?_
      · intro x y vx vy F3 H3 hx hy g3 hvx hvy Y hY
        have hxl := (wFold _ (fun g' hg' => wok g' (List.mem_of_mem_take hg')) [[]] [] (fun v hv => by rw [List.mem_singleton] at hv; rw [hv]) x hx).length_eq
        have hyl : y.length = g.length := by
          obtain ⟨b, hb, hw⟩ := List.mem_flatMap.mp hy
          obtain ⟨w0, hw0, ew⟩ := List.mem_map.mp hw
          subst ew
          exact ((((wok g hgm).2 b hb w0 hw0).append_right [b]).trans (minus_perm q1 hb)).length_eq
        rw [List.nil_append] at hxl
        exact ⟨_, rfl, _, rfl, F3, x, y, g3.i, hvx.m g3.i, hvy.m g3.i, by omega, fun r F7 H7 g7 hr7 => hY _ _ _ g7 hr7⟩
      · intro F3 H3 g3 hl3
        refine ⟨F3, some (.ref ga), some (.ref sb), x5, _, rfl, gr2.trans g3, (s2.trans s4).trans g3.f, ?_⟩
        rw [tk, List.foldl_append]
        exact hl3
  · intro σ H' ⟨F', x3, x4, x5, fv, es, gr, s2, hfv⟩
    subst es
    rw [← lp.len, List.take_length] at hfv
    refine ⟨_, rfl, k _ _ _ gr ?_⟩
    show vL (vL vN) (waysL (lkR rs) m ps) fv F'
    cases m with
    | zero =>
      have : ps = [] := List.eq_nil_of_length_eq_zero (by omega)
      subst this
      exact hfv
    | succ m' =>
      rw [waysL]
      exact hfv
theorem ok_wo_no (T : Tp K mg) : Ok P w K mg base 2 (He.ga K "ways_of") ["rows", "places"] (spw 0) :=
  mk_ok (N := N_ways_of) (F_ways_of T) sc_ways_of (fun _ _ _ _ h => h.elim) (fun _ _ _ _ _ _ us hl => match us, hl with | [_, _], _ => rfl) (fun cdv A outer s H vs Q E hr h => h.elim)
theorem ok_ways_of (T : Tp K mg) : ∀ m, Ok P w K mg base (m + 3) (He.ga K "ways_of") ["rows", "places"] (sp_ways_of m)
  | 0 => ok_ways_of_step T 0 (ok_wo_no T)
  | m + 1 => ok_ways_of_step T (m + 1) (ok_ways_of T m)
end
end Elk
set_option Elab.async false
set_option linter.all false
set_option maxRecDepth 100000
set_option maxHeartbeats 4000000
namespace Elk
open PySem PySem.Spec PyProof.Rows L2
/-! ### a comprehension whose list is to be changed yet -/
section
variable {α β : Type} {p : VP α} {q : VP β} [Mo p] [Mo q] {f : α → β} {t : α → Bool} {xs : List α} {vs : List V} {g : TG} {tt : TT} {te : TE} {own : List Nat} {σ : St} {F1 H1 : Hp} {D : Addr} {Qd : Hp → Prop}
theorem lcLm {K : W.Frag} {a : Addr} (s : Same F1 H1) (hD : H1 D = none) (ha : H1 a = some (.lst vs)) (l : All2 p xs vs F1) (hz : xs.length ≤ 100000) (S : StepC p q f t xs g tt te own σ F1 H1) (hd : ∀ F H ys, Grow F1 H1 F H → F D = none → H D = some (.lst ys) → All2 q ((xs.filter t).map f) ys F → Qd H) :
    ∃ W : Nat → Nat → Hp → Prop, (∃ m, W 0 m (upd H1 D (.lst []))) ∧ ∀ i m H, W i m H →
      ((Itl K a).stop i H ∧ Qd H) ∨ ((Itl K a).go i H ∧ ∃ Nx : Hp → Prop, (∀ H', Nx H' → ∃ m', m' < m ∧ W (i + 1) m' H') ∧ ∀ x H', (Itl K a).yld i H x H' → g x (wipe σ own) H' fun σ2 H2 => wipe σ2 own = wipe σ own ∧ tt σ2 H2 fun b H3 =>
        if b = true then te σ2 H3 fun y H4 => ∃ acc, H4 D = some (.lst acc) ∧ acc.length < sizeLine ∧ Nx (upd H4 D (.lst (acc ++ [y]))) else Nx H3) := by
  refine lc_list (K := K) (a := a) (xs := vs) (AccC q f t xs F1 H1 D) (acc_start s hD) (fun i H _ A => SqL.of (A.choose_spec.1.h _ _ ha)) (fun i v H hv A => ?_) fun H A => ?_
  · obtain ⟨x, hx, px⟩ := l.at hv
    exact acc_turn hD hz hx px A S
  · obtain ⟨F, gr, fD, ys, hy, l'⟩ := A
    rw [List.take_of_length_le (by rw [l.len]; exact Nat.le_refl _)] at l'
    exact hd F H ys gr fD hy l'
end
def byN (rs : List Row) (ns : List Str) : List Row := ns.map (rowBy rs)
def wayN (rs : List Row) : List (List Str) := (waysL (lkR rs) 6 (List.range rs.length)).map fun w => w.map (nameAt rs)
def sortNs (xs : List (List Str)) : List (List Str) := isort W.DatumOrd.lt xs
def unlN (rs : List Row) : List (List Str) := sortNs ((wayN rs).map fun ns => normN (byN rs ns))
def unlR (rs : List Row) : List (List Row) := (unlN rs).map (byN rs)
theorem way_perm {rs : List Row} (h6 : rs.length ≤ 6) {ns : List Str} (h : ns ∈ wayN rs) : ns.Perm (namesR rs) := by
  obtain ⟨w, hw, e⟩ := List.mem_map.mp h
  subst e
  rw [← range_names]
  exact (waysL_perm 6 _ List.nodup_range (by rw [List.length_range]; exact h6) w hw).map _
theorem wayN_len {rs : List Row} (h6 : rs.length ≤ 6) : (wayN rs).length ≤ 46656 := by
  unfold wayN
  rw [List.length_map]
  refine Nat.le_trans (waysL_len 6 _ List.nodup_range (by rw [List.length_range]; exact h6)) ?_
  rw [List.length_range]
  exact Nat.le_trans (Nat.pow_le_pow_right (by decide) h6) (by decide)
theorem unlN_perm {rs : List Row} (hd : (namesR rs).Nodup) (h6 : rs.length ≤ 6) {ns : List Str} (h : ns ∈ unlN rs) : ns.Perm (namesR rs) := by
  have h1 := (isort_perm _ _).mem_iff.mp h
  obtain ⟨w, hw, e⟩ := List.mem_map.mp h1
  subst e
  have p := way_perm h6 hw
  obtain ⟨e1, e2⟩ := by_names hd p
  have hd2 : (namesR (byN rs w)).Nodup := (e2.map fun r : Row => r.a).nodup_iff.mpr hd
  exact (normN_perm hd2).trans (by show (namesR (byN rs w)).Perm _; unfold byN; rw [e1]; exact p)
def sp_unlike_lines (K : W.Frag) : Sp := fun vs H Q _ => ∃ (rs : List Row) (F : Hp) (v : V), vs = [v] ∧ Same F H ∧ vLine K rs v F ∧ LineOk rs ∧ rs.length ≤ 6 ∧ ∀ a ys F' H', Grow F H F' H' → H a = none → F' a = none → H' a = some (.lst ys) → All2 (vLine K) (unlR rs) ys F' → Q (.ref a) H'
section
variable {P : Program} {w : World} {K : W.Frag} {mg : Str → Option Value} {base : Heap}
abbrev N_unlike_lines : List Str := ["line", "ways", "way", "names"]
theorem sc_unlike_lines : FnScope N_unlike_lines ["line"] (defScope s_unlike_lines) := ⟨rfl, rfl, rfl, by decide +kernel, rfl, by decide +kernel, by decide +kernel⟩
theorem ok_unlike_lines (T : Tp K mg) : Ok P w K mg base 10 (He.ga K "unlike_lines") ["line"] (sp_unlike_lines K) := by
  obtain ⟨fd_check_line, G_check_line, b_check_line, k_check_line⟩ := ok_check_line (P := P) (w := w) (base := base) T
  obtain ⟨fd_ways_of, G_ways_of, b_ways_of, k_ways_of⟩ := ok_ways_of (P := P) (w := w) (base := base) T 6
  obtain ⟨fd_names_at, G_names_at, b_names_at, k_names_at⟩ := ok_names_at (P := P) (w := w) (base := base) T
  obtain ⟨fd_normal_order, G_normal_order, b_normal_order, k_normal_order⟩ := ok_normal_order (P := P) (w := w) (base := base) T
  obtain ⟨fdL_ordered, GL_ordered, bL_ordered, kL_ordered⟩ := ok_Line_ordered (P := P) (w := w) (base := base) T
  refine mk_ok (F_unlike_lines T) sc_unlike_lines ?_ (fun _ _ _ _ _ _ us hl => match us, hl with | [_], _ => rfl) (fun cdv A outer s H vs Q E hr h => ?_)
  · rintro vs H Q E ⟨rs, F, v, rfl, _⟩
    rfl
  obtain ⟨rs, F, v, rfl, sm, hv, lok, h6, k⟩ := h
  refine ⟨_, (pss_cons (ps_expr (pe_call G_check_line (hr.mono (by decide)) rfl (g_check_line T) k_check_line b_check_line .nil pass0 (pa_cons (pv 0) pa_nil)))
    (pss_cons (ps_setLc (i := 1) (own := [("way", 2)]) (g := gName 2) rfl sc_unlike_lines.nd rfl rfl (sw_true rfl rfl rfl (by decide +kernel)) (pi_list (pe_call G_ways_of (hr.mono (by decide)) rfl (g_ways_of T) k_ways_of b_ways_of .nil pass0 (pa_cons (pe_every T (pv 0) rfl) (pa_cons (pe_listRg rfl rfl (n_list T) (prg_1 rfl (n_range T) (pe_callB (call_lenT vRow) (by rfl) (n_len T) (by decide +kernel) (pa_cons (pe_every T (pv 0) rfl) pa_nil)))) pa_nil)))) (blkOk_by (N := N_unlike_lines) (sc := defScope s_unlike_lines) (by decide +kernel)) (fun _ _ _ _ _ => (pg_name (i := 2) sc_unlike_lines.nd rfl (by first | exact Or.inl rfl | exact Or.inr rfl))) (fun _ _ _ _ _ => pts_nil) (fun _ _ _ _ _ => (pe_call G_names_at (hr.mono (by decide)) rfl (g_names_at T) k_names_at b_names_at .nil pass0 (pa_cons (pv 0) (pa_cons (pv 2) pa_nil)))))
    (pss_one (ps_ret (pe_lc (own := [("names", 3)]) (g := gName 3) rfl sc_unlike_lines.nd (pi_list (pe_callB (cr_sortF (vL vS) hr.units (slo_list slo_str) sortK_list) (by rfl) (n_sorted T) (by decide +kernel) (pa_cons (pe_lc (own := [("names", 3)]) (g := gName 3) rfl sc_unlike_lines.nd (pi_list (pv 1)) (blkOk_by (N := N_unlike_lines) (sc := defScope s_unlike_lines) (by decide +kernel)) (fun _ _ _ _ _ => (pg_name (i := 3) sc_unlike_lines.nd rfl (by first | exact Or.inl rfl | exact Or.inr rfl))) (fun _ _ _ _ _ => pts_nil) (fun _ _ _ _ _ => (pe_call G_normal_order (hr.mono (by decide)) rfl (g_normal_order T) k_normal_order b_normal_order .nil pass0 (pa_cons (pe_meth (pv 0) (cls_Line T) (m_Line_ordered T) GL_ordered (hr.mono (by decide)) bL_ordered .nil pass0 (pa_cons (pv 3) pa_nil)) pa_nil)))) pa_nil))) (blkOk_by (N := N_unlike_lines) (sc := defScope s_unlike_lines) (by decide +kernel)) (fun _ _ _ _ _ => (pg_name (i := 3) sc_unlike_lines.nd rfl (by first | exact Or.inl rfl | exact Or.inr rfl))) (fun _ _ _ _ _ => pts_nil) (fun _ _ _ _ _ => (pe_meth (pv 0) (cls_Line T) (m_Line_ordered T) GL_ordered (hr.mono (by decide)) bL_ordered .nil pass0 (pa_cons (pv 3) pa_nil)))))))), ?_⟩
  have h6 : rs.length ≤ 6 := h6
  refine ⟨_, rfl, rs, F, sm, ⟨_, rfl, hv⟩, fun u1 F1 H1 g1 hu1 => ?_⟩
  refine ⟨_, rfl, F1, rs, g1.i, Mo.mo g1.f hv, fun t ht => ?_⟩
  refine ⟨_, rfl, F1, rs, g1.i, Mo.mo g1.f hv, fun t2 ht2 => ?_⟩
  refine ⟨F1, _, rs, rfl, g1.i, ht2, _, rfl, RgOk.of_le (by omega) (by omega) (by omega) (by omega), fun q hq => ?_⟩
  have g2 := g1.trans (Grow.put (o := .lst (rgV 0 rs.length)) g1.i hq)
  have s2 : Same F1 (upd F1 q (.lst (rgV 0 rs.length))) := same_upd (g1.i.free hq)
  refine ⟨(rs, List.range rs.length), _, g2.i, ⟨t, .ref q, rfl, Mo.mo s2 ht, ⟨q, _, rfl, upd_same, all2_rg0 _ _⟩, lok.rows, List.nodup_range, fun p hp => List.mem_range.mp hp, by rw [List.length_range]; exact h6, Nat.le_refl 6⟩, fun wv F3 H3 g3 hwv => ?_⟩
  have g3 := g2.trans g3
  obtain ⟨wa, wvs, rfl, hwa, lw⟩ := hwv
  have lw : All2 (vL vN) (waysL (lkR rs) 6 (List.range rs.length)) wvs F3 := lw
  have hwl := wayN_len h6
  have hwl2 : (waysL (lkR rs) 6 (List.range rs.length)).length ≤ 46656 := by
    unfold wayN at hwl
    rw [List.length_map] at hwl
    exact hwl
  refine ⟨wa, rfl, ⟨_, SqL.of (g3.i _ _ hwa)⟩, fun D hD => ?_⟩
  refine lcL (p := vL vN) (q := vL vS) (f := fun w => w.map (nameAt rs)) (t := fun _ => true) g3.i hD (g3.i _ _ hwa) lw (by omega) ?_ ?_
  · intro y yv F' H' hy g hyv N Y hN hY
    have hp := waysL_perm (lk := lkR rs) 6 _ List.nodup_range (by rw [List.length_range]; exact h6) y hy
    refine ⟨rfl, _, rfl, _, rfl, (rs, y), F', g.i, ⟨_, _, rfl, Mo.mo (g3.f.trans g.f) hv, hyv, fun p hp' => List.mem_range.mp (hp.mem_iff.mp hp'), ?_⟩, fun z F4 H4 g4 hz => hY _ _ _ g4 rfl hz⟩
    show y.length ≤ 1000
    rw [hp.length_eq, List.length_range]; omega
  · intro F4 H4 g4 hl4
    rw [filter_tt] at hl4
    have hl4 : vL (vL vS) (wayN rs) (.ref D) F4 := hl4
    have g4 := g3.trans g4
    obtain ⟨na, nvs, en, hna, ln⟩ := hl4
    refine ⟨_, rfl, na, en, ⟨_, SqL.of (g4.i _ _ hna)⟩, fun D2 hD2 => ?_⟩
    refine lcL (p := vL vS) (q := vL vS) (f := fun ns => normN (byN rs ns)) (t := fun _ => true) g4.i hD2 (g4.i _ _ hna) ln (by omega) ?_ ?_
    · intro y yv F' H' hy g hyv N Y hN hY
      have hv' := Mo.mo (g4.f.trans g.f) hv
      obtain ⟨e1, e2⟩ := by_names lok.nd (way_perm h6 hy)
      refine ⟨rfl, _, rfl, hv'.at_ g.i rfl rfl ⟨_, rfl, (rs, byN rs y), F', g.i, ⟨_, _, rfl, hv', by show vL vS (namesR (byN rs y)) yv F'; unfold byN; rw [e1]; exact hyv, lok, e2⟩, fun z F5 H5 g5 hz => ?_⟩⟩
      exact ⟨byN rs y, F5, g5.i, ⟨_, rfl, hz, lok.perm e2⟩, fun z2 F6 H6 g6 hz2 => hY _ _ _ (g5.trans g6) rfl hz2⟩
    · intro F5 H5 g5 hl5
      rw [filter_tt] at hl5
      have g5 := g4.trans g5
      refine ⟨F5, _, _, rfl, g5.i, hl5.m g5.i, fun q ys hq hys => ?_⟩
      have g6 := g5.trans (Grow.put (o := .lst ys) g5.i hq)
      have s6 : Same F5 (upd F5 q (.lst ys)) := same_upd (g5.i.free hq)
      have hys : All2 (vL vS) (unlN rs) ys F5 := hys
      have hul : (unlN rs).length ≤ 46656 := by
        unfold unlN sortNs
        rw [(isort_perm _ _).length_eq, List.length_map]
        exact hwl
      refine ⟨q, rfl, ⟨_, SqL.of upd_same⟩, fun D3 hD3 => ?_⟩
      refine lcLm (p := vL vS) (q := vLine K) (f := byN rs) (t := fun _ => true) g6.i hD3 upd_same (hys.mo s6) (by omega) ?_ ?_
      · intro y yv F' H' hy g hyv N Y hN hY
        have hv' := Mo.mo (g6.f.trans g.f) hv
        obtain ⟨e1, e2⟩ := by_names lok.nd (unlN_perm lok.nd h6 hy)
        exact ⟨rfl, _, rfl, hv'.at_ g.i rfl rfl ⟨_, rfl, (rs, byN rs y), F', g.i, ⟨_, _, rfl, hv', by show vL vS (namesR (byN rs y)) yv F'; unfold byN; rw [e1]; exact hyv, lok, e2⟩, fun z F5 H5 g5 hz => hY _ _ _ g5 rfl hz⟩⟩
      · intro F7 H7 ys7 g7 f7 h7 l7
        rw [filter_tt] at l7
        exact k _ _ _ _ (g6.trans g7) (g6.h.free hD3) f7 h7 l7
end
end Elk
set_option Elab.async false
set_option linter.all false
set_option maxRecDepth 100000
set_option maxHeartbeats 4000000
namespace Elk
open PySem PySem.Spec PyProof.Rows L2
def linkSE (rs : List Row) (s e : Nat) (inner : List Nat) : Prop := lkR rs s e = true ∨ ∀ a ∈ inner, a = s ∨ lkR rs s a = false
def sp_row_between : Sp := Pm (ι := List Row × Nat × Nat × List Nat) (fun i vs F => ∃ u v, vs = [u, .int (i.2.1 : Int), .int (i.2.2.1 : Int), v] ∧ vT vRow ⟨i.1⟩ u F ∧ vL vN i.2.2.2 v F ∧ RowsOk i.1 ∧ i.2.1 < i.1.length ∧ i.2.2.1 < i.1.length ∧ (∀ a ∈ i.2.2.2, a < i.1.length) ∧ i.2.2.2.length ≤ 1000 ∧ linkSE i.1 i.2.1 i.2.2.1 i.2.2.2)
  (fun i v F => vO (vL vN) (if lkR i.1 i.2.1 i.2.2.1 = true then some [i.2.1, i.2.2.1] else none) v F)
def sp_chain (K : W.Frag) : Sp := Pm (ι := List Row × Nat × Row × Nat × Row) (fun i vs F => ∃ v, vs = [v, .str i.2.2.1.a, .str i.2.2.2.2.a] ∧ vLine K i.1 v F ∧ AtP i.1 i.2.1 i.2.2.1 ∧ AtP i.1 i.2.2.2.1 i.2.2.2.2 ∧ RowsOk i.1 ∧ i.2.2.2.1 < i.2.1 ∧ linkSE i.1 i.2.2.2.1 i.2.1 (List.range i.2.1))
  (fun i v F => vO (vL vS) (if lkR i.1 i.2.2.2.1 i.2.1 = true then some [nameAt i.1 i.2.2.2.1, nameAt i.1 i.2.1] else none) v F)
def cutO (rs : List Row) (i : Nat) : List Row := rs.take i ++ rs.drop (i + 1)
def putI (rs : List Row) (r : Row) (j : Nat) : List Row := rs.take j ++ [r] ++ rs.drop j
def sp_Line_without (K : W.Frag) : Sp := Pm (ι := List Row × Nat × Row) (fun i vs F => ∃ v, vs = [v, .str i.2.2.a] ∧ vLine K i.1 v F ∧ AtP i.1 i.2.1 i.2.2 ∧ LineOk (cutO i.1 i.2.1)) (fun i v F => vLine K (cutO i.1 i.2.1) v F)
def sp_Line_put_in (K : W.Frag) : Sp := Pm (ι := List Row × Row × Nat) (fun i vs F => ∃ u v, vs = [u, v, .int (i.2.2 : Int)] ∧ vLine K i.1 u F ∧ vA K i.2.1 v F ∧ i.2.1.a ∉ namesR i.1 ∧ i.2.2 ≤ i.1.length ∧ i.1.length ≤ 100 ∧ LineOk (putI i.1 i.2.1 i.2.2)) (fun i v F => vLine K (putI i.1 i.2.1 i.2.2) v F)
def sp_Line_moved (K : W.Frag) : Sp := Pm (ι := List Row × Nat × Row × Nat) (fun i vs F => ∃ v, vs = [v, .str i.2.2.1.a, .int (i.2.2.2 : Int)] ∧ vLine K i.1 v F ∧ AtP i.1 i.2.1 i.2.2.1 ∧ i.2.2.2 < i.1.length ∧ LineOk (cutO i.1 i.2.1) ∧ i.2.2.1.a ∉ namesR (cutO i.1 i.2.1) ∧ LineOk (putI (cutO i.1 i.2.1) i.2.2.1 i.2.2.2)) (fun i v F => vLine K (putI (cutO i.1 i.2.1) i.2.2.1 i.2.2.2) v F)
section
variable {P : Program} {w : World} {K : W.Frag} {mg : Str → Option Value} {base : Heap}
abbrev N_row_between : List Str := ["rows", "start", "end", "inner", "ways", "seen", "later", "way", "at"]
theorem sc_row_between : FnScope N_row_between ["rows", "start", "end", "inner"] (defScope s_row_between) := ⟨rfl, rfl, rfl, by decide +kernel, rfl, by decide +kernel, by decide +kernel⟩
theorem ok_row_between (T : Tp K mg) : Ok P w K mg base 2 (He.ga K "row_between") ["rows", "start", "end", "inner"] sp_row_between := by
  obtain ⟨fd_have_kind, G_have_kind, b_have_kind, k_have_kind⟩ := ok_have_kind (P := P) (w := w) (base := base) T
  refine mk_ok (F_row_between T) sc_row_between ?_ (fun _ _ _ _ _ _ us hl => match us, hl with | [_, _, _, _], _ => rfl) (fun cdv A outer s H vs Q E hr h => ?_)
  · rintro vs H Q E ⟨i, F, _, ⟨u, v, rfl, _⟩, _⟩
    rfl
  obtain ⟨⟨rs, s0, e0, inner⟩, F, sm, ⟨u, v, rfl, hu, hv, ro, hs, he, hin, hil, lse⟩, k⟩ := h
  refine ⟨_, (pss_cons (ps_par (i := 4) (j := 5) (by rfl) sc_row_between.nd rfl rfl (by decide) rfl rfl (pa_cons (pe_lst (pa_cons (pe_lst (pa_cons (pv 1) pa_nil)) pa_nil)) (pa_cons (pe_disp (pps_cons (pv 1) pe_bl pps_nil) rfl rfl (by simp) (by decide)) pa_nil)) (by rfl))
    (pss_cons (ps_while PassesOwn.never (pt_ne0 (vL vN) hr.units (pv 4))
      (pss_cons (ps_set (i := 6) sc_row_between.nd rfl (by first | exact Or.inl rfl | exact Or.inr rfl) (pe_lst pa_nil))
      (pss_cons (ps_for PassesOwn.never rfl (pi_list (pv 4)) (pg_name (i := 7) sc_row_between.nd rfl (by first | exact Or.inl rfl | exact Or.inr rfl))
        (pss_cons (ps_if (pt_val (pe_call G_have_kind (hr.mono (by decide)) rfl (g_have_kind T) k_have_kind b_have_kind .nil pass0 (pa_cons (pe_ix (ixT vRow) (pv 0) (pe_ix (ixZ vN) (pv 7) (pe_un un_neg pe_int) (fun _ _ => rfl)) (fun _ _ => rfl)) (pa_cons (pe_ix (ixT vRow) (pv 0) (pv 2) (fun _ _ => rfl)) pa_nil))))
          (pss_one (ps_ret (pe_op (op_catF vN) (pv 7) (pe_lst (pa_cons (pv 2) pa_nil)))))
          pss_nil)
        (pss_one (ps_for PassesOwn.never rfl (pi_list (pv 3)) (pg_name (i := 8) sc_row_between.nd rfl (by first | exact Or.inl rfl | exact Or.inr rfl))
          (pss_one (ps_if (PW.pt (pw_and (pt_cmp (pc_dnotin (hu_of hr) (pv 8) (pv 5))) (pw_and1 (pt_val (pe_call G_have_kind (hr.mono (by decide)) rfl (g_have_kind T) k_have_kind b_have_kind .nil pass0 (pa_cons (pe_ix (ixT vRow) (pv 0) (pe_ix (ixZ vN) (pv 7) (pe_un un_neg pe_int) (fun _ _ => rfl)) (fun _ _ => rfl)) (pa_cons (pe_ix (ixT vRow) (pv 0) (pv 8) (fun _ _ => rfl)) pa_nil)))))))
            (pss_cons (ps_dput (hu_of hr) (pv 5) (pv 8) pe_bl rfl)
            (pss_one (ps_expr (pe_bm PySem.F.plainAttrs_list PySem.F.slot_list_append PySem.F.type_list_append mt_append (pv 6) (pa_cons (pe_op (op_catF vN) (pv 7) (pe_lst (pa_cons (pv 8) pa_nil))) pa_nil)))))
            pss_nil))))))
      (pss_one (ps_set (i := 4) sc_row_between.nd rfl (by first | exact Or.inl rfl | exact Or.inr rfl) (pv 6))))))
    (pss_one (ps_ret pe_non)))), ?_⟩
  have hs : s0 < rs.length := hs
  have he : e0 < rs.length := he
  have hin : ∀ a ∈ inner, a < rs.length := hin
  have lse : linkSE rs s0 e0 inner := lse
  obtain ⟨ia, ivs, rfl, hia, li⟩ := hv
  refine ⟨_, rfl, by show 1 ≤ sizeLine; decide, fun l0 hl0 => ?_⟩
  have g0 := Grow.put (o := .lst [.int (s0 : Int)]) sm hl0
  refine ⟨by show 1 ≤ sizeLine; decide, fun l1 hl1 => ?_⟩
  have g1 := g0.trans (Grow.put (o := .lst [.ref l0]) g0.i hl1)
  have s1 : Same (upd F l0 (.lst [.int (s0 : Int)])) (upd (upd F l0 (.lst [.int (s0 : Int)])) l1 (.lst [.ref l0])) := same_upd (g0.i.free hl1)
  have v1 : vL (vL vN) [[s0]] (.ref l1) (upd (upd F l0 (.lst [.int (s0 : Int)])) l1 (.lst [.ref l0])) := ⟨l1, _, rfl, upd_same, .cons ⟨l0, _, rfl, s1 _ _ upd_same, .cons rfl .nil⟩ .nil⟩
  refine fun dk hdk => ?_
  have dk0 : H dk = none := by
    cases e : H dk with
    | none => rfl
    | some o => rw [g1.h _ _ e] at hdk; cases hdk
  have g2 := g1.trans (Grow.new (o := .dK []) g1.i hdk)
  have fdk := g1.i.free hdk
  refine ⟨_, rfl, upd_same, [(.inl (s0 : Int), .bl true)], rfl, by show 1 ≤ 15; decide, ?_⟩
  have g3 := g2.set (o := .dK (mergeK [] [((.inl (s0 : Int) : Key), V.bl true)])) dk0 fdk
  refine ⟨_, _, rfl, ?_⟩
  have done : ∀ (x : Option (List Nat)) z F' H', Grow F H F' H' → vO (vL vN) x z F' → x = (if lkR rs s0 e0 = true then some [s0, e0] else none) → Q z H' := fun x z F' H' g hx ex => k _ _ _ g (by subst ex; exact hx)
  refine ⟨fun m σ H' => ∃ F' wl wv x6 x7 x8, σ = [some u, some (.int (s0 : Int)), some (.int (e0 : Int)), some (.ref ia), some wv, some (.ref dk), x6, x7, x8] ∧ Grow F H F' H' ∧ H' dk = some (.dK (mergeK [] [((.inl (s0 : Int) : Key), V.bl true)])) ∧ vL (vL vN) wl wv F' ∧
    ((m = 1 ∧ wl = [[s0]]) ∨ (m = 0 ∧ wl = [] ∧ lkR rs s0 e0 = false)), ⟨1, _, [[s0]], _, none, none, none, rfl, g3, upd_same, v1, .inl ⟨rfl, rfl⟩⟩, ?_⟩
  intro m σ H' ⟨F', wl, wv, x6, x7, x8, es, g, hdk', hw, hm⟩
  subst es
  refine ⟨_, rfl, F', wl, g.i, hw.m g.i, fun F4 H4 g4 => ?_⟩
  have hdk4 := g4.h _ _ hdk'
  have hw := Mo.mo g4.f hw
  have g4 := g.trans g4
  rcases hm with ⟨em, ew⟩ | ⟨em, ew, hl⟩
  · subst em ew
    refine yes_t rfl ⟨fun σ' H' => ∃ m', m' < 1 ∧ ∃ F' wl wv x6 x7 x8, σ' = [some u, some (.int (s0 : Int)), some (.int (e0 : Int)), some (.ref ia), some wv, some (.ref dk), x6, x7, x8] ∧ Grow F H F' H' ∧ H' dk = some (.dK (mergeK [] [((.inl (s0 : Int) : Key), V.bl true)])) ∧ vL (vL vN) wl wv F' ∧
      ((m' = 1 ∧ wl = [[s0]]) ∨ (m' = 0 ∧ wl = [] ∧ lkR rs s0 e0 = false)), fun _ _ z => z, ?_⟩
    refine ⟨Nat.zero_le _, fun la hla => ?_⟩
    have g5 := g4.trans (Grow.put (o := .lst []) g4.i hla)
    have s5 : Same F4 (upd F4 la (.lst [])) := same_upd (g4.i.free hla)
    have hdk5 : (upd H4 la (.lst [])) dk = some (.dK (mergeK [] [((.inl (s0 : Int) : Key), V.bl true)])) := by rw [upd_ne (ne_of_none hdk4 hla)]; exact hdk4
    have hlv : vL (vL vN) [] (.ref la) (upd F4 la (.lst [])) := ⟨la, [], rfl, upd_same, .nil⟩
    obtain ⟨wa, wvs, rfl, hwa, lw⟩ := Mo.mo s5 hw
    have lwl := lw.len
    refine ⟨_, rfl, wa, rfl, ⟨_, SqL.of (g5.i _ _ hwa)⟩, ?_⟩
    refine for_list (xs := wvs) (fun i σ H' => ∃ F' x7 x8, σ = [some u, some (.int (s0 : Int)), some (.int (e0 : Int)), some (.ref ia), some (.ref wa), some (.ref dk), some (.ref la), x7, x8] ∧ Grow F H F' H' ∧ Same (upd F4 la (.lst [])) F' ∧ H' dk = some (.dK (mergeK [] [((.inl (s0 : Int) : Key), V.bl true)])) ∧ (i = 0 ∨ lkR rs s0 e0 = false)) ?_ ?_ ?_ ?_
    · exact ⟨_, x7, x8, rfl, g5, Same.refl _, hdk5, .inl rfl⟩
    · intro i σ H' _ ⟨F', x7, x8, es, gr, s6, _⟩
      exact SqL.of (gr.i _ _ (s6 _ _ hwa))
    · intro i wy σ H' hwy ⟨F', x7, x8, es, gr, s6, hdk6, _⟩
      subst es
      obtain ⟨w0, hw0, hwv⟩ := lw.at hwy
      have ew0 : w0 = [s0] := by
        have := List.mem_of_getElem? hw0
        rw [List.mem_singleton] at this
        exact this
      subst ew0
      have hwv := Mo.mo s6 hwv
      have hu' := Mo.mo gr.f hu
      refine ⟨_, rfl, _, rfl, _, rfl, F', [s0], s0, hwv.m gr.i, rfl, rfl, fun z hz => ⟨F', rs, s0, _, gr.i, hu', hz, row_get hs, fun r1 hr1 => ?_⟩⟩
      refine ⟨_, rfl, _, rfl, F', rs, e0, _, gr.i, hu', rfl, row_get he, fun r2 hr2 => ?_⟩
      refine ⟨(_, _), F', gr.i, ⟨r1, r2, rfl, hr1, hr2, ro.fits _ (List.mem_of_getElem? (row_get hs))⟩, fun b F7 H7 g7 hb => ?_⟩
      have eb : b = .bl (haveKind (rs.getD s0 noRow) (rs.getD e0 noRow)) := hb
      refine ⟨_, eb, ?_⟩
      rw [← lkR_at (row_get hs) (row_get he)]
      have hdk7 := g7.h _ _ hdk6
      have g7' := gr.trans g7
      refine iteB (fun ht => ?_) (fun ht => ?_)
      · refine ⟨_, rfl, _, rfl, by show 1 ≤ sizeLine; decide, fun l2 hl2 => ?_⟩
        have g8 := g7'.trans (Grow.put (o := .lst [.int (e0 : Int)]) g7'.i hl2)
        have s8 : Same F7 (upd F7 l2 (.lst [.int (e0 : Int)])) := same_upd (g7'.i.free hl2)
        refine ⟨_, [s0], [e0], g8.i, (Mo.mo (g7.f.trans s8) hwv).m g8.i, ⟨l2, _, rfl, upd_same, .cons rfl .nil⟩, by show 1 + 1 ≤ 100000; decide, fun c F9 H9 g9 hc => ?_⟩
        exact done (some [s0, e0]) c _ _ (g8.trans g9) hc (by rw [if_pos ht])
      · have lse2 : ∀ a ∈ inner, a = s0 ∨ lkR rs s0 a = false := lse.resolve_left (by rw [ht]; exact Bool.false_ne_true)
        refine ⟨_, rfl, ia, rfl, ⟨_, SqL.of (g7'.i _ _ (g7'.f _ _ hia))⟩, ?_⟩
        refine for_list (xs := ivs) (fun j σ H' => ∃ F' x8, σ = [some u, some (.int (s0 : Int)), some (.int (e0 : Int)), some (.ref ia), some (.ref wa), some (.ref dk), some (.ref la), some wy, x8] ∧ Grow F H F' H' ∧ Same F7 F' ∧ H' dk = some (.dK (mergeK [] [((.inl (s0 : Int) : Key), V.bl true)]))) ?_ ?_ ?_ ?_
        · exact ⟨F7, x8, rfl, g7', Same.refl _, hdk7⟩
        · intro j σ H' _ ⟨F', x8, es, gr, s6, _⟩
          exact SqL.of (gr.i _ _ (gr.f _ _ hia))
        · intro j y σ H' hy ⟨F8, x8, es, gr8, s8, hdk8⟩
          subst es
          obtain ⟨a, ha, hay⟩ := li.at hy
          have ey : y = .int (a : Int) := hay
          subst ey
          have ham := List.mem_of_getElem? ha
          refine ⟨_, rfl, _, rfl, dk, _, rfl, DGet.k (k := .inl (a : Int)) hdk8, _, rfl, ?_⟩
          by_cases e : a = s0
          · subst e
            have ev : valV (mergeK [] [((.inl (a : Int) : Key), V.bl true)]) (.inl (a : Int)) = some (.bl true) := valV_pos rfl
            rw [ev]
            exact no_t rfl (no_t rfl ⟨F8, _, rfl, gr8, s8, hdk8⟩)
          · have ev : valV (mergeK [] [((.inl (s0 : Int) : Key), V.bl true)]) (.inl (a : Int)) = none := (valV_neg (fun q => e (by have := Sum.inl.inj q; omega))).trans rfl
            rw [ev]
            have hl := (lse2 a ham).resolve_left e
            have hu8 := Mo.mo gr8.f hu
            have hwv8 := Mo.mo (g7.f.trans s8) hwv
            refine yes_t rfl ⟨_, rfl, _, rfl, _, rfl, F8, [s0], s0, hwv8.m gr8.i, rfl, rfl, fun z hz => ⟨F8, rs, s0, _, gr8.i, hu8, hz, row_get hs, fun r1 hr1 => ?_⟩⟩
            refine ⟨_, rfl, _, rfl, F8, rs, a, _, gr8.i, hu8, rfl, row_get (hin a ham), fun r2 hr2 => ?_⟩
            refine ⟨(_, _), F8, gr8.i, ⟨r1, r2, rfl, hr1, hr2, ro.fits _ (List.mem_of_getElem? (row_get hs))⟩, fun b F9 H9 g9 hb => ?_⟩
            have eb : b = .bl (haveKind (rs.getD s0 noRow) (rs.getD a noRow)) := hb
            refine ⟨_, eb, ?_⟩
            rw [← lkR_at (row_get hs) (row_get (hin a ham)), hl]
            exact no_t rfl ⟨F9, _, rfl, gr8.trans g9, s8.trans g9.f, g9.h _ _ hdk8⟩
        · intro σ H' ⟨F8, x8, es, gr8, s8, hdk8⟩
          subst es
          exact ⟨F8, _, _, rfl, gr8, (s6.trans g7.f).trans s8, hdk8, .inr ht⟩
    · intro σ H' ⟨F', x7, x8, es, gr, s6, hdk6, hl⟩
      subst es
      have hl : lkR rs s0 e0 = false := hl.resolve_left (by rw [← lwl]; exact Nat.one_ne_zero)
      exact ⟨_, rfl, 0, by decide, F', [], _, _, _, _, rfl, gr, hdk6, Mo.mo s6 hlv, .inr ⟨rfl, rfl, hl⟩⟩
  · subst em ew
    refine no_t rfl ?_
    exact done none .non _ _ g4 rfl (by rw [hl]; rfl)
abbrev N_chain : List Str := ["line", "name", "elder", "place", "first", "row"]
theorem sc_chain : FnScope N_chain ["line", "name", "elder"] (defScope s_chain) := ⟨rfl, rfl, rfl, by decide +kernel, rfl, by decide +kernel, by decide +kernel⟩
theorem ok_chain (T : Tp K mg) : Ok P w K mg base 4 (He.ga K "chain") ["line", "name", "elder"] (sp_chain K) := by
  obtain ⟨fd_check_line, G_check_line, b_check_line, k_check_line⟩ := ok_check_line (P := P) (w := w) (base := base) T
  obtain ⟨fd_row_between, G_row_between, b_row_between, k_row_between⟩ := ok_row_between (P := P) (w := w) (base := base) T
  obtain ⟨fd_names_at, G_names_at, b_names_at, k_names_at⟩ := ok_names_at (P := P) (w := w) (base := base) T
  obtain ⟨fdL_place, GL_place, bL_place, kL_place⟩ := ok_Line_place (P := P) (w := w) (base := base) T
  refine mk_ok (F_chain T) sc_chain ?_ (fun _ _ _ _ _ _ us hl => match us, hl with | [_, _, _], _ => rfl) (fun cdv A outer s H vs Q E hr h => ?_)
  · rintro vs H Q E ⟨i, F, _, ⟨v, rfl, _⟩, _⟩
    rfl
  obtain ⟨⟨rs, i, r, j, r'⟩, F, sm, ⟨v, rfl, hv, ap, ap', ro, hji, lse⟩, k⟩ := h
  refine ⟨_, (pss_cons (ps_expr (pe_call G_check_line (hr.mono (by decide)) rfl (g_check_line T) k_check_line b_check_line .nil pass0 (pa_cons (pv 0) pa_nil)))
    (pss_cons (ps_set (i := 3) sc_chain.nd rfl (by first | exact Or.inl rfl | exact Or.inr rfl) (pe_meth (pv 0) (cls_Line T) (m_Line_place T) GL_place (hr.mono (by decide)) bL_place .nil pass0 (pa_cons (pv 1) pa_nil)))
    (pss_cons (ps_set (i := 4) sc_chain.nd rfl (by first | exact Or.inl rfl | exact Or.inr rfl) (pe_meth (pv 0) (cls_Line T) (m_Line_place T) GL_place (hr.mono (by decide)) bL_place .nil pass0 (pa_cons (pv 2) pa_nil)))
    (pss_cons (ps_if (pt_cmpR op_ge (pv 4) (pv 3) (nomark _))
      (pss_one ps_never)
      pss_nil)
    (pss_cons (ps_set (i := 5) sc_chain.nd rfl (by first | exact Or.inl rfl | exact Or.inr rfl) (pe_call G_row_between (hr.mono (by decide)) rfl (g_row_between T) k_row_between b_row_between .nil pass0 (pa_cons (pe_every T (pv 0) rfl) (pa_cons (pv 4) (pa_cons (pv 3) (pa_cons (pe_listRg rfl rfl (n_list T) (prg_1 rfl (n_range T) (pv 3))) pa_nil))))))
    (pss_cons (ps_if (pt_cmpR op_isN (pv 5) pe_non (nomark _))
      (pss_one (ps_ret pe_non))
      pss_nil)
    (pss_one (ps_ret (pe_call G_names_at (hr.mono (by decide)) rfl (g_names_at T) k_names_at b_names_at .nil pass0 (pa_cons (pv 0) (pa_cons (pv 5) pa_nil))))))))))), ?_⟩
  have hji : j < i := hji
  have hi : i < rs.length := ap.lt
  have hn : rs.length ≤ 100 := ap.len
  refine ⟨_, rfl, rs, F, sm, ⟨_, rfl, hv⟩, fun u1 F1 H1 g1 hu1 => ?_⟩
  refine ⟨_, rfl, (Mo.mo g1.f hv).at_ g1.i rfl rfl ⟨_, rfl, (rs, i, r), F1, g1.i, ⟨_, rfl, Mo.mo g1.f hv, ap⟩, fun u2 F2 H2 g2 hu2 => ?_⟩⟩
  have g2 := g1.trans g2
  have e2 : u2 = .int (i : Int) := hu2
  subst e2
  refine ⟨_, rfl, (Mo.mo g2.f hv).at_ g2.i rfl rfl ⟨_, rfl, (rs, j, r'), F2, g2.i, ⟨_, rfl, Mo.mo g2.f hv, ap'⟩, fun u3 F3 H3 g3 hu3 => ?_⟩⟩
  have g3 := g2.trans g3
  have e3 : u3 = .int (j : Int) := hu3
  subst e3
  refine ⟨_, rfl, _, rfl, _, _, rfl, rfl, _, rfl, no_t (decide_eq_false (by omega)) ?_⟩
  refine ⟨_, rfl, F3, rs, g3.i, Mo.mo g3.f hv, fun t ht => ⟨_, rfl, _, rfl, _, rfl, _, rfl, RgOk.of_le (by omega) (by omega) (by omega) (by omega), fun q hq => ?_⟩⟩
  have g4 := g3.trans (Grow.put (o := .lst (rgV 0 i)) g3.i hq)
  have s4 : Same F3 (upd F3 q (.lst (rgV 0 i))) := same_upd (g3.i.free hq)
  refine ⟨(rs, j, i, List.range i), _, g4.i, ⟨_, _, rfl, Mo.mo s4 ht, ⟨q, _, rfl, upd_same, all2_rg0 _ _⟩, ro, by show j < rs.length; omega, hi, fun a ha => Nat.lt_trans (List.mem_range.mp ha) hi, by show (List.range i).length ≤ 1000; rw [List.length_range]; omega, lse⟩, fun z F5 H5 g5 hz => ?_⟩
  have g5 := g4.trans g5
  have hz : vO (vL vN) (if lkR rs j i = true then some [j, i] else none) z F5 := hz
  by_cases hl : lkR rs j i = true
  · rw [if_pos hl] at hz
    have hz : vL vN [j, i] z F5 := hz
    obtain ⟨za, zvs, rfl, hza, lz⟩ := id hz
    refine ⟨_, rfl, rfl, _, rfl, no_t (by simp) ?_⟩
    refine ⟨_, rfl, _, rfl, (rs, [j, i]), F5, g5.i, ⟨_, _, rfl, Mo.mo g5.f hv, hz, fun p hp => ?_, by show 2 ≤ 1000; decide⟩, fun z2 F6 H6 g6 hz2 => k _ _ _ (g5.trans g6) ?_⟩
    · show p < rs.length
      rcases List.mem_cons.mp hp with e | e
      · omega
      · rw [List.mem_singleton.mp e]; exact hi
    · show vO (vL vS) (if lkR rs j i = true then some [nameAt rs j, nameAt rs i] else none) z2 F6
      rw [if_pos hl]
      exact hz2
  · rw [if_neg hl] at hz
    have ez : z = .non := hz
    subst ez
    refine ⟨_, rfl, rfl, _, rfl, yes_t (by simp) ?_⟩
    refine k _ _ _ g5 ?_
    show vO (vL vS) (if lkR rs j i = true then some [nameAt rs j, nameAt rs i] else none) _ F5
    rw [if_neg hl]
    rfl
abbrev N_Line_without : List Str := ["self", "name", "place"]
theorem sc_Line_without : FnScope N_Line_without ["self", "name"] (defScope s_Line_without) := ⟨rfl, rfl, rfl, by decide +kernel, rfl, by decide +kernel, by decide +kernel⟩
theorem ok_Line_without (T : Tp K mg) : Ok P w K mg base 5 (He.ma K (He.ga K "Line") "without") ["self", "name"] (sp_Line_without K) := by
  obtain ⟨fdL_place, GL_place, bL_place, kL_place⟩ := ok_Line_place (P := P) (w := w) (base := base) T
  obtain ⟨fd_Line, G_Line, b_Line, k_Line⟩ := ok_Line_init (P := P) (w := w) (base := base) T
  refine mk_ok (F_Line_without T) sc_Line_without ?_ (fun _ _ _ _ _ _ us hl => match us, hl with | [_, _], _ => rfl) (fun cdv A outer s H vs Q E hr h => ?_)
  · rintro vs H Q E ⟨i, F, _, ⟨v, rfl, _⟩, _⟩
    rfl
  obtain ⟨⟨rs, i, r⟩, F, sm, ⟨v, rfl, hv, ap, lok⟩, k⟩ := h
  refine ⟨_, (pss_cons (ps_set (i := 2) sc_Line_without.nd rfl (by first | exact Or.inl rfl | exact Or.inr rfl) (pe_meth (pv 0) (cls_Line T) (m_Line_place T) GL_place (hr.mono (by decide)) bL_place .nil pass0 (pa_cons (pv 1) pa_nil)))
    (pss_one (ps_ret (pe_make (mkr_Line T) G_Line (hr.mono (by decide)) rfl (g_Line T) b_Line .nil pass0 (pa_cons (pe_callTy (cr_lstT (vA K)) (by rfl) (n_list T) (by decide +kernel) (pa_cons (pe_op (op_catTF (vA K)) (pe_slice (sl_TF (vA K)) (pe_all T (pv 0) rfl) po_none (po_some (pv 2))) (pe_slice (sl_TF (vA K)) (pe_all T (pv 0) rfl) (po_some (pe_op op_add (pv 2) pe_int)) po_none)) pa_nil)) pa_nil))))), ?_⟩
  have hn : rs.length ≤ 100 := ap.len
  refine ⟨_, rfl, hv.at_ sm rfl rfl ⟨_, rfl, (rs, i, r), F, sm, ⟨_, rfl, hv, ap⟩, fun u1 F1 H1 g1 hu1 => ?_⟩⟩
  have e1 : u1 = .int (i : Int) := hu1
  subst e1
  refine ⟨_, rfl, F1, rs, g1.i, Mo.mo g1.f hv, fun t ht => ⟨_, rfl, _, rfl, F1, rs, g1.i, ht, fun a F2 H2 g2 ha => ?_⟩⟩
  have g2 := g1.trans g2
  refine ⟨_, rfl, F2, rs, g2.i, Mo.mo g2.f hv, fun t ht => ⟨_, rfl, _, _, rfl, rfl, _, rfl, F2, rs, g2.i, ht, fun b F3 H3 g3 hb => ?_⟩⟩
  have ha := Mo.mo g3.f ha
  have g3 := g2.trans g3
  rw [cutA__n] at ha
  have e2 : ((i : Int) + 1) = ((i + 1 : Nat) : Int) := by omega
  rw [e2, cutA_n_] at hb
  refine ⟨F3, _, _, g3.i, ha, hb, by rw [List.length_take, List.length_drop]; omega, fun c F4 H4 g4 hc => ?_⟩
  have g4 := g3.trans g4
  refine ⟨F4, c, _, rfl, g4.i, hc, fun d F5 H5 g5 hd => ?_⟩
  have g5 := g4.trans g5
  exact fun x dx hx hd0 hne => ⟨x, dx, F5, cutO rs i, d, rfl, upd_same, same_made g5.i hx hd0, g5.i.free hx, hd, lok, fun F7 H7 g7 h7 => ⟨rfl, k _ _ _ (g5.trans (GrowX.made hx hd0 g7)) h7⟩⟩
abbrev N_Line_put_in : List Str := ["self", "asker", "place"]
theorem sc_Line_put_in : FnScope N_Line_put_in ["self", "asker", "place"] (defScope s_Line_put_in) := ⟨rfl, rfl, rfl, by decide +kernel, rfl, by decide +kernel, by decide +kernel⟩
theorem ok_Line_put_in (T : Tp K mg) : Ok P w K mg base 5 (He.ma K (He.ga K "Line") "put_in") ["self", "asker", "place"] (sp_Line_put_in K) := by
  obtain ⟨fd_check_asker, G_check_asker, b_check_asker, k_check_asker⟩ := ok_check_asker (P := P) (w := w) (base := base) T
  obtain ⟨fd_check_count, G_check_count, b_check_count, k_check_count⟩ := ok_check_count (P := P) (w := w) (base := base) T
  obtain ⟨fdL_names, GL_names, bL_names, kL_names⟩ := ok_Line_names (P := P) (w := w) (base := base) T
  obtain ⟨fd_Line, G_Line, b_Line, k_Line⟩ := ok_Line_init (P := P) (w := w) (base := base) T
  obtain ⟨pa_name, ga_name, fd_name, hp_name, G_name, b_name⟩ := ok_Asker_name (P := P) (w := w) (base := base) T
  refine mk_ok (F_Line_put_in T) sc_Line_put_in ?_ (fun _ _ _ _ _ _ us hl => match us, hl with | [_, _, _], _ => rfl) (fun cdv A outer s H vs Q E hr h => ?_)
  · rintro vs H Q E ⟨i, F, _, ⟨u, v, rfl, _⟩, _⟩
    rfl
  obtain ⟨⟨rs, r, j⟩, F, sm, ⟨u, v, rfl, hu, hv, hnm, hj, hn, lok⟩, k⟩ := h
  refine ⟨_, (pss_cons (ps_expr (pe_call G_check_asker (hr.mono (by decide)) rfl (g_check_asker T) k_check_asker b_check_asker .nil pass0 (pa_cons (pv 1) pa_nil)))
    (pss_cons (ps_if (pt_cmpR (op_inL vS hr.units) (pe_prop (pv 1) (cls_Asker T) hp_name G_name (hr.mono (by decide)) b_name .nil pass0 rfl) (pe_meth0 (pv 0) (cls_Line T) (m_Line_names T) GL_names (hr.mono (by decide)) bL_names .nil pass0) rfl)
      (pss_one ps_never)
      pss_nil)
    (pss_cons (ps_expr (pe_call G_check_count (hr.mono (by decide)) rfl (g_check_count T) k_check_count b_check_count .nil pass0 (pa_cons (pv 2) (pa_cons (pe_callB (call_lenT vRow) (by rfl) (n_len T) (by decide +kernel) (pa_cons (pe_every T (pv 0) rfl) pa_nil)) pa_nil))))
    (pss_one (ps_ret (pe_make (mkr_Line T) G_Line (hr.mono (by decide)) rfl (g_Line T) b_Line .nil pass0 (pa_cons (pe_op (op_catF (vA K)) (pe_op (op_catF (vA K)) (pe_callTy (cr_lstT (vA K)) (by rfl) (n_list T) (by decide +kernel) (pa_cons (pe_slice (sl_TF (vA K)) (pe_all T (pv 0) rfl) po_none (po_some (pv 2))) pa_nil)) (pe_lst (pa_cons (pv 1) pa_nil))) (pe_callTy (cr_lstT (vA K)) (by rfl) (n_list T) (by decide +kernel) (pa_cons (pe_slice (sl_TF (vA K)) (pe_all T (pv 0) rfl) (po_some (pv 2)) po_none) pa_nil))) pa_nil))))))), ?_⟩
  have hj : j ≤ rs.length := hj
  have hn : rs.length ≤ 100 := hn
  refine ⟨_, rfl, r, F, sm, ⟨_, rfl, hv⟩, fun u1 F1 H1 g1 hu1 => ?_⟩
  obtain ⟨va, vdx, vt, ev, hva, _⟩ := id (Mo.mo g1.f hv)
  refine ⟨_, rfl, va, vdx, _, ev, g1.i _ _ hva, r, F1, g1.i, ⟨_, rfl, ev ▸ Mo.mo g1.f hv⟩, fun z F2 H2 g2 hz => ?_⟩
  have ez : z = .str r.a := hz
  subst ez
  have g2 := g1.trans g2
  refine ⟨_, rfl, (Mo.mo g2.f hu).at_ g2.i rfl rfl ⟨rs, F2, g2.i, ⟨_, rfl, Mo.mo g2.f hu, hn⟩, fun u3 F3 H3 g3 hu3 => ?_⟩⟩
  have g3 := g2.trans g3
  refine ⟨F3, r.a, namesR rs, g3.i, rfl, hu3.m g3.i, _, rfl, no_t (decide_eq_false hnm) ?_⟩
  refine ⟨_, rfl, _, rfl, F3, rs, g3.i, Mo.mo g3.f hu, fun t ht => ⟨F3, _, rs, rfl, g3.i, ht, ((j : Int), (rs.length : Int)), F3, g3.i, ⟨rfl, by show (0 : Int) ≤ (j : Int); omega, by show (j : Int) ≤ (rs.length : Int); omega⟩, fun u4 F4 H4 g4 hu4 => ?_⟩⟩
  have g4 := g3.trans g4
  refine ⟨_, rfl, F4, rs, g4.i, Mo.mo g4.f hu, fun t ht => ⟨_, rfl, _, rfl, F4, rs, g4.i, ht, fun a F5 H5 g5 ha => ?_⟩⟩
  have g5 := g4.trans g5
  rw [cutA__n] at ha
  refine ⟨F5, a, _, rfl, g5.i, ha, fun b F6 H6 g6 hb => ?_⟩
  have g6 := g5.trans g6
  refine ⟨_, rfl, by show 1 ≤ sizeLine; decide, fun l0 hl0 => ?_⟩
  have g7 := g6.trans (Grow.put (o := .lst [v]) g6.i hl0)
  have s7 : Same F6 (upd F6 l0 (.lst [v])) := same_upd (g6.i.free hl0)
  refine ⟨_, _, [r], g7.i, (Mo.mo s7 hb).m g7.i, ⟨l0, _, rfl, upd_same, .cons (Mo.mo g7.f hv) .nil⟩, by rw [List.length_take, List.length_singleton]; omega, fun c F8 H8 g8 hc => ?_⟩
  have g8 := g7.trans g8
  refine ⟨_, rfl, F8, rs, g8.i, Mo.mo g8.f hu, fun t ht => ⟨_, rfl, _, rfl, F8, rs, g8.i, ht, fun d F9 H9 g9 hd => ?_⟩⟩
  have hc := Mo.mo g9.f hc
  have g9 := g8.trans g9
  rw [cutA_n_] at hd
  refine ⟨F9, d, _, rfl, g9.i, hd, fun e F10 H10 g10 he => ?_⟩
  have hc := Mo.mo g10.f hc
  have g10 := g9.trans g10
  refine ⟨F10, _, _, g10.i, hc.m g10.i, he.m g10.i, by rw [List.length_append, List.length_take, List.length_drop, List.length_singleton]; omega, fun f F11 H11 g11 hf => ?_⟩
  have g11 := g10.trans g11
  exact fun x dx hx hd0 hne => ⟨x, dx, F11, putI rs r j, f, rfl, upd_same, same_made g11.i hx hd0, g11.i.free hx, hf, lok, fun F7 H7 g7 h7 => ⟨rfl, k _ _ _ (g11.trans (GrowX.made hx hd0 g7)) h7⟩⟩
abbrev N_Line_moved : List Str := ["self", "name", "place", "asker"]
theorem sc_Line_moved : FnScope N_Line_moved ["self", "name", "place"] (defScope s_Line_moved) := ⟨rfl, rfl, rfl, by decide +kernel, rfl, by decide +kernel, by decide +kernel⟩
theorem ok_Line_moved (T : Tp K mg) : Ok P w K mg base 6 (He.ma K (He.ga K "Line") "moved") ["self", "name", "place"] (sp_Line_moved K) := by
  obtain ⟨fd_check_count, G_check_count, b_check_count, k_check_count⟩ := ok_check_count (P := P) (w := w) (base := base) T
  obtain ⟨fdL_asker, GL_asker, bL_asker, kL_asker⟩ := ok_Line_asker (P := P) (w := w) (base := base) T
  obtain ⟨fdL_without, GL_without, bL_without, kL_without⟩ := ok_Line_without (P := P) (w := w) (base := base) T
  obtain ⟨fdL_put_in, GL_put_in, bL_put_in, kL_put_in⟩ := ok_Line_put_in (P := P) (w := w) (base := base) T
  refine mk_ok (F_Line_moved T) sc_Line_moved ?_ (fun _ _ _ _ _ _ us hl => match us, hl with | [_, _, _], _ => rfl) (fun cdv A outer s H vs Q E hr h => ?_)
  · rintro vs H Q E ⟨i, F, _, ⟨v, rfl, _⟩, _⟩
    rfl
  obtain ⟨⟨rs, i, r, j⟩, F, sm, ⟨v, rfl, hv, ap, hj, lok, hnm, lok2⟩, k⟩ := h
  refine ⟨_, (pss_cons (ps_set (i := 3) sc_Line_moved.nd rfl (by first | exact Or.inl rfl | exact Or.inr rfl) (pe_meth (pv 0) (cls_Line T) (m_Line_asker T) GL_asker (hr.mono (by decide)) bL_asker .nil pass0 (pa_cons (pv 1) pa_nil)))
    (pss_cons (ps_expr (pe_call G_check_count (hr.mono (by decide)) rfl (g_check_count T) k_check_count b_check_count .nil pass0 (pa_cons (pv 2) (pa_cons (pe_op op_sub (pe_callB (call_lenT vRow) (by rfl) (n_len T) (by decide +kernel) (pa_cons (pe_every T (pv 0) rfl) pa_nil)) pe_int) pa_nil))))
    (pss_one (ps_ret (pe_meth (pe_meth (pv 0) (cls_Line T) (m_Line_without T) GL_without (hr.mono (by decide)) bL_without .nil pass0 (pa_cons (pv 1) pa_nil)) (cls_Line T) (m_Line_put_in T) GL_put_in (hr.mono (by decide)) bL_put_in .nil pass0 (pa_cons (pv 3) (pa_cons (pv 2) pa_nil))))))), ?_⟩
  have hj : j < rs.length := hj
  have hn : rs.length ≤ 100 := ap.len
  have hi : i < rs.length := ap.lt
  refine ⟨_, rfl, hv.at_ sm rfl rfl ⟨_, rfl, (rs, i, r), F, sm, ⟨_, rfl, hv, ap⟩, fun u1 F1 H1 g1 hu1 => ?_⟩⟩
  refine ⟨_, rfl, _, rfl, F1, rs, g1.i, Mo.mo g1.f hv, fun t ht => ⟨F1, _, rs, rfl, g1.i, ht, _, _, rfl, rfl, ((j : Int), (rs.length : Int) - 1), F1, g1.i, ⟨rfl, by show (0 : Int) ≤ (j : Int); omega, by show (j : Int) ≤ (rs.length : Int) - 1; omega⟩, fun u4 F4 H4 g4 hu4 => ?_⟩⟩
  have hu1 := Mo.mo (p := vA K) g4.f hu1
  have g4 := g1.trans g4
  refine ⟨_, rfl, (Mo.mo g4.f hv).at_ g4.i rfl rfl ⟨_, rfl, (rs, i, r), F4, g4.i, ⟨_, rfl, Mo.mo g4.f hv, ap, lok⟩, fun u5 F5 H5 g5 hu5 => ?_⟩⟩
  have hu5 : vLine K (cutO rs i) u5 F5 := hu5
  have g5' := g4.trans g5
  exact hu5.at_ g5'.i rfl rfl ⟨_, rfl, _, rfl, (cutO rs i, r, j), F5, g5'.i, ⟨_, _, rfl, hu5, Mo.mo g5.f hu1, hnm, by show j ≤ (cutO rs i).length; unfold cutO; rw [List.length_append, List.length_take, List.length_drop]; omega, by show (cutO rs i).length ≤ 100; unfold cutO; rw [List.length_append, List.length_take, List.length_drop]; omega, lok2⟩, fun z F6 H6 g6 hz => k _ _ _ (g5'.trans g6) hz⟩
end
end Elk
set_option Elab.async false
set_option linter.all false
set_option maxRecDepth 100000
set_option maxHeartbeats 4000000
namespace Elk
open PySem PySem.Spec PyProof.Rows L2
theorem lcAB {β : Type} {q : VP β} [Mo q] {f : Nat → β} {t : Nat → Bool} {g : TG} {tt : TT} {te : TE} {own : List Nat} {σ : St} {F1 H1 : Hp} {D : Addr} {Qd : Hp → Prop} {a b : Nat} (s : Same F1 H1) (hD : H1 D = none) (hz : b ≤ 100000)
    (S : StepC vN q f t (List.range' a (b - a)) g tt te own σ F1 H1) (hd : ∀ F H, Grow F1 H1 F H → vL q (((List.range' a (b - a)).filter t).map f) (.ref D) F → Qd H) :
    ∃ W : Nat → Nat → Hp → Prop, (∃ m, W 0 m (upd H1 D (.lst []))) ∧ ∀ i m H, W i m H →
      ((Itr (a : Int) ((b : Int) - (a : Int)).toNat).stop i H ∧ Qd H) ∨ ((Itr (a : Int) ((b : Int) - (a : Int)).toNat).go i H ∧ ∃ Nx : Hp → Prop, (∀ H', Nx H' → ∃ m', m' < m ∧ W (i + 1) m' H') ∧ ∀ x H', (Itr (a : Int) ((b : Int) - (a : Int)).toNat).yld i H x H' → g x (wipe σ own) H' fun σ2 H2 => wipe σ2 own = wipe σ own ∧ tt σ2 H2 fun b H3 =>
        if b = true then te σ2 H3 fun y H4 => ∃ acc, H4 D = some (.lst acc) ∧ acc.length < sizeLine ∧ Nx (upd H4 D (.lst (acc ++ [y]))) else Nx H3) := by
  have e : ((b : Int) - (a : Int)).toNat = b - a := by omega
  rw [e]
  exact lcR s hD (by omega) S hd
/-! ### a purse: what a draw changes -/
theorem GrowX.keep {x a : Addr} {F H F1 H1 : Hp} {o : HO} (g : GrowX x F H F1 H1) (h : H a = none) (h1 : H1 a = some o) : GrowX x F H (upd F1 a o) H1 := ⟨g.h, fun b u e => by
    have e1 := g.f _ _ e
    by_cases q : b = a
    · subst q
      have := g.i _ _ e1
      rw [h1] at this; cases this
      exact upd_same
    · rw [upd_ne q]; exact e1, fun b u e => by
    by_cases q : b = a
    · subst q; rw [upd_same] at e; cases e; exact h1
    · rw [upd_ne q] at e; exact g.i _ _ e, fun b u e => by
    by_cases q : b = a
    · subst q; exact .inr (.inl h)
    · rw [upd_ne q] at e; exact g.n _ _ e⟩
def Purse (n : Nat) (xs : List V) : Prop := ∃ p0 p1 p2 : Nat, xs = [.int (p0 : Int), .int (p1 : Int), .int (p2 : Int), .int 0] ∧ p1 < 2147483648 ∧ p2 ≤ n
theorem Purse.mono {n m : Nat} {xs : List V} (h : Purse n xs) (k : n ≤ m) : Purse m xs := by
  obtain ⟨p0, p1, p2, e, h1, h2⟩ := h
  exact ⟨p0, p1, p2, e, h1, Nat.le_trans h2 k⟩
structure HasP (pa : Addr) (n : Nat) (F H : Hp) : Prop where
  s : Same F H
  f : F pa = none
  h : ∃ xs, H pa = some (.lst xs) ∧ Purse n xs
theorem HasP.mono {pa : Addr} {n m : Nat} {F H : Hp} (h : HasP pa n F H) (k : n ≤ m) : HasP pa m F H := ⟨h.s, h.f, by
  obtain ⟨xs, a, b⟩ := h.h
  exact ⟨xs, a, b.mono k⟩⟩
theorem HasP.grow {pa : Addr} {n : Nat} {F H F' H' : Hp} (h : HasP pa n F H) (g : Grow F H F' H') : HasP pa n F' H' := by
  obtain ⟨xs, a, b⟩ := h.h
  exact ⟨g.i, g.out a h.f, xs, g.h _ _ a, b⟩
theorem HasP.set {pa a : Addr} {n : Nat} {F H : Hp} {o : HO} (h : HasP pa n F H) (hne : a ≠ pa) (fa : F a = none) : HasP pa n F (upd H a o) := by
  obtain ⟨xs, e, b⟩ := h.h
  exact ⟨fun b u e => by rw [upd_ne (ne_of_none e fa)]; exact h.s _ _ e, h.f, xs, by rw [upd_ne (Ne.symm hne)]; exact e, b⟩
theorem HasP.keep {pa a : Addr} {n : Nat} {F H : Hp} {o : HO} (h : HasP pa n F H) (hne : a ≠ pa) (fa : F a = none) (h1 : H a = some o) : HasP pa n (upd F a o) H := by
  obtain ⟨xs, e, b⟩ := h.h
  refine ⟨fun b u e => ?_, by rw [upd_ne (Ne.symm hne)]; exact h.f, xs, e, b⟩
  by_cases q : b = a
  · subst q; rw [upd_same] at e; cases e; exact h1
  · rw [upd_ne q] at e; exact h.s _ _ e
/-- the promise of a def that draws at most k times -/
def PPm (k : Nat) {ι : Type} (pre : ι → List V → Hp → Prop) (post : ι → V → Hp → Prop) : Sp := fun vs H Q _ => ∃ (i : ι) (F : Hp) (pa : Addr) (n : Nat) (us : List V), vs = .ref pa :: us ∧ HasP pa n F H ∧ n + k ≤ 6000 ∧ pre i us F ∧
  ∀ v F' H', GrowX pa F H F' H' → HasP pa (n + k) F' H' → post i v F' → Q v H'
/-! ### powers of great numbers -/
def CPowW (i j : Int) : Prop := 0 ≤ j ∧ (Builtin.Int.intBits i : Int) * j ≤ 2 ^ 27
theorem op_powW {X : Cx} : OpR X (binaryOp .Pow) (rI CPowW fun i j => .int (i ^ j.toNat)) := opI fun _ _ _ _ _ _ _ hc q => pow_int hc.1 hc.2 q
/-! ### defs that stand where nothing is being shown: repr of tuples -/
structure FnG (P : Program) (w : World) (K : W.Frag) (mg : Str → Option Value) (base : Heap) (k : Nat) (f : Addr) (fd : FuncData) (ps : List Str) (sp : Sp) : Prop where
  len : ∀ vs H Q E, sp vs H Q E → vs.length = ps.length
  run : ∀ (A : Around) (outer : List Env) (s : Shared) (H : Hp) (args : Args) (us : List Value) (vs : List V) (Q : VK) (E : XK), A.guards = some [] → Room k A → Env0 P w K mg base A outer s H → BindsTo s fd args (ps.zip us) → Vals vs us → sp vs H Q E →
    codeAny (model P w) A (.call (.ref f) args) (CR CX0 outer P w H s Q E) s
theorem FnG.of {P : Program} {w : World} {K : W.Frag} {mg : Str → Option Value} {base : Heap} {k : Nat} {f : Addr} {fd : FuncData} {ps : List Str} {sp : Sp} (G : FnOk P w K mg base CX0 k f fd ps sp) : FnG P w K mg base k f fd ps sp := ⟨G.len, fun A outer s H args us vs Q E _ hr => G.run A outer s H args us vs Q E hr⟩
def OkG (P : Program) (w : World) (K : W.Frag) (mg : Str → Option Value) (base : Heap) (k : Nat) (f : Addr) (ps : List Str) (sp : Sp) : Prop :=
  ∃ fd, FnG P w K mg base k f fd ps sp ∧ L2.Binds K fd ps [] ∧ W.keepIn K (.ref f) = true
theorem OkG.of {P : Program} {w : World} {K : W.Frag} {mg : Str → Option Value} {base : Heap} {k : Nat} {f : Addr} {ps : List Str} {sp : Sp} (h : Ok P w K mg base k f ps sp) : OkG P w K mg base k f ps sp := by
  obtain ⟨fd, a, b, c⟩ := h
  exact ⟨fd, FnG.of a, b, c⟩
section
variable {P : Program} {w : World} {K : W.Frag} {mg : Str → Option Value} {base : Heap}
theorem guards_deeper (A : Around) (env : Env) : (A.deeper env).guards = A.guards := rfl
theorem fnG_of {k : Nat} {f : Addr} {name qual : Str} {params : Arguments} {body : List Stmt} {scope : Scope} {dV kV doc pm cdv ct oc : Value} {an od : Option Addr} {osl : Array (Option Value)} {N ps : List Str} {sp : Sp}
    (lk : K.lookup f = some ⟨oc, od, .func (W.fnOf name qual params body scope dV kV doc pm an cdv ct), osl⟩) (hcd : W.codeIn K cdv qual = true) (S : FnScope N ps scope) (len : ∀ vs H Q E, sp vs H Q E → vs.length = ps.length)
    (hbody : ∀ (A : Around) (outer : List Env) (s : Shared) (H : Hp) (vs : List V) (Q : VK) (E : XK), A.guards = some [] → Room k (A.deeper (envOfC qual scope s.heap.objs.size f cdv)) → sp vs H Q E →
      ∃ t, PSs (cxOf CX0 P w K mg base N qual scope f cdv A outer s H E) body t ∧ t { nx := fun _ H' => Q .non H', rt := Q } (L2.start N vs) H) :
    FnG P w K mg base (k + 1) f (W.fnOf name qual params body scope dV kV doc pm an cdv ct) ps sp := by
  constructor
  · exact len
  intro A outer s H args us vs Q E hg hr e0 hb r hsp
  have kin : K.In s.heap := e0.mod.kin.keeps fun b o z => (e0.bs b o z).1
  have noLim : s.heap.NoLimit := e0.mod.nolimit.keeps fun b o z => (e0.bs b o z).1
  refine codeAny_call_function hr.depth (kin _ _ lk) rfl S.co S.gen rfl (W.codeRec_of kin hcd) (hb _ _ _ _ ?_)
  have kinds : ∀ y ∈ ps.zip us, scope.names.lookup y.1 = some .local ∨ (scope.names.lookup y.1 = some .cell ∧ ((cellsFrom (s.heap.objs.size + 1) scope.names []).lookup y.1).isSome = true) := by
    rintro ⟨x, v⟩ hxv
    refine (S.par x (List.of_mem_zip hxv).1).imp id fun c => ⟨c, W.cellsFrom_some _ _ _ (.inl c)⟩
  refine wpAny_newFunctionEnv_cells S.kind kinds fun env henv s1 inC => ?_
  subst henv
  refine ⟨noLim.keeps inC.toInCall.keep, codeAny_func ?_⟩
  obtain ⟨t, ht, hq⟩ := hbody A outer s H vs Q E hg (hr.deeper _) hsp
  have J := inv_start (CX := CX0) (P := P) (w := w) (mg := mg) (base := base) (E := E) S hr.hd e0 (len _ _ _ _ hsp) r inC
  refine wpAny_mono (ht.run [] s1 _ H _ J hq) ?_ fun _ _ z => z
  intro fl s' hs
  cases fl with
  | ret u =>
    obtain ⟨v, σ', H', J', rv, q⟩ := hs
    exact ⟨v, H', J'.os, J'.bare, J'.base, J'.hok, rv, q⟩
  | next =>
    obtain ⟨σ', H', J', q⟩ := hs
    exact ⟨V.non, H', J'.os, J'.bare, J'.base, J'.hok, rfl, q⟩
  | brk => exact hs.choose_spec.choose_spec.2.elim
  | cont => exact hs.choose_spec.choose_spec.2.elim
theorem mk_okG {x qual : Str} {st : Stmt} {f : Addr} {N ps : List Str} {k : Nat} {sp : Sp} (F : ∃ fd, FunD K x qual (defArgs st) (defBody st) (defScope st) [] [] f fd) (S : FnScope N ps (defScope st)) (len : ∀ vs H Q E, sp vs H Q E → vs.length = ps.length)
    (bnd : ∀ (kV doc pm : Value) (an : Option Addr) (cdv ct : Value) (us : List Value), us.length = ps.length → bindArgs (W.fnOf x qual (defArgs st) (defBody st) (defScope st) .none kV doc pm an cdv ct) ⟨us, []⟩ = pure (ps.zip us))
    (body : ∀ (cdv : Value) (A : Around) (outer : List Env) (s : Shared) (H : Hp) (vs : List V) (Q : VK) (E : XK), A.guards = some [] → Room k (A.deeper (envOfC qual (defScope st) s.heap.objs.size f cdv)) → sp vs H Q E →
      ∃ t, PSs (cxOf CX0 P w K mg base N qual (defScope st) f cdv A outer s H E).nox (defBody st) t ∧ t { nx := fun _ H' => Q .non H', rt := Q } (L2.start N vs) H) : OkG P w K mg base (k + 1) f ps sp := by
  obtain ⟨fd, F⟩ := F
  obtain ⟨oc, od, dV, kV, doc, pm, an, cdv, ct, osl, e, lk, hcd, _, _⟩ := F.ex
  subst e
  refine ⟨_, fnG_of lk hcd S len fun A outer s H vs Q E hg hr h => ?_, FunD.bindsN F bnd, F.kp⟩
  obtain ⟨t, ht, q⟩ := body cdv A outer s H vs Q E hg hr h
  exact ⟨t, ht.nox, q⟩
end
section
variable {X : Cx} {k : Nat} {f : Addr} {fd : FuncData} {ps : List Str} {sp : Sp} {dvs : List V} {ds : List Value} {E : XK} {x : Str} {p pos : Pos} {e : Expr} {es : List Expr} {t : TA}
theorem runG {pins : List (Addr × Obj)} {σ : St} {H : Hp} {s : Shared} {Q : VK} {us : List Value} {vs : List V} (F : FnG X.prog X.w X.K X.mg X.base k f fd ps sp) (hg : X.A.guards = some []) (hr : Room k X.A) (hb : Binds X.K fd ps ds) (hd : Vals dvs ds) (hx : Passes CX0 X E)
    (I : Inv X pins σ H s) (r : Vals vs us) (h : sp (vs ++ dvs) H Q E) : wpAny (model X.prog X.w) X.A (call (.ref f) us) (EP X pins σ Q) X.xe s := by
  have rr := r.append hd
  have hl : (us ++ ds).length = ps.length := rr.length.symm.trans (F.len _ _ _ _ h)
  refine wpAny_call (codeAny_mono (F.run X.A X.stack s H ⟨us, []⟩ (us ++ ds) (vs ++ dvs) Q E hg hr I.env0 (hb s us I.kIn hl) rr h) ?_)
  rintro (er | fl) s' hq
  · exact hx pins σ H s er s' I hq
  · cases fl with
    | ret u => exact I.after hq
    | next => exact hq.elim
    | brk => exact hq.elim
    | cont => exact hq.elim
theorem pe_callG (F : FnG X.prog X.w X.K X.mg X.base k f fd ps sp) (gd : X.A.guards = some []) (hr : Room k X.A) (hg : Gl X x) (hm : X.mg x = some (.ref f)) (hk : W.keepIn X.K (.ref f) = true) (hb : Binds X.K fd ps ds) (hd : Vals dvs ds) (hx : Passes CX0 X E)
    (ha : PA X (e :: es) t) (hdb : (x == ("__debug__" : Str)) = false := by decide) (he : starEach (e :: es) X.env = (false, eval e X.env) :: starEach es X.env := by rfl) (hpl : (backTo pos (starEach es X.env)).any (·.1) = false := by rfl) :
    PE X (.Call (.Name x p) (e :: es) [] pos) (tCall sp dvs E t) := ⟨fun pins s σ H Q I h => wpAny_Call_Name_kw (ld_glob I hg hm
      (W.callWith_K (h₀ := X.base) I.ok.mod.kin hk (thn (ha.run pos pins s σ H _ I h) fun us s1 ⟨vs, H1, I1, r, q⟩ => ⟨I1.kIn, runG F gd hr hb hd hx I1 r q⟩) he hpl) hdb)⟩
/-- repr of a datum -/
def rRepr {α : Type} [DecidableEq α] [W.Datum α] (p : VP α) : List V → Hp → VK → Prop := fun vs H Q => ∃ F v, ∃ a : α, vs = [v] ∧ (∃ q, v = .ref q) ∧ Same F H ∧ p a v F ∧ (W.Datum.toD a).showable = true ∧ (W.Datum.toD a).hasDict = false ∧ (W.Datum.toD a).shown.length ≤ 100000 ∧ Q (.str (W.Datum.toD a).shown) H
theorem cr_repr {α : Type} [DecidableEq α] [W.Datum α] (p : VP α) [Br p] [Mo p] (hg : X.A.guards = some []) (hu : X.A.units + 100 < cLine) (hdp : W.Datum.depth α ≤ 60 := by decide) : CallR X (.builtin "repr") (rRepr p) := by
  intro pins s σ H vs us Q I rv ⟨F, v, a, e, ⟨b, ev⟩, sm, pa, hs, hd, hl, k⟩
  subst e ev
  rw [Vals.ref1 rv]
  obtain ⟨as, r⟩ := Br.br (p := p) I.hok (Mo.mo sm pa) (show RelV (.ref b) (.ref b) from rfl)
  have dp := W.Datum.depth_le a
  refine repr_of_reads' r hs (fun e => by rw [hd] at e; cases e) hg (by omega) (fun _ _ e => e) (fun h' u tk hk => ?_) (Nat.le_of_lt (small_of hl))
  exact ⟨.str _, H, I.kept (t' := tk) hk, ⟨u, rfl⟩, k⟩
end
end Elk
set_option Elab.async false
set_option linter.all false
set_option maxRecDepth 100000
set_option maxHeartbeats 4000000
namespace Elk
open PySem PySem.Spec PyProof.Rows L2
/-! ### exchanges of neighbours -/
def wrongL (now : List Nat) : List Nat := (List.range' 1 (now.length - 1)).filter fun a => decide (now.getD (a - 1) 0 > now.getD a 0)
def swapL (now : List Nat) (a : Nat) : List Nat := (now.set a (now.getD (a + 1) 0)).set (a + 1) (now.getD a 0)
def exL : Nat → List Nat → Option (List Nat)
  | 0, now => if (wrongL now).isEmpty then some [] else none
  | f + 1, now => match wrongL now with
    | [] => some []
    | w :: _ => (exL f (swapL now (w - 1))).map fun r => (w - 1) :: r
def nowL (rs rs' : List Row) : List Nat := (namesR rs).map fun z => (namesR rs').idxOf z
theorem exL_nil {f : Nat} {now : List Nat} (h : wrongL now = []) : exL f now = some [] := by
  cases f with
  | zero => rw [exL, h]; rfl
  | succ f => rw [exL, h]
theorem swapL_len (now : List Nat) (a : Nat) : (swapL now a).length = now.length := by unfold swapL; rw [List.length_set, List.length_set]
theorem wrong_mem {now : List Nat} {w : Nat} (h : w ∈ wrongL now) : 1 ≤ w ∧ w < now.length := by
  obtain ⟨h1, _⟩ := List.mem_filter.mp h
  rw [List.mem_range'_1] at h1
  omega
def sp_exchanges (K : W.Frag) : Sp := Pm (ι := List Row × List Row × List Nat) (fun i vs F => ∃ u v, vs = [u, v] ∧ vLine K i.1 u F ∧ vLine K i.2.1 v F ∧ LineOk i.1 ∧ LineOk i.2.1 ∧ i.2.1.Perm i.1 ∧ (aliB i.1 i.2.1 = true → exL 1000 (nowL i.1 i.2.1) = some i.2.2))
  (fun i v F => vO (vL vN) (if aliB i.1 i.2.1 = true then some i.2.2 else none) v F)
section
variable {P : Program} {w : World} {K : W.Frag} {mg : Str → Option Value} {base : Heap}
abbrev N_exchanges : List Str := ["one", "other", "wrong", "now", "found", "at", "name", "spot"]
theorem sc_exchanges : FnScope N_exchanges ["one", "other"] (defScope s_exchanges) := ⟨rfl, rfl, rfl, by decide +kernel, rfl, by decide +kernel, by decide +kernel⟩
theorem ok_exchanges (T : Tp K mg) : Ok P w K mg base 5 (He.ga K "exchanges") ["one", "other"] (sp_exchanges K) := by
  obtain ⟨fd_check_same, G_check_same, b_check_same, k_check_same⟩ := ok_check_same (P := P) (w := w) (base := base) T
  obtain ⟨fd_are_alike, G_are_alike, b_are_alike, k_are_alike⟩ := ok_are_alike (P := P) (w := w) (base := base) T
  obtain ⟨fdL_names, GL_names, bL_names, kL_names⟩ := ok_Line_names (P := P) (w := w) (base := base) T
  obtain ⟨fdL_place, GL_place, bL_place, kL_place⟩ := ok_Line_place (P := P) (w := w) (base := base) T
  refine mk_ok (F_exchanges T) sc_exchanges ?_ (fun _ _ _ _ _ _ us hl => match us, hl with | [_, _], _ => rfl) (fun cdv A outer s H vs Q E hr h => ?_)
  · rintro vs H Q E ⟨i, F, _, ⟨u, v, rfl, _⟩, _⟩
    rfl
  obtain ⟨⟨rs, rs', res⟩, F, sm, ⟨u, v, rfl, hu, hv, lok, lok', pm, hx⟩, k⟩ := h
  refine ⟨_, (pss_cons (ps_expr (pe_call G_check_same (hr.mono (by decide)) rfl (g_check_same T) k_check_same b_check_same .nil pass0 (pa_cons (pv 0) (pa_cons (pv 1) pa_nil))))
    (pss_cons (ps_if (pt_not (pt_val (pe_call G_are_alike (hr.mono (by decide)) rfl (g_are_alike T) k_are_alike b_are_alike .nil pass0 (pa_cons (pv 0) (pa_cons (pv 1) pa_nil)))))
      (pss_one (ps_ret pe_non))
      pss_nil)
    (pss_cons (ps_asg (pe_tup (pa_cons (pe_lc (own := [("name", 6)]) (g := gName 6) rfl sc_exchanges.nd (pi_list (pe_meth0 (pv 0) (cls_Line T) (m_Line_names T) GL_names (hr.mono (by decide)) bL_names .nil pass0)) (blkOk_by (N := N_exchanges) (sc := defScope s_exchanges) (by decide +kernel)) (fun _ _ _ _ _ => (pg_name (i := 6) sc_exchanges.nd rfl (by first | exact Or.inl rfl | exact Or.inr rfl))) (fun _ _ _ _ _ => pts_nil) (fun _ _ _ _ _ => (pe_meth (pv 1) (cls_Line T) (m_Line_place T) GL_place (hr.mono (by decide)) bL_place .nil pass0 (pa_cons (pv 6) pa_nil)))) (pa_cons (pe_lst pa_nil) pa_nil))) (pg_tup (by rfl) (pgs_cons (pg_name (i := 3) sc_exchanges.nd rfl (by first | exact Or.inl rfl | exact Or.inr rfl)) (pgs_cons (pg_name (i := 4) sc_exchanges.nd rfl (by first | exact Or.inl rfl | exact Or.inr rfl)) pgs_nil))))
    (pss_cons (ps_setLc (i := 2) (own := [("at", 5)]) (g := gName 5) rfl sc_exchanges.nd rfl rfl (sw_true rfl rfl rfl (by decide +kernel)) (pi_range2 rfl (n_range T) (pa_cons pe_int (pa_cons (pe_callB (call_lenL vN) (by rfl) (n_len T) (by decide +kernel) (pa_cons (pv 3) pa_nil)) pa_nil))) (blkOk_by (N := N_exchanges) (sc := defScope s_exchanges) (by decide +kernel)) (fun _ _ _ _ _ => (pg_name (i := 5) sc_exchanges.nd rfl (by first | exact Or.inl rfl | exact Or.inr rfl))) (fun _ _ _ _ _ => (pts_one (pt_cmpR op_gt (pe_ix (ixL vN) (pv 3) (pe_op op_sub (pv 5) pe_int) (fun _ _ => rfl)) (pe_ix (ixL vN) (pv 3) (pv 5) (fun _ _ => rfl)) (nomark _)))) (fun _ _ _ _ _ => (pv 5)))
    (pss_cons (ps_while PassesOwn.never (pt_ne0 vN hr.units (pv 2))
      (pss_cons (ps_set (i := 5) sc_exchanges.nd rfl (by first | exact Or.inl rfl | exact Or.inr rfl) (pe_op op_sub (pe_ix (ixL vN) (pv 2) pe_int (fun _ _ => rfl)) pe_int))
      (pss_cons (ps_asg (pe_tup (pa_cons (pe_ix (ixL vN) (pv 3) (pe_op op_add (pv 5) pe_int) (fun _ _ => rfl)) (pa_cons (pe_ix (ixL vN) (pv 3) (pv 5) (fun _ _ => rfl)) pa_nil))) (pg_tup (by rfl) (pgs_cons (pg_sub (pv 3) (pv 5) set_list) (pgs_cons (pg_sub (pv 3) (pe_op op_add (pv 5) pe_int) set_list) pgs_nil))))
      (pss_cons (ps_expr (pe_bm PySem.F.plainAttrs_list PySem.F.slot_list_append PySem.F.type_list_append mt_append (pv 4) (pa_cons (pv 5) pa_nil)))
      (pss_one (ps_setLc (i := 2) (own := [("spot", 7)]) (g := gName 7) rfl sc_exchanges.nd rfl rfl (sw_true rfl rfl rfl (by decide +kernel)) (pi_range2 rfl (n_range T) (pa_cons pe_int (pa_cons (pe_callB (call_lenL vN) (by rfl) (n_len T) (by decide +kernel) (pa_cons (pv 3) pa_nil)) pa_nil))) (blkOk_by (N := N_exchanges) (sc := defScope s_exchanges) (by decide +kernel)) (fun _ _ _ _ _ => (pg_name (i := 7) sc_exchanges.nd rfl (by first | exact Or.inl rfl | exact Or.inr rfl))) (fun _ _ _ _ _ => (pts_one (pt_cmpR op_gt (pe_ix (ixL vN) (pv 3) (pe_op op_sub (pv 7) pe_int) (fun _ _ => rfl)) (pe_ix (ixL vN) (pv 3) (pv 7) (fun _ _ => rfl)) (nomark _)))) (fun _ _ _ _ _ => (pv 7))))))))
    (pss_one (ps_ret (pv 4)))))))), ?_⟩
  have hn : rs.length ≤ 100 := lok.len
  have hl' : rs'.length = rs.length := pm.length_eq
  refine ⟨_, rfl, _, rfl, (rs, rs'), F, sm, ⟨_, _, rfl, hu, hv, pm⟩, fun u1 F1 H1 g1 hu1 => ?_⟩
  refine ⟨_, rfl, _, rfl, (rs, rs'), F1, g1.i, ⟨_, _, rfl, Mo.mo g1.f hu, Mo.mo g1.f hv, lok, lok'⟩, fun u2 F2 H2 g2 hu2 => ?_⟩
  have g2 := g1.trans g2
  refine ⟨aliB rs rs', hu2, ?_⟩
  cases hal : aliB rs rs' with
  | false =>
    refine yes_t rfl (k _ _ _ g2 ?_)
    show vO (vL vN) (if aliB rs rs' = true then some res else none) .non F2
    rw [hal]; rfl
  | true =>
  refine no_t rfl ?_
  have hx : exL 1000 (nowL rs rs') = some res := hx hal
  refine ⟨_, rfl, (Mo.mo g2.f hu).at_ g2.i rfl rfl ⟨rs, F2, g2.i, ⟨_, rfl, Mo.mo g2.f hu, hn⟩, fun u3 F3 H3 g3 hu3 => ?_⟩⟩
  have g3 := g2.trans g3
  obtain ⟨a, vs, rfl, ha, l⟩ := hu3
  have hnl : (namesR rs).length = rs.length := namesR_len rs
  refine ⟨a, rfl, ⟨_, SqL.of (g3.i _ _ ha)⟩, fun D hD => ?_⟩
  have D0 : H D = none := g3.h.free hD
  refine lcLm (p := vS) (q := vN) (f := fun z => (namesR rs').idxOf z) (t := fun _ => true) g3.i hD (g3.i _ _ ha) l (by omega) ?_ ?_
  · intro z y F' H' hz g hy N Y hN hY
    have ey : y = .str z := hy
    subst ey
    obtain ⟨r, h1, h2⟩ := List.mem_map.mp hz
    have h2 : r.a = z := h2
    subst h2
    obtain ⟨i, hi⟩ := List.mem_iff_getElem?.mp (pm.mem_iff.mpr h1)
    have ap : AtP rs' i r := ⟨lok'.nd, lok'.len, hi⟩
    refine ⟨rfl, _, rfl, (Mo.mo (g3.f.trans g.f) hv).at_ g.i rfl rfl ⟨_, rfl, (rs', i, r), F', g.i, ⟨_, rfl, Mo.mo (g3.f.trans g.f) hv, ap⟩, fun u2 F2 H2 g2 hu2 => hY _ _ _ g2 rfl ?_⟩⟩
    have e2 : u2 = .int (i : Int) := hu2
    show u2 = V.int (((namesR rs').idxOf r.a : Nat) : Int)
    have e3 : (namesR rs').idxOf r.a = i := ap.idx
    rw [e2, e3]
  intro F4 H4 ys4 g4 fD hD4 l4
  rw [filter_tt] at l4
  have l4 : All2 vN (nowL rs rs') ys4 F4 := l4
  have g4 := g3.trans g4
  refine ⟨Nat.zero_le _, fun fa hfa => ?_⟩
  have fa0 : H fa = none := g4.h.free hfa
  have g5 := g4.trans (Grow.new (o := .lst []) g4.i hfa)
  have F4a := g4.i.free hfa
  have nDf : D ≠ fa := ne_of_none hD4 hfa
  refine ⟨by show 2 ≤ sizeLine; decide, fun tp htp => ?_⟩
  have nft : fa ≠ tp := ne_of_none (upd_same (H := H4) (a := fa)) htp
  have hD5 : (upd H4 fa (.lst [])) D = some (.lst ys4) := by rw [upd_ne nDf]; exact hD4
  have nDt : D ≠ tp := ne_of_none hD5 htp
  have g6 := g5.trans (Grow.put (o := .tup [.ref D, .ref fa]) g5.i htp)
  have F4t := g5.i.free htp
  refine ⟨tp, _, rfl, SqT.of upd_same, rfl, _, _, rfl, _, _, rfl, rfl, ?_⟩
  have nl : (nowL rs rs').length = rs.length := by unfold nowL; rw [List.length_map, hnl]
  -- wrong = [at for at in range(1, len(now)) if now[at - 1] > now[at]]
  have l6 : All2 vN (nowL rs rs') ys4 (upd F4 tp (.tup [.ref D, .ref fa])) := l4.mo (same_upd F4t)
  have hD6 : (upd (upd H4 fa (.lst [])) tp (.tup [.ref D, .ref fa])) D = some (.lst ys4) := by rw [upd_ne nDt]; exact hD5
  have hf6 : (upd (upd H4 fa (.lst [])) tp (.tup [.ref D, .ref fa])) fa = some (.lst []) := by rw [upd_ne nft]; exact upd_same
  have fD6 : (upd F4 tp (.tup [.ref D, .ref fa])) D = none := by rw [upd_ne nDt]; exact fD
  have ff6 : (upd F4 tp (.tup [.ref D, .ref fa])) fa = none := by rw [upd_ne nft]; exact F4a
  refine ⟨_, rfl, _, _, _, rfl, ⟨D, ys4, rfl, hD6, l6⟩, 1, (((nowL rs rs').length : Nat) : Int), rfl, ⟨by decide, by decide, by omega, by omega⟩, fun D2 hD2 => ?_⟩
  refine lcAB (a := 1) (b := (nowL rs rs').length) (q := vN) (f := id) (t := fun a => decide ((nowL rs rs').getD (a - 1) 0 > (nowL rs rs').getD a 0)) g6.i hD2 (by omega) ?_ ?_
  · intro x y F' H' hxm g hxy N Y hN hY
    have ey : y = .int (x : Int) := hxy
    subst ey
    rw [List.mem_range'_1] at hxm
    have vm : vM vN (nowL rs rs') (.ref D) F' H' := ⟨D, ys4, rfl, g.h _ _ hD6, l6.mo g.f⟩
    refine ⟨rfl, _, rfl, _, rfl, _, _, rfl, rfl, F', _, x - 1, _, vm, ?_, some_getD (d := 0) (by omega), fun z1 hz1 => ⟨_, rfl, _, rfl, F', _, x, _, vm, rfl, some_getD (d := 0) (by omega), fun z2 hz2 => ⟨_, _, hz1, hz2, _, rfl, ?_⟩⟩⟩
    · show V.int ((x : Int) - 1) = _
      congr 1
      omega
    · have e : decide ((((nowL rs rs').getD (x - 1) 0 : Nat) : Int) > (((nowL rs rs').getD x 0 : Nat) : Int)) = decide ((nowL rs rs').getD (x - 1) 0 > (nowL rs rs').getD x 0) := decide_eq_decide.mpr (by omega)
      rw [e]
      exact iteB (fun ht => ⟨_, rfl, hY _ _ _ (Grow.refl g.i) ht rfl⟩) fun ht => hN _ _ (Grow.refl g.i) ht
  intro F7 H7 g7 hl7
  rw [List.map_id] at hl7
  have hl7 : vL vN (wrongL (nowL rs rs')) (.ref D2) F7 := hl7
  have hlp : (nowL rs rs').length = rs.length := nl
  refine ⟨fun m σ H' => ∃ F' now done r x5 wv nv, σ = [some u, some v, some wv, some (.ref D), some (.ref fa), x5, none, none] ∧ Grow F H F' H' ∧ F' D = none ∧ F' fa = none ∧ H' D = some (.lst nv) ∧ H' fa = some (.lst (done.map fun n : Nat => V.int (n : Int))) ∧ All2 vN now nv F' ∧ vL vN (wrongL now) wv F' ∧
    exL m now = some r ∧ done ++ r = res ∧ now.length = rs.length ∧ done.length + m ≤ 1000, ⟨1000, F7, nowL rs rs', [], res, none, .ref D2, ys4, rfl, g6.trans g7, g7.out hD6 fD6, g7.out hf6 ff6, g7.h _ _ hD6, g7.h _ _ hf6, l6.mo g7.f, hl7, hx, rfl, nl, by simp⟩, ?_⟩
  intro m σ H' ⟨F', now, done, r, x5, wv, nv, es, g, fD', ff', hD', hf', ln, hw, ex, er, el, ed⟩
  subst es
  refine ⟨_, rfl, F', _, g.i, hw.m g.i, fun F8 H8 g8 => ?_⟩
  have fD8 := g8.out hD' fD'
  have ff8 := g8.out hf' ff'
  have hD8 := g8.h _ _ hD'
  have hf8 := g8.h _ _ hf'
  have ln := ln.mo g8.f
  have hw := Mo.mo g8.f hw
  have g8 := g.trans g8
  cases hwl : wrongL now with
  | nil =>
    rw [exL_nil hwl] at ex
    cases ex
    rw [List.append_nil] at er
    subst er
    refine no_t rfl ⟨_, rfl, k _ _ _ (g8.keep fa0 hf8) ?_⟩
    show vO (vL vN) (if aliB rs rs' = true then some done else none) _ _
    rw [hal]
    exact ⟨fa, _, rfl, upd_same, all2N.mpr rfl⟩
  | cons w ws =>
    obtain ⟨hw1, hw2⟩ := wrong_mem (now := now) (w := w) (by rw [hwl]; exact List.mem_cons_self)
    cases m with
    | zero =>
      rw [exL, hwl] at ex
      cases ex
    | succ m =>
    rw [exL, hwl] at ex
    obtain ⟨r', ex', er'⟩ := Option.map_eq_some_iff.mp ex
    subst er'
    rw [hwl] at hw
    refine yes_t rfl ⟨fun σ' H' => ∃ m', m' < m + 1 ∧ ∃ F' now done r x5 wv nv, σ' = [some u, some v, some wv, some (.ref D), some (.ref fa), x5, none, none] ∧ Grow F H F' H' ∧ F' D = none ∧ F' fa = none ∧ H' D = some (.lst nv) ∧ H' fa = some (.lst (done.map fun n : Nat => V.int (n : Int))) ∧ All2 vN now nv F' ∧ vL vN (wrongL now) wv F' ∧
      exL m' now = some r ∧ done ++ r = res ∧ now.length = rs.length ∧ done.length + m' ≤ 1000, fun _ _ z => z, ?_⟩
    -- at = wrong[0] - 1
    refine ⟨_, rfl, F8, w :: ws, 0, w, hw.m g8.i, rfl, rfl, fun z hz => ?_⟩
    have ez : z = .int (w : Int) := hz
    subst ez
    refine ⟨_, _, rfl, rfl, ?_⟩
    obtain ⟨p, rfl⟩ : ∃ p, w = p + 1 := ⟨w - 1, by omega⟩
    have ew : ((p + 1 : Nat) : Int) - 1 = (p : Int) := by omega
    show gName 5 (V.int (((p + 1 : Nat) : Int) - 1)) _ _ _
    rw [ew]
    have hp1 : p + 1 < now.length := by omega
    -- now[at], now[at + 1] = now[at + 1], now[at]
    refine ⟨_, rfl, _, rfl, _, _, rfl, rfl, F8, now, p + 1, _, ⟨D, nv, rfl, hD8, ln⟩, by show V.int ((p : Int) + 1) = _; rw [Int.natCast_add]; rfl, some_getD (d := 0) hp1, fun z1 hz1 => ?_⟩
    have e1 : z1 = .int ((now.getD (p + 1) 0 : Nat) : Int) := hz1
    subst e1
    refine ⟨_, rfl, _, rfl, F8, now, p, _, ⟨D, nv, rfl, hD8, ln⟩, rfl, some_getD (d := 0) (by omega), fun z2 hz2 => ?_⟩
    have e2 : z2 = .int ((now.getD p 0 : Nat) : Int) := hz2
    subst e2
    refine ⟨by show 2 ≤ sizeLine; decide, fun tq htq => ?_⟩
    have nDq : D ≠ tq := ne_of_none hD8 htq
    have nfq : fa ≠ tq := ne_of_none hf8 htq
    have g9 := g8.trans (Grow.put (o := .tup [.int ((now.getD (p + 1) 0 : Nat) : Int), .int ((now.getD p 0 : Nat) : Int)]) g8.i htq)
    have s9 := same_upd (o := .tup [.int ((now.getD (p + 1) 0 : Nat) : Int), .int ((now.getD p 0 : Nat) : Int)]) (g8.i.free htq)
    have lnv := ln.len
    refine ⟨tq, _, rfl, SqT.of upd_same, rfl, _, _, rfl, _, rfl, _, rfl, D, nv, _, p, rfl, rfl, by rw [upd_ne nDq]; exact hD8, ixN_of (by omega), ?_⟩
    refine ⟨_, _, rfl, _, rfl, _, rfl, _, _, rfl, rfl, D, nv.set p (.int ((now.getD (p + 1) 0 : Nat) : Int)), _, p + 1, rfl, ?_, upd_same, ixN_of (by rw [List.length_set]; omega), rfl, ?_⟩
    · show V.int ((p : Int) + 1) = _; rw [Int.natCast_add]; rfl
    have g10 := (g9.set (o := .lst (nv.set p (.int ((now.getD (p + 1) 0 : Nat) : Int)))) D0 (by rw [upd_ne nDq]; exact fD8)).set (o := .lst ((nv.set p (.int ((now.getD (p + 1) 0 : Nat) : Int))).set (p + 1) (.int ((now.getD p 0 : Nat) : Int)))) D0 (by rw [upd_ne nDq]; exact fD8)
    have fD10 : (upd F8 tq (.tup [.int ((now.getD (p + 1) 0 : Nat) : Int), .int ((now.getD p 0 : Nat) : Int)])) D = none := by rw [upd_ne nDq]; exact fD8
    have ff10 : (upd F8 tq (.tup [.int ((now.getD (p + 1) 0 : Nat) : Int), .int ((now.getD p 0 : Nat) : Int)])) fa = none := by rw [upd_ne nfq]; exact ff8
    have ln10 : All2 vN (swapL now p) ((nv.set p (.int ((now.getD (p + 1) 0 : Nat) : Int))).set (p + 1) (.int ((now.getD p 0 : Nat) : Int))) (upd F8 tq (.tup [.int ((now.getD (p + 1) 0 : Nat) : Int), .int ((now.getD p 0 : Nat) : Int)])) :=
      ((ln.mo s9).set (x := now.getD (p + 1) 0) rfl p).set (x := now.getD p 0) rfl (p + 1)
    -- found.append(at)
    refine ⟨_, rfl, .inl ⟨rfl, _, SqL.of (by rw [upd_ne (Ne.symm nDf), upd_ne (Ne.symm nDf), upd_ne nfq]; exact hf8)⟩, _, rfl, fa, _, _, rfl, rfl, by rw [upd_ne (Ne.symm nDf), upd_ne (Ne.symm nDf), upd_ne nfq]; exact hf8, small_of (by rw [List.length_map]; omega), ?_⟩
    have g11 := g10.set (o := .lst ((done.map fun n : Nat => V.int (n : Int)) ++ [.int (p : Int)])) fa0 ff10
    have hD11 := upd_same (H := upd (upd H8 tq (.tup [.int ((now.getD (p + 1) 0 : Nat) : Int), .int ((now.getD p 0 : Nat) : Int)])) D (.lst (nv.set p (.int ((now.getD (p + 1) 0 : Nat) : Int))))) (a := D) (o := .lst ((nv.set p (.int ((now.getD (p + 1) 0 : Nat) : Int))).set (p + 1) (.int ((now.getD p 0 : Nat) : Int))))
    have sl : (swapL now p).length = now.length := swapL_len now p
    -- wrong = [spot for spot in range(1, len(now)) if now[spot - 1] > now[spot]]
    refine ⟨_, rfl, _, _, _, rfl, ⟨D, _, rfl, by rw [upd_ne nDf]; exact hD11, ln10⟩, 1, (((swapL now p).length : Nat) : Int), rfl, ⟨by decide, by decide, by omega, by omega⟩, fun D3 hD3 => ?_⟩
    refine lcAB (a := 1) (b := (swapL now p).length) (q := vN) (f := id) (t := fun a => decide ((swapL now p).getD (a - 1) 0 > (swapL now p).getD a 0)) g11.i hD3 (by omega) ?_ ?_
    · intro x y F' H' hxm g hxy N Y hN hY
      have ey : y = .int (x : Int) := hxy
      subst ey
      rw [List.mem_range'_1] at hxm
      have vm : vM vN (swapL now p) (.ref D) F' H' := ⟨D, _, rfl, g.h _ _ (by rw [upd_ne nDf]; exact hD11), ln10.mo g.f⟩
      refine ⟨rfl, _, rfl, _, rfl, _, _, rfl, rfl, F', _, x - 1, _, vm, ?_, some_getD (d := 0) (by omega), fun z1 hz1 => ⟨_, rfl, _, rfl, F', _, x, _, vm, rfl, some_getD (d := 0) (by omega), fun z2 hz2 => ⟨_, _, hz1, hz2, _, rfl, ?_⟩⟩⟩
      · show V.int ((x : Int) - 1) = _
        congr 1
        omega
      · have e : decide ((((swapL now p).getD (x - 1) 0 : Nat) : Int) > (((swapL now p).getD x 0 : Nat) : Int)) = decide ((swapL now p).getD (x - 1) 0 > (swapL now p).getD x 0) := decide_eq_decide.mpr (by omega)
        rw [e]
        exact iteB (fun ht => ⟨_, rfl, hY _ _ _ (Grow.refl g.i) ht rfl⟩) fun ht => hN _ _ (Grow.refl g.i) ht
    intro F12 H12 g12 hl12
    rw [List.map_id] at hl12
    have hl12 : vL vN (wrongL (swapL now p)) (.ref D3) F12 := hl12
    have hD12 := g12.h D _ (by rw [upd_ne nDf]; exact hD11)
    have hf12 := g12.h fa _ upd_same
    refine ⟨m, by omega, F12, swapL now p, done ++ [p], r', _, _, _, rfl, g11.trans g12, g12.out (by rw [upd_ne nDf]; exact hD11) fD10, g12.out upd_same ff10, hD12, by rw [hf12, List.map_append]; rfl, ln10.mo g12.f, hl12, ex', by rw [← er]; simp, by omega, by rw [List.length_append]; show done.length + 1 + m ≤ 1000; omega⟩
end
end Elk
set_option Elab.async false
set_option linter.all false
set_option maxRecDepth 100000
set_option maxHeartbeats 4000000
namespace Elk
open PySem PySem.Spec PyProof.Rows L2
theorem fmodN (a : Int) {b : Int} (h : 0 < b) : ∃ n : Nat, a.fmod b = (n : Int) ∧ (n : Int) < b := by
  have h1 := Int.fmod_nonneg_of_pos a h
  have h2 := Int.fmod_lt_of_pos a h
  exact ⟨(a.fmod b).toNat, by omega, by omega⟩
theorem cutV_01 (xs : List V) : cutV xs (some 0) (some (0 + 1)) = xs.take 1 := by
  have h0 : HT.sIx xs.length 0 (some ((0 : Nat) : Int)) = min 0 xs.length := HT.sIx_nat ..
  have h1 : HT.sIx xs.length xs.length (some ((1 : Nat) : Int)) = min 1 xs.length := HT.sIx_nat ..
  show (xs.drop (HT.sIx xs.length 0 (some ((0 : Nat) : Int)))).take (HT.sIx xs.length xs.length (some ((1 : Nat) : Int)) - HT.sIx xs.length 0 (some ((0 : Nat) : Int))) = _
  rw [h0, h1]
  cases xs <;> simp
def sp_law_purse (K : W.Frag) : Sp := fun vs H Q _ => ∃ (F : Hp) (a : Addr) (ns : List Int), vs = [.ref a, .int 0] ∧ Same F H ∧ SqL K H a (ns.map V.int) ∧ ∀ q F' H', Grow F H F' H' → HasP q 0 F' H' → H q = none → Q (.ref q) H'
def sp_law_mixed : Sp := Pm (ι := Nat × Nat) (fun i vs _ => vs = [.int (i.1 : Int), .int (i.2 : Int), .int 0] ∧ i.1 < 2147483648 ∧ i.2 ≤ 1000000) (fun _ v _ => ∃ r : Nat, v = .int (r : Int) ∧ r < 2147483648)
def sp_law_draw : Sp := PPm 1 (ι := Nat) (fun m us _ => us = [.int (m : Int)] ∧ 1 ≤ m ∧ m ≤ 1000) (fun m v _ => ∃ r : Nat, r < m ∧ v = .int (r : Int))
def sp_law_shuffled : Sp := PPm 20 (ι := List Str) (fun xs us F => ∃ v, us = [v] ∧ vL vS xs v F ∧ xs.length ≤ 20) (fun xs v F => ∃ ys : List Str, ys.Perm xs ∧ vL vS ys v F)
section
variable {P : Program} {w : World} {K : W.Frag} {mg : Str → Option Value} {base : Heap}
abbrev N_law_purse : List Str := ["_law_script", "_law_at", "_law_seed"]
theorem sc_law_purse : FnScope N_law_purse ["_law_script", "_law_at"] (defScope s_law_purse) := ⟨rfl, rfl, rfl, by decide +kernel, rfl, by decide +kernel, by decide +kernel⟩
theorem ok_law_purse (T : Tp K mg) : Ok P w K mg base 1 (He.ga K "_law_purse") ["_law_script", "_law_at"] (sp_law_purse K) := by
  refine mk_ok (F_law_purse T) sc_law_purse ?_ (fun _ _ _ _ _ _ us hl => match us, hl with | [_, _], _ => rfl) (fun cdv A outer s H vs Q E hr h => ?_)
  · rintro vs H Q E ⟨F, a, ns, rfl, _⟩
    rfl
  obtain ⟨F, a, ns, rfl, sm, ha, k⟩ := h
  refine ⟨_, (pss_cons (ps_set (i := 2) sc_law_purse.nd rfl (by first | exact Or.inl rfl | exact Or.inr rfl) (pe_callB (cr_sum rfl) (by rfl) (n_sum T) (by decide +kernel) (pa_cons (pe_slice sl_list (pv 0) (po_some (pv 1)) (po_some (pe_op op_add (pv 1) pe_int))) pa_nil)))
    (pss_one (ps_ret (pe_lst (pa_cons (pe_op op_modN (pe_callB (call_max2 rfl) (by rfl) (n_max T) (by decide +kernel) (pa_cons (pe_op op_sub (pv 2) (pe_op op_pow pe_int pe_int)) (pa_cons pe_int pa_nil))) (pe_op op_powW (pe_op op_pow pe_int pe_int) pe_int)) (pa_cons (pe_op op_modN (pv 2) pe_int) (pa_cons pe_int (pa_cons (pv 1) pa_nil)))))))), ?_⟩
  refine ⟨_, rfl, _, rfl, _, rfl, _, rfl, _, _, rfl, rfl, _, rfl, a, _, rfl, ha, fun q hq => ?_⟩
  have g1 := Grow.put (o := .lst (cutV (ns.map V.int) (some 0) (some (0 + 1)))) sm hq
  refine ⟨q, ns.take 1, rfl, SqL.of (by rw [upd_same, cutV_01, List.map_take]), ?_⟩
  generalize (ns.take 1).sum = sd
  refine ⟨_, rfl, _, _, rfl, rfl, ⟨by decide, by decide, by decide⟩, _, _, rfl, rfl, _, _, rfl, _, _, rfl, rfl, ⟨by decide, by decide, by decide⟩, _, _, rfl, rfl, ⟨by decide, by decide +kernel⟩, _, _, rfl, rfl, by show ((10 ^ (60 : Int).toNat) ^ (8 : Int).toNat : Int) ≠ 0; decide +kernel, ?_⟩
  obtain ⟨p0, e0, _⟩ := fmodN (if 0 > sd - 10 ^ (18 : Int).toNat then (0 : Int) else sd - 10 ^ (18 : Int).toNat) (b := (10 ^ (60 : Int).toNat) ^ (8 : Int).toNat) (by decide +kernel)
  obtain ⟨p1, e1, h1⟩ := fmodN sd (b := 2147483629) (by decide)
  refine ⟨_, rfl, _, _, rfl, rfl, by show (2147483629 : Int) ≠ 0; decide, _, rfl, by show 4 ≤ sizeLine; decide, fun r hr => ?_⟩
  have g2 := g1.trans (Grow.new (o := .lst [.int (p0 : Int), .int (p1 : Int), .int 0, .int 0]) g1.i hr)
  have k' := k r _ _ g2 ⟨g2.i, g1.i.free hr, _, upd_same, p0, p1, 0, rfl, by omega, Nat.le_refl _⟩ (g1.h.free hr)
  rw [← e0, ← e1] at k'
  exact k'
abbrev N_law_mixed : List Str := ["_law_seed", "_law_turn", "_law_at", "_law_mixed_here"]
theorem sc_law_mixed : FnScope N_law_mixed ["_law_seed", "_law_turn", "_law_at"] (defScope s_law_mixed) := ⟨rfl, rfl, rfl, by decide +kernel, rfl, by decide +kernel, by decide +kernel⟩
theorem ok_law_mixed (T : Tp K mg) : Ok P w K mg base 1 (He.ga K "_law_mixed") ["_law_seed", "_law_turn", "_law_at"] sp_law_mixed := by
  refine mk_ok (F_law_mixed T) sc_law_mixed ?_ (fun _ _ _ _ _ _ us hl => match us, hl with | [_, _, _], _ => rfl) (fun cdv A outer s H vs Q E hr h => ?_)
  · rintro vs H Q E ⟨i, F, _, ⟨rfl, _⟩, _⟩
    rfl
  obtain ⟨⟨sd, tn⟩, F, sm, ⟨rfl, h1, h2⟩, k⟩ := h
  refine ⟨_, (pss_cons (ps_set (i := 3) sc_law_mixed.nd rfl (by first | exact Or.inl rfl | exact Or.inr rfl) (pe_op op_add (pe_op op_mul (pv 0) pe_int) (pe_op op_mul (pe_op op_mul pe_int (pv 1)) (pv 1))))
    (pss_cons (ps_set (i := 3) sc_law_mixed.nd rfl (by first | exact Or.inl rfl | exact Or.inr rfl) (pe_op op_modN (pe_op op_add (pe_op op_add (pv 3) (pe_op op_mul pe_int (pv 2))) (pv 1)) pe_int))
    (pss_cons (ps_set (i := 3) sc_law_mixed.nd rfl (by first | exact Or.inl rfl | exact Or.inr rfl) (pe_op op_modN (pe_op op_add (pe_op op_mul (pv 3) (pv 3)) pe_int) pe_int))
    (pss_one (ps_ret (pe_op op_modN (pe_op op_mul (pv 3) pe_int) pe_int)))))), ?_⟩
  have h1 : sd < 2147483648 := h1
  have h2 : tn ≤ 1000000 := h2
  refine ⟨_, rfl, _, _, rfl, rfl, .inr ⟨by decide, by decide⟩, _, rfl, _, _, rfl, rfl, .inl ⟨by decide, by decide⟩, _, rfl, _, _, rfl, rfl, .inr ⟨by show -(2 ^ 64) < (tn : Int); omega, by show (tn : Int) < 2 ^ 64; omega⟩, _, _, rfl, rfl, ?_⟩
  refine ⟨_, rfl, _, rfl, _, _, rfl, rfl, .inl ⟨by decide, by decide⟩, _, _, rfl, rfl, _, rfl, _, _, rfl, rfl, _, _, rfl, rfl, by show (2147483647 : Int) ≠ 0; decide, ?_⟩
  obtain ⟨x1, e1, b1⟩ := fmodN ((sd : Int) * 69069 + 104729 * (tn : Int) * (tn : Int) + 7919 * 0 + (tn : Int)) (b := 2147483647) (by decide)
  show gName 3 (V.int (((sd : Int) * 69069 + 104729 * (tn : Int) * (tn : Int) + 7919 * 0 + (tn : Int)).fmod 2147483647)) _ _ _
  rw [e1]
  refine ⟨_, rfl, _, rfl, _, _, rfl, rfl, .inl ⟨by omega, by omega⟩, _, _, rfl, rfl, _, _, rfl, rfl, by show (2147483629 : Int) ≠ 0; decide, ?_⟩
  obtain ⟨x2, e2, b2⟩ := fmodN ((x1 : Int) * (x1 : Int) + 40503) (b := 2147483629) (by decide)
  show gName 3 (V.int (((x1 : Int) * (x1 : Int) + 40503).fmod 2147483629)) _ _ _
  rw [e2]
  refine ⟨_, rfl, _, _, rfl, rfl, .inr ⟨by decide, by decide⟩, _, _, rfl, rfl, by show (2147483587 : Int) ≠ 0; decide, ?_⟩
  obtain ⟨x3, e3, b3⟩ := fmodN ((x2 : Int) * 48271) (b := 2147483587) (by decide)
  exact k _ _ _ (Grow.refl sm) ⟨x3, by show V.int (((x2 : Int) * 48271).fmod 2147483587) = _; rw [e3], by omega⟩
abbrev N_law_draw : List Str := ["_law_purse_here", "_law_many", "_law_found", "_law_piece", "_law_drawn"]
theorem sc_law_draw : FnScope N_law_draw ["_law_purse_here", "_law_many"] (defScope s_law_draw) := ⟨rfl, rfl, rfl, by decide +kernel, rfl, by decide +kernel, by decide +kernel⟩
theorem ok_law_draw (T : Tp K mg) : Ok P w K mg base 2 (He.ga K "_law_draw") ["_law_purse_here", "_law_many"] sp_law_draw := by
  obtain ⟨fd_law_mixed, G_law_mixed, b_law_mixed, k_law_mixed⟩ := ok_law_mixed (P := P) (w := w) (base := base) T
  refine mk_ok (F_law_draw T) sc_law_draw ?_ (fun _ _ _ _ _ _ us hl => match us, hl with | [_, _], _ => rfl) (fun cdv A outer s H vs Q E hr h => ?_)
  · rintro vs H Q E ⟨i, F, pa, n, us, rfl, _, _, ⟨rfl, _⟩, _⟩
    rfl
  obtain ⟨m, F, pa, n, us, rfl, hp, hn, ⟨rfl, h1, h2⟩, k⟩ := h
  refine ⟨_, (pss_cons (ps_if (pt_cmpR op_gt (pe_ix ix_list (pv 0) pe_int (fun _ _ => rfl)) pe_int (nomark _))
      (pss_cons (ps_set (i := 4) sc_law_draw.nd rfl (by first | exact Or.inl rfl | exact Or.inr rfl) (pe_op op_modN (pe_ix ix_list (pv 0) pe_int (fun _ _ => rfl)) (pv 1)))
      (pss_cons (ps_asg (pe_op op_fdivNN (pe_ix ix_list (pv 0) pe_int (fun _ _ => rfl)) (pv 1)) (pg_sub (pv 0) pe_int set_list))
      (pss_one (ps_ret (pv 4)))))
      pss_nil)
    (pss_cons (ps_set (i := 2) sc_law_draw.nd rfl (by first | exact Or.inl rfl | exact Or.inr rfl) pe_int)
    (pss_cons (ps_for PassesOwn.never rfl (pi_range1 rfl (n_range T) (pa_cons (pe_op op_add pe_int (pe_op op_fdivNN (pe_bits (pv 1)) pe_int)) pa_nil)) (pg_name (i := 3) sc_law_draw.nd rfl (by first | exact Or.inl rfl | exact Or.inr rfl))
      (pss_cons (ps_asg (pe_op op_add (pe_ix ix_list (pv 0) pe_int (fun _ _ => rfl)) pe_int) (pg_sub (pv 0) pe_int set_list))
      (pss_one (ps_set (i := 2) sc_law_draw.nd rfl (by first | exact Or.inl rfl | exact Or.inr rfl) (pe_op op_add (pe_op op_mul (pv 2) pe_int) (pe_call G_law_mixed (hr.mono (by decide)) rfl (g_law_mixed T) k_law_mixed b_law_mixed .nil pass0 (pa_cons (pe_ix ix_list (pv 0) pe_int (fun _ _ => rfl)) (pa_cons (pe_ix ix_list (pv 0) pe_int (fun _ _ => rfl)) (pa_cons (pe_ix ix_list (pv 0) pe_int (fun _ _ => rfl)) pa_nil)))))))))
    (pss_one (ps_ret (pe_op op_modN (pv 2) (pv 1))))))), ?_⟩
  obtain ⟨xs, hx, p0, p1, p2, rfl, b1, b2⟩ := hp.h
  have sm := hp.s
  have hm0 : (m : Int) ≠ 0 := by omega
  refine ⟨_, rfl, pa, _, 0, _, rfl, rfl, SqL.of hx, rfl, _, _, rfl, rfl, _, rfl, iteB (fun hb => ?_) (fun hb => ?_)⟩
  · refine ⟨_, rfl, pa, _, 0, _, rfl, rfl, SqL.of hx, rfl, _, rfl, _, _, rfl, rfl, hm0, ?_⟩
    refine ⟨_, rfl, pa, _, 0, _, rfl, rfl, SqL.of hx, rfl, _, rfl, p0, m, rfl, rfl, ⟨h1, by omega⟩, ?_⟩
    refine ⟨_, rfl, pa, _, 0, 0, rfl, rfl, hx, rfl, ?_⟩
    obtain ⟨r, e, b⟩ := fmodN (p0 : Int) (b := (m : Int)) (by omega)
    refine ⟨_, rfl, ?_⟩
    refine k _ F _ ((Grow.refl sm).putX hx hp.f) ⟨fun b u e => by rw [upd_ne (ne_of_none e hp.f)]; exact sm _ _ e, hp.f, _, upd_same, p0 / m, p1, p2, rfl, b1, by omega⟩ ⟨r, by omega, ?_⟩
    show V.int ((p0 : Int).fmod (m : Int)) = _
    rw [e]
  · have hib : Builtin.Int.intBits (m : Int) ≤ 10 := PyProof.Rows.intBits_le (by omega)
    have h28 : Builtin.Int.intBits (m : Int) / 28 = 0 := Nat.div_eq_of_lt (by omega)
    refine ⟨_, rfl, (m : Int), rfl, Builtin.Int.intBits (m : Int), 28, rfl, rfl, ⟨by decide, by decide⟩, ?_⟩
    rw [h28]
    refine ⟨_, _, rfl, rfl, ?_⟩
    refine ⟨((1 : Nat) : Int), rfl, by decide, by decide, ?_⟩
    refine forN (n := 1) (fun i σ H' => ∃ F' x3, ∃ f : Int, σ = [some (.ref pa), some (.int (m : Int)), some (.int f), x3, none] ∧ GrowX pa F H F' H' ∧ HasP pa (n + i) F' H') ?_ ?_ ?_
    · exact ⟨F, none, 0, rfl, (Grow.refl sm).toX, hp⟩
    · rintro i σ H' hi ⟨F', x3, f, es, g, hp'⟩
      subst es
      obtain ⟨xs, hx, p0, p1, p2, rfl, b1, b2⟩ := hp'.h
      refine ⟨_, rfl, pa, _, 2, _, rfl, rfl, SqL.of hx, rfl, _, _, rfl, rfl, _, rfl, pa, _, 2, 2, rfl, rfl, hx, rfl, ?_⟩
      have hq : HasP pa (n + (i + 1)) F' (upd H' pa (.lst [.int (p0 : Int), .int (p1 : Int), .int ((p2 : Int) + 1), .int 0])) := ⟨fun b u e => by rw [upd_ne (ne_of_none e hp'.f)]; exact hp'.s _ _ e, hp'.f, _, upd_same, p0, p1, p2 + 1, by rw [Int.natCast_add]; rfl, b1, by omega⟩
      refine ⟨_, rfl, _, _, rfl, rfl, .inr ⟨by decide, by decide⟩, ?_⟩
      refine ⟨_, rfl, pa, _, 1, _, rfl, rfl, SqL.of upd_same, rfl, _, rfl, pa, _, 2, _, rfl, rfl, SqL.of upd_same, rfl, _, rfl, pa, _, 3, _, rfl, rfl, SqL.of upd_same, rfl, ?_⟩
      refine ⟨(p1, p2 + 1), F', hq.s, ⟨by rw [Int.natCast_add]; rfl, b1, by show p2 + 1 ≤ 1000000; omega⟩, fun v F2 H2 g2 hv => ?_⟩
      obtain ⟨r, ev, hr2⟩ := hv
      subst ev
      exact ⟨_, _, rfl, rfl, F2, _, _, rfl, (g.setX hp'.f).grow g2, hq.grow g2⟩
    · rintro σ H' ⟨F', x3, f, es, g, hp'⟩
      subst es
      obtain ⟨r, e, b⟩ := fmodN f (b := (m : Int)) (by omega)
      refine ⟨_, rfl, _, rfl, _, _, rfl, rfl, hm0, ?_⟩
      exact k _ _ _ g hp' ⟨r, by omega, by show V.int (f.fmod (m : Int)) = _; rw [e]⟩
abbrev N_law_shuffled : List Str := ["_law_purse_here", "_law_some", "_law_found", "_law_item"]
theorem sc_law_shuffled : FnScope N_law_shuffled ["_law_purse_here", "_law_some"] (defScope s_law_shuffled) := ⟨rfl, rfl, rfl, by decide +kernel, rfl, by decide +kernel, by decide +kernel⟩
theorem ok_law_shuffled (T : Tp K mg) : Ok P w K mg base 3 (He.ga K "_law_shuffled") ["_law_purse_here", "_law_some"] sp_law_shuffled := by
  obtain ⟨fd_law_draw, G_law_draw, b_law_draw, k_law_draw⟩ := ok_law_draw (P := P) (w := w) (base := base) T
  refine mk_ok (F_law_shuffled T) sc_law_shuffled ?_ (fun _ _ _ _ _ _ us hl => match us, hl with | [_, _], _ => rfl) (fun cdv A outer s H vs Q E hr h => ?_)
  · rintro vs H Q E ⟨i, F, pa, n, us, rfl, _, _, ⟨v, rfl, _⟩, _⟩
    rfl
  obtain ⟨xs, F, pa, n, us, rfl, hp, hn, ⟨v, rfl, hv, hl⟩, k⟩ := h
  refine ⟨_, (pss_cons (ps_set (i := 2) sc_law_shuffled.nd rfl (by first | exact Or.inl rfl | exact Or.inr rfl) (pe_lst pa_nil))
    (pss_cons (ps_for PassesOwn.never rfl (pi_list (pv 1)) (pg_name (i := 3) sc_law_shuffled.nd rfl (by first | exact Or.inl rfl | exact Or.inr rfl))
      (pss_one (ps_expr (pe_bm PySem.F.plainAttrs_list PySem.F.slot_list_insert PySem.F.type_list_insert mt_insert (pv 2) (pa_cons (pe_call G_law_draw (hr.mono (by decide)) rfl (g_law_draw T) k_law_draw b_law_draw .nil pass0 (pa_cons (pv 0) (pa_cons (pe_op op_add (pe_callB (call_lenL vS) (by rfl) (n_len T) (by decide +kernel) (pa_cons (pv 2) pa_nil)) pe_int) pa_nil))) (pa_cons (pv 3) pa_nil))))))
    (pss_one (ps_ret (pv 2))))), ?_⟩
  obtain ⟨a, vs, rfl, ha, l⟩ := hv
  have evs := all2S.mp l
  subst evs
  have sm := hp.s
  refine ⟨Nat.zero_le _, fun fa hfa => ?_⟩
  have g1 := Grow.new (o := .lst []) sm hfa
  have fF := sm.free hfa
  obtain ⟨pxs, hpx, _⟩ := id hp.h
  have nfp : fa ≠ pa := fun e => by rw [e, hpx] at hfa; cases hfa
  refine ⟨_, rfl, a, rfl, ⟨_, SqL.of (g1.i _ _ ha)⟩, ?_⟩
  refine for_list (xs := xs.map V.str) (fun i σ H' => ∃ F', ∃ (acc : List Str) (x3 : Option V), σ = [some (.ref pa), some (.ref a), some (.ref fa), x3] ∧ GrowX pa F H F' H' ∧ HasP pa (n + i) F' H' ∧ F' fa = none ∧ H' fa = some (.lst (acc.map V.str)) ∧ acc.Perm (xs.take i)) ?_ ?_ ?_ ?_
  · exact ⟨F, [], none, rfl, g1.toX, hp.grow g1, fF, upd_same, .refl _⟩
  · rintro i σ H' _ ⟨F', acc, x3, es, g, hp', ff, hf, pm⟩
    exact SqL.of (g.i _ _ (g.f _ _ ha))
  · rintro i y σ H' hy ⟨F', acc, x3, es, g, hp', ff, hf, pm⟩
    subst es
    rw [List.getElem?_map] at hy
    obtain ⟨z, hz, ez⟩ := Option.map_eq_some_iff.mp hy
    subst ez
    have hi : i < xs.length := (List.getElem?_eq_some_iff.mp hz).1
    have hal : acc.length = i := by rw [pm.length_eq, List.length_take]; omega
    have tk : xs.take (i + 1) = xs.take i ++ [z] := by rw [List.take_succ, hz]; rfl
    refine ⟨_, rfl, .inl ⟨rfl, _, SqL.of hf⟩, _, rfl, _, rfl, F', _, acc, rfl, ⟨fa, _, rfl, hf, all2S.mpr rfl⟩, _, _, rfl, rfl, ?_⟩
    refine ⟨acc.length + 1, F', pa, n + i, _, rfl, hp', by omega, ⟨by rw [Int.natCast_add]; rfl, by omega, by omega⟩, fun v F2 H2 g2 hp2 hv => ?_⟩
    obtain ⟨r, hr2, ev⟩ := hv
    subst ev
    have hf2 := g2.h _ _ hf nfp
    have ff2 := g2.out hf nfp ff
    refine ⟨_, rfl, fa, acc.map V.str, (r : Int), .str z, rfl, rfl, hf2, small_of (by rw [List.length_map]; omega), by omega, by omega, ?_⟩
    refine ⟨F2, acc.take r ++ [z] ++ acc.drop r, _, rfl, (g.trans g2).set hfa ff2, hp2.set nfp ff2, ff2, ?_, ?_⟩
    · rw [upd_same, Int.toNat_natCast, List.map_append, List.map_append, List.map_take, List.map_drop]; rfl
    · rw [tk]
      have p1 : (acc.take r ++ [z] ++ acc.drop r).Perm (z :: (acc.take r ++ acc.drop r)) := by
        rw [List.append_assoc]
        exact List.perm_middle
      rw [List.take_append_drop] at p1
      exact p1.trans ((pm.cons z).trans (List.perm_append_singleton z _).symm)
  · rintro σ H' ⟨F', acc, x3, es, g, hp', ff, hf, pm⟩
    subst es
    rw [List.length_map] at hp' pm
    rw [List.take_of_length_le (Nat.le_refl _)] at pm
    refine ⟨_, rfl, k _ _ _ (g.keep hfa hf) ((hp'.keep nfp ff hf).mono (by omega)) ⟨acc, pm, fa, _, rfl, upd_same, all2S.mpr rfl⟩⟩
end
end Elk
set_option Elab.async false
set_option linter.all false
set_option maxRecDepth 100000
set_option maxHeartbeats 4000000
namespace Elk
open PySem PySem.Spec PyProof.Rows L2
def nameB (z : Str) : Bool := decide (1 ≤ z.length) && decide (z.length ≤ 10) && z.cps.toList.all fun c => decide (c ∈ lowerS.cps.toList)
theorem nameB_ok {z : Str} (h : nameB z = true) : NameOk z := by
  unfold nameB at h
  rw [Bool.and_eq_true, Bool.and_eq_true] at h
  obtain ⟨⟨h1, h2⟩, h3⟩ := h
  exact ⟨of_decide_eq_true h1, of_decide_eq_true h2, fun c hc => of_decide_eq_true (List.all_eq_true.mp h3 c hc)⟩
def names8 : List Str := ["ann", "a", "ab", "b", "none", "nobody", "end", "zzzzzzzzzz"]
def kinds7 : List Str := ["a", "ab", "b", "o", "none", "ann", "aaaaaaaaaa"]
theorem names8_ok : (∀ z ∈ names8, NameOk z) ∧ names8.Nodup :=
  ⟨fun z hz => nameB_ok (List.all_eq_true.mp (show names8.all nameB = true by decide +kernel) z hz), by decide +kernel⟩
theorem kinds7_ok : (∀ z ∈ kinds7, NameOk z) ∧ kinds7.Nodup :=
  ⟨fun z hz => nameB_ok (List.all_eq_true.mp (show kinds7.all nameB = true by decide +kernel) z hz), by decide +kernel⟩
def withNew (xs : List Str) (z : Str) : List Str := xs ++ [z].filter fun y => decide (y ∉ xs)
theorem withNew_ok {xs : List Str} {z : Str} (h : (∀ z ∈ xs, NameOk z) ∧ xs.Nodup) (hz : NameOk z) : (∀ y ∈ withNew xs z, NameOk y) ∧ (withNew xs z).Nodup := by
  unfold withNew
  by_cases e : z ∈ xs
  · have : ([z].filter fun y => decide (y ∉ xs)) = [] := by simp [e]
    rw [this, List.append_nil]
    exact h
  · have : ([z].filter fun y => decide (y ∉ xs)) = [z] := by simp [e]
    rw [this]
    refine ⟨fun y hy => (List.mem_append.mp hy).elim (h.1 y) fun q => List.mem_singleton.mp q ▸ hz, List.nodup_append.mpr ⟨h.2, List.pairwise_singleton _ _, fun a ha b hb q => e ?_⟩⟩
    rw [List.mem_singleton] at hb
    rw [← hb, ← q]
    exact ha
theorem withNew_len (xs : List Str) (z : Str) : xs.length ≤ (withNew xs z).length ∧ (withNew xs z).length ≤ xs.length + 1 := by
  unfold withNew
  rw [List.length_append]
  have := List.length_filter_le (fun y => decide (y ∉ xs)) [z]
  rw [List.length_singleton] at this
  omega
structure TakenOk (m : Nat) (zs : List Str) : Prop where
  nd : zs.Nodup
  ok : ∀ z ∈ zs, NameOk z
  len : zs.length = m
def sp_law_word : Sp := PPm 11 (ι := Unit) (fun _ us _ => us = []) (fun _ v _ => ∃ z, v = .str z ∧ NameOk z)
def sp_law_names : Sp := PPm 40 (ι := Nat) (fun m us F => us = [.int (m : Int)] ∧ m ≤ 8) (fun m v F => ∃ zs, vL vS zs v F ∧ TakenOk m zs)
def sp_law_kinds : Sp := PPm 40 (ι := Nat) (fun m us F => us = [.int (m : Int)] ∧ m ≤ 7) (fun m v F => ∃ zs, vL vS zs v F ∧ TakenOk m zs)
section
variable {P : Program} {w : World} {K : W.Frag} {mg : Str → Option Value} {base : Heap}
abbrev N_law_word : List Str := ["_law_purse_here", "_law_found", "_law_turn"]
theorem sc_law_word : FnScope N_law_word ["_law_purse_here"] (defScope s_law_word) := ⟨rfl, rfl, rfl, by decide +kernel, rfl, by decide +kernel, by decide +kernel⟩
theorem ok_law_word (T : Tp K mg) : Ok P w K mg base 3 (He.ga K "_law_word") ["_law_purse_here"] sp_law_word := by
  obtain ⟨fd_law_draw, G_law_draw, b_law_draw, k_law_draw⟩ := ok_law_draw (P := P) (w := w) (base := base) T
  refine mk_ok (F_law_word T) sc_law_word ?_ (fun _ _ _ _ _ _ us hl => match us, hl with | [_], _ => rfl) (fun cdv A outer s H vs Q E hr h => ?_)
  · rintro vs H Q E ⟨i, F, pa, n, us, rfl, _, _, rfl, _⟩
    rfl
  obtain ⟨_, F, pa, n, us, rfl, hp, hn, rfl, k⟩ := h
  refine ⟨_, (pss_cons (ps_set (i := 1) sc_law_word.nd rfl (by first | exact Or.inl rfl | exact Or.inr rfl) pe_str)
    (pss_cons (ps_for PassesOwn.never rfl (pi_range1 rfl (n_range T) (pa_cons (pe_op op_add pe_int (pe_call G_law_draw (hr.mono (by decide)) rfl (g_law_draw T) k_law_draw b_law_draw .nil pass0 (pa_cons (pv 0) (pa_cons pe_int pa_nil)))) pa_nil)) (pg_name (i := 2) sc_law_word.nd rfl (by first | exact Or.inl rfl | exact Or.inr rfl))
      (pss_one (ps_set (i := 1) sc_law_word.nd rfl (by first | exact Or.inl rfl | exact Or.inr rfl) (pe_op op_add_str (pv 1) (pe_ix ix_str pe_str (pe_call G_law_draw (hr.mono (by decide)) rfl (g_law_draw T) k_law_draw b_law_draw .nil pass0 (pa_cons (pv 0) (pa_cons pe_int pa_nil))) (fun _ _ => rfl))))))
    (pss_one (ps_ret (pv 1))))), ?_⟩
  have sm := hp.s
  refine ⟨_, rfl, 10, F, pa, n, _, rfl, hp, by omega, ⟨rfl, by decide, by decide⟩, fun v F1 H1 g1 hp1 hv => ?_⟩
  obtain ⟨r, hr1, ev⟩ := hv
  subst ev
  refine ⟨_, _, rfl, rfl, ((1 + r : Nat) : Int), by rw [Int.natCast_add]; rfl, by omega, by omega, ?_⟩
  refine forN (n := 1 + r) (fun i σ H' => ∃ F', ∃ (z : Str) (x2 : Option V), σ = [some (.ref pa), some (.str z), x2] ∧ GrowX pa F H F' H' ∧ HasP pa (n + 1 + i) F' H' ∧ z.length = i ∧ ∀ c ∈ z.cps.toList, c ∈ lowerS.cps.toList) ?_ ?_ ?_
  · exact ⟨F1, _, none, rfl, g1, hp1, rfl, fun c hc => absurd hc List.not_mem_nil⟩
  · rintro i σ H' hi ⟨F', z, x2, es, g, hp', hz, hs⟩
    subst es
    refine ⟨_, rfl, _, rfl, 26, F', pa, n + 1 + i, _, rfl, hp', by omega, ⟨rfl, by decide, by decide⟩, fun v F2 H2 g2 hp2 hv => ?_⟩
    obtain ⟨q, hq, ev⟩ := hv
    subst ev
    have hq : q < lowerS.cps.toList.length := hq
    refine ⟨lowerS, (q : Int), lowerS.cps.toList[q], rfl, rfl, by show 26 ≤ sizeLine; decide, atI_nat (List.getElem?_eq_getElem hq), ?_⟩
    refine ⟨_, _, rfl, rfl, ?_, ?_⟩
    · show z.length + 1 ≤ sizeLine
      have := small_of (n := 100) (by decide)
      omega
    · refine ⟨F2, _, _, rfl, g.trans g2, hp2, ?_, ?_⟩
      · have h1 : z.cps.size = i := hz
        show (z.cps ++ #[lowerS.cps.toList[q]]).size = i + 1
        rw [Array.size_append, h1]; rfl
      · intro c hc
        have e : (z ++ { cps := #[lowerS.cps.toList[q]] } : Str).cps.toList = z.cps.toList ++ [lowerS.cps.toList[q]] := by
          show (z.cps ++ #[lowerS.cps.toList[q]]).toList = _
          simp
        rw [e] at hc
        exact (List.mem_append.mp hc).elim (hs c) fun w => by rw [List.mem_singleton.mp w]; exact List.getElem_mem _
  · rintro σ H' ⟨F', z, x2, es, g, hp', hz, hs⟩
    subst es
    exact ⟨_, rfl, k _ _ _ g (hp'.mono (by omega)) ⟨z, rfl, by omega, by omega, hs⟩⟩
abbrev N_law_names : List Str := ["_law_purse_here", "_law_many", "_law_some", "_law_fresh", "_law_word_here"]
theorem sc_law_names : FnScope N_law_names ["_law_purse_here", "_law_many"] (defScope s_law_names) := ⟨rfl, rfl, rfl, by decide +kernel, rfl, by decide +kernel, by decide +kernel⟩
theorem ok_law_names (T : Tp K mg) : Ok P w K mg base 4 (He.ga K "_law_names") ["_law_purse_here", "_law_many"] sp_law_names := by
  obtain ⟨fd_law_word, G_law_word, b_law_word, k_law_word⟩ := ok_law_word (P := P) (w := w) (base := base) T
  obtain ⟨fd_law_shuffled, G_law_shuffled, b_law_shuffled, k_law_shuffled⟩ := ok_law_shuffled (P := P) (w := w) (base := base) T
  refine mk_ok (F_law_names T) sc_law_names ?_ (fun _ _ _ _ _ _ us hl => match us, hl with | [_, _], _ => rfl) (fun cdv A outer s H vs Q E hr h => ?_)
  · rintro vs H Q E ⟨i, F, pa, n, us, rfl, _, _, ⟨rfl, _⟩, _⟩
    rfl
  obtain ⟨m, F, pa, n, us, rfl, hp, hn, ⟨rfl, hm⟩, k⟩ := h
  refine ⟨_, (pss_cons (ps_asg (pe_tup (pa_cons (pe_lst (pa_cons pe_str (pa_cons pe_str (pa_cons pe_str (pa_cons pe_str (pa_cons pe_str (pa_cons pe_str (pa_cons pe_str (pa_cons pe_str pa_nil))))))))) (pa_cons (pe_call G_law_word (hr.mono (by decide)) rfl (g_law_word T) k_law_word b_law_word .nil pass0 (pa_cons (pv 0) pa_nil)) pa_nil))) (pg_tup (by rfl) (pgs_cons (pg_name (i := 2) sc_law_names.nd rfl (by first | exact Or.inl rfl | exact Or.inr rfl)) (pgs_cons (pg_name (i := 3) sc_law_names.nd rfl (by first | exact Or.inl rfl | exact Or.inr rfl)) pgs_nil))))
    (pss_one (ps_ret (pe_slice (sl_F vS) (pe_call G_law_shuffled (hr.mono (by decide)) rfl (g_law_shuffled T) k_law_shuffled b_law_shuffled .nil pass0 (pa_cons (pv 0) (pa_cons (pe_op (op_catF vS) (pv 2) (pe_lc (own := [("_law_word_here", 4)]) (g := gName 4) rfl sc_law_names.nd (pi_list (pe_lst (pa_cons (pv 3) pa_nil))) (blkOk_by (N := N_law_names) (sc := defScope s_law_names) (by decide +kernel)) (fun _ _ _ _ _ => (pg_name (i := 4) sc_law_names.nd rfl (by first | exact Or.inl rfl | exact Or.inr rfl))) (fun _ _ _ _ _ => (pts_one (pt_cmpR (op_notInL vS hr.units) (pv 4) (pv 2) rfl))) (fun _ _ _ _ _ => (pv 4)))) pa_nil))) po_none (po_some (pv 1)))))), ?_⟩
  have sm := hp.s
  refine ⟨by show 8 ≤ sizeLine; decide, fun la hla => ?_⟩
  have g1 := Grow.put (o := .lst (names8.map V.str)) sm hla
  have v1 : vL vS names8 (.ref la) (upd F la (.lst (names8.map V.str))) := ⟨la, _, rfl, upd_same, all2S.mpr rfl⟩
  refine ⟨_, rfl, (), _, pa, n, [], rfl, hp.grow g1, by omega, rfl, fun v F2 H2 g2 hp2 hv => ?_⟩
  obtain ⟨z, ev, hz⟩ := hv
  subst ev
  have v2 := Mo.mo g2.f v1
  have g2 := g1.toX.trans g2
  refine ⟨by show 2 ≤ sizeLine; decide, fun tp htp => ?_⟩
  have g3 := Grow.put (o := .tup [.ref la, .str z]) hp2.s htp
  have v3 := Mo.mo g3.f v2
  have hp3 := hp2.grow g3
  have g3 := g2.grow g3
  refine ⟨tp, _, rfl, SqT.of upd_same, rfl, _, _, rfl, _, _, rfl, rfl, ?_⟩
  refine ⟨_, rfl, _, rfl, _, rfl, by show 1 ≤ sizeLine; decide, fun lb hlb => ?_⟩
  have g4 := Grow.put (o := .lst [.str z]) hp3.s hlb
  have v4 := Mo.mo g4.f v3
  have hp4 := hp3.grow g4
  have g4 := g3.grow g4
  refine ⟨lb, rfl, ⟨_, SqL.of upd_same⟩, fun D hD => ?_⟩
  refine lcL (p := vS) (q := vS) (f := id) (t := fun y => decide (y ∉ names8)) (xs := [z]) hp4.s hD upd_same (.cons rfl .nil) (by show 1 ≤ 100000; decide) ?_ ?_
  · intro y yv F' H' _ g hy N Y hN hY
    refine ⟨rfl, _, rfl, _, rfl, F', y, names8, g.i, hy, (Mo.mo g.f v4).m g.i, _, rfl, ?_⟩
    exact iteB (fun ht => ⟨_, rfl, hY _ _ _ (Grow.refl g.i) ht hy⟩) fun ht => hN _ _ (Grow.refl g.i) ht
  intro F5 H5 g5 hl5
  rw [List.map_id] at hl5
  have v5 := Mo.mo g5.f v4
  have hp5 := hp4.grow g5
  have wl := withNew_len names8 z
  have w8 : names8.length = 8 := rfl
  refine ⟨F5, names8, _, g5.i, v5.m g5.i, hl5.m g5.i, by show 8 + _ ≤ 100000; have := List.length_filter_le (fun y => decide (y ∉ names8)) [z]; rw [List.length_singleton] at this; omega, fun c F6 H6 g6 hc => ?_⟩
  have hc : vL vS (withNew names8 z) c F6 := hc
  refine ⟨withNew names8 z, F6, pa, n + 11, _, rfl, hp5.grow g6, by omega, ⟨c, rfl, hc, by omega⟩, fun s F7 H7 g7 hp7 hs => ?_⟩
  obtain ⟨ys, pm, hs⟩ := hs
  refine ⟨_, rfl, _, rfl, F7, ys, hp7.s, hs.m hp7.s, fun r F8 H8 g8 hr8 => ?_⟩
  rw [cutA__n] at hr8
  have hyl := pm.length_eq
  obtain ⟨wo, wn⟩ := withNew_ok names8_ok hz
  refine k _ _ _ ((((g4.grow g5).grow g6).trans g7).grow g8) ((hp7.grow g8).mono (by omega)) ⟨_, hr8, (pm.nodup_iff.mpr wn).sublist (List.take_sublist _ _), fun y hy => wo y (pm.mem_iff.mp (List.mem_of_mem_take hy)), by rw [List.length_take]; omega⟩
abbrev N_law_kinds : List Str := ["_law_purse_here", "_law_many", "_law_some", "_law_fresh", "_law_word_here"]
theorem sc_law_kinds : FnScope N_law_kinds ["_law_purse_here", "_law_many"] (defScope s_law_kinds) := ⟨rfl, rfl, rfl, by decide +kernel, rfl, by decide +kernel, by decide +kernel⟩
theorem ok_law_kinds (T : Tp K mg) : Ok P w K mg base 4 (He.ga K "_law_kinds") ["_law_purse_here", "_law_many"] sp_law_kinds := by
  obtain ⟨fd_law_word, G_law_word, b_law_word, k_law_word⟩ := ok_law_word (P := P) (w := w) (base := base) T
  obtain ⟨fd_law_shuffled, G_law_shuffled, b_law_shuffled, k_law_shuffled⟩ := ok_law_shuffled (P := P) (w := w) (base := base) T
  refine mk_ok (F_law_kinds T) sc_law_kinds ?_ (fun _ _ _ _ _ _ us hl => match us, hl with | [_, _], _ => rfl) (fun cdv A outer s H vs Q E hr h => ?_)
  · rintro vs H Q E ⟨i, F, pa, n, us, rfl, _, _, ⟨rfl, _⟩, _⟩
    rfl
  obtain ⟨m, F, pa, n, us, rfl, hp, hn, ⟨rfl, hm⟩, k⟩ := h
  refine ⟨_, (pss_cons (ps_asg (pe_tup (pa_cons (pe_lst (pa_cons pe_str (pa_cons pe_str (pa_cons pe_str (pa_cons pe_str (pa_cons pe_str (pa_cons pe_str (pa_cons pe_str pa_nil)))))))) (pa_cons (pe_call G_law_word (hr.mono (by decide)) rfl (g_law_word T) k_law_word b_law_word .nil pass0 (pa_cons (pv 0) pa_nil)) pa_nil))) (pg_tup (by rfl) (pgs_cons (pg_name (i := 2) sc_law_kinds.nd rfl (by first | exact Or.inl rfl | exact Or.inr rfl)) (pgs_cons (pg_name (i := 3) sc_law_kinds.nd rfl (by first | exact Or.inl rfl | exact Or.inr rfl)) pgs_nil))))
    (pss_one (ps_ret (pe_slice (sl_F vS) (pe_call G_law_shuffled (hr.mono (by decide)) rfl (g_law_shuffled T) k_law_shuffled b_law_shuffled .nil pass0 (pa_cons (pv 0) (pa_cons (pe_op (op_catF vS) (pv 2) (pe_lc (own := [("_law_word_here", 4)]) (g := gName 4) rfl sc_law_kinds.nd (pi_list (pe_lst (pa_cons (pv 3) pa_nil))) (blkOk_by (N := N_law_kinds) (sc := defScope s_law_kinds) (by decide +kernel)) (fun _ _ _ _ _ => (pg_name (i := 4) sc_law_kinds.nd rfl (by first | exact Or.inl rfl | exact Or.inr rfl))) (fun _ _ _ _ _ => (pts_one (pt_cmpR (op_notInL vS hr.units) (pv 4) (pv 2) rfl))) (fun _ _ _ _ _ => (pv 4)))) pa_nil))) po_none (po_some (pv 1)))))), ?_⟩
  have sm := hp.s
  refine ⟨by show 7 ≤ sizeLine; decide, fun la hla => ?_⟩
  have g1 := Grow.put (o := .lst (kinds7.map V.str)) sm hla
  have v1 : vL vS kinds7 (.ref la) (upd F la (.lst (kinds7.map V.str))) := ⟨la, _, rfl, upd_same, all2S.mpr rfl⟩
  refine ⟨_, rfl, (), _, pa, n, [], rfl, hp.grow g1, by omega, rfl, fun v F2 H2 g2 hp2 hv => ?_⟩
  obtain ⟨z, ev, hz⟩ := hv
  subst ev
  have v2 := Mo.mo g2.f v1
  have g2 := g1.toX.trans g2
  refine ⟨by show 2 ≤ sizeLine; decide, fun tp htp => ?_⟩
  have g3 := Grow.put (o := .tup [.ref la, .str z]) hp2.s htp
  have v3 := Mo.mo g3.f v2
  have hp3 := hp2.grow g3
  have g3 := g2.grow g3
  refine ⟨tp, _, rfl, SqT.of upd_same, rfl, _, _, rfl, _, _, rfl, rfl, ?_⟩
  refine ⟨_, rfl, _, rfl, _, rfl, by show 1 ≤ sizeLine; decide, fun lb hlb => ?_⟩
  have g4 := Grow.put (o := .lst [.str z]) hp3.s hlb
  have v4 := Mo.mo g4.f v3
  have hp4 := hp3.grow g4
  have g4 := g3.grow g4
  refine ⟨lb, rfl, ⟨_, SqL.of upd_same⟩, fun D hD => ?_⟩
  refine lcL (p := vS) (q := vS) (f := id) (t := fun y => decide (y ∉ kinds7)) (xs := [z]) hp4.s hD upd_same (.cons rfl .nil) (by show 1 ≤ 100000; decide) ?_ ?_
  · intro y yv F' H' _ g hy N Y hN hY
    refine ⟨rfl, _, rfl, _, rfl, F', y, kinds7, g.i, hy, (Mo.mo g.f v4).m g.i, _, rfl, ?_⟩
    exact iteB (fun ht => ⟨_, rfl, hY _ _ _ (Grow.refl g.i) ht hy⟩) fun ht => hN _ _ (Grow.refl g.i) ht
  intro F5 H5 g5 hl5
  rw [List.map_id] at hl5
  have v5 := Mo.mo g5.f v4
  have hp5 := hp4.grow g5
  have wl := withNew_len kinds7 z
  have w8 : kinds7.length = 7 := rfl
  refine ⟨F5, kinds7, _, g5.i, v5.m g5.i, hl5.m g5.i, by show 7 + _ ≤ 100000; have := List.length_filter_le (fun y => decide (y ∉ kinds7)) [z]; rw [List.length_singleton] at this; omega, fun c F6 H6 g6 hc => ?_⟩
  have hc : vL vS (withNew kinds7 z) c F6 := hc
  refine ⟨withNew kinds7 z, F6, pa, n + 11, _, rfl, hp5.grow g6, by omega, ⟨c, rfl, hc, by omega⟩, fun s F7 H7 g7 hp7 hs => ?_⟩
  obtain ⟨ys, pm, hs⟩ := hs
  refine ⟨_, rfl, _, rfl, F7, ys, hp7.s, hs.m hp7.s, fun r F8 H8 g8 hr8 => ?_⟩
  rw [cutA__n] at hr8
  have hyl := pm.length_eq
  obtain ⟨wo, wn⟩ := withNew_ok kinds7_ok hz
  refine k _ _ _ ((((g4.grow g5).grow g6).trans g7).grow g8) ((hp7.grow g8).mono (by omega)) ⟨_, hr8, (pm.nodup_iff.mpr wn).sublist (List.take_sublist _ _), fun y hy => wo y (pm.mem_iff.mp (List.mem_of_mem_take hy)), by rw [List.length_take]; omega⟩
end
end Elk
set_option Elab.async false
set_option linter.all false
set_option maxRecDepth 100000
set_option maxHeartbeats 4000000
namespace Elk
open PySem PySem.Spec PyProof.Rows L2
/-! ### the law's own trees -/
def laterL (lk : Nat → Nat → Bool) (a : Nat) (found fresh : List Nat) : List Nat := (List.range a).filter fun n => decide (n ∉ found) && fresh.any fun o => lk o n
def grownL (lk : Nat → Nat → Bool) (a : Nat) : Nat → List Nat → List Nat → List Nat
  | 0, found, _ => found
  | f + 1, found, fresh => if fresh.isEmpty then found else grownL lk a f (found ++ laterL lk a found fresh) (laterL lk a found fresh)
def grownA (lk : Nat → Nat → Bool) (a : Nat) : List Nat := isort nlt (grownL lk a (a + 2) [a] [a])
def behindO (lk : Nat → Nat → Bool) (mine : List Nat) (a k : Nat) : Option Nat := (List.range' (a + 1) k).find? fun m => mine.any fun o => lk o m
def upO (rs : List Row) (i : Nat) : Option Nat := behindO (lkR rs) (grownA (lkR rs) i) i (rs.length - (i + 1))
def aboveR (rs : List Row) : List (Str × Option Str) := (List.range rs.length).map fun i => (nameAt rs i, (upO rs i).map (nameAt rs))
theorem grownL_nil {lk : Nat → Nat → Bool} {a f : Nat} {found : List Nat} : grownL lk a f found [] = found := by
  cases f with
  | zero => rfl
  | succ f => rw [grownL]; rfl
theorem grownL_cons {lk : Nat → Nat → Bool} {a f : Nat} {found fresh : List Nat} (h : fresh.isEmpty = false) : grownL lk a (f + 1) found fresh = grownL lk a f (found ++ laterL lk a found fresh) (laterL lk a found fresh) := by
  rw [grownL, h, if_neg Bool.false_ne_true]
theorem later_mem {lk : Nat → Nat → Bool} {a : Nat} {found fresh : List Nat} {x : Nat} (h : x ∈ laterL lk a found fresh) : x < a ∧ x ∉ found := by
  obtain ⟨h1, h2⟩ := List.mem_filter.mp h
  rw [Bool.and_eq_true] at h2
  exact ⟨List.mem_range.mp h1, of_decide_eq_true h2.1⟩
/-- what holds of found and fresh at each turn -/
structure GrOk (a : Nat) (found fresh : List Nat) : Prop where
  nd : found.Nodup
  le : ∀ x ∈ found, x ≤ a
  fr : ∀ x ∈ fresh, x ≤ a
theorem GrOk.step {lk : Nat → Nat → Bool} {a : Nat} {found fresh : List Nat} (h : GrOk a found fresh) : GrOk a (found ++ laterL lk a found fresh) (laterL lk a found fresh) := by
  refine ⟨List.nodup_append.mpr ⟨h.nd, (List.nodup_range).sublist List.filter_sublist, fun x hx y hy e => (later_mem hy).2 (e ▸ hx)⟩, fun x hx => (List.mem_append.mp hx).elim (h.le x) fun q => Nat.le_of_lt (later_mem q).1, fun x hx => Nat.le_of_lt (later_mem hx).1⟩
theorem GrOk.len {a : Nat} {found fresh : List Nat} (h : GrOk a found fresh) : found.length ≤ a + 1 := nodup_le _ _ h.nd fun x hx => Nat.lt_succ_of_le (h.le x hx)
theorem grownL_ok {lk : Nat → Nat → Bool} {a : Nat} : ∀ (f : Nat) (found fresh : List Nat), GrOk a found fresh → GrOk a (grownL lk a f found fresh) []
  | 0, found, fresh, h => ⟨h.nd, h.le, fun x hx => absurd hx List.not_mem_nil⟩
  | f + 1, found, fresh, h => by
    rw [grownL]
    split
    · exact ⟨h.nd, h.le, fun x hx => absurd hx List.not_mem_nil⟩
    · exact grownL_ok f _ _ h.step
theorem grOk0 (a : Nat) : GrOk a [a] [a] := ⟨List.pairwise_singleton _ _, fun x hx => Nat.le_of_eq (List.mem_singleton.mp hx), fun x hx => Nat.le_of_eq (List.mem_singleton.mp hx)⟩
theorem grownA_le {lk : Nat → Nat → Bool} {a x : Nat} (h : x ∈ grownA lk a) : x ≤ a := (grownL_ok (lk := lk) (a + 2) [a] [a] (grOk0 a)).le x ((isort_perm nlt _).mem_iff.mp h)
theorem grownA_len (lk : Nat → Nat → Bool) (a : Nat) : (grownA lk a).length ≤ a + 1 := by
  unfold grownA
  rw [(isort_perm nlt _).length_eq]
  exact (grownL_ok (lk := lk) (a + 2) [a] [a] (grOk0 a)).len
def sp_law_linked (K : W.Frag) : Sp := Pm (ι := Row × Row) (fun i vs F => ∃ u v, vs = [u, v] ∧ vA K i.1 u F ∧ vA K i.2 v F ∧ i.1.b.items.length ≤ 1000) (fun i v F => v = .bl (haveKind i.1 i.2))
def sp_law_is_near (K : W.Frag) : Sp := Pm (ι := List Row × List Nat × Nat) (fun i vs F => ∃ u v, vs = [u, v, .int (i.2.2 : Int)] ∧ vL (vA K) i.1 u F ∧ vL vN i.2.1 v F ∧ RowsOk i.1 ∧ (∀ x ∈ i.2.1, x < i.1.length) ∧ i.2.1.length ≤ 1000 ∧ i.2.2 < i.1.length) (fun i v F => v = .bl (i.2.1.any fun o => lkR i.1 o i.2.2))
def sp_law_grown (K : W.Frag) : Sp := Pm (ι := List Row × Nat) (fun i vs F => ∃ u, vs = [u, .int (i.2 : Int)] ∧ vL (vA K) i.1 u F ∧ RowsOk i.1 ∧ i.2 < i.1.length) (fun i v F => vL vN (grownA (lkR i.1) i.2) v F)
def sp_law_above (K : W.Frag) : Sp := Pm (ι := List Row) (fun rs vs F => ∃ u, vs = [u] ∧ vL (vA K) rs u F ∧ RowsOk rs) (fun rs v F => vL (vP vS (vO vS)) (aboveR rs) v F)
def sp_law_names_of (K : W.Frag) : Sp := Pm (ι := List Row) (fun rs vs F => ∃ u, vs = [u] ∧ vL (vA K) rs u F ∧ rs.length ≤ 1000) (fun rs v F => vL vS (namesR rs) v F)
section
variable {P : Program} {w : World} {K : W.Frag} {mg : Str → Option Value} {base : Heap}
abbrev N_law_linked : List Str := ["_law_one", "_law_other", "_law_kind"]
theorem sc_law_linked : FnScope N_law_linked ["_law_one", "_law_other"] (defScope s_law_linked) := ⟨rfl, rfl, rfl, by decide +kernel, rfl, by decide +kernel, by decide +kernel⟩
theorem ok_law_linked (T : Tp K mg) : Ok P w K mg base 3 (He.ga K "_law_linked") ["_law_one", "_law_other"] (sp_law_linked K) := by
  obtain ⟨pa_fits, ga_fits, fd_fits, hp_fits, G_fits, b_fits⟩ := ok_Asker_fits (P := P) (w := w) (base := base) T
  refine mk_ok (F_law_linked T) sc_law_linked ?_ (fun _ _ _ _ _ _ us hl => match us, hl with | [_, _], _ => rfl) (fun cdv A outer s H vs Q E hr h => ?_)
  · rintro vs H Q E ⟨i, F, _, ⟨u, v, rfl, _⟩, _⟩
    rfl
  obtain ⟨⟨r, r'⟩, F, sm, ⟨u, v, rfl, hu, hv, hl⟩, k⟩ := h
  refine ⟨_, (pss_one (ps_ret (pe_ne0 vS hr.units (pe_lc (own := [("_law_kind", 2)]) (g := gName 2) rfl sc_law_linked.nd (pi_list (pe_prop (pv 0) (cls_Asker T) hp_fits G_fits (hr.mono (by decide)) b_fits .nil pass0 rfl)) (blkOk_by (N := N_law_linked) (sc := defScope s_law_linked) (by decide +kernel)) (fun _ _ _ _ _ => (pg_name (i := 2) sc_law_linked.nd rfl (by first | exact Or.inl rfl | exact Or.inr rfl))) (fun _ _ _ _ _ => (pts_one (pt_cmpR (op_inL vS hr.units) (pv 2) (pe_prop (pv 1) (cls_Asker T) hp_fits G_fits (hr.mono (by decide)) b_fits .nil pass0 rfl) rfl))) (fun _ _ _ _ _ => (pv 2)))))), ?_⟩
  obtain ⟨ra, rdx, rt, rfl, hra, _⟩ := id hu
  obtain ⟨sa, sdx, st, rfl, hsa, _⟩ := id hv
  refine ⟨_, rfl, ra, rdx, _, rfl, sm _ _ hra, r, F, sm, ⟨_, rfl, hu⟩, fun z F1 H1 g1 hz => ?_⟩
  obtain ⟨a, vs, rfl, ha, l⟩ := hz
  refine ⟨a, rfl, ⟨_, SqL.of (g1.i _ _ ha)⟩, fun D hD => ?_⟩
  refine lcL (p := vS) (q := vS) (f := id) (t := fun k => decide (k ∈ r'.b.items)) g1.i hD (g1.i _ _ ha) l (Nat.le_trans hl (by decide)) ?_ ?_
  · intro y yv F' H' _ g hy N Y hN hY
    have s1 := g1.f.trans g.f
    refine ⟨rfl, _, rfl, _, rfl, sa, sdx, _, rfl, g.i _ _ (s1 _ _ hsa), r', F', g.i, ⟨_, rfl, Mo.mo s1 hv⟩, fun z F2 H2 g2 hz => ⟨F2, y, r'.b.items, g2.i, hy, hz.m g2.i, _, rfl, ?_⟩⟩
    exact iteB (fun ht => ⟨_, rfl, hY _ _ _ g2 ht hy⟩) fun ht => hN _ _ g2 ht
  · intro F2 H2 g hl
    rw [List.map_id] at hl
    exact ⟨F2, _, g.i, hl.m g.i, fun v F3 H3 g3 hv => k _ _ _ (g1.trans (g.trans g3)) hv⟩
abbrev N_law_is_near : List Str := ["_law_askers", "_law_some", "_law_at", "_law_one"]
theorem sc_law_is_near : FnScope N_law_is_near ["_law_askers", "_law_some", "_law_at"] (defScope s_law_is_near) := ⟨rfl, rfl, rfl, by decide +kernel, rfl, by decide +kernel, by decide +kernel⟩
theorem ok_law_is_near (T : Tp K mg) : Ok P w K mg base 4 (He.ga K "_law_is_near") ["_law_askers", "_law_some", "_law_at"] (sp_law_is_near K) := by
  obtain ⟨fd_law_linked, G_law_linked, b_law_linked, k_law_linked⟩ := ok_law_linked (P := P) (w := w) (base := base) T
  refine mk_ok (F_law_is_near T) sc_law_is_near ?_ (fun _ _ _ _ _ _ us hl => match us, hl with | [_, _, _], _ => rfl) (fun cdv A outer s H vs Q E hr h => ?_)
  · rintro vs H Q E ⟨i, F, _, ⟨u, v, rfl, _⟩, _⟩
    rfl
  obtain ⟨⟨rs, so, i⟩, F, sm, ⟨u, v, rfl, hu, hv, ro, hso, hsl, hi⟩, k⟩ := h
  refine ⟨_, (pss_one (ps_ret (pe_ne0 vN hr.units (pe_lc (own := [("_law_one", 3)]) (g := gName 3) rfl sc_law_is_near.nd (pi_list (pv 1)) (blkOk_by (N := N_law_is_near) (sc := defScope s_law_is_near) (by decide +kernel)) (fun _ _ _ _ _ => (pg_name (i := 3) sc_law_is_near.nd rfl (by first | exact Or.inl rfl | exact Or.inr rfl))) (fun _ _ _ _ _ => (pts_one (pt_val (pe_call G_law_linked (hr.mono (by decide)) rfl (g_law_linked T) k_law_linked b_law_linked .nil pass0 (pa_cons (pe_ix (ixL (vA K)) (pv 0) (pv 3) (fun _ _ => rfl)) (pa_cons (pe_ix (ixL (vA K)) (pv 0) (pv 2) (fun _ _ => rfl)) pa_nil)))))) (fun _ _ _ _ _ => (pv 3)))))), ?_⟩
  have hso : ∀ x ∈ so, x < rs.length := hso
  have hi : i < rs.length := hi
  obtain ⟨a, vs, rfl, ha, l⟩ := hv
  refine ⟨_, rfl, a, rfl, ⟨_, SqL.of (sm _ _ ha)⟩, fun D hD => ?_⟩
  refine lcL (p := vN) (q := vN) (f := id) (t := fun o => lkR rs o i) sm hD (sm _ _ ha) l (Nat.le_trans hsl (by decide)) ?_ ?_
  · intro y yv F' H' hy g hyv N Y hN hY
    have hu' := Mo.mo g.f hu
    refine ⟨rfl, _, rfl, _, rfl, F', rs, y, _, hu'.m g.i, hyv, row_get (hso y hy), fun z1 hz1 => ?_⟩
    refine ⟨_, rfl, _, rfl, F', rs, i, _, hu'.m g.i, rfl, row_get hi, fun z2 hz2 => ?_⟩
    refine ⟨(_, _), F', g.i, ⟨z1, z2, rfl, hz1, hz2, ro.fits _ (List.mem_of_getElem? (row_get (hso y hy)))⟩, fun z F4 H4 g4 hz => ?_⟩
    have ez : z = .bl (haveKind (rs.getD y noRow) (rs.getD i noRow)) := hz
    refine ⟨_, ez, ?_⟩
    rw [← lkR_at (row_get (hso y hy)) (row_get hi)]
    exact iteB (fun ht => ⟨_, rfl, hY _ _ _ g4 ht (Mo.mo g4.f hyv)⟩) fun ht => hN _ _ g4 ht
  · intro F2 H2 g hl
    rw [List.map_id] at hl
    refine ⟨F2, _, g.i, hl.m g.i, fun v F3 H3 g3 hv => k _ _ _ (g.trans g3) ?_⟩
    rw [any_filter] at hv
    exact hv
abbrev N_law_grown : List Str := ["_law_askers", "_law_at", "_law_found", "_law_fresh", "_law_later", "_law_near", "_law_one"]
theorem sc_law_grown : FnScope N_law_grown ["_law_askers", "_law_at"] (defScope s_law_grown) := ⟨rfl, rfl, rfl, by decide +kernel, rfl, by decide +kernel, by decide +kernel⟩
theorem ok_law_grown (T : Tp K mg) : Ok P w K mg base 5 (He.ga K "_law_grown") ["_law_askers", "_law_at"] (sp_law_grown K) := by
  obtain ⟨fd_law_is_near, G_law_is_near, b_law_is_near, k_law_is_near⟩ := ok_law_is_near (P := P) (w := w) (base := base) T
  refine mk_ok (F_law_grown T) sc_law_grown ?_ (fun _ _ _ _ _ _ us hl => match us, hl with | [_, _], _ => rfl) (fun cdv A outer s H vs Q E hr h => ?_)
  · rintro vs H Q E ⟨i, F, _, ⟨u, rfl, _⟩, _⟩
    rfl
  obtain ⟨⟨rs, a⟩, F, sm, ⟨u, rfl, hu, ro, ha⟩, k⟩ := h
  refine ⟨_, (pss_cons (ps_par (i := 2) (j := 3) (by rfl) sc_law_grown.nd rfl rfl (by decide) rfl rfl (pa_cons (pe_lst (pa_cons (pv 1) pa_nil)) (pa_cons (pe_lst (pa_cons (pv 1) pa_nil)) pa_nil)) (by rfl))
    (pss_cons (ps_while PassesOwn.never (pt_ne0 vN hr.units (pv 3))
      (pss_cons (ps_set (i := 4) sc_law_grown.nd rfl (by first | exact Or.inl rfl | exact Or.inr rfl) (pe_lst pa_nil))
      (pss_cons (ps_for PassesOwn.never rfl (pi_range1 rfl (n_range T) (pa_cons (pv 1) pa_nil)) (pg_name (i := 5) sc_law_grown.nd rfl (by first | exact Or.inl rfl | exact Or.inr rfl))
        (pss_one (ps_if (PW.pt (pw_and (pt_cmpR (op_notInN hr.units) (pv 5) (pv 2) rfl) (pw_and1 (pt_val (pe_call G_law_is_near (hr.mono (by decide)) rfl (g_law_is_near T) k_law_is_near b_law_is_near .nil pass0 (pa_cons (pv 0) (pa_cons (pv 3) (pa_cons (pv 5) pa_nil))))))))
          (pss_one (ps_expr (pe_bm PySem.F.plainAttrs_list PySem.F.slot_list_append PySem.F.type_list_append mt_append (pv 4) (pa_cons (pv 5) pa_nil))))
          pss_nil)))
      (pss_one (ps_par (i := 2) (j := 3) (by rfl) sc_law_grown.nd rfl rfl (by decide) rfl rfl (pa_cons (pe_op (op_catF vN) (pv 2) (pv 4)) (pa_cons (pv 4) pa_nil)) (by rfl))))))
    (pss_one (ps_ret (pe_callB (cr_sortN hr.units) (by rfl) (n_sorted T) (by decide +kernel) (pa_cons (pe_lc (own := [("_law_one", 6)]) (g := gName 6) rfl sc_law_grown.nd (pi_list (pv 2)) (blkOk_by (N := N_law_grown) (sc := defScope s_law_grown) (by decide +kernel)) (fun _ _ _ _ _ => (pg_name (i := 6) sc_law_grown.nd rfl (by first | exact Or.inl rfl | exact Or.inr rfl))) (fun _ _ _ _ _ => pts_nil) (fun _ _ _ _ _ => (pe_callTy call_int1 (by rfl) (n_int T) (by decide +kernel) (pa_cons (pv 6) pa_nil)))) pa_nil)))))), ?_⟩
  have ha : a < rs.length := ha
  have hn : rs.length ≤ 100 := ro.len
  refine ⟨_, rfl, by show 1 ≤ sizeLine; decide, fun l0 hl0 => ?_⟩
  have g0 := Grow.put (o := .lst [.int (a : Int)]) sm hl0
  refine ⟨_, rfl, by show 1 ≤ sizeLine; decide, fun l1 hl1 => ?_⟩
  have g1 := g0.trans (Grow.put (o := .lst [.int (a : Int)]) g0.i hl1)
  have s1 : Same (upd F l0 (.lst [.int (a : Int)])) (upd (upd F l0 (.lst [.int (a : Int)])) l1 (.lst [.int (a : Int)])) := same_upd (g0.i.free hl1)
  have v0 : vL vN [a] (.ref l0) (upd (upd F l0 (.lst [.int (a : Int)])) l1 (.lst [.int (a : Int)])) := ⟨l0, _, rfl, s1 _ _ upd_same, .cons rfl .nil⟩
  have v1 : vL vN [a] (.ref l1) (upd (upd F l0 (.lst [.int (a : Int)])) l1 (.lst [.int (a : Int)])) := ⟨l1, _, rfl, upd_same, .cons rfl .nil⟩
  refine ⟨_, _, rfl, ?_⟩
  refine ⟨fun m σ H' => ∃ F' found fresh fv gv x4 x5, σ = [some u, some (.int (a : Int)), some fv, some gv, x4, x5, none] ∧ Grow F H F' H' ∧ vL vN found fv F' ∧ vL vN fresh gv F' ∧ GrOk a found fresh ∧ grownL (lkR rs) a m found fresh = grownL (lkR rs) a (a + 2) [a] [a] ∧ (fresh = [] ∨ a + 2 ≤ found.length + m) ∧ fresh.length ≤ 1000,
    ⟨a + 2, _, [a], [a], _, _, none, none, rfl, g1, v0, v1, grOk0 a, rfl, .inr (by omega), by show 1 ≤ 1000; decide⟩, ?_⟩
  intro m σ H' ⟨F', found, fresh, fv, gv, x4, x5, es, g, hf, hg, ok, eg, hm, hfl⟩
  subst es
  refine ⟨_, rfl, F', fresh, g.i, hg.m g.i, fun F3 H3 g3 => ?_⟩
  have hf := Mo.mo g3.f hf
  have hg := Mo.mo g3.f hg
  have g3 := g.trans g3
  refine iteB (fun hb => ?_) (fun hb => ?_)
  · have hfe : fresh.isEmpty = false := by
      cases fresh with
      | nil => cases hb
      | cons _ _ => rfl
    have hm2 : a + 2 ≤ found.length + m := hm.resolve_left fun e => by subst e; cases hb
    have okl := ok.len
    obtain ⟨m', em⟩ : ∃ m', m = m' + 1 := ⟨m - 1, by omega⟩
    subst em
    refine ⟨fun σ' H' => ∃ m0, m0 < m' + 1 ∧ ∃ F' found fresh fv gv x4 x5, σ' = [some u, some (.int (a : Int)), some fv, some gv, x4, x5, none] ∧ Grow F H F' H' ∧ vL vN found fv F' ∧ vL vN fresh gv F' ∧ GrOk a found fresh ∧ grownL (lkR rs) a m0 found fresh = grownL (lkR rs) a (a + 2) [a] [a] ∧ (fresh = [] ∨ a + 2 ≤ found.length + m0) ∧ fresh.length ≤ 1000, fun _ _ z => z, ?_⟩
    -- later = []
    refine ⟨Nat.zero_le _, fun la hla => ?_⟩
    have g4 := g3.trans (Grow.new (o := .lst []) g3.i hla)
    have la0 : H la = none := g3.h.free hla
    have fla := g3.i.free hla
    refine ⟨_, rfl, _, rfl, (small62 (by omega)).1, (small62 (by omega)).2, ?_⟩
    refine forN (n := a) (fun i σ H' => ∃ F' x5, σ = [some u, some (.int (a : Int)), some fv, some gv, some (.ref la), x5, none] ∧ Grow F H F' H' ∧ Same F3 F' ∧ F' la = none ∧ H' la = some (.lst (((List.range i).filter fun n => decide (n ∉ found) && fresh.any fun o => lkR rs o n).map fun n : Nat => V.int (n : Int)))) ?_ ?_ ?_
    · exact ⟨F3, x5, rfl, g4, Same.refl _, fla, upd_same⟩
    · rintro i σ H' hi ⟨F', x5, es, g5, s5, f5, h5⟩
      subst es
      have hf5 := Mo.mo s5 hf
      have hg5 := Mo.mo s5 hg
      have tk : ((List.range (i + 1)).filter fun n => decide (n ∉ found) && fresh.any fun o => lkR rs o n) = ((List.range i).filter fun n => decide (n ∉ found) && fresh.any fun o => lkR rs o n) ++ if (decide (i ∉ found) && fresh.any fun o => lkR rs o i) = true then [i] else [] := by
        rw [List.range_succ, List.filter_append]
        congr 1
        rw [List.filter_cons]
        rfl
      refine ⟨_, rfl, _, rfl, F', i, found, g5.i, rfl, hf5.m g5.i, _, rfl, ?_⟩
      refine iteB (fun h1 => ?_) (fun h1 => ?_)
      · refine ⟨_, rfl, _, rfl, _, rfl, (rs, fresh, i), F', g5.i, ⟨_, _, rfl, Mo.mo g5.f hu, hg5, ro, fun x hx => by show x < rs.length; have := ok.fr x hx; omega, hfl, by show i < rs.length; omega⟩, fun z F6 H6 g6 hz => ?_⟩
        refine ⟨_, hz, ?_⟩
        have h6 := g6.h _ _ h5
        have f6 := g6.out h5 f5
        have g6' := g5.trans g6
        refine iteB (fun h2 => ?_) (fun h2 => ?_)
        · refine ⟨_, rfl, .inl ⟨rfl, _, SqL.of h6⟩, _, rfl, la, _, _, rfl, rfl, h6, small_of (by rw [List.length_map]; have := List.length_filter_le (fun n => decide (n ∉ found) && fresh.any fun o => lkR rs o n) (List.range i); rw [List.length_range] at this; omega), ?_⟩
          refine ⟨F6, _, rfl, g6'.set la0 f6, s5.trans g6.f, f6, ?_⟩
          have e : (decide (i ∉ found) && fresh.any fun o => lkR rs o i) = true := by
            rw [Bool.and_eq_true]; exact ⟨h1, h2⟩
          rw [upd_same, tk, if_pos e, List.map_append]
          rfl
        · have e : (decide (i ∉ found) && fresh.any fun o => lkR rs o i) ≠ true := by
            intro q
            rw [Bool.and_eq_true] at q
            have q2 : (fresh.any fun o => lkR rs o i) = true := q.2
            have h2' : (fresh.any fun o => lkR rs o i) = false := h2
            rw [h2'] at q2; cases q2
          refine ⟨F6, _, rfl, g6', s5.trans g6.f, f6, ?_⟩
          rw [tk, if_neg e, List.append_nil]
          exact h6
      · have e : (decide (i ∉ found) && fresh.any fun o => lkR rs o i) ≠ true := by
          rw [h1]; exact Bool.false_ne_true
        refine iteF ⟨F', _, rfl, g5, s5, f5, ?_⟩
        rw [tk, if_neg e, List.append_nil]
        exact h5
    · rintro σ H' ⟨F', x5, es, g5, s5, f5, h5⟩
      subst es
      have h5 : H' la = some (.lst ((laterL (lkR rs) a found fresh).map fun n : Nat => V.int (n : Int))) := h5
      have g6 := g5.keep la0 h5
      have s6 : Same F' (upd F' la (.lst ((laterL (lkR rs) a found fresh).map fun n : Nat => V.int (n : Int)))) := same_keep f5
      have vl : vL vN (laterL (lkR rs) a found fresh) (.ref la) (upd F' la (.lst ((laterL (lkR rs) a found fresh).map fun n : Nat => V.int (n : Int)))) := ⟨la, _, rfl, upd_same, all2N.mpr rfl⟩
      have hll : (laterL (lkR rs) a found fresh).length ≤ a := by
        have := List.length_filter_le (fun n => decide (n ∉ found) && fresh.any fun o => lkR rs o n) (List.range a)
        rw [List.length_range] at this
        exact this
      refine ⟨_, rfl, _, rfl, _, found, laterL (lkR rs) a found fresh, g6.i, (Mo.mo (s5.trans s6) hf).m g6.i, vl.m g6.i, by omega, fun c F7 H7 g7 hc => ?_⟩
      refine ⟨_, rfl, _, _, rfl, m', by omega, F7, _, laterL (lkR rs) a found fresh, _, _, _, _, rfl, g6.trans g7, hc, Mo.mo g7.f vl, ok.step, by rw [← eg, grownL_cons hfe], ?_, by omega⟩
      cases el : laterL (lkR rs) a found fresh with
      | nil => exact .inl rfl
      | cons x xs => exact .inr (by rw [List.length_append, List.length_cons]; omega)
  · have e : fresh = [] := by
      cases fresh with
      | nil => rfl
      | cons _ _ => cases hb
    subst e
    rw [grownL_nil] at eg
    obtain ⟨fa, fvs, rfl, hfa, lf⟩ := id hf
    have okl := ok.len
    refine ⟨_, rfl, fa, rfl, ⟨_, SqL.of (g3.i _ _ hfa)⟩, fun D hD => ?_⟩
    refine lcL (p := vN) (q := vN) (f := id) (t := fun _ => true) g3.i hD (g3.i _ _ hfa) lf (by omega) ?_ ?_
    · intro y yv F' H' _ g hy N Y hN hY
      have ey : yv = .int (y : Int) := hy
      subst ey
      exact ⟨rfl, _, rfl, .inl ⟨_, rfl, hY _ _ _ (Grow.refl g.i) rfl rfl⟩⟩
    · intro F4 H4 g4 hl4
      rw [filter_tt, List.map_id] at hl4
      refine ⟨F4, _, found, rfl, g4.i, hl4.m g4.i, fun v F5 H5 g5 hv => k _ _ _ ((g3.trans g4).trans g5) ?_⟩
      show vL vN (grownA (lkR rs) a) v F5
      unfold grownA
      rw [← eg]
      exact hv
abbrev N_law_names_of : List Str := ["_law_askers", "_law_asker"]
theorem sc_law_names_of : FnScope N_law_names_of ["_law_askers"] (defScope s_law_names_of) := ⟨rfl, rfl, rfl, by decide +kernel, rfl, by decide +kernel, by decide +kernel⟩
theorem ok_law_names_of (T : Tp K mg) : Ok P w K mg base 3 (He.ga K "_law_names_of") ["_law_askers"] (sp_law_names_of K) := by
  obtain ⟨pa_name, ga_name, fd_name, hp_name, G_name, b_name⟩ := ok_Asker_name (P := P) (w := w) (base := base) T
  refine mk_ok (F_law_names_of T) sc_law_names_of ?_ (fun _ _ _ _ _ _ us hl => match us, hl with | [_], _ => rfl) (fun cdv A outer s H vs Q E hr h => ?_)
  · rintro vs H Q E ⟨i, F, _, ⟨u, rfl, _⟩, _⟩
    rfl
  obtain ⟨rs, F, sm, ⟨u, rfl, hu, hn⟩, k⟩ := h
  refine ⟨_, (pss_one (ps_ret (pe_lc (own := [("_law_asker", 1)]) (g := gName 1) rfl sc_law_names_of.nd (pi_list (pv 0)) (blkOk_by (N := N_law_names_of) (sc := defScope s_law_names_of) (by decide +kernel)) (fun _ _ _ _ _ => (pg_name (i := 1) sc_law_names_of.nd rfl (by first | exact Or.inl rfl | exact Or.inr rfl))) (fun _ _ _ _ _ => pts_nil) (fun _ _ _ _ _ => (pe_prop (pv 1) (cls_Asker T) hp_name G_name (hr.mono (by decide)) b_name .nil pass0 rfl))))), ?_⟩
  obtain ⟨a, vs, rfl, ha, l⟩ := hu
  refine ⟨_, rfl, a, rfl, ⟨_, SqL.of (sm _ _ ha)⟩, fun D hD => ?_⟩
  refine lcL (p := vA K) (q := vS) (f := fun r => r.a) (t := fun _ => true) sm hD (sm _ _ ha) l (Nat.le_trans hn (by decide)) ?_ ?_
  · intro r y F' H' _ g hx N Y hN hY
    obtain ⟨va, vdx, vt, rfl, hva, _⟩ := id hx
    exact ⟨rfl, _, rfl, va, vdx, _, rfl, g.i _ _ hva, r, F', g.i, ⟨_, rfl, hx⟩, fun z F2 H2 g2 hz => hY _ _ _ g2 rfl hz⟩
  · intro F2 H2 g hl
    rw [filter_tt] at hl
    exact k _ _ _ g hl
end
end Elk
set_option Elab.async false
set_option linter.all false
set_option maxHeartbeats 4000000
namespace Elk
open PySem PySem.Spec PySem.Builtin.Str PyProof.Rows
/-! ### how a pair of names is shown -/
def shownP (x : Str × Option Str) : Str := (W.Datum.toD x).shown
theorem lower_repr : ∀ c ∈ lowerS.cps.toList, reprChar 39 c = [c] := fun c hc => by
  have h : (lowerS.cps.toList.all fun c => decide (reprChar 39 c = [c])) = true := by decide +kernel
  exact of_decide_eq_true (List.all_eq_true.mp h c hc)
theorem lower_no39 : ∀ c ∈ lowerS.cps.toList, c ≠ 39 := fun c hc => by
  have h : (lowerS.cps.toList.all fun c => decide (c ≠ 39)) = true := by decide +kernel
  exact of_decide_eq_true (List.all_eq_true.mp h c hc)
theorem fold_repr : ∀ (l : List Nat) (acc : Array Nat), (∀ c ∈ l, reprChar 39 c = [c]) → (l.foldl (fun out c => out ++ (reprChar 39 c).toArray) acc).toList = acc.toList ++ l
  | [], acc, _ => by simp
  | c :: l, acc, h => by
    rw [List.foldl_cons, fold_repr l _ fun d hd => h d (List.mem_cons_of_mem _ hd), h c List.mem_cons_self]
    simp
theorem name_no39 {n : Str} (h : NameOk n) : 39 ∉ n.cps.toList := fun q => lower_no39 39 (h.sg 39 q) rfl
theorem reprText_name {n : Str} (h : NameOk n) : (reprText n).cps.toList = 39 :: (n.cps.toList ++ [39]) := by
  have hq : reprQuote n = 39 := by
    unfold reprQuote
    have : n.cps.contains 39 = false := by
      rw [Bool.eq_false_iff]
      intro q
      exact name_no39 h (Array.mem_toList_iff.mpr (Array.contains_iff_mem.mp q))
    rw [this]
    rfl
  unfold reprText
  rw [hq]
  show ((n.cps.foldl (fun out c => out ++ (reprChar 39 c).toArray) #[39]).push 39).toList = _
  rw [← Array.foldl_toList, Array.toList_push, fold_repr _ _ fun c hc => lower_repr c (h.sg c hc)]
  simp
theorem app_cps (a b : Str) : (a ++ b).cps.toList = a.cps.toList ++ b.cps.toList := by
  show (a.cps ++ b.cps).toList = _
  simp
theorem join2 (a b : Str) : Str.join ", " [a, b] = a ++ ", " ++ b := rfl
def tailP : Option Str → List Nat
  | none => [78, 111, 110, 101, 41]
  | some m => 39 :: (m.cps.toList ++ [39, 41])
theorem shownP_cps {n : Str} {m : Option Str} (h : NameOk n) (hm : ∀ z, m = some z → NameOk z) : (shownP (n, m)).cps.toList = 40 :: 39 :: (n.cps.toList ++ 39 :: 44 :: 32 :: tailP m) := by
  have e : shownP (n, m) = ("(" : Str) ++ (reprText n ++ ", " ++ (W.Datum.toD m).shown) ++ (")" : Str) := by
    show PyData.shown (.tuple [.str n, W.Datum.toD m]) = _
    simp only [PyData.shown, PyData.shownAll]
    rfl
  rw [e, app_cps, app_cps, app_cps, app_cps, reprText_name h]
  have e1 : ("(" : Str).cps.toList = [40] := by decide +kernel
  have e2 : (")" : Str).cps.toList = [41] := by decide +kernel
  have e3 : (", " : Str).cps.toList = [44, 32] := by decide +kernel
  rw [e1, e2, e3]
  cases m with
  | none =>
    have e4 : (W.Datum.toD (none : Option Str)).shown.cps.toList = [78, 111, 110, 101] := by
      show (PyData.shown .none).cps.toList = _
      simp only [PyData.shown]
      decide +kernel
    rw [e4]
    simp [tailP]
  | some z =>
    have e4 : (W.Datum.toD (some z : Option Str)).shown.cps.toList = 39 :: (z.cps.toList ++ [39]) := by
      show (PyData.shown (.str z)).cps.toList = _
      simp only [PyData.shown]
      exact reprText_name (hm z rfl)
    rw [e4]
    simp [tailP]
theorem split_first {x : Nat} : ∀ {a b r s : List Nat}, x ∉ a → x ∉ b → a ++ x :: r = b ++ x :: s → a = b ∧ r = s
  | [], [], r, s, _, _, h => ⟨rfl, by injection h⟩
  | [], y :: b, r, s, _, hb, h => by
    injection h with h1 h2
    exact absurd (h1 ▸ List.mem_cons_self) hb
  | y :: a, [], r, s, ha, _, h => by
    injection h with h1 h2
    exact absurd (h1 ▸ List.mem_cons_self) ha
  | y :: a, z :: b, r, s, ha, hb, h => by
    injection h with h1 h2
    obtain ⟨e1, e2⟩ := split_first (fun q => ha (List.mem_cons_of_mem _ q)) (fun q => hb (List.mem_cons_of_mem _ q)) h2
    exact ⟨by rw [h1, e1], e2⟩
/-- names that are fit to be shown -/
def PairOk (x : Str × Option Str) : Prop := NameOk x.1 ∧ ∀ z, x.2 = some z → NameOk z
theorem shownP_inj {x y : Str × Option Str} (hx : PairOk x) (hy : PairOk y) (h : shownP x = shownP y) : x = y := by
  obtain ⟨n, m⟩ := x
  obtain ⟨n', m'⟩ := y
  have e : (shownP (n, m)).cps.toList = (shownP (n', m')).cps.toList := by rw [h]
  rw [shownP_cps hx.1 hx.2, shownP_cps hy.1 hy.2] at e
  injection e with _ e
  injection e with _ e
  obtain ⟨e1, e2⟩ := split_first (name_no39 hx.1) (name_no39 hy.1) e
  have e3 : tailP m = tailP m' := by
    injection e2 with _ e2
    injection e2 with _ e2
  have en : n = n' := W.str_of_cps e1
  subst en
  congr 1
  cases m with
  | none =>
    cases m' with
    | none => rfl
    | some z => injection e3 with q _; cases q
  | some z =>
    cases m' with
    | none => injection e3 with q _; cases q
    | some z' =>
      injection e3 with _ e3
      have h1 := hx.2 z rfl
      have h2 := hy.2 z' rfl
      obtain ⟨q, _⟩ := split_first (name_no39 h1) (name_no39 h2) e3
      rw [W.str_of_cps q]
theorem shownP_len {x : Str × Option Str} (hx : PairOk x) : (shownP x).length ≤ 1000 := by
  have e : (shownP x).length = (shownP x).cps.toList.length := by
    show (shownP x).cps.size = _
    simp
  obtain ⟨n, m⟩ := x
  rw [e, shownP_cps hx.1 hx.2]
  have h1 : n.cps.toList.length ≤ 10 := by
    have : n.length ≤ 10 := hx.1.hi
    have e : n.length = n.cps.toList.length := by show n.cps.size = _; simp
    omega
  simp only [List.length_cons, List.length_append]
  cases m with
  | none => simp only [tailP, List.length_cons, List.length_nil]; omega
  | some z =>
    have h2 : z.cps.toList.length ≤ 10 := by
      have := (hx.2 z rfl).hi
      have e : z.length = z.cps.toList.length := by show z.cps.size = _; simp
      omega
    simp only [tailP, List.length_cons, List.length_append, List.length_nil]; omega
theorem pair_showable (x : Str × Option Str) : (W.Datum.toD x).showable = true ∧ (W.Datum.toD x).hasDict = false := by
  obtain ⟨n, m⟩ := x
  cases m with
  | none =>
    refine ⟨?_, ?_⟩
    · show PyData.showable (.tuple [.str n, .none]) = true
      simp [PyData.showable, PyData.showableAll]
    · show PyData.hasDict (.tuple [.str n, .none]) = false
      simp [PyData.hasDict, PyData.hasDictAll]
  | some z =>
    refine ⟨?_, ?_⟩
    · show PyData.showable (.tuple [.str n, .str z]) = true
      simp [PyData.showable, PyData.showableAll]
    · show PyData.hasDict (.tuple [.str n, .str z]) = false
      simp [PyData.hasDict, PyData.hasDictAll]
end Elk
set_option Elab.async false
set_option linter.all false
set_option maxRecDepth 100000
set_option maxHeartbeats 4000000
namespace Elk
open PySem PySem.Spec PyProof.Rows L2
theorem hu100 {k : Nat} {A : Around} (r : Room k A) : A.units + 100 < cLine := by have := r.un; omega
theorem lcN {β : Type} {q : VP β} [Mo q] {f : Nat → β} {t : Nat → Bool} {g : TG} {tt : TT} {te : TE} {own : List Nat} {σ : L2.St} {F1 H1 : Hp} {D : Addr} {Qd : Hp → Prop} {n : Nat} (s : Same F1 H1) (hD : H1 D = none) (hz : n ≤ 100000)
    (S : StepC vN q f t (List.range n) g tt te own σ F1 H1) (hd : ∀ F H, Grow F1 H1 F H → vL q (((List.range n).filter t).map f) (.ref D) F → Qd H) :
    ∃ W : Nat → Nat → Hp → Prop, (∃ m, W 0 m (upd H1 D (.lst []))) ∧ ∀ i m H, W i m H →
      ((Itr 0 ((n : Int)).toNat).stop i H ∧ Qd H) ∨ ((Itr 0 ((n : Int)).toNat).go i H ∧ ∃ Nx : Hp → Prop, (∀ H', Nx H' → ∃ m', m' < m ∧ W (i + 1) m' H') ∧ ∀ x H', (Itr 0 ((n : Int)).toNat).yld i H x H' → g x (wipe σ own) H' fun σ2 H2 => wipe σ2 own = wipe σ own ∧ tt σ2 H2 fun b H3 =>
        if b = true then te σ2 H3 fun y H4 => ∃ acc, H4 D = some (.lst acc) ∧ acc.length < sizeLine ∧ Nx (upd H4 D (.lst (acc ++ [y]))) else Nx H3) := by
  have e : ((n : Int)).toNat = n := Int.toNat_natCast n
  rw [e]
  rw [List.range_eq_range'] at S hd
  exact lcR (lo := 0) s hD hz S hd
/-! ### all orders -/
def ins1 {α : Type} (x : α) (row : List α) : List (List α) := (List.range (row.length + 1)).map fun i => row.take i ++ [x] ++ row.drop i
def ordStep {α : Type} (found : List (List α)) (x : α) : List (List α) := found.flatMap (ins1 x)
def ordersL {α : Type} (xs : List α) : List (List α) := xs.foldl ordStep [[]]
theorem ins1_perm {α : Type} {x : α} {row r : List α} (h : r ∈ ins1 x row) : r.Perm (row ++ [x]) := by
  obtain ⟨i, _, e⟩ := List.mem_map.mp h
  subst e
  have p1 : (row.take i ++ [x] ++ row.drop i).Perm (x :: (row.take i ++ row.drop i)) := by
    rw [List.append_assoc]
    exact List.perm_middle
  rw [List.take_append_drop] at p1
  exact p1.trans (List.perm_append_singleton x row).symm
theorem ordFold_perm {α : Type} : ∀ (xs : List α) (found : List (List α)) (done : List α), (∀ row ∈ found, row.Perm done) → ∀ row ∈ xs.foldl ordStep found, row.Perm (done ++ xs)
  | [], found, done, h, row, hr => by rw [List.append_nil]; exact h row hr
  | x :: xs, found, done, h, row, hr => by
    have e : done ++ x :: xs = (done ++ [x]) ++ xs := by simp
    rw [e]
    refine ordFold_perm xs (ordStep found x) (done ++ [x]) (fun r hr => ?_) row hr
    obtain ⟨r0, h1, h2⟩ := List.mem_flatMap.mp hr
    exact (ins1_perm h2).trans ((h r0 h1).append_right [x])
theorem orders_perm {α : Type} {xs row : List α} (h : row ∈ ordersL xs) : row.Perm xs := by
  have := ordFold_perm xs [[]] [] (fun r hr => by rw [List.mem_singleton.mp hr]) row h
  rwa [List.nil_append] at this
theorem ordFold_len {α : Type} : ∀ (xs : List α) (found : List (List α)) (done : List α), (∀ row ∈ found, row.Perm done) → found.length ≤ 5 ^ done.length → done.length + xs.length ≤ 4 → (xs.foldl ordStep found).length ≤ 5 ^ (done.length + xs.length)
  | [], found, done, h, hl, _ => hl
  | x :: xs, found, done, h, hl, h4 => by
    rw [List.length_cons] at h4
    have h1 : (ordStep found x).length ≤ found.length * 5 := flatMap_len fun r hr => by
      unfold ins1
      rw [List.length_map, List.length_range, (h r hr).length_eq]
      omega
    have e : done.length + (x :: xs).length = (done ++ [x]).length + xs.length := by simp; omega
    rw [e]
    refine ordFold_len xs (ordStep found x) (done ++ [x]) (fun r hr => ?_) ?_ (by rw [List.length_append, List.length_singleton]; omega)
    · obtain ⟨r0, q1, q2⟩ := List.mem_flatMap.mp hr
      exact (ins1_perm q2).trans ((h r0 q1).append_right [x])
    · rw [List.length_append, List.length_singleton, Nat.pow_succ]
      exact Nat.le_trans h1 (Nat.mul_le_mul_right _ hl)
theorem orders_len {α : Type} {xs : List α} (h : xs.length ≤ 4) : (ordersL xs).length ≤ 625 := by
  have := ordFold_len xs [[]] [] (fun r hr => by rw [List.mem_singleton.mp hr]) (Nat.le_refl 1) (by simpa using h)
  simp only [List.length_nil, Nat.zero_add] at this
  exact Nat.le_trans this (Nat.le_trans (Nat.pow_le_pow_right (by decide) h) (by decide))
/-! ### the same trees, by what is shown -/
def sameT (rs rs' : List Row) : Bool := decide (isort W.DatumOrd.lt ((aboveR rs).map shownP) = isort W.DatumOrd.lt ((aboveR rs').map shownP))
theorem behindO_lt {lk : Nat → Nat → Bool} {mine : List Nat} {a k m : Nat} (h : behindO lk mine a k = some m) : a < m ∧ m < a + 1 + k := by
  have := List.mem_of_find?_eq_some h
  rw [List.mem_range'_1] at this
  omega
theorem nameAt_ok {rs : List Row} (lok : LineOk rs) {i : Nat} (h : i < rs.length) : NameOk (nameAt rs i) := lok.nm _ (List.mem_of_getElem? (row_get h))
theorem above_ok {rs : List Row} (lok : LineOk rs) {x : Str × Option Str} (h : x ∈ aboveR rs) : PairOk x := by
  obtain ⟨i, hi, e⟩ := List.mem_map.mp h
  subst e
  have hi := List.mem_range.mp hi
  refine ⟨nameAt_ok lok hi, fun z hz => ?_⟩
  obtain ⟨m, hm, e⟩ := Option.map_eq_some_iff.mp hz
  subst e
  have := behindO_lt hm
  exact nameAt_ok lok (by omega)
theorem aboveR_len (rs : List Row) : (aboveR rs).length = rs.length := by unfold aboveR; rw [List.length_map, List.length_range]
/-! ### a few askers -/
structure FewOk (n : Nat) (rs : List Row) : Prop where
  len : rs.length = n
  lok : LineOk rs
  ne : ∀ r ∈ rs, r.b.items ≠ []
def sp_law_few (K : W.Frag) : Sp := PPm 300 (ι := Nat × List Str) (fun i us F => ∃ v, us = [.int (i.1 : Int), v] ∧ vL vS i.2 v F ∧ i.1 ≤ 8 ∧ FitsOk i.2 ∧ i.2.length ≤ 7) (fun i v F => ∃ rs, vL (vA K) rs v F ∧ FewOk i.1 rs)
def sp_law_same_trees (K : W.Frag) : Sp := Pm (ι := List Row × List Row) (fun i vs F => ∃ u v, vs = [u, v] ∧ vL (vA K) i.1 u F ∧ vL (vA K) i.2 v F ∧ LineOk i.1 ∧ LineOk i.2) (fun i v F => v = .bl (sameT i.1 i.2))
def sp_law_orders_of (K : W.Frag) : Sp := Pm (ι := List Row) (fun rs vs F => ∃ u, vs = [u] ∧ vL (vA K) rs u F ∧ rs.length ≤ 4) (fun rs v F => vL (vL (vA K)) (ordersL rs) v F)
def sp_law_same (K : W.Frag) : Sp := Pm (ι := List Row × List (List Row)) (fun i vs F => ∃ u v, vs = [u, v] ∧ vL (vA K) i.1 u F ∧ vL (vL (vA K)) i.2 v F ∧ LineOk i.1 ∧ (∀ row ∈ i.2, LineOk row) ∧ i.2.length ≤ 1000) (fun i v F => vL (vL (vA K)) (i.2.filter fun row => sameT row i.1) v F)
section
variable {P : Program} {w : World} {K : W.Frag} {mg : Str → Option Value} {base : Heap}
abbrev N_law_above : List Str := ["_law_askers", "_law_found", "_law_at", "_law_mine", "_law_behind", "_law_near"]
theorem sc_law_above : FnScope N_law_above ["_law_askers"] (defScope s_law_above) := ⟨rfl, rfl, rfl, by decide +kernel, rfl, by decide +kernel, by decide +kernel⟩
theorem ok_law_above (T : Tp K mg) : Ok P w K mg base 6 (He.ga K "_law_above") ["_law_askers"] (sp_law_above K) := by
  obtain ⟨fd_law_grown, G_law_grown, b_law_grown, k_law_grown⟩ := ok_law_grown (P := P) (w := w) (base := base) T
  obtain ⟨fd_law_is_near, G_law_is_near, b_law_is_near, k_law_is_near⟩ := ok_law_is_near (P := P) (w := w) (base := base) T
  obtain ⟨pa_name, ga_name, fd_name, hp_name, G_name, b_name⟩ := ok_Asker_name (P := P) (w := w) (base := base) T
  refine mk_ok (F_law_above T) sc_law_above ?_ (fun _ _ _ _ _ _ us hl => match us, hl with | [_], _ => rfl) (fun cdv A outer s H vs Q E hr h => ?_)
  · rintro vs H Q E ⟨i, F, _, ⟨u, rfl, _⟩, _⟩
    rfl
  obtain ⟨rs, F, sm, ⟨u, rfl, hu, ro⟩, k⟩ := h
  refine ⟨_, (pss_cons (ps_set (i := 1) sc_law_above.nd rfl (by first | exact Or.inl rfl | exact Or.inr rfl) (pe_lst pa_nil))
    (pss_cons (ps_for PassesOwn.never rfl (pi_range1 rfl (n_range T) (pa_cons (pe_callB (call_lenL (vA K)) (by rfl) (n_len T) (by decide +kernel) (pa_cons (pv 0) pa_nil)) pa_nil)) (pg_name (i := 2) sc_law_above.nd rfl (by first | exact Or.inl rfl | exact Or.inr rfl))
      (pss_cons (ps_set (i := 3) sc_law_above.nd rfl (by first | exact Or.inl rfl | exact Or.inr rfl) (pe_call G_law_grown (hr.mono (by decide)) rfl (g_law_grown T) k_law_grown b_law_grown .nil pass0 (pa_cons (pv 0) (pa_cons (pv 2) pa_nil))))
      (pss_cons (ps_set (i := 4) sc_law_above.nd rfl (by first | exact Or.inl rfl | exact Or.inr rfl) (pe_lst pa_nil))
      (pss_cons (ps_for PassesOwn.never rfl (pi_range2 rfl (n_range T) (pa_cons (pe_op op_add (pv 2) pe_int) (pa_cons (pe_callB (call_lenL (vA K)) (by rfl) (n_len T) (by decide +kernel) (pa_cons (pv 0) pa_nil)) pa_nil))) (pg_name (i := 5) sc_law_above.nd rfl (by first | exact Or.inl rfl | exact Or.inr rfl))
        (pss_one (ps_if (PW.pt (pw_and (pt_eq0 vS hr.units (pv 4)) (pw_and1 (pt_val (pe_call G_law_is_near (hr.mono (by decide)) rfl (g_law_is_near T) k_law_is_near b_law_is_near .nil pass0 (pa_cons (pv 0) (pa_cons (pv 3) (pa_cons (pv 5) pa_nil))))))))
          (pss_one (ps_expr (pe_bm PySem.F.plainAttrs_list PySem.F.slot_list_append PySem.F.type_list_append mt_append (pv 4) (pa_cons (pe_prop (pe_ix (ixL (vA K)) (pv 0) (pv 5) (fun _ _ => rfl)) (cls_Asker T) hp_name G_name (hr.mono (by decide)) b_name .nil pass0 rfl) pa_nil))))
          pss_nil)))
      (pss_one (ps_expr (pe_bm PySem.F.plainAttrs_list PySem.F.slot_list_append PySem.F.type_list_append mt_append (pv 1) (pa_cons (pe_tup (pa_cons (pe_prop (pe_ix (ixL (vA K)) (pv 0) (pv 2) (fun _ _ => rfl)) (cls_Asker T) hp_name G_name (hr.mono (by decide)) b_name .nil pass0 rfl) (pa_cons (pe_ix (ixL (vO vS)) (pe_op (op_catF (vO vS)) (pv 4) (pe_lst (pa_cons pe_non pa_nil))) pe_int (fun _ _ => rfl)) pa_nil))) pa_nil))))))))
    (pss_one (ps_ret (pv 1))))), ?_⟩
  have hn : rs.length ≤ 100 := ro.len
  refine ⟨Nat.zero_le _, fun fa hfa => ?_⟩
  have g0 := Grow.new (o := .lst []) sm hfa
  have ffa := sm.free hfa
  refine ⟨_, rfl, F, _, rs, rfl, hu.m g0.i, _, rfl, (small62 (by omega)).1, (small62 (by omega)).2, ?_⟩
  refine forN (n := rs.length) (fun i σ H' => ∃ F' fvs x2 x3 x4 x5, σ = [some u, some (.ref fa), x2, x3, x4, x5] ∧ Grow F H F' H' ∧ F' fa = none ∧ H' fa = some (.lst fvs) ∧ All2 (vP vS (vO vS)) ((aboveR rs).take i) fvs F') ?_ ?_ ?_
  · exact ⟨F, [], none, none, none, none, rfl, g0, ffa, upd_same, .nil⟩
  · rintro i σ H' hi ⟨F', fvs, x2, x3, x4, x5, es, g, ff, hf, lf⟩
    subst es
    have hu1 := Mo.mo g.f hu
    refine ⟨_, rfl, _, rfl, (rs, i), F', g.i, ⟨_, rfl, hu1, ro, hi⟩, fun mv F2 H2 g2 hmv => ?_⟩
    have hmv : vL vN (grownA (lkR rs) i) mv F2 := hmv
    have hf2 := g2.h _ _ hf
    have ff2 := g2.out hf ff
    have lf2 := lf.mo g2.f
    have hu2 := Mo.mo g2.f hu1
    have g2 := g.trans g2
    refine ⟨Nat.zero_le _, fun ba hba => ?_⟩
    have nfb : fa ≠ ba := ne_of_none hf2 hba
    have ba0 : H ba = none := g2.h.free hba
    have g3 := g2.trans (Grow.new (o := .lst []) g2.i hba)
    have fba := g2.i.free hba
    refine ⟨_, rfl, _, _, rfl, rfl, _, rfl, F2, _, rs, rfl, hu2.m g3.i, ((i + 1 : Nat) : Int), (rs.length : Int), by rw [Int.natCast_add]; rfl, ⟨by omega, by omega, by omega, by omega⟩, ?_⟩
    refine forAB (a := i + 1) (b := rs.length) (fun j σ H' => ∃ F' x5, σ = [some u, some (.ref fa), some (.int (i : Int)), some mv, some (.ref ba), x5] ∧ Grow F H F' H' ∧ Same F2 F' ∧ F' fa = none ∧ F' ba = none ∧ H' fa = some (.lst fvs) ∧ H' ba = some (.lst ((((behindO (lkR rs) (grownA (lkR rs) i) i j).map (nameAt rs)).toList).map V.str))) ?_ ?_ ?_
    · exact ⟨F2, x5, rfl, g3, Same.refl _, ff2, fba, by rw [upd_ne nfb]; exact hf2, upd_same⟩
    · rintro j σ H' hj ⟨F3, x5, es, g4, s4, f3a, f3b, h3a, h3b⟩
      subst es
      have hu3 := Mo.mo s4 hu2
      have hmv3 := Mo.mo s4 hmv
      have tk : behindO (lkR rs) (grownA (lkR rs) i) i (j + 1) = (behindO (lkR rs) (grownA (lkR rs) i) i j).or (if ((grownA (lkR rs) i).any fun o => lkR rs o (i + 1 + j)) = true then some (i + 1 + j) else none) := by
        unfold behindO
        rw [List.range'_concat, List.find?_append, List.find?_cons]
        rw [Nat.one_mul]
        cases (grownA (lkR rs) i).any fun o => lkR rs o (i + 1 + j) <;> rfl
      refine ⟨_, rfl, F3, _, g4.i, ⟨ba, _, rfl, h3b, all2S.mpr rfl⟩, fun F5 H5 g5 => ?_⟩
      have h5a := g5.h _ _ h3a
      have h5b := g5.h _ _ h3b
      have f5a := g5.out h3a f3a
      have f5b := g5.out h3b f3b
      have s5 := s4.trans g5.f
      have hu5 := Mo.mo g5.f hu3
      have hmv5 := Mo.mo g5.f hmv3
      have g5 := g4.trans g5
      cases eb : behindO (lkR rs) (grownA (lkR rs) i) i j with
      | some m =>
        refine no_t rfl ⟨F5, _, rfl, g5, s5, f5a, f5b, h5a, ?_⟩
        rw [tk, eb]
        rw [eb] at h5b
        exact h5b
      | none =>
        rw [eb] at h5b tk
        refine yes_t rfl ?_
        refine ⟨_, rfl, _, rfl, _, rfl, (rs, grownA (lkR rs) i, i + 1 + j), F5, g5.i, ⟨_, _, rfl, hu5, hmv5, ro, fun x hx => by show x < rs.length; have := grownA_le hx; omega, by show (grownA (lkR rs) i).length ≤ 1000; have := grownA_len (lkR rs) i; omega, by show i + 1 + j < rs.length; omega⟩, fun z F6 H6 g6 hz => ?_⟩
        have h6a := g6.h _ _ h5a
        have h6b := g6.h _ _ h5b
        have f6a := g6.out h5a f5a
        have f6b := g6.out h5b f5b
        have s6 := s5.trans g6.f
        have hu6 := Mo.mo g6.f hu5
        have g6 := g5.trans g6
        refine ⟨_, hz, ?_⟩
        refine iteB (fun ht => ?_) (fun ht => ?_)
        · have ht : ((grownA (lkR rs) i).any fun o => lkR rs o (i + 1 + j)) = true := ht
          refine ⟨_, rfl, .inl ⟨rfl, _, SqL.of h6b⟩, _, rfl, _, rfl, F6, rs, i + 1 + j, _, hu6.m g6.i, rfl, row_get (by omega), fun y hy => ?_⟩
          obtain ⟨va, vdx, vt, rfl, hva, _⟩ := id hy
          refine ⟨va, vdx, _, rfl, g6.i _ _ hva, _, F6, g6.i, ⟨_, rfl, hy⟩, fun z2 F7 H7 g7 hz2 => ?_⟩
          have ez : z2 = .str (nameAt rs (i + 1 + j)) := hz2
          subst ez
          have h7b := g7.h _ _ h6b
          have h7a := g7.h _ _ h6a
          have f7a := g7.out h6a f6a
          have f7b := g7.out h6b f6b
          have g7' := g6.trans g7
          refine ⟨ba, _, _, rfl, rfl, h7b, by show 0 < sizeLine; decide, ?_⟩
          refine ⟨F7, _, rfl, g7'.set ba0 f7b, s6.trans g7.f, f7a, f7b, by rw [upd_ne nfb]; exact h7a, ?_⟩
          rw [upd_same, tk, if_pos ht]
          rfl
        · have ht : ((grownA (lkR rs) i).any fun o => lkR rs o (i + 1 + j)) = false := ht
          refine ⟨F6, _, rfl, g6, s6, f6a, f6b, h6a, ?_⟩
          rw [tk, if_neg (by rw [ht]; exact Bool.false_ne_true)]
          exact h6b
    · rintro σ H' ⟨F3, x5, es, g4, s4, f3a, f3b, h3a, h3b⟩
      subst es
      have hup : behindO (lkR rs) (grownA (lkR rs) i) i (rs.length - (i + 1)) = upO rs i := rfl
      rw [hup] at h3b
      have hu3 := Mo.mo s4 hu2
      have eg : (aboveR rs)[i]? = some (nameAt rs i, (upO rs i).map (nameAt rs)) := by
        unfold aboveR
        rw [List.getElem?_map, List.getElem?_range hi]; rfl
      have tk : (aboveR rs).take (i + 1) = (aboveR rs).take i ++ [(nameAt rs i, (upO rs i).map (nameAt rs))] := by rw [List.take_succ, eg]; rfl
      refine ⟨_, rfl, .inl ⟨rfl, _, SqL.of h3a⟩, _, rfl, _, rfl, F3, rs, i, _, hu3.m g4.i, rfl, row_get hi, fun y hy => ?_⟩
      obtain ⟨va, vdx, vt, rfl, hva, _⟩ := id hy
      refine ⟨va, vdx, _, rfl, g4.i _ _ hva, _, F3, g4.i, ⟨_, rfl, hy⟩, fun z2 F7 H7 g7 hz2 => ?_⟩
      have ez : z2 = .str (nameAt rs i) := hz2
      subst ez
      have h7a := g7.h _ _ h3a
      have h7b := g7.h _ _ h3b
      have f7a := g7.out h3a f3a
      have f7b := g7.out h3b f3b
      have lf7 := (lf2.mo s4).mo g7.f
      have g7 := g4.trans g7
      refine ⟨_, rfl, by show 1 ≤ sizeLine; decide, fun l0 hl0 => ?_⟩
      have na0 : fa ≠ l0 := ne_of_none h7a hl0
      have nb0 : ba ≠ l0 := ne_of_none h7b hl0
      have g8 := g7.trans (Grow.put (o := .lst [.non]) g7.i hl0)
      have s8 : Same F7 (upd F7 l0 (.lst [.non])) := same_upd (g7.i.free hl0)
      have lsome : All2 (vO vS) (((upO rs i).map (nameAt rs)).toList.map some) ((((upO rs i).map (nameAt rs)).toList).map V.str) (upd F7 l0 (.lst [.non])) := by
        cases upO rs i with
        | none => exact .nil
        | some m => exact .cons rfl .nil
      refine ⟨_, ((upO rs i).map (nameAt rs)).toList.map some, [none], g8.i, ⟨ba, _, rfl, by rw [upd_ne nb0]; exact h7b, lsome⟩, ⟨l0, _, rfl, upd_same, .cons rfl .nil⟩, ?_, fun c F9 H9 g9 hc => ?_⟩
      · rw [List.length_map]
        cases upO rs i with
        | none => show 0 + 1 ≤ 100000; decide
        | some m => show 1 + 1 ≤ 100000; decide
      have h9a := g9.h _ _ (by rw [upd_ne na0]; exact h7a)
      have f9a := g9.out (by rw [upd_ne na0]; exact h7a) (by rw [upd_ne na0]; exact f7a)
      have lf9 := (lf7.mo s8).mo g9.f
      have g9 := g8.trans g9
      refine ⟨F9, _, 0, (upO rs i).map (nameAt rs), hc.m g9.i, rfl, ?_, fun w0 hw0 => ?_⟩
      · cases upO rs i <;> rfl
      refine ⟨by show 2 ≤ sizeLine; decide, fun tp htp => ?_⟩
      have nat : fa ≠ tp := ne_of_none h9a htp
      have g10 := g9.trans (Grow.put (o := .tup [.str (nameAt rs i), w0]) g9.i htp)
      have s10 : Same F9 (upd F9 tp (.tup [.str (nameAt rs i), w0])) := same_upd (g9.i.free htp)
      have hfl := lf.len
      rw [List.length_take, aboveR_len] at hfl
      refine ⟨fa, _, _, rfl, rfl, by rw [upd_ne nat]; exact h9a, small_of (by omega), ?_⟩
      have fz : (upd F9 tp (.tup [.str (nameAt rs i), w0])) fa = none := by rw [upd_ne nat]; exact f9a
      refine ⟨_, fvs ++ [.ref tp], _, _, _, _, rfl, g10.set hfa fz, fz, upd_same, ?_⟩
      rw [tk]
      exact (lf9.mo s10).snoc ⟨tp, _, _, rfl, upd_same, rfl, Mo.mo (p := vO vS) s10 hw0⟩
  · rintro σ H' ⟨F', fvs, x2, x3, x4, x5, es, g, ff, hf, lf⟩
    subst es
    rw [List.take_of_length_le (by rw [aboveR_len]; exact Nat.le_refl _)] at lf
    exact ⟨_, rfl, k _ _ _ (g.keep hfa hf) ⟨fa, fvs, rfl, upd_same, lf.mo (same_keep ff)⟩⟩
end
end Elk
set_option Elab.async false
set_option linter.all false
set_option maxRecDepth 100000
set_option maxHeartbeats 4000000
namespace Elk
open PySem PySem.Spec PyProof.Rows L2
def swapR (rs : List Row) (a : Nat) : List Row := rs.take a ++ [rs.getD (a + 1) noRow, rs.getD a noRow] ++ rs.drop (a + 2)
theorem swapR_perm {rs : List Row} {a : Nat} (h : a + 1 < rs.length) : (swapR rs a).Perm rs := by
  have e : rs = rs.take a ++ (rs.getD a noRow :: rs.getD (a + 1) noRow :: rs.drop (a + 2)) := by
    have e1 : rs.drop a = rs.getD a noRow :: rs.drop (a + 1) := by
      rw [List.drop_eq_getElem_cons (by omega : a < rs.length)]
      congr 1
      rw [List.getD_eq_getElem?_getD, List.getElem?_eq_getElem (by omega)]; rfl
    have e2 : rs.drop (a + 1) = rs.getD (a + 1) noRow :: rs.drop (a + 2) := by
      rw [List.drop_eq_getElem_cons h]
      congr 1
      rw [List.getD_eq_getElem?_getD, List.getElem?_eq_getElem h]; rfl
    rw [← e2, ← e1, List.take_append_drop]
  conv => rhs; rw [e]
  unfold swapR
  rw [List.append_assoc]
  exact (List.Perm.swap _ _ _).append_left _
inductive Reach (rs : List Row) : List Row → Prop
  | refl : Reach rs rs
  | step {b : List Row} (h : Reach rs b) (a : Nat) (ha : a + 1 < b.length) (s : sameT b (swapR b a) = true) : Reach rs (swapR b a)
theorem Reach.perm {rs b : List Row} (h : Reach rs b) : b.Perm rs := by
  induction h with
  | refl => exact .refl _
  | step _ a ha _ ih => exact (swapR_perm ha).trans ih
def sp_law_alike_one (K : W.Frag) : Sp := PPm 10 (ι := List Row × Nat) (fun i us F => ∃ v, us = [v, .int (i.2 : Int)] ∧ vL (vA K) i.1 v F ∧ LineOk i.1 ∧ i.2 ≤ 8) (fun i v F => ∃ near, vL (vA K) near v F ∧ Reach i.1 near)
section
variable {P : Program} {w : World} {K : W.Frag} {mg : Str → Option Value} {base : Heap}
abbrev N_law_same_trees : List Str := ["_law_one", "_law_other", "_law_row"]
theorem sc_law_same_trees : FnScope N_law_same_trees ["_law_one", "_law_other"] (defScope s_law_same_trees) := ⟨rfl, rfl, rfl, by decide +kernel, rfl, by decide +kernel, by decide +kernel⟩
theorem ok_law_same_trees (T : Tp K mg) : OkG P w K mg base 7 (He.ga K "_law_same_trees") ["_law_one", "_law_other"] (sp_law_same_trees K) := by
  obtain ⟨fd_law_above, G_law_above, b_law_above, k_law_above⟩ := ok_law_above (P := P) (w := w) (base := base) T
  refine mk_okG (F_law_same_trees T) sc_law_same_trees ?_ (fun _ _ _ _ _ _ us hl => match us, hl with | [_, _], _ => rfl) (fun cdv A outer s H vs Q E hg hr h => ?_)
  · rintro vs H Q E ⟨i, F, _, ⟨u, v, rfl, _⟩, _⟩
    rfl
  obtain ⟨⟨rs, rs'⟩, F, sm, ⟨u, v, rfl, hu, hv, lok, lok'⟩, k⟩ := h
  refine ⟨_, (pss_one (ps_ret (pe_cmpR (opF_eq (vL vS) hr.units) (pe_callB (cr_sortF vS hr.units slo_str sortK_str) (by rfl) (n_sorted T) (by decide +kernel) (pa_cons (pe_lc (own := [("_law_row", 2)]) (g := gName 2) rfl sc_law_same_trees.nd (pi_list (pe_call G_law_above (hr.mono (by decide)) rfl (g_law_above T) k_law_above b_law_above .nil pass0 (pa_cons (pv 0) pa_nil))) (blkOk_by (N := N_law_same_trees) (sc := defScope s_law_same_trees) (by decide +kernel)) (fun _ _ _ _ _ => (pg_name (i := 2) sc_law_same_trees.nd rfl (by first | exact Or.inl rfl | exact Or.inr rfl))) (fun _ _ _ _ _ => pts_nil) (fun _ _ _ _ _ => (pe_callB (cr_repr (vP vS (vO vS)) hg (hu100 hr)) (by rfl) (n_repr T) (by decide +kernel) (pa_cons (pv 2) pa_nil)))) pa_nil)) (pe_callB (cr_sortF vS hr.units slo_str sortK_str) (by rfl) (n_sorted T) (by decide +kernel) (pa_cons (pe_lc (own := [("_law_row", 2)]) (g := gName 2) rfl sc_law_same_trees.nd (pi_list (pe_call G_law_above (hr.mono (by decide)) rfl (g_law_above T) k_law_above b_law_above .nil pass0 (pa_cons (pv 1) pa_nil))) (blkOk_by (N := N_law_same_trees) (sc := defScope s_law_same_trees) (by decide +kernel)) (fun _ _ _ _ _ => (pg_name (i := 2) sc_law_same_trees.nd rfl (by first | exact Or.inl rfl | exact Or.inr rfl))) (fun _ _ _ _ _ => pts_nil) (fun _ _ _ _ _ => (pe_callB (cr_repr (vP vS (vO vS)) hg (hu100 hr)) (by rfl) (n_repr T) (by decide +kernel) (pa_cons (pv 2) pa_nil)))) pa_nil)) (nomark _)))), ?_⟩
  have hn : rs.length ≤ 100 := lok.len
  have hn' : rs'.length ≤ 100 := lok'.len
  have one : ∀ (rs : List Row), LineOk rs → ∀ y ∈ aboveR rs, (W.Datum.toD y).showable = true ∧ (W.Datum.toD y).hasDict = false ∧ (W.Datum.toD y).shown.length ≤ 100000 := fun rs lok y hy => by
    obtain ⟨a, b⟩ := pair_showable y
    exact ⟨a, b, Nat.le_trans (shownP_len (above_ok lok hy)) (by decide)⟩
  refine ⟨_, rfl, rs, F, sm, ⟨_, rfl, hu, lok.rows⟩, fun z F1 H1 g1 hz => ?_⟩
  obtain ⟨a, vs, rfl, ha, l⟩ := hz
  refine ⟨a, rfl, ⟨_, SqL.of (g1.i _ _ ha)⟩, fun D hD => ?_⟩
  refine lcL (p := vP vS (vO vS)) (q := vS) (f := shownP) (t := fun _ => true) g1.i hD (g1.i _ _ ha) l (by rw [aboveR_len]; omega) ?_ ?_
  · intro y yv F' H' hy g hyv N Y hN hY
    obtain ⟨o1, o2, o3⟩ := one rs lok y hy
    exact ⟨rfl, _, rfl, F', yv, y, rfl, by obtain ⟨q, _, _, e, _⟩ := hyv; exact ⟨q, e⟩, g.i, hyv, o1, o2, o3, hY _ _ _ (Grow.refl g.i) rfl rfl⟩
  intro F2 H2 g2 hl2
  rw [filter_tt] at hl2
  have g2 := g1.trans g2
  refine ⟨F2, _, _, rfl, g2.i, hl2.m g2.i, fun q ys hq hys => ?_⟩
  have g3 := g2.trans (Grow.put (o := .lst ys) g2.i hq)
  have s3 : Same F2 (upd F2 q (.lst ys)) := same_upd (g2.i.free hq)
  have v3 : vL vS (isort W.DatumOrd.lt ((aboveR rs).map shownP)) (.ref q) (upd F2 q (.lst ys)) := ⟨q, ys, rfl, upd_same, hys.mo s3⟩
  refine ⟨_, rfl, rs', _, g3.i, ⟨_, rfl, Mo.mo g3.f hv, lok'.rows⟩, fun z F4 H4 g4 hz => ?_⟩
  have v4 := Mo.mo g4.f v3
  have g4 := g3.trans g4
  obtain ⟨a', vs', rfl, ha', l'⟩ := hz
  refine ⟨a', rfl, ⟨_, SqL.of (g4.i _ _ ha')⟩, fun D' hD' => ?_⟩
  refine lcL (p := vP vS (vO vS)) (q := vS) (f := shownP) (t := fun _ => true) g4.i hD' (g4.i _ _ ha') l' (by rw [aboveR_len]; omega) ?_ ?_
  · intro y yv F' H' hy g hyv N Y hN hY
    obtain ⟨o1, o2, o3⟩ := one rs' lok' y hy
    exact ⟨rfl, _, rfl, F', yv, y, rfl, by obtain ⟨q, _, _, e, _⟩ := hyv; exact ⟨q, e⟩, g.i, hyv, o1, o2, o3, hY _ _ _ (Grow.refl g.i) rfl rfl⟩
  intro F5 H5 g5 hl5
  rw [filter_tt] at hl5
  have v5 := Mo.mo g5.f v4
  have g5 := g4.trans g5
  refine ⟨F5, _, _, rfl, g5.i, hl5.m g5.i, fun q' ys' hq' hys' => ?_⟩
  have g6 := g5.trans (Grow.put (o := .lst ys') g5.i hq')
  have s6 : Same F5 (upd F5 q' (.lst ys')) := same_upd (g5.i.free hq')
  exact ⟨_, _, _, g6.i, Mo.mo s6 v5, ⟨q', ys', rfl, upd_same, hys'.mo s6⟩, k _ _ _ g6 rfl⟩
abbrev N_law_same : List Str := ["_law_askers", "_law_orders", "_law_row"]
theorem sc_law_same : FnScope N_law_same ["_law_askers", "_law_orders"] (defScope s_law_same) := ⟨rfl, rfl, rfl, by decide +kernel, rfl, by decide +kernel, by decide +kernel⟩
theorem ok_law_same (T : Tp K mg) : OkG P w K mg base 8 (He.ga K "_law_same") ["_law_askers", "_law_orders"] (sp_law_same K) := by
  obtain ⟨fd_law_same_trees, G_law_same_trees, b_law_same_trees, k_law_same_trees⟩ := ok_law_same_trees (P := P) (w := w) (base := base) T
  refine mk_okG (F_law_same T) sc_law_same ?_ (fun _ _ _ _ _ _ us hl => match us, hl with | [_, _], _ => rfl) (fun cdv A outer s H vs Q E hg hr h => ?_)
  · rintro vs H Q E ⟨i, F, _, ⟨u, v, rfl, _⟩, _⟩
    rfl
  obtain ⟨⟨rs, os⟩, F, sm, ⟨u, v, rfl, hu, hv, lok, loks, hol⟩, k⟩ := h
  refine ⟨_, (pss_one (ps_ret (pe_lc (own := [("_law_row", 2)]) (g := gName 2) rfl sc_law_same.nd (pi_list (pv 1)) (blkOk_by (N := N_law_same) (sc := defScope s_law_same) (by decide +kernel)) (fun _ _ _ _ _ => (pg_name (i := 2) sc_law_same.nd rfl (by first | exact Or.inl rfl | exact Or.inr rfl))) (fun _ _ _ _ _ => (pts_one (pt_val (pe_callG G_law_same_trees hg (hr.mono (by decide)) rfl (g_law_same_trees T) k_law_same_trees b_law_same_trees .nil pass0 (pa_cons (pv 2) (pa_cons (pv 0) pa_nil)))))) (fun _ _ _ _ _ => (pv 2))))), ?_⟩
  obtain ⟨a, vs, rfl, ha, l⟩ := hv
  refine ⟨_, rfl, a, rfl, ⟨_, SqL.of (sm _ _ ha)⟩, fun D hD => ?_⟩
  refine lcL (p := vL (vA K)) (q := vL (vA K)) (f := id) (t := fun row => sameT row rs) sm hD (sm _ _ ha) l (Nat.le_trans hol (by decide)) ?_ ?_
  · intro y yv F' H' hy g hyv N Y hN hY
    refine ⟨rfl, _, rfl, _, rfl, (y, rs), F', g.i, ⟨_, _, rfl, hyv, Mo.mo g.f hu, loks y hy, lok⟩, fun z F4 H4 g4 hz => ⟨_, hz, ?_⟩⟩
    exact iteB (fun ht => ⟨_, rfl, hY _ _ _ g4 ht (Mo.mo g4.f hyv)⟩) fun ht => hN _ _ g4 ht
  · intro F2 H2 g hl
    rw [List.map_id] at hl
    exact k _ _ _ g hl
abbrev N_law_orders_of : List Str := ["_law_items", "_law_found", "_law_item", "_law_longer", "_law_row", "_law_at"]
theorem sc_law_orders_of : FnScope N_law_orders_of ["_law_items"] (defScope s_law_orders_of) := ⟨rfl, rfl, rfl, by decide +kernel, rfl, by decide +kernel, by decide +kernel⟩
theorem ok_law_orders_of (T : Tp K mg) : Ok P w K mg base 1 (He.ga K "_law_orders_of") ["_law_items"] (sp_law_orders_of K) := by
  refine mk_ok (F_law_orders_of T) sc_law_orders_of ?_ (fun _ _ _ _ _ _ us hl => match us, hl with | [_], _ => rfl) (fun cdv A outer s H vs Q E hr h => ?_)
  · rintro vs H Q E ⟨i, F, _, ⟨u, rfl, _⟩, _⟩
    rfl
  obtain ⟨rs, F, sm, ⟨u, rfl, hu, h4⟩, k⟩ := h
  refine ⟨_, (pss_cons (ps_set (i := 1) sc_law_orders_of.nd rfl (by first | exact Or.inl rfl | exact Or.inr rfl) (pe_lst (pa_cons (pe_lst pa_nil) pa_nil)))
    (pss_cons (ps_for PassesOwn.never rfl (pi_list (pv 0)) (pg_name (i := 2) sc_law_orders_of.nd rfl (by first | exact Or.inl rfl | exact Or.inr rfl))
      (pss_cons (ps_set (i := 3) sc_law_orders_of.nd rfl (by first | exact Or.inl rfl | exact Or.inr rfl) (pe_lst pa_nil))
      (pss_cons (ps_for PassesOwn.never rfl (pi_list (pv 1)) (pg_name (i := 4) sc_law_orders_of.nd rfl (by first | exact Or.inl rfl | exact Or.inr rfl))
        (pss_one (ps_set (i := 3) sc_law_orders_of.nd rfl (by first | exact Or.inl rfl | exact Or.inr rfl) (pe_op (op_catF (vL (vA K))) (pv 3) (pe_lc (own := [("_law_at", 5)]) (g := gName 5) rfl sc_law_orders_of.nd (pi_range1 rfl (n_range T) (pa_cons (pe_op op_add (pe_callB (call_lenL (vA K)) (by rfl) (n_len T) (by decide +kernel) (pa_cons (pv 4) pa_nil)) pe_int) pa_nil)) (blkOk_by (N := N_law_orders_of) (sc := defScope s_law_orders_of) (by decide +kernel)) (fun _ _ _ _ _ => (pg_name (i := 5) sc_law_orders_of.nd rfl (by first | exact Or.inl rfl | exact Or.inr rfl))) (fun _ _ _ _ _ => pts_nil) (fun _ _ _ _ _ => (pe_op (op_catF (vA K)) (pe_op (op_catF (vA K)) (pe_slice (sl_F (vA K)) (pv 4) po_none (po_some (pv 5))) (pe_lst (pa_cons (pv 2) pa_nil))) (pe_slice (sl_F (vA K)) (pv 4) (po_some (pv 5)) po_none))))))))
      (pss_one (ps_set (i := 1) sc_law_orders_of.nd rfl (by first | exact Or.inl rfl | exact Or.inr rfl) (pv 3))))))
    (pss_one (ps_ret (pv 1))))), ?_⟩
  have h4 : rs.length ≤ 4 := h4
  refine ⟨Nat.zero_le _, fun e0 he0 => ?_⟩
  have g0 := Grow.put (o := .lst []) sm he0
  refine ⟨by show 1 ≤ sizeLine; decide, fun o0 ho0 => ?_⟩
  have g1 := g0.trans (Grow.put (o := .lst [.ref e0]) g0.i ho0)
  have s1 : Same (upd F e0 (.lst [])) (upd (upd F e0 (.lst [])) o0 (.lst [.ref e0])) := same_upd (g0.i.free ho0)
  have v1 : vL (vL (vA K)) [[]] (.ref o0) (upd (upd F e0 (.lst [])) o0 (.lst [.ref e0])) := ⟨o0, _, rfl, upd_same, .cons ⟨e0, [], rfl, s1 _ _ upd_same, .nil⟩ .nil⟩
  obtain ⟨a, vs, rfl, ha, l⟩ := hu
  have hpm : ∀ i, ∀ row ∈ (rs.take i).foldl ordStep [[]], row.Perm (rs.take i) := fun i row h => orders_perm h
  have hln : ∀ i, ((rs.take i).foldl ordStep [[]]).length ≤ 625 := fun i => orders_len (xs := rs.take i) (by rw [List.length_take]; omega)
  refine ⟨_, rfl, a, rfl, ⟨_, SqL.of (g1.i _ _ (g1.f _ _ ha))⟩, ?_⟩
  refine for_list (xs := vs) (fun i σ H' => ∃ F' fv x2 x3 x4, σ = [some (.ref a), some fv, x2, x3, x4, none] ∧ Grow F H F' H' ∧ vL (vL (vA K)) ((rs.take i).foldl ordStep [[]]) fv F') ?_ ?_ ?_ ?_
  · exact ⟨_, _, none, none, none, rfl, g1, v1⟩
  · rintro i σ H' _ ⟨F', fv, x2, x3, x4, es, g, hfv⟩
    exact SqL.of (g.i _ _ (g.f _ _ ha))
  · rintro i y σ H' hy ⟨F', fv, x2, x3, x4, es, g, hfv⟩
    subst es
    obtain ⟨r, hr0, hyr⟩ := l.at hy
    have hi : i < rs.length := (List.getElem?_eq_some_iff.mp hr0).1
    have hyr := hyr
    have hyF := Mo.mo g.f hyr
    have tk : rs.take (i + 1) = rs.take i ++ [r] := by rw [List.take_succ, hr0]; rfl
    obtain ⟨fa, fvs, rfl, hfa, lf⟩ := id hfv
    have hlf := lf.len
    have hln' := hln i
    refine ⟨Nat.zero_le _, fun la hla => ?_⟩
    have g2 := g.trans (Grow.put (o := .lst []) g.i hla)
    have s2 : Same F' (upd F' la (.lst [])) := same_upd (g.i.free hla)
    refine ⟨_, rfl, fa, rfl, ⟨_, SqL.of (g2.i _ _ (s2 _ _ hfa))⟩, ?_⟩
    refine for_list (xs := fvs) (fun j σ H'' => ∃ F'' lv x4, σ = [some (.ref a), some (.ref fa), some y, some lv, x4, none] ∧ Grow F H F'' H'' ∧ Same F' F'' ∧ vL (vL (vA K)) ((((rs.take i).foldl ordStep [[]]).take j).flatMap (ins1 r)) lv F'') ?_ ?_ ?_ ?_
    · exact ⟨_, _, x4, rfl, g2, s2, ⟨la, [], rfl, upd_same, .nil⟩⟩
    · rintro j σ H'' _ ⟨F'', lv, x4, es, g3, s3, hlv⟩
      exact SqL.of (g3.i _ _ (s3 _ _ hfa))
    · rintro j z σ H'' hz ⟨F'', lv, x4, es, g3, s3, hlv⟩
      subst es
      obtain ⟨row, hrow, hzr⟩ := lf.at hz
      have hrm := List.mem_of_getElem? hrow
      have hrl : row.length ≤ 4 := by
        rw [(hpm i row hrm).length_eq, List.length_take]; omega
      have hzr := Mo.mo s3 hzr
      have hy3 := Mo.mo s3 hyF
      refine ⟨_, rfl, _, rfl, F'', _, row, rfl, hzr.m g3.i, _, _, rfl, rfl, ((row.length + 1 : Nat) : Int), by rw [Int.natCast_add]; rfl, by omega, by omega, fun D hD => ?_⟩
      refine lcN (n := row.length + 1) (q := vL (vA K)) (f := fun i => row.take i ++ [r] ++ row.drop i) (t := fun _ => true) g3.i hD (by omega) ?_ ?_
      · intro x xv F4 H4 hx g4 hxv N Y hN hY
        have ex : xv = .int (x : Int) := hxv
        subst ex
        have hz4 := Mo.mo g4.f hzr
        have hy4 := Mo.mo g4.f hy3
        refine ⟨rfl, _, rfl, _, rfl, _, rfl, F4, row, g4.i, hz4.m g4.i, fun c F5 H5 g5 hc => ?_⟩
        rw [cutA__n] at hc
        refine ⟨_, rfl, by show 1 ≤ sizeLine; decide, fun l0 hl0 => ?_⟩
        have g6 := g5.trans (Grow.put (o := .lst [y]) g5.i hl0)
        have s6 : Same F5 (upd F5 l0 (.lst [y])) := same_upd (g5.i.free hl0)
        refine ⟨_, row.take x, [r], g6.i, (Mo.mo s6 hc).m g6.i, ⟨l0, _, rfl, upd_same, .cons (Mo.mo g6.f hy4) .nil⟩, by rw [List.length_take, List.length_singleton]; omega, fun d F7 H7 g7 hd => ?_⟩
        have g7 := g6.trans g7
        refine ⟨_, rfl, _, rfl, _, rfl, F7, row, g7.i, (Mo.mo g7.f hz4).m g7.i, fun e F8 H8 g8 he => ?_⟩
        rw [cutA_n_] at he
        have hd := Mo.mo g8.f hd
        have g8 := g7.trans g8
        exact ⟨F8, _, _, g8.i, hd.m g8.i, he.m g8.i, by rw [List.length_append, List.length_take, List.length_drop, List.length_singleton]; omega, fun t F9 H9 g9 ht => hY _ _ _ (g8.trans g9) rfl ht⟩
      · intro F4 H4 g4 hl4
        rw [filter_tt] at hl4
        have hlv4 := Mo.mo g4.f hlv
        have hl4 : vL (vL (vA K)) (ins1 r row) (.ref D) F4 := hl4
        refine ⟨F4, _, _, g4.i, hlv4.m g4.i, hl4.m g4.i, ?_, fun c F5 H5 g5 hc => ?_⟩
        · have q1 : ((((rs.take i).foldl ordStep [[]]).take j).flatMap (ins1 r)).length ≤ (((rs.take i).foldl ordStep [[]]).take j).length * 5 := flatMap_len fun x hx => by
            have h1 := (hpm i x (List.mem_of_mem_take hx)).length_eq
            rw [List.length_take] at h1
            unfold ins1
            rw [List.length_map, List.length_range]
            omega
          have q2 : (((rs.take i).foldl ordStep [[]]).take j).length ≤ 625 := by rw [List.length_take]; omega
          have q3 : (ins1 r row).length ≤ 5 := by
            unfold ins1
            rw [List.length_map, List.length_range]
            omega
          omega
        · refine ⟨F5, _, _, rfl, (g3.trans g4).trans g5, (s3.trans g4.f).trans g5.f, ?_⟩
          have tk2 : ((rs.take i).foldl ordStep [[]]).take (j + 1) = ((rs.take i).foldl ordStep [[]]).take j ++ [row] := by rw [List.take_succ, hrow]; rfl
          rw [tk2, List.flatMap_append, List.flatMap_cons, List.flatMap_nil, List.append_nil]
          exact hc
    · rintro σ H'' ⟨F'', lv, x4, es, g3, s3, hlv⟩
      subst es
      rw [List.take_of_length_le (by rw [hlf]; exact Nat.le_refl _)] at hlv
      refine ⟨_, rfl, F'', lv, _, _, _, rfl, g3, ?_⟩
      rw [tk, List.foldl_append]
      exact hlv
  · rintro σ H' ⟨F', fv, x2, x3, x4, es, g, hfv⟩
    subst es
    have hll : rs.length = vs.length := l.len
    rw [← hll, List.take_length] at hfv
    exact ⟨_, rfl, k _ _ _ g hfv⟩
end
end Elk
set_option Elab.async false
set_option linter.all false
set_option maxRecDepth 100000
set_option maxHeartbeats 4000000
namespace Elk
open PySem PySem.Spec PyProof.Rows L2
theorem isort_len {α : Type} (lt : α → α → Bool) (xs : List α) : (isort lt xs).length = xs.length := (isort_perm lt xs).length_eq
section
variable {P : Program} {w : World} {K : W.Frag} {mg : Str → Option Value} {base : Heap}
abbrev N_law_few : List Str := ["_law_purse_here", "_law_many", "_law_kinds_here", "_law_found", "_law_name", "_law_some"]
theorem sc_law_few : FnScope N_law_few ["_law_purse_here", "_law_many", "_law_kinds_here"] (defScope s_law_few) := ⟨rfl, rfl, rfl, by decide +kernel, rfl, by decide +kernel, by decide +kernel⟩
theorem ok_law_few (T : Tp K mg) : Ok P w K mg base 6 (He.ga K "_law_few") ["_law_purse_here", "_law_many", "_law_kinds_here"] (sp_law_few K) := by
  obtain ⟨fd_law_names, G_law_names, b_law_names, k_law_names⟩ := ok_law_names (P := P) (w := w) (base := base) T
  obtain ⟨fd_law_shuffled, G_law_shuffled, b_law_shuffled, k_law_shuffled⟩ := ok_law_shuffled (P := P) (w := w) (base := base) T
  obtain ⟨fd_law_draw, G_law_draw, b_law_draw, k_law_draw⟩ := ok_law_draw (P := P) (w := w) (base := base) T
  obtain ⟨fd_Asker, G_Asker, b_Asker, k_Asker⟩ := ok_Asker_init (P := P) (w := w) (base := base) T
  refine mk_ok (F_law_few T) sc_law_few ?_ (fun _ _ _ _ _ _ us hl => match us, hl with | [_, _, _], _ => rfl) (fun cdv A outer s H vs Q E hr h => ?_)
  · rintro vs H Q E ⟨i, F, pa, n, us, rfl, _, _, ⟨v, rfl, _⟩, _⟩
    rfl
  obtain ⟨⟨m, ks⟩, F, pa, n, us, rfl, hp, hn, ⟨v, rfl, hv, hm, fo, hkl⟩, k⟩ := h
  refine ⟨_, (pss_cons (ps_set (i := 3) sc_law_few.nd rfl (by first | exact Or.inl rfl | exact Or.inr rfl) (pe_lst pa_nil))
    (pss_cons (ps_for PassesOwn.never rfl (pi_list (pe_call G_law_names (hr.mono (by decide)) rfl (g_law_names T) k_law_names b_law_names .nil pass0 (pa_cons (pv 0) (pa_cons (pv 1) pa_nil)))) (pg_name (i := 4) sc_law_few.nd rfl (by first | exact Or.inl rfl | exact Or.inr rfl))
      (pss_cons (ps_set (i := 5) sc_law_few.nd rfl (by first | exact Or.inl rfl | exact Or.inr rfl) (pe_call G_law_shuffled (hr.mono (by decide)) rfl (g_law_shuffled T) k_law_shuffled b_law_shuffled .nil pass0 (pa_cons (pv 0) (pa_cons (pv 2) pa_nil))))
      (pss_one (ps_expr (pe_bm PySem.F.plainAttrs_list PySem.F.slot_list_append PySem.F.type_list_append mt_append (pv 3) (pa_cons (pe_make (mkr_Asker T) G_Asker (hr.mono (by decide)) rfl (g_Asker T) b_Asker .nil pass0 (pa_cons (pv 4) (pa_cons (pe_slice (sl_F vS) (pv 5) po_none (po_some (pe_op op_add pe_int (pe_callTy call_int1 (by rfl) (n_int T) (by decide +kernel) (pa_cons (pe_cmpR (opF_eq vI hr.units) (pe_call G_law_draw (hr.mono (by decide)) rfl (g_law_draw T) k_law_draw b_law_draw .nil pass0 (pa_cons (pv 0) (pa_cons pe_int pa_nil))) pe_int (nomark _)) pa_nil))))) (pa_cons (pe_op op_add pe_int (pe_call G_law_draw (hr.mono (by decide)) rfl (g_law_draw T) k_law_draw b_law_draw .nil pass0 (pa_cons (pv 0) (pa_cons pe_int pa_nil)))) pa_nil)))) pa_nil))))))
    (pss_one (ps_ret (pv 3))))), ?_⟩
  have hm : m ≤ 8 := hm
  have hkl : ks.length ≤ 7 := hkl
  have fo : FitsOk ks := fo
  have hv : vL vS ks v F := hv
  have sm := hp.s
  refine ⟨Nat.zero_le _, fun fa hfa => ?_⟩
  have g0 := Grow.new (o := .lst []) sm hfa
  have ffa := sm.free hfa
  obtain ⟨pxs, hpx, _⟩ := id hp.h
  have nfp : fa ≠ pa := fun e => by rw [e, hpx] at hfa; cases hfa
  have hp0 := hp.grow g0
  refine ⟨_, rfl, _, rfl, m, F, pa, n, _, rfl, hp0, by omega, ⟨rfl, hm⟩, fun zv F1 H1 g1 hp1 hzs => ?_⟩
  obtain ⟨zs, hz, ok⟩ := hzs
  obtain ⟨a, vs, rfl, ha, l⟩ := hz
  have evs := all2S.mp l
  subst evs
  have hfa1 := g1.h fa _ upd_same nfp
  have ffa1 := g1.out upd_same nfp ffa
  have g1 := g0.toX.trans g1
  refine ⟨a, rfl, ⟨_, SqL.of (hp1.s _ _ ha)⟩, ?_⟩
  have hzl : zs.length = m := ok.len
  refine for_list (xs := zs.map V.str) (fun i σ H' => ∃ F', ∃ (rs : List Row) (fvs : List V) (x4 x5 : Option V), σ = [some (.ref pa), some (.int (m : Int)), some v, some (.ref fa), x4, x5] ∧ GrowX pa F H F' H' ∧ Same F1 F' ∧ HasP pa (n + 40 + 32 * i) F' H' ∧ F' fa = none ∧ H' fa = some (.lst fvs) ∧
    All2 (vA K) rs fvs F' ∧ namesR rs = zs.take i ∧ (∀ r ∈ rs, r.b.items ≠ []) ∧ (∀ r ∈ rs, r.b.items.length ≤ 2)) ?_ ?_ ?_ ?_
  · exact ⟨F1, [], [], none, none, rfl, g1, Same.refl _, hp1, ffa1, hfa1, .nil, rfl, fun r hr => absurd hr List.not_mem_nil, fun r hr => absurd hr List.not_mem_nil⟩
  · rintro i σ H' _ ⟨F', rs, fvs, x4, x5, es, g, s1, hp', ff, hf, lr, e1, e2, e3⟩
    exact SqL.of (hp'.s _ _ (s1 _ _ ha))
  · rintro i y σ H' hy ⟨F', rs, fvs, x4, x5, es, g, s1, hp', ff, hf, lr, e1, e2, e3⟩
    subst es
    rw [List.getElem?_map] at hy
    obtain ⟨z, hz, ez⟩ := Option.map_eq_some_iff.mp hy
    subst ez
    have hi : i < zs.length := (List.getElem?_eq_some_iff.mp hz).1
    have hzm := List.mem_of_getElem? hz
    have tk : zs.take (i + 1) = zs.take i ++ [z] := by rw [List.take_succ, hz]; rfl
    -- some = shuffled(purse, kinds)
    refine ⟨_, rfl, _, rfl, ks, F', pa, n + 40 + 32 * i, _, rfl, hp', by omega, ⟨v, rfl, Mo.mo g.f hv, by omega⟩, fun sv F2 H2 g2 hp2 hsv => ?_⟩
    obtain ⟨ys, pm, hys⟩ := hsv
    have hf2 := g2.h _ _ hf nfp
    have ff2 := g2.out hf nfp ff
    have lr2 := lr.mo g2.f
    have s2 := s1.trans g2.f
    have g2 := g.trans g2
    -- found.append(Asker(name, some[:1 + int(draw(purse, 3) == 0)], 1 + draw(purse, 3)))
    refine ⟨_, rfl, .inl ⟨rfl, _, SqL.of hf2⟩, _, rfl, _, rfl, _, rfl, 3, F2, pa, _, _, rfl, hp2, by omega, ⟨rfl, by decide, by decide⟩, fun d1 F3 H3 g3 hp3 hd1 => ?_⟩
    obtain ⟨d, hd3, ed⟩ := hd1
    subst ed
    have hf3 := g3.h _ _ hf2 nfp
    have ff3 := g3.out hf2 nfp ff2
    have lr3 := lr2.mo g3.f
    have s3 := s2.trans g3.f
    have hys3 := Mo.mo g3.f hys
    have g3 := g2.trans g3
    obtain ⟨c, hc1, hc2, ec⟩ : ∃ c : Nat, 1 ≤ c ∧ c ≤ 2 ∧ (1 : Int) + b2i (decide ((d : Int) = 0)) = (c : Int) := by
      by_cases e : (d : Int) = 0
      · exact ⟨2, by decide, by decide, by rw [decide_eq_true e]; rfl⟩
      · exact ⟨1, by decide, by decide, by rw [decide_eq_false e]; rfl⟩
    refine ⟨F3, (d : Int), 0, hp3.s, rfl, rfl, .inr ⟨_, rfl, _, _, rfl, rfl, (c : Int), ?_, F3, ys, hp3.s, hys3.m hp3.s, fun cv F4 H4 g4 hcv => ?_⟩⟩
    · show V.int ((1 : Int) + b2i (decide ((d : Int) = 0))) = _
      rw [ec]
    rw [cutA__n] at hcv
    have hf4 := g4.h _ _ hf3
    have ff4 := g4.out hf3 ff3
    have lr4 := lr3.mo g4.f
    have s4 := s3.trans g4.f
    have hp4 := hp3.grow g4
    have g4 := g3.grow g4
    refine ⟨_, rfl, 3, F4, pa, _, _, rfl, hp4, by omega, ⟨rfl, by decide, by decide⟩, fun d2 F5 H5 g5 hp5 hd2 => ?_⟩
    obtain ⟨e, he3, ee⟩ := hd2
    subst ee
    have hf5 := g5.h _ _ hf4 nfp
    have ff5 := g5.out hf4 nfp ff4
    have lr5 := lr4.mo g5.f
    have s5 := s4.trans g5.f
    have hcv := Mo.mo g5.f hcv
    have g5 := g4.trans g5
    have hyl : ys.length = ks.length := pm.length_eq
    have hk1 : 1 ≤ ks.length := by
      have := fo.ne
      cases ks with
      | nil => exact absurd rfl this
      | cons _ _ => show 1 ≤ _ + 1; omega
    have hcl : (ys.take c).length = min c ys.length := List.length_take
    have fo2 : FitsOk (ys.take c) := ⟨fun q hq => fo.ok q (pm.mem_iff.mp (List.mem_of_mem_take hq)), (pm.nodup_iff.mpr fo.nd).sublist (List.take_sublist _ _), fun q => by rw [q, List.length_nil] at hcl; omega, by omega⟩
    refine ⟨_, _, rfl, rfl, ?_⟩
    refine fun x dx hx hd hne => ⟨x, dx, F5, z, ys.take c, cv, (1 : Int) + (e : Int), rfl, upd_same, same_made hp5.s hx hd, hp5.s.free hx, hcv, ok.ok z hzm, fo2, by omega, fun F7 H7 g7 h7 => ⟨rfl, ?_⟩⟩
    have g7 := GrowX.made hx hd g7
    have hf7 := g7.h _ _ hf5
    have ff7 := g7.out hf5 ff5
    have lr7 := lr5.mo g7.f
    have hfl := lr.len
    have hrl : rs.length ≤ i := by
      have := congrArg List.length e1
      rw [namesR_len, List.length_take] at this
      omega
    refine ⟨fa, _, _, rfl, rfl, hf7, small_of (by omega), ?_⟩
    have hp7 := (hp5.grow g7).set (o := .lst (fvs ++ [.ref x])) nfp ff7
    refine ⟨F7, rs ++ [mkRow z (ys.take c) (1 + (e : Int))], fvs ++ [.ref x], _, _, rfl, (g5.grow g7).set hfa ff7, s5.trans g7.f, hp7.mono (by omega), ff7, upd_same, lr7.snoc h7, ?_, ?_, ?_⟩
    · rw [tk, ← e1]
      unfold namesR
      rw [List.map_append]
      rfl
    · intro r hr
      rcases List.mem_append.mp hr with q | q
      · exact e2 r q
      · rw [List.mem_singleton.mp q]
        intro q2
        have : (isort W.DatumOrd.lt (ys.take c)).length = 0 := by rw [show isort W.DatumOrd.lt (ys.take c) = [] from q2]; rfl
        rw [isort_len] at this
        omega
    · intro r hr
      rcases List.mem_append.mp hr with q | q
      · exact e3 r q
      · rw [List.mem_singleton.mp q]
        show (isort W.DatumOrd.lt (ys.take c)).length ≤ 2
        rw [isort_len]
        omega
  · rintro σ H' ⟨F', rs, fvs, x4, x5, es, g, s1, hp', ff, hf, lr, e1, e2, e3⟩
    subst es
    rw [List.length_map] at e1 hp'
    rw [List.take_length] at e1
    have hrl : rs.length = m := by rw [← namesR_len, e1, hzl]
    refine ⟨_, rfl, k _ _ _ (g.keep hfa hf) ((hp'.keep nfp ff hf).mono (by omega)) ⟨rs, ⟨fa, fvs, rfl, upd_same, lr.mo (same_keep ff)⟩, hrl, ⟨by rw [e1]; exact ok.nd, by omega, fun r hr => ok.ok _ (by rw [← e1]; exact List.mem_map.mpr ⟨r, hr, rfl⟩), fun r hr => by have := e3 r hr; omega⟩, e2⟩⟩
abbrev N_law_alike_one : List Str := ["_law_purse_here", "_law_askers", "_law_many", "_law_found", "_law_turn", "_law_at", "_law_near"]
theorem sc_law_alike_one : FnScope N_law_alike_one ["_law_purse_here", "_law_askers", "_law_many"] (defScope s_law_alike_one) := ⟨rfl, rfl, rfl, by decide +kernel, rfl, by decide +kernel, by decide +kernel⟩
theorem ok_law_alike_one (T : Tp K mg) : OkG P w K mg base 8 (He.ga K "_law_alike_one") ["_law_purse_here", "_law_askers", "_law_many"] (sp_law_alike_one K) := by
  obtain ⟨fd_law_draw, G_law_draw, b_law_draw, k_law_draw⟩ := ok_law_draw (P := P) (w := w) (base := base) T
  obtain ⟨fd_law_same_trees, G_law_same_trees, b_law_same_trees, k_law_same_trees⟩ := ok_law_same_trees (P := P) (w := w) (base := base) T
  refine mk_okG (F_law_alike_one T) sc_law_alike_one ?_ (fun _ _ _ _ _ _ us hl => match us, hl with | [_, _, _], _ => rfl) (fun cdv A outer s H vs Q E hg hr h => ?_)
  · rintro vs H Q E ⟨i, F, pa, n, us, rfl, _, _, ⟨v, rfl, _⟩, _⟩
    rfl
  obtain ⟨⟨rs, m⟩, F, pa, n, us, rfl, hp, hn, ⟨v, rfl, hv, lok, hm⟩, k⟩ := h
  refine ⟨_, (pss_cons (ps_set (i := 3) sc_law_alike_one.nd rfl (by first | exact Or.inl rfl | exact Or.inr rfl) (pe_callTy (cr_lstF (vA K)) (by rfl) (n_list T) (by decide +kernel) (pa_cons (pv 1) pa_nil)))
    (pss_cons (ps_for PassesOwn.never rfl (pi_range1 rfl (n_range T) (pa_cons (pv 2) pa_nil)) (pg_name (i := 4) sc_law_alike_one.nd rfl (by first | exact Or.inl rfl | exact Or.inr rfl))
      (pss_one (ps_if (pt_cmpR op_gt (pe_callB (call_lenL (vA K)) (by rfl) (n_len T) (by decide +kernel) (pa_cons (pv 3) pa_nil)) pe_int (nomark _))
        (pss_cons (ps_set (i := 5) sc_law_alike_one.nd rfl (by first | exact Or.inl rfl | exact Or.inr rfl) (pe_call G_law_draw (hr.mono (by decide)) rfl (g_law_draw T) k_law_draw b_law_draw .nil pass0 (pa_cons (pv 0) (pa_cons (pe_op op_sub (pe_callB (call_lenL (vA K)) (by rfl) (n_len T) (by decide +kernel) (pa_cons (pv 3) pa_nil)) pe_int) pa_nil))))
        (pss_cons (ps_set (i := 6) sc_law_alike_one.nd rfl (by first | exact Or.inl rfl | exact Or.inr rfl) (pe_op (op_catF (vA K)) (pe_op (op_catF (vA K)) (pe_slice (sl_F (vA K)) (pv 3) po_none (po_some (pv 5))) (pe_lst (pa_cons (pe_ix (ixL (vA K)) (pv 3) (pe_op op_add (pv 5) pe_int) (fun _ _ => rfl)) (pa_cons (pe_ix (ixL (vA K)) (pv 3) (pv 5) (fun _ _ => rfl)) pa_nil)))) (pe_slice (sl_F (vA K)) (pv 3) (po_some (pe_op op_add (pv 5) pe_int)) po_none)))
        (pss_one (ps_if (pt_val (pe_callG G_law_same_trees hg (hr.mono (by decide)) rfl (g_law_same_trees T) k_law_same_trees b_law_same_trees .nil pass0 (pa_cons (pv 3) (pa_cons (pv 6) pa_nil))))
          (pss_one (ps_set (i := 3) sc_law_alike_one.nd rfl (by first | exact Or.inl rfl | exact Or.inr rfl) (pv 6)))
          pss_nil))))
        pss_nil)))
    (pss_one (ps_ret (pv 3))))), ?_⟩
  have hm : m ≤ 8 := hm
  have hv : vL (vA K) rs v F := hv
  have lok : LineOk rs := lok
  have sm := hp.s
  have hn8 : rs.length ≤ 100 := lok.len
  refine ⟨_, rfl, F, _, rs, rfl, sm, hv.m sm, fun lv F1 H1 g1 hlv => ?_⟩
  refine ⟨_, rfl, (m : Int), rfl, by omega, by omega, ?_⟩
  refine forN (n := m) (fun i σ H' => ∃ F', ∃ (b : List Row) (bv : V) (x4 x5 x6 : Option V), σ = [some (.ref pa), some v, some (.int (m : Int)), some bv, x4, x5, x6] ∧ GrowX pa F H F' H' ∧ HasP pa (n + i) F' H' ∧ vL (vA K) b bv F' ∧ Reach rs b) ?_ ?_ ?_
  · exact ⟨F1, rs, lv, none, none, none, rfl, g1.toX, hp.grow g1, hlv, .refl⟩
  · rintro i σ H' hi ⟨F', b, bv, x4, x5, x6, es, g, hp', hb, hR⟩
    subst es
    have hbl : b.length = rs.length := hR.perm.length_eq
    have lokb : LineOk b := lok.perm hR.perm
    refine ⟨_, rfl, F', _, b, rfl, hb.m hp'.s, _, _, rfl, rfl, _, rfl, iteB (fun h1 => ?_) (fun h1 => ?_)⟩
    · have h1 : (b.length : Int) > 1 := of_decide_eq_true h1
      refine ⟨_, rfl, _, rfl, F', _, b, rfl, hb.m hp'.s, _, _, rfl, rfl, b.length - 1, F', pa, n + i, _, rfl, hp', by omega, ⟨?_, by omega, by omega⟩, fun dv F2 H2 g2 hp2 hdv => ?_⟩
      · show [V.int ((b.length : Int) - 1)] = _
        congr 2
        omega
      obtain ⟨a, ha, ea⟩ := hdv
      subst ea
      have hb2 := Mo.mo g2.f hb
      have g2 := g.trans g2
      have e0 : (a : Int) + 1 = ((a + 1 : Nat) : Int) := by omega
      have e2 : (a : Int) + 2 = ((a + 2 : Nat) : Int) := by omega
      -- near = found[:at] + [found[at + 1], found[at]] + found[at + 2:]
      refine ⟨_, rfl, _, rfl, _, rfl, F2, b, hp2.s, hb2.m hp2.s, fun c F3 H3 g3 hc => ?_⟩
      rw [cutA__n] at hc
      have hb3 := Mo.mo g3.f hb2
      have hp3 := hp2.grow g3
      have g3' := g2.grow g3
      refine ⟨_, rfl, _, rfl, _, _, rfl, rfl, F3, b, a + 1, _, hb3.m hp3.s, by show V.int ((a : Int) + 1) = _; rw [e0], row_get (by omega), fun z1 hz1 => ?_⟩
      refine ⟨_, rfl, _, rfl, F3, b, a, _, hb3.m hp3.s, rfl, row_get (by omega), fun z2 hz2 => ?_⟩
      refine ⟨by show 2 ≤ sizeLine; decide, fun l0 hl0 => ?_⟩
      have g4 := Grow.put (o := .lst [z1, z2]) hp3.s hl0
      have s4 : Same F3 (upd F3 l0 (.lst [z1, z2])) := same_upd (hp3.s.free hl0)
      have hp4 := hp3.grow g4
      refine ⟨_, b.take a, [b.getD (a + 1) noRow, b.getD a noRow], g4.i, (Mo.mo s4 hc).m g4.i, ⟨l0, _, rfl, upd_same, .cons (Mo.mo s4 hz1) (.cons (Mo.mo s4 hz2) .nil)⟩, by rw [List.length_take]; show _ + 2 ≤ 100000; omega, fun d F5 H5 g5 hd => ?_⟩
      have hp5 := hp4.grow g5
      have hb5 := Mo.mo (s4.trans g5.f) hb3
      have g5' := (g3'.grow g4).grow g5
      refine ⟨_, rfl, _, rfl, _, _, rfl, rfl, ((a + 2 : Nat) : Int), by show V.int ((a : Int) + 2) = _; rw [e2], F5, b, hp5.s, hb5.m hp5.s, fun f F6 H6 g6 hf => ?_⟩
      rw [cutA_n_] at hf
      have hp6 := hp5.grow g6
      have hd := Mo.mo g6.f hd
      have hb6 := Mo.mo g6.f hb5
      have g6' := g5'.grow g6
      refine ⟨F6, _, _, hp6.s, hd.m hp6.s, hf.m hp6.s, by rw [List.length_append, List.length_take, List.length_drop]; show _ + 2 + _ ≤ 100000; omega, fun q F7 H7 g7 hq => ?_⟩
      have hq : vL (vA K) (swapR b a) q F7 := hq
      have hp7 := hp6.grow g7
      have hb7 := Mo.mo g7.f hb6
      have g7' := g6'.grow g7
      have ha1 : a + 1 < b.length := by omega
      have loks : LineOk (swapR b a) := lokb.perm (swapR_perm ha1)
      refine ⟨_, rfl, _, rfl, (b, swapR b a), F7, hp7.s, ⟨_, _, rfl, hb7, hq, lokb, loks⟩, fun z F8 H8 g8 hz => ⟨_, hz, ?_⟩⟩
      refine iteB (fun ht => ?_) (fun ht => ?_)
      · exact ⟨_, rfl, F8, swapR b a, q, _, _, _, rfl, g7'.grow g8, (hp7.grow g8).mono (by omega), Mo.mo g8.f hq, .step hR a ha1 ht⟩
      · exact ⟨F8, b, bv, _, _, _, rfl, g7'.grow g8, (hp7.grow g8).mono (by omega), Mo.mo g8.f hb7, hR⟩
    · exact ⟨F', b, bv, _, _, _, rfl, g, hp'.mono (by omega), hb, hR⟩
  · rintro σ H' ⟨F', b, bv, x4, x5, x6, es, g, hp', hb, hR⟩
    subst es
    exact ⟨_, rfl, k _ _ _ g (hp'.mono (by omega)) ⟨b, hb, hR⟩⟩
end
end Elk
set_option Elab.async false
set_option linter.all false
set_option maxRecDepth 100000
set_option maxHeartbeats 4000000
namespace Elk
open PySem PySem.Spec PyProof.Rows L2
/-! ### == of lines, of askers, of lists of askers -/
theorem anyAt_iff {e : Nat → Bool} : ∀ (k i : Nat), anyAt e i k = true ↔ ∃ j, i ≤ j ∧ j < i + k ∧ e j = true
  | 0, i => ⟨fun h => Bool.noConfusion (show false = true from h), fun ⟨j, h1, h2, _⟩ => by omega⟩
  | k + 1, i => by
    rw [anyAt]
    by_cases h : e i = true
    · rw [if_pos h]
      exact ⟨fun _ => ⟨i, Nat.le_refl _, by omega, h⟩, fun _ => rfl⟩
    · rw [if_neg h, anyAt_iff k (i + 1)]
      constructor
      · rintro ⟨j, h1, h2, h3⟩; exact ⟨j, by omega, by omega, h3⟩
      · rintro ⟨j, h1, h2, h3⟩
        have : j ≠ i := fun q => h (q ▸ h3)
        exact ⟨j, by omega, by omega, h3⟩
theorem allAt_iff {e : Nat → Bool} : ∀ (k i : Nat), allAt e i k = true ↔ ∀ j, i ≤ j → j < i + k → e j = true
  | 0, i => ⟨fun _ j h1 h2 => by omega, fun _ => rfl⟩
  | k + 1, i => by
    rw [allAt]
    by_cases h : e i = true
    · rw [if_pos h, allAt_iff k (i + 1)]
      constructor
      · intro q j h1 h2
        by_cases w : j = i
        · rw [w]; exact h
        · exact q j (by omega) (by omega)
      · intro q j h1 h2; exact q j (by omega) (by omega)
    · rw [if_neg h]
      exact ⟨fun q => Bool.noConfusion (show false = true from q), fun q => absurd (q i (Nat.le_refl _) (by omega)) h⟩
def DAsk (K : W.Frag) : DB := fun x y b H => ∃ r r', vA K r x H ∧ vA K r' y H ∧ b = decide (r = r')
def DLine (K : W.Frag) : DB := fun x y b H => ∃ rs rs', vLine K rs x H ∧ vLine K rs' y H ∧ b = decide (rs = rs')
theorem monB_ask (K : W.Frag) : MonB (DAsk K) := fun x y b H H' s ⟨r, r', h1, h2, h3⟩ => ⟨r, r', Mo.mo s h1, Mo.mo s h2, h3⟩
theorem monB_line (K : W.Frag) : MonB (DLine K) := fun x y b H H' s ⟨r, r', h1, h2, h3⟩ => ⟨r, r', Mo.mo s h1, Mo.mo s h2, h3⟩
instance {K : W.Frag} : Inj (vLine K) := ⟨fun {x y v H} ⟨a, dx, t1, t2, e, h, r1, _⟩ ⟨a', dx', t1', t2', e', h', r1', _⟩ => by
  rw [e] at e'; cases e'; rw [h] at h'; cases h'
  have q := Inj.inj (p := vT (vA K)) r1 r1'
  injection q⟩
theorem own_ask (K : W.Frag) : DOwn (cA K) (sp_Asker_eq K) (DAsk K) := by
  rintro x y b H ⟨r, r', h1, h2, h3⟩
  obtain ⟨a, dx, t, rfl, ha, _⟩ := id h1
  obtain ⟨c, dy, u, rfl, hc, _⟩ := id h2
  refine ⟨a, c, dx, dy, _, _, rfl, rfl, ha, hc, fun e => ?_, fun Q E k => ?_⟩
  · subst e
    rw [h3]
    exact decide_eq_true (Inj.inj h1 h2)
  · refine ⟨(r, r'), H, Same.refl H, ⟨_, _, rfl, h1, h2⟩, fun v F' H' g hv => ?_⟩
    have ev : v = .bl (decide (r = r')) := hv
    rw [ev, ← h3]
    exact k H' g.h
theorem own_line (K : W.Frag) : DOwn (cL K) (sp_Line_eq K) (DLine K) := by
  rintro x y b H ⟨r, r', h1, h2, h3⟩
  obtain ⟨a, dx, t, t2, rfl, ha, _⟩ := id h1
  obtain ⟨c, dy, u, u2, rfl, hc, _⟩ := id h2
  refine ⟨a, c, dx, dy, _, _, rfl, rfl, ha, hc, fun e => ?_, fun Q E k => ?_⟩
  · subst e
    rw [h3]
    exact decide_eq_true (Inj.inj h1 h2)
  · refine ⟨(r, r'), H, Same.refl H, ⟨_, _, rfl, h1, h2⟩, fun v F' H' g hv => ?_⟩
    have ev : v = .bl (decide (r = r')) := hv
    rw [ev, ← h3]
    exact k H' g.h
theorem lst_ask {K : W.Frag} {xs ys : List Row} {x y : V} {H : Hp} (h1 : vL (vA K) xs x H) (h2 : vL (vA K) ys y H) : DLst (DAsk K) x y (decide (xs = ys)) H := by
  obtain ⟨a, vs, rfl, ha, l⟩ := id h1
  obtain ⟨c, ws, rfl, hc, m⟩ := id h2
  have e1 := l.len
  have e2 := m.len
  refine ⟨a, c, vs, ws, fun i => decide (xs.getD i noRow = ys.getD i noRow), rfl, rfl, ha, hc, fun hl i v w hv hw => ?_, ?_, fun e => ?_⟩
  · obtain ⟨r, hr, pr⟩ := l.at hv
    obtain ⟨r', hr', pr'⟩ := m.at hw
    refine ⟨r, r', pr, pr', ?_⟩
    show decide (xs.getD i noRow = ys.getD i noRow) = _
    rw [getD_some hr, getD_some hr']
  · by_cases e : xs = ys
    · subst e
      rw [decide_eq_true rfl, decide_eq_true (by omega)]
      symm
      rw [Bool.true_and, allAt_iff]
      intro j _ _
      exact decide_eq_true rfl
    · rw [decide_eq_false e]
      symm
      rw [Bool.and_eq_false_iff]
      by_cases hl : vs.length = ws.length
      · right
        cases q : allAt (fun i => decide (xs.getD i noRow = ys.getD i noRow)) 0 vs.length with
        | false => rfl
        | true =>
          rw [allAt_iff] at q
          refine absurd (List.ext_getElem? fun i => ?_) e
          by_cases hi : i < xs.length
          · have := of_decide_eq_true (q i (Nat.zero_le _) (by omega))
            rw [some_getD (d := noRow) hi, some_getD (d := noRow) (show i < ys.length by omega), this]
          · rw [List.getElem?_eq_none (by omega), List.getElem?_eq_none (by omega)]
      · exact .inl (decide_eq_false hl)
  · subst e
    exact decide_eq_true (Inj.inj h1 h2)
section
variable {X : Cx} {K : W.Frag} {mg : Str → Option Value}
def rEqLn (K : W.Frag) (neg : Bool) : R2 := fun x y H Q => ∃ F rs rs', Same F H ∧ vLine K rs x F ∧ vLine K rs' y F ∧ ∀ F' H', Grow F H F' H' → Q (.bl (if neg = true then !decide (rs = rs') else decide (rs = rs'))) H'
theorem opLn_eq (T : Tp K mg) (hr : Room 1 X.A) (hK : X.K = K := by rfl) (hM : X.mg = mg := by rfl) : OpR X (compareOp .Eq) (rEqLn K false) := by
  subst hK hM
  obtain ⟨fd, G, b, k⟩ := ok_Line_eq (P := X.prog) (w := X.w) (base := X.base) T
  exact OpR.imp (op_eqB (rcB_ins G b (m_Line_eq T).1 (m_Line_eq T).2 (own_line _)) hr) fun x y H Q ⟨F, rs, rs', s, h1, h2, q⟩ => ⟨_, ⟨rs, rs', Mo.mo s h1, Mo.mo s h2, rfl⟩, fun H' e => q _ _ (Grow.of_same s e)⟩
theorem opLn_ne (T : Tp K mg) (hr : Room 2 X.A) (hK : X.K = K := by rfl) (hM : X.mg = mg := by rfl) : OpR X (compareOp .NotEq) (rEqLn K true) := by
  subst hK hM
  obtain ⟨fd, G, b, k⟩ := ok_Line_eq (P := X.prog) (w := X.w) (base := X.base) T
  exact OpR.imp (op_neB G b T.mro T.ne (m_Line_eq T).1 (m_Line_eq T).2 (own_line _) hr) fun x y H Q ⟨F, rs, rs', s, h1, h2, q⟩ => ⟨_, ⟨rs, rs', Mo.mo s h1, Mo.mo s h2, rfl⟩, fun H' e => q _ _ (Grow.of_same s e)⟩
def rNotInLL (K : W.Frag) : R2 := fun x y H Q => ∃ F, ∃ (row : List Row) (rows : List (List Row)), Same F H ∧ vL (vA K) row x F ∧ vM (vL (vA K)) rows y F H ∧ ∀ F' H', Grow F H F' H' → Q (.bl (decide (row ∉ rows))) H'
theorem opLL_notIn (T : Tp K mg) (hr : Room 3 X.A) (hK : X.K = K := by rfl) (hM : X.mg = mg := by rfl) : OpR X (compareOp .NotIn) (rNotInLL K) := by
  subst hK hM
  obtain ⟨fd, G, b, k⟩ := ok_Asker_eq (P := X.prog) (w := X.w) (base := X.base) T
  have E1 := eqB_ins G b (m_Asker_eq T).1 (m_Asker_eq T).2 (own_ask _)
  refine OpR.imp (op_notInB (monB_lst (monB_ask _)) (eqB_lst (monB_ask _) E1) hr) fun x y H Q ⟨F, row, rows, s, h1, ⟨a, vs, e, ha, l⟩, q⟩ => ?_
  refine ⟨a, vs, fun i => decide (rows.getD i [] = row), e, ha, fun i z hz => ?_, fun H' e => ?_⟩
  · obtain ⟨r, hr, pr⟩ := l.at hz
    show DLst (DAsk X.K) z x (decide (rows.getD i [] = row)) H
    rw [getD_some hr]
    exact lst_ask (Mo.mo s pr) (Mo.mo s h1)
  · rw [if_pos rfl]
    have ev : (!anyAt (fun i => decide (rows.getD i [] = row)) 0 vs.length) = decide (row ∉ rows) := by
      by_cases hm : row ∈ rows
      · obtain ⟨i, hi⟩ := List.mem_iff_getElem?.mp hm
        have hlt := (List.getElem?_eq_some_iff.mp hi).1
        have : anyAt (fun i => decide (rows.getD i [] = row)) 0 vs.length = true := (anyAt_iff _ _).mpr ⟨i, Nat.zero_le _, by rw [← l.len]; omega, decide_eq_true (getD_some hi)⟩
        rw [this, decide_eq_false (fun h => h hm)]; rfl
      · have : anyAt (fun i => decide (rows.getD i [] = row)) 0 vs.length = false := by
          rw [Bool.eq_false_iff]
          intro h
          obtain ⟨j, _, hj, ej⟩ := (anyAt_iff _ _).mp h
          rw [← l.len] at hj
          have := of_decide_eq_true ej
          exact hm (this ▸ List.mem_of_getElem? (some_getD (d := []) (by omega : j < rows.length)))
        rw [this, decide_eq_true hm]; rfl
    rw [ev]
    exact q _ _ (Grow.of_same s e)
def rIdxA (K : W.Frag) : V → List V → Hp → VK → Prop := fun x ys H Q => ∃ F, ∃ (y : V) (r : Row) (rs : List Row), ys = [y] ∧ Same F H ∧ vM (vA K) rs x F H ∧ vA K r y F ∧ r ∈ rs ∧ ∀ F' H', Grow F H F' H' → Q (.int ((rs.idxOf r : Nat) : Int)) H'
theorem mt_idxA (T : Tp K mg) (hr : Room 2 X.A) (hK : X.K = K := by rfl) (hM : X.mg = mg := by rfl) : MtR X "list.index" (rIdxA K) := by
  subst hK hM
  obtain ⟨fd, G, b, k⟩ := ok_Asker_eq (P := X.prog) (w := X.w) (base := X.base) T
  have E1 := eqB_ins G b (m_Asker_eq T).1 (m_Asker_eq T).2 (own_ask _)
  refine MtR.imp (mt_indexB (monB_ask _) E1 hr) fun x ys H Q ⟨F, y, r, rs, e, s, ⟨a, vs, ev, ha, l⟩, hy, hm, q⟩ => ?_
  have hlt := List.idxOf_lt_length_iff.mpr hm
  have hl := l.len
  refine ⟨a, vs, y, rs.idxOf r, fun i => decide (rs.getD i noRow = r), ev, e, ha, fun i z hz => ?_, by omega, ?_, fun m hmj => ?_, fun H' e => q _ _ (Grow.of_same s e)⟩
  · obtain ⟨r', hr', pr⟩ := l.at hz
    show DAsk X.K z y (decide (rs.getD i noRow = r)) H
    rw [getD_some hr']
    exact ⟨r', r, Mo.mo s pr, Mo.mo s hy, rfl⟩
  · refine decide_eq_true ?_
    rw [List.getD_eq_getElem?_getD, List.getElem?_eq_getElem hlt, List.getElem_idxOf hlt]; rfl
  · refine decide_eq_false fun h => ?_
    have h2 := List.not_of_lt_findIdx (p := fun y => y == r) (xs := rs) hmj
    rw [List.getD_eq_getElem?_getD, List.getElem?_eq_getElem (by omega)] at h
    have h : rs[m]'(by omega) = r := h
    rw [h] at h2
    simp at h2
end
end Elk
set_option Elab.async false
set_option linter.all false
set_option maxRecDepth 100000
set_option maxHeartbeats 4000000
namespace Elk
open PySem PySem.Spec PyProof.Rows L2
theorem log_ok {n : Nat} (h : n < 1920) : ((n : Int)).natAbs.log2 < 1920 := Nat.lt_of_le_of_lt (Nat.log2_le_self _) h
theorem rising_uniq {xs ys : List Nat} (h1 : xs.Pairwise (· < ·)) (h2 : ys.Pairwise (· < ·)) (h : ∀ n, n ∈ xs ↔ n ∈ ys) : xs = ys := by
  have n1 : xs.Nodup := h1.imp fun h => Nat.ne_of_lt h
  have n2 : ys.Nodup := h2.imp fun h => Nat.ne_of_lt h
  exact srtd_uniq slo_nlt (perm_nd n1 n2 h) (h1.imp fun {a b} h => decide_eq_false (by omega)) (h2.imp fun {a b} h => decide_eq_false (by omega))
theorem range'_rise (a n : Nat) : (List.range' a n).Pairwise (· < ·) := List.pairwise_lt_range'
theorem pair_small {a b : Nat} (ha : a < 8) (hb : b < 8) : (W.Datum.toD ((a : Int), (b : Int))).showable = true ∧ (W.Datum.toD ((a : Int), (b : Int))).hasDict = false ∧ (W.Datum.toD ((a : Int), (b : Int))).shown.length ≤ 100000 := by
  have h : ((List.range 8).all fun a => (List.range 8).all fun b => (W.Datum.toD ((a : Int), (b : Int))).showable && (!(W.Datum.toD ((a : Int), (b : Int))).hasDict && decide ((W.Datum.toD ((a : Int), (b : Int))).shown.length ≤ 100000))) = true := by decide +kernel
  have h1 := List.all_eq_true.mp (List.all_eq_true.mp h a (List.mem_range.mpr ha)) b (List.mem_range.mpr hb)
  rw [Bool.and_eq_true, Bool.and_eq_true] at h1
  exact ⟨h1.1, by simpa using h1.2.1, of_decide_eq_true h1.2.2⟩
/-- what is to be shown of a line and the orders with the same trees -/
structure LineR (rs : List Row) (so : List (List Row)) : Prop where
  lok : LineOk rs
  pm : ∀ row ∈ so, row.Perm rs
  len : so.length ≤ 63
  cnt : cntA rs = so.length
  least : ∃ y ys, so = y :: ys ∧ W.minOf (namesR y) (ys.map namesR) = normN rs
  ali : aliB rs (normR rs) = true
  pos : ∀ i, i < rs.length → ∃ lo n : Nat, posA rs i = ((lo : Int), ((lo + n : Nat) : Int)) ∧ lo + n < 8 ∧ ∀ x, x ∈ (so.map fun row => (namesR row).idxOf (nameAt rs i)) ↔ lo ≤ x ∧ x ≤ lo + n
def sp_law_line_right (K : W.Frag) : Sp := Pm (ι := List Row × List (List Row)) (fun i vs F => ∃ u v, vs = [u, v] ∧ vL (vA K) i.1 u F ∧ vL (vL (vA K)) i.2 v F ∧ LineR i.1 i.2) (fun i v F => v = .bl true)
section
variable {P : Program} {w : World} {K : W.Frag} {mg : Str → Option Value} {base : Heap}
abbrev N_law_line_right : List Str := ["_law_askers", "_law_same_here", "_law_line", "_law_least", "_law_asker", "_law_spots", "_law_row"]
theorem sc_law_line_right : FnScope N_law_line_right ["_law_askers", "_law_same_here"] (defScope s_law_line_right) := ⟨rfl, rfl, rfl, by decide +kernel, rfl, by decide +kernel, by decide +kernel⟩
theorem ok_law_line_right (T : Tp K mg) : OkG P w K mg base 7 (He.ga K "_law_line_right") ["_law_askers", "_law_same_here"] (sp_law_line_right K) := by
  obtain ⟨fd_law_names_of, G_law_names_of, b_law_names_of, k_law_names_of⟩ := ok_law_names_of (P := P) (w := w) (base := base) T
  obtain ⟨fd_count_alike, G_count_alike, b_count_alike, k_count_alike⟩ := ok_count_alike (P := P) (w := w) (base := base) T
  obtain ⟨fd_normal, G_normal, b_normal, k_normal⟩ := ok_normal (P := P) (w := w) (base := base) T
  obtain ⟨fd_alike, G_alike, b_alike, k_alike⟩ := ok_alike (P := P) (w := w) (base := base) T
  obtain ⟨fd_positions, G_positions, b_positions, k_positions⟩ := ok_positions (P := P) (w := w) (base := base) T
  obtain ⟨fdL_names, GL_names, bL_names, kL_names⟩ := ok_Line_names (P := P) (w := w) (base := base) T
  obtain ⟨fdL_ordered, GL_ordered, bL_ordered, kL_ordered⟩ := ok_Line_ordered (P := P) (w := w) (base := base) T
  obtain ⟨fd_Line, G_Line, b_Line, k_Line⟩ := ok_Line_init (P := P) (w := w) (base := base) T
  obtain ⟨pa_name, ga_name, fd_name, hp_name, G_name, b_name⟩ := ok_Asker_name (P := P) (w := w) (base := base) T
  refine mk_okG (F_law_line_right T) sc_law_line_right ?_ (fun _ _ _ _ _ _ us hl => match us, hl with | [_, _], _ => rfl) (fun cdv A outer s H vs Q E hg hr h => ?_)
  · rintro vs H Q E ⟨i, F, _, ⟨u, v, rfl, _⟩, _⟩
    rfl
  obtain ⟨⟨rs, so⟩, F, sm, ⟨u, v, rfl, hu, hv, R⟩, k⟩ := h
  refine ⟨_, (pss_cons (ps_set (i := 2) sc_law_line_right.nd rfl (by first | exact Or.inl rfl | exact Or.inr rfl) (pe_make (mkr_Line T) G_Line (hr.mono (by decide)) rfl (g_Line T) b_Line .nil pass0 (pa_cons (pv 0) pa_nil)))
    (pss_cons (ps_set (i := 3) sc_law_line_right.nd rfl (by first | exact Or.inl rfl | exact Or.inr rfl) (pe_callB (cr_minF (vL vS) rfl hr.units) (by rfl) (n_min T) (by decide +kernel) (pa_cons (pe_lc (own := [("_law_row", 6)]) (g := gName 6) rfl sc_law_line_right.nd (pi_list (pv 1)) (blkOk_by (N := N_law_line_right) (sc := defScope s_law_line_right) (by decide +kernel)) (fun _ _ _ _ _ => (pg_name (i := 6) sc_law_line_right.nd rfl (by first | exact Or.inl rfl | exact Or.inr rfl))) (fun _ _ _ _ _ => pts_nil) (fun _ _ _ _ _ => (pe_call G_law_names_of (hr.mono (by decide)) rfl (g_law_names_of T) k_law_names_of b_law_names_of .nil pass0 (pa_cons (pv 6) pa_nil)))) pa_nil)))
    (pss_cons (ps_if (PW.pt (pw_or (pt_cmpR (opF_ne vS hr.units) (pe_callB SkE.call_repr_int (by rfl) (n_repr T) (by decide +kernel) (pa_cons (pe_call G_count_alike (hr.mono (by decide)) rfl (g_count_alike T) k_count_alike b_count_alike .nil pass0 (pa_cons (pv 2) pa_nil)) pa_nil)) (pe_callB SkE.call_repr_int (by rfl) (n_repr T) (by decide +kernel) (pa_cons (pe_callB (call_lenL (vL (vA K))) (by rfl) (n_len T) (by decide +kernel) (pa_cons (pv 1) pa_nil)) pa_nil)) (nomark _)) (pw_or1 (pt_cmpR (opF_ne (vL vS) hr.units) (pe_meth0 (pe_call G_normal (hr.mono (by decide)) rfl (g_normal T) k_normal b_normal .nil pass0 (pa_cons (pv 2) pa_nil)) (cls_Line T) (m_Line_names T) GL_names (hr.mono (by decide)) bL_names .nil pass0) (pv 3) (nomark _)))))
      (pss_one (ps_ret pe_bl))
      pss_nil)
    (pss_cons (ps_if (PW.pt (pw_or (pt_cmpR (opLn_ne T (hr.mono (by decide))) (pe_call G_normal (hr.mono (by decide)) rfl (g_normal T) k_normal b_normal .nil pass0 (pa_cons (pv 2) pa_nil)) (pe_meth (pv 2) (cls_Line T) (m_Line_ordered T) GL_ordered (hr.mono (by decide)) bL_ordered .nil pass0 (pa_cons (pv 3) pa_nil)) (nomark _)) (pw_or1 (pt_not (pt_val (pe_call G_alike (hr.mono (by decide)) rfl (g_alike T) k_alike b_alike .nil pass0 (pa_cons (pv 2) (pa_cons (pe_call G_normal (hr.mono (by decide)) rfl (g_normal T) k_normal b_normal .nil pass0 (pa_cons (pv 2) pa_nil)) pa_nil))))))))
      (pss_one (ps_ret pe_bl))
      pss_nil)
    (pss_cons (ps_for PassesOwn.never rfl (pi_list (pv 0)) (pg_name (i := 4) sc_law_line_right.nd rfl (by first | exact Or.inl rfl | exact Or.inr rfl))
      (pss_cons (ps_set (i := 5) sc_law_line_right.nd rfl (by first | exact Or.inl rfl | exact Or.inr rfl) (pe_callB (cr_sortSetN rfl) (by rfl) (n_sorted T) (by decide +kernel) (pa_cons (pe_callTy (cr_setN rfl) (by rfl) (n_set T) (by decide +kernel) (pa_cons (pe_lc (own := [("_law_row", 6)]) (g := gName 6) rfl sc_law_line_right.nd (pi_list (pv 1)) (blkOk_by (N := N_law_line_right) (sc := defScope s_law_line_right) (by decide +kernel)) (fun _ _ _ _ _ => (pg_name (i := 6) sc_law_line_right.nd rfl (by first | exact Or.inl rfl | exact Or.inr rfl))) (fun _ _ _ _ _ => pts_nil) (fun _ _ _ _ _ => (pe_bmK K PySem.F.plainAttrs_list PySem.F.slot_list_index PySem.F.type_list_index mt_idxS (pe_call G_law_names_of (hr.mono (by decide)) rfl (g_law_names_of T) k_law_names_of b_law_names_of .nil pass0 (pa_cons (pv 6) pa_nil)) (pa_cons (pe_prop (pv 4) (cls_Asker T) hp_name G_name (hr.mono (by decide)) b_name .nil pass0 rfl) pa_nil)))) pa_nil)) pa_nil)))
      (pss_cons (ps_if (pt_cmpR (opF_ne vS hr.units) (pe_callB (cr_repr (vP vI vI) hg (hu100 hr)) (by rfl) (n_repr T) (by decide +kernel) (pa_cons (pe_call G_positions (hr.mono (by decide)) rfl (g_positions T) k_positions b_positions .nil pass0 (pa_cons (pv 2) (pa_cons (pe_prop (pv 4) (cls_Asker T) hp_name G_name (hr.mono (by decide)) b_name .nil pass0 rfl) pa_nil))) pa_nil)) (pe_callB (cr_repr (vP vI vI) hg (hu100 hr)) (by rfl) (n_repr T) (by decide +kernel) (pa_cons (pe_tup (pa_cons (pe_ix (ixL vN) (pv 5) pe_int (fun _ _ => rfl)) (pa_cons (pe_ix (ixZ vN) (pv 5) (pe_un un_neg pe_int) (fun _ _ => rfl)) pa_nil))) pa_nil)) (nomark _))
        (pss_one (ps_ret pe_bl))
        pss_nil)
      (pss_one (ps_if (pt_cmpR (opN_ne hr.units) (pv 5) (pe_listRg rfl rfl (n_list T) (prg_2 rfl (n_range T) (pe_ix (ixL vN) (pv 5) pe_int (fun _ _ => rfl)) (pe_op op_add (pe_ix (ixZ vN) (pv 5) (pe_un un_neg pe_int) (fun _ _ => rfl)) pe_int))) (nomark _))
        (pss_one (ps_ret pe_bl))
        pss_nil)))))
    (pss_one (ps_ret (pe_cmpR (opLn_eq T (hr.mono (by decide))) (pv 2) (pe_make (mkr_Line T) G_Line (hr.mono (by decide)) rfl (g_Line T) b_Line .nil pass0 (pa_cons (pv 0) pa_nil)) (nomark _))))))))), ?_⟩
  have R : LineR rs so := R
  have lok : LineOk rs := R.lok
  have hn : rs.length ≤ 100 := lok.len
  have hsl : so.length ≤ 63 := R.len
  have lokN : LineOk (normR rs) := lok.perm (normR_perm lok.nd)
  have hNl : (normR rs).length ≤ 100 := lokN.len
  have hu : vL (vA K) rs u F := hu
  have hv : vL (vL (vA K)) so v F := hv
  -- line = Line(askers)
  refine ⟨_, rfl, fun x dx hx hd hne => ⟨x, dx, F, rs, u, rfl, upd_same, same_made sm hx hd, sm.free hx, hu, lok, fun F1 H1 g1 h1 => ⟨rfl, ?_⟩⟩⟩
  have g1 := GrowX.made hx hd g1
  -- least = min(..)
  obtain ⟨a, vs, rfl, ha, l⟩ := id hv
  refine ⟨_, rfl, a, rfl, ⟨_, SqL.of (g1.i _ _ (g1.f _ _ ha))⟩, fun D hD => ?_⟩
  refine lcL (p := vL (vA K)) (q := vL vS) (f := namesR) (t := fun _ => true) g1.i hD (g1.i _ _ (g1.f _ _ ha)) (l.mo g1.f) (by omega) ?_ ?_
  · intro y yv F' H' hy g hyv N Y hN hY
    have hyl : y.length = rs.length := (R.pm y hy).length_eq
    exact ⟨rfl, _, rfl, y, F', g.i, ⟨_, rfl, hyv, by omega⟩, fun z F2 H2 g2 hz => hY _ _ _ g2 rfl hz⟩
  intro F2 H2 g2 hl2
  rw [filter_tt] at hl2
  have h1 := Mo.mo g2.f h1
  have g2 := g1.trans g2
  obtain ⟨y0, ys0, eso, emin⟩ := R.least
  refine ⟨F2, _, namesR y0, ys0.map namesR, rfl, g2.i, ?_, fun lv hlv => ?_⟩
  · have : so.map namesR = namesR y0 :: ys0.map namesR := by rw [eso, List.map_cons]
    rw [this] at hl2
    exact hl2.m g2.i
  rw [emin] at hlv
  -- repr(count_alike(line)) != repr(len(same_here))
  refine ⟨_, rfl, rs, F2, g2.i, ⟨_, rfl, h1, lok⟩, fun cv F3 H3 g3 hcv => ?_⟩
  have ecv : cv = .int (cntA rs : Int) := hcv
  subst ecv
  have h1 := Mo.mo g3.f h1
  have hlv := Mo.mo g3.f hlv
  have g3 := g2.trans g3
  refine ⟨_, rfl, log_ok (by rw [R.cnt]; omega), ?_⟩
  refine ⟨_, rfl, F3, _, so, rfl, (Mo.mo g3.f hv).m g3.i, _, rfl, log_ok (by omega), ?_⟩
  refine ⟨F3, _, _, g3.i, rfl, rfl, _, rfl, no_t (decide_eq_false fun h => h (by rw [R.cnt])) ?_⟩
  -- normal(line).names() != least
  refine ⟨_, rfl, rs, F3, g3.i, ⟨_, rfl, h1, lok⟩, fun nv F4 H4 g4 hnv => ?_⟩
  have h1 := Mo.mo g4.f h1
  have hlv := Mo.mo g4.f hlv
  have g4 := g3.trans g4
  have hnv : vLine K (normR rs) nv F4 := hnv
  refine hnv.at_ g4.i rfl rfl ⟨normR rs, F4, g4.i, ⟨_, rfl, hnv, hNl⟩, fun mv F5 H5 g5 hmv => ?_⟩
  have h1 := Mo.mo g5.f h1
  have hlv := Mo.mo g5.f hlv
  have g5 := g4.trans g5
  have hmv : vL vS (namesR (normR rs)) mv F5 := hmv
  rw [normR_names lok.nd] at hmv
  refine ⟨_, rfl, F5, _, _, g5.i, hmv, hlv, _, rfl, no_t (decide_eq_false fun h => h rfl) ?_⟩
  -- normal(line) != line.ordered(least)
  refine ⟨_, rfl, rs, F5, g5.i, ⟨_, rfl, h1, lok⟩, fun nv F6 H6 g6 hnv => ?_⟩
  have h1 := Mo.mo g6.f h1
  have hlv := Mo.mo g6.f hlv
  have g6 := g5.trans g6
  have hnv : vLine K (normR rs) nv F6 := hnv
  refine ⟨_, rfl, h1.at_ g6.i rfl rfl ⟨_, rfl, (rs, normR rs), F6, g6.i, ⟨_, _, rfl, h1, by rw [normR_names lok.nd]; exact hlv, lok, normR_perm lok.nd⟩, fun ov F7 H7 g7 hov => ?_⟩⟩
  have h1 := Mo.mo g7.f h1
  have hlv := Mo.mo g7.f hlv
  have hnv := Mo.mo g7.f hnv
  have g7 := g6.trans g7
  have hov : vLine K (normR rs) ov F7 := hov
  refine ⟨F7, normR rs, normR rs, g7.i, hnv, hov, fun F8 H8 g8 => ⟨_, rfl, no_t (by rw [if_pos rfl, decide_eq_true rfl]; rfl) ?_⟩⟩
  have h1 := Mo.mo g8.f h1
  have hlv := Mo.mo g8.f hlv
  have g8 := g7.trans g8
  -- alike(line, normal(line))
  refine ⟨_, rfl, _, rfl, rs, F8, g8.i, ⟨_, rfl, h1, lok⟩, fun nv F9 H9 g9 hnv => ?_⟩
  have h1 := Mo.mo g9.f h1
  have hlv := Mo.mo g9.f hlv
  have g9 := g8.trans g9
  have hnv : vLine K (normR rs) nv F9 := hnv
  refine ⟨(rs, normR rs), F9, g9.i, ⟨_, _, rfl, h1, hnv, lok, lokN, normR_perm lok.nd⟩, fun av F10 H10 g10 hav => ⟨aliB rs (normR rs), hav, no_t (by rw [R.ali]; rfl) ?_⟩⟩
  have h1 := Mo.mo g10.f h1
  have hlv := Mo.mo g10.f hlv
  have g10 := g9.trans g10
  -- for asker in askers
  obtain ⟨b, bs, rfl, hb, lb⟩ := id hu
  refine ⟨_, rfl, b, rfl, ⟨_, SqL.of (g10.i _ _ (g10.f _ _ hb))⟩, ?_⟩
  refine for_list (xs := bs) (fun i σ H' => ∃ F' x4 x5, σ = [some (.ref b), some (.ref a), some (.ref x), some lv, x4, x5, none] ∧ Grow F H F' H' ∧ Same F10 F') ?_ ?_ ?_ ?_
  · exact ⟨F10, none, none, rfl, g10, Same.refl _⟩
  · rintro i σ H' _ ⟨F', x4, x5, es, g, s⟩
    exact SqL.of (g.i _ _ (g.f _ _ hb))
  · rintro i y σ H' hy ⟨F', x4, x5, es, g, s⟩
    subst es
    obtain ⟨r, hr0, hyr⟩ := lb.at hy
    have hi : i < rs.length := (List.getElem?_eq_some_iff.mp hr0).1
    have ap : AtP rs i r := ⟨lok.nd, hn, hr0⟩
    have ena : nameAt rs i = r.a := nameAt_at hr0
    have hyF := Mo.mo g.f hyr
    have h1' := Mo.mo s h1
    obtain ⟨lo, n, epos, h8, hmem⟩ := R.pos i hi
    rw [ena] at hmem
    -- spots = sorted(set([names_of(row).index(asker.name) for row in same_here]))
    refine ⟨_, rfl, a, rfl, ⟨_, SqL.of (g.i _ _ (g.f _ _ ha))⟩, fun D hD => ?_⟩
    refine lcL (p := vL (vA K)) (q := vN) (f := fun row => (namesR row).idxOf r.a) (t := fun _ => true) g.i hD (g.i _ _ (g.f _ _ ha)) (l.mo g.f) (by omega) ?_ ?_
    · intro row rv F3 H3 hrow g3 hrv N Y hN hY
      have hyl : row.length = rs.length := (R.pm row hrow).length_eq
      refine ⟨rfl, _, rfl, row, F3, g3.i, ⟨_, rfl, hrv, by omega⟩, fun z F4 H4 g4 hz => ?_⟩
      have hz : vL vS (namesR row) z F4 := hz
      have g34 := g3.trans g4
      have hy4 := Mo.mo g34.f hyF
      obtain ⟨va, vdx, vt, ev, hva, _⟩ := id hy4
      refine ⟨(hz.m g4.i).ty, _, rfl, va, vdx, _, ev, g4.i _ _ hva, r, F4, g4.i, ⟨_, rfl, ev ▸ hy4⟩, fun z2 F5 H5 g5 hz2 => ?_⟩
      have e2 : z2 = .str r.a := hz2
      subst e2
      refine ⟨F5, r.a, namesR row, rfl, (Mo.mo g5.f hz).m g5.i, ?_, hY _ _ _ (g4.trans g5) rfl rfl⟩
      exact ((R.pm row hrow).map fun r : Row => r.a).mem_iff.mpr ap.mem
    intro F3 H3 g3 hl3
    rw [filter_tt] at hl3
    have g3' := g.trans g3
    have s3 := s.trans g3.f
    refine ⟨F3, _, _, rfl, g3.i, hl3.m g3.i, by rw [List.length_map]; omega, fun q c hq hc => ?_⟩
    have g4 := Grow.put (o := SetO w q (fun j => decide (j ∈ (so.map fun row => (namesR row).idxOf r.a).map fun n : Nat => (n : Int))) c) g3.i hq
    refine ⟨_, _, q, c, so.map fun row => (namesR row).idxOf r.a, rfl, rfl, g4.i, upd_same, hc, by rw [List.length_map]; exact hsl, fun sv F5 H5 ys g5 hsv hris hys => ?_⟩
    have eys : ys = List.range' lo (n + 1) := rising_uniq hris (range'_rise _ _) fun z => by
      rw [hys z, hmem z, List.mem_range'_1]
      omega
    subst eys
    have s5 := (s3.trans g4.f).trans g5.f
    have g5 := (g3'.trans g4).trans g5
    have h15 := Mo.mo s5 h1
    have hy5 := Mo.mo g5.f hyr
    obtain ⟨va, vdx, vt, ev, hva, _⟩ := id hy5
    -- repr(positions(line, asker.name)) != repr((spots[0], spots[-1]))
    refine ⟨_, rfl, _, rfl, va, vdx, _, ev, g5.i _ _ hva, r, F5, g5.i, ⟨_, rfl, ev ▸ hy5⟩, fun z2 F6 H6 g6 hz2 => ?_⟩
    have e2 : z2 = .str r.a := hz2
    subst e2
    have g6' := g5.trans g6
    have s6 := s5.trans g6.f
    refine ⟨(rs, i, r), F6, g6'.i, ⟨_, rfl, Mo.mo g6.f h15, ap, lok.rows⟩, fun pv F7 H7 g7 hpv => ?_⟩
    have hpv : vP vI vI (posA rs i) pv F7 := hpv
    rw [epos] at hpv
    have hsv7 := Mo.mo (g6.f.trans g7.f) hsv
    have s7 := s6.trans g7.f
    have g7' := g6'.trans g7
    obtain ⟨o1, o2, o3⟩ := pair_small (a := lo) (b := lo + n) (by omega) h8
    refine ⟨F7, pv, _, rfl, by obtain ⟨q, _, _, e, _⟩ := hpv; exact ⟨q, e⟩, g7'.i, hpv, o1, o2, o3, ?_⟩
    have e0 : (List.range' lo (n + 1))[0]? = some lo := by simp
    have eZ : (List.range' lo (n + 1))[(List.range' lo (n + 1)).length - 1]? = some (lo + n) := by
      rw [List.length_range']
      show (List.range' lo (n + 1))[n]? = _
      simp
    refine ⟨_, rfl, F7, _, 0, lo, hsv7.m g7'.i, rfl, e0, fun w1 hw1 => ?_⟩
    refine ⟨_, rfl, _, rfl, F7, _, lo + n, hsv7.m g7'.i, rfl, eZ, fun w2 hw2 => ?_⟩
    have ew1 : w1 = .int (lo : Int) := hw1
    have ew2 : w2 = .int ((lo + n : Nat) : Int) := hw2
    subst ew1 ew2
    refine ⟨by show 2 ≤ sizeLine; decide, fun tq htq => ?_⟩
    have g8 := g7'.trans (Grow.put (o := .tup [.int (lo : Int), .int ((lo + n : Nat) : Int)]) g7'.i htq)
    have s8 : Same F7 (upd F7 tq (.tup [.int (lo : Int), .int ((lo + n : Nat) : Int)])) := same_upd (g7'.i.free htq)
    refine ⟨_, _, ((lo : Int), ((lo + n : Nat) : Int)), rfl, ⟨tq, rfl⟩, g8.i, ⟨tq, _, _, rfl, upd_same, rfl, rfl⟩, o1, o2, o3, ?_⟩
    refine ⟨_, _, _, g8.i, rfl, rfl, _, rfl, no_t (decide_eq_false fun h => h rfl) ?_⟩
    -- spots != list(range(spots[0], spots[-1] + 1))
    have hsv8 := Mo.mo s8 hsv7
    refine ⟨_, rfl, _, rfl, _, _, 0, lo, hsv8.m g8.i, rfl, e0, fun w1 hw1 => ?_⟩
    refine ⟨_, rfl, _, rfl, _, _, lo + n, hsv8.m g8.i, rfl, eZ, fun w2 hw2 => ?_⟩
    have ew1 : w1 = .int (lo : Int) := hw1
    have ew2 : w2 = .int ((lo + n : Nat) : Int) := hw2
    subst ew1 ew2
    refine ⟨_, _, rfl, rfl, (lo : Int), ((lo + n + 1 : Nat) : Int), rfl, by rw [Int.natCast_add (lo + n) 1]; rfl, RgOk.of_le (by omega) (by omega) (by omega) (by omega), fun q2 hq2 => ?_⟩
    have g9 := g8.trans (Grow.put (o := .lst (rgV (lo : Int) ((lo + n + 1 : Nat) : Int))) g8.i hq2)
    have s9 : Same _ (upd (upd F7 tq (.tup [.int (lo : Int), .int ((lo + n : Nat) : Int)])) q2 (.lst (rgV (lo : Int) ((lo + n + 1 : Nat) : Int)))) := same_upd (g8.i.free hq2)
    have hrg : vL vN (List.range' lo (n + 1)) (.ref q2) (upd (upd F7 tq (.tup [.int (lo : Int), .int ((lo + n : Nat) : Int)])) q2 (.lst (rgV (lo : Int) ((lo + n + 1 : Nat) : Int)))) := ⟨q2, _, rfl, upd_same, by
      have := all2_rg lo (lo + n + 1) (upd (upd F7 tq (.tup [.int (lo : Int), .int ((lo + n : Nat) : Int)])) q2 (.lst (rgV (lo : Int) ((lo + n + 1 : Nat) : Int))))
      have e : lo + n + 1 - lo = n + 1 := by omega
      rw [e] at this
      exact this⟩
    refine ⟨_, _, _, g9.i, Mo.mo s9 hsv8, hrg, _, rfl, no_t (decide_eq_false fun h => h rfl) ?_⟩
    exact ⟨_, _, _, rfl, g9, (s7.trans s8).trans s9⟩
  · rintro σ H' ⟨F', x4, x5, es, g, s⟩
    subst es
    refine ⟨_, rfl, _, rfl, fun x2 dx2 hx2 hd2 hne2 => ⟨x2, dx2, F', rs, _, rfl, upd_same, same_made g.i hx2 hd2, g.i.free hx2, Mo.mo g.f hu, lok, fun F12 H12 g12 h12 => ⟨rfl, ?_⟩⟩⟩
    have g12 := GrowX.made hx2 hd2 g12
    refine ⟨F12, rs, rs, (g.trans g12).i, Mo.mo (s.trans g12.f) h1, h12, fun F13 H13 g13 => k _ _ _ ((g.trans g12).trans g13) ?_⟩
    show V.bl (if false = true then !decide (rs = rs) else decide (rs = rs)) = V.bl true
    rw [if_neg Bool.false_ne_true, decide_eq_true rfl]
end
end Elk
set_option Elab.async false
set_option linter.all false
set_option maxRecDepth 100000
set_option maxHeartbeats 4000000
namespace Elk
open PySem PySem.Spec PyProof.Rows L2
/-! ### the unlike ones, by what stands first in the rest -/
def minL : List (List Str) → List Str
  | [] => []
  | x :: xs => W.minOf x xs
def unlF : Nat → List (List Row) → List (List Str × Int)
  | 0, _ => []
  | _ + 1, [] => []
  | f + 1, r :: rest => (minL (((r :: rest).filter fun row => sameT row r).map namesR), ((((r :: rest).filter fun row => sameT row r).length : Nat) : Int)) :: unlF f ((r :: rest).filter fun row => decide (row ∉ (r :: rest).filter fun row => sameT row r))
theorem sameT_refl (r : List Row) : sameT r r = true := decide_eq_true rfl
theorem unl_rest {r : List Row} {rest : List (List Row)} : ((r :: rest).filter fun row => decide (row ∉ (r :: rest).filter fun row => sameT row r)).length ≤ rest.length := by
  have hm : r ∈ (r :: rest).filter fun row => sameT row r := List.mem_filter.mpr ⟨List.mem_cons_self, sameT_refl r⟩
  rw [List.filter_cons_of_neg (by rw [decide_eq_false (fun h => h hm)]; exact Bool.false_ne_true)]
  exact List.length_filter_le _ _
theorem unlF_nil {f : Nat} : unlF f [] = [] := by cases f <;> rfl
theorem cutV_m1 (xs : List V) (v : V) : cutV (xs ++ [v]) none (some (-1)) = xs := by
  unfold cutV
  have h0 : HT.sIx (xs ++ [v]).length 0 none = 0 := HT.sIx_none ..
  have h1 : HT.sIx (xs ++ [v]).length (xs ++ [v]).length (some (-1)) = xs.length := by
    unfold HT.sIx
    rw [List.length_append, List.length_singleton]
    show (if (-1 : Int) < 0 then ((-1 : Int) + ((xs.length + 1 : Nat) : Int)).toNat else min (-1 : Int).toNat (xs.length + 1)) = xs.length
    rw [if_pos (by decide)]
    omega
  rw [h0, h1]
  simp
structure UnlR (rs : List Row) (os : List (List Row)) : Prop where
  lok : LineOk rs
  h6 : rs.length ≤ 6
  pm : ∀ row ∈ os, row.Perm rs
  len : os.length ≤ 63
  names : unlN rs = sortNs ((unlF os.length os).map (·.1))
  cnt : cw (lkR rs) (List.range rs.length) = (unlF os.length os).length
  sizes : (unlR rs).map (fun r => (cntA r : Int)) = (isort W.DatumOrd.lt (unlF os.length os)).map (·.2)
  total : ((unlR rs).map fun r => (cntA r : Int)).sum = (os.length : Int)
def sp_law_unlike_right (K : W.Frag) : Sp := Pm (ι := List Row × List (List Row)) (fun i vs F => ∃ u v, vs = [u, v] ∧ vL (vA K) i.1 u F ∧ vL (vL (vA K)) i.2 v F ∧ UnlR i.1 i.2) (fun i v F => v = .bl true)
section
variable {P : Program} {w : World} {K : W.Frag} {mg : Str → Option Value} {base : Heap}
abbrev N_law_unlike_right : List Str := ["_law_askers", "_law_orders", "_law_line", "_law_told", "_law_sizes", "_law_rest", "_law_found", "_law_same_here", "_law_row", "_law_one", "_law_names_here", "_law_many"]
theorem sc_law_unlike_right : FnScope N_law_unlike_right ["_law_askers", "_law_orders"] (defScope s_law_unlike_right) := ⟨rfl, rfl, rfl, by decide +kernel, rfl, by decide +kernel, by decide +kernel⟩
theorem ok_law_unlike_right (T : Tp K mg) : OkG P w K mg base 11 (He.ga K "_law_unlike_right") ["_law_askers", "_law_orders"] (sp_law_unlike_right K) := by
  obtain ⟨fd_law_same, G_law_same, b_law_same, k_law_same⟩ := ok_law_same (P := P) (w := w) (base := base) T
  obtain ⟨fd_law_names_of, G_law_names_of, b_law_names_of, k_law_names_of⟩ := ok_law_names_of (P := P) (w := w) (base := base) T
  obtain ⟨fd_unlike_lines, G_unlike_lines, b_unlike_lines, k_unlike_lines⟩ := ok_unlike_lines (P := P) (w := w) (base := base) T
  obtain ⟨fd_count_unlike, G_count_unlike, b_count_unlike, k_count_unlike⟩ := ok_count_unlike (P := P) (w := w) (base := base) T
  obtain ⟨fd_count_alike, G_count_alike, b_count_alike, k_count_alike⟩ := ok_count_alike (P := P) (w := w) (base := base) T
  obtain ⟨fdL_names, GL_names, bL_names, kL_names⟩ := ok_Line_names (P := P) (w := w) (base := base) T
  obtain ⟨fdL_ordered, GL_ordered, bL_ordered, kL_ordered⟩ := ok_Line_ordered (P := P) (w := w) (base := base) T
  obtain ⟨fd_Line, G_Line, b_Line, k_Line⟩ := ok_Line_init (P := P) (w := w) (base := base) T
  refine mk_okG (F_law_unlike_right T) sc_law_unlike_right ?_ (fun _ _ _ _ _ _ us hl => match us, hl with | [_, _], _ => rfl) (fun cdv A outer s H vs Q E hg hr h => ?_)
  · rintro vs H Q E ⟨i, F, _, ⟨u, v, rfl, _⟩, _⟩
    rfl
  obtain ⟨⟨rs, os⟩, F, sm, ⟨u, v, rfl, hu, hv, R⟩, k⟩ := h
  refine ⟨_, (pss_cons (ps_par (i := 5) (j := 6) (by rfl) sc_law_unlike_right.nd rfl rfl (by decide) rfl rfl (pa_cons (pe_callTy (cr_lstF (vL (vA K))) (by rfl) (n_list T) (by decide +kernel) (pa_cons (pv 1) pa_nil)) (pa_cons (pe_lst pa_nil) pa_nil)) (by rfl))
    (pss_cons (ps_while PassesOwn.never (pt_ne0 (vL (vA K)) hr.units (pv 5))
      (pss_cons (ps_set (i := 7) sc_law_unlike_right.nd rfl (by first | exact Or.inl rfl | exact Or.inr rfl) (pe_callG G_law_same hg (hr.mono (by decide)) rfl (g_law_same T) k_law_same b_law_same .nil pass0 (pa_cons (pe_ix (ixL (vL (vA K))) (pv 5) pe_int (fun _ _ => rfl)) (pa_cons (pv 5) pa_nil))))
      (pss_cons (ps_expr (pe_bm PySem.F.plainAttrs_list PySem.F.slot_list_append PySem.F.type_list_append mt_append (pv 6) (pa_cons (pe_tup (pa_cons (pe_callB (cr_minF (vL vS) rfl hr.units) (by rfl) (n_min T) (by decide +kernel) (pa_cons (pe_lc (own := [("_law_row", 8)]) (g := gName 8) rfl sc_law_unlike_right.nd (pi_list (pv 7)) (blkOk_by (N := N_law_unlike_right) (sc := defScope s_law_unlike_right) (by decide +kernel)) (fun _ _ _ _ _ => (pg_name (i := 8) sc_law_unlike_right.nd rfl (by first | exact Or.inl rfl | exact Or.inr rfl))) (fun _ _ _ _ _ => pts_nil) (fun _ _ _ _ _ => (pe_call G_law_names_of (hr.mono (by decide)) rfl (g_law_names_of T) k_law_names_of b_law_names_of .nil pass0 (pa_cons (pv 8) pa_nil)))) pa_nil)) (pa_cons (pe_callB (call_lenL (vL (vA K))) (by rfl) (n_len T) (by decide +kernel) (pa_cons (pv 7) pa_nil)) pa_nil))) pa_nil)))
      (pss_one (ps_setLc (i := 5) (own := [("_law_row", 8)]) (g := gName 8) rfl sc_law_unlike_right.nd rfl rfl (sw_true rfl rfl rfl (by decide +kernel)) (pi_list (pv 5)) (blkOk_by (N := N_law_unlike_right) (sc := defScope s_law_unlike_right) (by decide +kernel)) (fun _ _ _ _ _ => (pg_name (i := 8) sc_law_unlike_right.nd rfl (by first | exact Or.inl rfl | exact Or.inr rfl))) (fun _ _ _ _ _ => (pts_one (pt_cmpR (opLL_notIn T (hr.mono (by decide))) (pv 8) (pv 7) rfl))) (fun _ _ _ _ _ => (pv 8)))))))
    (pss_cons (ps_set (i := 2) sc_law_unlike_right.nd rfl (by first | exact Or.inl rfl | exact Or.inr rfl) (pe_make (mkr_Line T) G_Line (hr.mono (by decide)) rfl (g_Line T) b_Line .nil pass0 (pa_cons (pv 0) pa_nil)))
    (pss_cons (ps_set (i := 3) sc_law_unlike_right.nd rfl (by first | exact Or.inl rfl | exact Or.inr rfl) (pe_call G_unlike_lines (hr.mono (by decide)) rfl (g_unlike_lines T) k_unlike_lines b_unlike_lines .nil pass0 (pa_cons (pv 2) pa_nil)))
    (pss_cons (ps_if (pt_cmpR (opF_ne (vL (vL vS)) hr.units) (pe_lc (own := [("_law_one", 9)]) (g := gName 9) rfl sc_law_unlike_right.nd (pi_list (pv 3)) (blkOk_by (N := N_law_unlike_right) (sc := defScope s_law_unlike_right) (by decide +kernel)) (fun _ _ _ _ _ => (pg_name (i := 9) sc_law_unlike_right.nd rfl (by first | exact Or.inl rfl | exact Or.inr rfl))) (fun _ _ _ _ _ => pts_nil) (fun _ _ _ _ _ => (pe_meth0 (pv 9) (cls_Line T) (m_Line_names T) GL_names (hr.mono (by decide)) bL_names .nil pass0))) (pe_callB (cr_sortF (vL vS) hr.units (slo_list slo_str) sortK_list) (by rfl) (n_sorted T) (by decide +kernel) (pa_cons (pe_lc (own := [("_law_names_here", 10), ("_law_many", 11)]) (g := gTup K 2 (gCons (gName 10) (gCons (gName 11) gNil))) rfl sc_law_unlike_right.nd (pi_list (pv 6)) (blkOk_by (N := N_law_unlike_right) (sc := defScope s_law_unlike_right) (by decide +kernel)) (fun _ _ _ _ _ => (pg_tup (by rfl) (pgs_cons (pg_name (i := 10) sc_law_unlike_right.nd rfl (by first | exact Or.inl rfl | exact Or.inr rfl)) (pgs_cons (pg_name (i := 11) sc_law_unlike_right.nd rfl (by first | exact Or.inl rfl | exact Or.inr rfl)) pgs_nil)))) (fun _ _ _ _ _ => pts_nil) (fun _ _ _ _ _ => (pv 10))) pa_nil)) (nomark _))
      (pss_one (ps_ret pe_bl))
      pss_nil)
    (pss_cons (ps_if (pt_ne0 (vLine K) hr.units (pe_lc (own := [("_law_one", 9)]) (g := gName 9) rfl sc_law_unlike_right.nd (pi_list (pv 3)) (blkOk_by (N := N_law_unlike_right) (sc := defScope s_law_unlike_right) (by decide +kernel)) (fun _ _ _ _ _ => (pg_name (i := 9) sc_law_unlike_right.nd rfl (by first | exact Or.inl rfl | exact Or.inr rfl))) (fun _ _ _ _ _ => (pts_one (pt_cmpR (opLn_ne T (hr.mono (by decide))) (pv 9) (pe_meth (pv 2) (cls_Line T) (m_Line_ordered T) GL_ordered (hr.mono (by decide)) bL_ordered .nil pass0 (pa_cons (pe_meth0 (pv 9) (cls_Line T) (m_Line_names T) GL_names (hr.mono (by decide)) bL_names .nil pass0) pa_nil)) (nomark _)))) (fun _ _ _ _ _ => (pv 9))))
      (pss_one (ps_ret pe_bl))
      pss_nil)
    (pss_cons (ps_setLc (i := 4) (own := [("_law_names_here", 10), ("_law_many", 11)]) (g := gTup K 2 (gCons (gName 10) (gCons (gName 11) gNil))) rfl sc_law_unlike_right.nd rfl rfl (sw_true rfl rfl rfl (by decide +kernel)) (pi_list (pe_callB (cr_sortF (vP (vL vS) vI) hr.units (slo_prod (slo_list slo_str) slo_int) sortK_prod) (by rfl) (n_sorted T) (by decide +kernel) (pa_cons (pv 6) pa_nil))) (blkOk_by (N := N_law_unlike_right) (sc := defScope s_law_unlike_right) (by decide +kernel)) (fun _ _ _ _ _ => (pg_tup (by rfl) (pgs_cons (pg_name (i := 10) sc_law_unlike_right.nd rfl (by first | exact Or.inl rfl | exact Or.inr rfl)) (pgs_cons (pg_name (i := 11) sc_law_unlike_right.nd rfl (by first | exact Or.inl rfl | exact Or.inr rfl)) pgs_nil)))) (fun _ _ _ _ _ => pts_nil) (fun _ _ _ _ _ => (pv 11)))
    (pss_cons (ps_if (PW.pt (pw_or (pt_cmpR (opF_ne vS hr.units) (pe_callB SkE.call_repr_int (by rfl) (n_repr T) (by decide +kernel) (pa_cons (pe_call G_count_unlike (hr.mono (by decide)) rfl (g_count_unlike T) k_count_unlike b_count_unlike .nil pass0 (pa_cons (pv 2) pa_nil)) pa_nil)) (pe_callB SkE.call_repr_int (by rfl) (n_repr T) (by decide +kernel) (pa_cons (pe_callB (call_lenL (vP (vL vS) vI)) (by rfl) (n_len T) (by decide +kernel) (pa_cons (pv 6) pa_nil)) pa_nil)) (nomark _)) (pw_or1 (pt_cmpR (opF_ne (vL vI) hr.units) (pe_lc (own := [("_law_one", 9)]) (g := gName 9) rfl sc_law_unlike_right.nd (pi_list (pv 3)) (blkOk_by (N := N_law_unlike_right) (sc := defScope s_law_unlike_right) (by decide +kernel)) (fun _ _ _ _ _ => (pg_name (i := 9) sc_law_unlike_right.nd rfl (by first | exact Or.inl rfl | exact Or.inr rfl))) (fun _ _ _ _ _ => pts_nil) (fun _ _ _ _ _ => (pe_call G_count_alike (hr.mono (by decide)) rfl (g_count_alike T) k_count_alike b_count_alike .nil pass0 (pa_cons (pv 9) pa_nil)))) (pv 4) (nomark _)))))
      (pss_one (ps_ret pe_bl))
      pss_nil)
    (pss_cons (ps_expr (pe_bm PySem.F.plainAttrs_list PySem.F.slot_list_append PySem.F.type_list_append mt_append (pv 3) (pa_cons pe_str pa_nil)))
    (pss_one (ps_ret (pe_and (pe_cmpR (opF_eq vI hr.units) (pe_callB (call_lenL (vLine K)) (by rfl) (n_len T) (by decide +kernel) (pa_cons (pe_call G_unlike_lines (hr.mono (by decide)) rfl (g_unlike_lines T) k_unlike_lines b_unlike_lines .nil pass0 (pa_cons (pv 2) pa_nil)) pa_nil)) (pe_callB (call_lenL (vP (vL vS) vI)) (by rfl) (n_len T) (by decide +kernel) (pa_cons (pv 6) pa_nil)) (nomark _)) (pe_one (pe_cmpR (opF_eq vI hr.units) (pe_callB (cr_sum rfl) (by rfl) (n_sum T) (by decide +kernel) (pa_cons (pe_lc (own := [("_law_one", 9)]) (g := gName 9) rfl sc_law_unlike_right.nd (pi_list (pe_slice sl_list (pv 3) po_none (po_some (pe_un un_neg pe_int)))) (blkOk_by (N := N_law_unlike_right) (sc := defScope s_law_unlike_right) (by decide +kernel)) (fun _ _ _ _ _ => (pg_name (i := 9) sc_law_unlike_right.nd rfl (by first | exact Or.inl rfl | exact Or.inr rfl))) (fun _ _ _ _ _ => pts_nil) (fun _ _ _ _ _ => (pe_call G_count_alike (hr.mono (by decide)) rfl (g_count_alike T) k_count_alike b_count_alike .nil pass0 (pa_cons (pv 9) pa_nil)))) pa_nil)) (pe_callB (call_lenL (vL (vA K))) (by rfl) (n_len T) (by decide +kernel) (pa_cons (pv 1) pa_nil)) (nomark _))))))))))))))), ?_⟩
  have R : UnlR rs os := R
  have lok : LineOk rs := R.lok
  have h6 : rs.length ≤ 6 := R.h6
  have hol : os.length ≤ 63 := R.len
  have hu : vL (vA K) rs u F := hu
  have hv : vL (vL (vA K)) os v F := hv
  -- rest, found = list(orders), []
  refine ⟨_, rfl, F, _, os, rfl, sm, hv.m sm, fun lv F1 H1 g1 hlv => ?_⟩
  refine ⟨Nat.zero_le _, fun fa hfa => ?_⟩
  have fa0 : H fa = none := g1.h.free hfa
  have g2 := g1.trans (Grow.new (o := .lst []) g1.i hfa)
  have f1a := g1.i.free hfa
  refine ⟨_, _, rfl, ?_⟩
  refine ⟨fun m σ H' => ∃ F', ∃ (rest : List (List Row)) (rv : V) (acc : List (List Str × Int)) (fvs : List V) (x7 : Option V), σ = [some u, some v, none, none, none, some rv, some (.ref fa), x7, none, none, none, none] ∧ Grow F H F' H' ∧ F' fa = none ∧ H' fa = some (.lst fvs) ∧ All2 (vP (vL vS) vI) acc fvs F' ∧ vL (vL (vA K)) rest rv F' ∧
    acc ++ unlF m rest = unlF os.length os ∧ rest.length ≤ m ∧ (∀ row ∈ rest, row ∈ os) ∧ acc.length + m ≤ 63, ⟨os.length, F1, os, lv, [], [], none, rfl, g2, f1a, upd_same, .nil, hlv, rfl, Nat.le_refl _, fun _ h => h, by simpa using hol⟩, ?_⟩
  intro m σ H' ⟨F', rest, rv, acc, fvs, x7, es, g, ff, hf, la, hrv, e1, h1, h2, h3⟩
  subst es
  refine ⟨_, rfl, F', rest, g.i, hrv.m g.i, fun F3 H3 g3 => ?_⟩
  have ff3 := g3.out hf ff
  have hf3 := g3.h _ _ hf
  have la := la.mo g3.f
  have hrv := Mo.mo g3.f hrv
  have g3 := g.trans g3
  have hal := la.len
  cases rest with
  | cons r rest =>
    have hfe : (r :: rest).length ≤ m := h1
    obtain ⟨m', em⟩ : ∃ m', m = m' + 1 := ⟨m - 1, by rw [List.length_cons] at hfe; omega⟩
    subst em
    refine yes_t rfl ⟨fun σ' H' => ∃ m0, m0 < m' + 1 ∧ ∃ F', ∃ (rest : List (List Row)) (rv : V) (acc : List (List Str × Int)) (fvs : List V) (x7 : Option V), σ' = [some u, some v, none, none, none, some rv, some (.ref fa), x7, none, none, none, none] ∧ Grow F H F' H' ∧ F' fa = none ∧ H' fa = some (.lst fvs) ∧ All2 (vP (vL vS) vI) acc fvs F' ∧ vL (vL (vA K)) rest rv F' ∧
      acc ++ unlF m0 rest = unlF os.length os ∧ rest.length ≤ m0 ∧ (∀ row ∈ rest, row ∈ os) ∧ acc.length + m0 ≤ 63, fun _ _ z => z, ?_⟩
    have hrl : (r :: rest).length ≤ 63 := by omega
    have lokr : ∀ row ∈ r :: rest, LineOk row := fun row hrow => lok.perm (R.pm row (h2 row hrow))
    -- same_here = same(rest[0], rest)
    refine ⟨_, rfl, F3, r :: rest, 0, r, hrv.m g3.i, rfl, rfl, fun z hz => ⟨_, rfl, (r, r :: rest), F3, g3.i, ⟨_, _, rfl, hz, hrv, lokr r List.mem_cons_self, lokr, by show (r :: rest).length ≤ 1000; omega⟩, fun sv F4 H4 g4 hsv => ?_⟩⟩
    obtain ⟨so, eso⟩ : ∃ so, so = (r :: rest).filter fun row => sameT row r := ⟨_, rfl⟩
    have hsv : vL (vL (vA K)) so sv F4 := by rw [eso]; exact hsv
    have hsol : so.length ≤ (r :: rest).length := by rw [eso]; exact List.length_filter_le _ _
    have hrs : r ∈ so := by rw [eso]; exact List.mem_filter.mpr ⟨List.mem_cons_self, sameT_refl r⟩
    have ff4 := g4.out hf3 ff3
    have hf4 := g4.h _ _ hf3
    have la := la.mo g4.f
    have hrv := Mo.mo g4.f hrv
    have g4 := g3.trans g4
    -- found.append((min(..), len(same_here)))
    obtain ⟨a, vs, rfl, ha, l⟩ := id hsv
    refine ⟨_, rfl, .inl ⟨rfl, _, SqL.of hf4⟩, _, rfl, a, rfl, ⟨_, SqL.of (g4.i _ _ ha)⟩, fun D hD => ?_⟩
    refine lcL (p := vL (vA K)) (q := vL vS) (f := namesR) (t := fun _ => true) g4.i hD (g4.i _ _ ha) l (by omega) ?_ ?_
    · intro y yv F' H' hy g hyv N Y hN hY
      have hy2 : y ∈ r :: rest := by rw [eso] at hy; exact (List.mem_filter.mp hy).1
      have hyl := (lokr y hy2).len
      exact ⟨rfl, _, rfl, y, F', g.i, ⟨_, rfl, hyv, by omega⟩, fun z F2 H2 g2 hz => hY _ _ _ g2 rfl hz⟩
    intro F5 H5 g5 hl5
    rw [filter_tt] at hl5
    have ff5 := g5.out hf4 ff4
    have hf5 := g5.h _ _ hf4
    have la := la.mo g5.f
    have hrv := Mo.mo g5.f hrv
    have hsv := Mo.mo g5.f hsv
    have g5 := g4.trans g5
    obtain ⟨x0, xs0, ex0⟩ : ∃ x0 xs0, so.map namesR = x0 :: xs0 := by
      cases hso : so with
      | nil => rw [hso] at hrs; exact absurd hrs List.not_mem_nil
      | cons y ys => exact ⟨_, _, List.map_cons⟩
    rw [ex0] at hl5
    refine ⟨F5, _, x0, xs0, rfl, g5.i, hl5.m g5.i, fun mv hmv => ?_⟩
    refine ⟨_, rfl, F5, _, so, rfl, hsv.m g5.i, by show 2 ≤ sizeLine; decide, fun tp htp => ?_⟩
    have nft : fa ≠ tp := ne_of_none hf5 htp
    have g6 := g5.trans (Grow.put (o := .tup [mv, .int (so.length : Int)]) g5.i htp)
    have s6 : Same F5 (upd F5 tp (.tup [mv, .int (so.length : Int)])) := same_upd (g5.i.free htp)
    have hf6 : (upd H5 tp (.tup [mv, .int (so.length : Int)])) fa = some (.lst fvs) := by rw [upd_ne nft]; exact hf5
    have ff6 : (upd F5 tp (.tup [mv, .int (so.length : Int)])) fa = none := by rw [upd_ne nft]; exact ff5
    refine ⟨fa, _, _, rfl, rfl, hf6, small_of (by omega), ?_⟩
    have g7 := g6.set (o := .lst (fvs ++ [.ref tp])) fa0 ff6
    have emin : W.minOf x0 xs0 = minL (so.map namesR) := by rw [ex0]; rfl
    have la7 : All2 (vP (vL vS) vI) (acc ++ [(minL (so.map namesR), ((so.length : Nat) : Int))]) (fvs ++ [.ref tp]) (upd F5 tp (.tup [mv, .int (so.length : Int)])) :=
      (la.mo s6).snoc ⟨tp, _, _, rfl, upd_same, by rw [← emin]; exact Mo.mo (p := vL vS) s6 hmv, rfl⟩
    -- rest = [row for row in rest if row not in same_here]
    have hrv7 := Mo.mo s6 hrv
    have hsv7 := Mo.mo s6 hsv
    obtain ⟨ra, rvs, rfl, hra, lr⟩ := id hrv7
    refine ⟨_, rfl, ra, rfl, ⟨_, SqL.of (g7.i _ _ hra)⟩, fun D2 hD2 => ?_⟩
    refine lcL (p := vL (vA K)) (q := vL (vA K)) (f := id) (t := fun row => decide (row ∉ so)) g7.i hD2 (g7.i _ _ hra) lr (by omega) ?_ ?_
    · intro y yv F' H' hy g hyv N Y hN hY
      refine ⟨rfl, _, rfl, _, rfl, F', y, so, g.i, hyv, (Mo.mo g.f hsv7).m g.i, fun F2 H2 g2 => ⟨_, rfl, ?_⟩⟩
      exact iteB (fun ht => ⟨_, rfl, hY _ _ _ g2 ht (Mo.mo g2.f hyv)⟩) fun ht => hN _ _ g2 ht
    intro F8 H8 g8 hl8
    rw [List.map_id] at hl8
    have hle := unl_rest (r := r) (rest := rest)
    rw [← eso] at hle
    rw [List.length_cons] at hfe
    refine ⟨m', by omega, F8, (r :: rest).filter fun row => decide (row ∉ so), _, acc ++ [(minL (so.map namesR), ((so.length : Nat) : Int))], _, _, rfl, g7.trans g8, g8.out upd_same ff6, g8.h _ _ upd_same, la7.mo g8.f, hl8, ?_, by omega, fun row hrow => h2 row (List.mem_filter.mp hrow).1, by rw [List.length_append]; show acc.length + 1 + m' ≤ 63; omega⟩
    rw [← e1, unlF, ← eso]
    simp
  | nil =>
    rw [unlF_nil, List.append_nil] at e1
    obtain ⟨ufs, euf, e2⟩ : ∃ z, z = unlF os.length os ∧ z = acc := ⟨acc, e1, rfl⟩
    subst e2
    clear e1
    have hul : ufs.length ≤ 63 := by omega
    have hk : (unlN rs).length = ufs.length := by
      rw [R.names, ← euf]
      unfold sortNs
      rw [isort_len, List.length_map]
    refine no_t rfl ?_
    -- line = Line(askers)
    refine ⟨_, rfl, fun x dx hx hd hne => ⟨x, dx, F3, rs, u, rfl, upd_same, same_made g3.i hx hd, g3.i.free hx, Mo.mo g3.f hu, lok, fun F4 H4 g4 hln => ⟨rfl, ?_⟩⟩⟩
    have g4 := GrowX.made hx hd g4
    have ff4 := g4.out hf3 ff3
    have hf4 := g4.h _ _ hf3
    have la := la.mo g4.f
    have g4 := g3.trans g4
    -- told = unlike_lines(line)
    refine ⟨_, rfl, rs, F4, .ref x, rfl, g4.i, hln, lok, h6, fun ta tvs F5 H5 g5 nta fta hta lt => ?_⟩
    have ff5 := g5.out hf4 ff4
    have hf5 := g5.h _ _ hf4
    have la := la.mo g5.f
    have hln := Mo.mo g5.f hln
    have nfa : fa ≠ ta := fun e => by rw [e, nta] at hf4; cases hf4
    have hta0 : H ta = none := g4.h.free nta
    have g5 := g4.trans g5
    have htl := lt.len
    have hRl : (unlR rs).length = ufs.length := by
      unfold unlR
      rw [List.length_map]; exact hk
    have upm : ∀ row ∈ unlR rs, row.Perm rs := fun row hrow => by
      obtain ⟨ns, h1, h2⟩ := List.mem_map.mp hrow
      subst h2
      exact (by_names lok.nd (unlN_perm lok.nd h6 h1)).2
    have unm : (unlR rs).map namesR = unlN rs := by
      unfold unlR
      rw [List.map_map]
      conv => rhs; rw [← List.map_id (unlN rs)]
      exact List.map_congr_left fun ns hns => (by_names lok.nd (unlN_perm lok.nd h6 hns)).1
    -- [one.names() for one in told] != sorted([names_here for names_here, many in found])
    refine ⟨_, rfl, ta, rfl, ⟨_, SqL.of hta⟩, fun D hD => ?_⟩
    refine lcL (p := vLine K) (q := vL vS) (f := namesR) (t := fun _ => true) g5.i hD hta lt (by omega) ?_ ?_
    · intro y yv F' H' hy g hyv N Y hN hY
      have hyl := (lok.perm (upm y hy)).len
      exact ⟨rfl, _, rfl, hyv.at_ g.i rfl rfl ⟨y, F', g.i, ⟨_, rfl, hyv, hyl⟩, fun z F2 H2 g2 hz => hY _ _ _ g2 rfl hz⟩⟩
    intro F6 H6 g6 hl6
    rw [filter_tt, unm] at hl6
    have ff6 := g6.out hf5 ff5
    have hf6 := g6.h _ _ hf5
    have fta6 := g6.out hta fta
    have hta6 := g6.h _ _ hta
    have la := la.mo g6.f
    have lt := lt.mo g6.f
    have hln := Mo.mo g6.f hln
    have g6 := g5.trans g6
    refine ⟨_, rfl, fa, rfl, ⟨_, SqL.of hf6⟩, fun D2 hD2 => ?_⟩
    refine lcL (p := vP (vL vS) vI) (q := vL vS) (f := fun x => x.1) (t := fun _ => true) g6.i hD2 hf6 la (by omega) ?_ ?_
    · intro y yv F' H' hy g hyv N Y hN hY
      obtain ⟨t, a1, a2, rfl, ht, p1, p2⟩ := hyv
      exact ⟨t, _, rfl, SqT.of (g.i _ _ ht), rfl, _, _, rfl, _, _, rfl, rfl, rfl, _, rfl, hY _ _ _ (Grow.refl g.i) rfl p1⟩
    intro F7 H7 g7 hl7
    rw [filter_tt] at hl7
    have ff7 := g7.out hf6 ff6
    have hf7 := g7.h _ _ hf6
    have fta7 := g7.out hta6 fta6
    have hta7 := g7.h _ _ hta6
    have la := la.mo g7.f
    have lt := lt.mo g7.f
    have hln := Mo.mo g7.f hln
    have hl6 := Mo.mo g7.f hl6
    have g7 := g6.trans g7
    refine ⟨F7, _, _, rfl, g7.i, hl7.m g7.i, fun q ys hq hys => ?_⟩
    have nfq : fa ≠ q := ne_of_none hf7 hq
    have ntq : ta ≠ q := ne_of_none hta7 hq
    have g8 := g7.trans (Grow.put (o := .lst ys) g7.i hq)
    have s8 : Same F7 (upd F7 q (.lst ys)) := same_upd (g7.i.free hq)
    have ff8 : (upd F7 q (.lst ys)) fa = none := by rw [upd_ne nfq]; exact ff7
    have hf8 : (upd H7 q (.lst ys)) fa = some (.lst fvs) := by rw [upd_ne nfq]; exact hf7
    have fta8 : (upd F7 q (.lst ys)) ta = none := by rw [upd_ne ntq]; exact fta7
    have hta8 : (upd H7 q (.lst ys)) ta = some (.lst tvs) := by rw [upd_ne ntq]; exact hta7
    have la := la.mo s8
    have lt := lt.mo s8
    have hln := Mo.mo s8 hln
    have enames : unlN rs = isort W.DatumOrd.lt (ufs.map fun x => x.1) := by rw [R.names, ← euf]; rfl
    refine ⟨_, unlN rs, isort W.DatumOrd.lt (ufs.map fun x => x.1), g8.i, Mo.mo s8 hl6, ⟨q, ys, rfl, upd_same, hys.mo s8⟩, _, rfl, no_t (decide_eq_false fun h => h enames) ?_⟩
    -- [one for one in told if one != line.ordered(one.names())] != []
    refine ⟨_, rfl, ta, rfl, ⟨_, SqL.of hta8⟩, fun D3 hD3 => ?_⟩
    refine lcL (p := vLine K) (q := vLine K) (f := id) (t := fun _ => false) g8.i hD3 hta8 lt (by omega) ?_ ?_
    · intro y yv F' H' hy g hyv N Y hN hY
      have loky := lok.perm (upm y hy)
      have hln' := Mo.mo g.f hln
      refine ⟨rfl, _, rfl, _, rfl, hln'.at_ g.i rfl rfl ⟨_, rfl, hyv.at_ g.i rfl rfl ⟨y, F', g.i, ⟨_, rfl, hyv, loky.len⟩, fun z F2 H2 g2 hz => ?_⟩⟩⟩
      refine ⟨(rs, y), F2, g2.i, ⟨_, _, rfl, Mo.mo g2.f hln', hz, lok, upm y hy⟩, fun z2 F9 H9 g9 hz2 => ?_⟩
      refine ⟨F9, y, y, g9.i, Mo.mo (g2.f.trans g9.f) hyv, hz2, fun F10 H10 g10 => ⟨_, rfl, no_t (by rw [if_pos rfl, decide_eq_true rfl]; rfl) (hN _ _ ((g2.trans g9).trans g10) rfl)⟩⟩
    intro F9 H9 g9 hl9
    rw [filter_ff] at hl9
    have ff9 := g9.out hf8 ff8
    have hf9 := g9.h _ _ hf8
    have fta9 := g9.out hta8 fta8
    have hta9 := g9.h _ _ hta8
    have la := la.mo g9.f
    have lt := lt.mo g9.f
    have hln := Mo.mo g9.f hln
    have g9 := g8.trans g9
    refine ⟨F9, [], g9.i, hl9.m g9.i, fun F10 H10 g10 => no_t rfl ?_⟩
    have ff10 := g10.out hf9 ff9
    have hf10 := g10.h _ _ hf9
    have fta10 := g10.out hta9 fta9
    have hta10 := g10.h _ _ hta9
    have la := la.mo g10.f
    have lt := lt.mo g10.f
    have hln := Mo.mo g10.f hln
    have g10 := g9.trans g10
    -- sizes = [many for names_here, many in sorted(found)]
    refine ⟨_, rfl, F10, _, ufs, rfl, g10.i, ⟨fa, fvs, rfl, hf10, la⟩, fun q2 ys2 hq2 hys2 => ?_⟩
    have nfq2 : fa ≠ q2 := ne_of_none hf10 hq2
    have ntq2 : ta ≠ q2 := ne_of_none hta10 hq2
    have g11 := g10.trans (Grow.put (o := .lst ys2) g10.i hq2)
    have s11 : Same F10 (upd F10 q2 (.lst ys2)) := same_upd (g10.i.free hq2)
    have ff11 : (upd F10 q2 (.lst ys2)) fa = none := by rw [upd_ne nfq2]; exact ff10
    have hf11 : (upd H10 q2 (.lst ys2)) fa = some (.lst fvs) := by rw [upd_ne nfq2]; exact hf10
    have fta11 : (upd F10 q2 (.lst ys2)) ta = none := by rw [upd_ne ntq2]; exact fta10
    have hta11 : (upd H10 q2 (.lst ys2)) ta = some (.lst tvs) := by rw [upd_ne ntq2]; exact hta10
    have la := la.mo s11
    have lt := lt.mo s11
    have hln := Mo.mo s11 hln
    have hys2 := hys2.mo s11
    refine ⟨q2, rfl, ⟨_, SqL.of upd_same⟩, fun D4 hD4 => ?_⟩
    refine lcL (p := vP (vL vS) vI) (q := vI) (f := fun x => x.2) (t := fun _ => true) g11.i hD4 upd_same hys2 (by rw [isort_len]; omega) ?_ ?_
    · intro y yv F' H' hy g hyv N Y hN hY
      obtain ⟨t, a1, a2, rfl, ht, p1, p2⟩ := hyv
      exact ⟨t, _, rfl, SqT.of (g.i _ _ ht), rfl, _, _, rfl, _, _, rfl, rfl, rfl, _, rfl, hY _ _ _ (Grow.refl g.i) rfl p2⟩
    intro F12 H12 g12 hl12
    rw [filter_tt] at hl12
    have esz : (isort W.DatumOrd.lt ufs).map (fun x => x.2) = (unlR rs).map (fun r => (cntA r : Int)) := by rw [R.sizes, ← euf]
    rw [esz] at hl12
    have ff12 := g12.out hf11 ff11
    have hf12 := g12.h _ _ hf11
    have fta12 := g12.out hta11 fta11
    have hta12 := g12.h _ _ hta11
    have la := la.mo g12.f
    have lt := lt.mo g12.f
    have hln := Mo.mo g12.f hln
    have g12 := g11.trans g12
    -- repr(count_unlike(line)) != repr(len(found))
    refine ⟨_, rfl, rs, F12, g12.i, ⟨_, rfl, hln, lok, h6⟩, fun cv F13 H13 g13 hcv => ?_⟩
    have ecv : cv = .int ((ufs.length : Nat) : Int) := by
      have : cv = .int (cw (lkR rs) (List.range rs.length) : Int) := hcv
      rw [this, R.cnt, ← euf]
    subst ecv
    have ff13 := g13.out hf12 ff12
    have hf13 := g13.h _ _ hf12
    have fta13 := g13.out hta12 fta12
    have hta13 := g13.h _ _ hta12
    have la := la.mo g13.f
    have lt := lt.mo g13.f
    have hln := Mo.mo g13.f hln
    have hl13 := Mo.mo g13.f hl12
    have g13 := g12.trans g13
    refine ⟨_, rfl, log_ok (by omega), _, rfl, F13, _, ufs, rfl, ⟨fa, fvs, rfl, hf13, la⟩, _, rfl, log_ok (by omega), ?_⟩
    refine ⟨F13, _, _, g13.i, rfl, rfl, _, rfl, no_t (decide_eq_false fun h => h rfl) ?_⟩
    -- [count_alike(one) for one in told] != sizes
    refine ⟨_, rfl, ta, rfl, ⟨_, SqL.of hta13⟩, fun D5 hD5 => ?_⟩
    refine lcL (p := vLine K) (q := vI) (f := fun r => (cntA r : Int)) (t := fun _ => true) g13.i hD5 hta13 lt (by omega) ?_ ?_
    · intro y yv F' H' hy g hyv N Y hN hY
      exact ⟨rfl, _, rfl, y, F', g.i, ⟨_, rfl, hyv, lok.perm (upm y hy)⟩, fun z F2 H2 g2 hz => hY _ _ _ g2 rfl hz⟩
    intro F14 H14 g14 hl14
    rw [filter_tt] at hl14
    have ff14 := g14.out hf13 ff13
    have hf14 := g14.h _ _ hf13
    have fta14 := g14.out hta13 fta13
    have hta14 := g14.h _ _ hta13
    have la := la.mo g14.f
    have lt := lt.mo g14.f
    have hln := Mo.mo g14.f hln
    have hl13 := Mo.mo g14.f hl13
    have g14 := g13.trans g14
    refine ⟨_, rfl, F14, _, _, g14.i, hl14, hl13, _, rfl, no_t (decide_eq_false fun h => h rfl) ?_⟩
    -- told.append("more")
    refine ⟨_, rfl, .inl ⟨rfl, _, SqL.of hta14⟩, ta, tvs, _, rfl, rfl, hta14, small_of (by omega), ?_⟩
    obtain ⟨mo, emo⟩ : ∃ mo : V, mo = .str ((PySem.Str.ofString "more")) := ⟨_, rfl⟩
    have g15 := g14.set (o := .lst (tvs ++ [.str (PySem.Str.ofString "more")])) hta0 fta14
    have hf15 : (upd H14 ta (.lst (tvs ++ [.str (PySem.Str.ofString "more")]))) fa = some (.lst fvs) := by rw [upd_ne nfa]; exact hf14
    -- len(unlike_lines(line)) == len(found)
    refine ⟨_, rfl, rs, F14, .ref x, rfl, g15.i, hln, lok, h6, fun tb tws F16 H16 g16 ntb ftb htb lt2 => ?_⟩
    have hf16 := g16.h _ _ hf15
    have ff16 := g16.out hf15 ff14
    have hta16 := g16.h ta _ upd_same
    have fta16 := g16.out upd_same fta14
    have la := la.mo g16.f
    have lt := lt.mo g16.f
    have g16 := g15.trans g16
    refine ⟨F16, _, unlR rs, rfl, ⟨tb, tws, rfl, htb, lt2⟩, _, rfl, F16, _, ufs, rfl, ⟨fa, fvs, rfl, hf16, la⟩, ?_⟩
    refine ⟨F16, _, _, g16.i, rfl, rfl, _, rfl, yes_t (decide_eq_true (by rw [hRl])) ?_⟩
    -- sum([count_alike(one) for one in told[:-1]]) == len(orders)
    refine ⟨_, rfl, _, rfl, -1, rfl, ta, _, rfl, SqL.of hta16, fun q3 hq3 => ?_⟩
    rw [cutV_m1]
    have g17 := g16.trans (Grow.put (o := .lst tvs) g16.i hq3)
    have s17 : Same F16 (upd F16 q3 (.lst tvs)) := same_upd (g16.i.free hq3)
    refine ⟨q3, rfl, ⟨_, SqL.of upd_same⟩, fun D6 hD6 => ?_⟩
    refine lcL (p := vLine K) (q := vI) (f := fun r => (cntA r : Int)) (t := fun _ => true) g17.i hD6 upd_same (lt.mo s17) (by omega) ?_ ?_
    · intro y yv F' H' hy g hyv N Y hN hY
      exact ⟨rfl, _, rfl, y, F', g.i, ⟨_, rfl, hyv, lok.perm (upm y hy)⟩, fun z F2 H2 g2 hz => hY _ _ _ g2 rfl hz⟩
    intro F18 H18 g18 hl18
    rw [filter_tt] at hl18
    have g18 := g17.trans g18
    obtain ⟨sa, svs, es2, hsa, lsv⟩ := hl18
    have esv := all2I.mp lsv
    subst esv
    refine ⟨sa, _, by rw [es2], SqL.of (g18.i _ _ hsa), ?_⟩
    refine ⟨_, rfl, F18, _, os, rfl, (Mo.mo g18.f hv).m g18.i, F18, _, _, g18.i, rfl, rfl, k _ _ _ g18 ?_⟩
    show V.bl _ = V.bl true
    rw [R.total, decide_eq_true rfl]
end
end Elk
set_option Elab.async false
set_option linter.all false
set_option maxRecDepth 100000
set_option maxHeartbeats 4000000
namespace Elk
open PySem PySem.Spec PyProof.Rows L2
theorem grownL_has {lk : Nat → Nat → Bool} {a x : Nat} : ∀ (f : Nat) (found fresh : List Nat), x ∈ found → x ∈ grownL lk a f found fresh
  | 0, found, fresh, h => h
  | f + 1, found, fresh, h => by
    rw [grownL]
    split
    · exact h
    · exact grownL_has f _ _ (List.mem_append_left _ h)
theorem grownA_self (lk : Nat → Nat → Bool) (a : Nat) : a ∈ grownA lk a := (isort_perm nlt _).mem_iff.mpr (grownL_has _ _ _ List.mem_cons_self)
structure LongR (rs : List Row) : Prop where
  lok : LineOk rs
  len : rs.length ≤ 8
  cnt : cntA rs = cntG ((List.range rs.length).map (grownA (lkR rs))) (factN rs.length)
  same : sameT rs (normR rs) = true
  near : ∀ b, Reach rs b → normR b = normR rs
  idem : normR (normR rs) = normR rs
  ord : ∀ i, 1 ≤ i → i < rs.length → (W.DatumOrd.lt ((normN rs).getD i ⟨#[]⟩) ((normN rs).getD (i - 1) ⟨#[]⟩)) = true → (normN rs).getD (i - 1) ⟨#[]⟩ ∈ grpOf rs ((normN rs).getD i ⟨#[]⟩)
def sp_law_long_right (K : W.Frag) : Sp := PPm 20 (ι := List Row) (fun rs us F => ∃ v, us = [v] ∧ vL (vA K) rs v F ∧ LongR rs) (fun _ v _ => v = .bl true)
theorem row_idx {rs : List Row} (lok : LineOk rs) {i : Nat} {r : Row} (h : rs[i]? = some r) : rs.idxOf r = i := by
  have nd : rs.Nodup := List.Pairwise.of_map (fun r : Row => r.a) (fun a b h q => h (by rw [q])) lok.nd
  obtain ⟨hi, e⟩ := List.getElem?_eq_some_iff.mp h
  rw [← e]
  exact nd.idxOf_getElem i hi
section
variable {P : Program} {w : World} {K : W.Frag} {mg : Str → Option Value} {base : Heap}
abbrev N_law_long_right : List Str := ["_law_purse_here", "_law_askers", "_law_at", "_law_asker", "_law_near", "_law_line", "_law_number", "_law_order", "_law_groups", "_law_name"]
theorem sc_law_long_right : FnScope N_law_long_right ["_law_purse_here", "_law_askers"] (defScope s_law_long_right) := ⟨rfl, rfl, rfl, by decide +kernel, rfl, by decide +kernel, by decide +kernel⟩
theorem ok_law_long_right (T : Tp K mg) : OkG P w K mg base 9 (He.ga K "_law_long_right") ["_law_purse_here", "_law_askers"] (sp_law_long_right K) := by
  obtain ⟨fd_law_grown, G_law_grown, b_law_grown, k_law_grown⟩ := ok_law_grown (P := P) (w := w) (base := base) T
  obtain ⟨fd_count_alike, G_count_alike, b_count_alike, k_count_alike⟩ := ok_count_alike (P := P) (w := w) (base := base) T
  obtain ⟨fd_normal, G_normal, b_normal, k_normal⟩ := ok_normal (P := P) (w := w) (base := base) T
  obtain ⟨fd_law_same_trees, G_law_same_trees, b_law_same_trees, k_law_same_trees⟩ := ok_law_same_trees (P := P) (w := w) (base := base) T
  obtain ⟨fd_law_alike_one, G_law_alike_one, b_law_alike_one, k_law_alike_one⟩ := ok_law_alike_one (P := P) (w := w) (base := base) T
  obtain ⟨fd_group, G_group, b_group, k_group⟩ := ok_group (P := P) (w := w) (base := base) T
  obtain ⟨fdL_askers, GL_askers, bL_askers, kL_askers⟩ := ok_Line_askers (P := P) (w := w) (base := base) T
  obtain ⟨fdL_names, GL_names, bL_names, kL_names⟩ := ok_Line_names (P := P) (w := w) (base := base) T
  obtain ⟨fd_Line, G_Line, b_Line, k_Line⟩ := ok_Line_init (P := P) (w := w) (base := base) T
  refine mk_okG (F_law_long_right T) sc_law_long_right ?_ (fun _ _ _ _ _ _ us hl => match us, hl with | [_, _], _ => rfl) (fun cdv A outer s H vs Q E hg hr h => ?_)
  · rintro vs H Q E ⟨i, F, pa, n, us, rfl, _, _, ⟨v, rfl, _⟩, _⟩
    rfl
  obtain ⟨rs, F, pa, n, us, rfl, hp, hn, ⟨v, rfl, hu, R⟩, k⟩ := h
  refine ⟨_, (pss_cons (ps_asg (pe_tup (pa_cons (pe_make (mkr_Line T) G_Line (hr.mono (by decide)) rfl (g_Line T) b_Line .nil pass0 (pa_cons (pv 1) pa_nil)) (pa_cons pe_int pa_nil))) (pg_tup (by rfl) (pgs_cons (pg_name (i := 5) sc_law_long_right.nd rfl (by first | exact Or.inl rfl | exact Or.inr rfl)) (pgs_cons (pg_name (i := 6) sc_law_long_right.nd rfl (by first | exact Or.inl rfl | exact Or.inr rfl)) pgs_nil))))
    (pss_cons (ps_for PassesOwn.never rfl (pi_range1 rfl (n_range T) (pa_cons (pe_callB (call_lenL (vA K)) (by rfl) (n_len T) (by decide +kernel) (pa_cons (pv 1) pa_nil)) pa_nil)) (pg_name (i := 2) sc_law_long_right.nd rfl (by first | exact Or.inl rfl | exact Or.inr rfl))
      (pss_one (ps_set (i := 6) sc_law_long_right.nd rfl (by first | exact Or.inl rfl | exact Or.inr rfl) (pe_op op_mul (pv 6) (pe_op op_add (pv 2) pe_int)))))
    (pss_cons (ps_for PassesOwn.never rfl (pi_list (pv 1)) (pg_name (i := 3) sc_law_long_right.nd rfl (by first | exact Or.inl rfl | exact Or.inr rfl))
      (pss_one (ps_set (i := 6) sc_law_long_right.nd rfl (by first | exact Or.inl rfl | exact Or.inr rfl) (pe_op op_fdivNN (pv 6) (pe_callB (call_lenL vN) (by rfl) (n_len T) (by decide +kernel) (pa_cons (pe_call G_law_grown (hr.mono (by decide)) rfl (g_law_grown T) k_law_grown b_law_grown .nil pass0 (pa_cons (pv 1) (pa_cons (pe_bm PySem.F.plainAttrs_list PySem.F.slot_list_index PySem.F.type_list_index (mt_idxA T (hr.mono (by decide))) (pv 1) (pa_cons (pv 3) pa_nil)) pa_nil))) pa_nil))))))
    (pss_cons (ps_if (PW.pt (pw_or (pt_cmpR (opF_ne vI hr.units) (pe_call G_count_alike (hr.mono (by decide)) rfl (g_count_alike T) k_count_alike b_count_alike .nil pass0 (pa_cons (pv 5) pa_nil)) (pv 6) (nomark _)) (pw_or1 (pt_not (pt_val (pe_callG G_law_same_trees hg (hr.mono (by decide)) rfl (g_law_same_trees T) k_law_same_trees b_law_same_trees .nil pass0 (pa_cons (pv 1) (pa_cons (pe_meth0 (pe_call G_normal (hr.mono (by decide)) rfl (g_normal T) k_normal b_normal .nil pass0 (pa_cons (pv 5) pa_nil)) (cls_Line T) (m_Line_askers T) GL_askers (hr.mono (by decide)) bL_askers .nil pass0) pa_nil))))))))
      (pss_one (ps_ret pe_bl))
      pss_nil)
    (pss_cons (ps_set (i := 4) sc_law_long_right.nd rfl (by first | exact Or.inl rfl | exact Or.inr rfl) (pe_callG G_law_alike_one hg (hr.mono (by decide)) rfl (g_law_alike_one T) k_law_alike_one b_law_alike_one .nil pass0 (pa_cons (pv 0) (pa_cons (pv 1) (pa_cons pe_int pa_nil)))))
    (pss_cons (ps_if (PW.pt (pw_or (pt_cmpR (opLn_ne T (hr.mono (by decide))) (pe_call G_normal (hr.mono (by decide)) rfl (g_normal T) k_normal b_normal .nil pass0 (pa_cons (pe_make (mkr_Line T) G_Line (hr.mono (by decide)) rfl (g_Line T) b_Line .nil pass0 (pa_cons (pv 4) pa_nil)) pa_nil)) (pe_call G_normal (hr.mono (by decide)) rfl (g_normal T) k_normal b_normal .nil pass0 (pa_cons (pv 5) pa_nil)) (nomark _)) (pw_or1 (pt_cmpR (opLn_ne T (hr.mono (by decide))) (pe_call G_normal (hr.mono (by decide)) rfl (g_normal T) k_normal b_normal .nil pass0 (pa_cons (pe_call G_normal (hr.mono (by decide)) rfl (g_normal T) k_normal b_normal .nil pass0 (pa_cons (pv 5) pa_nil)) pa_nil)) (pe_call G_normal (hr.mono (by decide)) rfl (g_normal T) k_normal b_normal .nil pass0 (pa_cons (pv 5) pa_nil)) (nomark _)))))
      (pss_one (ps_ret pe_bl))
      pss_nil)
    (pss_cons (ps_par (i := 7) (j := 8) (by rfl) sc_law_long_right.nd rfl rfl (by decide) rfl rfl (pa_cons (pe_meth0 (pe_call G_normal (hr.mono (by decide)) rfl (g_normal T) k_normal b_normal .nil pass0 (pa_cons (pv 5) pa_nil)) (cls_Line T) (m_Line_names T) GL_names (hr.mono (by decide)) bL_names .nil pass0) (pa_cons (pe_lc (own := [("_law_name", 9)]) (g := gName 9) rfl sc_law_long_right.nd (pi_list (pe_meth0 (pe_call G_normal (hr.mono (by decide)) rfl (g_normal T) k_normal b_normal .nil pass0 (pa_cons (pv 5) pa_nil)) (cls_Line T) (m_Line_names T) GL_names (hr.mono (by decide)) bL_names .nil pass0)) (blkOk_by (N := N_law_long_right) (sc := defScope s_law_long_right) (by decide +kernel)) (fun _ _ _ _ _ => (pg_name (i := 9) sc_law_long_right.nd rfl (by first | exact Or.inl rfl | exact Or.inr rfl))) (fun _ _ _ _ _ => pts_nil) (fun _ _ _ _ _ => (pe_call G_group (hr.mono (by decide)) rfl (g_group T) k_group b_group .nil pass0 (pa_cons (pv 5) (pa_cons (pv 9) pa_nil))))) pa_nil)) (by rfl))
    (pss_cons (ps_for PassesOwn.never rfl (pi_range2 rfl (n_range T) (pa_cons pe_int (pa_cons (pe_callB (call_lenL vS) (by rfl) (n_len T) (by decide +kernel) (pa_cons (pv 7) pa_nil)) pa_nil))) (pg_name (i := 2) sc_law_long_right.nd rfl (by first | exact Or.inl rfl | exact Or.inr rfl))
      (pss_one (ps_if (PW.pt (pw_and (pt_cmpR op_lt_str (pe_ix (ixL vS) (pv 7) (pv 2) (fun _ _ => rfl)) (pe_ix (ixL vS) (pv 7) (pe_op op_sub (pv 2) pe_int) (fun _ _ => rfl)) (nomark _)) (pw_and1 (pt_cmpR (op_notInL vS hr.units) (pe_ix (ixL vS) (pv 7) (pe_op op_sub (pv 2) pe_int) (fun _ _ => rfl)) (pe_ix (ixL (vL vS)) (pv 8) (pv 2) (fun _ _ => rfl)) rfl))))
        (pss_one (ps_ret pe_bl))
        pss_nil)))
    (pss_one (ps_ret pe_bl)))))))))), ?_⟩
  have lok : LineOk rs := R.lok
  have h8 : rs.length ≤ 8 := R.len
  have lokN : LineOk (normR rs) := lok.perm (normR_perm lok.nd)
  have hNl : (normR rs).length = rs.length := (normR_perm lok.nd).length_eq
  have sm := hp.s
  -- line, number = Line(askers), 1
  refine ⟨_, rfl, fun x dx hx hd hne => ⟨x, dx, F, rs, v, rfl, upd_same, same_made sm hx hd, sm.free hx, hu, lok, fun F1 H1 g1 h1 => ⟨rfl, by show 2 ≤ sizeLine; decide, fun tp htp => ?_⟩⟩⟩
  have g1 := GrowX.made hx hd g1
  have g2 := Grow.put (o := .tup [.ref x, .int 1]) g1.i htp
  have h1 := Mo.mo g2.f h1
  have g2 := g1.trans g2
  have hp2 := hp.grow g2
  refine ⟨tp, _, rfl, SqT.of upd_same, rfl, _, _, rfl, _, _, rfl, rfl, ?_⟩
  have hu2 := Mo.mo g2.f hu
  -- for at in range(len(askers)): number = number * (at + 1)
  refine ⟨_, rfl, _, _, rs, rfl, hu2.m g2.i, (rs.length : Int), rfl, (small62 (by omega)).1, (small62 (by omega)).2, ?_⟩
  generalize hF2 : upd F1 tp (.tup [.ref x, .int 1]) = F2 at *
  generalize hH2 : upd H1 tp (.tup [.ref x, .int 1]) = H2 at *
  refine forN (n := rs.length) (fun i σ H' => ∃ x2, σ = [some (.ref pa), some v, x2, none, none, some (.ref x), some (.int (factN i : Int)), none, none, none] ∧ H' = H2) ?_ ?_ ?_
  · exact ⟨none, rfl, rfl⟩
  · rintro i σ H' hi ⟨x2, es, eH⟩
    subst es eH
    refine ⟨_, rfl, _, rfl, _, _, rfl, rfl, _, _, rfl, rfl, .inr ⟨by omega, by omega⟩, some (.int (i : Int)), ?_, rfl⟩
    rw [factN_succ]
    have : (factN i : Int) * ((i : Int) + 1) = ((factN i * (1 + i) : Nat) : Int) := by
      rw [Int.natCast_mul, Int.natCast_add, Int.add_comm]; rfl
    show [_, _, _, _, _, _, some (V.int ((factN i : Int) * ((i : Int) + 1))), _, _, _] = _
    rw [this]
  rintro σ H' ⟨x2, es, eH⟩
  subst es eH
  -- for asker in askers: number = number // len(grown(askers, askers.index(asker)))
  obtain ⟨a, vs, rfl, ha, l⟩ := id hu2
  refine ⟨_, rfl, a, rfl, ⟨_, SqL.of (g2.i _ _ ha)⟩, ?_⟩
  have hgl : ∀ i, 1 ≤ (grownA (lkR rs) i).length := fun i => List.length_pos_of_mem (grownA_self _ _)
  refine for_list (xs := vs) (fun i σ H' => ∃ F' x3, σ = [some (.ref pa), some (.ref a), x2, x3, none, some (.ref x), some (.int (cntG (((List.range rs.length).map (grownA (lkR rs))).take i) (factN rs.length) : Int)), none, none, none] ∧ Grow F H F' H' ∧ Same F2 F' ∧ HasP pa n F' H') ?_ ?_ ?_ ?_
  · exact ⟨F2, none, rfl, g2, Same.refl _, hp2⟩
  · rintro i σ H' _ ⟨F', x3, es, g, s, hp'⟩
    exact SqL.of (g.i _ _ (s _ _ ha))
  · rintro i y σ H' hy ⟨F', x3, es, g, s, hp'⟩
    subst es
    obtain ⟨r, hr0, hyr⟩ := l.at hy
    have hi : i < rs.length := (List.getElem?_eq_some_iff.mp hr0).1
    have hu' := Mo.mo s hu2
    refine ⟨_, rfl, _, rfl, _, rfl, (hu'.m g.i).ty, _, rfl, F', y, r, rs, rfl, g.i, hu'.m g.i, Mo.mo s hyr, List.mem_of_getElem? hr0, fun F3 H3 g3 => ?_⟩
    rw [row_idx lok hr0]
    have g3' := g.trans g3
    refine ⟨(rs, i), F3, g3.i, ⟨_, rfl, Mo.mo g3.f hu', lok.rows, hi⟩, fun mv F4 H4 g4 hmv => ?_⟩
    have hmv : vL vN (grownA (lkR rs) i) mv F4 := hmv
    have hga := grownA_len (lkR rs) i
    refine ⟨F4, _, _, rfl, hmv.m g4.i, cntG (((List.range rs.length).map (grownA (lkR rs))).take i) (factN rs.length), (grownA (lkR rs) i).length, rfl, rfl, ⟨hgl i, by omega⟩, F4, some y, ?_, g3'.trans g4, (s.trans g3.f).trans g4.f, (hp'.grow g3).grow g4⟩
    have tk : ((List.range rs.length).map (grownA (lkR rs))).take (i + 1) = ((List.range rs.length).map (grownA (lkR rs))).take i ++ [grownA (lkR rs) i] := by
      rw [List.take_succ, List.getElem?_map, List.getElem?_range hi]; rfl
    rw [tk]
    unfold cntG
    rw [List.foldl_append]
    rfl
  rintro σ H3 ⟨F3, x3, es, g3, s3, hp3⟩
  subst es
  have hvl : rs.length = vs.length := l.len
  have etk : ((List.range rs.length).map (grownA (lkR rs))).take vs.length = (List.range rs.length).map (grownA (lkR rs)) := List.take_of_length_le (by rw [List.length_map, List.length_range]; omega)
  rw [etk, ← R.cnt]
  have h1 := Mo.mo s3 h1
  have hu3 := Mo.mo s3 hu2
  -- count_alike(line) != number or not same_trees(askers, normal(line).askers())
  refine ⟨_, rfl, rs, F3, g3.i, ⟨_, rfl, h1, lok⟩, fun cv F4 H4 g4 hcv => ?_⟩
  have ecv : cv = .int (cntA rs : Int) := hcv
  subst ecv
  have h1 := Mo.mo g4.f h1
  have hu3 := Mo.mo g4.f hu3
  have hp4 := hp3.grow g4
  have g4 := g3.trans g4
  refine ⟨_, rfl, F4, _, _, g4.i, rfl, rfl, _, rfl, no_t (decide_eq_false fun h => h rfl) ?_⟩
  refine ⟨_, rfl, _, rfl, rs, F4, g4.i, ⟨_, rfl, h1, lok⟩, fun nv F5 H5 g5 hnv => ?_⟩
  have hnv : vLine K (normR rs) nv F5 := hnv
  have h1 := Mo.mo g5.f h1
  have hu3 := Mo.mo g5.f hu3
  have hp5 := hp4.grow g5
  have g5 := g4.trans g5
  refine hnv.at_ g5.i rfl rfl ⟨normR rs, F5, g5.i, ⟨_, rfl, hnv⟩, fun av F6 H6 g6 hav => ?_⟩
  have h1 := Mo.mo g6.f h1
  have hu3 := Mo.mo g6.f hu3
  have hp6 := hp5.grow g6
  have g6 := g5.trans g6
  refine ⟨(rs, normR rs), F6, g6.i, ⟨_, _, rfl, hu3, hav, lok, lokN⟩, fun bv F7 H7 g7 hbv => ⟨sameT rs (normR rs), hbv, no_t (by rw [R.same]; rfl) ?_⟩⟩
  have h1 := Mo.mo g7.f h1
  have hu3 := Mo.mo g7.f hu3
  have hp7 := hp6.grow g7
  have g7 := g6.trans g7
  -- near = alike_one(purse, askers, 6)
  refine ⟨_, rfl, _, rfl, (rs, 6), F7, pa, n, _, rfl, hp7, by omega, ⟨_, rfl, hu3, lok, by show 6 ≤ 8; decide⟩, fun nv F8 H8 g8 hp8 hnear => ?_⟩
  obtain ⟨near, hnv, hR⟩ := hnear
  have hR : Reach rs near := hR
  have lokr : LineOk near := lok.perm hR.perm
  have h1 := Mo.mo g8.f h1
  have hu3 := Mo.mo g8.f hu3
  have g8 := g7.toX.trans g8
  have nz : ∀ {rs : List Row}, LineOk rs → LineOk (normR rs) := fun lok => lok.perm (normR_perm lok.nd)
  -- normal(Line(near)) != normal(line)
  refine ⟨_, rfl, fun x4 dx4 hx4 hd4 hne4 => ⟨x4, dx4, F8, near, nv, rfl, upd_same, same_made hp8.s hx4 hd4, hp8.s.free hx4, hnv, lokr, fun F9 H9 g9 h9 => ⟨rfl, ?_⟩⟩⟩
  have g9 := GrowX.made hx4 hd4 g9
  have h1 := Mo.mo g9.f h1
  have hp9 := hp8.grow g9
  have g9 := g8.grow g9
  refine ⟨near, F9, hp9.s, ⟨_, rfl, h9, lokr⟩, fun av F10 H10 g10 hav => ?_⟩
  have hav : vLine K (normR near) av F10 := hav
  rw [R.near near hR] at hav
  have h1 := Mo.mo g10.f h1
  have hp10 := hp9.grow g10
  have g10 := g9.grow g10
  refine ⟨_, rfl, rs, F10, hp10.s, ⟨_, rfl, h1, lok⟩, fun bv F11 H11 g11 hbv => ?_⟩
  have hbv : vLine K (normR rs) bv F11 := hbv
  have hav := Mo.mo g11.f hav
  have h1 := Mo.mo g11.f h1
  have hp11 := hp10.grow g11
  have g11 := g10.grow g11
  refine ⟨F11, _, _, hp11.s, hav, hbv, fun F12 H12 g12 => ⟨_, rfl, no_t (by rw [if_pos rfl, decide_eq_true rfl]; rfl) ?_⟩⟩
  have h1 := Mo.mo g12.f h1
  have hp12 := hp11.grow g12
  have g12 := g11.grow g12
  -- normal(normal(line)) != normal(line)
  refine ⟨_, rfl, rs, F12, hp12.s, ⟨_, rfl, h1, lok⟩, fun av F13 H13 g13 hav => ?_⟩
  have hav : vLine K (normR rs) av F13 := hav
  have h1 := Mo.mo g13.f h1
  have hp13 := hp12.grow g13
  have g13 := g12.grow g13
  refine ⟨normR rs, F13, hp13.s, ⟨_, rfl, hav, lokN⟩, fun av F14 H14 g14 hav => ?_⟩
  have hav : vLine K (normR (normR rs)) av F14 := hav
  rw [R.idem] at hav
  have h1 := Mo.mo g14.f h1
  have hp14 := hp13.grow g14
  have g14 := g13.grow g14
  refine ⟨_, rfl, rs, F14, hp14.s, ⟨_, rfl, h1, lok⟩, fun bv F15 H15 g15 hbv => ?_⟩
  have hbv : vLine K (normR rs) bv F15 := hbv
  have hav := Mo.mo g15.f hav
  have h1 := Mo.mo g15.f h1
  have hp15 := hp14.grow g15
  have g15 := g14.grow g15
  refine ⟨F15, _, _, hp15.s, hav, hbv, fun F16 H16 g16 => ⟨_, rfl, no_t (by rw [if_pos rfl, decide_eq_true rfl]; rfl) ?_⟩⟩
  have h1 := Mo.mo g16.f h1
  have hp16 := hp15.grow g16
  have g16 := g15.grow g16
  -- order, groups = ..
  refine ⟨_, rfl, rs, F16, hp16.s, ⟨_, rfl, h1, lok⟩, fun av F17 H17 g17 hav => ?_⟩
  have hav : vLine K (normR rs) av F17 := hav
  have h1 := Mo.mo g17.f h1
  have hp17 := hp16.grow g17
  have g17 := g16.grow g17
  refine hav.at_ hp17.s rfl rfl ⟨normR rs, F17, hp17.s, ⟨_, rfl, hav, by omega⟩, fun ov F18 H18 g18 hov => ?_⟩
  have hov : vL vS (namesR (normR rs)) ov F18 := hov
  rw [normR_names lok.nd] at hov
  have h1 := Mo.mo g18.f h1
  have hp18 := hp17.grow g18
  have g18 := g17.grow g18
  refine ⟨_, rfl, rs, F18, hp18.s, ⟨_, rfl, h1, lok⟩, fun av F19 H19 g19 hav => ?_⟩
  have hav : vLine K (normR rs) av F19 := hav
  have h1 := Mo.mo g19.f h1
  have hov := Mo.mo g19.f hov
  have hp19 := hp18.grow g19
  have g19 := g18.grow g19
  refine hav.at_ hp19.s rfl rfl ⟨normR rs, F19, hp19.s, ⟨_, rfl, hav, by omega⟩, fun mv F20 H20 g20 hmv => ?_⟩
  have hmv : vL vS (namesR (normR rs)) mv F20 := hmv
  rw [normR_names lok.nd] at hmv
  have h1 := Mo.mo g20.f h1
  have hov := Mo.mo g20.f hov
  have hp20 := hp19.grow g20
  have g20 := g19.grow g20
  have nml : (normN rs).length = rs.length := by rw [(normN_perm lok.nd).length_eq, namesR_len]
  obtain ⟨ma, mvs, rfl, hma, lm⟩ := hmv
  refine ⟨ma, rfl, ⟨_, SqL.of (hp20.s _ _ hma)⟩, fun D hD => ?_⟩
  refine lcL (p := vS) (q := vL vS) (f := grpOf rs) (t := fun _ => true) hp20.s hD (hp20.s _ _ hma) lm (by omega) ?_ ?_
  · intro z zv F' H' hz g hzv N Y hN hY
    have ez : zv = .str z := hzv
    subst ez
    obtain ⟨i, hi, e⟩ := name_place ((normN_perm lok.nd).mem_iff.mp hz)
    subst e
    have ap : AtP rs i (rs.getD i noRow) := ⟨lok.nd, lok.len, row_get hi⟩
    refine ⟨rfl, _, rfl, _, rfl, (rs, i, rs.getD i noRow), F', g.i, ⟨_, rfl, Mo.mo g.f h1, ap, lok.rows⟩, fun gv F2 H2 g2 hgv => hY _ _ _ g2 rfl ?_⟩
    rw [grpOf_at lok.nd hi]
    exact hgv
  intro F21 H21 g21 hl21
  rw [filter_tt] at hl21
  have hov := Mo.mo g21.f hov
  have hp21 := hp20.grow g21
  have g21 := g20.grow g21
  refine ⟨_, _, rfl, ?_⟩
  -- for at in range(1, len(order))
  refine ⟨_, rfl, F21, _, normN rs, rfl, hov.m hp21.s, 1, ((rs.length : Nat) : Int), by rw [nml], ⟨by decide, by decide, by omega, by omega⟩, ?_⟩
  refine forAB (a := 1) (b := rs.length) (fun i σ H' => ∃ F' x2, σ = [some (.ref pa), some (.ref a), x2, x3, some nv, some (.ref x), some (.int (cntA rs : Int)), some ov, some (.ref D), none] ∧ GrowX pa F H F' H' ∧ Same F21 F' ∧ HasP pa (n + 10) F' H') ?_ ?_ ?_
  · exact ⟨F21, x2, rfl, g21, Same.refl _, hp21⟩
  · rintro j σ H' hj ⟨F', x2, es, g, s, hp'⟩
    subst es
    have hov' := Mo.mo s hov
    have hl' := Mo.mo s hl21
    have ej : (((1 + j : Nat) : Int) - 1) = (j : Int) := by omega
    have gj : (normN rs)[1 + j]? = some ((normN rs).getD (1 + j) ⟨#[]⟩) := some_getD (by omega)
    have gj0 : (normN rs)[j]? = some ((normN rs).getD j ⟨#[]⟩) := some_getD (by omega)
    refine ⟨_, rfl, _, rfl, F', _, 1 + j, _, hov'.m hp'.s, rfl, gj, fun z1 hz1 => ?_⟩
    refine ⟨_, rfl, _, rfl, _, _, rfl, rfl, F', _, j, _, hov'.m hp'.s, by show V.int (((1 + j : Nat) : Int) - 1) = _; rw [ej], gj0, fun z2 hz2 => ?_⟩
    have e1 : z1 = .str ((normN rs).getD (1 + j) ⟨#[]⟩) := hz1
    have e2 : z2 = .str ((normN rs).getD j ⟨#[]⟩) := hz2
    subst e1 e2
    refine ⟨_, _, rfl, rfl, _, rfl, ?_⟩
    refine iteB (fun hlt => ?_) (fun hlt => iteF ⟨F', _, rfl, g, s, hp'⟩)
    have hin : (normN rs).getD j ⟨#[]⟩ ∈ grpOf rs ((normN rs).getD (1 + j) ⟨#[]⟩) := by
      have := R.ord (1 + j) (by omega) (by omega)
      rw [show 1 + j - 1 = j by omega] at this
      exact this hlt
    refine ⟨_, rfl, _, rfl, _, _, rfl, rfl, F', _, j, _, hov'.m hp'.s, by show V.int (((1 + j : Nat) : Int) - 1) = _; rw [ej], gj0, fun z3 hz3 => ?_⟩
    have gg : ((normN rs).map (grpOf rs))[1 + j]? = some (grpOf rs ((normN rs).getD (1 + j) ⟨#[]⟩)) := by rw [List.getElem?_map, gj]; rfl
    refine ⟨_, rfl, _, rfl, F', _, 1 + j, _, hl'.m hp'.s, rfl, gg, fun z4 hz4 => ?_⟩
    refine ⟨F', _, _, hp'.s, hz3, hz4.m hp'.s, _, rfl, no_t (decide_eq_false fun h => h hin) ?_⟩
    exact ⟨F', _, rfl, g, s, hp'⟩
  rintro σ H' ⟨F', x2, es, g, s, hp'⟩
  subst es
  exact k _ _ _ g (hp'.mono (by omega)) rfl
end
end Elk
set_option Elab.async false
set_option linter.all false
set_option maxHeartbeats 4000000
namespace Elk
/-! ### what is tied to what within a part -/
inductive Con {α : Type} (L : α → α → Prop) (D : α → Prop) : α → α → Prop
  | refl (x : α) : Con L D x x
  | link {x y : α} (hx : D x) (hy : D y) (h : L x y) : Con L D x y
  | trans {x y z : α} (h : Con L D x y) (k : Con L D y z) : Con L D x z
section
variable {α : Type} {L : α → α → Prop} {D : α → Prop}
theorem Con.symm (sy : ∀ x y, L x y → L y x) {x y : α} (h : Con L D x y) : Con L D y x := by
  induction h with
  | refl x => exact .refl x
  | link hx hy h => exact .link hy hx (sy _ _ h)
  | trans _ _ a b => exact .trans b a
theorem Con.mono {D' : α → Prop} (hd : ∀ x, D x → D' x) {x y : α} (h : Con L D x y) : Con L D' x y := by
  induction h with
  | refl x => exact .refl x
  | link hx hy h => exact .link (hd _ hx) (hd _ hy) h
  | trans _ _ a b => exact .trans a b
theorem Con.stay {S : α → Prop} (hs : ∀ x y, S x → D x → D y → L x y → S y) {x y : α} (h : Con L D x y) : S x → S y := by
  induction h with
  | refl x => exact id
  | link hx hy h => exact fun s => hs _ _ s hx hy h
  | trans _ _ a b => exact fun s => b (a s)
theorem Con.dom {x y : α} (h : Con L D x y) (hx : D x) : D y := h.stay (S := D) (fun _ _ _ _ k _ => k) hx
end
abbrev LkP (lk : Nat → Nat → Bool) : Nat → Nat → Prop := fun x y => lk x y = true
abbrev CoP (lk : Nat → Nat → Bool) (b : Nat) : Nat → Nat → Prop := Con (LkP lk) fun x => x ≤ b
structure Comp (lk : Nat → Nat → Bool) (i : Nat) (ps : List (Option Nat)) (gs : List (List Nat)) : Prop where
  cl : ∀ k, k < i → ∀ x y, x ∈ gs.getD k [] → y ≤ k → lk x y = true → y ∈ gs.getD k []
  pn : ∀ k, k < i → ps.getD k none = none → ∀ p, k < p → p < i → ∀ a ∈ gs.getD k [], lk a p = false
  pp : ∀ k, k < i → ∀ p, ps.getD k none = some p → k < p ∧ p < i ∧ (∃ a ∈ gs.getD k [], lk a p = true) ∧ ∀ q, k < q → q < p → ∀ a ∈ gs.getD k [], lk a q = false
  co : ∀ m, m < i → ∃ k, k < i ∧ ps.getD k none = none ∧ m ∈ gs.getD k []
  re : ∀ k, k < i → ∀ m ∈ gs.getD k [], CoP lk k k m
section
variable {lk : Nat → Nat → Bool} {gs : List (List Nat)} {i n : Nat} {ps : List (Option Nat)}
theorem takes_iff {t : Nat} : takes lk gs i ps t = true ↔ ps.getD t none = none ∧ ∃ a ∈ gs.getD t [], lk a i = true := by
  unfold takes
  rw [Bool.and_eq_true, Option.isNone_iff_eq_none, List.any_eq_true]
theorem comp_step (sy : ∀ x y, lk x y = true → lk y x = true) (T : TreeOk lk n i ps gs) (C : Comp lk i ps gs) (hi : i < n) : Comp lk (i + 1) (stepOut lk (ps, gs) i).1 (stepOut lk (ps, gs) i).2 := by
  have hn : i ≤ ps.length := by rw [T.pl]; omega
  have e2 := (inn_ps (lk := lk) (gs := gs) hn i (Nat.le_refl _)).2
  have mem_s : ∀ m, m ∈ isort nlt (inn lk gs i ps i).2 ↔ m = i ∨ ∃ t, t < i ∧ takes lk gs i ps t = true ∧ m ∈ gs.getD t [] := fun m => ((isort_perm nlt _).mem_iff).trans (mine_mem T hi (Nat.le_refl _))
  have gd : ∀ k, ((stepOut lk (ps, gs) i).2).getD k [] = if k = i then isort nlt (inn lk gs i ps i).2 else gs.getD k [] := fun k => by
    show (gs ++ [isort nlt (inn lk gs i ps i).2]).getD k [] = _
    rw [getD_snoc, T.gl]
  have gdi : ((stepOut lk (ps, gs) i).2).getD i [] = isort nlt (inn lk gs i ps i).2 := by rw [gd, if_pos rfl]
  have gdk : ∀ k, k < i → ((stepOut lk (ps, gs) i).2).getD k [] = gs.getD k [] := fun k hk => by rw [gd, if_neg (by omega)]
  have pd : ∀ t, ((stepOut lk (ps, gs) i).1).getD t none = if t < i ∧ takes lk gs i ps t = true then some i else ps.getD t none := e2
  refine ⟨?_, ?_, ?_, ?_, ?_⟩
  · intro k hk x y hx hy hl
    by_cases e : k = i
    · subst e
      rw [gdi] at hx ⊢
      rw [mem_s] at hx ⊢
      by_cases ey : y = k
      · exact .inl ey
      · rcases hx with ex | ⟨t, t1, t2, t3⟩
        · subst ex
          obtain ⟨r, r1, r2, r3⟩ := C.co y (by omega)
          exact .inr ⟨r, r1, takes_iff.mpr ⟨r2, y, r3, sy _ _ hl⟩, r3⟩
        · by_cases q : y ≤ t
          · exact .inr ⟨t, t1, t2, C.cl t t1 x y t3 q hl⟩
          · have := C.pn t t1 (takes_root t2) y (by omega) (by omega) x t3
            rw [this] at hl; cases hl
    · rw [gdk k (by omega)] at hx ⊢
      exact C.cl k (by omega) x y hx hy hl
  · intro k hk hr p h1 h2 a ha
    have hk : k < i := by omega
    rw [gdk k hk] at ha
    rw [pd] at hr
    by_cases q : takes lk gs i ps k = true
    · rw [if_pos ⟨hk, q⟩] at hr; cases hr
    · rw [if_neg (fun z => q z.2)] at hr
      by_cases e : p = i
      · subst e
        cases hl : lk a p with
        | false => rfl
        | true => exact absurd (takes_iff.mpr ⟨hr, a, ha, hl⟩) q
      · exact C.pn k hk hr p h1 (by omega) a ha
  · intro k hk p hp
    rw [pd] at hp
    by_cases q : k < i ∧ takes lk gs i ps k = true
    · rw [if_pos q] at hp
      injection hp with hp
      subst hp
      rw [gdk k q.1]
      obtain ⟨q1, q2⟩ := takes_iff.mp q.2
      exact ⟨q.1, by omega, q2, fun p' h1 h2 => C.pn k q.1 q1 p' h1 h2⟩
    · rw [if_neg q] at hp
      have hk : k < i := by
        by_cases e : k < i
        · exact e
        · rw [T.free k (by omega)] at hp; cases hp
      obtain ⟨a1, a2, a3, a4⟩ := C.pp k hk p hp
      rw [gdk k hk]
      exact ⟨a1, by omega, a3, a4⟩
  · intro m hm
    have hii : ((stepOut lk (ps, gs) i).1).getD i none = none := by rw [pd, if_neg (by omega)]; exact T.free i (Nat.le_refl _)
    by_cases e : m = i
    · subst e
      exact ⟨m, by omega, hii, by rw [gdi, mem_s]; exact .inl rfl⟩
    · obtain ⟨k, k1, k2, k3⟩ := C.co m (by omega)
      by_cases q : takes lk gs i ps k = true
      · exact ⟨i, by omega, hii, by rw [gdi, mem_s]; exact .inr ⟨k, k1, q, k3⟩⟩
      · exact ⟨k, by omega, by rw [pd, if_neg (fun z => q z.2)]; exact k2, by rw [gdk k k1]; exact k3⟩
  · intro k hk m hm
    by_cases e : k = i
    · subst e
      rw [gdi, mem_s] at hm
      rcases hm with e | ⟨t, t1, t2, t3⟩
      · subst e; exact .refl _
      · obtain ⟨_, a, a1, a2⟩ := takes_iff.mp t2
        have up : ∀ z, z ∈ gs.getD t [] → CoP lk k t z := fun z hz => (C.re t t1 z hz).mono fun x hx => Nat.le_trans hx (Nat.le_of_lt t1)
        have ha : a ≤ k := Nat.le_trans (T.le t a t1 a1) (Nat.le_of_lt t1)
        exact .trans (.link (Nat.le_refl _) ha (sy _ _ a2)) (.trans ((up a a1).symm fun x y => sy x y) (up m t3))
    · rw [gdk k (by omega)] at hm
      exact C.re k (by omega) m hm
end
theorem compOk (lk : Nat → Nat → Bool) (sy : ∀ x y, lk x y = true → lk y x = true) (n : Nat) : ∀ i, i ≤ n → Comp lk i (outS lk n i).1 (outS lk n i).2
  | 0, _ => ⟨fun k h => absurd h (by omega), fun k h => absurd h (by omega), fun k h => absurd h (by omega), fun k h => absurd h (by omega), fun k h => absurd h (by omega)⟩
  | i + 1, hi => by
    rw [outS_succ]
    exact comp_step sy (treeOk lk n i (by omega)) (compOk lk sy n i (by omega)) (by omega)
section
variable {lk : Nat → Nat → Bool} {a : Nat}
/-- what holds of found while it grows -/
structure Grn (lk : Nat → Nat → Bool) (a : Nat) (found fresh : List Nat) : Prop where
  g : GrOk a found fresh
  self : a ∈ found
  sub : ∀ x ∈ fresh, x ∈ found
  cl : ∀ x ∈ found, x ∉ fresh → ∀ y, y < a → lk x y = true → y ∈ found
  re : ∀ x ∈ found, CoP lk a a x
theorem Grn.step {found fresh : List Nat} (h : Grn lk a found fresh) : Grn lk a (found ++ laterL lk a found fresh) (laterL lk a found fresh) := by
  refine ⟨h.g.step, List.mem_append_left _ h.self, fun x hx => List.mem_append_right _ hx, fun x hx hnx y hy hl => ?_, fun x hx => ?_⟩
  · have hx := (List.mem_append.mp hx).resolve_right hnx
    by_cases q : y ∈ found
    · exact List.mem_append_left _ q
    · by_cases r : x ∈ fresh
      · refine List.mem_append_right _ (List.mem_filter.mpr ⟨List.mem_range.mpr hy, ?_⟩)
        rw [Bool.and_eq_true]
        exact ⟨decide_eq_true q, List.any_eq_true.mpr ⟨x, r, hl⟩⟩
      · exact absurd (h.cl x hx r y hy hl) q
  · rcases List.mem_append.mp hx with q | q
    · exact h.re x q
    · have hq := (List.mem_filter.mp q).2
      rw [Bool.and_eq_true] at hq
      obtain ⟨o, o1, o2⟩ := List.any_eq_true.mp hq.2
      have hxa := (later_mem q).1
      exact .trans (h.re o (h.sub o o1)) (.link (h.g.fr o o1) (Nat.le_of_lt hxa) o2)
theorem grn_end : ∀ (f : Nat) (found fresh : List Nat), Grn lk a found fresh → a + 1 - found.length < f → Grn lk a (grownL lk a f found fresh) []
  | 0, found, fresh, _, hf => absurd hf (by omega)
  | f + 1, found, fresh, h, hf => by
    cases fresh with
    | nil => rw [grownL_nil]; exact h
    | cons z fresh =>
      rw [grownL_cons rfl]
      have hs := h.step
      cases e : laterL lk a found (z :: fresh) with
      | nil =>
        rw [grownL_nil]
        rw [e] at hs
        exact hs
      | cons y l =>
        rw [e] at hs
        refine grn_end f _ _ hs ?_
        have hl := hs.g.len
        rw [List.length_append, List.length_cons] at hl ⊢
        omega
theorem grown_grn (lk : Nat → Nat → Bool) (a : Nat) : Grn lk a (grownL lk a (a + 2) [a] [a]) [] :=
  grn_end (a + 2) [a] [a] ⟨grOk0 a, List.mem_cons_self, fun x hx => hx, fun x hx hn => absurd hx hn, fun x hx => by rw [List.mem_singleton.mp hx]; exact .refl _⟩ (by show a + 1 - 1 < a + 2; omega)
end
section
variable {lk : Nat → Nat → Bool} {n : Nat}
theorem grp_grown (sy : ∀ x y, lk x y = true → lk y x = true) {k : Nat} (hk : k < n) : ((trees lk n).2).getD k [] = grownA lk k := by
  have T := treeOk lk n n (Nat.le_refl _)
  have C := compOk lk sy n n (Nat.le_refl _)
  have G := grown_grn lk k
  refine isort_of slo_nlt ?_ (T.srt k hk)
  refine perm_nd (T.nd k hk) G.g.nd fun m => ⟨fun hm => ?_, fun hm => ?_⟩
  · refine (C.re k hk m hm).stay (S := fun z => z ∈ grownL lk k (k + 2) [k] [k]) (fun x y hx _ hy hl => ?_) G.self
    by_cases e : y = k
    · rw [e]; exact G.self
    · exact G.cl x hx List.not_mem_nil y (by omega) hl
  · exact (G.re m hm).stay (S := fun z => z ∈ ((trees lk n).2).getD k []) (fun x y hx _ hy hl => C.cl k hk x y hx hy hl) (T.self k hk)
end
theorem haveKind_iff {r s : Row} : haveKind r s = true ↔ ∃ k, k ∈ r.b.items ∧ k ∈ s.b.items := by
  unfold haveKind
  rw [Bool.not_eq_true', List.isEmpty_eq_false_iff_exists_mem]
  exact ⟨fun ⟨k, h⟩ => ⟨k, (List.mem_filter.mp h).1, of_decide_eq_true (List.mem_filter.mp h).2⟩, fun ⟨k, h1, h2⟩ => ⟨k, List.mem_filter.mpr ⟨h1, decide_eq_true h2⟩⟩⟩
theorem haveKind_sy {r s : Row} (h : haveKind r s = true) : haveKind s r = true := by
  obtain ⟨k, h1, h2⟩ := haveKind_iff.mp h
  exact haveKind_iff.mpr ⟨k, h2, h1⟩
theorem lkR_iff {rs : List Row} {i j : Nat} : lkR rs i j = true ↔ ∃ a b, rs[i]? = some a ∧ rs[j]? = some b ∧ haveKind a b = true := by
  unfold lkR
  cases hi : rs[i]? with
  | none => exact ⟨fun h => (nomatch h), fun ⟨_, _, h, _⟩ => (nomatch h)⟩
  | some a => cases hj : rs[j]? with
    | none => exact ⟨fun h => (nomatch h), fun ⟨_, _, _, h, _⟩ => (nomatch h)⟩
    | some b => exact ⟨fun h => ⟨a, b, rfl, rfl, h⟩, fun ⟨_, _, h1, h2, h3⟩ => by cases h1; cases h2; exact h3⟩
theorem lkR_sy {rs : List Row} (x y : Nat) (h : lkR rs x y = true) : lkR rs y x = true := by
  obtain ⟨a, b, h1, h2, h3⟩ := lkR_iff.mp h
  exact lkR_iff.mpr ⟨b, a, h2, h1, haveKind_sy h3⟩
theorem compR (rs : List Row) : Comp (lkR rs) rs.length (parsR rs) (grpsR rs) := compOk (lkR rs) lkR_sy rs.length rs.length (Nat.le_refl _)
theorem list_getD {α : Type} {xs : List α} {d : α} {n : Nat} {f : Nat → α} (hl : xs.length = n) (h : ∀ k, k < n → xs.getD k d = f k) : xs = (List.range n).map f := by
  apply List.ext_getElem?
  intro k
  by_cases q : k < n
  · rw [List.getElem?_map, List.getElem?_range q, some_getD (d := d) (by omega), h k q]; rfl
  · rw [List.getElem?_eq_none (by omega), List.getElem?_eq_none (by rw [List.length_map, List.length_range]; omega)]
theorem grps_grown (rs : List Row) : grpsR rs = (List.range rs.length).map (grownA (lkR rs)) :=
  list_getD (d := []) (treeR rs).gl fun k hk => grp_grown lkR_sy hk
theorem up_par {rs : List Row} {i : Nat} (hi : i < rs.length) : upO rs i = (parsR rs).getD i none := by
  have C := compR rs
  have e : grownA (lkR rs) i = (grpsR rs).getD i [] := (grp_grown lkR_sy hi).symm
  unfold upO behindO
  rw [e]
  cases hp : (parsR rs).getD i none with
  | none =>
    rw [List.find?_eq_none]
    intro m hm hq
    obtain ⟨h1, h2⟩ := List.mem_range'_1.mp hm
    obtain ⟨o, o1, o2⟩ := List.any_eq_true.mp hq
    rw [C.pn i hi hp m (by omega) (by omega) o o1] at o2
    cases o2
  | some p =>
    obtain ⟨h1, h2, ⟨a, a1, a2⟩, h4⟩ := C.pp i hi p hp
    rw [List.find?_range'_eq_some]
    refine ⟨List.any_eq_true.mpr ⟨a, a1, a2⟩, List.mem_range'_1.mpr ⟨by omega, by omega⟩, fun q q1 q2 => ?_⟩
    rw [Bool.not_eq_true']
    rw [List.any_eq_false]
    intro o ho
    rw [h4 q (by omega) q2 o ho]
    exact Bool.false_ne_true
theorem above_par (rs : List Row) : aboveR rs = parR rs := by
  unfold aboveR parR
  apply List.map_congr_left
  intro i hi
  rw [up_par (List.mem_range.mp hi)]
end Elk
set_option Elab.async false
set_option linter.all false
set_option maxHeartbeats 4000000
namespace Elk
open PySem PySem.Spec PyProof.Rows L2
/-! ### trees by rank -/
section
variable {α : Type} {L : α → α → Prop} {N : α → Prop} {r r' : α → Nat}
def Low (N : α → Prop) (r : α → Nat) (b : α) : α → Prop := fun z => N z ∧ r z ≤ r b
abbrev InG (L : α → α → Prop) (N : α → Prop) (r : α → Nat) (x y : α) : Prop := Con L (Low N r x) x y
structure Par (L : α → α → Prop) (N : α → Prop) (r : α → Nat) (x p : α) : Prop where
  nx : N x
  np : N p
  lt : r x < r p
  tie : ∃ a, InG L N r x a ∧ L a p
  fst : ∀ q, N q → r x < r q → r q < r p → ∀ a, InG L N r x a → ¬ L a q
def InjR (N : α → Prop) (r : α → Nat) : Prop := ∀ x y, N x → N y → r x = r y → x = y
def LEx (L : α → α → Prop) (N : α → Prop) (r r' : α → Nat) : Prop := ∀ x y, N x → InG L N r x y → r' y ≤ r' x
theorem in_low {x y : α} (hx : N x) (h : InG L N r x y) : N y ∧ r y ≤ r x := h.dom (D := Low N r x) ⟨hx, Nat.le_refl _⟩
theorem in_up {x z u : α} (h : InG L N r x z) (hu : r x ≤ r u) : Con L (Low N r u) x z := h.mono fun _ k => ⟨k.1, Nat.le_trans k.2 hu⟩
theorem in_trans {x y z : α} (hx : N x) (h : InG L N r x z) (k : InG L N r z y) : InG L N r x y := .trans h (in_up k (in_low hx h).2)
theorem in_shut {x z u : α} (hx : N x) (h : InG L N r x z) (hu : N u) (k : r u ≤ r x) (l : L z u) : InG L N r x u := .trans h (.link (in_low hx h) ⟨hu, k⟩ l)
theorem in_over (sy : ∀ x y, L x y → L y x) {x z u : α} (hx : N x) (h : InG L N r x z) (hu : N u) (k : r x ≤ r u) (l : L z u) : InG L N r u x :=
  .trans (.link ⟨hu, Nat.le_refl _⟩ ⟨(in_low hx h).1, Nat.le_trans (in_low hx h).2 k⟩ (sy _ _ l)) ((in_up h k).symm sy)
theorem Con.within {D : α → Prop} {x y : α} (h : Con L D x y) : ∀ w, Con L D w x → Con L (fun z => Con L D w z) x y := by
  induction h with
  | refl x => exact fun _ _ => .refl x
  | link hx hy h => exact fun w k => .link k (.trans k (.link hx hy h)) h
  | trans a b iha ihb => exact fun w k => .trans (iha w k) (ihb w (.trans k a))
theorem in_fwd (le : LEx L N r r') {x y : α} (hx : N x) (h : InG L N r x y) : InG L N r' x y :=
  (h.within x (.refl x)).mono fun z k => ⟨(in_low hx k).1, le x z hx k⟩
theorem in_bwd (sy : ∀ x y, L x y → L y x) (ij : InjR N r') (le : LEx L N r r') {x y : α} (hx : N x) (h : InG L N r' x y) : InG L N r x y := by
  refine h.stay (S := fun z => InG L N r x z) (fun u v hu du dv l => ?_) (.refl x)
  by_cases q : r v ≤ r x
  · exact in_shut hx hu dv.1 q l
  · have h1 := in_over sy hx hu dv.1 (by omega) l
    have h2 := le v x dv.1 h1
    have h3 := dv.2
    have : v = x := ij v x dv.1 hx (by omega)
    subst this
    exact .refl v
theorem le_back (sy : ∀ x y, L x y → L y x) (ij : InjR N r') (le : LEx L N r r') : LEx L N r' r := fun x y hx h => (in_low hx (in_bwd sy ij le hx h)).2
theorem par_fwd (sy : ∀ x y, L x y → L y x) (ij : InjR N r') (ij0 : InjR N r) (le : LEx L N r r') {x p : α} (h : Par L N r x p) : Par L N r' x p := by
  obtain ⟨nx, np, lt, ⟨a, a1, a2⟩, fs⟩ := h
  have ne : x ≠ p := fun e => by subst e; exact Nat.lt_irrefl _ lt
  have up := le p x np (in_over sy nx a1 np (Nat.le_of_lt lt) a2)
  refine ⟨nx, np, Nat.lt_of_le_of_ne up fun e => ne (ij x p nx np e), ⟨a, in_fwd le nx a1, a2⟩, fun q nq h1 h2 b hb l => ?_⟩
  have hb := in_bwd sy ij le nx hb
  by_cases q1 : r q ≤ r x
  · have := le x q nx (in_shut nx hb nq q1 l)
    omega
  · by_cases q2 : r q < r p
    · exact fs q nq (by omega) q2 b hb l
    · have h3 := in_over sy nx hb nq (by omega) l
      have h4 : InG L N r q p := .trans h3 (.trans (in_up a1 (by omega)) (.link ⟨(in_low nx a1).1, by have := (in_low nx a1).2; omega⟩ ⟨np, by omega⟩ a2))
      have := le q p nq h4
      omega
inductive Anc (P : α → α → Prop) (x : α) : α → Prop
  | refl : Anc P x x
  | step {y p : α} (h : P y p) (k : Anc P x p) : Anc P x y
theorem anc_in (sy : ∀ x y, L x y → L y x) {x y : α} (hx : N x) (h : Anc (Par L N r) x y) : InG L N r x y := by
  induction h with
  | refl => exact .refl x
  | step h _ ih =>
    obtain ⟨a, a1, a2⟩ := h.tie
    exact in_trans hx ih (in_over sy h.nx a1 h.np (Nat.le_of_lt h.lt) a2)
theorem in_anc (sy : ∀ x y, L x y → L y x) (ij : InjR N r) {x : α} (hx : N x) : ∀ (k : Nat) (y : α), r x - r y ≤ k → InG L N r x y → Anc (Par L N r) x y := by
  intro k
  induction k with
  | zero =>
    intro y hk h
    have hl := in_low hx h
    have := ij y x hl.1 hx (by omega)
    subst this
    exact .refl
  | succ k ih =>
    intro y hk h
    have hl := in_low hx h
    by_cases e : r y = r x
    · have := ij y x hl.1 hx e
      subst this
      exact .refl
    · have hlt : r y < r x := by omega
      have hex : ∃ u, N u ∧ r y < r u ∧ r u ≤ r x ∧ ∃ a, InG L N r y a ∧ L a u := by
        refine Classical.byContradiction fun hno => ?_
        have hc := (h.symm sy).stay (S := fun z => InG L N r y z) (fun u v hu du dv l => by
          by_cases q : r v ≤ r y
          · exact in_shut hl.1 hu dv.1 q l
          · exact absurd ⟨v, dv.1, by omega, dv.2, u, hu, l⟩ hno) (.refl y)
        have := (in_low hl.1 hc).2
        omega
      obtain ⟨u, hu⟩ := hex
      have dp : DecidablePred fun m : Nat => ∃ u, (N u ∧ r y < r u ∧ r u ≤ r x ∧ ∃ a, InG L N r y a ∧ L a u) ∧ r u = m := fun _ => Classical.propDecidable _
      obtain ⟨m, ⟨p, ⟨p1, p2, p3, a, a1, a2⟩, p5⟩, hm⟩ := least_place (p := fun m : Nat => ∃ u, (N u ∧ r y < r u ∧ r u ≤ r x ∧ ∃ a, InG L N r y a ∧ L a u) ∧ r u = m) (n := r u) ⟨u, hu, rfl⟩
      refine .step (p := p) ⟨hl.1, p1, p2, ⟨a, a1, a2⟩, fun q nq q1 q2 b hb l => ?_⟩ (ih p (by omega) ?_)
      · exact hm (r q) (by omega) ⟨q, ⟨nq, q1, by omega, b, hb, l⟩, rfl⟩
      · exact .trans h (.trans (in_up a1 (by omega)) (.link ⟨(in_low hl.1 a1).1, by have := (in_low hl.1 a1).2; omega⟩ ⟨p1, p3⟩ a2))
theorem Anc.imp {P Q : α → α → Prop} (h : ∀ x p, P x p → Q x p) {x y : α} (k : Anc P x y) : Anc Q x y := by
  induction k with
  | refl => exact .refl
  | step a _ ih => exact .step (h _ _ a) ih
theorem in_of_par (sy : ∀ x y, L x y → L y x) (ij : InjR N r) (h : ∀ x p, Par L N r x p → Par L N r' x p) {x y : α} (hx : N x) (k : InG L N r x y) : InG L N r' x y :=
  anc_in sy hx ((in_anc sy ij hx _ y (Nat.le_refl _) k).imp h)
end
/-! ### rows by name -/
def Nm (rs : List Row) (z : Str) : Prop := z ∈ namesR rs
def Lk (rs : List Row) (x y : Str) : Prop := haveKind (rowBy rs x) (rowBy rs y) = true
def rk (rs : List Row) (z : Str) : Nat := (namesR rs).idxOf z
theorem Lk.sy {rs : List Row} (x y : Str) (h : Lk rs x y) : Lk rs y x := haveKind_sy h
abbrev InR (rs : List Row) (x y : Str) : Prop := InG (Lk rs) (Nm rs) (rk rs) x y
abbrev PaR (rs : List Row) (x p : Str) : Prop := Par (Lk rs) (Nm rs) (rk rs) x p
section
variable {rs rs' : List Row}
theorem names_at {i : Nat} (h : i < rs.length) : (namesR rs)[i]? = some (nameAt rs i) := by unfold namesR; rw [List.getElem?_map, row_get h]; rfl
theorem nameAt_in {i : Nat} (h : i < rs.length) : nameAt rs i ∈ namesR rs := List.mem_of_getElem? (names_at h)
theorem rk_at (hd : (namesR rs).Nodup) {i : Nat} (h : i < rs.length) : rk rs (nameAt rs i) = i := by
  obtain ⟨hi, e⟩ := List.getElem?_eq_some_iff.mp (names_at h)
  unfold rk
  rw [← e]
  exact hd.idxOf_getElem i hi
theorem rk_lt {z : Str} (h : z ∈ namesR rs) : rk rs z < rs.length := by
  have := List.idxOf_lt_length_of_mem h
  rwa [namesR_len] at this
theorem at_rk {z : Str} (hd : (namesR rs).Nodup) (h : z ∈ namesR rs) : nameAt rs (rk rs z) = z := by
  obtain ⟨i, hi, e⟩ := name_place h
  rw [← e, rk_at hd hi]
theorem rk_inj (hd : (namesR rs).Nodup) : InjR (Nm rs) (rk rs) := fun x y hx hy e => by rw [← at_rk hd hx, e, at_rk hd hy]
theorem rowBy_at (hd : (namesR rs).Nodup) {i : Nat} (h : i < rs.length) : rowBy rs (nameAt rs i) = rs.getD i noRow := rowBy_mem hd (List.mem_of_getElem? (row_get h))
theorem lk_at (hd : (namesR rs).Nodup) {i j : Nat} (hi : i < rs.length) (hj : j < rs.length) : Lk rs (nameAt rs i) (nameAt rs j) ↔ lkR rs i j = true := by
  unfold Lk
  rw [rowBy_at hd hi, rowBy_at hd hj, lkR_at (row_get hi) (row_get hj)]
theorem in_grp (hd : (namesR rs).Nodup) {x y : Str} (hx : x ∈ namesR rs) : y ∈ grpOf rs x ↔ InR rs x y := by
  obtain ⟨i, hi, rfl⟩ := name_place hx
  have T := treeR rs
  have C := compR rs
  rw [grpOf_at hd hi]
  constructor
  · intro h
    obtain ⟨m, hm, rfl⟩ := List.mem_map.mp h
    have key : ∀ {a b : Nat}, CoP (lkR rs) i a b → InG (Lk rs) (Nm rs) (rk rs) (nameAt rs i) (nameAt rs i) → Con (Lk rs) (Low (Nm rs) (rk rs) (nameAt rs i)) (nameAt rs a) (nameAt rs b) := fun h _ => by
      induction h with
      | refl x => exact .refl _
      | link hx hy h => exact .link ⟨nameAt_in (by omega), by rw [rk_at hd (by omega), rk_at hd hi]; exact hx⟩ ⟨nameAt_in (by omega), by rw [rk_at hd (by omega), rk_at hd hi]; exact hy⟩ ((lk_at hd (by omega) (by omega)).mpr h)
      | trans _ _ a b => exact .trans a b
    exact key (C.re i hi m hm) (.refl _)
  · intro h
    refine h.stay (S := fun z => z ∈ ((grpsR rs).getD i []).map (nameAt rs)) (fun u v hu _ dv l => ?_) (List.mem_map.mpr ⟨i, T.self i hi, rfl⟩)
    obtain ⟨a, ha, rfl⟩ := List.mem_map.mp hu
    obtain ⟨b, hb, rfl⟩ := name_place dv.1
    have hle := dv.2
    rw [rk_at hd hb, rk_at hd hi] at hle
    have hal := T.le i a hi ha
    exact List.mem_map.mpr ⟨b, C.cl i hi a b ha hle ((lk_at hd (by omega) hb).mp l), rfl⟩
theorem in_at (hd : (namesR rs).Nodup) {i m : Nat} (hi : i < rs.length) (hm : m < rs.length) : m ∈ (grpsR rs).getD i [] ↔ InR rs (nameAt rs i) (nameAt rs m) := by
  rw [← in_grp hd (nameAt_in hi), grpOf_at hd hi]
  refine ⟨fun h => List.mem_map.mpr ⟨m, h, rfl⟩, fun h => ?_⟩
  obtain ⟨a, a1, a2⟩ := List.mem_map.mp h
  have := (treeR rs).le i a hi a1
  rw [← nameAt_inj hd (by omega) hm a2]
  exact a1
theorem par_at {x p : Str} : (x, some p) ∈ parR rs ↔ ∃ i j, i < rs.length ∧ (parsR rs).getD i none = some j ∧ nameAt rs i = x ∧ nameAt rs j = p := by
  unfold parR
  rw [List.mem_map]
  constructor
  · rintro ⟨i, hi, e⟩
    injection e with e1 e2
    obtain ⟨j, j1, j2⟩ := Option.map_eq_some_iff.mp e2
    exact ⟨i, j, List.mem_range.mp hi, j1, e1, j2⟩
  · rintro ⟨i, j, hi, hj, e1, e2⟩
    exact ⟨i, List.mem_range.mpr hi, by rw [hj, e1]; show (x, some (nameAt rs j)) = _; rw [e2]⟩
theorem par_in (hd : (namesR rs).Nodup) {x p : Str} : (x, some p) ∈ parR rs ↔ PaR rs x p := by
  have T := treeR rs
  have C := compR rs
  rw [par_at]
  constructor
  · rintro ⟨i, j, hi, hj, rfl, rfl⟩
    obtain ⟨h1, h2, ⟨a, a1, a2⟩, h4⟩ := C.pp i hi j hj
    have hal := T.le i a hi a1
    refine ⟨nameAt_in hi, nameAt_in h2, by rw [rk_at hd hi, rk_at hd h2]; exact h1, ⟨nameAt rs a, (in_at hd hi (by omega)).mp a1, (lk_at hd (by omega) h2).mpr a2⟩, fun q nq q1 q2 b hb l => ?_⟩
    obtain ⟨m, hm, rfl⟩ := name_place nq
    rw [rk_at hd hm, rk_at hd hi] at q1
    rw [rk_at hd hm, rk_at hd h2] at q2
    obtain ⟨c, hc, rfl⟩ := name_place (in_low (nameAt_in hi) hb).1
    rw [lk_at hd hc hm, h4 m q1 q2 c ((in_at hd hi hc).mpr hb)] at l
    cases l
  · rintro ⟨nx, np, lt, ⟨a, a1, a2⟩, fs⟩
    obtain ⟨i, hi, rfl⟩ := name_place nx
    obtain ⟨k, hk, rfl⟩ := name_place np
    obtain ⟨c, hc, rfl⟩ := name_place (in_low nx a1).1
    rw [rk_at hd hi, rk_at hd hk] at lt
    have hcg := (in_at hd hi hc).mpr a1
    have hck := (lk_at hd hc hk).mp a2
    cases hp : (parsR rs).getD i none with
    | none =>
      rw [C.pn i hi hp k lt hk c hcg] at hck
      cases hck
    | some j =>
      obtain ⟨h1, h2, ⟨b, b1, b2⟩, h4⟩ := C.pp i hi j hp
      have hbl := T.le i b hi b1
      refine ⟨i, j, hi, hp, rfl, ?_⟩
      have e : j = k := by
        rcases Nat.lt_trichotomy j k with q | q | q
        · exact absurd ((lk_at hd (by omega) h2).mpr b2) (fs (nameAt rs j) (nameAt_in h2) (by rw [rk_at hd hi, rk_at hd h2]; exact h1) (by rw [rk_at hd h2, rk_at hd hk]; exact q) (nameAt rs b) ((in_at hd hi (by omega)).mp b1))
        · exact q
        · rw [h4 k lt q c hcg] at hck; cases hck
      rw [e]
theorem rowBy_perm (hd : (namesR rs).Nodup) (p : rs'.Perm rs) : rowBy rs' = rowBy rs := by
  funext z
  by_cases h : z ∈ namesR rs
  · obtain ⟨r, h1, h2⟩ := List.mem_map.mp h
    have h2 : r.a = z := h2
    subst h2
    rw [rowBy_mem hd h1, rowBy_mem ((p.map fun r : Row => r.a).nodup_iff.mpr hd) (p.mem_iff.mpr h1)]
  · have h' : z ∉ namesR rs' := fun k => h ((p.map fun r : Row => r.a).mem_iff.mp k)
    have no : ∀ {ts : List Row}, z ∉ namesR ts → (ts.find? fun r => decide (r.a = z)) = none := fun {ts} hn => List.find?_eq_none.mpr fun r hr e => hn (List.mem_map.mpr ⟨r, hr, of_decide_eq_true e⟩)
    unfold rowBy
    rw [no h, no h']
theorem lk_perm (hd : (namesR rs).Nodup) (p : rs'.Perm rs) : Lk rs' = Lk rs := by
  funext x y
  unfold Lk
  rw [rowBy_perm hd p]
theorem nm_perm (p : rs'.Perm rs) : Nm rs' = Nm rs := by
  funext z
  exact propext ((p.map fun r : Row => r.a).mem_iff)
theorem nd_of_fst {β : Type} {xs : List (Str × β)} (h : (xs.map (·.1)).Nodup) : xs.Nodup := List.Pairwise.of_map (fun x : Str × β => x.1) (fun a b h q => h (by rw [q])) h
theorem parR_nd (hd : (namesR rs).Nodup) : (parR rs).Nodup := nd_of_fst (by rw [parR_names]; exact hd)
theorem fst_uniq {β : Type} : ∀ {xs : List (Str × β)}, (xs.map (·.1)).Nodup → ∀ {x y : Str × β}, x ∈ xs → y ∈ xs → x.1 = y.1 → x = y := fun {xs} hd {x y} hx hy e => by
  have h1 := find_nd hd hx
  have h2 := find_nd hd hy
  rw [e, h2] at h1
  injection h1 with h1
  exact h1.symm
/-- equal parents by name -/
def SameP (rs rs' : List Row) : Prop := ∀ x, x ∈ parR rs ↔ x ∈ parR rs'
theorem sameP_of (hd : (namesR rs).Nodup) (p : rs'.Perm rs) (h : ∀ x q, (x, some q) ∈ parR rs ↔ (x, some q) ∈ parR rs') : SameP rs rs' := by
  have hp := p.map fun r : Row => r.a
  have hd' : (namesR rs').Nodup := hp.nodup_iff.mpr hd
  have key : ∀ {r s : List Row}, (namesR r).Nodup → (namesR s).Nodup → (∀ z, z ∈ namesR r → z ∈ namesR s) → (∀ x q, (x, some q) ∈ parR s → (x, some q) ∈ parR r) → ∀ x, (x, none) ∈ parR r → (x, none) ∈ parR s := fun {r s} hr hs hn hh x hx => by
    have h1 : x ∈ namesR s := hn x (by rw [← parR_names]; exact List.mem_map.mpr ⟨_, hx, rfl⟩)
    rw [← parR_names] at h1
    obtain ⟨⟨y, o⟩, h2, h3⟩ := List.mem_map.mp h1
    have h3 : y = x := h3
    subst h3
    cases o with
    | none => exact h2
    | some q =>
      have := fst_uniq (by rw [parR_names]; exact hr) hx (hh y q h2) rfl
      injection this with _ e
      cases e
  rintro ⟨x, o⟩
  cases o with
  | some q => exact h x q
  | none => exact ⟨key hd hd' (fun z hz => hp.mem_iff.mpr hz) (fun x q => (h x q).mpr) x, key hd' hd (fun z hz => hp.mem_iff.mp hz) (fun x q => (h x q).mp) x⟩
theorem perm_of_mem {α : Type} [DecidableEq α] {xs ys : List α} (h1 : xs.Nodup) (h2 : ys.Nodup) (h : ∀ a, a ∈ xs ↔ a ∈ ys) : xs.Perm ys := by
  induction xs generalizing ys with
  | nil => cases ys with
    | nil => exact .refl _
    | cons y ys => exact absurd ((h y).mpr List.mem_cons_self) List.not_mem_nil
  | cons x xs ih =>
    obtain ⟨a1, a2⟩ := List.nodup_cons.mp h1
    have hx := (h x).mp List.mem_cons_self
    refine (List.Perm.cons x (ih a2 (h2.erase x) fun a => ?_)).trans (List.perm_cons_erase hx).symm
    constructor
    · intro ha
      exact (List.mem_erase_of_ne (fun e => a1 (by rw [← e]; exact ha))).mpr ((h a).mp (List.mem_cons_of_mem _ ha))
    · intro ha
      have hne : a ≠ x := fun e => by
        subst e
        exact h2.not_mem_erase ha
      exact (List.mem_cons.mp ((h a).mpr (List.mem_of_mem_erase ha))).resolve_left hne
theorem sameT_iff (lok : LineOk rs) (p : rs'.Perm rs) : sameT rs rs' = true ↔ SameP rs rs' := by
  have lok' := lok.perm p
  unfold sameT
  rw [decide_eq_true_iff, above_par, above_par]
  constructor
  · intro h
    have hp : ((parR rs).map shownP).Perm ((parR rs').map shownP) := ((isort_perm W.DatumOrd.lt _).symm.trans (by rw [h])).trans (isort_perm W.DatumOrd.lt _)
    have half : ∀ {r s : List Row}, LineOk r → LineOk s → (∀ z, z ∈ (parR r).map shownP → z ∈ (parR s).map shownP) → ∀ x, x ∈ parR r → x ∈ parR s := fun {r s} lr ls hh x hx => by
      obtain ⟨y, y1, y2⟩ := List.mem_map.mp (hh _ (List.mem_map.mpr ⟨x, hx, rfl⟩))
      have := shownP_inj (above_ok ls (by rw [above_par]; exact y1)) (above_ok lr (by rw [above_par]; exact hx)) y2
      exact this ▸ y1
    exact fun x => ⟨half lok lok' (fun z => hp.mem_iff.mp) x, half lok' lok (fun z => hp.mem_iff.mpr) x⟩
  · intro h
    exact isort_perm_eq slo_str ((perm_of_mem (parR_nd lok.nd) (parR_nd lok'.nd) h).map shownP)
/-- each row's group stays before it -/
def Lin (rs rs' : List Row) : Prop := ∀ x y, x ∈ namesR rs → y ∈ grpOf rs x → rk rs' y ≤ rk rs' x
theorem same_of_lin (lok : LineOk rs) (p : rs'.Perm rs) (h : Lin rs rs') : SameP rs rs' := by
  have hd := lok.nd
  have hd' := (lok.perm p).nd
  have ij := rk_inj hd
  have ij' : InjR (Nm rs) (rk rs') := by rw [← nm_perm p]; exact rk_inj hd'
  have le : LEx (Lk rs) (Nm rs) (rk rs) (rk rs') := fun x y hx k => h x y hx ((in_grp hd hx).mpr k)
  refine sameP_of hd p fun x q => ?_
  rw [par_in hd, par_in hd']
  unfold PaR
  rw [lk_perm hd p, nm_perm p]
  exact ⟨par_fwd Lk.sy ij' ij le, par_fwd Lk.sy ij ij' (le_back Lk.sy ij' le)⟩
theorem grp_of_same (lok : LineOk rs) (p : rs'.Perm rs) (h : SameP rs rs') {x y : Str} (hx : x ∈ namesR rs) : y ∈ grpOf rs x ↔ y ∈ grpOf rs' x := by
  have hd := lok.nd
  have hd' := (lok.perm p).nd
  have ij := rk_inj hd
  have ij' : InjR (Nm rs) (rk rs') := by rw [← nm_perm p]; exact rk_inj hd'
  rw [in_grp hd hx, in_grp hd' ((p.map fun r : Row => r.a).mem_iff.mpr hx)]
  have hp : ∀ x q, PaR rs x q ↔ Par (Lk rs) (Nm rs) (rk rs') x q := fun x q => by
    have := h (x, some q)
    rw [par_in hd, par_in hd'] at this
    unfold PaR at this ⊢
    rw [lk_perm hd p, nm_perm p] at this
    exact this
  unfold InR
  rw [lk_perm hd p, nm_perm p]
  exact ⟨in_of_par Lk.sy ij (fun x q => (hp x q).mp) hx, in_of_par Lk.sy ij' (fun x q => (hp x q).mpr) hx⟩
theorem lin_of_same (lok : LineOk rs) (p : rs'.Perm rs) (h : SameP rs rs') : Lin rs rs' := fun x y hx hy => by
  have hy := (grp_of_same lok p h hx).mp hy
  have hx' := (p.map fun r : Row => r.a).mem_iff.mpr hx
  exact (in_low (N := Nm rs') hx' ((in_grp (lok.perm p).nd hx').mp hy)).2
end
end Elk
set_option Elab.async false
set_option linter.all false
set_option maxHeartbeats 4000000
namespace Elk
open PySem PySem.Spec PyProof.Rows L2
/-! ### the normal order is the least of its kind -/
def LEl (g : Str → List Str) (w : List Str) : Prop := ∀ (k : Nat) (x : Str), w[k]? = some x → ∀ y ∈ g x, y ∈ w.take (k + 1)
theorem LEl.snoc {g : Str → List Str} {w : List Str} {z : Str} (h : LEl g w) (hz : ∀ y ∈ g z, y ∈ w ∨ y = z) : LEl g (w ++ [z]) := fun k x hk y hy => by
  by_cases q : k < w.length
  · rw [List.getElem?_append_left q] at hk
    rw [List.take_append_of_le_length (by omega)]
    exact h k x hk y hy
  · have hk2 := (List.getElem?_eq_some_iff.mp hk).1
    rw [List.length_append, List.length_singleton] at hk2
    have e : k = w.length := by omega
    subst e
    rw [List.getElem?_append_right (Nat.le_refl _), Nat.sub_self] at hk
    injection hk with hk
    have hk : z = x := hk
    subst hk
    rw [List.take_of_length_le (by rw [List.length_append]; exact Nat.le_refl _)]
    rcases hz y hy with q | q
    · exact List.mem_append_left _ q
    · rw [q]; exact List.mem_append_right _ List.mem_cons_self
theorem listLt_app (a x y : List Str) : W.listLt (a ++ x) (a ++ y) = W.listLt x y := by
  induction a with
  | nil => rfl
  | cons b a ih => rw [List.cons_append, List.cons_append, W.listLt, if_pos rfl]; exact ih
theorem nrm_succ {rs : List Row} {n : Nat} {found rest : List Str} {z : Str} {r : List Str} (h : rest.filter (freeB rs found) = z :: r) : nrm rs (n + 1) found rest = nrm rs n (found ++ [z]) (rest.erase z) := by
  show (match rest.filter (freeB rs found) with
      | [] => found
      | z :: _ => nrm rs n (found ++ [z]) (rest.erase z)) = _
  rw [h]
theorem nrm_pre (rs : List Row) : ∀ (n : Nat) (found rest : List Str), ∃ t, nrm rs n found rest = found ++ t
  | 0, found, rest => ⟨[], (List.append_nil _).symm⟩
  | n + 1, found, rest => by
    cases h : rest.filter (freeB rs found) with
    | nil =>
      refine ⟨[], ?_⟩
      show (match rest.filter (freeB rs found) with
        | [] => found
        | z :: _ => nrm rs n (found ++ [z]) (rest.erase z)) = _
      rw [h, List.append_nil]
    | cons z r =>
      rw [nrm_succ h]
      obtain ⟨t, e⟩ := nrm_pre rs n (found ++ [z]) (rest.erase z)
      exact ⟨z :: t, by rw [e, List.append_assoc]; rfl⟩
section
variable {rs rs' : List Row}
theorem grpOf_nd (hd : (namesR rs).Nodup) {z : Str} (hz : z ∈ namesR rs) : (grpOf rs z).Nodup := by
  obtain ⟨i, hi, rfl⟩ := name_place hz
  rw [grpOf_at hd hi]
  have T := treeR rs
  refine List.Pairwise.map _ (R := fun a b => a ≠ b ∧ a < rs.length ∧ b < rs.length) (fun a b h e => h.1 (nameAt_inj hd h.2.1 h.2.2 e)) ?_
  refine List.Pairwise.imp_of_mem (fun {a b} ha hb h => ⟨h, ?_, ?_⟩) (T.nd i hi)
  · have := T.le i a hi ha; omega
  · have := T.le i b hi hb; omega
theorem grpOf_in (hd : (namesR rs).Nodup) {y z : Str} (hz : z ∈ namesR rs) (h : y ∈ grpOf rs z) : y ∈ namesR rs := (in_low (N := Nm rs) hz ((in_grp hd hz).mp h)).1
theorem grpOf_self (hd : (namesR rs).Nodup) {z : Str} (hz : z ∈ namesR rs) : z ∈ grpOf rs z := (in_grp hd hz).mpr (.refl z)
theorem free_iff (hd : (namesR rs).Nodup) {found : List Str} {z : Str} (hz : z ∈ namesR rs) (hn : z ∉ found) : freeB rs found z = true ↔ ∀ y ∈ grpOf rs z, y ∈ found ∨ y = z := by
  have hm : z ∈ (grpOf rs z).filter fun y => decide (y ∉ found) := List.mem_filter.mpr ⟨grpOf_self hd hz, decide_eq_true hn⟩
  unfold freeB
  rw [decide_eq_true_iff]
  constructor
  · intro h y hy
    by_cases q : y ∈ found
    · exact .inl q
    · obtain ⟨a, ha⟩ := List.length_eq_one_iff.mp h
      have hy : y ∈ (grpOf rs z).filter fun y => decide (y ∉ found) := List.mem_filter.mpr ⟨hy, decide_eq_true q⟩
      rw [ha, List.mem_singleton] at hm hy
      exact .inr (hy.trans hm.symm)
  · intro h
    have p : ((grpOf rs z).filter fun y => decide (y ∉ found)).Perm [z] := perm_of_mem ((grpOf_nd hd hz).sublist List.filter_sublist) (List.pairwise_singleton _ _) fun a => by
      rw [List.mem_singleton]
      refine ⟨fun ha => ?_, fun e => by rw [e]; exact hm⟩
      obtain ⟨a1, a2⟩ := List.mem_filter.mp ha
      exact (h a a1).resolve_left (of_decide_eq_true a2)
    exact p.length_eq
theorem Halves.mem {found rest : List Str} (h : Halves rs found rest) {z : Str} (hz : z ∈ rest) : z ∈ namesR rs := h.mem_iff.mp (List.mem_append_right _ hz)
theorem nrm_lin (hd : (namesR rs).Nodup) : ∀ (n : Nat) (found rest : List Str), Halves rs found rest → rest.length = n → LEl (grpOf rs) found → LEl (grpOf rs) (nrm rs n found rest)
  | 0, found, rest, _, _, h => h
  | n + 1, found, rest, hv, e, h => by
    obtain ⟨z, r, e1, e2⟩ := free_head hd hv (fun q => by subst q; cases e)
    rw [nrm_succ e1]
    have hf : freeB rs found z = true := (List.mem_filter.mp (e1 ▸ List.mem_cons_self : z ∈ rest.filter (freeB rs found))).2
    exact nrm_lin hd n _ _ (hv.step e2) (by rw [List.length_erase_of_mem e2]; omega) (h.snoc ((free_iff hd (hv.mem e2) (hv.apart hd e2)).mp hf))
theorem srt_erase {rest : List Str} {z : Str} (h : rest.Pairwise fun a b => W.DatumOrd.lt b a = false) : (rest.erase z).Pairwise fun a b => (W.DatumOrd.lt b a : Bool) = false := h.sublist List.erase_sublist
theorem head_least {rest r : List Str} {z y : Str} {t : Str → Bool} (h : rest.Pairwise fun a b => (W.DatumOrd.lt b a : Bool) = false) (e : rest.filter t = z :: r) (hy : y ∈ rest) (ty : t y = true) : (W.DatumOrd.lt y z : Bool) = false := by
  have hs := h.sublist (List.filter_sublist (p := t))
  have hm : y ∈ rest.filter t := List.mem_filter.mpr ⟨hy, ty⟩
  rw [e] at hs hm
  rcases List.mem_cons.mp hm with q | q
  · rw [q]; exact slo_str.irr z
  · exact (List.pairwise_cons.mp hs).1 y q
theorem nrm_least (hd : (namesR rs).Nodup) : ∀ (n : Nat) (found rest : List Str), Halves rs found rest → rest.length = n → rest.Pairwise (fun a b => (W.DatumOrd.lt b a : Bool) = false) →
    ∀ w : List Str, w.Perm rest → LEl (grpOf rs) (found ++ w) → W.listLt (found ++ w) (nrm rs n found rest) = false
  | 0, found, rest, _, e, _, w, p, _ => by
    have e := List.eq_nil_of_length_eq_zero e
    subst e
    have := p.eq_nil
    subst this
    show W.listLt (found ++ []) found = false
    rw [List.append_nil]
    exact (slo_listLt slo_str).irr found
  | n + 1, found, rest, hv, e, hs, w, p, hl => by
    obtain ⟨z, r, e1, e2⟩ := free_head hd hv (fun q => by subst q; cases e)
    rw [nrm_succ e1]
    cases w with
    | nil => have := p.symm.eq_nil; subst this; cases e
    | cons y w =>
      have hy : y ∈ rest := p.mem_iff.mp List.mem_cons_self
      have fy : freeB rs found y = true := (free_iff hd (hv.mem hy) (hv.apart hd hy)).mpr fun u hu => by
        have := hl found.length y (by rw [List.getElem?_append_right (Nat.le_refl _), Nat.sub_self]; rfl) u hu
        rw [List.take_append, List.take_of_length_le (by omega)] at this
        rcases List.mem_append.mp this with q | q
        · exact .inl q
        · rw [show found.length + 1 - found.length = 1 by omega] at q
          exact .inr (List.mem_singleton.mp q)
      have hlt := head_least hs e1 hy fy
      by_cases q : y = z
      · subst q
        have e3 : found ++ y :: w = (found ++ [y]) ++ w := by rw [List.append_assoc]; rfl
        rw [e3] at hl ⊢
        exact nrm_least hd n _ _ (hv.step e2) (by rw [List.length_erase_of_mem e2]; omega) (srt_erase hs) w (List.cons_perm_iff_perm_erase.mp p).2 hl
      · obtain ⟨t, et⟩ := nrm_pre rs n (found ++ [z]) (rest.erase z)
        rw [et, List.append_assoc, listLt_app]
        show W.listLt (y :: w) (z :: t) = false
        rw [W.listLt, if_neg q]
        exact hlt
theorem nrm_ord (hd : (namesR rs).Nodup) : ∀ (n : Nat) (found rest : List Str), Halves rs found rest → rest.length = n → rest.Pairwise (fun a b => (W.DatumOrd.lt b a : Bool) = false) →
    ∀ (j : Nat) (x u : Str), (nrm rs n found rest)[found.length + j]? = some x → (nrm rs n found rest)[found.length + j + 1]? = some u → (W.DatumOrd.lt u x : Bool) = true → x ∈ grpOf rs u
  | 0, found, rest, _, _, _, j, x, u, hx, _, _ => by
    have := (List.getElem?_eq_some_iff.mp hx).1
    have e : (nrm rs 0 found rest) = found := rfl
    rw [e] at this
    omega
  | n + 1, found, rest, hv, e, hs, j, x, u, hx, hu, hlt => by
    obtain ⟨z, r, e1, e2⟩ := free_head hd hv (fun q => by subst q; cases e)
    rw [nrm_succ e1] at hx hu
    have hv' := hv.step e2
    have hlen : (rest.erase z).length = n := by rw [List.length_erase_of_mem e2]; omega
    have hs' := srt_erase (z := z) hs
    cases j with
    | succ j =>
      have el : (found ++ [z]).length = found.length + 1 := by rw [List.length_append]; rfl
      refine nrm_ord hd n _ _ hv' hlen hs' j x u ?_ ?_ hlt
      · rw [← hx, el]; congr 1; omega
      · rw [← hu, el]; congr 1; omega
    | zero =>
      obtain ⟨t, et⟩ := nrm_pre rs n (found ++ [z]) (rest.erase z)
      have ex : x = z := by
        rw [et, List.append_assoc, List.getElem?_append_right (by omega), Nat.add_zero, Nat.sub_self] at hx
        injection hx with hx
        exact hx.symm
      subst ex
      cases n with
      | zero =>
        have := (List.getElem?_eq_some_iff.mp hu).1
        have e : (nrm rs 0 (found ++ [x]) (rest.erase x)) = found ++ [x] := rfl
        rw [e, List.length_append, List.length_singleton] at this
        omega
      | succ n =>
        obtain ⟨y, r', e1', e2'⟩ := free_head hd hv' (fun q => by rw [q] at hlen; cases hlen)
        rw [nrm_succ e1'] at hu
        obtain ⟨t', et'⟩ := nrm_pre rs n (found ++ [x] ++ [y]) ((rest.erase x).erase y)
        have eu : u = y := by
          rw [et', List.append_assoc, List.append_assoc, List.getElem?_append_right (by omega)] at hu
          rw [show found.length + 0 + 1 - found.length = 1 by omega] at hu
          injection hu with hu
          exact hu.symm
        subst eu
        have hur : u ∈ rest := List.mem_of_mem_erase e2'
        have fu : freeB rs (found ++ [x]) u = true := (List.mem_filter.mp (e1' ▸ List.mem_cons_self : u ∈ (rest.erase x).filter (freeB rs (found ++ [x])))).2
        have fu := (free_iff hd (hv'.mem e2') (hv'.apart hd e2')).mp fu
        refine Classical.byContradiction fun hno => ?_
        have fu2 : freeB rs found u = true := (free_iff hd (hv.mem hur) (hv.apart hd hur)).mpr fun y hy => by
          rcases fu y hy with q | q
          · rcases List.mem_append.mp q with q | q
            · exact .inl q
            · rw [List.mem_singleton.mp q] at hy
              exact absurd hy hno
          · exact .inr q
        have := head_least hs e1 hur fu2
        rw [this] at hlt
        cases hlt
theorem nrm_same (h : ∀ (found : List Str) (z : Str), z ∈ namesR rs → freeB rs found z = freeB rs' found z) : ∀ (n : Nat) (found rest : List Str), (∀ z ∈ rest, z ∈ namesR rs) → nrm rs n found rest = nrm rs' n found rest
  | 0, _, _, _ => rfl
  | n + 1, found, rest, hr => by
    have e : rest.filter (freeB rs found) = rest.filter (freeB rs' found) := List.filter_congr fun z hz => h found z (hr z hz)
    cases h1 : rest.filter (freeB rs found) with
    | nil =>
      have h2 := h1
      rw [e] at h2
      show (match rest.filter (freeB rs found) with
        | [] => found
        | z :: _ => nrm rs n (found ++ [z]) (rest.erase z)) = (match rest.filter (freeB rs' found) with
        | [] => found
        | z :: _ => nrm rs' n (found ++ [z]) (rest.erase z))
      rw [h1, h2]
    | cons z r =>
      have h2 := h1
      rw [e] at h2
      rw [nrm_succ h1, nrm_succ h2]
      exact nrm_same h n _ _ fun y hy => hr y (List.mem_of_mem_erase hy)
theorem take_idx {w : List Str} (hd : w.Nodup) {y : Str} {k : Nat} (h : y ∈ w.take (k + 1)) : w.idxOf y ≤ k := by
  obtain ⟨j, hj, e⟩ := List.mem_take_iff_getElem.mp h
  have hj2 : j < w.length := by omega
  have : w.idxOf y = j := by rw [← e]; exact hd.idxOf_getElem j hj2
  omega
theorem lin_of_lel {w : List Str} (hw : w.Nodup) (he : namesR rs' = w) (p : rs'.Perm rs) (h : LEl (grpOf rs) w) : Lin rs rs' := fun x y hx hy => by
  have hx' : x ∈ namesR rs' := (p.map fun r : Row => r.a).mem_iff.mpr hx
  unfold rk
  rw [he] at hx' ⊢
  have hi := List.idxOf_lt_length_of_mem hx'
  exact take_idx hw (h (w.idxOf x) x (by rw [List.getElem?_eq_getElem hi, List.getElem_idxOf hi]) y hy)
theorem lel_of_lin (hd : (namesR rs).Nodup) (p : rs'.Perm rs) (h : Lin rs rs') : LEl (grpOf rs) (namesR rs') := fun k x hk y hy => by
  have hp := p.map fun r : Row => r.a
  have hd' : (namesR rs').Nodup := hp.nodup_iff.mpr hd
  have hx' := List.mem_of_getElem? hk
  have hx : x ∈ namesR rs := hp.mem_iff.mp hx'
  have hy' : y ∈ namesR rs' := hp.mem_iff.mpr (grpOf_in hd hx hy)
  have hl := h x y hx hy
  obtain ⟨hk1, hk2⟩ := List.getElem?_eq_some_iff.mp hk
  have ex : rk rs' x = k := by unfold rk; rw [← hk2]; exact hd'.idxOf_getElem k hk1
  have hi := List.idxOf_lt_length_of_mem hy'
  refine List.mem_take_iff_getElem.mpr ⟨(namesR rs').idxOf y, ?_, List.getElem_idxOf hi⟩
  unfold rk at hl ex
  omega
theorem normN_lel (hd : (namesR rs).Nodup) : LEl (grpOf rs) (normN rs) := nrm_lin hd _ _ _ (halves0 rs) (by rw [sortN_len, namesR_len]) fun k x h => by cases h
theorem normN_nd (hd : (namesR rs).Nodup) : (normN rs).Nodup := (normN_perm hd).nodup_iff.mpr hd
theorem normR_same (lok : LineOk rs) : SameP rs (normR rs) :=
  same_of_lin lok (normR_perm lok.nd) (lin_of_lel (normN_nd lok.nd) (normR_names lok.nd) (normR_perm lok.nd) (normN_lel lok.nd))
theorem normN_eq (lok : LineOk rs) (p : rs'.Perm rs) (h : SameP rs rs') : normN rs' = normN rs := by
  have lok' := lok.perm p
  have hp := p.map fun r : Row => r.a
  unfold normN
  have e : sortN (namesR rs') = sortN (namesR rs) := isort_perm_eq slo_str hp
  rw [e, p.length_eq]
  refine (nrm_same (fun found z hz => ?_) _ _ _ fun z hz => (isort_perm _ _).mem_iff.mp hz).symm
  have pg : (grpOf rs z).Perm (grpOf rs' z) := perm_of_mem (grpOf_nd lok.nd hz) (grpOf_nd lok'.nd (hp.mem_iff.mpr hz)) fun y => grp_of_same lok p h hz
  unfold freeB
  rw [(pg.filter _).length_eq]
theorem normR_eq (lok : LineOk rs) (p : rs'.Perm rs) (h : SameP rs rs') : normR rs' = normR rs := by
  unfold normR
  rw [normN_eq lok p h, rowBy_perm lok.nd p]
theorem normN_least (lok : LineOk rs) (p : rs'.Perm rs) (h : SameP rs rs') : (W.DatumOrd.lt (namesR rs') (normN rs) : Bool) = false := by
  have := nrm_least lok.nd rs.length [] (sortN (namesR rs)) (halves0 rs) (by rw [sortN_len, namesR_len]) (isort_srtd slo_str _) (namesR rs') ((p.map fun r : Row => r.a).trans (isort_perm _ _).symm) (lel_of_lin lok.nd p (lin_of_same lok p h))
  exact this
theorem normN_ord (hd : (namesR rs).Nodup) {j : Nat} {x u : Str} (hx : (normN rs)[j]? = some x) (hu : (normN rs)[j + 1]? = some u) (h : (W.DatumOrd.lt u x : Bool) = true) : x ∈ grpOf rs u := by
  refine nrm_ord hd rs.length [] (sortN (namesR rs)) (halves0 rs) (by rw [sortN_len, namesR_len]) (isort_srtd slo_str _) j x u ?_ ?_ h
  · rw [List.length_nil, Nat.zero_add]; exact hx
  · rw [List.length_nil, Nat.zero_add]; exact hu
theorem SameP.symm (h : SameP rs rs') : SameP rs' rs := fun x => (h x).symm
theorem SameP.trans {rs2 : List Row} (h : SameP rs rs') (k : SameP rs' rs2) : SameP rs rs2 := fun x => (h x).trans (k x)
/-! ### long lines -/
theorem reach_same (lok : LineOk rs) {b : List Row} (h : Reach rs b) : SameP rs b := by
  induction h with
  | refl => exact fun _ => Iff.rfl
  | step h a ha s ih =>
    have lb := lok.perm h.perm
    exact ih.trans ((sameT_iff lb (swapR_perm ha)).mp s)
theorem long_right {n : Nat} (h8 : n ≤ 8) (h : FewOk n rs) : LongR rs := by
  have lok := h.lok
  have hs := normR_same lok
  have hp := normR_perm lok.nd
  refine ⟨lok, by rw [h.len]; exact h8, ?_, (sameT_iff lok hp).mpr hs, fun b hb => normR_eq lok hb.perm (reach_same lok hb), normR_eq lok hp hs, fun i h1 hi hl => ?_⟩
  · unfold cntA
    rw [grps_grown]
  · have hlen : (normN rs).length = rs.length := by rw [(normN_perm lok.nd).length_eq, namesR_len]
    obtain ⟨k, rfl⟩ : ∃ k, i = k + 1 := ⟨i - 1, by omega⟩
    exact normN_ord lok.nd (some_getD (by omega)) (some_getD (by omega)) hl
/-! ### alike and least -/
theorem valV_kv : ∀ {xs : List (Str × Option Str)}, (xs.map (·.1)).Nodup → ∀ {x : Str × Option Str}, x ∈ xs → valV (xs.map kvP) (.inr x.1) = some (oV x.2)
  | y :: xs, hd, x, h => by
    obtain ⟨h1, h2⟩ := List.nodup_cons.mp hd
    rw [List.map_cons]
    rcases List.mem_cons.mp h with e | e
    · subst e
      exact valV_pos rfl
    · have hne : ¬ (kvP y).1 = (Sum.inr x.1 : Key) := fun q => h1 (List.mem_map.mpr ⟨x, e, by injection q with q; exact q.symm⟩)
      rw [valV_neg hne]
      exact valV_kv h2 e
theorem eqV_oV (o : Option Str) : eqV (oV o) (oV o) = true := by
  cases o with
  | none => rfl
  | some z => exact decide_eq_true rfl
theorem ali_of_same (lok : LineOk rs) (p : rs'.Perm rs) (h : SameP rs rs') : aliB rs rs' = true := by
  unfold aliB
  rw [Bool.and_eq_true, parR_len, parR_len, p.length_eq]
  refine ⟨beq_self_eq_true _, List.all_eq_true.mpr fun kv hkv => ?_⟩
  obtain ⟨x, hx, rfl⟩ := List.mem_map.mp hkv
  unfold hit2
  rw [show (kvP x).1 = (Sum.inr x.1 : Key) from rfl, valV_kv (by rw [parR_names]; exact (lok.perm p).nd) ((h x).mp hx)]
  exact eqV_oV x.2
theorem min_mem {α : Type} [DecidableEq α] [W.DatumOrd α] : ∀ (xs : List α) (x : α), W.minOf x xs ∈ x :: xs
  | [], x => List.mem_cons_self
  | y :: xs, x => by
    show W.minOf (if W.DatumOrd.lt y x = true then y else x) xs ∈ _
    have := min_mem xs (if W.DatumOrd.lt y x = true then y else x)
    rcases List.mem_cons.mp this with q | q
    · rw [q]
      split
      · exact List.mem_cons_of_mem _ List.mem_cons_self
      · exact List.mem_cons_self
    · exact List.mem_cons_of_mem _ (List.mem_cons_of_mem _ q)
theorem min_le {α : Type} [DecidableEq α] [W.DatumOrd α] (O : Slo (W.DatumOrd.lt : α → α → Bool)) : ∀ (xs : List α) (x y : α), y ∈ x :: xs → W.DatumOrd.lt y (W.minOf x xs) = false
  | [], x, y, h => by
    rw [List.mem_singleton.mp h]
    exact O.irr x
  | z :: xs, x, y, h => by
    show W.DatumOrd.lt y (W.minOf (if W.DatumOrd.lt z x = true then z else x) xs) = false
    have ih := min_le O xs (if W.DatumOrd.lt z x = true then z else x)
    have step : ∀ {a b c : α}, W.DatumOrd.lt b a = false → W.DatumOrd.lt c b = false → W.DatumOrd.lt c a = false := fun {a b c} h1 h2 => by
      cases h3 : W.DatumOrd.lt c a with
      | false => rfl
      | true =>
        cases h4 : W.DatumOrd.lt a b with
        | true => rw [O.tr c a b h3 h4] at h2; cases h2
        | false => rw [O.tot a b h4 h1] at h3; rw [h3] at h2; cases h2
    have h0 := ih _ List.mem_cons_self
    rcases List.mem_cons.mp h with e | e
    · subst e
      refine step h0 ?_
      split
      · rename_i q; exact O.asym q
      · exact O.irr _
    · rcases List.mem_cons.mp e with e | e
      · subst e
        refine step h0 ?_
        split
        · exact O.irr _
        · rename_i q; simpa using q
      · exact ih y (List.mem_cons_of_mem _ e)
theorem min_is {α : Type} [DecidableEq α] [W.DatumOrd α] (O : Slo (W.DatumOrd.lt : α → α → Bool)) {x m : α} {xs : List α} (hm : m ∈ x :: xs) (h : ∀ y ∈ x :: xs, W.DatumOrd.lt y m = false) : W.minOf x xs = m :=
  O.tot _ _ (h _ (min_mem xs x)) (min_le O xs x m hm)
end
end Elk
set_option Elab.async false
set_option linter.all false
set_option maxRecDepth 100000
set_option maxHeartbeats 4000000
namespace Elk
open PySem PySem.Spec PyProof.Rows L2
/-- the signs of a text -/
def signsL (z : Str) : List Str := z.cps.toList.map fun c => ⟨#[c]⟩
theorem signs_len (z : Str) : (signsL z).length = z.cps.size := by unfold signsL; rw [List.length_map, Array.length_toList]
theorem vals_texts : ∀ {xs : List Str} {us : List Value}, us.length = xs.length → (∀ (j : Nat) (v : Value), us[j]? = some v → ∃ z, xs[j]? = some z ∧ ∃ t, v = Value.str z t) → Vals (xs.map V.str) us
  | [], [], _, _ => .nil
  | x :: xs, u :: us, hl, h => by
    obtain ⟨z, hz, t, e⟩ := h 0 u rfl
    cases hz
    subst e
    exact .cons ⟨t, rfl⟩ (vals_texts (by simpa using hl) fun j v hj => h (j + 1) v hj)
def rLstS : List V → Hp → VK → Prop := fun vs H Q => ∃ F, ∃ z : Str, vs = [.str z] ∧ Same F H ∧ z.cps.size ≤ 1000 ∧ Kt F H Q (vL vS (signsL z))
theorem cr_lstS {X : Cx} (hc : X.calm = true) : CallR X (.type "list") rLstS := by
  intro pins s σ H vs us Q I rv ⟨F, z, e, sm, hz, k⟩
  subst e
  obtain ⟨u, eu, ru⟩ := vals1 rv
  subst eu
  obtain ⟨t, et⟩ := ru
  subst et
  refine call_list_str (I.ok.hd hc) z t (fun h' tk acc c kp ho hi => ?_) (by have := small_of (n := z.cps.size) (by omega); omega)
  have hn : H s.heap.objs.size = none := I.hok.fresh (Nat.le_refl _)
  have rl : Vals ((signsL z).map V.str) acc.toList := by
    obtain ⟨h1, h2⟩ := hi
    have hl : acc.toList.length = (signsL z).length := by rw [Array.length_toList, h1, signs_len]
    refine vals_texts hl fun j v hj => ?_
    have h3 := h2 j v (by rw [← Array.getElem?_toList]; exact hj)
    obtain ⟨c, t, hc, ev⟩ := h3
    refine ⟨⟨#[c]⟩, ?_, t, ev⟩
    unfold signsL
    rw [List.getElem?_map, Array.getElem?_toList, hc]; rfl
  have I2 := I.laid (t' := tk) (o := .lst ((signsL z).map V.str)) kp (Nat.le_refl _) (show ObjOk X.prog X.w _ h' s.heap.objs.size (.lst ((signsL z).map V.str)) from ⟨by rw [List.length_map, signs_len]; have := small_of (n := z.cps.size) (by omega); omega, acc.toList, c, rl, by rw [Array.toArray_toList]; exact ho⟩)
  exact ⟨.ref _, _, I2, rfl, k _ _ _ (Grow.put sm hn) ⟨_, _, rfl, upd_same, all2S.mpr rfl⟩⟩
end Elk
set_option Elab.async false
set_option linter.all false
set_option maxRecDepth 100000
set_option maxHeartbeats 4000000
namespace Elk
open PySem PySem.Spec PyProof.Rows L2
/-! ### a comprehension over enumerate(xs) -/
section
variable {α β : Type} {p : VP α} {q : VP β} [Mo p] [Mo q] {f : Nat × α → β} {xs : List α} {vs : List V} {g : TG} {tt : TT} {te : TE} {own : List Nat} {σ : L2.St} {F1 H1 : Hp} {D : Addr} {Qd : Hp → Prop}
def enumL (xs : List α) : List (Nat × α) := (List.range xs.length).zip xs
theorem enum_at {i : Nat} {x : α} (h : xs[i]? = some x) : (enumL xs)[i]? = some (i, x) := by
  unfold enumL
  have hi := (List.getElem?_eq_some_iff.mp h).1
  rw [List.getElem?_zip_eq_some]
  exact ⟨List.getElem?_range hi, h⟩
theorem enum_len : (enumL xs).length = xs.length := by unfold enumL; rw [List.length_zip, List.length_range, Nat.min_self]
theorem lcE {K : W.Frag} {a : Addr} (s : Same F1 H1) (hD : H1 D = none) (ha : H1 a = some (.lst vs)) (l : All2 p xs vs F1) (hz : xs.length ≤ 100000) (S : StepC (vP vN p) q f (fun _ => true) (enumL xs) g tt te own σ F1 H1)
    (hd : ∀ F H, Grow F1 H1 F H → vL q ((enumL xs).map f) (.ref D) F → Qd H) :
    ∃ W : Nat → Nat → Hp → Prop, (∃ m, W 0 m (upd H1 D (.lst []))) ∧ ∀ i m H, W i m H →
      ((Ite K a).stop i H ∧ Qd H) ∨ ((Ite K a).go i H ∧ ∃ Nx : Hp → Prop, (∀ H', Nx H' → ∃ m', m' < m ∧ W (i + 1) m' H') ∧ ∀ x H', (Ite K a).yld i H x H' → g x (wipe σ own) H' fun σ2 H2 => wipe σ2 own = wipe σ own ∧ tt σ2 H2 fun b H3 =>
        if b = true then te σ2 H3 fun y H4 => ∃ acc, H4 D = some (.lst acc) ∧ acc.length < sizeLine ∧ Nx (upd H4 D (.lst (acc ++ [y]))) else Nx H3) := by
  refine lc_it (walk_enum (xs := vs)) (AccC q f (fun _ => true) (enumL xs) F1 H1 D) (acc_start s hD) (fun i H _ A => SqL.of (A.choose_spec.1.h _ _ ha)) (fun i x H H' hi A y => ?_) fun H A => acc_end hD (by rw [enum_len, l.len]; exact Nat.le_refl _) A fun F H g h => hd F H g (by rw [filter_tt] at h; exact h)
  obtain ⟨T, x1, x2, rfl, hT, rfl, e1, e2⟩ := y
  cases e1
  obtain ⟨z, hz0, pz⟩ := l.at e2
  obtain ⟨F, gr, fD, ys, hy, la⟩ := A
  have nDT : D ≠ T := ne_of_none hy hT
  have g2 := gr.trans (Grow.put (o := .tup [.int (i : Nat), x2]) gr.i hT)
  have s2 : Same F (upd F T (.tup [.int (i : Nat), x2])) := same_upd (gr.i.free hT)
  have ei := enum_at hz0
  have et : (enumL xs).take (i + 1) = (enumL xs).take i ++ [(i, z)] := by rw [List.take_succ, ei]; rfl
  have hl := l.len
  refine S (i, z) (.ref T) _ _ (List.mem_of_getElem? ei) g2 ⟨T, _, _, rfl, upd_same, rfl, Mo.mo (gr.f.trans s2) pz⟩ _ _ (fun F3 H3 g3 ht => by cases ht) (fun w F4 H4 g4 _ qw => ?_)
  have hlen : ys.length ≤ xs.length := by
    rw [← la.len, List.length_map]
    refine Nat.le_trans (List.length_filter_le _ _) (Nat.le_trans (List.length_take_le' i _) ?_)
    rw [enum_len]
    exact Nat.le_refl _
  have hD2 : (upd H T (.tup [.int (i : Nat), x2])) D = some (.lst ys) := by rw [upd_ne nDT]; exact hy
  have fD2 : (upd F T (.tup [.int (i : Nat), x2])) D = none := by rw [upd_ne nDT]; exact fD
  refine ⟨ys, g4.h _ _ hD2, small_of (by omega), F4, (g2.trans g4).set hD (g4.out hD2 fD2), g4.out hD2 fD2, _, upd_same, ?_⟩
  rw [et, List.filter_append, List.map_append, List.filter_cons_of_pos rfl]
  exact (la.mo (s2.trans g4.f)).snoc qw
end
/-! ### the six -/
def abcdefS : Str := "abcdef"
def abcdeS : Str := "abcde"
def fits6 : List Str := ["a", "ab", "bc", "cd", "de", "e"]
def nm6 (i : Nat) : Str := "x" ++ ⟨#[abcdefS.cps.toList.getD i 0]⟩
def rows6 : List Row := (enumL fits6).map fun x => mkRow (nm6 x.1) (signsL x.2) 1
def rowsT : List Row := abcdeS.cps.toList.map fun c => mkRow ("l" ++ ⟨#[c]⟩) [⟨#[c]⟩] 1
def rowM : Row := mkRow "m" (signsL abcdeS) 2
structure SixR : Prop where
  lok6 : LineOk rows6
  lokS : LineOk (rowM :: rowsT)
  lokT : LineOk rowsT
  cnt6 : cw (lkR rows6) (List.range 6) = 132
  len6 : (unlN rows6).length = 132
  dif6 : ∀ i, 1 ≤ i → i < 132 → (unlN rows6).getD i [] ≠ (unlN rows6).getD (i - 1) []
  cntS : cw (lkR (rowM :: rowsT)) (List.range 6) = 326
  cntT : cw (lkR rowsT) (List.range 5) = 1
def sp_law_six_right : Sp := Pm (ι := Unit) (fun _ vs _ => vs = [] ∧ SixR) (fun _ v _ => v = .bl true)
theorem fit6_ok : ∀ x ∈ enumL fits6, NameOk (nm6 x.1) ∧ FitsOk (signsL x.2) ∧ x.2.cps.size ≤ 1000 := by
  have h : ((enumL fits6).all fun x => nameB (nm6 x.1) && ((signsL x.2).all nameB && (decide (signsL x.2).Nodup && (!(signsL x.2).isEmpty && (decide ((signsL x.2).length ≤ 1000) && decide (x.2.cps.size ≤ 1000)))))) = true := by decide +kernel
  intro x hx
  have h1 := List.all_eq_true.mp h x hx
  simp only [Bool.and_eq_true, decide_eq_true_eq] at h1
  obtain ⟨a, b, c, d, e, f⟩ := h1
  exact ⟨nameB_ok a, ⟨fun z hz => nameB_ok (List.all_eq_true.mp b z hz), c, fun q => (by rw [q] at d; cases d), e⟩, f⟩
theorem abcde_ok : FitsOk (signsL abcdeS) ∧ ∀ c ∈ abcdeS.cps.toList, NameOk ("l" ++ ⟨#[c]⟩) ∧ FitsOk [⟨#[c]⟩] := by
  have h : ((signsL abcdeS).all nameB && (decide (signsL abcdeS).Nodup && (!(signsL abcdeS).isEmpty && decide ((signsL abcdeS).length ≤ 1000)))) = true := by decide +kernel
  have h2 : (abcdeS.cps.toList.all fun c => nameB ("l" ++ ⟨#[c]⟩) && nameB ⟨#[c]⟩) = true := by decide +kernel
  simp only [Bool.and_eq_true, decide_eq_true_eq] at h
  obtain ⟨b, c, d, e⟩ := h
  refine ⟨⟨fun z hz => nameB_ok (List.all_eq_true.mp b z hz), c, fun q => (by rw [q] at d; cases d), e⟩, fun c hc => ?_⟩
  have h3 := List.all_eq_true.mp h2 c hc
  rw [Bool.and_eq_true] at h3
  exact ⟨nameB_ok h3.1, ⟨fun z hz => List.mem_singleton.mp hz ▸ nameB_ok h3.2, List.pairwise_singleton _ _, List.cons_ne_nil _ _, by show 1 ≤ 1000; decide⟩⟩
section
variable {P : Program} {w : World} {K : W.Frag} {mg : Str → Option Value} {base : Heap}
abbrev N_law_six_right : List Str := ["_law_fits", "_law_row", "_law_told", "_law_star", "_law_line", "_law_at", "_law_kind", "_law_some"]
theorem sc_law_six_right : FnScope N_law_six_right [] (defScope s_law_six_right) := ⟨rfl, rfl, rfl, by decide +kernel, rfl, by decide +kernel, by decide +kernel⟩
theorem ok_law_six_right (T : Tp K mg) : Ok P w K mg base 11 (He.ga K "_law_six_right") [] sp_law_six_right := by
  obtain ⟨fd_unlike_lines, G_unlike_lines, b_unlike_lines, k_unlike_lines⟩ := ok_unlike_lines (P := P) (w := w) (base := base) T
  obtain ⟨fd_count_unlike, G_count_unlike, b_count_unlike, k_count_unlike⟩ := ok_count_unlike (P := P) (w := w) (base := base) T
  obtain ⟨fdL_names, GL_names, bL_names, kL_names⟩ := ok_Line_names (P := P) (w := w) (base := base) T
  obtain ⟨fd_Asker, G_Asker, b_Asker, k_Asker⟩ := ok_Asker_init (P := P) (w := w) (base := base) T
  obtain ⟨fd_Line, G_Line, b_Line, k_Line⟩ := ok_Line_init (P := P) (w := w) (base := base) T
  refine mk_ok (F_law_six_right T) sc_law_six_right ?_ (fun _ _ _ _ _ _ us hl => match us, hl with | [], _ => rfl) (fun cdv A outer s H vs Q E hr h => ?_)
  · rintro vs H Q E ⟨i, F, _, ⟨rfl, _⟩, _⟩
    rfl
  obtain ⟨_, F, sm, ⟨rfl, R⟩, k⟩ := h
  refine ⟨_, (pss_cons (ps_set (i := 0) sc_law_six_right.nd rfl (by first | exact Or.inl rfl | exact Or.inr rfl) (pe_lst (pa_cons pe_str (pa_cons pe_str (pa_cons pe_str (pa_cons pe_str (pa_cons pe_str (pa_cons pe_str pa_nil))))))))
    (pss_cons (ps_set (i := 1) sc_law_six_right.nd rfl (by first | exact Or.inl rfl | exact Or.inr rfl) (pe_make (mkr_Line T) G_Line (hr.mono (by decide)) rfl (g_Line T) b_Line .nil pass0 (pa_cons (pe_lc (own := [("_law_at", 5), ("_law_some", 7)]) (g := gTup K 2 (gCons (gName 5) (gCons (gName 7) gNil))) rfl sc_law_six_right.nd (pi_enum (by rfl) (n_enumerate T) (pa_cons (pv 0) pa_nil)) (blkOk_by (N := N_law_six_right) (sc := defScope s_law_six_right) (by decide +kernel)) (fun _ _ _ _ _ => (pg_tup (by rfl) (pgs_cons (pg_name (i := 5) sc_law_six_right.nd rfl (by first | exact Or.inl rfl | exact Or.inr rfl)) (pgs_cons (pg_name (i := 7) sc_law_six_right.nd rfl (by first | exact Or.inl rfl | exact Or.inr rfl)) pgs_nil)))) (fun _ _ _ _ _ => pts_nil) (fun _ _ _ _ _ => (pe_make (mkr_Asker T) G_Asker (hr.mono (by decide)) rfl (g_Asker T) b_Asker .nil pass0 (pa_cons (pe_op op_add_str pe_str (pe_ix ix_str pe_str (pv 5) (fun _ _ => rfl))) (pa_cons (pe_callTy (cr_lstS rfl) (by rfl) (n_list T) (by decide +kernel) (pa_cons (pv 7) pa_nil)) (pa_cons pe_int pa_nil)))))) pa_nil)))
    (pss_cons (ps_set (i := 2) sc_law_six_right.nd rfl (by first | exact Or.inl rfl | exact Or.inr rfl) (pe_lc (own := [("_law_line", 4)]) (g := gName 4) rfl sc_law_six_right.nd (pi_list (pe_call G_unlike_lines (hr.mono (by decide)) rfl (g_unlike_lines T) k_unlike_lines b_unlike_lines .nil pass0 (pa_cons (pv 1) pa_nil))) (blkOk_by (N := N_law_six_right) (sc := defScope s_law_six_right) (by decide +kernel)) (fun _ _ _ _ _ => (pg_name (i := 4) sc_law_six_right.nd rfl (by first | exact Or.inl rfl | exact Or.inr rfl))) (fun _ _ _ _ _ => pts_nil) (fun _ _ _ _ _ => (pe_meth0 (pv 4) (cls_Line T) (m_Line_names T) GL_names (hr.mono (by decide)) bL_names .nil pass0))))
    (pss_cons (ps_if (PW.pt (pw_or (pt_cmpR (opF_ne vI hr.units) (pe_call G_count_unlike (hr.mono (by decide)) rfl (g_count_unlike T) k_count_unlike b_count_unlike .nil pass0 (pa_cons (pv 1) pa_nil)) pe_int (nomark _)) (pw_or (pt_cmpR (opF_ne vI hr.units) (pe_callB (call_lenL (vL vS)) (by rfl) (n_len T) (by decide +kernel) (pa_cons (pv 2) pa_nil)) pe_int (nomark _)) (pw_or1 (pt_cmpR (opF_ne (vL (vL vS)) hr.units) (pv 2) (pe_callB (cr_sortF (vL vS) hr.units (slo_list slo_str) sortK_list) (by rfl) (n_sorted T) (by decide +kernel) (pa_cons (pv 2) pa_nil)) (nomark _))))))
      (pss_one (ps_ret pe_bl))
      pss_nil)
    (pss_cons (ps_if (pt_ne0 vN hr.units (pe_lc (own := [("_law_at", 5)]) (g := gName 5) rfl sc_law_six_right.nd (pi_range2 rfl (n_range T) (pa_cons pe_int (pa_cons pe_int pa_nil))) (blkOk_by (N := N_law_six_right) (sc := defScope s_law_six_right) (by decide +kernel)) (fun _ _ _ _ _ => (pg_name (i := 5) sc_law_six_right.nd rfl (by first | exact Or.inl rfl | exact Or.inr rfl))) (fun _ _ _ _ _ => (pts_one (pt_cmpR (opF_eq (vL vS) hr.units) (pe_ix (ixL (vL vS)) (pv 2) (pv 5) (fun _ _ => rfl)) (pe_ix (ixL (vL vS)) (pv 2) (pe_op op_sub (pv 5) pe_int) (fun _ _ => rfl)) (nomark _)))) (fun _ _ _ _ _ => (pv 5))))
      (pss_one (ps_ret pe_bl))
      pss_nil)
    (pss_cons (ps_set (i := 3) sc_law_six_right.nd rfl (by first | exact Or.inl rfl | exact Or.inr rfl) (pe_op (op_catF (vA K)) (pe_lst (pa_cons (pe_make (mkr_Asker T) G_Asker (hr.mono (by decide)) rfl (g_Asker T) b_Asker .nil pass0 (pa_cons pe_str (pa_cons (pe_callTy (cr_lstS rfl) (by rfl) (n_list T) (by decide +kernel) (pa_cons pe_str pa_nil)) (pa_cons pe_int pa_nil)))) pa_nil)) (pe_lc (own := [("_law_kind", 6)]) (g := gName 6) rfl sc_law_six_right.nd (pi_str pe_str) (blkOk_by (N := N_law_six_right) (sc := defScope s_law_six_right) (by decide +kernel)) (fun _ _ _ _ _ => (pg_name (i := 6) sc_law_six_right.nd rfl (by first | exact Or.inl rfl | exact Or.inr rfl))) (fun _ _ _ _ _ => pts_nil) (fun _ _ _ _ _ => (pe_make (mkr_Asker T) G_Asker (hr.mono (by decide)) rfl (g_Asker T) b_Asker .nil pass0 (pa_cons (pe_op op_add_str pe_str (pv 6)) (pa_cons (pe_lst (pa_cons (pv 6) pa_nil)) (pa_cons pe_int pa_nil))))))))
    (pss_one (ps_ret (pe_and (pe_cmpR (opF_eq vI hr.units) (pe_call G_count_unlike (hr.mono (by decide)) rfl (g_count_unlike T) k_count_unlike b_count_unlike .nil pass0 (pa_cons (pe_make (mkr_Line T) G_Line (hr.mono (by decide)) rfl (g_Line T) b_Line .nil pass0 (pa_cons (pv 3) pa_nil)) pa_nil)) pe_int (nomark _)) (pe_one (pe_cmpR (opF_eq vI hr.units) (pe_call G_count_unlike (hr.mono (by decide)) rfl (g_count_unlike T) k_count_unlike b_count_unlike .nil pass0 (pa_cons (pe_make (mkr_Line T) G_Line (hr.mono (by decide)) rfl (g_Line T) b_Line .nil pass0 (pa_cons (pe_slice (sl_F (vA K)) (pv 3) (po_some pe_int) po_none) pa_nil)) pa_nil)) pe_int (nomark _)))))))))))), ?_⟩
  have lok6 := R.lok6
  have l6 : rows6.length = 6 := by decide +kernel
  -- fits = [..]
  refine ⟨by show 6 ≤ sizeLine; decide, fun la hla => ?_⟩
  have g1 := Grow.put (o := .lst (fits6.map V.str)) sm hla
  have v1 : vL vS fits6 (.ref la) (upd F la (.lst (fits6.map V.str))) := ⟨la, _, rfl, upd_same, all2S.mpr rfl⟩
  -- row = Line([Asker(..) for at, some in enumerate(fits)])
  refine ⟨_, rfl, la, fits6.map V.str, rfl, SqL.of upd_same, fun D hD => ?_⟩
  refine lcE (p := vS) (q := vA K) (xs := fits6) (f := fun x => mkRow (nm6 x.1) (signsL x.2) 1) g1.i hD upd_same (all2S.mpr rfl) (by decide) ?_ ?_
  · intro x v F' H' hx g hv N Y hN hY
    obtain ⟨o1, o2, o3⟩ := fit6_ok x hx
    obtain ⟨t, a1, a2, rfl, ht, p1, p2⟩ := hv
    have e1 : a1 = .int (x.1 : Int) := p1
    have e2 : a2 = .str x.2 := p2
    subst e1 e2
    have hx6 : x.1 < 6 := by
      have := List.of_mem_zip (show (x.1, x.2) ∈ (List.range fits6.length).zip fits6 from hx)
      exact List.mem_range.mp this.1
    have hc : abcdefS.cps.toList[x.1]? = some (abcdefS.cps.toList.getD x.1 0) := some_getD (show x.1 < abcdefS.cps.toList.length from hx6)
    refine ⟨t, _, rfl, SqT.of (g.i _ _ ht), rfl, _, _, rfl, _, _, rfl, rfl, rfl, ?_⟩
    refine ⟨_, rfl, abcdefS, _, abcdefS.cps.toList.getD x.1 0, rfl, rfl, by show 6 ≤ sizeLine; decide, atI_nat hc, ?_⟩
    refine ⟨_, _, rfl, rfl, by show 1 + 1 ≤ sizeLine; decide, ?_⟩
    refine ⟨_, rfl, F', x.2, rfl, g.i, o3, fun c F2 H2 g2 hc2 => ?_⟩
    refine fun y dy hy hdy hne => ⟨y, dy, F2, nm6 x.1, signsL x.2, c, 1, rfl, upd_same, same_made g2.i hy hdy, g2.i.free hy, hc2, o1, o2, by decide, fun F7 H7 g7 h7 => ⟨rfl, hY _ _ _ (g2.trans (GrowX.made hy hdy g7)) rfl h7⟩⟩
  intro F2 H2 g2 hl2
  have hl2 : vL (vA K) rows6 (.ref D) F2 := hl2
  have g2 := g1.trans g2
  refine fun x dx hx hd hne => ⟨x, dx, F2, rows6, _, rfl, upd_same, same_made g2.i hx hd, g2.i.free hx, hl2, lok6, fun F3 H3 g3 h3 => ⟨rfl, ?_⟩⟩
  have g3 := g2.trans (GrowX.made hx hd g3)
  -- told = [line.names() for line in unlike_lines(row)]
  refine ⟨_, rfl, rows6, F3, _, rfl, g3.i, h3, lok6, by rw [l6]; decide, fun ta tvs F4 H4 g4 nta fta hta lt => ?_⟩
  have h3 := Mo.mo g4.f h3
  have g4 := g3.trans g4
  have h6 : rows6.length ≤ 6 := by rw [l6]; decide
  have upm : ∀ row ∈ unlR rows6, row.Perm rows6 := fun row hrow => by
    obtain ⟨ns, q1, q2⟩ := List.mem_map.mp hrow
    subst q2
    exact (by_names lok6.nd (unlN_perm lok6.nd h6 q1)).2
  have unm : (unlR rows6).map namesR = unlN rows6 := by
    unfold unlR
    rw [List.map_map]
    conv => rhs; rw [← List.map_id (unlN rows6)]
    exact List.map_congr_left fun ns hns => (by_names lok6.nd (unlN_perm lok6.nd h6 hns)).1
  have ul : (unlR rows6).length = 132 := by
    unfold unlR
    rw [List.length_map]; exact R.len6
  refine ⟨ta, rfl, ⟨_, SqL.of hta⟩, fun D2 hD2 => ?_⟩
  refine lcL (p := vLine K) (q := vL vS) (f := namesR) (t := fun _ => true) g4.i hD2 hta lt (by rw [ul]; decide) ?_ ?_
  · intro y yv F' H' hy g hyv N Y hN hY
    have hyl := (lok6.perm (upm y hy)).len
    exact ⟨rfl, _, rfl, hyv.at_ g.i rfl rfl ⟨y, F', g.i, ⟨_, rfl, hyv, hyl⟩, fun z F2 H2 g2 hz => hY _ _ _ g2 rfl hz⟩⟩
  intro F5 H5 g5 hl5
  rw [filter_tt, unm] at hl5
  have h3 := Mo.mo g5.f h3
  have g5 := g4.trans g5
  -- count_unlike(row) != 132 or len(told) != 132 or told != sorted(told)
  refine ⟨_, rfl, rows6, F5, g5.i, ⟨_, rfl, h3, lok6, h6⟩, fun cv F6 H6 g6 hcv => ?_⟩
  have ecv : cv = .int 132 := by
    have : cv = .int (cw (lkR rows6) (List.range rows6.length) : Int) := hcv
    rw [this, l6, R.cnt6]; rfl
  subst ecv
  have h3 := Mo.mo g6.f h3
  have hl5 := Mo.mo g6.f hl5
  have g6 := g5.trans g6
  refine ⟨F6, _, _, g6.i, rfl, rfl, _, rfl, no_t (by decide) ?_⟩
  refine ⟨_, rfl, F6, _, _, rfl, hl5.m g6.i, F6, _, _, g6.i, rfl, rfl, _, rfl, no_t (by rw [R.len6]; decide) ?_⟩
  refine ⟨_, rfl, _, rfl, F6, _, _, rfl, g6.i, hl5.m g6.i, fun q ys hq hys => ?_⟩
  have g7 := g6.trans (Grow.put (o := .lst ys) g6.i hq)
  have s7 : Same F6 (upd F6 q (.lst ys)) := same_upd (g6.i.free hq)
  have esort : isort W.DatumOrd.lt (unlN rows6) = unlN rows6 := (isort_of (slo_list slo_str) (.refl _) (isort_srtd (slo_list slo_str) _)).symm
  rw [esort] at hys
  have h3 := Mo.mo s7 h3
  have hl5 := Mo.mo s7 hl5
  refine ⟨_, _, _, g7.i, hl5, ⟨q, ys, rfl, upd_same, hys.mo s7⟩, _, rfl, no_t (decide_eq_false fun h => h rfl) ?_⟩
  -- [at for at in range(1, 132) if told[at] == told[at - 1]] != []
  generalize hF7 : upd F6 q (.lst ys) = F7 at *
  generalize hH7 : upd H6 q (.lst ys) = H7 at *
  refine ⟨1, 132, rfl, ⟨by decide, by decide, by decide, by decide⟩, fun D3 hD3 => ?_⟩
  refine lcAB (a := 1) (b := 132) (q := vN) (f := id) (t := fun _ => false) g7.i hD3 (by decide) ?_ ?_
  · intro x y F' H' hxm g hxy N Y hN hY
    have ey : y = .int (x : Int) := hxy
    subst ey
    rw [List.mem_range'_1] at hxm
    have hl' := Mo.mo g.f hl5
    refine ⟨rfl, _, rfl, _, rfl, F', _, x, _, hl'.m g.i, rfl, some_getD (d := []) (by rw [R.len6]; omega), fun z1 hz1 => ⟨_, rfl, _, rfl, _, _, rfl, rfl, F', _, x - 1, _, hl'.m g.i, ?_, some_getD (d := []) (by rw [R.len6]; omega), fun z2 hz2 => ?_⟩⟩
    · show V.int ((x : Int) - 1) = _
      congr 1
      omega
    · refine ⟨F', _, _, g.i, hz1, hz2, _, rfl, no_t (decide_eq_false (R.dif6 x (by omega) (by omega))) (hN _ _ (Grow.refl g.i) rfl)⟩
  intro F8 H8 g8 hl8
  rw [filter_ff] at hl8
  have g8 := g7.trans g8
  refine ⟨F8, [], g8.i, hl8.m g8.i, fun F9 H9 g9 => no_t rfl ?_⟩
  have g9 := g8.trans g9
  -- star = [Asker("m", list("abcde"), 2)] + [Asker("l" + kind, [kind], 1) for kind in "abcde"]
  obtain ⟨ao, aw⟩ := abcde_ok
  refine ⟨F9, abcdeS, rfl, g9.i, by show 5 ≤ 1000; decide, fun c F10 H10 g10 hc => ?_⟩
  have g10 := g9.trans g10
  refine fun y dy hy hdy hne => ⟨y, dy, F10, _, signsL abcdeS, c, 2, rfl, upd_same, same_made g10.i hy hdy, g10.i.free hy, hc, nameB_ok (by decide +kernel), ao, by decide, fun F11 H11 g11 hM => ⟨rfl, ?_⟩⟩
  have g11 := g10.trans (GrowX.made hy hdy g11)
  have hM : vA K rowM (.ref y) F11 := hM
  refine ⟨by show 1 ≤ sizeLine; decide, fun l0 hl0 => ?_⟩
  have g12 := g11.trans (Grow.put (o := .lst [.ref y]) g11.i hl0)
  have s12 : Same F11 (upd F11 l0 (.lst [.ref y])) := same_upd (g11.i.free hl0)
  have v12 : vL (vA K) [rowM] (.ref l0) (upd F11 l0 (.lst [.ref y])) := ⟨l0, _, rfl, upd_same, .cons (Mo.mo s12 hM) .nil⟩
  refine ⟨abcdeS, rfl, fun D4 hD4 => ?_⟩
  refine lcS (q := vA K) (f := fun c => mkRow ("l" ++ ⟨#[c]⟩) [⟨#[c]⟩] 1) (t := fun _ => true) g12.i hD4 (by show 5 ≤ 100000; decide) ?_ ?_
  · intro c v F' H' hc g hv N Y hN hY
    obtain ⟨o1, o2⟩ := aw c hc
    have ev : v = .str ⟨#[c]⟩ := hv
    subst ev
    refine ⟨rfl, _, rfl, _, _, rfl, rfl, by show 1 + 1 ≤ sizeLine; decide, _, rfl, by show 1 ≤ sizeLine; decide, fun l1 hl1 => ?_⟩
    have g' := Grow.put (o := .lst [.str ⟨#[c]⟩]) g.i hl1
    refine fun y2 dy2 hy2 hdy2 hne2 => ⟨y2, dy2, _, _, [⟨#[c]⟩], .ref l1, 1, rfl, upd_same, same_made g'.i hy2 hdy2, g'.i.free hy2, ⟨l1, _, rfl, upd_same, .cons rfl .nil⟩, o1, o2, by decide, fun F7 H7 g7 h7 => ⟨rfl, hY _ _ _ (g'.trans (GrowX.made hy2 hdy2 g7)) rfl h7⟩⟩
  intro F13 H13 g13 hl13
  rw [filter_tt] at hl13
  have hl13 : vL (vA K) rowsT (.ref D4) F13 := hl13
  have v12 := Mo.mo g13.f v12
  have g13 := g12.trans g13
  have lT : rowsT.length = 5 := by decide +kernel
  refine ⟨F13, [rowM], rowsT, g13.i, v12.m g13.i, hl13.m g13.i, by rw [lT]; decide, fun sv F14 H14 g14 hsv => ?_⟩
  have hsv : vL (vA K) (rowM :: rowsT) sv F14 := hsv
  have g14 := g13.trans g14
  -- count_unlike(Line(star)) == 326 and count_unlike(Line(star[1:])) == 1
  refine ⟨_, rfl, fun x2 dx2 hx2 hd2 hne2 => ⟨x2, dx2, F14, rowM :: rowsT, sv, rfl, upd_same, same_made g14.i hx2 hd2, g14.i.free hx2, hsv, R.lokS, fun F15 H15 g15 h15 => ⟨rfl, ?_⟩⟩⟩
  have g15 := GrowX.made hx2 hd2 g15
  have hsv := Mo.mo g15.f hsv
  have g15 := g14.trans g15
  refine ⟨rowM :: rowsT, F15, g15.i, ⟨_, rfl, h15, R.lokS, by rw [List.length_cons, lT]; decide⟩, fun cv F16 H16 g16 hcv => ?_⟩
  have ecv : cv = .int 326 := by
    have : cv = .int (cw (lkR (rowM :: rowsT)) (List.range (rowM :: rowsT).length) : Int) := hcv
    rw [this, List.length_cons, lT, R.cntS]; rfl
  subst ecv
  have hsv := Mo.mo g16.f hsv
  have g16 := g15.trans g16
  refine ⟨F16, _, _, g16.i, rfl, rfl, _, rfl, yes_t (by decide) ?_⟩
  refine ⟨_, rfl, _, rfl, F16, _, g16.i, hsv.m g16.i, fun tv F17 H17 g17 htv => ?_⟩
  have e1 : (some (1 : Int)) = some ((1 : Nat) : Int) := rfl
  have htv : vL (vA K) (cutA (rowM :: rowsT) (some ((1 : Nat) : Int)) none) tv F17 := htv
  rw [cutA_n_] at htv
  have htv : vL (vA K) rowsT tv F17 := htv
  have g17 := g16.trans g17
  refine fun x3 dx3 hx3 hd3 hne3 => ⟨x3, dx3, F17, rowsT, tv, rfl, upd_same, same_made g17.i hx3 hd3, g17.i.free hx3, htv, R.lokT, fun F18 H18 g18 h18 => ⟨rfl, ?_⟩⟩
  have g18 := g17.trans (GrowX.made hx3 hd3 g18)
  refine ⟨rowsT, F18, g18.i, ⟨_, rfl, h18, R.lokT, by rw [lT]; decide⟩, fun cv F19 H19 g19 hcv => ?_⟩
  have ecv : cv = .int 1 := by
    have : cv = .int (cw (lkR rowsT) (List.range rowsT.length) : Int) := hcv
    rw [this, lT, R.cntT]; rfl
  subst ecv
  have g19 := g18.trans g19
  refine ⟨F19, _, _, g19.i, rfl, rfl, k _ _ _ g19 ?_⟩
  show V.bl _ = V.bl true
  rw [decide_eq_true rfl]
end
end Elk
set_option Elab.async false
set_option linter.all false
set_option maxRecDepth 100000
set_option maxHeartbeats 4000000
namespace Elk
open PySem PySem.Spec PyProof.Rows L2
/-! ### the forty -/
def a26S : Str := "abcdefghijklmnopqrstuvwxyz"
def a14S : Str := "abcdefghijklmn"
def names40 : List Str := (a26S.cps.toList.map fun c => ("a" : Str) ++ ⟨#[c]⟩) ++ a14S.cps.toList.map fun c => ("b" : Str) ++ ⟨#[c]⟩
def loose : List Row := names40.map fun z => mkRow z [("k" : Str) ++ z] 1
def rowO : List Row := names40.reverse.map fun z => mkRow z ["o"] 1
def rowC : Row := mkRow "c" ["q"] 1
def lone : List Row := rowC :: rowO.take 39
structure FortyR : Prop where
  lokL : LineOk loose
  lokO : LineOk rowO
  lokC : LineOk lone
  nmL : namesR loose = names40
  nmO : namesR rowO = names40.reverse
  len : names40.length = 40
  fitL : ∀ z ∈ names40, NameOk z ∧ NameOk (("k" : Str) ++ z)
  cntL : cntA loose = factN 40
  posL : posA loose 3 = (0, 39)
  nrmL : normR loose.reverse = loose
  cntO : cntA rowO = 1
  nrmO : normR rowO = rowO
  posO : posA rowO 36 = (36, 36)
  aliL : aliB loose (putI (cutO loose 0) (loose.getD 0 noRow) 39) = true
  excL : exL 1000 (nowL loose (putI (cutO loose 0) (loose.getD 0 noRow) 39)) = some (List.range 39)
  aliO : aliB rowO rowO.reverse = false
  lk1 : ∀ a, a < 40 → lkR lone 0 a = true → a = 0
  lk2 : lkR lone 1 39 = true
  grp : ((grpsR lone).getD 39 []).length = 39
  ad3 : (loose.getD 3 noRow).a = "ad"
  aa0 : (loose.getD 0 noRow).a = "aa"
  ad36 : (rowO.getD 36 noRow).a = "ad"
  ab39 : (lone.getD 39 noRow).a = "ab"
  bn1 : (lone.getD 1 noRow).a = "bn"
def sp_law_forty_right : Sp := Pm (ι := Unit) (fun _ vs _ => vs = [] ∧ FortyR) (fun _ v _ => v = .bl true)
theorem cut_put_perm {rs : List Row} {j : Nat} (h : 0 < rs.length) : (putI (cutO rs 0) (rs.getD 0 noRow) j).Perm rs := by
  have e : rs = rs.getD 0 noRow :: rs.drop 1 := by
    cases rs with
    | nil => cases h
    | cons r rs => rfl
  have p1 : (putI (cutO rs 0) (rs.getD 0 noRow) j).Perm (rs.getD 0 noRow :: ((cutO rs 0).take j ++ (cutO rs 0).drop j)) := by
    unfold putI
    rw [List.append_assoc]
    exact List.perm_middle
  rw [List.take_append_drop] at p1
  have e2 : cutO rs 0 = rs.drop 1 := by unfold cutO; rw [List.take_zero, List.nil_append]
  rw [e2] at p1
  refine p1.trans ?_
  conv => rhs; rw [e]
section
variable {P : Program} {w : World} {K : W.Frag} {mg : Str → Option Value} {base : Heap}
abbrev N_law_forty_right : List Str := ["_law_names_here", "_law_at", "_law_row", "_law_lone", "_law_loose", "_law_number", "_law_sign", "_law_name"]
theorem sc_law_forty_right : FnScope N_law_forty_right [] (defScope s_law_forty_right) := ⟨rfl, rfl, rfl, by decide +kernel, rfl, by decide +kernel, by decide +kernel⟩
theorem ok_law_forty_right (T : Tp K mg) : Ok P w K mg base 7 (He.ga K "_law_forty_right") [] sp_law_forty_right := by
  obtain ⟨fd_count_alike, G_count_alike, b_count_alike, k_count_alike⟩ := ok_count_alike (P := P) (w := w) (base := base) T
  obtain ⟨fd_positions, G_positions, b_positions, k_positions⟩ := ok_positions (P := P) (w := w) (base := base) T
  obtain ⟨fd_normal, G_normal, b_normal, k_normal⟩ := ok_normal (P := P) (w := w) (base := base) T
  obtain ⟨fd_exchanges, G_exchanges, b_exchanges, k_exchanges⟩ := ok_exchanges (P := P) (w := w) (base := base) T
  obtain ⟨fd_chain, G_chain, b_chain, k_chain⟩ := ok_chain (P := P) (w := w) (base := base) T
  obtain ⟨fd_group, G_group, b_group, k_group⟩ := ok_group (P := P) (w := w) (base := base) T
  obtain ⟨fdL_ordered, GL_ordered, bL_ordered, kL_ordered⟩ := ok_Line_ordered (P := P) (w := w) (base := base) T
  obtain ⟨fdL_moved, GL_moved, bL_moved, kL_moved⟩ := ok_Line_moved (P := P) (w := w) (base := base) T
  obtain ⟨fdL_askers, GL_askers, bL_askers, kL_askers⟩ := ok_Line_askers (P := P) (w := w) (base := base) T
  obtain ⟨fd_Asker, G_Asker, b_Asker, k_Asker⟩ := ok_Asker_init (P := P) (w := w) (base := base) T
  obtain ⟨fd_Line, G_Line, b_Line, k_Line⟩ := ok_Line_init (P := P) (w := w) (base := base) T
  refine mk_ok (F_law_forty_right T) sc_law_forty_right ?_ (fun _ _ _ _ _ _ us hl => match us, hl with | [], _ => rfl) (fun cdv A outer s H vs Q E hr h => ?_)
  · rintro vs H Q E ⟨i, F, _, ⟨rfl, _⟩, _⟩
    rfl
  obtain ⟨_, F, sm, ⟨rfl, R⟩, k⟩ := h
  refine ⟨_, (pss_cons (ps_set (i := 0) sc_law_forty_right.nd rfl (by first | exact Or.inl rfl | exact Or.inr rfl) (pe_op (op_catF vS) (pe_lc (own := [("_law_sign", 6)]) (g := gName 6) rfl sc_law_forty_right.nd (pi_str pe_str) (blkOk_by (N := N_law_forty_right) (sc := defScope s_law_forty_right) (by decide +kernel)) (fun _ _ _ _ _ => (pg_name (i := 6) sc_law_forty_right.nd rfl (by first | exact Or.inl rfl | exact Or.inr rfl))) (fun _ _ _ _ _ => pts_nil) (fun _ _ _ _ _ => (pe_op op_add_str pe_str (pv 6)))) (pe_lc (own := [("_law_sign", 6)]) (g := gName 6) rfl sc_law_forty_right.nd (pi_str pe_str) (blkOk_by (N := N_law_forty_right) (sc := defScope s_law_forty_right) (by decide +kernel)) (fun _ _ _ _ _ => (pg_name (i := 6) sc_law_forty_right.nd rfl (by first | exact Or.inl rfl | exact Or.inr rfl))) (fun _ _ _ _ _ => pts_nil) (fun _ _ _ _ _ => (pe_op op_add_str pe_str (pv 6))))))
    (pss_cons (ps_par (i := 4) (j := 5) (by rfl) sc_law_forty_right.nd rfl rfl (by decide) rfl rfl (pa_cons (pe_make (mkr_Line T) G_Line (hr.mono (by decide)) rfl (g_Line T) b_Line .nil pass0 (pa_cons (pe_lc (own := [("_law_name", 7)]) (g := gName 7) rfl sc_law_forty_right.nd (pi_list (pv 0)) (blkOk_by (N := N_law_forty_right) (sc := defScope s_law_forty_right) (by decide +kernel)) (fun _ _ _ _ _ => (pg_name (i := 7) sc_law_forty_right.nd rfl (by first | exact Or.inl rfl | exact Or.inr rfl))) (fun _ _ _ _ _ => pts_nil) (fun _ _ _ _ _ => (pe_make (mkr_Asker T) G_Asker (hr.mono (by decide)) rfl (g_Asker T) b_Asker .nil pass0 (pa_cons (pv 7) (pa_cons (pe_lst (pa_cons (pe_op op_add_str pe_str (pv 7)) pa_nil)) (pa_cons pe_int pa_nil)))))) pa_nil)) (pa_cons pe_int pa_nil)) (by rfl))
    (pss_cons (ps_for PassesOwn.never rfl (pi_range1 rfl (n_range T) (pa_cons pe_int pa_nil)) (pg_name (i := 1) sc_law_forty_right.nd rfl (by first | exact Or.inl rfl | exact Or.inr rfl))
      (pss_one (ps_set (i := 5) sc_law_forty_right.nd rfl (by first | exact Or.inl rfl | exact Or.inr rfl) (pe_op op_mul (pv 5) (pe_op op_add (pv 1) pe_int)))))
    (pss_cons (ps_if (PW.pt (pw_or (pt_cmpR (opF_ne vI hr.units) (pe_call G_count_alike (hr.mono (by decide)) rfl (g_count_alike T) k_count_alike b_count_alike .nil pass0 (pa_cons (pv 4) pa_nil)) (pv 5) (nomark _)) (pw_or (pt_cmpR (opF_ne (vP vI vI) hr.units) (pe_call G_positions (hr.mono (by decide)) rfl (g_positions T) k_positions b_positions .nil pass0 (pa_cons (pv 4) (pa_cons pe_str pa_nil))) (pe_tup (pa_cons pe_int (pa_cons pe_int pa_nil))) (nomark _)) (pw_or1 (pt_cmpR (opLn_ne T (hr.mono (by decide))) (pe_call G_normal (hr.mono (by decide)) rfl (g_normal T) k_normal b_normal .nil pass0 (pa_cons (pe_meth (pv 4) (cls_Line T) (m_Line_ordered T) GL_ordered (hr.mono (by decide)) bL_ordered .nil pass0 (pa_cons (pe_revL (pv 0)) pa_nil)) pa_nil)) (pv 4) (nomark _))))))
      (pss_one (ps_ret pe_bl))
      pss_nil)
    (pss_cons (ps_set (i := 2) sc_law_forty_right.nd rfl (by first | exact Or.inl rfl | exact Or.inr rfl) (pe_make (mkr_Line T) G_Line (hr.mono (by decide)) rfl (g_Line T) b_Line .nil pass0 (pa_cons (pe_lc (own := [("_law_name", 7)]) (g := gName 7) rfl sc_law_forty_right.nd (pi_list (pe_revL (pv 0))) (blkOk_by (N := N_law_forty_right) (sc := defScope s_law_forty_right) (by decide +kernel)) (fun _ _ _ _ _ => (pg_name (i := 7) sc_law_forty_right.nd rfl (by first | exact Or.inl rfl | exact Or.inr rfl))) (fun _ _ _ _ _ => pts_nil) (fun _ _ _ _ _ => (pe_make (mkr_Asker T) G_Asker (hr.mono (by decide)) rfl (g_Asker T) b_Asker .nil pass0 (pa_cons (pv 7) (pa_cons (pe_lst (pa_cons pe_str pa_nil)) (pa_cons pe_int pa_nil)))))) pa_nil)))
    (pss_cons (ps_if (PW.pt (pw_or (pt_cmpR (opF_ne vI hr.units) (pe_call G_count_alike (hr.mono (by decide)) rfl (g_count_alike T) k_count_alike b_count_alike .nil pass0 (pa_cons (pv 2) pa_nil)) pe_int (nomark _)) (pw_or (pt_cmpR (opLn_ne T (hr.mono (by decide))) (pe_call G_normal (hr.mono (by decide)) rfl (g_normal T) k_normal b_normal .nil pass0 (pa_cons (pv 2) pa_nil)) (pv 2) (nomark _)) (pw_or1 (pt_cmpR (opF_ne (vP vI vI) hr.units) (pe_call G_positions (hr.mono (by decide)) rfl (g_positions T) k_positions b_positions .nil pass0 (pa_cons (pv 2) (pa_cons pe_str pa_nil))) (pe_tup (pa_cons pe_int (pa_cons pe_int pa_nil))) (nomark _))))))
      (pss_one (ps_ret pe_bl))
      pss_nil)
    (pss_cons (ps_if (PW.pt (pw_or (pt_cmpR (opN_ne hr.units) (pe_call G_exchanges (hr.mono (by decide)) rfl (g_exchanges T) k_exchanges b_exchanges .nil pass0 (pa_cons (pv 4) (pa_cons (pe_meth (pv 4) (cls_Line T) (m_Line_moved T) GL_moved (hr.mono (by decide)) bL_moved .nil pass0 (pa_cons pe_str (pa_cons pe_int pa_nil))) pa_nil))) (pe_listRg rfl rfl (n_list T) (prg_1 rfl (n_range T) pe_int)) (nomark _)) (pw_or1 (pt_cmpR op_notN (pe_call G_exchanges (hr.mono (by decide)) rfl (g_exchanges T) k_exchanges b_exchanges .nil pass0 (pa_cons (pv 2) (pa_cons (pe_meth (pv 2) (cls_Line T) (m_Line_ordered T) GL_ordered (hr.mono (by decide)) bL_ordered .nil pass0 (pa_cons (pv 0) pa_nil)) pa_nil))) pe_non (nomark _)))))
      (pss_one (ps_ret pe_bl))
      pss_nil)
    (pss_cons (ps_set (i := 3) sc_law_forty_right.nd rfl (by first | exact Or.inl rfl | exact Or.inr rfl) (pe_make (mkr_Line T) G_Line (hr.mono (by decide)) rfl (g_Line T) b_Line .nil pass0 (pa_cons (pe_op (op_catF (vA K)) (pe_lst (pa_cons (pe_make (mkr_Asker T) G_Asker (hr.mono (by decide)) rfl (g_Asker T) b_Asker .nil pass0 (pa_cons pe_str (pa_cons (pe_lst (pa_cons pe_str pa_nil)) (pa_cons pe_int pa_nil)))) pa_nil)) (pe_slice (sl_F (vA K)) (pe_meth0 (pv 2) (cls_Line T) (m_Line_askers T) GL_askers (hr.mono (by decide)) bL_askers .nil pass0) po_none (po_some pe_int))) pa_nil)))
    (pss_one (ps_ret (pe_and (pe_cmpR op_isN (pe_call G_chain (hr.mono (by decide)) rfl (g_chain T) k_chain b_chain .nil pass0 (pa_cons (pv 3) (pa_cons pe_str (pa_cons pe_str pa_nil)))) pe_non (nomark _)) (pe_and (pe_cmpR (opF_eq vI hr.units) (pe_callB (call_lenL vS) (by rfl) (n_len T) (by decide +kernel) (pa_cons (pe_call G_chain (hr.mono (by decide)) rfl (g_chain T) k_chain b_chain .nil pass0 (pa_cons (pv 3) (pa_cons pe_str (pa_cons pe_str pa_nil)))) pa_nil)) pe_int (nomark _)) (pe_one (pe_cmpR (opF_eq vI hr.units) (pe_callB (call_lenL vS) (by rfl) (n_len T) (by decide +kernel) (pa_cons (pe_call G_group (hr.mono (by decide)) rfl (g_group T) k_group b_group .nil pass0 (pa_cons (pv 3) (pa_cons pe_str pa_nil))) pa_nil)) pe_int (nomark _))))))))))))))), ?_⟩
  have lL : loose.length = 40 := by unfold loose; rw [List.length_map]; exact R.len
  have lO : rowO.length = 40 := by unfold rowO; rw [List.length_map, List.length_reverse]; exact R.len
  have lC : lone.length = 40 := by unfold lone; rw [List.length_cons, List.length_take, lO]; rfl
  have at_ : ∀ {rs : List Row}, LineOk rs → ∀ {i : Nat}, i < rs.length → AtP rs i (rs.getD i noRow) := fun lok => fun {i} h => ⟨lok.nd, lok.len, row_get h⟩
  -- names
  refine ⟨a26S, rfl, fun D1 hD1 => ?_⟩
  refine lcS (q := vS) (f := fun c => ("a" : Str) ++ ⟨#[c]⟩) (t := fun _ => true) sm hD1 (by show 26 ≤ 100000; decide) ?_ ?_
  · intro c v F' H' hc g hv N Y hN hY
    have ev : v = .str ⟨#[c]⟩ := hv
    subst ev
    exact ⟨rfl, _, rfl, _, _, rfl, rfl, by show 1 + 1 ≤ sizeLine; decide, hY _ _ _ (Grow.refl g.i) rfl rfl⟩
  intro F1 H1 g1 hl1
  rw [filter_tt] at hl1
  refine ⟨a14S, rfl, fun D2 hD2 => ?_⟩
  refine lcS (q := vS) (f := fun c => ("b" : Str) ++ ⟨#[c]⟩) (t := fun _ => true) g1.i hD2 (by show 14 ≤ 100000; decide) ?_ ?_
  · intro c v F' H' hc g hv N Y hN hY
    have ev : v = .str ⟨#[c]⟩ := hv
    subst ev
    exact ⟨rfl, _, rfl, _, _, rfl, rfl, by show 1 + 1 ≤ sizeLine; decide, hY _ _ _ (Grow.refl g.i) rfl rfl⟩
  intro F2 H2 g2 hl2
  rw [filter_tt] at hl2
  have hl1 := Mo.mo g2.f hl1
  have g2 := g1.trans g2
  refine ⟨F2, _, _, g2.i, hl1.m g2.i, hl2.m g2.i, by rw [List.length_map, List.length_map]; show 26 + 14 ≤ 100000; decide, fun nv F3 H3 g3 hnv => ?_⟩
  have hnv : vL vS names40 nv F3 := hnv
  have g3 := g2.trans g3
  obtain ⟨na, nvs, rfl, hna, lna⟩ := id hnv
  -- loose, number = Line([..]), 1
  refine ⟨_, rfl, na, rfl, ⟨_, SqL.of (g3.i _ _ hna)⟩, fun D3 hD3 => ?_⟩
  refine lcL (p := vS) (q := vA K) (f := fun z => mkRow z [("k" : Str) ++ z] 1) (t := fun _ => true) g3.i hD3 (g3.i _ _ hna) lna (by rw [R.len]; decide) ?_ ?_
  · intro z v F' H' hz g hv N Y hN hY
    have ev : v = .str z := hv
    subst ev
    obtain ⟨o1, o2⟩ := R.fitL z hz
    have zl : z.length ≤ 10 := o1.hi
    refine ⟨rfl, _, rfl, _, rfl, _, _, rfl, rfl, by show 1 + z.length ≤ sizeLine; have := small_of (n := 11) (by decide); omega, by show 1 ≤ sizeLine; decide, fun l1 hl1 => ?_⟩
    have g' := Grow.put (o := .lst [.str (("k" : Str) ++ z)]) g.i hl1
    refine fun y2 dy2 hy2 hdy2 hne2 => ⟨y2, dy2, _, z, [("k" : Str) ++ z], .ref l1, 1, rfl, upd_same, same_made g'.i hy2 hdy2, g'.i.free hy2, ⟨l1, _, rfl, upd_same, .cons rfl .nil⟩, o1, ⟨fun q hq => List.mem_singleton.mp hq ▸ o2, List.pairwise_singleton _ _, List.cons_ne_nil _ _, by show 1 ≤ 1000; decide⟩, by decide, fun F7 H7 g7 h7 => ⟨rfl, hY _ _ _ (g'.trans (GrowX.made hy2 hdy2 g7)) rfl h7⟩⟩
  intro F4 H4 g4 hl4
  rw [filter_tt] at hl4
  have hl4 : vL (vA K) loose (.ref D3) F4 := hl4
  have hnv := Mo.mo g4.f hnv
  have g4 := g3.trans g4
  refine fun x dx hx hd hne => ⟨x, dx, F4, loose, _, rfl, upd_same, same_made g4.i hx hd, g4.i.free hx, hl4, R.lokL, fun F5 H5 g5 h5 => ⟨rfl, ?_⟩⟩
  have g5 := GrowX.made hx hd g5
  have hnv := Mo.mo g5.f hnv
  have g5 := g4.trans g5
  refine ⟨_, _, rfl, ?_⟩
  -- for at in range(40): number = number * (at + 1)
  refine ⟨((40 : Nat) : Int), rfl, by decide, by decide, ?_⟩
  refine forN (n := 40) (fun i σ H' => ∃ x1, σ = [some (.ref na), x1, none, none, some (.ref x), some (.int (factN i : Int)), none, none] ∧ H' = H5) ?_ ?_ ?_
  · exact ⟨none, rfl, rfl⟩
  · rintro i σ H' hi ⟨x1, es, eH⟩
    subst es eH
    refine ⟨_, rfl, _, rfl, _, _, rfl, rfl, _, _, rfl, rfl, .inr ⟨by omega, by omega⟩, some (.int (i : Int)), ?_, rfl⟩
    rw [factN_succ]
    have : (factN i : Int) * ((i : Int) + 1) = ((factN i * (1 + i) : Nat) : Int) := by
      rw [Int.natCast_mul, Int.natCast_add, Int.add_comm]; rfl
    show [_, _, _, _, _, some (V.int ((factN i : Int) * ((i : Int) + 1))), _, _] = _
    rw [this]
  rintro σ H' ⟨x1, es, eH⟩
  subst es eH
  -- count_alike(loose) != number
  refine ⟨_, rfl, loose, F5, g5.i, ⟨_, rfl, h5, R.lokL⟩, fun cv F6 H6 g6 hcv => ?_⟩
  have ecv : cv = .int (factN 40 : Int) := by
    have : cv = .int (cntA loose : Int) := hcv
    rw [this, R.cntL]
  subst ecv
  have h5 := Mo.mo g6.f h5
  have hnv := Mo.mo g6.f hnv
  have g6 := g5.trans g6
  refine ⟨_, rfl, F6, _, _, g6.i, rfl, rfl, _, rfl, no_t (decide_eq_false fun h => h rfl) ?_⟩
  -- positions(loose, "ad") != (0, 39)
  refine ⟨_, rfl, (loose, 3, loose.getD 3 noRow), F6, g6.i, ⟨_, by rw [R.ad3]; rfl, h5, at_ R.lokL (by rw [lL]; decide), R.lokL.rows⟩, fun pv F7 H7 g7 hpv => ?_⟩
  have hpv : vP vI vI (posA loose 3) pv F7 := hpv
  rw [R.posL] at hpv
  have h5 := Mo.mo g7.f h5
  have hnv := Mo.mo g7.f hnv
  have g7 := g6.trans g7
  refine ⟨by show 2 ≤ sizeLine; decide, fun tp htp => ?_⟩
  have g8 := g7.trans (Grow.put (o := .tup [.int 0, .int 39]) g7.i htp)
  have s8 : Same F7 (upd F7 tp (.tup [.int 0, .int 39])) := same_upd (g7.i.free htp)
  have h5 := Mo.mo s8 h5
  have hnv := Mo.mo s8 hnv
  refine ⟨_, (0, 39), (0, 39), g8.i, Mo.mo s8 hpv, ⟨tp, _, _, rfl, upd_same, rfl, rfl⟩, _, rfl, no_t (decide_eq_false fun h => h rfl) ?_⟩
  generalize hF8 : upd F7 tp (.tup [.int 0, .int 39]) = F8 at *
  generalize hH8 : upd H7 tp (.tup [.int 0, .int 39]) = H8 at *
  -- normal(loose.ordered(names[::-1])) != loose
  have hna8 : H8 na = some (.lst nvs) := by
    obtain ⟨na', nvs', e1, e2, _⟩ := id hnv
    cases e1
    have := g3.f
    obtain ⟨b, bs, q1, q2, q3⟩ := id hnv
    cases q1
    rw [← (show nvs = bs from by
      have a1 := all2S.mp lna
      have a2 := all2S.mp q3
      rw [a1, a2])] at q2
    exact g8.i _ _ q2
  refine ⟨_, rfl, h5.at_ g8.i rfl rfl ⟨_, rfl, na, nvs, rfl, SqL.of hna8, fun rv hrv => ?_⟩⟩
  have g9 := g8.trans (Grow.put (o := .lst nvs.reverse) g8.i hrv)
  have s9 : Same F8 (upd F8 rv (.lst nvs.reverse)) := same_upd (g8.i.free hrv)
  have h5 := Mo.mo s9 h5
  have hnv := Mo.mo s9 hnv
  have lrev : vL vS names40.reverse (.ref rv) (upd F8 rv (.lst nvs.reverse)) := ⟨rv, _, rfl, upd_same, (lna.rev.mo (Same.refl _)) |> fun z => all2S.mpr (all2S.mp z)⟩
  have nmR : namesR loose.reverse = names40.reverse := by
    have : namesR loose.reverse = (namesR loose).reverse := by unfold namesR; rw [List.map_reverse]
    rw [this, R.nmL]
  refine ⟨(loose, loose.reverse), _, g9.i, ⟨_, _, rfl, h5, by show vL vS (namesR loose.reverse) _ _; rw [nmR]; exact lrev, R.lokL, List.reverse_perm _⟩, fun ov F10 H10 g10 hov => ?_⟩
  have hov : vLine K loose.reverse ov F10 := hov
  have h5 := Mo.mo g10.f h5
  have hnv := Mo.mo g10.f hnv
  have g10 := g9.trans g10
  refine ⟨loose.reverse, F10, g10.i, ⟨_, rfl, hov, R.lokL.perm (List.reverse_perm _)⟩, fun mv F11 H11 g11 hmv => ?_⟩
  have hmv : vLine K (normR loose.reverse) mv F11 := hmv
  rw [R.nrmL] at hmv
  have h5 := Mo.mo g11.f h5
  have hnv := Mo.mo g11.f hnv
  have g11 := g10.trans g11
  refine ⟨_, rfl, F11, _, _, g11.i, hmv, h5, fun F12 H12 g12 => ⟨_, rfl, no_t (by rw [if_pos rfl, decide_eq_true rfl]; rfl) ?_⟩⟩
  have h5 := Mo.mo g12.f h5
  have hnv := Mo.mo g12.f hnv
  have g12 := g11.trans g12
  -- row = Line([Asker(name, ["o"], 1) for name in names[::-1]])
  obtain ⟨nb, nbs, q1, q2, q3⟩ := id hnv
  cases q1
  refine ⟨_, rfl, na, nbs, rfl, SqL.of (g12.i _ _ q2), fun rv2 hrv2 => ?_⟩
  have g13 := g12.trans (Grow.put (o := .lst nbs.reverse) g12.i hrv2)
  have s13 : Same F12 (upd F12 rv2 (.lst nbs.reverse)) := same_upd (g12.i.free hrv2)
  have h5 := Mo.mo s13 h5
  have hnv := Mo.mo s13 hnv
  have oN : NameOk ("o" : Str) := nameB_ok (by decide +kernel)
  refine ⟨rv2, rfl, ⟨_, SqL.of upd_same⟩, fun D4 hD4 => ?_⟩
  refine lcL (p := vS) (q := vA K) (f := fun z => mkRow z ["o"] 1) (t := fun _ => true) (xs := names40.reverse) g13.i hD4 upd_same (q3.rev.mo s13) (by rw [List.length_reverse, R.len]; decide) ?_ ?_
  · intro z v F' H' hz g hv N Y hN hY
    have ev : v = .str z := hv
    subst ev
    obtain ⟨o1, o2⟩ := R.fitL z (List.mem_reverse.mp hz)
    refine ⟨rfl, _, rfl, by show 1 ≤ sizeLine; decide, fun l1 hl1 => ?_⟩
    have g' := Grow.put (o := .lst [.str ("o" : Str)]) g.i hl1
    refine fun y2 dy2 hy2 hdy2 hne2 => ⟨y2, dy2, _, z, ["o"], .ref l1, 1, rfl, upd_same, same_made g'.i hy2 hdy2, g'.i.free hy2, ⟨l1, _, rfl, upd_same, .cons rfl .nil⟩, o1, ⟨fun q hq => List.mem_singleton.mp hq ▸ oN, List.pairwise_singleton _ _, List.cons_ne_nil _ _, by show 1 ≤ 1000; decide⟩, by decide, fun F7 H7 g7 h7 => ⟨rfl, hY _ _ _ (g'.trans (GrowX.made hy2 hdy2 g7)) rfl h7⟩⟩
  intro F14 H14 g14 hl14
  rw [filter_tt] at hl14
  have hl14 : vL (vA K) rowO (.ref D4) F14 := hl14
  have h5 := Mo.mo g14.f h5
  have hnv := Mo.mo g14.f hnv
  have g14 := g13.trans g14
  refine fun x2 dx2 hx2 hd2 hne2 => ⟨x2, dx2, F14, rowO, _, rfl, upd_same, same_made g14.i hx2 hd2, g14.i.free hx2, hl14, R.lokO, fun F15 H15 g15 h6 => ⟨rfl, ?_⟩⟩
  have g15 := GrowX.made hx2 hd2 g15
  have h5 := Mo.mo g15.f h5
  have hnv := Mo.mo g15.f hnv
  have g15 := g14.trans g15
  -- count_alike(row) != 1
  refine ⟨_, rfl, rowO, F15, g15.i, ⟨_, rfl, h6, R.lokO⟩, fun cv F16 H16 g16 hcv => ?_⟩
  have ecv : cv = .int 1 := by
    have : cv = .int (cntA rowO : Int) := hcv
    rw [this, R.cntO]; rfl
  subst ecv
  have h5 := Mo.mo g16.f h5
  have h6 := Mo.mo g16.f h6
  have hnv := Mo.mo g16.f hnv
  have g16 := g15.trans g16
  refine ⟨F16, _, _, g16.i, rfl, rfl, _, rfl, no_t (by decide) ?_⟩
  -- normal(row) != row
  refine ⟨_, rfl, rowO, F16, g16.i, ⟨_, rfl, h6, R.lokO⟩, fun mv F17 H17 g17 hmv => ?_⟩
  have hmv : vLine K (normR rowO) mv F17 := hmv
  rw [R.nrmO] at hmv
  have h5 := Mo.mo g17.f h5
  have h6 := Mo.mo g17.f h6
  have hnv := Mo.mo g17.f hnv
  have g17 := g16.trans g17
  refine ⟨_, rfl, F17, _, _, g17.i, hmv, h6, fun F18 H18 g18 => ⟨_, rfl, no_t (by rw [if_pos rfl, decide_eq_true rfl]; rfl) ?_⟩⟩
  have h5 := Mo.mo g18.f h5
  have h6 := Mo.mo g18.f h6
  have hnv := Mo.mo g18.f hnv
  have g18 := g17.trans g18
  -- positions(row, "ad") != (36, 36)
  refine ⟨_, rfl, (rowO, 36, rowO.getD 36 noRow), F18, g18.i, ⟨_, by rw [R.ad36]; rfl, h6, at_ R.lokO (by rw [lO]; decide), R.lokO.rows⟩, fun pv F19 H19 g19 hpv => ?_⟩
  have hpv : vP vI vI (posA rowO 36) pv F19 := hpv
  rw [R.posO] at hpv
  have h5 := Mo.mo g19.f h5
  have h6 := Mo.mo g19.f h6
  have hnv := Mo.mo g19.f hnv
  have g19 := g18.trans g19
  refine ⟨by show 2 ≤ sizeLine; decide, fun tp2 htp2 => ?_⟩
  have g20 := g19.trans (Grow.put (o := .tup [.int 36, .int 36]) g19.i htp2)
  have s20 : Same F19 (upd F19 tp2 (.tup [.int 36, .int 36])) := same_upd (g19.i.free htp2)
  have h5 := Mo.mo s20 h5
  have h6 := Mo.mo s20 h6
  have hnv := Mo.mo s20 hnv
  refine ⟨_, (36, 36), (36, 36), g20.i, Mo.mo s20 hpv, ⟨tp2, _, _, rfl, upd_same, rfl, rfl⟩, _, rfl, no_t (decide_eq_false fun h => h rfl) ?_⟩
  generalize hF20 : upd F19 tp2 (.tup [.int 36, .int 36]) = F20 at *
  generalize hH20 : upd H19 tp2 (.tup [.int 36, .int 36]) = H20 at *
  -- exchanges(loose, loose.moved("aa", 39)) != list(range(39))
  have pmM : (putI (cutO loose 0) (loose.getD 0 noRow) 39).Perm loose := cut_put_perm (by rw [lL]; decide)
  have lokM := R.lokL.perm pmM
  have eloose : loose = loose.getD 0 noRow :: cutO loose 0 := by
    have : loose ≠ [] := fun q => by rw [q] at lL; cases lL
    cases hlo : loose with
    | nil => exact absurd hlo this
    | cons r rs => rfl
  have ndL := R.lokL.nd
  have lokCut : LineOk (cutO loose 0) := by
    have hs : (cutO loose 0).Sublist loose := by
      conv => rhs; rw [eloose]
      exact List.sublist_cons_self _ _
    exact ⟨ndL.sublist (hs.map _), Nat.le_trans hs.length_le R.lokL.len, fun r hr => R.lokL.nm r (hs.subset hr), fun r hr => R.lokL.fits r (hs.subset hr)⟩
  have hnm : (loose.getD 0 noRow).a ∉ namesR (cutO loose 0) := by
    have := ndL
    rw [eloose] at this
    exact (List.nodup_cons.mp this).1
  refine ⟨_, rfl, _, rfl, h5.at_ g20.i rfl rfl ⟨(loose, 0, loose.getD 0 noRow, 39), F20, g20.i, ⟨_, by rw [R.aa0]; rfl, h5, at_ R.lokL (by rw [lL]; decide), by show 39 < loose.length; rw [lL]; decide, lokCut, hnm, lokM⟩, fun mv F21 H21 g21 hmv => ?_⟩⟩
  have hmv : vLine K (putI (cutO loose 0) (loose.getD 0 noRow) 39) mv F21 := hmv
  have h5 := Mo.mo g21.f h5
  have h6 := Mo.mo g21.f h6
  have hnv := Mo.mo g21.f hnv
  have g21 := g20.trans g21
  refine ⟨(loose, putI (cutO loose 0) (loose.getD 0 noRow) 39, List.range 39), F21, g21.i, ⟨_, _, rfl, h5, hmv, R.lokL, lokM, pmM, fun _ => R.excL⟩, fun ev F22 H22 g22 hev => ?_⟩
  have hev : vO (vL vN) (if aliB loose (putI (cutO loose 0) (loose.getD 0 noRow) 39) = true then some (List.range 39) else none) ev F22 := hev
  rw [if_pos R.aliL] at hev
  have hev : vL vN (List.range 39) ev F22 := hev
  have h5 := Mo.mo g22.f h5
  have h6 := Mo.mo g22.f h6
  have hnv := Mo.mo g22.f hnv
  have g22 := g21.trans g22
  refine ⟨((39 : Nat) : Int), rfl, RgOk.of_le (by decide) (by decide) (by decide) (by decide), fun q4 hq4 => ?_⟩
  have g23 := g22.trans (Grow.put (o := .lst (rgV 0 ((39 : Nat) : Int))) g22.i hq4)
  have s23 : Same F22 (upd F22 q4 (.lst (rgV 0 ((39 : Nat) : Int)))) := same_upd (g22.i.free hq4)
  have h5 := Mo.mo s23 h5
  have h6 := Mo.mo s23 h6
  have hnv := Mo.mo s23 hnv
  refine ⟨_, List.range 39, List.range 39, g23.i, Mo.mo s23 hev, ⟨q4, _, rfl, upd_same, all2_rg0 39 _⟩, _, rfl, no_t (decide_eq_false fun h => h rfl) ?_⟩
  generalize hF23 : upd F22 q4 (.lst (rgV 0 ((39 : Nat) : Int))) = F23 at *
  generalize hH23 : upd H22 q4 (.lst (rgV 0 ((39 : Nat) : Int))) = H23 at *
  -- exchanges(row, row.ordered(names)) is not None
  have nmOr : namesR rowO.reverse = names40 := by
    have : namesR rowO.reverse = (namesR rowO).reverse := by unfold namesR; rw [List.map_reverse]
    rw [this, R.nmO, List.reverse_reverse]
  refine ⟨_, rfl, _, rfl, h6.at_ g23.i rfl rfl ⟨_, rfl, (rowO, rowO.reverse), F23, g23.i, ⟨_, _, rfl, h6, by show vL vS (namesR rowO.reverse) _ _; rw [nmOr]; exact hnv, R.lokO, List.reverse_perm _⟩, fun mv F24 H24 g24 hmv => ?_⟩⟩
  have hmv : vLine K rowO.reverse mv F24 := hmv
  have h6 := Mo.mo g24.f h6
  have g24 := g23.trans g24
  refine ⟨(rowO, rowO.reverse, []), F24, g24.i, ⟨_, _, rfl, h6, hmv, R.lokO, R.lokO.perm (List.reverse_perm _), List.reverse_perm _, fun h => Bool.noConfusion (h.symm.trans R.aliO)⟩, fun ev F25 H25 g25 hev => ?_⟩
  have hev : vO (vL vN) (if aliB rowO rowO.reverse = true then some [] else none) ev F25 := hev
  rw [R.aliO] at hev
  have eev : ev = .non := hev
  subst eev
  have h6 := Mo.mo g25.f h6
  have g25 := g24.trans g25
  refine ⟨rfl, _, rfl, no_t (by simp) ?_⟩
  -- lone = Line([Asker("c", ["q"], 1)] + row.askers()[:39])
  have qN : NameOk ("q" : Str) := nameB_ok (by decide +kernel)
  refine ⟨by show 1 ≤ sizeLine; decide, fun l1 hl1 => ?_⟩
  have g26 := g25.trans (Grow.put (o := .lst [.str ("q" : Str)]) g25.i hl1)
  have s26 : Same F25 (upd F25 l1 (.lst [.str ("q" : Str)])) := same_upd (g25.i.free hl1)
  refine fun y dy hy hdy hne => ⟨y, dy, _, "c", ["q"], .ref l1, 1, rfl, upd_same, same_made g26.i hy hdy, g26.i.free hy, ⟨l1, _, rfl, upd_same, .cons rfl .nil⟩, nameB_ok (by decide +kernel), ⟨fun q hq => List.mem_singleton.mp hq ▸ qN, List.pairwise_singleton _ _, List.cons_ne_nil _ _, by show 1 ≤ 1000; decide⟩, by decide, fun F27 H27 g27 h27 => ⟨rfl, ?_⟩⟩
  have h27 : vA K rowC (.ref y) F27 := h27
  have g27 := GrowX.made hy hdy g27
  have h6 := Mo.mo (s26.trans g27.f) h6
  have g27 := g26.trans g27
  refine ⟨by show 1 ≤ sizeLine; decide, fun l2 hl2' => ?_⟩
  have g28 := g27.trans (Grow.put (o := .lst [.ref y]) g27.i hl2')
  have s28 : Same F27 (upd F27 l2 (.lst [.ref y])) := same_upd (g27.i.free hl2')
  have v28 : vL (vA K) [rowC] (.ref l2) (upd F27 l2 (.lst [.ref y])) := ⟨l2, _, rfl, upd_same, .cons (Mo.mo s28 h27) .nil⟩
  have h6 := Mo.mo s28 h6
  generalize hF28 : upd F27 l2 (.lst [.ref y]) = F28 at *
  generalize hH28 : upd H27 l2 (.lst [.ref y]) = H28 at *
  refine ⟨_, rfl, h6.at_ g28.i rfl rfl ⟨rowO, F28, g28.i, ⟨_, rfl, h6⟩, fun av F29 H29 g29 hav => ?_⟩⟩
  have hav : vL (vA K) rowO av F29 := hav
  have v29 := Mo.mo g29.f v28
  have g29 := g28.trans g29
  refine ⟨((39 : Nat) : Int), rfl, F29, rowO, g29.i, hav.m g29.i, fun sv F30 H30 g30 hsv => ?_⟩
  rw [cutA__n] at hsv
  have v30 := Mo.mo g30.f v29
  have g30 := g29.trans g30
  refine ⟨F30, [rowC], rowO.take 39, g30.i, v30.m g30.i, hsv.m g30.i, by rw [List.length_take, lO]; decide, fun lv F31 H31 g31 hlv => ?_⟩
  have hlv : vL (vA K) lone lv F31 := hlv
  have g31 := g30.trans g31
  refine fun x3 dx3 hx3 hd3 hne3 => ⟨x3, dx3, F31, lone, lv, rfl, upd_same, same_made g31.i hx3 hd3, g31.i.free hx3, hlv, R.lokC, fun F32 H32 g32 h7 => ⟨rfl, ?_⟩⟩
  have g32 := g31.trans (GrowX.made hx3 hd3 g32)
  have a39 := at_ R.lokC (i := 39) (by rw [lC]; decide)
  have a0 := at_ R.lokC (i := 0) (by rw [lC]; decide)
  have a1 := at_ R.lokC (i := 1) (by rw [lC]; decide)
  have e0 : (lone.getD 0 noRow).a = ("c" : Str) := rfl
  have lk0 : lkR lone 0 39 = false := by
    rw [Bool.eq_false_iff]
    intro h
    exact absurd (R.lk1 39 (by decide) h) (by decide)
  -- chain(lone, "ab", "c") is None
  refine ⟨_, rfl, (lone, 39, lone.getD 39 noRow, 0, lone.getD 0 noRow), F32, g32.i, ⟨_, by rw [R.ab39, e0]; rfl, h7, a39, a0, R.lokC.rows, by show 0 < 39; decide, .inr fun a ha => ?_⟩, fun cv F33 H33 g33 hcv => ?_⟩
  · have ha := List.mem_range.mp ha
    have ha : a < 39 := ha
    cases hl : lkR lone 0 a with
    | false => exact .inr rfl
    | true => exact .inl (R.lk1 a (by omega) hl)
  have hcv : vO (vL vS) (if lkR lone 0 39 = true then some [nameAt lone 0, nameAt lone 39] else none) cv F33 := hcv
  rw [lk0] at hcv
  have ecv : cv = .non := hcv
  subst ecv
  have h7 := Mo.mo g33.f h7
  have g33 := g32.trans g33
  refine ⟨rfl, _, rfl, yes_t (by simp) ?_⟩
  -- len(chain(lone, "ab", "bn")) == 2
  refine ⟨_, rfl, (lone, 39, lone.getD 39 noRow, 1, lone.getD 1 noRow), F33, g33.i, ⟨_, by rw [R.ab39, R.bn1]; rfl, h7, a39, a1, R.lokC.rows, by show 1 < 39; decide, .inl R.lk2⟩, fun cv F34 H34 g34 hcv => ?_⟩
  have hcv : vO (vL vS) (if lkR lone 1 39 = true then some [nameAt lone 1, nameAt lone 39] else none) cv F34 := hcv
  rw [if_pos R.lk2] at hcv
  have hcv : vL vS [nameAt lone 1, nameAt lone 39] cv F34 := hcv
  have h7 := Mo.mo g34.f h7
  have g34 := g33.trans g34
  refine ⟨F34, _, _, rfl, hcv.m g34.i, F34, _, _, g34.i, rfl, rfl, _, rfl, yes_t (by decide) ?_⟩
  -- len(group(lone, "ab")) == 39
  refine ⟨_, rfl, (lone, 39, lone.getD 39 noRow), F34, g34.i, ⟨_, by rw [R.ab39]; rfl, h7, a39, R.lokC.rows⟩, fun gv F35 H35 g35 hgv => ?_⟩
  have hgv : vL vS (((grpsR lone).getD 39 []).map (nameAt lone)) gv F35 := hgv
  have g35 := g34.trans g35
  refine ⟨F35, _, _, rfl, hgv.m g35.i, F35, _, _, g35.i, rfl, rfl, k _ _ _ g35 ?_⟩
  show V.bl _ = V.bl true
  rw [List.length_map, R.grp]
  rfl
end
end Elk
set_option Elab.async false
set_option linter.all false
set_option maxRecDepth 100000
set_option maxHeartbeats 4000000
namespace Elk
open PySem PySem.Spec PyProof.Rows L2
/-- the mathematics that the law asks for -/
structure AllR : Prop where
  line : ∀ n rs, 1 ≤ n → n ≤ 4 → FewOk n rs → LineR rs ((ordersL rs).filter fun row => sameT row rs)
  unlike : ∀ n rs, 1 ≤ n → n ≤ 4 → FewOk n rs → UnlR rs (ordersL rs)
  long : ∀ n rs, 5 ≤ n → n ≤ 8 → FewOk n rs → LongR rs
  six : SixR
  forty : FortyR
def sp_law (K : W.Frag) : Sp := fun vs H Q _ => ∃ (F : Hp) (a : Addr) (ns : List Int), vs = [.ref a] ∧ Same F H ∧ SqL K H a (ns.map V.int) ∧ AllR ∧ ∀ H', Q (.bl true) H'
theorem taken_fits {m : Nat} {zs : List Str} (h : TakenOk m zs) (h1 : 1 ≤ m) (h7 : m ≤ 7) : FitsOk zs :=
  ⟨h.ok, h.nd, fun e => by
    have := h.len
    rw [e, List.length_nil] at this
    omega, by have := h.len; omega⟩
section
variable {P : Program} {w : World} {K : W.Frag} {mg : Str → Option Value} {base : Heap}
abbrev N_law : List Str := ["_law_script", "_law_purse_here", "_law_askers", "_law_orders"]
theorem sc_law : FnScope N_law ["_law_script"] (defScope s_law) := ⟨rfl, rfl, rfl, by decide +kernel, rfl, by decide +kernel, by decide +kernel⟩
theorem ok_law (T : Tp K mg) : OkG P w K mg base 12 (He.ga K "law") ["_law_script"] (sp_law K) := by
  obtain ⟨fd_law_purse, G_law_purse, b_law_purse, k_law_purse⟩ := ok_law_purse (P := P) (w := w) (base := base) T
  obtain ⟨fd_law_draw, G_law_draw, b_law_draw, k_law_draw⟩ := ok_law_draw (P := P) (w := w) (base := base) T
  obtain ⟨fd_law_kinds, G_law_kinds, b_law_kinds, k_law_kinds⟩ := ok_law_kinds (P := P) (w := w) (base := base) T
  obtain ⟨fd_law_few, G_law_few, b_law_few, k_law_few⟩ := ok_law_few (P := P) (w := w) (base := base) T
  obtain ⟨fd_law_orders_of, G_law_orders_of, b_law_orders_of, k_law_orders_of⟩ := ok_law_orders_of (P := P) (w := w) (base := base) T
  obtain ⟨fd_law_same, G_law_same, b_law_same, k_law_same⟩ := ok_law_same (P := P) (w := w) (base := base) T
  obtain ⟨fd_law_line_right, G_law_line_right, b_law_line_right, k_law_line_right⟩ := ok_law_line_right (P := P) (w := w) (base := base) T
  obtain ⟨fd_law_unlike_right, G_law_unlike_right, b_law_unlike_right, k_law_unlike_right⟩ := ok_law_unlike_right (P := P) (w := w) (base := base) T
  obtain ⟨fd_law_long_right, G_law_long_right, b_law_long_right, k_law_long_right⟩ := ok_law_long_right (P := P) (w := w) (base := base) T
  obtain ⟨fd_law_six_right, G_law_six_right, b_law_six_right, k_law_six_right⟩ := ok_law_six_right (P := P) (w := w) (base := base) T
  obtain ⟨fd_law_forty_right, G_law_forty_right, b_law_forty_right, k_law_forty_right⟩ := ok_law_forty_right (P := P) (w := w) (base := base) T
  refine mk_okG (F_law T) sc_law ?_ (fun _ _ _ _ _ _ us hl => match us, hl with | [_], _ => rfl) (fun cdv A outer s H vs Q E hg hr h => ?_)
  · rintro vs H Q E ⟨F, a, ns, rfl, _⟩
    rfl
  obtain ⟨F, a, ns, rfl, sm, ha, R, k⟩ := h
  refine ⟨_, (pss_cons (ps_set (i := 1) sc_law.nd rfl (by first | exact Or.inl rfl | exact Or.inr rfl) (pe_call G_law_purse (hr.mono (by decide)) rfl (g_law_purse T) k_law_purse b_law_purse .nil pass0 (pa_cons (pv 0) (pa_cons pe_int pa_nil))))
    (pss_cons (ps_set (i := 2) sc_law.nd rfl (by first | exact Or.inl rfl | exact Or.inr rfl) (pe_call G_law_few (hr.mono (by decide)) rfl (g_law_few T) k_law_few b_law_few .nil pass0 (pa_cons (pv 1) (pa_cons (pe_op op_add pe_int (pe_call G_law_draw (hr.mono (by decide)) rfl (g_law_draw T) k_law_draw b_law_draw .nil pass0 (pa_cons (pv 1) (pa_cons pe_int pa_nil)))) (pa_cons (pe_call G_law_kinds (hr.mono (by decide)) rfl (g_law_kinds T) k_law_kinds b_law_kinds .nil pass0 (pa_cons (pv 1) (pa_cons (pe_op op_add pe_int (pe_call G_law_draw (hr.mono (by decide)) rfl (g_law_draw T) k_law_draw b_law_draw .nil pass0 (pa_cons (pv 1) (pa_cons pe_int pa_nil)))) pa_nil))) pa_nil)))))
    (pss_cons (ps_set (i := 3) sc_law.nd rfl (by first | exact Or.inl rfl | exact Or.inr rfl) (pe_call G_law_orders_of (hr.mono (by decide)) rfl (g_law_orders_of T) k_law_orders_of b_law_orders_of .nil pass0 (pa_cons (pv 2) pa_nil)))
    (pss_cons (ps_if (PW.pt (pw_or (pt_not (pt_val (pe_callG G_law_line_right hg (hr.mono (by decide)) rfl (g_law_line_right T) k_law_line_right b_law_line_right .nil pass0 (pa_cons (pv 2) (pa_cons (pe_callG G_law_same hg (hr.mono (by decide)) rfl (g_law_same T) k_law_same b_law_same .nil pass0 (pa_cons (pv 2) (pa_cons (pv 3) pa_nil))) pa_nil))))) (pw_or1 (pt_not (pt_val (pe_callG G_law_unlike_right hg (hr.mono (by decide)) rfl (g_law_unlike_right T) k_law_unlike_right b_law_unlike_right .nil pass0 (pa_cons (pv 2) (pa_cons (pv 3) pa_nil))))))))
      (pss_one (ps_ret pe_bl))
      pss_nil)
    (pss_cons (ps_if (pt_not (pt_val (pe_callG G_law_long_right hg (hr.mono (by decide)) rfl (g_law_long_right T) k_law_long_right b_law_long_right .nil pass0 (pa_cons (pv 1) (pa_cons (pe_call G_law_few (hr.mono (by decide)) rfl (g_law_few T) k_law_few b_law_few .nil pass0 (pa_cons (pv 1) (pa_cons (pe_op op_add pe_int (pe_call G_law_draw (hr.mono (by decide)) rfl (g_law_draw T) k_law_draw b_law_draw .nil pass0 (pa_cons (pv 1) (pa_cons pe_int pa_nil)))) (pa_cons (pe_call G_law_kinds (hr.mono (by decide)) rfl (g_law_kinds T) k_law_kinds b_law_kinds .nil pass0 (pa_cons (pv 1) (pa_cons pe_int pa_nil))) pa_nil)))) pa_nil)))))
      (pss_one (ps_ret pe_bl))
      pss_nil)
    (pss_one (ps_ret (pe_and (pe_call0 G_law_six_right (hr.mono (by decide)) rfl (g_law_six_right T) k_law_six_right b_law_six_right .nil pass0) (pe_one (pe_call0 G_law_forty_right (hr.mono (by decide)) rfl (g_law_forty_right T) k_law_forty_right b_law_forty_right .nil pass0)))))))))), ?_⟩
  refine ⟨_, rfl, F, a, ns, rfl, sm, ha, fun pa F1 H1 g1 hp1 _ => ?_⟩
  -- askers = few(purse, 1 + draw(purse, 4), kinds(purse, 2 + draw(purse, 2)))
  refine ⟨_, rfl, _, rfl, 4, F1, pa, 0, _, rfl, hp1, by decide, ⟨rfl, by decide, by decide⟩, fun d1 F2 H2 g2 hp2 hd1 => ?_⟩
  obtain ⟨r1, hr1, e1⟩ := hd1
  subst e1
  refine ⟨_, _, rfl, rfl, _, rfl, _, rfl, 2, F2, pa, 1, _, rfl, hp2, by decide, ⟨rfl, by decide, by decide⟩, fun d2 F3 H3 g3 hp3 hd2 => ?_⟩
  obtain ⟨r2, hr2, e2⟩ := hd2
  subst e2
  have ei2 : (2 : Int) + (r2 : Int) = ((2 + r2 : Nat) : Int) := by omega
  have ei1 : (1 : Int) + (r1 : Int) = ((1 + r1 : Nat) : Int) := by omega
  refine ⟨_, _, rfl, rfl, 2 + r2, F3, pa, 2, _, rfl, hp3, by decide, ⟨by show [V.int ((2 : Int) + (r2 : Int))] = _; rw [ei2], by omega⟩, fun kv F4 H4 g4 hp4 hkv => ?_⟩
  obtain ⟨zs, hzs, tk⟩ := hkv
  have ztl : zs.length = 2 + r2 := tk.len
  refine ⟨(1 + r1, zs), F4, pa, 42, _, rfl, hp4, by decide, ⟨kv, by show [V.int ((1 : Int) + (r1 : Int)), kv] = _; rw [ei1], hzs, by show 1 + r1 ≤ 8; omega, taken_fits tk (by omega) (by omega), by show zs.length ≤ 7; omega⟩, fun av F5 H5 g5 hp5 hav => ?_⟩
  obtain ⟨rs, hrs, fo⟩ := hav
  have fo : FewOk (1 + r1) rs := fo
  have lok := fo.lok
  have hl4 : rs.length ≤ 4 := by rw [fo.len]; omega
  -- orders = orders_of(askers)
  refine ⟨_, rfl, rs, F5, hp5.s, ⟨_, rfl, hrs, hl4⟩, fun ov F6 H6 g6 hov => ?_⟩
  have hov : vL (vL (vA K)) (ordersL rs) ov F6 := hov
  have hrs := Mo.mo g6.f hrs
  have hp6 := hp5.grow g6
  have hol : (ordersL rs).length ≤ 625 := orders_len hl4
  have LR := R.line (1 + r1) rs (by omega) (by omega) fo
  have UR := R.unlike (1 + r1) rs (by omega) (by omega) fo
  -- line_right(askers, same(askers, orders))
  refine ⟨_, rfl, _, rfl, _, rfl, (rs, ordersL rs), F6, hp6.s, ⟨_, _, rfl, hrs, hov, lok, fun row hrow => lok.perm (orders_perm hrow), by show (ordersL rs).length ≤ 1000; omega⟩, fun sv F7 H7 g7 hsv => ?_⟩
  have hsv : vL (vL (vA K)) ((ordersL rs).filter fun row => sameT row rs) sv F7 := hsv
  have hrs := Mo.mo g7.f hrs
  have hov := Mo.mo g7.f hov
  have hp7 := hp6.grow g7
  refine ⟨(rs, (ordersL rs).filter fun row => sameT row rs), F7, hp7.s, ⟨_, _, rfl, hrs, hsv, LR⟩, fun b1 F8 H8 g8 hb1 => ⟨true, hb1, no_t rfl ?_⟩⟩
  have hrs := Mo.mo g8.f hrs
  have hov := Mo.mo g8.f hov
  have hp8 := hp7.grow g8
  -- unlike_right(askers, orders)
  refine ⟨_, rfl, _, rfl, (rs, ordersL rs), F8, hp8.s, ⟨_, _, rfl, hrs, hov, UR⟩, fun b2 F9 H9 g9 hb2 => ⟨true, hb2, no_t rfl ?_⟩⟩
  have hp9 := hp8.grow g9
  -- long_right(purse, few(purse, 5 + draw(purse, 4), kinds(purse, 4)))
  refine ⟨_, rfl, _, rfl, _, rfl, 4, F9, pa, 342, _, rfl, hp9, by decide, ⟨rfl, by decide, by decide⟩, fun d3 F10 H10 g10 hp10 hd3 => ?_⟩
  obtain ⟨r3, hr3, e3⟩ := hd3
  subst e3
  have ei3 : (5 : Int) + (r3 : Int) = ((5 + r3 : Nat) : Int) := by omega
  refine ⟨_, _, rfl, rfl, _, rfl, 4, F10, pa, 343, _, rfl, hp10, by decide, ⟨rfl, by decide⟩, fun kv2 F11 H11 g11 hp11 hkv2 => ?_⟩
  obtain ⟨zs2, hzs2, tk2⟩ := hkv2
  have ztl2 : zs2.length = 4 := tk2.len
  refine ⟨(5 + r3, zs2), F11, pa, 383, _, rfl, hp11, by decide, ⟨kv2, by show [V.int ((5 : Int) + (r3 : Int)), kv2] = _; rw [ei3], hzs2, by show 5 + r3 ≤ 8; omega, taken_fits tk2 (by decide) (by decide), by show zs2.length ≤ 7; omega⟩, fun av2 F12 H12 g12 hp12 hav2 => ?_⟩
  obtain ⟨rs2, hrs2, fo2⟩ := hav2
  have fo2 : FewOk (5 + r3) rs2 := fo2
  refine ⟨rs2, F12, pa, 683, _, rfl, hp12, by decide, ⟨_, rfl, hrs2, R.long (5 + r3) rs2 (by omega) (by omega) fo2⟩, fun b3 F13 H13 g13 hp13 hb3 => ⟨true, hb3, no_t rfl ?_⟩⟩
  -- six_right() and forty_right()
  refine ⟨(), F13, hp13.s, ⟨rfl, R.six⟩, fun b4 F14 H14 g14 hb4 => ⟨true, hb4, yes_t rfl ?_⟩⟩
  refine ⟨(), F14, g14.i, ⟨rfl, R.forty⟩, fun b5 F15 H15 g15 hb5 => ?_⟩
  have eb : b5 = .bl true := hb5
  rw [eb]
  exact k _
end
/-! ### the law at its call -/
theorem law_callG {P : Program} {w : World} {K : W.Frag} {mg mb : Str → Option Value} {k : Nat} {fa a : Addr} {x : Str} {sp : Sp} {s₁ : Shared} {vs : List Value} {ns : List Int}
    (hr : Room k callerA) (kin : K.In s₁.heap) (gl : s₁.heap.Ns mainGlobals mg) (bn : s₁.heap.Ns builtinsNs mb) (bb : ∀ x : Str, x ≠ "__name__" → mb x = bootBuiltins x) (lim : s₁.heap.NoLimit) (gens : s₁.gens = #[])
    (obj : s₁.heap.get? a = some { cls := .type "list", data := .seq vs.toArray }) (ia : IntsAre vs ns) (len : ns.length ≤ sizeLine)
    (G : ∀ base : Heap, K.In base → base.Ns mainGlobals mg → OkG P w K mg base k fa [x] sp)
    (asks : ∀ H : Hp, SqL K H a (ns.map V.int) → sp [.ref a] H (fun v _ => v = .bl true) fun _ _ _ => False) :
    codeAny (model P w) callerA (.call (.ref fa) ⟨[.ref a], []⟩) (fun r s' => r = .ok (.ret (.bool true)) ∧ OldK s₁.heap s'.heap ∧ s'.os = s₁.os ∧ AllBare s'.gens) s₁ := by
  have vals := vals_ints ia
  have vlen := ia.length
  -- what is tracked: the script, locked, unless it is an object of the module's own
  obtain ⟨H, sq, only, ok, alone, apart⟩ : ∃ H : Hp, SqL K H a (ns.map V.int) ∧ (∀ b, H b = none ∨ ∃ o xs, H b = some (.frz o (.lst xs))) ∧ HOk P w H s₁.heap ∧ (∀ b, H b ≠ none → b = a) ∧ (H a ≠ none → K.lookup a = none) := by
    cases hk : K.lookup a with
    | some o =>
      have e := kin a o hk
      rw [obj] at e
      cases e
      refine ⟨fun _ => none, .inr ⟨_, vs.toArray, _, hk, rfl, rfl, rfl, ?_, by simpa using vals⟩, fun _ => .inl rfl, fun b u z => (nomatch (show (none : Option HO) = some u from z)), fun _ z => absurd rfl z, fun z => absurd rfl z⟩
      rw [List.size_toArray, vlen]; exact len
    | none =>
      refine ⟨fun b => if b = a then some (.frz { cls := .type "list", data := .seq vs.toArray } (.lst (ns.map V.int))) else none, .inl (.inr ⟨_, if_pos rfl⟩), fun b => ?_, fun b u z => ?_, fun b z => Decidable.byContradiction fun q => z (if_neg q), fun _ => rfl⟩
      · by_cases q : b = a
        · exact .inr ⟨_, _, if_pos q⟩
        · exact .inl (if_neg q)
      · by_cases q : b = a
        · subst q
          cases (if_pos rfl).symm.trans z
          exact ⟨obj, by rw [List.length_map]; exact len, vs, _, vals, obj⟩
        · cases (if_neg q).symm.trans z
  -- the heap without the script
  have stays : ∀ {b : Addr} {o : Obj}, s₁.heap.get? b = some o → (b = a → H b = none) → (hidT s₁.heap H).get? b = some o := fun {b o} e q => hidT_get e (by
    cases z : H b with
    | none => rfl
    | some u => rw [q (alone b (by rw [z]; exact Option.some_ne_none u))] at z; cases z)
  have noDict : ∀ {b : Addr} {o : Obj} {es : Array DictEntry} {ep : Nat}, s₁.heap.get? b = some o → o.data = .dict es ep → (hidT s₁.heap H).get? b = some o := fun {b o es ep} e d => stays e fun q => by
    subst q
    rw [obj] at e
    cases e
    exact nomatch (show Data.seq vs.toArray _ = Data.dict es ep from d)
  have names : ∀ {b : Addr} {m : Str → Option Value}, s₁.heap.Ns b m → (hidT s₁.heap H).Ns b m := fun ⟨o, es, ep, e, d, r⟩ => ⟨o, es, ep, noDict e d, d, r⟩
  have kin' : K.In (hidT s₁.heap H) := fun b o e => stays (kin b o e) fun q => by
    subst q
    cases z : H b with
    | none => rfl
    | some u => rw [apart (by rw [z]; exact Option.some_ne_none u)] at e; cases e
  have env : Env0 P w K mg (hidT s₁.heap H) callerA [] s₁ H := by
    obtain ⟨mc, l1, l2⟩ := lim
    exact ⟨rfl, ⟨kin', names gl, ⟨mb, names bn, bb⟩, ⟨mc, names l1, l2⟩⟩, fun _ _ e => of_hidT e, Nat.le_of_eq (hidT_size _ _), trivial, fun _ q => (List.not_mem_nil q).elim, ok, .of_eq gens⟩
  obtain ⟨fd, Gf, bnd, _⟩ := G _ kin' (names gl)
  refine codeAny_mono (Gf.run callerA [] s₁ H ⟨[.ref a], []⟩ [.ref a] [V.ref a] _ _ rfl hr env (bnd s₁ [.ref a] kin rfl) (.cons rfl .nil) (asks H sq)) ?_
  rintro (er | fl) s' h
  · exact (show False from h).elim
  cases fl with
  | next => exact h.elim
  | brk => exact h.elim
  | cont => exact h.elim
  | ret u =>
    obtain ⟨v, H', os, bare, un, ok', rv, q⟩ := h
    have q : v = .bl true := q
    subst q
    have eu : u = Value.bool true := rv
    subst eu
    refine ⟨rfl, OldK.of_keep fun b o e => ?_, os, bare⟩
    rcases only b with z | ⟨ob, xs, z⟩
    · exact un.keep b o e z (fun q => (List.not_mem_nil q).elim) (by simp)
    · have e1 := (ok b _ z).1
      have e2 := (ok' b _ (un.frzs b ob _ z)).1
      rw [e] at e1
      cases e1
      exact e2
end Elk
set_option Elab.async false
set_option linter.all false
set_option maxRecDepth 100000
set_option maxHeartbeats 4000000
namespace Elk
open PySem PySem.Spec PyProof.Rows L2
/-! ### orders by place -/
theorem ins1_map {α β : Type} (f : α → β) (x : α) (row : List α) : ins1 (f x) (row.map f) = (ins1 x row).map (List.map f) := by
  unfold ins1
  rw [List.length_map, List.map_map]
  apply List.map_congr_left
  intro i _
  show (row.map f).take i ++ [f x] ++ (row.map f).drop i = (row.take i ++ [x] ++ row.drop i).map f
  rw [List.map_append, List.map_append, List.map_take, List.map_drop]
  rfl
theorem ordFold_map {α β : Type} (f : α → β) : ∀ (xs : List α) (found : List (List α)), (xs.map f).foldl ordStep (found.map (List.map f)) = (xs.foldl ordStep found).map (List.map f)
  | [], found => rfl
  | x :: xs, found => by
    rw [List.map_cons, List.foldl_cons, List.foldl_cons, ← ordFold_map f xs]
    congr 1
    unfold ordStep
    rw [List.flatMap_map, List.map_flatMap]
    congr 1
    funext row
    exact ins1_map f x row
theorem orders_map {α β : Type} (f : α → β) (xs : List α) : ordersL (xs.map f) = (ordersL xs).map (List.map f) := ordFold_map f xs [[]]
theorem ordFold_all {α : Type} : ∀ (xs : List α) (found : List (List α)) (done : List α), (∀ row, row.Perm done → row ∈ found) → ∀ row, row.Perm (done ++ xs) → row ∈ xs.foldl ordStep found
  | [], found, done, h, row, p => h row (by rw [List.append_nil] at p; exact p)
  | x :: xs, found, done, h, row, p => by
    rw [List.foldl_cons]
    refine ordFold_all xs (ordStep found x) (done ++ [x]) (fun r q => ?_) row (by rw [List.append_assoc]; exact p)
    have hx : x ∈ r := q.mem_iff.mpr (List.mem_append_right _ List.mem_cons_self)
    obtain ⟨l1, l2, rfl⟩ := List.append_of_mem hx
    have q2 : (x :: (l1 ++ l2)).Perm (x :: done) := (List.perm_middle.symm.trans q).trans List.perm_append_comm
    refine List.mem_flatMap.mpr ⟨l1 ++ l2, h _ (List.perm_cons x |>.mp q2), List.mem_map.mpr ⟨l1.length, List.mem_range.mpr (by rw [List.length_append]; omega), ?_⟩⟩
    rw [List.take_left, List.drop_left, List.append_assoc]
    rfl
theorem orders_all {α : Type} {xs row : List α} (p : row.Perm xs) : row ∈ ordersL xs := ordFold_all xs [[]] [] (fun row q => by rw [q.eq_nil]; exact List.mem_cons_self) row p
def rwP (rs : List Row) (p : List Nat) : List Row := p.map fun i => rs.getD i noRow
theorem rw_id (rs : List Row) : rwP rs (List.range rs.length) = rs := (list_getD (d := noRow) rfl fun k _ => rfl).symm
theorem orders_rw (rs : List Row) : ordersL rs = (ordersL (List.range rs.length)).map (rwP rs) := by
  have h := orders_map (fun i => rs.getD i noRow) (List.range rs.length)
  have e : (List.range rs.length).map (fun i => rs.getD i noRow) = rs := rw_id rs
  rw [e] at h
  exact h
def lkP (lk : Nat → Nat → Bool) (p : List Nat) (n i j : Nat) : Bool := decide (i < n) && (decide (j < n) && lk (p.getD i 0) (p.getD j 0))
def codeL (xs : List Nat) : Nat := xs.foldr (fun d a => d + 16 * a) 0
def digit (o : Option Nat) : Nat := match o with
  | none => 0
  | some j => j + 1
def keyAt (lk : Nat → Nat → Bool) (n : Nat) (p : List Nat) (x : Nat) : Option Nat := ((trees (lkP lk p n) n).1.getD (p.idxOf x) none).map fun j => p.getD j 0
def kyN (lk : Nat → Nat → Bool) (n : Nat) (p : List Nat) : Nat := codeL ((List.range n).map fun x => digit (keyAt lk n p x))
theorem code_inj : ∀ {xs ys : List Nat}, xs.length = ys.length → (∀ x ∈ xs, x < 16) → (∀ y ∈ ys, y < 16) → codeL xs = codeL ys → xs = ys
  | [], [], _, _, _, _ => rfl
  | x :: xs, y :: ys, hl, hx, hy, e => by
    have e : x + 16 * codeL xs = y + 16 * codeL ys := e
    have h1 := hx x List.mem_cons_self
    have h2 := hy y List.mem_cons_self
    have e1 : x = y := by omega
    have e2 : codeL xs = codeL ys := by omega
    rw [e1, code_inj (by simpa using hl) (fun z hz => hx z (List.mem_cons_of_mem _ hz)) (fun z hz => hy z (List.mem_cons_of_mem _ hz)) e2]
theorem digit_inj {a b : Option Nat} (h : digit a = digit b) : a = b := by
  cases a with
  | none => cases b with
    | none => rfl
    | some j => exact absurd h (Nat.succ_ne_zero j).symm
  | some i => cases b with
    | none => exact absurd h (Nat.succ_ne_zero i)
    | some j => rw [Nat.succ.inj h]
section
variable {rs : List Row} {p q : List Nat}
abbrev PmR (rs : List Row) (p : List Nat) : Prop := p.Perm (List.range rs.length)
theorem PmR.len (h : PmR rs p) : p.length = rs.length := by rw [h.length_eq, List.length_range]
theorem PmR.lt (h : PmR rs p) {x : Nat} (hx : x ∈ p) : x < rs.length := List.mem_range.mp (h.mem_iff.mp hx)
theorem PmR.nd (h : PmR rs p) : p.Nodup := h.nodup_iff.mpr List.nodup_range
theorem PmR.at (h : PmR rs p) {i : Nat} (hi : i < rs.length) : p.getD i 0 < rs.length := h.lt (List.mem_of_getElem? (some_getD (by rw [h.len]; exact hi)))
theorem rw_perm (h : PmR rs p) : (rwP rs p).Perm rs := by
  have := h.map fun i => rs.getD i noRow
  have e : (List.range rs.length).map (fun i => rs.getD i noRow) = rs := rw_id rs
  rw [e] at this
  exact this
theorem rw_len (p : List Nat) : (rwP rs p).length = p.length := List.length_map _
theorem rw_get (h : PmR rs p) {i : Nat} (hi : i < rs.length) : (rwP rs p)[i]? = some (rs.getD (p.getD i 0) noRow) := by
  unfold rwP
  rw [List.getElem?_map, some_getD (d := 0) (by rw [h.len]; exact hi)]
  rfl
theorem rw_name (h : PmR rs p) {i : Nat} (hi : i < rs.length) : nameAt (rwP rs p) i = nameAt rs (p.getD i 0) := nameAt_at (rw_get h hi)
theorem rw_lk (h : PmR rs p) : lkR (rwP rs p) = lkP (lkR rs) p rs.length := by
  funext i j
  unfold lkP
  by_cases hi : i < rs.length
  · by_cases hj : j < rs.length
    · rw [decide_eq_true hi, decide_eq_true hj, Bool.true_and, Bool.true_and, lkR_at (rw_get h hi) (rw_get h hj), lkR_at (row_get (h.at hi)) (row_get (h.at hj))]
    · rw [decide_eq_false hj, Bool.false_and, Bool.and_false]
      unfold lkR
      rw [List.getElem?_eq_none (l := rwP rs p) (i := j) (by rw [rw_len, h.len]; omega)]
      cases (rwP rs p)[i]? <;> rfl
  · rw [decide_eq_false hi, Bool.false_and]
    unfold lkR
    rw [List.getElem?_eq_none (l := rwP rs p) (i := i) (by rw [rw_len, h.len]; omega)]
theorem rw_trees (h : PmR rs p) : treesR (rwP rs p) = trees (lkP (lkR rs) p rs.length) rs.length := by
  unfold treesR
  rw [rw_lk h, rw_len, h.len]
theorem key_lt (h : PmR rs p) {x j : Nat} (hx : x < rs.length) (e : keyAt (lkR rs) rs.length p x = some j) : j < rs.length := by
  unfold keyAt at e
  rw [← rw_trees h] at e
  obtain ⟨a, a1, a2⟩ := Option.map_eq_some_iff.mp e
  have := (parsR_lt a1).2
  rw [rw_len, h.len] at this
  rw [← a2]
  exact h.at this
theorem rw_par (h : PmR rs p) {z : Str × Option Str} : z ∈ parR (rwP rs p) ↔ ∃ x, x < rs.length ∧ z = (nameAt rs x, (keyAt (lkR rs) rs.length p x).map (nameAt rs)) := by
  have nm : ∀ o : Option Nat, (∀ j, o = some j → j < rs.length) → o.map (nameAt (rwP rs p)) = (o.map fun j => p.getD j 0).map (nameAt rs) := fun o ho => by
    cases o with
    | none => rfl
    | some j => show some _ = some _; rw [rw_name h (ho j rfl)]
  have hb : ∀ i j, (parsR (rwP rs p)).getD i none = some j → j < rs.length := fun i j e => by
    have := (parsR_lt e).2
    rwa [rw_len, h.len] at this
  unfold parR
  rw [List.mem_map, rw_len, h.len]
  constructor
  · rintro ⟨i, hi, rfl⟩
    have hi := List.mem_range.mp hi
    refine ⟨p.getD i 0, h.at hi, ?_⟩
    have ei : p.idxOf (p.getD i 0) = i := by
      have hi2 : i < p.length := by rw [h.len]; exact hi
      have : p.getD i 0 = p[i] := by rw [List.getD_eq_getElem?_getD, List.getElem?_eq_getElem hi2]; rfl
      rw [this]
      exact h.nd.idxOf_getElem i hi2
    rw [rw_name h hi, nm _ (hb i)]
    unfold keyAt
    rw [ei, ← rw_trees h]
    rfl
  · rintro ⟨x, hx, rfl⟩
    have hm : x ∈ p := h.mem_iff.mpr (List.mem_range.mpr hx)
    have hi := List.idxOf_lt_length_of_mem hm
    have hi' : p.idxOf x < rs.length := by rw [← h.len]; exact hi
    refine ⟨p.idxOf x, List.mem_range.mpr hi', ?_⟩
    have ex : p.getD (p.idxOf x) 0 = x := by
      rw [List.getD_eq_getElem?_getD, List.getElem?_eq_getElem hi, List.getElem_idxOf hi]; rfl
    rw [rw_name h hi', ex, nm _ (hb _)]
    unfold keyAt
    rw [← rw_trees h]
    rfl
theorem same_key (lok : LineOk rs) (h16 : rs.length < 16) (hp : PmR rs p) (hq : PmR rs q) : SameP (rwP rs p) (rwP rs q) ↔ kyN (lkR rs) rs.length p = kyN (lkR rs) rs.length q := by
  have hd := lok.nd
  have mapinj : ∀ {a b : Option Nat}, (∀ j, a = some j → j < rs.length) → (∀ j, b = some j → j < rs.length) → a.map (nameAt rs) = b.map (nameAt rs) → a = b := fun {a b} ha hb e => by
    cases a with
    | none => cases b with
      | none => rfl
      | some j => cases e
    | some i => cases b with
      | none => cases e
      | some j =>
        injection e with e
        rw [nameAt_inj hd (ha i rfl) (hb j rfl) e]
  have dl : ∀ {r : List Nat}, PmR rs r → ∀ x ∈ (List.range rs.length).map (fun x => digit (keyAt (lkR rs) rs.length r x)), x < 16 := fun {r} hr y hy => by
    obtain ⟨x, x1, x2⟩ := List.mem_map.mp hy
    cases e : keyAt (lkR rs) rs.length r x with
    | none =>
      rw [e] at x2
      have x2 : 0 = y := x2
      omega
    | some j =>
      rw [e] at x2
      have x2 : j + 1 = y := x2
      have := key_lt hr (List.mem_range.mp x1) e
      omega
  constructor
  · intro h
    unfold kyN
    congr 1
    apply List.map_congr_left
    intro x hx
    have hx := List.mem_range.mp hx
    obtain ⟨y, y1, y2⟩ := (rw_par hq).mp ((h _).mp ((rw_par hp).mpr ⟨x, hx, rfl⟩))
    injection y2 with y2 y3
    have := nameAt_inj hd hx y1 y2
    subst this
    rw [mapinj (fun j => key_lt hp hx) (fun j => key_lt hq hx) y3]
  · intro h
    have e := code_inj (by rw [List.length_map, List.length_map]) (dl hp) (dl hq) h
    have ek : ∀ x, x < rs.length → keyAt (lkR rs) rs.length p x = keyAt (lkR rs) rs.length q x := fun x hx => by
      have := congrArg (fun l => l[x]?) e
      rw [List.getElem?_map, List.getElem?_map, List.getElem?_range hx] at this
      injection this with this
      exact digit_inj this
    intro z
    rw [rw_par hp, rw_par hq]
    exact ⟨fun ⟨x, x1, x2⟩ => ⟨x, x1, by rw [x2, ek x x1]⟩, fun ⟨x, x1, x2⟩ => ⟨x, x1, by rw [x2, ek x x1]⟩⟩
theorem sameT_key (lok : LineOk rs) (h16 : rs.length < 16) (hp : PmR rs p) (hq : PmR rs q) : sameT (rwP rs q) (rwP rs p) = (kyN (lkR rs) rs.length q == kyN (lkR rs) rs.length p) := by
  rw [Bool.eq_iff_iff, beq_iff_eq, sameT_iff (lok.perm (rw_perm hq)) ((rw_perm hp).trans (rw_perm hq).symm)]
  exact same_key lok h16 hq hp
end
end Elk
set_option Elab.async false
set_option linter.all false
set_option maxRecDepth 100000
set_option maxHeartbeats 4000000
namespace Elk
open PySem PySem.Spec PyProof.Rows L2
/-! ### all small tables -/
def ordN : Nat → List (List Nat)
  | 1 => [[0]]
  | 2 => [[1, 0], [0, 1]]
  | 3 => [[2, 1, 0], [1, 2, 0], [1, 0, 2], [2, 0, 1], [0, 2, 1], [0, 1, 2]]
  | 4 => [[3, 2, 1, 0], [2, 3, 1, 0], [2, 1, 3, 0], [2, 1, 0, 3], [3, 1, 2, 0], [1, 3, 2, 0], [1, 2, 3, 0], [1, 2, 0, 3], [3, 1, 0, 2], [1, 3, 0, 2], [1, 0, 3, 2], [1, 0, 2, 3], [3, 2, 0, 1], [2, 3, 0, 1], [2, 0, 3, 1], [2, 0, 1, 3], [3, 0, 2, 1], [0, 3, 2, 1], [0, 2, 3, 1], [0, 2, 1, 3], [3, 0, 1, 2], [0, 3, 1, 2], [0, 1, 3, 2], [0, 1, 2, 3]]
  | _ => []
theorem ordN_eq {n : Nat} (h1 : 1 ≤ n) (h4 : n ≤ 4) : ordersL (List.range n) = ordN n := by
  have : ∀ m, m ≤ 4 → 1 ≤ m → ordersL (List.range m) = ordN m := by decide +kernel
  exact this n h4 h1
theorem ordN_len {n : Nat} (h4 : n ≤ 4) : (ordN n).length ≤ 63 := by
  have : ∀ m, m ≤ 4 → (ordN m).length ≤ 63 := by decide +kernel
  exact this n h4
def grpK (k : List Nat → Nat) : Nat → List (List Nat) → List (List (List Nat))
  | 0, _ => []
  | _ + 1, [] => []
  | f + 1, r :: rest => ((r :: rest).filter fun q => k q == k r) :: grpK k f ((r :: rest).filter fun q => !(k q == k r))
def headK : List (List Nat) → List Nat
  | [] => []
  | p :: _ => p
def chkC (lk : Nat → Nat → Bool) (n : Nat) (os : List (List Nat)) (k : List Nat → Nat) : Bool := os.all fun p => cntG (trees (lkP lk p n) n).2 (factN n) == (os.filter fun q => k q == k p).length
def chkU (lk : Nat → Nat → Bool) (n : Nat) (os : List (List Nat)) (k : List Nat → Nat) (cs : List (List (List Nat))) : Bool :=
  cs.all (fun c => !c.isEmpty && c == os.filter fun q => k q == k (headK c)) && (isort nlt (cs.map fun c => k (headK c)) == isort nlt ((waysL lk 6 (List.range n)).map k) && (cw lk (List.range n) == cs.length && (cs.map List.length).sum == os.length))
def chkP1 (n g a i : Nat) (os : List (List Nat)) (k : List Nat → Nat) : Bool := decide (1 ≤ g) && (decide (g + a ≤ n) && (List.range n).all fun x => (decide (g ≤ x + 1) && decide (x + a + 1 ≤ n)) == os.any fun p => k p == k (List.range n) && p.idxOf i == x)
def chkP (lk : Nat → Nat → Bool) (n : Nat) (os : List (List Nat)) (k : List Nat → Nat) : Bool := (List.range n).all fun i => chkP1 n ((trees lk n).2.getD i []).length (abv (trees lk n).1 n i).length i os k
def chk (n : Nat) (lk : Nat → Nat → Bool) : Bool := chkC lk n (ordN n) (kyN lk n) && (chkP lk n (ordN n) (kyN lk n) && chkU lk n (ordN n) (kyN lk n) (grpK (kyN lk n) (ordN n).length (ordN n)))
def tab (n : Nat) (b01 b02 b03 b12 b13 b23 : Bool) (i j : Nat) : Bool := decide (i < n) && (decide (j < n) && ([[true, b01, b02, b03], [b01, true, b12, b13], [b02, b12, true, b23], [b03, b13, b23, true]].getD i []).getD j false)
theorem chk4tt : ∀ c d e f : Bool, chk 4 (tab 4 true true c d e f) = true := by decide +kernel
theorem chk4tf : ∀ c d e f : Bool, chk 4 (tab 4 true false c d e f) = true := by decide +kernel
theorem chk4ft : ∀ c d e f : Bool, chk 4 (tab 4 false true c d e f) = true := by decide +kernel
theorem chk4ff : ∀ c d e f : Bool, chk 4 (tab 4 false false c d e f) = true := by decide +kernel
theorem chk4 : ∀ a b c d e f : Bool, chk 4 (tab 4 a b c d e f) = true
  | true, true => chk4tt
  | true, false => chk4tf
  | false, true => chk4ft
  | false, false => chk4ff
theorem chk3 : ∀ a b d : Bool, chk 3 (tab 3 a b false d false false) = true := by decide +kernel
theorem chk2 : ∀ a : Bool, chk 2 (tab 2 a false false false false false) = true := by decide +kernel
theorem chk1 : chk 1 (tab 1 false false false false false false) = true := by decide +kernel
end Elk
set_option Elab.async false
set_option linter.all false
set_option maxRecDepth 100000
set_option maxHeartbeats 4000000
namespace Elk
open PySem PySem.Spec PyProof.Rows L2
/-! ### short lines -/
section
variable {rs : List Row} {n : Nat}
theorem lk_self (h : FewOk n rs) {i : Nat} (hi : i < n) : lkR rs i i = true := by
  have hi : i < rs.length := by rw [h.len]; exact hi
  obtain ⟨k, hk⟩ := List.exists_mem_of_ne_nil _ (h.ne _ (List.mem_of_getElem? (row_get hi)))
  rw [lkR_at (row_get hi) (row_get hi)]
  exact haveKind_iff.mpr ⟨k, hk, hk⟩
theorem lk_swap (rs : List Row) (i j : Nat) : lkR rs i j = lkR rs j i := Bool.eq_iff_iff.mpr ⟨lkR_sy i j, lkR_sy j i⟩
theorem lk_out {i j : Nat} (h : ¬ j < rs.length) : lkR rs i j = false := by
  unfold lkR
  rw [List.getElem?_eq_none (l := rs) (i := j) (by omega)]
  cases rs[i]? <;> rfl
theorem lk_tab (h : FewOk n rs) (h4 : n ≤ 4) : lkR rs = tab n (lkR rs 0 1) (lkR rs 0 2) (lkR rs 0 3) (lkR rs 1 2) (lkR rs 1 3) (lkR rs 2 3) := by
  funext i j
  unfold tab
  by_cases hi : i < n
  · by_cases hj : j < n
    · rw [decide_eq_true hi, decide_eq_true hj, Bool.true_and, Bool.true_and]
      have ei : i = 0 ∨ i = 1 ∨ i = 2 ∨ i = 3 := by omega
      have ej : j = 0 ∨ j = 1 ∨ j = 2 ∨ j = 3 := by omega
      rcases ei with rfl | rfl | rfl | rfl <;> rcases ej with rfl | rfl | rfl | rfl <;> first | exact lk_self h hi | exact lk_swap rs _ _ | rfl
    · rw [decide_eq_false hj, Bool.false_and, Bool.and_false]
      exact lk_out (by rw [h.len]; exact hj)
  · rw [decide_eq_false hi, Bool.false_and, lk_swap]
    exact lk_out (by rw [h.len]; exact hi)
theorem chk_few (h : FewOk n rs) (h1 : 1 ≤ n) (h4 : n ≤ 4) : chk n (lkR rs) = true := by
  have e := congrArg (chk n) (lk_tab h h4)
  have o : ∀ i j, n ≤ j → lkR rs i j = false := fun i j k => lk_out (by rw [h.len]; omega)
  rcases (by omega : n = 1 ∨ n = 2 ∨ n = 3 ∨ n = 4) with rfl | rfl | rfl | rfl
  · rw [o 0 1 (by omega), o 0 2 (by omega), o 0 3 (by omega), o 1 2 (by omega), o 1 3 (by omega), o 2 3 (by omega)] at e
    exact e.trans chk1
  · rw [o 0 2 (by omega), o 0 3 (by omega), o 1 2 (by omega), o 1 3 (by omega), o 2 3 (by omega)] at e
    exact e.trans (chk2 _)
  · rw [o 0 3 (by omega), o 1 3 (by omega), o 2 3 (by omega)] at e
    exact e.trans (chk3 _ _ _)
  · exact e.trans (chk4 _ _ _ _ _ _)
abbrev kR (rs : List Row) : List Nat → Nat := kyN (lkR rs) rs.length
theorem ordN_pm (h : FewOk n rs) (h1 : 1 ≤ n) (h4 : n ≤ 4) {q : List Nat} (hq : q ∈ ordN n) : PmR rs q := by
  rw [← ordN_eq h1 h4] at hq
  have := orders_perm hq
  rw [← h.len] at this
  exact this
theorem pm_ordN (h : FewOk n rs) (h1 : 1 ≤ n) (h4 : n ≤ 4) {q : List Nat} (hq : PmR rs q) : q ∈ ordN n := by
  rw [← ordN_eq h1 h4, ← h.len]
  exact orders_all hq
theorem orders_N (h : FewOk n rs) (h1 : 1 ≤ n) (h4 : n ≤ 4) : ordersL rs = (ordN n).map (rwP rs) := by
  rw [orders_rw, h.len, ordN_eq h1 h4]
theorem row_back (h : FewOk n rs) (h1 : 1 ≤ n) (h4 : n ≤ 4) {row : List Row} (p : row.Perm rs) : ∃ q, q ∈ ordN n ∧ rwP rs q = row := by
  have := orders_all p
  rw [orders_N h h1 h4] at this
  obtain ⟨q, a, b⟩ := List.mem_map.mp this
  exact ⟨q, a, b⟩
theorem so_eq (h : FewOk n rs) (h1 : 1 ≤ n) (h4 : n ≤ 4) {p : List Nat} (hp : PmR rs p) {ps : List (List Nat)} (hs : ∀ q ∈ ps, PmR rs q) :
    (ps.map (rwP rs)).filter (fun row => sameT row (rwP rs p)) = (ps.filter fun q => kR rs q == kR rs p).map (rwP rs) := by
  rw [List.filter_map]
  congr 1
  apply List.filter_congr
  intro q hq
  exact sameT_key h.lok (by rw [h.len]; omega) hp (hs q hq)
theorem kR_same (h : FewOk n rs) (h4 : n ≤ 4) {p q : List Nat} (hp : PmR rs p) (hq : PmR rs q) : SameP (rwP rs p) (rwP rs q) ↔ kR rs p = kR rs q := same_key h.lok (by rw [h.len]; omega) hp hq
theorem class_min (h : FewOk n rs) (h1 : 1 ≤ n) (h4 : n ≤ 4) {p : List Nat} (hp : PmR rs p) :
    ∃ y ys, ((ordN n).filter fun q => kR rs q == kR rs p).map (rwP rs) = y :: ys ∧ W.minOf (namesR y) (ys.map namesR) = normN (rwP rs p) := by
  have lokp := h.lok.perm (rw_perm hp)
  have hn := normR_perm lokp.nd
  obtain ⟨q, q1, q2⟩ := row_back h h1 h4 (hn.trans (rw_perm hp))
  have hq := ordN_pm h h1 h4 q1
  have hm : normR (rwP rs p) ∈ ((ordN n).filter fun q => kR rs q == kR rs p).map (rwP rs) := List.mem_map.mpr ⟨q, List.mem_filter.mpr ⟨q1, by
    rw [beq_iff_eq, ← kR_same h h4 hq hp, q2]
    exact (normR_same lokp).symm⟩, q2⟩
  have hall : ∀ row ∈ ((ordN n).filter fun q => kR rs q == kR rs p).map (rwP rs), (W.DatumOrd.lt (namesR row) (normN (rwP rs p)) : Bool) = false := fun row hr => by
    obtain ⟨r, r1, rfl⟩ := List.mem_map.mp hr
    obtain ⟨r2, r3⟩ := List.mem_filter.mp r1
    have hr := ordN_pm h h1 h4 r2
    exact normN_least lokp ((rw_perm hr).trans (rw_perm hp).symm) ((kR_same h h4 hp hr).mpr (beq_iff_eq.mp r3).symm)
  cases e : ((ordN n).filter fun q => kR rs q == kR rs p).map (rwP rs) with
  | nil => rw [e] at hm; exact absurd hm List.not_mem_nil
  | cons y ys =>
    rw [e] at hm hall
    refine ⟨y, ys, rfl, min_is (slo_list slo_str) ?_ ?_⟩
    · rw [← List.map_cons (f := namesR), ← normR_names lokp.nd]
      exact List.mem_map.mpr ⟨_, hm, rfl⟩
    · intro z hz
      rw [← List.map_cons (f := namesR)] at hz
      obtain ⟨row, r1, rfl⟩ := List.mem_map.mp hz
      exact hall row r1
theorem chkC_at (h : FewOk n rs) (h1 : 1 ≤ n) (h4 : n ≤ 4) {p : List Nat} (hp : PmR rs p) : cntA (rwP rs p) = ((ordN n).filter fun q => kR rs q == kR rs p).length := by
  have := (Bool.and_eq_true _ _ ▸ chk_few h h1 h4).1
  have := List.all_eq_true.mp this p (pm_ordN h h1 h4 hp)
  have := beq_iff_eq.mp this
  unfold cntA grpsR
  rw [rw_trees hp, rw_len, hp.len]
  unfold kR
  rw [h.len]
  exact this
theorem idx_rw (h : FewOk n rs) {q : List Nat} (hq : PmR rs q) {i : Nat} (hi : i < rs.length) : (namesR (rwP rs q)).idxOf (nameAt rs i) = q.idxOf i := by
  have hm : i ∈ q := hq.mem_iff.mpr (List.mem_range.mpr hi)
  have hx := List.idxOf_lt_length_of_mem hm
  have hx' : q.idxOf i < rs.length := by rw [← hq.len]; exact hx
  have e : nameAt (rwP rs q) (q.idxOf i) = nameAt rs i := by
    rw [rw_name hq hx', List.getD_eq_getElem?_getD, List.getElem?_eq_getElem hx, List.getElem_idxOf hx]
    rfl
  rw [← e]
  exact rk_at (h.lok.perm (rw_perm hq)).nd (by rw [rw_len]; exact hx)
theorem line_right (h1 : 1 ≤ n) (h4 : n ≤ 4) (h : FewOk n rs) : LineR rs ((ordersL rs).filter fun row => sameT row rs) := by
  have lok := h.lok
  have hid : PmR rs (List.range rs.length) := .refl _
  have eso : ((ordersL rs).filter fun row => sameT row rs) = ((ordN n).filter fun q => kR rs q == kR rs (List.range rs.length)).map (rwP rs) := by
    have := so_eq h h1 h4 hid (ps := ordN n) fun q hq => ordN_pm h h1 h4 hq
    rw [rw_id] at this
    rw [orders_N h h1 h4]
    exact this
  have C := chkC_at h h1 h4 hid
  rw [rw_id] at C
  refine ⟨lok, fun row hr => orders_perm (List.mem_filter.mp hr).1, ?_, ?_, ?_, ali_of_same lok (normR_perm lok.nd) (normR_same lok), ?_⟩
  · rw [eso, List.length_map]
    exact Nat.le_trans (List.length_filter_le _ _) (ordN_len h4)
  · rw [eso, List.length_map]
    exact C
  · obtain ⟨y, ys, e1, e2⟩ := class_min h h1 h4 hid
    rw [rw_id] at e2
    exact ⟨y, ys, eso.trans e1, e2⟩
  · intro i hi
    have hin : i < n := by rw [← h.len]; exact hi
    have c0 := (Bool.and_eq_true _ _ ▸ chk_few h h1 h4).2
    have c1 := (Bool.and_eq_true _ _ ▸ c0).1
    have c2 := List.all_eq_true.mp c1 i (List.mem_range.mpr hin)
    unfold chkP1 at c2
    rw [Bool.and_eq_true, Bool.and_eq_true, decide_eq_true_iff, decide_eq_true_iff] at c2
    obtain ⟨g1, g2, c3⟩ := c2
    have epos : posA rs i = ((((trees (lkR rs) n).2.getD i []).length : Int) - 1, ((n : Int) - 1) - ((abv (trees (lkR rs) n).1 n i).length : Int)) := by
      unfold posA grpsR parsR treesR
      rw [h.len]
    generalize ((trees (lkR rs) n).2.getD i []).length = g at g1 g2 c3 epos
    generalize (abv (trees (lkR rs) n).1 n i).length = a at g1 g2 c3 epos
    refine ⟨g - 1, n - a - g, ?_, by omega, fun x => ?_⟩
    · rw [epos]
      congr 1
      · omega
      · omega
    · have key : (∃ q, q ∈ ordN n ∧ kR rs q = kR rs (List.range rs.length) ∧ q.idxOf i = x) ↔ x ∈ (((ordersL rs).filter fun row => sameT row rs).map fun row => (namesR row).idxOf (nameAt rs i)) := by
        rw [eso, List.map_map, List.mem_map]
        constructor
        · rintro ⟨q, q1, q2, q3⟩
          exact ⟨q, List.mem_filter.mpr ⟨q1, beq_iff_eq.mpr q2⟩, (idx_rw h (ordN_pm h h1 h4 q1) hi).trans q3⟩
        · rintro ⟨q, q1, q2⟩
          obtain ⟨q3, q4⟩ := List.mem_filter.mp q1
          exact ⟨q, q3, beq_iff_eq.mp q4, (idx_rw h (ordN_pm h h1 h4 q3) hi).symm.trans q2⟩
      rw [← key]
      have c4 : ∀ y, y < n → ((g ≤ y + 1 ∧ y + a + 1 ≤ n) ↔ ∃ q, q ∈ ordN n ∧ kR rs q = kR rs (List.range rs.length) ∧ q.idxOf i = y) := fun y hy => by
        have c5 := beq_iff_eq.mp (List.all_eq_true.mp c3 y (List.mem_range.mpr hy))
        rw [Bool.eq_iff_iff, Bool.and_eq_true, decide_eq_true_iff, decide_eq_true_iff, List.any_eq_true] at c5
        rw [c5]
        unfold kR
        rw [h.len]
        refine exists_congr fun q => and_congr Iff.rfl ?_
        rw [Bool.and_eq_true, beq_iff_eq, beq_iff_eq]
      constructor
      · intro hx
        have hxn : x < n := by
          obtain ⟨q, q1, q2, q3⟩ := hx
          have hq := ordN_pm h h1 h4 q1
          have := List.idxOf_lt_length_of_mem (hq.mem_iff.mpr (List.mem_range.mpr hi))
          rw [q3, hq.len, h.len] at this
          exact this
        have := (c4 x hxn).mpr hx
        omega
      · intro hx
        exact (c4 x (by omega)).mp (by omega)
end
end Elk
set_option Elab.async false
set_option linter.all false
set_option maxRecDepth 100000
set_option maxHeartbeats 4000000
namespace Elk
open PySem PySem.Spec PyProof.Rows L2
/-! ### unlike orders -/
section
variable {rs : List Row} {n : Nat}
def entK (rs : List Row) (c : List (List Nat)) : List Str × Int := (minL ((c.map (rwP rs)).map namesR), (c.length : Int))
theorem unl_grp (h : FewOk n rs) (h1 : 1 ≤ n) (h4 : n ≤ 4) : ∀ (f : Nat) (ps : List (List Nat)), (∀ q ∈ ps, PmR rs q) → unlF f (ps.map (rwP rs)) = (grpK (kR rs) f ps).map (entK rs)
  | 0, _, _ => rfl
  | f + 1, [], _ => rfl
  | f + 1, r :: rest, hs => by
    have hr := hs r List.mem_cons_self
    have e1 := so_eq h h1 h4 hr hs
    have e2 : ((r :: rest).map (rwP rs)).filter (fun row => decide (row ∉ ((r :: rest).map (rwP rs)).filter fun row => sameT row (rwP rs r))) = ((r :: rest).filter fun q => !(kR rs q == kR rs r)).map (rwP rs) := by
      rw [List.filter_map]
      congr 1
      apply List.filter_congr
      intro q hq
      show decide (rwP rs q ∉ ((r :: rest).map (rwP rs)).filter fun row => sameT row (rwP rs r)) = !(kR rs q == kR rs r)
      have := sameT_key h.lok (by rw [h.len]; omega) hr (hs q hq)
      rw [Bool.eq_iff_iff, decide_eq_true_iff, Bool.not_eq_true', List.mem_filter, this]
      refine ⟨fun k => ?_, fun k m => ?_⟩
      · cases e : (kR rs q == kR rs r) with
        | false => rfl
        | true => exact absurd ⟨List.mem_map.mpr ⟨q, hq, rfl⟩, e⟩ k
      · rw [show (kR rs q == kR rs r) = false from k] at m
        exact Bool.false_ne_true m.2
    have ih := unl_grp h h1 h4 f ((r :: rest).filter fun q => !(kR rs q == kR rs r)) fun q hq => hs q (List.mem_filter.mp hq).1
    show unlF (f + 1) (rwP rs r :: rest.map (rwP rs)) = (grpK (kR rs) (f + 1) (r :: rest)).map (entK rs)
    rw [unlF, grpK, List.map_cons, ← ih]
    show (minL (((((r :: rest).map (rwP rs)).filter fun row => sameT row (rwP rs r))).map namesR), ((((((r :: rest).map (rwP rs)).filter fun row => sameT row (rwP rs r))).length : Nat) : Int)) :: unlF f (((r :: rest).map (rwP rs)).filter fun row => decide (row ∉ ((r :: rest).map (rwP rs)).filter fun row => sameT row (rwP rs r))) = _
    rw [e2, e1, List.length_map]
    rfl
theorem chkU_at (h : FewOk n rs) (h1 : 1 ≤ n) (h4 : n ≤ 4) : let cs := grpK (kR rs) (ordN n).length (ordN n)
    (∀ c ∈ cs, c ≠ [] ∧ c = (ordN n).filter fun q => kR rs q == kR rs (headK c)) ∧ (cs.map fun c => kR rs (headK c)).Perm ((waysL (lkR rs) 6 (List.range n)).map (kR rs)) ∧ cw (lkR rs) (List.range n) = cs.length ∧ (cs.map List.length).sum = (ordN n).length := by
  have c0 := (Bool.and_eq_true _ _ ▸ chk_few h h1 h4).2
  have c1 := (Bool.and_eq_true _ _ ▸ c0).2
  unfold chkU at c1
  rw [Bool.and_eq_true, Bool.and_eq_true, Bool.and_eq_true, beq_iff_eq, beq_iff_eq, beq_iff_eq, List.all_eq_true] at c1
  obtain ⟨a1, a2, a3, a4⟩ := c1
  unfold kR
  rw [h.len]
  refine ⟨fun c hc => ?_, ?_, a3, a4⟩
  · have := a1 c hc
    rw [Bool.and_eq_true, Bool.not_eq_true', List.isEmpty_eq_false_iff, beq_iff_eq] at this
    exact this
  · exact (isort_perm nlt _).symm.trans (a2 ▸ isort_perm nlt _)
theorem sum_perm {xs ys : List Int} (p : xs.Perm ys) : xs.sum = ys.sum := by
  induction p with
  | nil => rfl
  | cons x _ ih => rw [List.sum_cons, List.sum_cons, ih]
  | swap x y l => rw [List.sum_cons, List.sum_cons, List.sum_cons, List.sum_cons]; omega
  | trans _ _ a b => exact a.trans b
theorem head_mem {c : List (List Nat)} (h : c ≠ []) : headK c ∈ c := by
  cases c with
  | nil => exact absurd rfl h
  | cons p c => exact List.mem_cons_self
theorem minL_cons {xs ys : List (List Row)} {y : List Row} (h : xs = y :: ys) : minL (xs.map namesR) = W.minOf (namesR y) (ys.map namesR) := by rw [h]; rfl
theorem unlike_right (h1 : 1 ≤ n) (h4 : n ≤ 4) (h : FewOk n rs) : UnlR rs (ordersL rs) := by
  have lok := h.lok
  obtain ⟨cls, cpm, ccw, csum⟩ := chkU_at h h1 h4
  have eos := orders_N h h1 h4
  have elen : (ordersL rs).length = (ordN n).length := by rw [eos, List.length_map]
  have eunl : unlF (ordersL rs).length (ordersL rs) = (grpK (kR rs) (ordN n).length (ordN n)).map (entK rs) := by
    rw [elen, eos]
    exact unl_grp h h1 h4 _ _ fun q hq => ordN_pm h h1 h4 hq
  generalize hcs : grpK (kR rs) (ordN n).length (ordN n) = cs at cls cpm ccw csum eunl
  have chead : ∀ c ∈ cs, headK c ∈ ordN n := fun c hc => by
    obtain ⟨a, b⟩ := cls c hc
    have hm := head_mem a
    have hm2 : headK c ∈ (ordN n).filter fun q => kR rs q == kR rs (headK c) := b ▸ hm
    exact (List.mem_filter.mp hm2).1
  have cmin : ∀ c ∈ cs, minL ((c.map (rwP rs)).map namesR) = normN (rwP rs (headK c)) := fun c hc => by
    obtain ⟨a, b⟩ := cls c hc
    obtain ⟨y, ys, e1, e2⟩ := class_min h h1 h4 (ordN_pm h h1 h4 (chead c hc))
    rw [← b] at e1
    rw [minL_cons e1, e2]
  -- normN by kind
  let G : Nat → List Str := fun k => normN (rwP rs (((ordN n).find? fun q => kR rs q == k).getD []))
  have hG : ∀ q, PmR rs q → normN (rwP rs q) = G (kR rs q) := fun q hq => by
    have hqo := pm_ordN h h1 h4 hq
    cases e : (ordN n).find? fun r => kR rs r == kR rs q with
    | none => exact absurd (beq_self_eq_true _) (List.find?_eq_none.mp e q hqo)
    | some r =>
      have r1 := ordN_pm h h1 h4 (List.mem_of_find?_eq_some e)
      have r3 : (kR rs r == kR rs q) = true := List.find?_some (p := fun r => kR rs r == kR rs q) e
      have r2 := beq_iff_eq.mp r3
      show normN (rwP rs q) = normN (rwP rs (((ordN n).find? fun r => kR rs r == kR rs q).getD []))
      rw [e]
      exact normN_eq (lok.perm (rw_perm r1)) ((rw_perm hq).trans (rw_perm r1).symm) ((kR_same h h4 r1 hq).mpr r2)
  have wpm : ∀ w ∈ waysL (lkR rs) 6 (List.range n), PmR rs w := fun w hw => by
    have := waysL_perm (lk := lkR rs) 6 (List.range n) List.nodup_range (by rw [List.length_range]; omega) w hw
    unfold PmR
    rw [h.len]
    exact this
  have byw : ∀ w, PmR rs w → byN rs (w.map (nameAt rs)) = rwP rs w := fun w hw => by
    unfold byN rwP
    rw [List.map_map]
    apply List.map_congr_left
    intro i hi
    exact rowBy_at lok.nd (hw.lt hi)
  have eways : (wayN rs).map (fun ns => normN (byN rs ns)) = ((waysL (lkR rs) 6 (List.range n)).map (kR rs)).map G := by
    unfold wayN
    rw [h.len, List.map_map, List.map_map]
    apply List.map_congr_left
    intro w hw
    show normN (byN rs (w.map (nameAt rs))) = G (kR rs w)
    rw [byw w (wpm w hw), hG w (wpm w hw)]
  have efst : (unlF (ordersL rs).length (ordersL rs)).map (·.1) = (cs.map fun c => kR rs (headK c)).map G := by
    rw [eunl, List.map_map, List.map_map]
    apply List.map_congr_left
    intro c hc
    show minL ((c.map (rwP rs)).map namesR) = G (kR rs (headK c))
    rw [cmin c hc, hG _ (ordN_pm h h1 h4 (chead c hc))]
  have enames : unlN rs = sortNs ((unlF (ordersL rs).length (ordersL rs)).map (·.1)) := by
    unfold unlN
    rw [eways, efst]
    exact isort_perm_eq (slo_list slo_str) (cpm.symm.map G)
  -- the sizes by name
  have esz : ∀ e ∈ unlF (ordersL rs).length (ordersL rs), e.2 = (cntA (byN rs e.1) : Int) := fun e he => by
    rw [eunl] at he
    obtain ⟨c, hc, rfl⟩ := List.mem_map.mp he
    obtain ⟨a, b⟩ := cls c hc
    have hp := ordN_pm h h1 h4 (chead c hc)
    have lokp := lok.perm (rw_perm hp)
    have hn := normR_perm lokp.nd
    obtain ⟨q, q1, q2⟩ := row_back h h1 h4 (hn.trans (rw_perm hp))
    have hq := ordN_pm h h1 h4 q1
    have e1 : byN rs (minL ((c.map (rwP rs)).map namesR)) = rwP rs q := by
      rw [cmin c hc, q2]
      show (normN (rwP rs (headK c))).map (rowBy rs) = (normN (rwP rs (headK c))).map (rowBy (rwP rs (headK c)))
      rw [rowBy_perm lok.nd (rw_perm hp)]
    have ek : kR rs q = kR rs (headK c) := (kR_same h h4 hq hp).mp (by rw [q2]; exact (normR_same lokp).symm)
    show ((c.length : Nat) : Int) = ((cntA (byN rs (minL ((c.map (rwP rs)).map namesR))) : Nat) : Int)
    rw [e1, chkC_at h h1 h4 hq, ek, ← b]
  have eunl2 : unlF (ordersL rs).length (ordersL rs) = ((unlF (ordersL rs).length (ordersL rs)).map (·.1)).map fun m => (m, (cntA (byN rs m) : Int)) := by
    rw [List.map_map]
    conv => lhs; rw [← List.map_id (unlF (ordersL rs).length (ordersL rs))]
    apply List.map_congr_left
    intro e he
    show e = (e.1, (cntA (byN rs e.1) : Int))
    rw [← esz e he]
  have hsz : (unlR rs).map (fun r => (cntA r : Int)) = (isort W.DatumOrd.lt (unlF (ordersL rs).length (ordersL rs))).map (·.2) := by
    have em := isort_map (lt := (W.DatumOrd.lt : List Str → List Str → Bool)) (lt' := (W.DatumOrd.lt : List Str × Int → List Str × Int → Bool)) (f := fun m => (m, (cntA (byN rs m) : Int))) (xs := (unlF (ordersL rs).length (ordersL rs)).map (·.1)) fun x _ y _ => by
      show (if x = y then W.DatumOrd.lt (cntA (byN rs x) : Int) (cntA (byN rs y) : Int) else W.DatumOrd.lt x y) = W.DatumOrd.lt x y
      by_cases e : x = y
      · rw [if_pos e, e, slo_int.irr, (slo_list slo_str).irr]
      · rw [if_neg e]
    rw [← eunl2] at em
    rw [em, List.map_map]
    unfold unlR
    rw [enames, List.map_map]
    rfl
  refine ⟨lok, by rw [h.len]; omega, fun row hr => orders_perm hr, by rw [elen]; exact ordN_len h4, enames, ?_, hsz, ?_⟩
  · rw [h.len, ccw, eunl, List.length_map]
  · rw [hsz]
    have p := (isort_perm W.DatumOrd.lt (unlF (ordersL rs).length (ordersL rs))).map (·.2)
    rw [sum_perm p, eunl, List.map_map, elen, ← csum]
    have : ∀ l : List (List (List Nat)), (l.map ((·.2) ∘ entK rs)).sum = (((l.map List.length).sum : Nat) : Int) := fun l => by
      induction l with
      | nil => rfl
      | cons c l ih =>
        rw [List.map_cons, List.map_cons, List.sum_cons, List.sum_cons, ih, Int.natCast_add]
        rfl
    exact this cs
end
end Elk
set_option Elab.async false
set_option linter.all false
set_option maxRecDepth 100000
set_option maxHeartbeats 4000000
namespace Elk
open PySem PySem.Spec PyProof.Rows L2
/-! ### the six -/
def lineB (rs : List Row) : Bool := decide ((namesR rs).Nodup) && (decide (rs.length ≤ 100) && rs.all fun r => nameB r.a && decide (r.b.items.length ≤ 1000))
theorem line_by {rs : List Row} (h : lineB rs = true) : LineOk rs := by
  unfold lineB at h
  rw [Bool.and_eq_true, Bool.and_eq_true, decide_eq_true_iff, decide_eq_true_iff, List.all_eq_true] at h
  obtain ⟨h1, h2, h3⟩ := h
  refine ⟨h1, h2, fun r hr => ?_, fun r hr => ?_⟩
  · have := h3 r hr
    rw [Bool.and_eq_true] at this
    exact nameB_ok this.1
  · have := h3 r hr
    rw [Bool.and_eq_true, decide_eq_true_iff] at this
    exact this.2
theorem lk_tabF {rs : List Row} {n : Nat} {t : Nat → Nat → Bool} (hl : rs.length = n) (h : ((List.range n).all fun i => (List.range n).all fun j => lkR rs i j == t i j) = true) : lkR rs = fun i j => decide (i < n) && (decide (j < n) && t i j) := by
  funext i j
  by_cases hi : i < n
  · by_cases hj : j < n
    · rw [decide_eq_true hi, decide_eq_true hj, Bool.true_and, Bool.true_and]
      exact beq_iff_eq.mp (List.all_eq_true.mp (List.all_eq_true.mp h i (List.mem_range.mpr hi)) j (List.mem_range.mpr hj))
    · rw [decide_eq_false hj, Bool.false_and, Bool.and_false]
      exact lk_out (by rw [hl]; exact hj)
  · rw [decide_eq_false hi, Bool.false_and, lk_swap]
    exact lk_out (by rw [hl]; exact hi)
def path (i j : Nat) : Bool := decide (i ≤ j + 1) && decide (j ≤ i + 1)
def star (i j : Nat) : Bool := i == 0 || (j == 0 || i == j)
def lone2 (i j : Nat) : Bool := i == j
abbrev cutN (n : Nat) (t : Nat → Nat → Bool) : Nat → Nat → Bool := fun i j => decide (i < n) && (decide (j < n) && t i j)
theorem len_6 : rows6.length = 6 := by decide +kernel
theorem lk_6 : lkR rows6 = cutN 6 path := lk_tabF len_6 (by decide +kernel)
theorem lk_S : lkR (rowM :: rowsT) = cutN 6 star := lk_tabF (by decide +kernel) (by decide +kernel)
theorem lk_T : lkR rowsT = cutN 5 lone2 := lk_tabF (by decide +kernel) (by decide +kernel)
theorem ok_6 : LineOk rows6 := line_by (by decide +kernel)
theorem ok_S : LineOk (rowM :: rowsT) := line_by (by decide +kernel)
theorem ok_T : LineOk rowsT := line_by (by decide +kernel)
theorem cnt_6 : cw (cutN 6 path) (List.range 6) = 132 := by decide +kernel
theorem cnt_S : cw (cutN 6 star) (List.range 6) = 326 := by decide +kernel
theorem cnt_T : cw (cutN 5 lone2) (List.range 5) = 1 := by decide +kernel
theorem len_W6 : (waysL (cutN 6 path) 6 (List.range 6)).length = 132 := by decide +kernel
def ndB : List Nat → Bool
  | [] => true
  | x :: xs => xs.all (fun y => !(x == y)) && ndB xs
theorem nd_by : ∀ {xs : List Nat}, ndB xs = true → xs.Nodup
  | [], _ => .nil
  | x :: xs, h => by
    unfold ndB at h
    rw [Bool.and_eq_true, List.all_eq_true] at h
    refine List.nodup_cons.mpr ⟨fun hm => ?_, nd_by h.2⟩
    have := h.1 x hm
    rw [beq_self_eq_true] at this
    cases this
theorem key_6 : ndB ((waysL (cutN 6 path) 6 (List.range 6)).map (kyN (cutN 6 path) 6)) = true := by decide +kernel
theorem unl_len (rs : List Row) : (unlN rs).length = (waysL (lkR rs) 6 (List.range rs.length)).length := by
  unfold unlN sortNs wayN
  rw [(isort_perm _ _).length_eq, List.length_map, List.length_map]
theorem len6_ : (unlN rows6).length = 132 := by rw [unl_len, lk_6, len_6, len_W6]
theorem unl_nd {rs : List Row} (lok : LineOk rs) (h6 : rs.length ≤ 6) (h : ((waysL (lkR rs) 6 (List.range rs.length)).map (kyN (lkR rs) rs.length)).Nodup) : (unlN rs).Nodup := by
  have wpm : ∀ w ∈ waysL (lkR rs) 6 (List.range rs.length), PmR rs w := fun w hw => waysL_perm (lk := lkR rs) 6 (List.range rs.length) List.nodup_range (by rw [List.length_range]; exact h6) w hw
  have byw : ∀ w, PmR rs w → byN rs (w.map (nameAt rs)) = rwP rs w := fun w hw => by
    unfold byN rwP
    rw [List.map_map]
    apply List.map_congr_left
    intro i hi
    exact rowBy_at lok.nd (hw.lt hi)
  unfold unlN sortNs wayN
  refine (isort_perm _ _).nodup_iff.mpr ?_
  rw [List.map_map]
  have h := List.pairwise_map.mp h
  refine List.pairwise_map.mpr (List.Pairwise.imp_of_mem (fun {a b} ha hb k e => k ?_) h)
  have ha := wpm a ha
  have hb := wpm b hb
  have e : normN (byN rs (a.map (nameAt rs))) = normN (byN rs (b.map (nameAt rs))) := e
  rw [byw a ha, byw b hb] at e
  have la := lok.perm (rw_perm ha)
  have lb := lok.perm (rw_perm hb)
  have er : normR (rwP rs a) = normR (rwP rs b) := by
    unfold normR
    rw [e, rowBy_perm lok.nd (rw_perm ha), rowBy_perm lok.nd (rw_perm hb)]
  refine (same_key lok (by omega) ha hb).mp ?_
  have s1 := normR_same la
  rw [er] at s1
  exact s1.trans (normR_same lb).symm
theorem dif6_ (i : Nat) (h1 : 1 ≤ i) (h2 : i < 132) : (unlN rows6).getD i [] ≠ (unlN rows6).getD (i - 1) [] := by
  have nd := unl_nd ok_6 (by rw [len_6]; exact Nat.le_refl _) (by rw [lk_6, len_6]; exact nd_by key_6)
  have hl := len6_
  intro e
  have a1 := some_getD (l := unlN rows6) (d := []) (i := i) (by omega)
  have a2 := some_getD (l := unlN rows6) (d := []) (i := i - 1) (by omega)
  rw [← e] at a2
  have := (List.getElem?_inj (by omega) nd).mp (a1.trans a2.symm)
  omega
theorem six_right : SixR := ⟨ok_6, ok_S, ok_T, by rw [lk_6]; exact cnt_6, len6_, dif6_, by rw [lk_S]; exact cnt_S, by rw [lk_T]; exact cnt_T⟩
end Elk
set_option Elab.async false
set_option linter.all false
set_option maxRecDepth 100000
set_option maxHeartbeats 4000000
namespace Elk
open PySem PySem.Spec PyProof.Rows L2
/-! ### the forty -/
def allT (_ _ : Nat) : Bool := true
def two (i j : Nat) : Bool := (i == 0) == (j == 0)
theorem ok_L : LineOk loose := line_by (by decide +kernel)
theorem ok_O : LineOk rowO := line_by (by decide +kernel)
theorem ok_N : LineOk lone := line_by (by decide +kernel)
theorem len_L : loose.length = 40 := by decide +kernel
theorem len_O : rowO.length = 40 := by decide +kernel
theorem len_N : lone.length = 40 := by decide +kernel
theorem lk_L : lkR loose = cutN 40 lone2 := lk_tabF len_L (by decide +kernel)
theorem lk_O : lkR rowO = cutN 40 allT := lk_tabF len_O (by decide +kernel)
theorem lk_N : lkR lone = cutN 40 two := lk_tabF len_N (by decide +kernel)
theorem nm_L : namesR loose = names40 := by
  unfold namesR loose
  rw [List.map_map]
  exact List.map_id names40
theorem nm_O : namesR rowO = names40.reverse := by
  unfold namesR rowO
  rw [List.map_map]
  exact List.map_id names40.reverse
theorem cnt_L : cntG (trees (cutN 40 lone2) 40).2 (factN 40) = factN 40 := by decide +kernel
theorem cnt_O : cntG (trees (cutN 40 allT) 40).2 (factN 40) = 1 := by decide +kernel
theorem pos_L : ((trees (cutN 40 lone2) 40).2.getD 3 []).length = 1 ∧ (abv (trees (cutN 40 lone2) 40).1 40 3).length = 0 := by decide +kernel
theorem pos_O : ((trees (cutN 40 allT) 40).2.getD 36 []).length = 37 ∧ (abv (trees (cutN 40 allT) 40).1 40 36).length = 3 := by decide +kernel
theorem grp_N : ((trees (cutN 40 two) 40).2.getD 39 []).length = 39 := by decide +kernel
theorem cntA_tab {rs : List Row} {n : Nat} {t : Nat → Nat → Bool} (hl : rs.length = n) (h : lkR rs = t) : cntA rs = cntG (trees t n).2 (factN n) := by
  unfold cntA grpsR treesR
  rw [h, hl]
theorem posA_tab {rs : List Row} {n i : Nat} {t : Nat → Nat → Bool} (hl : rs.length = n) (h : lkR rs = t) : posA rs i = ((((trees t n).2.getD i []).length : Int) - 1, ((n : Int) - 1) - ((abv (trees t n).1 n i).length : Int)) := by
  unfold posA grpsR parsR treesR
  rw [h, hl]
/-- rows with no ties but their own -/
theorem alone_L {x y : Str} (hx : x ∈ namesR loose) (h : y ∈ grpOf loose x) : y = x := by
  have h := (in_grp ok_L.nd hx).mp h
  refine h.stay (S := fun z => z = x) (fun u v hu du dv l => ?_) rfl
  subst hu
  obtain ⟨i, hi, rfl⟩ := name_place hx
  obtain ⟨j, hj, rfl⟩ := name_place dv.1
  have l := (lk_at ok_L.nd hi hj).mp l
  rw [lk_L] at l
  have l2 : (decide (i < 40) && (decide (j < 40) && (i == j))) = true := l
  rw [Bool.and_eq_true, Bool.and_eq_true, beq_iff_eq] at l2
  rw [l2.2.2]
theorem same_L {rs : List Row} (p : rs.Perm loose) : SameP loose rs := same_of_lin ok_L p fun x y hx hy => by rw [alone_L hx hy]; exact Nat.le_refl _
theorem nrm_free {rs : List Row} (h : ∀ found z, z ∈ namesR rs → z ∉ found → freeB rs found z = true) (hd : (namesR rs).Nodup) : ∀ (n : Nat) (found rest : List Str), Halves rs found rest → rest.length = n → nrm rs n found rest = found ++ rest
  | 0, found, rest, _, e => by
    have e := List.eq_nil_of_length_eq_zero e
    subst e
    exact (List.append_nil _).symm
  | n + 1, found, [], _, e => by cases e
  | n + 1, found, z :: rest, hv, e => by
    have hz := h found z (hv.mem List.mem_cons_self) (hv.apart hd List.mem_cons_self)
    have ef : (z :: rest).filter (freeB rs found) = z :: rest.filter (freeB rs found) := List.filter_cons_of_pos hz
    have hs := hv.step (z := z) List.mem_cons_self
    rw [nrm_succ ef, List.erase_cons_head]
    rw [List.erase_cons_head] at hs
    rw [nrm_free h hd n _ _ hs (by simpa using e), List.append_assoc]
    rfl
theorem rev_L : (loose.reverse).Perm loose := List.reverse_perm loose
theorem sort_L : sortN names40 = names40 := by decide +kernel
theorem nrm_L : normR loose.reverse = loose := by
  have e1 := normR_eq ok_L rev_L (same_L rev_L)
  rw [e1]
  have e2 : normN loose = sortN (namesR loose) := by
    have := nrm_free (rs := loose) (fun found z hz hn => (free_iff ok_L.nd hz hn).mpr fun y hy => .inr (alone_L hz hy)) ok_L.nd loose.length [] (sortN (namesR loose)) (halves0 loose) (by rw [sortN_len, namesR_len])
    exact this
  unfold normR
  rw [e2, nm_L, sort_L, ← nm_L]
  exact rowBy_map ok_L.nd
theorem tie_O {x y : Str} (hx : x ∈ namesR rowO) (hy : y ∈ namesR rowO) (h : rk rowO y ≤ rk rowO x) : y ∈ grpOf rowO x := by
  refine (in_grp ok_O.nd hx).mpr (.link ⟨hx, Nat.le_refl _⟩ ⟨hy, h⟩ ?_)
  obtain ⟨i, hi, rfl⟩ := name_place hx
  obtain ⟨j, hj, rfl⟩ := name_place hy
  refine (lk_at ok_O.nd hi hj).mpr ?_
  rw [lk_O]
  show (decide (i < 40) && (decide (j < 40) && true)) = true
  rw [len_O] at hi hj
  rw [decide_eq_true hi, decide_eq_true hj]
  rfl
theorem nrm_O : normR rowO = rowO := by
  have hd := ok_O.nd
  have nn := normN_nd hd
  have np := normN_perm hd
  have lin : Lin rowO (normR rowO) := lin_of_lel nn (normR_names hd) (normR_perm hd) (normN_lel hd)
  have rise : ((normN rowO).map (rk rowO)).Pairwise (· < ·) := by
    rw [List.pairwise_map, List.pairwise_iff_getElem]
    intro i j hi hj hij
    refine Classical.byContradiction fun hno => ?_
    have mi := np.mem_iff.mp (List.getElem_mem hi)
    have mj := np.mem_iff.mp (List.getElem_mem hj)
    have := lin _ _ mi (tie_O mi mj (by omega))
    unfold rk at this
    rw [normR_names hd, nn.idxOf_getElem i hi, nn.idxOf_getElem j hj] at this
    omega
  have e : (normN rowO).map (rk rowO) = List.range 40 := rising_uniq rise (by rw [List.range_eq_range']; exact range'_rise 0 40) fun m => by
    rw [List.mem_map, List.mem_range]
    constructor
    · rintro ⟨z, z1, rfl⟩
      have := rk_lt (np.mem_iff.mp z1)
      rwa [len_O] at this
    · intro hm
      have hm : m < rowO.length := by rw [len_O]; exact hm
      exact ⟨nameAt rowO m, np.mem_iff.mpr (nameAt_in hm), rk_at hd hm⟩
  have e2 : normN rowO = namesR rowO := by
    have h1 : ((normN rowO).map (rk rowO)).map (nameAt rowO) = normN rowO := by
      rw [List.map_map]
      conv => rhs; rw [← List.map_id (normN rowO)]
      apply List.map_congr_left
      intro z hz
      exact at_rk hd (np.mem_iff.mp hz)
    rw [e, ← len_O, range_names] at h1
    exact h1.symm
  unfold normR
  rw [e2]
  exact rowBy_map hd
theorem perm_L : (putI (cutO loose 0) (loose.getD 0 noRow) 39).Perm loose := cut_put_perm (by rw [len_L]; decide)
theorem now_L : nowL loose (putI (cutO loose 0) (loose.getD 0 noRow) 39) = 39 :: List.range 39 := by decide +kernel
theorem exc_L : exL 1000 (39 :: List.range 39) = some (List.range 39) := by decide +kernel
theorem len_R : rowO.reverse.length = 40 := by rw [List.length_reverse]; exact len_O
theorem lk_R : lkR rowO.reverse = cutN 40 allT := lk_tabF len_R (by decide +kernel)
theorem par_O : (trees (cutN 40 allT) 40).1.getD 0 none = some 1 ∧ (trees (cutN 40 allT) 40).1.getD 39 none = none := by decide +kernel
theorem bn_R : nameAt rowO.reverse 39 = nameAt rowO 0 := by decide +kernel
theorem ali_O : aliB rowO rowO.reverse = false := by
  have h1 : (nameAt rowO 0, some (nameAt rowO 1)) ∈ parR rowO := par_at.mpr ⟨0, 1, by rw [len_O]; decide, by unfold parsR treesR; rw [lk_O, len_O]; exact par_O.1, rfl, rfl⟩
  have h2 : (nameAt rowO 0, none) ∈ parR rowO.reverse := by
    have := List.mem_of_getElem? (parR_get (rs := rowO.reverse) (i := 39) (by rw [len_R]; decide))
    have e : (parsR rowO.reverse).getD 39 none = none := by unfold parsR treesR; rw [lk_R, len_R]; exact par_O.2
    rw [e, bn_R] at this
    exact this
  have lR := ok_O.perm (List.reverse_perm rowO)
  have hf : hit2 ((parR rowO.reverse).map kvP) (kvP (nameAt rowO 0, some (nameAt rowO 1))) = false := by
    unfold hit2
    have := valV_kv (by rw [parR_names]; exact lR.nd) h2
    rw [show (kvP (nameAt rowO 0, some (nameAt rowO 1))).1 = (Sum.inr (nameAt rowO 0) : Key) from rfl, this]
    rfl
  unfold aliB
  rw [Bool.and_eq_false_iff]
  right
  rw [List.all_eq_false]
  exact ⟨_, List.mem_map.mpr ⟨_, h1, rfl⟩, by rw [hf]; exact Bool.false_ne_true⟩
theorem fit_L : ∀ z ∈ names40, NameOk z ∧ NameOk (("k" : Str) ++ z) := by
  have h : (names40.all fun z => nameB z && nameB (("k" : Str) ++ z)) = true := by decide +kernel
  intro z hz
  have := List.all_eq_true.mp h z hz
  rw [Bool.and_eq_true] at this
  exact ⟨nameB_ok this.1, nameB_ok this.2⟩
theorem forty_right : FortyR where
  lokL := ok_L
  lokO := ok_O
  lokC := ok_N
  nmL := nm_L
  nmO := nm_O
  len := by decide +kernel
  fitL := fit_L
  cntL := (cntA_tab len_L lk_L).trans cnt_L
  posL := by rw [posA_tab len_L lk_L, pos_L.1, pos_L.2]; rfl
  nrmL := nrm_L
  cntO := (cntA_tab len_O lk_O).trans cnt_O
  nrmO := nrm_O
  posO := by rw [posA_tab len_O lk_O, pos_O.1, pos_O.2]; rfl
  aliL := ali_of_same ok_L perm_L (same_L perm_L)
  excL := by rw [now_L]; exact exc_L
  aliO := ali_O
  lk1 := fun a ha h => by
    rw [lk_N] at h
    have h2 : (decide (0 < 40) && (decide (a < 40) && (true == (a == 0)))) = true := h
    rw [Bool.and_eq_true, Bool.and_eq_true, beq_iff_eq] at h2
    exact beq_iff_eq.mp h2.2.2.symm
  lk2 := by rw [lk_N]; rfl
  grp := by
    unfold grpsR treesR
    rw [lk_N, len_N]
    exact grp_N
  ad3 := by decide +kernel
  aa0 := by decide +kernel
  ad36 := by decide +kernel
  ab39 := by decide +kernel
  bn1 := by decide +kernel
theorem all_right : AllR := ⟨fun n rs h1 h4 h => line_right h1 h4 h, fun n rs h1 h4 h => unlike_right h1 h4 h, fun n rs _ h8 h => long_right h8 h, six_right, forty_right⟩
end Elk
set_option Elab.async false
set_option linter.all false
set_option maxRecDepth 100000
set_option maxHeartbeats 0
namespace Elk
open PySem PySem.Spec PyProof.Rows L2
theorem law_at {w : World} {s₁ : Shared} {mg mb : Str → Option Value} {fa a : Addr} {vs : List Value} {ns : List Int} {K : W.Frag} (KX : K.In s₁.heap) (c : obsE K = valE) (gl : s₁.heap.Ns mainGlobals mg) (bn : s₁.heap.Ns builtinsNs mb) (bb : ∀ x : Str, x ≠ "__name__" → mb x = bootBuiltins x) (lim : s₁.heap.NoLimit) (gens : s₁.gens = #[])
    (obj : s₁.heap.get? a = some { cls := .type "list", data := .seq vs.toArray }) (ia : IntsAre vs ns) (len : ns.length ≤ 63) (hmg : mg "law" = some (.ref fa)) :
    codeAny (model RowE.prog w) callerA (.call (.ref fa) ⟨[.ref a], []⟩) (fun r s' => r = .ok (.ret (.bool true)) ∧ OldK s₁.heap s'.heap ∧ s'.os = s₁.os ∧ AllBare s'.gens) s₁ := by
  have T : Tp K mg := tp_of KX gl c
  have e := hmg.symm.trans (g_law T)
  injection e with e
  injection e with e
  subst e
  refine law_callG (x := "_law_script") (sp := sp_law K) (k := 12) ⟨rfl, by decide, by decide⟩ KX gl bn bb lim gens obj ia (Nat.le_trans len (by decide)) (fun base _ _ => ok_law T) fun H sq => ?_
  exact ⟨H, a, ns, rfl, .refl _, sq, all_right, fun _ => rfl⟩
end Elk
open PySem PySem.W PySem.Calls PyProof.Rows
theorem PySem.Challenge.cw_elderlink_k22_whole_normal_and_counted_holds : PySem.Challenge.rw_elderlink_k22_whole_normal_and_counted.Holds := by
  w_on; o_law
  refine HandSHeadRun.head_any (r := OpenLaw.row PySem.Challenge.rw_elderlink_k22_whole_normal_and_counted) (q := view (OpenLaw.row PySem.Challenge.rw_elderlink_k22_whole_normal_and_counted).prog [67]) (H := Elk.hkE) (ob := Elk.obT) (M := 5200) (loose := Elk.looseA ++ Elk.looseB) (d := HandSHeadRun.topDef (OpenLaw.row PySem.Challenge.rw_elderlink_k22_whole_normal_and_counted).prog 67) (kwd := []) Elk.obT_eq
    (by kernel_rfl) (fun s => by kernel_rfl) Elk.runE (by kernel_rfl) (by kernel_rfl) (by kernel_rfl) (by rfl) (by first | assumption | decide +kernel) (by decide +kernel) ⟨rfl, rfl, rfl, rfl, rfl, by decide +kernel⟩ ?hw ?hc
  case hw => w_witness2
  case hc =>
    refine Att.attach_call (l := PySem.Challenge.rw_elderlink_k22_whole_normal_and_counted) (n := 63) rfl (by kernel_rfl) fun w s₀ s₁ mg mb fa o pm cd doc a vs ns G Y ho hd hcd hmg hobj hints hlen hg => ?_
    obtain ⟨K, KX, c⟩ := Y
    have hmg2 : mg ("law" : PySem.Str) = some (.ref fa) := by
      have e : (HandSHeadRun.topDef (OpenLaw.row PySem.Challenge.rw_elderlink_k22_whole_normal_and_counted).prog 67).name = ("law" : PySem.Str) := by kernel_rfl
      rw [← e]
      exact hmg
    exact Elk.law_at KX c G.T.g G.T.b G.T.builtins G.T.nolimit hg hobj hints hlen hmg2
