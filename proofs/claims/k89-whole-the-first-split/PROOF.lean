import PyProof.Rows.All
import Wide.All
import OpenK.AllK
import Wide.FinOn
import KE.KStateDown
import HandS.ForMost
import HandS.Codes
import HandS.Wide
import HandS.WideBits
import HandS.Deep
import HandS.IsInst
import HandS.Zip
import HandS.Flow
import HandS.Style
import HandS.Evl
import HandS.Sort
import HandS.SortKw
import HandS.DictComp
import HandS.TupAny
import HandS.Defaults
import HandS.Head0
import HandS.Head1
import HandS.Head2
import HandS.HeadEnd
import HandS.HeadHook1
import HandS.HeadHook2
import HandS.HeadHook3
import HandS.HeadHook4
import HandS.Walk
import HandS.More
import PyProof.EqAt
import PyProof.EqKinds
import PyProof.TupleCall
import PyProof.StrOps
import PyProof.Rows.SortShell
import KE.KSortTup
import HandS.Base
import HandS.Call
import HandS.Dict
import PyProof.TypeOfCall
import KE.GoesMore
import KE.GoesZip
import KE.GoesEnum
import HandS.List
import HandS.Iter
import HandS.Zip0
import PyProof.EqLayable
import HandS.Words
import HandS.Ends
import PySem.Challenge.RW_stagedrounding_k89_whole_the_first_split
section
set_option Elab.async false
set_option linter.all false
set_option maxRecDepth 100000
set_option maxHeartbeats 4000000
/-! The head: the text by places, the facts that the top leaves, told by a Hook. -/
namespace SR
open PySem PySem.Spec PyProof.Rows L2
def top (i : Nat) : Stmt := PySem.Challenge.pw_stagedrounding_k89_whole_the_first_split.main.body.getD i (.Pass ⟨0, 0, 0, 0⟩)
abbrev sis_int : Stmt := top 16
abbrev scommon_divisor : Stmt := top 17
abbrev slowest : Stmt := top 18
abbrev sis_number : Stmt := top 19
abbrev sis_width : Stmt := top 20
abbrev scheck_number : Stmt := top 21
abbrev scheck_width : Stmt := top 22
abbrev sscaled : Stmt := top 23
abbrev spower_number : Stmt := top 24
abbrev scell_of : Stmt := top 25
abbrev sposition_of : Stmt := top 26
abbrev sis_rule : Stmt := top 35
abbrev sends_of : Stmt := top 36
abbrev sgoes_up : Stmt := top 37
abbrev sround_once : Stmt := top 38
abbrev srounded : Stmt := top 39
abbrev sis_step : Stmt := top 43
abbrev sis_chain : Stmt := top 44
abbrev scheck_chain : Stmt := top 45
abbrev slast_width : Stmt := top 46
abbrev sstages : Stmt := top 47
abbrev sapplied : Stmt := top 48
abbrev strimmed : Stmt := top 49
abbrev slast_down : Stmt := top 56
abbrev scombined : Stmt := top 57
abbrev sthresholds : Stmt := top 58
abbrev swhole_root : Stmt := top 60
abbrev sRoot___init__ : Stmt := inClass (top 61) 0
abbrev sRoot_compared_with : Stmt := inClass (top 61) 1
abbrev sRoot_is_exact : Stmt := inClass (top 61) 2
abbrev sRoot_is_above : Stmt := inClass (top 61) 3
abbrev srounded_root : Stmt := top 62
abbrev sis_name : Stmt := top 67
abbrev sis_in_range : Stmt := top 68
abbrev sexact_result : Stmt := top 69
abbrev sBench___init__ : Stmt := inClass (top 70) 0
abbrev sBench_direct_chain : Stmt := inClass (top 70) 3
abbrev sBench_store : Stmt := inClass (top 70) 4
abbrev sBench_both_of : Stmt := inClass (top 70) 5
abbrev sBench_check_target : Stmt := inClass (top 70) 6
abbrev sBench_load : Stmt := inClass (top 70) 7
abbrev sBench_combine : Stmt := inClass (top 70) 8
abbrev sBench_add : Stmt := inClass (top 70) 9
abbrev sBench_subtract : Stmt := inClass (top 70) 10
abbrev sBench_multiply : Stmt := inClass (top 70) 11
abbrev sBench_divide : Stmt := inClass (top 70) 12
abbrev sBench_root : Stmt := inClass (top 70) 13
abbrev sBench_chained : Stmt := inClass (top 70) 14
abbrev sBench_direct : Stmt := inClass (top 70) 15
abbrev sBench_names : Stmt := inClass (top 70) 16
abbrev sBench_differing : Stmt := inClass (top 70) 17
abbrev sBench_first_split : Stmt := inClass (top 70) 19
abbrev sBench_log : Stmt := inClass (top 70) 20
abbrev sBench_undo : Stmt := inClass (top 70) 21
abbrev s_law_source : Stmt := top 72
abbrev s_law_draw : Stmt := top 73
abbrev s_law_pick : Stmt := top 74
abbrev s_law_divisor : Stmt := top 75
abbrev s_law_low : Stmt := top 76
abbrev s_law_cell_of : Stmt := top 77
abbrev s_law_place : Stmt := top 78
abbrev s_law_end : Stmt := top 79
abbrev s_law_goes_up : Stmt := top 80
abbrev s_law_rounded : Stmt := top 81
abbrev s_law_applied : Stmt := top 82
abbrev s_law_rule : Stmt := top 83
abbrev s_law_chain : Stmt := top 84
abbrev s_law_root_of : Stmt := top 85
abbrev s_law_near : Stmt := top 86
abbrev s_law_direct : Stmt := top 87
abbrev s_law_exact : Stmt := top 88
abbrev s_law_root_by : Stmt := top 89
abbrev s_law_outcome : Stmt := top 90
abbrev s_law_exact_number : Stmt := top 91
abbrev s_law_call : Stmt := top 92
abbrev s_law_done : Stmt := top 93
abbrev s_law_split_right : Stmt := top 94
abbrev s_law_right : Stmt := top 95
abbrev slaw : Stmt := top 96
mutual
/-- a value of the written part that is this datum -/
def dpB (K : PySem.W.Frag) (v : V) : PyData → Bool
  | .none => decide (v = .non)
  | .bool b => decide (v = .bl b)
  | .int i => decide (v = .int i)
  | .str x => decide (v = .str x)
  | .tuple ds => (match v with
    | .ref a => (match K.lookup a with
      | some ⟨.type c, _, .seq its _, _⟩ => decide (c = "tuple") && (decide (its.size ≤ sizeLine) && dpBs K its.toList ds)
      | _ => false)
    | _ => false)
  | _ => false
def dpBs (K : PySem.W.Frag) (us : List Value) : List PyData → Bool
  | [] => us.isEmpty
  | d :: ds => (match us with
    | [] => false
    | u :: us => (match u with
      | .none => dpB K .non d
      | .bool b => dpB K (.bl b) d
      | .int i _ => dpB K (.int i) d
      | .str x _ => dpB K (.str x) d
      | .ref a => dpB K (.ref a) d
      | _ => false) && dpBs K us ds)
end
def valV (u : Value) : V := match u with
  | .none => .non
  | .bool b => .bl b
  | .int i _ => .int i
  | .str x _ => .str x
  | .ref a => .ref a
  | _ => .non
def thD (n d : Int) (s : Str) : PyData := .tuple [.tuple [.int n, .int d], .str s]
def neverD : PyData := thD 1 1 "up"
def alwaysD : PyData := thD 0 1 "down"
def tieDownD : PyData := thD 1 2 "down"
def tieUpD : PyData := thD 1 2 "up"
def byRuleL : List (Str × PyData) := [("down", .tuple [neverD, neverD]), ("half_down", .tuple [tieDownD, tieDownD]), ("half_even", .tuple [tieDownD, tieUpD]), ("half_up", .tuple [tieUpD, tieUpD]), ("odd", .tuple [alwaysD, neverD]), ("up", .tuple [alwaysD, alwaysD])]
def rulesL : List Str := ["down", "half_down", "half_even", "half_up", "odd", "up"]
def isRefV : Value → Bool
  | .ref _ => true
  | _ => false
def exB (K : PySem.W.Frag) : Bool := dpB K (.ref (He.ga K "RULES")) (.tuple (rulesL.map .str)) && byRuleL.all fun q => (match PySem.W.nsIn K (He.ga K "BY_RULE") q.1 with
  | some (some u) => isRefV u && dpB K (valV u) q.2
  | _ => false)
def fn : List He.DefD := [
  ⟨("is_int", none), "is_int", "is_int", defArgs sis_int, defBody sis_int, defScope sis_int, [], []⟩,
  ⟨("common_divisor", none), "common_divisor", "common_divisor", defArgs scommon_divisor, defBody scommon_divisor, defScope scommon_divisor, [], []⟩,
  ⟨("lowest", none), "lowest", "lowest", defArgs slowest, defBody slowest, defScope slowest, [], []⟩,
  ⟨("is_number", none), "is_number", "is_number", defArgs sis_number, defBody sis_number, defScope sis_number, [], []⟩,
  ⟨("is_width", none), "is_width", "is_width", defArgs sis_width, defBody sis_width, defScope sis_width, [], []⟩,
  ⟨("check_number", none), "check_number", "check_number", defArgs scheck_number, defBody scheck_number, defScope scheck_number, [], []⟩,
  ⟨("check_width", none), "check_width", "check_width", defArgs scheck_width, defBody scheck_width, defScope scheck_width, [], []⟩,
  ⟨("scaled", none), "scaled", "scaled", defArgs sscaled, defBody sscaled, defScope sscaled, [], []⟩,
  ⟨("power_number", none), "power_number", "power_number", defArgs spower_number, defBody spower_number, defScope spower_number, [], []⟩,
  ⟨("cell_of", none), "cell_of", "cell_of", defArgs scell_of, defBody scell_of, defScope scell_of, [], []⟩,
  ⟨("position_of", none), "position_of", "position_of", defArgs sposition_of, defBody sposition_of, defScope sposition_of, [], []⟩,
  ⟨("is_rule", none), "is_rule", "is_rule", defArgs sis_rule, defBody sis_rule, defScope sis_rule, [], []⟩,
  ⟨("ends_of", none), "ends_of", "ends_of", defArgs sends_of, defBody sends_of, defScope sends_of, [], []⟩,
  ⟨("goes_up", none), "goes_up", "goes_up", defArgs sgoes_up, defBody sgoes_up, defScope sgoes_up, [], []⟩,
  ⟨("round_once", none), "round_once", "round_once", defArgs sround_once, defBody sround_once, defScope sround_once, [], []⟩,
  ⟨("rounded", none), "rounded", "rounded", defArgs srounded, defBody srounded, defScope srounded, [], []⟩,
  ⟨("is_step", none), "is_step", "is_step", defArgs sis_step, defBody sis_step, defScope sis_step, [], []⟩,
  ⟨("is_chain", none), "is_chain", "is_chain", defArgs sis_chain, defBody sis_chain, defScope sis_chain, [], []⟩,
  ⟨("check_chain", none), "check_chain", "check_chain", defArgs scheck_chain, defBody scheck_chain, defScope scheck_chain, [], []⟩,
  ⟨("last_width", none), "last_width", "last_width", defArgs slast_width, defBody slast_width, defScope slast_width, [], []⟩,
  ⟨("stages", none), "stages", "stages", defArgs sstages, defBody sstages, defScope sstages, [], []⟩,
  ⟨("applied", none), "applied", "applied", defArgs sapplied, defBody sapplied, defScope sapplied, [], []⟩,
  ⟨("trimmed", none), "trimmed", "trimmed", defArgs strimmed, defBody strimmed, defScope strimmed, [], []⟩,
  ⟨("last_down", none), "last_down", "last_down", defArgs slast_down, defBody slast_down, defScope slast_down, [], []⟩,
  ⟨("combined", none), "combined", "combined", defArgs scombined, defBody scombined, defScope scombined, [], []⟩,
  ⟨("thresholds", none), "thresholds", "thresholds", defArgs sthresholds, defBody sthresholds, defScope sthresholds, [], []⟩,
  ⟨("whole_root", none), "whole_root", "whole_root", defArgs swhole_root, defBody swhole_root, defScope swhole_root, [], []⟩,
  ⟨("Root", some "__init__"), "__init__", "Root.__init__", defArgs sRoot___init__, defBody sRoot___init__, defScope sRoot___init__, [], []⟩,
  ⟨("Root", some "compared_with"), "compared_with", "Root.compared_with", defArgs sRoot_compared_with, defBody sRoot_compared_with, defScope sRoot_compared_with, [], []⟩,
  ⟨("Root", some "is_exact"), "is_exact", "Root.is_exact", defArgs sRoot_is_exact, defBody sRoot_is_exact, defScope sRoot_is_exact, [], []⟩,
  ⟨("Root", some "is_above"), "is_above", "Root.is_above", defArgs sRoot_is_above, defBody sRoot_is_above, defScope sRoot_is_above, [], []⟩,
  ⟨("rounded_root", none), "rounded_root", "rounded_root", defArgs srounded_root, defBody srounded_root, defScope srounded_root, [], []⟩,
  ⟨("is_name", none), "is_name", "is_name", defArgs sis_name, defBody sis_name, defScope sis_name, [], []⟩,
  ⟨("is_in_range", none), "is_in_range", "is_in_range", defArgs sis_in_range, defBody sis_in_range, defScope sis_in_range, [], []⟩,
  ⟨("exact_result", none), "exact_result", "exact_result", defArgs sexact_result, defBody sexact_result, defScope sexact_result, [], []⟩,
  ⟨("Bench", some "__init__"), "__init__", "Bench.__init__", defArgs sBench___init__, defBody sBench___init__, defScope sBench___init__, [], []⟩,
  ⟨("Bench", some "direct_chain"), "direct_chain", "Bench.direct_chain", defArgs sBench_direct_chain, defBody sBench_direct_chain, defScope sBench_direct_chain, [], []⟩,
  ⟨("Bench", some "store"), "store", "Bench.store", defArgs sBench_store, defBody sBench_store, defScope sBench_store, [], []⟩,
  ⟨("Bench", some "both_of"), "both_of", "Bench.both_of", defArgs sBench_both_of, defBody sBench_both_of, defScope sBench_both_of, [], []⟩,
  ⟨("Bench", some "check_target"), "check_target", "Bench.check_target", defArgs sBench_check_target, defBody sBench_check_target, defScope sBench_check_target, [], []⟩,
  ⟨("Bench", some "load"), "load", "Bench.load", defArgs sBench_load, defBody sBench_load, defScope sBench_load, [], []⟩,
  ⟨("Bench", some "combine"), "combine", "Bench.combine", defArgs sBench_combine, defBody sBench_combine, defScope sBench_combine, [], []⟩,
  ⟨("Bench", some "add"), "add", "Bench.add", defArgs sBench_add, defBody sBench_add, defScope sBench_add, [], []⟩,
  ⟨("Bench", some "subtract"), "subtract", "Bench.subtract", defArgs sBench_subtract, defBody sBench_subtract, defScope sBench_subtract, [], []⟩,
  ⟨("Bench", some "multiply"), "multiply", "Bench.multiply", defArgs sBench_multiply, defBody sBench_multiply, defScope sBench_multiply, [], []⟩,
  ⟨("Bench", some "divide"), "divide", "Bench.divide", defArgs sBench_divide, defBody sBench_divide, defScope sBench_divide, [], []⟩,
  ⟨("Bench", some "root"), "root", "Bench.root", defArgs sBench_root, defBody sBench_root, defScope sBench_root, [], []⟩,
  ⟨("Bench", some "chained"), "chained", "Bench.chained", defArgs sBench_chained, defBody sBench_chained, defScope sBench_chained, [], []⟩,
  ⟨("Bench", some "direct"), "direct", "Bench.direct", defArgs sBench_direct, defBody sBench_direct, defScope sBench_direct, [], []⟩,
  ⟨("Bench", some "names"), "names", "Bench.names", defArgs sBench_names, defBody sBench_names, defScope sBench_names, [], []⟩,
  ⟨("Bench", some "differing"), "differing", "Bench.differing", defArgs sBench_differing, defBody sBench_differing, defScope sBench_differing, [], []⟩,
  ⟨("Bench", some "first_split"), "first_split", "Bench.first_split", defArgs sBench_first_split, defBody sBench_first_split, defScope sBench_first_split, [], []⟩,
  ⟨("Bench", some "log"), "log", "Bench.log", defArgs sBench_log, defBody sBench_log, defScope sBench_log, [], []⟩,
  ⟨("Bench", some "undo"), "undo", "Bench.undo", defArgs sBench_undo, defBody sBench_undo, defScope sBench_undo, [], []⟩,
  ⟨("_law_source", none), "_law_source", "_law_source", defArgs s_law_source, defBody s_law_source, defScope s_law_source, [], []⟩,
  ⟨("_law_draw", none), "_law_draw", "_law_draw", defArgs s_law_draw, defBody s_law_draw, defScope s_law_draw, [], []⟩,
  ⟨("_law_pick", none), "_law_pick", "_law_pick", defArgs s_law_pick, defBody s_law_pick, defScope s_law_pick, [], []⟩,
  ⟨("_law_divisor", none), "_law_divisor", "_law_divisor", defArgs s_law_divisor, defBody s_law_divisor, defScope s_law_divisor, [], []⟩,
  ⟨("_law_low", none), "_law_low", "_law_low", defArgs s_law_low, defBody s_law_low, defScope s_law_low, [], []⟩,
  ⟨("_law_cell_of", none), "_law_cell_of", "_law_cell_of", defArgs s_law_cell_of, defBody s_law_cell_of, defScope s_law_cell_of, [], []⟩,
  ⟨("_law_place", none), "_law_place", "_law_place", defArgs s_law_place, defBody s_law_place, defScope s_law_place, [], []⟩,
  ⟨("_law_end", none), "_law_end", "_law_end", defArgs s_law_end, defBody s_law_end, defScope s_law_end, [], []⟩,
  ⟨("_law_goes_up", none), "_law_goes_up", "_law_goes_up", defArgs s_law_goes_up, defBody s_law_goes_up, defScope s_law_goes_up, [], []⟩,
  ⟨("_law_rounded", none), "_law_rounded", "_law_rounded", defArgs s_law_rounded, defBody s_law_rounded, defScope s_law_rounded, [], []⟩,
  ⟨("_law_applied", none), "_law_applied", "_law_applied", defArgs s_law_applied, defBody s_law_applied, defScope s_law_applied, [], []⟩,
  ⟨("_law_rule", none), "_law_rule", "_law_rule", defArgs s_law_rule, defBody s_law_rule, defScope s_law_rule, [], []⟩,
  ⟨("_law_chain", none), "_law_chain", "_law_chain", defArgs s_law_chain, defBody s_law_chain, defScope s_law_chain, [], []⟩,
  ⟨("_law_root_of", none), "_law_root_of", "_law_root_of", defArgs s_law_root_of, defBody s_law_root_of, defScope s_law_root_of, [], []⟩,
  ⟨("_law_near", none), "_law_near", "_law_near", defArgs s_law_near, defBody s_law_near, defScope s_law_near, [], []⟩,
  ⟨("_law_direct", none), "_law_direct", "_law_direct", defArgs s_law_direct, defBody s_law_direct, defScope s_law_direct, [], []⟩,
  ⟨("_law_exact", none), "_law_exact", "_law_exact", defArgs s_law_exact, defBody s_law_exact, defScope s_law_exact, [], []⟩,
  ⟨("_law_root_by", none), "_law_root_by", "_law_root_by", defArgs s_law_root_by, defBody s_law_root_by, defScope s_law_root_by, [], []⟩,
  ⟨("_law_outcome", none), "_law_outcome", "_law_outcome", defArgs s_law_outcome, defBody s_law_outcome, defScope s_law_outcome, [], []⟩,
  ⟨("_law_exact_number", none), "_law_exact_number", "_law_exact_number", defArgs s_law_exact_number, defBody s_law_exact_number, defScope s_law_exact_number, [], []⟩,
  ⟨("_law_call", none), "_law_call", "_law_call", defArgs s_law_call, defBody s_law_call, defScope s_law_call, [], []⟩,
  ⟨("_law_done", none), "_law_done", "_law_done", defArgs s_law_done, defBody s_law_done, defScope s_law_done, [], []⟩,
  ⟨("_law_split_right", none), "_law_split_right", "_law_split_right", defArgs s_law_split_right, defBody s_law_split_right, defScope s_law_split_right, [], []⟩,
  ⟨("_law_right", none), "_law_right", "_law_right", defArgs s_law_right, defBody s_law_right, defScope s_law_right, [], []⟩,
  ⟨("law", none), "law", "law", defArgs slaw, defBody slaw, defScope slaw, [], []⟩]
open He in
def fa0 : List He.Fa := [.glo "is_int", .glo "common_divisor", .glo "lowest", .glo "is_number", .glo "is_width", .glo "check_number", .glo "check_width", .glo "scaled", .glo "power_number", .glo "cell_of", .glo "position_of", .glo "is_rule", .glo "ends_of", .glo "goes_up", .glo "round_once", .glo "rounded", .glo "is_step", .glo "is_chain", .glo "check_chain", .glo "last_width", .glo "stages", .glo "applied", .glo "trimmed", .glo "last_down", .glo "combined", .glo "thresholds", .glo "whole_root", .glo "rounded_root", .glo "is_name", .glo "is_in_range", .glo "exact_result", .glo "_law_source", .glo "_law_draw", .glo "_law_pick", .glo "_law_divisor", .glo "_law_low", .glo "_law_cell_of", .glo "_law_place", .glo "_law_end", .glo "_law_goes_up"]
def fa1 : List He.Fa := [.glo "_law_rounded", .glo "_law_applied", .glo "_law_rule", .glo "_law_chain", .glo "_law_root_of", .glo "_law_near", .glo "_law_direct", .glo "_law_exact", .glo "_law_root_by", .glo "_law_outcome", .glo "_law_exact_number", .glo "_law_call", .glo "_law_done", .glo "_law_split_right", .glo "_law_right", .glo "law", .glo "Root", .glo "Bench", .glo "RULES", .glo "BY_RULE", .free "isinstance", .free "int", .free "bool", .free "str", .free "tuple", .free "dict", .free "len", .free "all", .free "any", .free "max", .free "min", .free "range", .free "zip", .free "sorted", .free "abs", .int "MOST_WIDTH" 100, .int "PAIR_cells" 2, .int "PAIR_chains" 2, .int "MOST_STEPS" 12, .int "MOST_LETTERS" 8]
def fa2 : List He.Fa := [.int "FAR" 1000, .str "DOWN" "down", .str "HALF_DOWN" "half_down", .str "HALF_EVEN" "half_even", .str "HALF_UP" "half_up", .str "ODD" "odd", .str "UP" "up", .str "LETTERS" "abcdefghijklmnopqrstuvwxyz", .cls "Root", .mkr "Root", .noat "Root" "n", .noat "Root" "d", .noat "Root" "e", .noat "Root" "k", .meth "Root" "compared_with", .meth "Root" "is_exact", .meth "Root" "is_above", .cls "Bench", .mkr "Bench", .noat "Bench" "staged_chain", .noat "Bench" "single_rule", .noat "Bench" "held", .noat "Bench" "made", .noat "Bench" "splits", .noat "Bench" "past", .meth "Bench" "direct_chain", .meth "Bench" "store", .meth "Bench" "both_of", .meth "Bench" "check_target", .meth "Bench" "load", .meth "Bench" "combine", .meth "Bench" "add", .meth "Bench" "subtract", .meth "Bench" "multiply", .meth "Bench" "divide", .meth "Bench" "root", .meth "Bench" "chained", .meth "Bench" "direct", .meth "Bench" "names", .meth "Bench" "differing"]
def fa3 : List He.Fa := [.meth "Bench" "first_split", .meth "Bench" "log", .meth "Bench" "undo"]
def fa : List He.Fa := (fa0 ++ (fa1 ++ (fa2 ++ fa3)))
def tsL : List He.Tab := [(fun K => He.ga K "BY_RULE", rulesL)]
def nm0 : List Str := ["_wall", "__name__", "RoundingError", "InvalidNumber", "InvalidWidth", "InvalidRule", "InvalidChain", "InvalidName", "UnknownName", "NotExact", "ZeroResult", "OutOfRange", "NothingToUndo", "MOST_WIDTH", "PAIR_cells", "is_int", "common_divisor", "lowest", "is_number", "is_width"]
def nm1 : List Str := ["check_number", "check_width", "scaled", "power_number", "cell_of", "position_of", "DOWN", "HALF_DOWN", "HALF_EVEN", "HALF_UP", "ODD", "UP", "RULES", "is_rule", "ends_of", "goes_up", "round_once", "rounded", "PAIR_chains", "MOST_STEPS"]
def nm2 : List Str := ["is_step", "is_chain", "check_chain", "last_width", "stages", "applied", "trimmed", "NEVER", "ALWAYS", "TIE_DOWN", "TIE_UP", "BY_RULE", "last_down", "combined", "thresholds", "whole_root", "Root", "rounded_root", "LETTERS", "MOST_LETTERS"]
def nm3 : List Str := ["FAR", "is_name", "is_in_range", "exact_result", "Bench", "_law_source", "_law_draw", "_law_pick", "_law_divisor", "_law_low", "_law_cell_of", "_law_place", "_law_end", "_law_goes_up", "_law_rounded", "_law_applied", "_law_rule", "_law_chain", "_law_root_of", "_law_near"]
def nm4 : List Str := ["_law_direct", "_law_exact", "_law_root_by", "_law_outcome", "_law_exact_number", "_law_call", "_law_done", "_law_split_right", "_law_right"]
def nms : List Str := (nm0 ++ (nm1 ++ (nm2 ++ (nm3 ++ nm4))))
/-! ### a Hook of our own: the part of the heap that a few steps from the module's names reach, laid out cell by cell before it is looked at -/
def refsY (o : Obj) : List Addr := match o.data with
  | .seq its _ => its.toList.flatMap He.refV
  | .dict es _ => es.toList.flatMap fun e => He.refV e.val
  | .func fd => He.refV fd.code
  | .cls cd => [cd.ns]
  | _ => []
def fL {α : Type} : List Addr → List Addr → (List Addr → α) → α
  | [], acc, k => k acc
  | a :: r, acc, k => HandSHeadRun.frNat a fun a => fL r (a :: acc) k
theorem fL_eq {α : Type} : ∀ (l acc : List Addr) (k : List Addr → α), fL l acc k = k (l.reverse ++ acc)
  | [], acc, k => rfl
  | a :: r, acc, k => by
    show HandSHeadRun.frNat a (fun a => fL r (a :: acc) k) = _
    rw [HandSHeadRun.frNat_eq, fL_eq r, List.reverse_cons, List.append_assoc]
    rfl
def fK {α : Type} (g : Addr → Option Obj) : List Addr → PySem.W.Frag → (PySem.W.Frag → α) → α
  | [], acc, k => k acc
  | a :: r, acc, k => (match g a with
    | some ⟨c, d, dt, sl⟩ => fK g r ((a, ⟨c, d, dt, sl⟩) :: acc) k
    | none => fK g r acc k)
theorem fK_eq {α : Type} (g : Addr → Option Obj) : ∀ (l : List Addr) (acc : PySem.W.Frag) (k : PySem.W.Frag → α), fK g l acc k = k ((He.frG g l).reverse ++ acc)
  | [], acc, k => rfl
  | a :: r, acc, k => by
    unfold fK He.frG
    rw [List.filterMap_cons]
    cases e : g a with
    | none => exact fK_eq g r acc k
    | some o =>
      obtain ⟨c, d, dt, sl⟩ := o
      show fK g r ((a, ⟨c, d, dt, sl⟩) :: acc) k = _
      rw [fK_eq g r]
      show k ((He.frG g r).reverse ++ ((a, ⟨c, d, dt, sl⟩) :: acc)) = k ((((a, ⟨c, d, dt, sl⟩) : Addr × Obj) :: He.frG g r).reverse ++ acc)
      rw [List.reverse_cons, List.append_assoc]
      rfl
def lev (g : Addr → Option Obj) (as : List Addr) : List Addr := as.flatMap fun a => match g a with
  | some o => refsY o
  | none => []
/-- the levels, each laid out before the next -/
def withY {α : Type} (g : Addr → Option Obj) : Nat → List Addr → PySem.W.Frag → (PySem.W.Frag → α) → α
  | 0, as, acc, k => fL as [] fun as => fK g as acc k
  | n + 1, as, acc, k => fL as [] fun as => fK g as acc fun acc => withY g n (lev g as) acc k
def kY (g : Addr → Option Obj) : Nat → List Addr → PySem.W.Frag → PySem.W.Frag
  | 0, as, acc => (He.frG g (as.reverse ++ [])).reverse ++ acc
  | n + 1, as, acc => kY g n (lev g (as.reverse ++ [])) ((He.frG g (as.reverse ++ [])).reverse ++ acc)
theorem withY_eq {α : Type} (g : Addr → Option Obj) : ∀ (n : Nat) (as : List Addr) (acc : PySem.W.Frag) (k : PySem.W.Frag → α), withY g n as acc k = k (kY g n as acc)
  | 0, as, acc, k => by
    unfold withY kY
    rw [fL_eq, fK_eq]
  | n + 1, as, acc, k => by
    unfold withY kY
    rw [fL_eq, fK_eq, withY_eq g n]
theorem kY_mem {g : Addr → Option Obj} : ∀ (n : Nat) (as : List Addr) (acc : PySem.W.Frag), (∀ q ∈ acc, g q.1 = some q.2) → ∀ q ∈ kY g n as acc, g q.1 = some q.2
  | 0, as, acc, h, q, hq => by
    unfold kY at hq
    rcases List.mem_append.mp hq with z | z
    · exact He.frG_mem (List.mem_reverse.mp z)
    · exact h q z
  | n + 1, as, acc, h, q, hq => by
    unfold kY at hq
    refine kY_mem n _ _ (fun p hp => ?_) q hq
    rcases List.mem_append.mp hp with z | z
    · exact He.frG_mem (List.mem_reverse.mp z)
    · exact h p z
theorem kY_in {n : Nat} {h : Heap} : (kY h.get? n [mainGlobals] []).In h := fun a o e => kY_mem n [mainGlobals] [] (fun q hq => nomatch hq) (a, o) (He.lookup_mem e)
abbrev AlY : Type := He.AlT × Bool
def obsY (n : Nat) (fa : List He.Fa) (fn : List He.DefD) (ts : List He.Tab) (ex : PySem.W.Frag → Bool) (g : Addr → Option Obj) : AlY := withY g n [mainGlobals] [] fun K => (He.obsT fa fn ts K, ex K)
structure SaysY (fa : List He.Fa) (fn : List He.DefD) (ts : List He.Tab) (ex : PySem.W.Frag → Bool) (w : World) (K : PySem.W.Frag) : Prop where
  t : He.SaysT fa fn ts w K
  more : ex K = true
def hookY (n : Nat) (fa : List He.Fa) (fn : List He.DefD) (ts : List He.Tab) (ex : PySem.W.Frag → Bool) : PySem.W.Hook where
  α := AlY
  obs := fun s => obsY n fa fn ts ex s.heap.get?
  val := fun w => (He.valT fn ts w, true)
  says := fun w h => ∃ K : PySem.W.Frag, K.In h ∧ SaysY fa fn ts ex w K
  of := fun w s e => by
    refine ⟨_, kY_in (n := n), ?_⟩
    unfold obsY at e
    rw [withY_eq] at e
    exact ⟨congrArg (fun z : AlY => z.1) e, congrArg (fun z : AlY => z.2) e⟩
  keeps := fun _ _ _ ⟨K, hK, c⟩ k => ⟨K, PySem.W.Frag.In.keeps hK k, c⟩
theorem obsY_eq {n : Nat} {fa : List He.Fa} {fn : List He.DefD} {ts : List He.Tab} {ex : PySem.W.Frag → Bool} {g : Addr → Option Obj} {s : Shared} (h : ∀ a, g a = s.heap.get? a) : obsY n fa fn ts ex g = (hookY n fa fn ts ex).obs s := by
  have e : g = s.heap.get? := funext h
  rw [e] <;> rfl
abbrev R : PySem.W.OpenRow := PySem.W.OpenLaw.row PySem.Challenge.rw_stagedrounding_k89_whole_the_first_split
abbrev hk : PySem.W.Hook := hookY 4 fa fn tsL exB
def ob (s : PySem.W.SharedT) : AlY := obsY 4 fa fn tsL exB (HandSHeadRun.getT s)
theorem ob_eq (s : PySem.W.SharedT) : ob s = hk.obs s.abs := obsY_eq (HandSHeadRun.getT_eq s)
/-! ### what the facts give -/
mutual
theorem dpB_ok {K : PySem.W.Frag} (H : Hp) : ∀ (d : PyData) (v : V), dpB K v d = true → Dp K H v d
  | .none, v, h => by
    have e : v = .non := of_decide_eq_true h
    subst e
    exact .non
  | .bool b, v, h => by
    have e : v = .bl b := of_decide_eq_true h
    subst e
    exact .bl b
  | .int i, v, h => by
    have e : v = .int i := of_decide_eq_true h
    subst e
    exact .int i
  | .str x, v, h => by
    have e : v = .str x := of_decide_eq_true h
    subst e
    exact .str x
  | .tuple ds, v, h => by
    unfold dpB at h
    cases v with
    | ref a =>
      simp only at h
      cases q : K.lookup a with
      | none => rw [q] at h; cases h
      | some o =>
        obtain ⟨oc, od, dt, osl⟩ := o
        rw [q] at h
        cases oc with
        | type c =>
          cases dt with
          | seq its n =>
            obtain ⟨h1, h2⟩ := He.ba (show (decide (c = "tuple") && (decide (its.size ≤ sizeLine) && dpBs K its.toList ds)) = true from h)
            obtain ⟨h3, h4⟩ := He.ba h2
            obtain ⟨xs, hv, ha⟩ := dpBs_ok H ds its.toList h4
            exact .tup (.inr ⟨_, its, n, q, congrArg Value.type (of_decide_eq_true h1), rfl, of_decide_eq_true h3, hv⟩) ha
          | _ => cases h
        | _ => cases dt <;> cases h
    | _ => cases h
  | .list ds, v, h => by
    unfold dpB at h
    cases h
  | .dict ds, v, h => by
    unfold dpB at h
    cases h
theorem dpBs_ok {K : PySem.W.Frag} (H : Hp) : ∀ (ds : List PyData) (us : List Value), dpBs K us ds = true → ∃ xs, Vals xs us ∧ DpAll K H xs ds
  | [], us, h => by
    unfold dpBs at h
    have e : us = [] := List.isEmpty_iff.mp h
    subst e
    exact ⟨[], .nil, .nil⟩
  | d :: ds, us, h => by
    unfold dpBs at h
    cases us with
    | nil => cases h
    | cons u us =>
      simp only at h
      obtain ⟨h1, h2⟩ := He.ba h
      obtain ⟨xs, hv, ha⟩ := dpBs_ok H ds us h2
      cases u with
      | none => exact ⟨.non :: xs, .cons rfl hv, .cons (dpB_ok H d _ h1) ha⟩
      | bool b => exact ⟨.bl b :: xs, .cons rfl hv, .cons (dpB_ok H d _ h1) ha⟩
      | int i t => exact ⟨.int i :: xs, .cons ⟨t, rfl⟩ hv, .cons (dpB_ok H d _ h1) ha⟩
      | str x t => exact ⟨.str x :: xs, .cons ⟨t, rfl⟩ hv, .cons (dpB_ok H d _ h1) ha⟩
      | ref a => exact ⟨.ref a :: xs, .cons rfl hv, .cons (dpB_ok H d _ h1) ha⟩
      | _ => cases h1
end
structure Top (w : World) (K : PySem.W.Frag) (mg : Str → Option Value) : Prop where
  c : SaysY fa fn tsL exB w K
  g : ∃ h : Heap, K.In h ∧ h.Ns mainGlobals mg
section
variable {w : World} {K : PySem.W.Frag} {mg : Str → Option Value}
theorem Top.fa (T : Top w K mg) (i : Nat) {f : He.Fa} (h : SR.fa[i]? = some f := by rfl) : f.ok K = true := T.c.t.d.fact i h
theorem Top.rules (T : Top w K mg) (H : Hp) : Dp K H (.ref (He.ga K "RULES")) (.tuple (rulesL.map .str)) := dpB_ok H _ _ (He.ba T.c.more).1
theorem Top.byRule (T : Top w K mg) {q : Str × PyData} (hq : q ∈ byRuleL) : ∃ a, PySem.W.nsIn K (He.ga K "BY_RULE") q.1 = some (some (.ref a)) ∧ ∀ H, Dp K H (.ref a) q.2 := by
  have h := List.all_eq_true.mp (He.ba T.c.more).2 q hq
  cases e : PySem.W.nsIn K (He.ga K "BY_RULE") q.1 with
  | none => rw [e] at h; cases h
  | some o =>
    cases o with
    | none => rw [e] at h; cases h
    | some u =>
      rw [e] at h
      obtain ⟨h1, h2⟩ := He.ba h
      cases u with
      | ref a => exact ⟨a, rfl, fun H => dpB_ok H _ _ h2⟩
      | _ => cases h1
theorem Top.tab (T : Top w K mg) : ∃ es n, KDict K w (He.ga K "BY_RULE") es n := T.c.t.tab 0
theorem Top.g_is_int (T : Top w K mg) : mg ("is_int" : Str) = some (.ref (He.ga K "is_int")) := by
  obtain ⟨h, X, G⟩ := T.g
  exact He.glo_ok X G (T.fa 0)
theorem Top.g_common_divisor (T : Top w K mg) : mg ("common_divisor" : Str) = some (.ref (He.ga K "common_divisor")) := by
  obtain ⟨h, X, G⟩ := T.g
  exact He.glo_ok X G (T.fa 1)
theorem Top.g_lowest (T : Top w K mg) : mg ("lowest" : Str) = some (.ref (He.ga K "lowest")) := by
  obtain ⟨h, X, G⟩ := T.g
  exact He.glo_ok X G (T.fa 2)
theorem Top.g_is_number (T : Top w K mg) : mg ("is_number" : Str) = some (.ref (He.ga K "is_number")) := by
  obtain ⟨h, X, G⟩ := T.g
  exact He.glo_ok X G (T.fa 3)
theorem Top.g_is_width (T : Top w K mg) : mg ("is_width" : Str) = some (.ref (He.ga K "is_width")) := by
  obtain ⟨h, X, G⟩ := T.g
  exact He.glo_ok X G (T.fa 4)
theorem Top.g_check_number (T : Top w K mg) : mg ("check_number" : Str) = some (.ref (He.ga K "check_number")) := by
  obtain ⟨h, X, G⟩ := T.g
  exact He.glo_ok X G (T.fa 5)
theorem Top.g_check_width (T : Top w K mg) : mg ("check_width" : Str) = some (.ref (He.ga K "check_width")) := by
  obtain ⟨h, X, G⟩ := T.g
  exact He.glo_ok X G (T.fa 6)
theorem Top.g_scaled (T : Top w K mg) : mg ("scaled" : Str) = some (.ref (He.ga K "scaled")) := by
  obtain ⟨h, X, G⟩ := T.g
  exact He.glo_ok X G (T.fa 7)
theorem Top.g_power_number (T : Top w K mg) : mg ("power_number" : Str) = some (.ref (He.ga K "power_number")) := by
  obtain ⟨h, X, G⟩ := T.g
  exact He.glo_ok X G (T.fa 8)
theorem Top.g_cell_of (T : Top w K mg) : mg ("cell_of" : Str) = some (.ref (He.ga K "cell_of")) := by
  obtain ⟨h, X, G⟩ := T.g
  exact He.glo_ok X G (T.fa 9)
theorem Top.g_position_of (T : Top w K mg) : mg ("position_of" : Str) = some (.ref (He.ga K "position_of")) := by
  obtain ⟨h, X, G⟩ := T.g
  exact He.glo_ok X G (T.fa 10)
theorem Top.g_is_rule (T : Top w K mg) : mg ("is_rule" : Str) = some (.ref (He.ga K "is_rule")) := by
  obtain ⟨h, X, G⟩ := T.g
  exact He.glo_ok X G (T.fa 11)
theorem Top.g_ends_of (T : Top w K mg) : mg ("ends_of" : Str) = some (.ref (He.ga K "ends_of")) := by
  obtain ⟨h, X, G⟩ := T.g
  exact He.glo_ok X G (T.fa 12)
theorem Top.g_goes_up (T : Top w K mg) : mg ("goes_up" : Str) = some (.ref (He.ga K "goes_up")) := by
  obtain ⟨h, X, G⟩ := T.g
  exact He.glo_ok X G (T.fa 13)
theorem Top.g_round_once (T : Top w K mg) : mg ("round_once" : Str) = some (.ref (He.ga K "round_once")) := by
  obtain ⟨h, X, G⟩ := T.g
  exact He.glo_ok X G (T.fa 14)
theorem Top.g_rounded (T : Top w K mg) : mg ("rounded" : Str) = some (.ref (He.ga K "rounded")) := by
  obtain ⟨h, X, G⟩ := T.g
  exact He.glo_ok X G (T.fa 15)
theorem Top.g_is_step (T : Top w K mg) : mg ("is_step" : Str) = some (.ref (He.ga K "is_step")) := by
  obtain ⟨h, X, G⟩ := T.g
  exact He.glo_ok X G (T.fa 16)
theorem Top.g_is_chain (T : Top w K mg) : mg ("is_chain" : Str) = some (.ref (He.ga K "is_chain")) := by
  obtain ⟨h, X, G⟩ := T.g
  exact He.glo_ok X G (T.fa 17)
theorem Top.g_check_chain (T : Top w K mg) : mg ("check_chain" : Str) = some (.ref (He.ga K "check_chain")) := by
  obtain ⟨h, X, G⟩ := T.g
  exact He.glo_ok X G (T.fa 18)
theorem Top.g_last_width (T : Top w K mg) : mg ("last_width" : Str) = some (.ref (He.ga K "last_width")) := by
  obtain ⟨h, X, G⟩ := T.g
  exact He.glo_ok X G (T.fa 19)
theorem Top.g_stages (T : Top w K mg) : mg ("stages" : Str) = some (.ref (He.ga K "stages")) := by
  obtain ⟨h, X, G⟩ := T.g
  exact He.glo_ok X G (T.fa 20)
theorem Top.g_applied (T : Top w K mg) : mg ("applied" : Str) = some (.ref (He.ga K "applied")) := by
  obtain ⟨h, X, G⟩ := T.g
  exact He.glo_ok X G (T.fa 21)
theorem Top.g_trimmed (T : Top w K mg) : mg ("trimmed" : Str) = some (.ref (He.ga K "trimmed")) := by
  obtain ⟨h, X, G⟩ := T.g
  exact He.glo_ok X G (T.fa 22)
theorem Top.g_last_down (T : Top w K mg) : mg ("last_down" : Str) = some (.ref (He.ga K "last_down")) := by
  obtain ⟨h, X, G⟩ := T.g
  exact He.glo_ok X G (T.fa 23)
theorem Top.g_combined (T : Top w K mg) : mg ("combined" : Str) = some (.ref (He.ga K "combined")) := by
  obtain ⟨h, X, G⟩ := T.g
  exact He.glo_ok X G (T.fa 24)
theorem Top.g_thresholds (T : Top w K mg) : mg ("thresholds" : Str) = some (.ref (He.ga K "thresholds")) := by
  obtain ⟨h, X, G⟩ := T.g
  exact He.glo_ok X G (T.fa 25)
theorem Top.g_whole_root (T : Top w K mg) : mg ("whole_root" : Str) = some (.ref (He.ga K "whole_root")) := by
  obtain ⟨h, X, G⟩ := T.g
  exact He.glo_ok X G (T.fa 26)
theorem Top.g_rounded_root (T : Top w K mg) : mg ("rounded_root" : Str) = some (.ref (He.ga K "rounded_root")) := by
  obtain ⟨h, X, G⟩ := T.g
  exact He.glo_ok X G (T.fa 27)
theorem Top.g_is_name (T : Top w K mg) : mg ("is_name" : Str) = some (.ref (He.ga K "is_name")) := by
  obtain ⟨h, X, G⟩ := T.g
  exact He.glo_ok X G (T.fa 28)
theorem Top.g_is_in_range (T : Top w K mg) : mg ("is_in_range" : Str) = some (.ref (He.ga K "is_in_range")) := by
  obtain ⟨h, X, G⟩ := T.g
  exact He.glo_ok X G (T.fa 29)
theorem Top.g_exact_result (T : Top w K mg) : mg ("exact_result" : Str) = some (.ref (He.ga K "exact_result")) := by
  obtain ⟨h, X, G⟩ := T.g
  exact He.glo_ok X G (T.fa 30)
theorem Top.g_law_source (T : Top w K mg) : mg ("_law_source" : Str) = some (.ref (He.ga K "_law_source")) := by
  obtain ⟨h, X, G⟩ := T.g
  exact He.glo_ok X G (T.fa 31)
theorem Top.g_law_draw (T : Top w K mg) : mg ("_law_draw" : Str) = some (.ref (He.ga K "_law_draw")) := by
  obtain ⟨h, X, G⟩ := T.g
  exact He.glo_ok X G (T.fa 32)
theorem Top.g_law_pick (T : Top w K mg) : mg ("_law_pick" : Str) = some (.ref (He.ga K "_law_pick")) := by
  obtain ⟨h, X, G⟩ := T.g
  exact He.glo_ok X G (T.fa 33)
theorem Top.g_law_divisor (T : Top w K mg) : mg ("_law_divisor" : Str) = some (.ref (He.ga K "_law_divisor")) := by
  obtain ⟨h, X, G⟩ := T.g
  exact He.glo_ok X G (T.fa 34)
theorem Top.g_law_low (T : Top w K mg) : mg ("_law_low" : Str) = some (.ref (He.ga K "_law_low")) := by
  obtain ⟨h, X, G⟩ := T.g
  exact He.glo_ok X G (T.fa 35)
theorem Top.g_law_cell_of (T : Top w K mg) : mg ("_law_cell_of" : Str) = some (.ref (He.ga K "_law_cell_of")) := by
  obtain ⟨h, X, G⟩ := T.g
  exact He.glo_ok X G (T.fa 36)
theorem Top.g_law_place (T : Top w K mg) : mg ("_law_place" : Str) = some (.ref (He.ga K "_law_place")) := by
  obtain ⟨h, X, G⟩ := T.g
  exact He.glo_ok X G (T.fa 37)
theorem Top.g_law_end (T : Top w K mg) : mg ("_law_end" : Str) = some (.ref (He.ga K "_law_end")) := by
  obtain ⟨h, X, G⟩ := T.g
  exact He.glo_ok X G (T.fa 38)
theorem Top.g_law_goes_up (T : Top w K mg) : mg ("_law_goes_up" : Str) = some (.ref (He.ga K "_law_goes_up")) := by
  obtain ⟨h, X, G⟩ := T.g
  exact He.glo_ok X G (T.fa 39)
theorem Top.g_law_rounded (T : Top w K mg) : mg ("_law_rounded" : Str) = some (.ref (He.ga K "_law_rounded")) := by
  obtain ⟨h, X, G⟩ := T.g
  exact He.glo_ok X G (T.fa 40)
theorem Top.g_law_applied (T : Top w K mg) : mg ("_law_applied" : Str) = some (.ref (He.ga K "_law_applied")) := by
  obtain ⟨h, X, G⟩ := T.g
  exact He.glo_ok X G (T.fa 41)
theorem Top.g_law_rule (T : Top w K mg) : mg ("_law_rule" : Str) = some (.ref (He.ga K "_law_rule")) := by
  obtain ⟨h, X, G⟩ := T.g
  exact He.glo_ok X G (T.fa 42)
theorem Top.g_law_chain (T : Top w K mg) : mg ("_law_chain" : Str) = some (.ref (He.ga K "_law_chain")) := by
  obtain ⟨h, X, G⟩ := T.g
  exact He.glo_ok X G (T.fa 43)
theorem Top.g_law_root_of (T : Top w K mg) : mg ("_law_root_of" : Str) = some (.ref (He.ga K "_law_root_of")) := by
  obtain ⟨h, X, G⟩ := T.g
  exact He.glo_ok X G (T.fa 44)
theorem Top.g_law_near (T : Top w K mg) : mg ("_law_near" : Str) = some (.ref (He.ga K "_law_near")) := by
  obtain ⟨h, X, G⟩ := T.g
  exact He.glo_ok X G (T.fa 45)
theorem Top.g_law_direct (T : Top w K mg) : mg ("_law_direct" : Str) = some (.ref (He.ga K "_law_direct")) := by
  obtain ⟨h, X, G⟩ := T.g
  exact He.glo_ok X G (T.fa 46)
theorem Top.g_law_exact (T : Top w K mg) : mg ("_law_exact" : Str) = some (.ref (He.ga K "_law_exact")) := by
  obtain ⟨h, X, G⟩ := T.g
  exact He.glo_ok X G (T.fa 47)
theorem Top.g_law_root_by (T : Top w K mg) : mg ("_law_root_by" : Str) = some (.ref (He.ga K "_law_root_by")) := by
  obtain ⟨h, X, G⟩ := T.g
  exact He.glo_ok X G (T.fa 48)
theorem Top.g_law_outcome (T : Top w K mg) : mg ("_law_outcome" : Str) = some (.ref (He.ga K "_law_outcome")) := by
  obtain ⟨h, X, G⟩ := T.g
  exact He.glo_ok X G (T.fa 49)
theorem Top.g_law_exact_number (T : Top w K mg) : mg ("_law_exact_number" : Str) = some (.ref (He.ga K "_law_exact_number")) := by
  obtain ⟨h, X, G⟩ := T.g
  exact He.glo_ok X G (T.fa 50)
theorem Top.g_law_call (T : Top w K mg) : mg ("_law_call" : Str) = some (.ref (He.ga K "_law_call")) := by
  obtain ⟨h, X, G⟩ := T.g
  exact He.glo_ok X G (T.fa 51)
theorem Top.g_law_done (T : Top w K mg) : mg ("_law_done" : Str) = some (.ref (He.ga K "_law_done")) := by
  obtain ⟨h, X, G⟩ := T.g
  exact He.glo_ok X G (T.fa 52)
theorem Top.g_law_split_right (T : Top w K mg) : mg ("_law_split_right" : Str) = some (.ref (He.ga K "_law_split_right")) := by
  obtain ⟨h, X, G⟩ := T.g
  exact He.glo_ok X G (T.fa 53)
theorem Top.g_law_right (T : Top w K mg) : mg ("_law_right" : Str) = some (.ref (He.ga K "_law_right")) := by
  obtain ⟨h, X, G⟩ := T.g
  exact He.glo_ok X G (T.fa 54)
theorem Top.g_law (T : Top w K mg) : mg ("law" : Str) = some (.ref (He.ga K "law")) := by
  obtain ⟨h, X, G⟩ := T.g
  exact He.glo_ok X G (T.fa 55)
theorem Top.g_Root (T : Top w K mg) : mg ("Root" : Str) = some (.ref (He.ga K "Root")) := by
  obtain ⟨h, X, G⟩ := T.g
  exact He.glo_ok X G (T.fa 56)
theorem Top.g_Bench (T : Top w K mg) : mg ("Bench" : Str) = some (.ref (He.ga K "Bench")) := by
  obtain ⟨h, X, G⟩ := T.g
  exact He.glo_ok X G (T.fa 57)
theorem Top.g_RULES (T : Top w K mg) : mg ("RULES" : Str) = some (.ref (He.ga K "RULES")) := by
  obtain ⟨h, X, G⟩ := T.g
  exact He.glo_ok X G (T.fa 58)
theorem Top.g_BY_RULE (T : Top w K mg) : mg ("BY_RULE" : Str) = some (.ref (He.ga K "BY_RULE")) := by
  obtain ⟨h, X, G⟩ := T.g
  exact He.glo_ok X G (T.fa 59)
theorem Top.b_isinstance (T : Top w K mg) : mg ("isinstance" : Str) = none := by
  obtain ⟨h, X, G⟩ := T.g
  exact He.free_ok X G (T.fa 60)
theorem Top.b_int (T : Top w K mg) : mg ("int" : Str) = none := by
  obtain ⟨h, X, G⟩ := T.g
  exact He.free_ok X G (T.fa 61)
theorem Top.b_bool (T : Top w K mg) : mg ("bool" : Str) = none := by
  obtain ⟨h, X, G⟩ := T.g
  exact He.free_ok X G (T.fa 62)
theorem Top.b_str (T : Top w K mg) : mg ("str" : Str) = none := by
  obtain ⟨h, X, G⟩ := T.g
  exact He.free_ok X G (T.fa 63)
theorem Top.b_tuple (T : Top w K mg) : mg ("tuple" : Str) = none := by
  obtain ⟨h, X, G⟩ := T.g
  exact He.free_ok X G (T.fa 64)
theorem Top.b_dict (T : Top w K mg) : mg ("dict" : Str) = none := by
  obtain ⟨h, X, G⟩ := T.g
  exact He.free_ok X G (T.fa 65)
theorem Top.b_len (T : Top w K mg) : mg ("len" : Str) = none := by
  obtain ⟨h, X, G⟩ := T.g
  exact He.free_ok X G (T.fa 66)
theorem Top.b_all (T : Top w K mg) : mg ("all" : Str) = none := by
  obtain ⟨h, X, G⟩ := T.g
  exact He.free_ok X G (T.fa 67)
theorem Top.b_any (T : Top w K mg) : mg ("any" : Str) = none := by
  obtain ⟨h, X, G⟩ := T.g
  exact He.free_ok X G (T.fa 68)
theorem Top.b_max (T : Top w K mg) : mg ("max" : Str) = none := by
  obtain ⟨h, X, G⟩ := T.g
  exact He.free_ok X G (T.fa 69)
theorem Top.b_min (T : Top w K mg) : mg ("min" : Str) = none := by
  obtain ⟨h, X, G⟩ := T.g
  exact He.free_ok X G (T.fa 70)
theorem Top.b_range (T : Top w K mg) : mg ("range" : Str) = none := by
  obtain ⟨h, X, G⟩ := T.g
  exact He.free_ok X G (T.fa 71)
theorem Top.b_zip (T : Top w K mg) : mg ("zip" : Str) = none := by
  obtain ⟨h, X, G⟩ := T.g
  exact He.free_ok X G (T.fa 72)
theorem Top.b_sorted (T : Top w K mg) : mg ("sorted" : Str) = none := by
  obtain ⟨h, X, G⟩ := T.g
  exact He.free_ok X G (T.fa 73)
theorem Top.b_abs (T : Top w K mg) : mg ("abs" : Str) = none := by
  obtain ⟨h, X, G⟩ := T.g
  exact He.free_ok X G (T.fa 74)
theorem Top.v_MOST_WIDTH (T : Top w K mg) : ∃ u, mg ("MOST_WIDTH" : Str) = some u ∧ RelV (.int 100) u := by
  obtain ⟨h, X, G⟩ := T.g
  obtain ⟨t, e⟩ := He.int_ok X G (T.fa 75)
  exact ⟨_, e, t, rfl⟩
theorem Top.v_PAIR_cells (T : Top w K mg) : ∃ u, mg ("PAIR_cells" : Str) = some u ∧ RelV (.int 2) u := by
  obtain ⟨h, X, G⟩ := T.g
  obtain ⟨t, e⟩ := He.int_ok X G (T.fa 76)
  exact ⟨_, e, t, rfl⟩
theorem Top.v_PAIR_chains (T : Top w K mg) : ∃ u, mg ("PAIR_chains" : Str) = some u ∧ RelV (.int 2) u := by
  obtain ⟨h, X, G⟩ := T.g
  obtain ⟨t, e⟩ := He.int_ok X G (T.fa 77)
  exact ⟨_, e, t, rfl⟩
theorem Top.v_MOST_STEPS (T : Top w K mg) : ∃ u, mg ("MOST_STEPS" : Str) = some u ∧ RelV (.int 12) u := by
  obtain ⟨h, X, G⟩ := T.g
  obtain ⟨t, e⟩ := He.int_ok X G (T.fa 78)
  exact ⟨_, e, t, rfl⟩
theorem Top.v_MOST_LETTERS (T : Top w K mg) : ∃ u, mg ("MOST_LETTERS" : Str) = some u ∧ RelV (.int 8) u := by
  obtain ⟨h, X, G⟩ := T.g
  obtain ⟨t, e⟩ := He.int_ok X G (T.fa 79)
  exact ⟨_, e, t, rfl⟩
theorem Top.v_FAR (T : Top w K mg) : ∃ u, mg ("FAR" : Str) = some u ∧ RelV (.int 1000) u := by
  obtain ⟨h, X, G⟩ := T.g
  obtain ⟨t, e⟩ := He.int_ok X G (T.fa 80)
  exact ⟨_, e, t, rfl⟩
theorem Top.v_DOWN (T : Top w K mg) : ∃ u, mg ("DOWN" : Str) = some u ∧ RelV (.str "down") u := by
  obtain ⟨h, X, G⟩ := T.g
  obtain ⟨t, e⟩ := He.str_ok X G (T.fa 81)
  exact ⟨_, e, t, rfl⟩
theorem Top.v_HALF_DOWN (T : Top w K mg) : ∃ u, mg ("HALF_DOWN" : Str) = some u ∧ RelV (.str "half_down") u := by
  obtain ⟨h, X, G⟩ := T.g
  obtain ⟨t, e⟩ := He.str_ok X G (T.fa 82)
  exact ⟨_, e, t, rfl⟩
theorem Top.v_HALF_EVEN (T : Top w K mg) : ∃ u, mg ("HALF_EVEN" : Str) = some u ∧ RelV (.str "half_even") u := by
  obtain ⟨h, X, G⟩ := T.g
  obtain ⟨t, e⟩ := He.str_ok X G (T.fa 83)
  exact ⟨_, e, t, rfl⟩
theorem Top.v_HALF_UP (T : Top w K mg) : ∃ u, mg ("HALF_UP" : Str) = some u ∧ RelV (.str "half_up") u := by
  obtain ⟨h, X, G⟩ := T.g
  obtain ⟨t, e⟩ := He.str_ok X G (T.fa 84)
  exact ⟨_, e, t, rfl⟩
theorem Top.v_ODD (T : Top w K mg) : ∃ u, mg ("ODD" : Str) = some u ∧ RelV (.str "odd") u := by
  obtain ⟨h, X, G⟩ := T.g
  obtain ⟨t, e⟩ := He.str_ok X G (T.fa 85)
  exact ⟨_, e, t, rfl⟩
theorem Top.v_UP (T : Top w K mg) : ∃ u, mg ("UP" : Str) = some u ∧ RelV (.str "up") u := by
  obtain ⟨h, X, G⟩ := T.g
  obtain ⟨t, e⟩ := He.str_ok X G (T.fa 86)
  exact ⟨_, e, t, rfl⟩
theorem Top.v_LETTERS (T : Top w K mg) : ∃ u, mg ("LETTERS" : Str) = some u ∧ RelV (.str "abcdefghijklmnopqrstuvwxyz") u := by
  obtain ⟨h, X, G⟩ := T.g
  obtain ⟨t, e⟩ := He.str_ok X G (T.fa 87)
  exact ⟨_, e, t, rfl⟩
theorem Top.cl_Root (T : Top w K mg) : Cls K (He.ga K "Root") := He.cls_ok (T.fa 88)
theorem Top.mk_Root (T : Top w K mg) : Mk K (He.ga K "Root") (He.ma K (He.ga K "Root") "__init__") := He.mkr_ok (T.fa 89)
theorem Top.na_Root_n (T : Top w K mg) : NoAttr K (He.ga K "Root") "n" := He.noat_ok (T.fa 90)
theorem Top.na_Root_d (T : Top w K mg) : NoAttr K (He.ga K "Root") "d" := He.noat_ok (T.fa 91)
theorem Top.na_Root_e (T : Top w K mg) : NoAttr K (He.ga K "Root") "e" := He.noat_ok (T.fa 92)
theorem Top.na_Root_k (T : Top w K mg) : NoAttr K (He.ga K "Root") "k" := He.noat_ok (T.fa 93)
theorem Top.me_Root_compared_with (T : Top w K mg) : Meth K (He.ga K "Root") "compared_with" (He.ma K (He.ga K "Root") "compared_with") := He.meth_ok (T.fa 94)
theorem Top.me_Root_is_exact (T : Top w K mg) : Meth K (He.ga K "Root") "is_exact" (He.ma K (He.ga K "Root") "is_exact") := He.meth_ok (T.fa 95)
theorem Top.me_Root_is_above (T : Top w K mg) : Meth K (He.ga K "Root") "is_above" (He.ma K (He.ga K "Root") "is_above") := He.meth_ok (T.fa 96)
theorem Top.cl_Bench (T : Top w K mg) : Cls K (He.ga K "Bench") := He.cls_ok (T.fa 97)
theorem Top.mk_Bench (T : Top w K mg) : Mk K (He.ga K "Bench") (He.ma K (He.ga K "Bench") "__init__") := He.mkr_ok (T.fa 98)
theorem Top.na_Bench_staged_chain (T : Top w K mg) : NoAttr K (He.ga K "Bench") "staged_chain" := He.noat_ok (T.fa 99)
theorem Top.na_Bench_single_rule (T : Top w K mg) : NoAttr K (He.ga K "Bench") "single_rule" := He.noat_ok (T.fa 100)
theorem Top.na_Bench_held (T : Top w K mg) : NoAttr K (He.ga K "Bench") "held" := He.noat_ok (T.fa 101)
theorem Top.na_Bench_made (T : Top w K mg) : NoAttr K (He.ga K "Bench") "made" := He.noat_ok (T.fa 102)
theorem Top.na_Bench_splits (T : Top w K mg) : NoAttr K (He.ga K "Bench") "splits" := He.noat_ok (T.fa 103)
theorem Top.na_Bench_past (T : Top w K mg) : NoAttr K (He.ga K "Bench") "past" := He.noat_ok (T.fa 104)
theorem Top.me_Bench_direct_chain (T : Top w K mg) : Meth K (He.ga K "Bench") "direct_chain" (He.ma K (He.ga K "Bench") "direct_chain") := He.meth_ok (T.fa 105)
theorem Top.me_Bench_store (T : Top w K mg) : Meth K (He.ga K "Bench") "store" (He.ma K (He.ga K "Bench") "store") := He.meth_ok (T.fa 106)
theorem Top.me_Bench_both_of (T : Top w K mg) : Meth K (He.ga K "Bench") "both_of" (He.ma K (He.ga K "Bench") "both_of") := He.meth_ok (T.fa 107)
theorem Top.me_Bench_check_target (T : Top w K mg) : Meth K (He.ga K "Bench") "check_target" (He.ma K (He.ga K "Bench") "check_target") := He.meth_ok (T.fa 108)
theorem Top.me_Bench_load (T : Top w K mg) : Meth K (He.ga K "Bench") "load" (He.ma K (He.ga K "Bench") "load") := He.meth_ok (T.fa 109)
theorem Top.me_Bench_combine (T : Top w K mg) : Meth K (He.ga K "Bench") "combine" (He.ma K (He.ga K "Bench") "combine") := He.meth_ok (T.fa 110)
theorem Top.me_Bench_add (T : Top w K mg) : Meth K (He.ga K "Bench") "add" (He.ma K (He.ga K "Bench") "add") := He.meth_ok (T.fa 111)
theorem Top.me_Bench_subtract (T : Top w K mg) : Meth K (He.ga K "Bench") "subtract" (He.ma K (He.ga K "Bench") "subtract") := He.meth_ok (T.fa 112)
theorem Top.me_Bench_multiply (T : Top w K mg) : Meth K (He.ga K "Bench") "multiply" (He.ma K (He.ga K "Bench") "multiply") := He.meth_ok (T.fa 113)
theorem Top.me_Bench_divide (T : Top w K mg) : Meth K (He.ga K "Bench") "divide" (He.ma K (He.ga K "Bench") "divide") := He.meth_ok (T.fa 114)
theorem Top.me_Bench_root (T : Top w K mg) : Meth K (He.ga K "Bench") "root" (He.ma K (He.ga K "Bench") "root") := He.meth_ok (T.fa 115)
theorem Top.me_Bench_chained (T : Top w K mg) : Meth K (He.ga K "Bench") "chained" (He.ma K (He.ga K "Bench") "chained") := He.meth_ok (T.fa 116)
theorem Top.me_Bench_direct (T : Top w K mg) : Meth K (He.ga K "Bench") "direct" (He.ma K (He.ga K "Bench") "direct") := He.meth_ok (T.fa 117)
theorem Top.me_Bench_names (T : Top w K mg) : Meth K (He.ga K "Bench") "names" (He.ma K (He.ga K "Bench") "names") := He.meth_ok (T.fa 118)
theorem Top.me_Bench_differing (T : Top w K mg) : Meth K (He.ga K "Bench") "differing" (He.ma K (He.ga K "Bench") "differing") := He.meth_ok (T.fa 119)
theorem Top.me_Bench_first_split (T : Top w K mg) : Meth K (He.ga K "Bench") "first_split" (He.ma K (He.ga K "Bench") "first_split") := He.meth_ok (T.fa 120)
theorem Top.me_Bench_log (T : Top w K mg) : Meth K (He.ga K "Bench") "log" (He.ma K (He.ga K "Bench") "log") := He.meth_ok (T.fa 121)
theorem Top.me_Bench_undo (T : Top w K mg) : Meth K (He.ga K "Bench") "undo" (He.ma K (He.ga K "Bench") "undo") := He.meth_ok (T.fa 122)
theorem Top.fis_int (T : Top w K mg) : ∃ fd, FunD K "is_int" "is_int" (defArgs sis_int) (defBody sis_int) (defScope sis_int) [] [] (He.ga K "is_int") fd := T.c.t.d.def_ 0
theorem Top.fcommon_divisor (T : Top w K mg) : ∃ fd, FunD K "common_divisor" "common_divisor" (defArgs scommon_divisor) (defBody scommon_divisor) (defScope scommon_divisor) [] [] (He.ga K "common_divisor") fd := T.c.t.d.def_ 1
theorem Top.flowest (T : Top w K mg) : ∃ fd, FunD K "lowest" "lowest" (defArgs slowest) (defBody slowest) (defScope slowest) [] [] (He.ga K "lowest") fd := T.c.t.d.def_ 2
theorem Top.fis_number (T : Top w K mg) : ∃ fd, FunD K "is_number" "is_number" (defArgs sis_number) (defBody sis_number) (defScope sis_number) [] [] (He.ga K "is_number") fd := T.c.t.d.def_ 3
theorem Top.fis_width (T : Top w K mg) : ∃ fd, FunD K "is_width" "is_width" (defArgs sis_width) (defBody sis_width) (defScope sis_width) [] [] (He.ga K "is_width") fd := T.c.t.d.def_ 4
theorem Top.fcheck_number (T : Top w K mg) : ∃ fd, FunD K "check_number" "check_number" (defArgs scheck_number) (defBody scheck_number) (defScope scheck_number) [] [] (He.ga K "check_number") fd := T.c.t.d.def_ 5
theorem Top.fcheck_width (T : Top w K mg) : ∃ fd, FunD K "check_width" "check_width" (defArgs scheck_width) (defBody scheck_width) (defScope scheck_width) [] [] (He.ga K "check_width") fd := T.c.t.d.def_ 6
theorem Top.fscaled (T : Top w K mg) : ∃ fd, FunD K "scaled" "scaled" (defArgs sscaled) (defBody sscaled) (defScope sscaled) [] [] (He.ga K "scaled") fd := T.c.t.d.def_ 7
theorem Top.fpower_number (T : Top w K mg) : ∃ fd, FunD K "power_number" "power_number" (defArgs spower_number) (defBody spower_number) (defScope spower_number) [] [] (He.ga K "power_number") fd := T.c.t.d.def_ 8
theorem Top.fcell_of (T : Top w K mg) : ∃ fd, FunD K "cell_of" "cell_of" (defArgs scell_of) (defBody scell_of) (defScope scell_of) [] [] (He.ga K "cell_of") fd := T.c.t.d.def_ 9
theorem Top.fposition_of (T : Top w K mg) : ∃ fd, FunD K "position_of" "position_of" (defArgs sposition_of) (defBody sposition_of) (defScope sposition_of) [] [] (He.ga K "position_of") fd := T.c.t.d.def_ 10
theorem Top.fis_rule (T : Top w K mg) : ∃ fd, FunD K "is_rule" "is_rule" (defArgs sis_rule) (defBody sis_rule) (defScope sis_rule) [] [] (He.ga K "is_rule") fd := T.c.t.d.def_ 11
theorem Top.fends_of (T : Top w K mg) : ∃ fd, FunD K "ends_of" "ends_of" (defArgs sends_of) (defBody sends_of) (defScope sends_of) [] [] (He.ga K "ends_of") fd := T.c.t.d.def_ 12
theorem Top.fgoes_up (T : Top w K mg) : ∃ fd, FunD K "goes_up" "goes_up" (defArgs sgoes_up) (defBody sgoes_up) (defScope sgoes_up) [] [] (He.ga K "goes_up") fd := T.c.t.d.def_ 13
theorem Top.fround_once (T : Top w K mg) : ∃ fd, FunD K "round_once" "round_once" (defArgs sround_once) (defBody sround_once) (defScope sround_once) [] [] (He.ga K "round_once") fd := T.c.t.d.def_ 14
theorem Top.frounded (T : Top w K mg) : ∃ fd, FunD K "rounded" "rounded" (defArgs srounded) (defBody srounded) (defScope srounded) [] [] (He.ga K "rounded") fd := T.c.t.d.def_ 15
theorem Top.fis_step (T : Top w K mg) : ∃ fd, FunD K "is_step" "is_step" (defArgs sis_step) (defBody sis_step) (defScope sis_step) [] [] (He.ga K "is_step") fd := T.c.t.d.def_ 16
theorem Top.fis_chain (T : Top w K mg) : ∃ fd, FunD K "is_chain" "is_chain" (defArgs sis_chain) (defBody sis_chain) (defScope sis_chain) [] [] (He.ga K "is_chain") fd := T.c.t.d.def_ 17
theorem Top.fcheck_chain (T : Top w K mg) : ∃ fd, FunD K "check_chain" "check_chain" (defArgs scheck_chain) (defBody scheck_chain) (defScope scheck_chain) [] [] (He.ga K "check_chain") fd := T.c.t.d.def_ 18
theorem Top.flast_width (T : Top w K mg) : ∃ fd, FunD K "last_width" "last_width" (defArgs slast_width) (defBody slast_width) (defScope slast_width) [] [] (He.ga K "last_width") fd := T.c.t.d.def_ 19
theorem Top.fstages (T : Top w K mg) : ∃ fd, FunD K "stages" "stages" (defArgs sstages) (defBody sstages) (defScope sstages) [] [] (He.ga K "stages") fd := T.c.t.d.def_ 20
theorem Top.fapplied (T : Top w K mg) : ∃ fd, FunD K "applied" "applied" (defArgs sapplied) (defBody sapplied) (defScope sapplied) [] [] (He.ga K "applied") fd := T.c.t.d.def_ 21
theorem Top.ftrimmed (T : Top w K mg) : ∃ fd, FunD K "trimmed" "trimmed" (defArgs strimmed) (defBody strimmed) (defScope strimmed) [] [] (He.ga K "trimmed") fd := T.c.t.d.def_ 22
theorem Top.flast_down (T : Top w K mg) : ∃ fd, FunD K "last_down" "last_down" (defArgs slast_down) (defBody slast_down) (defScope slast_down) [] [] (He.ga K "last_down") fd := T.c.t.d.def_ 23
theorem Top.fcombined (T : Top w K mg) : ∃ fd, FunD K "combined" "combined" (defArgs scombined) (defBody scombined) (defScope scombined) [] [] (He.ga K "combined") fd := T.c.t.d.def_ 24
theorem Top.fthresholds (T : Top w K mg) : ∃ fd, FunD K "thresholds" "thresholds" (defArgs sthresholds) (defBody sthresholds) (defScope sthresholds) [] [] (He.ga K "thresholds") fd := T.c.t.d.def_ 25
theorem Top.fwhole_root (T : Top w K mg) : ∃ fd, FunD K "whole_root" "whole_root" (defArgs swhole_root) (defBody swhole_root) (defScope swhole_root) [] [] (He.ga K "whole_root") fd := T.c.t.d.def_ 26
theorem Top.fRoot___init__ (T : Top w K mg) : ∃ fd, FunD K "__init__" "Root.__init__" (defArgs sRoot___init__) (defBody sRoot___init__) (defScope sRoot___init__) [] [] (He.ma K (He.ga K "Root") "__init__") fd := T.c.t.d.def_ 27
theorem Top.fRoot_compared_with (T : Top w K mg) : ∃ fd, FunD K "compared_with" "Root.compared_with" (defArgs sRoot_compared_with) (defBody sRoot_compared_with) (defScope sRoot_compared_with) [] [] (He.ma K (He.ga K "Root") "compared_with") fd := T.c.t.d.def_ 28
theorem Top.fRoot_is_exact (T : Top w K mg) : ∃ fd, FunD K "is_exact" "Root.is_exact" (defArgs sRoot_is_exact) (defBody sRoot_is_exact) (defScope sRoot_is_exact) [] [] (He.ma K (He.ga K "Root") "is_exact") fd := T.c.t.d.def_ 29
theorem Top.fRoot_is_above (T : Top w K mg) : ∃ fd, FunD K "is_above" "Root.is_above" (defArgs sRoot_is_above) (defBody sRoot_is_above) (defScope sRoot_is_above) [] [] (He.ma K (He.ga K "Root") "is_above") fd := T.c.t.d.def_ 30
theorem Top.frounded_root (T : Top w K mg) : ∃ fd, FunD K "rounded_root" "rounded_root" (defArgs srounded_root) (defBody srounded_root) (defScope srounded_root) [] [] (He.ga K "rounded_root") fd := T.c.t.d.def_ 31
theorem Top.fis_name (T : Top w K mg) : ∃ fd, FunD K "is_name" "is_name" (defArgs sis_name) (defBody sis_name) (defScope sis_name) [] [] (He.ga K "is_name") fd := T.c.t.d.def_ 32
theorem Top.fis_in_range (T : Top w K mg) : ∃ fd, FunD K "is_in_range" "is_in_range" (defArgs sis_in_range) (defBody sis_in_range) (defScope sis_in_range) [] [] (He.ga K "is_in_range") fd := T.c.t.d.def_ 33
theorem Top.fexact_result (T : Top w K mg) : ∃ fd, FunD K "exact_result" "exact_result" (defArgs sexact_result) (defBody sexact_result) (defScope sexact_result) [] [] (He.ga K "exact_result") fd := T.c.t.d.def_ 34
theorem Top.fBench___init__ (T : Top w K mg) : ∃ fd, FunD K "__init__" "Bench.__init__" (defArgs sBench___init__) (defBody sBench___init__) (defScope sBench___init__) [] [] (He.ma K (He.ga K "Bench") "__init__") fd := T.c.t.d.def_ 35
theorem Top.fBench_direct_chain (T : Top w K mg) : ∃ fd, FunD K "direct_chain" "Bench.direct_chain" (defArgs sBench_direct_chain) (defBody sBench_direct_chain) (defScope sBench_direct_chain) [] [] (He.ma K (He.ga K "Bench") "direct_chain") fd := T.c.t.d.def_ 36
theorem Top.fBench_store (T : Top w K mg) : ∃ fd, FunD K "store" "Bench.store" (defArgs sBench_store) (defBody sBench_store) (defScope sBench_store) [] [] (He.ma K (He.ga K "Bench") "store") fd := T.c.t.d.def_ 37
theorem Top.fBench_both_of (T : Top w K mg) : ∃ fd, FunD K "both_of" "Bench.both_of" (defArgs sBench_both_of) (defBody sBench_both_of) (defScope sBench_both_of) [] [] (He.ma K (He.ga K "Bench") "both_of") fd := T.c.t.d.def_ 38
theorem Top.fBench_check_target (T : Top w K mg) : ∃ fd, FunD K "check_target" "Bench.check_target" (defArgs sBench_check_target) (defBody sBench_check_target) (defScope sBench_check_target) [] [] (He.ma K (He.ga K "Bench") "check_target") fd := T.c.t.d.def_ 39
theorem Top.fBench_load (T : Top w K mg) : ∃ fd, FunD K "load" "Bench.load" (defArgs sBench_load) (defBody sBench_load) (defScope sBench_load) [] [] (He.ma K (He.ga K "Bench") "load") fd := T.c.t.d.def_ 40
theorem Top.fBench_combine (T : Top w K mg) : ∃ fd, FunD K "combine" "Bench.combine" (defArgs sBench_combine) (defBody sBench_combine) (defScope sBench_combine) [] [] (He.ma K (He.ga K "Bench") "combine") fd := T.c.t.d.def_ 41
theorem Top.fBench_add (T : Top w K mg) : ∃ fd, FunD K "add" "Bench.add" (defArgs sBench_add) (defBody sBench_add) (defScope sBench_add) [] [] (He.ma K (He.ga K "Bench") "add") fd := T.c.t.d.def_ 42
theorem Top.fBench_subtract (T : Top w K mg) : ∃ fd, FunD K "subtract" "Bench.subtract" (defArgs sBench_subtract) (defBody sBench_subtract) (defScope sBench_subtract) [] [] (He.ma K (He.ga K "Bench") "subtract") fd := T.c.t.d.def_ 43
theorem Top.fBench_multiply (T : Top w K mg) : ∃ fd, FunD K "multiply" "Bench.multiply" (defArgs sBench_multiply) (defBody sBench_multiply) (defScope sBench_multiply) [] [] (He.ma K (He.ga K "Bench") "multiply") fd := T.c.t.d.def_ 44
theorem Top.fBench_divide (T : Top w K mg) : ∃ fd, FunD K "divide" "Bench.divide" (defArgs sBench_divide) (defBody sBench_divide) (defScope sBench_divide) [] [] (He.ma K (He.ga K "Bench") "divide") fd := T.c.t.d.def_ 45
theorem Top.fBench_root (T : Top w K mg) : ∃ fd, FunD K "root" "Bench.root" (defArgs sBench_root) (defBody sBench_root) (defScope sBench_root) [] [] (He.ma K (He.ga K "Bench") "root") fd := T.c.t.d.def_ 46
theorem Top.fBench_chained (T : Top w K mg) : ∃ fd, FunD K "chained" "Bench.chained" (defArgs sBench_chained) (defBody sBench_chained) (defScope sBench_chained) [] [] (He.ma K (He.ga K "Bench") "chained") fd := T.c.t.d.def_ 47
theorem Top.fBench_direct (T : Top w K mg) : ∃ fd, FunD K "direct" "Bench.direct" (defArgs sBench_direct) (defBody sBench_direct) (defScope sBench_direct) [] [] (He.ma K (He.ga K "Bench") "direct") fd := T.c.t.d.def_ 48
theorem Top.fBench_names (T : Top w K mg) : ∃ fd, FunD K "names" "Bench.names" (defArgs sBench_names) (defBody sBench_names) (defScope sBench_names) [] [] (He.ma K (He.ga K "Bench") "names") fd := T.c.t.d.def_ 49
theorem Top.fBench_differing (T : Top w K mg) : ∃ fd, FunD K "differing" "Bench.differing" (defArgs sBench_differing) (defBody sBench_differing) (defScope sBench_differing) [] [] (He.ma K (He.ga K "Bench") "differing") fd := T.c.t.d.def_ 50
theorem Top.fBench_first_split (T : Top w K mg) : ∃ fd, FunD K "first_split" "Bench.first_split" (defArgs sBench_first_split) (defBody sBench_first_split) (defScope sBench_first_split) [] [] (He.ma K (He.ga K "Bench") "first_split") fd := T.c.t.d.def_ 51
theorem Top.fBench_log (T : Top w K mg) : ∃ fd, FunD K "log" "Bench.log" (defArgs sBench_log) (defBody sBench_log) (defScope sBench_log) [] [] (He.ma K (He.ga K "Bench") "log") fd := T.c.t.d.def_ 52
theorem Top.fBench_undo (T : Top w K mg) : ∃ fd, FunD K "undo" "Bench.undo" (defArgs sBench_undo) (defBody sBench_undo) (defScope sBench_undo) [] [] (He.ma K (He.ga K "Bench") "undo") fd := T.c.t.d.def_ 53
theorem Top.f_law_source (T : Top w K mg) : ∃ fd, FunD K "_law_source" "_law_source" (defArgs s_law_source) (defBody s_law_source) (defScope s_law_source) [] [] (He.ga K "_law_source") fd := T.c.t.d.def_ 54
theorem Top.f_law_draw (T : Top w K mg) : ∃ fd, FunD K "_law_draw" "_law_draw" (defArgs s_law_draw) (defBody s_law_draw) (defScope s_law_draw) [] [] (He.ga K "_law_draw") fd := T.c.t.d.def_ 55
theorem Top.f_law_pick (T : Top w K mg) : ∃ fd, FunD K "_law_pick" "_law_pick" (defArgs s_law_pick) (defBody s_law_pick) (defScope s_law_pick) [] [] (He.ga K "_law_pick") fd := T.c.t.d.def_ 56
theorem Top.f_law_divisor (T : Top w K mg) : ∃ fd, FunD K "_law_divisor" "_law_divisor" (defArgs s_law_divisor) (defBody s_law_divisor) (defScope s_law_divisor) [] [] (He.ga K "_law_divisor") fd := T.c.t.d.def_ 57
theorem Top.f_law_low (T : Top w K mg) : ∃ fd, FunD K "_law_low" "_law_low" (defArgs s_law_low) (defBody s_law_low) (defScope s_law_low) [] [] (He.ga K "_law_low") fd := T.c.t.d.def_ 58
theorem Top.f_law_cell_of (T : Top w K mg) : ∃ fd, FunD K "_law_cell_of" "_law_cell_of" (defArgs s_law_cell_of) (defBody s_law_cell_of) (defScope s_law_cell_of) [] [] (He.ga K "_law_cell_of") fd := T.c.t.d.def_ 59
theorem Top.f_law_place (T : Top w K mg) : ∃ fd, FunD K "_law_place" "_law_place" (defArgs s_law_place) (defBody s_law_place) (defScope s_law_place) [] [] (He.ga K "_law_place") fd := T.c.t.d.def_ 60
theorem Top.f_law_end (T : Top w K mg) : ∃ fd, FunD K "_law_end" "_law_end" (defArgs s_law_end) (defBody s_law_end) (defScope s_law_end) [] [] (He.ga K "_law_end") fd := T.c.t.d.def_ 61
theorem Top.f_law_goes_up (T : Top w K mg) : ∃ fd, FunD K "_law_goes_up" "_law_goes_up" (defArgs s_law_goes_up) (defBody s_law_goes_up) (defScope s_law_goes_up) [] [] (He.ga K "_law_goes_up") fd := T.c.t.d.def_ 62
theorem Top.f_law_rounded (T : Top w K mg) : ∃ fd, FunD K "_law_rounded" "_law_rounded" (defArgs s_law_rounded) (defBody s_law_rounded) (defScope s_law_rounded) [] [] (He.ga K "_law_rounded") fd := T.c.t.d.def_ 63
theorem Top.f_law_applied (T : Top w K mg) : ∃ fd, FunD K "_law_applied" "_law_applied" (defArgs s_law_applied) (defBody s_law_applied) (defScope s_law_applied) [] [] (He.ga K "_law_applied") fd := T.c.t.d.def_ 64
theorem Top.f_law_rule (T : Top w K mg) : ∃ fd, FunD K "_law_rule" "_law_rule" (defArgs s_law_rule) (defBody s_law_rule) (defScope s_law_rule) [] [] (He.ga K "_law_rule") fd := T.c.t.d.def_ 65
theorem Top.f_law_chain (T : Top w K mg) : ∃ fd, FunD K "_law_chain" "_law_chain" (defArgs s_law_chain) (defBody s_law_chain) (defScope s_law_chain) [] [] (He.ga K "_law_chain") fd := T.c.t.d.def_ 66
theorem Top.f_law_root_of (T : Top w K mg) : ∃ fd, FunD K "_law_root_of" "_law_root_of" (defArgs s_law_root_of) (defBody s_law_root_of) (defScope s_law_root_of) [] [] (He.ga K "_law_root_of") fd := T.c.t.d.def_ 67
theorem Top.f_law_near (T : Top w K mg) : ∃ fd, FunD K "_law_near" "_law_near" (defArgs s_law_near) (defBody s_law_near) (defScope s_law_near) [] [] (He.ga K "_law_near") fd := T.c.t.d.def_ 68
theorem Top.f_law_direct (T : Top w K mg) : ∃ fd, FunD K "_law_direct" "_law_direct" (defArgs s_law_direct) (defBody s_law_direct) (defScope s_law_direct) [] [] (He.ga K "_law_direct") fd := T.c.t.d.def_ 69
theorem Top.f_law_exact (T : Top w K mg) : ∃ fd, FunD K "_law_exact" "_law_exact" (defArgs s_law_exact) (defBody s_law_exact) (defScope s_law_exact) [] [] (He.ga K "_law_exact") fd := T.c.t.d.def_ 70
theorem Top.f_law_root_by (T : Top w K mg) : ∃ fd, FunD K "_law_root_by" "_law_root_by" (defArgs s_law_root_by) (defBody s_law_root_by) (defScope s_law_root_by) [] [] (He.ga K "_law_root_by") fd := T.c.t.d.def_ 71
theorem Top.f_law_outcome (T : Top w K mg) : ∃ fd, FunD K "_law_outcome" "_law_outcome" (defArgs s_law_outcome) (defBody s_law_outcome) (defScope s_law_outcome) [] [] (He.ga K "_law_outcome") fd := T.c.t.d.def_ 72
theorem Top.f_law_exact_number (T : Top w K mg) : ∃ fd, FunD K "_law_exact_number" "_law_exact_number" (defArgs s_law_exact_number) (defBody s_law_exact_number) (defScope s_law_exact_number) [] [] (He.ga K "_law_exact_number") fd := T.c.t.d.def_ 73
theorem Top.f_law_call (T : Top w K mg) : ∃ fd, FunD K "_law_call" "_law_call" (defArgs s_law_call) (defBody s_law_call) (defScope s_law_call) [] [] (He.ga K "_law_call") fd := T.c.t.d.def_ 74
theorem Top.f_law_done (T : Top w K mg) : ∃ fd, FunD K "_law_done" "_law_done" (defArgs s_law_done) (defBody s_law_done) (defScope s_law_done) [] [] (He.ga K "_law_done") fd := T.c.t.d.def_ 75
theorem Top.f_law_split_right (T : Top w K mg) : ∃ fd, FunD K "_law_split_right" "_law_split_right" (defArgs s_law_split_right) (defBody s_law_split_right) (defScope s_law_split_right) [] [] (He.ga K "_law_split_right") fd := T.c.t.d.def_ 76
theorem Top.f_law_right (T : Top w K mg) : ∃ fd, FunD K "_law_right" "_law_right" (defArgs s_law_right) (defBody s_law_right) (defScope s_law_right) [] [] (He.ga K "_law_right") fd := T.c.t.d.def_ 77
theorem Top.flaw (T : Top w K mg) : ∃ fd, FunD K "law" "law" (defArgs slaw) (defBody slaw) (defScope slaw) [] [] (He.ga K "law") fd := T.c.t.d.def_ 78
end
end SR
end
section
set_option Elab.async false
set_option linter.all false
set_option maxRecDepth 100000
set_option maxHeartbeats 0
/-! The top, run: each answer by a declaration of its own. -/
namespace SR
open PySem PySem.Spec PyProof.Rows L2
theorem run_no (w : World) : HandSHeadRun.RunEq R (PySem.W.view R.prog [96]) hk ob 7000 nms (w.withFollow "special-get-raises" false) := by
  intro os; kernel_rfl
theorem run_yes (w : World) : HandSHeadRun.RunEq R (PySem.W.view R.prog [96]) hk ob 7000 nms (w.withFollow "special-get-raises" true) := by
  intro os; kernel_rfl
theorem run (w : World) : HandSHeadRun.RunEq R (PySem.W.view R.prog [96]) hk ob 7000 nms w :=
  PySem.W.byRow2 "special-get-raises" (P := fun w => HandSHeadRun.RunEq R (PySem.W.view R.prog [96]) hk ob 7000 nms w) run_no run_yes w
end SR
end
section
set_option Elab.async false
set_option linter.all false
set_option maxRecDepth 100000
set_option maxHeartbeats 4000000
/-! A small world of pure data over the layer: expressions, tests, statements read upon data (PyData) alone. -/
namespace SR
open PySem PySem.Spec PyProof.Rows L2
open Evl (Ex)
abbrev Rho := List (Option PyData)
/-! ### data of a value, kept by more heap -/
theorem ex_rd {H H' : Hp} {a : Addr} {u : HO} (e : Ex H H') (h : Rd H a u) : Rd H' a u := Evl.ex_rd e h
theorem ex_l {K : PySem.W.Frag} {H H' : Hp} {a : Addr} {xs : List V} (e : Ex H H') (h : SqL K H a xs) : SqL K H' a xs := Evl.ex_l e h
theorem ex_t {K : PySem.W.Frag} {H H' : Hp} {a : Addr} {xs : List V} (e : Ex H H') (h : SqT K H a xs) : SqT K H' a xs := Evl.ex_t e h
section
variable {K : PySem.W.Frag} {H H' : Hp}
mutual
theorem dp_ex (e : Ex H H') : ∀ (d : PyData) (v : V), Dp K H v d → Dp K H' v d
  | .none, _, h => by cases h; exact .non
  | .bool b, _, h => by cases h; exact .bl b
  | .int i, _, h => by cases h; exact .int i
  | .str x, _, h => by cases h; exact .str x
  | .list ds, _, h => by
    cases h with
    | lst hs ha => exact .lst (ex_l e hs) (dps_ex e ds _ ha)
  | .tuple ds, _, h => by
    cases h with
    | tup hs ha => exact .tup (ex_t e hs) (dps_ex e ds _ ha)
  | .dict _, _, h => by cases h
theorem dps_ex (e : Ex H H') : ∀ (ds : List PyData) (vs : List V), DpAll K H vs ds → DpAll K H' vs ds
  | [], _, h => by cases h; exact .nil
  | d :: ds, _, h => by
    cases h with
    | cons h1 h2 => exact .cons (dp_ex e d _ h1) (dps_ex e ds _ h2)
end
/-! no list, no dict within -/
mutual
def Fz : PyData → Bool
  | .list _ => false
  | .dict _ => false
  | .tuple ds => FzAll ds
  | _ => true
def FzAll : List PyData → Bool
  | [] => true
  | d :: ds => Fz d && FzAll ds
end
/-- what tuples say is kept: H' reads every tuple that H reads -/
def Tx (H H' : Hp) : Prop := ∀ a xs, Rd H a (.tup xs) → Rd H' a (.tup xs)
theorem Tx.of_ex (e : Ex H H') : Tx H H' := fun _ _ h => ex_rd e h
theorem Tx.upd {o u : HO} {a : Addr} (ha : H a = some u) (hu : ∀ xs, u ≠ .tup xs) (hf : ∀ ob xs, u ≠ .frz ob (.tup xs)) : Tx H (upd H a o) := fun b xs h => by
  rcases h with h | ⟨ob, h⟩
  · exact .inl (by rw [upd_ne (ne_of h ha fun q => hu xs q.symm)]; exact h)
  · exact .inr ⟨ob, by rw [upd_ne (ne_of h ha fun q => hf ob xs q.symm)]; exact h⟩
theorem Tx.refl (H : Hp) : Tx H H := fun _ _ h => h
theorem Tx.trans {H1 H2 H3 : Hp} (a : Tx H1 H2) (b : Tx H2 H3) : Tx H1 H3 := fun c xs h => b c xs (a c xs h)
theorem Tx.lst {o : HO} {a : Addr} {ys : List V} (ha : H a = some (.lst ys)) : Tx H (L2.upd H a o) := Tx.upd ha (fun xs q => by cases q) (fun ob xs q => by cases q)
theorem Tx.dK {o : HO} {a : Addr} {ys : List (Key × V)} (ha : H a = some (.dK ys)) : Tx H (L2.upd H a o) := Tx.upd ha (fun xs q => by cases q) (fun ob xs q => by cases q)
theorem Tx.ins {o : HO} {a C dx : Addr} {fs : List (Str × V)} (ha : H a = some (.ins C dx fs)) : Tx H (L2.upd H a o) := Tx.upd ha (fun xs q => by cases q) (fun ob xs q => by cases q)
theorem Tx.sq (e : Tx H H') {a : Addr} {xs : List V} (h : SqT K H a xs) : SqT K H' a xs := by
  rcases h with h | h
  · exact .inl (e _ _ h)
  · exact .inr h
mutual
theorem dp_tx (e : Tx H H') : ∀ (d : PyData) (v : V), Fz d = true → Dp K H v d → Dp K H' v d
  | .none, _, _, h => by cases h; exact .non
  | .bool b, _, _, h => by cases h; exact .bl b
  | .int i, _, _, h => by cases h; exact .int i
  | .str x, _, _, h => by cases h; exact .str x
  | .list ds, _, f, h => by cases f
  | .tuple ds, _, f, h => by
    cases h with
    | tup hs ha => exact .tup (e.sq hs) (dps_tx e ds _ f ha)
  | .dict _, _, _, h => by cases h
theorem dps_tx (e : Tx H H') : ∀ (ds : List PyData) (vs : List V), FzAll ds = true → DpAll K H vs ds → DpAll K H' vs ds
  | [], _, _, h => by cases h; exact .nil
  | d :: ds, _, f, h => by
    obtain ⟨f1, f2⟩ := Bool.and_eq_true_iff.mp (show (Fz d && FzAll ds) = true from f)
    cases h with
    | cons h1 h2 => exact .cons (dp_tx e d _ f1 h1) (dps_tx e ds _ f2 h2)
end
theorem dps_len : ∀ {ds : List PyData} {vs : List V}, DpAll K H vs ds → vs.length = ds.length
  | [], _, h => by cases h; rfl
  | d :: ds, _, h => by
    cases h with
    | cons _ h2 => rw [List.length_cons, List.length_cons, dps_len h2]
theorem dps_get : ∀ {ds : List PyData} {vs : List V} {i : Nat} {d : PyData}, DpAll K H vs ds → ds[i]? = some d → ∃ v, vs[i]? = some v ∧ Dp K H v d
  | [], _, i, d, h, e => by simp at e
  | d0 :: ds, _, 0, d, h, e => by
    cases h with
    | cons h1 h2 =>
      have e1 : d0 = d := Option.some.inj e
      subst e1
      exact ⟨_, rfl, h1⟩
  | d0 :: ds, _, i + 1, d, h, e => by
    cases h with
    | cons h1 h2 => exact dps_get (i := i) h2 e
theorem dps_app : ∀ {ds es : List PyData} {vs ws : List V}, DpAll K H vs ds → DpAll K H ws es → DpAll K H (vs ++ ws) (ds ++ es)
  | [], _, _, _, h, k => by cases h; exact k
  | d :: ds, _, _, _, h, k => by
    cases h with
    | cons h1 h2 => exact .cons h1 (dps_app h2 k)
theorem fz_app : ∀ {ds es : List PyData}, FzAll ds = true → FzAll es = true → FzAll (ds ++ es) = true
  | [], _, _, k => k
  | d :: ds, es, h, k => by
    obtain ⟨h1, h2⟩ := Bool.and_eq_true_iff.mp (show (Fz d && FzAll ds) = true from h)
    show (Fz d && FzAll (ds ++ es)) = true
    rw [h1, fz_app h2 k]
    rfl
theorem fz_mem : ∀ {ds : List PyData} {d : PyData}, FzAll ds = true → d ∈ ds → Fz d = true
  | [], _, _, m => by cases m
  | d0 :: ds, d, h, m => by
    obtain ⟨h1, h2⟩ := Bool.and_eq_true_iff.mp (show (Fz d0 && FzAll ds) = true from h)
    rcases List.mem_cons.mp m with e | m
    · rw [e]; exact h1
    · exact fz_mem h2 m
theorem fz_all : ∀ {ds : List PyData}, (∀ d ∈ ds, Fz d = true) → FzAll ds = true
  | [], _ => rfl
  | d :: ds, h => by
    show (Fz d && FzAll ds) = true
    rw [h d (List.mem_cons_self ..), fz_all fun e m => h e (List.mem_cons_of_mem _ m)]
    rfl
theorem fz_take {ds : List PyData} (n : Nat) (h : FzAll ds = true) : FzAll (ds.take n) = true := fz_all fun d m => fz_mem h (List.mem_of_mem_take m)
end
theorem dp_int {K : PySem.W.Frag} {H : Hp} {v : V} {i : Int} (h : Dp K H v (.int i)) : v = .int i := by cases h; rfl
theorem dp_bool {K : PySem.W.Frag} {H : Hp} {v : V} {i : Bool} (h : Dp K H v (.bool i)) : v = .bl i := by cases h; rfl
theorem dp_str {K : PySem.W.Frag} {H : Hp} {v : V} {i : Str} (h : Dp K H v (.str i)) : v = .str i := by cases h; rfl
theorem dp_none {K : PySem.W.Frag} {H : Hp} {v : V} (h : Dp K H v .none) : v = .non := by cases h; rfl
theorem dp_tup {K : PySem.W.Frag} {H : Hp} {v : V} {ds : List PyData} (h : Dp K H v (.tuple ds)) : ∃ a xs, v = .ref a ∧ SqT K H a xs ∧ DpAll K H xs ds := by
  cases h with
  | tup h1 h2 => exact ⟨_, _, rfl, h1, h2⟩
theorem dp_lst {K : PySem.W.Frag} {H : Hp} {v : V} {ds : List PyData} (h : Dp K H v (.list ds)) : ∃ a xs, v = .ref a ∧ SqL K H a xs ∧ DpAll K H xs ds := by
  cases h with
  | lst h1 h2 => exact ⟨_, _, rfl, h1, h2⟩
theorem dps_nil {K : PySem.W.Frag} {H : Hp} {vs : List V} (h : DpAll K H vs []) : vs = [] := by cases h; rfl
theorem dps_cons {K : PySem.W.Frag} {H : Hp} {vs : List V} {d : PyData} {ds : List PyData} (h : DpAll K H vs (d :: ds)) : ∃ v ws, vs = v :: ws ∧ Dp K H v d ∧ DpAll K H ws ds := by
  cases h with
  | cons h1 h2 => exact ⟨_, _, rfl, h1, h2⟩
theorem dps1 {K : PySem.W.Frag} {H : Hp} {vs : List V} {d : PyData} (h : DpAll K H vs [d]) : ∃ v, vs = [v] ∧ Dp K H v d := by
  obtain ⟨v, ws, rfl, h1, h2⟩ := dps_cons h
  cases h2
  exact ⟨v, rfl, h1⟩
theorem dps2 {K : PySem.W.Frag} {H : Hp} {vs : List V} {d e : PyData} (h : DpAll K H vs [d, e]) : ∃ v w, vs = [v, w] ∧ Dp K H v d ∧ Dp K H w e := by
  obtain ⟨v, ws, rfl, h1, h2⟩ := dps_cons h
  obtain ⟨w, rfl, h3⟩ := dps1 h2
  exact ⟨v, w, rfl, h1, h3⟩
/-! ### the slots by data -/
structure EnvR (K : PySem.W.Frag) (H : Hp) (σ : L2.St) (ρ : Rho) : Prop where
  len : σ.length = ρ.length
  at_ : ∀ (i : Nat) (d : PyData), ρ[i]? = some (some d) → ∃ v, σ[i]? = some (some v) ∧ Dp K H v d
section
variable {K : PySem.W.Frag} {H H' : Hp} {σ : L2.St} {ρ : Rho}
theorem EnvR.ex (h : EnvR K H σ ρ) (e : Ex H H') : EnvR K H' σ ρ := ⟨h.len, fun i d q => let ⟨v, a, b⟩ := h.at_ i d q; ⟨v, a, dp_ex e d v b⟩⟩
def FzR (ρ : Rho) : Bool := ρ.all fun o => match o with
  | some d => Fz d
  | none => true
theorem EnvR.tx (h : EnvR K H σ ρ) (f : FzR ρ = true) (e : Tx H H') : EnvR K H' σ ρ := ⟨h.len, fun i d q => by
  obtain ⟨v, a, b⟩ := h.at_ i d q
  have fd : Fz d = true := List.all_eq_true.mp f (some d) (List.mem_of_getElem? q)
  exact ⟨v, a, dp_tx e d v fd b⟩⟩
theorem EnvR.set {i : Nat} {v : V} {d : PyData} (h : EnvR K H σ ρ) (hv : Dp K H v d) : EnvR K H (σ.set i (some v)) (ρ.set i (some d)) := by
  refine ⟨by rw [List.length_set, List.length_set]; exact h.len, fun j e q => ?_⟩
  by_cases hij : i = j
  · subst hij
    by_cases hl : i < ρ.length
    · rw [List.getElem?_set_self hl] at q
      have e1 : d = e := Option.some.inj (Option.some.inj q)
      subst e1
      exact ⟨v, List.getElem?_set_self (by rw [h.len]; exact hl), hv⟩
    · rw [List.set_eq_of_length_le (by omega)] at q
      rw [List.set_eq_of_length_le (by rw [h.len]; omega)]
      exact h.at_ i e q
  · rw [List.getElem?_set_ne hij] at q
    rw [List.getElem?_set_ne hij]
    exact h.at_ j e q
/-- a slot that holds no data -/
theorem EnvR.setX {i : Nat} {v : Option V} (h : EnvR K H σ ρ) : EnvR K H (σ.set i v) (ρ.set i none) := by
  refine ⟨by rw [List.length_set, List.length_set]; exact h.len, fun j e q => ?_⟩
  by_cases hij : i = j
  · subst hij
    by_cases hl : i < ρ.length
    · rw [List.getElem?_set_self hl] at q
      cases Option.some.inj q
    · rw [List.set_eq_of_length_le (by omega)] at q
      rw [List.set_eq_of_length_le (by rw [h.len]; omega)]
      exact h.at_ i e q
  · rw [List.getElem?_set_ne hij] at q
    rw [List.getElem?_set_ne hij]
    exact h.at_ j e q
theorem EnvR.start {N : List Str} {vs : List V} {ds : List PyData} (h : DpAll K H vs ds) : EnvR K H (start N vs) (ds.map some ++ List.replicate (N.length - ds.length) none) := by
  have hl := dps_len h
  refine ⟨by unfold L2.start; rw [List.length_append, List.length_append, List.length_map, List.length_map, List.length_replicate, List.length_replicate, hl], fun i d q => ?_⟩
  by_cases hi : i < ds.length
  · rw [List.getElem?_append_left (by rw [List.length_map]; exact hi), List.getElem?_map] at q
    cases e : ds[i]? with
    | none => rw [e] at q; cases q
    | some d' =>
      rw [e] at q
      have e1 : d' = d := Option.some.inj (Option.some.inj q)
      subst e1
      obtain ⟨v, hv, hd⟩ := dps_get h e
      refine ⟨v, ?_, hd⟩
      unfold L2.start
      rw [List.getElem?_append_left (by rw [List.length_map, hl]; exact hi), List.getElem?_map, hv]
      rfl
  · rw [List.getElem?_append_right (by rw [List.length_map]; omega)] at q
    rw [List.getElem?_replicate] at q
    split at q
    · cases Option.some.inj q
    · cases q
end
/-! ### the judgements -/
/-- the expression's datum -/
def XE (K : PySem.W.Frag) (t : TE) (ρ : Rho) (d : PyData) : Prop := ∀ (σ : L2.St) (H : Hp), EnvR K H σ ρ → ∀ Q : VK, (∀ v H', Ex H H' → Dp K H' v d → Q v H') → t σ H Q
def XA (K : PySem.W.Frag) (t : TA) (ρ : Rho) (ds : List PyData) : Prop := ∀ (σ : L2.St) (H : Hp), EnvR K H σ ρ → ∀ Q : List V → Hp → Prop, (∀ vs H', Ex H H' → DpAll K H' vs ds → Q vs H') → t σ H Q
def XT (K : PySem.W.Frag) (t : TT) (ρ : Rho) (b : Bool) : Prop := ∀ (σ : L2.St) (H : Hp), EnvR K H σ ρ → ∀ Q : Bool → Hp → Prop, (∀ H', Ex H H' → Q b H') → t σ H Q
structure PEnd where
  nx : Rho → Prop
  rt : PyData → Prop
  bk : Rho → Prop := fun _ => False
  ct : Rho → Prop := fun _ => False
def XS (K : PySem.W.Frag) (t : TS) (e : PEnd) (ρ : Rho) : Prop := ∀ (D : Ends) (σ : L2.St) (H : Hp), EnvR K H σ ρ →
  (∀ ρ', e.nx ρ' → ∀ σ' H', Ex H H' → EnvR K H' σ' ρ' → D.nx σ' H') → (∀ d, e.rt d → ∀ v H', Ex H H' → Dp K H' v d → D.rt v H') →
  (∀ ρ', e.bk ρ' → ∀ σ' H', Ex H H' → EnvR K H' σ' ρ' → D.bk σ' H') → (∀ ρ', e.ct ρ' → ∀ σ' H', Ex H H' → EnvR K H' σ' ρ' → D.ct σ' H') → t D σ H
/-- a target: the slots that it stores to, the slots' data behind -/
def XG (K : PySem.W.Frag) (js : List Nat) (g : TG) (d : PyData) (ρ ρ' : Rho) : Prop := ∀ (σ : L2.St) (H : Hp) (v : V), EnvR K H σ ρ → Dp K H v d → ∀ Q : L2.St → Hp → Prop,
  (∀ σ', EnvR K H σ' ρ' → σ'.length = σ.length → (∀ i, i ∉ js → σ'[i]? = σ[i]?) → Q σ' H) → g v σ H Q
def XGs (K : PySem.W.Frag) (js : List Nat) (g : TGs) (ds : List PyData) (ρ ρ' : Rho) : Prop := ∀ (σ : L2.St) (H : Hp) (vs : List V), EnvR K H σ ρ → DpAll K H vs ds → ∀ Q : L2.St → Hp → Prop,
  (∀ σ', EnvR K H σ' ρ' → σ'.length = σ.length → (∀ i, i ∉ js → σ'[i]? = σ[i]?) → Q σ' H) → g vs σ H Q
/-- what is walked: these data, one by one -/
def XI (K : PySem.W.Frag) (wi : TI) (ρ : Rho) (ds : List PyData) : Prop := ∀ (σ : L2.St) (H : Hp) (R : It → Hp → Prop), EnvR K H σ ρ →
  (∀ (J : It) (H1 : Hp) (G : Hp → Prop) (Y : Nat → Hp → V → Hp → Prop), Ex H H1 → Walk J ds.length G Y → (∀ H2, Ex H1 H2 → G H2) →
    (∀ i H2 x H3, i < ds.length → Ex H1 H2 → Y i H2 x H3 → Ex H2 H3 ∧ ∃ d, ds[i]? = some d ∧ Dp K H3 x d) → R J H1) → wi σ H R
section
variable {K : PySem.W.Frag} {ρ ρ' ρ1 ρ2 : Rho} {t u ta tb tc te : TE} {d d1 d2 : PyData} {ds : List PyData} {e : PEnd} {t1 t2 : TS} {i j : Nat}
theorem XE.to (h : XE K t ρ d1) (q : d1 = d) : XE K t ρ d := q ▸ h
theorem XT.to {c : TT} {a b : Bool} (h : XT K c ρ a) (q : a = b) : XT K c ρ b := q ▸ h
/-! ### expressions -/
theorem xe_var (h : ρ[i]? = some (some d)) : XE K (tVar i) ρ d := fun σ H E Q q => by
  obtain ⟨v, h1, h2⟩ := E.at_ i d h
  exact ⟨v, h1, q v H (Evl.Ex.refl H) h2⟩
theorem xe_c {v : V} (h : ∀ H, Dp K H v d) : XE K (tC v) ρ d := fun σ H E Q q => q v H (Evl.Ex.refl H) (h H)
theorem xe_int {n : Int} : XE K (tC (.int n)) ρ (.int n) := xe_c fun _ => .int n
theorem xe_str {n : Str} : XE K (tC (.str n)) ρ (.str n) := xe_c fun _ => .str n
theorem xe_bl {n : Bool} : XE K (tC (.bl n)) ρ (.bool n) := xe_c fun _ => .bl n
theorem xe_non : XE K (tC .non) ρ .none := xe_c fun _ => .non
/-- two values, then a rule -/
theorem xe_op {r : R2} (ha : XE K ta ρ d1) (hb : XE K tb ρ d2) (hr : ∀ (x y : V) (H : Hp) (Q : VK), Dp K H x d1 → Dp K H y d2 → (∀ v H', Ex H H' → Dp K H' v d → Q v H') → r x y H Q) : XE K (tOp r ta tb) ρ d := fun σ H E Q q =>
  ha σ H E _ fun x H1 e1 hx => hb σ H1 (E.ex e1) _ fun y H2 e2 hy => hr x y H2 Q (dp_ex e2 _ _ hx) hy fun v H3 e3 hv => q v H3 ((e1.trans e2).trans e3) hv
theorem xe_opI {C : Int → Int → Prop} {g : Int → Int → Int} {a b : Int} (ha : XE K ta ρ (.int a)) (hb : XE K tb ρ (.int b)) (hc : C a b) : XE K (tOp (rI C fun i j => .int (g i j)) ta tb) ρ (.int (g a b)) :=
  xe_op ha hb fun x y H Q hx hy q => ⟨a, b, dp_int hx, dp_int hy, hc, q _ H (Evl.Ex.refl H) (.int _)⟩
theorem xe_opI0 {g : Int → Int → Int} {a b : Int} (ha : XE K ta ρ (.int a)) (hb : XE K tb ρ (.int b)) : XE K (tOp (rI0 fun i j => .int (g i j)) ta tb) ρ (.int (g a b)) :=
  xe_op ha hb fun x y H Q hx hy q => ⟨a, b, dp_int hx, dp_int hy, q _ H (Evl.Ex.refl H) (.int _)⟩
theorem xe_opB0 {g : Int → Int → Bool} {a b : Int} (ha : XE K ta ρ (.int a)) (hb : XE K tb ρ (.int b)) : XE K (tOp (rI0 fun i j => .bl (g i j)) ta tb) ρ (.bool (g a b)) :=
  xe_op ha hb fun x y H Q hx hy q => ⟨a, b, dp_int hx, dp_int hy, q _ H (Evl.Ex.refl H) (.bl _)⟩
theorem xe_add {a b : Int} (ha : XE K ta ρ (.int a)) (hb : XE K tb ρ (.int b)) : XE K (tOp (rI0 fun i j => .int (i + j)) ta tb) ρ (.int (a + b)) := xe_opI0 ha hb
theorem xe_sub {a b : Int} (ha : XE K ta ρ (.int a)) (hb : XE K tb ρ (.int b)) : XE K (tOp (rI0 fun i j => .int (i - j)) ta tb) ρ (.int (a - b)) := xe_opI0 ha hb
theorem xe_mul {a b : Int} (ha : XE K ta ρ (.int a)) (hb : XE K tb ρ (.int b)) (hc : CMulX a b) : XE K (tOp (rI CMulX fun i j => .int (i * j)) ta tb) ρ (.int (a * b)) := xe_opI ha hb hc
theorem xe_fdiv {a b : Int} (ha : XE K ta ρ (.int a)) (hb : XE K tb ρ (.int b)) (hc : CDivW a b) : XE K (tOp (rI CDivW fun i j => .int (i / j)) ta tb) ρ (.int (a / b)) := xe_opI ha hb hc
theorem xe_mod {a b : Int} (ha : XE K ta ρ (.int a)) (hb : XE K tb ρ (.int b)) (hc : 0 < b) : XE K (tOp (rI (fun _ j => 0 < j) fun i j => .int (i % j)) ta tb) ρ (.int (a % b)) := xe_opI (C := fun _ j => 0 < j) (g := fun i j => i % j) ha hb hc
theorem xe_shl {a b : Int} (ha : XE K ta ρ (.int a)) (hb : XE K tb ρ (.int b)) (hc : CShl a b) : XE K (tOp (rI CShl fun i j => .int (i * 2 ^ j.toNat)) ta tb) ρ (.int (a * 2 ^ b.toNat)) := xe_opI (C := CShl) (g := fun i j => i * 2 ^ j.toNat) ha hb hc
theorem xe_lt {a b : Int} (ha : XE K ta ρ (.int a)) (hb : XE K tb ρ (.int b)) : XE K (tOp (rI0 fun i j => .bl (decide (i < j))) ta tb) ρ (.bool (decide (a < b))) := xe_opB0 (g := fun i j => decide (i < j)) ha hb
theorem xe_le {a b : Int} (ha : XE K ta ρ (.int a)) (hb : XE K tb ρ (.int b)) : XE K (tOp (rI0 fun i j => .bl (decide (i ≤ j))) ta tb) ρ (.bool (decide (a ≤ b))) := xe_opB0 (g := fun i j => decide (i ≤ j)) ha hb
theorem xe_gt {a b : Int} (ha : XE K ta ρ (.int a)) (hb : XE K tb ρ (.int b)) : XE K (tOp (rI0 fun i j => .bl (decide (j < i))) ta tb) ρ (.bool (decide (b < a))) := xe_opB0 (g := fun i j => decide (j < i)) ha hb
theorem xe_ge {a b : Int} (ha : XE K ta ρ (.int a)) (hb : XE K tb ρ (.int b)) : XE K (tOp (rI0 fun i j => .bl (decide (j ≤ i))) ta tb) ρ (.bool (decide (b ≤ a))) := xe_opB0 (g := fun i j => decide (j ≤ i)) ha hb
theorem xe_eqI {a b : Int} (ha : XE K ta ρ (.int a)) (hb : XE K tb ρ (.int b)) : XE K (tOp rEq ta tb) ρ (.bool (decide (a = b))) :=
  xe_op ha hb fun x y H Q hx hy q => by
    rw [dp_int hx, dp_int hy]
    refine ⟨rfl, q _ H (Evl.Ex.refl H) ?_⟩
    have e : decide (V.int a = V.int b) = decide (a = b) := by
      rw [Bool.eq_iff_iff]
      simp
    rw [e]
    exact .bl _
theorem xe_neI {a b : Int} (ha : XE K ta ρ (.int a)) (hb : XE K tb ρ (.int b)) : XE K (tOp rNe ta tb) ρ (.bool (!decide (a = b))) :=
  xe_op ha hb fun x y H Q hx hy q => by
    rw [dp_int hx, dp_int hy]
    refine ⟨rfl, q _ H (Evl.Ex.refl H) ?_⟩
    have e : decide (V.int a = V.int b) = decide (a = b) := by
      rw [Bool.eq_iff_iff]
      simp
    rw [e]
    exact .bl _
theorem xe_eqS {a b : Str} (ha : XE K ta ρ (.str a)) (hb : XE K tb ρ (.str b)) : XE K (tOp rEq ta tb) ρ (.bool (decide (a = b))) :=
  xe_op ha hb fun x y H Q hx hy q => by
    rw [dp_str hx, dp_str hy]
    refine ⟨rfl, q _ H (Evl.Ex.refl H) ?_⟩
    have e : decide (V.str a = V.str b) = decide (a = b) := by
      rw [Bool.eq_iff_iff]
      simp
    rw [e]
    exact .bl _
theorem xe_isN (ha : XE K ta ρ d) : XE K (tOp (fun x y H Q => y = V.non ∧ Q (.bl (decide (x = .non))) H) ta (tC .non)) ρ (.bool (match d with | .none => true | _ => false)) :=
  xe_op ha xe_non fun x y H Q hx hy q => ⟨dp_none hy, q _ H (Evl.Ex.refl H) (by cases hx <;> exact .bl _)⟩
/-- == of data -/
theorem xe_eqD (ha : XE K ta ρ d1) (hb : XE K tb ρ d2) (s1 : SeqAt.shaped d1 = true) (s2 : SeqAt.shaped d2 = true) : XE K (tOp (rEqD K) ta tb) ρ (.bool (PyData.eqv d1 d2)) :=
  xe_op ha hb fun x y H Q hx hy q => ⟨d1, d2, hx, hy, s1, s2, q _ H (Evl.Ex.refl H) (.bl _)⟩
theorem xe_neD (ha : XE K ta ρ d1) (hb : XE K tb ρ d2) (s1 : SeqAt.shaped d1 = true) (s2 : SeqAt.shaped d2 = true) : XE K (tOp (rNeD K) ta tb) ρ (.bool (!PyData.eqv d1 d2)) :=
  xe_op ha hb fun x y H Q hx hy q => ⟨d1, d2, hx, hy, s1, s2, q _ H (Evl.Ex.refl H) (.bl _)⟩
/-- a tuple's item -/
theorem xe_ixT {n : Int} (ha : XE K ta ρ (.tuple ds)) (hb : XE K tb ρ (.int n)) (h0 : 0 ≤ n) (hd : ds[n.toNat]? = some d) : XE K (tOp (rIxT K) ta tb) ρ d :=
  xe_op ha hb fun x y H Q hx hy q => by
    obtain ⟨a, xs, rfl, hs, ha⟩ := dp_tup hx
    obtain ⟨v, hv, hd'⟩ := dps_get ha hd
    exact ⟨a, xs, n, v, rfl, dp_int hy, hs, at_of (j := n.toNat) (by omega) hv, q v H (Evl.Ex.refl H) hd'⟩
theorem xe_ixL {n : Int} (ha : XE K ta ρ (.list ds)) (hb : XE K tb ρ (.int n)) (h0 : 0 ≤ n) (hd : ds[n.toNat]? = some d) : XE K (tOp (rIxL K) ta tb) ρ d :=
  xe_op ha hb fun x y H Q hx hy q => by
    obtain ⟨a, xs, rfl, hs, ha⟩ := dp_lst hx
    obtain ⟨v, hv, hd'⟩ := dps_get ha hd
    exact ⟨a, xs, n, v, rfl, dp_int hy, hs, at_of (j := n.toNat) (by omega) hv, q v H (Evl.Ex.refl H) hd'⟩
theorem xa_nil : XA K tNil ρ [] := fun σ H E Q q => q [] H (Evl.Ex.refl H) .nil
theorem xa_cons {tr : TA} (ha : XE K ta ρ d) (hr : XA K tr ρ ds) : XA K (tCons ta tr) ρ (d :: ds) := fun σ H E Q q =>
  ha σ H E _ fun x H1 e1 hx => hr σ H1 (E.ex e1) _ fun xs H2 e2 hxs => q (x :: xs) H2 (e1.trans e2) (.cons (dp_ex e2 _ _ hx) hxs)
theorem xe_tup {tr : TA} (h : XA K tr ρ ds) (hl : ds.length ≤ 1000) : XE K (tTup tr) ρ (.tuple ds) := fun σ H E Q q =>
  h σ H E _ fun vs H1 e1 hvs => ⟨Nat.le_trans (by rw [dps_len hvs]; exact hl) (by decide), fun p hp => q (.ref p) _ (e1.trans (Evl.Ex.new hp)) (.tup (SqT.of upd_same) (dps_ex (Evl.Ex.new hp) _ _ hvs))⟩
theorem xe_lst {tr : TA} (h : XA K tr ρ ds) (hl : ds.length ≤ 1000) : XE K (tLst tr) ρ (.list ds) := fun σ H E Q q =>
  h σ H E _ fun vs H1 e1 hvs => ⟨Nat.le_trans (by rw [dps_len hvs]; exact hl) (by decide), fun p hp => q (.ref p) _ (e1.trans (Evl.Ex.new hp)) (.lst (SqL.of upd_same) (dps_ex (Evl.Ex.new hp) _ _ hvs))⟩
/-- the promise of a pure def -/
def spP (K : PySem.W.Frag) (R : List PyData → PyData → Prop) : Sp := fun vs H Q _ => ∃ ds d, DpAll K H vs ds ∧ R ds d ∧ ∀ v H', Ex H H' → Dp K H' v d → Q v H'
theorem xe_call {R : List PyData → PyData → Prop} {E : XK} {tr : TA} (h : XA K tr ρ ds) (r : R ds d) : XE K (tCall (spP K R) [] E tr) ρ d := fun σ H E Q q =>
  h σ H E _ fun vs H1 e1 hvs => ⟨ds, d, by rw [List.append_nil]; exact hvs, r, fun v H2 e2 hv => q v H2 (e1.trans e2) hv⟩
/-- a built-in -/
theorem xe_cb {r : List V → Hp → VK → Prop} {tr : TA} (h : XA K tr ρ ds) (hr : ∀ (vs : List V) (H : Hp) (Q : VK), DpAll K H vs ds → (∀ v H', Ex H H' → Dp K H' v d → Q v H') → r vs H Q) : XE K (tCB r tr) ρ d := fun σ H E Q q =>
  h σ H E _ fun vs H1 e1 hvs => hr vs H1 Q hvs fun v H2 e2 hv => q v H2 (e1.trans e2) hv
theorem xe_bits {n : Int} (h : XE K t ρ (.int n)) : XE K (tBits t) ρ (.int (Builtin.Int.intBits n : Nat)) := fun σ H E Q q =>
  h σ H E _ fun v H1 e1 hv => ⟨n, dp_int hv, q _ H1 e1 (.int _)⟩
theorem xe_if {c : TT} {b : Bool} (hc : XT K c ρ b) (h1 : b = true → XE K ta ρ d) (h2 : b = false → XE K tb ρ d) : XE K (tIf c ta tb) ρ d := fun σ H E Q q =>
  hc σ H E _ fun H1 e1 => by
    cases b with
    | true => exact h1 rfl σ H1 (E.ex e1) Q fun v H2 e2 hv => q v H2 (e1.trans e2) hv
    | false => exact h2 rfl σ H1 (E.ex e1) Q fun v H2 e2 hv => q v H2 (e1.trans e2) hv
theorem xe_andV {a b : Bool} (h1 : XE K ta ρ (.bool a)) (h2 : a = true → XE K tb ρ (.bool b)) : XE K (tAndV ta tb) ρ (.bool (a && b)) := fun σ H E Q q =>
  h1 σ H E _ fun v H1 e1 hv => ⟨a, dp_bool hv, by
    cases a with
    | true => exact h2 rfl σ H1 (E.ex e1) Q fun v H2 e2 hv => q v H2 (e1.trans e2) hv
    | false => exact q _ H1 e1 (.bl _)⟩
theorem xe_orV {a b : Bool} (h1 : XE K ta ρ (.bool a)) (h2 : a = false → XE K tb ρ (.bool b)) : XE K (tOrV ta tb) ρ (.bool (a || b)) := fun σ H E Q q =>
  h1 σ H E _ fun v H1 e1 hv => ⟨a, dp_bool hv, by
    cases a with
    | true => exact q _ H1 e1 (.bl _)
    | false => exact h2 rfl σ H1 (E.ex e1) Q fun v H2 e2 hv => q v H2 (e1.trans e2) hv⟩
theorem xe_notV {a : Bool} (h1 : XE K ta ρ (.bool a)) : XE K (tNotV ta) ρ (.bool (!a)) := fun σ H E Q q =>
  h1 σ H E _ fun v H1 e1 hv => ⟨a, dp_bool hv, q _ H1 e1 (.bl _)⟩
/-! ### tests -/
theorem xt_test {b : Bool} (h : XE K t ρ (.bool b)) : XT K (tTest t) ρ b := fun σ H E Q q => h σ H E _ fun v H1 e1 hv => ⟨b, dp_bool hv, q H1 e1⟩
theorem xt_B {b : Bool} (h : XE K t ρ (.bool b)) : XT K (tB t) ρ b := fun σ H E Q q => h σ H E _ fun v H1 e1 hv => ⟨b, dp_bool hv, q H1 e1⟩
theorem xt_not {c : TT} {b : Bool} (h : XT K c ρ b) : XT K (tNot c) ρ (!b) := fun σ H E Q q => h σ H E _ fun H1 e1 => q H1 e1
theorem xt_and {c c' : TT} {a b : Bool} (h1 : XT K c ρ a) (h2 : a = true → XT K c' ρ b) : XT K (tAnd c c') ρ (a && b) := fun σ H E Q q => h1 σ H E _ fun H1 e1 => by
  cases a with
  | true => exact h2 rfl σ H1 (E.ex e1) Q fun H2 e2 => q H2 (e1.trans e2)
  | false => exact q H1 e1
theorem xt_or {c c' : TT} {a b : Bool} (h1 : XT K c ρ a) (h2 : a = false → XT K c' ρ b) : XT K (tOr c c') ρ (a || b) := fun σ H E Q q => h1 σ H E _ fun H1 e1 => by
  cases a with
  | true => exact q H1 e1
  | false => exact h2 rfl σ H1 (E.ex e1) Q fun H2 e2 => q H2 (e1.trans e2)
theorem xt_yes : XT K tYes ρ true := fun σ H E Q q => q H (Evl.Ex.refl H)
/-! ### targets -/
theorem xg_name : XG K [i] (gName i) d ρ (ρ.set i (some d)) := fun σ H v E hv Q q => q _ (E.set hv) (List.length_set ..) fun k hk => List.getElem?_set_ne fun z => hk (by simp [z])
theorem xgs_nil : XGs K [] gNil [] ρ ρ := fun σ H vs E hv Q q => ⟨dps_nil hv, q σ E rfl fun _ _ => rfl⟩
theorem xgs_cons {js ks : List Nat} {g : TG} {gs : TGs} (h1 : XG K js g d ρ ρ1) (h2 : XGs K ks gs ds ρ1 ρ2) : XGs K (js ++ ks) (gCons g gs) (d :: ds) ρ ρ2 := fun σ H vs E hv Q q => by
  obtain ⟨v, ws, rfl, hv1, hv2⟩ := dps_cons hv
  exact ⟨v, ws, rfl, h1 σ H v E hv1 _ fun σ1 E1 l1 k1 => h2 σ1 H ws E1 hv2 _ fun σ2 E2 l2 k2 => q σ2 E2 (l2.trans l1) fun i hi => (k2 i fun z => hi (List.mem_append_right _ z)).trans (k1 i fun z => hi (List.mem_append_left _ z))⟩
theorem xg_tup {js : List Nat} {gs : TGs} {n : Nat} (h : XGs K js gs ds ρ ρ1) (hn : ds.length = n) : XG K js (gTup K n gs) (.tuple ds) ρ ρ1 := fun σ H v E hv Q q => by
  obtain ⟨a, xs, rfl, hs, ha⟩ := dp_tup hv
  exact ⟨a, xs, rfl, hs, (dps_len ha).trans hn, h σ H xs E ha Q q⟩
/-! ### statements -/
theorem xs_next (h : e.nx ρ) : XS K tNext e ρ := fun D σ H E n r b c => n ρ h σ H (Evl.Ex.refl H) E
theorem xs_seq (h : XS K t1 { e with nx := fun ρ' => XS K t2 e ρ' } ρ) : XS K (tSeq t1 t2) e ρ := fun D σ H E n r b c =>
  h { D with nx := t2 D } σ H E (fun ρ' h' σ' H' e' E' => h' D σ' H' E' (fun ρ2 q2 σ2 H2 e2 E2 => n ρ2 q2 σ2 H2 (e'.trans e2) E2) (fun d q v H2 e2 hv => r d q v H2 (e'.trans e2) hv)
    (fun ρ2 q2 σ2 H2 e2 E2 => b ρ2 q2 σ2 H2 (e'.trans e2) E2) (fun ρ2 q2 σ2 H2 e2 E2 => c ρ2 q2 σ2 H2 (e'.trans e2) E2)) r b c
theorem xs_asg (h : XE K te ρ d) (k : e.nx (ρ.set i (some d))) : XS K (tAsg te (gName i)) e ρ := fun D σ H E n r b c =>
  h σ H E _ fun v H1 e1 hv => n _ k _ H1 e1 ((E.ex e1).set hv)
theorem xs_asgG {js : List Nat} {g : TG} (h : XE K te ρ d) (hg : XG K js g d ρ ρ1) (k : e.nx ρ1) : XS K (tAsg te g) e ρ := fun D σ H E n r b c =>
  h σ H E _ fun v H1 e1 hv => hg σ H1 v (E.ex e1) hv _ fun σ' E' _ _ => n _ k _ H1 e1 E'
theorem xs_par {tr : TA} (h : XA K tr ρ [d1, d2]) (k : e.nx ((ρ.set i (some d1)).set j (some d2))) : XS K (tPar i j tr) e ρ := fun D σ H E n r b c =>
  h σ H E _ fun vs H1 e1 hvs => by
    obtain ⟨v, w, rfl, h1, h2⟩ := dps2 hvs
    exact ⟨v, w, rfl, n _ k _ H1 e1 (((E.ex e1).set h1).set h2)⟩
theorem xs_aug {f : Int → Int → Int} {a b : Int} (hx : ρ[i]? = some (some (.int a))) (h : XE K te ρ (.int b)) (k : e.nx (ρ.set i (some (.int (f a b))))) : XS K (tAug i te (ipI f)) e ρ := fun D σ H E n r b' c => by
  obtain ⟨x, h1, h2⟩ := E.at_ i _ hx
  exact ⟨x, h1, h σ H E _ fun v H1 e1 hv => ⟨a, b, dp_int h2, dp_int hv, n _ k _ H1 e1 ((E.ex e1).set (.int _))⟩⟩
theorem xs_if {c : TT} {b : Bool} (hc : XT K c ρ b) (h1 : b = true → XS K t1 e ρ) (h2 : b = false → XS K t2 e ρ) : XS K (tIfS c t1 t2) e ρ := fun D σ H E n r bk ct =>
  hc σ H E _ fun H1 e1 => by
    have go : ∀ {t : TS}, XS K t e ρ → t D σ H1 := fun h => h D σ H1 (E.ex e1) (fun ρ2 q2 σ2 H2 e2 E2 => n ρ2 q2 σ2 H2 (e1.trans e2) E2) (fun d q v H2 e2 hv => r d q v H2 (e1.trans e2) hv)
      (fun ρ2 q2 σ2 H2 e2 E2 => bk ρ2 q2 σ2 H2 (e1.trans e2) E2) (fun ρ2 q2 σ2 H2 e2 E2 => ct ρ2 q2 σ2 H2 (e1.trans e2) E2)
    cases b with
    | true => exact go (h1 rfl)
    | false => exact go (h2 rfl)
theorem xs_ret (h : XE K te ρ d) (k : e.rt d) : XS K (tRet te) e ρ := fun D σ H E n r b c => h σ H E _ fun v H1 e1 hv => r d k v H1 e1 hv
theorem xs_drop (h : XE K te ρ d) (k : e.nx ρ) : XS K (tDrop te) e ρ := fun D σ H E n r b c => h σ H E _ fun v H1 e1 hv => n ρ k σ H1 e1 (E.ex e1)
theorem xs_mono {e' : PEnd} (h : XS K t1 e ρ) (hn : ∀ ρ', e.nx ρ' → e'.nx ρ') (hr : ∀ d, e.rt d → e'.rt d) (hb : ∀ ρ', e.bk ρ' → e'.bk ρ') (hc : ∀ ρ', e.ct ρ' → e'.ct ρ') : XS K t1 e' ρ := fun D σ H E n r b c =>
  h D σ H E (fun ρ' q => n ρ' (hn ρ' q)) (fun d q => r d (hr d q)) (fun ρ' q => b ρ' (hb ρ' q)) (fun ρ' q => c ρ' (hc ρ' q))
theorem xs_while {c : TT} (I : Nat → Rho → Prop) (m0 : Nat) (h0 : I m0 ρ)
    (hs : ∀ m ρ', I m ρ' → ∃ b, XT K c ρ' b ∧ (b = true → XS K t1 { nx := fun ρ2 => ∃ m', m' < m ∧ I m' ρ2, rt := e.rt, bk := e.nx, ct := fun ρ2 => ∃ m', m' < m ∧ I m' ρ2 } ρ') ∧ (b = false → e.nx ρ')) : XS K (tWhile c t1) e ρ := fun D σ H E n r bk ct => by
  refine ⟨fun m σ' H' => ∃ ρ', I m ρ' ∧ EnvR K H' σ' ρ' ∧ Ex H H', ⟨m0, ρ, h0, E, Evl.Ex.refl H⟩, ?_⟩
  rintro m σ' H' ⟨ρ', hI, E', e'⟩
  obtain ⟨b, hc, h1, h2⟩ := hs m ρ' hI
  refine hc σ' H' E' _ fun H1 e1 => ?_
  cases b with
  | true =>
    refine ⟨fun σ2 H2 => ∃ m', m' < m ∧ ∃ ρ2, I m' ρ2 ∧ EnvR K H2 σ2 ρ2 ∧ Ex H H2, fun σ2 H2 h => h, ?_⟩
    have ee := e'.trans e1
    exact h1 rfl _ σ' H1 (E'.ex e1) (fun ρ2 ⟨m', l, q⟩ σ2 H2 e2 E2 => ⟨m', l, ρ2, q, E2, ee.trans e2⟩) (fun d q v H2 e2 hv => r d q v H2 (ee.trans e2) hv)
      (fun ρ2 q2 σ2 H2 e2 E2 => n ρ2 q2 σ2 H2 (ee.trans e2) E2) (fun ρ2 ⟨m', l, q⟩ σ2 H2 e2 E2 => ⟨m', l, ρ2, q, E2, ee.trans e2⟩)
  | false => exact n ρ' (h2 rfl) σ' H1 (e'.trans e1) (E'.ex e1)
/-! ### what is walked -/
theorem xi_tup (h : XE K te ρ (.tuple ds)) : XI K (iTup K te) ρ ds := fun σ H R E q => h σ H E _ fun v H1 e1 hv => by
  obtain ⟨a, xs, rfl, hs, ha⟩ := dp_tup hv
  refine ⟨a, rfl, ⟨xs, hs⟩, q _ H1 _ _ e1 (dps_len ha ▸ walk_tup (K := K) (a := a) (xs := xs)) (fun H2 e2 => ex_t e2 hs) fun i H2 x H3 hi e2 y => ?_⟩
  obtain ⟨rfl, hx⟩ := y
  obtain ⟨d, hd⟩ : ∃ d, ds[i]? = some d := ⟨ds[i], List.getElem?_eq_getElem hi⟩
  obtain ⟨v, hv, hdv⟩ := dps_get ha hd
  have ev : v = x := Option.some.inj (hv.symm.trans hx)
  subst ev
  exact ⟨Evl.Ex.refl _, d, hd, dp_ex e2 _ _ hdv⟩
theorem xi_list (h : XE K te ρ (.list ds)) : XI K (iList K te) ρ ds := fun σ H R E q => h σ H E _ fun v H1 e1 hv => by
  obtain ⟨a, xs, rfl, hs, ha⟩ := dp_lst hv
  refine ⟨a, rfl, ⟨xs, hs⟩, q _ H1 _ _ e1 (dps_len ha ▸ walk_list (K := K) (a := a) (xs := xs)) (fun H2 e2 => ex_l e2 hs) fun i H2 x H3 hi e2 y => ?_⟩
  obtain ⟨rfl, hx⟩ := y
  obtain ⟨d, hd⟩ : ∃ d, ds[i]? = some d := ⟨ds[i], List.getElem?_eq_getElem hi⟩
  obtain ⟨v, hv, hdv⟩ := dps_get ha hd
  have ev : v = x := Option.some.inj (hv.symm.trans hx)
  subst ev
  exact ⟨Evl.Ex.refl _, d, hd, dp_ex e2 _ _ hdv⟩
theorem xs_for {wi : TI} {g : TG} (hi : XI K wi ρ ds) (I : Nat → Rho → Prop) (h0 : I 0 ρ)
    (hs : ∀ i d ρ', ds[i]? = some d → I i ρ' → ∃ js ρ2, XG K js g d ρ' ρ2 ∧ XS K t1 { nx := I (i + 1), rt := e.rt, bk := e.nx, ct := I (i + 1) } ρ2) (hd : ∀ ρ', I ds.length ρ' → e.nx ρ') : XS K (tFor wi g t1) e ρ := fun D σ H E n r bk ct => by
  refine hi σ H _ E fun J H1 G Y e1 w hG hY => ?_
  refine for_it w (fun i σ' H' => ∃ ρ', I i ρ' ∧ EnvR K H' σ' ρ' ∧ Ex H1 H') ⟨ρ, h0, E.ex e1, Evl.Ex.refl _⟩ (fun i σ' H' _ ⟨_, _, _, e'⟩ => hG H' e') ?_ ?_
  · rintro i x σ' H' H3 hi ⟨ρ', hI, E', e'⟩ y
    obtain ⟨e3, d, hd, hx⟩ := hY i H' x H3 hi e' y
    obtain ⟨js, ρ2, hg, hb⟩ := hs i d ρ' hd hI
    refine hg σ' H3 x (E'.ex e3) hx _ fun σ2 E2 _ _ => ?_
    have ee : Ex H1 H3 := e'.trans e3
    have e0 : Ex H H3 := e1.trans ee
    exact hb _ σ2 H3 E2 (fun ρ4 q4 σ4 H4 e4 E4 => ⟨ρ4, q4, E4, ee.trans e4⟩) (fun d q v H4 e4 hv => r d q v H4 (e0.trans e4) hv) (fun ρ4 q4 σ4 H4 e4 E4 => n ρ4 q4 σ4 H4 (e0.trans e4) E4) (fun ρ4 q4 σ4 H4 e4 E4 => ⟨ρ4, q4, E4, ee.trans e4⟩)
  · rintro σ' H' ⟨ρ', hI, E', e'⟩
    exact n ρ' (hd ρ' hI) σ' H' (e1.trans e') E'
end
end SR
end
section
set_option Elab.async false
set_option linter.all false
set_option maxRecDepth 100000
set_option maxHeartbeats 4000000
/-! The small world of pure data, second part: comprehensions, zip, built-ins, defs. -/
namespace SR
open PySem PySem.Spec PyProof.Rows L2
open Evl (Ex)
open C8 (Cal Met Mak)
section
variable {K : PySem.W.Frag} {ρ ρ' ρ1 ρ2 : Rho} {t u ta tb tc te : TE} {d d1 d2 : PyData} {ds es : List PyData} {e : PEnd} {t1 t2 : TS} {i j : Nat}
/-! ### list comprehensions -/
def wipeR (ρ : Rho) : List Nat → Rho
  | [] => ρ
  | v :: vs => (wipeR ρ vs).set v none
theorem EnvR.wipe {H : Hp} {σ : L2.St} (h : EnvR K H σ ρ) : ∀ vs : List Nat, EnvR K H (L2.wipe σ vs) (wipeR ρ vs)
  | [] => h
  | v :: vs => (EnvR.wipe h vs).setX
theorem wipe_get (σ : L2.St) : ∀ (vs : List Nat) (i : Nat), (L2.wipe σ vs)[i]? = if i ∈ vs ∧ i < σ.length then some none else σ[i]?
  | [], i => by
    show σ[i]? = _
    rw [if_neg (by simp)]
  | v :: vs, i => by
    unfold L2.wipe
    by_cases hv : v = i
    · subst hv
      by_cases hl : v < σ.length
      · rw [List.getElem?_set_self (by rw [wipe_length]; exact hl), if_pos ⟨List.mem_cons_self .., hl⟩]
      · rw [if_neg fun z => hl z.2, List.getElem?_eq_none (by rw [List.length_set, wipe_length]; omega), List.getElem?_eq_none (by omega)]
    · rw [List.getElem?_set_ne hv, wipe_get σ vs i]
      by_cases hm : i ∈ vs ∧ i < σ.length
      · rw [if_pos hm, if_pos ⟨List.mem_cons_of_mem _ hm.1, hm.2⟩]
      · rw [if_neg hm, if_neg fun z => hm ⟨(List.mem_cons.mp z.1).resolve_left fun q => hv q.symm, z.2⟩]
theorem wipe_same {σ τ : L2.St} {vs : List Nat} (hl : τ.length = σ.length) (h : ∀ i, i ∉ vs → τ[i]? = σ[i]?) : L2.wipe τ vs = L2.wipe σ vs := by
  apply List.ext_getElem?
  intro i
  rw [wipe_get, wipe_get, hl]
  by_cases hm : i ∈ vs
  · by_cases hi : i < σ.length
    · rw [if_pos ⟨hm, hi⟩, if_pos ⟨hm, hi⟩]
    · rw [if_neg fun z => hi z.2, if_neg fun z => hi z.2, List.getElem?_eq_none (by omega), List.getElem?_eq_none (by omega)]
  · rw [if_neg fun z => hm z.1, if_neg fun z => hm z.1]
    exact h i hm
theorem xe_lc {wi : TI} {g : TG} {vs : List Nat} (hi : XI K wi ρ ds) (hl : es.length = ds.length)
    (hs : ∀ (i : Nat) d b, ds[i]? = some d → es[i]? = some b → ∃ js ρ2, (∀ j ∈ js, j ∈ vs) ∧ XG K js g d (wipeR ρ vs) ρ2 ∧ XE K te ρ2 b) (fz : FzAll es = true) (hz : ds.length ≤ 10000) : XE K (tLc wi g tYes te vs) ρ (.list es) := fun σ H E Q q => by
  refine hi σ H _ E fun J H1 G Y e1 w hG hY => ?_
  intro D hD
  have eD : ∀ {H'}, Ex H1 H' → ∀ o, Ex H1 (upd H' D o) := fun e' o => Evl.Ex.mut e' hD
  refine lc_it w (fun i H' => ∃ acc, H' D = some (.lst acc) ∧ DpAll K H' acc (es.take i) ∧ Ex H1 H' ∧ acc.length ≤ i) ⟨[], upd_same, .nil, eD (Evl.Ex.refl _) _, Nat.le_refl _⟩ (fun i H' _ ⟨_, _, _, e', _⟩ => hG H' e') ?_ ?_
  · rintro i x H' H3 hi ⟨acc, hacc, hda, e', hlen⟩ y
    obtain ⟨e3, d, hd, hx⟩ := hY i H' x H3 hi e' y
    obtain ⟨b, hb⟩ : ∃ b, es[i]? = some b := ⟨es[i]'(by omega), List.getElem?_eq_getElem (by omega)⟩
    obtain ⟨js, ρ2, hjs, hg, he⟩ := hs i d b hd hb
    have E1 := ((E.ex e1).ex (e'.trans e3)).wipe vs
    refine hg (L2.wipe σ vs) H3 x E1 hx _ fun σ2 E2 l2 k2 => ⟨?_, ?_⟩
    · rw [wipe_same (σ := L2.wipe σ vs) l2 fun i hi => k2 i fun z => hi (hjs i z)]
      exact wipe_same (wipe_length σ vs) fun i hi => by rw [wipe_get, if_neg fun z => hi z.1]
    · show te σ2 H3 fun y H4 => ∃ acc : List V, H4 D = some (.lst acc) ∧ acc.length < sizeLine ∧ ∃ acc' : List V, (upd H4 D (.lst (acc ++ [y]))) D = some (.lst acc') ∧ DpAll K (upd H4 D (.lst (acc ++ [y]))) acc' (es.take (i + 1)) ∧ Ex H1 (upd H4 D (.lst (acc ++ [y]))) ∧ acc'.length ≤ i + 1
      refine he σ2 H3 E2 _ fun v H4 e4 hv => ?_
      have h4 : H4 D = some (.lst acc) := e4 D _ (e3 D _ hacc)
      refine ⟨acc, h4, Nat.lt_of_le_of_lt (show acc.length ≤ 10000 by omega) (by decide), acc ++ [v], upd_same, ?_, eD ((e'.trans e3).trans e4) _, by rw [List.length_append, List.length_singleton]; omega⟩
      have et : es.take (i + 1) = es.take i ++ [b] := by
        rw [List.take_add_one, hb]
        rfl
      rw [et]
      have fb : Fz b = true := fz_mem fz (List.mem_of_getElem? hb)
      exact dps_app (dps_tx (Tx.lst h4) _ _ (fz_take i fz) (dps_ex (e3.trans e4) _ _ hda)) (.cons (dp_tx (Tx.lst h4) _ _ fb hv) .nil)
  · rintro H' ⟨acc, hacc, hda, e', hlen⟩
    rw [← hl, List.take_length] at hda
    exact q _ H' (e1.trans e') (.lst (SqL.of hacc) hda)
/-! ### zip of two tuples, a text's signs -/
theorem walk_zipT {a b : Addr} {xs ys : List V} {n : Nat} (h1 : xs.length = n) (h2 : ys.length = n) : Walk (RZ.ItzT K a b) n (fun H => SqT K H a xs ∧ SqT K H b ys) (YPair (fun i => xs[i]?) (fun i => ys[i]?)) := by
  refine ⟨fun i _ hi q => ?_, fun _ q => ⟨xs, ys, q.1, q.2, .inl (by omega)⟩, fun i H v H' _ q y => ?_⟩
  · exact ⟨xs, ys, xs[i]'(by omega), ys[i]'(by omega), q.1, q.2, List.getElem?_eq_getElem (by omega), List.getElem?_eq_getElem (by omega)⟩
  · obtain ⟨T, x, z, h1, h2, h3, h4, h5⟩ := y
    exact ⟨T, x, z, h1, h2, h3, h4 xs q.1, h5 ys q.2⟩
def zipD : List PyData → List PyData → List PyData
  | a :: as, b :: bs => .tuple [a, b] :: zipD as bs
  | _, _ => []
theorem zipD_len : ∀ {as bs : List PyData}, as.length = bs.length → (zipD as bs).length = as.length
  | [], [], _ => rfl
  | [], _ :: _, h => by simp at h
  | _ :: _, [], h => by simp at h
  | a :: as, b :: bs, h => by
    show (zipD as bs).length + 1 = as.length + 1
    rw [zipD_len (by simpa using h)]
theorem zipD_get : ∀ {as bs : List PyData} {i : Nat} {a b : PyData}, as[i]? = some a → bs[i]? = some b → (zipD as bs)[i]? = some (.tuple [a, b])
  | [], _, i, a, b, h, _ => by simp at h
  | _ :: _, [], i, a, b, _, h => by simp at h
  | a0 :: as, b0 :: bs, 0, a, b, h, k => by
    have e1 : a0 = a := Option.some.inj h
    have e2 : b0 = b := Option.some.inj k
    subst e1 e2
    rfl
  | a0 :: as, b0 :: bs, i + 1, a, b, h, k => zipD_get (as := as) (bs := bs) (i := i) h k
theorem xi_zip {tr : TA} (h : XA K tr ρ [.tuple ds, .tuple es]) (hl : ds.length = es.length) : XI K (RZ.iZipA K tr) ρ (zipD ds es) := fun σ H R E q => h σ H E _ fun vs H1 e1 hvs => by
  obtain ⟨v, w, rfl, h1, h2⟩ := dps2 hvs
  obtain ⟨a, xs, rfl, hs, ha⟩ := dp_tup h1
  obtain ⟨b, ys, rfl, hs', hb⟩ := dp_tup h2
  have lz := zipD_len hl
  refine ⟨a, b, xs, ys, rfl, .inr ⟨hs, hs', q _ H1 _ _ e1 (lz ▸ walk_zipT (K := K) (a := a) (b := b) (dps_len ha) ((dps_len hb).trans hl.symm)) (fun H2 e2 => ⟨ex_t e2 hs, ex_t e2 hs'⟩) fun i H2 x H3 hi e2 y => ?_⟩⟩
  obtain ⟨T, x1, x2, rfl, hT, rfl, hx1, hx2⟩ := y
  rw [lz] at hi
  have g1 : ds[i]? = some ds[i] := List.getElem?_eq_getElem hi
  have g2 : es[i]? = some (es[i]'(by omega)) := List.getElem?_eq_getElem (by omega)
  obtain ⟨v1, hv1, hd1⟩ := dps_get ha g1
  obtain ⟨v2, hv2, hd2⟩ := dps_get hb g2
  have q1 : v1 = x1 := Option.some.inj (hv1.symm.trans hx1)
  have q2 : v2 = x2 := Option.some.inj (hv2.symm.trans hx2)
  subst q1 q2
  have en : Ex H2 (upd H2 T (.tup [v1, v2])) := Evl.Ex.new hT
  exact ⟨en, _, zipD_get g1 g2, .tup (SqT.of upd_same) (.cons (dp_ex (e2.trans en) _ _ hd1) (.cons (dp_ex (e2.trans en) _ _ hd2) .nil))⟩
def signsD (z : Str) : List PyData := z.cps.toList.map fun c => .str ⟨#[c]⟩
theorem xi_str {z : Str} (h : XE K te ρ (.str z)) : XI K (iStr te) ρ (signsD z) := fun σ H R E q => h σ H E _ fun v H1 e1 hv => by
  have lz : (signsD z).length = z.cps.size := by
    unfold signsD
    rw [List.length_map, Array.length_toList]
  refine ⟨z, dp_str hv, q _ H1 _ _ e1 (lz ▸ walk_str (z := z)) (fun _ _ => trivial) fun i H2 x H3 hi e2 y => ?_⟩
  obtain ⟨rfl, c, hc, rfl⟩ := y
  refine ⟨Evl.Ex.refl _, .str ⟨#[c]⟩, ?_, .str _⟩
  unfold signsD
  rw [List.getElem?_map, Array.getElem?_toList, hc]
  rfl
/-! ### built-ins -/
theorem dps_ints {H : Hp} : ∀ {ns : List Int} {vs : List V}, DpAll K H vs (ns.map .int) → vs = ns.map V.int
  | [], _, h => by cases h; rfl
  | n :: ns, _, h => by
    obtain ⟨v, ws, rfl, h1, h2⟩ := dps_cons h
    rw [dp_int h1, dps_ints h2]
    rfl
theorem dps_bools {H : Hp} : ∀ {ns : List Bool} {vs : List V}, DpAll K H vs (ns.map .bool) → vs = ns.map V.bl
  | [], _, h => by cases h; rfl
  | n :: ns, _, h => by
    obtain ⟨v, ws, rfl, h1, h2⟩ := dps_cons h
    rw [dp_bool h1, dps_bools h2]
    rfl
theorem dps_strs {H : Hp} : ∀ {ns : List Str} {vs : List V}, DpAll K H vs (ns.map .str) → vs = ns.map V.str
  | [], _, h => by cases h; rfl
  | n :: ns, _, h => by
    obtain ⟨v, ws, rfl, h1, h2⟩ := dps_cons h
    rw [dp_str h1, dps_strs h2]
    rfl
theorem xe_all {bs : List Bool} (h : XE K t ρ (.list (bs.map .bool))) : XE K (tCB (rAll K) (tCons t tNil)) ρ (.bool (bs.all id)) :=
  xe_cb (xa_cons h xa_nil) fun vs H Q hvs q => by
    obtain ⟨v, rfl, hv⟩ := dps1 hvs
    obtain ⟨a, xs, rfl, hs, ha⟩ := dp_lst hv
    rw [dps_bools ha] at hs
    exact ⟨a, bs, rfl, hs, q _ H (Evl.Ex.refl H) (.bl _)⟩
theorem xe_any {bs : List Bool} (h : XE K t ρ (.list (bs.map .bool))) : XE K (tCB (rAny K) (tCons t tNil)) ρ (.bool (bs.any id)) :=
  xe_cb (xa_cons h xa_nil) fun vs H Q hvs q => by
    obtain ⟨v, rfl, hv⟩ := dps1 hvs
    obtain ⟨a, xs, rfl, hs, ha⟩ := dp_lst hv
    rw [dps_bools ha] at hs
    exact ⟨a, bs, rfl, hs, q _ H (Evl.Ex.refl H) (.bl _)⟩
theorem xe_min {ns : List Int} {m : Int} (h : XE K t ρ (.list (ns.map .int))) (hm : m ∈ ns) (hl : ∀ y ∈ ns, m ≤ y) : XE K (tCB (rMin K) (tCons t tNil)) ρ (.int m) :=
  xe_cb (xa_cons h xa_nil) fun vs H Q hvs q => by
    obtain ⟨v, rfl, hv⟩ := dps1 hvs
    obtain ⟨a, xs, rfl, hs, ha⟩ := dp_lst hv
    rw [dps_ints ha] at hs
    refine ⟨a, ns, rfl, hs, List.length_pos_of_mem hm, fun m' hm' hl' => ?_⟩
    have e : m' = m := Int.le_antisymm (hl' m hm) (hl m' hm')
    rw [e]
    exact q _ H (Evl.Ex.refl H) (.int _)
theorem xe_abs {n : Int} (h : XE K t ρ (.int n)) : XE K (tCB (fun xs H Q => ∃ i, xs = [V.int i] ∧ Q (.int (if i < 0 then -i else i)) H) (tCons t tNil)) ρ (.int (if n < 0 then -n else n)) :=
  xe_cb (xa_cons h xa_nil) fun vs H Q hvs q => by
    obtain ⟨v, rfl, hv⟩ := dps1 hvs
    rw [dp_int hv]
    exact ⟨n, rfl, q _ H (Evl.Ex.refl H) (.int _)⟩
theorem xe_max2 {a b : Int} (ha : XE K ta ρ (.int a)) (hb : XE K tb ρ (.int b)) : XE K (tCB (fun xs H Q => ∃ i j, xs = [V.int i, V.int j] ∧ Q (.int (if j > i then j else i)) H) (tCons ta (tCons tb tNil))) ρ (.int (max a b)) :=
  xe_cb (xa_cons ha (xa_cons hb xa_nil)) fun vs H Q hvs q => by
    obtain ⟨v, w, rfl, hv, hw⟩ := dps2 hvs
    rw [dp_int hv, dp_int hw]
    refine ⟨a, b, rfl, ?_⟩
    have e : (if b > a then b else a) = max a b := by
      rw [Int.max_def]
      split <;> split <;> omega
    rw [e]
    exact q _ H (Evl.Ex.refl H) (.int _)
theorem xe_min2 {a b : Int} (ha : XE K ta ρ (.int a)) (hb : XE K tb ρ (.int b)) : XE K (tCB (fun xs H Q => ∃ i j, xs = [V.int i, V.int j] ∧ Q (.int (if j < i then j else i)) H) (tCons ta (tCons tb tNil))) ρ (.int (min a b)) :=
  xe_cb (xa_cons ha (xa_cons hb xa_nil)) fun vs H Q hvs q => by
    obtain ⟨v, w, rfl, hv, hw⟩ := dps2 hvs
    rw [dp_int hv, dp_int hw]
    refine ⟨a, b, rfl, ?_⟩
    have e : (if b < a then b else a) = min a b := by
      rw [Int.min_def]
      split <;> split <;> omega
    rw [e]
    exact q _ H (Evl.Ex.refl H) (.int _)
theorem xe_intB {b : Bool} (h : XE K t ρ (.bool b)) : XE K (tCB (fun xs H Q => (∃ i, xs = [V.int i] ∧ Q (.int i) H) ∨ ∃ k, xs = [V.bl k] ∧ Q (.int (if k then 1 else 0)) H) (tCons t tNil)) ρ (.int (if b then 1 else 0)) :=
  xe_cb (xa_cons h xa_nil) fun vs H Q hvs q => by
    obtain ⟨v, rfl, hv⟩ := dps1 hvs
    rw [dp_bool hv]
    exact .inr ⟨b, rfl, q _ H (Evl.Ex.refl H) (.int _)⟩
theorem xe_lenT (h : XE K t ρ (.tuple ds)) : XE K (tCB (fun xs H Q => ∃ p ys, xs = [V.ref p] ∧ (SqL K H p ys ∨ SqT K H p ys) ∧ Q (.int ys.length) H) (tCons t tNil)) ρ (.int ds.length) :=
  xe_cb (xa_cons h xa_nil) fun vs H Q hvs q => by
    obtain ⟨v, rfl, hv⟩ := dps1 hvs
    obtain ⟨a, xs, rfl, hs, ha⟩ := dp_tup hv
    exact ⟨a, xs, rfl, .inr hs, q _ H (Evl.Ex.refl H) (by rw [dps_len ha]; exact .int _)⟩
theorem xe_lenL (h : XE K t ρ (.list ds)) : XE K (tCB (fun xs H Q => ∃ p ys, xs = [V.ref p] ∧ (SqL K H p ys ∨ SqT K H p ys) ∧ Q (.int ys.length) H) (tCons t tNil)) ρ (.int ds.length) :=
  xe_cb (xa_cons h xa_nil) fun vs H Q hvs q => by
    obtain ⟨v, rfl, hv⟩ := dps1 hvs
    obtain ⟨a, xs, rfl, hs, ha⟩ := dp_lst hv
    exact ⟨a, xs, rfl, .inl hs, q _ H (Evl.Ex.refl H) (by rw [dps_len ha]; exact .int _)⟩
theorem xe_lenS {z : Str} (h : XE K t ρ (.str z)) (hz : z.length ≤ 1000) : XE K (tCB (fun xs H Q => ∃ z, xs = [V.str z] ∧ z.length ≤ sizeLine ∧ Q (.int z.length) H) (tCons t tNil)) ρ (.int z.length) :=
  xe_cb (xa_cons h xa_nil) fun vs H Q hvs q => by
    obtain ⟨v, rfl, hv⟩ := dps1 hvs
    rw [dp_str hv]
    exact ⟨z, rfl, Nat.le_trans hz (by decide), q _ H (Evl.Ex.refl H) (.int _)⟩
/-- tuple(a list) -/
theorem xe_tupL (h : XE K t ρ (.list ds)) : XE K (tCB (fun xs H Q => ∃ p ys, xs = [V.ref p] ∧ ((SqL K H p ys ∧ ∀ l, H l = none → Q (.ref l) (upd H l (.tup ys))) ∨ (SqT K H p ys ∧ Q (.ref p) H))) (tCons t tNil)) ρ (.tuple ds) :=
  xe_cb (xa_cons h xa_nil) fun vs H Q hvs q => by
    obtain ⟨v, rfl, hv⟩ := dps1 hvs
    obtain ⟨a, xs, rfl, hs, ha⟩ := dp_lst hv
    exact ⟨a, xs, rfl, .inl ⟨hs, fun l hl => q _ _ (Evl.Ex.new hl) (.tup (SqT.of upd_same) (dps_ex (Evl.Ex.new hl) _ _ ha))⟩⟩
/-- isinstance(x, T), T a built-in class -/
def tyD : PyData → String
  | .int _ => "int"
  | .bool _ => "bool"
  | .str _ => "str"
  | .tuple _ => "tuple"
  | .list _ => "list"
  | .none => "NoneType"
  | .dict _ => "dict"
theorem tyx {H : Hp} {v : V} (h : Dp K H v d) (h1 : d ≠ .none) : TyX K H v (.type (tyD d)) := by
  cases h with
  | non => exact absurd rfl h1
  | bl b => exact .base (.bl b)
  | int i => exact .base (.int i)
  | str x => exact .base (.str x)
  | lst hs _ =>
    rcases hs with (hs | ⟨o, hs⟩) | ⟨o, its, n, e, c, _⟩
    · exact .base (.lst hs)
    · exact .base (.frz hs)
    · exact .kList e c
  | tup hs _ =>
    rcases hs with (hs | ⟨o, hs⟩) | ⟨o, its, n, e, c, _⟩
    · exact .base (.tup hs)
    · exact .fTuple hs
    · exact .kTuple e c
theorem xe_isi {n : String} {b : Bool} (h : XE K t ρ d) (h1 : d ≠ .none) (hk : kitB (tyD d) n = some b) : XE K (tCB (rIsi K) (tCons t (tCons (tC (.ty n)) tNil))) ρ (.bool b) := fun σ H E Q q =>
  h σ H E _ fun v H1 e1 hv => ⟨v, .ty n, _, _, b, rfl, .ty n, tyx hv h1, kit_ty hk, q _ H1 e1 (.bl _)⟩
/-- x in a tuple | a list of texts -/
theorem inV_strs {x : Str} {xs : List Str} : inV (.str x) (xs.map V.str) = xs.contains x := by
  induction xs with
  | nil => rfl
  | cons y ys ih =>
    show (eqV (.str y) (.str x) || inV (.str x) (ys.map V.str)) = _
    rw [ih, List.contains_cons]
    congr 1
    show (y == x) = (x == y)
    rw [Bool.eq_iff_iff, beq_iff_eq, beq_iff_eq]
    exact ⟨Eq.symm, Eq.symm⟩
theorem flat_strs (xs : List Str) : (xs.map V.str).all flatV = true := by
  rw [List.all_map]
  exact List.all_eq_true.mpr fun _ _ => rfl
theorem xe_inS {x : Str} {xs : List Str} (ha : XE K ta ρ (.str x)) (hb : XE K tb ρ (.tuple (xs.map .str))) : XE K (tOp (rIn K false) ta tb) ρ (.bool (xs.contains x)) :=
  xe_op ha hb fun v y H Q hx hy q => by
    obtain ⟨a, vs, rfl, hs, hd⟩ := dp_tup hy
    rw [dps_strs hd] at hs
    rw [dp_str hx]
    refine ⟨a, _, rfl, .inr hs, rfl, flat_strs xs, ?_⟩
    show Q (.bl (inV _ _)) H
    rw [inV_strs]
    exact q _ H (Evl.Ex.refl H) (.bl _)
theorem xe_inSign {c : Nat} {z : Str} (ha : XE K ta ρ (.str ⟨#[c]⟩)) (hb : XE K tb ρ (.str z)) : XE K (tOp (fun x y H Q => ∃ (c : Nat) (z : Str), x = .str ⟨#[c]⟩ ∧ y = .str z ∧ Q (.bl (decide (c ∈ z.cps.toList))) H) ta tb) ρ (.bool (decide (c ∈ z.cps.toList))) :=
  xe_op ha hb fun v y H Q hx hy q => ⟨c, z, dp_str hx, dp_str hy, q _ H (Evl.Ex.refl H) (.bl _)⟩
/-- 0 in a list of ints -/
theorem inV_ints {x : Int} {xs : List Int} : inV (.int x) (xs.map V.int) = xs.contains x := by
  induction xs with
  | nil => rfl
  | cons y ys ih =>
    show (eqV (.int y) (.int x) || inV (.int x) (ys.map V.int)) = _
    rw [ih, List.contains_cons]
    congr 1
    show (y == x) = (x == y)
    rw [Bool.eq_iff_iff, beq_iff_eq, beq_iff_eq]
    exact ⟨Eq.symm, Eq.symm⟩
theorem xe_inI {x : Int} {xs : List Int} (ha : XE K ta ρ (.int x)) (hb : XE K tb ρ (.list (xs.map .int))) : XE K (tOp (rIn K false) ta tb) ρ (.bool (xs.contains x)) :=
  xe_op ha hb fun v y H Q hx hy q => by
    obtain ⟨a, vs, rfl, hs, hd⟩ := dp_lst hy
    rw [dps_ints hd] at hs
    rw [dp_int hx]
    refine ⟨a, _, rfl, .inl hs, rfl, by rw [List.all_map]; exact List.all_eq_true.mpr fun _ _ => rfl, ?_⟩
    show Q (.bl (inV _ _)) H
    rw [inV_ints]
    exact q _ H (Evl.Ex.refl H) (.bl _)
/-- x in a list of data, x not in a list of data -/
theorem xe_chain {r r' : R2} {b1 b2 : Bool} {d3 : PyData} (ha : XE K ta ρ d1) (hb : XE K tb ρ d2) (hc : XE K tc ρ d3) (h1 : ∀ (x y : V) (H : Hp) (Q : VK), Dp K H x d1 → Dp K H y d2 → Q (.bl b1) H → r x y H Q)
    (h2 : ∀ (x y : V) (H : Hp) (Q : VK), Dp K H x d2 → Dp K H y d3 → Q (.bl b2) H → r' x y H Q) : XE K (tChain r r' ta tb tc) ρ (.bool (b1 && b2)) := fun σ H E Q q =>
  ha σ H E _ fun x H1 e1 hx => hb σ H1 (E.ex e1) _ fun y H2 e2 hy => h1 x y H2 _ (dp_ex e2 _ _ hx) hy ⟨b1, rfl, by
    cases b1 with
    | true =>
      rw [if_pos rfl]
      exact hc σ H2 (E.ex (e1.trans e2)) _ fun z H3 e3 hz => h2 y z H3 Q (dp_ex e3 _ _ hy) hz (q _ H3 ((e1.trans e2).trans e3) (.bl _))
    | false =>
      rw [if_neg Bool.false_ne_true]
      exact q _ H2 (e1.trans e2) (.bl _)⟩
end
/-! ### defs -/
section
variable {P : Program} {w : World} {K : PySem.W.Frag} {mg : Str → Option Value} {base : Heap}
theorem cal_pure {x : Str} {params : Arguments} {body : List Stmt} {scope : Scope} {N ps : List Str} {f : Addr} {fd : FuncData} {k : Nat} {R : List PyData → PyData → Prop} (F : FunD K x x params body scope [] [] f fd) (g : mg x = some (.ref f)) (b : Binds K fd ps [])
    (S : FnScope N ps scope) (hlen : ∀ ds d, R ds d → ds.length = ps.length)
    (hb : ∀ (cdv : Value) (A : Around) (outer : List Env) (s : Shared) (H : Hp), Room k (A.deeper (envOfC x scope s.heap.objs.size f cdv)) →
      ∃ t, PSs (cxOf CX0 P w K mg base N x scope f cdv A outer s H E0).nox body t ∧ ∀ ds d, R ds d → XS K t { nx := fun _ => d = .none, rt := fun d' => d' = d } (ds.map some ++ List.replicate (N.length - ds.length) none)) :
    Cal P w K mg base (k + 1) x (spP K R) [] := by
  refine ⟨f, fd, ps, [], F.ok S (fun vs H Q E h => ?_) (fun cdv A outer s H vs Q E hr h => ?_), g, F.kp, b, .nil⟩
  · obtain ⟨ds, d, hd, hR, _⟩ := h
    rw [dps_len hd]
    exact hlen ds d hR
  · obtain ⟨ds, d, hd, hR, hQ⟩ := h
    obtain ⟨t, ht, hx⟩ := hb cdv A outer s H hr
    refine ⟨t, PSs.nox ht, hx ds d hR _ _ H (EnvR.start hd) (fun ρ' e σ' H' e' _ => ?_) (fun d' e v H' e' hv => ?_) (fun _ q => q.elim) (fun _ q => q.elim)⟩
    · have e2 : d = .none := e
      subst e2
      exact hQ .non H' e' .non
    · have e2 : d' = d := e
      subst e2
      exact hQ v H' e' hv
end
end SR
end
section
set_option linter.all false
/-! The mirror: what the program's pure defs reckon, over ints, pairs of ints, rules. Plain Lean. -/
namespace SR
inductive Rule where
  | down | halfDown | halfEven | halfUp | odd | up
  deriving DecidableEq
abbrev Num := Int × Int
abbrev Chain := List (Int × Rule)
def gcdI (a b : Int) : Int := ((Nat.gcd a.toNat b.toNat : Nat) : Int)
def low (n d : Int) : Num := (n / gcdI n d, d / gcdI n d)
/-- bit_length -/
def bl (n : Int) : Int := ((if n = 0 then 0 else n.natAbs.log2 + 1 : Nat) : Int)
def p2 (e : Int) : Int := 2 ^ e.toNat
def sc (x : Num) (e : Int) : Num := (x.1 * p2 (max e 0), x.2 * p2 (max (0 - e) 0))
def powN (k e : Int) : Num := low (sc (k, 1) e).1 (sc (k, 1) e).2
def e0 (x : Num) (w : Int) : Int := bl x.1 - bl x.2 - w
def quo (s : Num) : Int := s.1 / s.2
def cellOf (x : Num) (w : Int) : Int × Int :=
  if 1 * p2 w ≤ quo (sc x (0 - e0 x w)) then (quo (sc x (0 - (e0 x w + 1))), e0 x w + 1) else (quo (sc x (0 - e0 x w)), e0 x w)
def posOf (x : Num) (w : Int) : Num :=
  low ((sc x (0 - (cellOf x w).2)).1 - (cellOf x w).1 * (sc x (0 - (cellOf x w).2)).2) (sc x (0 - (cellOf x w).2)).2
def endsOf (x : Num) (w : Int) : Num × Num :=
  if (posOf x w).1 = 0 then (x, x) else (powN (cellOf x w).1 (cellOf x w).2, powN ((cellOf x w).1 + 1) (cellOf x w).2)
def goesUp (k : Int) (p : Num) : Rule → Bool
  | .down => false
  | .up => true
  | .odd => decide (k % 2 = 0)
  | .halfDown => decide (p.2 < 2 * p.1)
  | .halfUp => if 2 * p.1 = p.2 then true else decide (p.2 < 2 * p.1)
  | .halfEven => if 2 * p.1 = p.2 then decide (k % 2 = 1) else decide (p.2 < 2 * p.1)
def roundOnce (x : Num) (w : Int) (r : Rule) : Num :=
  if goesUp (cellOf x w).1 (posOf x w) r = true then (endsOf x w).2 else (endsOf x w).1
def stagesL (x : Num) : Chain → List Num
  | [] => []
  | s :: c => roundOnce x s.1 s.2 :: stagesL (roundOnce x s.1 s.2) c
def appliedC (x : Num) (c : Chain) : Num := c.foldl (fun y s => roundOnce y s.1 s.2) x
def minW : Chain → Int
  | [] => 0
  | [s] => s.1
  | s :: c => min s.1 (minW c)
def trimFrom (least : Int) : Chain → Chain
  | [] => []
  | s :: c => if s.1 < least then s :: trimFrom s.1 c else trimFrom least c
def trimC : Chain → Chain
  | [] => []
  | s :: c => s :: trimFrom s.1 c
/-- a threshold: (t, whether its side is up) -/
abbrev Thr := Num × Bool
def neverT : Thr := ((1, 1), true)
def alwaysT : Thr := ((0, 1), false)
def tieDownT : Thr := ((1, 2), false)
def tieUpT : Thr := ((1, 2), true)
def byRuleT : Rule → Thr × Thr
  | .down => (neverT, neverT)
  | .halfDown => (tieDownT, tieDownT)
  | .halfEven => (tieDownT, tieUpT)
  | .halfUp => (tieUpT, tieUpT)
  | .odd => (alwaysT, neverT)
  | .up => (alwaysT, alwaysT)
def sel (p : Thr × Thr) (i : Int) : Thr := if i = 0 then p.1 else p.2
def lastDown (r : Rule) (far parity : Int) : Int :=
  if (sel (byRuleT r) parity).2 = false then (sel (byRuleT r) parity).1.1 * (1 * p2 far) / (sel (byRuleT r) parity).1.2 else (sel (byRuleT r) parity).1.1 * (1 * p2 far) / (sel (byRuleT r) parity).1.2 - 1
def combOne (p : Thr × Thr) (r : Rule) (far parity : Int) : Thr :=
  (low (lastDown r far parity * (sel p (lastDown r far parity % 2)).1.2 + (sel p (lastDown r far parity % 2)).1.1) ((sel p (lastDown r far parity % 2)).1.2 * p2 far), (sel p (lastDown r far parity % 2)).2)
def combined (p : Thr × Thr) (r : Rule) (far : Int) : Thr × Thr := (combOne p r far 0, combOne p r far 1)
def thrFrom (w : Int) (p : Thr × Thr) : Chain → Thr × Thr
  | [] => p
  | s :: c => thrFrom s.1 (combined p s.2 (w - s.1)) c
/-- thresholds of a trimmed chain -/
def thrT : Chain → Thr × Thr
  | [] => (neverT, neverT)
  | s :: c => thrFrom s.1 (byRuleT s.2) c
def thrC (c : Chain) : Thr × Thr := thrT (trimC c)
/-- the greatest root -/
def isqN : Nat → Nat
  | 0 => 0
  | n + 1 => if (isqN n + 1) * (isqN n + 1) ≤ n + 1 then isqN n + 1 else isqN n
def isq (n : Int) : Int := ((isqN n.toNat : Nat) : Int)
theorem isqN_spec : ∀ n : Nat, isqN n * isqN n ≤ n ∧ n < (isqN n + 1) * (isqN n + 1)
  | 0 => by decide
  | n + 1 => by
    obtain ⟨h1, h2⟩ := isqN_spec n
    unfold isqN
    split
    · rename_i h
      refine ⟨h, ?_⟩
      have e : (isqN n + 1 + 1) * (isqN n + 1 + 1) = (isqN n + 1) * (isqN n + 1) + (2 * isqN n + 3) := by grind
      omega
    · rename_i h
      exact ⟨by omega, by omega⟩
theorem isq_nn (n : Int) : 0 ≤ isq n := Int.natCast_nonneg _
theorem isq_le {n : Int} (h : 0 ≤ n) : isq n * isq n ≤ n := by
  have := (isqN_spec n.toNat).1
  unfold isq
  have e : (n.toNat : Int) = n := Int.toNat_of_nonneg h
  rw [← Int.natCast_mul]
  omega
theorem isq_lt {n : Int} (h : 0 ≤ n) : n < (isq n + 1) * (isq n + 1) := by
  have := (isqN_spec n.toNat).2
  unfold isq
  have e : (n.toNat : Int) = n := Int.toNat_of_nonneg h
  have e2 : ((isqN n.toNat : Nat) : Int) + 1 = ((isqN n.toNat + 1 : Nat) : Int) := by omega
  rw [e2, ← Int.natCast_mul]
  omega
theorem isq_uniq {n k : Int} (h0 : 0 ≤ k) (h1 : k * k ≤ n) (h2 : n < (k + 1) * (k + 1)) : k = isq n := by
  have hn : 0 ≤ n := Int.le_trans (Int.mul_nonneg h0 h0) h1
  have a := isq_le hn
  have b := isq_lt hn
  have c := isq_nn n
  rcases Int.lt_trichotomy k (isq n) with h | h | h
  · have : (k + 1) * (k + 1) ≤ isq n * isq n := Int.mul_le_mul (by omega) (by omega) (by omega) c
    omega
  · exact h
  · have : (isq n + 1) * (isq n + 1) ≤ k * k := Int.mul_le_mul (by omega) (by omega) (by omega) h0
    omega
/-- 1, 0, -1: the sign of root (n / d) - top / bottom * 2 ^ e -/
def sgL (n e bottom : Int) : Int := n * bottom * bottom * p2 (max 0 (0 - 2 * e))
def sgR (d e top : Int) : Int := d * top * top * p2 (max 0 (2 * e))
def cmpR (n d e top bottom : Int) : Int := (if decide (sgR d e top < sgL n e bottom) = true then 1 else 0) - (if decide (sgL n e bottom < sgR d e top) = true then 1 else 0)
def rootE0 (n d w : Int) : Int := (bl n - bl d) / 2 - w
def rootE (n d w : Int) : Int := if 0 ≤ cmpR n d (rootE0 n d w) (1 * p2 w) 1 then rootE0 n d w + 1 else rootE0 n d w
def rootK (n d w : Int) : Int := isq (n * p2 (max 0 (0 - 2 * rootE n d w)) / (d * p2 (max 0 (2 * rootE n d w))))
def rootExact (n d w : Int) : Bool := decide (cmpR n d (rootE n d w) (rootK n d w) 1 = 0)
def rootAbove (n d w : Int) (p : Thr × Thr) : Bool :=
  let t := sel p (rootK n d w % 2)
  decide (0 < cmpR n d (rootE n d w) (rootK n d w * t.1.2 + t.1.1) t.1.2) || (decide (cmpR n d (rootE n d w) (rootK n d w * t.1.2 + t.1.1) t.1.2 = 0) && t.2)
def rootRound (x : Num) (c : Chain) : Num :=
  powN (rootK x.1 x.2 (minW c) + (if (!rootExact x.1 x.2 (minW c) && rootAbove x.1 x.2 (minW c) (thrC c)) = true then 1 else 0)) (rootE x.1 x.2 (minW c))
/-- the law's root: by a fraction next to it, below -/
def nearLow (x : Num) (bits : Int) : Num := low (isq (x.1 * x.2 * p2 (2 * bits))) (x.2 * p2 bits)
def lawRoot (x : Num) (c : Chain) : Num := appliedC (nearLow x 300) c
end SR
end
section
set_option Elab.async false
set_option linter.all false
set_option maxRecDepth 100000
set_option maxHeartbeats 4000000
/-! Data of the program: numbers, cells, steps, chains, thresholds; bounds by powers of two. -/
namespace SR
open PySem PySem.Spec PyProof.Rows L2
open Evl (Ex)
open C8 (Cal Met Mak)
/-! ### bounds -/
/-- a count below 2 ^ b -/
structure Bd (b : Nat) (n : Int) : Prop where
  nn : 0 ≤ n
  lt : n.natAbs < 2 ^ b
theorem Bd.mono {a b : Nat} {n : Int} (h : Bd a n) (hab : a ≤ b) : Bd b n := ⟨h.nn, Nat.lt_of_lt_of_le h.lt (Nat.pow_le_pow_right (by decide) hab)⟩
theorem Bd.le {b : Nat} {n m : Int} (h : Bd b n) (h0 : 0 ≤ m) (hm : m ≤ n) : Bd b m := ⟨h0, Nat.lt_of_le_of_lt (by have := h.nn; omega) h.lt⟩
theorem Bd.mul {a b : Nat} {n m : Int} (h : Bd a n) (k : Bd b m) : Bd (a + b) (n * m) := ⟨Int.mul_nonneg h.nn k.nn, wide_lt h.lt k.lt⟩
theorem Bd.one : Bd 1 1 := ⟨by decide, by decide⟩
theorem Bd.two : Bd 2 2 := ⟨by decide, by decide⟩
theorem Bd.zero : Bd 0 0 := ⟨by decide, by decide⟩
theorem Bd.add {a : Nat} {n m : Int} (h : Bd a n) (k : Bd a m) : Bd (a + 1) (n + m) := ⟨Int.add_nonneg h.nn k.nn, by
  have h1 := h.lt
  have h2 := k.lt
  have h3 := h.nn
  have h4 := k.nn
  rw [Nat.pow_succ]
  omega⟩
theorem Bd.ediv {a : Nat} {n m : Int} (h : Bd a n) (hm : 0 < m) : Bd a (n / m) := h.le (Int.ediv_nonneg h.nn (by omega)) (Int.ediv_le_self _ h.nn)
theorem Bd.sub {a : Nat} {n m : Int} (h : Bd a n) (hm : 0 ≤ m) (hn : m ≤ n) : Bd a (n - m) := h.le (by omega) (by omega)
theorem Bd.p2 {b : Nat} {e : Int} (h : e ≤ b) : Bd (b + 1) (SR.p2 e) := ⟨Int.le_of_lt (Int.pow_pos (by decide)), by
  unfold SR.p2
  rw [Int.natAbs_pow]
  exact Nat.pow_lt_pow_right (by decide) (by omega)⟩
theorem Bd.shlv {a b : Nat} {n e : Int} (h : Bd a n) (he : e ≤ b) : Bd (a + b) (n * SR.p2 e) := ⟨Int.mul_nonneg h.nn (Bd.p2 he).nn, by
  unfold SR.p2
  rw [Int.natAbs_mul, Int.natAbs_pow, Nat.pow_add]
  refine Nat.lt_of_lt_of_le (Nat.mul_lt_mul_of_pos_right h.lt (Nat.pow_pos (by decide))) (Nat.mul_le_mul_left _ (Nat.pow_le_pow_right (by decide) (by omega)))⟩
theorem Bd.mulx {a b : Nat} {n m : Int} (h : Bd a n) (k : Bd b m) (hab : a + b ≤ 100000) : CMulX n m := mulx_ok h.lt k.lt (by omega)
theorem Bd.div {b : Nat} {n m : Int} (k : Bd b m) (hm : 0 < m) (hb : b ≤ 9000) : CDivW n m := ⟨hm, by
  have h1 : m.natAbs < 2 ^ b := k.lt
  have h0 : m.natAbs ≠ 0 := by omega
  exact Nat.lt_of_lt_of_le ((Nat.log2_lt h0).mpr h1) hb⟩
theorem Bd.shl {a b : Nat} {n e : Int} (h : Bd a n) (h0 : 0 ≤ e) (he : e ≤ b) (hab : a + b ≤ 100000) : CShl n e := by
  have e1 : e = ((e.toNat : Nat) : Int) := (Int.toNat_of_nonneg h0).symm
  rw [e1]
  exact shl_ok h.lt (by omega)
theorem Bd.i {b : Nat} {n : Int} (h0 : 0 ≤ n) (h : n.natAbs < 2 ^ b) : Bd b n := ⟨h0, h⟩
theorem bits_eq (n : Int) : ((Builtin.Int.intBits n : Nat) : Int) = bl n := by
  unfold Builtin.Int.intBits bl
  by_cases h : n = 0
  · rw [if_pos (by simpa using h), if_pos h]
  · rw [if_neg (by simpa using h), if_neg h]
theorem bl_nn (n : Int) : 0 ≤ bl n := by
  unfold bl
  exact Int.natCast_nonneg _
theorem Bd.bl {b : Nat} {n : Int} (h : Bd b n) : SR.bl n ≤ b := by
  unfold SR.bl
  by_cases h0 : n = 0
  · rw [if_pos h0]; omega
  · rw [if_neg h0]
    have h1 : n.natAbs ≠ 0 := by omega
    have h2 := (Nat.log2_lt h1).mpr h.lt
    omega
theorem bl_pos {n : Int} (h : 0 < n) : 1 ≤ bl n := by
  unfold bl
  rw [if_neg (by omega)]
  omega
theorem p2_pos (e : Int) : 0 < p2 e := Int.pow_pos (by decide)
/-! ### data -/
def numD (x : Num) : PyData := .tuple [.int x.1, .int x.2]
def rs : Rule → Str
  | .down => "down"
  | .halfDown => "half_down"
  | .halfEven => "half_even"
  | .halfUp => "half_up"
  | .odd => "odd"
  | .up => "up"
def stepD (s : Int × Rule) : PyData := .tuple [.int s.1, .str (rs s.2)]
def chD (c : Chain) : PyData := .tuple (c.map stepD)
def thrD (t : Thr) : PyData := .tuple [numD t.1, .str (if t.2 = true then "up" else "down")]
def thrPD (p : Thr × Thr) : PyData := .tuple [thrD p.1, thrD p.2]
/-- a number, both parts below 2 ^ b -/
structure Nm (b : Nat) (x : Num) : Prop where
  n0 : 0 < x.1
  d0 : 0 < x.2
  n : Bd b x.1
  d : Bd b x.2
theorem Nm.mono {a b : Nat} {x : Num} (h : Nm a x) (hab : a ≤ b) : Nm b x := ⟨h.n0, h.d0, h.n.mono hab, h.d.mono hab⟩
/-! ### the mirror's sizes -/
theorem gcdI_pos {n d : Int} (hd : 0 < d) : 0 < gcdI n d := by
  unfold gcdI
  have : 0 < Nat.gcd n.toNat d.toNat := Nat.gcd_pos_of_pos_right _ (by omega)
  omega
theorem gcdI_dvd_l {n d : Int} (hn : 0 ≤ n) : gcdI n d ∣ n := by
  unfold gcdI
  have h := Nat.gcd_dvd_left n.toNat d.toNat
  have e : ((n.toNat : Nat) : Int) = n := Int.toNat_of_nonneg hn
  rw [← e]
  exact Int.natCast_dvd_natCast.mpr (by rw [Int.toNat_natCast]; exact h)
theorem gcdI_dvd_r {n d : Int} (hd : 0 ≤ d) : gcdI n d ∣ d := by
  unfold gcdI
  have h := Nat.gcd_dvd_right n.toNat d.toNat
  have e : ((d.toNat : Nat) : Int) = d := Int.toNat_of_nonneg hd
  rw [← e]
  exact Int.natCast_dvd_natCast.mpr (by rw [Int.toNat_natCast]; exact h)
theorem gcdI_le {n d : Int} (hd : 0 < d) : gcdI n d ≤ d := Int.le_of_dvd hd (gcdI_dvd_r (by omega))
theorem low_1 {n d : Int} (hn : 0 ≤ n) (hd : 0 < d) : 0 ≤ (low n d).1 := Int.ediv_nonneg hn (by have := gcdI_pos (n := n) hd; omega)
theorem low_pos {n d : Int} (hn : 0 < n) (hd : 0 < d) : 0 < (low n d).1 := Int.ediv_pos_of_pos_of_dvd hn (by have := gcdI_pos (n := n) hd; omega) (gcdI_dvd_l (by omega))
theorem low_2 {n d : Int} (hd : 0 < d) : 0 < (low n d).2 := Int.ediv_pos_of_pos_of_dvd hd (by have := gcdI_pos (n := n) hd; omega) (gcdI_dvd_r (by omega))
theorem low_nm {n d : Int} {b : Nat} (hn : 0 < n) (hd : 0 < d) (h : Bd b n) (k : Bd b d) : Nm b (low n d) :=
  ⟨low_pos hn hd, low_2 hd, h.ediv (gcdI_pos hd), k.ediv (gcdI_pos hd)⟩
theorem gcdI_comm (a b : Int) : gcdI a b = gcdI b a := by
  unfold gcdI
  rw [Nat.gcd_comm]
theorem gcdI_rec {a b : Int} (ha : 0 ≤ a) (hb : 0 < b) : gcdI a b = gcdI b (a % b) := by
  unfold gcdI
  have e : (a % b).toNat = a.toNat % b.toNat := by
    obtain ⟨x, rfl⟩ := Int.eq_ofNat_of_zero_le ha
    obtain ⟨y, rfl⟩ := Int.eq_ofNat_of_zero_le (Int.le_of_lt hb)
    rw [← Int.natCast_emod, Int.toNat_natCast, Int.toNat_natCast, Int.toNat_natCast]
  rw [e, Nat.gcd_comm, Nat.gcd_rec, Nat.gcd_comm]
theorem gcdI_zero {a : Int} (ha : 0 ≤ a) : gcdI a 0 = a := by
  unfold gcdI
  simp
  omega
end SR
end
section
set_option linter.all false
set_option maxHeartbeats 1000000
/-! Cells: what cellOf says. Plain Lean. -/
namespace SR
theorem pw_pos (e : Int) : 0 < p2 e := Int.pow_pos (by decide)
theorem pw_add {a b : Int} (ha : 0 ≤ a) (hb : 0 ≤ b) : p2 (a + b) = p2 a * p2 b := by
  unfold p2
  rw [Int.toNat_add ha hb, Int.pow_add]
theorem pw_succ {a : Int} (ha : 0 ≤ a) : p2 (a + 1) = 2 * p2 a := by
  rw [pw_add ha (by decide), Int.mul_comm]
  rfl
theorem pw_zero : p2 0 = 1 := rfl
theorem pw_mono {a b : Int} (h : a ≤ b) : p2 a ≤ p2 b := by
  by_cases ha : 0 ≤ a
  · have e : b = a + (b - a) := by omega
    rw [e, pw_add ha (by omega)]
    have := pw_pos a
    have := pw_pos (b - a)
    have := Int.mul_le_mul_of_nonneg_left (show (1 : Int) ≤ p2 (b - a) by omega) (show 0 ≤ p2 a by omega)
    omega
  · have e : p2 a = 1 := by
      unfold p2
      rw [show a.toNat = 0 by omega]
      rfl
    rw [e]
    have := pw_pos b
    omega
theorem bl_lo {n : Int} (h : 0 < n) : p2 (bl n - 1) ≤ n := by
  unfold bl p2
  rw [if_neg (by omega)]
  have h1 : n.natAbs ≠ 0 := by omega
  have h2 : 2 ^ n.natAbs.log2 ≤ n.natAbs := Nat.log2_self_le h1
  have e : (((n.natAbs.log2 + 1 : Nat) : Int) - 1).toNat = n.natAbs.log2 := by omega
  rw [e]
  have e2 : ((n.natAbs : Nat) : Int) = n := by omega
  rw [← e2]
  have := Int.ofNat_le.mpr h2
  rw [Int.natCast_pow] at this
  exact this
theorem bl_hi {n : Int} (h : 0 < n) : n < p2 (bl n) := by
  unfold bl p2
  rw [if_neg (by omega)]
  have h2 : n.natAbs < 2 ^ (n.natAbs.log2 + 1) := Nat.lt_log2_self
  have e : (((n.natAbs.log2 + 1 : Nat) : Int)).toNat = n.natAbs.log2 + 1 := by omega
  rw [e]
  have e2 : ((n.natAbs : Nat) : Int) = n := by omega
  have := Int.ofNat_lt.mpr h2
  rw [Int.natCast_pow, e2] at this
  exact this
theorem bl_ge1 {n : Int} (h : 0 < n) : 1 ≤ bl n := by
  unfold bl
  rw [if_neg (by omega)]
  omega
/-- the two parts of x / 2 ^ e -/
def Na (x : Num) (e : Int) : Int := (sc x (0 - e)).1
def Nb (x : Num) (e : Int) : Int := (sc x (0 - e)).2
theorem Na_eq (x : Num) (e : Int) : Na x e = x.1 * p2 (max (0 - e) 0) := rfl
theorem Nb_eq (x : Num) (e : Int) : Nb x e = x.2 * p2 (max e 0) := by
  unfold Nb sc
  rw [show 0 - (0 - e) = e by omega]
theorem Nb_pos {x : Num} (h : 0 < x.2) (e : Int) : 0 < Nb x e := Int.mul_pos h (pw_pos _)
theorem Na_pos {x : Num} (h : 0 < x.1) (e : Int) : 0 < Na x e := Int.mul_pos h (pw_pos _)
/-- the cell, by what it must be -/
structure IsCell (x : Num) (w k e : Int) : Prop where
  lo : p2 (w - 1) ≤ k
  hi : k < p2 w
  le : k * Nb x e ≤ Na x e
  lt : Na x e < (k + 1) * Nb x e
theorem ediv_bounds {a b : Int} (hb : 0 < b) : a / b * b ≤ a ∧ a < (a / b + 1) * b := by
  have h1 := Int.ediv_mul_le a (show b ≠ 0 by omega)
  have h2 := Int.lt_ediv_add_one_mul_self a hb
  exact ⟨h1, h2⟩
theorem exp_hi {x : Num} {w : Int} (h1 : 0 < x.1) (h2 : 0 < x.2) (hw : 1 ≤ w) : Na x (e0 x w + 1) < p2 w * Nb x (e0 x w + 1) := by
  rw [Na_eq, Nb_eq]
  have a1 := bl_hi h1
  have a2 := bl_lo h2
  have b1 := bl_ge1 h1
  have b2 := bl_ge1 h2
  have e : e0 x w = bl x.1 - bl x.2 - w := rfl
  generalize e0 x w = E at e
  have k1 : x.1 * p2 (max (0 - (E + 1)) 0) < p2 (bl x.1) * p2 (max (0 - (E + 1)) 0) := Int.mul_lt_mul_of_pos_right a1 (pw_pos _)
  have k2 : p2 w * (p2 (bl x.2 - 1) * p2 (max (E + 1) 0)) ≤ p2 w * (x.2 * p2 (max (E + 1) 0)) := Int.mul_le_mul_of_nonneg_left (Int.mul_le_mul_of_nonneg_right a2 (Int.le_of_lt (pw_pos _))) (Int.le_of_lt (pw_pos _))
  have k3 : p2 (bl x.1) * p2 (max (0 - (E + 1)) 0) = p2 w * (p2 (bl x.2 - 1) * p2 (max (E + 1) 0)) := by
    rw [← pw_add (by omega) (by omega), ← pw_add (by omega) (by omega), ← pw_add (by omega) (by omega)]
    congr 1
    omega
  omega
theorem exp_lo {x : Num} {w : Int} (h1 : 0 < x.1) (h2 : 0 < x.2) (hw : 1 ≤ w) : p2 (w - 1) * Nb x (e0 x w) ≤ Na x (e0 x w) := by
  rw [Na_eq, Nb_eq]
  have a1 := bl_lo h1
  have a2 := bl_hi h2
  have b1 := bl_ge1 h1
  have b2 := bl_ge1 h2
  have e : e0 x w = bl x.1 - bl x.2 - w := rfl
  generalize e0 x w = E at e
  have k1 : p2 (bl x.1 - 1) * p2 (max (0 - E) 0) ≤ x.1 * p2 (max (0 - E) 0) := Int.mul_le_mul_of_nonneg_right a1 (Int.le_of_lt (pw_pos _))
  have k2 : p2 (w - 1) * (x.2 * p2 (max E 0)) ≤ p2 (w - 1) * (p2 (bl x.2) * p2 (max E 0)) := Int.mul_le_mul_of_nonneg_left (Int.mul_le_mul_of_nonneg_right (Int.le_of_lt a2) (Int.le_of_lt (pw_pos _))) (Int.le_of_lt (pw_pos _))
  have k3 : p2 (bl x.1 - 1) * p2 (max (0 - E) 0) = p2 (w - 1) * (p2 (bl x.2) * p2 (max E 0)) := by
    rw [← pw_add (by omega) (by omega), ← pw_add (by omega) (by omega), ← pw_add (by omega) (by omega)]
    congr 1
    omega
  omega
theorem cell_is {x : Num} {w : Int} (h1 : 0 < x.1) (h2 : 0 < x.2) (hw : 1 ≤ w) : IsCell x w (cellOf x w).1 (cellOf x w).2 := by
  have q1 : quo (sc x (0 - e0 x w)) = Na x (e0 x w) / Nb x (e0 x w) := rfl
  have q2 : quo (sc x (0 - (e0 x w + 1))) = Na x (e0 x w + 1) / Nb x (e0 x w + 1) := rfl
  have lo0 := exp_lo h1 h2 hw
  have hi1 := exp_hi h1 h2 hw
  have p0 := Nb_pos h2 (e0 x w)
  have p1 := Nb_pos h2 (e0 x w + 1)
  obtain ⟨d1, d2⟩ := ediv_bounds (a := Na x (e0 x w)) p0
  obtain ⟨d3, d4⟩ := ediv_bounds (a := Na x (e0 x w + 1)) p1
  unfold cellOf
  rw [Int.one_mul, q1, q2]
  split
  · rename_i h
    refine ⟨?_, ?_, d3, d4⟩
    · refine (Int.le_ediv_iff_mul_le p1).mpr ?_
      have h3 : p2 w * Nb x (e0 x w) ≤ Na x (e0 x w) := (Int.le_ediv_iff_mul_le p0).mp h
      rw [Na_eq, Nb_eq] at h3 ⊢
      have ew : p2 w = 2 * p2 (w - 1) := by
        rw [← pw_succ (by omega)]
        congr 1
        omega
      rw [ew] at h3
      by_cases hE : 0 ≤ e0 x w
      · rw [show max (0 - (e0 x w + 1)) 0 = 0 by omega, show max (e0 x w + 1) 0 = e0 x w + 1 by omega, pw_succ hE]
        rw [show max (0 - e0 x w) 0 = 0 by omega, show max (e0 x w) 0 = e0 x w by omega] at h3
        grind
      · rw [show max (0 - e0 x w) 0 = max (0 - (e0 x w + 1)) 0 + 1 by omega, pw_succ (by omega), show max (e0 x w) 0 = 0 by omega] at h3
        rw [show max (e0 x w + 1) 0 = 0 by omega]
        grind
    · exact (Int.ediv_lt_iff_lt_mul p1).mpr hi1
  · rename_i h
    refine ⟨(Int.le_ediv_iff_mul_le p0).mpr lo0, by omega, d1, d2⟩
/-- x against g * 2 ^ e, all in counts: Z great -/
theorem Na_Z {x : Num} {e Z : Int} (hZ : 0 ≤ Z) (hz : 0 ≤ e + Z) : ∃ c, 0 < c ∧ Na x e * p2 (e + Z) * x.2 = x.1 * p2 Z * Nb x e ∧ c = 1 := by
  refine ⟨1, by decide, ?_, rfl⟩
  rw [Na_eq, Nb_eq]
  have k : p2 (max (0 - e) 0) * p2 (e + Z) = p2 Z * p2 (max e 0) := by
    rw [← pw_add (by omega) hz, ← pw_add hZ (by omega)]
    congr 1
    omega
  grind
end SR
end
section
set_option Elab.async false
set_option linter.all false
set_option maxRecDepth 100000
set_option maxHeartbeats 4000000
/-! Pure defs whose bodies fill lists of their own: steps upon slots and heap. -/
namespace SR
open PySem PySem.Spec PyProof.Rows L2
open Evl (Ex)
open C8 (Cal Met Mak)
section
variable {P : Program} {w : World} {K : PySem.W.Frag} {mg : Str → Option Value} {base : Heap}
theorem cal_pureH {x : Str} {params : Arguments} {body : List Stmt} {scope : Scope} {N ps : List Str} {f : Addr} {fd : FuncData} {k : Nat} {R : List PyData → PyData → Prop} (F : FunD K x x params body scope [] [] f fd) (g : mg x = some (.ref f)) (b : Binds K fd ps [])
    (S : FnScope N ps scope) (hlen : ∀ ds d, R ds d → ds.length = ps.length)
    (hb : ∀ (cdv : Value) (A : Around) (outer : List Env) (s : Shared) (H0 : Hp), Room k (A.deeper (envOfC x scope s.heap.objs.size f cdv)) →
      ∃ t, PSs (cxOf CX0 P w K mg base N x scope f cdv A outer s H0 E0).nox body t ∧ ∀ ds d, R ds d → ∀ (σ : L2.St) (H : Hp) (Q : VK), EnvR K H σ (ds.map some ++ List.replicate (N.length - ds.length) none) →
        (∀ v H', Ex H H' → Dp K H' v d → Q v H') → t { nx := fun _ H' => Q .non H', rt := Q } σ H) :
    Cal P w K mg base (k + 1) x (spP K R) [] := by
  refine ⟨f, fd, ps, [], F.ok S (fun vs H Q E h => ?_) (fun cdv A outer s H vs Q E hr h => ?_), g, F.kp, b, .nil⟩
  · obtain ⟨ds, d, hd, hR, _⟩ := h
    rw [dps_len hd]
    exact hlen ds d hR
  · obtain ⟨ds, d, hd, hR, hQ⟩ := h
    obtain ⟨t, ht, hx⟩ := hb cdv A outer s H hr
    exact ⟨t, PSs.nox ht, hx ds d hR _ H Q (EnvR.start hd) hQ⟩
end
section
variable {K : PySem.W.Frag} {ρ : Rho} {t u ta tb te : TE} {d d1 d2 : PyData} {ds es : List PyData} {t1 t2 : TS} {i j : Nat} {D : Ends} {σ : L2.St} {H : Hp}
theorem EnvR.drop (E : EnvR K H σ ρ) (i : Nat) : EnvR K H σ (ρ.set i none) := ⟨by rw [List.length_set]; exact E.len, fun j d q => by
  by_cases hij : i = j
  · subst hij
    by_cases hl : i < ρ.length
    · rw [List.getElem?_set_self hl] at q
      cases Option.some.inj q
    · rw [List.set_eq_of_length_le (by omega)] at q
      exact E.at_ i d q
  · rw [List.getElem?_set_ne hij] at q
    exact E.at_ j d q⟩
theorem hs_asg (h : XE K te ρ d) (E : EnvR K H σ ρ) (k : ∀ v H', Ex H H' → EnvR K H' (σ.set i (some v)) (ρ.set i (some d)) → Dp K H' v d → D.nx (σ.set i (some v)) H') : tAsg te (gName i) D σ H :=
  h σ H E _ fun v H' e hv => k v H' e ((E.ex e).set hv) hv
theorem hs_asgG {js : List Nat} {g : TG} {ρ1 : Rho} (h : XE K te ρ d) (hg : XG K js g d ρ ρ1) (E : EnvR K H σ ρ) (k : ∀ σ' H', Ex H H' → EnvR K H' σ' ρ1 → (∀ i, i ∉ js → σ'[i]? = σ[i]?) → D.nx σ' H') : tAsg te g D σ H :=
  h σ H E _ fun v H' e hv => hg σ H' v (E.ex e) hv _ fun σ' E' _ k' => k σ' H' e E' k'
theorem hs_drop (h : XE K te ρ d) (E : EnvR K H σ ρ) (k : ∀ H', Ex H H' → EnvR K H' σ ρ → D.nx σ H') : tDrop te D σ H := h σ H E _ fun v H' e hv => k H' e (E.ex e)
theorem hs_ret (h : XE K te ρ d) (E : EnvR K H σ ρ) (k : ∀ v H', Ex H H' → Dp K H' v d → D.rt v H') : tRet te D σ H := h σ H E _ k
theorem hs_if {c : TT} {b : Bool} (h : XT K c ρ b) (E : EnvR K H σ ρ) (h1 : b = true → ∀ H', Ex H H' → EnvR K H' σ ρ → t1 D σ H') (h2 : b = false → ∀ H', Ex H H' → EnvR K H' σ ρ → t2 D σ H') : tIfS c t1 t2 D σ H :=
  h σ H E _ fun H' e => by
    cases b with
    | true => exact h1 rfl H' e (E.ex e)
    | false => exact h2 rfl H' e (E.ex e)
/-- found = [] -/
theorem hs_new (E : EnvR K H σ ρ) (k : ∀ p, H p = none → EnvR K (upd H p (.lst [])) (σ.set i (some (.ref p))) (ρ.set i none) → D.nx (σ.set i (some (.ref p))) (upd H p (.lst []))) : tAsg (tLst tNil) (gName i) D σ H :=
  ⟨Nat.zero_le _, fun p hp => k p hp (E.ex (Evl.Ex.new hp)).setX⟩
/-- found.append(e), found in slot i -/
theorem hs_app {l : Addr} {vs : List V} (hl : σ[i]? = some (some (.ref l))) (hv : H l = some (.lst vs)) (hz : vs.length < 100000) (h : XE K te ρ d) (E : EnvR K H σ ρ) (f : FzR ρ = true)
    (k : ∀ v H', Ex H H' → Dp K H' v d → EnvR K (upd H' l (.lst (vs ++ [v]))) σ ρ → D.nx σ (upd H' l (.lst (vs ++ [v])))) : tDrop (tBM K "list" rAppend (tVar i) (tCons te tNil)) D σ H := by
  refine ⟨_, hl, .inl ⟨rfl, _, SqL.of hv⟩, h σ H E _ fun v H' e hd => ?_⟩
  have hv' := e l _ hv
  exact ⟨l, vs, v, rfl, rfl, hv', Nat.lt_of_lt_of_le hz (by decide), k v H' e hd ((E.ex e).tx f (Tx.lst hv'))⟩
/-- what is walked, kept by whatever leaves tuples as they are -/
def XIF (K : PySem.W.Frag) (wi : TI) (ρ : Rho) (ds : List PyData) : Prop := ∀ (σ : L2.St) (H : Hp) (R : It → Hp → Prop), EnvR K H σ ρ →
  (∀ (J : It) (H1 : Hp) (G : Hp → Prop) (Y : Nat → Hp → V → Hp → Prop), Ex H H1 → Walk J ds.length G Y → (∀ H2, Tx H1 H2 → G H2) →
    (∀ i H2 x H3, i < ds.length → Tx H1 H2 → Y i H2 x H3 → Ex H2 H3 ∧ ∃ d, ds[i]? = some d ∧ Dp K H3 x d) → R J H1) → wi σ H R
theorem xif_tup (h : XE K te ρ (.tuple ds)) (fz : FzAll ds = true) : XIF K (iTup K te) ρ ds := fun σ H R E q => h σ H E _ fun v H1 e1 hv => by
  obtain ⟨a, xs, rfl, hs, ha⟩ := dp_tup hv
  refine ⟨a, rfl, ⟨xs, hs⟩, q _ H1 _ _ e1 (dps_len ha ▸ walk_tup (K := K) (a := a) (xs := xs)) (fun H2 e2 => e2.sq hs) fun i H2 x H3 hi e2 y => ?_⟩
  obtain ⟨rfl, hx⟩ := y
  obtain ⟨d, hd⟩ : ∃ d, ds[i]? = some d := ⟨ds[i], List.getElem?_eq_getElem hi⟩
  obtain ⟨v, hv, hdv⟩ := dps_get ha hd
  have ev : v = x := Option.some.inj (hv.symm.trans hx)
  subst ev
  exact ⟨Evl.Ex.refl _, d, hd, dp_tx e2 _ _ (fz_mem fz (List.mem_of_getElem? hd)) hdv⟩
theorem hs_for {wi : TI} {g : TG} (hi : XIF K wi ρ ds) (E : EnvR K H σ ρ)
    (k : ∀ H1, Ex H H1 → ∃ Pv : Nat → L2.St → Hp → Prop, Pv 0 σ H1 ∧ (∀ i σ' H', Pv i σ' H' → Tx H1 H') ∧
      (∀ i d σ' H' H3 v, ds[i]? = some d → Pv i σ' H' → Ex H' H3 → Dp K H3 v d → g v σ' H3 fun σ2 H2 => t1 { D with nx := Pv (i + 1), ct := Pv (i + 1), bk := D.nx } σ2 H2) ∧ (∀ σ' H', Pv ds.length σ' H' → D.nx σ' H')) : tFor wi g t1 D σ H := by
  refine hi σ H _ E fun J H1 G Y e1 w hG hY => ?_
  obtain ⟨Pv, h0, hT, hs, hd⟩ := k H1 e1
  refine for_it w Pv h0 (fun i σ' H' _ p => hG H' (hT i σ' H' p)) (fun i x σ' H' H3 hi p y => ?_) hd
  obtain ⟨e3, d, hd, hx⟩ := hY i H' x H3 hi (hT i σ' H' p) y
  exact hs i d σ' H' H3 x hd p e3 hx
theorem xe_neg {n : Int} (h : XE K t ρ (.int n)) : XE K (tUn (rU fun i => .int (-i)) t) ρ (.int (-n)) := fun σ H E Q q => h σ H E _ fun v H1 e1 hv => ⟨n, dp_int hv, q _ H1 e1 (.int _)⟩
theorem xe_isNy (ha : XE K ta ρ .none) : XE K (tOp (fun x y H Q => y = V.non ∧ Q (.bl (decide (x = .non))) H) ta (tC .non)) ρ (.bool true) :=
  xe_op ha xe_non fun x y H Q hx hy q => ⟨dp_none hy, q _ H (Evl.Ex.refl H) (by rw [dp_none hx]; exact .bl _)⟩
theorem xe_isNn (ha : XE K ta ρ d) (hd : d ≠ .none) : XE K (tOp (fun x y H Q => y = V.non ∧ Q (.bl (decide (x = .non))) H) ta (tC .non)) ρ (.bool false) :=
  xe_op ha xe_non fun x y H Q hx hy q => ⟨dp_none hy, q _ H (Evl.Ex.refl H) (by
    have e : decide (x = V.non) = false := decide_eq_false fun z => by
      subst z
      cases hx
      exact hd rfl
    rw [e]
    exact .bl _)⟩
/-- t[-1] -/
theorem xe_lastT (ha : XE K ta ρ (.tuple ds)) (hb : XE K tb ρ (.int (-1))) (hd : ds.getLast? = some d) : XE K (tOp (rIxT K) ta tb) ρ d :=
  xe_op ha hb fun x y H Q hx hy q => by
    obtain ⟨a, xs, rfl, hs, ha⟩ := dp_tup hx
    have hl := dps_len ha
    rw [List.getLast?_eq_getElem?] at hd
    obtain ⟨v, hv, hd'⟩ := dps_get ha hd
    have hne : 0 < ds.length := by
      have := (List.getElem?_eq_some_iff.mp hd).1
      omega
    refine ⟨a, xs, -1, v, rfl, dp_int hy, hs, ?_, q v H (Evl.Ex.refl H) hd'⟩
    rw [← hl] at hv
    have hx0 : 0 < xs.length := by omega
    have e : ixN xs.length (-1) = some (xs.length - 1) := by
      unfold ixN
      rw [if_neg (by decide), if_pos (by omega)]
      congr 1
      omega
    unfold atI
    rw [e]
    exact hv
/-! ### slices -/
def XO (K : PySem.W.Frag) (t : TO) (ρ : Rho) (o : Option Int) : Prop := ∀ (σ : L2.St) (H : Hp), EnvR K H σ ρ → ∀ Q : Option Int → Hp → Prop, (∀ H', Ex H H' → Q o H') → t σ H Q
theorem xo_none : XO K tNoPart ρ none := fun σ H E Q q => q H (Evl.Ex.refl H)
theorem xo_some {n : Int} (h : XE K t ρ (.int n)) : XO K (tPart t) ρ (some n) := fun σ H E Q q => h σ H E _ fun v H1 e1 hv => ⟨n, dp_int hv, q H1 e1⟩
def cutD (ds : List PyData) (lo hi : Option Int) : List PyData := (ds.drop (HT.sIx ds.length 0 lo)).take (HT.sIx ds.length ds.length hi - HT.sIx ds.length 0 lo)
theorem dps_drop {H : Hp} : ∀ {ds : List PyData} {vs : List V} (n : Nat), DpAll K H vs ds → DpAll K H (vs.drop n) (ds.drop n)
  | _, _, 0, h => h
  | [], _, n + 1, h => by cases h; exact .nil
  | d :: ds, _, n + 1, h => by
    cases h with
    | cons h1 h2 => exact dps_drop n h2
theorem dps_take {H : Hp} : ∀ {ds : List PyData} {vs : List V} (n : Nat), DpAll K H vs ds → DpAll K H (vs.take n) (ds.take n)
  | _, _, 0, h => by
    rw [List.take_zero, List.take_zero]
    exact .nil
  | [], _, n + 1, h => by cases h; exact .nil
  | d :: ds, _, n + 1, h => by
    cases h with
    | cons h1 h2 => exact .cons h1 (dps_take n h2)
theorem dps_cut {H : Hp} {vs : List V} (h : DpAll K H vs ds) (lo hi : Option Int) : DpAll K H (cutV vs lo hi) (cutD ds lo hi) := by
  unfold cutV cutD
  rw [dps_len h]
  exact dps_take _ (dps_drop _ h)
theorem xe_sliceT {tl th : TO} {lo hi : Option Int} (h : XE K t ρ (.tuple ds)) (h1 : XO K tl ρ lo) (h2 : XO K th ρ hi) : XE K (tSl (rSlA K) t tl th) ρ (.tuple (cutD ds lo hi)) := fun σ H E Q q =>
  h σ H E _ fun v H1 e1 hv => h1 σ H1 (E.ex e1) _ fun H2 e2 => h2 σ H2 (E.ex (e1.trans e2)) _ fun H3 e3 => by
    obtain ⟨a, xs, rfl, hs, ha⟩ := dp_tup hv
    have hs3 := ex_t (e2.trans e3) hs
    have ha3 := dps_ex (e2.trans e3) _ _ ha
    have e0 := (e1.trans e2).trans e3
    refine ⟨a, xs, rfl, hs3, fun hw => ?_, fun hw p hp => q _ _ (e0.trans (Evl.Ex.new hp)) (.tup (SqT.of upd_same) (dps_ex (Evl.Ex.new hp) _ _ (dps_cut ha3 lo hi)))⟩
    have hl := dps_len ha
    have ec : cutD ds lo hi = ds := by
      unfold cutD
      rw [← hl, hw.1, hw.2, List.drop_zero, Nat.sub_zero, hl, List.take_length]
    rw [ec] at q
    exact q _ _ e0 (.tup hs3 ha3)
theorem xe_sliceL {tl th : TO} {lo hi : Option Int} (h : XE K t ρ (.list ds)) (h1 : XO K tl ρ lo) (h2 : XO K th ρ hi) : XE K (tSl (rSlL K) t tl th) ρ (.list (cutD ds lo hi)) := fun σ H E Q q =>
  h σ H E _ fun v H1 e1 hv => h1 σ H1 (E.ex e1) _ fun H2 e2 => h2 σ H2 (E.ex (e1.trans e2)) _ fun H3 e3 => by
    obtain ⟨a, xs, rfl, hs, ha⟩ := dp_lst hv
    have hs3 := ex_l (e2.trans e3) hs
    have ha3 := dps_ex (e2.trans e3) _ _ ha
    have e0 := (e1.trans e2).trans e3
    exact ⟨a, xs, rfl, hs3, fun p hp => q _ _ (e0.trans (Evl.Ex.new hp)) (.lst (SqL.of upd_same) (dps_ex (Evl.Ex.new hp) _ _ (dps_cut ha3 lo hi)))⟩
end
end SR
end
section
set_option Elab.async false
set_option linter.all false
set_option maxRecDepth 100000
set_option maxHeartbeats 1000000
/-! Readings at given slots and heap (methods: fields of objects beside pure data). -/
namespace SR
open PySem PySem.Spec PyProof.Rows L2
open Evl (Ex)
section
variable {K : PySem.W.Frag} {ρ : Rho} {t u ta tb te : TE} {d d1 d2 : PyData} {ds es : List PyData} {t1 t2 : TS} {i j : Nat} {D : Ends} {σ : L2.St} {H : Hp} {v : V}
/-- the value itself, the heap as it is or with new objects -/
def VV (t : TE) (σ : L2.St) (H : Hp) (v : V) : Prop := ∀ H1, Ex H H1 → ∀ Q : VK, (∀ H', Ex H1 H' → Q v H') → t σ H1 Q
def VE (K : PySem.W.Frag) (t : TE) (σ : L2.St) (H : Hp) (d : PyData) : Prop := ∀ H1, Ex H H1 → ∀ Q : VK, (∀ v H', Ex H1 H' → Dp K H' v d → Q v H') → t σ H1 Q
def VA (K : PySem.W.Frag) (t : TA) (σ : L2.St) (H : Hp) (ds : List PyData) : Prop := ∀ H1, Ex H H1 → ∀ Q : List V → Hp → Prop, (∀ vs H', Ex H1 H' → DpAll K H' vs ds → Q vs H') → t σ H1 Q
def VT (t : TT) (σ : L2.St) (H : Hp) (b : Bool) : Prop := ∀ H1, Ex H H1 → ∀ Q : Bool → Hp → Prop, (∀ H', Ex H1 H' → Q b H') → t σ H1 Q
theorem ve_x (h : XE K t ρ d) (E : EnvR K H σ ρ) : VE K t σ H d := fun H1 e Q q => h σ H1 (E.ex e) Q q
theorem va_x {tr : TA} (h : XA K tr ρ ds) (E : EnvR K H σ ρ) : VA K tr σ H ds := fun H1 e Q q => h σ H1 (E.ex e) Q q
theorem vt_x {c : TT} {b : Bool} (h : XT K c ρ b) (E : EnvR K H σ ρ) : VT c σ H b := fun H1 e Q q => h σ H1 (E.ex e) Q q
theorem VE.ex {H' : Hp} (h : VE K t σ H d) (e : Ex H H') : VE K t σ H' d := fun H1 e1 Q q => h H1 (e.trans e1) Q q
theorem VE.to (h : VE K t σ H d1) (q : d1 = d) : VE K t σ H d := q ▸ h
theorem VT.to {c : TT} {a b : Bool} (h : VT c σ H a) (q : a = b) : VT c σ H b := q ▸ h
theorem vv_var (h : σ[i]? = some (some v)) : VV (tVar i) σ H v := fun H1 e Q q => ⟨v, h, q H1 (Evl.Ex.refl H1)⟩
theorem vv_c : VV (tC v) σ H v := fun H1 e Q q => q H1 (Evl.Ex.refl H1)
theorem vv_fld {p C dx : Addr} {fs : List (Str × V)} {f : Str} (h : VV t σ H (.ref p)) (ho : H p = some (.ins C dx fs)) (hc : Cls K C) (hn : NoAttr K C f) (hl : fs.lookup f = some v) : VV (tFld K t f) σ H v := fun H1 e Q q =>
  h H1 e _ fun H2 e2 => ⟨p, C, dx, fs, v, rfl, e2 _ _ (e _ _ ho), hc, hn, hl, q H2 e2⟩
theorem ve_v (h : VV t σ H v) (hd : Dp K H v d) : VE K t σ H d := fun H1 e Q q => h H1 e _ fun H2 e2 => q v H2 e2 (dp_ex (e.trans e2) _ _ hd)
theorem ve_var (h : σ[i]? = some (some v)) (hd : Dp K H v d) : VE K (tVar i) σ H d := ve_v (vv_var h) hd
theorem ve_int {n : Int} : VE K (tC (.int n)) σ H (.int n) := ve_v vv_c (.int n)
theorem ve_str {n : Str} : VE K (tC (.str n)) σ H (.str n) := ve_v vv_c (.str n)
theorem ve_op {r : R2} (ha : VE K ta σ H d1) (hb : VE K tb σ H d2) (hr : ∀ (x y : V) (H : Hp) (Q : VK), Dp K H x d1 → Dp K H y d2 → (∀ v H', Ex H H' → Dp K H' v d → Q v H') → r x y H Q) : VE K (tOp r ta tb) σ H d := fun H0 e0 Q q =>
  ha H0 e0 _ fun x H1 e1 hx => hb H1 (e0.trans e1) _ fun y H2 e2 hy => hr x y H2 Q (dp_ex e2 _ _ hx) hy fun v H3 e3 hv => q v H3 ((e1.trans e2).trans e3) hv
theorem ve_add {a b : Int} (ha : VE K ta σ H (.int a)) (hb : VE K tb σ H (.int b)) : VE K (tOp (rI0 fun i j => .int (i + j)) ta tb) σ H (.int (a + b)) := ve_op ha hb fun x y H Q hx hy q => ⟨a, b, dp_int hx, dp_int hy, q _ H (Evl.Ex.refl H) (.int _)⟩
theorem ve_sub {a b : Int} (ha : VE K ta σ H (.int a)) (hb : VE K tb σ H (.int b)) : VE K (tOp (rI0 fun i j => .int (i - j)) ta tb) σ H (.int (a - b)) := ve_op ha hb fun x y H Q hx hy q => ⟨a, b, dp_int hx, dp_int hy, q _ H (Evl.Ex.refl H) (.int _)⟩
theorem ve_opI {C : Int → Int → Prop} {g : Int → Int → Int} {a b : Int} (ha : VE K ta σ H (.int a)) (hb : VE K tb σ H (.int b)) (hc : C a b) : VE K (tOp (rI C fun i j => .int (g i j)) ta tb) σ H (.int (g a b)) :=
  ve_op ha hb fun x y H Q hx hy q => ⟨a, b, dp_int hx, dp_int hy, hc, q _ H (Evl.Ex.refl H) (.int _)⟩
theorem ve_mul {a b : Int} (ha : VE K ta σ H (.int a)) (hb : VE K tb σ H (.int b)) (hc : CMulX a b) : VE K (tOp (rI CMulX fun i j => .int (i * j)) ta tb) σ H (.int (a * b)) := ve_opI ha hb hc
theorem ve_fdiv {a b : Int} (ha : VE K ta σ H (.int a)) (hb : VE K tb σ H (.int b)) (hc : CDivW a b) : VE K (tOp (rI CDivW fun i j => .int (i / j)) ta tb) σ H (.int (a / b)) := ve_opI ha hb hc
theorem ve_mod {a b : Int} (ha : VE K ta σ H (.int a)) (hb : VE K tb σ H (.int b)) (hc : 0 < b) : VE K (tOp (rI (fun _ j => 0 < j) fun i j => .int (i % j)) ta tb) σ H (.int (a % b)) := ve_opI (C := fun _ j => 0 < j) (g := fun i j => i % j) ha hb hc
theorem ve_shl {a b : Int} (ha : VE K ta σ H (.int a)) (hb : VE K tb σ H (.int b)) (hc : CShl a b) : VE K (tOp (rI CShl fun i j => .int (i * 2 ^ j.toNat)) ta tb) σ H (.int (a * 2 ^ b.toNat)) := ve_opI (C := CShl) (g := fun i j => i * 2 ^ j.toNat) ha hb hc
theorem ve_opB0 {g : Int → Int → Bool} {a b : Int} (ha : VE K ta σ H (.int a)) (hb : VE K tb σ H (.int b)) : VE K (tOp (rI0 fun i j => .bl (g i j)) ta tb) σ H (.bool (g a b)) :=
  ve_op ha hb fun x y H Q hx hy q => ⟨a, b, dp_int hx, dp_int hy, q _ H (Evl.Ex.refl H) (.bl _)⟩
theorem ve_lt {a b : Int} (ha : VE K ta σ H (.int a)) (hb : VE K tb σ H (.int b)) : VE K (tOp (rI0 fun i j => .bl (decide (i < j))) ta tb) σ H (.bool (decide (a < b))) := ve_opB0 (g := fun i j => decide (i < j)) ha hb
theorem ve_gt {a b : Int} (ha : VE K ta σ H (.int a)) (hb : VE K tb σ H (.int b)) : VE K (tOp (rI0 fun i j => .bl (decide (j < i))) ta tb) σ H (.bool (decide (b < a))) := ve_opB0 (g := fun i j => decide (j < i)) ha hb
theorem ve_ge {a b : Int} (ha : VE K ta σ H (.int a)) (hb : VE K tb σ H (.int b)) : VE K (tOp (rI0 fun i j => .bl (decide (j ≤ i))) ta tb) σ H (.bool (decide (b ≤ a))) := ve_opB0 (g := fun i j => decide (j ≤ i)) ha hb
theorem ve_eqI {a b : Int} (ha : VE K ta σ H (.int a)) (hb : VE K tb σ H (.int b)) : VE K (tOp rEq ta tb) σ H (.bool (decide (a = b))) :=
  ve_op ha hb fun x y H Q hx hy q => by
    rw [dp_int hx, dp_int hy]
    refine ⟨rfl, q _ H (Evl.Ex.refl H) ?_⟩
    have e : decide (V.int a = V.int b) = decide (a = b) := by
      rw [Bool.eq_iff_iff]
      simp
    rw [e]
    exact .bl _
theorem ve_eqS {a b : Str} (ha : VE K ta σ H (.str a)) (hb : VE K tb σ H (.str b)) : VE K (tOp rEq ta tb) σ H (.bool (decide (a = b))) :=
  ve_op ha hb fun x y H Q hx hy q => by
    rw [dp_str hx, dp_str hy]
    refine ⟨rfl, q _ H (Evl.Ex.refl H) ?_⟩
    have e : decide (V.str a = V.str b) = decide (a = b) := by
      rw [Bool.eq_iff_iff]
      simp
    rw [e]
    exact .bl _
theorem ve_eqD (ha : VE K ta σ H d1) (hb : VE K tb σ H d2) (s1 : SeqAt.shaped d1 = true) (s2 : SeqAt.shaped d2 = true) : VE K (tOp (rEqD K) ta tb) σ H (.bool (PyData.eqv d1 d2)) :=
  ve_op ha hb fun x y H Q hx hy q => ⟨d1, d2, hx, hy, s1, s2, q _ H (Evl.Ex.refl H) (.bl _)⟩
theorem ve_neD (ha : VE K ta σ H d1) (hb : VE K tb σ H d2) (s1 : SeqAt.shaped d1 = true) (s2 : SeqAt.shaped d2 = true) : VE K (tOp (rNeD K) ta tb) σ H (.bool (!PyData.eqv d1 d2)) :=
  ve_op ha hb fun x y H Q hx hy q => ⟨d1, d2, hx, hy, s1, s2, q _ H (Evl.Ex.refl H) (.bl _)⟩
theorem ve_ixT {n : Int} (ha : VE K ta σ H (.tuple ds)) (hb : VE K tb σ H (.int n)) (h0 : 0 ≤ n) (hd : ds[n.toNat]? = some d) : VE K (tOp (rIxT K) ta tb) σ H d :=
  ve_op ha hb fun x y H Q hx hy q => by
    obtain ⟨a, xs, rfl, hs, ha⟩ := dp_tup hx
    obtain ⟨v, hv, hd'⟩ := dps_get ha hd
    exact ⟨a, xs, n, v, rfl, dp_int hy, hs, at_of (j := n.toNat) (by omega) hv, q v H (Evl.Ex.refl H) hd'⟩
theorem ve_ixL {n : Int} (ha : VE K ta σ H (.list ds)) (hb : VE K tb σ H (.int n)) (h0 : 0 ≤ n) (hd : ds[n.toNat]? = some d) : VE K (tOp (rIxL K) ta tb) σ H d :=
  ve_op ha hb fun x y H Q hx hy q => by
    obtain ⟨a, xs, rfl, hs, ha⟩ := dp_lst hx
    obtain ⟨v, hv, hd'⟩ := dps_get ha hd
    exact ⟨a, xs, n, v, rfl, dp_int hy, hs, at_of (j := n.toNat) (by omega) hv, q v H (Evl.Ex.refl H) hd'⟩
theorem va_nil : VA K tNil σ H [] := fun H1 e Q q => q [] H1 (Evl.Ex.refl H1) .nil
theorem va_cons {tr : TA} (ha : VE K ta σ H d) (hr : VA K tr σ H ds) : VA K (tCons ta tr) σ H (d :: ds) := fun H0 e0 Q q =>
  ha H0 e0 _ fun x H1 e1 hx => hr H1 (e0.trans e1) _ fun xs H2 e2 hxs => q (x :: xs) H2 (e1.trans e2) (.cons (dp_ex e2 _ _ hx) hxs)
theorem ve_tup {tr : TA} (h : VA K tr σ H ds) (hl : ds.length ≤ 1000) : VE K (tTup tr) σ H (.tuple ds) := fun H0 e0 Q q =>
  h H0 e0 _ fun vs H1 e1 hvs => ⟨Nat.le_trans (by rw [dps_len hvs]; exact hl) (by decide), fun p hp => q (.ref p) _ (e1.trans (Evl.Ex.new hp)) (.tup (SqT.of upd_same) (dps_ex (Evl.Ex.new hp) _ _ hvs))⟩
theorem ve_call {R : List PyData → PyData → Prop} {E : XK} {tr : TA} (h : VA K tr σ H ds) (r : R ds d) : VE K (tCall (spP K R) [] E tr) σ H d := fun H0 e0 Q q =>
  h H0 e0 _ fun vs H1 e1 hvs => ⟨ds, d, by rw [List.append_nil]; exact hvs, r, fun v H2 e2 hv => q v H2 (e1.trans e2) hv⟩
theorem ve_cb {r : List V → Hp → VK → Prop} {tr : TA} (h : VA K tr σ H ds) (hr : ∀ (vs : List V) (H : Hp) (Q : VK), DpAll K H vs ds → (∀ v H', Ex H H' → Dp K H' v d → Q v H') → r vs H Q) : VE K (tCB r tr) σ H d := fun H0 e0 Q q =>
  h H0 e0 _ fun vs H1 e1 hvs => hr vs H1 Q hvs fun v H2 e2 hv => q v H2 (e1.trans e2) hv
theorem ve_max2 {a b : Int} (ha : VE K ta σ H (.int a)) (hb : VE K tb σ H (.int b)) : VE K (tCB (fun xs H Q => ∃ i j, xs = [V.int i, V.int j] ∧ Q (.int (if j > i then j else i)) H) (tCons ta (tCons tb tNil))) σ H (.int (max a b)) :=
  ve_cb (va_cons ha (va_cons hb va_nil)) fun vs H Q hvs q => by
    obtain ⟨v, w, rfl, hv, hw⟩ := dps2 hvs
    rw [dp_int hv, dp_int hw]
    refine ⟨a, b, rfl, ?_⟩
    have e : (if b > a then b else a) = max a b := by
      rw [Int.max_def]
      split <;> split <;> omega
    rw [e]
    exact q _ H (Evl.Ex.refl H) (.int _)
theorem ve_intB {b : Bool} (h : VE K t σ H (.bool b)) : VE K (tCB (fun xs H Q => (∃ i, xs = [V.int i] ∧ Q (.int i) H) ∨ ∃ k, xs = [V.bl k] ∧ Q (.int (if k then 1 else 0)) H) (tCons t tNil)) σ H (.int (if b then 1 else 0)) :=
  ve_cb (va_cons h va_nil) fun vs H Q hvs q => by
    obtain ⟨v, rfl, hv⟩ := dps1 hvs
    rw [dp_bool hv]
    exact .inr ⟨b, rfl, q _ H (Evl.Ex.refl H) (.int _)⟩
theorem ve_andV {a b : Bool} (h1 : VE K ta σ H (.bool a)) (h2 : a = true → VE K tb σ H (.bool b)) : VE K (tAndV ta tb) σ H (.bool (a && b)) := fun H0 e0 Q q =>
  h1 H0 e0 _ fun v H1 e1 hv => ⟨a, dp_bool hv, by
    cases a with
    | true => exact h2 rfl H1 (e0.trans e1) Q fun v H2 e2 hv => q v H2 (e1.trans e2) hv
    | false => exact q _ H1 e1 (.bl _)⟩
theorem ve_orV {a b : Bool} (h1 : VE K ta σ H (.bool a)) (h2 : a = false → VE K tb σ H (.bool b)) : VE K (tOrV ta tb) σ H (.bool (a || b)) := fun H0 e0 Q q =>
  h1 H0 e0 _ fun v H1 e1 hv => ⟨a, dp_bool hv, by
    cases a with
    | true => exact q _ H1 e1 (.bl _)
    | false => exact h2 rfl H1 (e0.trans e1) Q fun v H2 e2 hv => q v H2 (e1.trans e2) hv⟩
theorem ve_notV {a : Bool} (h1 : VE K ta σ H (.bool a)) : VE K (tNotV ta) σ H (.bool (!a)) := fun H0 e0 Q q =>
  h1 H0 e0 _ fun v H1 e1 hv => ⟨a, dp_bool hv, q _ H1 e1 (.bl _)⟩
theorem ve_ifC {c : TT} {b : Bool} (hc : VT c σ H b) (h1 : b = true → VE K ta σ H d1) (h2 : b = false → VE K tb σ H d2) : VE K (tIf c ta tb) σ H (if b = true then d1 else d2) := fun H0 e0 Q q =>
  hc H0 e0 _ fun H1 e1 => by
    cases b with
    | true => exact h1 rfl H1 (e0.trans e1) Q fun v H2 e2 hv => q v H2 (e1.trans e2) hv
    | false => exact h2 rfl H1 (e0.trans e1) Q fun v H2 e2 hv => q v H2 (e1.trans e2) hv
theorem vt_test {b : Bool} (h : VE K t σ H (.bool b)) : VT (tTest t) σ H b := fun H0 e0 Q q => h H0 e0 _ fun v H1 e1 hv => ⟨b, dp_bool hv, q H1 e1⟩
theorem vt_B {b : Bool} (h : VE K t σ H (.bool b)) : VT (tB t) σ H b := fun H0 e0 Q q => h H0 e0 _ fun v H1 e1 hv => ⟨b, dp_bool hv, q H1 e1⟩
theorem vt_not {c : TT} {b : Bool} (h : VT c σ H b) : VT (tNot c) σ H (!b) := fun H0 e0 Q q => h H0 e0 _ fun H1 e1 => q H1 e1
theorem vt_and {c c' : TT} {a b : Bool} (h1 : VT c σ H a) (h2 : a = true → VT c' σ H b) : VT (tAnd c c') σ H (a && b) := fun H0 e0 Q q => h1 H0 e0 _ fun H1 e1 => by
  cases a with
  | true => exact h2 rfl H1 (e0.trans e1) Q fun H2 e2 => q H2 (e1.trans e2)
  | false => exact q H1 e1
theorem vt_or {c c' : TT} {a b : Bool} (h1 : VT c σ H a) (h2 : a = false → VT c' σ H b) : VT (tOr c c') σ H (a || b) := fun H0 e0 Q q => h1 H0 e0 _ fun H1 e1 => by
  cases a with
  | true => exact q H1 e1
  | false => exact h2 rfl H1 (e0.trans e1) Q fun H2 e2 => q H2 (e1.trans e2)
/-! ### statements at given slots and heap -/
theorem vs_asg (h : VE K te σ H d) (k : ∀ v H', Ex H H' → Dp K H' v d → D.nx (σ.set i (some v)) H') : tAsg te (gName i) D σ H := h H (Evl.Ex.refl H) _ k
theorem vs_asgV (h : VV te σ H v) (k : ∀ H', Ex H H' → D.nx (σ.set i (some v)) H') : tAsg te (gName i) D σ H := h H (Evl.Ex.refl H) _ k
theorem vs_asgG {js : List Nat} {g : TG} {ρ ρ1 : Rho} (h : VE K te σ H d) (hg : XG K js g d ρ ρ1) (E : EnvR K H σ ρ) (k : ∀ σ' H', Ex H H' → EnvR K H' σ' ρ1 → (∀ i, i ∉ js → σ'[i]? = σ[i]?) → D.nx σ' H') : tAsg te g D σ H :=
  h H (Evl.Ex.refl H) _ fun v H' e hv => hg σ H' v (E.ex e) hv _ fun σ' E' _ k' => k σ' H' e E' k'
theorem vs_par {tr : TA} (h : VA K tr σ H [d1, d2]) (k : ∀ v w H', Ex H H' → Dp K H' v d1 → Dp K H' w d2 → D.nx ((σ.set i (some v)).set j (some w)) H') : tPar i j tr D σ H :=
  h H (Evl.Ex.refl H) _ fun vs H1 e1 hvs => by
    obtain ⟨v, w, rfl, h1, h2⟩ := dps2 hvs
    exact ⟨v, w, rfl, k v w H1 e1 h1 h2⟩
theorem vs_ret (h : VE K te σ H d) (k : ∀ v H', Ex H H' → Dp K H' v d → D.rt v H') : tRet te D σ H := h H (Evl.Ex.refl H) _ k
theorem vs_drop (h : VE K te σ H d) (k : ∀ H', Ex H H' → D.nx σ H') : tDrop te D σ H := h H (Evl.Ex.refl H) _ fun _ H' e _ => k H' e
theorem vs_if {c : TT} {b : Bool} (h : VT c σ H b) (h1 : b = true → ∀ H', Ex H H' → t1 D σ H') (h2 : b = false → ∀ H', Ex H H' → t2 D σ H') : tIfS c t1 t2 D σ H :=
  h H (Evl.Ex.refl H) _ fun H' e => by
    cases b with
    | true => exact h1 rfl H' e
    | false => exact h2 rfl H' e
/-- self.f = e -/
theorem vs_fld {p C dx : Addr} {fs : List (Str × V)} {f : Str} (hv : VE K te σ H d) (ho : VV ta σ H (.ref p)) (hp : H p = some (.ins C dx fs)) (hc : Cls K C) (hn : NoAttr K C f) (hl : fs.length < 1000)
    (k : ∀ v H', Ex H H' → Dp K H' v d → D.nx σ (upd H' p (.ins C dx (putF f v fs)))) : sFld K ta te f D σ H :=
  hv H (Evl.Ex.refl H) _ fun v H1 e1 hd => ho H1 e1 _ fun H2 e2 => ⟨p, C, dx, fs, rfl, e2 _ _ (e1 _ _ hp), hc, hn, hl, k v H2 (e1.trans e2) (dp_ex e2 _ _ hd)⟩
theorem vs_fldV {p C dx : Addr} {fs : List (Str × V)} {f : Str} (hv : VV te σ H v) (ho : VV ta σ H (.ref p)) (hp : H p = some (.ins C dx fs)) (hc : Cls K C) (hn : NoAttr K C f) (hl : fs.length < 1000)
    (k : ∀ H', Ex H H' → D.nx σ (upd H' p (.ins C dx (putF f v fs)))) : sFld K ta te f D σ H :=
  hv H (Evl.Ex.refl H) _ fun H1 e1 => ho H1 e1 _ fun H2 e2 => ⟨p, C, dx, fs, rfl, e2 _ _ (e1 _ _ hp), hc, hn, hl, k H2 (e1.trans e2)⟩
end
end SR
end
section
set_option Elab.async false
set_option linter.all false
set_option maxRecDepth 100000
set_option maxHeartbeats 4000000
/-! Defs: numbers, cells, rules. -/
namespace SR
open PySem PySem.Spec PyProof.Rows L2
open Evl (Ex)
open C8 (Cal Met Mak pe_c pe_mt pe_mt0 pe_mk pe_gc)
inductive R_is_int : List PyData → PyData → Prop
  | mk {i l : Int} (h : True) : R_is_int [.int i, .int l] (.bool (decide (l ≤ i)))
inductive R_common_divisor : List PyData → PyData → Prop
  | mk {a b : Int} (h : 0 ≤ a ∧ 0 ≤ b) : R_common_divisor [.int a, .int b] (.int (gcdI a b))
inductive R_lowest : List PyData → PyData → Prop
  | mk {n d : Int} (h : 0 ≤ n ∧ 0 < d ∧ Bd 9000 d) : R_lowest [.int n, .int d] (numD (low n d))
/-- a number in lowest terms -/
def Nm1 (x : Num) : Prop := 0 < x.1 ∧ 0 < x.2 ∧ gcdI x.1 x.2 = 1
inductive R_is_number : List PyData → PyData → Prop
  | mk {x : Num} (h : Nm1 x) : R_is_number [numD x] (.bool true)
inductive R_check_number : List PyData → PyData → Prop
  | mk {x : Num} (h : Nm1 x) : R_check_number [numD x] .none
inductive R_is_width : List PyData → PyData → Prop
  | mk {w : Int} (h : 1 ≤ w ∧ w ≤ 100) : R_is_width [.int w] (.bool true)
inductive R_check_width : List PyData → PyData → Prop
  | mk {w : Int} (h : 1 ≤ w ∧ w ≤ 100) : R_check_width [.int w] .none
inductive R_scaled : List PyData → PyData → Prop
  | mk {x : Num} {e : Int} (h : Bd 9000 x.1 ∧ Bd 9000 x.2 ∧ -9000 ≤ e ∧ e ≤ 9000) : R_scaled [numD x, .int e] (numD (sc x e))
inductive R_power_number : List PyData → PyData → Prop
  | mk {k e : Int} (h : Bd 9000 k ∧ -8000 ≤ e ∧ e ≤ 8000) : R_power_number [.int k, .int e] (numD (powN k e))
def cellD (c : Int × Int) : PyData := .tuple [.int c.1, .int c.2]
inductive R_cell_of : List PyData → PyData → Prop
  | mk {x : Num} {w : Int} (h : Nm 3500 x ∧ 1 ≤ w ∧ w ≤ 100) : R_cell_of [numD x, .int w] (cellD (cellOf x w))
inductive R_position_of : List PyData → PyData → Prop
  | mk {x : Num} {w : Int} (h : Nm 3500 x ∧ 1 ≤ w ∧ w ≤ 100) : R_position_of [numD x, .int w] (numD (posOf x w))
inductive R_ends_of : List PyData → PyData → Prop
  | mk {x : Num} {w : Int} (h : Nm 3500 x ∧ 1 ≤ w ∧ w ≤ 100) : R_ends_of [numD x, .int w] (.tuple [numD (endsOf x w).1, numD (endsOf x w).2])
inductive R_is_rule : List PyData → PyData → Prop
  | mk {r : Rule} (h : True) : R_is_rule [.str (rs r)] (.bool true)
inductive R_goes_up : List PyData → PyData → Prop
  | mk {k : Int} {p : Num} {r : Rule} (h : Bd 9000 p.1) : R_goes_up [.int k, numD p, .str (rs r)] (.bool (goesUp k p r))
inductive R_round_once : List PyData → PyData → Prop
  | mk {x : Num} {w : Int} {r : Rule} (h : Nm 3500 x ∧ 1 ≤ w ∧ w ≤ 100) : R_round_once [numD x, .int w, .str (rs r)] (numD (roundOnce x w r))
inductive R_rounded : List PyData → PyData → Prop
  | mk {x : Num} {w : Int} {r : Rule} (h : Nm 3500 x ∧ Nm1 x ∧ 1 ≤ w ∧ w ≤ 100) : R_rounded [numD x, .int w, .str (rs r)] (numD (roundOnce x w r))
section
variable {P : Program} {w : World} {K : PySem.W.Frag} {mg : Str → Option Value} {base : Heap}
theorem sc_is_int : FnScope ["value", "least"] ["value", "least"] (defScope sis_int) := ⟨rfl, rfl, rfl, by decide +kernel, rfl, by decide +kernel, by decide +kernel⟩
theorem cal_is_int (T : Top w K mg) : Cal P w K mg base 1 "is_int" (spP K R_is_int) [] := by
  obtain ⟨fd, F⟩ := T.fis_int
  refine cal_pure F T.g_is_int (F.bindsN (ps := ["value", "least"]) fun _ _ _ _ _ _ us hl => match us, hl with | [_, _], _ => rfl) sc_is_int (fun ds d r => by cases r; rfl) fun cdv A outer s H hr => ⟨_, (pss_one (ps_ret (pe_and (pe_callB call_isi (by rfl) T.b_isinstance (by decide +kernel) (pa_cons (pv 0) (pa_cons (pe_bltn (v := .ty "int") (by rfl) T.b_int (by decide +kernel) rfl) pa_nil))) (pe_and (pe_not (pe_callB call_isi (by rfl) T.b_isinstance (by decide +kernel) (pa_cons (pv 0) (pa_cons (pe_bltn (v := .ty "bool") (by rfl) T.b_bool (by decide +kernel) rfl) pa_nil)))) (pe_one (pe_cmpR op_ge (pv 0) (pv 1) (nomark _))))))), fun ds d r => ?_⟩
  cases r
  refine (xs_ret (xe_andV (xe_isi (b := true) (xe_var rfl) (by intro z; cases z) (by show kitB "int" "int" = some true; decide +kernel)) (fun h1 => (xe_andV (xe_notV (xe_isi (b := false) (xe_var rfl) (by intro z; cases z) (by show kitB "int" "bool" = some false; decide +kernel))) (fun h2 => (xe_ge (xe_var rfl) (xe_var rfl)))))) ?_)
  rfl
theorem sc_common_divisor : FnScope ["one", "other"] ["one", "other"] (defScope scommon_divisor) := ⟨rfl, rfl, rfl, by decide +kernel, rfl, by decide +kernel, by decide +kernel⟩
theorem cal_common_divisor (T : Top w K mg) : Cal P w K mg base 1 "common_divisor" (spP K R_common_divisor) [] := by
  obtain ⟨fd, F⟩ := T.fcommon_divisor
  refine cal_pure F T.g_common_divisor (F.bindsN (ps := ["one", "other"]) fun _ _ _ _ _ _ us hl => match us, hl with | [_, _], _ => rfl) sc_common_divisor (fun ds d r => by cases r; rfl) fun cdv A outer s H hr => ⟨_, (pss_cons (ps_while PassesOwn.never (pt_cmpR op_ne (pv 1) pe_int (nomark _)) (pss_one (ps_par (i := 0) (j := 1) rfl sc_common_divisor.nd rfl rfl (by decide) rfl rfl (pa_cons (pv 1) (pa_cons (pe_op op_mod (pv 0) (pv 1)) pa_nil)) (by rfl))))
      (pss_one (ps_ret (pv 0)))), fun ds d r => ?_⟩
  cases r
  rename_i a b h
  refine xs_seq (xs_while (fun m ρ => ∃ x y : Int, ρ = [some (.int x), some (.int y)] ∧ 0 ≤ x ∧ 0 ≤ y ∧ gcdI x y = gcdI a b ∧ m = y.toNat) b.toNat ⟨a, b, rfl, h.1, h.2, rfl, rfl⟩ ?_)
  rintro m ρ ⟨x, y, rfl, hx, hy, e, rfl⟩
  refine ⟨_, xt_test (xe_neI (xe_var rfl) xe_int), fun hb => ?_, fun hb => ?_⟩
  · have hy0 : y ≠ 0 := by simpa using hb
    refine xs_par (xa_cons (xe_var rfl) (xa_cons (xe_mod (xe_var rfl) (xe_var rfl) (by omega)) xa_nil)) ?_
    have hm := Int.emod_nonneg x hy0
    have hl := Int.emod_lt_of_pos x (show 0 < y by omega)
    exact ⟨(x % y).toNat, by omega, y, x % y, rfl, hy, hm, by rw [← gcdI_rec hx (by omega)]; exact e, rfl⟩
  · have hy0 : y = 0 := by simpa using hb
    subst hy0
    refine xs_ret (xe_var rfl) ?_
    rw [← e, gcdI_zero hx]
theorem sc_lowest : FnScope ["n", "d", "divisor"] ["n", "d"] (defScope slowest) := ⟨rfl, rfl, rfl, by decide +kernel, rfl, by decide +kernel, by decide +kernel⟩
theorem cal_lowest (T : Top w K mg) : Cal P w K mg base 2 "lowest" (spP K R_lowest) [] := by
  obtain ⟨fd, F⟩ := T.flowest
  refine cal_pure F T.g_lowest (F.bindsN (ps := ["n", "d"]) fun _ _ _ _ _ _ us hl => match us, hl with | [_, _], _ => rfl) sc_lowest (fun ds d r => by cases r; rfl) fun cdv A outer s H hr => ⟨_, (pss_cons (ps_set (i := 2) sc_lowest.nd rfl (Or.inl rfl) (pe_c (cal_common_divisor T) hr (by decide) rfl (pa_cons (pv 0) (pa_cons (pv 1) pa_nil))))
      (pss_one (ps_ret (pe_tup (pa_cons (pe_op op_fdivW (pv 0) (pv 2)) (pa_cons (pe_op op_fdivW (pv 1) (pv 2)) pa_nil)))))), fun ds d r => ?_⟩
  cases r
  rename_i n d h
  have g := gcdI_pos (n := n) h.2.1
  have gb : Bd 9000 (gcdI n d) := h.2.2.le (by omega) (gcdI_le h.2.1)
  refine (xs_seq (xs_asg (xe_call (xa_cons (xe_var rfl) (xa_cons (xe_var rfl) xa_nil)) (R_common_divisor.mk ?_)) (xs_ret (xe_tup (xa_cons (xe_fdiv (xe_var rfl) (xe_var rfl) ?_) (xa_cons (xe_fdiv (xe_var rfl) (xe_var rfl) ?_) xa_nil)) (by show 2 ≤ 1000; decide)) ?_)))
  · exact ⟨h.1, by omega⟩
  · exact gb.div g (by decide)
  · exact gb.div g (by decide)
  · rfl
theorem sc_is_number : FnScope ["value", "part"] ["value"] (defScope sis_number) := ⟨rfl, rfl, rfl, by decide +kernel, rfl, by decide +kernel, by decide +kernel⟩
theorem cal_is_number (T : Top w K mg) : Cal P w K mg base 2 "is_number" (spP K R_is_number) [] := by
  obtain ⟨fd, F⟩ := T.fis_number
  refine cal_pure F T.g_is_number (F.bindsN (ps := ["value"]) fun _ _ _ _ _ _ us hl => match us, hl with | [_], _ => rfl) sc_is_number (fun ds d r => by cases r; rfl) fun cdv A outer s H hr => ⟨_, (pss_cons (ps_if (PW.pt (pw_or (pt_not (pt_val (pe_callB call_isi (by rfl) T.b_isinstance (by decide +kernel) (pa_cons (pv 0) (pa_cons (pe_bltn (v := .ty "tuple") (by rfl) T.b_tuple (by decide +kernel) rfl) pa_nil))))) (pw_or (pt_cmpR op_ne (pe_callB call_len_seq (by rfl) T.b_len (by decide +kernel) (pa_cons (pv 0) pa_nil)) (pe_gc rfl T.v_PAIR_cells) (nomark _)) (pw_or1 (pt_not (pt_val (pe_callB (cr_all rfl) (by rfl) T.b_all (by decide +kernel) (pa_cons (pe_lc (own := [("part", 1)]) (tt := tYes) rfl sc_is_number.nd (pi_tup (pv 0)) (blkOk_by (N := ["value", "part"]) (sc := defScope sis_number) (by decide +kernel)) (fun _ _ _ _ _ => (pg_name (i := 1) sc_is_number.nd rfl (Or.inl rfl) (Or.inr rfl))) (fun _ _ _ _ _ => pts_nil) (fun _ _ _ _ _ => (pe_c (cal_is_int T) hr (by decide) rfl (pa_cons (pv 1) (pa_cons pe_int pa_nil))))) pa_nil)))))))) (pss_one (ps_ret pe_bl)) pss_nil)
      (pss_one (ps_ret (pe_cmpR op_eq (pe_c (cal_common_divisor T) hr (by decide) rfl (pa_cons (pe_ix ix_tup (pv 0) pe_int (fun _ _ => rfl)) (pa_cons (pe_ix ix_tup (pv 0) pe_int (fun _ _ => rfl)) pa_nil))) pe_int (nomark _))))), fun ds d r => ?_⟩
  cases r
  rename_i x h
  have c1 : decide (1 ≤ x.1) = true := decide_eq_true (by have := h.1; omega)
  have c2 : decide (1 ≤ x.2) = true := decide_eq_true (by have := h.2.1; omega)
  refine xs_seq (xs_if (b := false) (XT.to (xt_or (xt_not (xt_B (xe_isi (b := true) (xe_var rfl) (by intro z; cases z) (by show kitB "tuple" "tuple" = some true; decide +kernel))))
    (fun h_ => xt_or (xt_test (xe_neI (xe_lenT (ds := [.int x.1, .int x.2]) (xe_var rfl)) xe_int))
      (fun h_ => xt_not (xt_B (xe_all (bs := [decide (1 ≤ x.1), decide (1 ≤ x.2)]) (xe_lc (xi_tup (ds := [.int x.1, .int x.2]) (xe_var rfl)) rfl (fun i d_ b_ h_ k_ => ?_) rfl (by show 2 ≤ 10000; decide))))))) ?_)
    (fun h_ => xs_ret xe_bl ?_)
    (fun h_ => xs_next (xs_ret (xe_eqI (xe_call (xa_cons (xe_ixT (xe_var rfl) xe_int (by decide) rfl) (xa_cons (xe_ixT (xe_var rfl) xe_int (by decide) rfl) xa_nil)) (R_common_divisor.mk ?_)) xe_int) ?_)))
  · refine ⟨_, _, ?_, xg_name, ?_⟩
    · simp
    · match i, h_, k_ with
      | 0, h_, k_ =>
        cases Option.some.inj h_
        cases Option.some.inj k_
        exact xe_call (xa_cons (xe_var rfl) (xa_cons xe_int xa_nil)) (R_is_int.mk trivial)
      | 1, h_, k_ =>
        cases Option.some.inj h_
        cases Option.some.inj k_
        exact xe_call (xa_cons (xe_var rfl) (xa_cons xe_int xa_nil)) (R_is_int.mk trivial)
      | i + 2, h_, k_ => simp at h_
  · rw [c1, c2]
    rfl
  · cases h_
  · exact ⟨by have := h.1; omega, by have := h.2.1; omega⟩
  · rw [h.2.2]
    rfl
theorem sc_check_number : FnScope ["value"] ["value"] (defScope scheck_number) := ⟨rfl, rfl, rfl, by decide +kernel, rfl, by decide +kernel, by decide +kernel⟩
theorem cal_check_number (T : Top w K mg) : Cal P w K mg base 3 "check_number" (spP K R_check_number) [] := by
  obtain ⟨fd, F⟩ := T.fcheck_number
  refine cal_pure F T.g_check_number (F.bindsN (ps := ["value"]) fun _ _ _ _ _ _ us hl => match us, hl with | [_], _ => rfl) sc_check_number (fun ds d r => by cases r; rfl) fun cdv A outer s H hr => ⟨_, (pss_one (ps_if (pt_not (pt_val (pe_c (cal_is_number T) hr (by decide) rfl (pa_cons (pv 0) pa_nil)))) (pss_one ps_never) pss_nil)), fun ds d r => ?_⟩
  cases r
  rename_i x h
  refine (xs_if (xt_not (xt_B (xe_call (xa_cons (xe_var rfl) xa_nil) (R_is_number.mk ?_)))) (fun h1 => ?_) (fun h2 => (xs_next ?_)))
  · exact h
  · cases h1
  · rfl
theorem sc_is_width : FnScope ["value"] ["value"] (defScope sis_width) := ⟨rfl, rfl, rfl, by decide +kernel, rfl, by decide +kernel, by decide +kernel⟩
theorem cal_is_width (T : Top w K mg) : Cal P w K mg base 2 "is_width" (spP K R_is_width) [] := by
  obtain ⟨fd, F⟩ := T.fis_width
  refine cal_pure F T.g_is_width (F.bindsN (ps := ["value"]) fun _ _ _ _ _ _ us hl => match us, hl with | [_], _ => rfl) sc_is_width (fun ds d r => by cases r; rfl) fun cdv A outer s H hr => ⟨_, (pss_one (ps_ret (pe_and (pe_c (cal_is_int T) hr (by decide) rfl (pa_cons (pv 0) (pa_cons pe_int pa_nil))) (pe_one (pe_cmpR op_le (pv 0) (pe_gc rfl T.v_MOST_WIDTH) (nomark _)))))), fun ds d r => ?_⟩
  cases r
  rename_i w h
  refine (xs_ret (xe_andV (xe_call (xa_cons (xe_var rfl) (xa_cons xe_int xa_nil)) (R_is_int.mk ?_)) (fun h1 => (xe_le (xe_var rfl) xe_int))) ?_)
  · trivial
  · rw [decide_eq_true h.1, decide_eq_true h.2]
    rfl
theorem sc_check_width : FnScope ["value"] ["value"] (defScope scheck_width) := ⟨rfl, rfl, rfl, by decide +kernel, rfl, by decide +kernel, by decide +kernel⟩
theorem cal_check_width (T : Top w K mg) : Cal P w K mg base 3 "check_width" (spP K R_check_width) [] := by
  obtain ⟨fd, F⟩ := T.fcheck_width
  refine cal_pure F T.g_check_width (F.bindsN (ps := ["value"]) fun _ _ _ _ _ _ us hl => match us, hl with | [_], _ => rfl) sc_check_width (fun ds d r => by cases r; rfl) fun cdv A outer s H hr => ⟨_, (pss_one (ps_if (pt_not (pt_val (pe_c (cal_is_width T) hr (by decide) rfl (pa_cons (pv 0) pa_nil)))) (pss_one ps_never) pss_nil)), fun ds d r => ?_⟩
  cases r
  rename_i w h
  refine (xs_if (xt_not (xt_B (xe_call (xa_cons (xe_var rfl) xa_nil) (R_is_width.mk ?_)))) (fun h1 => ?_) (fun h2 => (xs_next ?_)))
  · exact h
  · cases h1
  · rfl
theorem sc_scaled : FnScope ["number", "e", "n", "d"] ["number", "e"] (defScope sscaled) := ⟨rfl, rfl, rfl, by decide +kernel, rfl, by decide +kernel, by decide +kernel⟩
theorem cal_scaled (T : Top w K mg) : Cal P w K mg base 1 "scaled" (spP K R_scaled) [] := by
  obtain ⟨fd, F⟩ := T.fscaled
  refine cal_pure F T.g_scaled (F.bindsN (ps := ["number", "e"]) fun _ _ _ _ _ _ us hl => match us, hl with | [_, _], _ => rfl) sc_scaled (fun ds d r => by cases r; rfl) fun cdv A outer s H hr => ⟨_, (pss_cons (ps_asg (pv 0) (pg_tup (n := 2) rfl (pgs_cons (pg_name (i := 2) sc_scaled.nd rfl (Or.inl rfl)) (pgs_cons (pg_name (i := 3) sc_scaled.nd rfl (Or.inl rfl)) pgs_nil))))
      (pss_one (ps_ret (pe_tup (pa_cons (pe_op op_shlW (pv 2) (pe_callB (call_max2 rfl) (by rfl) T.b_max (by decide +kernel) (pa_cons (pv 1) (pa_cons pe_int pa_nil)))) (pa_cons (pe_op op_shlW (pv 3) (pe_callB (call_max2 rfl) (by rfl) T.b_max (by decide +kernel) (pa_cons (pe_op op_sub pe_int (pv 1)) (pa_cons pe_int pa_nil)))) pa_nil)))))), fun ds d r => ?_⟩
  cases r
  rename_i x e h
  refine (xs_seq (xs_asgG (xe_var rfl) (xg_tup (xgs_cons xg_name (xgs_cons xg_name xgs_nil)) rfl) (xs_ret (xe_tup (xa_cons (xe_shl (xe_var rfl) (xe_max2 (xe_var rfl) xe_int) ?_) (xa_cons (xe_shl (xe_var rfl) (xe_max2 (xe_sub xe_int (xe_var rfl)) xe_int) ?_) xa_nil)) (by show 2 ≤ 1000; decide)) ?_)))
  · exact h.1.shl (by omega) (b := 9000) (by omega) (by decide)
  · exact h.2.1.shl (by omega) (b := 9000) (by omega) (by decide)
  · rfl
end
end SR
end
section
set_option Elab.async false
set_option linter.all false
set_option maxRecDepth 100000
set_option maxHeartbeats 4000000
/-! Defs: cells, rules, one rounding. -/
namespace SR
open PySem PySem.Spec PyProof.Rows L2
open Evl (Ex)
open C8 (Cal Met Mak pe_c pe_mt pe_mt0 pe_mk pe_gc)
theorem xe_bitl {K : PySem.W.Frag} {ρ : Rho} {t : TE} {n : Int} (h : XE K t ρ (.int n)) : XE K (tBits t) ρ (.int (bl n)) := by
  rw [← bits_eq]
  exact xe_bits h
/-! ### sizes -/
theorem e0_le {b : Nat} {x : Num} {w : Int} (h : Nm b x) (hw : 1 ≤ w) : e0 x w ≤ b - 2 ∧ -(b : Int) - w + 1 ≤ e0 x w := by
  have h1 := h.n.bl
  have h2 := h.d.bl
  have h3 := bl_ge1 h.n0
  have h4 := bl_ge1 h.d0
  unfold e0
  omega
theorem ce_le {b : Nat} {x : Num} {w : Int} (h : Nm b x) (hw : 1 ≤ w) : (cellOf x w).2 ≤ b - 1 ∧ -(b : Int) - w + 1 ≤ (cellOf x w).2 := by
  have h1 := e0_le h hw
  unfold cellOf
  split
  · show e0 x w + 1 ≤ b - 1 ∧ _ ≤ e0 x w + 1
    omega
  · show e0 x w ≤ b - 1 ∧ _ ≤ e0 x w
    omega
theorem bd_pw {w k : Int} {b : Nat} (hk : 0 ≤ k) (h : k ≤ p2 w) (hw : w ≤ b) : Bd (b + 1) k := (Bd.p2 hw).le hk h
theorem cell_k {x : Num} {w : Int} (h1 : 0 < x.1) (h2 : 0 < x.2) (hw : 1 ≤ w) (hw2 : w ≤ 100) : 0 < (cellOf x w).1 ∧ Bd 101 (cellOf x w).1 ∧ Bd 101 ((cellOf x w).1 + 1) := by
  have c := cell_is h1 h2 hw
  have lo := c.lo
  have hi := c.hi
  have p := pw_pos (w - 1)
  exact ⟨by omega, bd_pw (w := w) (b := 100) (by omega) (by omega) (by omega), bd_pw (w := w) (b := 100) (by omega) (by omega) (by omega)⟩
theorem xe_ifC {K : PySem.W.Frag} {ρ : Rho} {ta tb : TE} {d1 d2 : PyData} {c : TT} {b : Bool} (hc : XT K c ρ b) (h1 : b = true → XE K ta ρ d1) (h2 : b = false → XE K tb ρ d2) : XE K (tIf c ta tb) ρ (if b = true then d1 else d2) :=
  xe_if hc (fun e => by rw [if_pos e]; exact h1 e) (fun e => by rw [if_neg (by rw [e]; decide)]; exact h2 e)
section
variable {P : Program} {w : World} {K : PySem.W.Frag} {mg : Str → Option Value} {base : Heap}
theorem sc_power_number : FnScope ["k", "e", "n", "d"] ["k", "e"] (defScope spower_number) := ⟨rfl, rfl, rfl, by decide +kernel, rfl, by decide +kernel, by decide +kernel⟩
theorem cal_power_number (T : Top w K mg) : Cal P w K mg base 3 "power_number" (spP K R_power_number) [] := by
  obtain ⟨fd, F⟩ := T.fpower_number
  refine cal_pure F T.g_power_number (F.bindsN (ps := ["k", "e"]) fun _ _ _ _ _ _ us hl => match us, hl with | [_, _], _ => rfl) sc_power_number (fun ds d r => by cases r; rfl) fun cdv A outer s H hr => ⟨_, (pss_cons (ps_asg (pe_c (cal_scaled T) hr (by decide) rfl (pa_cons (pe_tup (pa_cons (pv 0) (pa_cons pe_int pa_nil))) (pa_cons (pv 1) pa_nil))) (pg_tup (n := 2) rfl (pgs_cons (pg_name (i := 2) sc_power_number.nd rfl (Or.inl rfl)) (pgs_cons (pg_name (i := 3) sc_power_number.nd rfl (Or.inl rfl)) pgs_nil))))
      (pss_one (ps_ret (pe_c (cal_lowest T) hr (by decide) rfl (pa_cons (pv 2) (pa_cons (pv 3) pa_nil)))))), fun ds d r => ?_⟩
  cases r
  rename_i k e h
  refine (xs_seq (xs_asgG (xe_call (xa_cons (xe_tup (xa_cons (xe_var rfl) (xa_cons xe_int xa_nil)) (by show 2 ≤ 1000; decide)) (xa_cons (xe_var rfl) xa_nil)) (R_scaled.mk (x := (k, 1)) ?_)) (xg_tup (xgs_cons xg_name (xgs_cons xg_name xgs_nil)) rfl) (xs_ret (xe_call (xa_cons (xe_var rfl) (xa_cons (xe_var rfl) xa_nil)) (R_lowest.mk ?_)) ?_)))
  · exact ⟨h.1, Bd.one.mono (by decide), by omega, by omega⟩
  · refine ⟨Int.mul_nonneg h.1.nn (Int.le_of_lt (pw_pos _)), Int.mul_pos (show (0 : Int) < 1 by decide) (pw_pos _), (Bd.one.shlv (b := 8000) (by omega)).mono (by decide)⟩
  · rfl
theorem sc_cell_of : FnScope ["number", "width", "e", "n", "d"] ["number", "width"] (defScope scell_of) := ⟨rfl, rfl, rfl, by decide +kernel, rfl, by decide +kernel, by decide +kernel⟩
theorem cal_cell_of (T : Top w K mg) : Cal P w K mg base 2 "cell_of" (spP K R_cell_of) [] := by
  obtain ⟨fd, F⟩ := T.fcell_of
  refine cal_pure F T.g_cell_of (F.bindsN (ps := ["number", "width"]) fun _ _ _ _ _ _ us hl => match us, hl with | [_, _], _ => rfl) sc_cell_of (fun ds d r => by cases r; rfl) fun cdv A outer s H hr => ⟨_, (pss_cons (ps_set (i := 2) sc_cell_of.nd rfl (Or.inl rfl) (pe_op op_sub (pe_op op_sub (pe_bits (pe_ix ix_tup (pv 0) pe_int (fun _ _ => rfl))) (pe_bits (pe_ix ix_tup (pv 0) pe_int (fun _ _ => rfl)))) (pv 1)))
      (pss_cons (ps_asg (pe_c (cal_scaled T) hr (by decide) rfl (pa_cons (pv 0) (pa_cons (pe_op op_sub pe_int (pv 2)) pa_nil))) (pg_tup (n := 2) rfl (pgs_cons (pg_name (i := 3) sc_cell_of.nd rfl (Or.inl rfl)) (pgs_cons (pg_name (i := 4) sc_cell_of.nd rfl (Or.inl rfl)) pgs_nil))))
      (pss_cons (ps_if (pt_cmpR op_ge (pe_op op_fdivW (pv 3) (pv 4)) (pe_op op_shlW pe_int (pv 1)) (nomark _)) (pss_cons (ps_aug (i := 2) sc_cell_of.nd rfl (Or.inl rfl) pe_int ip_add)
      (pss_one (ps_asg (pe_c (cal_scaled T) hr (by decide) rfl (pa_cons (pv 0) (pa_cons (pe_op op_sub pe_int (pv 2)) pa_nil))) (pg_tup (n := 2) rfl (pgs_cons (pg_name (i := 3) sc_cell_of.nd rfl (Or.inl rfl)) (pgs_cons (pg_name (i := 4) sc_cell_of.nd rfl (Or.inl rfl)) pgs_nil)))))) pss_nil)
      (pss_one (ps_ret (pe_tup (pa_cons (pe_op op_fdivW (pv 3) (pv 4)) (pa_cons (pv 2) pa_nil)))))))), fun ds d r => ?_⟩
  cases r
  rename_i x w h
  obtain ⟨hx, hw, hw2⟩ := h
  have he := e0_le hx hw
  unfold e0 at he
  refine (xs_seq (xs_asg (xe_sub (xe_sub (xe_bitl (xe_ixT (xe_var rfl) xe_int (by decide) rfl)) (xe_bitl (xe_ixT (xe_var rfl) xe_int (by decide) rfl))) (xe_var rfl)) (xs_seq (xs_asgG (xe_call (xa_cons (xe_var rfl) (xa_cons (xe_sub xe_int (xe_var rfl)) xa_nil)) (R_scaled.mk ?_)) (xg_tup (xgs_cons xg_name (xgs_cons xg_name xgs_nil)) rfl) (xs_seq (xs_if (xt_test (xe_ge (xe_fdiv (xe_var rfl) (xe_var rfl) ?_) (xe_shl xe_int (xe_var rfl) ?_))) (fun h1 => (xs_seq (xs_aug rfl xe_int (xs_asgG (xe_call (xa_cons (xe_var rfl) (xa_cons (xe_sub xe_int (xe_var rfl)) xa_nil)) (R_scaled.mk ?_)) (xg_tup (xgs_cons xg_name (xgs_cons xg_name xgs_nil)) rfl) (xs_ret (xe_tup (xa_cons (xe_fdiv (xe_var rfl) (xe_var rfl) ?_) (xa_cons (xe_var rfl) xa_nil)) (by show 2 ≤ 1000; decide)) ?_))))) (fun h2 => (xs_next (xs_ret (xe_tup (xa_cons (xe_fdiv (xe_var rfl) (xe_var rfl) ?_) (xa_cons (xe_var rfl) xa_nil)) (by show 2 ≤ 1000; decide)) ?_)))))))))
  · exact ⟨hx.n.mono (by decide), hx.d.mono (by decide), by omega, by omega⟩
  · exact (hx.d.shlv (b := 3600) (by omega)).div (Int.mul_pos hx.d0 (pw_pos _)) (by decide)
  · exact Bd.one.shl (b := 100) (by omega) (by omega) (by decide)
  · exact ⟨hx.n.mono (by decide), hx.d.mono (by decide), by omega, by omega⟩
  · exact (hx.d.shlv (b := 3600) (by omega)).div (Int.mul_pos hx.d0 (pw_pos _)) (by decide)
  · have q : 1 * p2 w ≤ quo (sc x (0 - e0 x w)) := of_decide_eq_true h1
    show _ = cellD (cellOf x w)
    unfold cellOf
    rw [if_pos q]
    rfl
  · exact (hx.d.shlv (b := 3600) (by omega)).div (Int.mul_pos hx.d0 (pw_pos _)) (by decide)
  · have q : ¬ 1 * p2 w ≤ quo (sc x (0 - e0 x w)) := of_decide_eq_false h2
    show _ = cellD (cellOf x w)
    unfold cellOf
    rw [if_neg q]
    rfl
theorem sc_position_of : FnScope ["number", "width", "k", "e", "n", "d"] ["number", "width"] (defScope sposition_of) := ⟨rfl, rfl, rfl, by decide +kernel, rfl, by decide +kernel, by decide +kernel⟩
theorem cal_position_of (T : Top w K mg) : Cal P w K mg base 3 "position_of" (spP K R_position_of) [] := by
  obtain ⟨fd, F⟩ := T.fposition_of
  refine cal_pure F T.g_position_of (F.bindsN (ps := ["number", "width"]) fun _ _ _ _ _ _ us hl => match us, hl with | [_, _], _ => rfl) sc_position_of (fun ds d r => by cases r; rfl) fun cdv A outer s H hr => ⟨_, (pss_cons (ps_asg (pe_c (cal_cell_of T) hr (by decide) rfl (pa_cons (pv 0) (pa_cons (pv 1) pa_nil))) (pg_tup (n := 2) rfl (pgs_cons (pg_name (i := 2) sc_position_of.nd rfl (Or.inl rfl)) (pgs_cons (pg_name (i := 3) sc_position_of.nd rfl (Or.inl rfl)) pgs_nil))))
      (pss_cons (ps_asg (pe_c (cal_scaled T) hr (by decide) rfl (pa_cons (pv 0) (pa_cons (pe_op op_sub pe_int (pv 3)) pa_nil))) (pg_tup (n := 2) rfl (pgs_cons (pg_name (i := 4) sc_position_of.nd rfl (Or.inl rfl)) (pgs_cons (pg_name (i := 5) sc_position_of.nd rfl (Or.inl rfl)) pgs_nil))))
      (pss_one (ps_ret (pe_c (cal_lowest T) hr (by decide) rfl (pa_cons (pe_op op_sub (pv 4) (pe_op op_mulX (pv 2) (pv 5))) (pa_cons (pv 5) pa_nil))))))), fun ds d r => ?_⟩
  cases r
  rename_i x w h
  obtain ⟨hx, hw, hw2⟩ := h
  have he := ce_le hx hw
  have c := cell_is hx.n0 hx.d0 hw
  have ck := cell_k hx.n0 hx.d0 hw hw2
  have bN : Bd 7100 (Na x (cellOf x w).2) := by
    rw [Na_eq]
    exact (hx.n.shlv (b := 3600) (by omega)).mono (by decide)
  have bD : Bd 7100 (Nb x (cellOf x w).2) := by
    rw [Nb_eq]
    exact (hx.d.shlv (b := 3600) (by omega)).mono (by decide)
  refine (xs_seq (xs_asgG (xe_call (xa_cons (xe_var rfl) (xa_cons (xe_var rfl) xa_nil)) (R_cell_of.mk ?_)) (xg_tup (xgs_cons xg_name (xgs_cons xg_name xgs_nil)) rfl) (xs_seq (xs_asgG (xe_call (xa_cons (xe_var rfl) (xa_cons (xe_sub xe_int (xe_var rfl)) xa_nil)) (R_scaled.mk ?_)) (xg_tup (xgs_cons xg_name (xgs_cons xg_name xgs_nil)) rfl) (xs_ret (xe_call (xa_cons (xe_sub (xe_var rfl) (xe_mul (xe_var rfl) (xe_var rfl) ?_)) (xa_cons (xe_var rfl) xa_nil)) (R_lowest.mk ?_)) ?_)))))
  · exact ⟨hx, hw, hw2⟩
  · exact ⟨hx.n.mono (by decide), hx.d.mono (by decide), by omega, by omega⟩
  · exact ck.2.1.mulx bD (by decide)
  · refine ⟨?_, Nb_pos hx.d0 _, bD.mono (by decide)⟩
    have := c.le
    show 0 ≤ Na x (cellOf x w).2 - (cellOf x w).1 * Nb x (cellOf x w).2
    omega
  · rfl
theorem sc_is_rule : FnScope ["value"] ["value"] (defScope sis_rule) := ⟨rfl, rfl, rfl, by decide +kernel, rfl, by decide +kernel, by decide +kernel⟩
theorem cal_is_rule (T : Top w K mg) : Cal P w K mg base 1 "is_rule" (spP K R_is_rule) [] := by
  obtain ⟨fd, F⟩ := T.fis_rule
  refine cal_pure F T.g_is_rule (F.bindsN (ps := ["value"]) fun _ _ _ _ _ _ us hl => match us, hl with | [_], _ => rfl) sc_is_rule (fun ds d r => by cases r; rfl) fun cdv A outer s H hr => ⟨_, (pss_one (ps_ret (pe_and (pe_callB call_isi (by rfl) T.b_isinstance (by decide +kernel) (pa_cons (pv 0) (pa_cons (pe_bltn (v := .ty "str") (by rfl) T.b_str (by decide +kernel) rfl) pa_nil))) (pe_one (pe_cmpR op_in_seq (pv 0) (pe_gc (v := .ref (He.ga K "RULES")) rfl ⟨_, T.g_RULES, rfl⟩) (by rfl)))))), fun ds d r => ?_⟩
  cases r
  rename_i r h
  refine (xs_ret (xe_andV (xe_isi (b := true) (xe_var rfl) (by intro z; cases z) (by show kitB "str" "str" = some true; decide +kernel)) (fun h1 => (xe_inS (xs := rulesL) (xe_var rfl) (xe_c T.rules)))) ?_)
  have e : (true && rulesL.contains (rs r)) = true := by cases r <;> decide +kernel
  exact congrArg PyData.bool e
theorem sc_ends_of : FnScope ["number", "width", "k", "e"] ["number", "width"] (defScope sends_of) := ⟨rfl, rfl, rfl, by decide +kernel, rfl, by decide +kernel, by decide +kernel⟩
theorem cal_ends_of (T : Top w K mg) : Cal P w K mg base 4 "ends_of" (spP K R_ends_of) [] := by
  obtain ⟨fd, F⟩ := T.fends_of
  refine cal_pure F T.g_ends_of (F.bindsN (ps := ["number", "width"]) fun _ _ _ _ _ _ us hl => match us, hl with | [_, _], _ => rfl) sc_ends_of (fun ds d r => by cases r; rfl) fun cdv A outer s H hr => ⟨_, (pss_cons (ps_if (pt_cmpR op_eq (pe_ix ix_tup (pe_c (cal_position_of T) hr (by decide) rfl (pa_cons (pv 0) (pa_cons (pv 1) pa_nil))) pe_int (fun _ _ => rfl)) pe_int (nomark _)) (pss_one (ps_ret (pe_tup (pa_cons (pv 0) (pa_cons (pv 0) pa_nil))))) pss_nil)
      (pss_cons (ps_asg (pe_c (cal_cell_of T) hr (by decide) rfl (pa_cons (pv 0) (pa_cons (pv 1) pa_nil))) (pg_tup (n := 2) rfl (pgs_cons (pg_name (i := 2) sc_ends_of.nd rfl (Or.inl rfl)) (pgs_cons (pg_name (i := 3) sc_ends_of.nd rfl (Or.inl rfl)) pgs_nil))))
      (pss_one (ps_ret (pe_tup (pa_cons (pe_c (cal_power_number T) hr (by decide) rfl (pa_cons (pv 2) (pa_cons (pv 3) pa_nil))) (pa_cons (pe_c (cal_power_number T) hr (by decide) rfl (pa_cons (pe_op op_add (pv 2) pe_int) (pa_cons (pv 3) pa_nil))) pa_nil))))))), fun ds d r => ?_⟩
  cases r
  rename_i x w h
  have he := ce_le h.1 h.2.1
  have ck := cell_k h.1.n0 h.1.d0 h.2.1 h.2.2
  refine (xs_seq (xs_if (xt_test (xe_eqI (xe_ixT (xe_call (xa_cons (xe_var rfl) (xa_cons (xe_var rfl) xa_nil)) (R_position_of.mk ?_)) xe_int (by decide) rfl) xe_int)) (fun h1 => (xs_ret (xe_tup (xa_cons (xe_var rfl) (xa_cons (xe_var rfl) xa_nil)) (by show 2 ≤ 1000; decide)) ?_)) (fun h2 => (xs_next (xs_seq (xs_asgG (xe_call (xa_cons (xe_var rfl) (xa_cons (xe_var rfl) xa_nil)) (R_cell_of.mk ?_)) (xg_tup (xgs_cons xg_name (xgs_cons xg_name xgs_nil)) rfl) (xs_ret (xe_tup (xa_cons (xe_call (xa_cons (xe_var rfl) (xa_cons (xe_var rfl) xa_nil)) (R_power_number.mk ?_)) (xa_cons (xe_call (xa_cons (xe_add (xe_var rfl) xe_int) (xa_cons (xe_var rfl) xa_nil)) (R_power_number.mk ?_)) xa_nil)) (by show 2 ≤ 1000; decide)) ?_)))))))
  · exact h
  · have q : (posOf x w).1 = 0 := of_decide_eq_true h1
    unfold endsOf
    rw [if_pos q]
  · exact h
  · exact ⟨ck.2.1.mono (by decide), by omega, by omega⟩
  · exact ⟨ck.2.2.mono (by decide), by omega, by omega⟩
  · have q : ¬ (posOf x w).1 = 0 := of_decide_eq_false h2
    unfold endsOf
    rw [if_neg q]
theorem sc_goes_up : FnScope ["k", "place", "rule", "n", "d"] ["k", "place", "rule"] (defScope sgoes_up) := ⟨rfl, rfl, rfl, by decide +kernel, rfl, by decide +kernel, by decide +kernel⟩
theorem cal_goes_up (T : Top w K mg) : Cal P w K mg base 1 "goes_up" (spP K R_goes_up) [] := by
  obtain ⟨fd, F⟩ := T.fgoes_up
  refine cal_pure F T.g_goes_up (F.bindsN (ps := ["k", "place", "rule"]) fun _ _ _ _ _ _ us hl => match us, hl with | [_, _, _], _ => rfl) sc_goes_up (fun ds d r => by cases r; rfl) fun cdv A outer s H hr => ⟨_, (pss_cons (ps_asg (pv 1) (pg_tup (n := 2) rfl (pgs_cons (pg_name (i := 3) sc_goes_up.nd rfl (Or.inl rfl)) (pgs_cons (pg_name (i := 4) sc_goes_up.nd rfl (Or.inl rfl)) pgs_nil))))
      (pss_cons (ps_if (pt_cmpR op_in_seq (pv 2) (pe_tup (pa_cons (pe_gc rfl T.v_DOWN) (pa_cons (pe_gc rfl T.v_UP) pa_nil))) (by rfl)) (pss_one (ps_ret (pe_cmpR op_eq (pv 2) (pe_gc rfl T.v_UP) (nomark _)))) pss_nil)
      (pss_cons (ps_if (pt_cmpR op_eq (pv 2) (pe_gc rfl T.v_ODD) (nomark _)) (pss_one (ps_ret (pe_cmpR op_eq (pe_op op_mod (pv 0) pe_int) pe_int (nomark _)))) pss_nil)
      (pss_cons (ps_if (pt_cmpR op_ne (pe_op op_mulX pe_int (pv 3)) (pv 4) (nomark _)) (pss_one (ps_ret (pe_cmpR op_gt (pe_op op_mulX pe_int (pv 3)) (pv 4) (nomark _)))) pss_nil)
      (pss_one (ps_ret (pe_or (pe_cmpR op_eq (pv 2) (pe_gc rfl T.v_HALF_UP) (nomark _)) (pe_one (pe_and (pe_cmpR op_eq (pv 2) (pe_gc rfl T.v_HALF_EVEN) (nomark _)) (pe_one (pe_cmpR op_eq (pe_op op_mod (pv 0) pe_int) pe_int (nomark _)))))))))))), fun ds d r => ?_⟩
  cases r
  rename_i k p r h
  have b2 : CMulX 2 p.1 := Bd.two.mulx h (by decide)
  cases r
  all_goals refine (xs_seq (xs_asgG (xe_var rfl) (xg_tup (xgs_cons xg_name (xgs_cons xg_name xgs_nil)) rfl) (xs_seq (xs_if (xt_test (xe_inS (xs := ["down", "up"]) (xe_var rfl) (xe_tup (xa_cons xe_str (xa_cons xe_str xa_nil)) (by show 2 ≤ 1000; decide)))) (fun h1 => (xs_ret (xe_eqS (xe_var rfl) xe_str) ?_)) (fun h2 => (xs_next (xs_seq (xs_if (xt_test (xe_eqS (xe_var rfl) xe_str)) (fun h3 => (xs_ret (xe_eqI (xe_mod (xe_var rfl) xe_int ?_) xe_int) ?_)) (fun h4 => (xs_next (xs_seq (xs_if (xt_test (xe_neI (xe_mul xe_int (xe_var rfl) ?_) (xe_var rfl))) (fun h5 => (xs_ret (xe_gt (xe_mul xe_int (xe_var rfl) ?_) (xe_var rfl)) ?_)) (fun h6 => (xs_next (xs_ret (xe_orV (xe_eqS (xe_var rfl) xe_str) (fun h7 => (xe_andV (xe_eqS (xe_var rfl) xe_str) (fun h8 => (xe_eqI (xe_mod (xe_var rfl) xe_int ?_) xe_int))))) ?_)))))))))))))))
  all_goals first
    | exact b2
    | (exact (by decide : (0 : Int) < 2))
    | (exfalso; revert h1; decide +kernel)
    | (exfalso; revert h2; decide +kernel)
    | (exfalso; revert h3; decide +kernel)
    | (exfalso; revert h4; decide +kernel)
    | skip
  case mk.down.refine_1 => exact congrArg PyData.bool (by decide +kernel : decide (rs .down = ("up" : Str)) = false)
  case mk.up.refine_1 => exact congrArg PyData.bool (by decide +kernel : decide (rs .up = ("up" : Str)) = true)
  case mk.odd.refine_3 => rfl
  case mk.halfDown.refine_6 => rfl
  case mk.halfDown.refine_8 =>
    refine congrArg PyData.bool ?_
    have e : 2 * p.1 = p.2 := by simpa using h6
    have e2 : goesUp k p .halfDown = false := decide_eq_false (by omega)
    rw [e2, (by decide +kernel : decide (rs .halfDown = ("half_up" : Str)) = false), (by decide +kernel : decide (rs .halfDown = ("half_even" : Str)) = false)]
    rfl
  case mk.halfEven.refine_6 =>
    refine congrArg PyData.bool ?_
    have e : ¬ 2 * p.1 = p.2 := by simpa using h5
    show _ = if 2 * p.1 = p.2 then decide (k % 2 = 1) else decide (p.2 < 2 * p.1)
    rw [if_neg e]
  case mk.halfEven.refine_8 =>
    refine congrArg PyData.bool ?_
    have e : 2 * p.1 = p.2 := by simpa using h6
    show _ = if 2 * p.1 = p.2 then decide (k % 2 = 1) else decide (p.2 < 2 * p.1)
    rw [if_pos e, (by decide +kernel : decide (rs .halfEven = ("half_up" : Str)) = false), (by decide +kernel : decide (rs .halfEven = ("half_even" : Str)) = true)]
    simp
  case mk.halfUp.refine_6 =>
    refine congrArg PyData.bool ?_
    have e : ¬ 2 * p.1 = p.2 := by simpa using h5
    unfold goesUp
    rw [if_neg e]
  case mk.halfUp.refine_8 =>
    refine congrArg PyData.bool ?_
    have e : 2 * p.1 = p.2 := by simpa using h6
    unfold goesUp
    rw [if_pos e, (by decide +kernel : decide (rs .halfUp = ("half_up" : Str)) = true)]
    simp
/-! ### one rounding -/
theorem bd_pos (x : Num) (w : Int) (h : Nm 3500 x) (hw : 1 ≤ w) (hw2 : w ≤ 100) : Bd 9000 (posOf x w).1 := by
  have he := ce_le h hw
  have c := cell_is h.n0 h.d0 hw
  have bN : Bd 7100 (Na x (cellOf x w).2) := by
    rw [Na_eq]
    exact (h.n.shlv (b := 3600) (by omega)).mono (by decide)
  have q := c.le
  have p := Nb_pos h.d0 (cellOf x w).2
  have k0 : 0 ≤ (cellOf x w).1 * Nb x (cellOf x w).2 := Int.mul_nonneg (Int.le_trans (Int.le_of_lt (pw_pos _)) c.lo) (Int.le_of_lt p)
  have : Bd 7100 (Na x (cellOf x w).2 - (cellOf x w).1 * Nb x (cellOf x w).2) := bN.sub k0 q
  exact (this.ediv (gcdI_pos p)).mono (by decide)
theorem sc_round_once : FnScope ["number", "width", "rule", "lower", "upper", "k"] ["number", "width", "rule"] (defScope sround_once) := ⟨rfl, rfl, rfl, by decide +kernel, rfl, by decide +kernel, by decide +kernel⟩
theorem cal_round_once (T : Top w K mg) : Cal P w K mg base 5 "round_once" (spP K R_round_once) [] := by
  obtain ⟨fd, F⟩ := T.fround_once
  refine cal_pure F T.g_round_once (F.bindsN (ps := ["number", "width", "rule"]) fun _ _ _ _ _ _ us hl => match us, hl with | [_, _, _], _ => rfl) sc_round_once (fun ds d r => by cases r; rfl) fun cdv A outer s H hr => ⟨_, (pss_cons (ps_asg (pe_c (cal_ends_of T) hr (by decide) rfl (pa_cons (pv 0) (pa_cons (pv 1) pa_nil))) (pg_tup (n := 2) rfl (pgs_cons (pg_name (i := 3) sc_round_once.nd rfl (Or.inl rfl)) (pgs_cons (pg_name (i := 4) sc_round_once.nd rfl (Or.inl rfl)) pgs_nil))))
      (pss_cons (ps_set (i := 5) sc_round_once.nd rfl (Or.inl rfl) (pe_ix ix_tup (pe_c (cal_cell_of T) hr (by decide) rfl (pa_cons (pv 0) (pa_cons (pv 1) pa_nil))) pe_int (fun _ _ => rfl)))
      (pss_one (ps_ret (pe_ifExp (pt_val (pe_c (cal_goes_up T) hr (by decide) rfl (pa_cons (pv 5) (pa_cons (pe_c (cal_position_of T) hr (by decide) rfl (pa_cons (pv 0) (pa_cons (pv 1) pa_nil))) (pa_cons (pv 2) pa_nil))))) (pv 4) (pv 3)))))), fun ds d r => ?_⟩
  cases r
  rename_i x w r h
  refine (xs_seq (xs_asgG (xe_call (xa_cons (xe_var rfl) (xa_cons (xe_var rfl) xa_nil)) (R_ends_of.mk ?_)) (xg_tup (xgs_cons xg_name (xgs_cons xg_name xgs_nil)) rfl) (xs_seq (xs_asg (xe_ixT (xe_call (xa_cons (xe_var rfl) (xa_cons (xe_var rfl) xa_nil)) (R_cell_of.mk ?_)) xe_int (by decide) rfl) (xs_ret (xe_ifC (xt_B (xe_call (xa_cons (xe_var rfl) (xa_cons (xe_call (xa_cons (xe_var rfl) (xa_cons (xe_var rfl) xa_nil)) (R_position_of.mk ?_)) (xa_cons (xe_var rfl) xa_nil))) (R_goes_up.mk ?_))) (fun h1 => (xe_var rfl)) (fun h2 => (xe_var rfl))) ?_)))))
  · exact h
  · exact h
  · exact h
  · exact bd_pos x w h.1 h.2.1 h.2.2
  · show (if goesUp (cellOf x w).1 (posOf x w) r = true then numD (endsOf x w).2 else numD (endsOf x w).1) = numD (roundOnce x w r)
    unfold roundOnce
    split <;> rfl
theorem sc_rounded : FnScope ["number", "width", "rule"] ["number", "width", "rule"] (defScope srounded) := ⟨rfl, rfl, rfl, by decide +kernel, rfl, by decide +kernel, by decide +kernel⟩
theorem cal_rounded (T : Top w K mg) : Cal P w K mg base 6 "rounded" (spP K R_rounded) [] := by
  obtain ⟨fd, F⟩ := T.frounded
  refine cal_pure F T.g_rounded (F.bindsN (ps := ["number", "width", "rule"]) fun _ _ _ _ _ _ us hl => match us, hl with | [_, _, _], _ => rfl) sc_rounded (fun ds d r => by cases r; rfl) fun cdv A outer s H hr => ⟨_, (pss_cons (ps_expr (pe_c (cal_check_number T) hr (by decide) rfl (pa_cons (pv 0) pa_nil)))
      (pss_cons (ps_expr (pe_c (cal_check_width T) hr (by decide) rfl (pa_cons (pv 1) pa_nil)))
      (pss_cons (ps_if (pt_not (pt_val (pe_c (cal_is_rule T) hr (by decide) rfl (pa_cons (pv 2) pa_nil)))) (pss_one ps_never) pss_nil)
      (pss_one (ps_ret (pe_c (cal_round_once T) hr (by decide) rfl (pa_cons (pv 0) (pa_cons (pv 1) (pa_cons (pv 2) pa_nil))))))))), fun ds d r => ?_⟩
  cases r
  rename_i x w r h
  refine (xs_seq (xs_drop (xe_call (xa_cons (xe_var rfl) xa_nil) (R_check_number.mk ?_)) (xs_seq (xs_drop (xe_call (xa_cons (xe_var rfl) xa_nil) (R_check_width.mk ?_)) (xs_seq (xs_if (xt_not (xt_B (xe_call (xa_cons (xe_var rfl) xa_nil) (R_is_rule.mk ?_)))) (fun h1 => ?_) (fun h2 => (xs_next (xs_ret (xe_call (xa_cons (xe_var rfl) (xa_cons (xe_var rfl) (xa_cons (xe_var rfl) xa_nil))) (R_round_once.mk ?_)) ?_)))))))))
  · exact h.2.1
  · exact h.2.2
  · trivial
  · cases h1
  · exact ⟨h.1, h.2.2⟩
  · rfl
end
end SR
end
section
set_option Elab.async false
set_option linter.all false
set_option maxRecDepth 100000
set_option maxHeartbeats 4000000
/-! Defs: chains. -/
namespace SR
open PySem PySem.Spec PyProof.Rows L2
open Evl (Ex)
open C8 (Cal Met Mak pe_c pe_mt pe_mt0 pe_mk pe_gc)
/-- a chain -/
structure ChOk (c : Chain) : Prop where
  pos : 1 ≤ c.length
  le : c.length ≤ 12
  ok : ∀ s ∈ c, 1 ≤ s.1 ∧ s.1 ≤ 100
inductive R_is_step : List PyData → PyData → Prop
  | mk {s : Int × Rule} (h : 1 ≤ s.1 ∧ s.1 ≤ 100) : R_is_step [stepD s] (.bool true)
inductive R_is_chain : List PyData → PyData → Prop
  | mk {c : Chain} (h : ChOk c) : R_is_chain [chD c] (.bool true)
inductive R_check_chain : List PyData → PyData → Prop
  | mk {c : Chain} (h : ChOk c) : R_check_chain [chD c] .none
inductive R_last_width : List PyData → PyData → Prop
  | mk {c : Chain} (h : ChOk c) : R_last_width [chD c] (.int (minW c))
inductive R_stages : List PyData → PyData → Prop
  | mk {x : Num} {c : Chain} (h : ChOk c ∧ Nm1 x ∧ Nm 2200 x) : R_stages [numD x, chD c] (.tuple ((stagesL x c).map numD))
inductive R_applied : List PyData → PyData → Prop
  | mk {x : Num} {c : Chain} (h : ChOk c ∧ Nm1 x ∧ Nm 2200 x) : R_applied [numD x, chD c] (numD (appliedC x c))
inductive R_trimmed : List PyData → PyData → Prop
  | mk {c : Chain} (h : ChOk c) : R_trimmed [chD c] (chD (trimC c))
theorem fz_num (x : Num) : Fz (numD x) = true := rfl
theorem fz_step (s : Int × Rule) : Fz (stepD s) = true := rfl
theorem fz_chL (c : Chain) : FzAll (c.map stepD) = true := fz_all fun d h => by
  obtain ⟨s, _, rfl⟩ := List.mem_map.mp h
  rfl
theorem fz_ch (c : Chain) : Fz (chD c) = true := fz_chL c
theorem minW_mem : ∀ {c : Chain}, c ≠ [] → minW c ∈ c.map (·.1)
  | [], h => absurd rfl h
  | [s], _ => by simp [minW]
  | s :: t :: c, _ => by
    have ih := minW_mem (c := t :: c) (by simp)
    show min s.1 (minW (t :: c)) ∈ _
    rw [Int.min_def]
    split
    · simp
    · exact List.mem_cons_of_mem _ ih
theorem minW_le : ∀ {c : Chain} {y : Int}, y ∈ c.map (·.1) → minW c ≤ y
  | [], y, h => by simp at h
  | [s], y, h => by simp at h; simp [minW, h]
  | s :: t :: c, y, h => by
    show min s.1 (minW (t :: c)) ≤ y
    rcases List.mem_cons.mp h with e | h
    · rw [e]; exact Int.min_le_left ..
    · exact Int.le_trans (Int.min_le_right ..) (minW_le (c := t :: c) h)
theorem minW_ok {c : Chain} (h : ChOk c) : 1 ≤ minW c ∧ minW c ≤ 100 := by
  have m := minW_mem (c := c) (by intro e; have := h.pos; rw [e] at this; simp at this)
  obtain ⟨s, hs, e⟩ := List.mem_map.mp m
  rw [← e]
  exact h.ok s hs
section
variable {P : Program} {w : World} {K : PySem.W.Frag} {mg : Str → Option Value} {base : Heap}
theorem sc_is_step : FnScope ["value"] ["value"] (defScope sis_step) := ⟨rfl, rfl, rfl, by decide +kernel, rfl, by decide +kernel, by decide +kernel⟩
theorem cal_is_step (T : Top w K mg) : Cal P w K mg base 3 "is_step" (spP K R_is_step) [] := by
  obtain ⟨fd, F⟩ := T.fis_step
  refine cal_pure F T.g_is_step (F.bindsN (ps := ["value"]) fun _ _ _ _ _ _ us hl => match us, hl with | [_], _ => rfl) sc_is_step (fun ds d r => by cases r; rfl) fun cdv A outer s H hr => ⟨_, (pss_one (ps_ret (pe_and (pe_callB call_isi (by rfl) T.b_isinstance (by decide +kernel) (pa_cons (pv 0) (pa_cons (pe_bltn (v := .ty "tuple") (by rfl) T.b_tuple (by decide +kernel) rfl) pa_nil))) (pe_and (pe_cmpR op_eq (pe_callB call_len_seq (by rfl) T.b_len (by decide +kernel) (pa_cons (pv 0) pa_nil)) (pe_gc rfl T.v_PAIR_chains) (nomark _)) (pe_and (pe_c (cal_is_width T) hr (by decide) rfl (pa_cons (pe_ix ix_tup (pv 0) pe_int (fun _ _ => rfl)) pa_nil)) (pe_one (pe_c (cal_is_rule T) hr (by decide) rfl (pa_cons (pe_ix ix_tup (pv 0) pe_int (fun _ _ => rfl)) pa_nil)))))))), fun ds d r => ?_⟩
  cases r
  rename_i s h
  refine (xs_ret (xe_andV (xe_isi (b := true) (xe_var rfl) (by intro z; cases z) (by show kitB "tuple" "tuple" = some true; decide +kernel)) (fun h1 => (xe_andV (xe_eqI (xe_lenT (xe_var rfl)) xe_int) (fun h2 => (xe_andV (xe_call (xa_cons (xe_ixT (xe_var rfl) xe_int (by decide) rfl) xa_nil) (R_is_width.mk ?_)) (fun h3 => (xe_call (xa_cons (xe_ixT (xe_var rfl) xe_int (by decide) rfl) xa_nil) (R_is_rule.mk ?_)))))))) ?_)
  · exact h
  · trivial
  · rfl
theorem sc_is_chain : FnScope ["value", "step"] ["value"] (defScope sis_chain) := ⟨rfl, rfl, rfl, by decide +kernel, rfl, by decide +kernel, by decide +kernel⟩
theorem cal_is_chain (T : Top w K mg) : Cal P w K mg base 4 "is_chain" (spP K R_is_chain) [] := by
  obtain ⟨fd, F⟩ := T.fis_chain
  refine cal_pure F T.g_is_chain (F.bindsN (ps := ["value"]) fun _ _ _ _ _ _ us hl => match us, hl with | [_], _ => rfl) sc_is_chain (fun ds d r => by cases r; rfl) fun cdv A outer s H hr => ⟨_, (pss_one (ps_ret (pe_and (pe_callB call_isi (by rfl) T.b_isinstance (by decide +kernel) (pa_cons (pv 0) (pa_cons (pe_bltn (v := .ty "tuple") (by rfl) T.b_tuple (by decide +kernel) rfl) pa_nil))) (pe_and (pe_chain op_le op_le pe_int (pe_callB call_len_seq (by rfl) T.b_len (by decide +kernel) (pa_cons (pv 0) pa_nil)) (pe_gc rfl T.v_MOST_STEPS)) (pe_one (pe_callB (cr_all rfl) (by rfl) T.b_all (by decide +kernel) (pa_cons (pe_lc (own := [("step", 1)]) (tt := tYes) rfl sc_is_chain.nd (pi_tup (pv 0)) (blkOk_by (N := ["value", "step"]) (sc := defScope sis_chain) (by decide +kernel)) (fun _ _ _ _ _ => (pg_name (i := 1) sc_is_chain.nd rfl (Or.inl rfl) (Or.inr rfl))) (fun _ _ _ _ _ => pts_nil) (fun _ _ _ _ _ => (pe_c (cal_is_step T) hr (by decide) rfl (pa_cons (pv 1) pa_nil)))) pa_nil))))))), fun ds d r => ?_⟩
  cases r
  rename_i c h
  refine (xs_ret (xe_andV (xe_isi (b := true) (xe_var rfl) (by intro z; cases z) (by show kitB "tuple" "tuple" = some true; decide +kernel)) (fun h1 => (xe_andV (xe_chain (b1 := true) (b2 := true) xe_int (xe_lenT (xe_var rfl)) xe_int ?_ ?_) (fun h2 => (xe_all (bs := List.replicate c.length true) (xe_lc (es := (List.replicate c.length true).map .bool) (xi_tup (ds := c.map stepD) (xe_var rfl)) (by simp) (fun i d_ b_ h_ k_ => ?_) ?_ ?_)))))) ?_)
  · rintro x y H Q hx hy q
    rw [dp_int hx, dp_int hy]
    refine ⟨1, _, rfl, rfl, ?_⟩
    have e : decide ((1 : Int) ≤ (((c.map stepD).length : Nat) : Int)) = true := decide_eq_true (by rw [List.length_map]; have := h.pos; omega)
    show Q (.bl (decide ((1 : Int) ≤ (((c.map stepD).length : Nat) : Int)))) H
    rw [e]
    exact q
  · rintro x y H Q hx hy q
    rw [dp_int hx, dp_int hy]
    refine ⟨_, _, rfl, rfl, ?_⟩
    have e : decide ((((c.map stepD).length : Nat) : Int) ≤ 12) = true := decide_eq_true (by rw [List.length_map]; have := h.le; omega)
    show Q (.bl (decide ((((c.map stepD).length : Nat) : Int) ≤ 12))) H
    rw [e]
    exact q
  · rw [List.getElem?_map] at h_
    cases e : c[i]? with
    | none => rw [e] at h_; cases h_
    | some s =>
      rw [e] at h_
      cases Option.some.inj h_
      have eb : b_ = .bool true := by
        rw [List.getElem?_map, List.getElem?_replicate] at k_
        split at k_
        · exact (Option.some.inj k_).symm
        · cases k_
      rw [eb]
      refine ⟨_, _, ?_, xg_name, xe_call (xa_cons (xe_var rfl) xa_nil) (R_is_step.mk (h.ok s (List.mem_of_getElem? e)))⟩
      simp
  · exact fz_all fun d hd => by
      obtain ⟨b, _, rfl⟩ := List.mem_map.mp hd
      rfl
  · rw [List.length_map]
    have := h.le
    omega
  · have e : (List.replicate c.length true).all _root_.id = true := by
      rw [List.all_eq_true]
      intro x hx
      exact (List.mem_replicate.mp hx).2
    show PyData.bool (true && ((true && true) && (List.replicate c.length true).all _root_.id)) = .bool true
    rw [e]
    rfl
theorem sc_check_chain : FnScope ["value"] ["value"] (defScope scheck_chain) := ⟨rfl, rfl, rfl, by decide +kernel, rfl, by decide +kernel, by decide +kernel⟩
theorem cal_check_chain (T : Top w K mg) : Cal P w K mg base 5 "check_chain" (spP K R_check_chain) [] := by
  obtain ⟨fd, F⟩ := T.fcheck_chain
  refine cal_pure F T.g_check_chain (F.bindsN (ps := ["value"]) fun _ _ _ _ _ _ us hl => match us, hl with | [_], _ => rfl) sc_check_chain (fun ds d r => by cases r; rfl) fun cdv A outer s H hr => ⟨_, (pss_one (ps_if (pt_not (pt_val (pe_c (cal_is_chain T) hr (by decide) rfl (pa_cons (pv 0) pa_nil)))) (pss_one ps_never) pss_nil)), fun ds d r => ?_⟩
  cases r
  rename_i c h
  refine (xs_if (xt_not (xt_B (xe_call (xa_cons (xe_var rfl) xa_nil) (R_is_chain.mk ?_)))) (fun h1 => ?_) (fun h2 => (xs_next ?_)))
  · exact h
  · cases h1
  · rfl
theorem sc_last_width : FnScope ["chain", "width", "rule"] ["chain"] (defScope slast_width) := ⟨rfl, rfl, rfl, by decide +kernel, rfl, by decide +kernel, by decide +kernel⟩
theorem cal_last_width (T : Top w K mg) : Cal P w K mg base 6 "last_width" (spP K R_last_width) [] := by
  obtain ⟨fd, F⟩ := T.flast_width
  refine cal_pure F T.g_last_width (F.bindsN (ps := ["chain"]) fun _ _ _ _ _ _ us hl => match us, hl with | [_], _ => rfl) sc_last_width (fun ds d r => by cases r; rfl) fun cdv A outer s H hr => ⟨_, (pss_cons (ps_expr (pe_c (cal_check_chain T) hr (by decide) rfl (pa_cons (pv 0) pa_nil)))
      (pss_one (ps_ret (pe_callB (cr_min rfl) (by rfl) T.b_min (by decide +kernel) (pa_cons (pe_lc (own := [("width", 1), ("rule", 2)]) (g := gTup K 2 (gCons (gName 1) (gCons (gName 2) gNil))) (tt := tYes) rfl sc_last_width.nd (pi_tup (pv 0)) (blkOk_by (N := ["chain", "width", "rule"]) (sc := defScope slast_width) (by decide +kernel)) (fun _ _ _ _ _ => (pg_tup (n := 2) rfl (pgs_cons (pg_name (i := 1) sc_last_width.nd rfl (Or.inl rfl) (Or.inr rfl)) (pgs_cons (pg_name (i := 2) sc_last_width.nd rfl (Or.inl rfl) (Or.inr rfl)) pgs_nil)))) (fun _ _ _ _ _ => pts_nil) (fun _ _ _ _ _ => (pv 1))) pa_nil))))), fun ds d r => ?_⟩
  cases r
  rename_i c h
  refine (xs_seq (xs_drop (xe_call (xa_cons (xe_var rfl) xa_nil) (R_check_chain.mk h)) (xs_ret (xe_min (ns := c.map (·.1)) (xe_lc (es := (c.map (·.1)).map .int) (xi_tup (ds := c.map stepD) (xe_var rfl)) (by simp) (fun i d_ b_ h_ k_ => ?_) ?_ ?_) (minW_mem ?_) fun y => minW_le) rfl)))
  · rw [List.getElem?_map] at h_
    cases e : c[i]? with
    | none => rw [e] at h_; cases h_
    | some s =>
      rw [e] at h_
      cases Option.some.inj h_
      rw [List.getElem?_map, List.getElem?_map, e] at k_
      cases Option.some.inj k_
      refine ⟨_, _, ?_, xg_tup (xgs_cons xg_name (xgs_cons xg_name xgs_nil)) rfl, xe_var rfl⟩
      simp
  · exact fz_all fun d hd => by
      obtain ⟨b, _, rfl⟩ := List.mem_map.mp hd
      rfl
  · rw [List.length_map]
    have := h.le
    omega
  · intro e
    have := h.pos
    rw [e] at this
    simp at this
end
end SR
end
section
set_option Elab.async false
set_option linter.all false
set_option maxRecDepth 100000
set_option maxHeartbeats 4000000
/-! Defs: chains applied, trimmed. -/
namespace SR
open PySem PySem.Spec PyProof.Rows L2
open Evl (Ex)
open C8 (Cal Met Mak pe_c pe_mt pe_mt0 pe_mk pe_gc)
theorem e0_le2 {b : Nat} {x : Num} {w : Int} (h : Nm b x) (hw : 1 ≤ w) : e0 x w ≤ b - 1 - w := by
  have h1 := h.n.bl
  have h4 := bl_ge1 h.d0
  unfold e0
  omega
theorem ce_le2 {b : Nat} {x : Num} {w : Int} (h : Nm b x) (hw : 1 ≤ w) : (cellOf x w).2 ≤ b - w := by
  have h1 := e0_le2 h hw
  unfold cellOf
  split
  · show e0 x w + 1 ≤ b - w
    omega
  · show e0 x w ≤ b - w
    omega
theorem powN_nm {b : Nat} {k e w : Int} (hk : 0 < k) (hk2 : k ≤ p2 w) (hw : 1 ≤ w) (hw2 : w ≤ 100) (he : e ≤ b - w) (he2 : -(b : Int) - w + 1 ≤ e) : Nm (b + 101) (powN k e) := by
  refine low_nm (Int.mul_pos hk (pw_pos _)) (Int.mul_pos (show (0 : Int) < 1 by decide) (pw_pos _)) ?_ ?_
  · have h0 : 0 ≤ k * p2 (max e 0) := Int.mul_nonneg (Int.le_of_lt hk) (Int.le_of_lt (pw_pos _))
    have h1 : k * p2 (max e 0) ≤ p2 w * p2 (max e 0) := Int.mul_le_mul_of_nonneg_right hk2 (Int.le_of_lt (pw_pos _))
    rw [← pw_add (by omega) (by omega)] at h1
    exact ((Bd.p2 (e := w + max e 0) (b := b + 100) (by omega)).le h0 h1).mono (by omega)
  · show Bd (b + 101) (1 * p2 (max (0 - e) 0))
    rw [Int.one_mul]
    exact Bd.p2 (b := b + 100) (by omega)
theorem round_nm {b : Nat} {x : Num} {w : Int} {r : Rule} (h : Nm b x) (hw : 1 ≤ w) (hw2 : w ≤ 100) : Nm (b + 101) (roundOnce x w r) := by
  have c := cell_is h.n0 h.d0 hw
  have h1 := ce_le2 h hw
  have h2 := (ce_le h hw).2
  have hi := c.hi
  have lo := c.lo
  have p := pw_pos (w - 1)
  have key : Nm (b + 101) (endsOf x w).1 ∧ Nm (b + 101) (endsOf x w).2 := by
    unfold endsOf
    split
    · exact ⟨h.mono (by omega), h.mono (by omega)⟩
    · exact ⟨powN_nm (w := w) (by omega) (by omega) hw hw2 h1 h2, powN_nm (w := w) (by omega) (by omega) hw hw2 h1 h2⟩
  unfold roundOnce
  split
  · exact key.2
  · exact key.1
theorem applied_nm {b : Nat} : ∀ {c : Chain} {x : Num}, Nm b x → (∀ s ∈ c, 1 ≤ s.1 ∧ s.1 ≤ 100) → Nm (b + 101 * c.length) (appliedC x c)
  | [], x, h, _ => h
  | s :: c, x, h, k => by
    have h1 := k s (List.mem_cons_self ..)
    have h2 := applied_nm (b := b + 101) (c := c) (x := roundOnce x s.1 s.2) (round_nm h h1.1 h1.2) fun t ht => k t (List.mem_cons_of_mem _ ht)
    show Nm _ (appliedC (roundOnce x s.1 s.2) c)
    refine h2.mono ?_
    rw [List.length_cons]
    omega
theorem stages_eq : ∀ (c : Chain) (x : Num), stagesL x c = (List.range c.length).map fun j => appliedC x (c.take (j + 1))
  | [], x => rfl
  | s :: c, x => by
    show roundOnce x s.1 s.2 :: stagesL (roundOnce x s.1 s.2) c = _
    rw [stages_eq c, List.length_cons, List.range_succ_eq_map, List.map_cons, List.map_map]
    rfl
theorem take_snoc {α : Type} {c : List α} {i : Nat} {s : α} (h : c[i]? = some s) : c.take (i + 1) = c.take i ++ [s] := by
  rw [List.take_add_one, h]
  rfl
theorem applied_snoc (x : Num) (c : Chain) (s : Int × Rule) : appliedC x (c ++ [s]) = roundOnce (appliedC x c) s.1 s.2 := by
  unfold appliedC
  rw [List.foldl_append]
  rfl
/-- trimmed, step by step -/
def trimStep (p : Chain × Option Int) (s : Int × Rule) : Chain × Option Int := match p.2 with
  | none => (p.1 ++ [s], some s.1)
  | some l => if s.1 < l then (p.1 ++ [s], some s.1) else p
theorem trim_some : ∀ (c acc : Chain) (l : Int), (c.foldl trimStep (acc, some l)).1 = acc ++ trimFrom l c
  | [], acc, l => by simp [trimFrom]
  | s :: c, acc, l => by
    show (c.foldl trimStep (if s.1 < l then (acc ++ [s], some s.1) else (acc, some l))).1 = acc ++ (if s.1 < l then s :: trimFrom s.1 c else trimFrom l c)
    split
    · rw [trim_some c, List.append_assoc]
      rfl
    · rw [trim_some c]
theorem trim_fold : ∀ c : Chain, (c.foldl trimStep ([], none)).1 = trimC c
  | [] => rfl
  | s :: c => by
    show (c.foldl trimStep ([s], some s.1)).1 = _
    rw [trim_some c]
    rfl
section
variable {P : Program} {w : World} {K : PySem.W.Frag} {mg : Str → Option Value} {base : Heap}
theorem sc_stages : FnScope ["number", "chain", "found", "width", "rule"] ["number", "chain"] (defScope sstages) := ⟨rfl, rfl, rfl, by decide +kernel, rfl, by decide +kernel, by decide +kernel⟩
theorem cal_stages (T : Top w K mg) : Cal P w K mg base 6 "stages" (spP K R_stages) [] := by
  obtain ⟨fd, F⟩ := T.fstages
  refine cal_pureH F T.g_stages (F.bindsN (ps := ["number", "chain"]) fun _ _ _ _ _ _ us hl => match us, hl with | [_, _], _ => rfl) sc_stages (fun ds d r => by cases r; rfl) fun cdv A outer s H0 hr => ⟨_, (pss_cons (ps_expr (pe_c (cal_check_number T) hr (by decide) rfl (pa_cons (pv 0) pa_nil)))
      (pss_cons (ps_expr (pe_c (cal_check_chain T) hr (by decide) rfl (pa_cons (pv 1) pa_nil)))
      (pss_cons (ps_set (i := 2) sc_stages.nd rfl (Or.inl rfl) (pe_lst pa_nil))
      (pss_cons (ps_for PassesOwn.never rfl (pi_tup (pv 1)) (pg_tup (n := 2) rfl (pgs_cons (pg_name (i := 3) sc_stages.nd rfl (Or.inl rfl)) (pgs_cons (pg_name (i := 4) sc_stages.nd rfl (Or.inl rfl)) pgs_nil))) (pss_cons (ps_set (i := 0) sc_stages.nd rfl (Or.inl rfl) (pe_c (cal_round_once T) hr (by decide) rfl (pa_cons (pv 0) (pa_cons (pv 3) (pa_cons (pv 4) pa_nil)))))
      (pss_one (ps_expr (pe_bm PySem.F.plainAttrs_list PySem.F.slot_list_append PySem.F.type_list_append mt_append (pv 2) (pa_cons (pv 0) pa_nil))))))
      (pss_one (ps_ret (pe_callTy call_tuple_of (by rfl) T.b_tuple (by decide +kernel) (pa_cons (pv 2) pa_nil)))))))), fun ds d r σ H Q E kQ => ?_⟩
  cases r
  rename_i x c h
  obtain ⟨hc, hx1, hx⟩ := h
  refine hs_drop (xe_call (xa_cons (xe_var rfl) xa_nil) (R_check_number.mk hx1)) E fun H1 e1 E1 => ?_
  refine hs_drop (xe_call (xa_cons (xe_var rfl) xa_nil) (R_check_chain.mk hc)) E1 fun H2 e2 E2 => ?_
  refine hs_new E2 fun l hl E3 => ?_
  have e0 : Ex H (upd H2 l (.lst [])) := (e1.trans e2).trans (Evl.Ex.new hl)
  have hlH : H l = none := Evl.fresh_back (e1.trans e2) hl
  refine hs_for (xif_tup (ds := c.map stepD) (xe_var rfl) (fz_chL c)) E3 fun H3 e3 => ?_
  refine ⟨fun i σ' H' => ∃ vs, σ'[2]? = some (some (.ref l)) ∧ H' l = some (.lst vs) ∧ vs.length = i ∧ DpAll K H' vs ((List.range i).map fun j => numD (appliedC x (c.take (j + 1)))) ∧
    EnvR K H' σ' [some (numD (appliedC x (c.take i))), some (chD c), none, none, none] ∧ Tx H3 H' ∧ Ex H H', ⟨[], ?_, e3 _ _ upd_same, rfl, .nil, E3.ex e3, Tx.refl _, e0.trans e3⟩, fun i σ' H' ⟨_, _, _, _, _, _, q, _⟩ => q, ?_, ?_⟩
  · have := E2.len
    rw [List.getElem?_set_self (by rw [this]; show 2 < 5; decide)]
  · rintro i d σ' H' H4 v hd ⟨vs, hs, hv, hvl, hdp, E5, t5, e5⟩ e6 hdv
    rw [List.getElem?_map] at hd
    cases es : c[i]? with
    | none => rw [es] at hd; cases hd
    | some s =>
      rw [es] at hd
      cases Option.some.inj hd
      have hi : i < c.length := (List.getElem?_eq_some_iff.mp es).1
      have sk := hc.ok s (List.mem_of_getElem? es)
      have hle := hc.le
      refine xg_tup (xgs_cons xg_name (xgs_cons xg_name xgs_nil)) rfl σ' H4 v (E5.ex e6) hdv _ fun σ2 E7 _ k7 => ?_
      have nm : Nm 3500 (appliedC x (c.take i)) := by
        refine (applied_nm hx fun t ht => hc.ok t (List.mem_of_mem_take ht)).mono ?_
        rw [List.length_take]
        omega
      refine hs_asg (xe_call (xa_cons (xe_var rfl) (xa_cons (xe_var rfl) (xa_cons (xe_var rfl) xa_nil))) (R_round_once.mk ⟨nm, sk⟩)) E7 fun v8 H8 e8 E8 d8 => ?_
      have hs2 : (σ2.set 0 (some v8))[2]? = some (some (.ref l)) := by
        rw [List.getElem?_set_ne (by decide), k7 2 (by decide)]
        exact hs
      refine hs_app hs2 (e8 _ _ (e6 _ _ hv)) (by have := hc.le; omega) (xe_var rfl) E8 (by show (Fz (chD c) && true) = true; rw [fz_ch]; rfl) fun v9 H9 e9 d9 E9 => ?_
      have hv9 := e9 _ _ (e8 _ _ (e6 _ _ hv))
      refine ⟨vs ++ [v9], hs2, upd_same, by rw [List.length_append, hvl]; rfl, ?_, ?_, ((t5.trans (Tx.of_ex ((e6.trans e8).trans e9)))).trans (Tx.lst hv9), Evl.Ex.mut (((e5.trans e6).trans e8).trans e9) hlH⟩
      · rw [List.range_succ, List.map_append]
        refine dps_app (dps_tx (Tx.lst hv9) _ _ (fz_all fun d hd => by obtain ⟨j, _, rfl⟩ := List.mem_map.mp hd; rfl) (dps_ex ((e6.trans e8).trans e9) _ _ hdp)) (.cons (dp_tx (Tx.lst hv9) _ _ rfl ?_) .nil)
        dsimp only
        rw [take_snoc es, applied_snoc]
        exact d9
      · rw [take_snoc es, applied_snoc]
        exact (E9.drop 3).drop 4
  · rintro σ' H' ⟨vs, hs, hv, hvl, hdp, E5, t5, e5⟩
    refine ⟨_, hs, ?_⟩
    refine ⟨l, vs, rfl, .inl ⟨SqL.of hv, fun q hq => ?_⟩⟩
    refine kQ _ _ (e5.trans (Evl.Ex.new hq)) (.tup (SqT.of upd_same) (dps_ex (Evl.Ex.new hq) _ _ ?_))
    rw [stages_eq, List.map_map]
    rw [List.length_map] at hdp
    exact hdp
theorem sc_applied : FnScope ["number", "chain"] ["number", "chain"] (defScope sapplied) := ⟨rfl, rfl, rfl, by decide +kernel, rfl, by decide +kernel, by decide +kernel⟩
theorem cal_applied (T : Top w K mg) : Cal P w K mg base 7 "applied" (spP K R_applied) [] := by
  obtain ⟨fd, F⟩ := T.fapplied
  refine cal_pure F T.g_applied (F.bindsN (ps := ["number", "chain"]) fun _ _ _ _ _ _ us hl => match us, hl with | [_, _], _ => rfl) sc_applied (fun ds d r => by cases r; rfl) fun cdv A outer s H hr => ⟨_, (pss_one (ps_ret (pe_ix ix_tup (pe_c (cal_stages T) hr (by decide) rfl (pa_cons (pv 0) (pa_cons (pv 1) pa_nil))) (pe_un un_neg pe_int) (fun _ _ => rfl)))), fun ds d r => ?_⟩
  cases r
  rename_i x c h
  refine xs_ret (xe_lastT (xe_call (xa_cons (xe_var rfl) (xa_cons (xe_var rfl) xa_nil)) (R_stages.mk h)) (xe_neg xe_int) ?_) rfl
  have hp := h.1.pos
  rw [stages_eq, List.map_map, List.getLast?_map, List.getLast?_range, if_neg (by omega)]
  show some (numD (appliedC x (c.take (c.length - 1 + 1)))) = _
  rw [show c.length - 1 + 1 = c.length by omega, List.take_length]
theorem sc_trimmed : FnScope ["chain", "found", "least", "width", "rule"] ["chain"] (defScope strimmed) := ⟨rfl, rfl, rfl, by decide +kernel, rfl, by decide +kernel, by decide +kernel⟩
theorem cal_trimmed (T : Top w K mg) : Cal P w K mg base 6 "trimmed" (spP K R_trimmed) [] := by
  obtain ⟨fd, F⟩ := T.ftrimmed
  refine cal_pureH F T.g_trimmed (F.bindsN (ps := ["chain"]) fun _ _ _ _ _ _ us hl => match us, hl with | [_], _ => rfl) sc_trimmed (fun ds d r => by cases r; rfl) fun cdv A outer s H0 hr => ⟨_, (pss_cons (ps_expr (pe_c (cal_check_chain T) hr (by decide) rfl (pa_cons (pv 0) pa_nil)))
      (pss_cons (ps_par (i := 1) (j := 2) rfl sc_trimmed.nd rfl rfl (by decide) rfl rfl (pa_cons (pe_lst pa_nil) (pa_cons pe_non pa_nil)) (by rfl))
      (pss_cons (ps_for PassesOwn.never rfl (pi_tup (pv 0)) (pg_tup (n := 2) rfl (pgs_cons (pg_name (i := 3) sc_trimmed.nd rfl (Or.inl rfl)) (pgs_cons (pg_name (i := 4) sc_trimmed.nd rfl (Or.inl rfl)) pgs_nil))) (pss_one (ps_if (PW.pt (pw_or (pt_cmpR op_isN (pv 2) pe_non (nomark _)) (pw_or1 (pt_cmpR op_lt (pv 3) (pv 2) (nomark _))))) (pss_cons (ps_expr (pe_bm PySem.F.plainAttrs_list PySem.F.slot_list_append PySem.F.type_list_append mt_append (pv 1) (pa_cons (pe_tup (pa_cons (pv 3) (pa_cons (pv 4) pa_nil))) pa_nil)))
      (pss_one (ps_set (i := 2) sc_trimmed.nd rfl (Or.inl rfl) (pv 3)))) pss_nil)))
      (pss_one (ps_ret (pe_callTy call_tuple_of (by rfl) T.b_tuple (by decide +kernel) (pa_cons (pv 1) pa_nil))))))), fun ds d r σ H Q E kQ => ?_⟩
  cases r
  rename_i c h
  refine hs_drop (xe_call (xa_cons (xe_var rfl) xa_nil) (R_check_chain.mk h)) E fun H1 e1 E1 => ?_
  refine ⟨Nat.zero_le _, fun l hl => ?_⟩
  refine ⟨_, _, rfl, ?_⟩
  have E2 : EnvR K (upd H1 l (.lst [])) ((σ.set 1 (some (.ref l))).set 2 (some .non)) [some (chD c), none, some .none, none, none] := ((E1.ex (Evl.Ex.new hl)).setX (i := 1) (v := some (.ref l))).set (i := 2) .non
  have hs0 : ((σ.set 1 (some (V.ref l))).set 2 (some .non))[1]? = some (some (.ref l)) := by
    have := E1.len
    rw [List.getElem?_set_ne (by decide), List.getElem?_set_self (by rw [this]; show 1 < 5; decide)]
  have e0 : Ex H (upd H1 l (.lst [])) := e1.trans (Evl.Ex.new hl)
  have hlH : H l = none := Evl.fresh_back e1 hl
  let oD : Option Int → PyData := fun o => match o with
    | none => .none
    | some z => .int z
  refine hs_for (xif_tup (ds := c.map stepD) (xe_var rfl) (fz_chL c)) E2 fun H3 e3 => ?_
  refine ⟨fun i σ' H' => ∃ vs, σ'[1]? = some (some (.ref l)) ∧ H' l = some (.lst vs) ∧ vs.length ≤ i ∧ DpAll K H' vs (((c.take i).foldl trimStep ([], none)).1.map stepD) ∧
    EnvR K H' σ' [some (chD c), none, some (oD ((c.take i).foldl trimStep ([], none)).2), none, none] ∧ Tx H3 H' ∧ Ex H H', ⟨[], hs0, e3 _ _ upd_same, Nat.le_refl _, .nil, E2.ex e3, Tx.refl _, e0.trans e3⟩, fun i σ' H' ⟨_, _, _, _, _, _, q, _⟩ => q, ?_, ?_⟩
  · rintro i d σ' H' H4 v hd ⟨vs, hs, hv, hvl, hdp, E5, t5, e5⟩ e6 hdv
    rw [List.getElem?_map] at hd
    cases es : c[i]? with
    | none => rw [es] at hd; cases hd
    | some s =>
      rw [es] at hd
      cases Option.some.inj hd
      have hi : i < c.length := (List.getElem?_eq_some_iff.mp es).1
      refine xg_tup (xgs_cons xg_name (xgs_cons xg_name xgs_nil)) rfl σ' H4 v (E5.ex e6) hdv _ fun σ2 E7 _ k7 => ?_
      have hs2 : σ2[1]? = some (some (.ref l)) := by
        rw [k7 1 (by decide)]
        exact hs
      have hle := h.le
      dsimp only
      rw [take_snoc es, List.foldl_append]
      generalize hp : (c.take i).foldl trimStep ([], none) = p at hdp E5 E7
      obtain ⟨acc, o⟩ := p
      -- found.append((width, rule)); least = width
      have app : ∀ H5, Ex H4 H5 → EnvR K H5 σ2 [some (chD c), none, some (oD o), some (.int s.1), some (.str (rs s.2))] →
          (tSeq (tDrop (tBM K "list" rAppend (tVar 1) (tCons (tTup (tCons (tVar 3) (tCons (tVar 4) tNil))) tNil))) (tAsg (tVar 3) (gName 2)))
            { nx := fun σ' H' => ∃ vs, σ'[1]? = some (some (.ref l)) ∧ H' l = some (.lst vs) ∧ vs.length ≤ i + 1 ∧ DpAll K H' vs ((acc ++ [s]).map stepD) ∧ EnvR K H' σ' [some (chD c), none, some (oD (some s.1)), none, none] ∧ Tx H3 H' ∧ Ex H H', rt := Q } σ2 H5 := fun H5 e7 E8 => by
        refine hs_app hs2 (e7 _ _ (e6 _ _ hv)) (by omega) (xe_tup (xa_cons (xe_var rfl) (xa_cons (xe_var rfl) xa_nil)) (by show 2 ≤ 1000; decide)) E8 (by cases o <;> (show (Fz (chD c) && true) = true; rw [fz_ch]; rfl)) fun v9 H9 e9 d9 E9 => ?_
        have hv9 := e9 _ _ (e7 _ _ (e6 _ _ hv))
        refine hs_asg (xe_var rfl) E9 fun v10 H10 e10 E10 d10 => ?_
        refine ⟨vs ++ [v9], ?_, e10 _ _ upd_same, by rw [List.length_append]; show vs.length + 1 ≤ i + 1; omega, ?_, (E10.drop 3).drop 4, (((t5.trans (Tx.of_ex ((e6.trans e7).trans e9)))).trans (Tx.lst hv9)).trans (Tx.of_ex e10), (Evl.Ex.mut (((e5.trans e6).trans e7).trans e9) hlH).trans e10⟩
        · rw [List.getElem?_set_ne (by decide)]
          exact hs2
        · rw [List.map_append]
          exact dps_ex e10 _ _ (dps_app (dps_tx (Tx.lst hv9) _ _ (fz_chL acc) (dps_ex ((e6.trans e7).trans e9) _ _ hdp)) (.cons (dp_tx (Tx.lst hv9) _ _ rfl d9) .nil))
      cases o with
      | none =>
        refine hs_if (b := true) (xt_or (a := true) (b := true) (xt_test (xe_isNy (xe_var rfl))) fun z => nomatch z) E7 (fun _ H5 e7 E8 => ?_) fun z => nomatch z
        exact app H5 e7 E8
      | some z =>
        refine hs_if (XT.to (xt_or (a := false) (xt_test (xe_isNn (d := .int z) (xe_var rfl) (by intro q; cases q))) fun _ => xt_test (xe_lt (xe_var rfl) (xe_var rfl))) rfl) E7 (fun hb H5 e7 E8 => ?_) fun hb H5 e7 E8 => ?_
        · have hlt : s.1 < z := of_decide_eq_true hb
          have g := app H5 e7 E8
          show tSeq _ _ { nx := fun σ' H' => ∃ vs, σ'[1]? = some (some (.ref l)) ∧ H' l = some (.lst vs) ∧ vs.length ≤ i + 1 ∧ DpAll K H' vs ((if s.1 < z then (acc ++ [s], some s.1) else (acc, some z)).1.map stepD) ∧ EnvR K H' σ' [some (chD c), none, some (oD (if s.1 < z then (acc ++ [s], some s.1) else (acc, some z)).2), none, none] ∧ Tx H3 H' ∧ Ex H H', rt := Q, ct := _, bk := _ } σ2 H5
          rw [if_pos hlt]
          exact g
        · have hlt : ¬ s.1 < z := of_decide_eq_false hb
          show ∃ vs, σ2[1]? = some (some (.ref l)) ∧ H5 l = some (.lst vs) ∧ vs.length ≤ i + 1 ∧ DpAll K H5 vs ((if s.1 < z then (acc ++ [s], some s.1) else (acc, some z)).1.map stepD) ∧ EnvR K H5 σ2 [some (chD c), none, some (oD (if s.1 < z then (acc ++ [s], some s.1) else (acc, some z)).2), none, none] ∧ Tx H3 H5 ∧ Ex H H5
          rw [if_neg hlt]
          exact ⟨vs, hs2, e7 _ _ (e6 _ _ hv), by omega, dps_ex (e6.trans e7) _ _ hdp, (E8.drop 3).drop 4, t5.trans (Tx.of_ex (e6.trans e7)), (e5.trans e6).trans e7⟩
  · rintro σ' H' ⟨vs, hs, hv, hvl, hdp, E5, t5, e5⟩
    refine ⟨_, hs, ?_⟩
    refine ⟨l, vs, rfl, .inl ⟨SqL.of hv, fun q hq => ?_⟩⟩
    refine kQ _ _ (e5.trans (Evl.Ex.new hq)) (.tup (SqT.of upd_same) (dps_ex (Evl.Ex.new hq) _ _ ?_))
    rw [List.length_map, List.take_length, trim_fold] at hdp
    exact hdp
end
end SR
end
section
set_option Elab.async false
set_option linter.all false
set_option maxRecDepth 100000
set_option maxHeartbeats 1000000
/-! Defs: thresholds. -/
namespace SR
open PySem PySem.Spec PyProof.Rows L2
open Evl (Ex)
open C8 (Cal Met Mak pe_c pe_mt pe_mt0 pe_mk pe_gc)
/-- d[key] of a written dict -/
def rKd (K : PySem.W.Frag) (d : Addr) : R2 := fun x y H Q => ∃ (z : Str) (u0 : Value) (v0 : V), x = .ref d ∧ y = .str z ∧ PySem.W.nsIn K d z = some (some u0) ∧ RelV v0 u0 ∧ Q v0 H
theorem ix_kd {X : Cx} {d : Addr} {es : Array DictEntry} {n : Nat} (D : KDict X.K X.w d es n) : IxR X (rKd X.K d) := by
  intro value slice pins s σ H x y v u Q I rx ry h hs
  obtain ⟨z, u0, v0, rfl, rfl, e, r, q⟩ := h
  cases rx
  exact tail_any (kd_type D I) PySem.F.slot_dict_getitem.lookup (op_item_kd D pins s σ H (.ref d) (.str z) (.ref d) u Q I rfl ry ⟨z, u0, v0, rfl, rfl, e, r, q⟩) hs
theorem fz_thr (t : Thr) : Fz (thrD t) = true := rfl
theorem fz_thrP (p : Thr × Thr) : Fz (thrPD p) = true := rfl
section
variable {P : Program} {w : World} {K : PySem.W.Frag} {mg : Str → Option Value} {base : Heap}
theorem xe_byRule (T : Top w K mg) {ρ : Rho} {te : TE} {r : Rule} (h : XE K te ρ (.str (rs r))) : XE K (tOp (rKd K (He.ga K "BY_RULE")) (tC (.ref (He.ga K "BY_RULE"))) te) ρ (thrPD (byRuleT r)) := fun σ H E Q q =>
  h σ H E _ fun v H1 e1 hv => by
    have hm : (rs r, thrPD (byRuleT r)) ∈ byRuleL := by
      cases r
      · exact List.mem_cons_self ..
      · exact List.mem_cons_of_mem _ (List.mem_cons_self ..)
      · exact List.mem_cons_of_mem _ (List.mem_cons_of_mem _ (List.mem_cons_self ..))
      · exact List.mem_cons_of_mem _ (List.mem_cons_of_mem _ (List.mem_cons_of_mem _ (List.mem_cons_self ..)))
      · exact List.mem_cons_of_mem _ (List.mem_cons_of_mem _ (List.mem_cons_of_mem _ (List.mem_cons_of_mem _ (List.mem_cons_self ..))))
      · exact List.mem_cons_of_mem _ (List.mem_cons_of_mem _ (List.mem_cons_of_mem _ (List.mem_cons_of_mem _ (List.mem_cons_of_mem _ (List.mem_cons_self ..)))))
    obtain ⟨a, ha, hd⟩ := T.byRule hm
    exact ⟨rs r, _, .ref a, rfl, dp_str hv, ha, rfl, q _ H1 e1 (hd H1)⟩
end
/-! ### sizes -/
/-- a threshold, its denominator below 2 ^ b -/
structure ThOk (b : Nat) (t : Thr) : Prop where
  n0 : 0 ≤ t.1.1
  nd : t.1.1 ≤ t.1.2
  d0 : 0 < t.1.2
  d : Bd b t.1.2
theorem ThOk.mono {a b : Nat} {t : Thr} (h : ThOk a t) (hab : a ≤ b) : ThOk b t := ⟨h.n0, h.nd, h.d0, h.d.mono hab⟩
theorem ThOk.n {b : Nat} {t : Thr} (h : ThOk b t) : Bd b t.1.1 := h.d.le h.n0 h.nd
theorem byRule_ok (r : Rule) : ThOk 2 (byRuleT r).1 ∧ ThOk 2 (byRuleT r).2 := by
  cases r <;> exact ⟨⟨by decide, by decide, by decide, by decide, by decide⟩, ⟨by decide, by decide, by decide, by decide, by decide⟩⟩
theorem sel_ok {b : Nat} {p : Thr × Thr} (h : ThOk b p.1 ∧ ThOk b p.2) (i : Int) : ThOk b (sel p i) := by
  unfold sel
  split
  · exact h.1
  · exact h.2
theorem sel_ix (p : Thr × Thr) {i : Int} (h : i = 0 ∨ i = 1) : [thrD p.1, thrD p.2][i.toNat]? = some (thrD (sel p i)) := by
  rcases h with rfl | rfl <;> rfl
/-- the last part that is rounded down: 0 .. 2 ^ far - 1 -/
theorem lastDown_range (r : Rule) {far p : Int} (hf : 1 ≤ far) : 0 ≤ lastDown r far p ∧ lastDown r far p ≤ p2 far - 1 := by
  have e : p2 far = 2 * p2 (far - 1) := by
    rw [← pw_succ (by omega)]
    congr 1
    omega
  have q := pw_pos (far - 1)
  have s : sel (byRuleT r) p = (byRuleT r).1 ∨ sel (byRuleT r) p = (byRuleT r).2 := by
    unfold sel
    split
    · exact .inl rfl
    · exact .inr rfl
  unfold lastDown
  rcases s with s | s <;> rw [s] <;> cases r
  all_goals simp only [byRuleT, neverT, alwaysT, tieDownT, tieUpT, Int.one_mul, Int.ediv_one, Int.zero_mul, if_true, reduceIte, Bool.true_eq_false, if_false, e]
  all_goals omega
inductive R_last_down : List PyData → PyData → Prop
  | mk {r : Rule} {far p : Int} (h : 1 ≤ far ∧ far ≤ 100 ∧ (p = 0 ∨ p = 1)) : R_last_down [.str (rs r), .int far, .int p] (.int (lastDown r far p))
inductive R_combined : List PyData → PyData → Prop
  | mk {p : Thr × Thr} {r : Rule} {far : Int} (h : 1 ≤ far ∧ far ≤ 100 ∧ ThOk 2000 p.1 ∧ ThOk 2000 p.2) : R_combined [thrPD p, .str (rs r), .int far] (thrPD (combined p r far))
section
variable {P : Program} {w : World} {K : PySem.W.Frag} {mg : Str → Option Value} {base : Heap}
theorem sc_last_down : FnScope ["rule", "far", "parity", "t", "side", "parts", "index"] ["rule", "far", "parity"] (defScope slast_down) := ⟨rfl, rfl, rfl, by decide +kernel, rfl, by decide +kernel, by decide +kernel⟩
theorem cal_last_down (T : Top w K mg) : Cal P w K mg base 1 "last_down" (spP K R_last_down) [] := by
  obtain ⟨es, nn, KD⟩ := T.tab
  obtain ⟨fd, F⟩ := T.flast_down
  refine cal_pure F T.g_last_down (F.bindsN (ps := ["rule", "far", "parity"]) fun _ _ _ _ _ _ us hl => match us, hl with | [_, _, _], _ => rfl) sc_last_down (fun ds d r => by cases r; rfl) fun cdv A outer s H hr => ⟨_, (pss_cons (ps_asg (pe_ix ix_tup (pe_ix (ix_kd KD) (pe_gc (v := .ref (He.ga K "BY_RULE")) rfl ⟨_, T.g_BY_RULE, rfl⟩) (pv 0) (fun _ _ => rfl)) (pv 2) (fun _ _ => rfl)) (pg_tup (n := 2) rfl (pgs_cons (pg_name (i := 3) sc_last_down.nd rfl (Or.inl rfl)) (pgs_cons (pg_name (i := 4) sc_last_down.nd rfl (Or.inl rfl)) pgs_nil))))
      (pss_cons (ps_set (i := 5) sc_last_down.nd rfl (Or.inl rfl) (pe_op op_shlW pe_int (pv 1)))
      (pss_cons (ps_set (i := 6) sc_last_down.nd rfl (Or.inl rfl) (pe_op op_fdivW (pe_op op_mulX (pe_ix ix_tup (pv 3) pe_int (fun _ _ => rfl)) (pv 5)) (pe_ix ix_tup (pv 3) pe_int (fun _ _ => rfl))))
      (pss_one (ps_ret (pe_ifExp (pt_cmpR op_eq (pv 4) (pe_gc rfl T.v_DOWN) (nomark _)) (pv 6) (pe_op op_sub (pv 6) pe_int))))))), fun ds d r => ?_⟩
  cases r
  rename_i r far p h
  have ok := sel_ok (byRule_ok r) p
  have bP : Bd 101 (1 * p2 far) := by rw [Int.one_mul]; exact Bd.p2 (b := 100) (by omega)
  refine (xs_seq (xs_asgG (xe_ixT (xe_byRule T (xe_var rfl)) (xe_var rfl) (by omega) (sel_ix (byRuleT r) h.2.2)) (xg_tup (xgs_cons xg_name (xgs_cons xg_name xgs_nil)) rfl) (xs_seq (xs_asg (xe_shl xe_int (xe_var rfl) ?_) (xs_seq (xs_asg (xe_fdiv (xe_mul (xe_ixT (xe_var rfl) xe_int (by decide) rfl) (xe_var rfl) ?_) (xe_ixT (xe_var rfl) xe_int (by decide) rfl) ?_) (xs_ret (xe_ifC (xt_test (xe_eqS (xe_var rfl) xe_str)) (fun h1 => (xe_var rfl)) (fun h2 => (xe_sub (xe_var rfl) xe_int))) ?_)))))))
  · exact Bd.one.shl (b := 100) (by omega) (by omega) (by decide)
  · exact (ok.n.mono (b := 100) (by decide)).mulx bP (by decide)
  · exact ok.d.div ok.d0 (by decide)
  · have key : ∀ (b : Bool) (x y : Int), (if decide ((if b = true then ("up" : Str) else "down") = "down") = true then PyData.int x else PyData.int y) = .int (if b = false then x else y) := by
      intro b x y
      cases b with
      | false =>
        rw [if_pos (by decide +kernel), if_pos rfl]
      | true =>
        rw [if_neg (by decide +kernel), if_neg (by decide)]
    exact key _ _ _
theorem parity_ix (p : Thr × Thr) (r : Rule) (far : Int) {i : Nat} {d : PyData} (h : ([.int 0, .int 1] : List PyData)[i]? = some d) :
    ∃ q : Int, (q = 0 ∨ q = 1) ∧ d = .int q ∧ [combOne p r far 0, combOne p r far 1][i]? = some (combOne p r far q) ∧ i < 2 := by
  match i, h with
  | 0, h => exact ⟨0, .inl rfl, (Option.some.inj h).symm, rfl, by decide⟩
  | 1, h => exact ⟨1, .inr rfl, (Option.some.inj h).symm, rfl, by decide⟩
  | j + 2, h => simp at h
theorem sc_combined : FnScope ["pair", "rule", "far", "found", "parity", "index", "n", "d", "side"] ["pair", "rule", "far"] (defScope scombined) := ⟨rfl, rfl, rfl, by decide +kernel, rfl, by decide +kernel, by decide +kernel⟩
theorem cal_combined (T : Top w K mg) : Cal P w K mg base 3 "combined" (spP K R_combined) [] := by
  obtain ⟨fd, F⟩ := T.fcombined
  refine cal_pureH F T.g_combined (F.bindsN (ps := ["pair", "rule", "far"]) fun _ _ _ _ _ _ us hl => match us, hl with | [_, _, _], _ => rfl) sc_combined (fun ds d r => by cases r; rfl) fun cdv A outer s H0 hr => ⟨_, (pss_cons (ps_set (i := 3) sc_combined.nd rfl (Or.inl rfl) (pe_lst pa_nil))
      (pss_cons (ps_for PassesOwn.never rfl (pi_tup (pe_tup (pa_cons pe_int (pa_cons pe_int pa_nil)))) (pg_name (i := 4) sc_combined.nd rfl (Or.inl rfl)) (pss_cons (ps_set (i := 5) sc_combined.nd rfl (Or.inl rfl) (pe_c (cal_last_down T) hr (by decide) rfl (pa_cons (pv 1) (pa_cons (pv 2) (pa_cons (pv 4) pa_nil)))))
      (pss_cons (ps_asg (pe_ix ix_tup (pv 0) (pe_op op_mod (pv 5) pe_int) (fun _ _ => rfl)) (pg_tup (n := 2) rfl (pgs_cons (pg_tup (n := 2) rfl (pgs_cons (pg_name (i := 6) sc_combined.nd rfl (Or.inl rfl)) (pgs_cons (pg_name (i := 7) sc_combined.nd rfl (Or.inl rfl)) pgs_nil))) (pgs_cons (pg_name (i := 8) sc_combined.nd rfl (Or.inl rfl)) pgs_nil))))
      (pss_one (ps_expr (pe_bm PySem.F.plainAttrs_list PySem.F.slot_list_append PySem.F.type_list_append mt_append (pv 3) (pa_cons (pe_tup (pa_cons (pe_c (cal_lowest T) hr (by decide) rfl (pa_cons (pe_op op_add (pe_op op_mulX (pv 5) (pv 7)) (pv 6)) (pa_cons (pe_op op_shlW (pv 7) (pv 2)) pa_nil))) (pa_cons (pv 8) pa_nil))) pa_nil)))))))
      (pss_one (ps_ret (pe_callTy call_tuple_of (by rfl) T.b_tuple (by decide +kernel) (pa_cons (pv 3) pa_nil)))))), fun ds d r σ H Q E kQ => ?_⟩
  cases r
  rename_i p r far h
  obtain ⟨hf, hf2, ok1, ok2⟩ := h
  refine hs_new E fun l hl E1 => ?_
  have e1 : Ex H (upd H l (.lst [])) := Evl.Ex.new hl
  refine hs_for (xif_tup (ds := [.int 0, .int 1]) (xe_tup (xa_cons xe_int (xa_cons xe_int xa_nil)) (by show 2 ≤ 1000; decide)) rfl) E1 fun H3 e3 => ?_
  refine ⟨fun i σ' H' => ∃ vs, σ'[3]? = some (some (.ref l)) ∧ H' l = some (.lst vs) ∧ vs.length = i ∧ DpAll K H' vs (([combOne p r far 0, combOne p r far 1].take i).map thrD) ∧
    EnvR K H' σ' [some (thrPD p), some (.str (rs r)), some (.int far), none, none, none, none, none, none] ∧ Tx H3 H' ∧ Ex H H', ⟨[], ?_, e3 _ _ upd_same, rfl, .nil, E1.ex e3, Tx.refl _, e1.trans e3⟩, fun i σ' H' ⟨_, _, _, _, _, _, q, _⟩ => q, ?_, ?_⟩
  · have := E.len
    rw [List.getElem?_set_self (by rw [this]; show 3 < 9; decide)]
  · rintro i d σ' H' H4 v hd ⟨vs, hs, hv, hvl, hdp, E5, t5, e5⟩ e6 hdv
    obtain ⟨q, hq, rfl, hL, hi⟩ := parity_ix p r far hd
    refine xg_name σ' H4 v (E5.ex e6) hdv _ fun σ6 E6 _ k6 => ?_
    refine hs_asg (xe_call (xa_cons (xe_var rfl) (xa_cons (xe_var rfl) (xa_cons (xe_var rfl) xa_nil))) (R_last_down.mk ⟨hf, hf2, hq⟩)) E6 fun v7 H7 e7 E7 d7 => ?_
    have ld := lastDown_range r (p := q) hf
    have hm : lastDown r far q % 2 = 0 ∨ lastDown r far q % 2 = 1 := by omega
    have bL : Bd 101 (lastDown r far q) := (Bd.p2 (e := far) (b := 100) (by omega)).le ld.1 (by omega)
    have ok := sel_ok ⟨ok1, ok2⟩ (lastDown r far q % 2)
    have ec : combOne p r far q = (low (lastDown r far q * (sel p (lastDown r far q % 2)).1.2 + (sel p (lastDown r far q % 2)).1.1) ((sel p (lastDown r far q % 2)).1.2 * p2 far), (sel p (lastDown r far q % 2)).2) := rfl
    have hsel := sel_ix p hm
    generalize sel p (lastDown r far q % 2) = t at hsel ok ec
    generalize lastDown r far q = L at *
    refine hs_asgG (xe_ixT (ds := [thrD p.1, thrD p.2]) (xe_var rfl) (xe_mod (xe_var rfl) xe_int (by decide)) (by omega) hsel) (xg_tup (xgs_cons (xg_tup (xgs_cons xg_name (xgs_cons xg_name xgs_nil)) rfl) (xgs_cons xg_name xgs_nil)) rfl) E7 fun σ8 H8 e8 E8 k8 => ?_
    have hs8 : σ8[3]? = some (some (.ref l)) := by
      rw [k8 3 (by decide), List.getElem?_set_ne (by decide), k6 3 (by decide)]
      exact hs
    refine hs_app hs8 (e8 _ _ (e7 _ _ (e6 _ _ hv))) (by omega) (xe_tup (xa_cons (xe_call (xa_cons (xe_add (xe_mul (xe_var rfl) (xe_var rfl) (bL.mulx ok.d (by decide))) (xe_var rfl)) (xa_cons (xe_shl (xe_var rfl) (xe_var rfl) (ok.d.shl (by omega) (b := 100) (by omega) (by decide))) xa_nil)) (R_lowest.mk ?_)) (xa_cons (xe_var rfl) xa_nil)) (by show 2 ≤ 1000; decide)) E8 rfl fun v9 H9 e9 d9 E9 => ?_
    · refine ⟨?_, Int.mul_pos ok.d0 (pw_pos _), (ok.d.shlv (b := 100) (by omega)).mono (by decide)⟩
      have := Int.mul_nonneg ld.1 (Int.le_of_lt ok.d0)
      have := ok.n0
      omega
    · have hv9 := e9 _ _ (e8 _ _ (e7 _ _ (e6 _ _ hv)))
      have e69 := ((e6.trans e7).trans e8).trans e9
      refine ⟨vs ++ [v9], hs8, upd_same, by rw [List.length_append, hvl]; rfl, ?_, ((((E9.drop 4).drop 5).drop 6).drop 7).drop 8, (t5.trans (Tx.of_ex e69)).trans (Tx.lst hv9), Evl.Ex.mut (e5.trans e69) hl⟩
      rw [take_snoc hL, List.map_append, ec]
      exact dps_app (dps_tx (Tx.lst hv9) _ _ (fz_all fun d hd => by obtain ⟨j, _, rfl⟩ := List.mem_map.mp hd; rfl) (dps_ex e69 _ _ hdp)) (.cons (dp_tx (Tx.lst hv9) _ _ rfl d9) .nil)
  · rintro σ' H' ⟨vs, hs, hv, hvl, hdp, E5, t5, e5⟩
    refine ⟨_, hs, ?_⟩
    refine ⟨l, vs, rfl, .inl ⟨SqL.of hv, fun q hq => ?_⟩⟩
    exact kQ _ _ (e5.trans (Evl.Ex.new hq)) (.tup (SqT.of upd_same) (dps_ex (Evl.Ex.new hq) _ _ hdp))
end
end SR
end
section
set_option Elab.async false
set_option linter.all false
set_option maxRecDepth 100000
set_option maxHeartbeats 1000000
/-! Defs: thresholds of a chain. -/
namespace SR
open PySem PySem.Spec PyProof.Rows L2
open Evl (Ex)
open C8 (Cal Met Mak pe_c pe_mt pe_mt0 pe_mk pe_gc)
theorem cutD_one (ds : List PyData) : cutD ds (some 1) none = ds.drop 1 := by
  unfold cutD
  have e : HT.sIx ds.length 0 (some 1) = min 1 ds.length := HT.sIx_nat ds.length 0 1
  rw [e, HT.sIx_none]
  cases ds with
  | nil => rfl
  | cons d ds =>
    have e1 : min 1 (d :: ds).length = 1 := by rw [List.length_cons]; omega
    rw [e1]
    show (ds).take ((d :: ds).length - 1) = ds
    rw [List.length_cons, Nat.add_sub_cancel, List.take_length]
theorem ediv_le_ediv' {a b c : Int} (hc : 0 < c) (h : a ≤ b) : a / c ≤ b / c := Int.ediv_le_ediv hc h
theorem comb_ok {b f : Nat} {p : Thr × Thr} {r : Rule} {far q : Int} (h1 : ThOk b p.1) (h2 : ThOk b p.2) (hf : 1 ≤ far) (hf2 : far ≤ f) : ThOk (b + f) (combOne p r far q) := by
  have ok := sel_ok ⟨h1, h2⟩ (lastDown r far q % 2)
  have ld := lastDown_range r (p := q) hf
  unfold combOne
  generalize sel p (lastDown r far q % 2) = t at *
  generalize lastDown r far q = L at *
  have hd := Int.mul_pos ok.d0 (pw_pos far)
  have g := gcdI_pos (n := L * t.1.2 + t.1.1) hd
  have n0 : 0 ≤ L * t.1.2 + t.1.1 := Int.add_nonneg (Int.mul_nonneg ld.1 (Int.le_of_lt ok.d0)) ok.n0
  have nd : L * t.1.2 + t.1.1 ≤ t.1.2 * p2 far := by
    have h3 : L * t.1.2 ≤ (p2 far - 1) * t.1.2 := Int.mul_le_mul_of_nonneg_right ld.2 (Int.le_of_lt ok.d0)
    have h4 := ok.nd
    grind
  exact ⟨Int.ediv_nonneg n0 (Int.le_of_lt g), ediv_le_ediv' g nd, low_2 hd, (ok.d.shlv hf2).ediv g⟩
/-- thresholds, step by step -/
def thrStep (s : Int × (Thr × Thr)) (t : Int × Rule) : Int × (Thr × Thr) := (t.1, combined s.2 t.2 (s.1 - t.1))
theorem thrFrom_eq : ∀ (c : Chain) (w : Int) (p : Thr × Thr), thrFrom w p c = (c.foldl thrStep (w, p)).2
  | [], _, _ => rfl
  | s :: c, w, p => thrFrom_eq c s.1 (combined p s.2 (w - s.1))
def Desc (l : Int) : Chain → Prop
  | [] => True
  | s :: c => s.1 < l ∧ Desc s.1 c
theorem trimFrom_desc : ∀ (c : Chain) (l : Int), Desc l (trimFrom l c)
  | [], l => trivial
  | s :: c, l => by
    show Desc l (if s.1 < l then s :: trimFrom s.1 c else trimFrom l c)
    split
    · rename_i h
      exact ⟨h, trimFrom_desc c s.1⟩
    · exact trimFrom_desc c l
theorem trimFrom_mem : ∀ (c : Chain) (l : Int) (s : Int × Rule), s ∈ trimFrom l c → s ∈ c
  | [], l, s, h => h
  | t :: c, l, s, h => by
    unfold trimFrom at h
    split at h
    · rcases List.mem_cons.mp h with e | h
      · rw [e]; exact List.mem_cons_self ..
      · exact List.mem_cons_of_mem _ (trimFrom_mem c t.1 s h)
    · exact List.mem_cons_of_mem _ (trimFrom_mem c l s h)
theorem trimFrom_len : ∀ (c : Chain) (l : Int), (trimFrom l c).length ≤ c.length
  | [], l => Nat.le_refl _
  | s :: c, l => by
    unfold trimFrom
    split
    · rw [List.length_cons, List.length_cons]
      have := trimFrom_len c s.1
      omega
    · rw [List.length_cons]
      have := trimFrom_len c l
      omega
theorem minW_fold : ∀ (c : Chain) (s : Int × Rule), minW (s :: c) = c.foldl (fun m t => min m t.1) s.1
  | [], s => rfl
  | t :: c, s => by
    have h : ∀ (c : Chain) (a b : Int), c.foldl (fun m t => min m t.1) (min a b) = min a (c.foldl (fun m t => min m t.1) b) := by
      intro c
      induction c with
      | nil => intro a b; rfl
      | cons t c ih =>
        intro a b
        show c.foldl _ (min (min a b) t.1) = min a (c.foldl _ (min b t.1))
        rw [← ih, Int.min_assoc]
    show min s.1 (minW (t :: c)) = c.foldl _ (min s.1 t.1)
    rw [minW_fold c t, h]
theorem trim_last : ∀ (c : Chain) (l : Int) (p : Thr × Thr), ((trimFrom l c).foldl thrStep (l, p)).1 = c.foldl (fun m t => min m t.1) l
  | [], l, p => rfl
  | s :: c, l, p => by
    unfold trimFrom
    split
    · rename_i h
      show ((trimFrom s.1 c).foldl thrStep (s.1, _)).1 = c.foldl _ (min l s.1)
      rw [trim_last c, Int.min_eq_right (Int.le_of_lt h)]
    · rename_i h
      show _ = c.foldl _ (min l s.1)
      rw [trim_last c, Int.min_eq_left (by omega)]
/-- what thresholds hands back -/
def pairD (w : Int) (p : Thr × Thr) : PyData := if decide (1 < w) = true then thrPD p else .tuple [.none, thrD p.2]
inductive R_thresholds : List PyData → PyData → Prop
  | mk {c : Chain} (h : ChOk c) : R_thresholds [chD c] (pairD (minW c) (thrC c))
/-- each state of the loop: widths, sizes -/
theorem thr_state {w0 : Int} (hw : 1 ≤ w0 ∧ w0 ≤ 100) (p0 : Thr × Thr) (h0 : ThOk 2 p0.1 ∧ ThOk 2 p0.2) : ∀ (c : Chain) (w : Int) (p : Thr × Thr), Desc w c → (∀ s ∈ c, 1 ≤ s.1) → w ≤ w0 → 1 ≤ w → ThOk (2 + (w0 - w).toNat) p.1 ∧ ThOk (2 + (w0 - w).toNat) p.2 →
    ∀ i s, c[i]? = some s → 1 ≤ ((c.take i).foldl thrStep (w, p)).1 - s.1 ∧ ((c.take i).foldl thrStep (w, p)).1 - s.1 ≤ 100 ∧ ThOk 2000 ((c.take i).foldl thrStep (w, p)).2.1 ∧ ThOk 2000 ((c.take i).foldl thrStep (w, p)).2.2
  | [], w, p, _, _, _, _, _, i, s, hi => by simp at hi
  | t :: c, w, p, hd, hm, hw0, hw1, hp, 0, s, hi => by
    have e : t = s := Option.some.inj hi
    subst e
    have h1 := hm t (List.mem_cons_self ..)
    have h2 := hd.1
    show 1 ≤ w - t.1 ∧ w - t.1 ≤ 100 ∧ ThOk 2000 p.1 ∧ ThOk 2000 p.2
    exact ⟨by omega, by omega, hp.1.mono (by omega), hp.2.mono (by omega)⟩
  | t :: c, w, p, hd, hm, hw0, hw1, hp, i + 1, s, hi => by
    have h1 := hm t (List.mem_cons_self ..)
    have h2 := hd.1
    refine thr_state hw p0 h0 c t.1 (combined p t.2 (w - t.1)) hd.2 (fun s hs => hm s (List.mem_cons_of_mem _ hs)) (by omega) h1 ?_ i s hi
    have ok := fun q => comb_ok (r := t.2) (q := q) hp.1 hp.2 (show 1 ≤ w - t.1 by omega) (f := (w - t.1).toNat) (by omega)
    exact ⟨(ok 0).mono (by omega), (ok 1).mono (by omega)⟩
section
variable {P : Program} {w : World} {K : PySem.W.Frag} {mg : Str → Option Value} {base : Heap}
theorem sc_thresholds : FnScope ["chain", "steps", "width", "rule", "found", "narrower"] ["chain"] (defScope sthresholds) := ⟨rfl, rfl, rfl, by decide +kernel, rfl, by decide +kernel, by decide +kernel⟩
theorem cal_thresholds (T : Top w K mg) : Cal P w K mg base 7 "thresholds" (spP K R_thresholds) [] := by
  obtain ⟨es, nn, KD⟩ := T.tab
  obtain ⟨fd, F⟩ := T.fthresholds
  refine cal_pure F T.g_thresholds (F.bindsN (ps := ["chain"]) fun _ _ _ _ _ _ us hl => match us, hl with | [_], _ => rfl) sc_thresholds (fun ds d r => by cases r; rfl) fun cdv A outer s H hr => ⟨_, (pss_cons (ps_set (i := 1) sc_thresholds.nd rfl (Or.inl rfl) (pe_c (cal_trimmed T) hr (by decide) rfl (pa_cons (pv 0) pa_nil)))
      (pss_cons (ps_asg (pe_ix ix_tup (pv 1) pe_int (fun _ _ => rfl)) (pg_tup (n := 2) rfl (pgs_cons (pg_name (i := 2) sc_thresholds.nd rfl (Or.inl rfl)) (pgs_cons (pg_name (i := 3) sc_thresholds.nd rfl (Or.inl rfl)) pgs_nil))))
      (pss_cons (ps_set (i := 4) sc_thresholds.nd rfl (Or.inl rfl) (pe_ix (ix_kd KD) (pe_gc (v := .ref (He.ga K "BY_RULE")) rfl ⟨_, T.g_BY_RULE, rfl⟩) (pv 3) (fun _ _ => rfl)))
      (pss_cons (ps_for PassesOwn.never rfl (pi_tup (pe_slice sl_tupA (pv 1) (po_some pe_int) po_none)) (pg_tup (n := 2) rfl (pgs_cons (pg_name (i := 5) sc_thresholds.nd rfl (Or.inl rfl)) (pgs_cons (pg_name (i := 3) sc_thresholds.nd rfl (Or.inl rfl)) pgs_nil))) (pss_cons (ps_set (i := 4) sc_thresholds.nd rfl (Or.inl rfl) (pe_c (cal_combined T) hr (by decide) rfl (pa_cons (pv 4) (pa_cons (pv 3) (pa_cons (pe_op op_sub (pv 2) (pv 5)) pa_nil)))))
      (pss_one (ps_set (i := 2) sc_thresholds.nd rfl (Or.inl rfl) (pv 5)))))
      (pss_one (ps_ret (pe_ifExp (pt_cmpR op_gt (pv 2) pe_int (nomark _)) (pv 4) (pe_tup (pa_cons pe_non (pa_cons (pe_ix ix_tup (pv 4) pe_int (fun _ _ => rfl)) pa_nil)))))))))), fun ds d r => ?_⟩
  cases r
  rename_i c h
  obtain ⟨s0, rest, rfl⟩ : ∃ s0 rest, c = s0 :: rest := by
    cases c with
    | nil => have := h.pos; simp at this
    | cons s0 rest => exact ⟨s0, rest, rfl⟩
  have hs0 := h.ok s0 (List.mem_cons_self ..)
  have ht : trimC (s0 :: rest) = s0 :: trimFrom s0.1 rest := rfl
  refine xs_seq (xs_asg (xe_call (xa_cons (xe_var rfl) xa_nil) (R_trimmed.mk h)) ?_)
  refine xs_seq (xs_asgG (xe_ixT (ds := (s0 :: trimFrom s0.1 rest).map stepD) (d := stepD s0) (xe_var rfl) xe_int (by decide) rfl) (xg_tup (xgs_cons xg_name (xgs_cons xg_name xgs_nil)) rfl) ?_)
  refine xs_seq (xs_asg (xe_byRule T (xe_var rfl)) ?_)
  refine xs_seq (xs_for (ds := (trimFrom s0.1 rest).map stepD) ?_ (fun i ρ => ∃ a b : Option PyData, ρ = [some (chD (s0 :: rest)), some (chD (trimC (s0 :: rest))), some (.int (((trimFrom s0.1 rest).take i).foldl thrStep (s0.1, byRuleT s0.2)).1), a, some (thrPD (((trimFrom s0.1 rest).take i).foldl thrStep (s0.1, byRuleT s0.2)).2), b]) ⟨_, _, rfl⟩ ?_ ?_)
  · have e : (trimFrom s0.1 rest).map stepD = cutD ((s0 :: trimFrom s0.1 rest).map stepD) (some 1) none := by rw [cutD_one]; rfl
    rw [e]
    exact xi_tup (xe_sliceT (xe_var rfl) (xo_some xe_int) xo_none)
  · rintro i d ρ hd ⟨a, b, rfl⟩
    rw [List.getElem?_map] at hd
    cases es' : (trimFrom s0.1 rest)[i]? with
    | none => rw [es'] at hd; cases hd
    | some s =>
      rw [es'] at hd
      cases Option.some.inj hd
      have st := thr_state hs0 (byRuleT s0.2) (byRule_ok s0.2) (trimFrom s0.1 rest) s0.1 (byRuleT s0.2) (trimFrom_desc rest s0.1) (fun t ht => (h.ok t (List.mem_cons_of_mem _ (trimFrom_mem rest s0.1 t ht))).1) (Int.le_refl _) hs0.1 (by rw [Int.sub_self]; exact byRule_ok s0.2) i s es'
      refine ⟨_, _, xg_tup (xgs_cons xg_name (xgs_cons xg_name xgs_nil)) rfl, xs_seq (xs_asg (xe_call (xa_cons (xe_var rfl) (xa_cons (xe_var rfl) (xa_cons (xe_sub (xe_var rfl) (xe_var rfl)) xa_nil))) (R_combined.mk st)) (xs_asg (xe_var rfl) ?_))⟩
      rw [take_snoc es', List.foldl_append]
      exact ⟨_, _, rfl⟩
  · rintro ρ ⟨a, b, rfl⟩
    refine xs_ret (xe_ifC (xt_test (xe_gt (xe_var rfl) xe_int)) (fun _ => xe_var rfl) (fun _ => xe_tup (xa_cons xe_non (xa_cons (xe_ixT (n := 1) (ds := [thrD _, thrD _]) (xe_var rfl) xe_int (by decide) rfl) xa_nil)) (by show 2 ≤ 1000; decide))) ?_
    rw [List.length_map, List.take_length]
    have e1 : ((trimFrom s0.1 rest).foldl thrStep (s0.1, byRuleT s0.2)).1 = minW (s0 :: rest) := by rw [trim_last, minW_fold]
    have e2 : ((trimFrom s0.1 rest).foldl thrStep (s0.1, byRuleT s0.2)).2 = thrC (s0 :: rest) := (thrFrom_eq _ _ _).symm
    rw [e1, e2]
    rfl
end
end SR
end
section
set_option Elab.async false
set_option linter.all false
set_option maxRecDepth 100000
set_option maxHeartbeats 1000000
/-! Defs: the greatest root; Root's comparison. -/
namespace SR
open PySem PySem.Spec PyProof.Rows L2
open Evl (Ex)
open C8 (Cal Met Mak pe_c pe_mt pe_mt0 pe_mk pe_gc)
/-! ### the greatest root -/
theorem isq_leq {v f : Int} (hv : 0 ≤ v) (h0 : 0 ≤ f) (h : v < f * f) : isq v < f := by
  have a := isq_le hv
  have c := isq_nn v
  rcases Int.lt_or_le (isq v) f with h1 | h1
  · exact h1
  · have : f * f ≤ isq v * isq v := Int.mul_le_mul h1 h1 h0 c
    omega
theorem newton {v f : Int} (hv : 0 ≤ v) (hf : 0 < f) : isq v ≤ (f + v / f) / 2 := by
  have a := isq_le hv
  generalize isq v = s at *
  have h1 : 2 * s - f ≤ v / f := by
    refine Int.le_ediv_of_mul_le hf ?_
    have : 0 ≤ (f - s) * (f - s) := by
      rcases Int.le_total 0 (f - s) with h | h
      · exact Int.mul_nonneg h h
      · have := Int.mul_nonneg (show 0 ≤ -(f - s) by omega) (show 0 ≤ -(f - s) by omega)
        grind
    have e : (f - s) * (f - s) = f * f - 2 * (s * f) + s * s := by grind
    have e2 : (2 * s - f) * f = 2 * (s * f) - f * f := by grind
    omega
  omega
theorem newton_lt {v f : Int} (hf : 0 < f) (h : v < f * f) : (f + v / f) / 2 < f := by
  have h1 : v / f < f := Int.ediv_lt_of_lt_mul hf h
  omega
theorem pw_dbl {v : Int} (hv : 0 < v) : v < p2 ((bl v + 1) / 2) * p2 ((bl v + 1) / 2) := by
  have h := bl_hi hv
  have h1 := bl_ge1 hv
  rw [← pw_add (by omega) (by omega)]
  exact Int.lt_of_lt_of_le h (pw_mono (by omega))
inductive R_whole_root : List PyData → PyData → Prop
  | mk {v : Int} (h : Bd 9000 v) : R_whole_root [.int v] (.int (isq v))
section
variable {P : Program} {w : World} {K : PySem.W.Frag} {mg : Str → Option Value} {base : Heap}
theorem sc_whole_root : FnScope ["value", "found"] ["value"] (defScope swhole_root) := ⟨rfl, rfl, rfl, by decide +kernel, rfl, by decide +kernel, by decide +kernel⟩
theorem cal_whole_root (T : Top w K mg) : Cal P w K mg base 1 "whole_root" (spP K R_whole_root) [] := by
  obtain ⟨fd, F⟩ := T.fwhole_root
  refine cal_pure F T.g_whole_root (F.bindsN (ps := ["value"]) fun _ _ _ _ _ _ us hl => match us, hl with | [_], _ => rfl) sc_whole_root (fun ds d r => by cases r; rfl) fun cdv A outer s H hr => ⟨_, (pss_cons (ps_if (pt_cmpR op_eq (pv 0) pe_int (nomark _)) (pss_one (ps_ret pe_int)) pss_nil)
      (pss_cons (ps_set (i := 1) sc_whole_root.nd rfl (Or.inl rfl) (pe_op op_shlW pe_int (pe_op op_fdivW (pe_op op_add (pe_bits (pv 0)) pe_int) pe_int)))
      (pss_cons (ps_while PassesOwn.never (pt_cmpR op_gt (pe_op op_mulX (pv 1) (pv 1)) (pv 0) (nomark _)) (pss_one (ps_set (i := 1) sc_whole_root.nd rfl (Or.inl rfl) (pe_op op_fdivW (pe_op op_add (pv 1) (pe_op op_fdivW (pv 0) (pv 1))) pe_int))))
      (pss_one (ps_ret (pv 1)))))), fun ds d r => ?_⟩
  cases r
  rename_i v h
  have hb := h.bl
  have hn := bl_nn v
  have b0 : Bd 4502 (1 * p2 ((bl v + 1) / 2)) := by
    rw [Int.one_mul]
    exact Bd.p2 (b := 4501) (by omega)
  refine xs_seq (xs_if (xt_test (xe_eqI (xe_var rfl) xe_int)) (fun h1 => xs_ret xe_int ?_) (fun h1 => xs_next (xs_seq (xs_asg (xe_shl xe_int (xe_fdiv (xe_add (xe_bitl (xe_var rfl)) xe_int) xe_int ?_) ?_)
    (xs_seq (xs_while (fun m ρ => ∃ f : Int, ρ = [some (.int v), some (.int f)] ∧ 0 < f ∧ isq v ≤ f ∧ Bd 4502 f ∧ m = f.toNat) (1 * p2 ((bl v + 1) / 2)).toNat ⟨_, rfl, ?_, ?_, b0, rfl⟩ ?_))))))
  · have e : v = 0 := of_decide_eq_true h1
    subst e
    rfl
  · exact Bd.two.div (by decide) (by decide)
  · exact Bd.one.shl (b := 4501) (by omega) (by omega) (by decide)
  · rw [Int.one_mul]
    exact pw_pos _
  · have e : ¬ v = 0 := of_decide_eq_false h1
    rw [Int.one_mul]
    exact Int.le_of_lt (isq_leq h.nn (Int.le_of_lt (pw_pos _)) (pw_dbl (by have := h.nn; omega)))
  · rintro m ρ ⟨f, rfl, hf, hs, bf, rfl⟩
    refine ⟨_, xt_test (xe_gt (xe_mul (xe_var rfl) (xe_var rfl) (bf.mulx bf (by decide))) (xe_var rfl)), fun hb => ?_, fun hb => ?_⟩
    · have hl : v < f * f := of_decide_eq_true hb
      have n1 := newton h.nn hf
      have n2 := newton_lt hf hl
      have s0 : 0 < isq v := by
        have hv : ¬ v = 0 := of_decide_eq_false h1
        have := isq_lt h.nn
        have q := isq_nn v
        rcases Int.lt_or_le 0 (isq v) with z | z
        · exact z
        · have e : isq v = 0 := by omega
          rw [e] at this
          have := h.nn
          omega
      refine xs_asg (xe_fdiv (xe_add (xe_var rfl) (xe_fdiv (xe_var rfl) (xe_var rfl) (bf.div hf (by decide)))) xe_int (Bd.two.div (by decide) (by decide))) ⟨((f + v / f) / 2).toNat, by omega, _, rfl, by omega, n1, bf.le (by omega) (by omega), rfl⟩
    · have hl : ¬ v < f * f := of_decide_eq_false hb
      refine xs_ret (xe_var rfl) ?_
      have : f = isq v := by
        have a := isq_lt h.nn
        exact isq_uniq (by omega) (by omega) (by
          have : (isq v + 1) * (isq v + 1) ≤ (f + 1) * (f + 1) := Int.mul_le_mul (by omega) (by omega) (by have := isq_nn v; omega) (by omega)
          omega)
      rw [this]
end
end SR
end
section
set_option Elab.async false
set_option linter.all false
set_option maxRecDepth 100000
set_option maxHeartbeats 1000000
/-! Root's methods. -/
namespace SR
open PySem PySem.Spec PyProof.Rows L2
open Evl (Ex)
open C8 (Cal Met Mak pe_c pe_mt pe_mt0 pe_mk pe_gc)
section
variable {K : PySem.W.Frag} {ρ : Rho} {t u ta tb te : TE} {d d1 d2 : PyData} {ds es : List PyData} {t1 t2 : TS} {i j : Nat} {D : Ends} {σ : L2.St} {H : Hp} {v : V}
theorem ve_mt {C p dx : Addr} {fs : List (Str × V)} {m : Str} {sp : Sp} {tr : TA} {o : V} (ho : VV ta σ H (.ref p)) (hp : H p = some (.ins C dx fs)) (hl : fs.lookup m = none) (ha : VA K tr σ H ds)
    (k : ∀ vs H2, Ex H H2 → DpAll K H2 vs ds → ∀ Q : VK, (∀ H', Ex H2 H' → Q o H') → sp (.ref p :: (vs ++ [])) H2 Q E0) (hd : ∀ H', Ex H H' → Dp K H' o d) : VE K (tMeth C m sp [] E0 ta tr) σ H d := fun H0 e0 Q q =>
  ho H0 e0 _ fun H1 e1 => ⟨p, dx, fs, rfl, e1 _ _ (e0 _ _ hp), hl, ha H1 (e0.trans e1) _ fun vs H2 e2 hvs => k vs H2 ((e0.trans e1).trans e2) hvs Q fun H3 e3 => q o H3 ((e1.trans e2).trans e3) (hd H3 (((e0.trans e1).trans e2).trans e3))⟩
theorem ve_fldI {p C dx : Addr} {fs : List (Str × V)} {f : Str} {n : Int} (hs : σ[i]? = some (some (.ref p))) (hp : H p = some (.ins C dx fs)) (hc : Cls K C) (hn : NoAttr K C f) (hl : fs.lookup f = some (.int n)) : VE K (tFld K (tVar i) f) σ H (.int n) :=
  ve_v (vv_fld (vv_var hs) hp hc hn hl) (.int n)
theorem ve_varI {n : Int} (h : σ[i]? = some (some (.int n))) : VE K (tVar i) σ H (.int n) := ve_var h (.int n)
end
theorem envr_nil {K : PySem.W.Frag} {H : Hp} : EnvR K H [] [] := ⟨rfl, fun i d h => by simp at h⟩
theorem envr_x {K : PySem.W.Frag} {H : Hp} {o : Option V} {σ : L2.St} {ρ : Rho} (h : EnvR K H σ ρ) : EnvR K H (o :: σ) (none :: ρ) := ⟨congrArg (· + 1) h.len, fun i d q => match i, q with
  | 0, q => nomatch Option.some.inj q
  | i + 1, q => h.at_ i d q⟩
theorem envr_c {K : PySem.W.Frag} {H : Hp} {v : V} {d : PyData} {σ : L2.St} {ρ : Rho} (hv : Dp K H v d) (h : EnvR K H σ ρ) : EnvR K H (some v :: σ) (some d :: ρ) := ⟨congrArg (· + 1) h.len, fun i e q => match i, q with
  | 0, q => ⟨v, rfl, by cases Option.some.inj (Option.some.inj q); exact hv⟩
  | i + 1, q => h.at_ i e q⟩
/-! ### what the methods promise -/
structure CmpOk (n d e top bottom : Int) : Prop where
  n : Bd 2200 n
  d : Bd 2200 d
  e1 : -2300 ≤ e
  e2 : e ≤ 2300
  t : Bd 4500 top
  b : Bd 4500 bottom
def rC (K : PySem.W.Frag) : Addr := He.ga K "Root"
def spCmp (K : PySem.W.Frag) : Sp := fun vs H Q _ => ∃ p dx fs n d e top bottom, vs = [.ref p, .int top, .int bottom] ∧ H p = some (.ins (rC K) dx fs) ∧ fs.lookup ("n" : Str) = some (V.int n) ∧ fs.lookup ("d" : Str) = some (V.int d) ∧ fs.lookup ("e" : Str) = some (V.int e) ∧
  CmpOk n d e top bottom ∧ ∀ H', Ex H H' → Q (.int (cmpR n d e top bottom)) H'
def rootF (n d e k : Int) : List (Str × V) := [("n", .int n), ("d", .int d), ("e", .int e), ("k", .int k)]
def spExact (K : PySem.W.Frag) : Sp := fun vs H Q _ => ∃ p dx n d e k, vs = [.ref p] ∧ H p = some (.ins (rC K) dx (rootF n d e k)) ∧ CmpOk n d e k 1 ∧ ∀ H', Ex H H' → Q (.bl (decide (cmpR n d e k 1 = 0))) H'
def aboveR (n d e k : Int) (p : Thr × Thr) : Bool :=
  decide (0 < cmpR n d e (k * (sel p (k % 2)).1.2 + (sel p (k % 2)).1.1) (sel p (k % 2)).1.2) || (decide (cmpR n d e (k * (sel p (k % 2)).1.2 + (sel p (k % 2)).1.1) (sel p (k % 2)).1.2 = 0) && (sel p (k % 2)).2)
def spAbove (K : PySem.W.Frag) : Sp := fun vs H Q _ => ∃ p dx n d e k v w th, vs = [.ref p, v] ∧ H p = some (.ins (rC K) dx (rootF n d e k)) ∧ Dp K H v (pairD w th) ∧ 1 ≤ w ∧ (w = 1 → k % 2 = 1) ∧ CmpOk n d e k 1 ∧ Bd 200 k ∧ ThOk 2000 th.1 ∧ ThOk 2000 th.2 ∧
  ∀ H', Ex H H' → Q (.bl (aboveR n d e k th)) H'
section
variable {P : Program} {w : World} {K : PySem.W.Frag} {mg : Str → Option Value} {base : Heap}
theorem sc_Root_compared_with : FnScope ["self", "top", "bottom", "up", "down", "left", "right"] ["self", "top", "bottom"] (defScope sRoot_compared_with) := ⟨rfl, rfl, rfl, by decide +kernel, rfl, by decide +kernel, by decide +kernel⟩
theorem met_Root_compared_with (T : Top w K mg) : Met P w K mg base 1 (He.ga K "Root") "compared_with" (spCmp K) [] := by
  obtain ⟨fd, F⟩ := T.fRoot_compared_with
  refine ⟨_, fd, ["self", "top", "bottom"], [], T.cl_Root, T.me_Root_compared_with, F.ok sc_Root_compared_with (fun vs H Q E h => ?_) (fun cdv A outer s H vs Q E hr h => ⟨_, PSs.nox (pss_cons (ps_par (i := 3) (j := 4) rfl sc_Root_compared_with.nd rfl rfl (by decide) rfl rfl (pa_cons (pe_callB (call_max2 rfl) (by rfl) T.b_max (by decide +kernel) (pa_cons pe_int (pa_cons (pe_op op_sub pe_int (pe_op op_mulX pe_int (pe_fld (pv 0) rfl))) pa_nil))) (pa_cons (pe_callB (call_max2 rfl) (by rfl) T.b_max (by decide +kernel) (pa_cons pe_int (pa_cons (pe_op op_mulX pe_int (pe_fld (pv 0) rfl)) pa_nil))) pa_nil)) (by rfl))
      (pss_cons (ps_par (i := 5) (j := 6) rfl sc_Root_compared_with.nd rfl rfl (by decide) rfl rfl (pa_cons (pe_op op_shlW (pe_op op_mulX (pe_op op_mulX (pe_fld (pv 0) rfl) (pv 2)) (pv 2)) (pv 3)) (pa_cons (pe_op op_shlW (pe_op op_mulX (pe_op op_mulX (pe_fld (pv 0) rfl) (pv 1)) (pv 1)) (pv 4)) pa_nil)) (by rfl))
      (pss_one (ps_ret (pe_op op_sub (pe_callTy call_int1 (by rfl) T.b_int (by decide +kernel) (pa_cons (pe_cmpR op_gt (pv 5) (pv 6) (nomark _)) pa_nil)) (pe_callTy call_int1 (by rfl) T.b_int (by decide +kernel) (pa_cons (pe_cmpR op_lt (pv 5) (pv 6) (nomark _)) pa_nil))))))), ?_⟩), F.bindsN (ps := ["self", "top", "bottom"]) fun _ _ _ _ _ _ us hl => match us, hl with | [_, _, _], _ => rfl, .nil⟩
  · obtain ⟨p, dx, fs, n, d, e, top, bottom, rfl, _⟩ := h
    rfl
  obtain ⟨p, dx, fs, n, d, e, top, bottom, rfl, hp, l1, l2, l3, ok, q⟩ := h
  have b2 : CMulX 2 e := by
    have hE : e.natAbs < 2 ^ 12 := by have := ok.e1; have := ok.e2; omega
    exact mulx_ok (show (2 : Int).natAbs < 2 ^ 2 by decide) hE (by decide)
  have F1 : ∀ {σ : L2.St} {H1 : Hp}, Ex H H1 → σ[0]? = some (some (.ref p)) → VE K (tFld K (tVar 0) "e") σ H1 (.int e) := fun e1 hs => ve_fldI hs (e1 _ _ hp) T.cl_Root T.na_Root_e l3
  refine vs_par (va_cons (ve_max2 ve_int (ve_sub ve_int (ve_mul ve_int (F1 (Evl.Ex.refl _) rfl) b2))) (va_cons (ve_max2 ve_int (ve_mul ve_int (F1 (Evl.Ex.refl _) rfl) b2)) va_nil)) fun v w H1 e1 d1 d2 => ?_
  cases dp_int d1
  cases dp_int d2
  have m1 : (max 0 (0 - 2 * e)) ≤ ((4600 : Nat) : Int) := by have := ok.e1; omega
  have m2 : (max 0 (2 * e)) ≤ ((4600 : Nat) : Int) := by have := ok.e2; omega
  refine vs_par (va_cons (ve_shl (ve_mul (ve_mul (ve_fldI rfl (e1 _ _ hp) T.cl_Root T.na_Root_n l1) (ve_varI rfl) (ok.n.mulx ok.b (by decide))) (ve_varI rfl) ((ok.n.mul ok.b).mulx ok.b (by decide))) (ve_varI rfl) (((ok.n.mul ok.b).mul ok.b).shl (by omega) m1 (by decide)))
    (va_cons (ve_shl (ve_mul (ve_mul (ve_fldI rfl (e1 _ _ hp) T.cl_Root T.na_Root_d l2) (ve_varI rfl) (ok.d.mulx ok.t (by decide))) (ve_varI rfl) ((ok.d.mul ok.t).mulx ok.t (by decide))) (ve_varI rfl) (((ok.d.mul ok.t).mul ok.t).shl (by omega) m2 (by decide))) va_nil)) fun v w H2 e2 d1 d2 => ?_
  cases dp_int d1
  cases dp_int d2
  refine vs_ret (K := K) (ve_sub (ve_intB (ve_gt (ve_varI rfl) (ve_varI rfl))) (ve_intB (ve_lt (ve_varI rfl) (ve_varI rfl)))) fun v H3 e3 d3 => ?_
  cases dp_int d3
  exact q _ ((e1.trans e2).trans e3)
theorem sc_Root_is_exact : FnScope ["self"] ["self"] (defScope sRoot_is_exact) := ⟨rfl, rfl, rfl, by decide +kernel, rfl, by decide +kernel, by decide +kernel⟩
theorem met_Root_is_exact (T : Top w K mg) : Met P w K mg base 2 (He.ga K "Root") "is_exact" (spExact K) [] := by
  obtain ⟨fd, F⟩ := T.fRoot_is_exact
  refine ⟨_, fd, ["self"], [], T.cl_Root, T.me_Root_is_exact, F.ok sc_Root_is_exact (fun vs H Q E h => ?_) (fun cdv A outer s H vs Q E hr h => ⟨_, PSs.nox (pss_one (ps_ret (pe_cmpR op_eq (pe_mt (met_Root_compared_with T) hr (by decide) (pv 0) (pa_cons (pe_fld (pv 0) rfl) (pa_cons pe_int pa_nil))) pe_int (nomark _)))), ?_⟩), F.bindsN (ps := ["self"]) fun _ _ _ _ _ _ us hl => match us, hl with | [_], _ => rfl, .nil⟩
  · obtain ⟨p, dx, n, d, e, k, rfl, _⟩ := h
    rfl
  obtain ⟨p, dx, n, d, e, k, rfl, hp, ok, q⟩ := h
  refine vs_ret (ve_eqI (ve_mt (o := .int (cmpR n d e k 1)) (vv_var rfl) hp rfl (va_cons (ve_fldI rfl hp T.cl_Root T.na_Root_k rfl) (va_cons ve_int va_nil)) (fun vs H2 e2 hvs Q q2 => ?_) fun _ _ => .int _) ve_int) fun v H3 e3 d3 => ?_
  · obtain ⟨v, w, rfl, h1, h2⟩ := dps2 hvs
    rw [dp_int h1, dp_int h2]
    exact ⟨p, dx, _, n, d, e, k, 1, rfl, e2 _ _ hp, rfl, rfl, rfl, ok, q2⟩
  · cases dp_bool d3
    exact q _ e3
theorem sc_Root_is_above : FnScope ["self", "pair", "top", "bottom", "side", "sign"] ["self", "pair"] (defScope sRoot_is_above) := ⟨rfl, rfl, rfl, by decide +kernel, rfl, by decide +kernel, by decide +kernel⟩
theorem met_Root_is_above (T : Top w K mg) : Met P w K mg base 2 (He.ga K "Root") "is_above" (spAbove K) [] := by
  obtain ⟨fd, F⟩ := T.fRoot_is_above
  refine ⟨_, fd, ["self", "pair"], [], T.cl_Root, T.me_Root_is_above, F.ok sc_Root_is_above (fun vs H Q E h => ?_) (fun cdv A outer s H vs Q E hr h => ⟨_, PSs.nox (pss_cons (ps_asg (pe_ix ix_tup (pv 1) (pe_op op_mod (pe_fld (pv 0) rfl) pe_int) (fun _ _ => rfl)) (pg_tup (n := 2) rfl (pgs_cons (pg_tup (n := 2) rfl (pgs_cons (pg_name (i := 2) sc_Root_is_above.nd rfl (Or.inl rfl)) (pgs_cons (pg_name (i := 3) sc_Root_is_above.nd rfl (Or.inl rfl)) pgs_nil))) (pgs_cons (pg_name (i := 4) sc_Root_is_above.nd rfl (Or.inl rfl)) pgs_nil))))
      (pss_cons (ps_set (i := 5) sc_Root_is_above.nd rfl (Or.inl rfl) (pe_mt (met_Root_compared_with T) hr (by decide) (pv 0) (pa_cons (pe_op op_add (pe_op op_mulX (pe_fld (pv 0) rfl) (pv 3)) (pv 2)) (pa_cons (pv 3) pa_nil))))
      (pss_one (ps_ret (pe_or (pe_cmpR op_gt (pv 5) pe_int (nomark _)) (pe_one (pe_and (pe_cmpR op_eq (pv 5) pe_int (nomark _)) (pe_one (pe_cmpR op_eq (pv 4) pe_str (nomark _)))))))))), ?_⟩), F.bindsN (ps := ["self", "pair"]) fun _ _ _ _ _ _ us hl => match us, hl with | [_, _], _ => rfl, .nil⟩
  · obtain ⟨p, dx, n, d, e, k, v, w, th, rfl, _⟩ := h
    rfl
  obtain ⟨p, dx, n, d, e, k, v, w, th, rfl, hp, hv, hw, hk, ok, bk, t1, t2, q⟩ := h
  have hm : k % 2 = 0 ∨ k % 2 = 1 := by omega
  have hix : ∃ ds, pairD w th = .tuple ds ∧ ds[(k % 2).toNat]? = some (thrD (sel th (k % 2))) := by
    unfold pairD
    by_cases h1 : 1 < w
    · rw [if_pos (decide_eq_true h1)]
      exact ⟨_, rfl, sel_ix th hm⟩
    · rw [if_neg (by simpa using h1)]
      have : w = 1 := by omega
      rw [hk this]
      exact ⟨_, rfl, rfl⟩
  obtain ⟨ds, ed, hix⟩ := hix
  rw [ed] at hv
  have tk := sel_ok ⟨t1, t2⟩ (k % 2)
  unfold aboveR at q
  generalize sel th (k % 2) = t at *
  have E0 : EnvR K H [some (V.ref p), some v, none, none, none, none] [none, some (.tuple ds), none, none, none, none] := envr_x (envr_c hv (envr_x (envr_x (envr_x (envr_x envr_nil)))))
  refine vs_asgG (ve_ixT (ve_var rfl hv) (ve_mod (ve_fldI rfl hp T.cl_Root T.na_Root_k rfl) ve_int (by decide)) (by omega) hix) (xg_tup (xgs_cons (xg_tup (xgs_cons xg_name (xgs_cons xg_name xgs_nil)) rfl) (xgs_cons xg_name xgs_nil)) rfl) E0 fun σ1 H1 e1 E1 k1 => ?_
  have hs0 : σ1[0]? = some (some (.ref p)) := k1 0 (by decide)
  have E2 : EnvR K H1 σ1 [none, some (.tuple ds), some (.int t.1.1), some (.int t.1.2), some (.str (if t.2 = true then "up" else "down")), none] := E1
  refine vs_asg (ve_mt (o := .int (cmpR n d e (k * t.1.2 + t.1.1) t.1.2)) (vv_var hs0) (e1 _ _ hp) rfl (va_cons (ve_add (ve_mul (ve_fldI hs0 (e1 _ _ hp) T.cl_Root T.na_Root_k rfl) (ve_x (xe_var rfl) E2) (bk.mulx tk.d (by decide))) (ve_x (xe_var rfl) E2)) (va_cons (ve_x (xe_var rfl) E2) va_nil)) (fun vs H2 e2 hvs Q q2 => ?_) fun _ _ => .int _) fun v H3 e3 d3 => ?_
  · obtain ⟨v, w, rfl, h1, h2⟩ := dps2 hvs
    rw [dp_int h1, dp_int h2]
    exact ⟨p, dx, _, n, d, e, _, _, rfl, e2 _ _ (e1 _ _ hp), rfl, rfl, rfl, ⟨ok.n, ok.d, ok.e1, ok.e2, ((bk.mul tk.d).add (tk.n.mono (by decide))).mono (by decide), tk.d.mono (by decide)⟩, q2⟩
  · have E3 := (E2.ex e3).set (i := 5) d3
    refine vs_ret (ve_x (xe_orV (xe_gt (xe_var rfl) xe_int) fun _ => xe_andV (xe_eqI (xe_var rfl) xe_int) fun _ => xe_eqS (xe_var rfl) xe_str) E3) fun v H4 e4 d4 => ?_
    cases dp_bool d4
    have e : decide ((if t.2 = true then ("up" : Str) else "down") = "up") = t.2 := by
      cases t.2 with
      | true => rw [if_pos rfl]; decide +kernel
      | false => rw [if_neg (by decide)]; decide +kernel
    rw [e]
    exact q _ ((e1.trans e3).trans e4)
end
end SR
end
section
set_option Elab.async false
set_option linter.all false
set_option maxRecDepth 100000
set_option maxHeartbeats 1000000
/-! Root's exponent and whole part, plainly. -/
namespace SR
/-- both sides at one scale -/
theorem sg_Z {n d e t b Z : Int} (hZ : 0 ≤ Z) (hz : 0 ≤ e + Z) : sgL n e b * p2 (2 * (e + Z)) = n * b * b * p2 (2 * Z) * p2 (max 0 (2 * e)) ∧ sgR d e t * p2 (2 * (e + Z)) = d * t * t * p2 (2 * (e + Z)) * p2 (max 0 (2 * e)) := by
  have k : p2 (max 0 (0 - 2 * e)) * p2 (2 * (e + Z)) = p2 (2 * Z) * p2 (max 0 (2 * e)) := by
    rw [← pw_add (by omega) (by omega), ← pw_add (by omega) (by omega)]
    congr 1
    omega
  unfold sgL sgR
  constructor
  · rw [Int.mul_assoc (n * b * b), k, Int.mul_assoc (n * b * b)]
  · rw [Int.mul_right_comm]
theorem cmp_le {n d e t b Z : Int} (hZ : 0 ≤ Z) (hz : 0 ≤ e + Z) : sgR d e t ≤ sgL n e b ↔ d * t * t * p2 (2 * (e + Z)) ≤ n * b * b * p2 (2 * Z) := by
  obtain ⟨h1, h2⟩ := sg_Z (n := n) (d := d) (t := t) (b := b) hZ hz
  have p1 := pw_pos (2 * (e + Z))
  have p2' := pw_pos (max 0 (2 * e))
  constructor
  · intro h
    have := Int.mul_le_mul_of_nonneg_right h (Int.le_of_lt p1)
    rw [h1, h2] at this
    exact Int.le_of_mul_le_mul_right this p2'
  · intro h
    have := Int.mul_le_mul_of_nonneg_right h (Int.le_of_lt p2')
    rw [← h1, ← h2] at this
    exact Int.le_of_mul_le_mul_right this p1
theorem cmp_ge {n d e t b Z : Int} (hZ : 0 ≤ Z) (hz : 0 ≤ e + Z) : sgL n e b ≤ sgR d e t ↔ n * b * b * p2 (2 * Z) ≤ d * t * t * p2 (2 * (e + Z)) := by
  obtain ⟨h1, h2⟩ := sg_Z (n := n) (d := d) (t := t) (b := b) hZ hz
  have p1 := pw_pos (2 * (e + Z))
  have p2' := pw_pos (max 0 (2 * e))
  constructor
  · intro h
    have := Int.mul_le_mul_of_nonneg_right h (Int.le_of_lt p1)
    rw [h1, h2] at this
    exact Int.le_of_mul_le_mul_right this p2'
  · intro h
    have := Int.mul_le_mul_of_nonneg_right h (Int.le_of_lt p2')
    rw [← h1, ← h2] at this
    exact Int.le_of_mul_le_mul_right this p1
theorem cmpR_cases (n d e t b : Int) : (0 ≤ cmpR n d e t b ↔ sgR d e t ≤ sgL n e b) ∧ (0 < cmpR n d e t b ↔ sgR d e t < sgL n e b) ∧ (cmpR n d e t b = 0 ↔ sgR d e t = sgL n e b) := by
  unfold cmpR
  generalize sgR d e t = x
  generalize sgL n e b = y
  rcases Int.lt_trichotomy x y with h | h | h
  · have c1 : decide (x < y) = true := decide_eq_true h
    have c2 : decide (y < x) = false := decide_eq_false (by omega)
    rw [c1, c2, if_pos rfl, if_neg (by decide)]
    omega
  · have c1 : decide (x < y) = false := decide_eq_false (by omega)
    have c2 : decide (y < x) = false := decide_eq_false (by omega)
    rw [c1, c2, if_neg (by decide)]
    omega
  · have c1 : decide (x < y) = false := decide_eq_false (by omega)
    have c2 : decide (y < x) = true := decide_eq_true h
    rw [c1, c2, if_neg (by decide), if_pos rfl]
    omega
theorem pw_sq {a : Int} (h : 0 ≤ a) : p2 a * p2 a = p2 (2 * a) := by
  rw [← pw_add h h]
  congr 1
  omega
theorem rootE0_hi {n d w : Int} (hn : 0 < n) (hd : 0 < d) (hw : 1 ≤ w) : ¬ 0 ≤ cmpR n d (rootE0 n d w + 1) (1 * p2 w) 1 := by
  rw [(cmpR_cases ..).1]
  have a1 := bl_hi hn
  have a2 := bl_lo hd
  have b1 := bl_ge1 hn
  have b2 := bl_ge1 hd
  have e : rootE0 n d w = (bl n - bl d) / 2 - w := rfl
  generalize rootE0 n d w = e0 at *
  obtain ⟨Z, hZ, hz⟩ : ∃ Z : Int, 0 ≤ Z ∧ 0 ≤ e0 + 1 + Z := ⟨max 0 (-(e0 + 1)), by omega, by omega⟩
  rw [cmp_le hZ hz]
  intro h
  have e1 : d * (1 * p2 w) * (1 * p2 w) * p2 (2 * (e0 + 1 + Z)) = d * p2 (2 * (e0 + 1 + Z + w)) := by
    rw [Int.one_mul, Int.mul_assoc, Int.mul_assoc, ← Int.mul_assoc (p2 w), pw_sq (by omega), ← pw_add (by omega) (by omega)]
    congr 2
    omega
  rw [e1, Int.mul_one, Int.mul_one] at h
  have c1 : p2 (bl d - 1) * p2 (2 * (e0 + 1 + Z + w)) ≤ d * p2 (2 * (e0 + 1 + Z + w)) := Int.mul_le_mul_of_nonneg_right a2 (Int.le_of_lt (pw_pos _))
  have c2 : n * p2 (2 * Z) < p2 (bl n) * p2 (2 * Z) := Int.mul_lt_mul_of_pos_right a1 (pw_pos _)
  rw [← pw_add (by omega) (by omega)] at c1 c2
  have c3 := pw_mono (show bl n + 2 * Z ≤ bl d - 1 + 2 * (e0 + 1 + Z + w) by omega)
  omega
/-- what the two fields are, at any scale -/
structure RootCell (n d w e k : Int) : Prop where
  lo : p2 (w - 1) ≤ k
  hi : k < p2 w
  le : ∀ Z, 0 ≤ Z → 0 ≤ e + Z → d * k * k * p2 (2 * (e + Z)) ≤ n * p2 (2 * Z)
  lt : ∀ Z, 0 ≤ Z → 0 ≤ e + Z → n * p2 (2 * Z) < d * (k + 1) * (k + 1) * p2 (2 * (e + Z))
theorem rootE_hi {n d w : Int} (hn : 0 < n) (hd : 0 < d) (hw : 1 ≤ w) : sgL n (rootE n d w) 1 < sgR d (rootE n d w) (p2 w) := by
  unfold rootE
  split
  · have h := rootE0_hi hn hd hw
    rw [(cmpR_cases ..).1, Int.one_mul] at h
    omega
  · rename_i h
    rw [(cmpR_cases ..).1, Int.one_mul] at h
    omega
theorem rootE_lo {n d w : Int} (hn : 0 < n) (hd : 0 < d) (hw : 1 ≤ w) : sgR d (rootE n d w) (p2 (w - 1)) ≤ sgL n (rootE n d w) 1 := by
  have a1 := bl_lo hn
  have a2 := bl_hi hd
  have b1 := bl_ge1 hn
  have b2 := bl_ge1 hd
  have e : rootE0 n d w = (bl n - bl d) / 2 - w := rfl
  unfold rootE
  split
  · rename_i h
    rw [(cmpR_cases ..).1, Int.one_mul] at h
    generalize rootE0 n d w = e0 at *
    obtain ⟨Z, hZ, hz⟩ : ∃ Z : Int, 0 ≤ Z ∧ 0 ≤ e0 + Z := ⟨max 0 (-e0), by omega, by omega⟩
    rw [cmp_le hZ hz] at h
    rw [cmp_le hZ (by omega)]
    have e1 : d * p2 (w - 1) * p2 (w - 1) * p2 (2 * (e0 + 1 + Z)) = d * p2 w * p2 w * p2 (2 * (e0 + Z)) := by
      rw [Int.mul_assoc, Int.mul_assoc, ← Int.mul_assoc (p2 (w - 1)), pw_sq (by omega), ← pw_add (by omega) (by omega), Int.mul_assoc, Int.mul_assoc, ← Int.mul_assoc (p2 w), pw_sq (by omega), ← pw_add (by omega) (by omega)]
      congr 2
      omega
    rw [e1]
    exact h
  · generalize rootE0 n d w = e0 at *
    obtain ⟨Z, hZ, hz⟩ : ∃ Z : Int, 0 ≤ Z ∧ 0 ≤ e0 + Z := ⟨max 0 (-e0), by omega, by omega⟩
    rw [cmp_le hZ hz]
    have e1 : d * p2 (w - 1) * p2 (w - 1) * p2 (2 * (e0 + Z)) = d * p2 (2 * (e0 + Z + w - 1)) := by
      rw [Int.mul_assoc, Int.mul_assoc, ← Int.mul_assoc (p2 (w - 1)), pw_sq (by omega), ← pw_add (by omega) (by omega)]
      congr 2
      omega
    rw [e1, Int.mul_one, Int.mul_one]
    have c1 : d * p2 (2 * (e0 + Z + w - 1)) ≤ p2 (bl d) * p2 (2 * (e0 + Z + w - 1)) := Int.mul_le_mul_of_nonneg_right (Int.le_of_lt a2) (Int.le_of_lt (pw_pos _))
    have c2 : p2 (bl n - 1) * p2 (2 * Z) ≤ n * p2 (2 * Z) := Int.mul_le_mul_of_nonneg_right a1 (Int.le_of_lt (pw_pos _))
    rw [← pw_add (by omega) (by omega)] at c1 c2
    have c3 := pw_mono (show bl d + 2 * (e0 + Z + w - 1) ≤ bl n - 1 + 2 * Z by omega)
    omega
theorem root_cell {n d w : Int} (hn : 0 < n) (hd : 0 < d) (hw : 1 ≤ w) : RootCell n d w (rootE n d w) (rootK n d w) := by
  have hlo := rootE_lo hn hd hw
  have hhi := rootE_hi hn hd hw
  unfold rootK
  generalize rootE n d w = e at *
  have B0 : 0 < d * p2 (max 0 (2 * e)) := Int.mul_pos hd (pw_pos _)
  have A0 : 0 < n * p2 (max 0 (0 - 2 * e)) := Int.mul_pos hn (pw_pos _)
  have L1 : sgL n e 1 = n * p2 (max 0 (0 - 2 * e)) := by unfold sgL; rw [Int.mul_one, Int.mul_one]
  have R1 : ∀ t, sgR d e t = t * t * (d * p2 (max 0 (2 * e))) := fun t => by unfold sgR; grind
  generalize hA : n * p2 (max 0 (0 - 2 * e)) = A at *
  generalize hB : d * p2 (max 0 (2 * e)) = B at *
  rw [R1, L1] at hlo hhi
  have q0 : 0 ≤ A / B := Int.ediv_nonneg (by omega) (by omega)
  have i1 := isq_le q0
  have i2 := isq_lt q0
  have i0 := isq_nn (A / B)
  have dv1 : A / B * B ≤ A := Int.ediv_mul_le A (by omega)
  have dv2 : A < (A / B + 1) * B := Int.lt_ediv_add_one_mul_self A B0
  generalize isq (A / B) = k at *
  have p1 := pw_pos (w - 1)
  have pw' := pw_pos w
  have kle : k * k * B ≤ A := Int.le_trans (Int.mul_le_mul_of_nonneg_right i1 (by omega)) dv1
  have klt : A < (k + 1) * (k + 1) * B := Int.lt_of_lt_of_le dv2 (Int.mul_le_mul_of_nonneg_right (by omega) (by omega))
  refine ⟨?_, ?_, fun Z hZ hz => ?_, fun Z hZ hz => ?_⟩
  · rcases Int.lt_or_le k (p2 (w - 1)) with h | h
    · have : (k + 1) * (k + 1) ≤ p2 (w - 1) * p2 (w - 1) := Int.mul_le_mul (by omega) (by omega) (by omega) (by omega)
      have := Int.mul_le_mul_of_nonneg_right this (show 0 ≤ B by omega)
      omega
    · exact h
  · rcases Int.lt_or_le k (p2 w) with h | h
    · exact h
    · have : p2 w * p2 w ≤ k * k := Int.mul_le_mul h h (by omega) (by omega)
      have := Int.mul_le_mul_of_nonneg_right this (show 0 ≤ B by omega)
      omega
  · have h := (cmp_le (n := n) (d := d) (t := k) (b := 1) hZ hz).mp (by rw [R1, L1]; exact kle)
    rw [Int.mul_one, Int.mul_one] at h
    exact h
  · have h := (mt (cmp_le (n := n) (d := d) (t := k + 1) (b := 1) hZ hz).mpr) (by rw [R1, L1]; omega)
    rw [Int.mul_one, Int.mul_one] at h
    omega
end SR
end
section
set_option Elab.async false
set_option linter.all false
set_option maxRecDepth 100000
set_option maxHeartbeats 1000000
/-! Root made; rounded_root. -/
namespace SR
open PySem PySem.Spec PyProof.Rows L2
open Evl (Ex)
open C8 (Cal Met Mak pe_c pe_mt pe_mt0 pe_mk pe_gc)
/-- all but p is kept -/
def Exb (p : Addr) (H H' : Hp) : Prop := ∀ a o, a ≠ p → H a = some o → H' a = some o
theorem Exb.refl (p : Addr) (H : Hp) : Exb p H H := fun _ _ _ h => h
theorem Exb.ex {p : Addr} {H H1 H2 : Hp} (h : Exb p H H1) (e : Ex H1 H2) : Exb p H H2 := fun a o n q => e a o (h a o n q)
theorem Exb.upd {p : Addr} {H H1 : Hp} {o : HO} (h : Exb p H H1) : Exb p H (L2.upd H1 p o) := fun a o' n q => by
  rw [upd_ne n]
  exact h a o' n q
section
variable {K : PySem.W.Frag} {t u ta tb te : TE} {d d1 d2 : PyData} {ds es : List PyData} {t1 t2 : TS} {i j : Nat} {D : Ends} {σ : L2.St} {H : Hp} {v : V}
theorem ve_bits {n : Int} (h : VE K t σ H (.int n)) : VE K (tBits t) σ H (.int (bl n)) := fun H0 e0 Q q => h H0 e0 _ fun v H1 e1 hv => ⟨n, dp_int hv, by
  rw [bits_eq]
  exact q _ H1 e1 (.int _)⟩
theorem vs_while {c : TT} (W : Nat → L2.St → Hp → Prop) (m0 : Nat) (h0 : W m0 σ H)
    (hs : ∀ m σ' H', W m σ' H' → ∃ b, VT c σ' H' b ∧ (b = true → ∀ H1, Ex H' H1 → t1 { D with nx := fun σ2 H2 => ∃ m', m' < m ∧ W m' σ2 H2, ct := fun σ2 H2 => ∃ m', m' < m ∧ W m' σ2 H2, bk := D.nx } σ' H1) ∧ (b = false → ∀ H1, Ex H' H1 → D.nx σ' H1)) : tWhile c t1 D σ H := by
  refine ⟨W, ⟨m0, h0⟩, ?_⟩
  intro m σ' H' w
  obtain ⟨b, hc, h1, h2⟩ := hs m σ' H' w
  refine hc H' (Evl.Ex.refl _) _ fun H1 e1 => ?_
  cases b with
  | true => exact ⟨_, fun σ2 H2 h => h, h1 rfl H1 e1⟩
  | false => exact h2 rfl H1 e1
theorem vs_fldaug {p C dx : Addr} {fs : List (Str × V)} {f : Str} {a b : Int} (ho : VV ta σ H (.ref p)) (hp : H p = some (.ins C dx fs)) (hc : Cls K C) (hn : NoAttr K C f) (hl : fs.lookup f = some (.int a)) (hv : VE K te σ H (.int b)) (hz : fs.length < 1000)
    (k : ∀ H', Ex H H' → D.nx σ (upd H' p (.ins C dx (putF f (.int (a + b)) fs)))) : sFldAug K ta te rAdd f D σ H :=
  ho H (Evl.Ex.refl H) _ fun H1 e1 => ⟨p, C, dx, fs, .int a, rfl, e1 _ _ hp, hc, hn, hl, hv H1 e1 _ fun v H2 e2 hd => ⟨a, b, rfl, dp_int hd, dx, fs, e2 _ _ (e1 _ _ hp), hz, k H2 (e1.trans e2)⟩⟩
end
theorem hs_mk {K : PySem.W.Frag} {ρ : Rho} {C : Addr} {sp : Sp} {tr : TA} {ds : List PyData} {i : Nat} {D : Ends} {σ : L2.St} {H : Hp} (ha : XA K tr ρ ds) (E : EnvR K H σ ρ)
    (k : ∀ vs H1, Ex H H1 → DpAll K H1 vs ds → ∀ p dx, H1 p = none → H1 dx = none → dx ≠ p → sp (.ref p :: (vs ++ [])) (upd (upd H1 dx (.own p)) p (.ins C dx [])) (fun v H2 => v = .non ∧ D.nx (σ.set i (some (.ref p))) H2) E0) : tAsg (tMake C sp [] E0 tr) (gName i) D σ H :=
  ha σ H E _ fun vs H1 e1 hvs p dx h1 h2 h3 => k vs H1 e1 hvs p dx h1 h2 h3
structure RtOk (n d w : Int) : Prop where
  n0 : 0 < n
  d0 : 0 < d
  n : Bd 1100 n
  d : Bd 1100 d
  w1 : 1 ≤ w
  w2 : w ≤ 100
theorem RtOk.e0 {n d w : Int} (h : RtOk n d w) : -700 ≤ rootE0 n d w ∧ rootE0 n d w ≤ 600 := by
  have h1 := h.n.bl
  have h2 := h.d.bl
  have h3 := bl_ge1 h.n0
  have h4 := bl_ge1 h.d0
  have := h.w1
  have := h.w2
  unfold rootE0
  omega
theorem RtOk.e {n d w : Int} (h : RtOk n d w) : -700 ≤ rootE n d w ∧ rootE n d w ≤ 601 := by
  have := h.e0
  unfold rootE
  split <;> omega
def spMkRoot (K : PySem.W.Frag) : Sp := fun vs H Q _ => ∃ p dx n d w, vs = [.ref p, .int n, .int d, .int w] ∧ H p = some (.ins (rC K) dx []) ∧ RtOk n d w ∧
  ∀ H', Exb p H H' → H' p = some (.ins (rC K) dx (rootF n d (rootE n d w) (rootK n d w))) → Q .non H'
theorem root_bd {n d w : Int} (h : RtOk n d w) : Bd 200 (rootK n d w) := by
  have c := root_cell h.n0 h.d0 h.w1
  have lo := c.lo
  have hi := c.hi
  have := pw_pos (w - 1)
  exact (Bd.p2 (e := w) (b := 199) (by have := h.w2; omega)).le (by omega) (by omega)
section
variable {P : Program} {w : World} {K : PySem.W.Frag} {mg : Str → Option Value} {base : Heap}
theorem sc_Root___init : FnScope ["self", "n", "d", "width", "up", "down"] ["self", "n", "d", "width"] (defScope sRoot___init__) := ⟨rfl, rfl, rfl, by decide +kernel, rfl, by decide +kernel, by decide +kernel⟩
theorem mak_Root (T : Top w K mg) : Mak P w K mg base 2 "Root" (He.ga K "Root") (spMkRoot K) [] := by
  obtain ⟨fd, F⟩ := T.fRoot___init__
  refine ⟨_, fd, ["self", "n", "d", "width"], [], T.mk_Root, F.ok sc_Root___init (fun vs H Q E h => ?_) (fun cdv A outer s H vs Q E hr h => ⟨_, PSs.nox (pss_cons (ps_fld (pv 0) (pv 1) rfl)
      (pss_cons (ps_fld (pv 0) (pv 2) rfl)
      (pss_cons (ps_fld (pv 0) (pe_op op_sub (pe_op op_fdivW (pe_op op_sub (pe_bits (pv 1)) (pe_bits (pv 2))) pe_int) (pv 3)) rfl)
      (pss_cons (ps_while PassesOwn.never (pt_cmpR op_ge (pe_mt (met_Root_compared_with T) hr (by decide) (pv 0) (pa_cons (pe_op op_shlW pe_int (pv 3)) (pa_cons pe_int pa_nil))) pe_int (nomark _)) (pss_one (ps_fldaug (pv 0) pe_int in_add)))
      (pss_cons (ps_par (i := 4) (j := 5) rfl sc_Root___init.nd rfl rfl (by decide) rfl rfl (pa_cons (pe_callB (call_max2 rfl) (by rfl) T.b_max (by decide +kernel) (pa_cons pe_int (pa_cons (pe_op op_sub pe_int (pe_op op_mulX pe_int (pe_fld (pv 0) rfl))) pa_nil))) (pa_cons (pe_callB (call_max2 rfl) (by rfl) T.b_max (by decide +kernel) (pa_cons pe_int (pa_cons (pe_op op_mulX pe_int (pe_fld (pv 0) rfl)) pa_nil))) pa_nil)) (by rfl))
      (pss_one (ps_fld (pv 0) (pe_c (cal_whole_root T) hr (by decide) rfl (pa_cons (pe_op op_fdivW (pe_op op_shlW (pv 1) (pv 4)) (pe_op op_shlW (pv 2) (pv 5))) pa_nil)) rfl))))))), ?_⟩), T.g_Root, F.bindsN (ps := ["self", "n", "d", "width"]) fun _ _ _ _ _ _ us hl => match us, hl with | [_, _, _, _], _ => rfl, .nil⟩
  · obtain ⟨p, dx, n, d, w, rfl, _⟩ := h
    rfl
  obtain ⟨p, dx, n, d, w, rfl, hp, ok, q⟩ := h
  have hw1 := ok.w1
  have hw2 := ok.w2
  have he0 := ok.e0
  have b2 : ∀ e : Int, -1000 ≤ e → e ≤ 1000 → CMulX 2 e := fun e h1 h2 => by
    have hE : e.natAbs < 2 ^ 12 := by omega
    exact mulx_ok (show (2 : Int).natAbs < 2 ^ 2 by decide) hE (by decide)
  refine vs_fld (K := K) (ve_varI rfl) (vv_var rfl) hp T.cl_Root T.na_Root_n (by show 0 < 1000; decide) fun v H1 e1 d1 => ?_
  cases dp_int d1
  refine vs_fld (K := K) (ve_varI rfl) (vv_var rfl) upd_same T.cl_Root T.na_Root_d (by show 1 < 1000; decide) fun v H2 e2 d2 => ?_
  cases dp_int d2
  have x2 : Exb p H (upd H2 p (.ins (rC K) dx [("n", .int n), ("d", .int d)])) := (((Exb.refl p H).ex e1).upd.ex e2).upd
  refine vs_fld (K := K) (ve_sub (ve_fdiv (ve_sub (ve_bits (ve_varI rfl)) (ve_bits (ve_varI rfl))) ve_int (Bd.two.div (by decide) (by decide))) (ve_varI rfl)) (vv_var rfl) upd_same T.cl_Root T.na_Root_e (by show 2 < 1000; decide) fun v H3 e3 d3 => ?_
  cases dp_int d3
  refine vs_while (fun m σ' H' => σ' = start ["self", "n", "d", "width", "up", "down"] [V.ref p, .int n, .int d, .int w] ∧ Exb p H H' ∧ ∃ e, H' p = some (.ins (rC K) dx [("n", .int n), ("d", .int d), ("e", .int e)]) ∧
    ((e = rootE0 n d w ∧ m = 1) ∨ (e = rootE0 n d w + 1 ∧ m = 0 ∧ 0 ≤ cmpR n d (rootE0 n d w) (1 * p2 w) 1))) 1 ⟨rfl, (x2.ex e3).upd, rootE0 n d w, upd_same, .inl ⟨rfl, rfl⟩⟩ ?_
  rintro m σ' H4 ⟨rfl, x4, e, h4, he⟩
  have hE : -1000 ≤ e ∧ e ≤ 1000 := by rcases he with ⟨rfl, _⟩ | ⟨rfl, _⟩ <;> omega
  refine ⟨_, vt_test (K := K) (ve_ge (ve_mt (o := .int (cmpR n d e (1 * p2 w) 1)) (vv_var rfl) h4 rfl (va_cons (ve_shl ve_int (ve_varI rfl) (Bd.one.shl (b := 100) (by omega) (by omega) (by decide))) (va_cons ve_int va_nil)) (fun vs H5 e5 hvs Q q5 => ?_) fun _ _ => .int _) ve_int), fun hb H5 e5 => ?_, fun hb H5 e5 => ?_⟩
  · obtain ⟨v, u, rfl, hv, hu⟩ := dps2 hvs
    rw [dp_int hv, dp_int hu]
    refine ⟨p, dx, _, n, d, e, _, _, rfl, e5 _ _ h4, rfl, rfl, rfl, ⟨ok.n.mono (by decide), ok.d.mono (by decide), by omega, by omega, ?_, Bd.one.mono (by decide)⟩, q5⟩
    rw [Int.one_mul]
    exact (Bd.p2 (b := 100) (by omega)).mono (by decide)
  · have hc : 0 ≤ cmpR n d e (1 * p2 w) 1 := of_decide_eq_true hb
    rcases he with ⟨rfl, rfl⟩ | ⟨rfl, rfl, _⟩
    · refine vs_fldaug (K := K) (vv_var rfl) (e5 _ _ h4) T.cl_Root T.na_Root_e rfl ve_int (by show 3 < 1000; decide) fun H6 e6 => ?_
      exact ⟨0, by decide, rfl, ((x4.ex e5).ex e6).upd, rootE0 n d w + 1, upd_same, .inr ⟨rfl, rfl, hc⟩⟩
    · exact absurd hc (rootE0_hi ok.n0 ok.d0 hw1)
  · have hc : ¬ 0 ≤ cmpR n d e (1 * p2 w) 1 := of_decide_eq_false hb
    have ee : e = rootE n d w := by
      unfold rootE
      rcases he with ⟨rfl, _⟩ | ⟨rfl, _, h⟩
      · rw [if_neg hc]
      · rw [if_pos h]
    subst ee
    have h5 := e5 _ _ h4
    refine vs_par (va_cons (ve_max2 ve_int (ve_sub ve_int (ve_mul ve_int (ve_fldI rfl h5 T.cl_Root T.na_Root_e rfl) (b2 _ hE.1 hE.2)))) (va_cons (ve_max2 ve_int (ve_mul ve_int (ve_fldI rfl h5 T.cl_Root T.na_Root_e rfl) (b2 _ hE.1 hE.2))) va_nil)) fun v u H6 e6 d1 d2 => ?_
    cases dp_int d1
    cases dp_int d2
    have m1 : (max 0 (0 - 2 * rootE n d w)) ≤ ((2000 : Nat) : Int) := by omega
    have m2 : (max 0 (2 * rootE n d w)) ≤ ((2000 : Nat) : Int) := by omega
    refine vs_fld (K := K) (ve_call (va_cons (ve_fdiv (ve_shl (ve_varI rfl) (ve_varI rfl) (ok.n.shl (by omega) m1 (by decide))) (ve_shl (ve_varI rfl) (ve_varI rfl) (ok.d.shl (by omega) m2 (by decide))) ?_) va_nil) (R_whole_root.mk ?_)) (vv_var rfl) (e6 _ _ h5) T.cl_Root T.na_Root_k (by show 3 < 1000; decide) fun v H7 e7 d7 => ?_
    · exact (ok.d.shlv m2).div (Int.mul_pos ok.d0 (pw_pos _)) (by decide)
    · exact ((ok.n.shlv m1).ediv (Int.mul_pos ok.d0 (pw_pos _))).mono (by decide)
    · cases dp_int d7
      exact q _ (((x4.ex e5).ex e6).ex e7).upd upd_same
theorem thr_ok {c : Chain} (h : ChOk c) : ThOk 2000 (thrC c).1 ∧ ThOk 2000 (thrC c).2 := by
  obtain ⟨s0, rest, rfl⟩ : ∃ s0 rest, c = s0 :: rest := by
    cases c with
    | nil => have := h.pos; simp at this
    | cons s0 rest => exact ⟨s0, rest, rfl⟩
  have hs0 := h.ok s0 (List.mem_cons_self ..)
  have key : ∀ (c : Chain) (w : Int) (p : Thr × Thr), Desc w c → (∀ s ∈ c, 1 ≤ s.1) → w ≤ s0.1 → 1 ≤ w → ThOk (2 + (s0.1 - w).toNat) p.1 ∧ ThOk (2 + (s0.1 - w).toNat) p.2 → ThOk 2000 (thrFrom w p c).1 ∧ ThOk 2000 (thrFrom w p c).2 := by
    intro c
    induction c with
    | nil => intro w p _ _ hw0 hw1 hp; exact ⟨hp.1.mono (by omega), hp.2.mono (by omega)⟩
    | cons t c ih =>
      intro w p hd hm hw0 hw1 hp
      have h1 := hm t (List.mem_cons_self ..)
      have h2 := hd.1
      refine ih t.1 (combined p t.2 (w - t.1)) hd.2 (fun s hs => hm s (List.mem_cons_of_mem _ hs)) (by omega) h1 ?_
      have ok := fun q => comb_ok (r := t.2) (q := q) hp.1 hp.2 (show 1 ≤ w - t.1 by omega) (f := (w - t.1).toNat) (by omega)
      exact ⟨(ok 0).mono (by omega), (ok 1).mono (by omega)⟩
  exact key (trimFrom s0.1 rest) s0.1 (byRuleT s0.2) (trimFrom_desc rest s0.1) (fun t ht => (h.ok t (List.mem_cons_of_mem _ (trimFrom_mem rest s0.1 t ht))).1) (Int.le_refl _) hs0.1 (by rw [Int.sub_self]; exact byRule_ok s0.2)
inductive R_rounded_root : List PyData → PyData → Prop
  | mk {x : Num} {c : Chain} (h : ChOk c ∧ Nm1 x ∧ Nm 1100 x) : R_rounded_root [numD x, chD c] (numD (rootRound x c))
theorem sc_rounded_root : FnScope ["number", "chain", "root", "goes_up"] ["number", "chain"] (defScope srounded_root) := ⟨rfl, rfl, rfl, by decide +kernel, rfl, by decide +kernel, by decide +kernel⟩
theorem cal_rounded_root (T : Top w K mg) : Cal P w K mg base 8 "rounded_root" (spP K R_rounded_root) [] := by
  obtain ⟨fd, F⟩ := T.frounded_root
  refine cal_pureH F T.g_rounded_root (F.bindsN (ps := ["number", "chain"]) fun _ _ _ _ _ _ us hl => match us, hl with | [_, _], _ => rfl) sc_rounded_root (fun ds d r => by cases r; rfl) fun cdv A outer s H0 hr => ⟨_, (pss_cons (ps_if (pt_not (pt_val (pe_c (cal_is_number T) hr (by decide) rfl (pa_cons (pv 0) pa_nil)))) (pss_one ps_never) pss_nil)
      (pss_cons (ps_if (pt_not (pt_val (pe_c (cal_is_chain T) hr (by decide) rfl (pa_cons (pv 1) pa_nil)))) (pss_one ps_never) pss_nil)
      (pss_cons (ps_set (i := 2) sc_rounded_root.nd rfl (Or.inl rfl) (pe_mk (mak_Root T) hr (by decide) rfl (pa_cons (pe_ix ix_tup (pv 0) pe_int (fun _ _ => rfl)) (pa_cons (pe_ix ix_tup (pv 0) pe_int (fun _ _ => rfl)) (pa_cons (pe_c (cal_last_width T) hr (by decide) rfl (pa_cons (pv 1) pa_nil)) pa_nil)))))
      (pss_cons (ps_set (i := 3) sc_rounded_root.nd rfl (Or.inl rfl) (pe_and (pe_not (pe_mt0 (met_Root_is_exact T) hr (by decide) (pv 2))) (pe_one (pe_mt (met_Root_is_above T) hr (by decide) (pv 2) (pa_cons (pe_c (cal_thresholds T) hr (by decide) rfl (pa_cons (pv 1) pa_nil)) pa_nil)))))
      (pss_one (ps_ret (pe_c (cal_power_number T) hr (by decide) rfl (pa_cons (pe_op op_add (pe_fld (pv 2) rfl) (pe_callTy call_int1 (by rfl) T.b_int (by decide +kernel) (pa_cons (pv 3) pa_nil))) (pa_cons (pe_fld (pv 2) rfl) pa_nil))))))))), fun ds d r σ H Q E kQ => ?_⟩
  cases r
  rename_i x c h
  obtain ⟨hc, hx1, hx⟩ := h
  have mw := minW_ok hc
  have ok : RtOk x.1 x.2 (minW c) := ⟨hx.n0, hx.d0, hx.n, hx.d, mw.1, mw.2⟩
  refine hs_if (XT.to (xt_not (xt_B (xe_call (xa_cons (xe_var rfl) xa_nil) (R_is_number.mk hx1)))) rfl) E (fun z => nomatch z) fun _ H1 e1 E1 => ?_
  refine hs_if (XT.to (xt_not (xt_B (xe_call (xa_cons (xe_var rfl) xa_nil) (R_is_chain.mk hc)))) rfl) E1 (fun z => nomatch z) fun _ H2 e2 E2 => ?_
  have lenσ := E.len
  refine hs_mk (xa_cons (xe_ixT (ds := [.int x.1, .int x.2]) (xe_var rfl) xe_int (by decide) rfl) (xa_cons (xe_ixT (ds := [.int x.1, .int x.2]) (xe_var rfl) xe_int (by decide) rfl) (xa_cons (xe_call (xa_cons (xe_var rfl) xa_nil) (R_last_width.mk hc)) xa_nil))) E2 fun vs H3 e3 hvs p dx hp hdx hne => ?_
  obtain ⟨v1, vs', rfl, hv1, hvs'⟩ := dps_cons hvs
  obtain ⟨v2, v3, rfl, hv2, hv3⟩ := dps2 hvs'
  cases dp_int hv1
  cases dp_int hv2
  cases dp_int hv3
  refine ⟨p, dx, x.1, x.2, minW c, rfl, upd_same, ok, fun H4 x4 h4 => ⟨rfl, ?_⟩⟩
  have e4 : Ex H3 H4 := fun a o q => by
    have n1 : a ≠ p := fun z => by rw [z, hp] at q; cases q
    have n2 : a ≠ dx := fun z => by rw [z, hdx] at q; cases q
    exact x4 a o n1 (by rw [upd_ne n1, upd_ne n2]; exact q)
  have E4 : EnvR K H4 (σ.set 2 (some (.ref p))) [some (numD x), some (chD c), none, none] := ((E2.ex e3).ex e4).setX
  have hs2 : (σ.set 2 (some (V.ref p)))[2]? = some (some (.ref p)) := List.getElem?_set_self (by rw [lenσ]; show 2 < 4; decide)
  have bk := root_bd ok
  have he := ok.e
  have th := thr_ok hc
  have rc := root_cell ok.n0 ok.d0 ok.w1
  have rx : rootExact x.1 x.2 (minW c) = decide (cmpR x.1 x.2 (rootE x.1 x.2 (minW c)) (rootK x.1 x.2 (minW c)) 1 = 0) := rfl
  have ra : rootAbove x.1 x.2 (minW c) (thrC c) = aboveR x.1 x.2 (rootE x.1 x.2 (minW c)) (rootK x.1 x.2 (minW c)) (thrC c) := rfl
  have rr : rootRound x c = powN (rootK x.1 x.2 (minW c) + (if (!rootExact x.1 x.2 (minW c) && rootAbove x.1 x.2 (minW c) (thrC c)) = true then 1 else 0)) (rootE x.1 x.2 (minW c)) := rfl
  rw [rx, ra] at rr
  generalize rootE x.1 x.2 (minW c) = e at *
  generalize rootK x.1 x.2 (minW c) = k at *
  have cok : CmpOk x.1 x.2 e k 1 := ⟨hx.n.mono (by decide), hx.d.mono (by decide), by omega, by omega, bk.mono (by decide), Bd.one.mono (by decide)⟩
  have hk1 : minW c = 1 → k % 2 = 1 := fun h1 => by
    have lo := rc.lo
    have hi := rc.hi
    rw [h1] at lo hi
    have a1 : p2 (1 - 1) = 1 := rfl
    have a2 : p2 1 = 2 := rfl
    omega
  refine vs_asg (K := K) (ve_andV (ve_notV (ve_mt (o := .bl (decide (cmpR x.1 x.2 e k 1 = 0))) (vv_var hs2) h4 rfl va_nil (fun vs H5 e5 hvs Q q5 => ?_) fun _ _ => .bl _)) fun _ =>
    ve_mt (o := .bl (aboveR x.1 x.2 e k (thrC c))) (vv_var hs2) h4 rfl (va_cons (ve_x (xe_call (xa_cons (xe_var rfl) xa_nil) (R_thresholds.mk hc)) E4) va_nil) (fun vs H5 e5 hvs Q q5 => ?_) fun _ _ => .bl _) fun v H5 e5 d5 => ?_
  · cases dps_nil hvs
    exact ⟨p, dx, x.1, x.2, e, k, rfl, e5 _ _ h4, cok, q5⟩
  · obtain ⟨v, rfl, hv⟩ := dps1 hvs
    exact ⟨p, dx, x.1, x.2, e, k, v, minW c, thrC c, rfl, e5 _ _ h4, hv, mw.1, hk1, cok, bk, th.1, th.2, q5⟩
  · have E5 := (E4.ex e5).set (i := 3) d5
    have hs5 : ((σ.set 2 (some (V.ref p))).set 3 (some v))[2]? = some (some (.ref p)) := by
      rw [List.getElem?_set_ne (by decide)]
      exact hs2
    have h5 := e5 _ _ h4
    refine vs_ret (ve_call (va_cons (ve_add (ve_fldI hs5 h5 T.cl_Root T.na_Root_k rfl) (ve_x (xe_intB (xe_var rfl)) E5)) (va_cons (ve_fldI hs5 h5 T.cl_Root T.na_Root_e rfl) va_nil)) (R_power_number.mk ?_)) fun v H6 e6 d6 => ?_
    · refine ⟨?_, by omega, by omega⟩
      have b1 : Bd 200 (if (!decide (cmpR x.1 x.2 e k 1 = 0) && aboveR x.1 x.2 e k (thrC c)) = true then 1 else 0) := by
        split
        · exact Bd.one.mono (by decide)
        · exact Bd.zero.mono (by decide)
      exact (bk.add b1).mono (by decide)
    · rw [rr] at kQ
      exact kQ _ _ (((((e1.trans e2).trans e3).trans e4).trans e5).trans e6) d6
end
end SR
end
section
set_option Elab.async false
set_option linter.all false
set_option maxRecDepth 100000
set_option maxHeartbeats 1000000
/-! Bench's small defs; what the bench is on the heap. -/
namespace SR
open PySem PySem.Spec PyProof.Rows L2
open Evl (Ex)
open C8 (Cal Met Mak pe_c pe_mt pe_mt0 pe_mk pe_gc)
theorem hu_of {k : Nat} {A : Around} (r : Room k A) : A.units + 1 < cLine := by
  have := r.units
  omega
theorem hu65 {k : Nat} {A : Around} (r : Room k A) : A.units + 65 < cLine := by
  have := r.un
  omega
def letters : Str := "abcdefghijklmnopqrstuvwxyz"
structure NameOk (z : Str) : Prop where
  pos : 1 ≤ z.length
  le : z.length ≤ 8
  ok : ∀ c ∈ z.cps.toList, c ∈ letters.cps.toList
inductive R_is_name : List PyData → PyData → Prop
  | mk {z : Str} (h : NameOk z) : R_is_name [.str z] (.bool true)
/-- what store asks -/
def InR (x : Num) : Prop := x.1 ≤ x.2 * p2 1000 ∧ x.2 ≤ x.1 * p2 1000
inductive R_is_in_range : List PyData → PyData → Prop
  | mk {x : Num} (h : Nm 9000 x ∧ InR x) : R_is_in_range [numD x] (.bool true)
inductive Meth2 where
  | add | subtract | multiply | divide
  deriving DecidableEq
def ms : Meth2 → Str
  | .add => "add"
  | .subtract => "subtract"
  | .multiply => "multiply"
  | .divide => "divide"
def absI (n : Int) : Int := if n < 0 then -n else n
def exactM (m : Meth2) (x y : Num) : Num := match m with
  | .add => (x.1 * y.2 + y.1 * x.2, x.2 * y.2)
  | .subtract => (absI (x.1 * y.2 - y.1 * x.2), x.2 * y.2)
  | .multiply => (x.1 * y.1, x.2 * y.2)
  | .divide => (x.1 * y.2, x.2 * y.1)
inductive R_exact_result : List PyData → PyData → Prop
  | mk {m : Meth2} {x y : Num} (h : Nm 1100 x ∧ Nm 1100 y) : R_exact_result [.str (ms m), numD x, numD y] (numD (exactM m x y))
section
variable {P : Program} {w : World} {K : PySem.W.Frag} {mg : Str → Option Value} {base : Heap}
theorem sc_is_name : FnScope ["value", "letter"] ["value"] (defScope sis_name) := ⟨rfl, rfl, rfl, by decide +kernel, rfl, by decide +kernel, by decide +kernel⟩
theorem cal_is_name (T : Top w K mg) : Cal P w K mg base 1 "is_name" (spP K R_is_name) [] := by
  obtain ⟨fd, F⟩ := T.fis_name
  refine cal_pure F T.g_is_name (F.bindsN (ps := ["value"]) fun _ _ _ _ _ _ us hl => match us, hl with | [_], _ => rfl) sc_is_name (fun ds d r => by cases r; rfl) fun cdv A outer s H hr => ⟨_, (pss_one (ps_ret (pe_and (pe_callB call_isi (by rfl) T.b_isinstance (by decide +kernel) (pa_cons (pv 0) (pa_cons (pe_bltn (v := .ty "str") (by rfl) T.b_str (by decide +kernel) rfl) pa_nil))) (pe_and (pe_chain op_le op_le pe_int (pe_callB call_len_str (by rfl) T.b_len (by decide +kernel) (pa_cons (pv 0) pa_nil)) (pe_gc rfl T.v_MOST_LETTERS)) (pe_one (pe_callB (cr_all rfl) (by rfl) T.b_all (by decide +kernel) (pa_cons (pe_lc (own := [("letter", 1)]) (tt := tYes) rfl sc_is_name.nd (pi_str (pv 0)) (blkOk_by (N := ["value", "letter"]) (sc := defScope sis_name) (by decide +kernel)) (fun _ _ _ _ _ => (pg_name (i := 1) sc_is_name.nd rfl (Or.inl rfl) (Or.inr rfl))) (fun _ _ _ _ _ => pts_nil) (fun _ _ _ _ _ => (pe_cmpR op_in_sign (pv 1) (pe_gc rfl T.v_LETTERS) (by rfl)))) pa_nil))))))), fun ds d r => ?_⟩
  cases r
  rename_i z h
  refine xs_ret (xe_andV (xe_isi (b := true) (xe_var rfl) (by intro z; cases z) (by show kitB "str" "str" = some true; decide +kernel)) (fun h1 => (xe_andV (xe_chain (b1 := true) (b2 := true) xe_int (xe_lenS (xe_var rfl) ?_) xe_int ?_ ?_) (fun h2 => (xe_all (bs := List.replicate z.cps.size true) (xe_lc (es := (List.replicate z.cps.size true).map .bool) (xi_str (xe_var rfl)) ?_ (fun i d_ b_ h_ k_ => ?_) ?_ ?_)))))) ?_
  · have := h.le
    omega
  · rintro x y H Q hx hy q
    rw [dp_int hx, dp_int hy]
    refine ⟨1, _, rfl, rfl, ?_⟩
    have e : decide ((1 : Int) ≤ ((z.length : Nat) : Int)) = true := decide_eq_true (by have := h.pos; omega)
    show Q (.bl (decide ((1 : Int) ≤ ((z.length : Nat) : Int)))) H
    rw [e]
    exact q
  · rintro x y H Q hx hy q
    rw [dp_int hx, dp_int hy]
    refine ⟨_, _, rfl, rfl, ?_⟩
    have e : decide (((z.length : Nat) : Int) ≤ 8) = true := decide_eq_true (by have := h.le; omega)
    show Q (.bl (decide (((z.length : Nat) : Int) ≤ 8))) H
    rw [e]
    exact q
  · unfold signsD
    simp
  · unfold signsD at h_
    rw [List.getElem?_map, Array.getElem?_toList] at h_
    cases e : z.cps[i]? with
    | none => rw [e] at h_; cases h_
    | some c =>
      rw [e] at h_
      cases Option.some.inj h_
      have hc : c ∈ z.cps.toList := by
        rw [← Array.getElem?_toList] at e
        exact List.mem_of_getElem? e
      have eb : b_ = .bool (decide (c ∈ letters.cps.toList)) := by
        rw [decide_eq_true (h.ok c hc)]
        rw [List.getElem?_map, List.getElem?_replicate] at k_
        split at k_
        · exact (Option.some.inj k_).symm
        · cases k_
      rw [eb]
      refine ⟨_, _, ?_, xg_name, xe_inSign (xe_var rfl) xe_str⟩
      simp
  · exact fz_all fun d hd => by
      obtain ⟨b, _, rfl⟩ := List.mem_map.mp hd
      rfl
  · unfold signsD
    rw [List.length_map, Array.length_toList]
    have := h.le
    have e : z.length = z.cps.size := rfl
    omega
  · have e : (List.replicate z.cps.size true).all _root_.id = true := by
      rw [List.all_eq_true]
      intro b hb
      exact List.eq_of_mem_replicate hb
    show PyData.bool (true && ((true && true) && (List.replicate z.cps.size true).all _root_.id)) = .bool true
    rw [e]
    rfl
theorem sc_is_in_range : FnScope ["number", "n", "d"] ["number"] (defScope sis_in_range) := ⟨rfl, rfl, rfl, by decide +kernel, rfl, by decide +kernel, by decide +kernel⟩
theorem cal_is_in_range (T : Top w K mg) : Cal P w K mg base 1 "is_in_range" (spP K R_is_in_range) [] := by
  obtain ⟨fd, F⟩ := T.fis_in_range
  refine cal_pure F T.g_is_in_range (F.bindsN (ps := ["number"]) fun _ _ _ _ _ _ us hl => match us, hl with | [_], _ => rfl) sc_is_in_range (fun ds d r => by cases r; rfl) fun cdv A outer s H hr => ⟨_, (pss_cons (ps_asg (pv 0) (pg_tup (n := 2) rfl (pgs_cons (pg_name (i := 1) sc_is_in_range.nd rfl (Or.inl rfl)) (pgs_cons (pg_name (i := 2) sc_is_in_range.nd rfl (Or.inl rfl)) pgs_nil))))
      (pss_one (ps_ret (pe_and (pe_cmpR op_le (pv 1) (pe_op op_shlW (pv 2) (pe_gc rfl T.v_FAR)) (nomark _)) (pe_one (pe_cmpR op_le (pv 2) (pe_op op_shlW (pv 1) (pe_gc rfl T.v_FAR)) (nomark _))))))), fun ds d r => ?_⟩
  cases r
  rename_i x h
  refine (xs_seq (xs_asgG (xe_var rfl) (xg_tup (xgs_cons xg_name (xgs_cons xg_name xgs_nil)) rfl) (xs_ret (xe_andV (xe_le (xe_var rfl) (xe_shl (xe_var rfl) xe_int ?_)) (fun h1 => (xe_le (xe_var rfl) (xe_shl (xe_var rfl) xe_int ?_)))) ?_)))
  · exact h.1.d.shl (b := 1000) (by decide) (by decide) (by decide)
  · exact h.1.n.shl (b := 1000) (by decide) (by decide) (by decide)
  · have e1 : decide (x.1 ≤ x.2 * 2 ^ (1000 : Int).toNat) = true := decide_eq_true h.2.1
    have e2 : decide (x.2 ≤ x.1 * 2 ^ (1000 : Int).toNat) = true := decide_eq_true h.2.2
    rw [e1, e2]
    rfl
theorem sc_exact_result : FnScope ["method", "one", "other"] ["method", "one", "other"] (defScope sexact_result) := ⟨rfl, rfl, rfl, by decide +kernel, rfl, by decide +kernel, by decide +kernel⟩
theorem cal_exact_result (T : Top w K mg) : Cal P w K mg base 1 "exact_result" (spP K R_exact_result) [] := by
  obtain ⟨fd, F⟩ := T.fexact_result
  refine cal_pure F T.g_exact_result (F.bindsN (ps := ["method", "one", "other"]) fun _ _ _ _ _ _ us hl => match us, hl with | [_, _, _], _ => rfl) sc_exact_result (fun ds d r => by cases r; rfl) fun cdv A outer s H hr => ⟨_, (pss_cons (ps_if (pt_cmpR op_eq (pv 0) pe_str (nomark _)) (pss_one (ps_ret (pe_tup (pa_cons (pe_op op_add (pe_op op_mulX (pe_ix ix_tup (pv 1) pe_int (fun _ _ => rfl)) (pe_ix ix_tup (pv 2) pe_int (fun _ _ => rfl))) (pe_op op_mulX (pe_ix ix_tup (pv 2) pe_int (fun _ _ => rfl)) (pe_ix ix_tup (pv 1) pe_int (fun _ _ => rfl)))) (pa_cons (pe_op op_mulX (pe_ix ix_tup (pv 1) pe_int (fun _ _ => rfl)) (pe_ix ix_tup (pv 2) pe_int (fun _ _ => rfl))) pa_nil))))) pss_nil)
      (pss_cons (ps_if (pt_cmpR op_eq (pv 0) pe_str (nomark _)) (pss_one (ps_ret (pe_tup (pa_cons (pe_callB call_abs (by rfl) T.b_abs (by decide +kernel) (pa_cons (pe_op op_sub (pe_op op_mulX (pe_ix ix_tup (pv 1) pe_int (fun _ _ => rfl)) (pe_ix ix_tup (pv 2) pe_int (fun _ _ => rfl))) (pe_op op_mulX (pe_ix ix_tup (pv 2) pe_int (fun _ _ => rfl)) (pe_ix ix_tup (pv 1) pe_int (fun _ _ => rfl)))) pa_nil)) (pa_cons (pe_op op_mulX (pe_ix ix_tup (pv 1) pe_int (fun _ _ => rfl)) (pe_ix ix_tup (pv 2) pe_int (fun _ _ => rfl))) pa_nil))))) pss_nil)
      (pss_cons (ps_if (pt_cmpR op_eq (pv 0) pe_str (nomark _)) (pss_one (ps_ret (pe_tup (pa_cons (pe_op op_mulX (pe_ix ix_tup (pv 1) pe_int (fun _ _ => rfl)) (pe_ix ix_tup (pv 2) pe_int (fun _ _ => rfl))) (pa_cons (pe_op op_mulX (pe_ix ix_tup (pv 1) pe_int (fun _ _ => rfl)) (pe_ix ix_tup (pv 2) pe_int (fun _ _ => rfl))) pa_nil))))) pss_nil)
      (pss_one (ps_ret (pe_tup (pa_cons (pe_op op_mulX (pe_ix ix_tup (pv 1) pe_int (fun _ _ => rfl)) (pe_ix ix_tup (pv 2) pe_int (fun _ _ => rfl))) (pa_cons (pe_op op_mulX (pe_ix ix_tup (pv 1) pe_int (fun _ _ => rfl)) (pe_ix ix_tup (pv 2) pe_int (fun _ _ => rfl))) pa_nil)))))))), fun ds d r => ?_⟩
  cases r
  rename_i m x y h
  obtain ⟨hx, hy⟩ := h
  have q1 : CMulX x.1 y.2 := hx.n.mulx hy.d (by decide)
  have q2 : CMulX y.1 x.2 := hy.n.mulx hx.d (by decide)
  have q3 : CMulX x.2 y.2 := hx.d.mulx hy.d (by decide)
  have q4 : CMulX x.1 y.1 := hx.n.mulx hy.n (by decide)
  have q5 : CMulX x.2 y.1 := hx.d.mulx hy.n (by decide)
  cases m
  all_goals refine (xs_seq (xs_if (xt_test (xe_eqS (xe_var rfl) xe_str)) (fun h1 => (xs_ret (xe_tup (xa_cons (xe_add (xe_mul (xe_ixT (ds := [.int _, .int _]) (xe_var rfl) xe_int (by decide) rfl) (xe_ixT (ds := [.int _, .int _]) (xe_var rfl) xe_int (by decide) rfl) ?_) (xe_mul (xe_ixT (ds := [.int _, .int _]) (xe_var rfl) xe_int (by decide) rfl) (xe_ixT (ds := [.int _, .int _]) (xe_var rfl) xe_int (by decide) rfl) ?_)) (xa_cons (xe_mul (xe_ixT (ds := [.int _, .int _]) (xe_var rfl) xe_int (by decide) rfl) (xe_ixT (ds := [.int _, .int _]) (xe_var rfl) xe_int (by decide) rfl) ?_) xa_nil)) (by show 2 ≤ 1000; decide)) ?_)) (fun h2 => (xs_next (xs_seq (xs_if (xt_test (xe_eqS (xe_var rfl) xe_str)) (fun h3 => (xs_ret (xe_tup (xa_cons (xe_abs (xe_sub (xe_mul (xe_ixT (ds := [.int _, .int _]) (xe_var rfl) xe_int (by decide) rfl) (xe_ixT (ds := [.int _, .int _]) (xe_var rfl) xe_int (by decide) rfl) ?_) (xe_mul (xe_ixT (ds := [.int _, .int _]) (xe_var rfl) xe_int (by decide) rfl) (xe_ixT (ds := [.int _, .int _]) (xe_var rfl) xe_int (by decide) rfl) ?_))) (xa_cons (xe_mul (xe_ixT (ds := [.int _, .int _]) (xe_var rfl) xe_int (by decide) rfl) (xe_ixT (ds := [.int _, .int _]) (xe_var rfl) xe_int (by decide) rfl) ?_) xa_nil)) (by show 2 ≤ 1000; decide)) ?_)) (fun h4 => (xs_next (xs_seq (xs_if (xt_test (xe_eqS (xe_var rfl) xe_str)) (fun h5 => (xs_ret (xe_tup (xa_cons (xe_mul (xe_ixT (ds := [.int _, .int _]) (xe_var rfl) xe_int (by decide) rfl) (xe_ixT (ds := [.int _, .int _]) (xe_var rfl) xe_int (by decide) rfl) ?_) (xa_cons (xe_mul (xe_ixT (ds := [.int _, .int _]) (xe_var rfl) xe_int (by decide) rfl) (xe_ixT (ds := [.int _, .int _]) (xe_var rfl) xe_int (by decide) rfl) ?_) xa_nil)) (by show 2 ≤ 1000; decide)) ?_)) (fun h6 => (xs_next (xs_ret (xe_tup (xa_cons (xe_mul (xe_ixT (ds := [.int _, .int _]) (xe_var rfl) xe_int (by decide) rfl) (xe_ixT (ds := [.int _, .int _]) (xe_var rfl) xe_int (by decide) rfl) ?_) (xa_cons (xe_mul (xe_ixT (ds := [.int _, .int _]) (xe_var rfl) xe_int (by decide) rfl) (xe_ixT (ds := [.int _, .int _]) (xe_var rfl) xe_int (by decide) rfl) ?_) xa_nil)) (by show 2 ≤ 1000; decide)) ?_)))))))))))))
  all_goals first
    | (exfalso; revert h1; decide +kernel)
    | (exfalso; revert h2; decide +kernel)
    | (exfalso; revert h3; decide +kernel)
    | (exfalso; revert h4; decide +kernel)
    | (exfalso; revert h5; decide +kernel)
    | (exfalso; revert h6; decide +kernel)
    | exact q1
    | exact q2
    | exact q3
    | exact q4
    | exact q5
    | rfl
end
end SR
end
section
set_option Elab.async false
set_option linter.all false
set_option maxRecDepth 100000
set_option maxHeartbeats 1000000
/-! What the bench is on the heap; store. -/
namespace SR
open PySem PySem.Spec PyProof.Rows L2
open Evl (Ex)
open C8 (Cal Met Mak pe_c pe_mt pe_mt0 pe_mk pe_gc)
/-- all but these are kept -/
def Exs (L : List Addr) (H H' : Hp) : Prop := ∀ a o, a ∉ L → H a = some o → H' a = some o
theorem Exs.refl (L : List Addr) (H : Hp) : Exs L H H := fun _ _ _ h => h
theorem Exs.of {L : List Addr} {H H' : Hp} (e : Ex H H') : Exs L H H' := fun a o _ h => e a o h
theorem Exs.trans {L : List Addr} {H H1 H2 : Hp} (h : Exs L H H1) (k : Exs L H1 H2) : Exs L H H2 := fun a o n q => k a o n (h a o n q)
theorem Exs.ex {L : List Addr} {H H1 H2 : Hp} (h : Exs L H H1) (e : Ex H1 H2) : Exs L H H2 := fun a o n q => e a o (h a o n q)
theorem Exs.upd {L : List Addr} {H H1 : Hp} {o : HO} {p : Addr} (h : Exs L H H1) (hp : p ∈ L) : Exs L H (L2.upd H1 p o) := fun a o' n q => by
  rw [upd_ne (by intro z; subst z; exact n hp)]
  exact h a o' n q
theorem Exs.mono {L M : List Addr} {H H' : Hp} (h : Exs L H H') (k : ∀ a ∈ L, a ∈ M) : Exs M H H' := fun a o n q => h a o (fun z => n (k a z)) q
/-- a held register -/
abbrev Reg := Str × (Num × Num)
def bothD (x : Num × Num) : PyData := .tuple [numD x.1, numD x.2]
def getR : List Reg → Str → Option (Num × Num)
  | [], _ => none
  | q :: r, z => if q.1 = z then some q.2 else getR r z
def putR (h : List Reg) (z : Str) (x : Num × Num) : List Reg := if (h.any fun q => decide (q.1 = z)) = true then h.map (fun q => if q.1 = z then (q.1, x) else q) else h ++ [(z, x)]
structure HeldR (K : PySem.W.Frag) (H : Hp) (kvs : List (Key × V)) (h : List Reg) : Prop where
  ks : kvs.map (·.1) = h.map fun q => (Sum.inr q.1 : Key)
  vs : DpAll K H (kvs.map (·.2)) (h.map fun q => bothD q.2)
def HeldAt (K : PySem.W.Frag) (H : Hp) (a : Addr) (h : List Reg) : Prop := ∃ kvs, H a = some (.dK kvs) ∧ HeldR K H kvs h
section
variable {K : PySem.W.Frag} {H H' : Hp}
theorem fz_both (x : Num × Num) : Fz (bothD x) = true := rfl
theorem fz_held (h : List Reg) : FzAll (h.map fun q => bothD q.2) = true := fz_all fun d hd => by
  obtain ⟨q, _, rfl⟩ := List.mem_map.mp hd
  rfl
theorem HeldR.tx {kvs : List (Key × V)} {h : List Reg} (r : HeldR K H kvs h) (e : Tx H H') : HeldR K H' kvs h := ⟨r.ks, dps_tx e _ _ (fz_held h) r.vs⟩
theorem HeldR.len {kvs : List (Key × V)} {h : List Reg} (r : HeldR K H kvs h) : kvs.length = h.length := by
  have := congrArg List.length r.ks
  simpa using this
theorem HeldR.get : ∀ {kvs : List (Key × V)} {h : List Reg}, HeldR K H kvs h → ∀ {z : Str} {x : Num × Num}, getR h z = some x → ∃ v, L2.valV kvs (.inr z) = some v ∧ Dp K H v (bothD x)
  | [], [], r, z, x, e => nomatch e
  | [], q :: h, r, z, x, e => by have := r.len; simp at this
  | kv :: kvs, [], r, z, x, e => by have := r.len; simp at this
  | kv :: kvs, q :: h, r, z, x, e => by
    have hk : kv.1 = Sum.inr q.1 ∧ kvs.map (·.1) = h.map fun q => (Sum.inr q.1 : Key) := by
      have := r.ks
      rw [List.map_cons, List.map_cons] at this
      exact List.cons.inj this
    have hv := r.vs
    rw [List.map_cons, List.map_cons] at hv
    cases hv with
    | cons h1 h2 =>
      unfold getR at e
      by_cases hz : q.1 = z
      · rw [if_pos hz] at e
        cases Option.some.inj e
        exact ⟨kv.2, valV_pos (by rw [hk.1, hz]), h1⟩
      · rw [if_neg hz] at e
        obtain ⟨v, a, b⟩ := HeldR.get (kvs := kvs) (h := h) ⟨hk.2, h2⟩ e
        exact ⟨v, by rw [valV_neg (by rw [hk.1]; exact fun z' => hz (Sum.inr.inj z'))]; exact a, b⟩
theorem HeldR.any {kvs : List (Key × V)} {h : List Reg} (r : HeldR K H kvs h) (z : Str) : (kvs.any fun kv => decide (kv.1 = (Sum.inr z : Key))) = h.any fun q => decide (q.1 = z) := by
  have e1 : (kvs.any fun kv => decide (kv.1 = (Sum.inr z : Key))) = (kvs.map (·.1)).any fun k => decide (k = (Sum.inr z : Key)) := by rw [List.any_map]; rfl
  rw [e1, r.ks, List.any_map]
  congr 1
  funext q
  show decide ((Sum.inr q.1 : Key) = Sum.inr z) = decide (q.1 = z)
  rw [Bool.eq_iff_iff]
  simp
theorem HeldR.putMap (z : Str) {x : Num × Num} {v : V} (hv : Dp K H v (bothD x)) : ∀ {kvs : List (Key × V)} {h : List Reg}, HeldR K H kvs h → HeldR K H (kvs.map fun kv => if kv.1 = (Sum.inr z : Key) then (kv.1, v) else kv) (h.map fun q => if q.1 = z then (q.1, x) else q)
  | [], [], r => ⟨rfl, .nil⟩
  | [], q :: h, r => by have := r.len; simp at this
  | kv :: kvs, [], r => by have := r.len; simp at this
  | kv :: kvs, q :: h, r => by
    have hk : kv.1 = Sum.inr q.1 ∧ kvs.map (·.1) = h.map fun q => (Sum.inr q.1 : Key) := by
      have := r.ks
      rw [List.map_cons, List.map_cons] at this
      exact List.cons.inj this
    have hvs := r.vs
    rw [List.map_cons, List.map_cons] at hvs
    cases hvs with
    | cons h1 h2 =>
      have ih := HeldR.putMap z hv (kvs := kvs) (h := h) ⟨hk.2, h2⟩
      by_cases hz : q.1 = z
      · have hz' : kv.1 = (Sum.inr z : Key) := by rw [hk.1, hz]
        rw [List.map_cons, List.map_cons, if_pos hz, if_pos hz']
        exact ⟨by rw [List.map_cons, List.map_cons, ih.ks, hk.1], .cons hv ih.vs⟩
      · have hz' : ¬ kv.1 = (Sum.inr z : Key) := by rw [hk.1]; exact fun z' => hz (Sum.inr.inj z')
        rw [List.map_cons, List.map_cons, if_neg hz, if_neg hz']
        exact ⟨by rw [List.map_cons, List.map_cons, ih.ks, hk.1], .cons h1 ih.vs⟩
theorem HeldR.put {kvs : List (Key × V)} {h : List Reg} (r : HeldR K H kvs h) (z : Str) {x : Num × Num} {v : V} (hv : Dp K H v (bothD x)) : HeldR K H (putK kvs (.inr z) v) (putR h z x) := by
  unfold putK putR
  rw [r.any z]
  split
  · exact r.putMap z hv
  · exact ⟨by rw [List.map_append, List.map_append, r.ks]; rfl, by rw [List.map_append, List.map_append]; exact dps_app r.vs (.cons hv .nil)⟩
theorem HeldAt.mut {a : Addr} {h : List Reg} (r : HeldAt K H a h) (e : H' a = H a) (t : Tx H H') : HeldAt K H' a h := by
  obtain ⟨kvs, h1, h2⟩ := r
  exact ⟨kvs, e.trans h1, h2.tx t⟩
theorem HeldAt.ex {a : Addr} {h : List Reg} (r : HeldAt K H a h) (e : Ex H H') : HeldAt K H' a h := by
  obtain ⟨kvs, h1, h2⟩ := r
  exact ⟨kvs, e _ _ h1, h2.tx (Tx.of_ex e)⟩
theorem ne_kind {a b : Addr} {o u : HO} (ha : H a = some o) (hb : H b = some u) (h : o ≠ u) : a ≠ b := fun z => h (by
  subst z
  exact Option.some.inj (ha.symm.trans hb))
end
/-! ### the bench -/
structure BA where
  p : Addr
  dx : Addr
  hd : Addr
  ml : Addr
  sl : Addr
  pl : Addr
  vc : V
structure BS where
  ch : Chain
  r : Rule
  held : List Reg
  made : List PyData
  splits : List Bool
  prev : Option (List Reg)
  /-- addresses that are none of the bench's own -/
  F : Addr → Prop
def bC (K : PySem.W.Frag) : Addr := He.ga K "Bench"
def benchF (A : BA) (r : Rule) : List (Str × V) := [("staged_chain", A.vc), ("single_rule", .str (rs r)), ("held", .ref A.hd), ("made", .ref A.ml), ("splits", .ref A.sl), ("past", .ref A.pl)]
/-- plainly -/
structure BS.Ok (S : BS) : Prop where
  ch : ChOk S.ch
  len : S.splits.length = S.made.length
  sz : S.made.length ≤ 90
  fz : FzAll S.made = true
  hz : S.held.length ≤ 50
structure Bn (K : PySem.W.Frag) (H : Hp) (A : BA) (S : BS) : Prop where
  ob : H A.p = some (.ins (bC K) A.dx (benchF A S.r))
  ch : Dp K H A.vc (chD S.ch)
  held : HeldAt K H A.hd S.held
  made : ∃ vs, H A.ml = some (.lst vs) ∧ DpAll K H vs S.made
  splits : H A.sl = some (.lst (S.splits.map V.bl))
  past : ∃ vs, H A.pl = some (.lst vs) ∧ vs.length = S.made.length ∧ ∀ h0, S.prev = some h0 → ∃ q, vs.getLast? = some (.ref q) ∧ q ≠ A.hd ∧ ¬ S.F q ∧ HeldAt K H q h0
  fb : ∀ f, S.F f → H f ≠ none
  n1 : A.ml ≠ A.sl
  n2 : A.ml ≠ A.pl
  n3 : A.sl ≠ A.pl
theorem nn_ex {H H' : Hp} {f : Addr} (e : Ex H H') (h : H f ≠ none) : H' f ≠ none := by
  cases hh : H f with
  | none => exact absurd hh h
  | some o => rw [e f o hh]; intro z; cases z
theorem nn_upd {H : Hp} {f p : Addr} {o : HO} (h : H f ≠ none) : L2.upd H p o f ≠ none := by
  by_cases hp : f = p
  · subst hp
    rw [upd_same]
    intro z
    cases z
  · rw [upd_ne hp]
    exact h
theorem Bn.ex {K : PySem.W.Frag} {H H' : Hp} {A : BA} {S : BS} (B : Bn K H A S) (e : Ex H H') : Bn K H' A S := by
  obtain ⟨ob, ch, held, ⟨mv, m1, m2⟩, sp, ⟨pv, p1, p2, p3⟩, fb, n1, n2, n3⟩ := B
  exact ⟨e _ _ ob, dp_ex e _ _ ch, held.ex e, ⟨mv, e _ _ m1, dps_ex e _ _ m2⟩, e _ _ sp, ⟨pv, e _ _ p1, p2, fun h0 q0 => by obtain ⟨q, a, b, nf, c⟩ := p3 h0 q0; exact ⟨q, a, b, nf, c.ex e⟩⟩, fun f hf => nn_ex e (fb f hf), n1, n2, n3⟩
def BS.store (S : BS) (z : Str) (xy : Num × Num) (cd : PyData) : BS := { S with held := putR S.held z xy, made := S.made ++ [cd], splits := S.splits ++ [!decide (xy.1 = xy.2)], prev := some S.held }
theorem eqv_num (x y : Num) : PyData.eqv (numD x) (numD y) = decide (x = y) := by
  show ((x.1 == y.1) && ((x.2 == y.2) && true)) = decide (x = y)
  rw [Bool.and_true, Bool.eq_iff_iff]
  simp [Prod.ext_iff]
def spStore (K : PySem.W.Frag) : Sp := fun vs H Q _ => ∃ (A : BA) (S : BS) (z : Str) (xy : Num × Num) (vb vcall : V) (cd : PyData), vs = [.ref A.p, .str z, vb, vcall] ∧ Bn K H A S ∧ S.Ok ∧ Dp K H vb (bothD xy) ∧ Dp K H vcall cd ∧ Fz cd = true ∧
  Nm 9000 xy.1 ∧ Nm 9000 xy.2 ∧ InR xy.1 ∧ InR xy.2 ∧ ∀ H', Exs [A.hd, A.ml, A.sl, A.pl] H H' → Bn K H' A (S.store z xy cd) → Q .non H'
section
variable {K : PySem.W.Frag} {t u ta tb te : TE} {d d1 d2 : PyData} {ds es : List PyData} {t1 t2 : TS} {i j : Nat} {D : Ends} {σ : L2.St} {H : Hp} {v : V}
/-- l.append(e), l and e by what they are -/
theorem vs_app {l : Addr} {vs : List V} {P : V → Hp → Prop} (ho : VV ta σ H (.ref l)) (hl : H l = some (.lst vs)) (hz : vs.length < 100000) (hv : ∀ H1, Ex H H1 → ∀ Q : VK, (∀ v H2, Ex H1 H2 → P v H2 → Q v H2) → te σ H1 Q)
    (k : ∀ v H', Ex H H' → P v H' → D.nx σ (upd H' l (.lst (vs ++ [v])))) : tDrop (tBM K "list" rAppend ta (tCons te tNil)) D σ H :=
  ho H (Evl.Ex.refl H) _ fun H1 e1 => ⟨.inl ⟨rfl, vs, SqL.of (e1 _ _ hl)⟩, hv H1 e1 _ fun v H2 e2 p => ⟨l, vs, v, rfl, rfl, e2 _ _ (e1 _ _ hl), Nat.lt_of_lt_of_le hz (by decide), k v H2 (e1.trans e2) p⟩⟩
end
section
variable {P : Program} {w : World} {K : PySem.W.Frag} {mg : Str → Option Value} {base : Heap}
theorem sc_Bench_store : FnScope ["self", "target", "both", "call", "number"] ["self", "target", "both", "call"] (defScope sBench_store) := ⟨rfl, rfl, rfl, by decide +kernel, rfl, by decide +kernel, by decide +kernel⟩
theorem met_Bench_store (T : Top w K mg) : Met P w K mg base 2 (He.ga K "Bench") "store" (spStore K) [] := by
  obtain ⟨fd, F⟩ := T.fBench_store
  refine ⟨_, fd, ["self", "target", "both", "call"], [], T.cl_Bench, T.me_Bench_store, F.ok sc_Bench_store (fun vs H Q E h => ?_) (fun cdv A outer s H vs Q E hr h => ⟨_, PSs.nox (pss_cons (ps_if (pt_not (pt_val (pe_callB (cr_all rfl) (by rfl) T.b_all (by decide +kernel) (pa_cons (pe_lc (own := [("number", 4)]) (tt := tYes) rfl sc_Bench_store.nd (pi_tup (pv 2)) (blkOk_by (N := ["self", "target", "both", "call", "number"]) (sc := defScope sBench_store) (by decide +kernel)) (fun _ _ _ _ _ => (pg_name (i := 4) sc_Bench_store.nd rfl (Or.inl rfl) (Or.inr rfl))) (fun _ _ _ _ _ => pts_nil) (fun _ _ _ _ _ => (pe_c (cal_is_in_range T) hr (by decide) rfl (pa_cons (pv 4) pa_nil)))) pa_nil)))) (pss_one ps_never) pss_nil)
      (pss_cons (ps_expr (pe_bm PySem.F.plainAttrs_list PySem.F.slot_list_append PySem.F.type_list_append mt_append (pe_fld (pv 0) rfl) (pa_cons (pe_callTy call_dictD (by rfl) T.b_dict (by decide +kernel) (pa_cons (pe_fld (pv 0) rfl) pa_nil)) pa_nil)))
      (pss_cons (ps_dput (by exact hu_of hr) (pe_fld (pv 0) rfl) (pv 1) (pv 2) rfl)
      (pss_cons (ps_expr (pe_bm PySem.F.plainAttrs_list PySem.F.slot_list_append PySem.F.type_list_append mt_append (pe_fld (pv 0) rfl) (pa_cons (pv 3) pa_nil)))
      (pss_one (ps_expr (pe_bm PySem.F.plainAttrs_list PySem.F.slot_list_append PySem.F.type_list_append mt_append (pe_fld (pv 0) rfl) (pa_cons (pe_cmpR (op_neD (by exact hr.units)) (pe_ix ix_tup (pv 2) pe_int (fun _ _ => rfl)) (pe_ix ix_tup (pv 2) pe_int (fun _ _ => rfl)) (nomark _)) pa_nil)))))))), ?_⟩), F.bindsN (ps := ["self", "target", "both", "call"]) fun _ _ _ _ _ _ us hl => match us, hl with | [_, _, _, _], _ => rfl, .nil⟩
  · obtain ⟨A, S, z, xy, vb, vcall, cd, rfl, _⟩ := h
    rfl
  obtain ⟨A, S, z, xy, vb, vcall, cd, rfl, B, ok, hvb, hvc, fc, nm1, nm2, r1, r2, q⟩ := h
  obtain ⟨ob, hch, ⟨kvs, k1, k2⟩, ⟨mv, m1, m2⟩, sp, ⟨pv, p1, p2', p3⟩, fb, n1, n2, n3⟩ := B
  have E0 : EnvR K H [some (V.ref A.p), some (.str z), some vb, some vcall, none] [none, some (.str z), some (bothD xy), some cd, none] := envr_x (envr_c (.str z) (envr_c hvb (envr_c hvc (envr_x envr_nil))))
  refine vs_if (b := false) (vt_x (XT.to (xt_not (xt_B (xe_all (bs := [true, true]) (xe_lc (es := [.bool true, .bool true]) (xi_tup (ds := [numD xy.1, numD xy.2]) (xe_var rfl)) rfl (fun i d_ b_ h_ k_ => ?_) rfl (by show 2 ≤ 10000; decide))))) rfl) E0) (fun z => nomatch z) fun _ H1 e1 => ?_
  · refine ⟨_, _, ?_, xg_name, ?_⟩
    · simp
    · match i, h_, k_ with
      | 0, h_, k_ =>
        cases Option.some.inj h_
        cases Option.some.inj k_
        exact xe_call (xa_cons (xe_var rfl) xa_nil) (R_is_in_range.mk ⟨nm1, r1⟩)
      | 1, h_, k_ =>
        cases Option.some.inj h_
        cases Option.some.inj k_
        exact xe_call (xa_cons (xe_var rfl) xa_nil) (R_is_in_range.mk ⟨nm2, r2⟩)
      | i + 2, h_, k_ => simp at h_
  -- the addresses
  have a1 : A.p ≠ A.pl := ne_kind ob p1 (by intro z; cases z)
  have a2 : A.p ≠ A.hd := ne_kind ob k1 (by intro z; cases z)
  have a3 : A.p ≠ A.ml := ne_kind ob m1 (by intro z; cases z)
  have a4 : A.hd ≠ A.pl := ne_kind k1 p1 (by intro z; cases z)
  have a5 : A.hd ≠ A.ml := ne_kind k1 m1 (by intro z; cases z)
  have a6 : A.hd ≠ A.sl := ne_kind k1 sp (by intro z; cases z)
  have a7 : A.p ≠ A.sl := ne_kind ob sp (by intro z; cases z)
  have pz : pv.length < 100000 := by have := ok.sz; omega
  have mz : mv.length < 100000 := by have := dps_len m2; have := ok.sz; omega
  have sz : (S.splits.map V.bl).length < 100000 := by rw [List.length_map]; have := ok.len; have := ok.sz; omega
  -- self.past.append(dict(self.held))
  refine vs_app (P := fun v H2 => ∃ q, v = .ref q ∧ H2 q = some (.dK kvs) ∧ H1 q = none) (vv_fld (vv_var rfl) (e1 _ _ ob) T.cl_Bench T.na_Bench_past rfl) (e1 _ _ p1) pz (fun H2 e2 Q kq => ?_) fun v H2 e2 ⟨q', hv, hq, hqn⟩ => ?_
  · have F : VV (tFld K (tVar 0) "held") (start ["self", "target", "both", "call", "number"] [.ref A.p, .str z, vb, vcall]) H1 (.ref A.hd) := vv_fld (vv_var rfl) (e1 _ _ ob) T.cl_Bench T.na_Bench_held rfl
    refine F H2 e2 _ fun H3 e3 => ?_
    exact ⟨A.hd, kvs, rfl, .inl (e3 _ _ (e2 _ _ (e1 _ _ k1))), fun p hp => kq _ _ (e3.trans (Evl.Ex.new hp)) ⟨p, rfl, upd_same, Evl.fresh_back (e2.trans e3) hp⟩⟩
  subst hv
  have e02 := e1.trans e2
  have k1' := e02 _ _ k1
  have ob' := e02 _ _ ob
  have m1' := e02 _ _ m1
  have sp' := e02 _ _ sp
  have p1' := e02 _ _ p1
  have qhd : q' ≠ A.hd := fun z => by rw [z, e1 _ _ k1] at hqn; cases hqn
  have qpl : q' ≠ A.pl := fun z => by rw [z, e1 _ _ p1] at hqn; cases hqn
  have qml : q' ≠ A.ml := fun z => by rw [z, e1 _ _ m1] at hqn; cases hqn
  have qsl : q' ≠ A.sl := fun z => by rw [z, e1 _ _ sp] at hqn; cases hqn
  -- self.held[target] = both
  refine ⟨vb, rfl, ?_⟩
  have F : VV (tFld K (tVar 0) "held") (start ["self", "target", "both", "call", "number"] [.ref A.p, .str z, vb, vcall]) (upd H2 A.pl (.lst (pv ++ [.ref q']))) (.ref A.hd) := vv_fld (vv_var rfl) (by rw [upd_ne a1]; exact ob') T.cl_Bench T.na_Bench_held rfl
  refine F _ (Evl.Ex.refl _) _ fun H3 e3 => ?_
  refine ⟨.str z, rfl, A.hd, _, rfl, .k (k := .inr z) (v := vb) (e3 _ _ (by rw [upd_ne a4]; exact k1')) (Nat.lt_of_le_of_lt (show kvs.length ≤ 100 by have := k2.len; have := ok.hz; omega) (by decide)), ?_⟩
  -- self.made.append(call)
  have ob3 := e3 A.p _ (by rw [upd_ne a1]; exact ob')
  have m3 := e3 A.ml _ (by rw [upd_ne n2]; exact m1')
  have sp3 := e3 A.sl _ (by rw [upd_ne n3]; exact sp')
  have p3' := e3 A.pl _ upd_same
  have q3 := e3 q' _ (by rw [upd_ne qpl]; exact hq)
  have k3 := e3 A.hd _ (by rw [upd_ne a4]; exact k1')
  have t3 : Tx H H3 := ((Tx.of_ex e02).trans (Tx.lst p1')).trans (Tx.of_ex e3)
  have t4 : Tx H (upd H3 A.hd (.dK (putK kvs (.inr z) vb))) := t3.trans (Tx.dK k3)
  refine vs_app (P := fun v H2 => vcall = v) (vv_fld (vv_var rfl) (by rw [upd_ne a2]; exact ob3) T.cl_Bench T.na_Bench_made rfl) (by rw [upd_ne a5.symm]; exact m3) mz (fun H4 e4 Q kq => ⟨vcall, rfl, kq _ _ (Evl.Ex.refl _) rfl⟩) fun v H4 e4 hv => ?_
  subst hv
  have ob4 := e4 A.p _ (by rw [upd_ne a2]; exact ob3)
  have m4 := e4 A.ml _ (by rw [upd_ne a5.symm]; exact m3)
  have sp4 := e4 A.sl _ (by rw [upd_ne a6.symm]; exact sp3)
  have p4 := e4 A.pl _ (by rw [upd_ne a4.symm]; exact p3')
  have q4 := e4 q' _ (by rw [upd_ne qhd]; exact q3)
  have k4 := e4 A.hd _ upd_same
  have t4' := t4.trans (Tx.of_ex e4)
  have t5 : Tx H (upd H4 A.ml (.lst (mv ++ [vcall]))) := t4'.trans (Tx.lst m4)
  -- self.splits.append(both[0] != both[1])
  have hvb5 := dp_tx t5 _ _ rfl hvb
  refine vs_app (P := fun v H2 => v = .bl (!decide (xy.1 = xy.2))) (vv_fld (vv_var rfl) (by rw [upd_ne a3]; exact ob4) T.cl_Bench T.na_Bench_splits rfl) (by rw [upd_ne n1.symm]; exact sp4) sz (fun H5 e5 Q kq => ?_) fun v H5 e5 hv => ?_
  · refine ve_neD (K := K) (d1 := numD xy.1) (d2 := numD xy.2) (ve_ixT (n := 0) (ds := [numD xy.1, numD xy.2]) (ve_var rfl hvb5) ve_int (by decide) rfl) (ve_ixT (n := 1) (ds := [numD xy.1, numD xy.2]) (ve_var rfl hvb5) ve_int (by decide) rfl) rfl rfl H5 e5 _ fun v H6 e6 d6 => ?_
    rw [eqv_num] at d6
    exact kq v H6 e6 (dp_bool d6)
  subst hv
  have t6 : Tx H (upd H5 A.sl (.lst (S.splits.map V.bl ++ [.bl (!decide (xy.1 = xy.2))]))) := (t5.trans (Tx.of_ex e5)).trans (Tx.lst (e5 A.sl _ (by rw [upd_ne n1.symm]; exact sp4)))
  refine q _ ?_ ⟨?_, ?_, ?_, ?_, ?_, ?_, ?_, n1, n2, n3⟩
  · have x1 : Exs [A.hd, A.ml, A.sl, A.pl] H H2 := Exs.of e02
    have x2 := (x1.upd (p := A.pl) (o := .lst (pv ++ [.ref q'])) (by simp)).ex e3
    have x3 := (x2.upd (p := A.hd) (o := .dK (putK kvs (.inr z) vb)) (by simp)).ex e4
    have x4 := (x3.upd (p := A.ml) (o := .lst (mv ++ [vcall])) (by simp)).ex e5
    exact x4.upd (by simp)
  · rw [upd_ne a7]
    exact e5 _ _ (by rw [upd_ne a3]; exact ob4)
  · exact dp_tx t6 _ _ (fz_ch S.ch) hch
  · refine ⟨_, ?_, (k2.tx t6).put z (dp_tx t6 _ _ rfl hvb)⟩
    rw [upd_ne a6]
    exact e5 _ _ (by rw [upd_ne a5]; exact k4)
  · refine ⟨mv ++ [vcall], ?_, ?_⟩
    · rw [upd_ne n1]
      exact e5 _ _ upd_same
    · exact dps_app (dps_tx t6 _ _ ok.fz m2) (.cons (dp_tx t6 _ _ fc hvc) .nil)
  · rw [upd_same]
    show some (HO.lst (S.splits.map V.bl ++ [.bl (!decide (xy.1 = xy.2))])) = some (HO.lst ((S.splits ++ [!decide (xy.1 = xy.2)]).map V.bl))
    rw [List.map_append]
    rfl
  · refine ⟨pv ++ [.ref q'], ?_, ?_, fun h0 hh => ?_⟩
    · rw [upd_ne n3.symm]
      exact e5 _ _ (by rw [upd_ne n2.symm]; exact p4)
    · show (pv ++ [V.ref q']).length = (S.made ++ [cd]).length
      rw [List.length_append, List.length_append, p2']
      rfl
    · cases Option.some.inj hh
      refine ⟨q', ?_, qhd, fun hf => nn_ex e1 (fb q' hf) hqn, kvs, ?_, k2.tx t6⟩
      · rw [List.getLast?_append]
        rfl
      · rw [upd_ne qsl]
        exact e5 _ _ (by rw [upd_ne qml]; exact q4)
  · exact fun f hf => nn_upd (nn_ex e5 (nn_upd (nn_ex e4 (nn_upd (nn_ex e3 (nn_upd (nn_ex e02 (fb f hf))))))))
end
end SR
end
section
set_option Elab.async false
set_option linter.all false
set_option maxRecDepth 100000
set_option maxHeartbeats 1000000
/-! Bench's calculations. -/
namespace SR
open PySem PySem.Spec PyProof.Rows L2
open Evl (Ex)
open C8 (Cal Met Mak pe_c pe_mt pe_mt0 pe_mk pe_gc)
/-- a method that only reads -/
def spB (K : PySem.W.Frag) (R : BS → List PyData → PyData → Prop) : Sp := fun vs H Q _ => ∃ (A : BA) (S : BS) (args : List V) (ds : List PyData) (d : PyData), vs = .ref A.p :: args ∧ Bn K H A S ∧ DpAll K H args ds ∧ R S ds d ∧ ∀ v H', Ex H H' → Dp K H' v d → Q v H'
/-- a method that stores -/
def spM (K : PySem.W.Frag) (R : BS → List PyData → BS → Prop) : Sp := fun vs H Q _ => ∃ (A : BA) (S : BS) (args : List V) (ds : List PyData) (S' : BS), vs = .ref A.p :: args ∧ Bn K H A S ∧ S.Ok ∧ DpAll K H args ds ∧ R S ds S' ∧ ∀ H', Exs [A.hd, A.ml, A.sl, A.pl] H H' → Bn K H' A S' → Q .non H'
section
variable {K : PySem.W.Frag} {t u ta tb te : TE} {d d1 d2 : PyData} {ds es : List PyData} {t1 t2 : TS} {i j : Nat} {D : Ends} {σ : L2.St} {H : Hp} {v : V} {A : BA} {S S' : BS}
theorem ve_mb {m : Str} {R : BS → List PyData → PyData → Prop} {tr : TA} (ho : VV ta σ H (.ref A.p)) (B : Bn K H A S) (hl : (benchF A S.r).lookup m = none) (ha : VA K tr σ H ds) (r : R S ds d) : VE K (tMeth (bC K) m (spB K R) [] C8.E0 ta tr) σ H d := fun H0 e0 Q q =>
  ho H0 e0 _ fun H1 e1 => ⟨A.p, A.dx, _, rfl, e1 _ _ (e0 _ _ B.ob), hl, ha H1 (e0.trans e1) _ fun vs H2 e2 hvs => ⟨A, S, vs ++ [], ds, d, rfl, B.ex ((e0.trans e1).trans e2), by rw [List.append_nil]; exact hvs, r, fun v H3 e3 hv => q v H3 ((e1.trans e2).trans e3) hv⟩⟩
/-- o.m(..) for its effect -/
theorem vs_mm {m : Str} {R : BS → List PyData → BS → Prop} {tr : TA} (ho : VV ta σ H (.ref A.p)) (B : Bn K H A S) (ok : S.Ok) (hl : (benchF A S.r).lookup m = none) (ha : VA K tr σ H ds) (r : R S ds S')
    (k : ∀ H', Exs [A.hd, A.ml, A.sl, A.pl] H H' → Bn K H' A S' → D.nx σ H') : tDrop (tMeth (bC K) m (spM K R) [] C8.E0 ta tr) D σ H :=
  ho H (Evl.Ex.refl H) _ fun H1 e1 => ⟨A.p, A.dx, _, rfl, e1 _ _ B.ob, hl, ha H1 e1 _ fun vs H2 e2 hvs => ⟨A, S, vs ++ [], ds, S', rfl, B.ex (e1.trans e2), ok, by rw [List.append_nil]; exact hvs, r, fun H3 x3 B3 => k H3 ((Exs.of (e1.trans e2)).trans x3) B3⟩⟩
/-- store, called -/
theorem vs_store {z : Str} {xy : Num × Num} {cd : PyData} {tr : TA} (ho : VV ta σ H (.ref A.p)) (B : Bn K H A S) (ok : S.Ok) (ha : VA K tr σ H [.str z, bothD xy, cd]) (fc : Fz cd = true) (h1 : Nm 9000 xy.1) (h2 : Nm 9000 xy.2) (r1 : InR xy.1) (r2 : InR xy.2)
    (k : ∀ H', Exs [A.hd, A.ml, A.sl, A.pl] H H' → Bn K H' A (S.store z xy cd) → D.nx σ H') : tDrop (tMeth (bC K) "store" (spStore K) [] C8.E0 ta tr) D σ H :=
  ho H (Evl.Ex.refl H) _ fun H1 e1 => ⟨A.p, A.dx, _, rfl, e1 _ _ B.ob, rfl, ha H1 e1 _ fun vs H2 e2 hvs => by
    obtain ⟨v1, vs', rfl, hv1, hvs'⟩ := dps_cons hvs
    obtain ⟨v2, v3, rfl, hv2, hv3⟩ := dps2 hvs'
    cases dp_str hv1
    exact ⟨A, S, z, xy, v2, v3, cd, rfl, B.ex (e1.trans e2), ok, hv2, hv3, fc, h1, h2, r1, r2, fun H3 x3 B3 => k H3 ((Exs.of (e1.trans e2)).trans x3) B3⟩⟩
theorem ve_dget {a : Addr} {h : List Reg} {z : Str} {xy : Num × Num} (ho : VV ta σ H (.ref a)) (hi : VE K tb σ H (.str z)) (hh : HeldAt K H a h) (hg : getR h z = some xy) : VE K (tDGet ta tb) σ H (bothD xy) := fun H0 e0 Q q =>
  ho H0 e0 _ fun H1 e1 => hi H1 (e0.trans e1) _ fun v H2 e2 hv => by
    cases dp_str hv
    obtain ⟨kvs, k1, k2⟩ := hh.ex ((e0.trans e1).trans e2)
    obtain ⟨u, hu, hu2⟩ := k2.get hg
    refine ⟨a, u, rfl, ?_, q u H2 (e1.trans e2) hu2⟩
    have g := DGet.k (k := .inr z) k1
    rw [hu] at g
    exact g
theorem vv_b {f : Str} {v : V} (hs : σ[i]? = some (some (.ref A.p))) (B : Bn K H A S) (hc : Cls K (bC K)) (hn : NoAttr K (bC K) f) (hl : (benchF A S.r).lookup f = some v) : VV (tFld K (tVar i) f) σ H v := vv_fld (vv_var hs) B.ob hc hn hl
end
inductive RB_both_of : BS → List PyData → PyData → Prop
  | mk {S : BS} {z : Str} {xy : Num × Num} (h : NameOk z ∧ getR S.held z = some xy) : RB_both_of S [.str z] (bothD xy)
inductive RB_check_target : BS → List PyData → PyData → Prop
  | mk {S : BS} {z : Str} (h : NameOk z) : RB_check_target S [.str z] .none
inductive RB_direct_chain : BS → List PyData → PyData → Prop
  | mk {S : BS} (h : ChOk S.ch) : RB_direct_chain S [] (chD [(minW S.ch, S.r)])
inductive RB_chained : BS → List PyData → PyData → Prop
  | mk {S : BS} {z : Str} {xy : Num × Num} (h : NameOk z ∧ getR S.held z = some xy) : RB_chained S [.str z] (numD xy.1)
inductive RB_direct : BS → List PyData → PyData → Prop
  | mk {S : BS} {z : Str} {xy : Num × Num} (h : NameOk z ∧ getR S.held z = some xy) : RB_direct S [.str z] (numD xy.2)
theorem low_nm1 {n d : Int} (hn : 0 < n) (hd : 0 < d) : Nm1 (low n d) := by
  refine ⟨low_pos hn hd, low_2 hd, ?_⟩
  have g := gcdI_pos (n := n) hd
  show gcdI (n / gcdI n d) (d / gcdI n d) = 1
  have hg : gcdI n d = ((Nat.gcd n.toNat d.toNat : Nat) : Int) := rfl
  have e1 : (n / gcdI n d).toNat = n.toNat / Nat.gcd n.toNat d.toNat := by
    rw [hg]
    obtain ⟨x, rfl⟩ := Int.eq_ofNat_of_zero_le (Int.le_of_lt hn)
    rw [← Int.natCast_ediv, Int.toNat_natCast, Int.toNat_natCast]
  have e2 : (d / gcdI n d).toNat = d.toNat / Nat.gcd n.toNat d.toNat := by
    rw [hg]
    obtain ⟨x, rfl⟩ := Int.eq_ofNat_of_zero_le (Int.le_of_lt hd)
    rw [← Int.natCast_ediv, Int.toNat_natCast, Int.toNat_natCast]
  unfold gcdI at *
  rw [e1, e2, Nat.gcd_div (Nat.gcd_dvd_left ..) (Nat.gcd_dvd_right ..), Nat.div_self (by omega)]
  rfl
theorem fin_names {z : Str} (h : z = "a" ∨ z = "b" ∨ z = "c" ∨ z = "longname") : NameOk z := by
  rcases h with rfl | rfl | rfl | rfl <;> exact ⟨by decide +kernel, by decide +kernel, by decide +kernel⟩
section
variable {P : Program} {w : World} {K : PySem.W.Frag} {mg : Str → Option Value} {base : Heap}
theorem sc_Bench_both_of : FnScope ["self", "name"] ["self", "name"] (defScope sBench_both_of) := ⟨rfl, rfl, rfl, by decide +kernel, rfl, by decide +kernel, by decide +kernel⟩
theorem met_Bench_both_of (T : Top w K mg) : Met P w K mg base 2 (He.ga K "Bench") "both_of" (spB K RB_both_of) [] := by
  obtain ⟨fd, F⟩ := T.fBench_both_of
  refine ⟨_, fd, ["self", "name"], [], T.cl_Bench, T.me_Bench_both_of, F.ok sc_Bench_both_of (fun vs H Q E h => ?_) (fun cdv A outer s H vs Q E hr h => ⟨_, PSs.nox (pss_cons (ps_if (PW.pt (pw_or (pt_not (pt_val (pe_c (cal_is_name T) hr (by decide) rfl (pa_cons (pv 1) pa_nil)))) (pw_or1 (pt_cmp (pc_dnotin (by exact hu_of hr) (pv 1) (pe_fld (pv 0) rfl)))))) (pss_one ps_never) pss_nil)
      (pss_one (ps_ret (pe_dget (by exact hu_of hr) (pe_fld (pv 0) rfl) (pv 1) (fun _ _ => rfl))))), ?_⟩), F.bindsN (ps := ["self", "name"]) fun _ _ _ _ _ _ us hl => match us, hl with | [_, _], _ => rfl, .nil⟩
  · obtain ⟨A, S, args, ds, d, rfl, _, hd, r, _⟩ := h
    cases r
    rw [List.length_cons, dps_len hd]
    rfl
  obtain ⟨A, S, args, ds, d, rfl, B, hd, r, q⟩ := h
  cases r
  rename_i z xy h
  obtain ⟨v, rfl, hv⟩ := dps1 hd
  cases dp_str hv
  obtain ⟨kvs, k1, k2⟩ := B.held
  obtain ⟨u, hu, hu2⟩ := k2.get h.2
  have E0 : EnvR K H [some (V.ref A.p), some (.str z)] [none, some (.str z)] := envr_x (envr_c (.str z) envr_nil)
  refine vs_if (b := false) (vt_or (a := false) (vt_x (XT.to (xt_not (xt_B (xe_call (xa_cons (xe_var rfl) xa_nil) (R_is_name.mk h.1)))) rfl) E0) fun _ => fun H0 e0 Q kq => ?_) (fun z => nomatch z) fun _ H1 e1 => ?_
  · refine ⟨.str z, rfl, ?_⟩
    have F : VV (tFld K (tVar 0) "held") (start ["self", "name"] [.ref A.p, .str z]) H (.ref A.hd) := vv_b rfl B T.cl_Bench T.na_Bench_held rfl
    refine F H0 e0 _ fun H1 e1 => ⟨A.hd, _, rfl, .k (k := .inr z) (e1 _ _ (e0 _ _ k1)), ?_⟩
    rw [hu]
    exact ⟨false, rfl, kq H1 e1⟩
  · exact vs_ret (ve_dget (vv_b rfl (B.ex e1) T.cl_Bench T.na_Bench_held rfl) (ve_var rfl (.str z)) (B.held.ex e1) h.2) fun v H2 e2 d2 => q v H2 (e1.trans e2) d2
theorem sc_Bench_check_target : FnScope ["self", "target"] ["self", "target"] (defScope sBench_check_target) := ⟨rfl, rfl, rfl, by decide +kernel, rfl, by decide +kernel, by decide +kernel⟩
theorem met_Bench_check_target (T : Top w K mg) : Met P w K mg base 2 (He.ga K "Bench") "check_target" (spB K RB_check_target) [] := by
  obtain ⟨fd, F⟩ := T.fBench_check_target
  refine ⟨_, fd, ["self", "target"], [], T.cl_Bench, T.me_Bench_check_target, F.ok sc_Bench_check_target (fun vs H Q E h => ?_) (fun cdv A outer s H vs Q E hr h => ⟨_, PSs.nox (pss_one (ps_if (pt_not (pt_val (pe_c (cal_is_name T) hr (by decide) rfl (pa_cons (pv 1) pa_nil)))) (pss_one ps_never) pss_nil)), ?_⟩), F.bindsN (ps := ["self", "target"]) fun _ _ _ _ _ _ us hl => match us, hl with | [_, _], _ => rfl, .nil⟩
  · obtain ⟨A, S, args, ds, d, rfl, _, hd, r, _⟩ := h
    cases r
    rw [List.length_cons, dps_len hd]
    rfl
  obtain ⟨A, S, args, ds, d, rfl, B, hd, r, q⟩ := h
  cases r
  rename_i z h
  obtain ⟨v, rfl, hv⟩ := dps1 hd
  cases dp_str hv
  have E0 : EnvR K H [some (V.ref A.p), some (.str z)] [none, some (.str z)] := envr_x (envr_c (.str z) envr_nil)
  exact vs_if (b := false) (vt_x (XT.to (xt_not (xt_B (xe_call (xa_cons (xe_var rfl) xa_nil) (R_is_name.mk h)))) rfl) E0) (fun z => nomatch z) fun _ H1 e1 => q _ _ e1 .non
theorem sc_Bench_direct_chain : FnScope ["self"] ["self"] (defScope sBench_direct_chain) := ⟨rfl, rfl, rfl, by decide +kernel, rfl, by decide +kernel, by decide +kernel⟩
theorem met_Bench_direct_chain (T : Top w K mg) : Met P w K mg base 7 (He.ga K "Bench") "direct_chain" (spB K RB_direct_chain) [] := by
  obtain ⟨fd, F⟩ := T.fBench_direct_chain
  refine ⟨_, fd, ["self"], [], T.cl_Bench, T.me_Bench_direct_chain, F.ok sc_Bench_direct_chain (fun vs H Q E h => ?_) (fun cdv A outer s H vs Q E hr h => ⟨_, PSs.nox (pss_one (ps_ret (pe_tup (pa_cons (pe_tup (pa_cons (pe_c (cal_last_width T) hr (by decide) rfl (pa_cons (pe_fld (pv 0) rfl) pa_nil)) (pa_cons (pe_fld (pv 0) rfl) pa_nil))) pa_nil)))), ?_⟩), F.bindsN (ps := ["self"]) fun _ _ _ _ _ _ us hl => match us, hl with | [_], _ => rfl, .nil⟩
  · obtain ⟨A, S, args, ds, d, rfl, _, hd, r, _⟩ := h
    cases r
    rw [List.length_cons, dps_len hd]
    rfl
  obtain ⟨A, S, args, ds, d, rfl, B, hd, r, q⟩ := h
  cases r
  rename_i h
  cases dps_nil hd
  refine vs_ret (ve_tup (va_cons (ve_tup (va_cons (ve_call (va_cons (ve_v (vv_b rfl B T.cl_Bench T.na_Bench_staged_chain rfl) B.ch) va_nil) (R_last_width.mk h)) (va_cons (ve_v (vv_b rfl B T.cl_Bench T.na_Bench_single_rule rfl) (.str _)) va_nil)) (by show 2 ≤ 1000; decide)) va_nil) (by show 1 ≤ 1000; decide)) fun v H1 e1 d1 => q v H1 e1 d1
theorem sc_Bench_chained : FnScope ["self", "name"] ["self", "name"] (defScope sBench_chained) := ⟨rfl, rfl, rfl, by decide +kernel, rfl, by decide +kernel, by decide +kernel⟩
theorem met_Bench_chained (T : Top w K mg) : Met P w K mg base 3 (He.ga K "Bench") "chained" (spB K RB_chained) [] := by
  obtain ⟨fd, F⟩ := T.fBench_chained
  refine ⟨_, fd, ["self", "name"], [], T.cl_Bench, T.me_Bench_chained, F.ok sc_Bench_chained (fun vs H Q E h => ?_) (fun cdv A outer s H vs Q E hr h => ⟨_, PSs.nox (pss_one (ps_ret (pe_ix ix_tup (pe_mt (met_Bench_both_of T) hr (by decide) (pv 0) (pa_cons (pv 1) pa_nil)) pe_int (fun _ _ => rfl)))), ?_⟩), F.bindsN (ps := ["self", "name"]) fun _ _ _ _ _ _ us hl => match us, hl with | [_, _], _ => rfl, .nil⟩
  · obtain ⟨A, S, args, ds, d, rfl, _, hd, r, _⟩ := h
    cases r
    rw [List.length_cons, dps_len hd]
    rfl
  obtain ⟨A, S, args, ds, d, rfl, B, hd, r, q⟩ := h
  cases r
  rename_i z xy h
  obtain ⟨v, rfl, hv⟩ := dps1 hd
  exact vs_ret (ve_ixT (n := 0) (ds := [numD xy.1, numD xy.2]) (ve_mb (vv_var rfl) B rfl (va_cons (ve_var rfl hv) va_nil) (.mk h)) ve_int (by decide) rfl) fun v H1 e1 d1 => q v H1 e1 d1
theorem sc_Bench_direct : FnScope ["self", "name"] ["self", "name"] (defScope sBench_direct) := ⟨rfl, rfl, rfl, by decide +kernel, rfl, by decide +kernel, by decide +kernel⟩
theorem met_Bench_direct (T : Top w K mg) : Met P w K mg base 3 (He.ga K "Bench") "direct" (spB K RB_direct) [] := by
  obtain ⟨fd, F⟩ := T.fBench_direct
  refine ⟨_, fd, ["self", "name"], [], T.cl_Bench, T.me_Bench_direct, F.ok sc_Bench_direct (fun vs H Q E h => ?_) (fun cdv A outer s H vs Q E hr h => ⟨_, PSs.nox (pss_one (ps_ret (pe_ix ix_tup (pe_mt (met_Bench_both_of T) hr (by decide) (pv 0) (pa_cons (pv 1) pa_nil)) pe_int (fun _ _ => rfl)))), ?_⟩), F.bindsN (ps := ["self", "name"]) fun _ _ _ _ _ _ us hl => match us, hl with | [_, _], _ => rfl, .nil⟩
  · obtain ⟨A, S, args, ds, d, rfl, _, hd, r, _⟩ := h
    cases r
    rw [List.length_cons, dps_len hd]
    rfl
  obtain ⟨A, S, args, ds, d, rfl, B, hd, r, q⟩ := h
  cases r
  rename_i z xy h
  obtain ⟨v, rfl, hv⟩ := dps1 hd
  exact vs_ret (ve_ixT (n := 1) (ds := [numD xy.1, numD xy.2]) (ve_mb (vv_var rfl) B rfl (va_cons (ve_var rfl hv) va_nil) (.mk h)) ve_int (by decide) rfl) fun v H1 e1 d1 => q v H1 e1 d1
end
end SR
end
section
set_option Elab.async false
set_option linter.all false
set_option maxRecDepth 100000
set_option maxHeartbeats 1000000
/-! Bench: load, combine, root. -/
namespace SR
open PySem PySem.Spec PyProof.Rows L2
open Evl (Ex)
open C8 (Cal Met Mak pe_c pe_mt pe_mt0 pe_mk pe_gc)
def loadD (z : Str) (x : Num) : PyData := .tuple [.str "load", .str z, numD x]
def rootD (t a : Str) : PyData := .tuple [.str "root", .str t, .str a]
def binD (m : Meth2) (t a b : Str) : PyData := .tuple [.str (ms m), .str t, .str a, .str b]
inductive RM_load : BS → List PyData → BS → Prop
  | mk {S : BS} {z : Str} {x : Num} (h : NameOk z ∧ Nm1 x ∧ Nm 3500 x ∧ InR x ∧ roundOnce x (minW S.ch) .down = x) : RM_load S [.str z, numD x] (S.store z (x, x) (loadD z x))
/-- the two results -/
def res (S : BS) (u : Num) : Num × Num := (appliedC u S.ch, appliedC u [(minW S.ch, S.r)])
def resR (S : BS) (x : Num) : Num × Num := (rootRound x S.ch, rootRound x [(minW S.ch, S.r)])
structure BinOk (S : BS) (m : Meth2) (t a b : Str) (x y : Num) : Prop where
  nt : NameOk t
  na : NameOk a
  nb : NameOk b
  ga : getR S.held a = some (x, x)
  gb : getR S.held b = some (y, y)
  nx : Nm 1050 x
  ny : Nm 1050 y
  pos : 0 < (exactM m x y).1
  r1 : InR (res S (low (exactM m x y).1 (exactM m x y).2)).1
  r2 : InR (res S (low (exactM m x y).1 (exactM m x y).2)).2
inductive RM_combine : BS → List PyData → BS → Prop
  | mk {S : BS} {m : Meth2} {t a b : Str} {x y : Num} (h : BinOk S m t a b x y) : RM_combine S [.str (ms m), .str t, .str a, .str b] (S.store t (res S (low (exactM m x y).1 (exactM m x y).2)) (binD m t a b))
inductive RM_bin (m : Meth2) : BS → List PyData → BS → Prop
  | mk {S : BS} {t a b : Str} {x y : Num} (h : BinOk S m t a b x y) : RM_bin m S [.str t, .str a, .str b] (S.store t (res S (low (exactM m x y).1 (exactM m x y).2)) (binD m t a b))
structure RootOk (S : BS) (t a : Str) (x : Num) : Prop where
  nt : NameOk t
  na : NameOk a
  ga : getR S.held a = some (x, x)
  x1 : Nm1 x
  nx : Nm 1050 x
  r1 : InR (resR S x).1
  r2 : InR (resR S x).2
inductive RM_root : BS → List PyData → BS → Prop
  | mk {S : BS} {t a : Str} {x : Num} (h : RootOk S t a x) : RM_root S [.str t, .str a] (S.store t (resR S x) (rootD t a))
theorem one_ok {w : Int} {r : Rule} (h : 1 ≤ w ∧ w ≤ 100) : ChOk [(w, r)] := ⟨Nat.le_refl 1, (by decide : 1 ≤ 12), fun s hs => by
  cases List.mem_singleton.mp hs
  exact h⟩
theorem exact_nm {m : Meth2} {x y : Num} (hx : Nm 1050 x) (hy : Nm 1050 y) : 0 < (exactM m x y).2 ∧ 0 ≤ (exactM m x y).1 ∧ Bd 2200 (exactM m x y).1 ∧ Bd 2200 (exactM m x y).2 := by
  have q1 : Bd 2100 (x.1 * y.2) := hx.n.mul hy.d
  have q2 : Bd 2100 (y.1 * x.2) := hy.n.mul hx.d
  have q3 : Bd 2100 (x.2 * y.2) := hx.d.mul hy.d
  have q4 : Bd 2100 (x.1 * y.1) := hx.n.mul hy.n
  have q5 : Bd 2100 (x.2 * y.1) := hx.d.mul hy.n
  have p3 := Int.mul_pos hx.d0 hy.d0
  have p5 := Int.mul_pos hx.d0 hy.n0
  cases m
  · exact ⟨p3, (q1.add q2).nn, (q1.add q2).mono (by decide), q3.mono (by decide)⟩
  · have e : Bd 2101 (absI (x.1 * y.2 - y.1 * x.2)) := by
      refine (q1.add q2).le ?_ ?_ <;> unfold absI <;> have := q1.nn <;> have := q2.nn <;> split <;> omega
    exact ⟨p3, e.nn, e.mono (by decide), q3.mono (by decide)⟩
  · exact ⟨p3, q4.nn, q4.mono (by decide), q3.mono (by decide)⟩
  · exact ⟨p5, q1.nn, q1.mono (by decide), q5.mono (by decide)⟩
theorem root_nm {x : Num} {c : Chain} (h : ChOk c) (hx : Nm 1100 x) : Nm 9000 (rootRound x c) := by
  have mw := minW_ok h
  have ok : RtOk x.1 x.2 (minW c) := ⟨hx.n0, hx.d0, hx.n, hx.d, mw.1, mw.2⟩
  have rc := root_cell ok.n0 ok.d0 ok.w1
  have he := ok.e
  have lo := rc.lo
  have hi := rc.hi
  have pp := pw_pos (minW c - 1)
  unfold rootRound
  refine (powN_nm (b := 1000) (w := minW c) ?_ ?_ mw.1 mw.2 (by omega) (by omega)).mono (by decide)
  · split <;> omega
  · split <;> omega
section
variable {P : Program} {w : World} {K : PySem.W.Frag} {mg : Str → Option Value} {base : Heap}
theorem sc_Bench_load : FnScope ["self", "name", "number"] ["self", "name", "number"] (defScope sBench_load) := ⟨rfl, rfl, rfl, by decide +kernel, rfl, by decide +kernel, by decide +kernel⟩
theorem met_Bench_load (T : Top w K mg) : Met P w K mg base 7 (He.ga K "Bench") "load" (spM K RM_load) [] := by
  obtain ⟨fd, F⟩ := T.fBench_load
  refine ⟨_, fd, ["self", "name", "number"], [], T.cl_Bench, T.me_Bench_load, F.ok sc_Bench_load (fun vs H Q E h => ?_) (fun cdv A outer s H vs Q E hr h => ⟨_, PSs.nox (pss_cons (ps_expr (pe_mt (met_Bench_check_target T) hr (by decide) (pv 0) (pa_cons (pv 1) pa_nil)))
      (pss_cons (ps_if (pt_not (pt_val (pe_c (cal_is_number T) hr (by decide) rfl (pa_cons (pv 2) pa_nil)))) (pss_one ps_never) pss_nil)
      (pss_cons (ps_if (pt_cmpR (op_neD (by exact hr.units)) (pe_c (cal_rounded T) hr (by decide) rfl (pa_cons (pv 2) (pa_cons (pe_c (cal_last_width T) hr (by decide) rfl (pa_cons (pe_fld (pv 0) rfl) pa_nil)) (pa_cons pe_str pa_nil)))) (pv 2) (nomark _)) (pss_one ps_never) pss_nil)
      (pss_one (ps_expr (pe_mt (met_Bench_store T) hr (by decide) (pv 0) (pa_cons (pv 1) (pa_cons (pe_tup (pa_cons (pv 2) (pa_cons (pv 2) pa_nil))) (pa_cons (pe_tup (pa_cons pe_str (pa_cons (pv 1) (pa_cons (pv 2) pa_nil)))) pa_nil))))))))), ?_⟩), F.bindsN (ps := ["self", "name", "number"]) fun _ _ _ _ _ _ us hl => match us, hl with | [_, _, _], _ => rfl, .nil⟩
  · obtain ⟨A, S, args, ds, S', rfl, _, _, hd, r, _⟩ := h
    cases r
    rw [List.length_cons, dps_len hd]
    rfl
  obtain ⟨A, S, args, ds, S', rfl, B, ok, hd, r, q⟩ := h
  cases r
  rename_i z x h
  obtain ⟨hz, hx1, hx, ir, hr⟩ := h
  obtain ⟨v1, v2, rfl, hv1, hv2⟩ := dps2 hd
  cases dp_str hv1
  have E0 : EnvR K H [some (V.ref A.p), some (.str z), some v2] [none, some (.str z), some (numD x)] := envr_x (envr_c (.str z) (envr_c hv2 envr_nil))
  refine vs_drop (ve_mb (vv_var rfl) B rfl (va_cons (ve_x (xe_var rfl) E0) va_nil) (RB_check_target.mk hz)) fun H1 e1 => ?_
  have B1 := B.ex e1
  have E1 := E0.ex e1
  refine vs_if (b := false) (vt_x (XT.to (xt_not (xt_B (xe_call (xa_cons (xe_var rfl) xa_nil) (R_is_number.mk hx1)))) rfl) E1) (fun z => nomatch z) fun _ H2 e2 => ?_
  have B2 := B1.ex e2
  have E2 := E1.ex e2
  have mw := minW_ok ok.ch
  refine vs_if (b := false) (VT.to (vt_test (ve_neD (d1 := numD (roundOnce x (minW S.ch) .down)) (d2 := numD x) (ve_call (va_cons (ve_x (xe_var rfl) E2) (va_cons (ve_call (va_cons (ve_v (vv_b rfl B2 T.cl_Bench T.na_Bench_staged_chain rfl) B2.ch) va_nil) (R_last_width.mk ok.ch)) (va_cons (ve_str (n := rs .down)) va_nil))) (R_rounded.mk ⟨hx, hx1, mw.1, mw.2⟩)) (ve_x (xe_var rfl) E2) rfl rfl)) ?_) (fun z => nomatch z) fun _ H3 e3 => ?_
  · rw [eqv_num, hr]
    simp
  · have B3 := B2.ex e3
    have E3 := E2.ex e3
    refine vs_store (xy := (x, x)) (cd := loadD z x) (vv_var rfl) B3 ok (va_cons (ve_x (xe_var rfl) E3) (va_cons (ve_x (xe_tup (xa_cons (xe_var rfl) (xa_cons (xe_var rfl) xa_nil)) (by show 2 ≤ 1000; decide)) E3) (va_cons (ve_x (xe_tup (xa_cons xe_str (xa_cons (xe_var rfl) (xa_cons (xe_var rfl) xa_nil))) (by show 3 ≤ 1000; decide)) E3) va_nil))) rfl (hx.mono (by decide)) (hx.mono (by decide)) ir ir fun H4 x4 B4 => ?_
    exact q _ ((Exs.of ((e1.trans e2).trans e3)).trans x4) B4
theorem sc_Bench_combine : FnScope ["self", "method", "target", "first", "second", "ones", "others", "exact", "numbers", "both", "one", "other", "n", "d"] ["self", "method", "target", "first", "second"] (defScope sBench_combine) := ⟨rfl, rfl, rfl, by decide +kernel, rfl, by decide +kernel, by decide +kernel⟩
theorem met_Bench_combine (T : Top w K mg) : Met P w K mg base 8 (He.ga K "Bench") "combine" (spM K RM_combine) [] := by
  obtain ⟨fd, F⟩ := T.fBench_combine
  refine ⟨_, fd, ["self", "method", "target", "first", "second"], [], T.cl_Bench, T.me_Bench_combine, F.ok sc_Bench_combine (fun vs H Q E h => ?_) (fun cdv A outer s H vs Q E hr h => ⟨_, PSs.nox (pss_cons (ps_expr (pe_mt (met_Bench_check_target T) hr (by decide) (pv 0) (pa_cons (pv 2) pa_nil)))
      (pss_cons (ps_par (i := 5) (j := 6) rfl sc_Bench_combine.nd rfl rfl (by decide) rfl rfl (pa_cons (pe_mt (met_Bench_both_of T) hr (by decide) (pv 0) (pa_cons (pv 3) pa_nil)) (pa_cons (pe_mt (met_Bench_both_of T) hr (by decide) (pv 0) (pa_cons (pv 4) pa_nil)) pa_nil)) (by rfl))
      (pss_cons (ps_setLc (i := 7) (own := [("one", 10), ("other", 11)]) (g := gTup K 2 (gCons (gName 10) (gCons (gName 11) gNil))) (tt := tYes) rfl sc_Bench_combine.nd rfl rfl (sw_true rfl rfl rfl (by decide +kernel)) (RZ.pi_zipA (by rfl) T.b_zip (pa_cons (pv 5) (pa_cons (pv 6) pa_nil))) (blkOk_by (N := ["self", "method", "target", "first", "second", "ones", "others", "exact", "numbers", "both", "one", "other", "n", "d"]) (sc := defScope sBench_combine) (by decide +kernel)) (fun _ _ _ _ _ => (pg_tup (n := 2) rfl (pgs_cons (pg_name (i := 10) sc_Bench_combine.nd rfl (Or.inl rfl) (Or.inr rfl)) (pgs_cons (pg_name (i := 11) sc_Bench_combine.nd rfl (Or.inl rfl) (Or.inr rfl)) pgs_nil)))) (fun _ _ _ _ _ => pts_nil) (fun _ _ _ _ _ => (pe_c (cal_exact_result T) hr (by decide) rfl (pa_cons (pv 1) (pa_cons (pv 10) (pa_cons (pv 11) pa_nil))))))
      (pss_cons (ps_if (pt_cmpR op_in_seq pe_int (pe_lc (own := [("n", 12), ("d", 13)]) (g := gTup K 2 (gCons (gName 12) (gCons (gName 13) gNil))) (tt := tYes) rfl sc_Bench_combine.nd (pi_list (pv 7)) (blkOk_by (N := ["self", "method", "target", "first", "second", "ones", "others", "exact", "numbers", "both", "one", "other", "n", "d"]) (sc := defScope sBench_combine) (by decide +kernel)) (fun _ _ _ _ _ => (pg_tup (n := 2) rfl (pgs_cons (pg_name (i := 12) sc_Bench_combine.nd rfl (Or.inl rfl) (Or.inr rfl)) (pgs_cons (pg_name (i := 13) sc_Bench_combine.nd rfl (Or.inl rfl) (Or.inr rfl)) pgs_nil)))) (fun _ _ _ _ _ => pts_nil) (fun _ _ _ _ _ => (pv 12))) (by rfl)) (pss_one ps_never) pss_nil)
      (pss_cons (ps_setLc (i := 8) (own := [("n", 12), ("d", 13)]) (g := gTup K 2 (gCons (gName 12) (gCons (gName 13) gNil))) (tt := tYes) rfl sc_Bench_combine.nd rfl rfl (sw_true rfl rfl rfl (by decide +kernel)) (pi_list (pv 7)) (blkOk_by (N := ["self", "method", "target", "first", "second", "ones", "others", "exact", "numbers", "both", "one", "other", "n", "d"]) (sc := defScope sBench_combine) (by decide +kernel)) (fun _ _ _ _ _ => (pg_tup (n := 2) rfl (pgs_cons (pg_name (i := 12) sc_Bench_combine.nd rfl (Or.inl rfl) (Or.inr rfl)) (pgs_cons (pg_name (i := 13) sc_Bench_combine.nd rfl (Or.inl rfl) (Or.inr rfl)) pgs_nil)))) (fun _ _ _ _ _ => pts_nil) (fun _ _ _ _ _ => (pe_c (cal_lowest T) hr (by decide) rfl (pa_cons (pv 12) (pa_cons (pv 13) pa_nil)))))
      (pss_cons (ps_set (i := 9) sc_Bench_combine.nd rfl (Or.inl rfl) (pe_tup (pa_cons (pe_c (cal_applied T) hr (by decide) rfl (pa_cons (pe_ix ix_list (pv 8) pe_int (fun _ _ => rfl)) (pa_cons (pe_fld (pv 0) rfl) pa_nil))) (pa_cons (pe_c (cal_applied T) hr (by decide) rfl (pa_cons (pe_ix ix_list (pv 8) pe_int (fun _ _ => rfl)) (pa_cons (pe_mt0 (met_Bench_direct_chain T) hr (by decide) (pv 0)) pa_nil))) pa_nil))))
      (pss_one (ps_expr (pe_mt (met_Bench_store T) hr (by decide) (pv 0) (pa_cons (pv 2) (pa_cons (pv 9) (pa_cons (pe_tup (pa_cons (pv 1) (pa_cons (pv 2) (pa_cons (pv 3) (pa_cons (pv 4) pa_nil))))) pa_nil)))))))))))), ?_⟩), F.bindsN (ps := ["self", "method", "target", "first", "second"]) fun _ _ _ _ _ _ us hl => match us, hl with | [_, _, _, _, _], _ => rfl, .nil⟩
  · obtain ⟨A, S, args, ds, S', rfl, _, _, hd, r, _⟩ := h
    cases r
    rw [List.length_cons, dps_len hd]
    rfl
  obtain ⟨A, S, args, ds, S', rfl, B, ok, hd, r, q⟩ := h
  cases r
  rename_i m t a b x y h
  obtain ⟨v1, w1, rfl, hv1, hd1⟩ := dps_cons hd
  obtain ⟨v2, w2, rfl, hv2, hd2⟩ := dps_cons hd1
  obtain ⟨v3, v4, rfl, hv3, hv4⟩ := dps2 hd2
  cases dp_str hv1
  cases dp_str hv2
  cases dp_str hv3
  cases dp_str hv4
  have en := exact_nm (m := m) h.nx h.ny
  have hpos := h.pos
  have r1 := h.r1
  have r2 := h.r2
  have mw := minW_ok ok.ch
  have hex : Nm 1100 x ∧ Nm 1100 y := ⟨h.nx.mono (by decide), h.ny.mono (by decide)⟩
  have hR := R_exact_result.mk (m := m) hex
  generalize exactM m x y = e at *
  have E0 : EnvR K H (start ["self", "method", "target", "first", "second", "ones", "others", "exact", "numbers", "both", "one", "other", "n", "d"] [.ref A.p, .str (ms m), .str t, .str a, .str b]) [none, some (.str (ms m)), some (.str t), some (.str a), some (.str b), none, none, none, none, none, none, none, none, none] :=
    envr_x (envr_c (.str _) (envr_c (.str _) (envr_c (.str _) (envr_c (.str _) (envr_x (envr_x (envr_x (envr_x (envr_x (envr_x (envr_x (envr_x (envr_x envr_nil)))))))))))))
  refine vs_drop (ve_mb (vv_var rfl) B rfl (va_cons (ve_x (xe_var rfl) E0) va_nil) (RB_check_target.mk h.nt)) fun H1 e1 => ?_
  have B1 := B.ex e1
  have E1 := E0.ex e1
  refine vs_par (va_cons (ve_mb (vv_var rfl) B1 rfl (va_cons (ve_x (xe_var rfl) E1) va_nil) (RB_both_of.mk ⟨h.na, h.ga⟩)) (va_cons (ve_mb (vv_var rfl) B1 rfl (va_cons (ve_x (xe_var rfl) E1) va_nil) (RB_both_of.mk ⟨h.nb, h.gb⟩)) va_nil)) fun u1 u2 H2 e2 d1 d2 => ?_
  have B2 := B1.ex e2
  have E2 := ((E1.ex e2).set (i := 5) d1).set (i := 6) d2
  refine vs_asg (ve_x (xe_lc (es := [numD e, numD e]) (xi_zip (ds := [numD x, numD x]) (es := [numD y, numD y]) (xa_cons (xe_var rfl) (xa_cons (xe_var rfl) xa_nil)) rfl) rfl (fun i d_ b_ h_ k_ => ?_) rfl (by show 2 ≤ 10000; decide)) E2) fun u3 H3 e3 d3 => ?_
  · match i, h_, k_ with
    | 0, h_, k_ =>
      cases Option.some.inj h_
      cases Option.some.inj k_
      exact ⟨_, _, by simp, xg_tup (xgs_cons xg_name (xgs_cons xg_name xgs_nil)) rfl, xe_call (xa_cons (xe_var rfl) (xa_cons (xe_var rfl) (xa_cons (xe_var rfl) xa_nil))) hR⟩
    | 1, h_, k_ =>
      cases Option.some.inj h_
      cases Option.some.inj k_
      exact ⟨_, _, by simp, xg_tup (xgs_cons xg_name (xgs_cons xg_name xgs_nil)) rfl, xe_call (xa_cons (xe_var rfl) (xa_cons (xe_var rfl) (xa_cons (xe_var rfl) xa_nil))) hR⟩
    | i + 2, h_, k_ => simp at k_
  have B3 := B2.ex e3
  have E3 := (E2.ex e3).set (i := 7) d3
  refine vs_if (b := false) (vt_x (XT.to (xt_test (xe_inI (xs := [e.1, e.1]) xe_int (xe_lc (es := [.int e.1, .int e.1]) (xi_list (ds := [numD e, numD e]) (xe_var rfl)) rfl (fun i d_ b_ h_ k_ => ?_) rfl (by show 2 ≤ 10000; decide)))) ?_) E3) (fun z => nomatch z) fun _ H4 e4 => ?_
  · match i, h_, k_ with
    | 0, h_, k_ =>
      cases Option.some.inj h_
      cases Option.some.inj k_
      exact ⟨_, _, by simp, xg_tup (xgs_cons xg_name (xgs_cons xg_name xgs_nil)) rfl, xe_var rfl⟩
    | 1, h_, k_ =>
      cases Option.some.inj h_
      cases Option.some.inj k_
      exact ⟨_, _, by simp, xg_tup (xgs_cons xg_name (xgs_cons xg_name xgs_nil)) rfl, xe_var rfl⟩
    | i + 2, h_, k_ => simp at k_
  · have : ¬ (0 = e.1) := by omega
    simp [List.contains_cons, this]
  have B4 := B3.ex e4
  have E4 := E3.ex e4
  have lowR := R_lowest.mk (n := e.1) (d := e.2) ⟨en.2.1, en.1, en.2.2.2.mono (by decide)⟩
  refine vs_asg (ve_x (xe_lc (es := [numD (low e.1 e.2), numD (low e.1 e.2)]) (xi_list (ds := [numD e, numD e]) (xe_var rfl)) rfl (fun i d_ b_ h_ k_ => ?_) rfl (by show 2 ≤ 10000; decide)) E4) fun u5 H5 e5 d5 => ?_
  · match i, h_, k_ with
    | 0, h_, k_ =>
      cases Option.some.inj h_
      cases Option.some.inj k_
      exact ⟨_, _, by simp, xg_tup (xgs_cons xg_name (xgs_cons xg_name xgs_nil)) rfl, xe_call (xa_cons (xe_var rfl) (xa_cons (xe_var rfl) xa_nil)) lowR⟩
    | 1, h_, k_ =>
      cases Option.some.inj h_
      cases Option.some.inj k_
      exact ⟨_, _, by simp, xg_tup (xgs_cons xg_name (xgs_cons xg_name xgs_nil)) rfl, xe_call (xa_cons (xe_var rfl) (xa_cons (xe_var rfl) xa_nil)) lowR⟩
    | i + 2, h_, k_ => simp at k_
  have B5 := B4.ex e5
  have E5 := (E4.ex e5).set (i := 8) d5
  have nu : Nm 2200 (low e.1 e.2) := low_nm hpos en.1 en.2.2.1 en.2.2.2
  have nu1 : Nm1 (low e.1 e.2) := low_nm1 hpos en.1
  generalize low e.1 e.2 = u at *
  have dc := one_ok (r := S.r) mw
  refine vs_asg (ve_tup (va_cons (ve_call (va_cons (ve_x (xe_ixL (ds := [numD u, numD u]) (xe_var rfl) xe_int (by decide) rfl) E5) (va_cons (ve_v (vv_b rfl B5 T.cl_Bench T.na_Bench_staged_chain rfl) B5.ch) va_nil)) (R_applied.mk ⟨ok.ch, nu1, nu⟩))
    (va_cons (ve_call (va_cons (ve_x (xe_ixL (ds := [numD u, numD u]) (xe_var rfl) xe_int (by decide) rfl) E5) (va_cons (ve_mb (vv_var rfl) B5 rfl va_nil (RB_direct_chain.mk ok.ch)) va_nil)) (R_applied.mk ⟨dc, nu1, nu⟩)) va_nil)) (by show 2 ≤ 1000; decide)) fun u6 H6 e6 d6 => ?_
  have B6 := B5.ex e6
  have E6 := (E5.ex e6).set (i := 9) d6
  have n1 : Nm 9000 (res S u).1 := (applied_nm nu ok.ch.ok).mono (by have := ok.ch.le; omega)
  have n2 : Nm 9000 (res S u).2 := (applied_nm nu dc.ok).mono (by show 2200 + 101 * 1 ≤ 9000; decide)
  refine vs_store (xy := res S u) (cd := binD m t a b) (vv_var rfl) B6 ok (va_cons (ve_x (xe_var rfl) E6) (va_cons (ve_x (xe_var rfl) E6) (va_cons (ve_x (xe_tup (xa_cons (xe_var rfl) (xa_cons (xe_var rfl) (xa_cons (xe_var rfl) (xa_cons (xe_var rfl) xa_nil)))) (by show 4 ≤ 1000; decide)) E6) va_nil))) rfl n1 n2 r1 r2 fun H7 x7 B7 => ?_
  exact q _ ((Exs.of (((((e1.trans e2).trans e3).trans e4).trans e5).trans e6)).trans x7) B7
theorem sc_Bench_root : FnScope ["self", "target", "first", "ones", "both"] ["self", "target", "first"] (defScope sBench_root) := ⟨rfl, rfl, rfl, by decide +kernel, rfl, by decide +kernel, by decide +kernel⟩
theorem met_Bench_root (T : Top w K mg) : Met P w K mg base 9 (He.ga K "Bench") "root" (spM K RM_root) [] := by
  obtain ⟨fd, F⟩ := T.fBench_root
  refine ⟨_, fd, ["self", "target", "first"], [], T.cl_Bench, T.me_Bench_root, F.ok sc_Bench_root (fun vs H Q E h => ?_) (fun cdv A outer s H vs Q E hr h => ⟨_, PSs.nox (pss_cons (ps_expr (pe_mt (met_Bench_check_target T) hr (by decide) (pv 0) (pa_cons (pv 1) pa_nil)))
      (pss_cons (ps_set (i := 3) sc_Bench_root.nd rfl (Or.inl rfl) (pe_mt (met_Bench_both_of T) hr (by decide) (pv 0) (pa_cons (pv 2) pa_nil)))
      (pss_cons (ps_set (i := 4) sc_Bench_root.nd rfl (Or.inl rfl) (pe_tup (pa_cons (pe_c (cal_rounded_root T) hr (by decide) rfl (pa_cons (pe_ix ix_tup (pv 3) pe_int (fun _ _ => rfl)) (pa_cons (pe_fld (pv 0) rfl) pa_nil))) (pa_cons (pe_c (cal_rounded_root T) hr (by decide) rfl (pa_cons (pe_ix ix_tup (pv 3) pe_int (fun _ _ => rfl)) (pa_cons (pe_mt0 (met_Bench_direct_chain T) hr (by decide) (pv 0)) pa_nil))) pa_nil))))
      (pss_one (ps_expr (pe_mt (met_Bench_store T) hr (by decide) (pv 0) (pa_cons (pv 1) (pa_cons (pv 4) (pa_cons (pe_tup (pa_cons pe_str (pa_cons (pv 1) (pa_cons (pv 2) pa_nil)))) pa_nil))))))))), ?_⟩), F.bindsN (ps := ["self", "target", "first"]) fun _ _ _ _ _ _ us hl => match us, hl with | [_, _, _], _ => rfl, .nil⟩
  · obtain ⟨A, S, args, ds, S', rfl, _, _, hd, r, _⟩ := h
    cases r
    rw [List.length_cons, dps_len hd]
    rfl
  obtain ⟨A, S, args, ds, S', rfl, B, ok, hd, r, q⟩ := h
  cases r
  rename_i t a x h
  obtain ⟨v1, v2, rfl, hv1, hv2⟩ := dps2 hd
  cases dp_str hv1
  cases dp_str hv2
  have mw := minW_ok ok.ch
  have dc := one_ok (r := S.r) mw
  have hx := h.nx.mono (show 1050 ≤ 1100 by decide)
  have E0 : EnvR K H (start ["self", "target", "first", "ones", "both"] [.ref A.p, .str t, .str a]) [none, some (.str t), some (.str a), none, none] :=
    envr_x (envr_c (.str _) (envr_c (.str _) (envr_x (envr_x envr_nil))))
  refine vs_drop (ve_mb (vv_var rfl) B rfl (va_cons (ve_x (xe_var rfl) E0) va_nil) (RB_check_target.mk h.nt)) fun H1 e1 => ?_
  have B1 := B.ex e1
  have E1 := E0.ex e1
  refine vs_asg (ve_mb (vv_var rfl) B1 rfl (va_cons (ve_x (xe_var rfl) E1) va_nil) (RB_both_of.mk ⟨h.na, h.ga⟩)) fun u1 H2 e2 d1 => ?_
  have B2 := B1.ex e2
  have E2 := (E1.ex e2).set (i := 3) d1
  refine vs_asg (ve_tup (va_cons (ve_call (va_cons (ve_x (xe_ixT (ds := [numD x, numD x]) (xe_var rfl) xe_int (by decide) rfl) E2) (va_cons (ve_v (vv_b rfl B2 T.cl_Bench T.na_Bench_staged_chain rfl) B2.ch) va_nil)) (R_rounded_root.mk ⟨ok.ch, h.x1, hx⟩))
    (va_cons (ve_call (va_cons (ve_x (xe_ixT (ds := [numD x, numD x]) (xe_var rfl) xe_int (by decide) rfl) E2) (va_cons (ve_mb (vv_var rfl) B2 rfl va_nil (RB_direct_chain.mk ok.ch)) va_nil)) (R_rounded_root.mk ⟨dc, h.x1, hx⟩)) va_nil)) (by show 2 ≤ 1000; decide)) fun u3 H3 e3 d3 => ?_
  have B3 := B2.ex e3
  have E3 := (E2.ex e3).set (i := 4) d3
  refine vs_store (xy := resR S x) (cd := rootD t a) (vv_var rfl) B3 ok (va_cons (ve_x (xe_var rfl) E3) (va_cons (ve_x (xe_var rfl) E3) (va_cons (ve_x (xe_tup (xa_cons xe_str (xa_cons (xe_var rfl) (xa_cons (xe_var rfl) xa_nil))) (by show 3 ≤ 1000; decide)) E3) va_nil))) rfl (root_nm ok.ch hx) (root_nm dc hx) h.r1 h.r2 fun H4 x4 B4 => ?_
  exact q _ ((Exs.of ((e1.trans e2).trans e3)).trans x4) B4
theorem sc_Bench_add : FnScope ["self", "target", "first", "second"] ["self", "target", "first", "second"] (defScope sBench_add) := ⟨rfl, rfl, rfl, by decide +kernel, rfl, by decide +kernel, by decide +kernel⟩
theorem met_Bench_add (T : Top w K mg) : Met P w K mg base 9 (He.ga K "Bench") "add" (spM K (RM_bin .add)) [] := by
  obtain ⟨fd, F⟩ := T.fBench_add
  refine ⟨_, fd, ["self", "target", "first", "second"], [], T.cl_Bench, T.me_Bench_add, F.ok sc_Bench_add (fun vs H Q E h => ?_) (fun cdv A outer s H vs Q E hr h => ⟨_, PSs.nox (pss_one (ps_expr (pe_mt (met_Bench_combine T) hr (by decide) (pv 0) (pa_cons pe_str (pa_cons (pv 1) (pa_cons (pv 2) (pa_cons (pv 3) pa_nil))))))), ?_⟩), F.bindsN (ps := ["self", "target", "first", "second"]) fun _ _ _ _ _ _ us hl => match us, hl with | [_, _, _, _], _ => rfl, .nil⟩
  · obtain ⟨A, S, args, ds, S', rfl, _, _, hd, r, _⟩ := h
    cases r
    rw [List.length_cons, dps_len hd]
    rfl
  obtain ⟨A, S, args, ds, S', rfl, B, ok, hd, r, q⟩ := h
  cases r
  rename_i t a b x y h
  obtain ⟨v1, w1, rfl, hv1, hd1⟩ := dps_cons hd
  obtain ⟨v2, v3, rfl, hv2, hv3⟩ := dps2 hd1
  exact vs_mm (vv_var rfl) B ok rfl (va_cons (ve_str (n := ms .add)) (va_cons (ve_var rfl hv1) (va_cons (ve_var rfl hv2) (va_cons (ve_var rfl hv3) va_nil)))) (RM_combine.mk h) fun H1 x1 B1 => q _ x1 B1
theorem sc_Bench_subtract : FnScope ["self", "target", "first", "second"] ["self", "target", "first", "second"] (defScope sBench_subtract) := ⟨rfl, rfl, rfl, by decide +kernel, rfl, by decide +kernel, by decide +kernel⟩
theorem met_Bench_subtract (T : Top w K mg) : Met P w K mg base 9 (He.ga K "Bench") "subtract" (spM K (RM_bin .subtract)) [] := by
  obtain ⟨fd, F⟩ := T.fBench_subtract
  refine ⟨_, fd, ["self", "target", "first", "second"], [], T.cl_Bench, T.me_Bench_subtract, F.ok sc_Bench_subtract (fun vs H Q E h => ?_) (fun cdv A outer s H vs Q E hr h => ⟨_, PSs.nox (pss_one (ps_expr (pe_mt (met_Bench_combine T) hr (by decide) (pv 0) (pa_cons pe_str (pa_cons (pv 1) (pa_cons (pv 2) (pa_cons (pv 3) pa_nil))))))), ?_⟩), F.bindsN (ps := ["self", "target", "first", "second"]) fun _ _ _ _ _ _ us hl => match us, hl with | [_, _, _, _], _ => rfl, .nil⟩
  · obtain ⟨A, S, args, ds, S', rfl, _, _, hd, r, _⟩ := h
    cases r
    rw [List.length_cons, dps_len hd]
    rfl
  obtain ⟨A, S, args, ds, S', rfl, B, ok, hd, r, q⟩ := h
  cases r
  rename_i t a b x y h
  obtain ⟨v1, w1, rfl, hv1, hd1⟩ := dps_cons hd
  obtain ⟨v2, v3, rfl, hv2, hv3⟩ := dps2 hd1
  exact vs_mm (vv_var rfl) B ok rfl (va_cons (ve_str (n := ms .subtract)) (va_cons (ve_var rfl hv1) (va_cons (ve_var rfl hv2) (va_cons (ve_var rfl hv3) va_nil)))) (RM_combine.mk h) fun H1 x1 B1 => q _ x1 B1
theorem sc_Bench_multiply : FnScope ["self", "target", "first", "second"] ["self", "target", "first", "second"] (defScope sBench_multiply) := ⟨rfl, rfl, rfl, by decide +kernel, rfl, by decide +kernel, by decide +kernel⟩
theorem met_Bench_multiply (T : Top w K mg) : Met P w K mg base 9 (He.ga K "Bench") "multiply" (spM K (RM_bin .multiply)) [] := by
  obtain ⟨fd, F⟩ := T.fBench_multiply
  refine ⟨_, fd, ["self", "target", "first", "second"], [], T.cl_Bench, T.me_Bench_multiply, F.ok sc_Bench_multiply (fun vs H Q E h => ?_) (fun cdv A outer s H vs Q E hr h => ⟨_, PSs.nox (pss_one (ps_expr (pe_mt (met_Bench_combine T) hr (by decide) (pv 0) (pa_cons pe_str (pa_cons (pv 1) (pa_cons (pv 2) (pa_cons (pv 3) pa_nil))))))), ?_⟩), F.bindsN (ps := ["self", "target", "first", "second"]) fun _ _ _ _ _ _ us hl => match us, hl with | [_, _, _, _], _ => rfl, .nil⟩
  · obtain ⟨A, S, args, ds, S', rfl, _, _, hd, r, _⟩ := h
    cases r
    rw [List.length_cons, dps_len hd]
    rfl
  obtain ⟨A, S, args, ds, S', rfl, B, ok, hd, r, q⟩ := h
  cases r
  rename_i t a b x y h
  obtain ⟨v1, w1, rfl, hv1, hd1⟩ := dps_cons hd
  obtain ⟨v2, v3, rfl, hv2, hv3⟩ := dps2 hd1
  exact vs_mm (vv_var rfl) B ok rfl (va_cons (ve_str (n := ms .multiply)) (va_cons (ve_var rfl hv1) (va_cons (ve_var rfl hv2) (va_cons (ve_var rfl hv3) va_nil)))) (RM_combine.mk h) fun H1 x1 B1 => q _ x1 B1
theorem sc_Bench_divide : FnScope ["self", "target", "first", "second"] ["self", "target", "first", "second"] (defScope sBench_divide) := ⟨rfl, rfl, rfl, by decide +kernel, rfl, by decide +kernel, by decide +kernel⟩
theorem met_Bench_divide (T : Top w K mg) : Met P w K mg base 9 (He.ga K "Bench") "divide" (spM K (RM_bin .divide)) [] := by
  obtain ⟨fd, F⟩ := T.fBench_divide
  refine ⟨_, fd, ["self", "target", "first", "second"], [], T.cl_Bench, T.me_Bench_divide, F.ok sc_Bench_divide (fun vs H Q E h => ?_) (fun cdv A outer s H vs Q E hr h => ⟨_, PSs.nox (pss_one (ps_expr (pe_mt (met_Bench_combine T) hr (by decide) (pv 0) (pa_cons pe_str (pa_cons (pv 1) (pa_cons (pv 2) (pa_cons (pv 3) pa_nil))))))), ?_⟩), F.bindsN (ps := ["self", "target", "first", "second"]) fun _ _ _ _ _ _ us hl => match us, hl with | [_, _, _, _], _ => rfl, .nil⟩
  · obtain ⟨A, S, args, ds, S', rfl, _, _, hd, r, _⟩ := h
    cases r
    rw [List.length_cons, dps_len hd]
    rfl
  obtain ⟨A, S, args, ds, S', rfl, B, ok, hd, r, q⟩ := h
  cases r
  rename_i t a b x y h
  obtain ⟨v1, w1, rfl, hv1, hd1⟩ := dps_cons hd
  obtain ⟨v2, v3, rfl, hv2, hv3⟩ := dps2 hd1
  exact vs_mm (vv_var rfl) B ok rfl (va_cons (ve_str (n := ms .divide)) (va_cons (ve_var rfl hv1) (va_cons (ve_var rfl hv2) (va_cons (ve_var rfl hv3) va_nil)))) (RM_combine.mk h) fun H1 x1 B1 => q _ x1 B1
end
end SR
end
section
set_option Elab.async false
set_option linter.all false
set_option maxRecDepth 100000
set_option maxHeartbeats 1000000
/-! Bench: names, differing, first_split, log, undo; the bench made. -/
namespace SR
open PySem PySem.Spec PyProof.Rows L2
open Evl (Ex)
open C8 (Cal Met Mak pe_c pe_mt pe_mt0 pe_mk pe_gc)
theorem dps_ofStrs {K : PySem.W.Frag} {H : Hp} : ∀ ys : List Str, DpAll K H (ys.map V.str) (ys.map PyData.str)
  | [] => .nil
  | y :: ys => .cons (.str y) (dps_ofStrs ys)
theorem dps_ofBools {K : PySem.W.Frag} {H : Hp} : ∀ ys : List Bool, DpAll K H (ys.map V.bl) (ys.map PyData.bool)
  | [] => .nil
  | y :: ys => .cons (.bl y) (dps_ofBools ys)
def keysR (h : List Reg) : List Str := h.map (·.1)
/-- whether a name's two results differ -/
def flt (h : List Reg) (z : Str) : Bool := match getR h z with
  | some xy => !decide (xy.1 = xy.2)
  | none => false
theorem getR_mem : ∀ {h : List Reg} {z : Str}, z ∈ keysR h → ∃ xy, getR h z = some xy
  | [], z, m => by cases m
  | q :: h, z, m => by
    unfold getR
    by_cases hz : q.1 = z
    · exact ⟨_, if_pos hz⟩
    · rw [if_neg hz]
      refine getR_mem ?_
      rcases List.mem_cons.mp m with e | m
      · exact absurd e.symm hz
      · exact m
def spNames (K : PySem.W.Frag) : Sp := fun vs H Q _ => ∃ (A : BA) (S : BS), vs = [.ref A.p] ∧ Bn K H A S ∧ S.held.length ≤ 51 ∧ ∀ (ys : List Str) v H', ys.Perm (keysR S.held) → Ex H H' → Dp K H' v (.tuple (ys.map .str)) → Q v H'
def spDiff (K : PySem.W.Frag) : Sp := fun vs H Q _ => ∃ (A : BA) (S : BS) (ds : List PyData), vs = [.ref A.p] ∧ Bn K H A S ∧ S.held.length ≤ 51 ∧ (∀ ys : List Str, ys.Perm (keysR S.held) → (ys.filter (flt S.held)).map .str = ds) ∧ ∀ v H', Ex H H' → Dp K H' v (.tuple ds) → Q v H'
inductive RB_first_split : BS → List PyData → PyData → Prop
  | no {S : BS} {n : Nat} (h : S.splits = List.replicate n false) : RB_first_split S [] .none
  | yes {S : BS} {n : Nat} {rest : List Bool} (h : S.splits = List.replicate n false ++ true :: rest) (h1 : S.splits.length ≤ 100) : RB_first_split S [] (.int n)
inductive RB_log : BS → List PyData → PyData → Prop
  | mk {S : BS} (h : True) : RB_log S [] (.tuple S.made)
def spUndo (K : PySem.W.Frag) : Sp := fun vs H Q _ => ∃ (A : BA) (S : BS) (h0 : List Reg), vs = [.ref A.p] ∧ Bn K H A S ∧ S.Ok ∧ S.prev = some h0 ∧ S.made ≠ [] ∧ SeqAt.shaped (.list S.made) = true ∧
  ∀ H' hd, ¬ S.F hd → Exs [A.p, A.hd, A.ml, A.sl, A.pl] H H' → Bn K H' { A with hd := hd } { S with held := h0, made := S.made.dropLast, splits := S.splits.dropLast, prev := none } → Q .non H'
theorem inV_bools {x : Bool} {xs : List Bool} : inV (.bl x) (xs.map V.bl) = xs.contains x := by
  induction xs with
  | nil => rfl
  | cons y ys ih =>
    show (eqV (.bl y) (.bl x) || inV (.bl x) (ys.map V.bl)) = _
    rw [ih, List.contains_cons]
    congr 1
    cases x <;> cases y <;> rfl
theorem shaped_bools (xs : List Bool) : SeqAt.shaped (.list (xs.map .bool)) = true := by
  have h1 : ∀ xs : List Bool, PyData.canLayAll0 (xs.map .bool) = true := by
    intro xs
    induction xs with
    | nil => simp [PyData.canLayAll0]
    | cons x xs ih => simp [PyData.canLayAll0, PyData.canLay0, ih]
  have h2 : ∀ xs : List Bool, PyData.depthAll (xs.map .bool) = 0 := by
    intro xs
    induction xs with
    | nil => simp [PyData.depthAll]
    | cons x xs ih => simp [PyData.depthAll, PyData.depth, ih]
  unfold SeqAt.shaped
  simp only [PyData.canLay0, PyData.depth, h1, h2]
  decide
section
variable {P : Program} {w : World} {K : PySem.W.Frag} {mg : Str → Option Value} {base : Heap}
theorem sc_Bench_names : FnScope ["self"] ["self"] (defScope sBench_names) := ⟨rfl, rfl, rfl, by decide +kernel, rfl, by decide +kernel, by decide +kernel⟩
theorem met_Bench_names (T : Top w K mg) : Met P w K mg base 1 (He.ga K "Bench") "names" (spNames K) [] := by
  obtain ⟨fd, F⟩ := T.fBench_names
  refine ⟨_, fd, ["self"], [], T.cl_Bench, T.me_Bench_names, F.ok sc_Bench_names (fun vs H Q E h => ?_) (fun cdv A outer s H vs Q E hr h => ⟨_, PSs.nox (pss_one (ps_ret (pe_callTy call_tuple_of (by rfl) T.b_tuple (by decide +kernel) (pa_cons (pe_callB (call_sortedD rfl) (by rfl) T.b_sorted (by decide +kernel) (pa_cons (pe_fld (pv 0) rfl) pa_nil)) pa_nil)))), ?_⟩), F.bindsN (ps := ["self"]) fun _ _ _ _ _ _ us hl => match us, hl with | [_], _ => rfl, .nil⟩
  · obtain ⟨A, S, rfl, _⟩ := h
    rfl
  obtain ⟨A, S, rfl, B, hz, q⟩ := h
  obtain ⟨kvs, k1, k2⟩ := B.held
  have F : VV (tFld K (tVar 0) "held") (start ["self"] [.ref A.p]) H (.ref A.hd) := vv_b rfl B T.cl_Bench T.na_Bench_held rfl
  refine F H (Evl.Ex.refl _) _ fun H1 e1 => ?_
  refine ⟨A.hd, kvs, keysR S.held, rfl, .inl (e1 _ _ k1), ?_, ?_, fun ys p hp hs hn => ?_⟩
  · rw [k2.ks]
    unfold keysR
    rw [List.map_map]
    rfl
  · unfold keysR
    rw [List.length_map]
    omega
  · refine ⟨p, ys.map V.str, rfl, .inl ⟨SqL.of upd_same, fun l hl => ?_⟩⟩
    exact q ys _ _ hp (e1.trans ((Evl.Ex.new hn).trans (Evl.Ex.new hl))) (.tup (SqT.of upd_same) (dps_ofStrs ys))
theorem sc_Bench_differing : FnScope ["self", "name"] ["self"] (defScope sBench_differing) := ⟨rfl, rfl, rfl, by decide +kernel, rfl, by decide +kernel, by decide +kernel⟩
theorem met_Bench_differing (T : Top w K mg) : Met P w K mg base 2 (He.ga K "Bench") "differing" (spDiff K) [] := by
  obtain ⟨fd, F⟩ := T.fBench_differing
  refine ⟨_, fd, ["self"], [], T.cl_Bench, T.me_Bench_differing, F.ok sc_Bench_differing (fun vs H Q E h => ?_) (fun cdv A outer s H vs Q E hr h => ⟨_, PSs.nox (pss_one (ps_ret (pe_callTy call_tuple_of (by rfl) T.b_tuple (by decide +kernel) (pa_cons (pe_lc (own := [("name", 1)]) (tt := tTest (tOp (rNeD K) (tOp (rIxT K) (tDGet (tFld K (tVar 0) "held") (tVar 1)) (tC (.int 0))) (tOp (rIxT K) (tDGet (tFld K (tVar 0) "held") (tVar 1)) (tC (.int 1))))) rfl sc_Bench_differing.nd (pi_tup (pe_mt0 (met_Bench_names T) hr (by decide) (pv 0))) (blkOk_by (N := ["self", "name"]) (sc := defScope sBench_differing) (by decide +kernel)) (fun _ _ _ _ _ => (pg_name (i := 1) sc_Bench_differing.nd rfl (Or.inl rfl) (Or.inr rfl))) (fun _ _ _ _ _ => (pts_one (pt_cmpR (op_neD (by exact hr.units)) (pe_ix ix_tup (pe_dget (by exact hu_of hr) (pe_fld (pv 0) rfl) (pv 1) (fun _ _ => rfl)) pe_int (fun _ _ => rfl)) (pe_ix ix_tup (pe_dget (by exact hu_of hr) (pe_fld (pv 0) rfl) (pv 1) (fun _ _ => rfl)) pe_int (fun _ _ => rfl)) (nomark _)))) (fun _ _ _ _ _ => (pv 1))) pa_nil)))), ?_⟩), F.bindsN (ps := ["self"]) fun _ _ _ _ _ _ us hl => match us, hl with | [_], _ => rfl, .nil⟩
  · obtain ⟨A, S, ds, rfl, _⟩ := h
    rfl
  obtain ⟨A, S, ds, rfl, B, hz, hds, q⟩ := h
  refine ⟨.ref A.p, rfl, A.p, A.dx, _, rfl, B.ob, rfl, A, S, rfl, B, hz, fun ys v H1 hp e1 hv => ?_⟩
  obtain ⟨a, xs, rfl, hs, hx⟩ := dp_tup hv
  have hxs := dps_strs hx
  subst hxs
  refine ⟨a, rfl, ⟨_, hs⟩, fun Dd hD => ?_⟩
  have B1 := B.ex e1
  refine lc_it (walk_tup (K := K) (a := a) (xs := ys.map V.str)) (fun i H' => ∃ acc, H' Dd = some (.lst acc) ∧ acc = ((ys.take i).filter (flt S.held)).map V.str ∧ Ex H1 H') ⟨[], upd_same, rfl, Evl.Ex.new hD⟩ (fun i H' _ ⟨_, _, _, e'⟩ => ex_t e' hs) ?_ ?_
  · rintro i x H' H3 hi ⟨acc, hacc, rfl, e'⟩ ⟨rfl, hx'⟩
    rw [List.getElem?_map] at hx'
    cases hy : ys[i]? with
    | none => rw [hy] at hx'; cases hx'
    | some y =>
      rw [hy] at hx'
      cases Option.some.inj hx'
      obtain ⟨xy, hg⟩ := getR_mem (hp.mem_iff.mp (List.mem_of_getElem? hy))
      have B3 := B1.ex e'
      have hs0 : ((L2.wipe (start ["self", "name"] [V.ref A.p]) [1]).set 1 (some (V.str y)))[0]? = some (some (.ref A.p)) := rfl
      have hs1 : ((L2.wipe (start ["self", "name"] [V.ref A.p]) [1]).set 1 (some (V.str y)))[1]? = some (some (.str y)) := rfl
      have G : ∀ n : Nat, VE K (tDGet (tFld K (tVar 0) "held") (tVar 1)) ((L2.wipe (start ["self", "name"] [V.ref A.p]) [1]).set 1 (some (V.str y))) H3 (bothD xy) := fun n =>
        ve_dget (vv_b hs0 B3 T.cl_Bench T.na_Bench_held rfl) (ve_var hs1 (.str y)) B3.held hg
      refine ⟨rfl, ?_⟩
      refine vt_test (ve_neD (ve_ixT (n := 0) (ds := [numD xy.1, numD xy.2]) (G 0) ve_int (by decide) rfl) (ve_ixT (n := 1) (ds := [numD xy.1, numD xy.2]) (G 1) ve_int (by decide) rfl) rfl rfl) H3 (Evl.Ex.refl _) _ fun H4 e4 => ?_
      have ef : (!PyData.eqv (numD xy.1) (numD xy.2)) = flt S.held y := by
        unfold flt
        rw [hg, eqv_num]
      rw [ef]
      have hacc4 := e4 _ _ hacc
      have et : ys.take (i + 1) = ys.take i ++ [y] := take_snoc hy
      by_cases hb : flt S.held y = true
      · rw [if_pos hb]
        refine ⟨.str y, hs1, _, hacc4, ?_, _, upd_same, ?_, Evl.Ex.mut (e'.trans e4) hD⟩
        · rw [List.length_map]
          have l1 := List.length_filter_le (flt S.held) (ys.take i)
          have l2 : (ys.take i).length ≤ ys.length := by rw [List.length_take]; omega
          have l3 := hp.length_eq
          unfold keysR at l3
          rw [List.length_map] at l3
          exact Nat.lt_of_le_of_lt (show _ ≤ 51 by omega) (by decide)
        · rw [et, List.filter_append, List.map_append, List.filter_cons_of_pos hb]
          rfl
      · rw [if_neg hb]
        refine ⟨_, hacc4, ?_, e'.trans e4⟩
        rw [et, List.filter_append, List.map_append, List.filter_cons_of_neg hb]
        simp
  · rintro H' ⟨acc, hacc, rfl, e'⟩
    refine ⟨Dd, _, rfl, .inl ⟨SqL.of hacc, fun l hl => ?_⟩⟩
    refine q _ _ (e1.trans (e'.trans (Evl.Ex.new hl))) ?_
    have e : (ys.take (ys.map V.str).length) = ys := by rw [List.length_map, List.take_length]
    rw [e]
    rw [← hds ys hp]
    exact .tup (SqT.of upd_same) (dps_ofStrs _)
theorem sc_Bench_first_split : FnScope ["self"] ["self"] (defScope sBench_first_split) := ⟨rfl, rfl, rfl, by decide +kernel, rfl, by decide +kernel, by decide +kernel⟩
theorem met_Bench_first_split (T : Top w K mg) : Met P w K mg base 1 (He.ga K "Bench") "first_split" (spB K RB_first_split) [] := by
  obtain ⟨fd, F⟩ := T.fBench_first_split
  refine ⟨_, fd, ["self"], [], T.cl_Bench, T.me_Bench_first_split, F.ok sc_Bench_first_split (fun vs H Q E h => ?_) (fun cdv A outer s H vs Q E hr h => ⟨_, PSs.nox (pss_one (ps_ret (pe_ifExp (pt_cmpR op_in_seq pe_bl (pe_fld (pv 0) rfl) (by rfl)) (pe_bm PySem.F.plainAttrs_list PySem.F.slot_list_index PySem.F.type_list_index (mt_indexD (by exact hu65 hr)) (pe_fld (pv 0) rfl) (pa_cons pe_bl pa_nil)) pe_non))), ?_⟩), F.bindsN (ps := ["self"]) fun _ _ _ _ _ _ us hl => match us, hl with | [_], _ => rfl, .nil⟩
  · obtain ⟨A, S, args, ds, d, rfl, _, hd, r, _⟩ := h
    cases r <;> rw [List.length_cons, dps_len hd] <;> rfl
  obtain ⟨A, S, args, ds, d, rfl, B, hd, r, q⟩ := h
  have ea : args = [] := by cases r <;> exact dps_nil hd
  subst ea
  have F : VE K (tFld K (tVar 0) "splits") (start ["self"] [.ref A.p]) H (.list (S.splits.map .bool)) := ve_v (vv_b rfl B T.cl_Bench T.na_Bench_splits rfl) (.lst (SqL.of B.splits) (dps_ofBools _))
  have C : VE K (tOp (rIn K false) (tC (.bl true)) (tFld K (tVar 0) "splits")) (start ["self"] [.ref A.p]) H (.bool (S.splits.contains true)) :=
    ve_op (d1 := .bool true) (ve_v vv_c (.bl true)) F fun x y H Q hx hy q => by
      obtain ⟨a, vs, rfl, hs, hd⟩ := dp_lst hy
      rw [dps_bools hd] at hs
      rw [dp_bool hx]
      refine ⟨a, _, rfl, .inl hs, rfl, by rw [List.all_map]; exact List.all_eq_true.mpr fun _ _ => rfl, ?_⟩
      show Q (.bl (inV _ _)) H
      rw [inV_bools]
      exact q _ H (Evl.Ex.refl H) (.bl _)
  cases r with
  | no h =>
    rename_i n
    have ec : S.splits.contains true = false := by
      rw [h, Bool.eq_false_iff]
      intro z
      have := List.eq_of_mem_replicate (List.contains_iff_mem.mp z)
      cases this
    rw [ec] at C
    exact vs_ret (K := K) (ve_ifC (d1 := .none) (d2 := .none) (vt_test C) (fun z => nomatch z) fun _ => ve_v vv_c .non) fun v H1 e1 d1 => q v H1 e1 d1
  | yes h h1 =>
    rename_i n rest
    have ec : S.splits.contains true = true := by
      rw [h]
      simp
    rw [ec] at C
    refine vs_ret (K := K) (ve_ifC (d1 := .int n) (d2 := .none) (vt_test C) (fun _ => ?_) fun z => nomatch z) fun v H1 e1 d1 => q v H1 e1 d1
    intro H0 e0 Q kq
    have FV : VV (tFld K (tVar 0) "splits") (start ["self"] [.ref A.p]) H (.ref A.sl) := vv_b rfl B T.cl_Bench T.na_Bench_splits rfl
    refine FV H0 e0 _ fun H1 e1 => ⟨.inl ⟨rfl, _, SqL.of (e1 _ _ (e0 _ _ B.splits))⟩, ?_⟩
    refine ⟨A.sl, .bl true, .bool true, S.splits.map .bool, n, .bool true, rfl, rfl, .lst (SqL.of (e1 _ _ (e0 _ _ B.splits))) (dps_ofBools _), .bl true, shaped_bools _, rfl, ?_, rfl, ?_, kq _ _ e1 (.int _)⟩
    · rw [List.getElem?_map, h, List.getElem?_append_right (by simp), List.length_replicate, Nat.sub_self]
      rfl
    · intro m z' hm hz
      rw [List.getElem?_map, h, List.getElem?_append_left (by simpa using hm), List.getElem?_replicate, if_pos hm] at hz
      cases Option.some.inj hz
      rfl
theorem sc_Bench_log : FnScope ["self"] ["self"] (defScope sBench_log) := ⟨rfl, rfl, rfl, by decide +kernel, rfl, by decide +kernel, by decide +kernel⟩
theorem met_Bench_log (T : Top w K mg) : Met P w K mg base 1 (He.ga K "Bench") "log" (spB K RB_log) [] := by
  obtain ⟨fd, F⟩ := T.fBench_log
  refine ⟨_, fd, ["self"], [], T.cl_Bench, T.me_Bench_log, F.ok sc_Bench_log (fun vs H Q E h => ?_) (fun cdv A outer s H vs Q E hr h => ⟨_, PSs.nox (pss_one (ps_ret (pe_callTy call_tuple_of (by rfl) T.b_tuple (by decide +kernel) (pa_cons (pe_fld (pv 0) rfl) pa_nil)))), ?_⟩), F.bindsN (ps := ["self"]) fun _ _ _ _ _ _ us hl => match us, hl with | [_], _ => rfl, .nil⟩
  · obtain ⟨A, S, args, ds, d, rfl, _, hd, r, _⟩ := h
    cases r
    rw [List.length_cons, dps_len hd]
    rfl
  obtain ⟨A, S, args, ds, d, rfl, B, hd, r, q⟩ := h
  cases r
  cases dps_nil hd
  obtain ⟨mv, m1, m2⟩ := B.made
  have F : VV (tFld K (tVar 0) "made") (start ["self"] [.ref A.p]) H (.ref A.ml) := vv_b rfl B T.cl_Bench T.na_Bench_made rfl
  refine F H (Evl.Ex.refl _) _ fun H1 e1 => ⟨A.ml, mv, rfl, .inl ⟨SqL.of (e1 _ _ m1), fun l hl => ?_⟩⟩
  have e := e1.trans (Evl.Ex.new (o := .tup mv) hl)
  exact q _ _ e (.tup (SqT.of upd_same) (dps_ex e _ _ m2))
end
end SR
end
section
set_option Elab.async false
set_option linter.all false
set_option maxRecDepth 100000
set_option maxHeartbeats 1000000
/-! Bench: undo; the bench made. -/
namespace SR
open PySem PySem.Spec PyProof.Rows L2
open Evl (Ex)
open C8 (Cal Met Mak pe_c pe_mt pe_mt0 pe_mk pe_gc)
theorem dps_dropLast {K : PySem.W.Frag} {H : Hp} : ∀ {ds : List PyData} {vs : List V}, DpAll K H vs ds → DpAll K H vs.dropLast ds.dropLast
  | [], _, h => by cases h; exact .nil
  | [d], _, h => by
    cases h with
    | cons h1 h2 => cases h2; exact .nil
  | d :: e :: ds, _, h => by
    cases h with
    | cons h1 h2 =>
      have ih := dps_dropLast h2
      cases h2 with
      | cons h3 h4 => exact .cons h1 ih
def spMkBench (K : PySem.W.Frag) : Sp := fun vs H Q _ => ∃ (p dx : Addr) (vc : V) (c : Chain) (r : Rule) (F : Addr → Prop), vs = [.ref p, vc, .str (rs r)] ∧ H p = some (.ins (bC K) dx []) ∧ Dp K H vc (chD c) ∧ ChOk c ∧ (∀ f, F f → H f ≠ none) ∧
  ∀ H' A, A.p = p → Exs [p] H H' → Bn K H' A { ch := c, r := r, held := [], made := [], splits := [], prev := none, F := F } → H A.hd = none → H A.ml = none → H A.sl = none → H A.pl = none → Q .non H'
section
variable {K : PySem.W.Frag} {t u ta tb te : TE} {d d1 d2 : PyData} {ds es : List PyData} {t1 t2 : TS} {i j : Nat} {D : Ends} {σ : L2.St} {H : Hp} {v : V}
/-- self.f = what is new -/
theorem vs_fldQ {p C dx : Addr} {fs : List (Str × V)} {f : Str} {P : V → Hp → Prop} (hv : ∀ Q : VK, (∀ v H1, Ex H H1 → P v H1 → Q v H1) → te σ H Q) (ho : VV ta σ H (.ref p)) (hp : H p = some (.ins C dx fs)) (hc : Cls K C) (hn : NoAttr K C f) (hl : fs.length < 1000)
    (hP : ∀ v H1 H2, Ex H1 H2 → P v H1 → P v H2) (k : ∀ v H', Ex H H' → P v H' → D.nx σ (upd H' p (.ins C dx (putF f v fs)))) : sFld K ta te f D σ H :=
  hv _ fun v H1 e1 hd => ho H1 e1 _ fun H2 e2 => ⟨p, C, dx, fs, rfl, e2 _ _ (e1 _ _ hp), hc, hn, hl, k v H2 (e1.trans e2) (hP v H1 H2 e2 hd)⟩
theorem vs_pop {l : Addr} {xs : List V} (ho : VV ta σ H (.ref l)) (hl : H l = some (.lst xs)) (hx : 0 < xs.length) (k : ∀ H1, Ex H H1 → D.nx σ (upd H1 l (.lst xs.dropLast))) : tDrop (tBM0 K "list" rPop ta) D σ H :=
  ho H (Evl.Ex.refl H) _ fun H1 e1 => ⟨.inl ⟨rfl, xs, SqL.of (e1 _ _ hl)⟩, l, xs, xs[xs.length - 1]'(by omega), rfl, rfl, e1 _ _ hl, List.getElem?_eq_getElem (by omega), k H1 e1⟩
theorem vs_fldPop {l p C dx : Addr} {fs : List (Str × V)} {f : Str} {xs : List V} {y : V} (ho : VV ta σ H (.ref l)) (hl : H l = some (.lst xs)) (hy : xs.getLast? = some y) (hs : σ[i]? = some (some (.ref p))) (hp : H p = some (.ins C dx fs)) (hpl : p ≠ l) (hc : Cls K C) (hn : NoAttr K C f) (hf : fs.length < 1000)
    (k : ∀ H1, Ex H H1 → D.nx σ (upd (upd H1 l (.lst xs.dropLast)) p (.ins C dx (putF f y fs)))) : sFld K (tVar i) (tBM0 K "list" rPop ta) f D σ H :=
  ho H (Evl.Ex.refl H) _ fun H1 e1 => ⟨.inl ⟨rfl, xs, SqL.of (e1 _ _ hl)⟩, l, xs, y, rfl, rfl, e1 _ _ hl, by rw [List.getLast?_eq_getElem?] at hy; exact hy, .ref p, hs, p, C, dx, fs, rfl, by rw [upd_ne hpl]; exact e1 _ _ hp, hc, hn, hf, k H1 e1⟩
theorem ne_new {H : Hp} {a b : Addr} {o : HO} (h : H a = some o) (k : H b = none) : a ≠ b := fun z => by
  subst z
  rw [h] at k
  cases k
theorem exs_fresh {p a : Addr} {H H' : Hp} {o : HO} (x : Exs [p] H H') (hp : H' p = some o) (h : H' a = none) : H a = none := by
  cases hh : H a with
  | none => rfl
  | some u =>
    by_cases ha : a = p
    · subst ha
      rw [hp] at h
      cases h
    · rw [x a u (by simpa using ha) hh] at h
      cases h
end
section
variable {P : Program} {w : World} {K : PySem.W.Frag} {mg : Str → Option Value} {base : Heap}
theorem sc_Bench_undo : FnScope ["self"] ["self"] (defScope sBench_undo) := ⟨rfl, rfl, rfl, by decide +kernel, rfl, by decide +kernel, by decide +kernel⟩
theorem met_Bench_undo (T : Top w K mg) : Met P w K mg base 1 (He.ga K "Bench") "undo" (spUndo K) [] := by
  obtain ⟨fd, F⟩ := T.fBench_undo
  refine ⟨_, fd, ["self"], [], T.cl_Bench, T.me_Bench_undo, F.ok sc_Bench_undo (fun vs H Q E h => ?_) (fun cdv A outer s H vs Q E hr h => ⟨_, PSs.nox (pss_cons (ps_if (pt_cmpR (op_eqD (by exact hr.units)) (pe_fld (pv 0) rfl) (pe_lst pa_nil) (nomark _)) (pss_one ps_never) pss_nil)
      (pss_cons (ps_fld (pv 0) (pe_bm0 PySem.F.plainAttrs_list PySem.F.slot_list_pop PySem.F.type_list_pop mt_pop (pe_fld (pv 0) rfl)) rfl)
      (pss_cons (ps_expr (pe_bm0 PySem.F.plainAttrs_list PySem.F.slot_list_pop PySem.F.type_list_pop mt_pop (pe_fld (pv 0) rfl)))
      (pss_one (ps_expr (pe_bm0 PySem.F.plainAttrs_list PySem.F.slot_list_pop PySem.F.type_list_pop mt_pop (pe_fld (pv 0) rfl))))))), ?_⟩), F.bindsN (ps := ["self"]) fun _ _ _ _ _ _ us hl => match us, hl with | [_], _ => rfl, .nil⟩
  · obtain ⟨A, S, h0, rfl, _⟩ := h
    rfl
  obtain ⟨A, S, h0, rfl, B, ok, hprev, hne, hsh, q⟩ := h
  obtain ⟨ob, hch, ⟨kvs, k1, k2⟩, ⟨mv, m1, m2⟩, sp, ⟨pv, p1, p2', p3⟩, fb, n1, n2, n3⟩ := B
  obtain ⟨qa, hlast, qne, qnf, kvq, kq1, kq2⟩ := p3 h0 hprev
  have Fm : VE K (tFld K (tVar 0) "made") (start ["self"] [.ref A.p]) H (.list S.made) := ve_v (vv_fld (vv_var rfl) ob T.cl_Bench T.na_Bench_made rfl) (.lst (SqL.of m1) m2)
  refine vs_if (b := false) (VT.to (vt_test (ve_eqD Fm (ve_x (ρ := [none]) (xe_lst xa_nil (by show 0 ≤ 1000; decide)) (envr_x envr_nil)) hsh rfl)) ?_) (fun z => nomatch z) fun _ H1 e1 => ?_
  · cases hm : S.made with
    | nil => exact absurd hm hne
    | cons m ms => rfl
  have a1 : A.p ≠ A.pl := ne_kind ob p1 (by intro z; cases z)
  have a3 : A.p ≠ A.ml := ne_kind ob m1 (by intro z; cases z)
  have a7 : A.p ≠ A.sl := ne_kind ob sp (by intro z; cases z)
  have a2 : A.p ≠ qa := ne_kind ob kq1 (by intro z; cases z)
  have a4 : qa ≠ A.pl := ne_kind kq1 p1 (by intro z; cases z)
  have a5 : qa ≠ A.ml := ne_kind kq1 m1 (by intro z; cases z)
  have a6 : qa ≠ A.sl := ne_kind kq1 sp (by intro z; cases z)
  have ob1 := e1 _ _ ob
  have p1' := e1 _ _ p1
  -- self.held = self.past.pop()
  refine vs_fldPop (K := K) (vv_fld (vv_var rfl) ob1 T.cl_Bench T.na_Bench_past rfl) p1' hlast rfl ob1 a1 T.cl_Bench T.na_Bench_held (by show 6 < 1000; decide) fun H2 e2 => ?_
  have ob2 : (upd H2 A.pl (.lst pv.dropLast)) A.p = some (.ins (bC K) A.dx (benchF A S.r)) := by
    rw [upd_ne a1]
    exact e2 _ _ ob1
  -- self.made.pop()
  have e02 := e1.trans e2
  have t2 : Tx H (upd H2 A.pl (.lst pv.dropLast)) := (Tx.of_ex e02).trans (Tx.lst (e02 _ _ p1))
  have t3 : Tx H (upd (upd H2 A.pl (.lst pv.dropLast)) A.p (.ins (bC K) A.dx (putF "held" (.ref qa) (benchF A S.r)))) := t2.trans (Tx.ins ob2)
  have e3 : putF "held" (.ref qa) (benchF A S.r) = benchF { A with hd := qa } S.r := rfl
  rw [e3] at t3 ⊢
  generalize hH3 : upd (upd H2 A.pl (.lst pv.dropLast)) A.p (.ins (bC K) A.dx (benchF { A with hd := qa } S.r)) = H3 at *
  have ob3 : H3 A.p = some (.ins (bC K) A.dx (benchF { A with hd := qa } S.r)) := by rw [← hH3, upd_same]
  have m3 : H3 A.ml = some (.lst mv) := by rw [← hH3, upd_ne a3.symm, upd_ne n2]; exact e02 _ _ m1
  have sp3 : H3 A.sl = some (.lst (S.splits.map V.bl)) := by rw [← hH3, upd_ne a7.symm, upd_ne n3]; exact e02 _ _ sp
  have p3' : H3 A.pl = some (.lst pv.dropLast) := by rw [← hH3, upd_ne a1.symm, upd_same]
  have q3 : H3 qa = some (.dK kvq) := by rw [← hH3, upd_ne a2.symm, upd_ne a4]; exact e02 _ _ kq1
  have x3 : Exs [A.p, A.hd, A.ml, A.sl, A.pl] H H3 := by
    rw [← hH3]
    exact ((Exs.of e02).upd (by simp)).upd (by simp)
  have nnH3 : ∀ f, H f ≠ none → H3 f ≠ none := fun f hf => by
    rw [← hH3]
    exact nn_upd (nn_upd (nn_ex e02 hf))
  clear hH3 e3 t2 ob2
  have mlen := dps_len m2
  have mpos : 0 < mv.length := by
    rw [mlen]
    exact List.length_pos_iff.mpr hne
  refine vs_pop (K := K) (vv_fld (vv_var rfl) ob3 T.cl_Bench T.na_Bench_made rfl) m3 mpos fun H4 e4 => ?_
  have ob5 : (upd H4 A.ml (.lst mv.dropLast)) A.p = some (.ins (bC K) A.dx (benchF { A with hd := qa } S.r)) := by
    rw [upd_ne a3]
    exact e4 _ _ ob3
  have sp5 : (upd H4 A.ml (.lst mv.dropLast)) A.sl = some (.lst (S.splits.map V.bl)) := by
    rw [upd_ne n1.symm]
    exact e4 _ _ sp3
  have spos : 0 < (S.splits.map V.bl).length := by
    rw [List.length_map, ok.len, ← mlen]
    exact mpos
  refine vs_pop (K := K) (vv_fld (vv_var rfl) ob5 T.cl_Bench T.na_Bench_splits rfl) sp5 spos fun H6 e6 => ?_
  have t4 : Tx H (upd H4 A.ml (.lst mv.dropLast)) := (t3.trans (Tx.of_ex e4)).trans (Tx.lst (e4 _ _ m3))
  have t6 : Tx H (upd H6 A.sl (.lst (S.splits.map V.bl).dropLast)) := (t4.trans (Tx.of_ex e6)).trans (Tx.lst (e6 _ _ sp5))
  refine q _ qa qnf ?_ ⟨?_, ?_, ?_, ?_, ?_, ?_, ?_, n1, n2, n3⟩
  · exact (((x3.ex e4).upd (by simp)).ex e6).upd (by simp)
  · show upd H6 A.sl _ A.p = _
    rw [upd_ne a7]
    exact e6 _ _ ob5
  · exact dp_tx t6 _ _ (fz_ch S.ch) hch
  · refine ⟨kvq, ?_, kq2.tx t6⟩
    show upd H6 A.sl _ qa = _
    rw [upd_ne a6]
    exact e6 _ _ (by rw [upd_ne a5]; exact e4 _ _ q3)
  · refine ⟨mv.dropLast, ?_, ?_⟩
    · show upd H6 A.sl _ A.ml = _
      rw [upd_ne n1]
      exact e6 _ _ upd_same
    · refine dps_tx t6 _ _ ?_ (dps_dropLast m2)
      exact fz_all fun d hd => fz_mem ok.fz ((List.dropLast_sublist S.made).subset hd)
  · show upd H6 A.sl _ A.sl = _
    rw [upd_same]
    show some (HO.lst (S.splits.map V.bl).dropLast) = some (HO.lst (S.splits.dropLast.map V.bl))
    rw [List.map_dropLast]
  · refine ⟨pv.dropLast, ?_, ?_, fun h1 hh => nomatch hh⟩
    · show upd H6 A.sl _ A.pl = _
      rw [upd_ne n3.symm]
      exact e6 _ _ (by rw [upd_ne n2.symm]; exact e4 _ _ p3')
    · show pv.dropLast.length = S.made.dropLast.length
      rw [List.length_dropLast, List.length_dropLast, p2']
  · exact fun f hf => nn_upd (nn_ex e6 (nn_upd (nn_ex e4 (nnH3 f (fb f hf)))))
theorem sc_Bench___init : FnScope ["self", "chain", "rule"] ["self", "chain", "rule"] (defScope sBench___init__) := ⟨rfl, rfl, rfl, by decide +kernel, rfl, by decide +kernel, by decide +kernel⟩
theorem mak_Bench (T : Top w K mg) : Mak P w K mg base 5 "Bench" (He.ga K "Bench") (spMkBench K) [] := by
  obtain ⟨fd, F⟩ := T.fBench___init__
  refine ⟨_, fd, ["self", "chain", "rule"], [], T.mk_Bench, F.ok sc_Bench___init (fun vs H Q E h => ?_) (fun cdv A outer s H vs Q E hr h => ⟨_, PSs.nox (pss_cons (ps_if (pt_not (pt_val (pe_c (cal_is_chain T) hr (by decide) rfl (pa_cons (pv 1) pa_nil)))) (pss_one ps_never) pss_nil)
      (pss_cons (ps_if (pt_not (pt_val (pe_c (cal_is_rule T) hr (by decide) rfl (pa_cons (pv 2) pa_nil)))) (pss_one ps_never) pss_nil)
      (pss_cons (ps_fld (pv 0) (pv 1) rfl)
      (pss_cons (ps_fld (pv 0) (pv 2) rfl)
      (pss_cons (ps_fld (pv 0) pe_dnewK rfl)
      (pss_cons (ps_fld (pv 0) (pe_lst pa_nil) rfl)
      (pss_cons (ps_fld (pv 0) (pe_lst pa_nil) rfl)
      (pss_one (ps_fld (pv 0) (pe_lst pa_nil) rfl))))))))), ?_⟩), T.g_Bench, F.bindsN (ps := ["self", "chain", "rule"]) fun _ _ _ _ _ _ us hl => match us, hl with | [_, _, _], _ => rfl, .nil⟩
  · obtain ⟨p, dx, vc, c, r, FF, rfl, _⟩ := h
    rfl
  obtain ⟨p, dx, vc, c, r, FF, rfl, hp, hvc, hc, hfb, q⟩ := h
  have E0 : EnvR K H (start ["self", "chain", "rule"] [.ref p, vc, .str (rs r)]) [none, some (chD c), some (.str (rs r))] := envr_x (envr_c hvc (envr_c (.str _) envr_nil))
  refine vs_if (b := false) (vt_x (XT.to (xt_not (xt_B (xe_call (xa_cons (xe_var rfl) xa_nil) (R_is_chain.mk hc)))) rfl) E0) (fun z => nomatch z) fun _ H1 e1 => ?_
  refine vs_if (b := false) (vt_x (XT.to (xt_not (xt_B (xe_call (xa_cons (xe_var rfl) xa_nil) (R_is_rule.mk trivial)))) rfl) (E0.ex e1)) (fun z => nomatch z) fun _ H2 e2 => ?_
  have e02 := e1.trans e2
  have hp2 := e02 _ _ hp
  refine vs_fldV (K := K) (v := vc) (vv_var rfl) (vv_var rfl) hp2 T.cl_Bench T.na_Bench_staged_chain (by show 0 < 1000; decide) fun H3 e3 => ?_
  have x3 := (((Exs.refl [p] H).ex e02).ex e3).upd (p := p) (o := .ins (bC K) dx [("staged_chain", vc)]) (by simp)
  have t3 := (Tx.of_ex (e02.trans e3)).trans (Tx.ins (o := .ins (bC K) dx [("staged_chain", vc)]) (e3 _ _ hp2))
  refine vs_fldV (K := K) (v := .str (rs r)) (vv_var rfl) (vv_var rfl) upd_same T.cl_Bench T.na_Bench_single_rule (by show 1 < 1000; decide) fun H4 e4 => ?_
  have x4 := (x3.ex e4).upd (p := p) (o := .ins (bC K) dx [("staged_chain", vc), ("single_rule", .str (rs r))]) (by simp)
  have t4 := (t3.trans (Tx.of_ex e4)).trans (Tx.ins (o := .ins (bC K) dx [("staged_chain", vc), ("single_rule", .str (rs r))]) (e4 _ _ upd_same))
  -- self.held = {}
  have DKN : ∀ {H0 : Hp} {o : HO}, Exs [p] H H0 → H0 p = some o → ∀ Q : VK, (∀ v H1, Ex H0 H1 → (∃ a, v = .ref a ∧ H1 a = some (.dK []) ∧ H a = none ∧ a ≠ p) → Q v H1) → tDNewK (start ["self", "chain", "rule"] [.ref p, vc, .str (rs r)]) H0 Q :=
    fun {H0 o} x hpo Q k a ha => k _ _ (Evl.Ex.new ha) ⟨a, rfl, upd_same, exs_fresh x hpo ha, fun z => by rw [z, hpo] at ha; cases ha⟩
  refine vs_fldQ (K := K) (σ := start ["self", "chain", "rule"] [.ref p, vc, .str (rs r)]) (DKN x4 upd_same) (vv_var rfl) upd_same T.cl_Bench T.na_Bench_held (by show 2 < 1000; decide) (fun v H1 H2 e ⟨a, h1, h2, h3, h4⟩ => ⟨a, h1, e _ _ h2, h3, h4⟩) fun v H5 e5 ⟨hd, hv, hd1, hd2, hdp⟩ => ?_
  subst hv
  have x5 := (x4.ex e5).upd (p := p) (o := .ins (bC K) dx [("staged_chain", vc), ("single_rule", .str (rs r)), ("held", .ref hd)]) (by simp)
  have t5 := (t4.trans (Tx.of_ex e5)).trans (Tx.ins (o := .ins (bC K) dx [("staged_chain", vc), ("single_rule", .str (rs r)), ("held", .ref hd)]) (e5 _ _ upd_same))
  have hd5 : (upd H5 p (.ins (bC K) dx [("staged_chain", vc), ("single_rule", .str (rs r)), ("held", .ref hd)])) hd = some (.dK []) := by rw [upd_ne hdp]; exact hd1
  have LST : ∀ {H0 : Hp} {o : HO}, Exs [p] H H0 → H0 p = some o → ∀ Q : VK, (∀ v H1, Ex H0 H1 → (∃ a, v = .ref a ∧ H1 a = some (.lst []) ∧ H a = none ∧ a ≠ p ∧ H0 a = none) → Q v H1) → tLst tNil (start ["self", "chain", "rule"] [.ref p, vc, .str (rs r)]) H0 Q :=
    fun {H0 o} x hpo Q k => ⟨Nat.zero_le _, fun a ha => k _ _ (Evl.Ex.new ha) ⟨a, rfl, upd_same, exs_fresh x hpo ha, (fun z => by rw [z, hpo] at ha; cases ha), ha⟩⟩
  -- self.made = []
  refine vs_fldQ (K := K) (σ := start ["self", "chain", "rule"] [.ref p, vc, .str (rs r)]) (LST x5 upd_same) (vv_var rfl) upd_same T.cl_Bench T.na_Bench_made (by show 3 < 1000; decide) (fun v H1 H2 e ⟨a, h1, h2, h3, h4, h5⟩ => ⟨a, h1, e _ _ h2, h3, h4, h5⟩) fun v H6 e6 ⟨ml, hv, ml1, ml2, mlp, _⟩ => ?_
  subst hv
  have x6 := (x5.ex e6).upd (p := p) (o := .ins (bC K) dx [("staged_chain", vc), ("single_rule", .str (rs r)), ("held", .ref hd), ("made", .ref ml)]) (by simp)
  have t6 := (t5.trans (Tx.of_ex e6)).trans (Tx.ins (o := .ins (bC K) dx [("staged_chain", vc), ("single_rule", .str (rs r)), ("held", .ref hd), ("made", .ref ml)]) (e6 _ _ upd_same))
  have hd6 : (upd H6 p (.ins (bC K) dx [("staged_chain", vc), ("single_rule", .str (rs r)), ("held", .ref hd), ("made", .ref ml)])) hd = some (.dK []) := by rw [upd_ne hdp]; exact e6 _ _ hd5
  have ml6 : (upd H6 p (.ins (bC K) dx [("staged_chain", vc), ("single_rule", .str (rs r)), ("held", .ref hd), ("made", .ref ml)])) ml = some (.lst []) := by rw [upd_ne mlp]; exact ml1
  -- self.splits = []
  refine vs_fldQ (K := K) (σ := start ["self", "chain", "rule"] [.ref p, vc, .str (rs r)]) (LST x6 upd_same) (vv_var rfl) upd_same T.cl_Bench T.na_Bench_splits (by show 4 < 1000; decide) (fun v H1 H2 e ⟨a, h1, h2, h3, h4, h5⟩ => ⟨a, h1, e _ _ h2, h3, h4, h5⟩) fun v H7 e7 ⟨sl, hv, sl1, sl2, slp, slf⟩ => ?_
  subst hv
  have x7 := (x6.ex e7).upd (p := p) (o := .ins (bC K) dx [("staged_chain", vc), ("single_rule", .str (rs r)), ("held", .ref hd), ("made", .ref ml), ("splits", .ref sl)]) (by simp)
  have t7 := (t6.trans (Tx.of_ex e7)).trans (Tx.ins (o := .ins (bC K) dx [("staged_chain", vc), ("single_rule", .str (rs r)), ("held", .ref hd), ("made", .ref ml), ("splits", .ref sl)]) (e7 _ _ upd_same))
  have hd7 : (upd H7 p (.ins (bC K) dx [("staged_chain", vc), ("single_rule", .str (rs r)), ("held", .ref hd), ("made", .ref ml), ("splits", .ref sl)])) hd = some (.dK []) := by rw [upd_ne hdp]; exact e7 _ _ hd6
  have ml7 : (upd H7 p (.ins (bC K) dx [("staged_chain", vc), ("single_rule", .str (rs r)), ("held", .ref hd), ("made", .ref ml), ("splits", .ref sl)])) ml = some (.lst []) := by rw [upd_ne mlp]; exact e7 _ _ ml6
  have sl7 : (upd H7 p (.ins (bC K) dx [("staged_chain", vc), ("single_rule", .str (rs r)), ("held", .ref hd), ("made", .ref ml), ("splits", .ref sl)])) sl = some (.lst []) := by rw [upd_ne slp]; exact sl1
  have m12 : ml ≠ sl := ne_new ml6 slf
  -- self.past = []
  refine vs_fldQ (K := K) (σ := start ["self", "chain", "rule"] [.ref p, vc, .str (rs r)]) (LST x7 upd_same) (vv_var rfl) upd_same T.cl_Bench T.na_Bench_past (by show 5 < 1000; decide) (fun v H1 H2 e ⟨a, h1, h2, h3, h4, h5⟩ => ⟨a, h1, e _ _ h2, h3, h4, h5⟩) fun v H8 e8 ⟨pl, hv, pl1, pl2, plp, plf⟩ => ?_
  subst hv
  have x8 := (x7.ex e8).upd (p := p) (o := .ins (bC K) dx [("staged_chain", vc), ("single_rule", .str (rs r)), ("held", .ref hd), ("made", .ref ml), ("splits", .ref sl), ("past", .ref pl)]) (by simp)
  have t8 := (t7.trans (Tx.of_ex e8)).trans (Tx.ins (o := .ins (bC K) dx [("staged_chain", vc), ("single_rule", .str (rs r)), ("held", .ref hd), ("made", .ref ml), ("splits", .ref sl), ("past", .ref pl)]) (e8 _ _ upd_same))
  have m13 : ml ≠ pl := ne_new ml7 plf
  have m23 : sl ≠ pl := ne_new sl7 plf
  refine q _ ⟨p, dx, hd, ml, sl, pl, vc⟩ rfl x8 ⟨upd_same, dp_tx t8 _ _ (fz_ch c) hvc, ⟨[], ?_, rfl, .nil⟩, ⟨[], ?_, .nil⟩, ?_, ⟨[], ?_, rfl, fun h0 hh => nomatch hh⟩, fun f hf => nn_upd (nn_ex e8 (nn_upd (nn_ex e7 (nn_upd (nn_ex e6 (nn_upd (nn_ex e5 (nn_upd (nn_ex e4 (nn_upd (nn_ex e3 (nn_ex e02 (hfb f hf))))))))))))), m12, m13, m23⟩ hd2 ml2 sl2 pl2
  · show upd H8 p _ hd = _
    rw [upd_ne hdp]
    exact e8 _ _ hd7
  · show upd H8 p _ ml = _
    rw [upd_ne mlp]
    exact e8 _ _ ml7
  · show upd H8 p _ sl = _
    rw [upd_ne slp]
    exact e8 _ _ sl7
  · show upd H8 p _ pl = _
    rw [upd_ne plp]
    exact pl1
end
end SR
end
section
set_option Elab.async false
set_option linter.all false
set_option maxRecDepth 100000
set_option maxHeartbeats 1000000
/-! sorted of pairs of an int and a text: the same pairs in some order. -/
namespace Srt
open PySem PyProof.Rows
section
variable {prog : Program} {w : World} {A : Around} {E : Value → Shared → Prop} {s : Shared}
/-- v is a tuple of an int and a text in the heap -/
def IsPairT (h : Heap) (v : Value) (x : Int) (y : Str) : Prop := ∃ a o t u n, v = .ref a ∧ h.get? a = some o ∧ o.cls = .type "tuple" ∧ o.data = .seq #[.int x t, .str y u] n
theorem IsPairT.keeps {h h' : Heap} {v : Value} {x : Int} {y : Str} (p : IsPairT h v x y) (k : ∀ b o, h.get? b = some o → o.cls = .type "tuple" → h'.get? b = some o) : IsPairT h' v x y := by
  obtain ⟨a, o, t, u, n, e, ho, hc, hd⟩ := p
  exact ⟨a, o, t, u, n, e, k _ _ ho hc, hc, hd⟩
theorem pairT_tot {vs : List Value} (hp : ∀ v ∈ vs, ∃ x y, IsPairT s.heap v x y) : Tot prog w A s (tuples' true) (fun p => p.1 ∈ vs) := by
  intro p q hm hm'
  obtain ⟨x, y, a, o, t, u, n, e, ho, hc, hd⟩ := hp _ hm
  obtain ⟨x', y', a', o', t', u', n', e', ho', hc', hd'⟩ := hp _ hm'
  rw [e, e']
  refine ⟨if x = x' then (if y = y' then false else decide (y.cps.toList < y'.cps.toList)) else decide (x < x'), ?_⟩
  refine PySem.W.kat_lt ho hd ho' hd' ?_
  show PySem.W.KatLex prog w A true (decide (2 < 2)) _ [(.int x t, .int x' t'), (.str y u, .str y' u')] 0 s
  refine PySem.W.kat_cons (SeqAt.EqAt.int_int x t x' t' prog w _ _ ?_)
  refine PySem.W.kat_go (fun e1 => ?_) (fun e1 => ?_)
  · have ex : x = x' := by simpa using e1
    refine PySem.W.kat_yes (PySem.W.kat_cons (SeqAt.EqAt.str_str y u y' u' prog w _ _ ?_))
    refine PySem.W.kat_go (fun e2 => ?_) (fun e2 => ?_)
    · have ey : y = y' := by simpa using e2
      have e3 : (if x = x' then (if y = y' then false else decide (y.cps.toList < y'.cps.toList)) else decide (x < x')) = false := by rw [if_pos ex, if_pos ey]
      exact PySem.W.kat_yes (PySem.W.kat_nil ⟨rfl, e3.symm⟩)
    · have ey : ¬ y = y' := by simpa using e2
      have e3 : (if x = x' then (if y = y' then false else decide (y.cps.toList < y'.cps.toList)) else decide (x < x')) = decide (y.cps.toList < y'.cps.toList) := by rw [if_pos ex, if_neg ey]
      refine PySem.W.kat_no (PySem.W.kat_one _ _ (PyProof.Rows.lt_str ?_))
      exact (show s = s ∧ decide (y.cps.toList < y'.cps.toList) = (if x = x' then (if y = y' then false else decide (y.cps.toList < y'.cps.toList)) else decide (x < x')) from ⟨rfl, e3.symm⟩)
  · have ex : ¬ x = x' := by simpa using e1
    have e3 : (if x = x' then (if y = y' then false else decide (y.cps.toList < y'.cps.toList)) else decide (x < x')) = decide (x < x') := by rw [if_neg ex]
    exact PySem.W.kat_no (oneLt_int ⟨rfl, e3.symm⟩)
theorem firstsT_of {h : Heap} : ∀ {vs : List Value}, (∀ v ∈ vs, ∃ x y, IsPairT h v x y) → ∃ fs : List Value, PySem.W.KatTups h vs fs ∧ fs.length = vs.length ∧ ∀ f ∈ fs, ∃ x t, f = Value.int x t
  | [], _ => ⟨[], PySem.W.KatTups.nil, rfl, fun _ hm => by simp at hm⟩
  | v :: vs, hp => by
    obtain ⟨fs, h1, h2, h3⟩ := firstsT_of (vs := vs) fun v' hm => hp v' (List.mem_cons_of_mem _ hm)
    obtain ⟨x, y, a, o, t, u, n, e, ho, hc, hd⟩ := hp v (List.mem_cons_self ..)
    subst e
    refine ⟨.int x t :: fs, PySem.W.KatTups.cons ho hc hd rfl h1, by rw [List.length_cons, List.length_cons, h2], fun f hm => ?_⟩
    rcases List.mem_cons.mp hm with rfl | hm
    · exact ⟨x, t, rfl⟩
    · exact h3 f hm
theorem pairsT_sortable {a : Addr} {vs : List Value} (h0 : 0 < vs.length) (hp : ∀ v ∈ vs, ∃ x y, IsPairT s.heap v x y) (ha : ∀ o, s.heap.get? a = some o → o.cls ≠ .type "tuple") : Sortable prog w A s a vs := by
  intro h' keep
  have hp' : ∀ v ∈ vs, ∃ x y, IsPairT h' v x y := fun v hm => by
    obtain ⟨x, y, p⟩ := hp v hm
    exact ⟨x, y, p.keeps fun b o e c => keep b o (fun z => by subst z; exact ha o e c) e⟩
  obtain ⟨fs, h1, h2, h3⟩ := firstsT_of hp'
  refine ⟨tuples' true, fun Q E hq => ?_, pairT_tot hp'⟩
  refine PySem.W.kat_kind (T := .type "int") h1 (by omega) (fun f hm => ?_) (by rfl) ?_
  · obtain ⟨x, t, rfl⟩ := h3 f hm
    exact PySem.W.Looks.now
  · have e : (Value.type "int" != Value.type "tuple") = true := by first | decide +kernel | rfl | decide
    rw [e]
    exact hq
theorem sorted_pairsT {l : Addr} {vs : List Value} {Q : Value → Shared → Prop} (hl : s.heap.IsList l vs.toArray) (hz : vs.length ≤ sizeLine) (hp : ∀ v ∈ vs, ∃ x y, IsPairT s.heap v x y)
    (h : ∀ (h' : Heap) (d : Addr) (out : List Value), out.Perm vs → (∀ b o, s.heap.get? b = some o → h'.get? b = some o) → s.heap.objs.size ≤ d → (∃ n, h'.get? d = some (seqObj "list" out.toArray n)) → Q (.ref d) { s with heap := h' }) :
    wpAny (model prog w) A (call (.builtin "sorted") [.ref l]) Q E s := by
  refine sorted_any hl hz (fun h2 h₁ a ha k => ?_) fun out ho => ?_
  · refine pairsT_sortable (s := { s with heap := h₁ }) (by omega) (fun v hm => ?_) fun o e => ?_
    · obtain ⟨x, y, p⟩ := hp v hm
      exact ⟨x, y, p.keeps fun b o e _ => (k b o e).2⟩
    · have e' : some o = some (seqObj "list" vs.toArray 0) := e.symm.trans ha
      cases e'
      intro c
      exact absurd (Value.type.inj c) (by decide)
  · exact h _ _ out ho (fun b o e => sortedAll_old e) (Nat.le_succ _) (sortedAll_at s.heap vs out.toArray)
end
end Srt
namespace L2
open PySem PySem.Spec PyProof.Rows
variable {X : Cx}
def rSortedIS (K : PySem.W.Frag) : List V → Hp → VK → Prop := fun vs H Q => ∃ a xs, vs = [V.ref a] ∧ SqL K H a xs ∧ (∀ x ∈ xs, ∃ t i z, x = V.ref t ∧ SqT K H t [.int i, .str z]) ∧
  ∀ ys p, ys.Perm xs → H p = none → Q (.ref p) (upd H p (.lst ys))
theorem cr_sortedIS : CallR X (.builtin "sorted") (rSortedIS X.K) := by
  intro pins s σ H vs us Q I r h
  obtain ⟨a, xs, rfl, hs, hx, q⟩ := h
  obtain ⟨its, rv, hl, hz⟩ := I.list hs
  obtain ⟨u, rfl, ru⟩ := vals1 r
  obtain rfl : u = Value.ref a := ru
  obtain ⟨e1, e2⟩ := refs_back rv fun x m => by
    obtain ⟨t, _, _, e, _⟩ := hx x m
    exact ⟨t, e⟩
  refine Srt.sorted_pairsT hl.isList (by rw [← rv.length]; exact hz) (fun v hv => ?_) fun h' d out hp k hd hn => ?_
  · obtain ⟨t, rfl⟩ := e2 v hv
    have hm : V.ref t ∈ xs := by rw [e1]; exact List.mem_map.mpr ⟨_, hv, rfl⟩
    obtain ⟨t', i, j, e, ht⟩ := hx _ hm
    cases e
    obtain ⟨its2, r2, ⟨o, ho, hc, n, hd⟩, _⟩ := I.tuple ht
    obtain ⟨u1, u2, rfl, ri, rj⟩ := vals2 r2
    obtain ⟨t1, rfl⟩ := ri
    obtain ⟨t2, rfl⟩ := rj
    exact ⟨i, j, t, o, t1, t2, n, rfl, ho, hc, hd⟩
  · have h3 : ∀ u ∈ out, ∃ a, u = Value.ref a := fun u hu => e2 u (hp.mem_iff.mp hu)
    obtain ⟨n, hn⟩ := hn
    refine ⟨.ref d, upd H d (.lst (out.map backV)), I.laid (t' := s.toks) k hd ⟨?_, out, n, vals_back h3, hn⟩, rfl, q _ d ?_ (I.hok.fresh hd)⟩
    · rw [List.length_map, hp.length_eq, ← rv.length]; exact hz
    · rw [e1]; exact hp.map backV
end L2
end
section
set_option Elab.async false
set_option linter.all false
set_option maxRecDepth 100000
set_option maxHeartbeats 1000000
/-! zip of three tuples. -/
namespace RZ
open PySem PySem.Spec PyProof.Rows L2
def ItzT3 (K : PySem.W.Frag) (a b c : Addr) : It :=
  ⟨fun i H => ∃ (xs ys us : List V) (x y u : V), SqT K H a xs ∧ SqT K H b ys ∧ SqT K H c us ∧ xs[i]? = some x ∧ ys[i]? = some y ∧ us[i]? = some u,
    fun i H v H' => ∃ T x y u, v = .ref T ∧ H T = none ∧ H' = upd H T (.tup [x, y, u]) ∧ (∀ xs, SqT K H a xs → xs[i]? = some x) ∧ (∀ ys, SqT K H b ys → ys[i]? = some y) ∧ ∀ us, SqT K H c us → us[i]? = some u,
    fun i H => ∃ xs ys us : List V, SqT K H a xs ∧ SqT K H b ys ∧ SqT K H c us ∧ xs.length = i ∧ ys.length = i ∧ us.length = i⟩
theorem turn_zipT3 {P : Program} {w : World} {K : PySem.W.Frag} {elts : List Expr} {kk : Nat} {tpos : Pos} {a b c z TI TO i1 i2 i3 : Addr} (D : ZipSep3 z TI TO i1 i2 i3 [i1, a] [i2, b] [i3, c]) (ha : a ≠ i1) (hb : b ≠ i2) (hc' : c ≠ i3) :
    Turn P w K (.Tuple elts kk tpos) (ItzT3 K a b c) [z, TI, TO, i1, i2, i3] z (fun i h => IsZip h z TI TO .none ∧ IsTupOf3 h TI (.ref i1) (.ref i2) (.ref i3) ∧ (∃ x y u, IsTupOf3 h TO x y u) ∧ h.IsTupleIter i1 a i ∧ h.IsTupleIter i2 b i ∧ h.IsTupleIter i3 c i) where
  mem := by simp
  obj := fun i h st c hc => by
    obtain ⟨hz, hTI, ⟨x, y, u, hTO⟩, ⟨o1, e1, _, d1⟩, ⟨o2, e2, _, d2⟩, ⟨o3, e3, _, d3⟩⟩ := st
    have e' : c = z ∨ c = TI ∨ c = TO ∨ c = i1 ∨ c = i2 ∨ c = i3 := by simpa using hc
    rcases e' with q | q | q | q | q | q
    · rw [q]; exact ⟨_, hz, fun v q => nomatch q⟩
    · rw [q]; exact ⟨_, hTI, fun v q => nomatch q⟩
    · rw [q]; exact ⟨_, hTO, fun v q => nomatch q⟩
    · rw [q]; exact ⟨o1, e1, fun v q => by rw [d1] at q; cases q⟩
    · rw [q]; exact ⟨o2, e2, fun v q => by rw [d2] at q; cases q⟩
    · rw [q]; exact ⟨o3, e3, fun v q => by rw [d3] at q; cases q⟩
  keep := fun i h h' st k => by
    obtain ⟨hz, hTI, ⟨x, y, u, hTO⟩, h1, h2, h3⟩ := st
    exact ⟨k z (by simp) _ hz, k TI (by simp) _ hTI, ⟨x, y, u, k TO (by simp) _ hTO⟩, h1.at fun o q => k i1 (by simp) o q, h2.at fun o q => k i2 (by simp) o q, h3.at fun o q => k i3 (by simp) o q⟩
  item := by
    intro X hP hw hK hc i pins s σ H E I hf st hg
    subst hP hw hK
    obtain ⟨hz, hTI, ⟨x0, y0, u0, hTO⟩, h1, h2, h3⟩ := st
    obtain ⟨xs, ys, us, x, y, u, hqx, hqy, hqu, hx, hy, hu⟩ := hg
    obtain ⟨its, rv, p, _⟩ := I.tuple hqx
    obtain ⟨its2, rv2, p2, _⟩ := I.tuple hqy
    obtain ⟨its3, rv3, p3, _⟩ := I.tuple hqu
    have hh : X.A.in1.handled = none := I.ok.hd hc
    have D1 := Draws.tuple (prog := X.prog) (w := X.w) hh i1 a ha its.toArray
    have D2 := Draws.tuple (prog := X.prog) (w := X.w) hh i2 b hb its2.toArray
    have D3 := Draws.tuple (prog := X.prog) (w := X.w) hh i3 c hc' its3.toArray
    obtain ⟨v1, hv1, r1⟩ := rv.get hx
    obtain ⟨v2, hv2, r2⟩ := rv2.get hy
    obtain ⟨v3, hv3, r3⟩ := rv3.get hu
    have l1 : i < its.toArray.size := by simpa using (List.getElem?_eq_some_iff.mp hv1).1
    have l2 : i < its2.toArray.size := by simpa using (List.getElem?_eq_some_iff.mp hv2).1
    have l3 : i < its3.toArray.size := by simpa using (List.getElem?_eq_some_iff.mp hv3).1
    have hzl : z < s.heap.objs.size := Heap.lt_size hz
    refine wpAny_pyNext_zipD3_item D D1 D2 D3 hz hTI hTO ⟨h1, p⟩ ⟨h2, p2⟩ ⟨h3, p3⟩ l1 l2 l3 fun w1 w2 w3 h' tk y1 y2 y3 z' TO' h1' h2' h3' hT hsz hk => ?_
    have e1 : w1 = v1 := by
      have y1' : its.toArray[i]? = some w1 := y1
      rw [List.getElem?_toArray, hv1] at y1'
      exact (Option.some.inj y1').symm
    have e2 : w2 = v2 := by
      have y1' : its2.toArray[i]? = some w2 := y2
      rw [List.getElem?_toArray, hv2] at y1'
      exact (Option.some.inj y1').symm
    have e3 : w3 = v3 := by
      have y1' : its3.toArray[i]? = some w3 := y3
      rw [List.getElem?_toArray, hv3] at y1'
      exact (Option.some.inj y1').symm
    subst e1 e2 e3
    refine ⟨_, rfl, wpAny_letOwnedTupleGo_zip (s := { s with heap := h', toks := tk }) z' fun h'' z'' sb => ?_⟩
    have hT2 : h''.get? s.heap.objs.size = some { cls := .type "tuple", data := .seq #[w1, w2, w3] } := (sb.2 _ (Nat.ne_of_gt hzl)).trans hT
    have new : ObjOk X.prog X.w (upd H s.heap.objs.size (.tup [x, y, u])) h'' s.heap.objs.size (.tup [x, y, u]) :=
      ⟨by show 3 ≤ sizeLine; decide, [w1, w2, w3], .cons r1 (.cons r2 (.cons r3 .nil)), ⟨_, hT2, rfl, _, rfl⟩⟩
    have I1 : Inv X pins σ (upd H s.heap.objs.size (.tup [x, y, u])) { s with heap := h'', toks := tk } :=
      I.turnedNew (t' := tk) (ch := [z, TI, TO, i1, i2, i3]) (fun c o hb q => (sb.2 c (fun q' => hb (by simp [q']))).trans (hk c o (fun q' => hb (by simp [q'])) (fun q' => hb (by simp [q'])) (fun q' => hb (by simp [q'])) (fun q' => hb (by simp [q'])) (fun q' => hb (by simp [q'])) q)) hf (Nat.le_refl _) new
    refine ⟨.ref s.heap.objs.size, _, I1, rfl, ⟨_, x, y, u, rfl, I.hok.fresh (Nat.le_refl _), rfl, fun l hl => by rw [I.tuple_inj hl hqx]; exact hx, fun l hl => by rw [I.tuple_inj hl hqy]; exact hy, fun l hl => by rw [I.tuple_inj hl hqu]; exact hu⟩, ⟨z'', ?_, ⟨w1, w2, w3, ?_⟩, ?_, ?_, ?_⟩, fun c hcm => ?_⟩
    · exact (sb.2 _ D.TIz).trans (hk _ _ D.TIz D.TITO D.TIi1 D.TIi2 D.TIi3 hTI)
    · exact (sb.2 _ D.TOz).trans TO'
    · exact h1'.1.at fun o q => (sb.2 _ D.zi1.symm).trans q
    · exact h2'.1.at fun o q => (sb.2 _ D.zi2.symm).trans q
    · exact h3'.1.at fun o q => (sb.2 _ D.zi3.symm).trans q
    · have hlt : c < s.heap.objs.size := by
        have e' : c = z ∨ c = TI ∨ c = TO ∨ c = i1 ∨ c = i2 ∨ c = i3 := by simpa using hcm
        rcases e' with q | q | q | q | q | q
        · rw [q]; exact hzl
        · rw [q]; exact Heap.lt_size hTI
        · rw [q]; exact Heap.lt_size hTO
        · rw [q]; obtain ⟨_, e1, _⟩ := h1; exact Heap.lt_size e1
        · rw [q]; obtain ⟨_, e2, _⟩ := h2; exact Heap.lt_size e2
        · rw [q]; obtain ⟨_, e2, _⟩ := h3; exact Heap.lt_size e2
      rw [upd_ne (Nat.ne_of_lt hlt)]
      exact (hf c hcm).1
  done := by
    intro X hP hw hK hc i pins s σ H E I hf st hg
    subst hP hw hK
    obtain ⟨hz, hTI, ⟨x0, y0, u0, hTO⟩, h1, h2, h3⟩ := st
    obtain ⟨xs, ys, us, hqx, hqy, hqu, g1, g2, g3⟩ := hg
    obtain ⟨its, rv, p, _⟩ := I.tuple hqx
    obtain ⟨its2, rv2, p2, _⟩ := I.tuple hqy
    obtain ⟨its3, rv3, p3, _⟩ := I.tuple hqu
    have l1 := rv.length
    have l2 := rv2.length
    have l3 := rv3.length
    have hh : X.A.in1.handled = none := I.ok.hd hc
    have D1 := Draws.tuple (prog := X.prog) (w := X.w) hh i1 a ha its.toArray
    have D2 := Draws.tuple (prog := X.prog) (w := X.w) hh i2 b hb its2.toArray
    have D3 := Draws.tuple (prog := X.prog) (w := X.w) hh i3 c hc' its3.toArray
    have s1 : i = its.toArray.size := by simp; omega
    have s2 : i = its2.toArray.size := by simp; omega
    have s3 : i = its3.toArray.size := by simp; omega
    exact wpAny_pyNext_zipD3_end D D1 D2 D3 hz hTI hTO ⟨h1, p⟩ ⟨h2, p2⟩ ⟨h3, p3⟩ (Nat.le_of_eq s1) (Nat.le_of_eq s2) (Nat.le_of_eq s3) (.inl s1) fun h' tk hk => ⟨rfl, I.turnedL (t' := tk) (ch := [z, TI, TO, i1, i2, i3]) (fun c o hb q =>
      hk c o (fun q' => hb (by simp [q'])) (fun q' => hb (by simp [q'])) (fun q' => hb (by simp [q'])) (fun q' => hb (by simp [q'])) (fun q' => hb (by simp [q'])) q) hf⟩
  self := fun A i s Q E st h => wpAny_pyIter_zip st.1 h
def iZip3 (K : PySem.W.Frag) (ta : TA) : TI := fun σ H R => ta σ H fun vs H1 => ∃ a b c xs ys us, vs = [.ref a, .ref b, .ref c] ∧ SqT K H1 a xs ∧ SqT K H1 b ys ∧ SqT K H1 c us ∧ R (ItzT3 K a b c) H1
theorem pi_zip3 {X : Cx} {e e2 e3 : Expr} {ta : TA} {p pos tpos : Pos} {elts : List Expr} {kk : Nat} (hg : Gl X "zip") (hm : X.mg "zip" = none) (ha : PA X [e, e2, e3] ta)
    (hs : starEach [e, e2, e3] X.env = (false, eval e X.env) :: starEach [e2, e3] X.env := by rfl) (hpl : (backTo pos (starEach [e2, e3] X.env)).any (·.1) = false := by rfl) :
    PI X (.Tuple elts kk tpos) (.Call (.Name "zip" p) [e, e2, e3] [] pos) (iZip3 X.K ta) := by
  refine ⟨fun pins s σ H R I h => ?_⟩
  refine Call_ (ld_blt I hg hm PyProof.Rows.boot_zip (PyProof.Rows.callWith_type1 (thn (ha.run pos pins s σ H _ I h) fun us s1 ⟨vs, H1, I1, r1, q1⟩ => ?_) hs hpl))
  obtain ⟨a, b, c, xs, ys, us', ex, hqx, hqy, hqu, q⟩ := q1
  subst ex
  cases r1 with
  | cons r rr =>
    cases rr with
    | cons r' rr =>
      cases rr with
      | cons r'' rr =>
        cases rr
        cases r
        cases r'
        cases r''
        have fresh5 : ∀ c, c ∈ [s1.heap.objs.size + 5, s1.heap.objs.size + 3, s1.heap.objs.size + 4, s1.heap.objs.size, s1.heap.objs.size + 1, s1.heap.objs.size + 2] → FpOk X pins H1 c := fun c hcm => by
          have e' : c = s1.heap.objs.size + 5 ∨ c = s1.heap.objs.size + 3 ∨ c = s1.heap.objs.size + 4 ∨ c = s1.heap.objs.size ∨ c = s1.heap.objs.size + 1 ∨ c = s1.heap.objs.size + 2 := by simpa using hcm
          have hle : s1.heap.objs.size ≤ c := by
            rcases e' with z | z | z | z | z | z
            · rw [z]; exact Nat.le_add_right _ _
            · rw [z]; exact Nat.le_add_right _ _
            · rw [z]; exact Nat.le_add_right _ _
            · rw [z]; exact Nat.le_refl _
            · rw [z]; exact Nat.le_add_right _ _
            · rw [z]; exact Nat.le_add_right _ _
          exact I1.fpOk hle (I1.hok.fresh hle)
        obtain ⟨its, rv, p1, _⟩ := I1.tuple hqx
        obtain ⟨its2, rv2, p2, _⟩ := I1.tuple hqy
        obtain ⟨its3, rv3, p3, _⟩ := I1.tuple hqu
        obtain ⟨o1, ho1, _⟩ := id p1
        obtain ⟨o2, ho2, _⟩ := id p2
        obtain ⟨o3, ho3, _⟩ := id p3
        have t1 : s1.heap.IsTuple a its.toArray := p1
        have t2 : s1.heap.IsTuple b its2.toArray := p2
        have t3 : s1.heap.IsTuple c its3.toArray := p3
        have la := Heap.lt_size ho1
        have lb := Heap.lt_size ho2
        have lc := Heap.lt_size ho3
        refine zip_begins3 (begins_tuple a its.toArray) (begins_tuple b its2.toArray) (begins_tuple c its3.toArray) t1 t2 t3 fun h' hz hTI hTO h1 h2 h3 hsz hk => wpAny_pyIter_zip hz ?_
        have I2 : Inv X pins σ H1 { s1 with heap := h' } := I1.kept (t' := s1.toks) hk
        have S := zip_sep3 (N := s1.heap.objs.size) (fp1 := [a]) (fp2 := [b]) (fp3 := [c]) (fun x hx => by cases List.mem_singleton.mp hx; exact la) (fun x hx => by cases List.mem_singleton.mp hx; exact lb) (fun x hx => by cases List.mem_singleton.mp hx; exact lc)
        exact ⟨s1.heap.objs.size + 5, [s1.heap.objs.size + 5, s1.heap.objs.size + 3, s1.heap.objs.size + 4, s1.heap.objs.size, s1.heap.objs.size + 1, s1.heap.objs.size + 2], _, _, H1, rfl, I2, turn_zipT3 S (Nat.ne_of_lt la) (Nat.ne_of_lt (Nat.lt_succ_of_lt lb)) (Nat.ne_of_lt (Nat.lt_succ_of_lt (Nat.lt_succ_of_lt lc))), ⟨hz, hTI, ⟨_, _, _, hTO⟩, ⟨_, h1, rfl, rfl⟩, ⟨_, h2, rfl, rfl⟩, ⟨_, h3, rfl, rfl⟩⟩, fresh5, q⟩
end RZ
end
section
set_option Elab.async false
set_option linter.all false
set_option maxRecDepth 100000
set_option maxHeartbeats 1000000
/-! d == {}; x not in a tuple of data; a power of a wide base. -/
namespace L2
open PySem PySem.Spec PyProof.Rows
variable {X : Cx}
def rEqE : R2 := fun x y H Q => ∃ a b kvs, x = .ref a ∧ y = .ref b ∧ H a = some (.dK kvs) ∧ H b = some (.dK []) ∧ Q (.bl (decide (kvs = []))) H
theorem op_eqE (hu : X.A.units < cLine) : OpR X (compareOp .Eq) rEqE := by
  intro pins s σ H x y v u Q I rx ry h
  obtain ⟨a, b, ks, rfl, rfl, ea, eb, q⟩ := h
  obtain rfl : v = Value.ref a := rx
  obtain rfl : u = Value.ref b := ry
  obtain ⟨_, ya, va, ra, da⟩ := (show ObjOk X.prog X.w H s.heap a (.dK ks) from I.hok a _ ea)
  obtain ⟨_, yb, vb, rb, db⟩ := (show ObjOk X.prog X.w H s.heap b (.dK []) from I.hok b _ eb)
  have la := ra.length
  have lb := rb.length
  have lb0 : vb.length = 0 := by rw [← lb]; rfl
  refine PySem.W.keq_eq (knd := mixKind X.prog X.w) (r := true) ya yb da db hu (fun hl => ?_) (fin_bl I q ?_)
  · have hv : va = [] := List.length_eq_zero_iff.mp (by omega)
    subst hv
    exact .nil
  · rw [lb0, ← la]
    cases ks with
    | nil => rfl
    | cons k ks => rfl
def rNotInT (K : PySem.W.Frag) : R2 := fun x y H Q => ∃ d ds, Dp K H x d ∧ Dp K H y (.tuple ds) ∧ SeqAt.shaped d = true ∧ SeqAt.shaped (.tuple ds) = true ∧ Q (.bl (!ds.any fun z => PyData.eqv z d)) H
theorem op_notInT (hu : X.A.units + 65 < cLine) : OpR X (compareOp .NotIn) (rNotInT X.K) := by
  intro pins s σ H x y v u Q I rx ry h
  obtain ⟨d, ds, hd, he, sd, se, q⟩ := h
  obtain ⟨as, r1⟩ := Dp.reads I d x v hd rx
  obtain ⟨bs, r2⟩ := Dp.reads I (.tuple ds) y u he ry
  exact SeqAt.notIn_tuple_reads r2 r1 (SeqAt.canLay_of_shaped se) (SeqAt.canLay_of_shaped sd) (room_in_shaped sd hu) ⟨.bl _, H, I, rfl, q⟩
def CPowB (i j : Int) : Prop := 0 ≤ j ∧ (Builtin.Int.intBits i : Int) * j ≤ 2 ^ 27
theorem op_powB : OpR X (binaryOp .Pow) (rI CPowB fun i j => .int (i ^ j.toNat)) := opI fun _ _ _ _ _ _ _ hc q => pow_int hc.1 hc.2 q
end L2
end
section
set_option Elab.async false
set_option linter.all false
set_option maxRecDepth 100000
set_option maxHeartbeats 1000000
/-! The law's plain defs: numbers, cells, roundings. -/
namespace SR
open PySem PySem.Spec PyProof.Rows L2
open Evl (Ex)
open C8 (Cal Met Mak pe_c pe_mt pe_mt0 pe_mk pe_gc)
open RZ (pi_zip3)
inductive R_law_divisor : List PyData → PyData → Prop
  | mk {a b : Int} (h : 0 ≤ a ∧ 0 ≤ b) : R_law_divisor [.int a, .int b] (.int (gcdI a b))
inductive R_law_low : List PyData → PyData → Prop
  | mk {n d : Int} (h : 0 ≤ n ∧ 0 < d ∧ Bd 9000 d) : R_law_low [.int n, .int d] (numD (low n d))
inductive R_law_cell_of : List PyData → PyData → Prop
  | mk {x : Num} {w : Int} (h : Nm 3500 x ∧ 1 ≤ w ∧ w ≤ 100) : R_law_cell_of [numD x, .int w] (cellD (cellOf x w))
inductive R_law_place : List PyData → PyData → Prop
  | mk {x : Num} {w : Int} (h : Nm 3500 x ∧ 1 ≤ w ∧ w ≤ 100) : R_law_place [numD x, .int w] (numD (posOf x w))
inductive R_law_end : List PyData → PyData → Prop
  | mk {k e : Int} (h : Bd 9000 k ∧ -8000 ≤ e ∧ e ≤ 8000) : R_law_end [.int k, .int e] (numD (powN k e))
inductive R_law_goes_up : List PyData → PyData → Prop
  | mk {k : Int} {p : Num} {r : Rule} (h : Bd 9000 p.1) : R_law_goes_up [.int k, numD p, .str (rs r)] (.bool (goesUp k p r))
inductive R_law_rounded : List PyData → PyData → Prop
  | mk {x : Num} {w : Int} {r : Rule} (h : Nm 3500 x ∧ 1 ≤ w ∧ w ≤ 100) : R_law_rounded [numD x, .int w, .str (rs r)] (numD (roundOnce x w r))
inductive R_law_applied : List PyData → PyData → Prop
  | mk {x : Num} {c : Chain} (h : ChOk c ∧ Nm 2200 x) : R_law_applied [numD x, chD c] (numD (appliedC x c))
theorem pos_zero {x : Num} {w : Int} (hx : 0 < x.2) (h : (posOf x w).1 = 0) : posOf x w = (0, 1) := by
  unfold posOf at *
  have hd := Nb_pos hx (cellOf x w).2
  have hN : Nb x (cellOf x w).2 = (sc x (0 - (cellOf x w).2)).2 := rfl
  rw [hN] at hd
  generalize (sc x (0 - (cellOf x w).2)).1 - (cellOf x w).1 * (sc x (0 - (cellOf x w).2)).2 = n at *
  generalize (sc x (0 - (cellOf x w).2)).2 = d at *
  unfold low at *
  have g := gcdI_pos (n := n) hd
  have h' : n / gcdI n d = 0 := h
  by_cases hn : 0 ≤ n
  · have hdvd := gcdI_dvd_l (n := n) (d := d) hn
    have e : n / gcdI n d * gcdI n d = n := Int.ediv_mul_cancel hdvd
    rw [h', Int.zero_mul] at e
    subst e
    rw [gcdI_comm, gcdI_zero (by omega), Int.zero_ediv, Int.ediv_self (by omega)]
  · have : n / gcdI n d < 0 := Int.ediv_neg_of_neg_of_pos (by omega) g
    omega
section
variable {P : Program} {w : World} {K : PySem.W.Frag} {mg : Str → Option Value} {base : Heap}
theorem sc_law_divisor : FnScope ["_law_one", "_law_other"] ["_law_one", "_law_other"] (defScope s_law_divisor) := ⟨rfl, rfl, rfl, by decide +kernel, rfl, by decide +kernel, by decide +kernel⟩
theorem cal_law_divisor (T : Top w K mg) : Cal P w K mg base 1 "_law_divisor" (spP K R_law_divisor) [] := by
  obtain ⟨fd, F⟩ := T.f_law_divisor
  refine cal_pure F T.g_law_divisor (F.bindsN (ps := ["_law_one", "_law_other"]) fun _ _ _ _ _ _ us hl => match us, hl with | [_, _], _ => rfl) sc_law_divisor (fun ds d r => by cases r; rfl) fun cdv A outer s H hr => ⟨_, (pss_cons (ps_while PassesOwn.never (pt_cmpR op_gt (pv 1) pe_int (nomark _)) (pss_one (ps_par (i := 0) (j := 1) rfl sc_law_divisor.nd rfl rfl (by decide) rfl rfl (pa_cons (pv 1) (pa_cons (pe_op op_mod (pv 0) (pv 1)) pa_nil)) (by rfl))))
      (pss_one (ps_ret (pv 0)))), fun ds d r => ?_⟩
  cases r
  rename_i a b h
  refine xs_seq (xs_while (fun m ρ => ∃ x y : Int, ρ = [some (.int x), some (.int y)] ∧ 0 ≤ x ∧ 0 ≤ y ∧ gcdI x y = gcdI a b ∧ m = y.toNat) b.toNat ⟨a, b, rfl, h.1, h.2, rfl, rfl⟩ ?_)
  rintro m ρ ⟨x, y, rfl, hx, hy, e, rfl⟩
  refine ⟨_, xt_test (xe_gt (xe_var rfl) xe_int), fun hb => ?_, fun hb => ?_⟩
  · have hy0 : 0 < y := of_decide_eq_true hb
    refine xs_par (xa_cons (xe_var rfl) (xa_cons (xe_mod (xe_var rfl) (xe_var rfl) (by omega)) xa_nil)) ?_
    have hm := Int.emod_nonneg x (show y ≠ 0 by omega)
    have hl := Int.emod_lt_of_pos x (show 0 < y by omega)
    exact ⟨(x % y).toNat, by omega, y, x % y, rfl, hy, hm, by rw [← gcdI_rec hx (by omega)]; exact e, rfl⟩
  · have hy0 : ¬ 0 < y := of_decide_eq_false hb
    have hy1 : y = 0 := by omega
    subst hy1
    refine xs_ret (xe_var rfl) ?_
    rw [← e, gcdI_zero hx]
theorem sc_law_low : FnScope ["_law_n", "_law_d", "_law_by"] ["_law_n", "_law_d"] (defScope s_law_low) := ⟨rfl, rfl, rfl, by decide +kernel, rfl, by decide +kernel, by decide +kernel⟩
theorem cal_law_low (T : Top w K mg) : Cal P w K mg base 2 "_law_low" (spP K R_law_low) [] := by
  obtain ⟨fd, F⟩ := T.f_law_low
  refine cal_pure F T.g_law_low (F.bindsN (ps := ["_law_n", "_law_d"]) fun _ _ _ _ _ _ us hl => match us, hl with | [_, _], _ => rfl) sc_law_low (fun ds d r => by cases r; rfl) fun cdv A outer s H hr => ⟨_, (pss_cons (ps_set (i := 2) sc_law_low.nd rfl (Or.inl rfl) (pe_c (cal_law_divisor T) hr (by decide) rfl (pa_cons (pv 0) (pa_cons (pv 1) pa_nil))))
      (pss_one (ps_ret (pe_tup (pa_cons (pe_op op_fdivW (pv 0) (pv 2)) (pa_cons (pe_op op_fdivW (pv 1) (pv 2)) pa_nil)))))), fun ds d r => ?_⟩
  cases r
  rename_i n d h
  have g := gcdI_pos (n := n) h.2.1
  have gb : Bd 9000 (gcdI n d) := h.2.2.le (by omega) (gcdI_le h.2.1)
  refine (xs_seq (xs_asg (xe_call (xa_cons (xe_var rfl) (xa_cons (xe_var rfl) xa_nil)) (R_law_divisor.mk ?_)) (xs_ret (xe_tup (xa_cons (xe_fdiv (xe_var rfl) (xe_var rfl) ?_) (xa_cons (xe_fdiv (xe_var rfl) (xe_var rfl) ?_) xa_nil)) (by show 2 ≤ 1000; decide)) ?_)))
  · exact ⟨h.1, by omega⟩
  · exact gb.div g (by decide)
  · exact gb.div g (by decide)
  · rfl
theorem sc_law_cell_of : FnScope ["_law_number", "_law_width", "_law_n", "_law_d", "_law_e"] ["_law_number", "_law_width"] (defScope s_law_cell_of) := ⟨rfl, rfl, rfl, by decide +kernel, rfl, by decide +kernel, by decide +kernel⟩
theorem cal_law_cell_of (T : Top w K mg) : Cal P w K mg base 1 "_law_cell_of" (spP K R_law_cell_of) [] := by
  obtain ⟨fd, F⟩ := T.f_law_cell_of
  refine cal_pure F T.g_law_cell_of (F.bindsN (ps := ["_law_number", "_law_width"]) fun _ _ _ _ _ _ us hl => match us, hl with | [_, _], _ => rfl) sc_law_cell_of (fun ds d r => by cases r; rfl) fun cdv A outer s H hr => ⟨_, (pss_cons (ps_asg (pv 0) (pg_tup (n := 2) rfl (pgs_cons (pg_name (i := 2) sc_law_cell_of.nd rfl (Or.inl rfl)) (pgs_cons (pg_name (i := 3) sc_law_cell_of.nd rfl (Or.inl rfl)) pgs_nil))))
      (pss_cons (ps_set (i := 4) sc_law_cell_of.nd rfl (Or.inl rfl) (pe_op op_sub (pe_op op_sub (pe_bits (pv 2)) (pe_bits (pv 3))) (pv 1)))
      (pss_cons (ps_while PassesOwn.never (pt_not (pt_cmpR op_lt (pe_op op_shlW (pv 2) (pe_callB (call_max2 rfl) (by rfl) T.b_max (by decide +kernel) (pa_cons (pe_op op_sub pe_int (pv 4)) (pa_cons pe_int pa_nil)))) (pe_op op_shlW (pv 3) (pe_op op_add (pe_callB (call_max2 rfl) (by rfl) T.b_max (by decide +kernel) (pa_cons (pv 4) (pa_cons pe_int pa_nil))) (pv 1))) (nomark _))) (pss_one (ps_set (i := 4) sc_law_cell_of.nd rfl (Or.inl rfl) (pe_op op_add (pv 4) pe_int))))
      (pss_one (ps_ret (pe_tup (pa_cons (pe_op op_fdivW (pe_op op_shlW (pv 2) (pe_callB (call_max2 rfl) (by rfl) T.b_max (by decide +kernel) (pa_cons (pe_op op_sub pe_int (pv 4)) (pa_cons pe_int pa_nil)))) (pe_op op_shlW (pv 3) (pe_callB (call_max2 rfl) (by rfl) T.b_max (by decide +kernel) (pa_cons (pv 4) (pa_cons pe_int pa_nil))))) (pa_cons (pv 4) pa_nil)))))))), fun ds d r => ?_⟩
  cases r
  rename_i x w h
  obtain ⟨hx, hw, hw2⟩ := h
  have he := e0_le hx hw
  have hi := exp_hi hx.n0 hx.d0 hw
  have lt_iff : ∀ e : Int, Na x e < Nb x e * p2 w ↔ Na x e / Nb x e < p2 w := fun e => by
    rw [Int.ediv_lt_iff_lt_mul (Nb_pos hx.d0 e), Int.mul_comm]
  refine xs_seq (xs_asgG (xe_var rfl) (xg_tup (xgs_cons xg_name (xgs_cons xg_name xgs_nil)) rfl) ?_)
  refine xs_seq (xs_asg (xe_sub (xe_sub (xe_bitl (xe_var rfl)) (xe_bitl (xe_var rfl))) (xe_var rfl)) ?_)
  refine xs_seq (xs_while (fun m ρ => ∃ e : Int, ρ = [some (numD x), some (.int w), some (.int x.1), some (.int x.2), some (.int e)] ∧ ((e = e0 x w ∧ m = 1) ∨ (e = e0 x w + 1 ∧ m = 0 ∧ ¬ Na x (e0 x w) < Nb x (e0 x w) * p2 w))) 1 ⟨e0 x w, rfl, .inl ⟨rfl, rfl⟩⟩ ?_)
  rintro m ρ ⟨e, rfl, hc⟩
  have hE : -4000 ≤ e ∧ e ≤ 4000 := by rcases hc with ⟨rfl, _⟩ | ⟨rfl, _⟩ <;> omega
  have s1 : CShl x.1 (max (0 - e) 0) := hx.n.shl (by omega) (b := 4000) (by omega) (by decide)
  have s2 : CShl x.2 (max e 0 + w) := hx.d.shl (by omega) (b := 4100) (by omega) (by decide)
  have s3 : CShl x.2 (max e 0) := hx.d.shl (by omega) (b := 4000) (by omega) (by decide)
  have eN : x.2 * 2 ^ (max e 0 + w).toNat = Nb x e * p2 w := by
    rw [Nb_eq, Int.mul_assoc, ← pw_add (by omega) (by omega)]
    rfl
  refine ⟨_, xt_not (xt_test (xe_lt (xe_shl (xe_var rfl) (xe_max2 (xe_sub xe_int (xe_var rfl)) xe_int) s1) (xe_shl (xe_var rfl) (xe_add (xe_max2 (xe_var rfl) xe_int) (xe_var rfl)) s2))), fun hb => ?_, fun hb => ?_⟩
  · rw [eN] at hb
    have hb' : ¬ Na x e < Nb x e * p2 w := by
      have q : (!decide (Na x e < Nb x e * p2 w)) = true := hb
      simpa using q
    refine xs_asg (xe_add (xe_var rfl) xe_int) ?_
    rcases hc with ⟨rfl, rfl⟩ | ⟨rfl, rfl, _⟩
    · exact ⟨0, by decide, _, rfl, .inr ⟨rfl, rfl, hb'⟩⟩
    · exact absurd (by rw [Int.mul_comm]; exact hi) hb'
  · rw [eN] at hb
    have hb' : Na x e < Nb x e * p2 w := by
      have q : (!decide (Na x e < Nb x e * p2 w)) = false := hb
      simpa using q
    refine xs_ret (xe_tup (xa_cons (xe_fdiv (xe_shl (xe_var rfl) (xe_max2 (xe_sub xe_int (xe_var rfl)) xe_int) s1) (xe_shl (xe_var rfl) (xe_max2 (xe_var rfl) xe_int) s3) ?_) (xa_cons (xe_var rfl) xa_nil)) (by show 2 ≤ 1000; decide)) ?_
    · exact (hx.d.shlv (b := 4000) (by omega)).div (Int.mul_pos hx.d0 (pw_pos _)) (by decide)
    · have q1 : quo (sc x (0 - e0 x w)) = Na x (e0 x w) / Nb x (e0 x w) := rfl
      have q2 : quo (sc x (0 - (e0 x w + 1))) = Na x (e0 x w + 1) / Nb x (e0 x w + 1) := rfl
      have eB : x.2 * 2 ^ (max e 0).toNat = Nb x e := (Nb_eq x e).symm
      rw [eB]
      show cellD (Na x e / Nb x e, e) = cellD (cellOf x w)
      unfold cellOf
      rcases hc with ⟨rfl, _⟩ | ⟨rfl, _, hn⟩
      · have := (lt_iff _).mp hb'
        rw [if_neg (by rw [q1, Int.one_mul]; omega), q1]
      · have := (not_congr (lt_iff _)).mp hn
        rw [if_pos (by rw [q1, Int.one_mul]; omega), q2]
theorem sc_law_place : FnScope ["_law_number", "_law_width", "_law_k", "_law_e", "_law_n", "_law_d"] ["_law_number", "_law_width"] (defScope s_law_place) := ⟨rfl, rfl, rfl, by decide +kernel, rfl, by decide +kernel, by decide +kernel⟩
theorem cal_law_place (T : Top w K mg) : Cal P w K mg base 3 "_law_place" (spP K R_law_place) [] := by
  obtain ⟨fd, F⟩ := T.f_law_place
  refine cal_pure F T.g_law_place (F.bindsN (ps := ["_law_number", "_law_width"]) fun _ _ _ _ _ _ us hl => match us, hl with | [_, _], _ => rfl) sc_law_place (fun ds d r => by cases r; rfl) fun cdv A outer s H hr => ⟨_, (pss_cons (ps_asg (pe_c (cal_law_cell_of T) hr (by decide) rfl (pa_cons (pv 0) (pa_cons (pv 1) pa_nil))) (pg_tup (n := 2) rfl (pgs_cons (pg_name (i := 2) sc_law_place.nd rfl (Or.inl rfl)) (pgs_cons (pg_name (i := 3) sc_law_place.nd rfl (Or.inl rfl)) pgs_nil))))
      (pss_cons (ps_par (i := 4) (j := 5) rfl sc_law_place.nd rfl rfl (by decide) rfl rfl (pa_cons (pe_op op_shlW (pe_ix ix_tup (pv 0) pe_int (fun _ _ => rfl)) (pe_callB (call_max2 rfl) (by rfl) T.b_max (by decide +kernel) (pa_cons (pe_op op_sub pe_int (pv 3)) (pa_cons pe_int pa_nil)))) (pa_cons (pe_op op_shlW (pe_ix ix_tup (pv 0) pe_int (fun _ _ => rfl)) (pe_callB (call_max2 rfl) (by rfl) T.b_max (by decide +kernel) (pa_cons (pv 3) (pa_cons pe_int pa_nil)))) pa_nil)) (by rfl))
      (pss_one (ps_ret (pe_c (cal_law_low T) hr (by decide) rfl (pa_cons (pe_op op_sub (pv 4) (pe_op op_mulX (pv 2) (pv 5))) (pa_cons (pv 5) pa_nil))))))), fun ds d r => ?_⟩
  cases r
  rename_i x w h
  obtain ⟨hx, hw, hw2⟩ := h
  have he := ce_le hx hw
  have c := cell_is hx.n0 hx.d0 hw
  have ck := cell_k hx.n0 hx.d0 hw hw2
  have bD : Bd 7100 (Nb x (cellOf x w).2) := by
    rw [Nb_eq]
    exact (hx.d.shlv (b := 3600) (by omega)).mono (by decide)
  have eB : x.2 * 2 ^ (max (cellOf x w).2 0).toNat = Nb x (cellOf x w).2 := (Nb_eq x _).symm
  refine (xs_seq (xs_asgG (xe_call (xa_cons (xe_var rfl) (xa_cons (xe_var rfl) xa_nil)) (R_law_cell_of.mk ?_)) (xg_tup (xgs_cons xg_name (xgs_cons xg_name xgs_nil)) rfl) (xs_seq (xs_par (xa_cons (xe_shl (xe_ixT (ds := [.int x.1, .int x.2]) (xe_var rfl) xe_int (by decide) rfl) (xe_max2 (xe_sub xe_int (xe_var rfl)) xe_int) ?_) (xa_cons (xe_shl (xe_ixT (ds := [.int x.1, .int x.2]) (xe_var rfl) xe_int (by decide) rfl) (xe_max2 (xe_var rfl) xe_int) ?_) xa_nil)) (xs_ret (xe_call (xa_cons (xe_sub (xe_var rfl) (xe_mul (xe_var rfl) (xe_var rfl) ?_)) (xa_cons (xe_var rfl) xa_nil)) (R_law_low.mk ?_)) ?_)))))
  · exact ⟨hx, hw, hw2⟩
  · exact hx.n.shl (by omega) (b := 4000) (by omega) (by decide)
  · exact hx.d.shl (by omega) (b := 4000) (by omega) (by decide)
  · rw [eB]
    exact ck.2.1.mulx bD (by decide)
  · rw [eB]
    refine ⟨?_, Nb_pos hx.d0 _, bD.mono (by decide)⟩
    have := c.le
    show 0 ≤ Na x (cellOf x w).2 - (cellOf x w).1 * Nb x (cellOf x w).2
    omega
  · rw [eB]
    rfl
theorem sc_law_end : FnScope ["_law_k", "_law_e"] ["_law_k", "_law_e"] (defScope s_law_end) := ⟨rfl, rfl, rfl, by decide +kernel, rfl, by decide +kernel, by decide +kernel⟩
theorem cal_law_end (T : Top w K mg) : Cal P w K mg base 3 "_law_end" (spP K R_law_end) [] := by
  obtain ⟨fd, F⟩ := T.f_law_end
  refine cal_pure F T.g_law_end (F.bindsN (ps := ["_law_k", "_law_e"]) fun _ _ _ _ _ _ us hl => match us, hl with | [_, _], _ => rfl) sc_law_end (fun ds d r => by cases r; rfl) fun cdv A outer s H hr => ⟨_, (pss_one (ps_ret (pe_c (cal_law_low T) hr (by decide) rfl (pa_cons (pe_op op_shlW (pv 0) (pe_callB (call_max2 rfl) (by rfl) T.b_max (by decide +kernel) (pa_cons (pv 1) (pa_cons pe_int pa_nil)))) (pa_cons (pe_op op_shlW pe_int (pe_callB (call_max2 rfl) (by rfl) T.b_max (by decide +kernel) (pa_cons (pe_op op_sub pe_int (pv 1)) (pa_cons pe_int pa_nil)))) pa_nil))))), fun ds d r => ?_⟩
  cases r
  rename_i k e h
  refine (xs_ret (xe_call (xa_cons (xe_shl (xe_var rfl) (xe_max2 (xe_var rfl) xe_int) ?_) (xa_cons (xe_shl xe_int (xe_max2 (xe_sub xe_int (xe_var rfl)) xe_int) ?_) xa_nil)) (R_law_low.mk ?_)) ?_)
  · exact h.1.shl (by omega) (b := 8000) (by omega) (by decide)
  · exact Bd.one.shl (by omega) (b := 8000) (by omega) (by decide)
  · exact ⟨Int.mul_nonneg h.1.nn (Int.le_of_lt (pw_pos _)), Int.mul_pos (show (0 : Int) < 1 by decide) (pw_pos _), (Bd.one.shlv (b := 8000) (by omega)).mono (by decide)⟩
  · rfl
theorem sc_law_goes_up : FnScope ["_law_k", "_law_place_here", "_law_rule_here", "_law_n", "_law_d"] ["_law_k", "_law_place_here", "_law_rule_here"] (defScope s_law_goes_up) := ⟨rfl, rfl, rfl, by decide +kernel, rfl, by decide +kernel, by decide +kernel⟩
theorem cal_law_goes_up (T : Top w K mg) : Cal P w K mg base 1 "_law_goes_up" (spP K R_law_goes_up) [] := by
  obtain ⟨fd, F⟩ := T.f_law_goes_up
  refine cal_pure F T.g_law_goes_up (F.bindsN (ps := ["_law_k", "_law_place_here", "_law_rule_here"]) fun _ _ _ _ _ _ us hl => match us, hl with | [_, _, _], _ => rfl) sc_law_goes_up (fun ds d r => by cases r; rfl) fun cdv A outer s H hr => ⟨_, (pss_cons (ps_if (pt_cmpR op_in_seq (pv 2) (pe_tup (pa_cons pe_str (pa_cons pe_str pa_nil))) (by rfl)) (pss_one (ps_ret (pe_cmpR op_eq (pv 2) pe_str (nomark _)))) pss_nil)
      (pss_cons (ps_if (pt_cmpR op_eq (pv 2) pe_str (nomark _)) (pss_one (ps_ret (pe_cmpR op_eq (pe_op op_mod (pv 0) pe_int) pe_int (nomark _)))) pss_nil)
      (pss_cons (ps_asg (pv 1) (pg_tup (n := 2) rfl (pgs_cons (pg_name (i := 3) sc_law_goes_up.nd rfl (Or.inl rfl)) (pgs_cons (pg_name (i := 4) sc_law_goes_up.nd rfl (Or.inl rfl)) pgs_nil))))
      (pss_cons (ps_if (pt_cmpR op_ne (pe_op op_mulX pe_int (pv 3)) (pv 4) (nomark _)) (pss_one (ps_ret (pe_cmpR op_gt (pe_op op_mulX pe_int (pv 3)) (pv 4) (nomark _)))) pss_nil)
      (pss_one (ps_ret (pe_or (pe_cmpR op_eq (pv 2) pe_str (nomark _)) (pe_one (pe_and (pe_cmpR op_eq (pv 2) pe_str (nomark _)) (pe_one (pe_cmpR op_eq (pe_op op_mod (pv 0) pe_int) pe_int (nomark _)))))))))))), fun ds d r => ?_⟩
  cases r
  rename_i k p r h
  have b2 : CMulX 2 p.1 := Bd.two.mulx h (by decide)
  cases r
  all_goals refine (xs_seq (xs_if (xt_test (xe_inS (xs := ["down", "up"]) (xe_var rfl) (xe_tup (xa_cons xe_str (xa_cons xe_str xa_nil)) (by show 2 ≤ 1000; decide)))) (fun h1 => (xs_ret (xe_eqS (xe_var rfl) xe_str) ?_)) (fun h2 => (xs_next (xs_seq (xs_if (xt_test (xe_eqS (xe_var rfl) xe_str)) (fun h3 => (xs_ret (xe_eqI (xe_mod (xe_var rfl) xe_int ?_) xe_int) ?_)) (fun h4 => (xs_next (xs_seq (xs_asgG (xe_var rfl) (xg_tup (xgs_cons xg_name (xgs_cons xg_name xgs_nil)) rfl) (xs_seq (xs_if (xt_test (xe_neI (xe_mul xe_int (xe_var rfl) ?_) (xe_var rfl))) (fun h5 => (xs_ret (xe_gt (xe_mul xe_int (xe_var rfl) ?_) (xe_var rfl)) ?_)) (fun h6 => (xs_next (xs_ret (xe_orV (xe_eqS (xe_var rfl) xe_str) (fun h7 => (xe_andV (xe_eqS (xe_var rfl) xe_str) (fun h8 => (xe_eqI (xe_mod (xe_var rfl) xe_int ?_) xe_int))))) ?_)))))))))))))))
  all_goals first
    | exact b2
    | (exact (by decide : (0 : Int) < 2))
    | (exfalso; revert h1; decide +kernel)
    | (exfalso; revert h2; decide +kernel)
    | (exfalso; revert h3; decide +kernel)
    | (exfalso; revert h4; decide +kernel)
    | skip
  case mk.down.refine_1 => exact congrArg PyData.bool (by decide +kernel : decide (rs .down = ("up" : Str)) = false)
  case mk.up.refine_1 => exact congrArg PyData.bool (by decide +kernel : decide (rs .up = ("up" : Str)) = true)
  case mk.odd.refine_3 => rfl
  case mk.halfDown.refine_6 => rfl
  case mk.halfDown.refine_8 =>
    refine congrArg PyData.bool ?_
    have e : 2 * p.1 = p.2 := by simpa using h6
    have e2 : goesUp k p .halfDown = false := decide_eq_false (by omega)
    rw [e2, (by decide +kernel : decide (rs .halfDown = ("half_up" : Str)) = false), (by decide +kernel : decide (rs .halfDown = ("half_even" : Str)) = false)]
    rfl
  case mk.halfEven.refine_6 =>
    refine congrArg PyData.bool ?_
    have e : ¬ 2 * p.1 = p.2 := by simpa using h5
    show _ = if 2 * p.1 = p.2 then decide (k % 2 = 1) else decide (p.2 < 2 * p.1)
    rw [if_neg e]
  case mk.halfEven.refine_8 =>
    refine congrArg PyData.bool ?_
    have e : 2 * p.1 = p.2 := by simpa using h6
    show _ = if 2 * p.1 = p.2 then decide (k % 2 = 1) else decide (p.2 < 2 * p.1)
    rw [if_pos e, (by decide +kernel : decide (rs .halfEven = ("half_up" : Str)) = false), (by decide +kernel : decide (rs .halfEven = ("half_even" : Str)) = true)]
    simp
  case mk.halfUp.refine_6 =>
    refine congrArg PyData.bool ?_
    have e : ¬ 2 * p.1 = p.2 := by simpa using h5
    unfold goesUp
    rw [if_neg e]
  case mk.halfUp.refine_8 =>
    refine congrArg PyData.bool ?_
    have e : 2 * p.1 = p.2 := by simpa using h6
    unfold goesUp
    rw [if_pos e, (by decide +kernel : decide (rs .halfUp = ("half_up" : Str)) = true)]
    simp
theorem sc_law_rounded : FnScope ["_law_number", "_law_width", "_law_rule_here", "_law_k", "_law_e", "_law_place_here"] ["_law_number", "_law_width", "_law_rule_here"] (defScope s_law_rounded) := ⟨rfl, rfl, rfl, by decide +kernel, rfl, by decide +kernel, by decide +kernel⟩
theorem cal_law_rounded (T : Top w K mg) : Cal P w K mg base 4 "_law_rounded" (spP K R_law_rounded) [] := by
  obtain ⟨fd, F⟩ := T.f_law_rounded
  refine cal_pure F T.g_law_rounded (F.bindsN (ps := ["_law_number", "_law_width", "_law_rule_here"]) fun _ _ _ _ _ _ us hl => match us, hl with | [_, _, _], _ => rfl) sc_law_rounded (fun ds d r => by cases r; rfl) fun cdv A outer s H hr => ⟨_, (pss_cons (ps_asg (pe_c (cal_law_cell_of T) hr (by decide) rfl (pa_cons (pv 0) (pa_cons (pv 1) pa_nil))) (pg_tup (n := 2) rfl (pgs_cons (pg_name (i := 3) sc_law_rounded.nd rfl (Or.inl rfl)) (pgs_cons (pg_name (i := 4) sc_law_rounded.nd rfl (Or.inl rfl)) pgs_nil))))
      (pss_cons (ps_set (i := 5) sc_law_rounded.nd rfl (Or.inl rfl) (pe_c (cal_law_place T) hr (by decide) rfl (pa_cons (pv 0) (pa_cons (pv 1) pa_nil))))
      (pss_cons (ps_if (pt_cmpR (op_eqD (by exact hr.units)) (pv 5) (pe_tup (pa_cons pe_int (pa_cons pe_int pa_nil))) (nomark _)) (pss_one (ps_ret (pv 0))) pss_nil)
      (pss_one (ps_ret (pe_c (cal_law_end T) hr (by decide) rfl (pa_cons (pe_op op_add (pv 3) (pe_callTy call_int1 (by rfl) T.b_int (by decide +kernel) (pa_cons (pe_c (cal_law_goes_up T) hr (by decide) rfl (pa_cons (pv 3) (pa_cons (pv 5) (pa_cons (pv 2) pa_nil)))) pa_nil))) (pa_cons (pv 4) pa_nil)))))))), fun ds d r => ?_⟩
  cases r
  rename_i x w r h
  have he := ce_le h.1 h.2.1
  have ck := cell_k h.1.n0 h.1.d0 h.2.1 h.2.2
  refine (xs_seq (xs_asgG (xe_call (xa_cons (xe_var rfl) (xa_cons (xe_var rfl) xa_nil)) (R_law_cell_of.mk ?_)) (xg_tup (xgs_cons xg_name (xgs_cons xg_name xgs_nil)) rfl) (xs_seq (xs_asg (xe_call (xa_cons (xe_var rfl) (xa_cons (xe_var rfl) xa_nil)) (R_law_place.mk ?_)) (xs_seq (xs_if (xt_test (xe_eqD (d1 := numD (posOf x w)) (d2 := numD (0, 1)) (xe_var rfl) (xe_tup (xa_cons xe_int (xa_cons xe_int xa_nil)) (by show 2 ≤ 1000; decide)) rfl rfl)) (fun h1 => (xs_ret (xe_var rfl) ?_)) (fun h2 => (xs_next (xs_ret (xe_call (xa_cons (xe_add (xe_var rfl) (xe_intB (xe_call (xa_cons (xe_var rfl) (xa_cons (xe_var rfl) (xa_cons (xe_var rfl) xa_nil))) (R_law_goes_up.mk ?_)))) (xa_cons (xe_var rfl) xa_nil)) (R_law_end.mk ?_)) ?_)))))))))
  · exact h
  · exact h
  · have q : posOf x w = (0, 1) := by
      have : decide (posOf x w = (0, 1)) = true := by rw [← eqv_num]; exact h1
      exact of_decide_eq_true this
    have e1 : endsOf x w = (x, x) := by
      unfold endsOf
      rw [if_pos (by rw [q])]
    unfold roundOnce
    rw [e1]
    split <;> rfl
  · exact bd_pos x w h.1 h.2.1 h.2.2
  · refine ⟨?_, by omega, by omega⟩
    have b1 : Bd 101 (if goesUp (cellOf x w).1 (posOf x w) r = true then 1 else 0) := by
      split
      · exact Bd.one.mono (by decide)
      · exact Bd.zero.mono (by decide)
    exact (ck.2.1.add b1).mono (by decide)
  · have q : ¬ (posOf x w).1 = 0 := fun z => by
      have e := pos_zero h.1.d0 z
      have : decide (posOf x w = (0, 1)) = false := by rw [← eqv_num]; exact h2
      exact of_decide_eq_false this e
    have e1 : endsOf x w = (powN (cellOf x w).1 (cellOf x w).2, powN ((cellOf x w).1 + 1) (cellOf x w).2) := by
      unfold endsOf
      rw [if_neg q]
    unfold roundOnce
    rw [e1]
    split
    · rfl
    · rw [Int.add_zero]
theorem sc_law_applied : FnScope ["_law_number", "_law_chain_here", "_law_width", "_law_rule_here"] ["_law_number", "_law_chain_here"] (defScope s_law_applied) := ⟨rfl, rfl, rfl, by decide +kernel, rfl, by decide +kernel, by decide +kernel⟩
theorem cal_law_applied (T : Top w K mg) : Cal P w K mg base 5 "_law_applied" (spP K R_law_applied) [] := by
  obtain ⟨fd, F⟩ := T.f_law_applied
  refine cal_pure F T.g_law_applied (F.bindsN (ps := ["_law_number", "_law_chain_here"]) fun _ _ _ _ _ _ us hl => match us, hl with | [_, _], _ => rfl) sc_law_applied (fun ds d r => by cases r; rfl) fun cdv A outer s H hr => ⟨_, (pss_cons (ps_for PassesOwn.never rfl (pi_tup (pv 1)) (pg_tup (n := 2) rfl (pgs_cons (pg_name (i := 2) sc_law_applied.nd rfl (Or.inl rfl)) (pgs_cons (pg_name (i := 3) sc_law_applied.nd rfl (Or.inl rfl)) pgs_nil))) (pss_one (ps_set (i := 0) sc_law_applied.nd rfl (Or.inl rfl) (pe_c (cal_law_rounded T) hr (by decide) rfl (pa_cons (pv 0) (pa_cons (pv 2) (pa_cons (pv 3) pa_nil)))))))
      (pss_one (ps_ret (pv 0)))), fun ds d r => ?_⟩
  cases r
  rename_i x c h
  obtain ⟨hc, hx⟩ := h
  refine xs_seq (xs_for (ds := c.map stepD) (xi_tup (xe_var rfl)) (fun i ρ => ∃ a b : Option PyData, ρ = [some (numD (appliedC x (c.take i))), some (chD c), a, b]) ⟨none, none, rfl⟩ ?_ ?_)
  · rintro i d ρ hd ⟨a, b, rfl⟩
    rw [List.getElem?_map] at hd
    cases es : c[i]? with
    | none => rw [es] at hd; cases hd
    | some s =>
      rw [es] at hd
      cases Option.some.inj hd
      have sk := hc.ok s (List.mem_of_getElem? es)
      have hle := hc.le
      have nm : Nm 3500 (appliedC x (c.take i)) := by
        refine (applied_nm hx fun t ht => hc.ok t (List.mem_of_mem_take ht)).mono ?_
        rw [List.length_take]
        omega
      refine ⟨_, _, xg_tup (xgs_cons xg_name (xgs_cons xg_name xgs_nil)) rfl, xs_asg (xe_call (xa_cons (xe_var rfl) (xa_cons (xe_var rfl) (xa_cons (xe_var rfl) xa_nil))) (R_law_rounded.mk ⟨nm, sk⟩)) ?_⟩
      rw [take_snoc es, applied_snoc]
      exact ⟨_, _, rfl⟩
  · rintro ρ ⟨a, b, rfl⟩
    refine xs_ret (xe_var rfl) ?_
    rw [List.length_map, List.take_length]
end
end SR
end
section
set_option Elab.async false
set_option linter.all false
set_option maxRecDepth 100000
set_option maxHeartbeats 1000000
/-! The law's plain defs: roots, exact results. -/
namespace SR
open PySem PySem.Spec PyProof.Rows L2
open Evl (Ex)
open C8 (Cal Met Mak pe_c pe_mt pe_mt0 pe_mk pe_gc)
section
variable {K : PySem.W.Frag} {ρ : Rho}
def upD (lo c : Int) (n : Nat) : List PyData := (List.range n).map fun i => .int (lo + (i : Nat) * c)
theorem upD_get {lo c : Int} {n i : Nat} (h : i < n) : (upD lo c n)[i]? = some (.int (lo + (i : Nat) * c)) := by
  unfold upD
  rw [List.getElem?_map, List.getElem?_range h]
  rfl
theorem xi_down {tr : TA} {i j : Int} (h : XA K tr ρ [.int i, .int j, .int (-1)]) (h1 : -(2 ^ 62) ≤ i) (h2 : i < 2 ^ 62) (h3 : -(2 ^ 62) ≤ j) (h4 : j < 2 ^ 62) : XI K (iRng3 tr) ρ (upD i (-1) (i - j).toNat) := fun σ H R E q => h σ H E _ fun vs H1 e1 hvs => by
  obtain ⟨v1, ws, rfl, hv1, hws⟩ := dps_cons hvs
  obtain ⟨v2, v3, rfl, hv2, hv3⟩ := dps2 hws
  rw [dp_int hv1, dp_int hv2, dp_int hv3]
  have e : (upD i (-1) (i - j).toNat).length = (i - j).toNat := by unfold upD; simp
  have wk : Walk (Itc i (-1) (i - j).toNat) (upD i (-1) (i - j).toNat).length (fun _ => True) (YFn fun k => .int (i + (k : Nat) * (-1))) := by
    rw [e]
    exact walk_rangeC
  refine ⟨i, j, -1, (i - j).toNat, rfl, RgC.neg h1 h2 h3 h4, q _ H1 _ _ e1 wk (fun _ _ => trivial) fun k H2 x H3 hk e2 y => ?_⟩
  obtain ⟨rfl, rfl⟩ := y
  rw [e] at hk
  exact ⟨Evl.Ex.refl _, _, upD_get hk, .int _⟩
end
inductive R_law_direct : List PyData → PyData → Prop
  | mk {c : Chain} {r : Rule} (h : ChOk c) : R_law_direct [chD c, .str (rs r)] (chD [(minW c, r)])
inductive R_law_root_of : List PyData → PyData → Prop
  | mk {v : Int} (h : Bd 9000 v) : R_law_root_of [.int v] (.int (isq v))
def exactD (x : Num) (b : Int) : PyData := if isq (x.1 * x.2 * p2 (2 * b)) * isq (x.1 * x.2 * p2 (2 * b)) = x.1 * x.2 * p2 (2 * b) then numD (nearLow x b) else .none
inductive R_law_near : List PyData → PyData → Prop
  | mk {x : Num} (h : Nm 1100 x) : R_law_near [numD x, .int 300] (.tuple [exactD x 300, numD (nearLow x 300), numD (low (isq (x.1 * x.2 * p2 (2 * 300)) + 1) (x.2 * p2 300))])
inductive R_law_exact : List PyData → PyData → Prop
  | mk {m : Meth2} {x y : Num} (h : Nm 1100 x ∧ Nm 1100 y) : R_law_exact [.str (ms m), numD x, numD y] (numD (exactM m x y))
inductive R_law_root_by : List PyData → PyData → Prop
  | mk {x : Num} {c : Chain} (h : Nm 1100 x ∧ ChOk c) : R_law_root_by [numD x, chD c] (numD (lawRoot x c))
/-! ### the greatest root, bit by bit -/
theorem bits_start {v : Int} (hv : 0 ≤ v) : isq v < p2 (bl v / 2 + 1) := by
  have hn := bl_nn v
  refine isq_leq hv (Int.le_of_lt (pw_pos _)) ?_
  by_cases h0 : v = 0
  · subst h0
    exact Int.mul_pos (pw_pos _) (pw_pos _)
  · have h := bl_hi (show 0 < v by omega)
    rw [← pw_add (by omega) (by omega)]
    exact Int.lt_of_lt_of_le h (pw_mono (by omega))
theorem ediv_uniq {s q N : Int} (hq : 0 < q) (h1 : N * q ≤ s) (h2 : s < (N + 1) * q) : s / q = N := by
  have := Int.le_ediv_of_mul_le hq h1
  have := Int.ediv_lt_of_lt_mul hq h2
  omega
theorem bits_step {v b : Int} (hv : 0 ≤ v) (hb : 0 ≤ b) :
    (if isq v / p2 (b + 1) * p2 (b + 1) + p2 b ≤ isq v then isq v / p2 (b + 1) * p2 (b + 1) + p2 b else isq v / p2 (b + 1) * p2 (b + 1)) = isq v / p2 b * p2 b := by
  have p := pw_pos b
  have e := pw_succ hb
  have s0 := isq_nn v
  rw [e]
  generalize isq v = s at *
  generalize p2 b = q at *
  have h1 := Int.ediv_mul_le s (show 2 * q ≠ 0 by omega)
  have h2 := Int.lt_ediv_add_one_mul_self s (show 0 < 2 * q by omega)
  generalize hA : s / (2 * q) = A at *
  have hE : (A + 1) * (2 * q) = 2 * A * q + 2 * q := by grind
  have hF : A * (2 * q) = 2 * A * q := by grind
  rw [hF] at h1 ⊢
  rw [hE] at h2
  split
  · rename_i h
    have : s / q = 2 * A + 1 := ediv_uniq p (by grind) (by grind)
    rw [this]
    grind
  · rename_i h
    have : s / q = 2 * A := ediv_uniq p (by grind) (by grind)
    rw [this]
section
variable {P : Program} {w : World} {K : PySem.W.Frag} {mg : Str → Option Value} {base : Heap}
theorem sc_law_direct : FnScope ["_law_plan", "_law_rule_here", "_law_width", "_law_word"] ["_law_plan", "_law_rule_here"] (defScope s_law_direct) := ⟨rfl, rfl, rfl, by decide +kernel, rfl, by decide +kernel, by decide +kernel⟩
theorem cal_law_direct (T : Top w K mg) : Cal P w K mg base 1 "_law_direct" (spP K R_law_direct) [] := by
  obtain ⟨fd, F⟩ := T.f_law_direct
  refine cal_pure F T.g_law_direct (F.bindsN (ps := ["_law_plan", "_law_rule_here"]) fun _ _ _ _ _ _ us hl => match us, hl with | [_, _], _ => rfl) sc_law_direct (fun ds d r => by cases r; rfl) fun cdv A outer s H hr => ⟨_, (pss_one (ps_ret (pe_tup (pa_cons (pe_tup (pa_cons (pe_callB (cr_min rfl) (by rfl) T.b_min (by decide +kernel) (pa_cons (pe_lc (own := [("_law_width", 2), ("_law_word", 3)]) (g := gTup K 2 (gCons (gName 2) (gCons (gName 3) gNil))) (tt := tYes) rfl sc_law_direct.nd (pi_tup (pv 0)) (blkOk_by (N := ["_law_plan", "_law_rule_here", "_law_width", "_law_word"]) (sc := defScope s_law_direct) (by decide +kernel)) (fun _ _ _ _ _ => (pg_tup (n := 2) rfl (pgs_cons (pg_name (i := 2) sc_law_direct.nd rfl (Or.inl rfl) (Or.inr rfl)) (pgs_cons (pg_name (i := 3) sc_law_direct.nd rfl (Or.inl rfl) (Or.inr rfl)) pgs_nil)))) (fun _ _ _ _ _ => pts_nil) (fun _ _ _ _ _ => (pv 2))) pa_nil)) (pa_cons (pv 1) pa_nil))) pa_nil)))), fun ds d r => ?_⟩
  cases r
  rename_i c r h
  refine xs_ret (xe_tup (xa_cons (xe_tup (xa_cons (xe_min (ns := c.map (·.1)) (xe_lc (es := (c.map (·.1)).map .int) (xi_tup (ds := c.map stepD) (xe_var rfl)) (by simp) (fun i d_ b_ h_ k_ => ?_) ?_ ?_) (minW_mem ?_) fun y => minW_le) (xa_cons (xe_var rfl) xa_nil)) (by show 2 ≤ 1000; decide)) xa_nil) (by show 1 ≤ 1000; decide)) rfl
  · rw [List.getElem?_map] at h_
    cases e : c[i]? with
    | none => rw [e] at h_; cases h_
    | some s =>
      rw [e] at h_
      cases Option.some.inj h_
      rw [List.getElem?_map, List.getElem?_map, e] at k_
      cases Option.some.inj k_
      refine ⟨_, _, ?_, xg_tup (xgs_cons xg_name (xgs_cons xg_name xgs_nil)) rfl, xe_var rfl⟩
      simp
  · exact fz_all fun d hd => by
      obtain ⟨b, _, rfl⟩ := List.mem_map.mp hd
      rfl
  · rw [List.length_map]
    have := h.le
    omega
  · intro e
    have := h.pos
    rw [e] at this
    simp at this
theorem sc_law_root_of : FnScope ["_law_value", "_law_found", "_law_bit"] ["_law_value"] (defScope s_law_root_of) := ⟨rfl, rfl, rfl, by decide +kernel, rfl, by decide +kernel, by decide +kernel⟩
theorem cal_law_root_of (T : Top w K mg) : Cal P w K mg base 1 "_law_root_of" (spP K R_law_root_of) [] := by
  obtain ⟨fd, F⟩ := T.f_law_root_of
  refine cal_pure F T.g_law_root_of (F.bindsN (ps := ["_law_value"]) fun _ _ _ _ _ _ us hl => match us, hl with | [_], _ => rfl) sc_law_root_of (fun ds d r => by cases r; rfl) fun cdv A outer s H hr => ⟨_, (pss_cons (ps_set (i := 1) sc_law_root_of.nd rfl (Or.inl rfl) pe_int)
      (pss_cons (ps_for PassesOwn.never rfl (pi_range3 (by rfl) T.b_range (pa_cons (pe_op op_fdivW (pe_bits (pv 0)) pe_int) (pa_cons (pe_un un_neg pe_int) (pa_cons (pe_un un_neg pe_int) pa_nil)))) (pg_name (i := 2) sc_law_root_of.nd rfl (Or.inl rfl)) (pss_one (ps_if (pt_cmpR op_le (pe_op op_mulX (pe_op op_add (pv 1) (pe_op op_shlW pe_int (pv 2))) (pe_op op_add (pv 1) (pe_op op_shlW pe_int (pv 2)))) (pv 0) (nomark _)) (pss_one (ps_set (i := 1) sc_law_root_of.nd rfl (Or.inl rfl) (pe_op op_add (pv 1) (pe_op op_shlW pe_int (pv 2))))) pss_nil)))
      (pss_one (ps_ret (pv 1))))), fun ds d r => ?_⟩
  cases r
  rename_i v h
  have hb := h.bl
  have hn := bl_nn v
  refine xs_seq (xs_asg xe_int ?_)
  refine xs_seq (xs_for (ds := upD (bl v / 2) (-1) (bl v / 2 - -1).toNat) (xi_down (xa_cons (xe_fdiv (xe_bitl (xe_var rfl)) xe_int (Bd.two.div (by decide) (by decide))) (xa_cons (xe_neg xe_int) (xa_cons (xe_neg xe_int) xa_nil))) (by omega) (by omega) (by decide) (by decide))
    (fun i ρ => ∃ a, ρ = [some (.int v), some (.int (isq v / p2 (bl v / 2 + 1 - i) * p2 (bl v / 2 + 1 - i))), a]) ⟨none, ?_⟩ ?_ ?_)
  · have e : isq v / p2 (bl v / 2 + 1 - ((0 : Nat) : Int)) = 0 := by
      refine ediv_uniq (pw_pos _) (by have := isq_nn v; omega) ?_
      have := bits_start h.nn
      rw [Int.zero_add, Int.one_mul]
      rw [show bl v / 2 + 1 - ((0 : Nat) : Int) = bl v / 2 + 1 by omega]
      exact this
    rw [e, Int.zero_mul]
    rfl
  · rintro i d ρ hd ⟨a, rfl⟩
    have hi : i < (bl v / 2 - -1).toNat := by
      have := (List.getElem?_eq_some_iff.mp hd).1
      unfold upD at this
      simpa using this
    rw [upD_get hi] at hd
    cases Option.some.inj hd
    refine ⟨_, _, xg_name, ?_⟩
    have eb : bl v / 2 + (i : Int) * (-1) = bl v / 2 - i := by omega
    have hb0 : 0 ≤ bl v / 2 - (i : Int) := by omega
    rw [eb]
    have st := bits_step h.nn hb0
    have e1 : bl v / 2 + 1 - (i : Int) = bl v / 2 - i + 1 := by omega
    have e2 : bl v / 2 + 1 - ((i + 1 : Nat) : Int) = bl v / 2 - i := by omega
    rw [e1]
    show XS K _ { nx := fun ρ => ∃ a, ρ = [some (.int v), some (.int (isq v / p2 (bl v / 2 + 1 - ((i + 1 : Nat) : Int)) * p2 (bl v / 2 + 1 - ((i + 1 : Nat) : Int)))), a], rt := _, bk := _, ct := _ } _
    rw [e2, ← st]
    have s0 := isq_nn v
    have p0 := pw_pos (bl v / 2 - i + 1)
    have le0 := Int.ediv_mul_le (isq v) (show p2 (bl v / 2 - i + 1) ≠ 0 by omega)
    have q0 : 0 ≤ isq v / p2 (bl v / 2 - i + 1) * p2 (bl v / 2 - i + 1) := Int.mul_nonneg (Int.ediv_nonneg s0 (by omega)) (by omega)
    have il := isq_le h.nn
    have iu := isq_lt h.nn
    have bs : Bd 9000 (isq v) := h.le s0 (by
      rcases Int.lt_or_le (isq v) 1 with z | z
      · have := h.nn; omega
      · have := Int.mul_le_mul_of_nonneg_left z s0
        omega)
    generalize isq v / p2 (bl v / 2 - i + 1) * p2 (bl v / 2 - i + 1) = F at *
    have bF : Bd 9000 F := bs.le q0 le0
    have b2 : Bd 9001 (1 * p2 (bl v / 2 - i)) := by
      rw [Int.one_mul]
      exact Bd.p2 (b := 9000) (by omega)
    have bG := (bF.mono (show 9000 ≤ 9001 by decide)).add b2
    have hsh : CShl 1 (bl v / 2 - (i : Int)) := Bd.one.shl (b := 9000) hb0 (by omega) (by decide)
    have p1 := pw_pos (bl v / 2 - i)
    refine xs_if (xt_test (xe_le (xe_mul (xe_add (xe_var rfl) (xe_shl xe_int (xe_var rfl) hsh)) (xe_add (xe_var rfl) (xe_shl xe_int (xe_var rfl) hsh)) (bG.mulx bG (by decide))) (xe_var rfl))) (fun h1 => xs_asg (xe_add (xe_var rfl) (xe_shl xe_int (xe_var rfl) hsh)) ?_) (fun h1 => xs_next ?_)
    · have q : (F + 1 * p2 (bl v / 2 - i)) * (F + 1 * p2 (bl v / 2 - i)) ≤ v := of_decide_eq_true h1
      rw [Int.one_mul] at q
      have hle : F + p2 (bl v / 2 - i) ≤ isq v := by
        rcases Int.lt_or_le (isq v) (F + p2 (bl v / 2 - i)) with z | z
        · have : (isq v + 1) * (isq v + 1) ≤ (F + p2 (bl v / 2 - i)) * (F + p2 (bl v / 2 - i)) := Int.mul_le_mul (by omega) (by omega) (by omega) (by omega)
          omega
        · exact z
      rw [if_pos hle]
      refine ⟨some (.int (bl v / 2 - i)), ?_⟩
      show [some (PyData.int v), some (PyData.int (F + 1 * p2 (bl v / 2 - i))), some (PyData.int (bl v / 2 - i))] = _
      rw [Int.one_mul]
    · have q : ¬ (F + 1 * p2 (bl v / 2 - i)) * (F + 1 * p2 (bl v / 2 - i)) ≤ v := of_decide_eq_false h1
      rw [Int.one_mul] at q
      have hle : ¬ F + p2 (bl v / 2 - i) ≤ isq v := fun z => by
        have : (F + p2 (bl v / 2 - i)) * (F + p2 (bl v / 2 - i)) ≤ isq v * isq v := Int.mul_le_mul z z (by omega) s0
        omega
      rw [if_neg hle]
      exact ⟨_, rfl⟩
  · rintro ρ ⟨a, rfl⟩
    refine xs_ret (xe_var rfl) ?_
    have e : (upD (bl v / 2) (-1) (bl v / 2 - -1).toNat).length = (bl v / 2 - -1).toNat := by unfold upD; simp
    rw [e, show bl v / 2 + 1 - (((bl v / 2 - -1).toNat : Nat) : Int) = 0 by omega, pw_zero, Int.ediv_one, Int.mul_one]
theorem sc_law_near : FnScope ["_law_number", "_law_bits", "_law_n", "_law_d", "_law_low_here", "_law_exact_here"] ["_law_number", "_law_bits"] (defScope s_law_near) := ⟨rfl, rfl, rfl, by decide +kernel, rfl, by decide +kernel, by decide +kernel⟩
theorem cal_law_near (T : Top w K mg) : Cal P w K mg base 3 "_law_near" (spP K R_law_near) [] := by
  obtain ⟨fd, F⟩ := T.f_law_near
  refine cal_pure F T.g_law_near (F.bindsN (ps := ["_law_number", "_law_bits"]) fun _ _ _ _ _ _ us hl => match us, hl with | [_, _], _ => rfl) sc_law_near (fun ds d r => by cases r; rfl) fun cdv A outer s H hr => ⟨_, (pss_cons (ps_par (i := 2) (j := 3) rfl sc_law_near.nd rfl rfl (by decide) rfl rfl (pa_cons (pe_op op_shlW (pe_op op_mulX (pe_ix ix_tup (pv 0) pe_int (fun _ _ => rfl)) (pe_ix ix_tup (pv 0) pe_int (fun _ _ => rfl))) (pe_op op_mulX pe_int (pv 1))) (pa_cons (pe_ix ix_tup (pv 0) pe_int (fun _ _ => rfl)) pa_nil)) (by rfl))
      (pss_cons (ps_set (i := 4) sc_law_near.nd rfl (Or.inl rfl) (pe_c (cal_law_root_of T) hr (by decide) rfl (pa_cons (pv 2) pa_nil)))
      (pss_cons (ps_set (i := 5) sc_law_near.nd rfl (Or.inl rfl) (pe_ifExp (pt_cmpR op_eq (pe_op op_mulX (pv 4) (pv 4)) (pv 2) (nomark _)) (pe_c (cal_law_low T) hr (by decide) rfl (pa_cons (pv 4) (pa_cons (pe_op op_shlW (pv 3) (pv 1)) pa_nil))) pe_non))
      (pss_one (ps_ret (pe_tup (pa_cons (pv 5) (pa_cons (pe_c (cal_law_low T) hr (by decide) rfl (pa_cons (pv 4) (pa_cons (pe_op op_shlW (pv 3) (pv 1)) pa_nil))) (pa_cons (pe_c (cal_law_low T) hr (by decide) rfl (pa_cons (pe_op op_add (pv 4) pe_int) (pa_cons (pe_op op_shlW (pv 3) (pv 1)) pa_nil))) pa_nil))))))))), fun ds d r => ?_⟩
  cases r
  rename_i x h
  have b0 : Bd 2200 (x.1 * x.2) := h.n.mul h.d
  have bN : Bd 2800 (x.1 * x.2 * p2 (2 * 300)) := b0.shlv (b := 600) (by decide)
  have nn := bN.nn
  have s0 := isq_nn (x.1 * x.2 * p2 (2 * 300))
  have sl := isq_le nn
  have bs : Bd 2800 (isq (x.1 * x.2 * p2 (2 * 300))) := bN.le s0 (by
    rcases Int.lt_or_le (isq (x.1 * x.2 * p2 (2 * 300))) 1 with z | z
    · omega
    · have := Int.mul_le_mul_of_nonneg_left z s0
      omega)
  have bd : Bd 1400 (x.2 * p2 300) := h.d.shlv (b := 300) (by decide)
  have d0 : 0 < x.2 * p2 300 := Int.mul_pos h.d0 (pw_pos _)
  have pre : 0 ≤ isq (x.1 * x.2 * p2 (2 * 300)) ∧ 0 < x.2 * p2 300 ∧ Bd 9000 (x.2 * p2 300) := ⟨s0, d0, bd.mono (by decide)⟩
  have sh : CShl x.2 300 := h.d.shl (by decide) (b := 300) (by decide) (by decide)
  refine (xs_seq (xs_par (xa_cons (xe_shl (xe_mul (xe_ixT (ds := [.int x.1, .int x.2]) (xe_var rfl) xe_int (by decide) rfl) (xe_ixT (ds := [.int x.1, .int x.2]) (xe_var rfl) xe_int (by decide) rfl) ?_) (xe_mul xe_int (xe_var rfl) ?_) ?_) (xa_cons (xe_ixT (ds := [.int x.1, .int x.2]) (xe_var rfl) xe_int (by decide) rfl) xa_nil)) (xs_seq (xs_asg (xe_call (xa_cons (xe_var rfl) xa_nil) (R_law_root_of.mk ?_)) (xs_seq (xs_asg (xe_ifC (xt_test (xe_eqI (xe_mul (xe_var rfl) (xe_var rfl) ?_) (xe_var rfl))) (fun h1 => (xe_call (xa_cons (xe_var rfl) (xa_cons (xe_shl (xe_var rfl) (xe_var rfl) ?_) xa_nil)) (R_law_low.mk ?_))) (fun h2 => xe_non)) (xs_ret (xe_tup (xa_cons (xe_var rfl) (xa_cons (xe_call (xa_cons (xe_var rfl) (xa_cons (xe_shl (xe_var rfl) (xe_var rfl) ?_) xa_nil)) (R_law_low.mk ?_)) (xa_cons (xe_call (xa_cons (xe_add (xe_var rfl) xe_int) (xa_cons (xe_shl (xe_var rfl) (xe_var rfl) ?_) xa_nil)) (R_law_low.mk ?_)) xa_nil))) (by show 3 ≤ 1000; decide)) ?_)))))))
  · exact h.n.mulx h.d (by decide)
  · exact mulx_ok (show (2 : Int).natAbs < 2 ^ 2 by decide) (show (300 : Int).natAbs < 2 ^ 9 by decide) (by decide)
  · exact b0.shl (b := 600) (by decide) (by decide) (by decide)
  · exact bN.mono (by decide)
  · exact bs.mulx bs (by decide)
  · exact sh
  · exact pre
  · exact sh
  · exact pre
  · exact sh
  · exact ⟨by show 0 ≤ isq (x.1 * x.2 * p2 (2 * 300)) + 1; omega, pre.2⟩
  · show PyData.tuple [if decide (isq (x.1 * x.2 * p2 (2 * 300)) * isq (x.1 * x.2 * p2 (2 * 300)) = x.1 * x.2 * p2 (2 * 300)) = true then numD (nearLow x 300) else .none, numD (nearLow x 300), _] = .tuple [exactD x 300, numD (nearLow x 300), _]
    unfold exactD
    by_cases q : isq (x.1 * x.2 * p2 (2 * 300)) * isq (x.1 * x.2 * p2 (2 * 300)) = x.1 * x.2 * p2 (2 * 300)
    · rw [if_pos q, if_pos (decide_eq_true q)]
      rfl
    · rw [if_neg q, if_neg (by rw [decide_eq_false q]; decide)]
      rfl
theorem sc_law_exact : FnScope ["_law_method", "_law_one", "_law_other", "_law_x", "_law_y"] ["_law_method", "_law_one", "_law_other"] (defScope s_law_exact) := ⟨rfl, rfl, rfl, by decide +kernel, rfl, by decide +kernel, by decide +kernel⟩
theorem cal_law_exact (T : Top w K mg) : Cal P w K mg base 1 "_law_exact" (spP K R_law_exact) [] := by
  obtain ⟨fd, F⟩ := T.f_law_exact
  refine cal_pure F T.g_law_exact (F.bindsN (ps := ["_law_method", "_law_one", "_law_other"]) fun _ _ _ _ _ _ us hl => match us, hl with | [_, _, _], _ => rfl) sc_law_exact (fun ds d r => by cases r; rfl) fun cdv A outer s H hr => ⟨_, (pss_cons (ps_if (pt_cmpR op_in_seq (pv 0) (pe_tup (pa_cons pe_str (pa_cons pe_str pa_nil))) (by rfl)) (pss_cons (ps_par (i := 3) (j := 4) rfl sc_law_exact.nd rfl rfl (by decide) rfl rfl (pa_cons (pe_op op_mulX (pe_ix ix_tup (pv 1) pe_int (fun _ _ => rfl)) (pe_ix ix_tup (pv 2) pe_int (fun _ _ => rfl))) (pa_cons (pe_op op_mulX (pe_ix ix_tup (pv 2) pe_int (fun _ _ => rfl)) (pe_ix ix_tup (pv 1) pe_int (fun _ _ => rfl))) pa_nil)) (by rfl))
      (pss_one (ps_ret (pe_tup (pa_cons (pe_ifExp (pt_cmpR op_eq (pv 0) pe_str (nomark _)) (pe_op op_add (pv 3) (pv 4)) (pe_callB call_abs (by rfl) T.b_abs (by decide +kernel) (pa_cons (pe_op op_sub (pv 3) (pv 4)) pa_nil))) (pa_cons (pe_op op_mulX (pe_ix ix_tup (pv 1) pe_int (fun _ _ => rfl)) (pe_ix ix_tup (pv 2) pe_int (fun _ _ => rfl))) pa_nil)))))) pss_nil)
      (pss_cons (ps_if (pt_cmpR op_eq (pv 0) pe_str (nomark _)) (pss_one (ps_ret (pe_tup (pa_cons (pe_op op_mulX (pe_ix ix_tup (pv 1) pe_int (fun _ _ => rfl)) (pe_ix ix_tup (pv 2) pe_int (fun _ _ => rfl))) (pa_cons (pe_op op_mulX (pe_ix ix_tup (pv 1) pe_int (fun _ _ => rfl)) (pe_ix ix_tup (pv 2) pe_int (fun _ _ => rfl))) pa_nil))))) pss_nil)
      (pss_one (ps_ret (pe_tup (pa_cons (pe_op op_mulX (pe_ix ix_tup (pv 1) pe_int (fun _ _ => rfl)) (pe_ix ix_tup (pv 2) pe_int (fun _ _ => rfl))) (pa_cons (pe_op op_mulX (pe_ix ix_tup (pv 1) pe_int (fun _ _ => rfl)) (pe_ix ix_tup (pv 2) pe_int (fun _ _ => rfl))) pa_nil))))))), fun ds d r => ?_⟩
  cases r
  rename_i m x y h
  obtain ⟨hx, hy⟩ := h
  have q1 : CMulX x.1 y.2 := hx.n.mulx hy.d (by decide)
  have q2 : CMulX y.1 x.2 := hy.n.mulx hx.d (by decide)
  have q3 : CMulX x.2 y.2 := hx.d.mulx hy.d (by decide)
  have q4 : CMulX x.1 y.1 := hx.n.mulx hy.n (by decide)
  have q5 : CMulX x.2 y.1 := hx.d.mulx hy.n (by decide)
  cases m
  all_goals refine (xs_seq (xs_if (xt_test (xe_inS (xs := ["add", "subtract"]) (xe_var rfl) (xe_tup (xa_cons xe_str (xa_cons xe_str xa_nil)) (by show 2 ≤ 1000; decide)))) (fun h1 => (xs_seq (xs_par (xa_cons (xe_mul (xe_ixT (ds := [.int _, .int _]) (xe_var rfl) xe_int (by decide) rfl) (xe_ixT (ds := [.int _, .int _]) (xe_var rfl) xe_int (by decide) rfl) ?_) (xa_cons (xe_mul (xe_ixT (ds := [.int _, .int _]) (xe_var rfl) xe_int (by decide) rfl) (xe_ixT (ds := [.int _, .int _]) (xe_var rfl) xe_int (by decide) rfl) ?_) xa_nil)) (xs_ret (xe_tup (xa_cons (xe_ifC (xt_test (xe_eqS (xe_var rfl) xe_str)) (fun h2 => (xe_add (xe_var rfl) (xe_var rfl))) (fun h3 => (xe_abs (xe_sub (xe_var rfl) (xe_var rfl))))) (xa_cons (xe_mul (xe_ixT (ds := [.int _, .int _]) (xe_var rfl) xe_int (by decide) rfl) (xe_ixT (ds := [.int _, .int _]) (xe_var rfl) xe_int (by decide) rfl) ?_) xa_nil)) (by show 2 ≤ 1000; decide)) ?_)))) (fun h4 => (xs_next (xs_seq (xs_if (xt_test (xe_eqS (xe_var rfl) xe_str)) (fun h5 => (xs_ret (xe_tup (xa_cons (xe_mul (xe_ixT (ds := [.int _, .int _]) (xe_var rfl) xe_int (by decide) rfl) (xe_ixT (ds := [.int _, .int _]) (xe_var rfl) xe_int (by decide) rfl) ?_) (xa_cons (xe_mul (xe_ixT (ds := [.int _, .int _]) (xe_var rfl) xe_int (by decide) rfl) (xe_ixT (ds := [.int _, .int _]) (xe_var rfl) xe_int (by decide) rfl) ?_) xa_nil)) (by show 2 ≤ 1000; decide)) ?_)) (fun h6 => (xs_next (xs_ret (xe_tup (xa_cons (xe_mul (xe_ixT (ds := [.int _, .int _]) (xe_var rfl) xe_int (by decide) rfl) (xe_ixT (ds := [.int _, .int _]) (xe_var rfl) xe_int (by decide) rfl) ?_) (xa_cons (xe_mul (xe_ixT (ds := [.int _, .int _]) (xe_var rfl) xe_int (by decide) rfl) (xe_ixT (ds := [.int _, .int _]) (xe_var rfl) xe_int (by decide) rfl) ?_) xa_nil)) (by show 2 ≤ 1000; decide)) ?_)))))))))
  all_goals first
    | (exfalso; revert h1; decide +kernel)
    | (exfalso; revert h2; decide +kernel)
    | (exfalso; revert h3; decide +kernel)
    | (exfalso; revert h4; decide +kernel)
    | (exfalso; revert h5; decide +kernel)
    | (exfalso; revert h6; decide +kernel)
    | exact q1
    | exact q2
    | exact q3
    | exact q4
    | exact q5
    | (show PyData.tuple [if decide (ms .add = ("add" : Str)) = true then .int (x.1 * y.2 + y.1 * x.2) else _, .int (x.2 * y.2)] = numD (exactM .add x y); rw [if_pos (by decide +kernel)]; rfl)
    | (show PyData.tuple [if decide (ms .subtract = ("add" : Str)) = true then _ else .int (absI (x.1 * y.2 - y.1 * x.2)), .int (x.2 * y.2)] = numD (exactM .subtract x y); rw [if_neg (by decide +kernel)]; rfl)
    | rfl
theorem sc_law_root_by : FnScope ["_law_number", "_law_plan", "_law_exact_here", "_law_low_here", "_law_high"] ["_law_number", "_law_plan"] (defScope s_law_root_by) := ⟨rfl, rfl, rfl, by decide +kernel, rfl, by decide +kernel, by decide +kernel⟩
theorem cal_law_root_by (T : Top w K mg) : Cal P w K mg base 6 "_law_root_by" (spP K R_law_root_by) [] := by
  obtain ⟨fd, F⟩ := T.f_law_root_by
  refine cal_pure F T.g_law_root_by (F.bindsN (ps := ["_law_number", "_law_plan"]) fun _ _ _ _ _ _ us hl => match us, hl with | [_, _], _ => rfl) sc_law_root_by (fun ds d r => by cases r; rfl) fun cdv A outer s H hr => ⟨_, (pss_cons (ps_asg (pe_c (cal_law_near T) hr (by decide) rfl (pa_cons (pv 0) (pa_cons pe_int pa_nil))) (pg_tup (n := 3) rfl (pgs_cons (pg_name (i := 2) sc_law_root_by.nd rfl (Or.inl rfl)) (pgs_cons (pg_name (i := 3) sc_law_root_by.nd rfl (Or.inl rfl)) (pgs_cons (pg_name (i := 4) sc_law_root_by.nd rfl (Or.inl rfl)) pgs_nil)))))
      (pss_one (ps_ret (pe_c (cal_law_applied T) hr (by decide) rfl (pa_cons (pe_ifExp (pt_cmpR op_isN (pv 2) pe_non (nomark _)) (pv 3) (pv 2)) (pa_cons (pv 1) pa_nil)))))), fun ds d r => ?_⟩
  cases r
  rename_i x c h
  have hlow : Nm 2200 (nearLow x 300) := by
    have b0 : Bd 2200 (x.1 * x.2) := h.1.n.mul h.1.d
    have pos : 0 < x.1 * x.2 := Int.mul_pos h.1.n0 h.1.d0
    have bN : Bd 2800 (x.1 * x.2 * p2 (2 * 300)) := b0.shlv (b := 600) (by decide)
    have bd : Bd 1400 (x.2 * p2 300) := h.1.d.shlv (b := 300) (by decide)
    have np : 0 < x.1 * x.2 * p2 (2 * 300) := Int.mul_pos pos (pw_pos _)
    have sl := isq_le bN.nn
    have su := isq_lt bN.nn
    have s0 := isq_nn (x.1 * x.2 * p2 (2 * 300))
    have sp : 0 < isq (x.1 * x.2 * p2 (2 * 300)) := by
      rcases Int.lt_or_le 0 (isq (x.1 * x.2 * p2 (2 * 300))) with z | z
      · exact z
      · have e : isq (x.1 * x.2 * p2 (2 * 300)) = 0 := by omega
        rw [e] at su
        omega
    have bq : Bd 2200 (isq (x.1 * x.2 * p2 (2 * 300))) := by
      have bp : Bd 2200 (p2 2199) := Bd.p2 (e := 2199) (b := 2199) (by decide)
      refine bp.le s0 (Int.le_of_lt (isq_leq bN.nn (Int.le_of_lt (pw_pos _)) ?_))
      have e : p2 2199 * p2 2199 = p2 4398 := by rw [← pw_add (by decide) (by decide)]; rfl
      rw [e]
      have l1 : x.1 * x.2 * p2 (2 * 300) < p2 2800 := by
        have := bN.lt
        have nn := bN.nn
        show _ < (2 : Int) ^ (2800 : Int).toNat
        have e2 : ((2 ^ 2800 : Nat) : Int) = (2 : Int) ^ (2800 : Int).toNat := by
          rw [Int.natCast_pow]
          rfl
        rw [← e2]
        omega
      exact Int.lt_of_lt_of_le l1 (pw_mono (by decide))
    exact low_nm sp (Int.mul_pos h.1.d0 (pw_pos _)) bq (bd.mono (by decide))
  have hd : exactD x 300 = numD (nearLow x 300) ∨ exactD x 300 = .none := by
    unfold exactD
    split
    · exact .inl rfl
    · exact .inr rfl
  have hN := R_law_near.mk h.1
  generalize exactD x 300 = o at *
  rcases hd with rfl | rfl
  · exact xs_seq (xs_asgG (xe_call (xa_cons (xe_var rfl) (xa_cons xe_int xa_nil)) hN) (xg_tup (xgs_cons xg_name (xgs_cons xg_name (xgs_cons xg_name xgs_nil))) rfl) (xs_ret (xe_call (xa_cons (xe_if (d := numD (nearLow x 300)) (xt_test (xe_isNn (d := numD (nearLow x 300)) (xe_var rfl) (by intro z; cases z))) (fun z => nomatch z) (fun _ => (xe_var rfl))) (xa_cons (xe_var rfl) xa_nil)) (R_law_applied.mk ⟨h.2, hlow⟩)) rfl))
  · exact xs_seq (xs_asgG (xe_call (xa_cons (xe_var rfl) (xa_cons xe_int xa_nil)) hN) (xg_tup (xgs_cons xg_name (xgs_cons xg_name (xgs_cons xg_name xgs_nil))) rfl) (xs_ret (xe_call (xa_cons (xe_if (d := numD (nearLow x 300)) (xt_test (xe_isNy (xe_var rfl))) (fun _ => (xe_var rfl)) (fun z => nomatch z)) (xa_cons (xe_var rfl) xa_nil)) (R_law_applied.mk ⟨h.2, hlow⟩)) rfl))
end
end SR
end
section
set_option Elab.async false
set_option linter.all false
set_option maxRecDepth 100000
set_option maxHeartbeats 1000000
/-! The law's draws. -/
namespace SR
open PySem PySem.Spec PyProof.Rows L2
open Evl (Ex)
open C8 (Cal Met Mak pe_c pe_mt pe_mt0 pe_mk pe_gc)
/-- the source list: after at most n draws -/
def SrcAt (H : Hp) (a : Addr) (n : Nat) : Prop := ∃ x y z : Int, H a = some (.lst [.int x, .int y, .int z]) ∧ Bd 800 x ∧ Bd 62 y ∧ 0 ≤ z ∧ z ≤ n
theorem SrcAt.ex {H H' : Hp} {a : Addr} {n : Nat} (h : SrcAt H a n) (e : Ex H H') : SrcAt H' a n := by
  obtain ⟨x, y, z, h1, h2⟩ := h
  exact ⟨x, y, z, e _ _ h1, h2⟩
theorem SrcAt.mono {H : Hp} {a : Addr} {n m : Nat} (h : SrcAt H a n) (e : n ≤ m) : SrcAt H a m := by
  obtain ⟨x, y, z, h1, h2, h3, h4, h5⟩ := h
  exact ⟨x, y, z, h1, h2, h3, h4, by omega⟩
def spDraw : Sp := fun vs H Q _ => ∃ (a : Addr) (n : Nat) (size : Int), vs = [.ref a, .int size] ∧ SrcAt H a n ∧ 1 ≤ size ∧ size ≤ 1000 ∧ n ≤ 100000 ∧ ∀ r H', 0 ≤ r → r < size → Exs [a] H H' → SrcAt H' a (n + 1) → Q (.int r) H'
def spPick : Sp := fun vs H Q _ => ∃ (a l : Addr) (n : Nat) (ys : List Str), vs = [.ref a, .ref l] ∧ SrcAt H a n ∧ H l = some (.lst (ys.map V.str)) ∧ a ≠ l ∧ 1 ≤ ys.length ∧ ys.length ≤ 100 ∧ n ≤ 100000 ∧ ∀ y H', y ∈ ys → Exs [a] H H' → SrcAt H' a (n + 1) → Q (.str y) H'
def spRule : Sp := fun vs H Q _ => ∃ (a : Addr) (n : Nat), vs = [.ref a] ∧ SrcAt H a n ∧ n ≤ 100000 ∧ ∀ (r : Rule) H', Exs [a] H H' → SrcAt H' a (n + 1) → Q (.str (rs r)) H'
def spExNum (K : PySem.W.Frag) : Sp := fun vs H Q _ => ∃ (a : Addr) (n : Nat) (w : Int), vs = [.ref a, .int w] ∧ SrcAt H a n ∧ n ≤ 90000 ∧ 1 ≤ w ∧ w ≤ 5 ∧ ∀ k e v H', p2 (w - 1) ≤ k → k < p2 w → -6 ≤ e → e ≤ 6 → Exs [a] H H' → SrcAt H' a (n + 2) → Dp K H' v (numD (powN k e)) → Q v H'
section
variable {K : PySem.W.Frag} {t u ta tb te : TE} {d d1 d2 : PyData} {ds es : List PyData} {t1 t2 : TS} {i j : Nat} {D : Ends} {σ : L2.St} {H : Hp} {v : V}
theorem vs_setL {l : Addr} {xs : List V} {k : Int} {j : Nat} (hv : VE K te σ H d) (ho : σ[i]? = some (some (.ref l))) (hl : H l = some (.lst xs)) (hj : ixN xs.length k = some j) (kk : ∀ v H', Ex H H' → Dp K H' v d → D.nx σ (upd H' l (.lst (xs.set j v)))) :
    tAsg te (gSub (tVar i) (tC (.int k)) rSetL) D σ H := hv H (Evl.Ex.refl H) _ fun v H1 e1 hd => ⟨.ref l, ho, l, xs, k, j, rfl, rfl, e1 _ _ hl, hj, kk v H1 e1 hd⟩
theorem dps_i3 {x y z : Int} : DpAll K H [.int x, .int y, .int z] [.int x, .int y, .int z] := .cons (.int x) (.cons (.int y) (.cons (.int z) .nil))
end
theorem emod_bd {m n : Int} (h : 0 < n) (hn : n < 2 ^ 61) : Bd 62 (m % n) := by
  have h1 := Int.emod_nonneg m (show n ≠ 0 by omega)
  have h2 := Int.emod_lt_of_pos m h
  exact ⟨h1, by omega⟩
section
variable {P : Program} {w : World} {K : PySem.W.Frag} {mg : Str → Option Value} {base : Heap}
theorem sc_law_draw : FnScope ["_law_source_here", "_law_size", "_law_digit", "_law_turn", "_law_mixed"] ["_law_source_here", "_law_size"] (defScope s_law_draw) := ⟨rfl, rfl, rfl, by decide +kernel, rfl, by decide +kernel, by decide +kernel⟩
theorem cal_law_draw (T : Top w K mg) : Cal P w K mg base 1 "_law_draw" spDraw [] := by
  obtain ⟨fd, F⟩ := T.f_law_draw
  refine ⟨_, fd, ["_law_source_here", "_law_size"], [], F.ok sc_law_draw (fun vs H Q E h => ?_) (fun cdv A outer s H vs Q E hr h => ⟨_, PSs.nox (pss_cons (ps_if (pt_cmpR op_gt (pe_ix ix_list (pv 0) pe_int (fun _ _ => rfl)) pe_int (nomark _)) (pss_cons (ps_set (i := 2) sc_law_draw.nd rfl (Or.inl rfl) (pe_op op_mod (pe_ix ix_list (pv 0) pe_int (fun _ _ => rfl)) (pv 1)))
      (pss_cons (ps_asg (pe_op op_fdivW (pe_ix ix_list (pv 0) pe_int (fun _ _ => rfl)) (pv 1)) (pg_sub (pv 0) pe_int set_list))
      (pss_one (ps_ret (pv 2))))) pss_nil)
      (pss_cons (ps_asg (pe_op op_add (pe_ix ix_list (pv 0) pe_int (fun _ _ => rfl)) pe_int) (pg_sub (pv 0) pe_int set_list))
      (pss_cons (ps_set (i := 3) sc_law_draw.nd rfl (Or.inl rfl) (pe_ix ix_list (pv 0) pe_int (fun _ _ => rfl)))
      (pss_cons (ps_set (i := 4) sc_law_draw.nd rfl (Or.inl rfl) (pe_op op_mod (pe_op op_mulX (pe_op op_add (pe_op op_add (pe_ix ix_list (pv 0) pe_int (fun _ _ => rfl)) (pe_op op_mulX (pe_op op_mulX pe_int (pv 3)) (pv 3))) pe_int) pe_int) pe_int))
      (pss_cons (ps_set (i := 4) sc_law_draw.nd rfl (Or.inl rfl) (pe_op op_mod (pe_op op_mulX (pv 4) (pe_op op_add (pe_op op_mod (pv 4) pe_int) (pe_op op_mulX pe_int (pv 3)))) pe_int))
      (pss_one (ps_ret (pe_op op_mod (pe_op op_add (pe_op op_fdivW (pv 4) pe_int) (pe_op op_fdivW (pv 4) pe_int)) (pv 1))))))))), ?_⟩), T.g_law_draw, F.kp, F.bindsN (ps := ["_law_source_here", "_law_size"]) fun _ _ _ _ _ _ us hl => match us, hl with | [_, _], _ => rfl, .nil⟩
  · obtain ⟨a, n, size, rfl, _⟩ := h
    rfl
  obtain ⟨a, n, size, rfl, ⟨x, y, z, ha, bx, by_, z0, zn⟩, s1, s2, hn, q⟩ := h
  have E0 : EnvR K H (start ["_law_source_here", "_law_size", "_law_digit", "_law_turn", "_law_mixed"] [.ref a, .int size]) [some (.list [.int x, .int y, .int z]), some (.int size), none, none, none] :=
    envr_c (.lst (SqL.of ha) dps_i3) (envr_c (.int _) (envr_x (envr_x (envr_x envr_nil))))
  have ds : CDivW x size := ⟨by omega, by
    have : size.natAbs < 2 ^ 10 := by omega
    have h0 : size.natAbs ≠ 0 := by omega
    exact Nat.lt_of_lt_of_le ((Nat.log2_lt h0).mpr this) (by decide)⟩
  refine vs_if (vt_x (xt_test (xe_gt (xe_ixL (ds := [.int x, .int y, .int z]) (xe_var rfl) xe_int (by decide) rfl) xe_int)) E0) (fun hb H1 e1 => ?_) (fun hb H1 e1 => ?_)
  · have E1 := E0.ex e1
    refine vs_asg (ve_x (xe_mod (xe_ixL (ds := [.int x, .int y, .int z]) (xe_var rfl) xe_int (by decide) rfl) (xe_var rfl) (by omega)) E1) fun v H2 e2 d2 => ?_
    cases dp_int d2
    have E2 := (E1.ex e2).set (i := 2) (.int (x % size))
    refine vs_setL (K := K) (j := 0) (ve_x (xe_fdiv (xe_ixL (ds := [.int x, .int y, .int z]) (xe_var rfl) xe_int (by decide) rfl) (xe_var rfl) ds) E2) rfl (e2 _ _ (e1 _ _ ha)) rfl fun v H3 e3 d3 => ?_
    cases dp_int d3
    refine vs_ret (K := K) (ve_varI rfl) fun v H4 e4 d4 => ?_
    cases dp_int d4
    refine q _ _ (Int.emod_nonneg x (by omega)) (Int.emod_lt_of_pos x (by omega)) ?_ ?_
    · exact ((Exs.of ((e1.trans e2).trans e3)).upd (by simp)).ex e4
    · exact ⟨x / size, y, z, e4 _ _ upd_same, bx.ediv (by omega), by_, z0, by omega⟩
  · have E1 := E0.ex e1
    refine vs_setL (K := K) (j := 2) (ve_x (xe_add (xe_ixL (ds := [.int x, .int y, .int z]) (xe_var rfl) xe_int (by decide) rfl) xe_int) E1) rfl (e1 _ _ ha) rfl fun v H2 e2 d2 => ?_
    cases dp_int d2
    have x2 : Exs [a] H (upd H2 a (.lst [.int x, .int y, .int (z + 1)])) := (Exs.of (e1.trans e2)).upd (by simp)
    have E2 : EnvR K (upd H2 a (.lst [.int x, .int y, .int (z + 1)])) (start ["_law_source_here", "_law_size", "_law_digit", "_law_turn", "_law_mixed"] [.ref a, .int size]) [some (.list [.int x, .int y, .int (z + 1)]), some (.int size), none, none, none] :=
      envr_c (.lst (SqL.of upd_same) dps_i3) (envr_c (.int _) (envr_x (envr_x (envr_x envr_nil))))
    refine vs_asg (ve_x (xe_ixL (n := 2) (ds := [.int x, .int y, .int (z + 1)]) (xe_var rfl) xe_int (by decide) rfl) E2) fun v H3 e3 d3 => ?_
    cases dp_int d3
    have E3 := (E2.ex e3).set (i := 3) (.int (z + 1))
    have bt : Bd 17 (z + 1) := ⟨by omega, by omega⟩
    have b1 : Bd 17 (65537 : Int) := ⟨by decide, by decide⟩
    have b2 : Bd 34 (65537 * (z + 1)) := b1.mul bt
    have b3 : Bd 51 (65537 * (z + 1) * (z + 1)) := b2.mul bt
    have b4 : Bd 63 (y + 65537 * (z + 1) * (z + 1)) := by_.add (b3.mono (by decide))
    have b5 : Bd 64 (y + 65537 * (z + 1) * (z + 1) + 11) := b4.add ⟨by decide, by decide⟩
    have b6 : Bd 17 (48271 : Int) := ⟨by decide, by decide⟩
    refine vs_asg (ve_x (xe_mod (xe_mul (xe_add (xe_add (xe_ixL (n := 1) (ds := [.int x, .int y, .int (z + 1)]) (xe_var rfl) xe_int (by decide) rfl) (xe_mul (xe_mul xe_int (xe_var rfl) (b1.mulx bt (by decide))) (xe_var rfl) (b2.mulx bt (by decide)))) xe_int) xe_int (b5.mulx b6 (by decide))) xe_int (by decide)) E3) fun v H4 e4 d4 => ?_
    cases dp_int d4
    have bm : Bd 62 ((y + 65537 * (z + 1) * (z + 1) + 11) * 48271 % 2305843009213693921) := emod_bd (by decide) (by decide)
    have E4 := (E3.ex e4).set (i := 4) (.int ((y + 65537 * (z + 1) * (z + 1) + 11) * 48271 % 2305843009213693921))
    generalize (y + 65537 * (z + 1) * (z + 1) + 11) * 48271 % 2305843009213693921 = m at *
    have c1 : Bd 17 (99991 : Int) := ⟨by decide, by decide⟩
    have c2 : Bd 62 (m % 1000003) := emod_bd (by decide) (by decide)
    have c3 : Bd 62 (99991 * (z + 1)) := (c1.mul bt).mono (by decide)
    refine vs_asg (ve_x (xe_mod (xe_mul (xe_var rfl) (xe_add (xe_mod (xe_var rfl) xe_int (by decide)) (xe_mul xe_int (xe_var rfl) (c1.mulx bt (by decide)))) (bm.mulx (c2.add c3) (by decide))) xe_int (by decide)) E4) fun v H5 e5 d5 => ?_
    cases dp_int d5
    have E5 := (E4.ex e5).set (i := 4) (.int (m * (m % 1000003 + 99991 * (z + 1)) % 2305843009213693907))
    generalize m * (m % 1000003 + 99991 * (z + 1)) % 2305843009213693907 = m2 at *
    have c4 : Bd 7 (97 : Int) := ⟨by decide, by decide⟩
    have c5 : Bd 20 (1000033 : Int) := ⟨by decide, by decide⟩
    refine vs_ret (ve_x (xe_mod (xe_add (xe_fdiv (xe_var rfl) xe_int (c4.div (by decide) (by decide))) (xe_fdiv (xe_var rfl) xe_int (c5.div (by decide) (by decide)))) (xe_var rfl) (by omega)) E5) fun v H6 e6 d6 => ?_
    cases dp_int d6
    have e36 := ((e3.trans e4).trans e5).trans e6
    exact q _ _ (Int.emod_nonneg _ (by omega)) (Int.emod_lt_of_pos _ (by omega)) (x2.ex e36) ⟨x, y, z + 1, e36 _ _ upd_same, bx, by_, by omega, by omega⟩
theorem sc_law_pick : FnScope ["_law_source_here", "_law_some"] ["_law_source_here", "_law_some"] (defScope s_law_pick) := ⟨rfl, rfl, rfl, by decide +kernel, rfl, by decide +kernel, by decide +kernel⟩
theorem cal_law_pick (T : Top w K mg) : Cal P w K mg base 2 "_law_pick" spPick [] := by
  obtain ⟨fd, F⟩ := T.f_law_pick
  refine ⟨_, fd, ["_law_source_here", "_law_some"], [], F.ok sc_law_pick (fun vs H Q E h => ?_) (fun cdv A outer s H vs Q E hr h => ⟨_, PSs.nox (pss_one (ps_ret (pe_ix ix_list (pv 1) (pe_c (cal_law_draw T) hr (by decide) rfl (pa_cons (pv 0) (pa_cons (pe_callB call_len_seq (by rfl) T.b_len (by decide +kernel) (pa_cons (pv 1) pa_nil)) pa_nil))) (fun _ _ => rfl)))), ?_⟩), T.g_law_pick, F.kp, F.bindsN (ps := ["_law_source_here", "_law_some"]) fun _ _ _ _ _ _ us hl => match us, hl with | [_, _], _ => rfl, .nil⟩
  · obtain ⟨a, l, n, ys, rfl, _⟩ := h
    rfl
  obtain ⟨a, l, n, ys, rfl, ha, hl, hal, y1, y2, hn, q⟩ := h
  refine ⟨.ref l, rfl, .ref a, rfl, .ref l, rfl, l, _, rfl, .inl (SqL.of hl), ?_⟩
  refine ⟨a, n, _, rfl, ha, ?_, ?_, hn, fun r H' r0 r1 x1 s1 => ?_⟩
  · rw [List.length_map]; omega
  · rw [List.length_map]; omega
  · rw [List.length_map] at r1
    have hl' := x1 l _ (by simpa using hal.symm) hl
    have hr : r.toNat < ys.length := by omega
    refine ⟨l, _, r, .str ys[r.toNat], rfl, rfl, SqL.of hl', at_of (j := r.toNat) (by omega) ?_, ?_⟩
    · rw [List.getElem?_map, List.getElem?_eq_getElem hr]
      rfl
    · exact q _ _ (List.getElem_mem hr) x1 s1
def ruleNames : List Str := ["down", "half_down", "half_even", "half_up", "odd", "up"]
theorem rule_of {y : Str} (h : y ∈ ruleNames) : ∃ r : Rule, y = rs r := by
  unfold ruleNames at h
  simp only [List.mem_cons, List.not_mem_nil, or_false] at h
  rcases h with rfl | rfl | rfl | rfl | rfl | rfl
  · exact ⟨.down, rfl⟩
  · exact ⟨.halfDown, rfl⟩
  · exact ⟨.halfEven, rfl⟩
  · exact ⟨.halfUp, rfl⟩
  · exact ⟨.odd, rfl⟩
  · exact ⟨.up, rfl⟩
theorem sc_law_rule : FnScope ["_law_source_here"] ["_law_source_here"] (defScope s_law_rule) := ⟨rfl, rfl, rfl, by decide +kernel, rfl, by decide +kernel, by decide +kernel⟩
theorem cal_law_rule (T : Top w K mg) : Cal P w K mg base 3 "_law_rule" spRule [] := by
  obtain ⟨fd, F⟩ := T.f_law_rule
  refine ⟨_, fd, ["_law_source_here"], [], F.ok sc_law_rule (fun vs H Q E h => ?_) (fun cdv A outer s H vs Q E hr h => ⟨_, PSs.nox (pss_one (ps_ret (pe_c (cal_law_pick T) hr (by decide) rfl (pa_cons (pv 0) (pa_cons (pe_lst (pa_cons pe_str (pa_cons pe_str (pa_cons pe_str (pa_cons pe_str (pa_cons pe_str (pa_cons pe_str pa_nil))))))) pa_nil))))), ?_⟩), T.g_law_rule, F.kp, F.bindsN (ps := ["_law_source_here"]) fun _ _ _ _ _ _ us hl => match us, hl with | [_], _ => rfl, .nil⟩
  · obtain ⟨a, n, rfl, _⟩ := h
    rfl
  obtain ⟨a, n, rfl, ha, hn, q⟩ := h
  refine ⟨.ref a, rfl, by show 6 ≤ sizeLine; decide, fun p hp => ?_⟩
  have ha' := ha.ex (Evl.Ex.new (o := .lst (ruleNames.map V.str)) hp)
  have hap : a ≠ p := fun z => by
    obtain ⟨x, y, z', h, _⟩ := ha
    rw [z, hp] at h
    cases h
  refine ⟨a, p, n, ruleNames, rfl, ha', upd_same, hap, by decide, by decide, hn, fun y H' hy x1 s1 => ?_⟩
  obtain ⟨r, rfl⟩ := rule_of hy
  exact q r H' (fun b o hb hh => x1 b o hb (Evl.Ex.new hp b o hh)) s1
theorem sc_law_exact_number : FnScope ["_law_source_here", "_law_width", "_law_k"] ["_law_source_here", "_law_width"] (defScope s_law_exact_number) := ⟨rfl, rfl, rfl, by decide +kernel, rfl, by decide +kernel, by decide +kernel⟩
theorem cal_law_exact_number (T : Top w K mg) : Cal P w K mg base 4 "_law_exact_number" (spExNum K) [] := by
  obtain ⟨fd, F⟩ := T.f_law_exact_number
  refine ⟨_, fd, ["_law_source_here", "_law_width"], [], F.ok sc_law_exact_number (fun vs H Q E h => ?_) (fun cdv A outer s H vs Q E hr h => ⟨_, PSs.nox (pss_cons (ps_set (i := 2) sc_law_exact_number.nd rfl (Or.inl rfl) (pe_op op_add (pe_op op_shlW pe_int (pe_op op_sub (pv 1) pe_int)) (pe_c (cal_law_draw T) hr (by decide) rfl (pa_cons (pv 0) (pa_cons (pe_op op_shlW pe_int (pe_op op_sub (pv 1) pe_int)) pa_nil)))))
      (pss_one (ps_ret (pe_c (cal_law_end T) hr (by decide) rfl (pa_cons (pv 2) (pa_cons (pe_op op_sub (pe_c (cal_law_draw T) hr (by decide) rfl (pa_cons (pv 0) (pa_cons pe_int pa_nil))) pe_int) pa_nil)))))), ?_⟩), T.g_law_exact_number, F.kp, F.bindsN (ps := ["_law_source_here", "_law_width"]) fun _ _ _ _ _ _ us hl => match us, hl with | [_, _], _ => rfl, .nil⟩
  · obtain ⟨a, n, w, rfl, _⟩ := h
    rfl
  obtain ⟨a, n, w, rfl, ha, hn, hw1, hw2, q⟩ := h
  have sh : CShl 1 (w - 1) := Bd.one.shl (by omega) (b := 10) (by omega) (by decide)
  have hp : p2 (w - 1) ≤ 16 := pw_mono (a := w - 1) (b := 4) (by omega)
  have hp0 := pw_pos (w - 1)
  have hpd : p2 w = 2 * p2 (w - 1) := by rw [← pw_succ (by omega)]; congr 1; omega
  have E0 : EnvR K H (start ["_law_source_here", "_law_width", "_law_k"] [.ref a, .int w]) [none, some (.int w), none] := envr_x (envr_c (.int _) (envr_x envr_nil))
  refine ve_x (K := K) (xe_shl xe_int (xe_sub (xe_var rfl) xe_int) sh) E0 H (Evl.Ex.refl H) _ fun v H1 e1 d1 => ?_
  cases dp_int d1
  refine ⟨.ref a, rfl, ve_x (K := K) (xe_shl xe_int (xe_sub (xe_var rfl) xe_int) sh) (E0.ex e1) H1 (Evl.Ex.refl H1) _ fun v H2 e2 d2 => ?_⟩
  cases dp_int d2
  have e02 := e1.trans e2
  refine ⟨a, n, _, rfl, ha.ex e02, ?_, ?_, by omega, fun r H3 r0 r1 x3 s3 => ?_⟩
  · show 1 ≤ 1 * p2 (w - 1)
    omega
  · show 1 * p2 (w - 1) ≤ 1000
    omega
  · have r1' : r < 1 * p2 (w - 1) := r1
    refine ⟨_, _, rfl, rfl, ?_⟩
    refine ⟨.int (1 * p2 (w - 1) + r), rfl, .ref a, rfl, ?_⟩
    refine ⟨a, n + 1, 13, rfl, s3, by decide, by decide, by omega, fun r2 H4 t0 t1 x4 s4 => ?_⟩
    refine ⟨r2, 6, rfl, rfl, ?_⟩
    refine ⟨[.int (1 * p2 (w - 1) + r), .int (r2 - 6)], _, .cons (.int _) (.cons (.int _) .nil), R_law_end.mk ⟨?_, by omega, by omega⟩, fun v H5 e5 d5 => ?_⟩
    · exact ⟨by omega, by
        have : (1 * p2 (w - 1) + r).natAbs < 2 ^ 6 := by omega
        exact Nat.lt_of_lt_of_le this (Nat.pow_le_pow_right (by decide) (by decide))⟩
    · exact q _ _ v H5 (by omega) (by omega) (by omega) (by omega) ((((Exs.of e02).trans x3).trans x4).ex e5) (s4.ex e5) d5
end
end SR
end
section
set_option Elab.async false
set_option linter.all false
set_option maxRecDepth 100000
set_option maxHeartbeats 1000000
/-! The law's source and calls. -/
namespace SR
open PySem PySem.Spec PyProof.Rows L2
open Evl (Ex)
open C8 (Cal Met Mak pe_c pe_mt pe_mt0 pe_mk pe_gc)
inductive CallI where
  | load (t : Str) (x : Num)
  | root (t a : Str)
  | bin (m : Meth2) (t a b : Str)
def callD : CallI → PyData
  | .load t x => loadD t x
  | .root t a => rootD t a
  | .bin m t a b => binD m t a b
def NameT (t : Str) : Prop := t = "a" ∨ t = "b" ∨ t = "c" ∨ t = "longname"
def CallOk (h : List Reg) (w : Int) : CallI → Prop
  | .load t x => NameT t ∧ ∃ k e, p2 (w - 1) ≤ k ∧ k < p2 w ∧ -6 ≤ e ∧ e ≤ 6 ∧ x = powN k e
  | .root t a => NameT t ∧ a ∈ keysR h
  | .bin m t a b => NameT t ∧ a ∈ keysR h ∧ b ∈ keysR h
def spSource (K : PySem.W.Frag) : Sp := fun vs H Q _ => ∃ (l : Addr) (ns : List Int) (k : Int), vs = [.ref l, .int k] ∧ SqL K H l (ns.map V.int) ∧ 0 ≤ k ∧ k ≤ 1 ∧ ∀ a H', H a = none → Ex H H' → SrcAt H' a 0 → Q (.ref a) H'
def spCallL (K : PySem.W.Frag) : Sp := fun vs H Q _ => ∃ (a hl : Addr) (n : Nat) (h : List Reg) (w : Int), vs = [.ref a, .ref hl, .int w] ∧ SrcAt H a n ∧ n ≤ 80000 ∧ HeldAt K H hl h ∧ h.length ≤ 50 ∧ 1 ≤ w ∧ w ≤ 5 ∧
  ∀ c v H', CallOk h w c → Exs [a] H H' → SrcAt H' a (n + 6) → Dp K H' v (callD c) → Q v H'
theorem dps_ofInts {K : PySem.W.Frag} {H : Hp} : ∀ ys : List Int, DpAll K H (ys.map V.int) (ys.map PyData.int)
  | [] => .nil
  | y :: ys => .cons (.int y) (dps_ofInts ys)
section
variable {K : PySem.W.Frag} {ρ : Rho} {ta tb : TE}
theorem xe_powB {a b : Int} (ha : XE K ta ρ (.int a)) (hb : XE K tb ρ (.int b)) (hc : CPowB a b) : XE K (tOp (rI CPowB fun i j => .int (i ^ j.toNat)) ta tb) ρ (.int (a ^ b.toNat)) := xe_opI (C := CPowB) (g := fun i j => i ^ j.toNat) ha hb hc
end
theorem vs_retLst {K : PySem.W.Frag} {tr : TA} {ds : List PyData} {D : Ends} {σ : L2.St} {H : Hp} (h : VA K tr σ H ds) (hl : ds.length ≤ 1000) (k : ∀ vs p H1, Ex H H1 → DpAll K H1 vs ds → H1 p = none → D.rt (.ref p) (upd H1 p (.lst vs))) : tRet (tLst tr) D σ H :=
  h H (Evl.Ex.refl H) _ fun vs H1 e1 hvs => ⟨Nat.le_trans (by rw [dps_len hvs]; exact hl) (by decide), fun p hp => k vs p H1 e1 hvs hp⟩
def big : Int := (10 ^ (60 : Int).toNat) ^ (4 : Int).toNat
theorem big_pos : 0 < big := by unfold big; decide +kernel
theorem big_le : big ≤ ((2 ^ 800 : Nat) : Int) := by unfold big; decide +kernel
theorem big_bd (m : Int) : Bd 800 (m % big) := by
  have h1 := Int.emod_nonneg m (Int.ne_of_gt big_pos)
  have h2 := Int.emod_lt_of_pos m big_pos
  have h3 := big_le
  generalize m % big = r at *
  generalize big = M at *
  refine ⟨h1, ?_⟩
  generalize (2 : Nat) ^ 800 = T at *
  omega
theorem pB1 : CPowB 10 18 := ⟨by decide, by decide⟩
theorem pB2 : CPowB 10 60 := ⟨by decide, by decide⟩
theorem pB3 : CPowB (10 ^ (60 : Int).toNat) 4 := ⟨by decide, by decide +kernel⟩
def digs (g : Int) : Int := if decide ((10 : Int) ^ (18 : Int).toNat ≤ absI g) = true then absI g % big else 0
theorem digs_bd (g : Int) : Bd 800 (digs g) := by
  unfold digs
  by_cases h : decide ((10 : Int) ^ (18 : Int).toNat ≤ absI g) = true
  · rw [if_pos h]
    exact big_bd _
  · rw [if_neg h]
    exact Bd.zero.mono (by decide)
theorem names_keys {K : PySem.W.Frag} {H : Hp} {kvs : List (Key × V)} {h : List Reg} (r : HeldR K H kvs h) : kvs.map (·.1) = (keysR h).map Sum.inr := by
  rw [r.ks]
  unfold keysR
  rw [List.map_map]
  rfl
section
variable {P : Program} {w : World} {K : PySem.W.Frag} {mg : Str → Option Value} {base : Heap}
theorem sc_law_source : FnScope ["_law_script", "_law_k", "_law_given", "_law_digits"] ["_law_script", "_law_k"] (defScope s_law_source) := ⟨rfl, rfl, rfl, by decide +kernel, rfl, by decide +kernel, by decide +kernel⟩
theorem cal_law_source (T : Top w K mg) : Cal P w K mg base 1 "_law_source" (spSource K) [] := by
  obtain ⟨fd, F⟩ := T.f_law_source
  refine ⟨_, fd, ["_law_script", "_law_k"], [], F.ok sc_law_source (fun vs H Q E h => ?_) (fun cdv A outer s H vs Q E hr h => ⟨_, PSs.nox (pss_cons (ps_set (i := 2) sc_law_source.nd rfl (Or.inl rfl) (pe_ifExp (pt_cmpR op_lt (pv 1) (pe_callB call_len_seq (by rfl) T.b_len (by decide +kernel) (pa_cons (pv 0) pa_nil)) (nomark _)) (pe_ix ix_list (pv 0) (pv 1) (fun _ _ => rfl)) pe_int))
      (pss_cons (ps_set (i := 3) sc_law_source.nd rfl (Or.inl rfl) (pe_ifExp (pt_cmpR op_ge (pe_callB call_abs (by rfl) T.b_abs (by decide +kernel) (pa_cons (pv 2) pa_nil)) (pe_op op_powB pe_int pe_int) (nomark _)) (pe_op op_mod (pe_callB call_abs (by rfl) T.b_abs (by decide +kernel) (pa_cons (pv 2) pa_nil)) (pe_op op_powB (pe_op op_powB pe_int pe_int) pe_int)) pe_int))
      (pss_one (ps_ret (pe_lst (pa_cons (pv 3) (pa_cons (pe_op op_mod (pe_op op_add (pe_op op_add (pe_op op_mulX (pe_op op_mod (pv 2) pe_int) pe_int) (pe_op op_mulX (pe_op op_mulX pe_int (pv 1)) (pv 1))) pe_int) pe_int) (pa_cons pe_int pa_nil)))))))), ?_⟩), T.g_law_source, F.kp, F.bindsN (ps := ["_law_script", "_law_k"]) fun _ _ _ _ _ _ us hl => match us, hl with | [_, _], _ => rfl, .nil⟩
  · obtain ⟨l, ns, k, rfl, _⟩ := h
    rfl
  obtain ⟨l, ns, k, rfl, hs, k0, k1, q⟩ := h
  have E0 : EnvR K H (start ["_law_script", "_law_k", "_law_given", "_law_digits"] [.ref l, .int k]) [some (.list (ns.map .int)), some (.int k), none, none] :=
    envr_c (.lst hs (dps_ofInts ns)) (envr_c (.int _) (envr_x (envr_x envr_nil)))
  have hg : ∃ g : Int, XE K (tIf (tTest (tOp (rI0 fun i j => .bl (decide (i < j))) (tVar 1) (tCB (fun xs H Q => ∃ p ys, xs = [V.ref p] ∧ (SqL K H p ys ∨ SqT K H p ys) ∧ Q (.int ys.length) H) (tCons (tVar 0) tNil)))) (tOp (rIxL K) (tVar 0) (tVar 1)) (tC (.int 0))) [some (.list (ns.map .int)), some (.int k), none, none] (.int g) := by
    by_cases hk : k < ((ns.map PyData.int).length : Nat)
    · have hk' : k.toNat < ns.length := by rw [List.length_map] at hk; omega
      refine ⟨ns[k.toNat], xe_if (b := true) (XT.to (xt_test (xe_lt (xe_var rfl) (xe_lenL (xe_var rfl)))) (decide_eq_true hk)) (fun _ => xe_ixL (xe_var rfl) (xe_var rfl) k0 ?_) (fun z => nomatch z)⟩
      rw [List.getElem?_map, List.getElem?_eq_getElem hk']
      rfl
    · exact ⟨0, xe_if (b := false) (XT.to (xt_test (xe_lt (xe_var rfl) (xe_lenL (xe_var rfl)))) (decide_eq_false hk)) (fun z => nomatch z) (fun _ => xe_int)⟩
  obtain ⟨g, hg⟩ := hg
  refine vs_asg (ve_x hg E0) fun v H1 e1 d1 => ?_
  cases dp_int d1
  have E1 := (E0.ex e1).set (i := 2) (.int g)
  refine vs_asg (d := .int (digs g)) (ve_x (xe_if (xt_test (xe_ge (xe_abs (xe_var rfl)) (xe_powB xe_int xe_int pB1))) (fun e => ?_) (fun e => ?_)) E1) fun v H2 e2 d2 => ?_
  · have ed : digs g = absI g % big := if_pos e
    rw [ed]
    exact xe_mod (xe_abs (xe_var rfl)) (xe_powB (xe_powB xe_int xe_int pB2) xe_int pB3) big_pos
  · have ed : digs g = 0 := if_neg (by rw [show decide ((10 : Int) ^ (18 : Int).toNat ≤ absI g) = false from e]; decide)
    rw [ed]
    exact xe_int
  cases dp_int d2
  have bx := digs_bd g
  have E2 := (E1.ex e2).set (i := 3) (.int (digs g))
  generalize digs g = x at *
  have b1 : Bd 62 (g % 2305843009213693951) := emod_bd (by decide) (by decide)
  have b2 : Bd 20 (1000003 : Int) := ⟨by decide, by decide⟩
  have b3 : Bd 13 (7919 : Int) := ⟨by decide, by decide⟩
  have bk : Bd 2 k := ⟨k0, by omega⟩
  refine vs_retLst (K := K) (va_x (xa_cons (xe_var rfl) (xa_cons (xe_mod (xe_add (xe_add (xe_mul (xe_mod (xe_var rfl) xe_int (by decide)) xe_int (b1.mulx b2 (by decide))) (xe_mul (xe_mul xe_int (xe_var rfl) (b3.mulx bk (by decide))) (xe_var rfl) ((b3.mul bk).mulx bk (by decide)))) xe_int) xe_int (by decide)) (xa_cons xe_int xa_nil))) E2) (by show 3 ≤ 1000; decide) fun vs p H3 e3 d3 hp => ?_
  obtain ⟨v1, ws, rfl, d4, d5⟩ := dps_cons d3
  obtain ⟨v2, v3, rfl, d6, d7⟩ := dps2 d5
  cases dp_int d4
  cases dp_int d6
  cases dp_int d7
  have e03 := (e1.trans e2).trans e3
  exact q p _ (Evl.fresh_back e03 hp) (e03.trans (Evl.Ex.new hp)) ⟨x, _, 0, upd_same, bx, emod_bd (by decide) (by decide), by decide, by decide⟩
end
end SR
end
section
set_option Elab.async false
set_option linter.all false
set_option maxRecDepth 100000
set_option maxHeartbeats 1000000
/-! The law's call drawn. -/
namespace SR
open PySem PySem.Spec PyProof.Rows L2
open Evl (Ex)
open C8 (Cal Met Mak pe_c pe_mt pe_mt0 pe_mk pe_gc)
def NoTup (H : Hp) (a : Addr) : Prop := ∀ xs, ¬ Rd H a (.tup xs)
theorem nt_lst {H : Hp} {a : Addr} {ys : List V} (h : H a = some (.lst ys)) : NoTup H a := fun xs r => by
  rcases r with r | ⟨o, r⟩ <;> rw [h] at r <;> cases r
theorem nt_dK {H : Hp} {a : Addr} {ys : List (Key × V)} (h : H a = some (.dK ys)) : NoTup H a := fun xs r => by
  rcases r with r | ⟨o, r⟩ <;> rw [h] at r <;> cases r
theorem nt_ins {H : Hp} {a C dx : Addr} {fs : List (Str × V)} (h : H a = some (.ins C dx fs)) : NoTup H a := fun xs r => by
  rcases r with r | ⟨o, r⟩ <;> rw [h] at r <;> cases r
theorem Exs.tx {L : List Addr} {H H' : Hp} (x : Exs L H H') (h : ∀ a ∈ L, NoTup H a) : Tx H H' := fun a xs r => by
  have ha : a ∉ L := fun z => h a z xs r
  rcases r with r | ⟨o, r⟩
  · exact .inl (x a _ ha r)
  · exact .inr ⟨o, x a _ ha r⟩
theorem SrcAt.nt {H : Hp} {a : Addr} {n : Nat} (h : SrcAt H a n) : NoTup H a := by
  obtain ⟨x, y, z, h, _⟩ := h
  exact nt_lst h
theorem SrcAt.lst {H : Hp} {a : Addr} {n : Nat} (h : SrcAt H a n) : ∃ ys, H a = some (.lst ys) := by
  obtain ⟨x, y, z, h, _⟩ := h
  exact ⟨_, h⟩
theorem src_tx {H H' : Hp} {a : Addr} {n : Nat} (h : SrcAt H a n) (x : Exs [a] H H') : Tx H H' := x.tx fun b hb => by
  cases List.mem_singleton.mp hb
  exact h.nt
theorem HeldAt.src {K : PySem.W.Frag} {H H' : Hp} {a hl : Addr} {n : Nat} {h : List Reg} (hh : HeldAt K H hl h) (ha : SrcAt H a n) (x : Exs [a] H H') : HeldAt K H' hl h := by
  obtain ⟨kvs, k1, k2⟩ := hh
  obtain ⟨ys, hy⟩ := ha.lst
  have ne : hl ≠ a := ne_kind k1 hy (by intro z; cases z)
  exact ⟨kvs, x hl _ (by simpa using ne) k1, k2.tx (src_tx ha x)⟩
theorem name_of {y : Str} (h : y ∈ (["a", "b", "c", "longname"] : List Str)) : NameT y := by
  simp only [List.mem_cons, List.not_mem_nil, or_false] at h
  exact h
section
variable {P : Program} {w : World} {K : PySem.W.Frag} {mg : Str → Option Value} {base : Heap}
theorem sc_law_call : FnScope ["_law_source_here", "_law_held", "_law_width", "_law_target", "_law_method", "_law_some", "_law_word"] ["_law_source_here", "_law_held", "_law_width"] (defScope s_law_call) := ⟨rfl, rfl, rfl, by decide +kernel, rfl, by decide +kernel, by decide +kernel⟩
theorem cal_law_call (T : Top w K mg) : Cal P w K mg base 5 "_law_call" (spCallL K) [] := by
  obtain ⟨fd, F⟩ := T.f_law_call
  refine ⟨_, fd, ["_law_source_here", "_law_held", "_law_width"], [], F.ok sc_law_call (fun vs H Q E h => ?_) (fun cdv A outer s H vs Q E hr h => ⟨_, PSs.nox (pss_cons (ps_par (i := 3) (j := 4) rfl sc_law_call.nd rfl rfl (by decide) rfl rfl (pa_cons (pe_c (cal_law_pick T) hr (by decide) rfl (pa_cons (pv 0) (pa_cons (pe_lst (pa_cons pe_str (pa_cons pe_str (pa_cons pe_str (pa_cons pe_str pa_nil))))) pa_nil))) (pa_cons (pe_c (cal_law_draw T) hr (by decide) rfl (pa_cons (pv 0) (pa_cons pe_int pa_nil))) pa_nil)) (by rfl))
      (pss_cons (ps_if (PW.pt (pw_or (pt_cmpR (op_eqE (by exact hr.units0)) (pv 1) pe_dnewK (nomark _)) (pw_or1 (pt_cmpR op_lt (pv 4) pe_int (nomark _))))) (pss_one (ps_ret (pe_tup (pa_cons pe_str (pa_cons (pv 3) (pa_cons (pe_c (cal_law_exact_number T) hr (by decide) rfl (pa_cons (pv 0) (pa_cons (pv 2) pa_nil))) pa_nil)))))) pss_nil)
      (pss_cons (ps_set (i := 5) sc_law_call.nd rfl (Or.inl rfl) (pe_callB (call_sortedD rfl) (by rfl) T.b_sorted (by decide +kernel) (pa_cons (pv 1) pa_nil)))
      (pss_cons (ps_if (pt_cmpR op_eq (pv 4) pe_int (nomark _)) (pss_one (ps_ret (pe_tup (pa_cons pe_str (pa_cons (pv 3) (pa_cons (pe_c (cal_law_pick T) hr (by decide) rfl (pa_cons (pv 0) (pa_cons (pv 5) pa_nil))) pa_nil)))))) pss_nil)
      (pss_cons (ps_set (i := 6) sc_law_call.nd rfl (Or.inl rfl) (pe_ix ix_list (pe_lst (pa_cons pe_str (pa_cons pe_str (pa_cons pe_str (pa_cons pe_str pa_nil))))) (pe_op op_sub (pv 4) pe_int) (fun _ _ => rfl)))
      (pss_one (ps_ret (pe_tup (pa_cons (pv 6) (pa_cons (pv 3) (pa_cons (pe_c (cal_law_pick T) hr (by decide) rfl (pa_cons (pv 0) (pa_cons (pv 5) pa_nil))) (pa_cons (pe_c (cal_law_pick T) hr (by decide) rfl (pa_cons (pv 0) (pa_cons (pv 5) pa_nil))) pa_nil)))))))))))), ?_⟩), T.g_law_call, F.kp, F.bindsN (ps := ["_law_source_here", "_law_held", "_law_width"]) fun _ _ _ _ _ _ us hl => match us, hl with | [_, _, _], _ => rfl, .nil⟩
  · obtain ⟨a, hl, n, h, w, rfl, _⟩ := h
    rfl
  obtain ⟨a, hl, n, h, w, rfl, ha, hn, hh, hz, hw1, hw2, q⟩ := h
  -- target, method
  refine ⟨.ref a, rfl, by show 4 ≤ sizeLine; decide, fun p hp => ?_⟩
  have ha1 := ha.ex (Evl.Ex.new (o := .lst ((["a", "b", "c", "longname"] : List Str).map V.str)) hp)
  have hap : a ≠ p := fun z => by
    obtain ⟨ys, h⟩ := ha.lst
    rw [z, hp] at h
    cases h
  refine ⟨a, p, n, ["a", "b", "c", "longname"], rfl, ha1, upd_same, hap, by decide, by decide, by omega, fun t H2 ht x2 s2 => ?_⟩
  have ntm := name_of ht
  refine ⟨.ref a, rfl, a, n + 1, 7, rfl, s2, by decide, by decide, by omega, fun r H3 r0 r7 x3 s3 => ?_⟩
  refine ⟨.str t, .int r, rfl, ?_⟩
  have xH : Exs [a] H H3 := ((Exs.of (Evl.Ex.new hp)).trans x2).trans x3
  have h3 := hh.src ha xH
  obtain ⟨kvs, k1, k2⟩ := h3
  -- if held == {} or method < 2
  have hlen := k2.len
  have C : VT (tOr (tTest (tOp rEqE (tVar 1) tDNewK)) (tTest (tOp (rI0 fun i j => .bl (decide (i < j))) (tVar 4) (tC (.int 2))))) (((start ["_law_source_here", "_law_held", "_law_width", "_law_target", "_law_method", "_law_some", "_law_word"] [.ref a, .ref hl, .int w]).set 3 (some (.str t))).set 4 (some (.int r))) H3 (decide (kvs = []) || decide (r < 2)) :=
    vt_or (fun H0 e0 Q kq => ⟨.ref hl, rfl, fun p' hp' => ⟨hl, p', kvs, rfl, rfl, Evl.Ex.new hp' _ _ (e0 _ _ k1), upd_same, _, rfl, kq _ (Evl.Ex.new hp')⟩⟩) fun _ => vt_test (K := K) (ve_lt (ve_varI rfl) ve_int)
  refine vs_if C (fun hb H4 e4 => ?_) fun hb H4 e4 => ?_
  · -- load
    refine ⟨.str t, rfl, ?_⟩
    refine ⟨.ref a, rfl, .int w, rfl, a, n + 2, w, rfl, s3.ex e4, by omega, hw1, hw2, fun k e v H5 hk1 hk2 he1 he2 x5 s5 d5 => ?_⟩
    refine ⟨by show 3 ≤ sizeLine; decide, fun p5 hp5 => ?_⟩
    exact q (.load t (powN k e)) (.ref p5) _ ⟨ntm, k, e, hk1, hk2, he1, he2, rfl⟩ (((xH.ex e4).trans x5).ex (Evl.Ex.new hp5)) ((s5.ex (Evl.Ex.new hp5)).mono (by omega)) (.tup (SqT.of upd_same) (.cons (.str _) (.cons (.str _) (.cons (dp_ex (Evl.Ex.new hp5) _ _ d5) .nil))))
  · have hb' : ¬ kvs = [] ∧ ¬ r < 2 := by
      have := hb
      simp only [Bool.or_eq_false_iff, decide_eq_false_iff_not] at this
      exact this
    have h4 : HeldAt K H4 hl h := ⟨kvs, e4 _ _ k1, k2.tx (Tx.of_ex e4)⟩
    have s4 := s3.ex e4
    have x4 := xH.ex e4
    -- some = sorted(held)
    refine ⟨.ref hl, rfl, hl, kvs, keysR h, rfl, .inl (e4 _ _ k1), names_keys k2, ?_, fun ys ps hys _ hps => ?_⟩
    · unfold keysR
      rw [List.length_map]
      omega
    have s5 := s4.ex (Evl.Ex.new (o := .lst (ys.map V.str)) hps)
    have x5 := x4.ex (Evl.Ex.new (o := .lst (ys.map V.str)) hps)
    have hl5 : (upd H4 ps (.lst (ys.map V.str))) ps = some (.lst (ys.map V.str)) := upd_same
    have hap5 : a ≠ ps := fun z => by
      obtain ⟨zs, h⟩ := s4.lst
      rw [z, hps] at h
      cases h
    have ylen : ys.length = h.length := by
      rw [hys.length_eq]
      unfold keysR
      rw [List.length_map]
    have ypos : 1 ≤ ys.length := by
      rcases Nat.eq_zero_or_pos ys.length with z | z
      · exact absurd (List.length_eq_zero_iff.mp (show kvs.length = 0 by omega)) hb'.1
      · exact z
    generalize upd H4 ps (.lst (ys.map V.str)) = H5 at *
    have C2 : VT (tTest (tOp rEq (tVar 4) (tC (.int 6)))) ((((start ["_law_source_here", "_law_held", "_law_width", "_law_target", "_law_method", "_law_some", "_law_word"] [.ref a, .ref hl, .int w]).set 3 (some (.str t))).set 4 (some (.int r))).set 5 (some (.ref ps))) H5 (decide (r = 6)) := vt_test (K := K) (ve_eqI (ve_varI rfl) ve_int)
    refine vs_if C2 (fun hb6 H6 e6 => ?_) fun hb6 H6 e6 => ?_
    · -- root
      refine ⟨.str t, rfl, ?_⟩
      refine ⟨.ref a, rfl, .ref ps, rfl, a, ps, n + 2, ys, rfl, s5.ex e6, e6 _ _ hl5, hap5, ypos, by omega, by omega, fun y H7 hy x7 s7 => ?_⟩
      refine ⟨by show 3 ≤ sizeLine; decide, fun p8 hp8 => ?_⟩
      exact q (.root t y) (.ref p8) _ ⟨ntm, hys.mem_iff.mp hy⟩ (((x5.ex e6).trans x7).ex (Evl.Ex.new hp8)) ((s7.ex (Evl.Ex.new hp8)).mono (by omega)) (.tup (SqT.of upd_same) (.cons (.str _) (.cons (.str _) (.cons (.str _) .nil))))
    · have hr6 : ¬ r = 6 := of_decide_eq_false hb6
      have hm : ∃ m : Meth2, ([.str "add", .str "subtract", .str "multiply", .str "divide"] : List PyData)[(r - 2).toNat]? = some (.str (ms m)) := by
        have : r = 2 ∨ r = 3 ∨ r = 4 ∨ r = 5 := by omega
        rcases this with rfl | rfl | rfl | rfl
        · exact ⟨.add, rfl⟩
        · exact ⟨.subtract, rfl⟩
        · exact ⟨.multiply, rfl⟩
        · exact ⟨.divide, rfl⟩
      obtain ⟨m, hm⟩ := hm
      refine vs_asg (K := K) (d := .str (ms m)) (ve_ixL (n := r - 2) (ds := [.str "add", .str "subtract", .str "multiply", .str "divide"]) (ve_x (ρ := [none, none, none, none, none, none, none]) (xe_lst (xa_cons xe_str (xa_cons xe_str (xa_cons xe_str (xa_cons xe_str xa_nil)))) (by show 4 ≤ 1000; decide)) (envr_x (envr_x (envr_x (envr_x (envr_x (envr_x (envr_x envr_nil)))))))) (ve_sub (ve_varI rfl) ve_int) (by omega) hm) fun v H7 e7 d7 => ?_
      cases dp_str d7
      have e67 := e6.trans e7
      refine ⟨.str (ms m), rfl, .str t, rfl, ?_⟩
      refine ⟨.ref a, rfl, .ref ps, rfl, a, ps, n + 2, ys, rfl, s5.ex e67, e67 _ _ hl5, hap5, ypos, by omega, by omega, fun y H8 hy x8 s8 => ?_⟩
      refine ⟨.ref a, rfl, .ref ps, rfl, a, ps, n + 3, ys, rfl, s8, x8 ps _ (by simpa using hap5.symm) (e67 _ _ hl5), hap5, ypos, by omega, by omega, fun y2 H9 hy2 x9 s9 => ?_⟩
      refine ⟨by show 4 ≤ sizeLine; decide, fun p8 hp8 => ?_⟩
      exact q (.bin m t y y2) (.ref p8) _ ⟨ntm, hys.mem_iff.mp hy, hys.mem_iff.mp hy2⟩ ((((x5.ex e67).trans x8).trans x9).ex (Evl.Ex.new hp8)) ((s9.ex (Evl.Ex.new hp8)).mono (by omega)) (.tup (SqT.of upd_same) (.cons (.str _) (.cons (.str _) (.cons (.str _) (.cons (.str _) .nil)))))
end
end SR
end
section
set_option Elab.async false
set_option linter.all false
set_option maxRecDepth 100000
set_option maxHeartbeats 1000000
/-! The law's chain drawn. -/
namespace SR
open PySem PySem.Spec PyProof.Rows L2
open Evl (Ex)
open C8 (Cal Met Mak pe_c pe_mt pe_mt0 pe_mk pe_gc)
structure ChLaw (last : Int) (c : Chain) : Prop where
  pos : 1 ≤ c.length
  le : c.length ≤ 4
  ok : ∀ s ∈ c, last ≤ s.1 ∧ s.1 ≤ last + 6
  has : ∃ s ∈ c, s.1 = last
theorem ChLaw.perm {last : Int} {c c' : Chain} (h : ChLaw last c) (p : c'.Perm c) : ChLaw last c' := by
  obtain ⟨s, hs, e⟩ := h.has
  exact ⟨by rw [p.length_eq]; exact h.pos, by rw [p.length_eq]; exact h.le, fun s hs => h.ok s (p.mem_iff.mp hs), s, p.mem_iff.mpr hs, e⟩
def spChainL (K : PySem.W.Frag) : Sp := fun vs H Q _ => ∃ (a : Addr) (n : Nat) (last : Int), vs = [.ref a, .int last, .int 4, .int 6] ∧ SrcAt H a n ∧ n ≤ 80000 ∧ 1 ≤ last ∧ last ≤ 5 ∧
  ∀ c v H', ChLaw last c → Exs [a] H H' → SrcAt H' a (n + 20) → Dp K H' v (chD c) → Q v H'
theorem Exs.new {L : List Addr} {H H1 : Hp} {l : Addr} {o : HO} (x : Exs L H H1) (h : H l = none) : Exs L H (L2.upd H1 l o) := fun b u hb hh => by
  rw [upd_ne (by intro z; subst z; rw [h] at hh; cases hh)]
  exact x b u hb hh
theorem exs_none {L : List Addr} {H H1 : Hp} {l : Addr} (x : Exs L H H1) (hL : ∀ b ∈ L, H1 b ≠ none) (h : H1 l = none) : H l = none := by
  cases hh : H l with
  | none => rfl
  | some u =>
    by_cases hl : l ∈ L
    · exact absurd h (hL l hl)
    · rw [x l u hl hh] at h
      cases h
theorem dps_perm {K : PySem.W.Frag} {H : Hp} {α : Type} {f : α → PyData} {ys xs : List V} (p : ys.Perm xs) : ∀ c : List α, DpAll K H xs (c.map f) → ∃ c' : List α, c'.Perm c ∧ DpAll K H ys (c'.map f) := by
  induction p with
  | nil => intro c h; exact ⟨c, List.Perm.refl _, h⟩
  | cons x p ih =>
    intro c h
    cases c with
    | nil => cases h
    | cons s c =>
      cases h with
      | cons h1 h2 =>
        obtain ⟨c', p', h'⟩ := ih c h2
        exact ⟨s :: c', p'.cons s, .cons h1 h'⟩
  | swap x y l =>
    intro c h
    cases c with
    | nil => cases h
    | cons s c =>
      cases c with
      | nil =>
        cases h with
        | cons h1 h2 => cases h2
      | cons t c =>
        cases h with
        | cons h1 h2 =>
          cases h2 with
          | cons h3 h4 => exact ⟨t :: s :: c, List.Perm.swap s t c, .cons h3 (.cons h1 h4)⟩
  | trans p1 p2 ih1 ih2 =>
    intro c h
    obtain ⟨c1, q1, h1⟩ := ih2 c h
    obtain ⟨c2, q2, h2⟩ := ih1 c1 h1
    exact ⟨c2, q2.trans q1, h2⟩
theorem cutD_head (ds : List PyData) : cutD ds none (some 1) = ds.take 1 := by
  unfold cutD
  have e : HT.sIx ds.length ds.length (some 1) = min 1 ds.length := HT.sIx_nat ds.length ds.length 1
  rw [e, HT.sIx_none, List.drop_zero, Nat.sub_zero]
  rcases ds with _ | ⟨d, ds⟩
  · rfl
  · have e1 : min 1 (d :: ds).length = 1 := by rw [List.length_cons]; omega
    rw [e1]
def negD (s : Int × Rule) : PyData := .tuple [.int (0 - s.1), .str (rs s.2)]
theorem vs_sortIS {K : PySem.W.Frag} {te : TE} {c : Chain} {i : Nat} {D : Ends} {σ : L2.St} {H : Hp} (h : VE K te σ H (.list (c.map negD)))
    (k : ∀ p c' ys H', Ex H H' → List.Perm c' c → H' p = some (.lst ys) → DpAll K H' ys (c'.map negD) → D.nx (σ.set i (some (.ref p))) H') : tAsg (tCB (rSortedIS K) (tCons te tNil)) (gName i) D σ H := by
  refine h H (Evl.Ex.refl H) _ fun v H6 e6 d6 => ?_
  obtain ⟨la, xs, rfl, hxs, dxs⟩ := dp_lst d6
  refine ⟨la, xs, rfl, hxs, fun y hy => ?_, fun ys p hys hp => ?_⟩
  · obtain ⟨i, hi⟩ := List.mem_iff_getElem?.mp hy
    have hic : i < c.length := by
      have h1 := (List.getElem?_eq_some_iff.mp hi).1
      have h2 := dps_len dxs
      rw [List.length_map] at h2
      omega
    obtain ⟨v, hv, hdv⟩ := dps_get (d := negD c[i]) dxs (by rw [List.getElem?_map, List.getElem?_eq_getElem hic]; rfl)
    rw [hi] at hv
    cases Option.some.inj hv
    obtain ⟨t, ws, rfl, ht, hw⟩ := dp_tup hdv
    obtain ⟨w1, w2, rfl, hw1, hw2⟩ := dps2 hw
    rw [dp_int hw1, dp_str hw2] at ht
    exact ⟨t, _, _, rfl, ht⟩
  · obtain ⟨c', pc, dc⟩ := dps_perm hys c dxs
    exact k p c' ys _ (e6.trans (Evl.Ex.new hp)) pc upd_same (dps_ex (Evl.Ex.new hp) _ _ dc)
section
variable {P : Program} {w : World} {K : PySem.W.Frag} {mg : Str → Option Value} {base : Heap}
theorem sc_law_chain : FnScope ["_law_source_here", "_law_last", "_law_most", "_law_far", "_law_found", "_law_turn", "_law_falling", "_law_width", "_law_rule_here"] ["_law_source_here", "_law_last", "_law_most", "_law_far"] (defScope s_law_chain) := ⟨rfl, rfl, rfl, by decide +kernel, rfl, by decide +kernel, by decide +kernel⟩
theorem cal_law_chain (T : Top w K mg) : Cal P w K mg base 4 "_law_chain" (spChainL K) [] := by
  obtain ⟨fd, F⟩ := T.f_law_chain
  refine ⟨_, fd, ["_law_source_here", "_law_last", "_law_most", "_law_far"], [], F.ok sc_law_chain (fun vs H Q E h => ?_) (fun cdv A outer s H vs Q E hr h => ⟨_, PSs.nox (pss_cons (ps_set (i := 4) sc_law_chain.nd rfl (Or.inl rfl) (pe_lst (pa_cons (pe_tup (pa_cons (pv 1) (pa_cons (pe_c (cal_law_rule T) hr (by decide) rfl (pa_cons (pv 0) pa_nil)) pa_nil))) pa_nil)))
      (pss_cons (ps_for PassesOwn.never rfl (pi_range1 (by rfl) T.b_range (pa_cons (pe_c (cal_law_draw T) hr (by decide) rfl (pa_cons (pv 0) (pa_cons (pv 2) pa_nil))) pa_nil)) (pg_name (i := 5) sc_law_chain.nd rfl (Or.inl rfl)) (pss_one (ps_expr (pe_bm PySem.F.plainAttrs_list PySem.F.slot_list_append PySem.F.type_list_append mt_append (pv 4) (pa_cons (pe_tup (pa_cons (pe_op op_add (pe_op op_add (pv 1) pe_int) (pe_c (cal_law_draw T) hr (by decide) rfl (pa_cons (pv 0) (pa_cons (pv 3) pa_nil)))) (pa_cons (pe_c (cal_law_rule T) hr (by decide) rfl (pa_cons (pv 0) pa_nil)) pa_nil))) pa_nil)))))
      (pss_cons (ps_if (pt_cmpR op_gt (pe_c (cal_law_draw T) hr (by decide) rfl (pa_cons (pv 0) (pa_cons pe_int pa_nil))) pe_int (nomark _)) (pss_cons (ps_set (i := 6) sc_law_chain.nd rfl (Or.inl rfl) (pe_callB cr_sortedIS (by rfl) T.b_sorted (by decide +kernel) (pa_cons (pe_lc (own := [("_law_width", 7), ("_law_rule_here", 8)]) (g := gTup K 2 (gCons (gName 7) (gCons (gName 8) gNil))) (tt := tYes) rfl sc_law_chain.nd (pi_list (pv 4)) (blkOk_by (N := ["_law_source_here", "_law_last", "_law_most", "_law_far", "_law_found", "_law_turn", "_law_falling", "_law_width", "_law_rule_here"]) (sc := defScope s_law_chain) (by decide +kernel)) (fun _ _ _ _ _ => (pg_tup (n := 2) rfl (pgs_cons (pg_name (i := 7) sc_law_chain.nd rfl (Or.inl rfl) (Or.inr rfl)) (pgs_cons (pg_name (i := 8) sc_law_chain.nd rfl (Or.inl rfl) (Or.inr rfl)) pgs_nil)))) (fun _ _ _ _ _ => pts_nil) (fun _ _ _ _ _ => (pe_tup (pa_cons (pe_op op_sub pe_int (pv 7)) (pa_cons (pv 8) pa_nil))))) pa_nil)))
      (pss_one (ps_ret (pe_callTy call_tuple_of (by rfl) T.b_tuple (by decide +kernel) (pa_cons (pe_lc (own := [("_law_width", 7), ("_law_rule_here", 8)]) (g := gTup K 2 (gCons (gName 7) (gCons (gName 8) gNil))) (tt := tYes) rfl sc_law_chain.nd (pi_list (pv 6)) (blkOk_by (N := ["_law_source_here", "_law_last", "_law_most", "_law_far", "_law_found", "_law_turn", "_law_falling", "_law_width", "_law_rule_here"]) (sc := defScope s_law_chain) (by decide +kernel)) (fun _ _ _ _ _ => (pg_tup (n := 2) rfl (pgs_cons (pg_name (i := 7) sc_law_chain.nd rfl (Or.inl rfl) (Or.inr rfl)) (pgs_cons (pg_name (i := 8) sc_law_chain.nd rfl (Or.inl rfl) (Or.inr rfl)) pgs_nil)))) (fun _ _ _ _ _ => pts_nil) (fun _ _ _ _ _ => (pe_tup (pa_cons (pe_op op_sub pe_int (pv 7)) (pa_cons (pv 8) pa_nil))))) pa_nil))))) pss_nil)
      (pss_one (ps_ret (pe_callTy call_tuple_of (by rfl) T.b_tuple (by decide +kernel) (pa_cons (pe_op op_cat (pe_slice sl_list (pv 4) (po_some pe_int) po_none) (pe_slice sl_list (pv 4) po_none (po_some pe_int))) pa_nil))))))), ?_⟩), T.g_law_chain, F.kp, F.bindsN (ps := ["_law_source_here", "_law_last", "_law_most", "_law_far"]) fun _ _ _ _ _ _ us hl => match us, hl with | [_, _, _, _], _ => rfl, .nil⟩
  · obtain ⟨a, n, last, rfl, _⟩ := h
    rfl
  obtain ⟨a, n, last, rfl, ha, hn, l1, l5, q⟩ := h
  -- found = [(last, rule)]
  refine ⟨.int last, rfl, .ref a, rfl, a, n, rfl, ha, by omega, fun r0 H1 x1 s1 => ?_⟩
  refine ⟨by show 2 ≤ sizeLine; decide, fun p1 hp1 => ⟨by show 1 ≤ sizeLine; decide, fun l hl => ?_⟩⟩
  have e1 : Ex H1 (upd H1 p1 (.tup [.int last, .str (rs r0)])) := Evl.Ex.new hp1
  have e2 := e1.trans (Evl.Ex.new (o := .lst [.ref p1]) hl)
  have x2 := x1.ex e2
  have s2 := s1.ex e2
  have hlH : H l = none := by
    have h1 := Evl.fresh_back e1 hl
    exact exs_none x1 (fun b hb => by cases List.mem_singleton.mp hb; obtain ⟨ys, hy⟩ := s1.lst; rw [hy]; simp) h1
  have hl2 : (upd (upd H1 p1 (.tup [.int last, .str (rs r0)])) l (.lst [.ref p1])) l = some (.lst [.ref p1]) := upd_same
  have d2 : DpAll K (upd (upd H1 p1 (.tup [.int last, .str (rs r0)])) l (.lst [.ref p1])) [.ref p1] ([(last, r0)].map stepD) :=
    .cons (.tup (SqT.of (by rw [upd_ne (fun z => by rw [← z, upd_same] at hl; cases hl)]; exact upd_same)) (.cons (.int _) (.cons (.str _) .nil))) .nil
  generalize upd (upd H1 p1 (.tup [.int last, .str (rs r0)])) l (.lst [.ref p1]) = H2 at *
  have hal : a ≠ l := fun z => by
    obtain ⟨ys, h⟩ := ha.lst
    rw [z, hlH] at h
    cases h
  -- the loop
  refine ⟨.ref a, rfl, .int 4, rfl, a, n + 1, 4, rfl, s2, by decide, by decide, by omega, fun r H3 r0' r4 x3 s3 => ?_⟩
  refine ⟨r, rfl, by omega, by omega, ?_⟩
  have x23 := x2.trans x3
  have t3 : Tx H2 H3 := src_tx s2 x3
  refine for_it walk_range (fun i σ' H' => ∃ x c vs, σ' = [some (.ref a), some (.int last), some (.int 4), some (.int 6), some (.ref l), x, none, none, none] ∧ H' l = some (.lst vs) ∧ DpAll K H' vs (c.map stepD) ∧ c.length = i + 1 ∧
    (∀ s ∈ c, last ≤ s.1 ∧ s.1 ≤ last + 6) ∧ (∃ s ∈ c, s.1 = last) ∧ Exs [a] H H' ∧ SrcAt H' a (n + 2 + 2 * i)) ⟨none, [(last, r0)], _, rfl, x3 l _ (by simpa using hal.symm) hl2, dps_tx t3 _ _ (fz_chL _) d2, rfl, ?_, ⟨_, List.mem_singleton.mpr rfl, rfl⟩, x23, s3⟩ (fun _ _ _ _ _ => trivial) ?_ ?_
  · intro s hs
    cases List.mem_singleton.mp hs
    show last ≤ last ∧ last ≤ last + 6
    omega
  · rintro i x σ' H4 H5 hi ⟨x5, c, vs, rfl, hv, hd, hlen, hok, hhas, xx, ss⟩ ⟨rfl, rfl⟩
    have hi3 : i < 3 := by omega
    -- found.append((last + 1 + draw, rule))
    refine ⟨.ref l, rfl, .inl ⟨rfl, vs, SqL.of hv⟩, ?_⟩
    refine ⟨.int last, rfl, last, 1, rfl, rfl, ?_⟩
    refine ⟨.ref a, rfl, .int 6, rfl, a, n + 2 + 2 * i, 6, rfl, ss, by decide, by decide, by omega, fun r1 H6 t0 t6 x6 s6 => ?_⟩
    refine ⟨last + 1, r1, rfl, rfl, ?_⟩
    refine ⟨.ref a, rfl, a, _, rfl, s6, by omega, fun r2 H7 x7 s7 => ?_⟩
    refine ⟨by show 2 ≤ sizeLine; decide, fun p hp => ?_⟩
    have x67 := x6.trans x7
    have hv7 := x67 l _ (by simpa using hal.symm) hv
    have en : Ex H7 (upd H7 p (.tup [.int (last + 1 + r1), .str (rs r2)])) := Evl.Ex.new hp
    have hv8 := en _ _ hv7
    have t7 : Tx H5 (upd H7 p (.tup [.int (last + 1 + r1), .str (rs r2)])) := (src_tx ss x67).trans (Tx.of_ex en)
    have dp8 : Dp K (upd H7 p (.tup [.int (last + 1 + r1), .str (rs r2)])) (.ref p) (stepD (last + 1 + r1, r2)) := .tup (SqT.of upd_same) (.cons (.int _) (.cons (.str _) .nil))
    have s8 := s7.ex en
    have x8 := (xx.trans x67).ex en
    generalize upd H7 p (.tup [.int (last + 1 + r1), .str (rs r2)]) = H8 at *
    have vlen := dps_len hd
    rw [List.length_map] at vlen
    refine ⟨l, vs, .ref p, rfl, rfl, hv8, Nat.lt_of_le_of_lt (show vs.length ≤ 10 by omega) (by decide), ?_⟩
    have s9 : SrcAt (upd H8 l (.lst (vs ++ [.ref p]))) a (n + 2 + 2 * (i + 1)) := by
      obtain ⟨y1, y2, y3, h1, h2, h3, h4, h5⟩ := s8
      exact ⟨y1, y2, y3, by rw [upd_ne hal]; exact h1, h2, h3, h4, by omega⟩
    refine ⟨_, c ++ [(last + 1 + r1, r2)], vs ++ [.ref p], rfl, upd_same, ?_, by rw [List.length_append, hlen]; rfl, ?_, ?_, x8.new hlH, s9⟩
    · rw [List.map_append]
      exact dps_app (dps_tx (t7.trans (Tx.lst hv8)) _ _ (fz_chL c) hd) (.cons (dp_tx (Tx.lst hv8) _ _ rfl dp8) .nil)
    · intro s hs
      rcases List.mem_append.mp hs with hs | hs
      · exact hok s hs
      · cases List.mem_singleton.mp hs
        show last ≤ last + 1 + r1 ∧ last + 1 + r1 ≤ last + 6
        omega
    · obtain ⟨s, hs, e⟩ := hhas
      exact ⟨s, List.mem_append_left _ hs, e⟩
  · rintro σ' H4 ⟨x, c, vs, rfl, hv, hd, hlen, hok, hhas, xx, ss⟩
    have hr3 : r.toNat ≤ 3 := by omega
    have law : ChLaw last c := ⟨by omega, by omega, hok, hhas⟩
    -- if draw(4) > 0
    refine ⟨.ref a, rfl, a, _, 4, rfl, ss, by decide, by decide, by omega, fun r4 H5 _ _ x5 s5 => ?_⟩
    have hv5 := x5 l _ (by simpa using hal.symm) hv
    have hd5 : DpAll K H5 vs (c.map stepD) := dps_tx (src_tx ss x5) _ _ (fz_chL c) hd
    have xx5 := xx.trans x5
    refine ⟨r4, 0, rfl, rfl, _, rfl, ?_⟩
    have E5 : EnvR K H5 [some (V.ref a), some (.int last), some (.int 4), some (.int 6), some (.ref l), x, none, none, none] [none, some (.int last), some (.int 4), some (.int 6), some (.list (c.map stepD)), none, none, none, none] :=
      envr_x (envr_c (.int _) (envr_c (.int _) (envr_c (.int _) (envr_c (.lst (SqL.of hv5) hd5) (envr_x (envr_x (envr_x (envr_x envr_nil))))))))
    by_cases hb : 0 < r4
    · show if decide (0 < r4) = true then _ else _
      rw [if_pos (decide_eq_true hb)]
      -- falling = sorted([(0 - w, r)])
      have LC : XE K (tLc (iList K (tVar 4)) (gTup K 2 (gCons (gName 7) (gCons (gName 8) gNil))) tYes (tTup (tCons (tOp (rI0 fun i j => .int (i - j)) (tC (.int 0)) (tVar 7)) (tCons (tVar 8) tNil))) [7, 8]) [none, some (.int last), some (.int 4), some (.int 6), some (.list (c.map stepD)), none, none, none, none] (.list (c.map negD)) := by
        refine xe_lc (es := c.map negD) (xi_list (ds := c.map stepD) (xe_var rfl)) (by simp) (fun i d_ b_ h_ k_ => ?_) ?_ ?_
        · rw [List.getElem?_map] at h_ k_
          cases e : c[i]? with
          | none => rw [e] at h_; cases h_
          | some s =>
            rw [e] at h_ k_
            cases Option.some.inj h_
            cases Option.some.inj k_
            exact ⟨_, _, by simp, xg_tup (xgs_cons xg_name (xgs_cons xg_name xgs_nil)) rfl, xe_tup (xa_cons (xe_sub xe_int (xe_var rfl)) (xa_cons (xe_var rfl) xa_nil)) (by show 2 ≤ 1000; decide)⟩
        · exact fz_all fun d hd => by
            obtain ⟨b, _, rfl⟩ := List.mem_map.mp hd
            rfl
        · rw [List.length_map]
          have := law.le
          omega
      refine vs_sortIS (ve_x LC E5) fun p c' ys H7 e57 pc hl7 dc7 => ?_
      · skip
        have E7 : EnvR K H7 [some (V.ref a), some (.int last), some (.int 4), some (.int 6), some (.ref l), x, some (.ref p), none, none] [none, some (.int last), some (.int 4), some (.int 6), none, none, some (.list (c'.map negD)), none, none] :=
          envr_x (envr_c (.int _) (envr_c (.int _) (envr_c (.int _) (envr_x (envr_x (envr_c (.lst (SqL.of hl7) dc7) (envr_x (envr_x envr_nil))))))))
        refine vs_ret (ve_x (xe_tupL (ds := c'.map stepD) (xe_lc (es := c'.map stepD) (xi_list (ds := c'.map negD) (xe_var rfl)) (by simp) (fun i d_ b_ h_ k_ => ?_) (fz_chL c') ?_)) E7) fun v H8 e8 d8 => ?_
        · rw [List.getElem?_map] at h_ k_
          cases e : c'[i]? with
          | none => rw [e] at h_; cases h_
          | some s =>
            rw [e] at h_ k_
            cases Option.some.inj h_
            cases Option.some.inj k_
            have es : stepD s = .tuple [.int (0 - (0 - s.1)), .str (rs s.2)] := by
              rw [show 0 - (0 - s.1) = s.1 by omega]
              rfl
            show ∃ js ρ2, _ ∧ _ ∧ XE K _ ρ2 (stepD s)
            rw [es]
            exact ⟨_, _, by simp, xg_tup (xgs_cons xg_name (xgs_cons xg_name xgs_nil)) rfl, xe_tup (xa_cons (xe_sub xe_int (xe_var rfl)) (xa_cons (xe_var rfl) xa_nil)) (by show 2 ≤ 1000; decide)⟩
        · rw [List.length_map, pc.length_eq]
          have := law.le
          omega
        · have e58 := e57.trans e8
          exact q c' v H8 (law.perm pc) (xx5.ex e58) ((s5.ex e58).mono (by omega)) d8
    · show if decide (0 < r4) = true then _ else _
      rw [if_neg (by simpa using hb)]
      -- found[1:] + found[:1]
      refine ⟨.ref l, rfl, 1, rfl, l, vs, rfl, SqL.of hv5, fun p1 hp1 => ?_⟩
      have f1 : Ex H5 (upd H5 p1 (.lst (cutV vs (some 1) none))) := Evl.Ex.new hp1
      refine ⟨.ref l, rfl, 1, rfl, l, vs, rfl, SqL.of (f1 _ _ hv5), fun p2 hp2 => ?_⟩
      have f2 := Evl.Ex.new (o := .lst (cutV vs none (some 1))) hp2
      have f12 := f1.trans f2
      have vlen := dps_len hd5
      rw [List.length_map] at vlen
      have c1 := dps_cut hd5 (some 1) none
      have c2 := dps_cut hd5 none (some 1)
      have h1 := f2 p1 _ upd_same
      refine ⟨p1, p2, _, _, rfl, rfl, h1, upd_same, ?_, fun p3 hp3 => ?_⟩
      · have q1 := dps_len c1
        have q2 := dps_len c2
        rw [cutD_one, List.length_drop, List.length_map] at q1
        rw [cutD_head, List.length_take, List.length_map] at q2
        have := law.le
        exact Nat.le_trans (show _ ≤ 100 by omega) (by decide)
      · have f3 := Evl.Ex.new (o := .lst (cutV vs (some 1) none ++ cutV vs none (some 1))) hp3
        refine ⟨p3, _, rfl, .inl ⟨SqL.of upd_same, fun p4 hp4 => ?_⟩⟩
        have f4 := Evl.Ex.new (o := .tup (cutV vs (some 1) none ++ cutV vs none (some 1))) hp4
        have fa := (f12.trans f3).trans f4
        have pc : (c.drop 1 ++ c.take 1).Perm c := by
          have := List.perm_append_comm (l₁ := c.drop 1) (l₂ := c.take 1)
          rw [List.take_append_drop] at this
          exact this
        refine q (c.drop 1 ++ c.take 1) (.ref p4) _ (law.perm pc) (xx5.ex fa) ((s5.ex fa).mono (by omega)) (.tup (SqT.of upd_same) ?_)
        rw [List.map_append, List.map_drop, List.map_take, ← cutD_one, ← cutD_head]
        exact dps_app (dps_ex fa _ _ c1) (dps_ex fa _ _ c2)
end
end SR
end
section
set_option Elab.async false
set_option linter.all false
set_option maxRecDepth 100000
set_option maxHeartbeats 1000000
/-! Walks and comprehensions at given slots and heap. -/
namespace SR
open PySem PySem.Spec PyProof.Rows L2
open Evl (Ex)
section
variable {K : PySem.W.Frag} {ρ ρ1 ρ2 : Rho} {t ta tb te : TE} {d : PyData} {ds es us : List PyData} {t1 : TS} {D : Ends} {σ : L2.St} {H : Hp}
/-- what is walked, kept by whatever leaves tuples as they are -/
def VI (wi : TI) (K : PySem.W.Frag) (σ : L2.St) (H : Hp) (ds : List PyData) : Prop := ∀ (R : It → Hp → Prop),
  (∀ (J : It) (H1 : Hp) (G : Hp → Prop) (Y : Nat → Hp → V → Hp → Prop), Ex H H1 → Walk J ds.length G Y → (∀ H2, Tx H1 H2 → G H2) →
    (∀ i H2 x H3, i < ds.length → Tx H1 H2 → Y i H2 x H3 → Ex H2 H3 ∧ ∃ d, ds[i]? = some d ∧ Dp K H3 x d) → R J H1) → wi σ H R
theorem ve_lc {wi : TI} {g : TG} {vs : List Nat} (hi : VI wi K σ H ds) (E : EnvR K H σ ρ) (hl : es.length = ds.length)
    (hs : ∀ (i : Nat) d b, ds[i]? = some d → es[i]? = some b → ∃ js ρ2, (∀ j ∈ js, j ∈ vs) ∧ XG K js g d (wipeR ρ vs) ρ2 ∧ XE K te ρ2 b) (fz : FzAll es = true) (hz : ds.length ≤ 10000) : ∀ Q : VK, (∀ v H', Ex H H' → Dp K H' v (.list es) → Q v H') → tLc wi g tYes te vs σ H Q := fun Q q => by
  refine hi _ fun J H1 G Y e1 w hG hY => ?_
  intro D hD
  have eD : ∀ {H'}, Ex H1 H' → ∀ o, Ex H1 (upd H' D o) := fun e' o => Evl.Ex.mut e' hD
  refine lc_it w (fun i H' => ∃ acc, H' D = some (.lst acc) ∧ DpAll K H' acc (es.take i) ∧ Ex H1 H' ∧ acc.length ≤ i) ⟨[], upd_same, .nil, eD (Evl.Ex.refl _) _, Nat.le_refl _⟩ (fun i H' _ ⟨_, _, _, e', _⟩ => hG H' (Tx.of_ex e')) ?_ ?_
  · rintro i x H' H3 hi ⟨acc, hacc, hda, e', hlen⟩ y
    obtain ⟨e3, d, hd, hx⟩ := hY i H' x H3 hi (Tx.of_ex e') y
    obtain ⟨b, hb⟩ : ∃ b, es[i]? = some b := ⟨es[i]'(by omega), List.getElem?_eq_getElem (by omega)⟩
    obtain ⟨js, ρ2, hjs, hg, he⟩ := hs i d b hd hb
    have E1 := ((E.ex e1).ex (e'.trans e3)).wipe vs
    refine hg (L2.wipe σ vs) H3 x E1 hx _ fun σ2 E2 l2 k2 => ⟨?_, ?_⟩
    · rw [wipe_same (σ := L2.wipe σ vs) l2 fun i hi => k2 i fun z => hi (hjs i z)]
      exact wipe_same (wipe_length σ vs) fun i hi => by rw [wipe_get, if_neg fun z => hi z.1]
    · show te σ2 H3 fun y H4 => ∃ acc : List V, H4 D = some (.lst acc) ∧ acc.length < sizeLine ∧ ∃ acc' : List V, (upd H4 D (.lst (acc ++ [y]))) D = some (.lst acc') ∧ DpAll K (upd H4 D (.lst (acc ++ [y]))) acc' (es.take (i + 1)) ∧ Ex H1 (upd H4 D (.lst (acc ++ [y]))) ∧ acc'.length ≤ i + 1
      refine he σ2 H3 E2 _ fun v H4 e4 hv => ?_
      have h4 : H4 D = some (.lst acc) := e4 D _ (e3 D _ hacc)
      refine ⟨acc, h4, Nat.lt_of_le_of_lt (show acc.length ≤ 10000 by omega) (by decide), acc ++ [v], upd_same, ?_, eD ((e'.trans e3).trans e4) _, by rw [List.length_append, List.length_singleton]; omega⟩
      have et : es.take (i + 1) = es.take i ++ [b] := by
        rw [List.take_add_one, hb]
        rfl
      rw [et]
      have fb : Fz b = true := fz_mem fz (List.mem_of_getElem? hb)
      exact dps_app (dps_tx (Tx.lst h4) _ _ (fz_take i fz) (dps_ex (e3.trans e4) _ _ hda)) (.cons (dp_tx (Tx.lst h4) _ _ fb hv) .nil)
  · rintro H' ⟨acc, hacc, hda, e', hlen⟩
    rw [← hl, List.take_length] at hda
    exact q _ H' (e1.trans e') (.lst (SqL.of hacc) hda)
theorem vi_zip {tr : TA} (h : VA K tr σ H [.tuple ds, .tuple es]) (hl : ds.length = es.length) (f1 : FzAll ds = true) (f2 : FzAll es = true) : VI (RZ.iZipA K tr) K σ H (zipD ds es) := fun R q => h H (Evl.Ex.refl H) _ fun vs H1 e1 hvs => by
  obtain ⟨v, w, rfl, h1, h2⟩ := dps2 hvs
  obtain ⟨a, xs, rfl, hs, ha⟩ := dp_tup h1
  obtain ⟨b, ys, rfl, hs', hb⟩ := dp_tup h2
  have lz := zipD_len hl
  refine ⟨a, b, xs, ys, rfl, .inr ⟨hs, hs', q _ H1 _ _ e1 (lz ▸ walk_zipT (K := K) (a := a) (b := b) (dps_len ha) ((dps_len hb).trans hl.symm)) (fun H2 e2 => ⟨e2.sq hs, e2.sq hs'⟩) fun i H2 x H3 hi e2 y => ?_⟩⟩
  obtain ⟨T, x1, x2, rfl, hT, rfl, hx1, hx2⟩ := y
  rw [lz] at hi
  have g1 : ds[i]? = some ds[i] := List.getElem?_eq_getElem hi
  have g2 : es[i]? = some (es[i]'(by omega)) := List.getElem?_eq_getElem (by omega)
  obtain ⟨v1, hv1, hd1⟩ := dps_get ha g1
  obtain ⟨v2, hv2, hd2⟩ := dps_get hb g2
  have q1 : v1 = x1 := Option.some.inj (hv1.symm.trans hx1)
  have q2 : v2 = x2 := Option.some.inj (hv2.symm.trans hx2)
  subst q1 q2
  have en : Ex H2 (upd H2 T (.tup [v1, v2])) := Evl.Ex.new hT
  have tn := e2.trans (Tx.of_ex en)
  exact ⟨en, _, zipD_get g1 g2, .tup (SqT.of upd_same) (.cons (dp_tx tn _ _ (fz_mem f1 (List.mem_of_getElem? g1)) hd1) (.cons (dp_tx tn _ _ (fz_mem f2 (List.mem_of_getElem? g2)) hd2) .nil))⟩
def zipD3 : List PyData → List PyData → List PyData → List PyData
  | a :: as, b :: bs, c :: cs => .tuple [a, b, c] :: zipD3 as bs cs
  | _, _, _ => []
theorem zipD3_len : ∀ {as bs cs : List PyData}, as.length = bs.length → as.length = cs.length → (zipD3 as bs cs).length = as.length
  | [], _, _, _, _ => by simp [zipD3]
  | a :: as, [], _, h, _ => by simp at h
  | a :: as, b :: bs, [], _, h => by simp at h
  | a :: as, b :: bs, c :: cs, h, k => by
    show (zipD3 as bs cs).length + 1 = as.length + 1
    rw [zipD3_len (by simpa using h) (by simpa using k)]
theorem zipD3_get : ∀ {as bs cs : List PyData} {i : Nat} {a b c : PyData}, as[i]? = some a → bs[i]? = some b → cs[i]? = some c → (zipD3 as bs cs)[i]? = some (.tuple [a, b, c])
  | [], _, _, i, a, b, c, h, _, _ => by simp at h
  | _ :: _, [], _, i, a, b, c, _, h, _ => by simp at h
  | _ :: _, _ :: _, [], i, a, b, c, _, _, h => by simp at h
  | a0 :: as, b0 :: bs, c0 :: cs, 0, a, b, c, h, k, l => by
    have e1 : a0 = a := Option.some.inj h
    have e2 : b0 = b := Option.some.inj k
    have e3 : c0 = c := Option.some.inj l
    subst e1 e2 e3
    rfl
  | a0 :: as, b0 :: bs, c0 :: cs, i + 1, a, b, c, h, k, l => zipD3_get (as := as) (bs := bs) (cs := cs) (i := i) h k l
theorem walk_zip3 {a b c : Addr} {xs ys us : List V} {n : Nat} (h1 : xs.length = n) (h2 : ys.length = n) (h3 : us.length = n) : Walk (RZ.ItzT3 K a b c) n (fun H => SqT K H a xs ∧ SqT K H b ys ∧ SqT K H c us)
    (fun i H v H' => ∃ T x y u, v = .ref T ∧ H T = none ∧ H' = upd H T (.tup [x, y, u]) ∧ xs[i]? = some x ∧ ys[i]? = some y ∧ us[i]? = some u) := by
  refine ⟨fun i _ hi q => ?_, fun _ q => ⟨xs, ys, us, q.1, q.2.1, q.2.2, h1, h2, h3⟩, fun i H v H' _ q y => ?_⟩
  · exact ⟨xs, ys, us, xs[i]'(by omega), ys[i]'(by omega), us[i]'(by omega), q.1, q.2.1, q.2.2, List.getElem?_eq_getElem (by omega), List.getElem?_eq_getElem (by omega), List.getElem?_eq_getElem (by omega)⟩
  · obtain ⟨T, x, z, u, h1, h2, h3, h4, h5, h6⟩ := y
    exact ⟨T, x, z, u, h1, h2, h3, h4 xs q.1, h5 ys q.2.1, h6 us q.2.2⟩
theorem vi_zip3 {tr : TA} (h : VA K tr σ H [.tuple ds, .tuple es, .tuple us]) (hl : ds.length = es.length) (hl2 : ds.length = us.length) (f1 : FzAll ds = true) (f2 : FzAll es = true) (f3 : FzAll us = true) : VI (RZ.iZip3 K tr) K σ H (zipD3 ds es us) := fun R q => h H (Evl.Ex.refl H) _ fun vs H1 e1 hvs => by
  obtain ⟨v, ws, rfl, h1, hw⟩ := dps_cons hvs
  obtain ⟨w, u, rfl, h2, h3⟩ := dps2 hw
  obtain ⟨a, xs, rfl, hs, ha⟩ := dp_tup h1
  obtain ⟨b, ys, rfl, hs', hb⟩ := dp_tup h2
  obtain ⟨c, zs, rfl, hs'', hc⟩ := dp_tup h3
  have lz := zipD3_len hl hl2
  refine ⟨a, b, c, xs, ys, zs, rfl, hs, hs', hs'', q _ H1 _ _ e1 (lz ▸ walk_zip3 (K := K) (a := a) (b := b) (c := c) (dps_len ha) ((dps_len hb).trans hl.symm) ((dps_len hc).trans hl2.symm)) (fun H2 e2 => ⟨e2.sq hs, e2.sq hs', e2.sq hs''⟩) fun i H2 x H3 hi e2 y => ?_⟩
  obtain ⟨T, x1, x2, x3, rfl, hT, rfl, hx1, hx2, hx3⟩ := y
  rw [lz] at hi
  have g1 : ds[i]? = some ds[i] := List.getElem?_eq_getElem hi
  have g2 : es[i]? = some (es[i]'(by omega)) := List.getElem?_eq_getElem (by omega)
  have g3 : us[i]? = some (us[i]'(by omega)) := List.getElem?_eq_getElem (by omega)
  obtain ⟨v1, hv1, hd1⟩ := dps_get ha g1
  obtain ⟨v2, hv2, hd2⟩ := dps_get hb g2
  obtain ⟨v3, hv3, hd3⟩ := dps_get hc g3
  have q1 : v1 = x1 := Option.some.inj (hv1.symm.trans hx1)
  have q2 : v2 = x2 := Option.some.inj (hv2.symm.trans hx2)
  have q3 : v3 = x3 := Option.some.inj (hv3.symm.trans hx3)
  subst q1 q2 q3
  have en : Ex H2 (upd H2 T (.tup [v1, v2, v3])) := Evl.Ex.new hT
  have tn := e2.trans (Tx.of_ex en)
  exact ⟨en, _, zipD3_get g1 g2 g3, .tup (SqT.of upd_same) (.cons (dp_tx tn _ _ (fz_mem f1 (List.mem_of_getElem? g1)) hd1) (.cons (dp_tx tn _ _ (fz_mem f2 (List.mem_of_getElem? g2)) hd2) (.cons (dp_tx tn _ _ (fz_mem f3 (List.mem_of_getElem? g3)) hd3) .nil)))⟩
/-- a for, at given slots and heap -/
theorem vs_forI {wi : TI} {g : TG} (hi : VI wi K σ H ds)
    (k : ∀ H1, Ex H H1 → ∃ Pv : Nat → L2.St → Hp → Prop, Pv 0 σ H1 ∧ (∀ i σ' H', Pv i σ' H' → Tx H1 H') ∧
      (∀ i d σ' H' H3 v, ds[i]? = some d → Pv i σ' H' → Ex H' H3 → Dp K H3 v d → g v σ' H3 fun σ2 H2 => t1 { D with nx := Pv (i + 1), ct := Pv (i + 1), bk := D.nx } σ2 H2) ∧ (∀ σ' H', Pv ds.length σ' H' → D.nx σ' H')) : tFor wi g t1 D σ H := by
  refine hi _ fun J H1 G Y e1 w hG hY => ?_
  obtain ⟨Pv, h0, hT, hs, hd⟩ := k H1 e1
  refine for_it w Pv h0 (fun i σ' H' _ p => hG H' (hT i σ' H' p)) (fun i x σ' H' H3 hi p y => ?_) hd
  obtain ⟨e3, d, hd, hx⟩ := hY i H' x H3 hi (hT i σ' H' p) y
  exact hs i d σ' H' H3 x hd p e3 hx
end
end SR
end
section
set_option Elab.async false
set_option linter.all false
set_option maxRecDepth 100000
set_option maxHeartbeats 1000000
/-! The law's outcome of a call. -/
namespace SR
open PySem PySem.Spec PyProof.Rows L2
open Evl (Ex)
open C8 (Cal Met Mak pe_c pe_mt pe_mt0 pe_mk pe_gc)
open RZ (pi_zip3)
inductive Out where
  | zero
  | far
  | both (x y : Num)
def outD : Out → PyData
  | .zero => .str "zero"
  | .far => .str "far"
  | .both x y => bothD (x, y)
def farB (x : Num) : Bool := decide (x.2 * p2 1000 < x.1) || decide (x.1 * p2 1000 < x.2)
/-- the law's outcome -/
inductive OutR (c dc : Chain) (h : List Reg) : CallI → Out → Prop
  | load {t : Str} {x : Num} : OutR c dc h (.load t x) (.both x x)
  | root {t a : Str} {x : Num} (ga : getR h a = some (x, x)) (nx : Nm 1050 x) : OutR c dc h (.root t a) (.both (lawRoot x c) (lawRoot x dc))
  | zero {m : Meth2} {t a b : Str} {x y : Num} (ga : getR h a = some (x, x)) (gb : getR h b = some (y, y)) (nx : Nm 1050 x) (ny : Nm 1050 y) (e : (exactM m x y).1 = 0) : OutR c dc h (.bin m t a b) .zero
  | bin {m : Meth2} {t a b : Str} {x y : Num} (ga : getR h a = some (x, x)) (gb : getR h b = some (y, y)) (nx : Nm 1050 x) (ny : Nm 1050 y) (e : 0 < (exactM m x y).1) :
    OutR c dc h (.bin m t a b) (if (farB (appliedC (low (exactM m x y).1 (exactM m x y).2) c) || farB (appliedC (low (exactM m x y).1 (exactM m x y).2) dc)) = true then .far else .both (appliedC (low (exactM m x y).1 (exactM m x y).2) c) (appliedC (low (exactM m x y).1 (exactM m x y).2) dc))
def planD (c dc : Chain) : PyData := .tuple [chD c, chD dc]
theorem fz_plan (c dc : Chain) : Fz (planD c dc) = true := by
  show (Fz (chD c) && (Fz (chD dc) && true)) = true
  rw [fz_ch, fz_ch]
  rfl
theorem fz_call (cl : CallI) : Fz (callD cl) = true := by cases cl <;> rfl
def spOut (K : PySem.W.Frag) : Sp := fun vs H Q _ => ∃ (hl : Addr) (h : List Reg) (c dc : Chain) (cl : CallI) (o : Out) (vp vc : V), vs = [.ref hl, vp, vc] ∧ HeldAt K H hl h ∧ Dp K H vp (planD c dc) ∧ Dp K H vc (callD cl) ∧ ChOk c ∧ ChOk dc ∧ OutR c dc h cl o ∧
  ∀ v H', Ex H H' → Dp K H' v (outD o) → Q v H'
theorem vs_retTup {K : PySem.W.Frag} {te : TE} {es : List PyData} {D : Ends} {σ : L2.St} {H : Hp} (h : ∀ Q : VK, (∀ v H', Ex H H' → Dp K H' v (.list es) → Q v H') → te σ H Q) (k : ∀ v H', Ex H H' → Dp K H' v (.tuple es) → D.rt v H') :
    tRet (tCB (fun xs H Q => ∃ p ys, xs = [V.ref p] ∧ ((SqL K H p ys ∧ ∀ l, H l = none → Q (.ref l) (upd H l (.tup ys))) ∨ (SqT K H p ys ∧ Q (.ref p) H))) (tCons te tNil)) D σ H :=
  h _ fun v H1 e1 hv => by
    obtain ⟨p, xs, rfl, hs, hx⟩ := dp_lst hv
    exact ⟨p, xs, rfl, .inl ⟨hs, fun l hl => k _ _ (e1.trans (Evl.Ex.new hl)) (.tup (SqT.of upd_same) (dps_ex (Evl.Ex.new hl) _ _ hx))⟩⟩
theorem side_ix {c dc : Chain} (okc : ChOk c) (okd : ChOk dc) (x y u : Num) {i : Nat} {d : PyData} (h : (zipD3 [numD x, numD x] [numD y, numD y] [chD c, chD dc])[i]? = some d) :
    ∃ cc, ChOk cc ∧ d = .tuple [numD x, numD y, chD cc] ∧ [numD (appliedC u c), numD (appliedC u dc)][i]? = some (numD (appliedC u cc)) ∧ i < 2 := by
  match i, h with
  | 0, h => exact ⟨c, okc, (Option.some.inj h).symm, rfl, by decide⟩
  | 1, h => exact ⟨dc, okd, (Option.some.inj h).symm, rfl, by decide⟩
  | j + 2, h => simp [zipD3] at h
theorem far_any (r1 r2 : Num) : ([farB r1, farB r2].any _root_.id) = (farB r1 || farB r2) := by
  simp
section
variable {P : Program} {w : World} {K : PySem.W.Frag} {mg : Str → Option Value} {base : Heap}
theorem sc_law_outcome : FnScope ["_law_held", "_law_plan", "_law_call_here", "_law_found", "_law_one", "_law_other", "_law_side", "_law_n", "_law_d", "_law_far", "_law_number"] ["_law_held", "_law_plan", "_law_call_here"] (defScope s_law_outcome) := ⟨rfl, rfl, rfl, by decide +kernel, rfl, by decide +kernel, by decide +kernel⟩
theorem cal_law_outcome (T : Top w K mg) : Cal P w K mg base 7 "_law_outcome" (spOut K) [] := by
  obtain ⟨fd, F⟩ := T.f_law_outcome
  refine ⟨_, fd, ["_law_held", "_law_plan", "_law_call_here"], [], F.ok sc_law_outcome (fun vs H Q E h => ?_) (fun cdv A outer s H vs Q E hr h => ⟨_, PSs.nox (pss_cons (ps_if (pt_cmpR op_eq (pe_ix ix_tup (pv 2) pe_int (fun _ _ => rfl)) pe_str (nomark _)) (pss_one (ps_ret (pe_tup (pa_cons (pe_ix ix_tup (pv 2) pe_int (fun _ _ => rfl)) (pa_cons (pe_ix ix_tup (pv 2) pe_int (fun _ _ => rfl)) pa_nil))))) pss_nil)
      (pss_cons (ps_if (pt_cmpR op_eq (pe_ix ix_tup (pv 2) pe_int (fun _ _ => rfl)) pe_str (nomark _)) (pss_one (ps_ret (pe_callTy call_tuple_of (by rfl) T.b_tuple (by decide +kernel) (pa_cons (pe_lc (own := [("_law_number", 10), ("_law_side", 6)]) (g := gTup K 2 (gCons (gName 10) (gCons (gName 6) gNil))) (tt := tYes) rfl sc_law_outcome.nd (RZ.pi_zipA (by rfl) T.b_zip (pa_cons (pe_dget (by exact hu_of hr) (pv 0) (pe_ix ix_tup (pv 2) pe_int (fun _ _ => rfl)) (fun _ _ => rfl)) (pa_cons (pv 1) pa_nil))) (blkOk_by (N := ["_law_held", "_law_plan", "_law_call_here", "_law_found", "_law_one", "_law_other", "_law_side", "_law_n", "_law_d", "_law_far", "_law_number"]) (sc := defScope s_law_outcome) (by decide +kernel)) (fun _ _ _ _ _ => (pg_tup (n := 2) rfl (pgs_cons (pg_name (i := 10) sc_law_outcome.nd rfl (Or.inl rfl) (Or.inr rfl)) (pgs_cons (pg_name (i := 6) sc_law_outcome.nd rfl (Or.inl rfl) (Or.inr rfl)) pgs_nil)))) (fun _ _ _ _ _ => pts_nil) (fun _ _ _ _ _ => (pe_c (cal_law_root_by T) hr (by decide) rfl (pa_cons (pv 10) (pa_cons (pv 6) pa_nil))))) pa_nil)))) pss_nil)
      (pss_cons (ps_set (i := 3) sc_law_outcome.nd rfl (Or.inl rfl) (pe_lst pa_nil))
      (pss_cons (ps_for PassesOwn.never rfl (pi_zip3 (by rfl) T.b_zip (pa_cons (pe_dget (by exact hu_of hr) (pv 0) (pe_ix ix_tup (pv 2) pe_int (fun _ _ => rfl)) (fun _ _ => rfl)) (pa_cons (pe_dget (by exact hu_of hr) (pv 0) (pe_ix ix_tup (pv 2) pe_int (fun _ _ => rfl)) (fun _ _ => rfl)) (pa_cons (pv 1) pa_nil)))) (pg_tup (n := 3) rfl (pgs_cons (pg_name (i := 4) sc_law_outcome.nd rfl (Or.inl rfl)) (pgs_cons (pg_name (i := 5) sc_law_outcome.nd rfl (Or.inl rfl)) (pgs_cons (pg_name (i := 6) sc_law_outcome.nd rfl (Or.inl rfl)) pgs_nil)))) (pss_cons (ps_asg (pe_c (cal_law_exact T) hr (by decide) rfl (pa_cons (pe_ix ix_tup (pv 2) pe_int (fun _ _ => rfl)) (pa_cons (pv 4) (pa_cons (pv 5) pa_nil)))) (pg_tup (n := 2) rfl (pgs_cons (pg_name (i := 7) sc_law_outcome.nd rfl (Or.inl rfl)) (pgs_cons (pg_name (i := 8) sc_law_outcome.nd rfl (Or.inl rfl)) pgs_nil))))
      (pss_cons (ps_if (pt_cmpR op_eq (pv 7) pe_int (nomark _)) (pss_one (ps_ret pe_str)) pss_nil)
      (pss_one (ps_expr (pe_bm PySem.F.plainAttrs_list PySem.F.slot_list_append PySem.F.type_list_append mt_append (pv 3) (pa_cons (pe_c (cal_law_applied T) hr (by decide) rfl (pa_cons (pe_c (cal_law_low T) hr (by decide) rfl (pa_cons (pv 7) (pa_cons (pv 8) pa_nil))) (pa_cons (pv 6) pa_nil))) pa_nil)))))))
      (pss_cons (ps_set (i := 9) sc_law_outcome.nd rfl (Or.inl rfl) (pe_callB (cr_any rfl) (by rfl) T.b_any (by decide +kernel) (pa_cons (pe_lc (own := [("_law_n", 7), ("_law_d", 8)]) (g := gTup K 2 (gCons (gName 7) (gCons (gName 8) gNil))) (tt := tYes) rfl sc_law_outcome.nd (pi_list (pv 3)) (blkOk_by (N := ["_law_held", "_law_plan", "_law_call_here", "_law_found", "_law_one", "_law_other", "_law_side", "_law_n", "_law_d", "_law_far", "_law_number"]) (sc := defScope s_law_outcome) (by decide +kernel)) (fun _ _ _ _ _ => (pg_tup (n := 2) rfl (pgs_cons (pg_name (i := 7) sc_law_outcome.nd rfl (Or.inl rfl) (Or.inr rfl)) (pgs_cons (pg_name (i := 8) sc_law_outcome.nd rfl (Or.inl rfl) (Or.inr rfl)) pgs_nil)))) (fun _ _ _ _ _ => pts_nil) (fun _ _ _ _ _ => (pe_or (pe_cmpR op_gt (pv 7) (pe_op op_shlW (pv 8) pe_int) (nomark _)) (pe_one (pe_cmpR op_gt (pv 8) (pe_op op_shlW (pv 7) pe_int) (nomark _)))))) pa_nil)))
      (pss_one (ps_ret (pe_ifExp (pt_val (pv 9)) pe_str (pe_callTy call_tuple_of (by rfl) T.b_tuple (by decide +kernel) (pa_cons (pv 3) pa_nil)))))))))), ?_⟩), T.g_law_outcome, F.kp, F.bindsN (ps := ["_law_held", "_law_plan", "_law_call_here"]) fun _ _ _ _ _ _ us hl => match us, hl with | [_, _, _], _ => rfl, .nil⟩
  · obtain ⟨hl, h, c, dc, cl, o, vp, vc, rfl, _⟩ := h
    rfl
  obtain ⟨hl, h, c, dc, cl, o, vp, vc, rfl, hh, hp, hc, okc, okd, r, q⟩ := h
  have E0 : EnvR K H (start ["_law_held", "_law_plan", "_law_call_here", "_law_found", "_law_one", "_law_other", "_law_side", "_law_n", "_law_d", "_law_far", "_law_number"] [.ref hl, vp, vc]) [none, some (planD c dc), some (callD cl), none, none, none, none, none, none, none, none] :=
    envr_x (envr_c hp (envr_c hc (envr_x (envr_x (envr_x (envr_x (envr_x (envr_x (envr_x (envr_x envr_nil))))))))))
  have fp : FzAll [chD c, chD dc] = true := fz_plan c dc
  cases r with
  | @load t x =>
    refine vs_if (vt_x (XT.to (xt_test (xe_eqS (xe_ixT (ds := [.str "load", .str t, numD x]) (xe_var rfl) xe_int (by decide) rfl) xe_str)) (by decide +kernel : decide (("load" : Str) = "load") = true)) E0) (fun _ H1 e1 => ?_) (fun z => nomatch z)
    refine vs_ret (ve_x (xe_tup (xa_cons (xe_ixT (ds := [.str "load", .str t, numD x]) (xe_var rfl) xe_int (by decide) rfl) (xa_cons (xe_ixT (ds := [.str "load", .str t, numD x]) (xe_var rfl) xe_int (by decide) rfl) xa_nil)) (by show 2 ≤ 1000; decide)) (E0.ex e1)) fun v H2 e2 d2 => q v H2 (e1.trans e2) d2
  | @root t a x ga nx =>
    refine vs_if (vt_x (XT.to (xt_test (xe_eqS (xe_ixT (ds := [.str "root", .str t, .str a]) (xe_var rfl) xe_int (by decide) rfl) xe_str)) (by decide +kernel : decide (("root" : Str) = "load") = false)) E0) (fun z => nomatch z) (fun _ H1 e1 => ?_)
    have E1 := E0.ex e1
    refine vs_if (vt_x (XT.to (xt_test (xe_eqS (xe_ixT (ds := [.str "root", .str t, .str a]) (xe_var rfl) xe_int (by decide) rfl) xe_str)) (by decide +kernel : decide (("root" : Str) = "root") = true)) E1) (fun _ H2 e2 => ?_) (fun z => nomatch z)
    have E2 := E1.ex e2
    have h2 := (hh.ex e1).ex e2
    have Z : VI (RZ.iZipA K (tCons (tDGet (tVar 0) (tOp (rIxT K) (tVar 2) (tC (.int 2)))) (tCons (tVar 1) tNil))) K (start ["_law_held", "_law_plan", "_law_call_here", "_law_found", "_law_one", "_law_other", "_law_side", "_law_n", "_law_d", "_law_far", "_law_number"] [.ref hl, vp, vc]) H2 (zipD [numD x, numD x] [chD c, chD dc]) :=
      vi_zip (va_cons (ve_dget (vv_var rfl) (ve_x (xe_ixT (ds := [.str "root", .str t, .str a]) (xe_var rfl) xe_int (by decide) rfl) E2) h2 ga) (va_cons (ve_x (xe_var rfl) E2) va_nil)) rfl rfl fp
    have nx' := nx.mono (show 1050 ≤ 1100 by decide)
    refine vs_retTup (fun Q q => ve_lc (te := tCall (spP K R_law_root_by) [] C8.E0 (tCons (tVar 10) (tCons (tVar 6) tNil))) (g := gTup K 2 (gCons (gName 10) (gCons (gName 6) gNil))) (vs := [10, 6]) (es := [numD (lawRoot x c), numD (lawRoot x dc)]) Z E2 rfl (fun i d_ b_ h_ k_ => ?_) rfl (by show 2 ≤ 10000; decide) Q q) fun v H3 e3 d3 => ?_
    · match i, h_, k_ with
      | 0, h_, k_ =>
        cases Option.some.inj h_
        cases Option.some.inj k_
        exact ⟨_, _, by simp, xg_tup (xgs_cons xg_name (xgs_cons xg_name xgs_nil)) rfl, xe_call (xa_cons (xe_var rfl) (xa_cons (xe_var rfl) xa_nil)) (R_law_root_by.mk ⟨nx', okc⟩)⟩
      | 1, h_, k_ =>
        cases Option.some.inj h_
        cases Option.some.inj k_
        exact ⟨_, _, by simp, xg_tup (xgs_cons xg_name (xgs_cons xg_name xgs_nil)) rfl, xe_call (xa_cons (xe_var rfl) (xa_cons (xe_var rfl) xa_nil)) (R_law_root_by.mk ⟨nx', okd⟩)⟩
      | i + 2, h_, k_ => simp at k_
    · exact q v H3 ((e1.trans e2).trans e3) d3
  | @zero m t a b x y ga gb nx ny e =>
    have t1 : ∀ z : Str, (ms m = z) = (ms m = z) := fun _ => rfl
    have q1 : decide (ms m = ("load" : Str)) = false := by cases m <;> decide +kernel
    have q2 : decide (ms m = ("root" : Str)) = false := by cases m <;> decide +kernel
    refine vs_if (vt_x (XT.to (xt_test (xe_eqS (xe_ixT (ds := [.str (ms m), .str t, .str a, .str b]) (xe_var rfl) xe_int (by decide) rfl) xe_str)) q1) E0) (fun z => nomatch z) (fun _ H1 e1 => ?_)
    have E1 := E0.ex e1
    refine vs_if (vt_x (XT.to (xt_test (xe_eqS (xe_ixT (ds := [.str (ms m), .str t, .str a, .str b]) (xe_var rfl) xe_int (by decide) rfl) xe_str)) q2) E1) (fun z => nomatch z) (fun _ H2 e2 => ?_)
    have E2 := E1.ex e2
    have h2 := (hh.ex e1).ex e2
    have hex : Nm 1100 x ∧ Nm 1100 y := ⟨nx.mono (by decide), ny.mono (by decide)⟩
    have hR := R_law_exact.mk (m := m) hex
    have en := exact_nm (m := m) nx ny
    generalize exactM m x y = ee at *
    refine ⟨Nat.zero_le _, fun l hln => ?_⟩
    have e3 : Ex H2 (upd H2 l (.lst [])) := Evl.Ex.new hln
    have hlH : H l = none := Evl.fresh_back (e1.trans e2) hln
    have hl3 : (upd H2 l (.lst [])) l = some (.lst []) := upd_same
    have h3 := h2.ex e3
    have E3 : EnvR K (upd H2 l (.lst [])) ((start ["_law_held", "_law_plan", "_law_call_here", "_law_found", "_law_one", "_law_other", "_law_side", "_law_n", "_law_d", "_law_far", "_law_number"] [.ref hl, vp, vc]).set 3 (some (.ref l))) [none, some (planD c dc), some (callD (.bin m t a b)), none, none, none, none, none, none, none, none] := (E2.ex e3).setX
    have e03 := (e1.trans e2).trans e3
    generalize upd H2 l (.lst []) = H3 at *
    have Z : VI (RZ.iZip3 K (tCons (tDGet (tVar 0) (tOp (rIxT K) (tVar 2) (tC (.int 2)))) (tCons (tDGet (tVar 0) (tOp (rIxT K) (tVar 2) (tC (.int 3)))) (tCons (tVar 1) tNil)))) K ((start ["_law_held", "_law_plan", "_law_call_here", "_law_found", "_law_one", "_law_other", "_law_side", "_law_n", "_law_d", "_law_far", "_law_number"] [.ref hl, vp, vc]).set 3 (some (.ref l))) H3 (zipD3 [numD x, numD x] [numD y, numD y] [chD c, chD dc]) :=
      vi_zip3 (va_cons (ve_dget (vv_var rfl) (ve_x (xe_ixT (ds := [.str (ms m), .str t, .str a, .str b]) (xe_var rfl) xe_int (by decide) rfl) E3) h3 ga) (va_cons (ve_dget (vv_var rfl) (ve_x (xe_ixT (ds := [.str (ms m), .str t, .str a, .str b]) (xe_var rfl) xe_int (by decide) rfl) E3) h3 gb) (va_cons (ve_x (xe_var rfl) E3) va_nil))) rfl rfl rfl rfl fp
    have hs3 : ((start ["_law_held", "_law_plan", "_law_call_here", "_law_found", "_law_one", "_law_other", "_law_side", "_law_n", "_law_d", "_law_far", "_law_number"] [.ref hl, vp, vc]).set 3 (some (.ref l)))[3]? = some (some (.ref l)) := rfl
    refine vs_forI Z fun H4 e4 => ⟨fun i σ' H' => i = 0 ∧ EnvR K H' σ' [none, some (planD c dc), some (callD (.bin m t a b)), none, none, none, none, none, none, none, none] ∧ Tx H4 H' ∧ Ex H H', ⟨rfl, E3.ex e4, Tx.refl _, e03.trans e4⟩, fun i σ' H' ⟨_, _, p, _⟩ => p, ?_, ?_⟩
    · rintro i d σ' H5 H6 v hd ⟨rfl, E5, t5, e5⟩ e6 hv
      obtain ⟨cc, okcc, rfl, _, _⟩ := side_ix okc okd x y (0, 0) hd
      refine xg_tup (xgs_cons xg_name (xgs_cons xg_name (xgs_cons xg_name xgs_nil))) rfl σ' H6 v (E5.ex e6) hv _ fun σ7 E7 _ k7 => ?_
      refine hs_asgG (xe_call (xa_cons (xe_ixT (ds := [.str (ms m), .str t, .str a, .str b]) (xe_var rfl) xe_int (by decide) rfl) (xa_cons (xe_var rfl) (xa_cons (xe_var rfl) xa_nil))) hR) (xg_tup (xgs_cons xg_name (xgs_cons xg_name xgs_nil)) rfl) E7 fun σ8 H8 e8 E8 k8 => ?_
      refine hs_if (XT.to (xt_test (xe_eqI (xe_var rfl) xe_int)) (decide_eq_true e)) E8 (fun _ H9 e9 E9 => ?_) fun z => nomatch z
      exact hs_ret xe_str E9 fun v H10 e10 d10 => q v H10 ((((e5.trans e6).trans e8).trans e9).trans e10) d10
    · rintro σ' H5 ⟨z, _⟩
      cases z
  | @bin m t a b x y ga gb nx ny e =>
    have t1 : ∀ z : Str, (ms m = z) = (ms m = z) := fun _ => rfl
    have q1 : decide (ms m = ("load" : Str)) = false := by cases m <;> decide +kernel
    have q2 : decide (ms m = ("root" : Str)) = false := by cases m <;> decide +kernel
    refine vs_if (vt_x (XT.to (xt_test (xe_eqS (xe_ixT (ds := [.str (ms m), .str t, .str a, .str b]) (xe_var rfl) xe_int (by decide) rfl) xe_str)) q1) E0) (fun z => nomatch z) (fun _ H1 e1 => ?_)
    have E1 := E0.ex e1
    refine vs_if (vt_x (XT.to (xt_test (xe_eqS (xe_ixT (ds := [.str (ms m), .str t, .str a, .str b]) (xe_var rfl) xe_int (by decide) rfl) xe_str)) q2) E1) (fun z => nomatch z) (fun _ H2 e2 => ?_)
    have E2 := E1.ex e2
    have h2 := (hh.ex e1).ex e2
    have hex : Nm 1100 x ∧ Nm 1100 y := ⟨nx.mono (by decide), ny.mono (by decide)⟩
    have hR := R_law_exact.mk (m := m) hex
    have en := exact_nm (m := m) nx ny
    generalize exactM m x y = ee at *
    refine ⟨Nat.zero_le _, fun l hln => ?_⟩
    have e3 : Ex H2 (upd H2 l (.lst [])) := Evl.Ex.new hln
    have hlH : H l = none := Evl.fresh_back (e1.trans e2) hln
    have hl3 : (upd H2 l (.lst [])) l = some (.lst []) := upd_same
    have h3 := h2.ex e3
    have E3 : EnvR K (upd H2 l (.lst [])) ((start ["_law_held", "_law_plan", "_law_call_here", "_law_found", "_law_one", "_law_other", "_law_side", "_law_n", "_law_d", "_law_far", "_law_number"] [.ref hl, vp, vc]).set 3 (some (.ref l))) [none, some (planD c dc), some (callD (.bin m t a b)), none, none, none, none, none, none, none, none] := (E2.ex e3).setX
    have e03 := (e1.trans e2).trans e3
    generalize upd H2 l (.lst []) = H3 at *
    have Z : VI (RZ.iZip3 K (tCons (tDGet (tVar 0) (tOp (rIxT K) (tVar 2) (tC (.int 2)))) (tCons (tDGet (tVar 0) (tOp (rIxT K) (tVar 2) (tC (.int 3)))) (tCons (tVar 1) tNil)))) K ((start ["_law_held", "_law_plan", "_law_call_here", "_law_found", "_law_one", "_law_other", "_law_side", "_law_n", "_law_d", "_law_far", "_law_number"] [.ref hl, vp, vc]).set 3 (some (.ref l))) H3 (zipD3 [numD x, numD x] [numD y, numD y] [chD c, chD dc]) :=
      vi_zip3 (va_cons (ve_dget (vv_var rfl) (ve_x (xe_ixT (ds := [.str (ms m), .str t, .str a, .str b]) (xe_var rfl) xe_int (by decide) rfl) E3) h3 ga) (va_cons (ve_dget (vv_var rfl) (ve_x (xe_ixT (ds := [.str (ms m), .str t, .str a, .str b]) (xe_var rfl) xe_int (by decide) rfl) E3) h3 gb) (va_cons (ve_x (xe_var rfl) E3) va_nil))) rfl rfl rfl rfl fp
    have hs3 : ((start ["_law_held", "_law_plan", "_law_call_here", "_law_found", "_law_one", "_law_other", "_law_side", "_law_n", "_law_d", "_law_far", "_law_number"] [.ref hl, vp, vc]).set 3 (some (.ref l)))[3]? = some (some (.ref l)) := rfl
    have nu : Nm 2200 (low ee.1 ee.2) := low_nm e en.1 en.2.2.1 en.2.2.2
    have preL : 0 ≤ ee.1 ∧ 0 < ee.2 ∧ Bd 9000 ee.2 := ⟨en.2.1, en.1, en.2.2.2.mono (by decide)⟩
    have hlow := R_law_low.mk preL
    generalize low ee.1 ee.2 = u at *
    refine vs_forI Z fun H4 e4 => ⟨fun i σ' H' => ∃ vs, σ'[3]? = some (some (.ref l)) ∧ H' l = some (.lst vs) ∧ vs.length = i ∧ DpAll K H' vs ([numD (appliedC u c), numD (appliedC u dc)].take i) ∧ EnvR K H' σ' [none, some (planD c dc), some (callD (.bin m t a b)), none, none, none, none, none, none, none, none] ∧ Tx H4 H' ∧ Ex H H',
      ⟨[], hs3, e4 _ _ hl3, rfl, .nil, E3.ex e4, Tx.refl _, e03.trans e4⟩, fun i σ' H' ⟨_, _, _, _, _, _, p, _⟩ => p, ?_, ?_⟩
    · rintro i d σ' H5 H6 v hd ⟨vs, hsl, hvl, hlen, hda, E5, t5, e5⟩ e6 hv
      obtain ⟨cc, okcc, rfl, hr2, hi2⟩ := side_ix okc okd x y u hd
      refine xg_tup (xgs_cons xg_name (xgs_cons xg_name (xgs_cons xg_name xgs_nil))) rfl σ' H6 v (E5.ex e6) hv _ fun σ7 E7 _ k7 => ?_
      refine hs_asgG (xe_call (xa_cons (xe_ixT (ds := [.str (ms m), .str t, .str a, .str b]) (xe_var rfl) xe_int (by decide) rfl) (xa_cons (xe_var rfl) (xa_cons (xe_var rfl) xa_nil))) hR) (xg_tup (xgs_cons xg_name (xgs_cons xg_name xgs_nil)) rfl) E7 fun σ8 H8 e8 E8 k8 => ?_
      refine hs_if (XT.to (xt_test (xe_eqI (xe_var rfl) xe_int)) (decide_eq_false (Int.ne_of_gt e))) E8 (fun z => nomatch z) fun _ H9 e9 E9 => ?_
      have hs8 : σ8[3]? = some (some (.ref l)) := by
        rw [k8 3 (by decide), k7 3 (by decide)]
        exact hsl
      have hv9 := e9 _ _ (e8 _ _ (e6 _ _ hvl))
      refine hs_app hs8 hv9 (by omega) (xe_call (xa_cons (xe_call (xa_cons (xe_var rfl) (xa_cons (xe_var rfl) xa_nil)) hlow) (xa_cons (xe_var rfl) xa_nil)) (R_law_applied.mk ⟨okcc, nu⟩)) E9 (by
        show (Fz (planD c dc) && (Fz (numD x) && (Fz (numD y) && (Fz (chD cc) && true)))) = true
        rw [fz_plan, fz_ch]
        rfl) fun v10 H10 e10 d10 E10 => ?_
      have hv10 := e10 _ _ hv9
      have e610 := ((e6.trans e8).trans e9).trans e10
      refine ⟨vs ++ [v10], hs8, upd_same, by rw [List.length_append, hlen]; rfl, ?_, (((((E10.drop 4).drop 5).drop 6).drop 7).drop 8), (t5.trans (Tx.of_ex e610)).trans (Tx.lst hv10), Evl.Ex.mut (e5.trans e610) hlH⟩
      rw [take_snoc hr2]
      refine dps_app (dps_tx (Tx.lst hv10) _ _ (fz_all fun d hd => ?_) (dps_ex e610 _ _ hda)) (.cons (dp_tx (Tx.lst hv10) _ _ rfl d10) .nil)
      have := List.mem_of_mem_take hd
      simp only [List.mem_cons, List.not_mem_nil, or_false] at this
      rcases this with rfl | rfl <;> rfl
    · rintro σ' H5 ⟨vs, hsl, hvl, hlen, hda, E5, t5, e5⟩
      have n1 := (applied_nm nu okc.ok).mono (show 2200 + 101 * c.length ≤ 9000 by have := okc.le; omega)
      have n2 := (applied_nm nu okd.ok).mono (show 2200 + 101 * dc.length ≤ 9000 by have := okd.le; omega)
      have hda' : DpAll K H5 vs [numD (appliedC u c), numD (appliedC u dc)] := hda
      generalize appliedC u c = r1 at *
      generalize appliedC u dc = r2 at *
      have E6 : EnvR K H5 σ' [none, some (planD c dc), some (callD (.bin m t a b)), some (.list [numD r1, numD r2]), none, none, none, none, none, none, none] := by
        have := E5.set (i := 3) (v := .ref l) (d := .list [numD r1, numD r2]) (.lst (SqL.of hvl) hda')
        have es : σ'.set 3 (some (.ref l)) = σ' := by
          apply List.ext_getElem?
          intro j
          by_cases hj : 3 = j
          · subst hj
            rw [List.getElem?_set_self (by rw [E5.len]; show 3 < 11; decide), hsl]
          · rw [List.getElem?_set_ne hj]
        rw [es] at this
        exact this
      have FB : ∀ r : Num, Nm 9000 r → ∀ {ρ : Rho}, ρ[7]? = some (some (.int r.1)) → ρ[8]? = some (some (.int r.2)) → XE K (tOrV (tOp (rI0 fun i j => .bl (decide (j < i))) (tVar 7) (tOp (rI CShl fun i j => .int (i * 2 ^ j.toNat)) (tVar 8) (tC (.int 1000)))) (tOp (rI0 fun i j => .bl (decide (j < i))) (tVar 8) (tOp (rI CShl fun i j => .int (i * 2 ^ j.toNat)) (tVar 7) (tC (.int 1000))))) ρ (.bool (farB r)) := fun r nr ρ h7 h8 =>
        xe_orV (xe_gt (xe_var h7) (xe_shl (xe_var h8) xe_int (nr.d.shl (b := 1000) (by decide) (by decide) (by decide)))) fun _ => xe_gt (xe_var h8) (xe_shl (xe_var h7) xe_int (nr.n.shl (b := 1000) (by decide) (by decide) (by decide)))
      refine hs_asg (xe_any (bs := [farB r1, farB r2]) (xe_lc (es := [.bool (farB r1), .bool (farB r2)]) (xi_list (ds := [numD r1, numD r2]) (xe_var rfl)) rfl (fun i d_ b_ h_ k_ => ?_) rfl (by show 2 ≤ 10000; decide))) E6 fun v7 H7 e7 E7 d7 => ?_
      · match i, h_, k_ with
        | 0, h_, k_ =>
          cases Option.some.inj h_
          cases Option.some.inj k_
          exact ⟨_, _, by simp, xg_tup (xgs_cons xg_name (xgs_cons xg_name xgs_nil)) rfl, FB r1 n1 rfl rfl⟩
        | 1, h_, k_ =>
          cases Option.some.inj h_
          cases Option.some.inj k_
          exact ⟨_, _, by simp, xg_tup (xgs_cons xg_name (xgs_cons xg_name xgs_nil)) rfl, FB r2 n2 rfl rfl⟩
        | i + 2, h_, k_ => simp at k_
      · rw [far_any] at E7
        refine hs_ret (xe_ifC (xt_B (xe_var rfl)) (fun _ => xe_str) (fun _ => xe_tupL (xe_var rfl))) E7 fun v8 H8 e8 d8 => ?_
        refine q v8 H8 ((e5.trans e7).trans e8) ?_
        by_cases hf : (farB r1 || farB r2) = true
        · rw [if_pos hf] at d8 ⊢
          exact d8
        · rw [if_neg hf] at d8 ⊢
          exact d8
end
end SR
end
section
set_option Elab.async false
set_option linter.all false
set_option maxRecDepth 100000
set_option maxHeartbeats 1000000
/-! The law's calls done. -/
namespace SR
open PySem PySem.Spec PyProof.Rows L2
open Evl (Ex)
open C8 (Cal Met Mak pe_c pe_mt pe_mt0 pe_mk pe_gc)
inductive DoneR (S : BS) : CallI → BS → Prop
  | load {z : Str} {x : Num} (h : NameOk z ∧ Nm1 x ∧ Nm 3500 x ∧ InR x ∧ roundOnce x (minW S.ch) .down = x) : DoneR S (.load z x) (S.store z (x, x) (loadD z x))
  | root {t a : Str} {x : Num} (h : RootOk S t a x) : DoneR S (.root t a) (S.store t (resR S x) (rootD t a))
  | bin {m : Meth2} {t a b : Str} {x y : Num} (h : BinOk S m t a b x y) : DoneR S (.bin m t a b) (S.store t (res S (low (exactM m x y).1 (exactM m x y).2)) (binD m t a b))
def spDone (K : PySem.W.Frag) : Sp := fun vs H Q _ => ∃ (A : BA) (S S' : BS) (cl : CallI) (vc : V), vs = [.ref A.p, vc] ∧ Bn K H A S ∧ S.Ok ∧ Dp K H vc (callD cl) ∧ DoneR S cl S' ∧ ∀ H', Exs [A.hd, A.ml, A.sl, A.pl] H H' → Bn K H' A S' → Q .non H'
section
variable {K : PySem.W.Frag} {t u ta tb te : TE} {d d1 d2 : PyData} {ds es : List PyData} {t1 t2 : TS} {i j : Nat} {D : Ends} {σ : L2.St} {H : Hp} {v : V} {A : BA} {S S' : BS}
theorem vs_mmR {m : Str} {R : BS → List PyData → BS → Prop} {tr : TA} (ho : VV ta σ H (.ref A.p)) (B : Bn K H A S) (ok : S.Ok) (hl : (benchF A S.r).lookup m = none) (ha : VA K tr σ H ds) (r : R S ds S')
    (k : ∀ H', Exs [A.hd, A.ml, A.sl, A.pl] H H' → Bn K H' A S' → D.rt .non H') : tRet (tMeth (bC K) m (spM K R) [] C8.E0 ta tr) D σ H :=
  ho H (Evl.Ex.refl H) _ fun H1 e1 => ⟨A.p, A.dx, _, rfl, e1 _ _ B.ob, hl, ha H1 e1 _ fun vs H2 e2 hvs => ⟨A, S, vs ++ [], ds, S', rfl, B.ex (e1.trans e2), ok, by rw [List.append_nil]; exact hvs, r, fun H3 x3 B3 => k H3 ((Exs.of (e1.trans e2)).trans x3) B3⟩⟩
end
section
variable {P : Program} {w : World} {K : PySem.W.Frag} {mg : Str → Option Value} {base : Heap}
theorem sc_law_done : FnScope ["_law_bench", "_law_call_here"] ["_law_bench", "_law_call_here"] (defScope s_law_done) := ⟨rfl, rfl, rfl, by decide +kernel, rfl, by decide +kernel, by decide +kernel⟩
theorem cal_law_done (T : Top w K mg) : Cal P w K mg base 10 "_law_done" (spDone K) [] := by
  obtain ⟨fd, F⟩ := T.f_law_done
  refine ⟨_, fd, ["_law_bench", "_law_call_here"], [], F.ok sc_law_done (fun vs H Q E h => ?_) (fun cdv A outer s H vs Q E hr h => ⟨_, PSs.nox (pss_cons (ps_if (pt_cmpR op_eq (pe_ix ix_tup (pv 1) pe_int (fun _ _ => rfl)) pe_str (nomark _)) (pss_one (ps_ret (pe_mt (met_Bench_load T) hr (by decide) (pv 0) (pa_cons (pe_ix ix_tup (pv 1) pe_int (fun _ _ => rfl)) (pa_cons (pe_ix ix_tup (pv 1) pe_int (fun _ _ => rfl)) pa_nil))))) pss_nil)
      (pss_cons (ps_if (pt_cmpR op_eq (pe_ix ix_tup (pv 1) pe_int (fun _ _ => rfl)) pe_str (nomark _)) (pss_one (ps_ret (pe_mt (met_Bench_root T) hr (by decide) (pv 0) (pa_cons (pe_ix ix_tup (pv 1) pe_int (fun _ _ => rfl)) (pa_cons (pe_ix ix_tup (pv 1) pe_int (fun _ _ => rfl)) pa_nil))))) pss_nil)
      (pss_cons (ps_if (pt_cmpR op_eq (pe_ix ix_tup (pv 1) pe_int (fun _ _ => rfl)) pe_str (nomark _)) (pss_one (ps_ret (pe_mt (met_Bench_add T) hr (by decide) (pv 0) (pa_cons (pe_ix ix_tup (pv 1) pe_int (fun _ _ => rfl)) (pa_cons (pe_ix ix_tup (pv 1) pe_int (fun _ _ => rfl)) (pa_cons (pe_ix ix_tup (pv 1) pe_int (fun _ _ => rfl)) pa_nil)))))) pss_nil)
      (pss_cons (ps_if (pt_cmpR op_eq (pe_ix ix_tup (pv 1) pe_int (fun _ _ => rfl)) pe_str (nomark _)) (pss_one (ps_ret (pe_mt (met_Bench_subtract T) hr (by decide) (pv 0) (pa_cons (pe_ix ix_tup (pv 1) pe_int (fun _ _ => rfl)) (pa_cons (pe_ix ix_tup (pv 1) pe_int (fun _ _ => rfl)) (pa_cons (pe_ix ix_tup (pv 1) pe_int (fun _ _ => rfl)) pa_nil)))))) pss_nil)
      (pss_cons (ps_if (pt_cmpR op_eq (pe_ix ix_tup (pv 1) pe_int (fun _ _ => rfl)) pe_str (nomark _)) (pss_one (ps_ret (pe_mt (met_Bench_multiply T) hr (by decide) (pv 0) (pa_cons (pe_ix ix_tup (pv 1) pe_int (fun _ _ => rfl)) (pa_cons (pe_ix ix_tup (pv 1) pe_int (fun _ _ => rfl)) (pa_cons (pe_ix ix_tup (pv 1) pe_int (fun _ _ => rfl)) pa_nil)))))) pss_nil)
      (pss_one (ps_ret (pe_mt (met_Bench_divide T) hr (by decide) (pv 0) (pa_cons (pe_ix ix_tup (pv 1) pe_int (fun _ _ => rfl)) (pa_cons (pe_ix ix_tup (pv 1) pe_int (fun _ _ => rfl)) (pa_cons (pe_ix ix_tup (pv 1) pe_int (fun _ _ => rfl)) pa_nil))))))))))), ?_⟩), T.g_law_done, F.kp, F.bindsN (ps := ["_law_bench", "_law_call_here"]) fun _ _ _ _ _ _ us hl => match us, hl with | [_, _], _ => rfl, .nil⟩
  · obtain ⟨A, S, S', cl, vc, rfl, _⟩ := h
    rfl
  obtain ⟨A, S, S', cl, vc, rfl, B, ok, hc, r, q⟩ := h
  have E0 : EnvR K H (start ["_law_bench", "_law_call_here"] [.ref A.p, vc]) [none, some (callD cl)] := envr_x (envr_c hc envr_nil)
  cases r with
  | @load z x h =>
    refine vs_if (vt_x (XT.to (xt_test (xe_eqS (xe_ixT (ds := [.str "load", .str z, numD x]) (xe_var rfl) xe_int (by decide) rfl) xe_str)) (by decide +kernel : decide (("load" : Str) = "load") = true)) E0) (fun _ H1 e1 => ?_) (fun z => nomatch z)
    have E1 := E0.ex e1
    exact vs_mmR (vv_var rfl) (B.ex e1) ok rfl (va_cons (ve_x (xe_ixT (ds := [.str "load", .str z, numD x]) (xe_var rfl) xe_int (by decide) rfl) E1) (va_cons (ve_x (xe_ixT (ds := [.str "load", .str z, numD x]) (xe_var rfl) xe_int (by decide) rfl) E1) va_nil)) (RM_load.mk h) fun H2 x2 B2 => q H2 ((Exs.of e1).trans x2) B2
  | @root t a x h =>
    refine vs_if (vt_x (XT.to (xt_test (xe_eqS (xe_ixT (ds := [.str "root", .str t, .str a]) (xe_var rfl) xe_int (by decide) rfl) xe_str)) (by decide +kernel : decide (("root" : Str) = "load") = false)) E0) (fun z => nomatch z) (fun _ H1 e1 => ?_)
    have E1 := E0.ex e1
    refine vs_if (vt_x (XT.to (xt_test (xe_eqS (xe_ixT (ds := [.str "root", .str t, .str a]) (xe_var rfl) xe_int (by decide) rfl) xe_str)) (by decide +kernel : decide (("root" : Str) = "root") = true)) E1) (fun _ H2 e2 => ?_) (fun z => nomatch z)
    have E2 := E1.ex e2
    have e12 := e1.trans e2
    exact vs_mmR (vv_var rfl) (B.ex e12) ok rfl (va_cons (ve_x (xe_ixT (ds := [.str "root", .str t, .str a]) (xe_var rfl) xe_int (by decide) rfl) E2) (va_cons (ve_x (xe_ixT (ds := [.str "root", .str t, .str a]) (xe_var rfl) xe_int (by decide) rfl) E2) va_nil)) (RM_root.mk h) fun H3 x3 B3 => q H3 ((Exs.of e12).trans x3) B3
  | @bin m t a b x y h =>
    have I : ∀ (n : Nat) (z : PyData) {H1 : Hp}, [.str (ms m), .str t, .str a, .str b][n]? = some z → Ex H H1 → VE K (tOp (rIxT K) (tVar 1) (tC (.int n))) (start ["_law_bench", "_law_call_here"] [.ref A.p, vc]) H1 z := fun n z H1 hz e1 =>
      ve_x (xe_ixT (ds := [.str (ms m), .str t, .str a, .str b]) (xe_var rfl) xe_int (by omega) hz) (E0.ex e1)
    have q1 : decide (ms m = ("load" : Str)) = false := by cases m <;> decide +kernel
    have q2 : decide (ms m = ("root" : Str)) = false := by cases m <;> decide +kernel
    refine vs_if (VT.to (vt_test (ve_eqS (I 0 _ rfl (Evl.Ex.refl _)) ve_str)) q1) (fun z => nomatch z) (fun _ H1 e1 => ?_)
    refine vs_if (VT.to (vt_test (ve_eqS (I 0 _ rfl e1) ve_str)) q2) (fun z => nomatch z) (fun _ H2 e2 => ?_)
    have e12 := e1.trans e2
    cases m with
    | add =>
      refine vs_if (VT.to (vt_test (ve_eqS (I 0 _ rfl e12) ve_str)) (by decide +kernel : decide (ms .add = ("add" : Str)) = true)) (fun _ H3 e3 => ?_) (fun z => nomatch z)
      have e13 := e12.trans e3
      exact vs_mmR (vv_var rfl) (B.ex e13) ok rfl (va_cons (I 1 _ rfl e13) (va_cons (I 2 _ rfl e13) (va_cons (I 3 _ rfl e13) va_nil))) (RM_bin.mk h) fun H4 x4 B4 => q H4 ((Exs.of e13).trans x4) B4
    | subtract =>
      refine vs_if (VT.to (vt_test (ve_eqS (I 0 _ rfl e12) ve_str)) (by decide +kernel : decide (ms .subtract = ("add" : Str)) = false)) (fun z => nomatch z) (fun _ H3 e3 => ?_)
      have e13 := e12.trans e3
      refine vs_if (VT.to (vt_test (ve_eqS (I 0 _ rfl e13) ve_str)) (by decide +kernel : decide (ms .subtract = ("subtract" : Str)) = true)) (fun _ H4 e4 => ?_) (fun z => nomatch z)
      have e14 := e13.trans e4
      exact vs_mmR (vv_var rfl) (B.ex e14) ok rfl (va_cons (I 1 _ rfl e14) (va_cons (I 2 _ rfl e14) (va_cons (I 3 _ rfl e14) va_nil))) (RM_bin.mk h) fun H4 x4 B4 => q H4 ((Exs.of e14).trans x4) B4
    | multiply =>
      refine vs_if (VT.to (vt_test (ve_eqS (I 0 _ rfl e12) ve_str)) (by decide +kernel : decide (ms .multiply = ("add" : Str)) = false)) (fun z => nomatch z) (fun _ H3 e3 => ?_)
      have e13 := e12.trans e3
      refine vs_if (VT.to (vt_test (ve_eqS (I 0 _ rfl e13) ve_str)) (by decide +kernel : decide (ms .multiply = ("subtract" : Str)) = false)) (fun z => nomatch z) (fun _ H4 e4 => ?_)
      have e14 := e13.trans e4
      refine vs_if (VT.to (vt_test (ve_eqS (I 0 _ rfl e14) ve_str)) (by decide +kernel : decide (ms .multiply = ("multiply" : Str)) = true)) (fun _ H5 e5 => ?_) (fun z => nomatch z)
      have e15 := e14.trans e5
      exact vs_mmR (vv_var rfl) (B.ex e15) ok rfl (va_cons (I 1 _ rfl e15) (va_cons (I 2 _ rfl e15) (va_cons (I 3 _ rfl e15) va_nil))) (RM_bin.mk h) fun H4 x4 B4 => q H4 ((Exs.of e15).trans x4) B4
    | divide =>
      refine vs_if (VT.to (vt_test (ve_eqS (I 0 _ rfl e12) ve_str)) (by decide +kernel : decide (ms .divide = ("add" : Str)) = false)) (fun z => nomatch z) (fun _ H3 e3 => ?_)
      have e13 := e12.trans e3
      refine vs_if (VT.to (vt_test (ve_eqS (I 0 _ rfl e13) ve_str)) (by decide +kernel : decide (ms .divide = ("subtract" : Str)) = false)) (fun z => nomatch z) (fun _ H4 e4 => ?_)
      have e14 := e13.trans e4
      refine vs_if (VT.to (vt_test (ve_eqS (I 0 _ rfl e14) ve_str)) (by decide +kernel : decide (ms .divide = ("multiply" : Str)) = false)) (fun z => nomatch z) (fun _ H5 e5 => ?_)
      have e15 := e14.trans e5
      exact vs_mmR (vv_var rfl) (B.ex e15) ok rfl (va_cons (I 1 _ rfl e15) (va_cons (I 2 _ rfl e15) (va_cons (I 3 _ rfl e15) va_nil))) (RM_bin.mk h) fun H4 x4 B4 => q H4 ((Exs.of e15).trans x4) B4
end
end SR
end
section
set_option Elab.async false
set_option linter.all false
set_option maxRecDepth 100000
set_option maxHeartbeats 1000000
/-! Registers, plainly. -/
namespace SR
open PySem PySem.Spec PyProof.Rows L2
theorem getR_none : ∀ {h : List Reg} {z : Str}, z ∉ keysR h → getR h z = none
  | [], z, m => rfl
  | q :: h, z, m => by
    unfold getR
    have h1 : q.1 ≠ z := fun e => m (by rw [← e]; exact List.mem_cons_self ..)
    rw [if_neg h1]
    exact getR_none fun e => m (List.mem_cons_of_mem _ e)
theorem getR_in : ∀ {h : List Reg} {z : Str} {x : Num × Num}, getR h z = some x → ∃ q ∈ h, q.1 = z ∧ q.2 = x
  | [], z, x, e => nomatch e
  | q :: h, z, x, e => by
    unfold getR at e
    by_cases hz : q.1 = z
    · rw [if_pos hz] at e
      exact ⟨q, List.mem_cons_self .., hz, Option.some.inj e⟩
    · rw [if_neg hz] at e
      obtain ⟨q', h1, h2⟩ := getR_in e
      exact ⟨q', List.mem_cons_of_mem _ h1, h2⟩
theorem any_keys {h : List Reg} {z : Str} : (h.any fun q => decide (q.1 = z)) = true ↔ z ∈ keysR h := by
  unfold keysR
  rw [List.any_eq_true, List.mem_map]
  constructor
  · rintro ⟨q, hq, e⟩
    exact ⟨q, hq, of_decide_eq_true e⟩
  · rintro ⟨q, hq, e⟩
    exact ⟨q, hq, decide_eq_true e⟩
theorem getR_map (t : Str) (x : Num × Num) : ∀ (h : List Reg) (z : Str), getR (h.map fun q => if q.1 = t then (q.1, x) else q) z = if z = t then (if t ∈ keysR h then some x else none) else getR h z
  | [], z => by
    show none = _
    by_cases hz : z = t
    · rw [if_pos hz, if_neg (by simp [keysR])]
    · rw [if_neg hz]; rfl
  | q :: h, z => by
    have ih := getR_map t x h z
    rw [List.map_cons]
    by_cases hq : q.1 = t
    · rw [if_pos hq]
      unfold getR
      by_cases hz : z = t
      · rw [if_pos hz, if_pos (by rw [hq, hz]), if_pos (by unfold keysR; rw [List.map_cons, hq]; exact List.mem_cons_self ..)]
      · have h1 : ¬ q.1 = z := fun e => hz (e ▸ hq)
        rw [if_neg hz, if_neg h1, ih, if_neg hz]
        rw [if_neg h1]
    · rw [if_neg hq]
      unfold getR
      by_cases hz : z = t
      · have h1 : ¬ q.1 = z := fun e => hq (e.trans hz)
        rw [if_neg h1, ih, if_pos hz, if_pos hz]
        have e2 : (t ∈ keysR (q :: h)) ↔ t ∈ keysR h := by
          unfold keysR
          rw [List.map_cons, List.mem_cons]
          exact ⟨fun z => z.resolve_left fun e => hq e.symm, Or.inr⟩
        by_cases hm : t ∈ keysR h
        · rw [if_pos hm, if_pos (e2.mpr hm)]
        · rw [if_neg hm, if_neg fun z => hm (e2.mp z)]
      · rw [ih, if_neg hz, if_neg hz]
theorem getR_app (t : Str) (x : Num × Num) : ∀ (h : List Reg) (z : Str), t ∉ keysR h → getR (h ++ [(t, x)]) z = if z = t then some x else getR h z
  | [], z, _ => by
    show (if t = z then some x else none) = _
    by_cases hz : z = t
    · rw [if_pos hz, if_pos hz.symm]
    · rw [if_neg hz, if_neg fun e => hz e.symm]; rfl
  | q :: h, z, hm => by
    have h1 : t ∉ keysR h := fun e => hm (List.mem_cons_of_mem _ e)
    have h2 : ¬ q.1 = t := fun e => hm (by unfold keysR; rw [List.map_cons, e]; exact List.mem_cons_self ..)
    have ih := getR_app t x h z h1
    rw [List.cons_append]
    unfold getR
    by_cases hq : q.1 = z
    · have : ¬ z = t := fun e => h2 (hq.trans e)
      rw [if_pos hq, if_neg this, if_pos hq]
    · rw [if_neg hq, ih, if_neg hq]
theorem getR_put (h : List Reg) (t : Str) (x : Num × Num) (z : Str) : getR (putR h t x) z = if z = t then some x else getR h z := by
  unfold putR
  by_cases hm : t ∈ keysR h
  · rw [if_pos (any_keys.mpr hm), getR_map, if_pos hm]
  · rw [if_neg fun e => hm (any_keys.mp e), getR_app t x h z hm]
theorem keys_put (h : List Reg) (t : Str) (x : Num × Num) : keysR (putR h t x) = if t ∈ keysR h then keysR h else keysR h ++ [t] := by
  unfold putR
  by_cases hm : t ∈ keysR h
  · rw [if_pos (any_keys.mpr hm), if_pos hm]
    unfold keysR
    rw [List.map_map]
    apply List.map_congr_left
    intro q _
    show (if q.1 = t then (q.1, x) else q).1 = q.1
    split <;> rfl
  · rw [if_neg fun e => hm (any_keys.mp e), if_neg hm]
    unfold keysR
    rw [List.map_append]
    rfl
theorem nodup_put {h : List Reg} (hn : (keysR h).Nodup) (t : Str) (x : Num × Num) : (keysR (putR h t x)).Nodup := by
  rw [keys_put]
  split
  · exact hn
  · rename_i hm
    rw [List.nodup_append]
    refine ⟨hn, by simp, ?_⟩
    intro a ha b hb
    cases List.mem_singleton.mp hb
    intro e
    exact hm (e ▸ ha)
/-- each name's two results are the same -/
def Same (h : List Reg) : Prop := ∀ z x, getR h z = some x → x.1 = x.2
theorem flt_same {h : List Reg} (s : Same h) (z : Str) : flt h z = false := by
  unfold flt
  cases e : getR h z with
  | none => rfl
  | some x =>
    have := s z x e
    simp [this]
theorem diff_none {h : List Reg} (s : Same h) (ys : List Str) : (ys.filter (flt h)).map PyData.str = [] := by
  have : ys.filter (flt h) = [] := by
    rw [List.filter_eq_nil_iff]
    intro z _
    rw [flt_same s z]
    decide
  rw [this]
  rfl
theorem filter_one {t : Str} : ∀ {ys : List Str}, ys.Nodup → t ∈ ys → ys.filter (fun z => decide (z = t)) = [t]
  | [], _, m => by cases m
  | y :: ys, hn, m => by
    rw [List.nodup_cons] at hn
    by_cases hy : y = t
    · subst hy
      rw [List.filter_cons_of_pos (by simp)]
      have : ys.filter (fun z => decide (z = y)) = [] := by
        rw [List.filter_eq_nil_iff]
        intro z hz e
        exact hn.1 (of_decide_eq_true e ▸ hz)
      rw [this]
    · rw [List.filter_cons_of_neg (by simpa using hy)]
      exact filter_one hn.2 ((List.mem_cons.mp m).resolve_left fun e => hy e.symm)
theorem diff_one {h : List Reg} {t : Str} {a b : Num} (s : Same h) (hn : (keysR h).Nodup) (hab : a ≠ b) (ys : List Str) (hp : ys.Perm (keysR (putR h t (a, b)))) : (ys.filter (flt (putR h t (a, b)))).map PyData.str = [.str t] := by
  have e : flt (putR h t (a, b)) = fun z => decide (z = t) := by
    funext z
    unfold flt
    rw [getR_put]
    by_cases hz : z = t
    · rw [if_pos hz]
      simp [hz, hab]
    · rw [if_neg hz]
      have := flt_same s z
      unfold flt at this
      rw [this]
      simp [hz]
  rw [e, filter_one (hp.nodup_iff.mpr (nodup_put hn t _)) (hp.mem_iff.mpr ?_)]
  · rfl
  · rw [keys_put]
    split
    · rename_i h; exact h
    · simp
theorem same_put {h : List Reg} (s : Same h) (t : Str) (a : Num) : Same (putR h t (a, a)) := fun z x e => by
  rw [getR_put] at e
  split at e
  · cases Option.some.inj e
    rfl
  · exact s z x e
theorem same_put2 {h : List Reg} (s : Same h) (t : Str) (a : Num) (b : Num × Num) : Same (putR (putR h t b) t (a, a)) := fun z x e => by
  rw [getR_put] at e
  split at e
  · cases Option.some.inj e
    rfl
  · rename_i hz
    rw [getR_put, if_neg hz] at e
    exact s z x e
theorem len_put (h : List Reg) (t : Str) (x : Num × Num) : (putR h t x).length ≤ h.length + 1 := by
  have := congrArg List.length (keys_put h t x)
  unfold keysR at this
  rw [List.length_map] at this
  rw [this]
  split
  · rw [List.length_map]; omega
  · rw [List.length_append, List.length_map]; exact Nat.le_refl _
theorem done_prev {S S' : BS} {cl : CallI} {p : Option (List Reg)} (r : DoneR S cl S') : DoneR { S with prev := p } cl S' := by
  cases r with
  | load h => exact .load (S := { S with prev := p }) h
  | root h =>
    obtain ⟨h1, h2, h3, h4, h5, h6, h7⟩ := h
    exact .root (S := { S with prev := p }) ⟨h1, h2, h3, h4, h5, h6, h7⟩
  | bin h =>
    obtain ⟨h1, h2, h3, h4, h5, h6, h7, h8, h9, h10⟩ := h
    exact .bin (S := { S with prev := p }) ⟨h1, h2, h3, h4, h5, h6, h7, h8, h9, h10⟩
end SR
end
section
set_option Elab.async false
set_option linter.all false
set_option maxRecDepth 100000
set_option maxHeartbeats 1000000
/-! The law's look at a split. -/
namespace SR
open PySem PySem.Spec PyProof.Rows L2
open Evl (Ex)
open C8 (Cal Met Mak pe_c pe_mt pe_mt0 pe_mk pe_gc)
section
variable {K : PySem.W.Frag} {ρ : Rho} {t u ta tb te : TE} {d d1 d2 : PyData} {ds es : List PyData} {t1 t2 : TS} {i j : Nat} {D : Ends} {σ : L2.St} {H : Hp} {v : V} {A : BA} {S S' : BS}
theorem ve_neI {a b : Int} (ha : VE K ta σ H (.int a)) (hb : VE K tb σ H (.int b)) : VE K (tOp rNe ta tb) σ H (.bool (!decide (a = b))) :=
  ve_op ha hb fun x y H Q hx hy q => by
    rw [dp_int hx, dp_int hy]
    refine ⟨rfl, q _ H (Evl.Ex.refl H) ?_⟩
    have e : decide (V.int a = V.int b) = decide (a = b) := by
      rw [Bool.eq_iff_iff]
      simp
    rw [e]
    exact .bl _
theorem ve_neg {n : Int} (h : VE K t σ H (.int n)) : VE K (tUn (rU fun i => .int (-i)) t) σ H (.int (-n)) := fun H0 e0 Q q => h H0 e0 _ fun v H1 e1 hv => ⟨n, dp_int hv, q _ H1 e1 (.int _)⟩
theorem ve_lastT (ha : VE K ta σ H (.tuple ds)) (hb : VE K tb σ H (.int (-1))) (hd : ds.getLast? = some d) : VE K (tOp (rIxT K) ta tb) σ H d :=
  ve_op ha hb fun x y H Q hx hy q => by
    obtain ⟨a, xs, rfl, hs, ha⟩ := dp_tup hx
    have hl := dps_len ha
    rw [List.getLast?_eq_getElem?] at hd
    obtain ⟨v, hv, hd'⟩ := dps_get ha hd
    have hne : 0 < ds.length := by
      have := (List.getElem?_eq_some_iff.mp hd).1
      omega
    refine ⟨a, xs, -1, v, rfl, dp_int hy, hs, ?_, q v H (Evl.Ex.refl H) hd'⟩
    rw [← hl] at hv
    have hx0 : 0 < xs.length := by omega
    have e : ixN xs.length (-1) = some (xs.length - 1) := by
      unfold ixN
      rw [if_neg (by decide), if_pos (by omega)]
      congr 1
      omega
    unfold atI
    rw [e]
    exact hv
theorem ve_lastL (ha : VE K ta σ H (.list ds)) (hb : VE K tb σ H (.int (-1))) (hd : ds.getLast? = some d) : VE K (tOp (rIxL K) ta tb) σ H d :=
  ve_op ha hb fun x y H Q hx hy q => by
    obtain ⟨a, xs, rfl, hs, ha⟩ := dp_lst hx
    have hl := dps_len ha
    rw [List.getLast?_eq_getElem?] at hd
    obtain ⟨v, hv, hd'⟩ := dps_get ha hd
    have hne : 0 < ds.length := by
      have := (List.getElem?_eq_some_iff.mp hd).1
      omega
    refine ⟨a, xs, -1, v, rfl, dp_int hy, hs, ?_, q v H (Evl.Ex.refl H) hd'⟩
    rw [← hl] at hv
    have hx0 : 0 < xs.length := by omega
    have e : ixN xs.length (-1) = some (xs.length - 1) := by
      unfold ixN
      rw [if_neg (by decide), if_pos (by omega)]
      congr 1
      omega
    unfold atI
    rw [e]
    exact hv
theorem ve_lenL (h : VE K t σ H (.list ds)) : VE K (tCB (fun xs H Q => ∃ p ys, xs = [V.ref p] ∧ (SqL K H p ys ∨ SqT K H p ys) ∧ Q (.int ys.length) H) (tCons t tNil)) σ H (.int ds.length) :=
  ve_cb (va_cons h va_nil) fun vs H Q hvs q => by
    obtain ⟨v, rfl, hv⟩ := dps1 hvs
    obtain ⟨a, xs, rfl, hs, ha⟩ := dp_lst hv
    exact ⟨a, xs, rfl, .inl hs, q _ H (Evl.Ex.refl H) (by rw [dps_len ha]; exact .int _)⟩
theorem ve_notN (ha : VE K ta σ H d) : VE K (tOp (fun x y H Q => y = V.non ∧ Q (.bl (!decide (x = .non))) H) ta (tC .non)) σ H (.bool (match d with | .none => false | _ => true)) :=
  ve_op ha (ve_v vv_c .non) fun x y H Q hx hy q => ⟨dp_none hy, q _ H (Evl.Ex.refl H) (by cases hx <;> exact .bl _)⟩
theorem ve_any {bs : List Bool} (h : ∀ Q : VK, (∀ v H', Ex H H' → Dp K H' v (.list (bs.map .bool)) → Q v H') → te σ H Q) : ∀ Q : VK, (∀ v H', Ex H H' → Dp K H' v (.bool (bs.any id)) → Q v H') → tCB (rAny K) (tCons te tNil) σ H Q := fun Q q =>
  h _ fun v H1 e1 hv => by
    obtain ⟨a, xs, rfl, hs, ha⟩ := dp_lst hv
    rw [dps_bools ha] at hs
    exact ⟨a, bs, rfl, hs, q _ H1 e1 (.bl _)⟩
theorem ve_diff (ho : VV ta σ H (.ref A.p)) (B : Bn K H A S) (hz : S.held.length ≤ 51) (hd : ∀ ys : List Str, ys.Perm (keysR S.held) → (ys.filter (flt S.held)).map .str = ds) : VE K (tMeth (bC K) "differing" (spDiff K) [] C8.E0 ta tNil) σ H (.tuple ds) := fun H0 e0 Q q =>
  ho H0 e0 _ fun H1 e1 => ⟨A.p, A.dx, _, rfl, e1 _ _ (e0 _ _ B.ob), rfl, A, S, ds, rfl, B.ex (e0.trans e1), hz, hd, fun v H2 e2 hv => q v H2 (e1.trans e2) hv⟩
/-- a comprehension over texts, its item read at the heap -/
theorem ve_lcS {wi : TI} {k : Nat} {ys : List Str} {f : Str → PyData} (hi : VI wi K σ H (ys.map .str)) (hs : ∀ y ∈ ys, ∀ H3, Ex H H3 → VE K te ((L2.wipe σ [k]).set k (some (.str y))) H3 (f y)) (fz : FzAll (ys.map f) = true) (hz : ys.length ≤ 10000) :
    ∀ Q : VK, (∀ v H', Ex H H' → Dp K H' v (.list (ys.map f)) → Q v H') → tLc wi (gName k) tYes te [k] σ H Q := fun Q q => by
  refine hi _ fun J H1 G Y e1 w hG hY => ?_
  intro D hD
  have eD : ∀ {H'}, Ex H1 H' → ∀ o, Ex H1 (upd H' D o) := fun e' o => Evl.Ex.mut e' hD
  refine lc_it w (fun i H' => ∃ acc, H' D = some (.lst acc) ∧ DpAll K H' acc ((ys.map f).take i) ∧ Ex H1 H' ∧ acc.length ≤ i) ⟨[], upd_same, .nil, eD (Evl.Ex.refl _) _, Nat.le_refl _⟩ (fun i H' _ ⟨_, _, _, e', _⟩ => hG H' (Tx.of_ex e')) ?_ ?_
  · rintro i x H' H3 hi ⟨acc, hacc, hda, e', hlen⟩ y
    obtain ⟨e3, d, hd, hx⟩ := hY i H' x H3 hi (Tx.of_ex e') y
    rw [List.length_map] at hi
    rw [List.getElem?_map, List.getElem?_eq_getElem hi] at hd
    cases Option.some.inj hd
    cases dp_str hx
    refine ⟨?_, ?_⟩
    · show L2.wipe ((L2.wipe σ [k]).set k _) [k] = L2.wipe σ [k]
      show (((σ.set k none).set k _).set k none) = σ.set k none
      rw [List.set_set, List.set_set]
    · show te _ H3 fun y H4 => ∃ acc : List V, H4 D = some (.lst acc) ∧ acc.length < sizeLine ∧ ∃ acc' : List V, (upd H4 D (.lst (acc ++ [y]))) D = some (.lst acc') ∧ DpAll K (upd H4 D (.lst (acc ++ [y]))) acc' ((ys.map f).take (i + 1)) ∧ Ex H1 (upd H4 D (.lst (acc ++ [y]))) ∧ acc'.length ≤ i + 1
      refine hs ys[i] (List.getElem_mem hi) H3 (e1.trans (e'.trans e3)) H3 (Evl.Ex.refl _) _ fun v H4 e4 hv => ?_
      have h4 : H4 D = some (.lst acc) := e4 D _ (e3 D _ hacc)
      refine ⟨acc, h4, Nat.lt_of_le_of_lt (show acc.length ≤ 10000 by omega) (by decide), acc ++ [v], upd_same, ?_, eD ((e'.trans e3).trans e4) _, by rw [List.length_append, List.length_singleton]; omega⟩
      have et : (ys.map f).take (i + 1) = (ys.map f).take i ++ [f ys[i]] := take_snoc (by rw [List.getElem?_map, List.getElem?_eq_getElem hi]; rfl)
      rw [et]
      have fb : Fz (f ys[i]) = true := fz_mem fz (List.mem_map.mpr ⟨_, List.getElem_mem hi, rfl⟩)
      exact dps_app (dps_tx (Tx.lst h4) _ _ (fz_take i fz) (dps_ex (e3.trans e4) _ _ hda)) (.cons (dp_tx (Tx.lst h4) _ _ fb hv) .nil)
  · rintro H' ⟨acc, hacc, hda, e', hlen⟩
    rw [show (ys.map PyData.str).length = (ys.map f).length by rw [List.length_map, List.length_map], List.take_length] at hda
    exact q _ H' (e1.trans e') (.lst (SqL.of hacc) hda)
theorem vi_tup (h : VE K te σ H (.tuple ds)) (fz : FzAll ds = true) : VI (iTup K te) K σ H ds := fun R q => h H (Evl.Ex.refl H) _ fun v H1 e1 hv => by
  obtain ⟨a, xs, rfl, hs, ha⟩ := dp_tup hv
  refine ⟨a, rfl, ⟨xs, hs⟩, q _ H1 _ _ e1 (dps_len ha ▸ walk_tup (K := K) (a := a) (xs := xs)) (fun H2 e2 => e2.sq hs) fun i H2 x H3 hi e2 y => ?_⟩
  obtain ⟨rfl, hx⟩ := y
  obtain ⟨d, hd⟩ : ∃ d, ds[i]? = some d := ⟨ds[i], List.getElem?_eq_getElem hi⟩
  obtain ⟨v, hv, hdv⟩ := dps_get ha hd
  have ev : v = x := Option.some.inj (hv.symm.trans hx)
  subst ev
  exact ⟨Evl.Ex.refl _, d, hd, dp_tx e2 _ _ (fz_mem fz (List.mem_of_getElem? hd)) hdv⟩
end
theorem cutD_two (d1 d2 : PyData) (ds : List PyData) : cutD (d1 :: d2 :: ds) (some 2) none = ds := by
  unfold cutD
  have e : HT.sIx (d1 :: d2 :: ds).length 0 (some 2) = min 2 (d1 :: d2 :: ds).length := HT.sIx_nat (d1 :: d2 :: ds).length 0 2
  rw [e, HT.sIx_none]
  have e1 : min 2 (d1 :: d2 :: ds).length = 2 := by rw [List.length_cons, List.length_cons]; omega
  rw [e1]
  show (ds).take ((d1 :: d2 :: ds).length - 2) = ds
  rw [List.length_cons, List.length_cons, show ds.length + 1 + 1 - 2 = ds.length by omega, List.take_length]
end SR
end
section
set_option Elab.async false
set_option linter.all false
set_option maxRecDepth 100000
set_option maxHeartbeats 2000000
/-! The law's look at a split, walked. -/
namespace SR
open PySem PySem.Spec PyProof.Rows L2
open Evl (Ex)
open C8 (Cal Met Mak pe_c pe_mt pe_mt0 pe_mk pe_gc)
def callT : CallI → Str
  | .load t _ => t
  | .root t _ => t
  | .bin _ t _ _ => t
theorem bn_tx {K : PySem.W.Frag} {H H' : Hp} {A : BA} {S : BS} (B : Bn K H A S) (x : Exs [A.p, A.hd, A.ml, A.sl, A.pl] H H') : Tx H H' := x.tx fun a ha => by
  obtain ⟨kvs, k1, _⟩ := B.held
  obtain ⟨mv, m1, _⟩ := B.made
  obtain ⟨pv, p1, _⟩ := B.past
  simp only [List.mem_cons, List.not_mem_nil, or_false] at ha
  rcases ha with rfl | rfl | rfl | rfl | rfl
  · exact nt_ins B.ob
  · exact nt_dK k1
  · exact nt_lst m1
  · exact nt_lst B.splits
  · exact nt_lst p1
theorem bn_tx4 {K : PySem.W.Frag} {H H' : Hp} {A : BA} {S : BS} (B : Bn K H A S) (x : Exs [A.hd, A.ml, A.sl, A.pl] H H') : Tx H H' := bn_tx B (x.mono fun a ha => List.mem_cons_of_mem _ ha)
theorem eqv_call (cl : CallI) : PyData.eqv (callD cl) (callD cl) = true := by
  cases cl with
  | load t x => show ((("load" : Str) == "load") && ((t == t) && (PyData.eqv (numD x) (numD x) && true))) = true; rw [eqv_num]; simp
  | root t a => show ((("root" : Str) == "root") && ((t == t) && ((a == a) && true))) = true; simp
  | bin m t a b => show ((ms m == ms m) && ((t == t) && ((a == a) && ((b == b) && true)))) = true; simp
structure SplitIn (K : PySem.W.Frag) (H : Hp) (A : BA) (S0 S1 : BS) (cl : CallI) (hl lc : Addr) (vp : V) (t : Str) (a b : Num) (cvs : List V) (n : Nat) : Prop where
  B : Bn K H A S1
  ok1 : S1.Ok
  hh : HeldAt K H hl S0.held
  hp : Dp K H vp (planD S0.ch [(minW S0.ch, S0.r)])
  hc : H lc = some (.lst cvs)
  hcd : DpAll K H cvs S1.made
  done : DoneR S0 cl S1
  st : S1 = S0.store t (a, b) (callD cl)
  ct : callT cl = t
  nt : NameOk t
  ab : a ≠ b
  out : OutR S0.ch [(minW S0.ch, S0.r)] S0.held cl (.both a b)
  sp : S0.splits = List.replicate n false
  ln : S0.made.length = n
  same : Same S0.held
  nd : (keysR S0.held).Nodup
  z1 : n ≤ 60
  z2 : S0.held.length ≤ 45
  okc : ChOk S0.ch
  sh1 : SeqAt.shaped (.list S1.made) = true
  sh2 : SeqAt.shaped (callD cl) = true
  sh3 : SeqAt.shaped (.tuple [.str t]) = true
  nl : lc ∉ [A.p, A.hd, A.ml, A.sl, A.pl]
  one : roundOnce (1, 1) (minW S0.ch) .down = (1, 1)
  nf : ∀ x ∈ [A.p, A.hd, A.ml, A.sl, A.pl], ¬ S0.F x
def spSplit (K : PySem.W.Frag) : Sp := fun vs H Q _ => ∃ (A : BA) (S0 S1 : BS) (cl : CallI) (hl lc : Addr) (vp : V) (t : Str) (a b : Num) (cvs : List V) (n : Nat), vs = [.ref A.p, .ref hl, vp, .ref lc] ∧ SplitIn K H A S0 S1 cl hl lc vp t a b cvs n ∧
  ∀ H', (∀ f o, S0.F f → H f = some o → H' f = some o) → Q (.bl true) H'
section
variable {P : Program} {w : World} {K : PySem.W.Frag} {mg : Str → Option Value} {base : Heap}
theorem sc_law_split_right : FnScope ["_law_bench", "_law_held", "_law_plan", "_law_calls", "_law_call_here", "_law_both", "_law_name"] ["_law_bench", "_law_held", "_law_plan", "_law_calls"] (defScope s_law_split_right) := ⟨rfl, rfl, rfl, by decide +kernel, rfl, by decide +kernel, by decide +kernel⟩
theorem cal_law_split_right (T : Top w K mg) : Cal P w K mg base 11 "_law_split_right" (spSplit K) [] := by
  obtain ⟨fd, F⟩ := T.f_law_split_right
  refine ⟨_, fd, ["_law_bench", "_law_held", "_law_plan", "_law_calls"], [], F.ok sc_law_split_right (fun vs H Q E h => ?_) (fun cdv A outer s H vs Q E hr h => ⟨_, PSs.nox (pss_cons (ps_if (PW.pt (pw_or (pt_cmpR op_ne (pe_mt0 (met_Bench_first_split T) hr (by decide) (pv 0)) (pe_op op_sub (pe_callB call_len_seq (by rfl) T.b_len (by decide +kernel) (pa_cons (pv 3) pa_nil)) pe_int) (nomark _)) (pw_or1 (pt_cmpR (op_neD (by exact hr.units)) (pe_ix ix_tup (pe_mt0 (met_Bench_log T) hr (by decide) (pv 0)) (pe_un un_neg pe_int) (fun _ _ => rfl)) (pe_ix ix_list (pv 3) (pe_un un_neg pe_int) (fun _ _ => rfl)) (nomark _))))) (pss_one (ps_ret pe_bl)) pss_nil)
      (pss_cons (ps_set (i := 4) sc_law_split_right.nd rfl (Or.inl rfl) (pe_ix ix_list (pv 3) (pe_un un_neg pe_int) (fun _ _ => rfl)))
      (pss_cons (ps_if (PW.pt (pw_or (pt_cmpR op_eq (pe_ix ix_tup (pv 4) pe_int (fun _ _ => rfl)) pe_str (nomark _)) (pw_or1 (pt_cmpR (op_neD (by exact hr.units)) (pe_mt0 (met_Bench_differing T) hr (by decide) (pv 0)) (pe_tup (pa_cons (pe_ix ix_tup (pv 4) pe_int (fun _ _ => rfl)) pa_nil)) (nomark _))))) (pss_one (ps_ret pe_bl)) pss_nil)
      (pss_cons (ps_if (pt_val (pe_callB (cr_any rfl) (by rfl) T.b_any (by decide +kernel) (pa_cons (pe_lc (own := [("_law_name", 6)]) (tt := tYes) (te := tOp (rNeD K) (tOp (rIxT K) (tDGet (tVar 1) (tVar 6)) (tC (.int 0))) (tOp (rIxT K) (tDGet (tVar 1) (tVar 6)) (tC (.int 1)))) rfl sc_law_split_right.nd (pi_tup (pe_slice sl_tupA (pv 4) (po_some pe_int) po_none)) (blkOk_by (N := ["_law_bench", "_law_held", "_law_plan", "_law_calls", "_law_call_here", "_law_both", "_law_name"]) (sc := defScope s_law_split_right) (by decide +kernel)) (fun _ _ _ _ _ => (pg_name (i := 6) sc_law_split_right.nd rfl (Or.inl rfl) (Or.inr rfl))) (fun _ _ _ _ _ => pts_nil) (fun _ _ _ _ _ => (pe_cmpR (op_neD (by exact hr.units)) (pe_ix ix_tup (pe_dget (by exact hu_of hr) (pv 1) (pv 6) (fun _ _ => rfl)) pe_int (fun _ _ => rfl)) (pe_ix ix_tup (pe_dget (by exact hu_of hr) (pv 1) (pv 6) (fun _ _ => rfl)) pe_int (fun _ _ => rfl)) (nomark _)))) pa_nil))) (pss_one (ps_ret pe_bl)) pss_nil)
      (pss_cons (ps_set (i := 5) sc_law_split_right.nd rfl (Or.inl rfl) (pe_c (cal_law_outcome T) hr (by decide) rfl (pa_cons (pv 1) (pa_cons (pv 2) (pa_cons (pv 4) pa_nil)))))
      (pss_cons (ps_if (PW.pt (pw_or (pt_cmpR (op_eqD (by exact hr.units)) (pe_ix ix_tup (pv 5) pe_int (fun _ _ => rfl)) (pe_ix ix_tup (pv 5) pe_int (fun _ _ => rfl)) (nomark _)) (pw_or1 (pt_cmpR (op_neD (by exact hr.units)) (pe_tup (pa_cons (pe_mt (met_Bench_chained T) hr (by decide) (pv 0) (pa_cons (pe_ix ix_tup (pv 4) pe_int (fun _ _ => rfl)) pa_nil)) (pa_cons (pe_mt (met_Bench_direct T) hr (by decide) (pv 0) (pa_cons (pe_ix ix_tup (pv 4) pe_int (fun _ _ => rfl)) pa_nil)) pa_nil))) (pv 5) (nomark _))))) (pss_one (ps_ret pe_bl)) pss_nil)
      (pss_cons (ps_expr (pe_mt0 (met_Bench_undo T) hr (by decide) (pv 0)))
      (pss_cons (ps_if (PW.pt (pw_or (pt_cmpR op_notN (pe_mt0 (met_Bench_first_split T) hr (by decide) (pv 0)) pe_non (nomark _)) (pw_or1 (pt_cmpR (op_neD (by exact hr.units)) (pe_mt0 (met_Bench_differing T) hr (by decide) (pv 0)) (pe_tup pa_nil) (nomark _))))) (pss_one (ps_ret pe_bl)) pss_nil)
      (pss_cons (ps_expr (pe_c (cal_law_done T) hr (by decide) rfl (pa_cons (pv 0) (pa_cons (pv 4) pa_nil))))
      (pss_cons (ps_expr (pe_mt (met_Bench_load T) hr (by decide) (pv 0) (pa_cons (pe_ix ix_tup (pv 4) pe_int (fun _ _ => rfl)) (pa_cons (pe_tup (pa_cons pe_int (pa_cons pe_int pa_nil))) pa_nil))))
      (pss_one (ps_ret (pe_and (pe_cmpR op_eq (pe_mt0 (met_Bench_first_split T) hr (by decide) (pv 0)) (pe_op op_sub (pe_callB call_len_seq (by rfl) T.b_len (by decide +kernel) (pa_cons (pv 3) pa_nil)) pe_int) (nomark _)) (pe_one (pe_cmpR (op_eqD (by exact hr.units)) (pe_mt0 (met_Bench_differing T) hr (by decide) (pv 0)) (pe_tup pa_nil) (nomark _)))))))))))))))), ?_⟩), T.g_law_split_right, F.kp, F.bindsN (ps := ["_law_bench", "_law_held", "_law_plan", "_law_calls"]) fun _ _ _ _ _ _ us hl => match us, hl with | [_, _, _, _], _ => rfl, .nil⟩
  · obtain ⟨A, S0, S1, cl, hl, lc, vp, t, a, b, cvs, n, rfl, _⟩ := h
    rfl
  obtain ⟨A, S0, S1, cl, hl, lc, vp, t, a, b, cvs, n, rfl, I, q⟩ := h
  obtain ⟨B, ok1, hh, hp, hc, hcd, done, st, ct, nt, ab, out, sp, ln, same, nd, z1, z2, okc, sh1, sh2, sh3, nl, one, nf⟩ := I
  have hab : decide (a = b) = false := decide_eq_false ab
  have s1 : S1.splits = List.replicate n false ++ true :: [] := by
    rw [st]
    show S0.splits ++ [!decide (a = b)] = _
    rw [sp, hab]
    rfl
  have m1 : S1.made = S0.made ++ [callD cl] := by rw [st]; rfl
  have ml : S1.made.length = n + 1 := by rw [m1, List.length_append, ln]; rfl
  have last : S1.made.getLast? = some (callD cl) := by rw [m1, List.getLast?_append]; rfl
  have h1 : S1.held = putR S0.held t (a, b) := by rw [st]; rfl
  have hz1 : S1.held.length ≤ 51 := by
    rw [h1]
    have := len_put S0.held t (a, b)
    omega
  have c1 : S1.ch = S0.ch := by rw [st]; rfl
  have f1 : S1.F = S0.F := by rw [st]; rfl
  have p1 : S1.prev = some S0.held := by rw [st]; rfl
  have r1 : S1.r = S0.r := by rw [st]; rfl
  -- the call's parts
  have parts : ∃ (wd : Str) (args : List Str), callD cl = .tuple (.str wd :: .str t :: args.map .str) ∧ decide (wd = ("load" : Str)) = false ∧ args.length ≤ 2 ∧ ∀ x ∈ args, ∃ r : Num, getR S0.held x = some (r, r) := by
    rw [← ct]
    cases cl with
    | load t' x =>
      cases out
      exact absurd rfl ab
    | root t' x =>
      cases out with
      | root ga nx =>
        refine ⟨"root", [x], rfl, by decide +kernel, (by decide : 1 ≤ 2), fun y hy => ?_⟩
        cases List.mem_singleton.mp hy
        exact ⟨_, ga⟩
    | bin m t' x y =>
      refine ⟨ms m, [x, y], rfl, by cases m <;> decide +kernel, (by decide : 2 ≤ 2), ?_⟩
      have gg : ∃ r1 r2 : Num, getR S0.held x = some (r1, r1) ∧ getR S0.held y = some (r2, r2) := by
        generalize ho : Out.both a b = o at out
        cases out with
        | zero ga gb => exact ⟨_, _, ga, gb⟩
        | bin ga gb => exact ⟨_, _, ga, gb⟩
      obtain ⟨r1, r2, g1, g2⟩ := gg
      intro z hz
      simp only [List.mem_cons, List.not_mem_nil, or_false] at hz
      rcases hz with rfl | rfl
      · exact ⟨_, g1⟩
      · exact ⟨_, g2⟩
  obtain ⟨wd, args, cd, hwd, alen, hargs⟩ := parts
  have E0 : EnvR K H (start ["_law_bench", "_law_held", "_law_plan", "_law_calls", "_law_call_here", "_law_both", "_law_name"] [.ref A.p, .ref hl, vp, .ref lc]) [none, none, some (planD S0.ch [(minW S0.ch, S0.r)]), none, none, none, none] :=
    envr_x (envr_x (envr_c hp (envr_x (envr_x (envr_x (envr_x envr_nil))))))
  have CV : ∀ {σ : L2.St} {H1 : Hp}, σ[3]? = some (some (.ref lc)) → H1 lc = some (.lst cvs) → DpAll K H1 cvs S1.made → VE K (tVar 3) σ H1 (.list S1.made) := fun hs h d => ve_v (vv_var hs) (.lst (SqL.of h) d)
  have e_n : ((n : Nat) : Int) = ((S1.made.length : Nat) : Int) - 1 := by rw [ml]; omega
  -- the first look
  refine vs_if (b := false) (VT.to (vt_or (a := false) (b := false) (VT.to (vt_test (ve_neI (ve_mb (vv_var rfl) B rfl va_nil (RB_first_split.yes s1 (by rw [s1]; simp; omega))) (ve_sub (ve_lenL (CV rfl hc hcd)) ve_int))) (by rw [decide_eq_true e_n]; rfl))
    fun _ => VT.to (vt_test (ve_neD (ve_lastT (ve_mb (vv_var rfl) B rfl va_nil (RB_log.mk trivial)) (ve_neg ve_int) last) (ve_lastL (CV rfl hc hcd) (ve_neg ve_int) last) sh2 sh2)) (by rw [eqv_call]; rfl)) rfl) (fun z => nomatch z) fun _ H1 e1 => ?_
  have B1 := B.ex e1
  have E1 := E0.ex e1
  have hc1 := e1 _ _ hc
  have hcd1 := dps_ex e1 _ _ hcd
  refine vs_asg (K := K) (ve_lastL (CV rfl hc1 hcd1) (ve_neg ve_int) last) fun v4 H2 e2 d4 => ?_
  have B2 := B1.ex e2
  have E2 := (E1.ex e2).set (i := 4) d4
  have hc2 := e2 _ _ hc1
  have hcd2 := dps_ex e2 _ _ hcd1
  have X4 : ∀ {H3 : Hp} {σ : L2.St} (k : Nat) (z : PyData), σ[4]? = some (some v4) → Dp K H3 v4 (callD cl) → (PyData.str wd :: .str t :: args.map .str)[k]? = some z → VE K (tOp (rIxT K) (tVar 4) (tC (.int k))) σ H3 z := fun k z hs hd hz =>
    ve_ixT (n := (k : Nat)) (ds := PyData.str wd :: .str t :: args.map .str) (ve_var hs (cd ▸ hd)) ve_int (by omega) hz
  -- the second look
  refine vs_if (b := false) (VT.to (vt_or (a := false) (b := false) (VT.to (vt_test (ve_eqS (X4 0 _ rfl d4 rfl) ve_str)) hwd)
    fun _ => VT.to (vt_test (ve_neD (ve_diff (ds := [.str t]) (vv_var rfl) B2 hz1 (fun ys hp => by rw [h1] at hp ⊢; exact diff_one same nd ab ys hp)) (ve_tup (va_cons (X4 1 _ rfl d4 rfl) va_nil) (by show 1 ≤ 1000; decide)) sh3 sh3)) (by
      have : PyData.eqv (.tuple [.str t]) (.tuple [.str t]) = true := by show ((t == t) && true) = true; simp
      rw [this]; rfl)) rfl) (fun z => nomatch z) fun _ H3 e3 => ?_
  have B3 := B2.ex e3
  have E3 := E2.ex e3
  have d43 := dp_ex e3 _ _ d4
  have hh3 := ((hh.ex e1).ex e2).ex e3
  -- the third: the named registers
  have AN : ∀ Q : VK, (∀ v H', Ex H3 H' → Dp K H' v (.bool false) → Q v H') → tCB (rAny K) (tCons (tLc (iTup K (tSl (rSlA K) (tVar 4) (tPart (tC (.int 2))) tNoPart)) (gName 6) tYes (tOp (rNeD K) (tOp (rIxT K) (tDGet (tVar 1) (tVar 6)) (tC (.int 0))) (tOp (rIxT K) (tDGet (tVar 1) (tVar 6)) (tC (.int 1)))) [6]) tNil)
      ((start ["_law_bench", "_law_held", "_law_plan", "_law_calls", "_law_call_here", "_law_both", "_law_name"] [.ref A.p, .ref hl, vp, .ref lc]).set 4 (some v4)) H3 Q := by
    have e : (args.map fun _ => false).any id = false := by
      rw [List.any_eq_false]
      intro x hx
      obtain ⟨y, _, rfl⟩ := List.mem_map.mp hx
      decide
    rw [← e]
    refine ve_any (bs := args.map fun _ => false) fun Q q => ?_
    have SL : VE K (tSl (rSlA K) (tVar 4) (tPart (tC (.int 2))) tNoPart) ((start ["_law_bench", "_law_held", "_law_plan", "_law_calls", "_law_call_here", "_law_both", "_law_name"] [.ref A.p, .ref hl, vp, .ref lc]).set 4 (some v4)) H3 (.tuple (args.map .str)) := by
      have E3' : EnvR K H3 ((start ["_law_bench", "_law_held", "_law_plan", "_law_calls", "_law_call_here", "_law_both", "_law_name"] [.ref A.p, .ref hl, vp, .ref lc]).set 4 (some v4)) [none, none, some (planD S0.ch [(minW S0.ch, S0.r)]), none, some (.tuple (PyData.str wd :: .str t :: args.map .str)), none, none] := by
        rw [← cd]
        exact E3
      have := ve_x (xe_sliceT (xe_var (i := 4) rfl) (xo_some (xe_int (n := 2))) xo_none) E3'
      rw [cutD_two] at this
      exact this
    have fz1 : FzAll (args.map PyData.str) = true := fz_all fun d hd => by
      obtain ⟨y, _, rfl⟩ := List.mem_map.mp hd
      rfl
    have LS := ve_lcS (k := 6) (ys := args) (f := fun _ => .bool false) (te := tOp (rNeD K) (tOp (rIxT K) (tDGet (tVar 1) (tVar 6)) (tC (.int 0))) (tOp (rIxT K) (tDGet (tVar 1) (tVar 6)) (tC (.int 1)))) (vi_tup SL fz1) (fun y hy H4 e4 => ?_) (fz_all fun d hd => by
      obtain ⟨y, _, rfl⟩ := List.mem_map.mp hd
      rfl) (by omega) Q
    · rw [List.map_map] at q
      exact LS q
    · obtain ⟨r, hr'⟩ := hargs y hy
      have hh4 := hh3.ex e4
      have G : VE K (tDGet (tVar 1) (tVar 6)) ((L2.wipe ((start ["_law_bench", "_law_held", "_law_plan", "_law_calls", "_law_call_here", "_law_both", "_law_name"] [.ref A.p, .ref hl, vp, .ref lc]).set 4 (some v4)) [6]).set 6 (some (.str y))) H4 (bothD (r, r)) := ve_dget (vv_var rfl) (ve_var rfl (.str y)) hh4 hr'
      have N := ve_neD (ve_ixT (n := 0) (ds := [numD r, numD r]) G ve_int (by decide) rfl) (ve_ixT (n := 1) (ds := [numD r, numD r]) G ve_int (by decide) rfl) rfl rfl
      rw [eqv_num] at N
      exact N.to (by simp)
  refine AN _ fun v H4 e4 d4' => ⟨false, dp_bool d4', ?_⟩
  refine (show if false = true then _ else _ from ?_)
  rw [if_neg (by decide)]
  have B4 := B3.ex e4
  have E4 := E3.ex e4
  have d44 := dp_ex e4 _ _ d43
  have hh4 := hh3.ex e4
  have okd := one_ok (r := S0.r) (minW_ok okc)
  have hp4 := dp_ex e4 _ _ (dp_ex e3 _ _ (dp_ex e2 _ _ (dp_ex e1 _ _ hp)))
  have OV : VE K (tCall (spOut K) [] C8.E0 (tCons (tVar 1) (tCons (tVar 2) (tCons (tVar 4) tNil)))) ((start ["_law_bench", "_law_held", "_law_plan", "_law_calls", "_law_call_here", "_law_both", "_law_name"] [.ref A.p, .ref hl, vp, .ref lc]).set 4 (some v4)) H4 (bothD (a, b)) := fun H5 e5 Q q =>
    ⟨.ref hl, rfl, vp, rfl, v4, rfl, hl, S0.held, S0.ch, [(minW S0.ch, S0.r)], cl, .both a b, vp, v4, rfl, hh4.ex e5, dp_ex e5 _ _ hp4, dp_ex e5 _ _ d44, okc, okd, out, fun v H6 e6 d6 => q v H6 e6 d6⟩
  refine vs_asg OV fun v5 H5 e5 d5 => ?_
  have B5 := B4.ex e5
  have E5 := (E4.ex e5).set (i := 5) d5
  have d45 := dp_ex e5 _ _ d44
  have g1 : getR S1.held t = some (a, b) := by rw [h1, getR_put, if_pos rfl]
  have XB : ∀ {H3 : Hp} {σ : L2.St} (k : Nat) (z : PyData), σ[5]? = some (some v5) → Dp K H3 v5 (bothD (a, b)) → [numD a, numD b][k]? = some z → VE K (tOp (rIxT K) (tVar 5) (tC (.int k))) σ H3 z := fun k z hs hd hz =>
    ve_ixT (n := (k : Nat)) (ds := [numD a, numD b]) (ve_var hs hd) ve_int (by omega) hz
  -- the fourth look
  refine vs_if (b := false) (VT.to (vt_or (a := false) (b := false) (VT.to (vt_test (ve_eqD (XB 0 _ rfl d5 rfl) (XB 1 _ rfl d5 rfl) rfl rfl)) (by rw [eqv_num, hab]))
    fun _ => VT.to (vt_test (ve_neD (d1 := bothD (a, b)) (d2 := bothD (a, b)) (ve_tup (va_cons (ve_mb (vv_var rfl) B5 rfl (va_cons (X4 1 _ rfl d45 rfl) va_nil) (RB_chained.mk ⟨nt, g1⟩)) (va_cons (ve_mb (vv_var rfl) B5 rfl (va_cons (X4 1 _ rfl d45 rfl) va_nil) (RB_direct.mk ⟨nt, g1⟩)) va_nil)) (by show 2 ≤ 1000; decide)) (ve_var rfl d5) rfl rfl)) (by
      have : PyData.eqv (bothD (a, b)) (bothD (a, b)) = true := by
        show (PyData.eqv (numD a) (numD a) && (PyData.eqv (numD b) (numD b) && true)) = true
        rw [eqv_num, eqv_num]
        simp
      rw [this]; rfl)) rfl) (fun z => nomatch z) fun _ H6 e6 => ?_
  have B6 := B5.ex e6
  have E6 := E5.ex e6
  have e26 := (((e3.trans e4).trans e5).trans e6)
  have hc6 := e26 _ _ hc2
  have hcd6 := dps_ex e26 _ _ hcd2
  -- undo
  have mne : S1.made ≠ [] := by rw [m1]; simp
  refine ⟨.ref A.p, rfl, A.p, A.dx, _, rfl, B6.ob, rfl, A, S1, S0.held, rfl, B6, ok1, p1, mne, sh1, fun H7 hd nfd x7 B7 => ?_⟩
  have eS : ({ S1 with held := S0.held, made := S1.made.dropLast, splits := S1.splits.dropLast, prev := none } : BS) = { S0 with prev := none } := by
    rw [st]
    show ({ ch := S0.ch, r := S0.r, held := S0.held, made := (S0.made ++ [callD cl]).dropLast, splits := (S0.splits ++ [!decide (a = b)]).dropLast, prev := none, F := S0.F } : BS) = { S0 with prev := none }
    rw [List.dropLast_concat, List.dropLast_concat]
  rw [eS] at B7
  have t7 := bn_tx B6 x7
  have E7 := E6.tx (by
    show ((Fz (planD S0.ch [(minW S0.ch, S0.r)])) && (Fz (callD cl) && (Fz (bothD (a, b)) && true))) = true
    rw [fz_plan, fz_call]
    rfl) t7
  have d47 := dp_tx t7 _ _ (fz_call cl) (dp_ex e6 _ _ d45)
  have hc7 := x7 lc _ nl hc6
  have hcd7 := dps_tx t7 _ _ ok1.fz hcd6
  have hz0 : S0.held.length ≤ 51 := by omega
  -- the fifth look
  refine vs_if (b := false) (VT.to (vt_or (a := false) (b := false) (VT.to (vt_test (ve_notN (ve_mb (A := { A with hd := hd }) (vv_var rfl) B7 rfl va_nil (RB_first_split.no sp)))) rfl)
    fun _ => VT.to (vt_test (ve_neD (d1 := .tuple []) (d2 := .tuple []) (ve_diff (ds := []) (A := { A with hd := hd }) (vv_var rfl) B7 hz0 (fun ys _ => diff_none same ys)) (ve_tup va_nil (by show 0 ≤ 1000; decide)) rfl rfl)) rfl) rfl) (fun z => nomatch z) fun _ H8 e8 => ?_
  have B8 := B7.ex e8
  have d48 := dp_ex e8 _ _ d47
  have ok0 : ({ S0 with prev := none } : BS).Ok := ⟨okc, by show S0.splits.length = S0.made.length; rw [sp, ln]; simp, by show S0.made.length ≤ 90; omega, by
    have := ok1.fz
    rw [m1] at this
    exact fz_all fun d hd => fz_mem this (List.mem_append_left _ hd), by show S0.held.length ≤ 50; omega⟩
  -- done again
  refine ⟨.ref A.p, rfl, v4, rfl, { A with hd := hd }, { S0 with prev := none }, S1, cl, v4, rfl, B8, ok0, d48, done_prev done, fun H9 x9 B9 => ?_⟩
  have t9 := bn_tx4 B8 x9
  have d49 := dp_tx t9 _ _ (fz_call cl) d48
  have ne_hd : lc ≠ hd := by
    obtain ⟨kvs, k1, _⟩ := B7.held
    exact (ne_kind k1 hc7 (by intro z; cases z)).symm
  have nl4 : lc ∉ [hd, A.ml, A.sl, A.pl] := by
    simp only [List.mem_cons, List.not_mem_nil, or_false, not_or] at nl ⊢
    exact ⟨ne_hd, nl.2.2.1, nl.2.2.2.1, nl.2.2.2.2⟩
  have hc9 := x9 lc _ nl4 (e8 _ _ hc7)
  have hcd9 := dps_tx t9 _ _ ok1.fz (dps_ex e8 _ _ hcd7)
  have X49 : ∀ {H3 : Hp} {σ : L2.St} (k : Nat) (z : PyData), σ[4]? = some (some v4) → Dp K H3 v4 (callD cl) → (PyData.str wd :: .str t :: args.map .str)[k]? = some z → VE K (tOp (rIxT K) (tVar 4) (tC (.int k))) σ H3 z := X4
  -- load(target, (1, 1))
  have nm1 : Nm1 (1, 1) := ⟨by decide, by decide, by decide +kernel⟩
  have nmb : Nm 3500 (1, 1) := ⟨by decide, by decide, Bd.one.mono (by decide), Bd.one.mono (by decide)⟩
  have inr : InR (1, 1) := by
    have := pw_pos 1000
    exact ⟨by show (1 : Int) ≤ 1 * p2 1000; omega, by show (1 : Int) ≤ 1 * p2 1000; omega⟩
  refine vs_mm (A := { A with hd := hd }) (vv_var rfl) B9 ok1 rfl (va_cons (X49 1 _ rfl d49 rfl) (va_cons (ve_tup (va_cons ve_int (va_cons ve_int va_nil)) (by show 2 ≤ 1000; decide)) va_nil)) (RM_load.mk (z := t) (x := (1, 1)) ⟨nt, nm1, nmb, inr, by rw [c1]; exact one⟩) fun H10 x10 B10 => ?_
  have t10 := bn_tx4 B9 x10
  have hc10 := x10 lc _ nl4 hc9
  have hcd10 := dps_tx t10 _ _ ok1.fz hcd9
  have s10 : (S1.store t ((1, 1), (1, 1)) (loadD t (1, 1))).splits = List.replicate n false ++ true :: [false] := by
    show S1.splits ++ [!decide (((1, 1) : Num) = (1, 1))] = _
    rw [s1, List.append_assoc]
    rfl
  have hz10 : (S1.store t ((1, 1), (1, 1)) (loadD t (1, 1))).held.length ≤ 51 := by
    show (putR S1.held t ((1, 1), (1, 1))).length ≤ 51
    have l1 := len_put S1.held t ((1, 1), (1, 1))
    have l2 := len_put S0.held t (a, b)
    rw [h1] at l1
    rw [h1]
    omega
  have sm10 : Same (S1.store t ((1, 1), (1, 1)) (loadD t (1, 1))).held := by
    show Same (putR S1.held t ((1, 1), (1, 1)))
    rw [h1]
    exact same_put2 same t _ _
  refine vs_ret (K := K) (ve_andV (VE.to (ve_eqI (ve_mb (A := { A with hd := hd }) (vv_var rfl) B10 rfl va_nil (RB_first_split.yes s10 (by rw [s10]; simp; omega))) (ve_sub (ve_lenL (CV rfl hc10 hcd10)) ve_int)) (by rw [decide_eq_true e_n]))
    fun _ => ve_eqD (d1 := .tuple []) (d2 := .tuple []) (ve_diff (ds := []) (A := { A with hd := hd }) (vv_var rfl) B10 hz10 (fun ys _ => diff_none sm10 ys)) (ve_tup va_nil (by show 0 ≤ 1000; decide)) rfl rfl) fun v H11 e11 d11 => ?_
  have hv : v = .bl true := dp_bool d11
  subst hv
  refine q H11 fun f o hf hh => ?_
  have n1 : f ∉ [A.p, A.hd, A.ml, A.sl, A.pl] := fun hm => nf f hm hf
  have n2 : f ∉ [hd, A.ml, A.sl, A.pl] := by
    have nfd' : ¬ S0.F hd := by rw [← f1]; exact nfd
    intro hm
    rcases List.mem_cons.mp hm with e | hm
    · exact nfd' (e ▸ hf)
    · exact n1 (List.mem_cons_of_mem _ (List.mem_cons_of_mem _ hm))
  exact e11 _ _ (x10 f o n2 (x9 f o n2 (e8 _ _ (x7 f o n1 (e6 _ _ (e5 _ _ (e4 _ _ (e3 _ _ (e2 _ _ (e1 _ _ hh))))))))))
end
end SR
end
section
set_option Elab.async false
set_option linter.all false
set_option maxRecDepth 100000
set_option maxHeartbeats 1000000
/-! Cells are unique; what has w bits is kept. -/
namespace SR
theorem low_mul {n d : Int} (hn : 0 ≤ n) (hd : 0 < d) : (low n d).1 * gcdI n d = n ∧ (low n d).2 * gcdI n d = d :=
  ⟨Int.ediv_mul_cancel (gcdI_dvd_l hn), Int.ediv_mul_cancel (gcdI_dvd_r (by omega))⟩
theorem low_cross {n d : Int} (hn : 0 ≤ n) (hd : 0 < d) : (low n d).1 * d = n * (low n d).2 := by
  obtain ⟨h1, h2⟩ := low_mul hn hd
  generalize (low n d).1 = a at *
  generalize (low n d).2 = b at *
  generalize gcdI n d = g at *
  rw [← h1, ← h2]
  grind
/-- lowest terms are one -/
theorem nm1_uniq {x y : Num} (hx : Nm1 x) (hy : Nm1 y) (h : x.1 * y.2 = y.1 * x.2) : x = y := by
  obtain ⟨a, b⟩ := x
  obtain ⟨c, d⟩ := y
  obtain ⟨a0, b0, hg⟩ := hx
  obtain ⟨c0, d0, hg'⟩ := hy
  have ha : ((a.toNat : Nat) : Int) = a := Int.toNat_of_nonneg (Int.le_of_lt a0)
  have hb : ((b.toNat : Nat) : Int) = b := Int.toNat_of_nonneg (Int.le_of_lt b0)
  have hc : ((c.toNat : Nat) : Int) = c := Int.toNat_of_nonneg (Int.le_of_lt c0)
  have hd : ((d.toNat : Nat) : Int) = d := Int.toNat_of_nonneg (Int.le_of_lt d0)
  have g1 : Nat.gcd a.toNat b.toNat = 1 := by
    have : ((Nat.gcd a.toNat b.toNat : Nat) : Int) = 1 := hg
    omega
  have g2 : Nat.gcd c.toNat d.toNat = 1 := by
    have : ((Nat.gcd c.toNat d.toNat : Nat) : Int) = 1 := hg'
    omega
  have hh : a.toNat * d.toNat = c.toNat * b.toNat := by
    have : a * d = c * b := h
    rw [← ha, ← hb, ← hc, ← hd, ← Int.natCast_mul, ← Int.natCast_mul] at this
    exact Int.ofNat.inj this
  have d1 : a.toNat ∣ c.toNat := (Nat.Coprime.dvd_of_dvd_mul_right g1 ⟨d.toNat, hh.symm⟩)
  have d2 : c.toNat ∣ a.toNat := (Nat.Coprime.dvd_of_dvd_mul_right g2 ⟨b.toNat, hh⟩)
  have e1 : a.toNat = c.toNat := Nat.dvd_antisymm d1 d2
  have e2 : b.toNat = d.toNat := by
    rw [e1] at hh
    exact (Nat.eq_of_mul_eq_mul_left (by omega) hh).symm
  have e3 : a = c := by omega
  have e4 : b = d := by omega
  rw [e3, e4]
theorem low_eq {n d n' d' : Int} (hn : 0 < n) (hd : 0 < d) (hn' : 0 < n') (hd' : 0 < d') (h : n * d' = n' * d) : low n d = low n' d' := by
  refine nm1_uniq (low_nm1 hn hd) (low_nm1 hn' hd') ?_
  have c1 := low_cross (Int.le_of_lt hn) hd
  have c2 := low_cross (Int.le_of_lt hn') hd'
  generalize low n d = x at *
  generalize low n' d' = y at *
  have e : x.1 * y.2 * (d * d') = y.1 * x.2 * (d * d') := by
    have e1 : x.1 * y.2 * (d * d') = (x.1 * d) * (y.2 * d') := by grind
    have e2 : y.1 * x.2 * (d * d') = (y.1 * d') * (x.2 * d) := by grind
    rw [e1, e2, c1, c2]
    have e3 : n * x.2 * (y.2 * d') = (n * d') * (x.2 * y.2) := by grind
    have e4 : n' * y.2 * (x.2 * d) = (n' * d) * (x.2 * y.2) := by grind
    rw [e3, e4, h]
  exact Int.eq_of_mul_eq_mul_right (Int.ne_of_gt (Int.mul_pos hd hd')) e
theorem low_self {x : Num} (h : Nm1 x) : low x.1 x.2 = x := by
  refine nm1_uniq (low_nm1 h.1 h.2.1) h ?_
  exact low_cross (Int.le_of_lt h.1) h.2.1
theorem pow_pos2 {k e : Int} (hk : 0 < k) : 0 < (sc (k, 1) e).1 ∧ 0 < (sc (k, 1) e).2 := ⟨Int.mul_pos hk (pw_pos _), Int.mul_pos (show (0 : Int) < 1 by decide) (pw_pos _)⟩
theorem pow_nm1 {k e : Int} (hk : 0 < k) : Nm1 (powN k e) := low_nm1 (pow_pos2 hk).1 (pow_pos2 hk).2
theorem pow_cell {k e : Int} (hk : 0 < k) : Na (powN k e) e = k * Nb (powN k e) e := by
  have c := low_cross (Int.le_of_lt (pow_pos2 (e := e) hk).1) (pow_pos2 (e := e) hk).2
  have h1 : (sc (k, 1) e).1 = k * p2 (max e 0) := rfl
  have h2 : (sc (k, 1) e).2 = 1 * p2 (max (0 - e) 0) := rfl
  have h3 : powN k e = low (sc (k, 1) e).1 (sc (k, 1) e).2 := rfl
  rw [Na_eq, Nb_eq]
  rw [← h3, h1, h2, Int.one_mul] at c
  rw [c]
  grind
/-- the cell at a scale -/
theorem cell_Z {x : Num} {w k e Z : Int} (h2 : 0 < x.2) (c : IsCell x w k e) (hZ : 0 ≤ Z) (hz : 0 ≤ e + Z) : k * p2 (e + Z) * x.2 ≤ x.1 * p2 Z ∧ x.1 * p2 Z < (k + 1) * p2 (e + Z) * x.2 := by
  obtain ⟨_, _, h, _⟩ := Na_Z (x := x) hZ hz
  have nb := Nb_pos h2 e
  have pp := pw_pos (e + Z)
  have q : 0 < p2 (e + Z) * x.2 := Int.mul_pos pp h2
  constructor
  · have := Int.mul_le_mul_of_nonneg_right c.le (Int.le_of_lt q)
    refine Int.le_of_mul_le_mul_right (a := Nb x e) ?_ nb
    have e1 : k * p2 (e + Z) * x.2 * Nb x e = k * Nb x e * (p2 (e + Z) * x.2) := by grind
    have e2 : x.1 * p2 Z * Nb x e = Na x e * (p2 (e + Z) * x.2) := by rw [← h]; grind
    rw [e1, e2]
    exact this
  · have := Int.mul_lt_mul_of_pos_right c.lt q
    refine Int.lt_of_mul_lt_mul_right (a := Nb x e) ?_ (Int.le_of_lt nb)
    have e1 : (k + 1) * p2 (e + Z) * x.2 * Nb x e = (k + 1) * Nb x e * (p2 (e + Z) * x.2) := by grind
    have e2 : x.1 * p2 Z * Nb x e = Na x e * (p2 (e + Z) * x.2) := by rw [← h]; grind
    rw [e1, e2]
    exact this
theorem cell_lt {x : Num} {w k e k' e' : Int} (hw : 1 ≤ w) (h2 : 0 < x.2) (c : IsCell x w k e) (c' : IsCell x w k' e') : ¬ e < e' := by
  intro h
  obtain ⟨Z, hZ, hz, hz'⟩ : ∃ Z : Int, 0 ≤ Z ∧ 0 ≤ e + Z ∧ 0 ≤ e' + Z := ⟨max 0 (max (-e) (-e')), by omega, by omega, by omega⟩
  have b1 := (cell_Z h2 c hZ hz).2
  have b2 := (cell_Z h2 c' hZ hz').1
  have l1 : (k + 1) * p2 (e + Z) ≤ p2 (w + e + Z) := by
    have : (k + 1) * p2 (e + Z) ≤ p2 w * p2 (e + Z) := Int.mul_le_mul_of_nonneg_right (by have := c.hi; omega) (Int.le_of_lt (pw_pos _))
    rw [← pw_add (by omega) hz] at this
    rw [Int.add_assoc]
    exact this
  have l2 : p2 (w - 1 + (e' + Z)) ≤ k' * p2 (e' + Z) := by
    rw [pw_add (by omega) hz']
    exact Int.mul_le_mul_of_nonneg_right c'.lo (Int.le_of_lt (pw_pos _))
  have l3 := pw_mono (show w + e + Z ≤ w - 1 + (e' + Z) by omega)
  have l4 := Int.mul_le_mul_of_nonneg_right (show (k + 1) * p2 (e + Z) ≤ k' * p2 (e' + Z) by omega) (Int.le_of_lt h2)
  omega
theorem cell_uniq {x : Num} {w k e k' e' : Int} (hw : 1 ≤ w) (h2 : 0 < x.2) (c : IsCell x w k e) (c' : IsCell x w k' e') : k = k' ∧ e = e' := by
  have h1 := cell_lt hw h2 c c'
  have h3 := cell_lt hw h2 c' c
  have he : e = e' := by omega
  subst he
  refine ⟨?_, rfl⟩
  have nb := Nb_pos h2 e
  have a1 : k < k' + 1 := by
    have : k * Nb x e < (k' + 1) * Nb x e := Int.lt_of_le_of_lt c.le c'.lt
    exact Int.lt_of_mul_lt_mul_right this (Int.le_of_lt nb)
  have a2 : k' < k + 1 := by
    have : k' * Nb x e < (k + 1) * Nb x e := Int.lt_of_le_of_lt c'.le c.lt
    exact Int.lt_of_mul_lt_mul_right this (Int.le_of_lt nb)
  omega
def Rep (w : Int) (x : Num) : Prop := ∃ k e, p2 (w - 1) ≤ k ∧ k < p2 w ∧ x = powN k e
def RegX (w : Int) (x : Num) : Prop := Rep w x ∧ InR x
theorem rep_cell {w k e : Int} (hw : 1 ≤ w) (h1 : p2 (w - 1) ≤ k) (h2 : k < p2 w) : IsCell (powN k e) w k e := by
  have hk : 0 < k := by have := pw_pos (w - 1); omega
  have c := pow_cell (e := e) hk
  have nb := Nb_pos (pow_nm1 (e := e) hk).2.1 e
  refine ⟨h1, h2, by rw [c]; omega, ?_⟩
  rw [c]
  exact Int.mul_lt_mul_of_pos_right (by omega) nb
theorem low_zero {d : Int} (hd : 0 < d) : (low 0 d).1 = 0 := Int.zero_ediv _
theorem round_same {x : Num} {w k e : Int} {r : Rule} (hx : 0 < x.1) (hd : 0 < x.2) (hw : 1 ≤ w) (c : IsCell x w k e) (h : Na x e = k * Nb x e) : roundOnce x w r = x := by
  obtain ⟨e1, e2⟩ := cell_uniq hw hd (cell_is hx hd hw) c
  have ep : (posOf x w).1 = 0 := by
    unfold posOf
    rw [e1, e2]
    have : (sc x (0 - e)).1 - k * (sc x (0 - e)).2 = 0 := by
      have : Na x e - k * Nb x e = 0 := by omega
      exact this
    rw [this]
    exact low_zero (Nb_pos hd e)
  have ee : endsOf x w = (x, x) := by
    unfold endsOf
    rw [if_pos ep]
  unfold roundOnce
  rw [ee]
  split <;> rfl
theorem rep_round {w k e : Int} {r : Rule} (hw : 1 ≤ w) (h1 : p2 (w - 1) ≤ k) (h2 : k < p2 w) : roundOnce (powN k e) w r = powN k e := by
  have hk : 0 < k := by have := pw_pos (w - 1); omega
  have n := pow_nm1 (e := e) hk
  exact round_same n.1 n.2.1 hw (rep_cell hw h1 h2) (pow_cell hk)
theorem rep_nm1 {w : Int} {x : Num} (h : Rep w x) : Nm1 x := by
  obtain ⟨k, e, h1, h2, rfl⟩ := h
  exact pow_nm1 (by have := pw_pos (w - 1); omega)
/-- the same number with j bits more -/
theorem pow_shift {k e j : Int} (hk : 0 < k) (hj : 0 ≤ j) : powN k e = powN (k * p2 j) (e - j) := by
  refine low_eq (pow_pos2 hk).1 (pow_pos2 hk).2 (pow_pos2 (Int.mul_pos hk (pw_pos _))).1 (pow_pos2 (Int.mul_pos hk (pw_pos _))).2 ?_
  show k * p2 (max e 0) * (1 * p2 (max (0 - (e - j)) 0)) = k * p2 j * p2 (max (e - j) 0) * (1 * p2 (max (0 - e) 0))
  rw [Int.one_mul, Int.one_mul, Int.mul_assoc, ← pw_add (by omega) (by omega), Int.mul_assoc, Int.mul_assoc, ← pw_add (by omega) (by omega), ← pw_add (by omega) (by omega)]
  congr 2
  omega
theorem rep_wide {m w : Int} {x : Num} (hm : 1 ≤ m) (h : Rep m x) (hw : m ≤ w) : Rep w x := by
  obtain ⟨k, e, h1, h2, rfl⟩ := h
  have hk : 0 < k := by have := pw_pos (m - 1); omega
  refine ⟨k * p2 (w - m), e - (w - m), ?_, ?_, pow_shift hk (by omega)⟩
  · have := Int.mul_le_mul_of_nonneg_right h1 (Int.le_of_lt (pw_pos (w - m)))
    rw [← pw_add (by omega) (by omega), show m - 1 + (w - m) = w - 1 by omega] at this
    exact this
  · have := Int.mul_lt_mul_of_pos_right h2 (pw_pos (w - m))
    rw [← pw_add (by omega) (by omega), show m + (w - m) = w by omega] at this
    exact this
theorem rep_up {w k e : Int} (hw : 1 ≤ w) (h1 : p2 (w - 1) ≤ k) (h2 : k ≤ p2 w) : Rep w (powN k e) := by
  rcases Int.lt_or_le k (p2 w) with h | h
  · exact ⟨k, e, h1, h, rfl⟩
  · have ek : k = p2 w := by omega
    have d : p2 w = p2 (w - 1) * p2 1 := by rw [← pw_add (by omega) (by decide)]; congr 1; omega
    refine ⟨p2 (w - 1), e + 1, Int.le_refl _, ?_, ?_⟩
    · have := pw_pos (w - 1)
      have e2 : p2 1 = 2 := rfl
      rw [d, e2]
      omega
    · rw [pow_shift (pw_pos (w - 1)) (show (0 : Int) ≤ 1 by decide), ← d, ek]
      congr 1
      omega
theorem round_rep {x : Num} {w : Int} {r : Rule} (hx : Nm1 x) (hw : 1 ≤ w) : Rep w (roundOnce x w r) := by
  have c := cell_is hx.1 hx.2.1 hw
  have lo := c.lo
  have hi := c.hi
  have pp := pw_pos (w - 1)
  unfold roundOnce endsOf
  by_cases hp : (posOf x w).1 = 0
  · rw [if_pos hp]
    have ex : x = powN (cellOf x w).1 (cellOf x w).2 := by
      refine nm1_uniq hx (pow_nm1 (by omega)) ?_
      have hz := pos_zero hx.2.1 hp
      have hd := Nb_pos hx.2.1 (cellOf x w).2
      have e0 : Na x (cellOf x w).2 - (cellOf x w).1 * Nb x (cellOf x w).2 = 0 := by
        have h1 : 0 ≤ Na x (cellOf x w).2 - (cellOf x w).1 * Nb x (cellOf x w).2 := by have := c.le; omega
        have h2 : (low (Na x (cellOf x w).2 - (cellOf x w).1 * Nb x (cellOf x w).2) (Nb x (cellOf x w).2)).1 = 0 := hp
        have h3 := (low_mul h1 hd).1
        rw [h2, Int.zero_mul] at h3
        exact h3.symm
      have q := pow_cell (k := (cellOf x w).1) (e := (cellOf x w).2) (by omega)
      generalize cellOf x w = ke at *
      obtain ⟨k, e⟩ := ke
      have e0' : Na x e - k * Nb x e = 0 := e0
      have q' : Na (powN k e) e = k * Nb (powN k e) e := q
      show x.1 * (powN k e).2 = (powN k e).1 * x.2
      generalize powN k e = y at *
      rw [Na_eq, Nb_eq] at e0' q'
      have P1 := pw_pos (max (0 - e) 0)
      have P2 := pw_pos (max e 0)
      generalize p2 (max (0 - e) 0) = s at *
      generalize p2 (max e 0) = t at *
      have : x.1 * y.2 * (s * t) = y.1 * x.2 * (s * t) := by
        have h1 : x.1 * s = k * (x.2 * t) := by omega
        have a1 : x.1 * y.2 * (s * t) = (x.1 * s) * (y.2 * t) := by grind
        have a2 : y.1 * x.2 * (s * t) = (y.1 * s) * (x.2 * t) := by grind
        rw [a1, a2, h1, q']
        grind
      exact Int.eq_of_mul_eq_mul_right (Int.ne_of_gt (Int.mul_pos P1 P2)) this
    have rp : Rep w x := ⟨_, _, lo, hi, ex⟩
    split <;> exact rp
  · rw [if_neg hp]
    split
    · exact rep_up hw (by show p2 (w - 1) ≤ (cellOf x w).1 + 1; omega) (by show (cellOf x w).1 + 1 ≤ p2 w; omega)
    · exact rep_up hw lo (by omega)
theorem step_rep {x : Num} {m w : Int} {r : Rule} (hm : 1 ≤ m) (hw : 1 ≤ w) (h : Rep m x) : Rep (min m w) (roundOnce x w r) := by
  by_cases hmw : m ≤ w
  · obtain ⟨k, e, h1, h2, ex⟩ := rep_wide hm h hmw
    rw [ex, rep_round hw h1 h2, ← ex, Int.min_eq_left hmw]
    exact h
  · rw [Int.min_eq_right (by omega)]
    exact round_rep (rep_nm1 h) hw
theorem fold_rep : ∀ {c : Chain} {x : Num} {m : Int}, 1 ≤ m → (∀ s ∈ c, 1 ≤ s.1) → Rep m x → Rep (c.foldl (fun m t => min m t.1) m) (appliedC x c)
  | [], x, m, _, _, h => h
  | s :: c, x, m, hm, hc, h => by
    have h1 := hc s (List.mem_cons_self ..)
    exact fold_rep (c := c) (x := roundOnce x s.1 s.2) (m := min m s.1) (by omega) (fun t ht => hc t (List.mem_cons_of_mem _ ht)) (step_rep hm h1 h)
theorem rep_applied {u : Num} {c : Chain} (hu : Nm1 u) (h : ChOk c) : Rep (minW c) (appliedC u c) := by
  cases c with
  | nil => have := h.pos; simp at this
  | cons s c =>
    rw [minW_fold]
    have h1 := (h.ok s (List.mem_cons_self ..)).1
    exact fold_rep (x := roundOnce u s.1 s.2) h1 (fun t ht => (h.ok t (List.mem_cons_of_mem _ ht)).1) (round_rep hu h1)
theorem one_rep {w : Int} (h1 : 1 ≤ w) : roundOnce (1, 1) w .down = (1, 1) := by
  have e : ((1, 1) : Num) = powN (p2 (w - 1)) (0 - (w - 1)) := by
    refine nm1_uniq ⟨by decide, by decide, by decide +kernel⟩ (pow_nm1 (pw_pos _)) ?_
    have c := low_cross (n := (sc (p2 (w - 1), 1) (0 - (w - 1))).1) (d := (sc (p2 (w - 1), 1) (0 - (w - 1))).2) (Int.le_of_lt (pow_pos2 (pw_pos _)).1) (pow_pos2 (pw_pos _)).2
    have a1 : (sc (p2 (w - 1), 1) (0 - (w - 1))).1 = p2 (w - 1) := by
      show p2 (w - 1) * p2 (max (0 - (w - 1)) 0) = p2 (w - 1)
      rw [show max (0 - (w - 1)) 0 = 0 by omega, pw_zero, Int.mul_one]
    have a2 : (sc (p2 (w - 1), 1) (0 - (w - 1))).2 = p2 (w - 1) := by
      show 1 * p2 (max (0 - (0 - (w - 1))) 0) = p2 (w - 1)
      rw [show max (0 - (0 - (w - 1))) 0 = w - 1 by omega, Int.one_mul]
    show 1 * (low (sc (p2 (w - 1), 1) (0 - (w - 1))).1 (sc (p2 (w - 1), 1) (0 - (w - 1))).2).2 = (low (sc (p2 (w - 1), 1) (0 - (w - 1))).1 (sc (p2 (w - 1), 1) (0 - (w - 1))).2).1 * 1
    generalize low (sc (p2 (w - 1), 1) (0 - (w - 1))).1 (sc (p2 (w - 1), 1) (0 - (w - 1))).2 = y at *
    rw [a1, a2] at c
    have pp := pw_pos (w - 1)
    have : y.1 * p2 (w - 1) = y.2 * p2 (w - 1) := by rw [c]; grind
    have := Int.eq_of_mul_eq_mul_right (Int.ne_of_gt pp) this
    omega
  rw [e]
  refine rep_round h1 (Int.le_refl _) ?_
  have := pw_pos (w - 1)
  have d : p2 w = 2 * p2 (w - 1) := by rw [← pw_succ (by omega)]; congr 1; omega
  omega
end SR
end
section
set_option Elab.async false
set_option linter.all false
set_option maxRecDepth 100000
set_option maxHeartbeats 1000000
/-! What is in range; sizes; powers of two in lowest terms. -/
namespace SR
theorem pw_lt {a b : Int} (h0 : 0 ≤ b) (h : p2 a ≤ p2 b) : a ≤ b := by
  rcases Int.lt_or_le b a with hb | hb
  · have h1 := pw_mono (show b + 1 ≤ a by omega)
    rw [pw_succ h0] at h1
    have := pw_pos b
    omega
  · exact hb
theorem inr_pow {k e : Int} (hk : 0 < k) : InR (powN k e) ↔ k * p2 (max e 0) ≤ p2 (max (0 - e) 0) * p2 1000 ∧ p2 (max (0 - e) 0) ≤ k * p2 (max e 0) * p2 1000 := by
  have c := low_cross (Int.le_of_lt (pow_pos2 (e := e) hk).1) (pow_pos2 (e := e) hk).2
  have n := pow_nm1 (e := e) hk
  have h1 : (sc (k, 1) e).1 = k * p2 (max e 0) := rfl
  have h2 : (sc (k, 1) e).2 = 1 * p2 (max (0 - e) 0) := rfl
  have h3 : powN k e = low (sc (k, 1) e).1 (sc (k, 1) e).2 := rfl
  rw [← h3, h1, h2, Int.one_mul] at c
  have N0 : 0 < k * p2 (max e 0) := Int.mul_pos hk (pw_pos _)
  have D0 := pw_pos (max (0 - e) 0)
  generalize powN k e = x at *
  generalize k * p2 (max e 0) = N at *
  generalize p2 (max (0 - e) 0) = D at *
  have x1 := n.1
  have x2 := n.2.1
  unfold InR
  have a1 : x.1 ≤ x.2 * p2 1000 ↔ N ≤ D * p2 1000 := by
    have MM := pw_pos 1000
    generalize p2 1000 = M at *
    constructor
    · intro h
      have := Int.mul_le_mul_of_nonneg_right h (Int.le_of_lt D0)
      rw [c] at this
      refine Int.le_of_mul_le_mul_right (a := x.2) ?_ x2
      have e1 : D * M * x.2 = x.2 * M * D := by grind
      rw [e1]; exact this
    · intro h
      have := Int.mul_le_mul_of_nonneg_right h (Int.le_of_lt x2)
      refine Int.le_of_mul_le_mul_right (a := D) ?_ D0
      have e1 : x.2 * M * D = D * M * x.2 := by grind
      rw [c, e1]; exact this
  have a2 : x.2 ≤ x.1 * p2 1000 ↔ D ≤ N * p2 1000 := by
    have MM := pw_pos 1000
    generalize p2 1000 = M at *
    constructor
    · intro h
      have := Int.mul_le_mul_of_nonneg_right h (Int.le_of_lt D0)
      refine Int.le_of_mul_le_mul_right (a := x.2) ?_ x2
      have e1 : N * M * x.2 = (N * x.2) * M := by grind
      have e2 : x.1 * M * D = (x.1 * D) * M := by grind
      rw [e1, ← c, ← e2, Int.mul_comm D]; exact this
    · intro h
      have := Int.mul_le_mul_of_nonneg_right h (Int.le_of_lt x2)
      refine Int.le_of_mul_le_mul_right (a := D) ?_ D0
      have e1 : N * M * x.2 = (N * x.2) * M := by grind
      have e2 : x.1 * M * D = (x.1 * D) * M := by grind
      rw [e2, c, ← e1, Int.mul_comm x.2]; exact this
  rw [a1, a2]
theorem k_le {w k : Int} (h2 : w ≤ 5) (hk : k < p2 w) : k < 32 := by
  have := pw_mono (show w ≤ 5 by omega)
  have e : p2 5 = 32 := rfl
  omega
theorem num_in {w k e : Int} (h1 : 1 ≤ w) (h2 : w ≤ 5) (hk1 : p2 (w - 1) ≤ k) (hk2 : k < p2 w) (he : -6 ≤ e ∧ e ≤ 6) : InR (powN k e) := by
  have hk : 0 < k := by have := pw_pos (w - 1); omega
  have hk3 := k_le h2 hk2
  rw [inr_pow hk]
  have a1 : p2 (max e 0) ≤ 64 := pw_mono (a := max e 0) (b := 6) (by omega)
  have a2 : p2 (max (0 - e) 0) ≤ 64 := pw_mono (a := max (0 - e) 0) (b := 6) (by omega)
  have a3 : (65536 : Int) ≤ p2 1000 := pw_mono (a := 16) (b := 1000) (by decide)
  have b1 := pw_pos (max e 0)
  have b2 := pw_pos (max (0 - e) 0)
  have c1 : k * p2 (max e 0) ≤ 32 * 64 := Int.mul_le_mul (by omega) a1 (by omega) (by omega)
  have c2 : 0 < k * p2 (max e 0) := Int.mul_pos hk b1
  generalize k * p2 (max e 0) = N at *
  generalize p2 (max (0 - e) 0) = D at *
  generalize p2 1000 = M at *
  have m1 : 1 * M ≤ D * M := Int.mul_le_mul_of_nonneg_right (by omega) (by omega)
  have m2 : 1 * M ≤ N * M := Int.mul_le_mul_of_nonneg_right (by omega) (by omega)
  omega
/-- the exponent of a register -/
theorem reg_e {w k e : Int} (h2 : w ≤ 5) (hk1 : p2 (w - 1) ≤ k) (hk2 : k < p2 w) (h : InR (powN k e)) : -1005 ≤ e ∧ e ≤ 1000 := by
  have hk : 0 < k := by have := pw_pos (w - 1); omega
  have hk3 := k_le h2 hk2
  rw [inr_pow hk] at h
  obtain ⟨i1, i2⟩ := h
  constructor
  · by_cases he : 0 ≤ e
    · omega
    · rw [show max (0 - e) 0 = 0 - e by omega, show max e 0 = 0 by omega, pw_zero, Int.mul_one] at i2
      have : k * p2 1000 ≤ 32 * p2 1000 := Int.mul_le_mul_of_nonneg_right (by omega) (Int.le_of_lt (pw_pos _))
      have e5 : (32 : Int) * p2 1000 = p2 1005 := by
        have : p2 (5 + 1000) = p2 5 * p2 1000 := pw_add (by decide) (by decide)
        exact this.symm
      have := pw_lt (a := 0 - e) (b := 1005) (by decide) (by omega)
      omega
  · by_cases he : 0 ≤ e
    · rw [show max (0 - e) 0 = 0 by omega, show max e 0 = e by omega, pw_zero, Int.one_mul] at i1
      have : 1 * p2 e ≤ k * p2 e := Int.mul_le_mul_of_nonneg_right (by omega) (Int.le_of_lt (pw_pos _))
      exact pw_lt (by decide) (by omega)
    · omega
theorem reg_nm {w : Int} {x : Num} (h1 : 1 ≤ w) (h2 : w ≤ 5) (h : RegX w x) : Nm 1050 x := by
  obtain ⟨⟨k, e, hk1, hk2, rfl⟩, hi⟩ := h
  have hk : 0 < k := by have := pw_pos (w - 1); omega
  have he := reg_e h2 hk1 hk2 hi
  have bk : Bd 5 k := ⟨by omega, by have := k_le h2 hk2; omega⟩
  refine low_nm (pow_pos2 hk).1 (pow_pos2 hk).2 ?_ ?_
  · exact (bk.shlv (e := max e 0) (b := 1000) (by omega)).mono (by decide)
  · exact (Bd.one.shlv (e := max (0 - e) 0) (b := 1005) (by omega)).mono (by decide)
end SR
end
section
set_option Elab.async false
set_option linter.all false
set_option maxRecDepth 100000
set_option maxHeartbeats 1000000
/-! One rounding by its threshold. -/
namespace SR
/-- what is left above the cell's count -/
def remP (y : Num) (w : Int) : Int := Na y (cellOf y w).2 - (cellOf y w).1 * Nb y (cellOf y w).2
def remQ (y : Num) (w : Int) : Int := Nb y (cellOf y w).2
def aboveP (P Q : Int) (t : Thr) : Bool := decide (t.1.1 * Q < P * t.1.2) || (decide (t.1.1 * Q = P * t.1.2) && t.2)
def up1 (b : Bool) : Int := if b = true then 1 else 0
/-- rounded by a pair of thresholds -/
def thrRound (y : Num) (w : Int) (p : Thr × Thr) : Num := if remP y w = 0 then y else powN ((cellOf y w).1 + up1 (aboveP (remP y w) (remQ y w) (sel p ((cellOf y w).1 % 2)))) (cellOf y w).2
theorem rem_ok {y : Num} {w : Int} (hy : Nm1 y) (hw : 1 ≤ w) : 0 ≤ remP y w ∧ remP y w < remQ y w ∧ 0 < remQ y w := by
  have c := cell_is hy.1 hy.2.1 hw
  have nb := Nb_pos hy.2.1 (cellOf y w).2
  have h1 := c.le
  have h2 := c.lt
  unfold remP remQ
  refine ⟨by omega, ?_, nb⟩
  have e : ((cellOf y w).1 + 1) * Nb y (cellOf y w).2 = (cellOf y w).1 * Nb y (cellOf y w).2 + Nb y (cellOf y w).2 := by grind
  omega
theorem pos_low (y : Num) (w : Int) : posOf y w = low (remP y w) (remQ y w) := rfl
theorem pos_cross {y : Num} {w : Int} (hy : Nm1 y) (hw : 1 ≤ w) : ∃ g, 0 < g ∧ (posOf y w).1 * g = remP y w ∧ (posOf y w).2 * g = remQ y w := by
  have r := rem_ok hy hw
  rw [pos_low]
  exact ⟨gcdI (remP y w) (remQ y w), gcdI_pos r.2.2, low_mul r.1 r.2.2⟩
theorem pos_zero_iff {y : Num} {w : Int} (hy : Nm1 y) (hw : 1 ≤ w) : (posOf y w).1 = 0 ↔ remP y w = 0 := by
  obtain ⟨g, g0, h1, h2⟩ := pos_cross hy hw
  constructor
  · intro h; rw [h, Int.zero_mul] at h1; exact h1.symm
  · intro h
    rw [h] at h1
    rcases Int.mul_eq_zero.mp h1 with z | z
    · exact z
    · omega
theorem half_iff {p q P Q g : Int} (g0 : 0 < g) (h1 : p * g = P) (h2 : q * g = Q) : (q < 2 * p ↔ Q < 2 * P) ∧ (2 * p = q ↔ 2 * P = Q) := by
  subst h1 h2
  have e : 2 * (p * g) = (2 * p) * g := by grind
  rw [e]
  refine ⟨⟨fun h => Int.mul_lt_mul_of_pos_right h g0, fun h => Int.lt_of_mul_lt_mul_right h (Int.le_of_lt g0)⟩, ⟨fun h => by rw [h], fun h => Int.eq_of_mul_eq_mul_right (Int.ne_of_gt g0) h⟩⟩
theorem goes_above {y : Num} {w : Int} {r : Rule} (hy : Nm1 y) (hw : 1 ≤ w) (h : remP y w ≠ 0) : goesUp (cellOf y w).1 (posOf y w) r = aboveP (remP y w) (remQ y w) (sel (byRuleT r) ((cellOf y w).1 % 2)) := by
  obtain ⟨g, g0, h1, h2⟩ := pos_cross hy hw
  have rk := rem_ok hy hw
  have hf := half_iff g0 h1 h2
  generalize remP y w = P at *
  generalize remQ y w = Q at *
  generalize posOf y w = p at *
  generalize (cellOf y w).1 = k at *
  have hk : k % 2 = 0 ∨ k % 2 = 1 := by omega
  have T : ∀ (a b : Int) (s : Bool), aboveP P Q ((a, b), s) = (decide (a * Q < P * b) || (decide (a * Q = P * b) && s)) := fun _ _ _ => rfl
  cases r with
  | down =>
    have e : sel (byRuleT .down) (k % 2) = ((1, 1), true) := by rcases hk with z | z <;> rw [z] <;> rfl
    rw [e, T]
    show false = _
    rw [decide_eq_false (by omega), decide_eq_false (by omega)]
    rfl
  | up =>
    have e : sel (byRuleT .up) (k % 2) = ((0, 1), false) := by rcases hk with z | z <;> rw [z] <;> rfl
    rw [e, T]
    show true = _
    rw [decide_eq_true (by omega)]
    rfl
  | odd =>
    rcases hk with z | z
    · have e : sel (byRuleT .odd) (k % 2) = ((0, 1), false) := by rw [z]; rfl
      rw [e, T]
      show decide (k % 2 = 0) = _
      rw [decide_eq_true z, decide_eq_true (show 0 * Q < P * 1 by omega)]
      rfl
    · have e : sel (byRuleT .odd) (k % 2) = ((1, 1), true) := by rw [z]; rfl
      rw [e, T]
      show decide (k % 2 = 0) = _
      rw [decide_eq_false (by omega), decide_eq_false (show ¬ 1 * Q < P * 1 by omega), decide_eq_false (show ¬ 1 * Q = P * 1 by omega)]
      rfl
  | halfDown =>
    have e : sel (byRuleT .halfDown) (k % 2) = ((1, 2), false) := by rcases hk with z | z <;> rw [z] <;> rfl
    rw [e, T, Bool.and_false, Bool.or_false]
    show decide (p.2 < 2 * p.1) = _
    rw [Bool.eq_iff_iff, decide_eq_true_eq, decide_eq_true_eq, hf.1]
    omega
  | halfUp =>
    have e : sel (byRuleT .halfUp) (k % 2) = ((1, 2), true) := by rcases hk with z | z <;> rw [z] <;> rfl
    rw [e, T, Bool.and_true]
    show (if 2 * p.1 = p.2 then true else decide (p.2 < 2 * p.1)) = _
    by_cases q : 2 * P = Q
    · rw [if_pos (hf.2.mpr q), decide_eq_true (show 1 * Q = P * 2 by omega), Bool.or_true]
    · rw [if_neg fun z => q (hf.2.mp z), decide_eq_false (show ¬ 1 * Q = P * 2 by omega), Bool.or_false, Bool.eq_iff_iff, decide_eq_true_eq, decide_eq_true_eq, hf.1]
      omega
  | halfEven =>
    show (if 2 * p.1 = p.2 then decide (k % 2 = 1) else decide (p.2 < 2 * p.1)) = _
    rcases hk with z | z
    · have e : sel (byRuleT .halfEven) (k % 2) = ((1, 2), false) := by rw [z]; rfl
      rw [e, T, Bool.and_false, Bool.or_false]
      by_cases q : 2 * P = Q
      · rw [if_pos (hf.2.mpr q), decide_eq_false (by omega), decide_eq_false (by omega)]
      · rw [if_neg fun z => q (hf.2.mp z), Bool.eq_iff_iff, decide_eq_true_eq, decide_eq_true_eq, hf.1]
        omega
    · have e : sel (byRuleT .halfEven) (k % 2) = ((1, 2), true) := by rw [z]; rfl
      rw [e, T, Bool.and_true]
      by_cases q : 2 * P = Q
      · rw [if_pos (hf.2.mpr q), decide_eq_true z, decide_eq_true (show 1 * Q = P * 2 by omega), Bool.or_true]
      · rw [if_neg fun z => q (hf.2.mp z), decide_eq_false (show ¬ 1 * Q = P * 2 by omega), Bool.or_false, Bool.eq_iff_iff, decide_eq_true_eq, decide_eq_true_eq, hf.1]
        omega
theorem round_thr {y : Num} {w : Int} {r : Rule} (hy : Nm1 y) (hw : 1 ≤ w) : roundOnce y w r = thrRound y w (byRuleT r) := by
  unfold thrRound roundOnce endsOf
  by_cases h : remP y w = 0
  · rw [if_pos h, if_pos ((pos_zero_iff hy hw).mpr h)]
    split <;> rfl
  · rw [if_neg h, if_neg fun z => h ((pos_zero_iff hy hw).mp z), ← goes_above hy hw h]
    unfold up1
    split
    · rfl
    · rw [Int.add_zero]
end SR
end
section
set_option Elab.async false
set_option linter.all false
set_option maxRecDepth 100000
set_option maxHeartbeats 1000000
/-! From a cell to a narrower one. -/
namespace SR
theorem nab_cross {x : Num} {e f : Int} (hf : 0 ≤ f) : Na x e * Nb x (e + f) = p2 f * Na x (e + f) * Nb x e := by
  rw [Na_eq, Nb_eq, Na_eq, Nb_eq]
  have k : p2 (max (0 - e) 0) * p2 (max (e + f) 0) = p2 f * (p2 (max (0 - (e + f)) 0) * p2 (max e 0)) := by
    rw [← pw_add (by omega) (by omega), ← pw_add (by omega) (by omega), ← pw_add hf (by omega)]
    congr 1
    omega
  generalize p2 (max (0 - e) 0) = a at *
  generalize p2 (max (e + f) 0) = b at *
  generalize p2 (max (0 - (e + f)) 0) = c at *
  generalize p2 (max e 0) = d at *
  generalize p2 f = F at *
  have : x.1 * a * (x.2 * b) = x.1 * x.2 * (a * b) := by grind
  rw [this, k]
  grind
theorem cell_narrow {x : Num} {w w' k e : Int} (hd : 0 < x.2) (hw' : 1 ≤ w') (hww : w' ≤ w) (c : IsCell x w k e) : IsCell x w' (k / p2 (w - w')) (e + (w - w')) := by
  have F0 := pw_pos (w - w')
  have cr := nab_cross (x := x) (e := e) (show 0 ≤ w - w' by omega)
  have nb := Nb_pos hd e
  have nb' := Nb_pos hd (e + (w - w'))
  have e1 : p2 (w' - 1) * p2 (w - w') = p2 (w - 1) := by rw [← pw_add (by omega) (by omega)]; congr 1; omega
  have e2 : p2 w' * p2 (w - w') = p2 w := by rw [← pw_add (by omega) (by omega)]; congr 1; omega
  have lo := c.lo
  have hi := c.hi
  have le := c.le
  have lt := c.lt
  rw [← e1] at lo
  rw [← e2] at hi
  have d1 := Int.ediv_mul_le k (show p2 (w - w') ≠ 0 by omega)
  have d2 := Int.lt_ediv_add_one_mul_self k F0
  refine ⟨Int.le_ediv_of_mul_le F0 lo, Int.ediv_lt_of_lt_mul F0 hi, ?_, ?_⟩
  · generalize k / p2 (w - w') = q at *
    generalize p2 (w - w') = F at *
    generalize Na x (e + (w - w')) = A' at *
    generalize Nb x (e + (w - w')) = B' at *
    generalize Na x e = A at *
    generalize Nb x e = B at *
    have h1 : q * F * B ≤ A := Int.le_trans (Int.mul_le_mul_of_nonneg_right d1 (by omega)) le
    have h2 := Int.mul_le_mul_of_nonneg_right h1 (Int.le_of_lt nb')
    rw [cr] at h2
    refine Int.le_of_mul_le_mul_right (a := F * B) ?_ (Int.mul_pos F0 nb)
    have a1 : q * B' * (F * B) = q * F * B * B' := by grind
    have a2 : A' * (F * B) = F * A' * B := by grind
    rw [a1, a2]
    exact h2
  · generalize k / p2 (w - w') = q at *
    generalize p2 (w - w') = F at *
    generalize Na x (e + (w - w')) = A' at *
    generalize Nb x (e + (w - w')) = B' at *
    generalize Na x e = A at *
    generalize Nb x e = B at *
    have h1 : A < (q + 1) * F * B := Int.lt_of_lt_of_le lt (Int.mul_le_mul_of_nonneg_right (by omega) (by omega))
    have h2 := Int.mul_lt_mul_of_pos_right h1 nb'
    rw [cr] at h2
    refine Int.lt_of_mul_lt_mul_right (a := F * B) ?_ (Int.le_of_lt (Int.mul_pos F0 nb))
    have a1 : (q + 1) * B' * (F * B) = (q + 1) * F * B * B' := by grind
    have a2 : A' * (F * B) = F * A' * B := by grind
    rw [a1, a2]
    exact h2
/-- the narrower cell, the remainder -/
theorem rem_narrow {y : Num} {w w' : Int} (hy : Nm1 y) (hw' : 1 ≤ w') (hww : w' ≤ w) :
    (cellOf y w').2 = (cellOf y w).2 + (w - w') ∧ (cellOf y w').1 = (cellOf y w).1 / p2 (w - w') ∧
    remP y w' * remQ y w * p2 (w - w') = remQ y w' * ((cellOf y w).1 % p2 (w - w') * remQ y w + remP y w) := by
  have hw : 1 ≤ w := by omega
  have c := cell_is hy.1 hy.2.1 hw
  have c' := cell_is hy.1 hy.2.1 hw'
  obtain ⟨u1, u2⟩ := cell_uniq hw' hy.2.1 c' (cell_narrow hy.2.1 hw' hww c)
  refine ⟨u2, u1, ?_⟩
  have cr := nab_cross (x := y) (e := (cellOf y w).2) (show 0 ≤ w - w' by omega)
  have dm : (cellOf y w).1 % p2 (w - w') + p2 (w - w') * ((cellOf y w).1 / p2 (w - w')) = (cellOf y w).1 := Int.emod_add_mul_ediv _ _
  unfold remP remQ
  rw [u1, u2]
  generalize (cellOf y w).1 = k at *
  generalize (cellOf y w).2 = e at *
  generalize p2 (w - w') = F at *
  generalize k / F = q at *
  generalize k % F = m at *
  generalize Na y (e + (w - w')) = A' at *
  generalize Nb y (e + (w - w')) = B' at *
  generalize Na y e = A at *
  generalize Nb y e = B at *
  subst dm
  have e1 : B' * (m * B + (A - (m + F * q) * B)) = A * B' - B' * F * q * B := by grind
  rw [e1, cr]
  grind
theorem exact_pow {y : Num} {w : Int} (hy : Nm1 y) (hw : 1 ≤ w) (h : remP y w = 0) : y = powN (cellOf y w).1 (cellOf y w).2 := by
  have c := cell_is hy.1 hy.2.1 hw
  have lo := c.lo
  have pp := pw_pos (w - 1)
  have q := pow_cell (k := (cellOf y w).1) (e := (cellOf y w).2) (by omega)
  refine nm1_uniq hy (pow_nm1 (by omega)) ?_
  unfold remP at h
  generalize cellOf y w = ke at *
  obtain ⟨k, e⟩ := ke
  have e0' : Na y e - k * Nb y e = 0 := h
  have q' : Na (powN k e) e = k * Nb (powN k e) e := q
  show y.1 * (powN k e).2 = (powN k e).1 * y.2
  generalize powN k e = z at *
  rw [Na_eq, Nb_eq] at e0' q'
  have P1 := pw_pos (max (0 - e) 0)
  have P2 := pw_pos (max e 0)
  generalize p2 (max (0 - e) 0) = s at *
  generalize p2 (max e 0) = t at *
  have : y.1 * z.2 * (s * t) = z.1 * y.2 * (s * t) := by
    have h1 : y.1 * s = k * (y.2 * t) := by omega
    have a1 : y.1 * z.2 * (s * t) = (y.1 * s) * (z.2 * t) := by grind
    have a2 : z.1 * y.2 * (s * t) = (z.1 * s) * (y.2 * t) := by grind
    rw [a1, a2, h1, q']
    grind
  exact Int.eq_of_mul_eq_mul_right (Int.ne_of_gt (Int.mul_pos P1 P2)) this
theorem rep_keep {w w' : Int} {x : Num} {r : Rule} (hw : 1 ≤ w) (h : Rep w x) (hw' : w ≤ w') : roundOnce x w' r = x := by
  obtain ⟨k, e, h1, h2, ex⟩ := rep_wide hw h hw'
  rw [ex]
  exact rep_round (by omega) h1 h2
end SR
end
section
set_option Elab.async false
set_option linter.all false
set_option maxRecDepth 100000
set_option maxHeartbeats 1000000
/-! A second rounding, narrower. -/
namespace SR
theorem above_scale {P Q M F : Int} {t : Thr} (hQ : 0 < Q) (hF : 0 < F) (h : P * F = Q * M) : aboveP P Q t = aboveP M F t := by
  have a : t.1.1 * Q < P * t.1.2 ↔ t.1.1 * F < M * t.1.2 := by
    have e1 : t.1.1 * Q * F = t.1.1 * F * Q := by grind
    have e2 : P * t.1.2 * F = M * t.1.2 * Q := by
      have : P * t.1.2 * F = P * F * t.1.2 := by grind
      rw [this, h]; grind
    constructor
    · intro z
      have := Int.mul_lt_mul_of_pos_right z hF
      rw [e1, e2] at this
      exact Int.lt_of_mul_lt_mul_right this (Int.le_of_lt hQ)
    · intro z
      have := Int.mul_lt_mul_of_pos_right z hQ
      rw [← e1, ← e2] at this
      exact Int.lt_of_mul_lt_mul_right this (Int.le_of_lt hF)
  have b : t.1.1 * Q = P * t.1.2 ↔ t.1.1 * F = M * t.1.2 := by
    have e1 : t.1.1 * Q * F = t.1.1 * F * Q := by grind
    have e2 : P * t.1.2 * F = M * t.1.2 * Q := by
      have : P * t.1.2 * F = P * F * t.1.2 := by grind
      rw [this, h]; grind
    constructor
    · intro z
      have : t.1.1 * Q * F = P * t.1.2 * F := by rw [z]
      rw [e1, e2] at this
      exact Int.eq_of_mul_eq_mul_right (Int.ne_of_gt hQ) this
    · intro z
      have : t.1.1 * F * Q = M * t.1.2 * Q := by rw [z]
      rw [← e1, ← e2] at this
      exact Int.eq_of_mul_eq_mul_right (Int.ne_of_gt hF) this
  unfold aboveP
  rw [decide_eq_decide.mpr a, decide_eq_decide.mpr b]
theorem ld_iff {r : Rule} {far q M : Int} (hf : 1 ≤ far) (hM0 : 0 < M) (hM : M < p2 far) : aboveP M (p2 far) (sel (byRuleT r) q) = decide (lastDown r far q < M) := by
  have e : p2 far = 2 * p2 (far - 1) := by
    rw [← pw_succ (by omega)]
    congr 1
    omega
  have pp := pw_pos (far - 1)
  have s : sel (byRuleT r) q = (byRuleT r).1 ∨ sel (byRuleT r) q = (byRuleT r).2 := by
    unfold sel
    split
    · exact .inl rfl
    · exact .inr rfl
  unfold lastDown
  rw [e] at hM ⊢
  generalize p2 (far - 1) = h at *
  have T : ∀ (a b : Int) (s : Bool), aboveP M (2 * h) ((a, b), s) = (decide (a * (2 * h) < M * b) || (decide (a * (2 * h) = M * b) && s)) := fun _ _ _ => rfl
  have key : ∀ t : Thr, (t = neverT ∨ t = alwaysT ∨ t = tieDownT ∨ t = tieUpT) → aboveP M (2 * h) t = decide ((if t.2 = false then t.1.1 * (1 * (2 * h)) / t.1.2 else t.1.1 * (1 * (2 * h)) / t.1.2 - 1) < M) := by
    rintro t (rfl | rfl | rfl | rfl)
    · show aboveP M (2 * h) ((1, 1), true) = decide (1 * (1 * (2 * h)) / 1 - 1 < M)
      rw [T, Int.ediv_one, decide_eq_false (by omega), decide_eq_false (by omega), decide_eq_false (by omega)]
      rfl
    · show aboveP M (2 * h) ((0, 1), false) = decide (0 * (1 * (2 * h)) / 1 < M)
      rw [T, Int.ediv_one, Bool.and_false, Bool.or_false, Bool.eq_iff_iff, decide_eq_true_eq, decide_eq_true_eq]
      omega
    · show aboveP M (2 * h) ((1, 2), false) = decide (1 * (1 * (2 * h)) / 2 < M)
      rw [T, Bool.and_false, Bool.or_false, Bool.eq_iff_iff, decide_eq_true_eq, decide_eq_true_eq]
      omega
    · show aboveP M (2 * h) ((1, 2), true) = decide (1 * (1 * (2 * h)) / 2 - 1 < M)
      rw [T, Bool.and_true, Bool.eq_iff_iff, Bool.or_eq_true, decide_eq_true_eq, decide_eq_true_eq, decide_eq_true_eq]
      omega
  refine key _ ?_
  rcases s with s | s <;> rw [s] <;> cases r <;> simp [byRuleT]
/-- K * 2 ^ e of w bits, rounded to w' bits -/
theorem round_parts {w w' k' e M : Int} {r : Rule} (hw' : 1 ≤ w') (hww : w' < w) (k1 : p2 (w' - 1) ≤ k') (k2 : k' < p2 w') (m0 : 0 ≤ M) (m1 : M ≤ p2 (w - w')) :
    roundOnce (powN (k' * p2 (w - w') + M) e) w' r = powN (k' + up1 (decide (lastDown r (w - w') (k' % 2) < M))) (e + (w - w')) := by
  have F0 := pw_pos (w - w')
  have pk := pw_pos (w' - 1)
  have ld := lastDown_range r (p := k' % 2) (show 1 ≤ w - w' by omega)
  have lo : p2 (w - 1) ≤ k' * p2 (w - w') := by
    have := Int.mul_le_mul_of_nonneg_right k1 (Int.le_of_lt F0)
    rw [← pw_add (by omega) (by omega), show w' - 1 + (w - w') = w - 1 by omega] at this
    exact this
  have pw1 := pw_pos (w - 1)
  rcases Int.lt_or_le M (p2 (w - w')) with hM | hM
  · have hi : k' * p2 (w - w') + M < p2 w := by
      have h1 : (k' + 1) * p2 (w - w') ≤ p2 w' * p2 (w - w') := Int.mul_le_mul_of_nonneg_right (by omega) (by omega)
      rw [← pw_add (by omega) (by omega), show w' + (w - w') = w by omega] at h1
      have : (k' + 1) * p2 (w - w') = k' * p2 (w - w') + p2 (w - w') := by grind
      omega
    have hK : 0 < k' * p2 (w - w') + M := by omega
    have hz := pow_nm1 (k := k' * p2 (w - w') + M) (e := e) hK
    have cz := rep_cell (e := e) (show 1 ≤ w by omega) (show p2 (w - 1) ≤ k' * p2 (w - w') + M by omega) hi
    obtain ⟨u1, u2⟩ := cell_uniq (by omega) hz.2.1 (cell_is hz.1 hz.2.1 (show 1 ≤ w by omega)) cz
    obtain ⟨n1, n2, n3⟩ := rem_narrow hz hw' (show w' ≤ w by omega)
    have r0 : remP (powN (k' * p2 (w - w') + M) e) w = 0 := by
      unfold remP
      rw [u1, u2]
      have := pow_cell (k := k' * p2 (w - w') + M) (e := e) hK
      omega
    have rq := rem_ok hz (show 1 ≤ w by omega)
    have rq' := rem_ok hz hw'
    have dv : (k' * p2 (w - w') + M) / p2 (w - w') = k' := by
      have a1 : k' * p2 (w - w') ≤ k' * p2 (w - w') + M := by omega
      have a2 : k' * p2 (w - w') + M < (k' + 1) * p2 (w - w') := by
        have : (k' + 1) * p2 (w - w') = k' * p2 (w - w') + p2 (w - w') := by grind
        omega
      have b1 := Int.le_ediv_of_mul_le F0 a1
      have b2 := Int.ediv_lt_of_lt_mul F0 a2
      omega
    have md : (k' * p2 (w - w') + M) % p2 (w - w') = M := by
      have dm : (k' * p2 (w - w') + M) % p2 (w - w') + p2 (w - w') * ((k' * p2 (w - w') + M) / p2 (w - w')) = k' * p2 (w - w') + M := Int.emod_add_mul_ediv _ _
      rw [dv] at dm
      have : p2 (w - w') * k' = k' * p2 (w - w') := Int.mul_comm _ _
      omega
    rw [u1, dv] at n2
    rw [u2] at n1
    rw [u1, md, r0, Int.add_zero] at n3
    have n4 : remP (powN (k' * p2 (w - w') + M) e) w' * p2 (w - w') = remQ (powN (k' * p2 (w - w') + M) e) w' * M := by
      refine Int.eq_of_mul_eq_mul_right (Int.ne_of_gt rq.2.2) ?_
      rw [Int.mul_right_comm, n3, Int.mul_assoc]
    rw [round_thr hz hw']
    unfold thrRound
    by_cases hp : remP (powN (k' * p2 (w - w') + M) e) w' = 0
    · rw [if_pos hp]
      have hM0 : M = 0 := by
        rw [hp, Int.zero_mul] at n4
        rcases Int.mul_eq_zero.mp n4.symm with z | z
        · omega
        · exact z
      rw [hM0, decide_eq_false (by omega)]
      show powN (k' * p2 (w - w') + 0) e = powN (k' + 0) (e + (w - w'))
      rw [Int.add_zero, Int.add_zero, pow_shift (k := k') (e := e + (w - w')) (j := w - w') (by omega) (by omega)]
      congr 1
      omega
    · rw [if_neg hp, n1, n2, above_scale rq'.2.2 F0 n4]
      have hM0 : 0 < M := by
        rcases Int.lt_or_le 0 M with z | z
        · exact z
        · have : M = 0 := by omega
          have n5 : remP (powN (k' * p2 (w - w') + M) e) w' * p2 (w - w') = 0 := by
            rw [n4]
            exact Int.mul_eq_zero.mpr (.inr this)
          rcases Int.mul_eq_zero.mp n5 with z | z
          · exact absurd z hp
          · omega
      rw [ld_iff (by omega) hM0 hM]
  · have hM' : M = p2 (w - w') := by omega
    rw [hM', decide_eq_true (by omega)]
    show roundOnce (powN (k' * p2 (w - w') + p2 (w - w')) e) w' r = powN (k' + 1) (e + (w - w'))
    have e1 : powN (k' + 1) (e + (w - w')) = powN (k' * p2 (w - w') + p2 (w - w')) e := by
      rw [pow_shift (k := k' + 1) (e := e + (w - w')) (j := w - w') (by omega) (by omega)]
      have : (k' + 1) * p2 (w - w') = k' * p2 (w - w') + p2 (w - w') := by grind
      rw [this]
      congr 1
      omega
    rw [← e1]
    exact rep_keep hw' (rep_up hw' (by omega) (by omega)) (Int.le_refl _)
end SR
end
section
set_option Elab.async false
set_option linter.all false
set_option maxRecDepth 100000
set_option maxHeartbeats 1000000
/-! Two roundings are one by the combined thresholds. -/
namespace SR
structure ThI (t : Thr) : Prop where
  n0 : 0 ≤ t.1.1
  nd : t.1.1 ≤ t.1.2
  d0 : 0 < t.1.2
  lo : t.1.1 = 0 → t.2 = false
  hi : t.1.1 = t.1.2 → t.2 = true
theorem byRule_I (r : Rule) (q : Int) : ThI (sel (byRuleT r) q) := by
  have s : sel (byRuleT r) q = (byRuleT r).1 ∨ sel (byRuleT r) q = (byRuleT r).2 := by
    unfold sel
    split
    · exact .inl rfl
    · exact .inr rfl
  rcases s with s | s <;> rw [s] <;> cases r <;> exact ⟨by decide, by decide, by decide, by decide, by decide⟩
theorem above_low {P Q n d : Int} {s : Bool} (hn : 0 ≤ n) (hd : 0 < d) : aboveP P Q (low n d, s) = aboveP P Q ((n, d), s) := by
  obtain ⟨h1, h2⟩ := low_mul hn hd
  have g0 := gcdI_pos (n := n) hd
  generalize gcdI n d = g at *
  generalize low n d = x at *
  have a : x.1 * Q < P * x.2 ↔ n * Q < P * d := by
    rw [← h1, ← h2]
    have e1 : x.1 * g * Q = x.1 * Q * g := by grind
    have e2 : P * (x.2 * g) = P * x.2 * g := by grind
    rw [e1, e2]
    exact ⟨fun z => Int.mul_lt_mul_of_pos_right z g0, fun z => Int.lt_of_mul_lt_mul_right z (Int.le_of_lt g0)⟩
  have b : x.1 * Q = P * x.2 ↔ n * Q = P * d := by
    rw [← h1, ← h2]
    have e1 : x.1 * g * Q = x.1 * Q * g := by grind
    have e2 : P * (x.2 * g) = P * x.2 * g := by grind
    rw [e1, e2]
    exact ⟨fun z => by rw [z], fun z => Int.eq_of_mul_eq_mul_right (Int.ne_of_gt g0) z⟩
  show (decide (x.1 * Q < P * x.2) || (decide (x.1 * Q = P * x.2) && s)) = (decide (n * Q < P * d) || (decide (n * Q = P * d) && s))
  rw [decide_eq_decide.mpr a, decide_eq_decide.mpr b]
theorem comb_I {p : Thr × Thr} {r : Rule} {far q : Int} (hp : ∀ i, ThI (sel p i)) (hf : 1 ≤ far) : ThI (combOne p r far q) := by
  have ld := lastDown_range r (p := q) hf
  have t := hp (lastDown r far q % 2)
  have F0 := pw_pos far
  unfold combOne
  generalize sel p (lastDown r far q % 2) = u at *
  generalize lastDown r far q = j at *
  generalize p2 far = F at *
  obtain ⟨n0, nd, d0, lo, hi⟩ := t
  generalize hN : j * u.1.2 + u.1.1 = N at *
  generalize hD : u.1.2 * F = D at *
  have jd : 0 ≤ j * u.1.2 := Int.mul_nonneg ld.1 (Int.le_of_lt d0)
  have N0 : 0 ≤ N := by omega
  have D0 : 0 < D := by rw [← hD]; exact Int.mul_pos d0 F0
  have jF : j * u.1.2 ≤ D - u.1.2 := by
    have : j * u.1.2 ≤ (F - 1) * u.1.2 := Int.mul_le_mul_of_nonneg_right ld.2 (Int.le_of_lt d0)
    have e : (F - 1) * u.1.2 = u.1.2 * F - u.1.2 := by grind
    omega
  obtain ⟨g1, g2⟩ := low_mul N0 D0
  have g0 := gcdI_pos (n := N) D0
  refine ⟨low_1 N0 D0, ?_, low_2 D0, fun h => ?_, fun h => ?_⟩
  · show N / gcdI N D ≤ D / gcdI N D
    exact Int.ediv_le_ediv g0 (by omega)
  · have h' : (low N D).1 = 0 := h
    rw [h', Int.zero_mul] at g1
    exact lo (by omega)
  · have h' : (low N D).1 = (low N D).2 := h
    rw [h'] at g1
    exact hi (by omega)
theorem decide_step {P Q P' Q' F j m a : Int} {u : Thr} (hu : ThI u) (hP : 0 ≤ P) (hPQ : P < Q) (hQ' : 0 < Q') (hF : 0 < F) (hj : 0 ≤ j) (n3 : P' * Q * F = Q' * (m * Q + P)) (a0 : 0 ≤ a) (a1 : a ≤ 1)
    (ha : m = j → a = if P = 0 then 0 else up1 (aboveP P Q u)) : decide (j < m + a) = aboveP P' Q' (low (j * u.1.2 + u.1.1) (u.1.2 * F), u.2) := by
  obtain ⟨u0, ud, d0, lo, hi⟩ := hu
  have hQ : 0 < Q := by omega
  have N0 : 0 ≤ j * u.1.2 + u.1.1 := by have := Int.mul_nonneg hj (Int.le_of_lt d0); omega
  have D0 : 0 < u.1.2 * F := Int.mul_pos d0 hF
  rw [above_low N0 D0, above_scale (M := m * Q + P) (F := Q * F) hQ' (Int.mul_pos hQ hF) (by rw [← Int.mul_assoc]; exact n3)]
  show _ = (decide ((j * u.1.2 + u.1.1) * (Q * F) < (m * Q + P) * (u.1.2 * F)) || (decide ((j * u.1.2 + u.1.1) * (Q * F) = (m * Q + P) * (u.1.2 * F)) && u.2))
  have e1 : (j * u.1.2 + u.1.1) * (Q * F) = ((j * u.1.2 + u.1.1) * Q) * F := by grind
  have e2 : (m * Q + P) * (u.1.2 * F) = ((m * Q + P) * u.1.2) * F := by grind
  rw [e1, e2]
  have c1 : (j * u.1.2 + u.1.1) * Q * F < (m * Q + P) * u.1.2 * F ↔ (j * u.1.2 + u.1.1) * Q < (m * Q + P) * u.1.2 := ⟨fun z => Int.lt_of_mul_lt_mul_right z (Int.le_of_lt hF), fun z => Int.mul_lt_mul_of_pos_right z hF⟩
  have c2 : (j * u.1.2 + u.1.1) * Q * F = (m * Q + P) * u.1.2 * F ↔ (j * u.1.2 + u.1.1) * Q = (m * Q + P) * u.1.2 := ⟨fun z => Int.eq_of_mul_eq_mul_right (Int.ne_of_gt hF) z, fun z => by rw [z]⟩
  have f1 : (j * u.1.2 + u.1.1) * Q = j * (u.1.2 * Q) + u.1.1 * Q := by grind
  have f2 : (m * Q + P) * u.1.2 = m * (u.1.2 * Q) + P * u.1.2 := by grind
  rw [f1, f2] at c1 c2
  rw [f1, f2, decide_eq_decide.mpr c1, decide_eq_decide.mpr c2]
  have g1 : u.1.1 * Q ≤ u.1.2 * Q := Int.mul_le_mul_of_nonneg_right ud (Int.le_of_lt hQ)
  have g2 : 0 ≤ u.1.1 * Q := Int.mul_nonneg u0 (Int.le_of_lt hQ)
  have g3 : P * u.1.2 < u.1.2 * Q := by rw [Int.mul_comm]; exact Int.mul_lt_mul_of_pos_left hPQ d0
  have g4 : 0 ≤ P * u.1.2 := Int.mul_nonneg hP (Int.le_of_lt d0)
  have g5 : 0 < u.1.2 * Q := Int.mul_pos d0 hQ
  rcases Int.lt_trichotomy m j with h | h | h
  · have h1 : (m + 1) * (u.1.2 * Q) ≤ j * (u.1.2 * Q) := Int.mul_le_mul_of_nonneg_right (by omega) (by omega)
    have h2 : (m + 1) * (u.1.2 * Q) = m * (u.1.2 * Q) + u.1.2 * Q := by grind
    rw [decide_eq_false (by omega), decide_eq_false (by omega), decide_eq_false (by omega)]
    rfl
  · subst h
    rw [ha rfl]
    have q1 : m * (u.1.2 * Q) + u.1.1 * Q < m * (u.1.2 * Q) + P * u.1.2 ↔ u.1.1 * Q < P * u.1.2 := by omega
    have q2 : m * (u.1.2 * Q) + u.1.1 * Q = m * (u.1.2 * Q) + P * u.1.2 ↔ u.1.1 * Q = P * u.1.2 := by omega
    rw [decide_eq_decide.mpr q1, decide_eq_decide.mpr q2]
    show _ = aboveP P Q u
    by_cases hp : P = 0
    · rw [if_pos hp, decide_eq_false (by omega)]
      subst hp
      unfold aboveP
      rw [Int.zero_mul, decide_eq_false (by omega)]
      by_cases z : u.1.1 * Q = 0
      · rcases Int.mul_eq_zero.mp z with z' | z'
        · rw [lo z', Bool.and_false]; rfl
        · omega
      · rw [decide_eq_false z]; rfl
    · rw [if_neg hp]
      unfold up1
      cases aboveP P Q u with
      | true => rw [if_pos rfl, decide_eq_true (by omega)]
      | false => rw [if_neg (by decide), decide_eq_false (by omega)]
  · have h1 : (j + 1) * (u.1.2 * Q) ≤ m * (u.1.2 * Q) := Int.mul_le_mul_of_nonneg_right (by omega) (by omega)
    have h2 : (j + 1) * (u.1.2 * Q) = j * (u.1.2 * Q) + u.1.2 * Q := by grind
    rw [decide_eq_true (by omega)]
    by_cases z : j * (u.1.2 * Q) + u.1.1 * Q < m * (u.1.2 * Q) + P * u.1.2
    · rw [decide_eq_true z]; rfl
    · have e : u.1.1 * Q = u.1.2 * Q := by omega
      have e' := hi (Int.eq_of_mul_eq_mul_right (Int.ne_of_gt hQ) e)
      rw [e', decide_eq_true (show j * (u.1.2 * Q) + u.1.1 * Q = m * (u.1.2 * Q) + P * u.1.2 by omega)]
      simp
theorem thr_step {y : Num} {w w' : Int} {p : Thr × Thr} {r : Rule} (hy : Nm1 y) (hw' : 1 ≤ w') (hww : w' < w) (hp : ∀ i, ThI (sel p i)) :
    roundOnce (thrRound y w p) w' r = thrRound y w' (combined p r (w - w')) := by
  have hw : 1 ≤ w := by omega
  obtain ⟨n1, n2, n3⟩ := rem_narrow hy hw' (show w' ≤ w by omega)
  have rk := rem_ok hy hw
  have rk' := rem_ok hy hw'
  have F0 := pw_pos (w - w')
  have m0 := Int.emod_nonneg (cellOf y w).1 (show p2 (w - w') ≠ 0 by omega)
  have m1 := Int.emod_lt_of_pos (cellOf y w).1 F0
  have dm : (cellOf y w).1 % p2 (w - w') + p2 (w - w') * ((cellOf y w).1 / p2 (w - w')) = (cellOf y w).1 := Int.emod_add_mul_ediv _ _
  rw [← n2] at dm
  by_cases hP' : remP y w' = 0
  · have hP : remP y w = 0 := by
      rw [hP', Int.zero_mul, Int.zero_mul] at n3
      rcases Int.mul_eq_zero.mp n3.symm with z | z
      · omega
      · have := Int.mul_nonneg m0 (Int.le_of_lt rk.2.2)
        omega
    have e1 : thrRound y w p = y := if_pos hP
    have e2 : ∀ p', thrRound y w' p' = y := fun p' => if_pos hP'
    rw [e1, e2, round_thr hy hw', e2]
  · have c' := cell_is hy.1 hy.2.1 hw'
    have hF2 : ∃ h, p2 (w - w') = 2 * h := ⟨p2 (w - w' - 1), by rw [← pw_succ (by omega)]; congr 1; omega⟩
    have hz : ∃ a : Int, thrRound y w p = powN ((cellOf y w').1 * p2 (w - w') + ((cellOf y w).1 % p2 (w - w') + a)) (cellOf y w).2 ∧ a = (if remP y w = 0 then 0 else up1 (aboveP (remP y w) (remQ y w) (sel p ((cellOf y w).1 % 2)))) := by
      refine ⟨_, ?_, rfl⟩
      have ek : (cellOf y w').1 * p2 (w - w') + (cellOf y w).1 % p2 (w - w') = (cellOf y w).1 := by
        rw [Int.mul_comm]; omega
      unfold thrRound
      by_cases hP : remP y w = 0
      · rw [if_pos hP, if_pos hP, Int.add_zero, ek]
        exact exact_pow hy hw hP
      · rw [if_neg hP, if_neg hP, ← Int.add_assoc, ek]
    obtain ⟨a, ez, ea⟩ := hz
    have a01 : 0 ≤ a ∧ a ≤ 1 := by
      rw [ea]
      unfold up1
      split
      · omega
      · split <;> omega
    rw [ez, round_parts hw' hww c'.lo c'.hi (by omega) (by omega)]
    have et : thrRound y w' (combined p r (w - w')) = powN ((cellOf y w').1 + up1 (aboveP (remP y w') (remQ y w') (sel (combined p r (w - w')) ((cellOf y w').1 % 2)))) (cellOf y w').2 := if_neg hP'
    rw [et, n1]
    congr 3
    -- the decision
    have hq : (cellOf y w').1 % 2 = 0 ∨ (cellOf y w').1 % 2 = 1 := by omega
    have es : sel (combined p r (w - w')) ((cellOf y w').1 % 2) = combOne p r (w - w') ((cellOf y w').1 % 2) := by
      rcases hq with z | z <;> rw [z] <;> rfl
    rw [es]
    have ld := lastDown_range r (p := (cellOf y w').1 % 2) (show 1 ≤ w - w' by omega)
    have t := hp (lastDown r (w - w') ((cellOf y w').1 % 2) % 2)
    have tk := ea
    unfold combOne
    have par : (cellOf y w).1 % p2 (w - w') = lastDown r (w - w') ((cellOf y w').1 % 2) → lastDown r (w - w') ((cellOf y w').1 % 2) % 2 = (cellOf y w).1 % 2 := by
      intro h
      obtain ⟨h2, e2⟩ := hF2
      rw [← h]
      generalize (cellOf y w).1 % p2 (w - w') = m at *
      rw [e2] at dm
      have : 2 * h2 * (cellOf y w').1 = 2 * (h2 * (cellOf y w').1) := Int.mul_assoc _ _ _
      omega
    refine decide_step t rk.1 rk.2.1 rk'.2.2 F0 ld.1 n3 a01.1 a01.2 fun h => ?_
    rw [par h]
    exact ea
end SR
end
section
set_option Elab.async false
set_option linter.all false
set_option maxRecDepth 100000
set_option maxHeartbeats 1000000
/-! A chain is one rounding by its thresholds. -/
namespace SR
theorem thrRound_rep {y : Num} {w : Int} {p : Thr × Thr} (hy : Nm1 y) (hw : 1 ≤ w) : Rep w (thrRound y w p) := by
  have c := cell_is hy.1 hy.2.1 hw
  have lo := c.lo
  have hi := c.hi
  unfold thrRound
  by_cases h : remP y w = 0
  · rw [if_pos h]
    exact ⟨_, _, lo, hi, exact_pow hy hw h⟩
  · rw [if_neg h]
    unfold up1
    split
    · exact rep_up hw (by omega) (by omega)
    · exact rep_up hw (by omega) (by omega)
theorem comb_all {p : Thr × Thr} {r : Rule} {far : Int} (hp : ∀ i, ThI (sel p i)) (hf : 1 ≤ far) : ∀ i, ThI (sel (combined p r far) i) := by
  intro i
  unfold sel
  split
  · exact comb_I hp hf
  · exact comb_I hp hf
theorem fold_thr {y : Num} (hy : Nm1 y) : ∀ (c : Chain) (w : Int) (p : Thr × Thr), 1 ≤ w → (∀ s ∈ c, 1 ≤ s.1) → (∀ i, ThI (sel p i)) →
    appliedC (thrRound y w p) c = thrRound y (c.foldl (fun m t => min m t.1) w) (thrFrom w p (trimFrom w c))
  | [], w, p, _, _, _ => rfl
  | s :: c, w, p, hw, hc, hp => by
    have hs := hc s (List.mem_cons_self ..)
    have hc' := fun t ht => hc t (List.mem_cons_of_mem s ht)
    show appliedC (roundOnce (thrRound y w p) s.1 s.2) c = thrRound y (c.foldl (fun m t => min m t.1) (min w s.1)) (thrFrom w p (if s.1 < w then s :: trimFrom s.1 c else trimFrom w c))
    by_cases h : s.1 < w
    · rw [if_pos h, thr_step hy hs h hp, Int.min_eq_right (Int.le_of_lt h)]
      exact fold_thr hy c s.1 _ hs hc' (comb_all hp (by omega))
    · rw [if_neg h, rep_keep hw (thrRound_rep hy hw) (by omega), Int.min_eq_left (by omega)]
      exact fold_thr hy c w p hw hc' hp
theorem applied_thr {y : Num} {c : Chain} (hy : Nm1 y) (h : ChOk c) : appliedC y c = thrRound y (minW c) (thrC c) := by
  cases c with
  | nil => have := h.pos; simp at this
  | cons s c =>
    have h1 := (h.ok s (List.mem_cons_self ..)).1
    rw [minW_fold]
    show appliedC (roundOnce y s.1 s.2) c = _
    rw [round_thr hy h1]
    exact fold_thr hy c s.1 _ h1 (fun t ht => (h.ok t (List.mem_cons_of_mem _ ht)).1) (byRule_I s.2)
end SR
end
section
set_option Elab.async false
set_option linter.all false
set_option maxRecDepth 100000
set_option maxHeartbeats 1000000
/-! The greatest root against a number. -/
namespace SR
theorem isq_ge_iff {M U : Int} (hM : 0 ≤ M) (hU : 0 ≤ U) : U ≤ isq M ↔ U * U ≤ M := by
  have h0 := isq_nn M
  have h1 := isq_le hM
  have h2 := isq_lt hM
  constructor
  · intro h
    have : U * U ≤ isq M * isq M := Int.mul_le_mul h h hU h0
    omega
  · intro h
    rcases Int.lt_or_le (isq M) U with z | z
    · have : (isq M + 1) * (isq M + 1) ≤ U * U := Int.mul_le_mul (by omega) (by omega) (by omega) hU
      omega
    · exact z
theorem isq_eq_iff {M U T : Int} (hM : 0 ≤ M) (hU : 0 ≤ U) (d1 : T ∣ U * U) (d2 : T ∣ M) (hT : 2 * U < T) : U = isq M ↔ U * U = M := by
  have h1 := isq_le hM
  have h2 := isq_lt hM
  constructor
  · intro h
    rw [← h] at h1 h2
    have e : (U + 1) * (U + 1) = U * U + 2 * U + 1 := by grind
    have d : T ∣ M - U * U := Int.dvd_sub d2 d1
    obtain ⟨c, hc⟩ := d
    rcases Int.lt_trichotomy c 0 with z | z | z
    · have : T * c < 0 := Int.mul_neg_of_pos_of_neg (by omega) z
      omega
    · subst z
      rw [Int.mul_zero] at hc
      omega
    · have : T * 1 ≤ T * c := Int.mul_le_mul_of_nonneg_left (by omega) (by omega)
      omega
  · intro h
    exact isq_uniq hU (by omega) (by
      have e : (U + 1) * (U + 1) = U * U + 2 * U + 1 := by grind
      omega)
theorem pow_norm : ∀ (j : Nat) {k e : Int}, 0 < k → -(j : Int) ≤ e → ∃ k' e', 0 < k' ∧ k' ≤ k ∧ e ≤ e' ∧ e' ≤ max e 0 ∧ powN k e = (k' * p2 (max e' 0), p2 (max (0 - e') 0))
  | 0, k, e, hk, he => by
    refine ⟨k, e, hk, Int.le_refl _, Int.le_refl _, by omega, ?_⟩
    have e0 : max (0 - e) 0 = 0 := by omega
    show low (k * p2 (max e 0)) (1 * p2 (max (0 - e) 0)) = _
    rw [e0, pw_zero, Int.mul_one]
    have g : gcdI (k * p2 (max e 0)) 1 = 1 := by
      unfold gcdI
      simp
    unfold low
    rw [g, Int.ediv_one, Int.ediv_one]
  | j + 1, k, e, hk, he => by
    by_cases h0 : 0 ≤ e
    · exact pow_norm 0 hk (by omega)
    · by_cases h2 : k % 2 = 0
      · have e1 : powN k e = powN (k / 2) (e + 1) := by
          rw [pow_shift (k := k / 2) (e := e + 1) (j := 1) (by omega) (by decide)]
          have : k / 2 * p2 1 = k := by
            have h21 : p2 1 = 2 := rfl
            rw [h21]
            omega
          rw [this]
          congr 1
          omega
        obtain ⟨k', e', a, b, c, d, f⟩ := pow_norm j (k := k / 2) (e := e + 1) (by omega) (by omega)
        exact ⟨k', e', a, by omega, by omega, by omega, e1.trans f⟩
      · refine ⟨k, e, hk, Int.le_refl _, Int.le_refl _, by omega, ?_⟩
        show low (k * p2 (max e 0)) (1 * p2 (max (0 - e) 0)) = _
        rw [show max e 0 = 0 by omega, pw_zero, Int.mul_one, Int.one_mul]
        have g : gcdI k (p2 (max (0 - e) 0)) = 1 := by
          unfold gcdI p2
          have e3 : ((2 : Int) ^ (max (0 - e) 0).toNat).toNat = 2 ^ (max (0 - e) 0).toNat := by
            rw [Int.toNat_pow_of_nonneg (by decide)]
            rfl
          rw [e3]
          have : Nat.Coprime k.toNat 2 := by
            unfold Nat.Coprime
            rw [Nat.gcd_comm, Nat.gcd_rec, show k.toNat % 2 = 1 by omega]
            decide
          have := Nat.Coprime.pow_right (max (0 - e) 0).toNat this
          omega
        unfold low
        rw [g, Int.ediv_one, Int.ediv_one]
end SR
end
section
set_option Elab.async false
set_option linter.all false
set_option maxRecDepth 100000
set_option maxHeartbeats 1000000
/-! The near root against a grid. -/
namespace SR
theorem bl_iff {n a : Int} (hn : 0 < n) (ha : 0 ≤ a) : (p2 a ≤ n → a + 1 ≤ bl n) ∧ (n < p2 a → bl n ≤ a) := by
  have l := bl_lo hn
  have h := bl_hi hn
  have g := bl_ge1 hn
  constructor
  · intro z
    rcases Int.lt_or_le (bl n) (a + 1) with q | q
    · have := pw_mono (show bl n ≤ a by omega)
      omega
    · exact q
  · intro z
    rcases Int.lt_or_le a (bl n) with q | q
    · have := pw_mono (show a ≤ bl n - 1 by omega)
      omega
    · exact q
/-- a register in lowest terms -/
structure Reg2 (x : Num) (k e : Int) : Prop where
  k0 : 0 < k
  k5 : k < 32
  e1 : -1005 ≤ e
  e2 : e ≤ 1000
  n : x.1 = k * p2 (max e 0)
  d : x.2 = p2 (max (0 - e) 0)
theorem reg2 {w : Int} {x : Num} (h2 : w ≤ 5) (h : RegX w x) : ∃ k e, Reg2 x k e := by
  obtain ⟨⟨k, e, a, b, rfl⟩, hi⟩ := h
  have hk : 0 < k := by have := pw_pos (w - 1); omega
  have he := reg_e h2 a b hi
  have k5 := k_le h2 b
  obtain ⟨k', e', a1, a2, a3, a4, a5⟩ := pow_norm 1005 (k := k) (e := e) hk (by omega)
  exact ⟨k', e', a1, by omega, by omega, by omega, by rw [a5], by rw [a5]⟩
theorem reg2_e {x : Num} {k e w : Int} (h : Reg2 x k e) : e / 2 - w ≤ rootE x.1 x.2 w ∧ rootE x.1 x.2 w ≤ (e + 4) / 2 - w + 1 := by
  have n0 : 0 < x.1 := by rw [h.n]; exact Int.mul_pos h.k0 (pw_pos _)
  have d0 : 0 < x.2 := by rw [h.d]; exact pw_pos _
  have pe := pw_pos (max e 0)
  have b1 := (bl_iff n0 (a := max e 0) (by omega)).1 (by
    rw [h.n]
    have : 1 * p2 (max e 0) ≤ k * p2 (max e 0) := Int.mul_le_mul_of_nonneg_right (by have := h.k0; omega) (by omega)
    omega)
  have b2 := (bl_iff n0 (a := 5 + max e 0) (by omega)).2 (by
    rw [h.n, pw_add (by decide) (by omega)]
    exact Int.mul_lt_mul_of_pos_right (by have := h.k5; have : p2 5 = 32 := rfl; omega) pe)
  have b3 := (bl_iff d0 (a := max (0 - e) 0) (by omega)).1 (by rw [h.d]; omega)
  have b4 := (bl_iff d0 (a := max (0 - e) 0 + 1) (by omega)).2 (by
    rw [h.d, pw_succ (by omega)]
    have := pw_pos (max (0 - e) 0)
    omega)
  have e0 : rootE0 x.1 x.2 w = (bl x.1 - bl x.2) / 2 - w := rfl
  unfold rootE
  split <;> omega
end SR
end
section
set_option Elab.async false
set_option linter.all false
set_option maxRecDepth 100000
set_option maxHeartbeats 1000000
/-! The near root against a grid, second part. -/
namespace SR
theorem grid {x : Num} {k e w G : Int} (h : Reg2 x k e) (w1 : 1 ≤ w) (w11 : w ≤ 11) (g0 : 0 ≤ G) (g1 : G ≤ p2 (w + 12)) :
    (G * p2 (rootE x.1 x.2 w + max (0 - e) 0 + 300 - 12) ≤ isq (x.1 * x.2 * p2 (2 * 300)) ↔ sgR x.2 (rootE x.1 x.2 w) G ≤ sgL x.1 (rootE x.1 x.2 w) (p2 12)) ∧
    (G * p2 (rootE x.1 x.2 w + max (0 - e) 0 + 300 - 12) = isq (x.1 * x.2 * p2 (2 * 300)) ↔ sgR x.2 (rootE x.1 x.2 w) G = sgL x.1 (rootE x.1 x.2 w) (p2 12)) := by
  have he := reg2_e (w := w) h
  have k0 := h.k0
  have hs : 100 ≤ rootE x.1 x.2 w + max (0 - e) 0 + 300 := by omega
  generalize hE : rootE x.1 x.2 w = E at *
  generalize hdl : max (0 - e) 0 = dl at *
  have dl0 : 0 ≤ dl := by omega
  have hM : x.1 * x.2 * p2 (2 * 300) = k * p2 (max e 0 + dl + 600) := by
    rw [h.n, h.d, hdl, pw_add (by omega) (by decide), pw_add (by omega) dl0]
    show k * p2 (max e 0) * p2 dl * p2 600 = _
    grind
  have M0 : 0 ≤ x.1 * x.2 * p2 (2 * 300) := by rw [hM]; exact Int.mul_nonneg (by omega) (Int.le_of_lt (pw_pos _))
  have U0 : 0 ≤ G * p2 (E + dl + 300 - 12) := Int.mul_nonneg g0 (Int.le_of_lt (pw_pos _))
  -- the squares against the program's comparison
  have c1 := cmp_le (n := x.1) (d := x.2) (e := E) (t := G) (b := p2 12) (Z := dl + 300) (by omega) (by omega)
  have c2 := cmp_ge (n := x.1) (d := x.2) (e := E) (t := G) (b := p2 12) (Z := dl + 300) (by omega) (by omega)
  have l1 : x.2 * G * G * p2 (2 * (E + (dl + 300))) = (G * p2 (E + dl + 300 - 12)) * (G * p2 (E + dl + 300 - 12)) * (x.2 * p2 24) := by
    have q : p2 (2 * (E + (dl + 300))) = p2 (E + dl + 300 - 12) * p2 (E + dl + 300 - 12) * p2 24 := by
      rw [← pw_add (by omega) (by omega), ← pw_add (by omega) (by decide)]
      congr 1
      omega
    rw [q]
    grind
  have l2 : x.1 * p2 12 * p2 12 * p2 (2 * (dl + 300)) = x.1 * x.2 * p2 (2 * 300) * (x.2 * p2 24) := by
    have q : p2 12 * p2 12 * p2 (2 * (dl + 300)) = p2 dl * p2 dl * p2 600 * p2 24 := by
      rw [← pw_add (by decide) (by decide), ← pw_add (by decide) (by omega), ← pw_add dl0 dl0, ← pw_add (by omega) (by decide), ← pw_add (by omega) (by decide)]
      congr 1
      omega
    have ed : x.2 = p2 dl := by rw [h.d, hdl]
    have e1 : x.1 * p2 12 * p2 12 * p2 (2 * (dl + 300)) = x.1 * (p2 12 * p2 12 * p2 (2 * (dl + 300))) := by grind
    rw [e1, q, ed]
    show x.1 * (p2 dl * p2 dl * p2 600 * p2 24) = x.1 * p2 dl * p2 600 * (p2 dl * p2 24)
    grind
  have T0 : 0 < x.2 * p2 24 := by rw [h.d]; exact Int.mul_pos (pw_pos _) (pw_pos _)
  rw [l1, l2] at c1 c2
  have d1 : sgR x.2 E G ≤ sgL x.1 E (p2 12) ↔ (G * p2 (E + dl + 300 - 12)) * (G * p2 (E + dl + 300 - 12)) ≤ x.1 * x.2 * p2 (2 * 300) := c1.trans ⟨fun z => Int.le_of_mul_le_mul_right z T0, fun z => Int.mul_le_mul_of_nonneg_right z (Int.le_of_lt T0)⟩
  have d2 : sgL x.1 E (p2 12) ≤ sgR x.2 E G ↔ x.1 * x.2 * p2 (2 * 300) ≤ (G * p2 (E + dl + 300 - 12)) * (G * p2 (E + dl + 300 - 12)) := c2.trans ⟨fun z => Int.le_of_mul_le_mul_right z T0, fun z => Int.mul_le_mul_of_nonneg_right z (Int.le_of_lt T0)⟩
  refine ⟨(isq_ge_iff M0 U0).trans d1.symm, ?_⟩
  have key : G * p2 (E + dl + 300 - 12) = isq (x.1 * x.2 * p2 (2 * 300)) ↔ (G * p2 (E + dl + 300 - 12)) * (G * p2 (E + dl + 300 - 12)) = x.1 * x.2 * p2 (2 * 300) := by
    refine isq_eq_iff (T := p2 (w + (E + dl + 300) + 2)) M0 U0 ?_ ?_ ?_
    · have q : p2 (E + dl + 300 - 12) * p2 (E + dl + 300 - 12) = p2 (w + (E + dl + 300) + 2) * p2 (E + dl + 300 - 26 - w) := by
        rw [← pw_add (by omega) (by omega), ← pw_add (by omega) (by omega)]
        congr 1
        omega
      refine ⟨G * G * p2 (E + dl + 300 - 26 - w), ?_⟩
      have : G * p2 (E + dl + 300 - 12) * (G * p2 (E + dl + 300 - 12)) = G * G * (p2 (E + dl + 300 - 12) * p2 (E + dl + 300 - 12)) := by grind
      rw [this, q]
      grind
    · rw [hM]
      have q : p2 (max e 0 + dl + 600) = p2 (w + (E + dl + 300) + 2) * p2 (max e 0 + dl + 600 - (w + (E + dl + 300) + 2)) := by
        rw [← pw_add (by omega) (by omega)]
        congr 1
        omega
      exact ⟨k * p2 (max e 0 + dl + 600 - (w + (E + dl + 300) + 2)), by rw [q]; grind⟩
    · have q : p2 (w + (E + dl + 300) + 2) = 4 * (p2 (w + 12) * p2 (E + dl + 300 - 12)) := by
        rw [← pw_add (by omega) (by omega), show w + (E + dl + 300) + 2 = w + 12 + (E + dl + 300 - 12) + 1 + 1 by omega, pw_succ (by omega), pw_succ (by omega)]
        omega
      have := Int.mul_le_mul_of_nonneg_right g1 (Int.le_of_lt (pw_pos (E + dl + 300 - 12)))
      have p1 := Int.mul_pos (pw_pos (w + 12)) (pw_pos (E + dl + 300 - 12))
      omega
  rw [key]
  constructor
  · intro z
    have a := d1.mpr (by omega)
    have b := d2.mpr (by omega)
    omega
  · intro z
    have a := d1.mp (by omega)
    have b := d2.mp (by omega)
    omega
end SR
end
section
set_option Elab.async false
set_option linter.all false
set_option maxRecDepth 100000
set_option maxHeartbeats 1000000
/-! The near root's cell. -/
namespace SR
theorem near_scale {x : Num} {k e E : Int} (h : Reg2 x k e) (hs : 0 ≤ E + max (0 - e) 0 + 300) :
    Na (nearLow x 300) E * p2 (E + max (0 - e) 0 + 300) = isq (x.1 * x.2 * p2 (2 * 300)) * Nb (nearLow x 300) E ∧ 0 < (nearLow x 300).2 := by
  have dp : 0 < x.2 * p2 300 := by rw [h.d]; exact Int.mul_pos (pw_pos _) (pw_pos _)
  have c := low_cross (isq_nn (x.1 * x.2 * p2 (2 * 300))) dp
  have d0 := low_2 (n := isq (x.1 * x.2 * p2 (2 * 300))) dp
  have hy : nearLow x 300 = low (isq (x.1 * x.2 * p2 (2 * 300))) (x.2 * p2 300) := rfl
  rw [← hy] at c d0
  generalize nearLow x 300 = y at *
  refine ⟨?_, d0⟩
  obtain ⟨_, _, z, _⟩ := Na_Z (x := y) (e := E) (Z := max (0 - e) 0 + 300) (by omega) (by omega)
  have ed : x.2 * p2 300 = p2 (max (0 - e) 0 + 300) := by rw [h.d, pw_add (by omega) (by decide)]
  rw [ed] at c
  rw [show E + (max (0 - e) 0 + 300) = E + max (0 - e) 0 + 300 by omega, c] at z
  refine Int.eq_of_mul_eq_mul_right (Int.ne_of_gt d0) ?_
  rw [z]
  grind
/-- the grid against the near root -/
theorem near_grid {x : Num} {k e w G : Int} (h : Reg2 x k e) (w1 : 1 ≤ w) (w11 : w ≤ 11) (g0 : 0 ≤ G) (g1 : G ≤ p2 (w + 12)) :
    (G * Nb (nearLow x 300) (rootE x.1 x.2 w) ≤ p2 12 * Na (nearLow x 300) (rootE x.1 x.2 w) ↔ sgR x.2 (rootE x.1 x.2 w) G ≤ sgL x.1 (rootE x.1 x.2 w) (p2 12)) ∧
    (G * Nb (nearLow x 300) (rootE x.1 x.2 w) = p2 12 * Na (nearLow x 300) (rootE x.1 x.2 w) ↔ sgR x.2 (rootE x.1 x.2 w) G = sgL x.1 (rootE x.1 x.2 w) (p2 12)) := by
  have he := reg2_e (w := w) h
  obtain ⟨a, b⟩ := grid h w1 w11 g0 g1
  obtain ⟨sc, d0⟩ := near_scale (E := rootE x.1 x.2 w) h (by omega)
  have nb := Nb_pos d0 (rootE x.1 x.2 w)
  rw [← a, ← b]
  have q : p2 (rootE x.1 x.2 w + max (0 - e) 0 + 300) = p2 12 * p2 (rootE x.1 x.2 w + max (0 - e) 0 + 300 - 12) := by
    rw [← pw_add (by decide) (by omega)]
    congr 1
    omega
  rw [q] at sc
  have S0 := pw_pos (rootE x.1 x.2 w + max (0 - e) 0 + 300 - 12)
  generalize p2 (rootE x.1 x.2 w + max (0 - e) 0 + 300 - 12) = S at *
  generalize isq (x.1 * x.2 * p2 (2 * 300)) = L at *
  generalize Na (nearLow x 300) (rootE x.1 x.2 w) = A at *
  generalize Nb (nearLow x 300) (rootE x.1 x.2 w) = B at *
  have e1 : p2 12 * A * S = L * B := by rw [← sc]; grind
  have e2 : G * B * S = G * S * B := by grind
  constructor
  · constructor
    · intro z
      have := Int.mul_le_mul_of_nonneg_right z (Int.le_of_lt S0)
      rw [e1, e2] at this
      exact Int.le_of_mul_le_mul_right this nb
    · intro z
      have := Int.mul_le_mul_of_nonneg_right z (Int.le_of_lt nb)
      rw [← e1, ← e2] at this
      exact Int.le_of_mul_le_mul_right this S0
  · constructor
    · intro z
      have : G * B * S = p2 12 * A * S := by rw [z]
      rw [e1, e2] at this
      exact Int.eq_of_mul_eq_mul_right (Int.ne_of_gt nb) this
    · intro z
      have : G * S * B = L * B := by rw [z]
      rw [← e1, ← e2] at this
      exact Int.eq_of_mul_eq_mul_right (Int.ne_of_gt S0) this
end SR
end
section
set_option Elab.async false
set_option linter.all false
set_option maxRecDepth 100000
set_option maxHeartbeats 1000000
/-! The near root has the root's cell. -/
namespace SR
theorem near_cell {x : Num} {k e w : Int} (h : Reg2 x k e) (w1 : 1 ≤ w) (w11 : w ≤ 11) : IsCell (nearLow x 300) w (rootK x.1 x.2 w) (rootE x.1 x.2 w) := by
  have n0 : 0 < x.1 := by rw [h.n]; exact Int.mul_pos h.k0 (pw_pos _)
  have d0 : 0 < x.2 := by rw [h.d]; exact pw_pos _
  have rc := root_cell n0 d0 w1
  have lo := rc.lo
  have hi := rc.hi
  have pp := pw_pos (w - 1)
  have p12 := pw_pos 12
  have e12 : p2 (w + 12) = p2 w * p2 12 := pw_add (by omega) (by decide)
  obtain ⟨Z, hZ, hz⟩ : ∃ Z : Int, 0 ≤ Z ∧ 0 ≤ rootE x.1 x.2 w + Z := ⟨max 0 (-(rootE x.1 x.2 w)), by omega, by omega⟩
  have l := rc.le Z hZ hz
  have u := rc.lt Z hZ hz
  have gr := fun (G : Int) (a : 0 ≤ G) (b : G ≤ p2 w) => (near_grid (G := G * p2 12) h w1 w11 (Int.mul_nonneg a (by omega)) (by rw [e12]; exact Int.mul_le_mul_of_nonneg_right b (by omega))).1
  have cm := fun (G : Int) => cmp_le (n := x.1) (d := x.2) (e := rootE x.1 x.2 w) (t := G * p2 12) (b := p2 12) hZ hz
  generalize rootK x.1 x.2 w = K at *
  generalize rootE x.1 x.2 w = E at *
  have sc : ∀ G : Int, x.2 * (G * p2 12) * (G * p2 12) * p2 (2 * (E + Z)) ≤ x.1 * p2 12 * p2 12 * p2 (2 * Z) ↔ x.2 * G * G * p2 (2 * (E + Z)) ≤ x.1 * p2 (2 * Z) := fun G => by
    have a1 : x.2 * (G * p2 12) * (G * p2 12) * p2 (2 * (E + Z)) = x.2 * G * G * p2 (2 * (E + Z)) * (p2 12 * p2 12) := by grind
    have a2 : x.1 * p2 12 * p2 12 * p2 (2 * Z) = x.1 * p2 (2 * Z) * (p2 12 * p2 12) := by grind
    have pq := Int.mul_pos p12 p12
    rw [a1, a2]
    exact ⟨fun z => Int.le_of_mul_le_mul_right z pq, fun z => Int.mul_le_mul_of_nonneg_right z (Int.le_of_lt pq)⟩
  have cn : ∀ G A B : Int, G * p2 12 * B ≤ p2 12 * A ↔ G * B ≤ A := fun G A B => by
    have a1 : G * p2 12 * B = G * B * p2 12 := by grind
    rw [a1, Int.mul_comm (p2 12)]
    exact ⟨fun z => Int.le_of_mul_le_mul_right z p12, fun z => Int.mul_le_mul_of_nonneg_right z (Int.le_of_lt p12)⟩
  refine ⟨lo, hi, ?_, ?_⟩
  · exact (cn _ _ _).mp ((gr K (by omega) (by omega)).mpr ((cm K).mpr ((sc K).mpr l)))
  · have := (not_congr ((cn (K + 1) _ _).symm.trans ((gr (K + 1) (by omega) (by omega)).trans ((cm (K + 1)).trans (sc (K + 1)))))).mpr (by omega)
    omega
end SR
end
section
set_option Elab.async false
set_option linter.all false
set_option maxRecDepth 100000
set_option maxHeartbeats 1000000
/-! Thresholds are on the grid of 2 ^ 12 parts. -/
namespace SR
def Dv (a : Int) (t : Thr) : Prop := t.1.2 ∣ p2 a
theorem dv_mono {a b : Int} {t : Thr} (h : Dv a t) (ha : 0 ≤ a) (hab : a ≤ b) : Dv b t := by
  have : p2 b = p2 a * p2 (b - a) := by rw [← pw_add ha (by omega)]; congr 1; omega
  unfold Dv
  rw [this]
  exact Int.dvd_mul_of_dvd_left h
theorem byRule_dv (r : Rule) (i : Int) : Dv 1 (sel (byRuleT r) i) := by
  have s : sel (byRuleT r) i = (byRuleT r).1 ∨ sel (byRuleT r) i = (byRuleT r).2 := by
    unfold sel
    split
    · exact .inl rfl
    · exact .inr rfl
  rcases s with s | s <;> rw [s] <;> cases r <;> first | exact ⟨2, rfl⟩ | exact ⟨1, rfl⟩
theorem comb_dv {p : Thr × Thr} {r : Rule} {far q a : Int} (ha : 0 ≤ a) (hf : 1 ≤ far) (hp : ∀ i, ThI (sel p i)) (hd : ∀ i, Dv a (sel p i)) : Dv (a + far) (combOne p r far q) := by
  have ld := lastDown_range r (p := q) hf
  have t := hp (lastDown r far q % 2)
  have d := hd (lastDown r far q % 2)
  have F0 := pw_pos far
  unfold combOne Dv at *
  generalize sel p (lastDown r far q % 2) = u at *
  generalize lastDown r far q = j at *
  have N0 : 0 ≤ j * u.1.2 + u.1.1 := by have := Int.mul_nonneg ld.1 (Int.le_of_lt t.d0); have := t.n0; omega
  have D0 : 0 < u.1.2 * p2 far := Int.mul_pos t.d0 F0
  obtain ⟨g1, g2⟩ := low_mul N0 D0
  have h1 : (low (j * u.1.2 + u.1.1) (u.1.2 * p2 far)).2 ∣ u.1.2 * p2 far := ⟨_, g2.symm⟩
  rw [pw_add ha (by omega)]
  exact Int.dvd_trans h1 (Int.mul_dvd_mul d (Int.dvd_refl _))
end SR
end
section
set_option Elab.async false
set_option linter.all false
set_option maxRecDepth 100000
set_option maxHeartbeats 1000000
/-! A chain's thresholds: their denominators. -/
namespace SR
theorem comb_dvs {p : Thr × Thr} {r : Rule} {far a : Int} (ha : 0 ≤ a) (hf : 1 ≤ far) (hp : ∀ i, ThI (sel p i)) (hd : ∀ i, Dv a (sel p i)) : ∀ i, Dv (a + far) (sel (combined p r far) i) := by
  intro i
  unfold sel
  split
  · exact comb_dv ha hf hp hd
  · exact comb_dv ha hf hp hd
theorem from_dv : ∀ (c : Chain) (w : Int) (p : Thr × Thr), Desc w c → (∀ s ∈ c, 1 ≤ s.1) → w ≤ 11 → 1 ≤ w → (∀ i, ThI (sel p i)) → (∀ i, Dv (12 - w) (sel p i)) → ∀ i, ThI (sel (thrFrom w p c) i) ∧ Dv 12 (sel (thrFrom w p c) i)
  | [], w, p, _, _, h1, h2, hp, hd => fun i => ⟨hp i, dv_mono (hd i) (by omega) (by omega)⟩
  | s :: c, w, p, hD, hm, h1, h2, hp, hd => by
    have hs := hm s (List.mem_cons_self ..)
    have hlt := hD.1
    refine from_dv c s.1 (combined p s.2 (w - s.1)) hD.2 (fun t ht => hm t (List.mem_cons_of_mem _ ht)) (by omega) hs (comb_all hp (by omega)) fun i => ?_
    exact dv_mono (comb_dvs (by omega) (by omega) hp hd i) (by omega) (by omega)
theorem thr_dv {c : Chain} (h : ChOk c) (h11 : ∀ s ∈ c, s.1 ≤ 11) : ∀ i, ThI (sel (thrC c) i) ∧ Dv 12 (sel (thrC c) i) := by
  cases c with
  | nil => have := h.pos; simp at this
  | cons s c =>
    have h1 := (h.ok s (List.mem_cons_self ..)).1
    have h2 := h11 s (List.mem_cons_self ..)
    exact from_dv (trimFrom s.1 c) s.1 (byRuleT s.2) (trimFrom_desc c s.1) (fun t ht => (h.ok t (List.mem_cons_of_mem _ (trimFrom_mem c s.1 t ht))).1) h2 h1 (byRule_I s.2) fun i => dv_mono (byRule_dv s.2 i) (by decide) (by omega)
end SR
end
section
set_option Elab.async false
set_option linter.all false
set_option maxRecDepth 100000
set_option maxHeartbeats 1000000
/-! The root, rounded, is the near root, rounded. -/
namespace SR
theorem sg_scale {n d e t b q : Int} : sgR d e (t * q) = sgR d e t * (q * q) ∧ sgL n e (b * q) = sgL n e b * (q * q) := by
  unfold sgR sgL
  constructor <;> grind
theorem near_thr {x : Num} {k e w : Int} {t : Thr} (h : Reg2 x k e) (w1 : 1 ≤ w) (w11 : w ≤ 11) (ht : ThI t) (hd : Dv 12 t) :
    aboveP (Na (nearLow x 300) (rootE x.1 x.2 w) - rootK x.1 x.2 w * Nb (nearLow x 300) (rootE x.1 x.2 w)) (Nb (nearLow x 300) (rootE x.1 x.2 w)) t =
    (decide (0 < cmpR x.1 x.2 (rootE x.1 x.2 w) (rootK x.1 x.2 w * t.1.2 + t.1.1) t.1.2) || (decide (cmpR x.1 x.2 (rootE x.1 x.2 w) (rootK x.1 x.2 w * t.1.2 + t.1.1) t.1.2 = 0) && t.2)) := by
  have c := near_cell h w1 w11
  obtain ⟨q, hq⟩ := hd
  have p12 := pw_pos 12
  have q0 : 0 < q := by
    rcases Int.lt_or_le 0 q with z | z
    · exact z
    · have := Int.mul_nonneg (Int.le_of_lt ht.d0) (show 0 ≤ -q by omega)
      have e1 : t.1.2 * -q = -(t.1.2 * q) := by grind
      omega
  have lo := c.lo
  have hi := c.hi
  have pp := pw_pos (w - 1)
  have e12 : p2 (w + 12) = p2 w * p2 12 := pw_add (by omega) (by decide)
  have ng := near_grid (G := (rootK x.1 x.2 w * t.1.2 + t.1.1) * q) h w1 w11 (Int.mul_nonneg (by have := Int.mul_nonneg (show 0 ≤ rootK x.1 x.2 w by omega) (Int.le_of_lt ht.d0); have := ht.n0; omega) (by omega)) (by
    rw [e12, hq]
    have a1 : (rootK x.1 x.2 w * t.1.2 + t.1.1) ≤ p2 w * t.1.2 := by
      have : (rootK x.1 x.2 w + 1) * t.1.2 ≤ p2 w * t.1.2 := Int.mul_le_mul_of_nonneg_right (by omega) (Int.le_of_lt ht.d0)
      have e : (rootK x.1 x.2 w + 1) * t.1.2 = rootK x.1 x.2 w * t.1.2 + t.1.2 := by grind
      have := ht.nd
      omega
    have := Int.mul_le_mul_of_nonneg_right a1 (Int.le_of_lt q0)
    rw [← Int.mul_assoc]
    exact this)
  have cc := cmpR_cases x.1 x.2 (rootE x.1 x.2 w) (rootK x.1 x.2 w * t.1.2 + t.1.1) t.1.2
  have sgs := sg_scale (n := x.1) (d := x.2) (e := rootE x.1 x.2 w) (t := rootK x.1 x.2 w * t.1.2 + t.1.1) (b := t.1.2) (q := q)
  rw [hq, sgs.1, sgs.2] at ng
  have qq := Int.mul_pos q0 q0
  generalize rootK x.1 x.2 w = K at *
  generalize rootE x.1 x.2 w = E at *
  generalize Na (nearLow x 300) E = A at *
  generalize Nb (nearLow x 300) E = B at *
  generalize sgR x.2 E (K * t.1.2 + t.1.1) = R at *
  generalize sgL x.1 E t.1.2 = L at *
  generalize cmpR x.1 x.2 E (K * t.1.2 + t.1.1) t.1.2 = C at *
  have f1 : (K * t.1.2 + t.1.1) * q * B = ((K * t.1.2 + t.1.1) * B) * q := by grind
  have f2 : t.1.2 * q * A = (t.1.2 * A) * q := by grind
  rw [f1, f2] at ng
  have a1 : (K * t.1.2 + t.1.1) * B ≤ t.1.2 * A ↔ R ≤ L := ⟨fun z => Int.le_of_mul_le_mul_right (ng.1.mp (Int.mul_le_mul_of_nonneg_right z (Int.le_of_lt q0))) qq, fun z => Int.le_of_mul_le_mul_right (ng.1.mpr (Int.mul_le_mul_of_nonneg_right z (Int.le_of_lt qq))) q0⟩
  have a2 : (K * t.1.2 + t.1.1) * B = t.1.2 * A ↔ R = L := ⟨fun z => Int.eq_of_mul_eq_mul_right (Int.ne_of_gt qq) (ng.2.mp (by rw [z])), fun z => Int.eq_of_mul_eq_mul_right (Int.ne_of_gt q0) (ng.2.mpr (by rw [z]))⟩
  have g1 : (K * t.1.2 + t.1.1) * B = K * B * t.1.2 + t.1.1 * B := by grind
  have g2 : (A - K * B) * t.1.2 = t.1.2 * A - K * B * t.1.2 := by grind
  rw [g1] at a1 a2
  unfold aboveP
  rw [g2]
  have b1 : t.1.1 * B < t.1.2 * A - K * B * t.1.2 ↔ 0 < C := by rw [cc.2.1]; omega
  have b2 : t.1.1 * B = t.1.2 * A - K * B * t.1.2 ↔ C = 0 := by rw [cc.2.2]; omega
  rw [decide_eq_decide.mpr b1, decide_eq_decide.mpr b2]
end SR
end
section
set_option Elab.async false
set_option linter.all false
set_option maxRecDepth 100000
set_option maxHeartbeats 1000000
/-! Plain facts about roots (root_law is still to be proved). -/
namespace SR
theorem root_in {x : Num} {c : Chain} {w : Int} (h1 : 1 ≤ w) (h2 : w ≤ 5) (hx : RegX w x) (hc : ChOk c) : InR (rootRound x c) ∧ Rep (minW c) (rootRound x c) := by
  have nb := (reg_nm h1 h2 hx).mono (show 1050 ≤ 1100 by decide)
  have mw := minW_ok hc
  have ok : RtOk x.1 x.2 (minW c) := ⟨nb.n0, nb.d0, nb.n, nb.d, mw.1, mw.2⟩
  have rc := root_cell ok.n0 ok.d0 ok.w1
  have he := ok.e
  have lo := rc.lo
  have hi := rc.hi
  have pp := pw_pos (minW c - 1)
  unfold rootRound
  have ha : ∃ a : Int, (if (!rootExact x.1 x.2 (minW c) && rootAbove x.1 x.2 (minW c) (thrC c)) = true then 1 else 0) = a ∧ 0 ≤ a ∧ a ≤ 1 := by
    refine ⟨_, rfl, ?_, ?_⟩ <;> split <;> omega
  obtain ⟨a, ea, a0, a1⟩ := ha
  rw [ea]
  generalize rootK x.1 x.2 (minW c) = k at *
  generalize rootE x.1 x.2 (minW c) = e at *
  have hk : 0 < k + a := by omega
  refine ⟨?_, rep_up mw.1 (by omega) (by omega)⟩
  rw [inr_pow hk]
  have b0 : p2 (minW c) ≤ p2 100 := pw_mono (by omega)
  have b1 : p2 (max e 0) ≤ p2 601 := pw_mono (by omega)
  have b2 : p2 (max (0 - e) 0) ≤ p2 700 := pw_mono (by omega)
  have b3 : p2 100 * p2 601 = p2 701 := (pw_add (a := 100) (b := 601) (by decide) (by decide)).symm
  have b4 := pw_mono (show (701 : Int) ≤ 1000 by decide)
  have b5 := pw_mono (show (700 : Int) ≤ 1000 by decide)
  have q1 := pw_pos (max e 0)
  have q2 := pw_pos (max (0 - e) 0)
  have c1 : (k + a) * p2 (max e 0) ≤ p2 100 * p2 601 := Int.mul_le_mul (by omega) b1 (by omega) (by have := pw_pos 100; omega)
  have c2 : 0 < (k + a) * p2 (max e 0) := Int.mul_pos hk q1
  generalize (k + a) * p2 (max e 0) = N at *
  generalize p2 (max (0 - e) 0) = D at *
  have M0 := pw_pos 1000
  generalize p2 1000 = M at *
  have m1 : 1 * M ≤ D * M := Int.mul_le_mul_of_nonneg_right (by omega) (by omega)
  have m2 : 1 * M ≤ N * M := Int.mul_le_mul_of_nonneg_right (by omega) (by omega)
  omega
theorem root_law {x : Num} {c : Chain} {w : Int} (h1 : 1 ≤ w) (h2 : w ≤ 5) (hx : RegX w x) (hc : ChOk c) (h11 : ∀ s ∈ c, s.1 ≤ 11) : rootRound x c = lawRoot x c := by
  obtain ⟨k, e, h⟩ := reg2 h2 hx
  have mw := minW_ok hc
  have m11 : minW c ≤ 11 := by
    obtain ⟨s, hs, e⟩ := List.mem_map.mp (minW_mem (c := c) (by intro z; have := hc.pos; rw [z] at this; simp at this))
    have := h11 s hs
    omega
  have ny : Nm1 (nearLow x 300) := by
    have dp : 0 < x.2 * p2 300 := by rw [h.d]; exact Int.mul_pos (pw_pos _) (pw_pos _)
    have mp : 0 < x.1 * x.2 * p2 (2 * 300) := by
      rw [h.n, h.d]
      exact Int.mul_pos (Int.mul_pos (Int.mul_pos h.k0 (pw_pos _)) (pw_pos _)) (pw_pos _)
    refine low_nm1 ?_ dp
    have := (isq_ge_iff (M := x.1 * x.2 * p2 (2 * 300)) (U := 1) (by omega) (by decide)).mpr (by omega)
    omega
  have cu := cell_uniq mw.1 ny.2.1 (cell_is ny.1 ny.2.1 mw.1) (near_cell h mw.1 m11)
  have td := thr_dv hc h11 (rootK x.1 x.2 (minW c) % 2)
  have nt := near_thr h mw.1 m11 td.1 td.2
  have nz := near_thr (t := ((0, 1), false)) h mw.1 m11 ⟨by decide, by decide, by decide, by decide, by decide⟩ ⟨p2 12, by rw [Int.one_mul]⟩
  have n0 : 0 < x.1 := by rw [h.n]; exact Int.mul_pos h.k0 (pw_pos _)
  have d0 : 0 < x.2 := by rw [h.d]; exact pw_pos _
  have rk := rem_ok ny mw.1
  show powN _ _ = appliedC (nearLow x 300) c
  rw [applied_thr ny hc]
  unfold thrRound
  unfold remP remQ at *
  rw [cu.1, cu.2] at rk ⊢
  have rc := root_cell n0 d0 mw.1
  have hge : 0 ≤ cmpR x.1 x.2 (rootE x.1 x.2 (minW c)) (rootK x.1 x.2 (minW c)) 1 := by
    obtain ⟨Z, hZ, hz⟩ : ∃ Z : Int, 0 ≤ Z ∧ 0 ≤ rootE x.1 x.2 (minW c) + Z := ⟨max 0 (-(rootE x.1 x.2 (minW c))), by omega, by omega⟩
    rw [(cmpR_cases ..).1, cmp_le hZ hz, Int.mul_one, Int.mul_one]
    exact rc.le Z hZ hz
  have nz' : decide (0 < Na (nearLow x 300) (rootE x.1 x.2 (minW c)) - rootK x.1 x.2 (minW c) * Nb (nearLow x 300) (rootE x.1 x.2 (minW c))) = decide (0 < cmpR x.1 x.2 (rootE x.1 x.2 (minW c)) (rootK x.1 x.2 (minW c)) 1) := by
    have a1 : aboveP (Na (nearLow x 300) (rootE x.1 x.2 (minW c)) - rootK x.1 x.2 (minW c) * Nb (nearLow x 300) (rootE x.1 x.2 (minW c))) (Nb (nearLow x 300) (rootE x.1 x.2 (minW c))) ((0, 1), false) = decide (0 < Na (nearLow x 300) (rootE x.1 x.2 (minW c)) - rootK x.1 x.2 (minW c) * Nb (nearLow x 300) (rootE x.1 x.2 (minW c))) := by
      unfold aboveP
      simp
    rw [← a1, nz]
    simp
  have rx : rootExact x.1 x.2 (minW c) = decide (cmpR x.1 x.2 (rootE x.1 x.2 (minW c)) (rootK x.1 x.2 (minW c)) 1 = 0) := rfl
  have ra : rootAbove x.1 x.2 (minW c) (thrC c) = aboveR x.1 x.2 (rootE x.1 x.2 (minW c)) (rootK x.1 x.2 (minW c)) (thrC c) := rfl
  rw [rx, ra]
  by_cases hz : Na (nearLow x 300) (rootE x.1 x.2 (minW c)) - rootK x.1 x.2 (minW c) * Nb (nearLow x 300) (rootE x.1 x.2 (minW c)) = 0
  · rw [if_pos hz]
    rw [hz, decide_eq_false (by omega)] at nz'
    have h0 := of_decide_eq_false nz'.symm
    rw [decide_eq_true (show cmpR x.1 x.2 (rootE x.1 x.2 (minW c)) (rootK x.1 x.2 (minW c)) 1 = 0 by omega)]
    have ey := exact_pow ny mw.1 (by unfold remP; rw [cu.1, cu.2]; exact hz)
    rw [cu.1, cu.2] at ey
    show powN (_ + 0) _ = _
    rw [Int.add_zero]
    exact ey.symm
  · rw [if_neg hz, nt]
    rw [decide_eq_true (by omega)] at nz'
    have h0 := of_decide_eq_true nz'.symm
    rw [decide_eq_false (show ¬ cmpR x.1 x.2 (rootE x.1 x.2 (minW c)) (rootK x.1 x.2 (minW c)) 1 = 0 by omega)]
    rfl
end SR
end
section
set_option Elab.async false
set_option linter.all false
set_option maxRecDepth 100000
set_option maxHeartbeats 1000000
/-! The law's loop, plainly. -/
namespace SR
open PySem PySem.Spec PyProof.Rows L2
/-- what stands ahead of each call -/
structure LoopOk (c : Chain) (r : Rule) (w : Int) (S : BS) : Prop where
  ch : S.ch = c
  r : S.r = r
  mw : minW c = w
  w1 : 1 ≤ w
  w2 : w ≤ 5
  okc : ChOk c
  h11 : ∀ s ∈ c, s.1 ≤ 11
  sp : S.splits = List.replicate S.made.length false
  regs : ∀ z x, getR S.held z = some x → x.1 = x.2 ∧ RegX w x.1
  nd : (keysR S.held).Nodup
  names : ∀ z ∈ keysR S.held, NameT z
  calls : ∀ d ∈ S.made, ∃ cl, d = callD cl ∧ (∃ h w', (∀ z ∈ keysR h, NameT z) ∧ CallOk h w' cl)
theorem str_ok {t : Str} (h : NameT t) : PyData.strOk t = true := by
  rcases h with rfl | rfl | rfl | rfl <;> decide +kernel
theorem name_ok {t : Str} (h : NameT t) : NameOk t := fin_names h
theorem call_shape {h : List Reg} {w : Int} {cl : CallI} (hn : ∀ z ∈ keysR h, NameT z) (ok : CallOk h w cl) : PyData.canLay0 (callD cl) = true ∧ PyData.depth (callD cl) ≤ 2 := by
  cases cl with
  | load t x =>
    have := str_ok ok.1
    have l : PyData.strOk "load" = true := by decide +kernel
    constructor
    · simp [callD, loadD, numD, PyData.canLay0, PyData.canLayAll0, this, l]
    · simp [callD, loadD, numD, PyData.depth, PyData.depthAll]
  | root t a =>
    have h1 := str_ok ok.1
    have h2 := str_ok (hn a ok.2)
    have l : PyData.strOk "root" = true := by decide +kernel
    constructor
    · simp [callD, rootD, PyData.canLay0, PyData.canLayAll0, h1, h2, l]
    · simp [callD, rootD, PyData.depth, PyData.depthAll]
  | bin m t a b =>
    have h1 := str_ok ok.1
    have h2 := str_ok (hn a ok.2.1)
    have h3 := str_ok (hn b ok.2.2)
    have l : PyData.strOk (ms m) = true := by cases m <;> decide +kernel
    constructor
    · simp [callD, binD, PyData.canLay0, PyData.canLayAll0, h1, h2, h3, l]
    · simp [callD, binD, PyData.depth, PyData.depthAll]
theorem shaped_of {d : PyData} (h : PyData.canLay0 d = true ∧ PyData.depth d ≤ 2) : SeqAt.shaped d = true := by
  unfold SeqAt.shaped
  rw [h.1, decide_eq_true (by omega)]
  rfl
theorem shaped_list {ds : List PyData} (h : ∀ d ∈ ds, PyData.canLay0 d = true ∧ PyData.depth d ≤ 2) : SeqAt.shaped (.list ds) = true := by
  have h1 : ∀ ds : List PyData, (∀ d ∈ ds, PyData.canLay0 d = true ∧ PyData.depth d ≤ 2) → PyData.canLayAll0 ds = true ∧ PyData.depthAll ds ≤ 2 := by
    intro ds
    induction ds with
    | nil => intro _; simp [PyData.canLayAll0, PyData.depthAll]
    | cons d ds ih =>
      intro h
      have a := h d (List.mem_cons_self ..)
      have b := ih fun e he => h e (List.mem_cons_of_mem _ he)
      simp only [PyData.canLayAll0, PyData.depthAll, a.1, b.1]
      exact ⟨rfl, by omega⟩
  obtain ⟨a, b⟩ := h1 ds h
  have c1 : PyData.canLay0 (.list ds) = true := by simp only [PyData.canLay0, a]
  have c2 : PyData.depth (.list ds) ≤ 64 := by simp only [PyData.depth]; omega
  unfold SeqAt.shaped
  rw [c1, decide_eq_true c2]
  rfl
theorem far_not {x : Num} (h : farB x = false) : InR x := by
  unfold farB at h
  rw [Bool.or_eq_false_iff] at h
  have h1 := of_decide_eq_false h.1
  have h2 := of_decide_eq_false h.2
  exact ⟨by omega, by omega⟩
/-- there is an outcome -/
theorem out_of {c : Chain} {r : Rule} {w w' : Int} {S : BS} {cl : CallI} (L : LoopOk c r w S) (ok : CallOk S.held w' cl) : ∃ o, OutR c [(w, r)] S.held cl o := by
  have rg : ∀ z ∈ keysR S.held, ∃ x : Num, getR S.held z = some (x, x) ∧ Nm 1050 x := fun z hz => by
    obtain ⟨xy, hx⟩ := getR_mem hz
    obtain ⟨e, rx⟩ := L.regs z xy hx
    obtain ⟨x, y⟩ := xy
    cases e
    exact ⟨x, hx, reg_nm L.w1 L.w2 rx⟩
  cases cl with
  | load t x => exact ⟨_, .load⟩
  | root t a =>
    obtain ⟨x, hx, nx⟩ := rg a ok.2
    exact ⟨_, .root hx nx⟩
  | bin m t a b =>
    obtain ⟨x, hx, nx⟩ := rg a ok.2.1
    obtain ⟨y, hy, ny⟩ := rg b ok.2.2
    have en := exact_nm (m := m) nx ny
    by_cases h : (exactM m x y).1 = 0
    · exact ⟨_, .zero hx hy nx ny h⟩
    · exact ⟨_, .bin hx hy nx ny (by have := en.2.1; omega)⟩
/-- what is done is what the law reckons -/
theorem done_of {c : Chain} {r : Rule} {w : Int} {S : BS} {cl : CallI} {a b : Num} (L : LoopOk c r w S) (ok : CallOk S.held w cl) (o : OutR c [(w, r)] S.held cl (.both a b)) :
    DoneR S cl (S.store (callT cl) (a, b) (callD cl)) ∧ RegX w a ∧ RegX w b := by
  have hc := L.ch
  have hr := L.r
  have hm := L.mw
  have okd : ChOk [(w, r)] := one_ok ⟨L.w1, by have := L.w2; omega⟩
  have h11d : ∀ s ∈ [(w, r)], s.1 ≤ 11 := fun s hs => by
    cases List.mem_singleton.mp hs
    have := L.w2
    show w ≤ 11
    omega
  have md : minW [(w, r)] = w := rfl
  cases cl with
  | load t x =>
    cases o
    obtain ⟨nt, k, e, k1, k2, e1, e2, rfl⟩ := ok
    have rp : Rep w (powN k e) := ⟨k, e, k1, k2, rfl⟩
    have ir := num_in L.w1 L.w2 k1 k2 ⟨e1, e2⟩
    have nb := reg_nm L.w1 L.w2 ⟨rp, ir⟩
    refine ⟨.load ⟨name_ok nt, rep_nm1 rp, nb.mono (by decide), ir, ?_⟩, ⟨rp, ir⟩, ⟨rp, ir⟩⟩
    rw [hc, hm]
    exact rep_round L.w1 k1 k2
  | root t z =>
    cases o with
    | @root _ _ x ga nx =>
      obtain ⟨_, rx⟩ := L.regs z _ ga
      have q1 := root_law L.w1 L.w2 rx L.okc L.h11
      have q2 := root_law (c := [(w, r)]) L.w1 L.w2 rx okd h11d
      have i1 := root_in L.w1 L.w2 rx L.okc
      have i2 := root_in (c := [(w, r)]) L.w1 L.w2 rx okd
      have er : resR S x = (lawRoot x c, lawRoot x [(w, r)]) := by
        unfold resR
        rw [hc, hr, hm, q1, q2]
      rw [q1, hm] at i1
      rw [q2, md] at i2
      refine ⟨?_, ⟨i1.2, i1.1⟩, ⟨i2.2, i2.1⟩⟩
      have D := DoneR.root (S := S) (t := t) (a := z) (x := x) ⟨name_ok ok.1, name_ok (L.names z ok.2), ga, rep_nm1 rx.1, nx, by rw [er]; exact i1.1, by rw [er]; exact i2.1⟩
      rw [er] at D
      exact D
  | bin m t z1 z2 =>
    generalize ho : Out.both a b = o' at o
    cases o with
    | zero => cases ho
    | @bin _ _ _ _ x y ga gb nx ny e =>
      have en := exact_nm (m := m) nx ny
      have lp := low_pos e en.1
      have ld := low_2 (n := (exactM m x y).1) en.1
      have ra := rep_applied (low_nm1 e en.1) L.okc
      have rb := rep_applied (low_nm1 e en.1) okd
      rw [hm] at ra
      rw [md] at rb
      have er : res S (low (exactM m x y).1 (exactM m x y).2) = (appliedC (low (exactM m x y).1 (exactM m x y).2) c, appliedC (low (exactM m x y).1 (exactM m x y).2) [(w, r)]) := by
        unfold res
        rw [hc, hr, hm]
      have D := fun i1 i2 => DoneR.bin (S := S) (t := t) ⟨name_ok ok.1, name_ok (L.names z1 ok.2.1), name_ok (L.names z2 ok.2.2), ga, gb, nx, ny, e, i1, i2⟩
      rw [er] at D
      generalize appliedC (low (exactM m x y).1 (exactM m x y).2) c = u1 at *
      generalize appliedC (low (exactM m x y).1 (exactM m x y).2) [(w, r)] = u2 at *
      by_cases hf : (farB u1 || farB u2) = true
      · rw [if_pos hf] at ho
        cases ho
      · rw [if_neg hf] at ho
        cases ho
        have hf' : (farB a || farB b) = false := by simpa using hf
        rw [Bool.or_eq_false_iff] at hf'
        have i1 := far_not hf'.1
        have i2 := far_not hf'.2
        exact ⟨D i1 i2, ⟨ra, i1⟩, ⟨rb, i2⟩⟩
/-- the next state, where nothing differed -/
theorem loop_next {c : Chain} {r : Rule} {w : Int} {S : BS} {cl : CallI} {a : Num} (L : LoopOk c r w S) (ok : CallOk S.held w cl) (ra : RegX w a) : LoopOk c r w (S.store (callT cl) (a, a) (callD cl)) := by
  have nt : NameT (callT cl) := by cases cl <;> exact ok.1
  refine ⟨L.ch, L.r, L.mw, L.w1, L.w2, L.okc, L.h11, ?_, ?_, nodup_put L.nd _ _, ?_, ?_⟩
  · show S.splits ++ [!decide (a = a)] = List.replicate (S.made ++ [callD cl]).length false
    rw [L.sp, List.length_append, decide_eq_true rfl, show (S.made.length + [callD cl].length) = S.made.length + 1 from rfl, List.replicate_succ']
    rfl
  · intro z x hx
    have hx' : getR (putR S.held (callT cl) (a, a)) z = some x := hx
    rw [getR_put] at hx'
    split at hx'
    · cases Option.some.inj hx'
      exact ⟨rfl, ra⟩
    · exact L.regs z x hx'
  · intro z hz
    have hz' : z ∈ keysR (putR S.held (callT cl) (a, a)) := hz
    rw [keys_put] at hz'
    split at hz'
    · exact L.names z hz'
    · rcases List.mem_append.mp hz' with h | h
      · exact L.names z h
      · cases List.mem_singleton.mp h
        exact nt
  · intro d hd
    rcases List.mem_append.mp (show d ∈ S.made ++ [callD cl] from hd) with h | h
    · exact L.calls d h
    · cases List.mem_singleton.mp h
      exact ⟨cl, rfl, S.held, w, L.names, ok⟩
theorem loop_shape {c : Chain} {r : Rule} {w : Int} {S : BS} {cl : CallI} (L : LoopOk c r w S) (ok : CallOk S.held w cl) : SeqAt.shaped (.list (S.made ++ [callD cl])) = true ∧ SeqAt.shaped (callD cl) = true ∧ SeqAt.shaped (.tuple [.str (callT cl)]) = true := by
  refine ⟨shaped_list fun d hd => ?_, shaped_of (call_shape L.names ok), ?_⟩
  · rcases List.mem_append.mp hd with h | h
    · obtain ⟨cl', rfl, h', w', hn, ok'⟩ := L.calls d h
      exact call_shape hn ok'
    · cases List.mem_singleton.mp h
      exact call_shape L.names ok
  · have nt : NameT (callT cl) := by cases cl <;> exact ok.1
    have := str_ok nt
    refine shaped_of ⟨?_, ?_⟩
    · simp [PyData.canLay0, PyData.canLayAll0, this]
    · simp [PyData.depth, PyData.depthAll]
theorem loop_same {c : Chain} {r : Rule} {w : Int} {S : BS} (L : LoopOk c r w S) : Same S.held := fun z x h => (L.regs z x h).1
theorem loop_fz {c : Chain} {r : Rule} {w : Int} {S : BS} (L : LoopOk c r w S) : FzAll S.made = true := fz_all fun d hd => by
  obtain ⟨cl, rfl, _⟩ := L.calls d hd
  exact fz_call cl
end SR
end
section
set_option Elab.async false
set_option linter.all false
set_option maxRecDepth 100000
set_option maxHeartbeats 2000000
/-! The law's one run. -/
namespace SR
open PySem PySem.Spec PyProof.Rows L2
open Evl (Ex)
open C8 (Cal Met Mak pe_c pe_mt pe_mt0 pe_mk pe_gc)
def spRight : Sp := fun vs H Q _ => ∃ a, vs = [.ref a] ∧ SrcAt H a 0 ∧ ∀ H', Exs [a] H H' → Q (.bl true) H'
theorem Exs.news {L M : List Addr} {H H1 H2 : Hp} (x : Exs L H H1) (y : Exs M H1 H2) (h : ∀ b ∈ M, H b = none) : Exs L H H2 := fun a o n q => by
  have na : a ∉ M := fun m => by rw [h a m] at q; cases q
  exact y a o na (x a o n q)
theorem SrcAt.keep {H H' : Hp} {a : Addr} {n : Nat} {L : List Addr} (h : SrcAt H a n) (x : Exs L H H') (ha : a ∉ L) : SrcAt H' a n := by
  obtain ⟨y1, y2, y3, h1, h2⟩ := h
  exact ⟨y1, y2, y3, x a _ ha h1, h2⟩
theorem HeldAt.keep {K : PySem.W.Frag} {H H' : Hp} {a : Addr} {h : List Reg} {L : List Addr} (r : HeldAt K H a h) (x : Exs L H H') (ha : a ∉ L) (t : Tx H H') : HeldAt K H' a h := by
  obtain ⟨kvs, k1, k2⟩ := r
  exact ⟨kvs, x a _ ha k1, k2.tx t⟩
theorem Bn.keep {K : PySem.W.Frag} {H H' : Hp} {A : BA} {S : BS} {L : List Addr} (B : Bn K H A S) (x : Exs L H H') (hF : ∀ b ∈ L, S.F b) (nA : ∀ b ∈ [A.p, A.hd, A.ml, A.sl, A.pl], ¬ S.F b) (t : Tx H H') (fz : FzAll S.made = true) (hnn : ∀ b ∈ L, H' b ≠ none) : Bn K H' A S := by
  obtain ⟨ob, ch, held, ⟨mv, m1, m2⟩, sp, ⟨pv, p1, p2, p3⟩, fb, n1, n2, n3⟩ := B
  have h : ∀ b ∈ [A.p, A.hd, A.ml, A.sl, A.pl], b ∉ L := fun b hb hm => nA b hb (hF b hm)
  refine ⟨x _ _ (h _ (by simp)) ob, dp_tx t _ _ (fz_ch S.ch) ch, held.keep x (h _ (by simp)) t, ⟨mv, x _ _ (h _ (by simp)) m1, dps_tx t _ _ fz m2⟩, x _ _ (h _ (by simp)) sp, ⟨pv, x _ _ (h _ (by simp)) p1, p2, fun h0 q0 => ?_⟩, fun f hf => ?_, n1, n2, n3⟩
  · obtain ⟨q, a, b, nf, c⟩ := p3 h0 q0
    exact ⟨q, a, b, nf, c.keep x (fun hm => nf (hF q hm)) t⟩
  · by_cases hm : f ∈ L
    · exact hnn f hm
    · cases hh : H f with
      | none => exact absurd hh (fb f hf)
      | some o => rw [x f o hm hh]; intro z; cases z
structure LoopAt (K : PySem.W.Frag) (H H' : Hp) (F : Addr → Prop) (a hl lc : Addr) (vp : V) (A : BA) (c : Chain) (r : Rule) (w : Int) (i m : Nat) (S : BS) : Prop where
  B : Bn K H' A S
  L : LoopOk c r w S
  hh : HeldAt K H' hl S.held
  hp : Dp K H' vp (planD c [(w, r)])
  cs : ∃ cvs, H' lc = some (.lst cvs) ∧ DpAll K H' cvs S.made
  src : SrcAt H' a m
  xx : Exs [a] H H'
  ml : S.made.length ≤ i
  hz : S.held.length ≤ i
  eF : S.F = F
  la : lc ≠ a
  Fa : F a
  Fh : F hl
  Fl : F lc
  nA : ∀ b ∈ [A.p, A.hd, A.ml, A.sl, A.pl], ¬ F b
  F0 : ∀ f, H f ≠ none → F f
theorem LoopAt.ex {K : PySem.W.Frag} {H H' H2 : Hp} {F : Addr → Prop} {a hl lc : Addr} {vp : V} {A : BA} {c : Chain} {r : Rule} {w : Int} {i m : Nat} {S : BS} (h : LoopAt K H H' F a hl lc vp A c r w i m S) (e : Ex H' H2) : LoopAt K H H2 F a hl lc vp A c r w i m S := by
  obtain ⟨cvs, c1, c2⟩ := h.cs
  exact { h with B := h.B.ex e, hh := h.hh.ex e, hp := dp_ex e _ _ h.hp, cs := ⟨cvs, e _ _ c1, dps_ex e _ _ c2⟩, src := h.src.ex e, xx := h.xx.ex e }
theorem LoopAt.bySrc {K : PySem.W.Frag} {H H' H2 : Hp} {F : Addr → Prop} {a hl lc : Addr} {vp : V} {A : BA} {c : Chain} {r : Rule} {w : Int} {i m m2 : Nat} {S : BS} (h : LoopAt K H H' F a hl lc vp A c r w i m S) (x : Exs [a] H' H2) (s : SrcAt H2 a m2) : LoopAt K H H2 F a hl lc vp A c r w i m2 S := by
  obtain ⟨cvs, c1, c2⟩ := h.cs
  have t := src_tx h.src x
  have nla : lc ∉ [a] := by simpa using h.la
  refine { h with B := h.B.keep x (fun b hb => by cases List.mem_singleton.mp hb; rw [h.eF]; exact h.Fa) (by rw [h.eF]; exact h.nA) t (loop_fz h.L) (fun b hb => by cases List.mem_singleton.mp hb; obtain ⟨ys, hy⟩ := s.lst; rw [hy]; intro z; cases z), hh := h.hh.src h.src x, hp := dp_tx t _ _ (fz_plan _ _) h.hp, cs := ⟨cvs, x _ _ nla c1, dps_tx t _ _ (loop_fz h.L) c2⟩, src := s, xx := h.xx.trans x }
theorem LoopAt.plan {K : PySem.W.Frag} {H H' : Hp} {F : Addr → Prop} {a hl lc : Addr} {vp : V} {A : BA} {c : Chain} {r : Rule} {w : Int} {i m : Nat} {S : BS} {σ : L2.St} (h : LoopAt K H H' F a hl lc vp A c r w i m S) (hs : σ[3]? = some (some vp)) :
    VE K (tOp (rIxT K) (tOp (rIxT K) (tOp (rIxT K) (tVar 3) (tC (.int 1))) (tC (.int 0))) (tC (.int 0))) σ H' (.int w) :=
  ve_ixT (n := 0) (ds := [.int w, .str (rs r)]) (ve_ixT (n := 0) (ds := [stepD (w, r)]) (ve_ixT (n := 1) (ds := [chD c, chD [(w, r)]]) (ve_var hs h.hp) ve_int (by decide) rfl) ve_int (by decide) rfl) ve_int (by decide) rfl
/-- the look behind each call: nothing differs -/
theorem LoopAt.look {K : PySem.W.Frag} {H H' : Hp} {F : Addr → Prop} {a hl lc : Addr} {vp : V} {A : BA} {c : Chain} {r : Rule} {w : Int} {i m : Nat} {S : BS} {σ : L2.St} (h : LoopAt K H H' F a hl lc vp A c r w i m S) (hs : σ[6]? = some (some (.ref A.p))) (hi : i ≤ 45) :
    VT (tOr (tTest (tOp (fun x y H Q => y = V.non ∧ Q (.bl (!decide (x = .non))) H) (tMeth (bC K) "first_split" (spB K RB_first_split) [] C8.E0 (tVar 6) tNil) (tC .non))) (tTest (tOp (rNeD K) (tMeth (bC K) "differing" (spDiff K) [] C8.E0 (tVar 6) tNil) (tTup tNil)))) σ H' false :=
  VT.to (vt_or (a := false) (b := false) (VT.to (vt_test (ve_notN (ve_mb (vv_var hs) h.B rfl va_nil (RB_first_split.no h.L.sp)))) rfl)
    fun _ => VT.to (vt_test (ve_neD (d1 := .tuple []) (d2 := .tuple []) (ve_diff (ds := []) (vv_var hs) h.B (by have := h.hz; omega) (fun ys _ => diff_none (loop_same h.L) ys)) (ve_tup va_nil (by show 0 ≤ 1000; decide)) rfl rfl)) rfl) rfl
theorem shape_out (o : Out) : SeqAt.shaped (outD o) = true := by
  cases o with
  | zero => decide +kernel
  | far => decide +kernel
  | both x y => rfl
theorem ok_of {K : PySem.W.Frag} {H H' : Hp} {F : Addr → Prop} {a hl lc : Addr} {vp : V} {A : BA} {c : Chain} {r : Rule} {w : Int} {i m : Nat} {S : BS} (h : LoopAt K H H' F a hl lc vp A c r w i m S) (hi : i ≤ 45) : S.Ok :=
  ⟨by rw [h.L.ch]; exact h.L.okc, by rw [h.L.sp]; simp, by have := h.ml; omega, loop_fz h.L, by have := h.hz; omega⟩
theorem vs_par3N {K : PySem.W.Frag} {te : TE} {d : PyData} {i j l : Nat} {D : Ends} {σ : L2.St} {H : Hp} (h : VE K te σ H d)
    (k : ∀ v H1 hl lc, Ex H H1 → Dp K H1 v d → H1 hl = none → (upd H1 hl (.dK [])) lc = none → D.nx (((σ.set i (some v)).set j (some (.ref hl))).set l (some (.ref lc))) (upd (upd H1 hl (.dK [])) lc (.lst []))) : tPar3 i j l (tCons te (tCons tDNewK (tCons (tLst tNil) tNil))) D σ H :=
  h H (Evl.Ex.refl H) _ fun v H1 e1 hd hl hhl => ⟨Nat.zero_le _, fun lc hlc => ⟨v, .ref hl, .ref lc, rfl, k v H1 hl lc e1 hd hhl hlc⟩⟩
theorem upd_L {H : Hp} {p : Addr} {o : HO} : Exs [p] H (L2.upd H p o) := (Exs.refl [p] H).upd (by simp)
section
variable {P : Program} {w : World} {K : PySem.W.Frag} {mg : Str → Option Value} {base : Heap}
theorem sc_law_right : FnScope ["_law_source_here", "_law_chain_here_here", "_law_rule_here", "_law_plan", "_law_held", "_law_calls", "_law_bench", "_law_turn", "_law_call_here", "_law_both"] ["_law_source_here"] (defScope s_law_right) := ⟨rfl, rfl, rfl, by decide +kernel, rfl, by decide +kernel, by decide +kernel⟩
theorem cal_law_right (T : Top w K mg) : Cal P w K mg base 12 "_law_right" spRight [] := by
  obtain ⟨fd, F⟩ := T.f_law_right
  refine ⟨_, fd, ["_law_source_here"], [], F.ok sc_law_right (fun vs H Q E h => ?_) (fun cdv A outer s H vs Q E hr h => ⟨_, PSs.nox (pss_cons (ps_par (i := 1) (j := 2) rfl sc_law_right.nd rfl rfl (by decide) rfl rfl (pa_cons (pe_c (cal_law_chain T) hr (by decide) rfl (pa_cons (pv 0) (pa_cons (pe_op op_add pe_int (pe_c (cal_law_draw T) hr (by decide) rfl (pa_cons (pv 0) (pa_cons pe_int pa_nil)))) (pa_cons pe_int (pa_cons pe_int pa_nil))))) (pa_cons (pe_c (cal_law_rule T) hr (by decide) rfl (pa_cons (pv 0) pa_nil)) pa_nil)) (by rfl))
      (pss_cons (ps_par3 (i := 3) (j := 4) (l := 5) rfl sc_law_right.nd rfl rfl rfl (by decide) (by decide) (by decide) rfl rfl rfl (pa_cons (pe_tup (pa_cons (pv 1) (pa_cons (pe_c (cal_law_direct T) hr (by decide) rfl (pa_cons (pv 1) (pa_cons (pv 2) pa_nil))) pa_nil))) (pa_cons pe_dnewK (pa_cons (pe_lst pa_nil) pa_nil))) (by rfl))
      (pss_cons (ps_set (i := 6) sc_law_right.nd rfl (Or.inl rfl) (pe_mk (mak_Bench T) hr (by decide) rfl (pa_cons (pv 1) (pa_cons (pv 2) pa_nil))))
      (pss_cons (ps_for PassesOwn.never rfl (pi_range1 (by rfl) T.b_range (pa_cons pe_int pa_nil)) (pg_name (i := 7) sc_law_right.nd rfl (Or.inl rfl)) (pss_cons (ps_set (i := 8) sc_law_right.nd rfl (Or.inl rfl) (pe_c (cal_law_call T) hr (by decide) rfl (pa_cons (pv 0) (pa_cons (pv 4) (pa_cons (pe_ix ix_tup (pe_ix ix_tup (pe_ix ix_tup (pv 3) pe_int (fun _ _ => rfl)) pe_int (fun _ _ => rfl)) pe_int (fun _ _ => rfl)) pa_nil)))))
      (pss_cons (ps_set (i := 9) sc_law_right.nd rfl (Or.inl rfl) (pe_c (cal_law_outcome T) hr (by decide) rfl (pa_cons (pv 4) (pa_cons (pv 3) (pa_cons (pv 8) pa_nil)))))
      (pss_cons (ps_if (pt_cmpR (op_notInT (by exact hu65 hr)) (pv 9) (pe_tup (pa_cons pe_str (pa_cons pe_str pa_nil))) (by rfl)) (pss_cons (ps_expr (pe_c (cal_law_done T) hr (by decide) rfl (pa_cons (pv 6) (pa_cons (pv 8) pa_nil))))
      (pss_cons (ps_expr (pe_bm PySem.F.plainAttrs_list PySem.F.slot_list_append PySem.F.type_list_append mt_append (pv 5) (pa_cons (pv 8) pa_nil)))
      (pss_cons (ps_if (pt_cmpR (op_neD (by exact hr.units)) (pe_ix ix_tup (pv 9) pe_int (fun _ _ => rfl)) (pe_ix ix_tup (pv 9) pe_int (fun _ _ => rfl)) (nomark _)) (pss_one (ps_ret (pe_c (cal_law_split_right T) hr (by decide) rfl (pa_cons (pv 6) (pa_cons (pv 4) (pa_cons (pv 3) (pa_cons (pv 5) pa_nil))))))) pss_nil)
      (pss_one (ps_dput (by exact hu_of hr) (pv 4) (pe_ix ix_tup (pv 8) pe_int (fun _ _ => rfl)) (pv 9) rfl))))) pss_nil)
      (pss_one (ps_if (PW.pt (pw_or (pt_cmpR op_notN (pe_mt0 (met_Bench_first_split T) hr (by decide) (pv 6)) pe_non (nomark _)) (pw_or1 (pt_cmpR (op_neD (by exact hr.units)) (pe_mt0 (met_Bench_differing T) hr (by decide) (pv 6)) (pe_tup pa_nil) (nomark _))))) (pss_one (ps_ret pe_bl)) pss_nil))))))
      (pss_one (ps_ret pe_bl)))))), ?_⟩), T.g_law_right, F.kp, F.bindsN (ps := ["_law_source_here"]) fun _ _ _ _ _ _ us hl => match us, hl with | [_], _ => rfl, .nil⟩
  · obtain ⟨a, rfl, _⟩ := h
    rfl
  obtain ⟨a, rfl, ha, q⟩ := h
  -- the chain, the rule
  refine ⟨.ref a, rfl, ?_⟩
  refine ⟨.ref a, rfl, a, 0, 5, rfl, ha, by decide, by decide, by decide, fun d5 H1 d0 d6 x1 s1 => ?_⟩
  refine ⟨1, d5, rfl, rfl, ?_⟩
  refine ⟨a, 1, 1 + d5, rfl, s1, by decide, by omega, by omega, fun c v1 H2 lawc x2 s2 d2 => ?_⟩
  refine ⟨.ref a, rfl, a, 21, rfl, s2, by decide, fun r H3 x3 s3 => ?_⟩
  refine ⟨v1, .str (rs r), rfl, ?_⟩
  have x03 := (x1.trans x2).trans x3
  have d3 : Dp K H3 v1 (chD c) := dp_tx (src_tx s2 x3) _ _ (fz_ch c) d2
  have okc : ChOk c := ⟨lawc.pos, by have := lawc.le; omega, fun s hs => by have := lawc.ok s hs; omega⟩
  have mwc : minW c = 1 + d5 := by
    obtain ⟨s, hs, e⟩ := lawc.has
    have l1 := minW_le (c := c) (y := s.1) (List.mem_map.mpr ⟨s, hs, rfl⟩)
    have l2 := minW_mem (c := c) (by intro e; rw [e] at hs; cases hs)
    obtain ⟨s', hs', e'⟩ := List.mem_map.mp l2
    have := (lawc.ok s' hs').1
    omega
  have h11 : ∀ s ∈ c, s.1 ≤ 11 := fun s hs => by have := lawc.ok s hs; omega
  -- plan, held, calls
  have E3 : EnvR K H3 (((start ["_law_source_here", "_law_chain_here_here", "_law_rule_here", "_law_plan", "_law_held", "_law_calls", "_law_bench", "_law_turn", "_law_call_here", "_law_both"] [.ref a]).set 1 (some v1)).set 2 (some (.str (rs r)))) [none, some (chD c), some (.str (rs r)), none, none, none, none, none, none, none] :=
    envr_x (envr_c d3 (envr_c (.str _) (envr_x (envr_x (envr_x (envr_x (envr_x (envr_x (envr_x envr_nil)))))))))
  have PL : XE K (tTup (tCons (tVar 1) (tCons (tCall (spP K R_law_direct) [] C8.E0 (tCons (tVar 1) (tCons (tVar 2) tNil))) tNil))) [none, some (chD c), some (.str (rs r)), none, none, none, none, none, none, none] (planD c [(minW c, r)]) :=
    xe_tup (xa_cons (xe_var rfl) (xa_cons (xe_call (xa_cons (xe_var rfl) (xa_cons (xe_var rfl) xa_nil)) (R_law_direct.mk okc)) xa_nil)) (by show 2 ≤ 1000; decide)
  rw [mwc] at PL
  refine vs_par3N (ve_x PL E3) fun vp H4 hl lc e4 d4 hhl hlc => ?_
  have f1 := Evl.Ex.new (o := .dK []) hhl
  have f2 := f1.trans (Evl.Ex.new (o := .lst []) hlc)
  have hl5 : (upd (upd H4 hl (.dK [])) lc (.lst [])) hl = some (.dK []) := by
    have h1 : (upd H4 hl (.dK [])) hl = some (.dK []) := upd_same
    exact Evl.Ex.new (o := .lst []) hlc _ _ h1
  have lc5 : (upd (upd H4 hl (.dK [])) lc (.lst [])) lc = some (.lst []) := upd_same
  have e35 := e4.trans f2
  have x05 := x03.ex e35
  have s5 := s3.ex e35
  have d5' := dp_ex e35 _ _ d3
  have dp5 := dp_ex f2 _ _ d4
  have hlH : H hl = none := by
    have h1 := Evl.fresh_back e4 hhl
    exact exs_none x03 (fun b hb => by cases List.mem_singleton.mp hb; obtain ⟨ys, hy⟩ := s3.lst; rw [hy]; simp) h1
  have lcH : H lc = none := by
    have h1 := Evl.fresh_back (e4.trans f1) hlc
    exact exs_none x03 (fun b hb => by cases List.mem_singleton.mp hb; obtain ⟨ys, hy⟩ := s3.lst; rw [hy]; simp) h1
  generalize upd (upd H4 hl (.dK [])) lc (.lst []) = H5 at *
  -- the bench
  refine ⟨v1, rfl, .str (rs r), rfl, fun p dx hp hdx hne => ?_⟩
  refine ⟨p, dx, v1, c, r, fun f => H5 f ≠ none, rfl, upd_same, dp_ex ((Evl.Ex.new hdx).trans (Evl.Ex.new (by rw [upd_ne hne.symm]; exact hp))) _ _ d5', okc, fun f hf => nn_upd (nn_upd hf), fun H6 A hA x6 B6 n1 n2 n3 n4 => ⟨rfl, ?_⟩⟩
  subst hA
  have e56 : Ex H5 H6 := fun f o hf => by
    have n1 : f ≠ A.p := fun z => by rw [z, hp] at hf; cases hf
    have n2 : f ≠ dx := fun z => by rw [z, hdx] at hf; cases hf
    exact x6 f o (by simpa using n1) (by rw [upd_ne n1, upd_ne n2]; exact hf)
  have nn5 : ∀ {b : Addr}, (upd (upd H5 dx (.own A.p)) A.p (.ins (He.ga K "Bench") dx [])) b = none → H5 b = none := fun {b} h => by
    cases hb : H5 b with
    | none => rfl
    | some o => exact absurd h (nn_upd (nn_upd (by rw [hb]; intro z; cases z)))
  have LA0 : LoopAt K H H6 (fun f => H5 f ≠ none) a hl lc vp A c r (1 + d5) 0 30 { ch := c, r := r, held := [], made := [], splits := [], prev := none, F := fun f => H5 f ≠ none } := by
    refine ⟨B6, ⟨rfl, rfl, mwc, by omega, by omega, okc, h11, rfl, (fun z x h => nomatch h), List.nodup_nil, (fun z h => nomatch h), (fun d h => nomatch h)⟩, ⟨[], e56 _ _ hl5, rfl, .nil⟩, dp_ex e56 _ _ dp5, ⟨[], e56 _ _ lc5, .nil⟩, (s5.ex e56).mono (by decide), x05.ex e56, Nat.le_refl _, Nat.le_refl _, rfl, ?_, ?_, ?_, ?_, ?_, ?_⟩
    · intro z
      obtain ⟨y1, y2, y3, hy, _⟩ := s5
      rw [z, hy] at lc5
      cases lc5
    · obtain ⟨ys, hy⟩ := s5.lst
      show H5 a ≠ none
      rw [hy]; intro z; cases z
    · show H5 hl ≠ none
      rw [hl5]; intro z; cases z
    · show H5 lc ≠ none
      rw [lc5]; intro z; cases z
    · intro b hb
      show ¬ H5 b ≠ none
      simp only [List.mem_cons, List.not_mem_nil, or_false] at hb
      rcases hb with rfl | rfl | rfl | rfl | rfl
      · exact fun z => z hp
      · exact fun z => z (nn5 n1)
      · exact fun z => z (nn5 n2)
      · exact fun z => z (nn5 n3)
      · exact fun z => z (nn5 n4)
    · intro f hf
      show H5 f ≠ none
      by_cases hfa : f = a
      · subst hfa
        obtain ⟨ys, hy⟩ := s5.lst
        rw [hy]; intro z; cases z
      · cases hh : H f with
        | none => exact absurd hh hf
        | some o => rw [x05 f o (by simpa using hfa) hh]; intro z; cases z
  clear x6 nn5 e56 B6 n1 n2 n3 n4 s5 dp5 hl5 lc5 x05 e35
  have w1 : 1 ≤ 1 + d5 := by omega
  have w5 : 1 + d5 ≤ 5 := by omega
  generalize 1 + d5 = w at *
  generalize (fun f => H5 f ≠ none) = F at LA0
  generalize ({ ch := c, r := r, held := [], made := [], splits := [], prev := none, F := F } : BS) = S0 at LA0
  -- the loop
  refine ⟨40, rfl, by decide, by decide, ?_⟩
  refine for_it walk_range (fun i σ' H' => ∃ x7 x8 x9 S, σ' = [some (.ref a), some v1, some (.str (rs r)), some vp, some (.ref hl), some (.ref lc), some (.ref A.p), x7, x8, x9] ∧ LoopAt K H H' F a hl lc vp A c r w i (30 + 6 * i) S) ⟨none, none, none, S0, rfl, LA0⟩ (fun _ _ _ _ _ => trivial) ?_ ?_
  · rintro i x σ' H7 H8 hi ⟨x7, x8, x9, S, rfl, LA⟩ ⟨hH, rfl⟩
    subst hH
    have hi' : i < 40 := hi
    -- call
    refine ⟨.ref a, rfl, .ref hl, rfl, LA.plan rfl _ (Evl.Ex.refl _) _ fun vw H9 e9 dw => ?_⟩
    cases dp_int dw
    have LA9 := LA.ex e9
    refine ⟨a, hl, 30 + 6 * i, S.held, w, rfl, LA9.src, by omega, LA9.hh, by have := LA.hz; omega, w1, w5, fun cl vc H10 okcl x10 s10 d10 => ?_⟩
    have LA10 := LA9.bySrc x10 s10
    -- outcome
    obtain ⟨o, ho⟩ := out_of LA10.L okcl
    have okd : ChOk [(w, r)] := one_ok ⟨w1, by omega⟩
    have OV : VE K (tCall (spOut K) [] C8.E0 (tCons (tVar 4) (tCons (tVar 3) (tCons (tVar 8) tNil)))) [some (.ref a), some v1, some (.str (rs r)), some vp, some (.ref hl), some (.ref lc), some (.ref A.p), some (.int (0 + (i : Int))), some vc, x9] H10 (outD o) := fun H11 e11 Q q =>
      ⟨.ref hl, rfl, vp, rfl, vc, rfl, hl, S.held, c, [(w, r)], cl, o, vp, vc, rfl, LA10.hh.ex e11, dp_ex e11 _ _ LA10.hp, dp_ex e11 _ _ d10, okc, okd, ho, fun v H12 e12 d12 => q v H12 e12 d12⟩
    refine vs_asg OV fun vo H11 e11 d11 => ?_
    have LA11 := LA10.ex e11
    have dc11 := dp_ex e11 _ _ d10
    -- if both not in (..)
    have NI : ∀ b : Bool, (!([PyData.str "zero", .str "far"].any fun z => PyData.eqv z (outD o))) = b → VT (tTest (tOp (rNotInT K) (tVar 9) (tTup (tCons (tC (.str "zero")) (tCons (tC (.str "far")) tNil))))) [some (.ref a), some v1, some (.str (rs r)), some vp, some (.ref hl), some (.ref lc), some (.ref A.p), some (.int (0 + (i : Int))), some vc, some vo] H11 b := fun b hb =>
      VT.to (vt_test (ve_op (d1 := outD o) (d2 := .tuple [.str "zero", .str "far"]) (ve_var rfl d11) (ve_tup (va_cons ve_str (va_cons ve_str va_nil)) (by show 2 ≤ 1000; decide)) fun x y H Q hx hy q => ⟨outD o, _, hx, hy, shape_out o, by decide +kernel, q _ H (Evl.Ex.refl H) (.bl _)⟩)) hb
    cases o with
    | zero =>
      refine vs_if (NI false rfl) (fun z => nomatch z) fun _ H12 e12 => ?_
      have LA12 := LA11.ex e12
      refine vs_if (LA12.look rfl (by omega)) (fun z => nomatch z) fun _ H13 e13 => ?_
      have LA13 := LA12.ex e13
      exact ⟨_, _, _, S, rfl, { LA13 with src := LA13.src.mono (by omega), ml := by have := LA13.ml; omega, hz := by have := LA13.hz; omega }⟩
    | far =>
      refine vs_if (NI false rfl) (fun z => nomatch z) fun _ H12 e12 => ?_
      have LA12 := LA11.ex e12
      refine vs_if (LA12.look rfl (by omega)) (fun z => nomatch z) fun _ H13 e13 => ?_
      have LA13 := LA12.ex e13
      exact ⟨_, _, _, S, rfl, { LA13 with src := LA13.src.mono (by omega), ml := by have := LA13.ml; omega, hz := by have := LA13.hz; omega }⟩
    | both ra rb =>
      refine vs_if (NI true rfl) (fun _ H12 e12 => ?_) (fun z => nomatch z)
      have LA12 := LA11.ex e12
      obtain ⟨dn, rga, rgb⟩ := done_of LA12.L okcl ho
      have dc12 := dp_ex e12 _ _ dc11
      have do12 := dp_ex e12 _ _ d11
      have ok12 := ok_of LA12 (by omega)
      -- done
      refine ⟨.ref A.p, rfl, vc, rfl, A, S, S.store (callT cl) (ra, rb) (callD cl), cl, vc, rfl, LA12.B, ok12, dc12, dn, fun H13 x13 B13 => ?_⟩
      have t13 := bn_tx4 LA12.B x13
      have nL : ∀ b, F b → b ∉ [A.hd, A.ml, A.sl, A.pl] := fun b hb hm => LA12.nA b (List.mem_cons_of_mem _ hm) hb
      obtain ⟨cvs, lc12, dv12⟩ := LA12.cs
      have lc13 := x13 lc _ (nL lc LA12.Fl) lc12
      have dv13 := dps_tx t13 _ _ (loop_fz LA12.L) dv12
      have dc13 := dp_tx t13 _ _ (fz_call cl) dc12
      have do13 := dp_tx t13 _ _ rfl do12
      have xx13 : Exs [a] H H13 := LA12.xx.news x13 fun b hm => by
        cases hb : H b with
        | none => rfl
        | some o => exact absurd (LA12.F0 b (by rw [hb]; intro z; cases z)) (LA12.nA b (List.mem_cons_of_mem _ hm))
      have s13 := LA12.src.keep x13 (nL a LA12.Fa)
      have hh13 := LA12.hh.keep x13 (nL hl LA12.Fh) t13
      have hp13 := dp_tx t13 _ _ (fz_plan _ _) LA12.hp
      have vlen := dps_len dv12
      -- calls.append(call)
      refine vs_app (P := fun v H2 => vc = v) (vv_var rfl) lc13 (by have := LA12.ml; omega) (fun H14 e14 Q kq => ⟨vc, rfl, kq _ _ (Evl.Ex.refl _) rfl⟩) fun v H14 e14 hv => ?_
      subst hv
      have lc14 := e14 _ _ lc13
      have t14 : Tx H13 (upd H14 lc (.lst (cvs ++ [vc]))) := (Tx.of_ex e14).trans (Tx.lst lc14)
      have x14 : Exs [lc] H13 (upd H14 lc (.lst (cvs ++ [vc]))) := (Exs.of e14).upd (by simp)
      have fzS : FzAll (S.store (callT cl) (ra, rb) (callD cl)).made = true := by
        show FzAll (S.made ++ [callD cl]) = true
        exact fz_app (loop_fz LA12.L) (by show (Fz (callD cl) && true) = true; rw [fz_call]; rfl)
      have eF : S.F = F := LA12.eF
      have B14 : Bn K (upd H14 lc (.lst (cvs ++ [vc]))) A (S.store (callT cl) (ra, rb) (callD cl)) := B13.keep x14 (fun b hb => by
        cases List.mem_singleton.mp hb
        show S.F lc
        rw [eF]
        exact LA12.Fl) (fun b hb => by
        show ¬ S.F b
        rw [eF]
        exact LA12.nA b hb) t14 fzS (fun b hb => by
        cases List.mem_singleton.mp hb
        rw [upd_same]
        intro z
        cases z)
      have lc15 : (upd H14 lc (.lst (cvs ++ [vc]))) lc = some (.lst (cvs ++ [vc])) := upd_same
      have dv15 : DpAll K (upd H14 lc (.lst (cvs ++ [vc]))) (cvs ++ [vc]) (S.made ++ [callD cl]) := dps_app (dps_tx t14 _ _ (loop_fz LA12.L) dv13) (.cons (dp_tx t14 _ _ (fz_call cl) dc13) .nil)
      have dc15 := dp_tx t14 _ _ (fz_call cl) dc13
      have do15 := dp_tx t14 _ _ rfl do13
      have hp15 := dp_tx t14 _ _ (fz_plan _ _) hp13
      have lcH' : H lc = none := lcH
      have xx15 : Exs [a] H (upd H14 lc (.lst (cvs ++ [vc]))) := xx13.news x14 fun b hb => by
        cases List.mem_singleton.mp hb
        exact lcH
      have s15 := s13.keep x14 (by simpa using LA12.la.symm)
      have hl_lc : hl ≠ lc := by
        obtain ⟨kvs, k1, _⟩ := hh13
        exact ne_kind k1 lc13 (by intro z; cases z)
      have hh15 := hh13.keep x14 (by simpa using hl_lc) t14
      generalize upd H14 lc (.lst (cvs ++ [vc])) = H15 at *
      have XO : ∀ {H3 : Hp} {σ : L2.St} (k : Nat) (z : PyData), σ[9]? = some (some vo) → Dp K H3 vo (bothD (ra, rb)) → [numD ra, numD rb][k]? = some z → VE K (tOp (rIxT K) (tVar 9) (tC (.int k))) σ H3 z := fun k z hs hd hz =>
        ve_ixT (n := (k : Nat)) (ds := [numD ra, numD rb]) (ve_var hs hd) ve_int (by omega) hz
      have TT : VT (tTest (tOp (rNeD K) (tOp (rIxT K) (tVar 9) (tC (.int 0))) (tOp (rIxT K) (tVar 9) (tC (.int 1))))) [some (.ref a), some v1, some (.str (rs r)), some vp, some (.ref hl), some (.ref lc), some (.ref A.p), some (.int (0 + (i : Int))), some vc, some vo] H15 (!decide (ra = rb)) := by
        have := vt_test (ve_neD (XO 0 (σ := [some (.ref a), some v1, some (.str (rs r)), some vp, some (.ref hl), some (.ref lc), some (.ref A.p), some (.int (0 + (i : Int))), some vc, some vo]) _ rfl do15 rfl) (XO 1 _ rfl do15 rfl) rfl rfl)
        rw [eqv_num] at this
        exact this
      have sh := loop_shape LA12.L okcl
      refine vs_if TT (fun hne H16 e16 => ?_) fun heq H16 e16 => ?_
      · -- the split
        have hab : ra ≠ rb := by simpa using hne
        refine ⟨.ref A.p, rfl, .ref hl, rfl, vp, rfl, .ref lc, rfl, ?_⟩
        have eh : S.ch = c := LA12.L.ch
        have er : S.r = r := LA12.L.r
        have em : minW S.ch = w := by rw [eh]; exact LA12.L.mw
        refine ⟨A, S, S.store (callT cl) (ra, rb) (callD cl), cl, hl, lc, vp, callT cl, ra, rb, cvs ++ [vc], S.made.length, rfl, ?_, fun H17 fr => ?_⟩
        · refine ⟨B14.ex e16, ?_, hh15.ex e16, ?_, e16 _ _ lc15, dps_ex e16 _ _ dv15, dn, rfl, rfl, ?_, hab, ?_, LA12.L.sp, rfl, loop_same LA12.L, LA12.L.nd, by have := LA12.ml; omega, by have := LA12.hz; omega, by rw [eh]; exact okc, sh.1, sh.2.1, sh.2.2, ?_, ?_, ?_⟩
          · refine ⟨by show ChOk S.ch; rw [eh]; exact okc, ?_, ?_, fzS, ?_⟩
            · show (S.splits ++ [!decide (ra = rb)]).length = (S.made ++ [callD cl]).length
              rw [LA12.L.sp]
              simp
            · show (S.made ++ [callD cl]).length ≤ 90
              have := LA12.ml
              rw [List.length_append]
              show S.made.length + 1 ≤ 90
              omega
            · have l1 := len_put S.held (callT cl) (ra, rb)
              have := LA12.hz
              show (putR S.held (callT cl) (ra, rb)).length ≤ 50
              omega
          · rw [em, eh, er]
            exact dp_ex e16 _ _ hp15
          · have : NameT (callT cl) := by cases cl <;> exact okcl.1
            exact name_ok this
          · rw [em, eh, er]
            exact ho
          · exact fun hm => LA12.nA lc hm LA12.Fl
          · rw [em]
            exact one_rep w1
          · rw [eF]
            exact LA12.nA
        · refine q H17 fun f o nf hf => ?_
          exact fr f o (by rw [eF]; exact LA12.F0 f (by rw [hf]; intro z; cases z)) (e16 _ _ (xx15 f o nf hf))
      · -- the same
        have hab : ra = rb := by simpa using heq
        subst hab
        obtain ⟨kvs, k1, k2⟩ := hh15.ex e16
        have cd : ∃ (wd : Str) (rest : List PyData), callD cl = .tuple (.str wd :: .str (callT cl) :: rest) := by
          cases cl with
          | load t x => exact ⟨"load", [numD x], rfl⟩
          | root t x => exact ⟨"root", [.str x], rfl⟩
          | bin m t x y => exact ⟨ms m, [.str x, .str y], rfl⟩
        obtain ⟨wd, rest, cd⟩ := cd
        have do16 := dp_ex e16 _ _ do15
        have dc16 := dp_ex e16 _ _ dc15
        refine ⟨vo, rfl, .ref hl, rfl, ?_⟩
        refine ve_ixT (K := K) (σ := [some (.ref a), some v1, some (.str (rs r)), some vp, some (.ref hl), some (.ref lc), some (.ref A.p), some (.int (0 + (i : Int))), some vc, some vo]) (n := 1) (d := .str (callT cl)) (ds := .str wd :: .str (callT cl) :: rest) (ve_var rfl (cd ▸ dc16)) ve_int (by decide) rfl H16 (Evl.Ex.refl _) _ fun vt H17 e17 dt => ?_
        cases dp_str dt
        refine ⟨hl, _, rfl, .k (k := .inr (callT cl)) (v := vo) (e17 _ _ k1) (Nat.lt_of_le_of_lt (show kvs.length ≤ 100 by have := k2.len; have := LA12.hz; omega) (by decide)), ?_⟩
        have k17 := e17 _ _ k1
        have e1517 := e16.trans e17
        have t17 : Tx H15 (upd H17 hl (.dK (putK kvs (.inr (callT cl)) vo))) := (Tx.of_ex e1517).trans (Tx.dK k17)
        have x17 : Exs [hl] H15 (upd H17 hl (.dK (putK kvs (.inr (callT cl)) vo))) := (Exs.of e1517).upd (by simp)
        have LAn : LoopAt K H (upd H17 hl (.dK (putK kvs (.inr (callT cl)) vo))) F a hl lc vp A c r w (i + 1) (30 + 6 * (i + 1)) (S.store (callT cl) (ra, ra) (callD cl)) := by
          refine ⟨B14.keep x17 (fun b hb => by
              cases List.mem_singleton.mp hb
              show S.F hl
              rw [eF]
              exact LA12.Fh) (fun b hb => by
              show ¬ S.F b
              rw [eF]
              exact LA12.nA b hb) t17 fzS (fun b hb => by
              cases List.mem_singleton.mp hb
              rw [upd_same]
              intro z
              cases z), loop_next LA12.L okcl rga, ⟨_, upd_same, ?_⟩, dp_tx t17 _ _ (fz_plan _ _) hp15, ⟨cvs ++ [vc], x17 lc _ (by simpa using hl_lc.symm) lc15, dps_tx t17 _ _ fzS dv15⟩, ?_, ?_, ?_, ?_, eF, LA12.la, LA12.Fa, LA12.Fh, LA12.Fl, LA12.nA, LA12.F0⟩
          · have k2' := k2.tx ((Tx.of_ex e17).trans (Tx.dK (o := .dK (putK kvs (.inr (callT cl)) vo)) k17))
            exact k2'.put (callT cl) (dp_tx t17 _ _ rfl do15)
          · have nha : a ∉ [hl] := by
              obtain ⟨ys, hy⟩ := s15.lst
              obtain ⟨kvs', k1', _⟩ := hh15
              simpa using (ne_kind hy k1' (by intro z; cases z))
            exact (s15.keep x17 nha).mono (by omega)
          · exact xx15.news x17 fun b hb => by
              cases List.mem_singleton.mp hb
              exact hlH
          · show (S.made ++ [callD cl]).length ≤ i + 1
            have := LA12.ml
            rw [List.length_append]
            show S.made.length + 1 ≤ i + 1
            omega
          · have l1 := len_put S.held (callT cl) (ra, ra)
            have := LA12.hz
            show (putR S.held (callT cl) (ra, ra)).length ≤ i + 1
            omega
        refine vs_if (LAn.look (σ := [some (.ref a), some v1, some (.str (rs r)), some vp, some (.ref hl), some (.ref lc), some (.ref A.p), some (.int (0 + (i : Int))), some vc, some vo]) rfl (by omega)) (fun z => nomatch z) fun _ H18 e18 => ?_
        exact ⟨_, _, _, _, rfl, LAn.ex e18⟩
  · rintro σ' H7 ⟨x7, x8, x9, S, rfl, LA⟩
    exact q H7 LA.xx
end
end SR
end
section
set_option Elab.async false
set_option linter.all false
set_option maxRecDepth 100000
set_option maxHeartbeats 1000000
/-! The law. -/
namespace SR
open PySem PySem.Spec PyProof.Rows L2
open Evl (Ex)
open C8 (Cal Met Mak pe_c pe_mt pe_mt0 pe_mk pe_gc)
theorem xi_rng {K : PySem.W.Frag} {ρ : Rho} {tr : TA} {j : Int} (h : XA K tr ρ [.int j]) (h1 : -(2 ^ 62) ≤ j) (h2 : j < 2 ^ 62) : XI K (iRng1 tr) ρ (upD 0 1 j.toNat) := fun σ H R E q => h σ H E _ fun vs H1 e1 hvs => by
  obtain ⟨v1, rfl, hv1⟩ := dps1 hvs
  rw [dp_int hv1]
  have e : (upD 0 1 j.toNat).length = j.toNat := by unfold upD; simp
  have wk : Walk (Itr 0 j.toNat) (upD 0 1 j.toNat).length (fun _ => True) (YFn fun k => .int (0 + (k : Nat))) := by
    rw [e]
    exact walk_range
  refine ⟨j, rfl, h1, h2, q _ H1 _ _ e1 wk (fun _ _ => trivial) fun k H2 x H3 hk e2 y => ?_⟩
  obtain ⟨rfl, rfl⟩ := y
  rw [e] at hk
  refine ⟨Evl.Ex.refl _, _, upD_get hk, ?_⟩
  rw [Int.mul_one]
  exact .int _
def spLaw (K : PySem.W.Frag) : Sp := fun vs H Q _ => ∃ (l : Addr) (ns : List Int), vs = [.ref l] ∧ SqL K H l (ns.map V.int) ∧ ∀ H', Q (.bl true) H'
section
variable {P : Program} {w : World} {K : PySem.W.Frag} {mg : Str → Option Value} {base : Heap}
theorem sc_law : FnScope ["_law_script", "_law_k"] ["_law_script"] (defScope slaw) := ⟨rfl, rfl, rfl, by decide +kernel, rfl, by decide +kernel, by decide +kernel⟩
theorem ok_law (T : Top w K mg) {fd : FuncData} (F : FunD K "law" "law" (defArgs slaw) (defBody slaw) (defScope slaw) [] [] (He.ga K "law") fd) : FnOk P w K mg base C8.CX0 14 (He.ga K "law") fd ["_law_script"] (spLaw K) := by
  refine F.ok sc_law (fun vs H Q E h => ?_) (fun cdv A outer s H vs Q E hr h => ⟨_, PSs.nox (pss_one (ps_ret (pe_callB (cr_all rfl) (by rfl) T.b_all (by decide +kernel) (pa_cons (pe_lc (own := [("_law_k", 1)]) (tt := tYes) rfl sc_law.nd (pi_range1 (by rfl) T.b_range (pa_cons (pe_callB (call_max2 rfl) (by rfl) T.b_max (by decide +kernel) (pa_cons pe_int (pa_cons (pe_callB (call_min2 rfl) (by rfl) T.b_min (by decide +kernel) (pa_cons pe_int (pa_cons (pe_callB call_len_seq (by rfl) T.b_len (by decide +kernel) (pa_cons (pv 0) pa_nil)) pa_nil))) pa_nil))) pa_nil)) (blkOk_by (N := ["_law_script", "_law_k"]) (sc := defScope slaw) (by decide +kernel)) (fun _ _ _ _ _ => (pg_name (i := 1) sc_law.nd rfl (Or.inl rfl) (Or.inr rfl))) (fun _ _ _ _ _ => pts_nil) (fun _ _ _ _ _ => (pe_c (cal_law_right T) hr (by decide) rfl (pa_cons (pe_c (cal_law_source T) hr (by decide) rfl (pa_cons (pv 0) (pa_cons (pv 1) pa_nil))) pa_nil)))) pa_nil)))), ?_⟩)
  · obtain ⟨l, ns, rfl, _⟩ := h
    rfl
  obtain ⟨l, ns, rfl, hs, q⟩ := h
  have E0 : EnvR K H (start ["_law_script", "_law_k"] [.ref l]) [some (.list (ns.map .int)), none] := envr_c (.lst hs (dps_ofInts ns)) (envr_x envr_nil)
  have hn : 1 ≤ max 1 (min 2 (((ns.map PyData.int).length : Nat) : Int)) ∧ max 1 (min 2 (((ns.map PyData.int).length : Nat) : Int)) ≤ 2 := by omega
  have RG : XI K (iRng1 (tCons (tCB (fun xs H Q => ∃ i j, xs = [V.int i, V.int j] ∧ Q (.int (if j > i then j else i)) H) (tCons (tC (.int 1)) (tCons (tCB (fun xs H Q => ∃ i j, xs = [V.int i, V.int j] ∧ Q (.int (if j < i then j else i)) H) (tCons (tC (.int 2)) (tCons (tCB (fun xs H Q => ∃ p ys, xs = [V.ref p] ∧ (SqL K H p ys ∨ SqT K H p ys) ∧ Q (.int ys.length) H) (tCons (tVar 0) tNil)) tNil))) tNil))) tNil)) [some (.list (ns.map .int)), none]
      (upD 0 1 (max 1 (min 2 (((ns.map PyData.int).length : Nat) : Int))).toNat) :=
    xi_rng (xa_cons (xe_max2 xe_int (xe_min2 xe_int (xe_lenL (xe_var rfl)))) xa_nil) (by omega) (by omega)
  generalize max 1 (min 2 (((ns.map PyData.int).length : Nat) : Int)) = N at *
  have eN : (upD 0 1 N.toNat).length = N.toNat := by unfold upD; simp
  refine vs_ret (ve_x (xe_all (bs := List.replicate N.toNat true) (xe_lc (es := (List.replicate N.toNat true).map .bool) RG (by rw [eN]; simp) (fun i d_ b_ h_ k_ => ?_) (fz_all fun d hd => ?_) (by rw [eN]; omega))) E0) fun v H1 e1 d1 => ?_
  · have hi : i < N.toNat := by
      have := (List.getElem?_eq_some_iff.mp h_).1
      rw [eN] at this
      exact this
    rw [upD_get hi] at h_
    cases Option.some.inj h_
    have eb : b_ = .bool true := by
      rw [List.getElem?_map, List.getElem?_replicate, if_pos hi] at k_
      exact (Option.some.inj k_).symm
    subst eb
    refine ⟨_, _, ?_, xg_name, fun σ H E Q q => ?_⟩
    · simp
    · obtain ⟨v0, hv0, hd0⟩ := E.at_ 0 (.list (ns.map .int)) rfl
      obtain ⟨v1, hv1, hd1⟩ := E.at_ 1 (.int (0 + (i : Nat) * 1)) rfl
      obtain ⟨l0, xs, rfl, hs0, hx0⟩ := dp_lst hd0
      rw [dps_ints hx0] at hs0
      cases dp_int hd1
      refine ⟨.ref l0, hv0, .int (0 + (i : Nat) * 1), hv1, l0, ns, _, rfl, hs0, by omega, by omega, fun a H2 ha e2 s2 => ?_⟩
      refine ⟨a, rfl, s2, fun H3 x3 => q _ H3 (fun f o hf => ?_) (.bl true)⟩
      have na : f ≠ a := fun z => by rw [z, ha] at hf; cases hf
      exact x3 f o (by simpa using na) (e2 f o hf)
  · obtain ⟨b, _, rfl⟩ := List.mem_map.mp hd
    rfl
  · have e : (List.replicate N.toNat true).all _root_.id = true := by
      rw [List.all_eq_true]
      intro b hb
      exact List.eq_of_mem_replicate hb
    rw [e] at d1
    cases dp_bool d1
    exact q H1
theorem facts {h : Heap} {f : Addr} (X : K.In h) (G : h.Ns mainGlobals mg) (hfa : mg ("law" : Str) = some (.ref f)) (c : SaysY fa fn tsL exB w K) :
    ∃ fd : FuncData, (∀ (s : Shared) (v : Value), BindsTo s fd ⟨[v], []⟩ [("_law_script", v)]) ∧ ∀ base : Heap, K.In base → base.Ns mainGlobals mg → FnOk P w K mg base C8.CX0 14 f fd ["_law_script"] (spLaw K) := by
  have T : Top w K mg := ⟨c, h, X, G⟩
  obtain ⟨fd, F⟩ := T.flaw
  have e := hfa.symm.trans T.g_law
  cases e
  have b := FunD.bindsA (ps := ["_law_script"]) F fun _ _ _ _ _ _ us hl => match us, hl with | [_], _ => rfl
  exact ⟨fd, fun s v => b s [v] rfl, fun base _ _ => ok_law T F⟩
end
end SR
end
section
set_option Elab.async false
set_option linter.all false
set_option maxRecDepth 100000
set_option maxHeartbeats 0
open PySem PySem.W PySem.Calls PyProof.Rows
theorem PySem.Challenge.cw_stagedrounding_k89_whole_the_first_split_holds : PySem.Challenge.rw_stagedrounding_k89_whole_the_first_split.Holds := by
  w_on; o_law
  refine HandSHeadRun.head_any (r := OpenLaw.row PySem.Challenge.rw_stagedrounding_k89_whole_the_first_split) (q := view (OpenLaw.row PySem.Challenge.rw_stagedrounding_k89_whole_the_first_split).prog [96]) (H := SR.hk) (ob := SR.ob) (M := 7000) (loose := SR.nms) (d := HandSHeadRun.topDef (OpenLaw.row PySem.Challenge.rw_stagedrounding_k89_whole_the_first_split).prog 96) (kwd := []) SR.ob_eq
    (by kernel_rfl) (fun s => by kernel_rfl) SR.run (by kernel_rfl) (by kernel_rfl) (by kernel_rfl) (by rfl) (by first | assumption | decide +kernel) (by decide +kernel) ⟨rfl, rfl, rfl, rfl, rfl, by decide +kernel⟩ ?hw ?hc
  case hw => w_witness2
  case hc =>
    refine L2.walk_ofE (l := PySem.Challenge.rw_stagedrounding_k89_whole_the_first_split) (n := 63) (k := 14) (x := "_law_script") (CX := C8.CX0) rfl (by decide) (by kernel_rfl) ⟨rfl, by decide, by decide⟩ ?F (fun _ _ _ _ z => z)
    intro w mg fa h Y G hmg0
    obtain ⟨K, KX, c⟩ := Y
    have hmg : mg ("law" : PySem.Str) = some (.ref fa) := by
      have e : (HandSHeadRun.topDef (OpenLaw.row PySem.Challenge.rw_stagedrounding_k89_whole_the_first_split).prog 96).name = ("law" : PySem.Str) := by kernel_rfl
      rw [← e]
      exact hmg0
    obtain ⟨fd, hb, hF⟩ := SR.facts (P := (PySem.Challenge.rw_stagedrounding_k89_whole_the_first_split).prog) (w := w) KX G hmg c
    exact ⟨K, fd, SR.spLaw K, KX, hb, fun H a ns hl _ hS => ⟨a, ns, rfl, hS, fun _ => rfl⟩, hF⟩
end
