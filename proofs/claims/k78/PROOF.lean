import PyProof.Rows.All
import Wide.All
import OpenK.AllK
import Wide.FinOn
import PyProof.EqAt
import PyProof.EqKinds
import PyProof.TupleCall
import KE.KStateDown
import KE.KFromBytes
import KE.SortData
import KE.KExcSuper
import KE.DataMinMax
import KE.GoesEnum
import KE.GoesMore
import HandS.Walk
import HandS.ForMost
import HandS.ForExc
import HandS.More
import HandS.Conv
import HandS.Codes
import HandS.Flow
import HandS.Style
import HandS.IsInst
import HandS.Strs
import HandS.SetFor
import HandS.Deep
import HandS.DictComp
import HandS.DictEq
import HandS.TupMul
import HandS.TupAny
import HandS.Defaults
import HandS.MakeKw
import HandS.ExcInit
import HandS.ExcField
import HandS.ExcSuper
import HandS.TryMany
import HandS.RaiseMore
import HandS.Small
import HandS.FStrTup
import HandS.SortOrd
import HandS.SortInts
import HandS.Zip
import HandS.NoneIn
import HandS.Rev
import HandS.Keys
import HandS.Wide
import HandS.Head0
import HandS.Head1
import HandS.Head2
import HandS.HeadEnd
import HandS.HeadHook1
import HandS.HeadHook2
import HandS.HeadHook3
import HandS.HeadHook4
import HandS.HeadWalk
import PySem.Challenge.RW_sharedunseen_k78_whole_what_may_be_given
set_option Elab.async false
set_option linter.all false
set_option maxRecDepth 100000
set_option maxHeartbeats 4000000
namespace G78
open PySem PySem.Spec PyProof.Rows L2
abbrev prg : Program := PySem.Challenge.pw_sharedunseen_k78_whole_what_may_be_given
def top (i : Nat) : Stmt := PySem.Challenge.pw_sharedunseen_k78_whole_what_may_be_given.main.body.getD i (.Pass ⟨0, 0, 0, 0⟩)
abbrev st_is_integer : Stmt := top 10
abbrev st_is_number : Stmt := top 11
abbrev st_is_below : Stmt := top 12
abbrev st_is_letter : Stmt := top 13
abbrev st_is_name : Stmt := top 14
abbrev st_is_row : Stmt := top 15
abbrev st_is_listing : Stmt := top 16
abbrev st_ends_clash : Stmt := top 20
abbrev st_is_told_otherwise : Stmt := top 21
abbrev st_answers_clash : Stmt := top 22
abbrev st_kinds_at : Stmt := top 23
abbrev st_clash_anywhere : Stmt := top 24
abbrev st_check_state : Stmt := top 26
abbrev st_need_office : Stmt := top 27
abbrev st_need_offices : Stmt := top 28
abbrev st_operations_of : Stmt := top 29
abbrev st_distances : Stmt := top 30
abbrev st_reachable : Stmt := top 31
abbrev st_all_offices : Stmt := top 33
abbrev st_other_offices : Stmt := top 34
abbrev st_reach_tables : Stmt := top 35
abbrev st_joint_homes : Stmt := top 36
abbrev st_lasting_states : Stmt := top 37
abbrev st_of_others : Stmt := top 39
abbrev st_is_operation : Stmt := top 45
abbrev st_check_offices : Stmt := top 46
abbrev st_Store___init__ : Stmt := inClass (top 47) 0
abbrev st_Store_office_of : Stmt := inClass (top 47) 3
abbrev st_may_be_given : Stmt := top 49
abbrev st_carried_home : Stmt := top 50
abbrev st_openings : Stmt := top 51
abbrev st_given_goals : Stmt := top 52
abbrev st_count_given : Stmt := top 53
abbrev st_given_ends : Stmt := top 54
abbrev st_number_of_given : Stmt := top 55
abbrev st__law_box : Stmt := top 57
abbrev st__law_take : Stmt := top 58
abbrev st__law_pick : Stmt := top 59
abbrev st__law_names : Stmt := top 60
abbrev st__law_drawn : Stmt := top 61
abbrev st__law_renumbered : Stmt := top 62
abbrev st__law_table : Stmt := top 63
abbrev st__law_steps : Stmt := top 64
abbrev st__law_sizes : Stmt := top 65
abbrev st__law_around : Stmt := top 66
abbrev st__law_reach : Stmt := top 67
abbrev st__law_others : Stmt := top 68
abbrev st__law_bases : Stmt := top 69
abbrev st__law_fits : Stmt := top 70
abbrev st__law_extended : Stmt := top 71
abbrev st__law_some : Stmt := top 72
abbrev st__law_all_ends : Stmt := top 73
abbrev st__law_refused : Stmt := top 74
abbrev st__law_numbers_right : Stmt := top 75
abbrev st__law_all_right : Stmt := top 76
abbrev st__law_operations_right : Stmt := top 77
abbrev st_law : Stmt := top 78
/-! ### the exceptions of the text, looked at -/
abbrev st_InvalidNumber : Stmt := inClass (top 4) 0
abbrev st_Refused : Stmt := inClass (top 5) 0
abbrev XtO : Type := Option (Str × Str × Arguments × FuncBody × Scope × Addr × Addr)
def xtO (K : PySem.W.Frag) (cn : Str) : XtO := match K.lookup (He.ma K (He.ga K cn) "__init__") with
  | some ⟨_, _, .func fd, _⟩ => some (fd.name, fd.qualname, fd.params, fd.body, fd.scope, fd.globals, fd.builtins)
  | _ => none
def xtV (qual : Str) (st : Stmt) : XtO := some ("__init__", qual, defArgs st, .stmts (defBody st), defScope st, mainGlobals, builtinsNs)
def cellB (K : PySem.W.Frag) (cc C : Addr) : Bool := match K.lookup cc with
  | some ⟨_, _, .cell (some (.ref D)), _⟩ => decide (D = C)
  | _ => false
def codeB (K : PySem.W.Frag) (ca : Addr) : Bool := match K.lookup ca with
  | some ⟨_, _, .fields vs, _⟩ => (match vs[2]? with
    | some (Value.str file _) => (prg.main.file : Str) == file
    | _ => false)
  | _ => false
def xtF (K : PySem.W.Frag) (cn qual : Str) : Bool := match K.lookup (He.ma K (He.ga K cn) "__init__") with
  | some ⟨_, _, .func fd, _⟩ => (match fd.closure, fd.defaults, fd.kwdefaults, fd.code with
    | [(x, cc)], .none, .none, .ref ca => decide (x = "__class__") && (PySem.W.codeIn K (.ref ca) qual && (cellB K cc (He.ga K cn) && codeB K ca))
    | _, _, _, _ => false)
  | _ => false
def xtC (K : PySem.W.Frag) (C : Addr) : Bool := match K.lookup C with
  | some ⟨.type "type", _, .cls cd, sl⟩ => (match cd.mro, sl.toList with
    | .ref C' :: bm, [_, _, _, _, some (.builtin n), _] => decide (C' = C) && (decide (n = "ValueError.__new__") && (!cd.hasDel && (cd.hasDict && (HandSPX.refsVE bm && He.eqO (PySem.W.alongIn K "__init__" (((Value.ref C :: bm).dropWhile (· != .ref C)).drop 1)) (some (some (.builtin "ValueError.__init__")))))))
    | _, _ => false)
  | _ => false
def xtB (K : PySem.W.Frag) (cn qual : Str) : Bool :=
  xtF K cn qual && (xtC K (He.ga K cn) && (He.eqO (PySem.W.findIn K (.ref (He.ga K cn)) "__setattr__") (some (some (.builtin "object.__setattr__"))) && (xfB K (He.ga K cn) &&
  (He.eqO (PySem.W.findIn K (.ref (He.ga K cn)) "word") (some none) && (He.eqO (PySem.W.findIn K (.ref (He.ga K cn)) "__init__") (some (some (.ref (He.ma K (He.ga K cn) "__init__")))) &&
  (decide (PySem.W.typeIn K (.ref (He.ma K (He.ga K cn) "__init__")) = some (.type "function")) && (PySem.W.keepIn K (.ref (He.ga K cn)) && (decide (PySem.W.subIn K (.ref (He.ga K cn)) (.type "ValueError") = some true) &&
  (decide (PySem.W.typeIn K (.ref (He.ga K cn)) = some (.type "type")) && (decide (PySem.W.mroIn K (He.ga K cn) (.ref (He.ga K cn)) = some true) && He.eqO (PySem.W.nsIn K cStatics "thirdparty.any") (some none)))))))))))

def hd_is_integer : He.DefD := ⟨("is_integer", none), "is_integer", "is_integer", defArgs st_is_integer, defBody st_is_integer, defScope st_is_integer, [], []⟩
def hd_is_number : He.DefD := ⟨("is_number", none), "is_number", "is_number", defArgs st_is_number, defBody st_is_number, defScope st_is_number, [], []⟩
def hd_is_below : He.DefD := ⟨("is_below", none), "is_below", "is_below", defArgs st_is_below, defBody st_is_below, defScope st_is_below, [], []⟩
def hd_is_letter : He.DefD := ⟨("is_letter", none), "is_letter", "is_letter", defArgs st_is_letter, defBody st_is_letter, defScope st_is_letter, [], []⟩
def hd_is_name : He.DefD := ⟨("is_name", none), "is_name", "is_name", defArgs st_is_name, defBody st_is_name, defScope st_is_name, [], []⟩
def hd_is_row : He.DefD := ⟨("is_row", none), "is_row", "is_row", defArgs st_is_row, defBody st_is_row, defScope st_is_row, [], []⟩
def hd_is_listing : He.DefD := ⟨("is_listing", none), "is_listing", "is_listing", defArgs st_is_listing, defBody st_is_listing, defScope st_is_listing, [], []⟩
def hd_ends_clash : He.DefD := ⟨("ends_clash", none), "ends_clash", "ends_clash", defArgs st_ends_clash, defBody st_ends_clash, defScope st_ends_clash, [], []⟩
def hd_is_told_otherwise : He.DefD := ⟨("is_told_otherwise", none), "is_told_otherwise", "is_told_otherwise", defArgs st_is_told_otherwise, defBody st_is_told_otherwise, defScope st_is_told_otherwise, [], []⟩
def hd_answers_clash : He.DefD := ⟨("answers_clash", none), "answers_clash", "answers_clash", defArgs st_answers_clash, defBody st_answers_clash, defScope st_answers_clash, [], []⟩
def hd_kinds_at : He.DefD := ⟨("kinds_at", none), "kinds_at", "kinds_at", defArgs st_kinds_at, defBody st_kinds_at, defScope st_kinds_at, [], []⟩
def hd_clash_anywhere : He.DefD := ⟨("clash_anywhere", none), "clash_anywhere", "clash_anywhere", defArgs st_clash_anywhere, defBody st_clash_anywhere, defScope st_clash_anywhere, [], []⟩
def hd_check_state : He.DefD := ⟨("check_state", none), "check_state", "check_state", defArgs st_check_state, defBody st_check_state, defScope st_check_state, [], []⟩
def hd_need_office : He.DefD := ⟨("need_office", none), "need_office", "need_office", defArgs st_need_office, defBody st_need_office, defScope st_need_office, [], []⟩
def hd_need_offices : He.DefD := ⟨("need_offices", none), "need_offices", "need_offices", defArgs st_need_offices, defBody st_need_offices, defScope st_need_offices, [], []⟩
def hd_operations_of : He.DefD := ⟨("operations_of", none), "operations_of", "operations_of", defArgs st_operations_of, defBody st_operations_of, defScope st_operations_of, [], []⟩
def hd_distances : He.DefD := ⟨("distances", none), "distances", "distances", defArgs st_distances, defBody st_distances, defScope st_distances, [.non], []⟩
def hd_reachable : He.DefD := ⟨("reachable", none), "reachable", "reachable", defArgs st_reachable, defBody st_reachable, defScope st_reachable, [.non], []⟩
def hd_all_offices : He.DefD := ⟨("all_offices", none), "all_offices", "all_offices", defArgs st_all_offices, defBody st_all_offices, defScope st_all_offices, [], []⟩
def hd_other_offices : He.DefD := ⟨("other_offices", none), "other_offices", "other_offices", defArgs st_other_offices, defBody st_other_offices, defScope st_other_offices, [], []⟩
def hd_reach_tables : He.DefD := ⟨("reach_tables", none), "reach_tables", "reach_tables", defArgs st_reach_tables, defBody st_reach_tables, defScope st_reach_tables, [], []⟩
def hd_joint_homes : He.DefD := ⟨("joint_homes", none), "joint_homes", "joint_homes", defArgs st_joint_homes, defBody st_joint_homes, defScope st_joint_homes, [], []⟩
def hd_lasting_states : He.DefD := ⟨("lasting_states", none), "lasting_states", "lasting_states", defArgs st_lasting_states, defBody st_lasting_states, defScope st_lasting_states, [.non], []⟩
def hd_of_others : He.DefD := ⟨("of_others", none), "of_others", "of_others", defArgs st_of_others, defBody st_of_others, defScope st_of_others, [], []⟩
def hd_is_operation : He.DefD := ⟨("is_operation", none), "is_operation", "is_operation", defArgs st_is_operation, defBody st_is_operation, defScope st_is_operation, [], []⟩
def hd_check_offices : He.DefD := ⟨("check_offices", none), "check_offices", "check_offices", defArgs st_check_offices, defBody st_check_offices, defScope st_check_offices, [], []⟩
def hd_may_be_given : He.DefD := ⟨("may_be_given", none), "may_be_given", "may_be_given", defArgs st_may_be_given, defBody st_may_be_given, defScope st_may_be_given, [], []⟩
def hd_carried_home : He.DefD := ⟨("carried_home", none), "carried_home", "carried_home", defArgs st_carried_home, defBody st_carried_home, defScope st_carried_home, [], []⟩
def hd_openings : He.DefD := ⟨("openings", none), "openings", "openings", defArgs st_openings, defBody st_openings, defScope st_openings, [], []⟩
def hd_given_goals : He.DefD := ⟨("given_goals", none), "given_goals", "given_goals", defArgs st_given_goals, defBody st_given_goals, defScope st_given_goals, [], []⟩
def hd_count_given : He.DefD := ⟨("count_given", none), "count_given", "count_given", defArgs st_count_given, defBody st_count_given, defScope st_count_given, [], []⟩
def hd_given_ends : He.DefD := ⟨("given_ends", none), "given_ends", "given_ends", defArgs st_given_ends, defBody st_given_ends, defScope st_given_ends, [], []⟩
def hd_number_of_given : He.DefD := ⟨("number_of_given", none), "number_of_given", "number_of_given", defArgs st_number_of_given, defBody st_number_of_given, defScope st_number_of_given, [], []⟩
def hd__law_box : He.DefD := ⟨("_law_box", none), "_law_box", "_law_box", defArgs st__law_box, defBody st__law_box, defScope st__law_box, [], []⟩
def hd__law_take : He.DefD := ⟨("_law_take", none), "_law_take", "_law_take", defArgs st__law_take, defBody st__law_take, defScope st__law_take, [], []⟩
def hd__law_pick : He.DefD := ⟨("_law_pick", none), "_law_pick", "_law_pick", defArgs st__law_pick, defBody st__law_pick, defScope st__law_pick, [], []⟩
def hd__law_names : He.DefD := ⟨("_law_names", none), "_law_names", "_law_names", defArgs st__law_names, defBody st__law_names, defScope st__law_names, [], []⟩
def hd__law_drawn : He.DefD := ⟨("_law_drawn", none), "_law_drawn", "_law_drawn", defArgs st__law_drawn, defBody st__law_drawn, defScope st__law_drawn, [], []⟩
def hd__law_renumbered : He.DefD := ⟨("_law_renumbered", none), "_law_renumbered", "_law_renumbered", defArgs st__law_renumbered, defBody st__law_renumbered, defScope st__law_renumbered, [], []⟩
def hd__law_table : He.DefD := ⟨("_law_table", none), "_law_table", "_law_table", defArgs st__law_table, defBody st__law_table, defScope st__law_table, [], []⟩
def hd__law_steps : He.DefD := ⟨("_law_steps", none), "_law_steps", "_law_steps", defArgs st__law_steps, defBody st__law_steps, defScope st__law_steps, [], []⟩
def hd__law_sizes : He.DefD := ⟨("_law_sizes", none), "_law_sizes", "_law_sizes", defArgs st__law_sizes, defBody st__law_sizes, defScope st__law_sizes, [], []⟩
def hd__law_around : He.DefD := ⟨("_law_around", none), "_law_around", "_law_around", defArgs st__law_around, defBody st__law_around, defScope st__law_around, [], []⟩
def hd__law_reach : He.DefD := ⟨("_law_reach", none), "_law_reach", "_law_reach", defArgs st__law_reach, defBody st__law_reach, defScope st__law_reach, [], []⟩
def hd__law_others : He.DefD := ⟨("_law_others", none), "_law_others", "_law_others", defArgs st__law_others, defBody st__law_others, defScope st__law_others, [], []⟩
def hd__law_bases : He.DefD := ⟨("_law_bases", none), "_law_bases", "_law_bases", defArgs st__law_bases, defBody st__law_bases, defScope st__law_bases, [], []⟩
def hd__law_fits : He.DefD := ⟨("_law_fits", none), "_law_fits", "_law_fits", defArgs st__law_fits, defBody st__law_fits, defScope st__law_fits, [], []⟩
def hd__law_extended : He.DefD := ⟨("_law_extended", none), "_law_extended", "_law_extended", defArgs st__law_extended, defBody st__law_extended, defScope st__law_extended, [], []⟩
def hd__law_some : He.DefD := ⟨("_law_some", none), "_law_some", "_law_some", defArgs st__law_some, defBody st__law_some, defScope st__law_some, [], []⟩
def hd__law_all_ends : He.DefD := ⟨("_law_all_ends", none), "_law_all_ends", "_law_all_ends", defArgs st__law_all_ends, defBody st__law_all_ends, defScope st__law_all_ends, [], []⟩
def hd__law_refused : He.DefD := ⟨("_law_refused", none), "_law_refused", "_law_refused", defArgs st__law_refused, defBody st__law_refused, defScope st__law_refused, [], []⟩
def hd__law_numbers_right : He.DefD := ⟨("_law_numbers_right", none), "_law_numbers_right", "_law_numbers_right", defArgs st__law_numbers_right, defBody st__law_numbers_right, defScope st__law_numbers_right, [], []⟩
def hd__law_all_right : He.DefD := ⟨("_law_all_right", none), "_law_all_right", "_law_all_right", defArgs st__law_all_right, defBody st__law_all_right, defScope st__law_all_right, [], []⟩
def hd__law_operations_right : He.DefD := ⟨("_law_operations_right", none), "_law_operations_right", "_law_operations_right", defArgs st__law_operations_right, defBody st__law_operations_right, defScope st__law_operations_right, [], []⟩
def hd_law : He.DefD := ⟨("law", none), "law", "law", defArgs st_law, defBody st_law, defScope st_law, [], []⟩
def hd_Store_init : He.DefD := ⟨("Store", some "__init__"), "__init__", "Store.__init__", defArgs st_Store___init__, defBody st_Store___init__, defScope st_Store___init__, [], []⟩
def hd_Store_office_of : He.DefD := ⟨("Store", some "office_of"), "office_of", "Store.office_of", defArgs st_Store_office_of, defBody st_Store_office_of, defScope st_Store_office_of, [], []⟩
def fnH0 : List He.DefD := [hd_is_integer, hd_is_number, hd_is_below, hd_is_letter, hd_is_name, hd_is_row, hd_is_listing, hd_ends_clash, hd_is_told_otherwise, hd_answers_clash, hd_kinds_at, hd_clash_anywhere, hd_check_state, hd_need_office, hd_need_offices, hd_operations_of, hd_distances, hd_reachable, hd_all_offices, hd_other_offices, hd_reach_tables, hd_joint_homes, hd_lasting_states, hd_of_others, hd_is_operation, hd_check_offices, hd_may_be_given, hd_carried_home, hd_openings, hd_given_goals]
def fnH1 : List He.DefD := [hd_count_given, hd_given_ends, hd_number_of_given, hd__law_box, hd__law_take, hd__law_pick, hd__law_names, hd__law_drawn, hd__law_renumbered, hd__law_table, hd__law_steps, hd__law_sizes, hd__law_around, hd__law_reach, hd__law_others, hd__law_bases, hd__law_fits, hd__law_extended, hd__law_some, hd__law_all_ends, hd__law_refused, hd__law_numbers_right, hd__law_all_right, hd__law_operations_right, hd_law, hd_Store_init, hd_Store_office_of]
def fnH : List He.DefD := fnH0 ++ fnH1
def faH0 : List He.Fa := [.glo "is_integer", .glo "is_number", .glo "is_below", .glo "is_letter", .glo "is_name", .glo "is_row", .glo "is_listing", .glo "ends_clash", .glo "is_told_otherwise", .glo "answers_clash", .glo "kinds_at", .glo "clash_anywhere", .glo "check_state", .glo "need_office", .glo "need_offices", .glo "operations_of", .glo "distances", .glo "reachable", .glo "all_offices", .glo "other_offices", .glo "reach_tables", .glo "joint_homes", .glo "lasting_states", .glo "of_others", .glo "is_operation", .glo "check_offices", .glo "may_be_given", .glo "carried_home", .glo "openings", .glo "given_goals"]
def faH1 : List He.Fa := [.glo "count_given", .glo "given_ends", .glo "number_of_given", .glo "_law_box", .glo "_law_take", .glo "_law_pick", .glo "_law_names", .glo "_law_drawn", .glo "_law_renumbered", .glo "_law_table", .glo "_law_steps", .glo "_law_sizes", .glo "_law_around", .glo "_law_reach", .glo "_law_others", .glo "_law_bases", .glo "_law_fits", .glo "_law_extended", .glo "_law_some", .glo "_law_all_ends", .glo "_law_refused", .glo "_law_numbers_right", .glo "_law_all_right", .glo "_law_operations_right", .glo "law", .free "abs", .free "all", .free "any", .free "bool", .free "divmod"]
def faH2 : List He.Fa := [.free "enumerate", .free "int", .free "isinstance", .free "len", .free "list", .free "max", .free "min", .free "range", .free "repr", .free "set", .free "sorted", .free "str", .free "sum", .free "tuple", .str "LETTERS" "abcdefghijklmnopqrstuvwxyz", .int "LONGEST_NAME" 5, .int "MOST_ANSWER" 1000000000000, .str "ENDS" "ends", .str "ANSWERS" "answers", .int "MOST_STATES" 200, .int "LEAST_OFFICES" 2, .int "MOST_OFFICES" 8, .int "MOST_OPERATIONS" 40, .glo "Store", .cls "Store", .noat "Store" "size", .noat "Store" "offices", .mkr "Store", .meth "Store" "office_of", .glo "InvalidNumber"]
def faH3 : List He.Fa := [.glo "Refused", .free "super", .noat "InvalidNumber" "word", .noat "Refused" "word", .exm "InvalidNumber" "InvalidNumber" true, .exm "Refused" "InvalidNumber" false, .exm "Refused" "Refused" true]
def faH : List He.Fa := faH0 ++ faH1 ++ faH2 ++ faH3
/-! ### the Hook -/
abbrev AlH : Type := He.AlD × (Bool × Bool) × (XtO × XtO)
def obsH (K : PySem.W.Frag) : AlH := (He.obsD faH fnH K, (xtB K "InvalidNumber" "InvalidNumber.__init__", xtB K "Refused" "Refused.__init__"), (xtO K "InvalidNumber", xtO K "Refused"))
def valH : AlH := (He.valD fnH, (true, true), (xtV "InvalidNumber.__init__" st_InvalidNumber, xtV "Refused.__init__" st_Refused))
def lvlH (g : Addr → Option Obj) (as : List Addr) : List Addr := as.flatMap fun a => match g a with
  | some o => He.refsD o
  | none => []
def nsH (g : Addr → Option Obj) (as : List Addr) : List Addr := as.filterMap fun a => match g a with
  | some ⟨_, _, .cls cd, _⟩ => some cd.ns
  | _ => none
/-- what the looks need: the module's names, what they name, the classes' methods, what these name -/
def asH (g : Addr → Option Obj) : List Addr :=
  mainGlobals :: cStatics :: (lvlH g [mainGlobals] ++ (lvlH g (lvlH g [mainGlobals]) ++ (lvlH g (nsH g (lvlH g [mainGlobals])) ++ lvlH g (lvlH g (nsH g (lvlH g [mainGlobals]))))))
def obsHG (_ : Nat) (g : Addr → Option Obj) : AlH := obsH (He.frG g (asH g))
def SaysH (K : PySem.W.Frag) : Prop := He.SaysD faH fnH K ∧ xtB K "InvalidNumber" "InvalidNumber.__init__" = true ∧ xtB K "Refused" "Refused.__init__" = true ∧ xtO K "InvalidNumber" = xtV "InvalidNumber.__init__" st_InvalidNumber ∧ xtO K "Refused" = xtV "Refused.__init__" st_Refused
def hookH (n : Nat) : PySem.W.Hook where
  α := AlH
  obs := fun s => obsHG n s.heap.get?
  val := fun _ => valH
  says := fun _ h => ∃ K : PySem.W.Frag, K.In h ∧ SaysH K
  of := fun _ _ e => ⟨_, He.frG_in, congrArg (fun z : AlH => z.1) e, congrArg (fun z : AlH => z.2.1.1) e, congrArg (fun z : AlH => z.2.1.2) e, congrArg (fun z : AlH => z.2.2.1) e, congrArg (fun z : AlH => z.2.2.2) e⟩
  keeps := fun _ _ _ ⟨K, hK, c⟩ k => ⟨K, PySem.W.Frag.In.keeps hK k, c⟩
theorem obsHG_eq {n : Nat} {g : Addr → Option Obj} {s : Shared} (h : ∀ a, g a = s.heap.get? a) : obsHG n g = (hookH n).obs s := by
  have e : g = s.heap.get? := funext h
  rw [e] <;> rfl

abbrev RW : PySem.W.OpenRow := PySem.W.OpenLaw.row PySem.Challenge.rw_sharedunseen_k78_whole_what_may_be_given
def obW (s : PySem.W.SharedT) : AlH := obsHG 5 (HandSHeadRun.getT s)
theorem obW_eq (s : PySem.W.SharedT) : obW s = (hookH 5).obs s.abs := obsHG_eq (HandSHeadRun.getT_eq s)
def names1 : List PySem.Str := ["StoreError", "InvalidStore", "InvalidState", "InvalidNumber", "Refused", "LETTERS", "LONGEST_NAME", "MOST_ANSWER", "is_integer", "is_number", "is_below", "is_letter", "is_name", "is_row", "is_listing", "ENDS", "ANSWERS", "ends_clash", "is_told_otherwise", "answers_clash", "kinds_at", "clash_anywhere"]
def names2 : List PySem.Str := ["check_state", "need_office", "need_offices", "operations_of", "distances", "reachable", "all_offices", "other_offices", "reach_tables", "joint_homes", "lasting_states", "of_others", "MOST_STATES", "LEAST_OFFICES", "MOST_OFFICES", "MOST_OPERATIONS", "is_operation", "check_offices", "Store", "may_be_given", "carried_home", "openings", "given_goals", "count_given", "given_ends", "number_of_given"]
def names3 : List PySem.Str := ["_law_box", "_law_take", "_law_pick", "_law_names", "_law_drawn", "_law_renumbered", "_law_table", "_law_steps", "_law_sizes", "_law_around", "_law_reach", "_law_others", "_law_bases", "_law_fits", "_law_extended", "_law_some", "_law_all_ends", "_law_refused", "_law_numbers_right", "_law_all_right", "_law_operations_right"]
def namesW : List PySem.Str := names1 ++ names2 ++ names3
set_option maxHeartbeats 0 in
theorem runW (w : World) : HandSHeadRun.RunEq RW (PySem.W.view RW.prog [78]) (hookH 5) obW 4000 namesW w := by
  intro os
  kernel_rfl
end G78
namespace G78
open PySem PySem.Spec PyProof.Rows L2
/-- data: what a value stands for, the heap forgotten -/
inductive D where
  | non | bl (b : Bool) | int (i : Int) | str (x : Str)
  | lst (xs : List D) | tup (xs : List D) | dic (kvs : List (Key × D)) | sto (n : Int) (d : D) | scr (ns : List Int) | ftu (ns : List Int)
instance : Inhabited D := ⟨.non⟩
mutual
def D.py : D → PyData
  | .non => .none
  | .bl b => .bool b
  | .int i => .int i
  | .str x => .str x
  | .lst xs => .list (D.pys xs)
  | .tup xs => .tuple (D.pys xs)
  | .dic _ => .none
  | .sto _ _ => .none
  | .scr _ => .none
  | .ftu _ => .none
def D.pys : List D → List PyData
  | [] => []
  | d :: ds => d.py :: D.pys ds
end
mutual
/-- no dict, no store in it -/
def D.pure : D → Bool
  | .lst xs => D.pures xs
  | .tup xs => D.pures xs
  | .dic _ => false
  | .sto _ _ => false
  | .scr _ => false
  | .ftu _ => false
  | _ => true
def D.pures : List D → Bool
  | [] => true
  | d :: ds => d.pure && D.pures ds
end
theorem D.pys_map : ∀ ds : List D, D.pys ds = ds.map D.py
  | [] => rfl
  | d :: ds => by rw [D.pys, D.pys_map ds]; rfl
theorem D.pures_all : ∀ ds : List D, D.pures ds = ds.all D.pure
  | [] => rfl
  | d :: ds => by rw [D.pures, D.pures_all ds]; rfl
mutual
/-- the value v stands for d; C is the class of stores -/
inductive R (K : PySem.W.Frag) (C : Addr) (H : Hp) : V → D → Prop
  | non : R K C H .non .non
  | bl (b : Bool) : R K C H (.bl b) (.bl b)
  | int (i : Int) : R K C H (.int i) (.int i)
  | str (x : Str) : R K C H (.str x) (.str x)
  | lst {a : Addr} {vs : List V} {ds : List D} : H a = some (.lst vs) → RL K C H vs ds → R K C H (.ref a) (.lst ds)
  | scr {a : Addr} {ns : List Int} : SqL K H a (ns.map V.int) → R K C H (.ref a) (.scr ns)
  | ftu {a : Addr} {o : Obj} {ns : List Int} : H a = some (.frz o (.tup (ns.map V.int))) → o.cls = .type "tuple" → o.dict = none → R K C H (.ref a) (.ftu ns)
  | tup {a : Addr} {vs : List V} {ds : List D} : SqT K H a vs → RL K C H vs ds → R K C H (.ref a) (.tup ds)
  | dic {a : Addr} {kvs : List (Key × V)} {kds : List (Key × D)} : Rd H a (.dK kvs) → RK K C H kvs kds → R K C H (.ref a) (.dic kds)
  | sto {a dx : Addr} {n : Int} {v : V} {d : D} : H a = some (.ins C dx [("size", .int n), ("offices", v)]) → R K C H v d → R K C H (.ref a) (.sto n d)
inductive RL (K : PySem.W.Frag) (C : Addr) (H : Hp) : List V → List D → Prop
  | nil : RL K C H [] []
  | cons {v : V} {vs : List V} {d : D} {ds : List D} : R K C H v d → RL K C H vs ds → RL K C H (v :: vs) (d :: ds)
inductive RK (K : PySem.W.Frag) (C : Addr) (H : Hp) : List (Key × V) → List (Key × D) → Prop
  | nil : RK K C H [] []
  | cons {k : Key} {v : V} {vs : List (Key × V)} {d : D} {ds : List (Key × D)} : R K C H v d → RK K C H vs ds → RK K C H ((k, v) :: vs) ((k, d) :: ds)
end
/-- all that stood stands, a dict perhaps locked -/
def Le (H H' : Hp) : Prop := ∀ a o, H a = some o → H' a = some o ∨ (∃ kvs od, o = .dK kvs ∧ H' a = some (.frz od (.dK kvs))) ∨ ∃ kvs od, o = .frz od (.dK kvs) ∧ H' a = some (.dK kvs)
theorem Le.same {H H' : Hp} (s : Same H H') : Le H H' := fun a o e => .inl (s a o e)
theorem Le.refl (H : Hp) : Le H H := fun _ _ e => .inl e
section
variable {K : PySem.W.Frag} {C : Addr} {H H' : Hp}
theorem Le.lst (l : Le H H') {a : Addr} {vs : List V} (h : SqL K H a vs) : SqL K H' a vs := by
  rcases h with (h | ⟨o, h⟩) | h
  · rcases l _ _ h with q | ⟨_, _, e, _⟩ | ⟨_, _, e, _⟩
    · exact .inl (.inl q)
    · cases e
    · cases e
  · rcases l _ _ h with q | ⟨_, _, e, _⟩ | ⟨_, _, e, _⟩
    · exact .inl (.inr ⟨o, q⟩)
    · cases e
    · cases e
  · exact .inr h
theorem Le.tup (l : Le H H') {a : Addr} {vs : List V} (h : SqT K H a vs) : SqT K H' a vs := by
  rcases h with (h | ⟨o, h⟩) | h
  · rcases l _ _ h with q | ⟨_, _, e, _⟩ | ⟨_, _, e, _⟩
    · exact .inl (.inl q)
    · cases e
    · cases e
  · rcases l _ _ h with q | ⟨_, _, e, _⟩ | ⟨_, _, e, _⟩
    · exact .inl (.inr ⟨o, q⟩)
    · cases e
    · cases e
  · exact .inr h
theorem Le.dic (l : Le H H') {a : Addr} {kvs : List (Key × V)} (h : Rd H a (.dK kvs)) : Rd H' a (.dK kvs) := by
  rcases h with h | ⟨o, h⟩
  · rcases l _ _ h with q | ⟨_, _, e, q⟩ | ⟨_, _, e, q⟩
    · exact .inl q
    · cases e; exact .inr ⟨_, q⟩
    · cases e
  · rcases l _ _ h with q | ⟨_, _, e, _⟩ | ⟨_, _, e, q⟩
    · exact .inr ⟨o, q⟩
    · cases e
    · cases e; exact .inl q
mutual
theorem R.le (l : Le H H') : ∀ (d : D) (v : V), R K C H v d → R K C H' v d
  | .non, _, h => by cases h; exact .non
  | .bl _, _, h => by cases h; exact .bl _
  | .int _, _, h => by cases h; exact .int _
  | .str _, _, h => by cases h; exact .str _
  | .lst ds, _, h => by
    cases h with
    | lst a b =>
      rcases l _ _ a with q | ⟨_, _, e, _⟩ | ⟨_, _, e, _⟩
      · exact .lst q (RL.le l ds _ b)
      · cases e
      · cases e
  | .scr ds, _, h => by cases h with | scr a => exact .scr (l.lst a)
  | .ftu ds, _, h => by
    cases h with
    | ftu a b c =>
      rcases l _ _ a with q | ⟨_, _, e, _⟩ | ⟨_, _, e, _⟩
      · exact .ftu q b c
      · cases e
      · cases e
  | .tup ds, _, h => by cases h with | tup a b => exact .tup (l.tup a) (RL.le l ds _ b)
  | .dic ds, _, h => by cases h with | dic a b => exact .dic (l.dic a) (RK.le l ds _ b)
  | .sto n d, _, h => by
    cases h with
    | sto a b =>
      rcases l _ _ a with q | ⟨_, _, e, _⟩ | ⟨_, _, e, _⟩
      · exact .sto q (R.le l d _ b)
      · cases e
      · cases e
theorem RL.le (l : Le H H') : ∀ (ds : List D) (vs : List V), RL K C H vs ds → RL K C H' vs ds
  | [], _, h => by cases h; exact .nil
  | d :: ds, _, h => by cases h with | cons a b => exact .cons (R.le l d _ a) (RL.le l ds _ b)
theorem RK.le (l : Le H H') : ∀ (ds : List (Key × D)) (vs : List (Key × V)), RK K C H vs ds → RK K C H' vs ds
  | [], _, h => by cases h; exact .nil
  | (k, d) :: ds, _, h => by cases h with | cons a b => exact .cons (R.le l d _ a) (RK.le l ds _ b)
end
mutual
theorem R.py : ∀ (d : D) (v : V), R K C H v d → d.pure = true → Dp K H v d.py
  | .non, _, h, _ => by cases h; exact .non
  | .bl _, _, h, _ => by cases h; exact .bl _
  | .int _, _, h, _ => by cases h; exact .int _
  | .str _, _, h, _ => by cases h; exact .str _
  | .lst ds, _, h, p => by cases h with | lst a b => exact .lst (SqL.of a) (RL.py ds _ b p)
  | .tup ds, _, h, p => by cases h with | tup a b => exact .tup a (RL.py ds _ b p)
  | .dic ds, _, h, p => by cases p
  | .sto n d, _, h, p => by cases p
  | .scr n, _, h, p => by cases p
  | .ftu n, _, h, p => by cases p
theorem RL.py : ∀ (ds : List D) (vs : List V), RL K C H vs ds → D.pures ds = true → DpAll K H vs (D.pys ds)
  | [], _, h, _ => by cases h; exact .nil
  | d :: ds, _, h, p => by
    cases h with
    | cons a b =>
      have p' : (d.pure && D.pures ds) = true := p
      rw [Bool.and_eq_true] at p'
      exact .cons (R.py d _ a p'.1) (RL.py ds _ b p'.2)
end
theorem RL.len {vs : List V} {ds : List D} (h : RL K C H vs ds) : vs.length = ds.length := by
  induction ds generalizing vs with
  | nil => cases h; rfl
  | cons d ds ih => cases h with | cons a b => simp [ih b]
theorem RL.get : ∀ {vs : List V} {ds : List D} {i : Nat} {d : D}, RL K C H vs ds → ds[i]? = some d → ∃ v, vs[i]? = some v ∧ R K C H v d
  | _, [], i, d, _, e => by simp at e
  | _, x :: ds, 0, d, h, e => by
    cases h with
    | cons a b => simp at e; subst e; exact ⟨_, by simp, a⟩
  | _, x :: ds, i + 1, d, h, e => by
    cases h with
    | cons a b =>
      obtain ⟨v, h1, h2⟩ := RL.get (i := i) (d := d) b (by simpa using e)
      exact ⟨v, by simpa using h1, h2⟩
theorem RL.at : ∀ {vs : List V} {ds : List D} {i : Nat} {v : V}, RL K C H vs ds → vs[i]? = some v → ∃ d, ds[i]? = some d ∧ R K C H v d
  | _, [], i, v, h, e => by cases h; simp at e
  | _, x :: ds, 0, v, h, e => by
    cases h with
    | cons a b => simp at e; subst e; exact ⟨_, by simp, a⟩
  | _, x :: ds, i + 1, v, h, e => by
    cases h with
    | cons a b =>
      obtain ⟨d, h1, h2⟩ := RL.at (i := i) (v := v) b (by simpa using e)
      exact ⟨d, by simpa using h1, h2⟩
theorem RL.app : ∀ {vs ws : List V} {ds es : List D}, RL K C H vs ds → RL K C H ws es → RL K C H (vs ++ ws) (ds ++ es)
  | _, _, [], _, h, g => by cases h; exact g
  | _, _, _ :: _, _, h, g => by cases h with | cons a b => exact .cons a (RL.app b g)
theorem RL.set : ∀ {vs : List V} {ds : List D} {v : V} {d : D} (i : Nat), RL K C H vs ds → R K C H v d → RL K C H (vs.set i v) (ds.set i d)
  | _, [], _, _, i, h, g => by cases h; exact .nil
  | _, _ :: _, _, _, 0, h, g => by cases h with | cons a b => exact .cons g b
  | _, _ :: _, _, _, i + 1, h, g => by cases h with | cons a b => exact .cons a (RL.set i b g)
theorem RL.one {v : V} {d : D} (h : R K C H v d) : RL K C H [v] [d] := .cons h .nil
theorem RL.mk : ∀ {vs : List V} {ds : List D}, vs.length = ds.length → (∀ (i : Nat) (v : V) (d : D), vs[i]? = some v → ds[i]? = some d → R K C H v d) → RL K C H vs ds
  | [], [], _, _ => .nil
  | [], _ :: _, e, _ => by simp at e
  | _ :: _, [], e, _ => by simp at e
  | v :: vs, d :: ds, e, h => .cons (h 0 v d (by simp) (by simp)) (RL.mk (by simpa using e) fun i v d h1 h2 => h (i + 1) v d (by simpa using h1) (by simpa using h2))
theorem RL.inv {vs : List V} {ds : List D} (h : RL K C H vs ds) (i : Nat) {v : V} {d : D} (h1 : vs[i]? = some v) (h2 : ds[i]? = some d) : R K C H v d := by
  obtain ⟨v', e, r⟩ := h.get h2
  rw [h1] at e; cases e; exact r
theorem RL.ints : ∀ {vs : List V} {ns : List Int}, RL K C H vs (ns.map D.int) → vs = ns.map V.int
  | _, [], h => by cases h; rfl
  | _, n :: ns, h => by
    cases h with
    | cons a b => cases a; rw [RL.ints b]; rfl
theorem RL.strs : ∀ {vs : List V} {ns : List Str}, RL K C H vs (ns.map D.str) → vs = ns.map V.str
  | _, [], h => by cases h; rfl
  | _, n :: ns, h => by
    cases h with
    | cons a b => cases a; rw [RL.strs b]; rfl
theorem RL.bls : ∀ {vs : List V} {ns : List Bool}, RL K C H vs (ns.map D.bl) → vs = ns.map V.bl
  | _, [], h => by cases h; rfl
  | _, n :: ns, h => by
    cases h with
    | cons a b => cases a; rw [RL.bls b]; rfl
theorem RL.int_of : ∀ (ns : List Int), RL K C H (ns.map V.int) (ns.map D.int)
  | [] => .nil
  | n :: ns => .cons (.int n) (RL.int_of ns)
theorem RL.str_of : ∀ (ns : List Str), RL K C H (ns.map V.str) (ns.map D.str)
  | [] => .nil
  | n :: ns => .cons (.str n) (RL.str_of ns)
theorem RK.len {vs : List (Key × V)} {ds : List (Key × D)} (h : RK K C H vs ds) : vs.length = ds.length := by
  induction ds generalizing vs with
  | nil => cases h; rfl
  | cons d ds ih => cases h with | cons a b => simp [ih b]
theorem RK.keys : ∀ {vs : List (Key × V)} {ds : List (Key × D)}, RK K C H vs ds → vs.map (·.1) = ds.map (·.1)
  | _, [], h => by cases h; rfl
  | _, _ :: _, h => by cases h with | cons a b => simp [RK.keys b]
theorem RK.at : ∀ {vs : List (Key × V)} {ds : List (Key × D)} {i : Nat} {k : Key} {v : V}, RK K C H vs ds → vs[i]? = some (k, v) → ∃ d, ds[i]? = some (k, d) ∧ R K C H v d
  | _, [], i, k, v, h, e => by cases h; simp at e
  | _, x :: ds, 0, k, v, h, e => by
    cases h with
    | cons a b => simp at e; obtain ⟨rfl, rfl⟩ := e; exact ⟨_, by simp, a⟩
  | _, x :: ds, i + 1, k, v, h, e => by
    cases h with
    | cons a b =>
      obtain ⟨d, h1, h2⟩ := RK.at (i := i) (v := v) b (by simpa using e)
      exact ⟨d, by simpa using h1, h2⟩
/-- what a dict holds at k -/
def dgt (kds : List (Key × D)) (k : Key) : Option D := (kds.find? fun kv => decide (kv.1 = k)).map (·.2)
/-- in its place, or at the end -/
def dpt (kds : List (Key × D)) (k : Key) (d : D) : List (Key × D) :=
  if (kds.any fun kv => decide (kv.1 = k)) = true then kds.map (fun kv => if kv.1 = k then (kv.1, d) else kv) else kds ++ [(k, d)]
theorem RK.val : ∀ {vs : List (Key × V)} {ds : List (Key × D)} (k : Key), RK K C H vs ds → (valV vs k = none ∧ dgt ds k = none) ∨ ∃ v d, valV vs k = some v ∧ dgt ds k = some d ∧ R K C H v d
  | _, [], k, h => by cases h; exact .inl ⟨rfl, rfl⟩
  | _, (k', d) :: ds, k, h => by
    cases h with
    | cons a b =>
      by_cases e : k' = k
      · exact .inr ⟨_, d, valV_pos e, by simp [dgt, e], a⟩
      · rcases RK.val k b with ⟨h1, h2⟩ | ⟨v, d', h1, h2, r⟩
        · exact .inl ⟨by rw [valV_neg e]; exact h1, by simpa [dgt, List.find?_cons, e] using h2⟩
        · exact .inr ⟨v, d', by rw [valV_neg e]; exact h1, by simpa [dgt, List.find?_cons, e] using h2, r⟩
theorem RK.any : ∀ {vs : List (Key × V)} {ds : List (Key × D)} (k : Key), RK K C H vs ds → (vs.any fun kv => decide (kv.1 = k)) = (ds.any fun kv => decide (kv.1 = k))
  | _, [], k, h => by cases h; rfl
  | _, (k', d) :: ds, k, h => by
    cases h with
    | cons a b => rw [List.any_cons, List.any_cons, RK.any k b]
theorem RK.app : ∀ {vs ws : List (Key × V)} {ds es : List (Key × D)}, RK K C H vs ds → RK K C H ws es → RK K C H (vs ++ ws) (ds ++ es)
  | _, _, [], _, h, g => by cases h; exact g
  | _, _, _ :: _, _, h, g => by cases h with | cons a b => exact .cons a (RK.app b g)
theorem RK.mapAt : ∀ {vs : List (Key × V)} {ds : List (Key × D)} {k : Key} {v : V} {d : D}, RK K C H vs ds → R K C H v d →
    RK K C H (vs.map fun kv => if kv.1 = k then (kv.1, v) else kv) (ds.map fun kv => if kv.1 = k then (kv.1, d) else kv)
  | _, [], _, _, _, h, _ => by cases h; exact .nil
  | _, (k', e) :: ds, k, v, d, h, g => by
    cases h with
    | cons a b =>
      by_cases q : k' = k
      · simp only [List.map_cons, q, if_true]; exact .cons g (RK.mapAt b g)
      · simp only [List.map_cons, q, if_false]; exact .cons a (RK.mapAt b g)
theorem RK.put {vs : List (Key × V)} {ds : List (Key × D)} {k : Key} {v : V} {d : D} (h : RK K C H vs ds) (g : R K C H v d) : RK K C H (putK vs k v) (dpt ds k d) := by
  unfold putK dpt
  rw [h.any k]
  split
  · exact h.mapAt g
  · exact h.app (.cons g .nil)
end
#print axioms R.py
end G78
namespace G78
open PySem PySem.Spec PyProof.Rows L2
open Classical in
/-- the heap without the addresses of M -/
noncomputable def era (H : Hp) (M : Addr → Prop) : Hp := fun a => if M a then none else H a
theorem era_in {H : Hp} {M : Addr → Prop} {a : Addr} {o : HO} (h : era H M a = some o) : ¬ M a ∧ H a = some o := by
  unfold era at h
  split at h
  · cases h
  · exact ⟨by assumption, h⟩
theorem era_of {H : Hp} {M : Addr → Prop} {a : Addr} {o : HO} (m : ¬ M a) (h : H a = some o) : era H M a = some o := by
  unfold era; rw [if_neg m]; exact h
theorem era_none {H : Hp} {M : Addr → Prop} {a : Addr} (h : H a = none) : era H M a = none := by
  unfold era; split <;> first | rfl | exact h
theorem era_le {H H' : Hp} {M M' : Addr → Prop} (h : ∀ a, M' a → M a) (s : ∀ a o, ¬ M a → H a = some o → H' a = some o) : Le (era H M) (era H' M') := fun a o e => by
  obtain ⟨m, e⟩ := era_in e
  exact .inl (era_of (fun z => m (h a z)) (s a o m e))
theorem era_full {H : Hp} {M : Addr → Prop} : Le (era H M) H := fun a o e => .inl (era_in e).2
theorem era_grow {H : Hp} {M : Addr → Prop} {p : Addr} (h : H p = none) : era H (fun a => M a ∨ a = p) = era H M := by
  funext a
  unfold era
  by_cases m : M a
  · rw [if_pos m, if_pos (.inl m)]
  · by_cases e : a = p
    · subst e; rw [if_neg m, if_pos (.inr rfl), h]
    · rw [if_neg m, if_neg (fun z => z.elim m e)]
theorem sqL_full {K : PySem.W.Frag} {H : Hp} {M : Addr → Prop} {a : Addr} {vs : List V} (h : SqL K (era H M) a vs) : SqL K H a vs := era_full.lst h
/-- what a slot holds -/
inductive SC where
  | no | d (x : D) | l (xs : List D) | k (kvs : List (Key × D)) | bx
@[simp] def SC.own : SC → Bool
  | .l _ => true
  | .k _ => true
  | _ => false
/-- the state of a body: the slots; whether no dict is locked; what is wished of an exception -/
structure DS where
  s : List SC
  nl : Bool := true
  x : Nat → Str → Prop := fun _ _ => False
  /-- there is no box -/
  b0 : Bool := true
/-- the text's classes, the def's wish -/
structure ZZ where
  C : Addr
  cls : Nat → Addr
  E : XK
/-- the entry of a body: its heap, the box's place -/
structure Fr where
  H0 : Hp
  bx : Option Addr
  /-- what the caller holds back -/
  M0 : Addr → Prop
  /-- the dict that is locked -/
  lk : Option Addr := none
def BoxOk (H : Hp) (b : Addr) : Prop := ∃ x y z : Int, H b = some (.lst [.int x, .int y, .int z])
def NL (H : Hp) : Prop := ∀ a o kvs, H a ≠ some (.frz o (.dK kvs))
/-- since the entry -/
def Sn (F : Fr) (H : Hp) : Prop := ∀ a o, F.bx ≠ some a → F.H0 a = some o → H a = some o
/-- the same, but for locks -/
def SnL (F : Fr) (H : Hp) : Prop := ∀ a o, F.bx ≠ some a → F.H0 a = some o → H a = some o ∨ ∃ kvs od, o = .dK kvs ∧ H a = some (.frz od (.dK kvs))
theorem SnL.sn {F : Fr} {H : Hp} (s : SnL F H) (n : NL H) : Sn F H := fun a o b e => by
  rcases s a o b e with h | ⟨kvs, od, _, h⟩
  · exact h
  · exact absurd h (n a od kvs)
def Sl (Z : ZZ) (K : PySem.W.Frag) (F : Fr) (M : Addr → Prop) (H : Hp) (c : SC) (v : Option (Option V)) : Prop :=
  match c with
  | .no => True
  | .d d => ∃ x, v = some (some x) ∧ R K Z.C (era H M) x d
  | .l xs => ∃ p vs, v = some (some (.ref p)) ∧ M p ∧ F.bx ≠ some p ∧ F.H0 p = none ∧ H p = some (.lst vs) ∧ RL K Z.C (era H M) vs xs
  | .k kds => ∃ p kvs, v = some (some (.ref p)) ∧ M p ∧ F.bx ≠ some p ∧ F.H0 p = none ∧ H p = some (.dK kvs) ∧ RK K Z.C (era H M) kvs kds
  | .bx => ∃ b, F.bx = some b ∧ v = some (some (.ref b))
structure Rep (Z : ZZ) (K : PySem.W.Frag) (F : Fr) (M : Addr → Prop) (σ : L2.St) (H : Hp) (ds : DS) : Prop where
  sl : ∀ (i : Nat) (c : SC), ds.s[i]? = some c → Sl Z K F M H c σ[i]?
  dj : ∀ (i j : Nat) (c e : SC), ds.s[i]? = some c → ds.s[j]? = some e → c.own = true → e.own = true → i ≠ j → σ[i]? ≠ σ[j]?
  mo : ∀ p, M p → H p ≠ none
  bm : ∀ b, F.bx = some b → M b ∧ BoxOk H b
  sn : SnL F H
  dm : ∀ a, F.H0 a ≠ none → H a ≠ none
  m0 : ∀ a, F.M0 a → M a ∧ F.H0 a ≠ none
  nl : ds.nl = true → NL H
  fl : ∀ a o kvs, H a = some (.frz o (.dK kvs)) → F.lk = some a
  xs : ∀ c w, ds.x c w → ∀ H' dd, Sn F H' → NL H' → F.H0 dd = none → H' dd = some (.xd [("word", .str w)]) → Z.E (.ref (Z.cls c)) (some dd) H'
  b0 : ds.b0 = true → F.bx = none
  ln : ds.s.length = σ.length
/-- behind an expression -/
structure Ext (F : Fr) (H H' : Hp) : Prop where
  same : ∀ a o, F.bx ≠ some a → H a = some o → H' a = some o
  box : ∀ b, F.bx = some b → BoxOk H b → BoxOk H' b
  nl : ∀ a o kvs, H' a = some (.frz o (.dK kvs)) → H a = some (.frz o (.dK kvs))
theorem Ext.refl (F : Fr) (H : Hp) : Ext F H H := ⟨fun _ _ _ h => h, fun _ _ h => h, fun _ _ _ h => h⟩
theorem Ext.trans {F : Fr} {H H1 H2 : Hp} (a : Ext F H H1) (b : Ext F H1 H2) : Ext F H H2 :=
  ⟨fun c o n h => b.same c o n (a.same c o n h), fun c n h => b.box c n (a.box c n h), fun c o kvs h => a.nl c o kvs (b.nl c o kvs h)⟩
/-- a new object that is no lock -/
theorem Ext.new {F : Fr} {H : Hp} {p : Addr} {o : HO} (hp : H p = none) (ho : ∀ q kvs, o ≠ .frz q (.dK kvs)) : Ext F H (upd H p o) := by
  refine ⟨fun a u _ e => ?_, fun b _ ⟨x, y, z, e⟩ => ⟨x, y, z, ?_⟩, fun a q kvs e => ?_⟩
  · rw [upd_ne (ne_of_none e hp)]; exact e
  · rw [upd_ne (ne_of_none e hp)]; exact e
  · by_cases h : a = p
    · subst h; rw [upd_same] at e; exact (ho q kvs (Option.some.inj e)).elim
    · rw [upd_ne h] at e; exact e
section
variable {Z : ZZ} {K : PySem.W.Frag} {F : Fr} {M : Addr → Prop} {σ : L2.St} {H H' : Hp} {ds : DS}
theorem Rep.bxM (r : Rep Z K F M σ H ds) {a : Addr} (m : ¬ M a) : F.bx ≠ some a := fun e => m (r.bm a e).1
theorem Rep.le (r : Rep Z K F M σ H ds) (x : Ext F H H') : Le (era H M) (era H' M) := era_le (fun _ z => z) fun a o m e => x.same a o (r.bxM m) e
theorem Sl.ext {c : SC} {v : Option (Option V)} (s : Sl Z K F M H c v) (l : Le (era H M) (era H' M)) (x : Ext F H H') : Sl Z K F M H' c v := by
  cases c with
  | no => trivial
  | d d => obtain ⟨y, e, r⟩ := s; exact ⟨y, e, r.le l⟩
  | l xs => obtain ⟨p, vs, e, m, b, n, h, r⟩ := s; exact ⟨p, vs, e, m, b, n, x.same p _ b h, RL.le l _ _ r⟩
  | k kds => obtain ⟨p, vs, e, m, b, n, h, r⟩ := s; exact ⟨p, vs, e, m, b, n, x.same p _ b h, RK.le l _ _ r⟩
  | bx => exact s
theorem Ext.dom (x : Ext F H H') (a : Addr) {P : Prop} (hb : F.bx = some a → P ∧ BoxOk H a) (h : H a ≠ none) : H' a ≠ none := by
  by_cases b : F.bx = some a
  · obtain ⟨_, _, _, e⟩ := x.box a b (hb b).2
    rw [e]; exact Option.some_ne_none _
  · cases e : H a with
    | none => exact absurd e h
    | some o => rw [x.same a o b e]; exact Option.some_ne_none _
theorem Rep.ext (r : Rep Z K F M σ H ds) (x : Ext F H H') : Rep Z K F M σ H' ds where
  sl := fun i c e => (r.sl i c e).ext (r.le x) x
  dj := r.dj
  mo := fun p m => x.dom p (r.bm p) (r.mo p m)
  bm := fun b e => ⟨(r.bm b e).1, x.box b e (r.bm b e).2⟩
  sn := fun a o b e => by
    rcases r.sn a o b e with h | ⟨kvs, od, q, h⟩
    · exact .inl (x.same a o b h)
    · exact .inr ⟨kvs, od, q, x.same a _ b h⟩
  dm := fun a n => x.dom a (r.bm a) (r.dm a n)
  m0 := r.m0
  fl := fun a o kvs e => r.fl a o kvs (x.nl a o kvs e)
  nl := fun z a o kvs e => r.nl z a o kvs (x.nl a o kvs e)
  xs := r.xs
  b0 := r.b0
  ln := r.ln
theorem Rep.fresh (r : Rep Z K F M σ H ds) {p : Addr} (hp : H p = none) : ¬ M p := fun m => r.mo p m hp
theorem Rep.bxN (r : Rep Z K F M σ H ds) {p : Addr} (hp : H p = none) : F.bx ≠ some p := r.bxM (r.fresh hp)
theorem Rep.h0N (r : Rep Z K F M σ H ds) {p : Addr} (hp : H p = none) : F.H0 p = none := by
  cases e : F.H0 p with
  | none => rfl
  | some o => exact absurd hp (r.dm p (by rw [e]; exact Option.some_ne_none _))
/-- more addresses are held back -/
theorem Rep.grow (r : Rep Z K F M σ H ds) (x : Ext F H H') {p : Addr} (hp : H p = none) (hp' : H' p ≠ none) : Rep Z K F (fun a => M a ∨ a = p) σ H' ds := by
  have l : Le (era H M) (era H' fun a => M a ∨ a = p) := by
    rw [← era_grow (M := M) hp]
    exact era_le (fun _ z => z) fun a o m e => x.same a o (r.bxM fun z => m (.inl z)) e
  have q := r.ext x
  refine ⟨fun i c e => ?_, q.dj, fun a m => ?_, fun b e => ⟨.inl (q.bm b e).1, (q.bm b e).2⟩, q.sn, q.dm, fun a m => ⟨.inl (q.m0 a m).1, (q.m0 a m).2⟩, q.nl, q.fl, q.xs, q.b0, q.ln⟩
  · have s := r.sl i c e
    cases c with
    | no => trivial
    | d d => obtain ⟨y, e, r⟩ := s; exact ⟨y, e, r.le l⟩
    | l xs => obtain ⟨p, vs, e, m, b, n, h, r⟩ := s; exact ⟨p, vs, e, .inl m, b, n, x.same p _ b h, RL.le l _ _ r⟩
    | k kds => obtain ⟨p, vs, e, m, b, n, h, r⟩ := s; exact ⟨p, vs, e, .inl m, b, n, x.same p _ b h, RK.le l _ _ r⟩
    | bx => exact s
  · rcases m with m | rfl
    · exact q.mo a m
    · exact hp'
theorem grow_le (r : Rep Z K F M σ H ds) (x : Ext F H H') {p : Addr} (hp : H p = none) : Le (era H M) (era H' fun a => M a ∨ a = p) := by
  rw [← era_grow (M := M) hp]
  exact era_le (fun _ z => z) fun a o m e => x.same a o (r.bxM fun z => m (.inl z)) e
end
/-- how a result is to be: d, data; r, to be read; o, a new list or dict of one's own -/
inductive Md where | d | r | o
/-- the top may be a list or a dict of one's own -/
inductive RT (Z : ZZ) (K : PySem.W.Frag) (F : Fr) (M : Addr → Prop) (H : Hp) : V → D → Prop
  | dat {v : V} {d : D} : R K Z.C (era H M) v d → RT Z K F M H v d
  | lst {p : Addr} {vs : List V} {xs : List D} : F.bx ≠ some p → H p = some (.lst vs) → RL K Z.C (era H M) vs xs → RT Z K F M H (.ref p) (.lst xs)
  | dic {p : Addr} {kvs : List (Key × V)} {kds : List (Key × D)} : F.bx ≠ some p → H p = some (.dK kvs) → RK K Z.C (era H M) kvs kds → RT Z K F M H (.ref p) (.dic kds)
/-- new -/
inductive RO (Z : ZZ) (K : PySem.W.Frag) (M : Addr → Prop) (H H' : Hp) : V → D → Prop
  | lst {p : Addr} {vs : List V} {xs : List D} : H p = none → H' p = some (.lst vs) → RL K Z.C (era H' fun a => M a ∨ a = p) vs xs → RO Z K M H H' (.ref p) (.lst xs)
  | dic {p : Addr} {kvs : List (Key × V)} {kds : List (Key × D)} : H p = none → H' p = some (.dK kvs) → RK K Z.C (era H' fun a => M a ∨ a = p) kvs kds → RO Z K M H H' (.ref p) (.dic kds)
def Res (Z : ZZ) (m : Md) (K : PySem.W.Frag) (F : Fr) (M : Addr → Prop) (H H' : Hp) (v : V) (d : D) : Prop :=
  match m with
  | .d => R K Z.C (era H' M) v d
  | .r => RT Z K F M H' v d
  | .o => RO Z K M H H' v d
abbrev TW := DS → (D → Prop) → Prop
structure EJ (Z : ZZ) (m : Md) (X : Cx) (e : Expr) (W : TW) : Prop where
  ex : ∃ t, PE X e t ∧ ∀ F M σ H ds (q : D → Prop) (Q : VK), Rep Z X.K F M σ H ds → W ds q → (∀ v H' d, Ext F H H' → Res Z m X.K F M H H' v d → q d → Q v H') → t σ H Q
section
variable {Z : ZZ} {K : PySem.W.Frag} {F : Fr} {M : Addr → Prop} {σ : L2.St} {H H' H1 : Hp} {ds : DS} {X : Cx} {e : Expr} {W : TW} {v : V} {d : D}
theorem RT.ext (t : RT Z K F M H v d) (r : Rep Z K F M σ H ds) (x : Ext F H H') : RT Z K F M H' v d := by
  cases t with
  | dat h => exact .dat (h.le (r.le x))
  | lst b h l => exact .lst b (x.same _ _ b h) (RL.le (r.le x) _ _ l)
  | dic b h l => exact .dic b (x.same _ _ b h) (RK.le (r.le x) _ _ l)
theorem RO.dat (r : Rep Z K F M σ H ds) (t : RO Z K M H H' v d) : R K Z.C (era H' M) v d := by
  have l : ∀ p, Le (era H' fun a => M a ∨ a = p) (era H' M) := fun p => era_le (fun a z => .inl z) fun _ _ _ h => h
  cases t with
  | lst hn h g => exact .lst (era_of (r.fresh hn) h) (RL.le (l _) _ _ g)
  | dic hn h g => exact .dic (.inl (era_of (r.fresh hn) h)) (RK.le (l _) _ _ g)
/-- data may be read -/
theorem EJ.rd (h : EJ Z .d X e W) : EJ Z .r X e W := by
  obtain ⟨t, p, g⟩ := h.ex
  exact ⟨t, p, fun F M σ H ds q Q r w k => g F M σ H ds q Q r w fun v H' d x s z => k v H' d x (.dat s) z⟩
/-- a new thing as data -/
theorem EJ.dt (h : EJ Z .o X e W) : EJ Z .d X e W := by
  obtain ⟨t, p, g⟩ := h.ex
  exact ⟨t, p, fun F M σ H ds q Q r w k => g F M σ H ds q Q r w fun v H' d x s z => k v H' d x (s.dat r) z⟩
theorem EJ.imp {m : Md} {W' : TW} (h : EJ Z m X e W) (i : ∀ ds q, W' ds q → W ds q) : EJ Z m X e W' := by
  obtain ⟨t, p, g⟩ := h.ex
  exact ⟨t, p, fun F M σ H ds q Q r w k => g F M σ H ds q Q r (i ds q w) k⟩
/-- a scalar: no address in it -/
@[simp] def D.sca : D → Bool
  | .non => true
  | .bl _ => true
  | .int _ => true
  | .str _ => true
  | _ => false
theorem RT.int {i : Int} (t : RT Z K F M H v (.int i)) : v = .int i := by cases t with | dat h => cases h; rfl
theorem RT.bl {i : Bool} (t : RT Z K F M H v (.bl i)) : v = .bl i := by cases t with | dat h => cases h; rfl
theorem RT.str {i : Str} (t : RT Z K F M H v (.str i)) : v = .str i := by cases t with | dat h => cases h; rfl
theorem RT.non (t : RT Z K F M H v .non) : v = .non := by cases t with | dat h => cases h; rfl
theorem RT.lstR {xs : List D} (t : RT Z K F M H v (.lst xs)) : ∃ a vs, v = .ref a ∧ H a = some (.lst vs) ∧ RL K Z.C (era H M) vs xs := by
  cases t with
  | dat h => cases h with | lst a b => exact ⟨_, _, rfl, (era_in a).2, b⟩
  | lst b h l => exact ⟨_, _, rfl, h, l⟩
theorem RT.scrR {xs : List Int} (t : RT Z K F M H v (.scr xs)) : ∃ a, v = .ref a ∧ SqL K H a (xs.map V.int) := by
  cases t with
  | dat h => cases h with | scr a => exact ⟨_, rfl, sqL_full a⟩
theorem RT.ftuR {xs : List Int} (t : RT Z K F M H v (.ftu xs)) : ∃ a o, v = .ref a ∧ H a = some (.frz o (.tup (xs.map V.int))) ∧ o.cls = .type "tuple" ∧ o.dict = none := by
  cases t with
  | dat h => cases h with | ftu a b c => exact ⟨_, _, rfl, (era_in a).2, b, c⟩
theorem RT.tupR {xs : List D} (t : RT Z K F M H v (.tup xs)) : ∃ a vs, v = .ref a ∧ SqT K H a vs ∧ RL K Z.C (era H M) vs xs := by
  cases t with
  | dat h => cases h with | tup a b => exact ⟨_, _, rfl, era_full.tup a, b⟩
theorem RT.dicR {xs : List (Key × D)} (t : RT Z K F M H v (.dic xs)) : ∃ a kvs, v = .ref a ∧ Rd H a (.dK kvs) ∧ RK K Z.C (era H M) kvs xs := by
  cases t with
  | dat h => cases h with | dic a b => exact ⟨_, _, rfl, era_full.dic a, b⟩
  | dic b h l => exact ⟨_, _, rfl, .inl h, l⟩
theorem RT.stoR {n : Int} {x : D} (t : RT Z K F M H v (.sto n x)) : ∃ a dx u, v = .ref a ∧ H a = some (.ins Z.C dx [("size", .int n), ("offices", u)]) ∧ R K Z.C (era H M) u x := by
  cases t with
  | dat h => cases h with | sto a b => exact ⟨_, _, _, rfl, (era_in a).2, b⟩
/-- in the whole heap -/
theorem RT.full (t : RT Z K F M H v d) : R K Z.C H v d := by
  cases t with
  | dat h => exact h.le era_full
  | lst b h l => exact .lst h (RL.le era_full _ _ l)
  | dic b h l => exact .dic (.inl h) (RK.le era_full _ _ l)
theorem RT.py (t : RT Z K F M H v d) (p : d.pure = true) : Dp K H v d.py := t.full.py _ _ p
/-! ### names, constants -/
@[simp] def wNm (i : Nat) : TW := fun ds q => ∃ d, ds.s[i]? = some (.d d) ∧ q d
/-- a name that is read: its own or data -/
def SC.rd : SC → Option D
  | .d x => some x
  | .l xs => some (.lst xs)
  | .k kvs => some (.dic kvs)
  | _ => none
@[simp] theorem rd_d (x : D) : (SC.d x).rd = some x := rfl
@[simp] theorem rd_l (x : List D) : (SC.l x).rd = some (.lst x) := rfl
@[simp] theorem rd_k (x : List (Key × D)) : (SC.k x).rd = some (.dic x) := rfl
@[simp] def wNmR (i : Nat) : TW := fun ds q => ∃ c d, ds.s[i]? = some c ∧ c.rd = some d ∧ q d
@[simp] def wC (d : D) : TW := fun _ q => q d
variable {i : Nat} {x : Str} {pos : Pos}
theorem ej_nm (hN : X.N[i]? = some x) (hv : Vis X.env.scope x) (hd : (x == ("__debug__" : Str)) = false := by decide) (hcd : (x == ("__classdict__" : Str)) = false := by decide) : EJ Z .d X (.Name x pos) (wNm i) := by
  refine ⟨_, pe_var hN hv hd hcd, fun F M σ H ds q Q r w k => ?_⟩
  obtain ⟨d, e, z⟩ := w
  obtain ⟨v, h1, h2⟩ := r.sl i _ e
  exact ⟨v, h1, k v H d (.refl F H) h2 z⟩
theorem ej_nmR (hN : X.N[i]? = some x) (hv : Vis X.env.scope x) (hd : (x == ("__debug__" : Str)) = false := by decide) (hcd : (x == ("__classdict__" : Str)) = false := by decide) : EJ Z .r X (.Name x pos) (wNmR i) := by
  refine ⟨_, pe_var hN hv hd hcd, fun F M σ H ds q Q r w k => ?_⟩
  obtain ⟨c, d, e, e2, z⟩ := w
  have s := r.sl i _ e
  cases c with
  | no => cases e2
  | d x => cases e2; obtain ⟨v, h1, h2⟩ := s; exact ⟨v, h1, k v H _ (.refl F H) (.dat h2) z⟩
  | l xs => cases e2; obtain ⟨p, vs, h1, m, b, n, h, l⟩ := s; exact ⟨_, h1, k _ H _ (.refl F H) (.lst b h l) z⟩
  | k xs => cases e2; obtain ⟨p, vs, h1, m, b, n, h, l⟩ := s; exact ⟨_, h1, k _ H _ (.refl F H) (.dic b h l) z⟩
  | bx => cases e2
theorem ej_int {i : Int} {j} : EJ Z .d X (.Constant (.int i) j pos) (wC (.int i)) := ⟨_, pe_int, fun F M σ H ds q Q r w k => k _ _ _ (.refl F H) (.int i) w⟩
theorem ej_bl {b : Bool} {j} : EJ Z .d X (.Constant (.bool b) j pos) (wC (.bl b)) := ⟨_, pe_bl, fun F M σ H ds q Q r w k => k _ _ _ (.refl F H) (.bl b) w⟩
theorem ej_non {j} : EJ Z .d X (.Constant .none j pos) (wC .non) := ⟨_, pe_non, fun F M σ H ds q Q r w k => k _ _ _ (.refl F H) .non w⟩
theorem ej_str {x : Str} {j} : EJ Z .d X (.Constant (.str x) j pos) (wC (.str x)) := ⟨_, pe_str, fun F M σ H ds q Q r w k => k _ _ _ (.refl F H) (.str x) w⟩
theorem ej_gint {i : Int} {u : Value} (hg : Gl X x) (hm : X.mg x = some u) (r : RelV (.int i) u) (hd : (x == ("__debug__" : Str)) = false := by decide) : EJ Z .d X (.Name x pos) (wC (.int i)) :=
  ⟨_, pe_glob hg hm r hd, fun F M σ H ds q Q r w k => k _ _ _ (.refl F H) (.int i) w⟩
theorem ej_gstr {i : Str} {u : Value} (hg : Gl X x) (hm : X.mg x = some u) (r : RelV (.str i) u) (hd : (x == ("__debug__" : Str)) = false := by decide) : EJ Z .d X (.Name x pos) (wC (.str i)) :=
  ⟨_, pe_glob hg hm r hd, fun F M σ H ds q Q r w k => k _ _ _ (.refl F H) (.str i) w⟩
/-! ### operators, by values -/
/-- an operator's reading on data -/
def OpW (Z : ZZ) (m : Md) (K : PySem.W.Frag) (r : R2) (w : D → D → (D → Prop) → Prop) : Prop :=
  ∀ F M σ H ds x y dx dy (q : D → Prop) (Q : VK), Rep Z K F M σ H ds → RT Z K F M H x dx → RT Z K F M H y dy → w dx dy q →
    (∀ v H' d, Ext F H H' → Res Z m K F M H H' v d → q d → Q v H') → r x y H Q
@[simp] def wOp (w : D → D → (D → Prop) → Prop) (A B : TW) : TW := fun ds q => A ds fun x => B ds fun y => w x y q
/-- the new things of a later moment were new before -/
theorem Res.back {m : Md} (h : Res Z m K F M H1 H' v d) (b : ∀ p, H1 p = none → H p = none) : Res Z m K F M H H' v d := by
  cases m with
  | d => exact h
  | r => exact h
  | o =>
    cases (show RO Z K M H1 H' v d from h) with
    | lst hn a g => exact RO.lst (b _ hn) a g
    | dic hn a g => exact RO.dic (b _ hn) a g
theorem Rep.back (r : Rep Z K F M σ H ds) (x : Ext F H H1) : ∀ p, H1 p = none → H p = none := fun p h => by
  cases e : H p with
  | none => rfl
  | some o =>
    by_cases b : F.bx = some p
    · obtain ⟨_, _, _, z⟩ := x.box p b (r.bm p b).2
      rw [z] at h; cases h
    · rw [x.same p o b e] at h; cases h
theorem ej_two {m : Md} {a b : Expr} {A B : TW} {ta tb : TE} {r : R2} {w : D → D → (D → Prop) → Prop}
    (ga : ∀ F M σ H ds (q : D → Prop) (Q : VK), Rep Z X.K F M σ H ds → A ds q → (∀ v H' d, Ext F H H' → Res Z .r X.K F M H H' v d → q d → Q v H') → ta σ H Q)
    (gb : ∀ F M σ H ds (q : D → Prop) (Q : VK), Rep Z X.K F M σ H ds → B ds q → (∀ v H' d, Ext F H H' → Res Z .r X.K F M H H' v d → q d → Q v H') → tb σ H Q)
    (hw : OpW Z m X.K r w) : ∀ F M σ H ds (q : D → Prop) (Q : VK), Rep Z X.K F M σ H ds → wOp w A B ds q → (∀ v H' d, Ext F H H' → Res Z m X.K F M H H' v d → q d → Q v H') → tOp r ta tb σ H Q :=
  fun F M σ H ds q Q rp ww k => ga F M σ H ds _ _ rp ww fun x H1 dx x1 s1 w1 => gb F M σ H1 ds _ _ (rp.ext x1) w1 fun y H2 dy x2 s2 w2 =>
    hw F M σ H2 ds x y dx dy q Q ((rp.ext x1).ext x2) (RT.ext s1 (rp.ext x1) x2) s2 w2 fun v H3 d x3 s3 z =>
      k v H3 d ((x1.trans x2).trans x3) (s3.back fun p hp => rp.back (x1.trans x2) p hp) z
theorem ej_op {m : Md} {a b : Expr} {A B : TW} {op : Operator} {r : R2} {w : D → D → (D → Prop) → Prop} (ho : OpR X (binaryOp op) r) (hw : OpW Z m X.K r w) (ha : EJ Z .r X a A) (hb : EJ Z .r X b B) :
    EJ Z m X (.BinOp a op b pos) (wOp w A B) := by
  obtain ⟨ta, pa, ga⟩ := ha.ex
  obtain ⟨tb, pb, gb⟩ := hb.ex
  exact ⟨_, pe_op ho pa pb, ej_two (a := a) (b := b) ga gb hw⟩
theorem ej_cmp {a b : Expr} {A B : TW} {op : CmpOp} {r : R2} {w : D → D → (D → Prop) → Prop} (ho : OpR X (compareOp op) r) (hw : OpW Z .d X.K r w) (ha : EJ Z .r X a A) (hb : EJ Z .r X b B) (hm : behindInMarks op b = false) :
    EJ Z .d X (.Compare a [op] [b] pos) (wOp w A B) := by
  obtain ⟨ta, pa, ga⟩ := ha.ex
  obtain ⟨tb, pb, gb⟩ := hb.ex
  exact ⟨_, pe_cmpR ho pa pb hm, ej_two (a := a) (b := b) ga gb hw⟩
end
end G78
namespace G78
open PySem PySem.Spec PyProof.Rows L2
/-! ### data -/
section
variable {K : PySem.W.Frag} {H H' : Hp}
mutual
theorem dp_mono (e : Same H H') : ∀ (d : PyData) (v : V), Dp K H v d → Dp K H' v d
  | .none, _, h => by cases h; exact .non
  | .bool b, _, h => by cases h; exact .bl b
  | .int i, _, h => by cases h; exact .int i
  | .str x, _, h => by cases h; exact .str x
  | .list ds, _, h => by
    cases h with
    | lst hs ha => exact .lst (e.seq hs) (dpAll_mono e ds _ ha)
  | .tuple ds, _, h => by
    cases h with
    | tup hs ha =>
      refine .tup ?_ (dpAll_mono e ds _ ha)
      rcases hs with (hs | ⟨o, hs⟩) | hs
      · exact .inl (.inl (e _ _ hs))
      · exact .inl (.inr ⟨o, e _ _ hs⟩)
      · exact .inr hs
  | .dict _, _, h => by cases h
theorem dpAll_mono (e : Same H H') : ∀ (ds : List PyData) (vs : List V), DpAll K H vs ds → DpAll K H' vs ds
  | [], _, h => by cases h; exact .nil
  | d :: ds, _, h => by
    cases h with
    | cons h1 h2 => exact .cons (dp_mono e d _ h1) (dpAll_mono e ds _ h2)
end
theorem dpAll_ints : ∀ ns : List Int, DpAll K H (ns.map V.int) (ns.map PyData.int)
  | [] => .nil
  | n :: ns => .cons (.int n) (dpAll_ints ns)
theorem dpAll_len : ∀ {vs : List V} {ds : List PyData}, DpAll K H vs ds → vs.length = ds.length
  | _, _, .nil => rfl
  | _, _, .cons _ t => congrArg (· + 1) (dpAll_len t)
theorem dpAll_get : ∀ {vs : List V} {ds : List PyData}, DpAll K H vs ds → ∀ {i : Nat} {v : V}, vs[i]? = some v → ∃ d, ds[i]? = some d ∧ Dp K H v d
  | _, _, .nil, _, _, h => by simp at h
  | _, _, .cons h1 _, 0, _, h => by
    have e := Option.some.inj h
    subst e
    exact ⟨_, rfl, h1⟩
  | _, _, .cons _ t, i + 1, v, h => dpAll_get t (i := i) (v := v) (by simpa using h)
theorem dpAll_at : ∀ {vs : List V} {ds : List PyData}, DpAll K H vs ds → ∀ {i : Nat} {d : PyData}, ds[i]? = some d → ∃ v, vs[i]? = some v ∧ Dp K H v d
  | _, _, .nil, _, _, h => by simp at h
  | _, _, .cons h1 _, 0, _, h => by
    have e := Option.some.inj h
    subst e
    exact ⟨_, rfl, h1⟩
  | _, _, .cons _ t, i + 1, d, h => dpAll_at t (i := i) (d := d) (by simpa using h)
theorem dpAll_app : ∀ {vs ws : List V} {ds es : List PyData}, DpAll K H vs ds → DpAll K H ws es → DpAll K H (vs ++ ws) (ds ++ es)
  | _, _, _, _, .nil, t => t
  | _, _, _, _, .cons h r, t => .cons h (dpAll_app r t)
theorem dpAll_ints_inv : ∀ {ns : List Int} {vs : List V}, DpAll K H vs (ns.map PyData.int) → vs = ns.map V.int
  | [], _, h => by cases h; rfl
  | n :: ns, _, h => by
    cases h with
    | cons h1 h2 =>
      cases h1
      rw [dpAll_ints_inv h2]
      rfl
end
/-! ### max(t), t a tuple of ints -/
theorem maxD_ints : ∀ (xs : List Int) (x : Int), ∃ m, PySem.W.maxD (.int x) (xs.map PyData.int) = .int m ∧ m ∈ x :: xs ∧ ∀ y, y ∈ x :: xs → y ≤ m
  | [], x => ⟨x, rfl, List.mem_cons_self, fun y h => by rw [List.mem_singleton.mp h]; exact Int.le_refl _⟩
  | z :: xs, x => by
    have e : PySem.W.maxD (.int x) ((z :: xs).map PyData.int) = PySem.W.maxD (if PySem.W.dataLt (.int x) (.int z) then .int z else .int x) (xs.map PyData.int) := rfl
    rw [e, PySem.W.dataLt_int]
    by_cases h : x < z
    · rw [decide_eq_true h]
      obtain ⟨m, h1, h2, h3⟩ := maxD_ints xs z
      refine ⟨m, h1, List.mem_cons_of_mem _ h2, fun y hy => ?_⟩
      rcases List.mem_cons.mp hy with rfl | hy
      · have := h3 z List.mem_cons_self
        omega
      · exact h3 y hy
    · rw [decide_eq_false h]
      obtain ⟨m, h1, h2, h3⟩ := maxD_ints xs x
      refine ⟨m, h1, ?_, fun y hy => ?_⟩
      · rcases List.mem_cons.mp h2 with rfl | h2
        · exact List.mem_cons_self
        · exact List.mem_cons_of_mem _ (List.mem_cons_of_mem _ h2)
      · rcases List.mem_cons.mp hy with rfl | hy
        · exact h3 _ List.mem_cons_self
        · rcases List.mem_cons.mp hy with rfl | hy
          · have := h3 x List.mem_cons_self
            omega
          · exact h3 y (List.mem_cons_of_mem _ hy)
section
variable {X : Cx}
def rMaxT (K : PySem.W.Frag) : List V → Hp → VK → Prop := fun vs H Q => ∃ (a : Addr) (ns : List Int), vs = [V.ref a] ∧ SqT K H a (ns.map V.int) ∧ 0 < ns.length ∧ ∀ m, m ∈ ns → (∀ y, y ∈ ns → y ≤ m) → Q (.int m) H
theorem cr_maxT {k : Nat} (hc : X.calm = true) (hr : Room k X.A) : CallR X (.builtin "max") (rMaxT X.K) := by
  intro pins s σ H vs us Q I r h
  obtain ⟨a, ns, rfl, hs, hne, q⟩ := h
  rw [Vals.ref1 r]
  have ⟨its, rv, ht, _⟩ := I.tuple hs
  obtain ⟨x, xs, rfl⟩ : ∃ x xs, ns = x :: xs := by
    cases ns with
    | nil => cases hne
    | cons x xs => exact ⟨x, xs, rfl⟩
  have ⟨as, ra⟩ := Dp.readsAll I _ _ its (dpAll_ints (K := X.K) (H := H) (x :: xs)) rv
  have hal : ∀ d, d ∈ (x :: xs).map PyData.int → ∃ i, d = .int i := fun d hd => by
    obtain ⟨i, _, rfl⟩ := List.mem_map.mp hd
    exact ⟨i, rfl⟩
  refine PySem.W.max_tuple_data (x := .int x) (xs := xs.map .int) (I.ok.hd hc) ht (by simpa using ra) ⟨fun d1 h1 d2 h2 => ?_, fun d1 h1 e => ?_⟩ ?_ fun i v h' tk bs hv hrd hk => ?_
  · obtain ⟨i, rfl⟩ := hal d1 (by simpa using h1)
    obtain ⟨j, rfl⟩ := hal d2 (by simpa using h2)
    simp [PySem.W.alike]
  · obtain ⟨i, rfl⟩ := hal d1 (by simpa using h1)
    cases e
  · have e : PyData.depthAll (.int x :: xs.map .int) = 0 := PySem.W.depth_ints (x :: xs)
    rw [e]
    have := hr.units
    omega
  · obtain ⟨m, e, h1, h2⟩ := maxD_ints xs x
    rw [e] at hrd
    cases hrd with
    | int _ t => exact ⟨.int m, H, I.kept hk, ⟨t, rfl⟩, q m h1 h2⟩
/-! ### set(t), t a tuple of ints -/
def rSetT (K : PySem.W.Frag) (w : World) : List V → Hp → VK → Prop := fun vs H Q => ∃ (p : Addr) (ns : List Int), vs = [V.ref p] ∧ SqT K H p (ns.map V.int) ∧ ns.length ≤ 1000 ∧
  ∀ (q : Addr) (c : Nat), H q = none → c ≤ ns.length → Q (.ref q) (upd H q (SetO w q (fun j => decide (j ∈ ns)) c))
theorem cr_setT (hc : X.calm = true) : CallR X (.type "set") (rSetT X.K X.w) := by
  intro pins s σ H vs us Q I r h
  obtain ⟨p, ns, rfl, hs, hl, q⟩ := h
  rw [Vals.ref1 r]
  have ⟨its, rv, pt, _⟩ := I.tuple hs
  refine call_set_tupI ns (I.ok.hd hc) (show s.heap.IsTuple p its.toArray from pt) (ints_of_vals rv) (by unfold scanBound; omega) fun h' tk c R1 hcn k => ?_
  exact ⟨.ref s.heap.objs.size, _, I.laid (t' := tk) k (Nat.le_refl _) (setO_new R1), rfl, q _ c (I.hok.fresh (Nat.le_refl _)) hcn⟩
/-! ### t * 1 -/
def rRep1 (K : PySem.W.Frag) : R2 := fun x y H Q => ∃ (l : Addr) (xs : List V), x = .ref l ∧ y = .int 1 ∧ SqT K H l xs ∧ Q (.ref l) H
theorem tup_mul1 (l : Addr) (items : Array Value) (n : Nat) (dd : Option Addr) (sl : Array (Option Value)) (u : Tok) :
    Meets (Builtin.«tuple.__mul__» ⟨[.ref l, .int 1 u], []⟩) (fun _ R s => s.heap.get? l = some { cls := .type "tuple", dict := dd, data := .seq items n, slots := sl } ∧ R (.ok (.ret (Value.ref l))) s) :=
  .of_wp fun prog w A R s h => by
    obtain ⟨hp, g, d, tk, os⟩ := s
    obtain ⟨hl, h⟩ := h
    have f1 := AutoSeq1.idx_int
    wp_walk using wpAny_loadPart' hl
    repeat (first
      | (refine wpAny_ite_false (by decide) ?_; wp_walk using wpAny_loadPart' hl)
      | (refine wpAny_ite_true (by simp) ?_; wp_walk using wpAny_loadPart' hl))
    all_goals exact ⟨_, rfl, h⟩
end
end G78
namespace G78
open PySem PySem.Spec PyProof.Rows L2
section
variable {X : Cx}
theorem op_rep1 : OpR X (binaryOp .Mult) (rRep1 X.K) := by
  intro pins s σ H x y v u Q I rx ry h
  obtain ⟨l, xs, rfl, rfl, hT, q⟩ := h
  cases rx
  obtain ⟨t, rfl⟩ := ry
  obtain ⟨its, r, ⟨⟨cls, dd, data, sl⟩, ho, hc, n, hd⟩, hs⟩ := I.tuple hT
  simp only at hc hd
  subst hc hd
  refine wpAny_binaryOp_repeat_ref (T := "tuple") (U := "int") (by decide) ⟨_, ho, rfl⟩ (fun s' => typeIs_int s' 1 t) noFill_tuple_mul F.fills_int_mul F.slot_int_rmul repeat_tuple F.slot_int_index.lookup
    (call_meets F.slot_int_rmul (typeIs_int s 1 t) F.entry_int_rmul (F.args_int_rmul_2 _ _) (int_rmul_tuple 1 t l its.toArray n dd sl)
      ⟨ho, rfl, ⟨_, ho, rfl⟩, call_meets F.slot_tuple_mul ⟨_, ho, rfl⟩ F.entry_tuple_mul (F.args_tuple_mul_2 _ _) (tup_mul1 l its.toArray n dd sl t) ⟨ho, ?_⟩⟩)
  exact ⟨.ref l, H, I, rfl, q⟩
/-- t * n, 1 ≤ n: a one-item tuple -/
def rRepN (K : PySem.W.Frag) : R2 := fun x y H Q => ∃ (l : Addr) (v : V) (n : Nat), x = .ref l ∧ y = .int (n : Int) ∧ SqT K H l [v] ∧ 1 ≤ n ∧ n ≤ 1000 ∧
  ((n = 1 → Q (.ref l) H) ∧ ∀ p, H p = none → Q (.ref p) (upd H p (.tup (List.replicate n v))))
theorem op_repN : OpR X (binaryOp .Mult) (rRepN X.K) := by
  intro pins s σ H x y v u Q I rx ry h
  obtain ⟨l, z, n, rfl, rfl, hT, h1, h2, q1, q⟩ := h
  by_cases hn : n = 1
  · subst hn
    exact op_rep1 pins s σ H _ _ v u Q I rx ry ⟨l, [z], rfl, rfl, hT, q1 rfl⟩
  · refine op_repT pins s σ H _ _ v u Q I rx ry ⟨l, (n : Int), [z], rfl, rfl, hT, List.cons_ne_nil _ _, by omega, by omega, by show 1 ≤ 1000; decide, fun p hp => ?_⟩
    have e : (List.replicate (n : Int).toNat [z]).flatten = List.replicate n z := by
      rw [Int.toNat_natCast]
      simp
    rw [e]
    exact q p hp
/-! ### sorted(l), l a list of alike tuples -/
theorem vals_each : ∀ {ps : List (V × PyData)} {vs : List Value}, PySem.W.EachIs (fun v (b : V × PyData) => RelV b.1 v) vs ps → Vals (ps.map (·.1)) vs
  | _, _, .nil => .nil
  | _, _, .cons h t => .cons h (vals_each t)
theorem each_vals : ∀ {ps : List (V × PyData)} {vs : List Value}, Vals (ps.map (·.1)) vs → PySem.W.EachIs (fun v (b : V × PyData) => RelV b.1 v) vs ps
  | [], _, h => by
    cases h
    exact .nil
  | p :: ps, _, h => by
    cases h with
    | cons r t => exact .cons r (each_vals t)
theorem each_reads {pins : List (Addr × Obj)} {σ : L2.St} {H : Hp} {s : Shared} (I : Inv X pins σ H s) : ∀ {ps : List (V × PyData)} {vs : List Value}, Vals (ps.map (·.1)) vs → (∀ p ∈ ps, Dp X.K H p.1 p.2) →
    PySem.W.EachIs (fun v (b : V × PyData) => ∃ as, Reads s.heap v b.2 as) vs ps
  | [], _, h, _ => by
    cases h
    exact .nil
  | p :: ps, _, h, hd => by
    cases h with
    | cons r t => exact .cons (Dp.reads I p.2 p.1 _ (hd p List.mem_cons_self) r) (each_reads I t fun q hq => hd q (List.mem_cons_of_mem _ hq))
def rSortD (K : PySem.W.Frag) : List V → Hp → VK → Prop := fun vs H Q => ∃ (a : Addr) (ps : List (V × PyData)), vs = [V.ref a] ∧ SqL K H a (ps.map (·.1)) ∧ (∀ p ∈ ps, Dp K H p.1 p.2) ∧
  (∀ p ∈ ps, ∀ p' ∈ ps, PySem.W.alike p.2 p'.2 = true) ∧ (∀ p ∈ ps, ∃ x r, p.2 = .tuple (x :: r)) ∧ (∀ p ∈ ps, p.2.depth ≤ 20) ∧
  ∀ q, H q = none → Q (.ref q) (upd H q (.lst ((ps.mergeSort (PySem.W.dataLe false (·.2))).map (·.1))))
theorem cr_sortD {k : Nat} (hr : Room k X.A) : CallR X (.builtin "sorted") (rSortD X.K) := by
  intro pins s σ H vs us Q I r h
  obtain ⟨a, ps, rfl, hs, hd, hal, htu, hdp, q⟩ := h
  rw [Vals.ref1 r]
  have ⟨its, rv, hl, hz⟩ := I.list hs
  have hn : ps.length ≤ sizeLine := by
    rw [List.length_map] at hz
    exact hz
  refine PySem.W.sorted_data (enc := fun p : V × PyData => p.2) hl.isList (each_vals rv) (each_reads I rv hd) (fun d h1 d' h2 => ?_) (.inl fun d h1 => ?_) hn (fun b hb => ?_) fun out ho he => ?_
  · obtain ⟨p, hp, rfl⟩ := List.mem_map.mp h1
    obtain ⟨p', hp', rfl⟩ := List.mem_map.mp h2
    exact hal p hp p' hp'
  · obtain ⟨p, hp, rfl⟩ := List.mem_map.mp h1
    exact htu p hp
  · have h1 := hr.un
    have h2 := hdp b hb
    omega
  · obtain ⟨ep, he'⟩ := PyProof.Rows.sortedAll_at s.heap its out.toArray
    have rv2 := vals_each he
    have hlen : ((ps.mergeSort (PySem.W.dataLe false (·.2))).map (·.1)).length ≤ sizeLine := by
      rw [List.length_map, List.length_mergeSort]
      exact hn
    refine ⟨.ref _, upd H (s.heap.objs.size + 1) (.lst ((ps.mergeSort (PySem.W.dataLe false (·.2))).map (·.1))), I.laid (t' := s.toks) (fun _ _ => PyProof.Rows.sortedAll_old) (Nat.le_succ _) ⟨hlen, out, ep, rv2, he'⟩, rfl, ?_⟩
    exact q _ (I.hok.fresh (Nat.le_succ _))
/-! ### repr of data, where no repr is under way -/
def rReprD (K : PySem.W.Frag) : List V → Hp → VK → Prop := fun vs H Q => ∃ (v : V) (d : PyData), vs = [v] ∧ Dp K H v d ∧ (d ≠ .none ∧ ∀ x, d ≠ .str x) ∧ d.showable = true ∧ d.hasDict = false ∧ d.depth ≤ 20 ∧ d.shown.length ≤ sizeLine ∧ Q (.str d.shown) H
theorem call_reprD {k : Nat} (hr : Room k X.A) (hg : X.A.guards = some []) : CallR X (.builtin "repr") (rReprD X.K) := by
  intro pins s σ H vs us Q I r h
  obtain ⟨v, d, rfl, hd, hx, hs, hn, hdp, hz, q⟩ := h
  obtain ⟨u, rfl, ru⟩ := vals1 r
  have ⟨as, hrd⟩ := Dp.reads I d v u hd ru
  have hun := hr.un
  cases hrd with
  | none => exact absurd rfl hx.1
  | bool b =>
    exact PySem.P.repr_of_bool ⟨.str (PyData.bool b).shown, H, I.tok _, ⟨_, by cases b <;> rfl⟩, q⟩
  | int i t =>
    have hi : i.natAbs.log2 < 1920 := by
      have h1 : decide (i.natAbs.log2 < 1920) = true := hs
      exact of_decide_eq_true h1
    exact PySem.P.repr_of_int hi ⟨.str (PyData.int i).shown, H, I.tok _, ⟨_, rfl⟩, q⟩
  | str x t => exact absurd rfl (hx.2 x)
  | list h1 h2 h3 h4 =>
    exact repr_of_reads' (.list h1 h2 h3 h4) hs (fun e => by rw [hn] at e; cases e) hg (by omega) (fun _ _ e => e) (fun h' u tk hk => ⟨.str _, H, I.kept hk, ⟨u, rfl⟩, q⟩) hz
  | tuple h1 h2 h3 h4 =>
    exact repr_of_reads' (.tuple h1 h2 h3 h4) hs (fun e => by rw [hn] at e; cases e) hg (by omega) (fun _ _ e => e) (fun h' u tk hk => ⟨.str _, H, I.kept hk, ⟨u, rfl⟩, q⟩) hz
  | dict _ _ _ _ _ => cases hd
end
end G78
namespace G78
open PySem PySem.Spec PyProof.Rows L2
section
variable {X : Cx}
/-- a dict against an empty one -/
def rEqE : R2 := fun x y H Q => ∃ (a b : Addr) (ks : List (Key × V)), x = .ref a ∧ y = .ref b ∧ H a = some (.dK ks) ∧ H b = some (.dK []) ∧ Q (.bl ks.isEmpty) H
def rNeE : R2 := fun x y H Q => ∃ (a b : Addr) (ks : List (Key × V)), x = .ref a ∧ y = .ref b ∧ H a = some (.dK ks) ∧ H b = some (.dK []) ∧ Q (.bl (!ks.isEmpty)) H
theorem kv_nil {us : List (Key × Value)} (r : KV ([] : List (Key × V)) us) : us = [] := by
  cases r
  rfl
theorem kv_empty {ks : List (Key × V)} {us : List (Key × Value)} (r : KV ks us) : (us.length == 0) = ks.isEmpty := by
  cases r <;> simp
theorem op_eqE (hu : X.A.units < cLine) : OpR X (compareOp .Eq) rEqE := by
  intro pins s σ H x y v u Q I rx ry h
  obtain ⟨a, b, ks, rfl, rfl, ea, eb, q⟩ := h
  cases rx
  cases ry
  have ⟨_, ya, va, ra, da⟩ := (show ObjOk X.prog X.w H s.heap a (.dK ks) from I.hok a _ ea)
  have ⟨_, yb, vb, rb, db⟩ := (show ObjOk X.prog X.w H s.heap b (.dK []) from I.hok b _ eb)
  have e0 := kv_nil rb
  subst e0
  refine PySem.W.keq_eq (knd := mixKind X.prog X.w) (r := true) ya yb da db hu (fun hl => ?_) ?_
  · have e1 : va = [] := List.eq_nil_of_length_eq_zero hl
    subst e1
    exact PySem.W.KeqHits.nil
  · refine ⟨.bl ks.isEmpty, H, I, ?_, q⟩
    show Value.bool _ = Value.bool _
    rw [Bool.and_true]
    exact congrArg Value.bool (kv_empty ra)
theorem op_neE (hu : X.A.units < cLine) : OpR X (compareOp .NotEq) rNeE := by
  intro pins s σ H x y v u Q I rx ry h
  obtain ⟨a, b, ks, rfl, rfl, ea, eb, q⟩ := h
  cases rx
  cases ry
  have ⟨_, ya, va, ra, da⟩ := (show ObjOk X.prog X.w H s.heap a (.dK ks) from I.hok a _ ea)
  have ⟨_, yb, vb, rb, db⟩ := (show ObjOk X.prog X.w H s.heap b (.dK []) from I.hok b _ eb)
  have e0 := kv_nil rb
  subst e0
  refine PySem.W.keq_ne (knd := mixKind X.prog X.w) (r := true) ya yb da db hu (fun hl => ?_) ?_
  · have e1 : va = [] := List.eq_nil_of_length_eq_zero hl
    subst e1
    exact PySem.W.KeqHits.nil
  · refine ⟨.bl (!ks.isEmpty), H, I, ?_, q⟩
    show Value.bool _ = Value.bool _
    rw [Bool.and_true]
    exact congrArg (fun z => Value.bool (!z)) (kv_empty ra)

/-- t.index(k), t a tuple of ints, k in it -/
def rTupIdx (K : PySem.W.Frag) : V → List V → Hp → VK → Prop := fun x xs H Q => ∃ (p : Addr) (ns : List Int) (k : Int) (j : Nat), x = .ref p ∧ xs = [.int k] ∧ SqT K H p (ns.map V.int) ∧ ns[j]? = some k ∧ (∀ m, m < j → ns[m]? ≠ some k) ∧ Q (.int (j : Nat)) H
theorem flat_ints (ns : List Int) : (ns.map V.int).all flatV = true := List.all_eq_true.mpr fun x hx => by
  obtain ⟨n, _, rfl⟩ := List.mem_map.mp hx
  rfl
theorem mt_tupIdx : MtR X "tuple.index" (rTupIdx X.K) := by
  intro pins s σ H x xs v us Q I rx rs h
  obtain ⟨p, ns, k, j, rfl, rfl, hq, hy, hno, q⟩ := h
  cases rx
  obtain ⟨u, rfl, t, rfl⟩ := vals1 rs
  have ⟨its, r, ⟨⟨cls, dd, dt, sl⟩, ho, hc, n, hd⟩, _⟩ := I.tuple hq
  simp only at hc hd
  subst hc hd
  have hl : its.toArray.size = ns.length := by
    have e := r.length
    rw [List.length_map] at e
    simpa using e.symm
  have item : ∀ m (hm : m < its.toArray.size), ∃ i t', ns[m]? = some i ∧ its.toArray[m] = Value.int i t' := fun m hm => by
    have hm' : m < ns.length := hl ▸ hm
    obtain ⟨w, hw, t', hw'⟩ := r.get (i := m) (x := .int ns[m]) (by simp [hm'])
    refine ⟨ns[m], t', List.getElem?_eq_getElem hm', ?_⟩
    have e := (List.getElem?_eq_some_iff.mp hw).2
    simpa [← hw'] using e
  have hj : j < its.toArray.size := by
    rw [hl]
    exact (List.getElem?_eq_some_iff.mp hy).1
  refine call_meets PySem.F.slot_tuple_index ⟨_, ho, rfl⟩ PySem.F.entry_tuple_index (PySem.F.args_tuple_index_2 _ _)
    (TI.tuple_indexAt p its.toArray n dd sl (.int k t) (eqU (.int k)) j hj ?_ ?_)
    ⟨ho, fun w hw => mem_eqAt (x := .int k) ⟨t, rfl⟩ rfl r (flat_ints ns) w (by simpa using hw), .int (j : Nat), H, I.tok _, ⟨_, rfl⟩, q⟩
  · obtain ⟨i, t', h1, h2⟩ := item j hj
    rw [hy] at h1
    cases h1
    rw [h2]
    show (k == k) = true
    exact beq_self_eq_true k
  · intro m hm hmj
    obtain ⟨i, t', h1, h2⟩ := item m hm
    rw [h2]
    show (i == k) = false
    exact beq_eq_false_iff_ne.mpr fun e => hno m hmj (e ▸ h1)
end
end G78
namespace G78
open PySem PySem.Spec PyProof.Rows L2
section
variable {Z : ZZ} {K : PySem.W.Frag} {F : Fr} {M : Addr → Prop} {σ : L2.St} {H H' H1 : Hp} {ds : DS} {X : Cx} {v : V} {d : D} {p : Addr}
theorem era_upd (hp : H p = none) (o : HO) : Le (era H M) (era (upd H p o) fun a => M a ∨ a = p) := by
  rw [← era_grow (M := M) hp]
  exact era_le (fun _ z => z) fun a u m e => by rw [upd_ne (ne_of_none e hp)]; exact e
theorem era_upd' (hp : H p = none) (o : HO) : Le (era H M) (era (upd H p o) M) :=
  era_le (fun _ z => z) fun a u m e => by rw [upd_ne (ne_of_none e hp)]; exact e
/-- the new list -/
theorem RO.newL {vs : List V} {xs : List D} (hp : H p = none) (l : RL K Z.C (era H M) vs xs) : RO Z K M H (upd H p (.lst vs)) (.ref p) (.lst xs) := .lst hp upd_same (RL.le (era_upd hp _) _ _ l)
theorem RO.newD {vs : List (Key × V)} {xs : List (Key × D)} (hp : H p = none) (l : RK K Z.C (era H M) vs xs) : RO Z K M H (upd H p (.dK vs)) (.ref p) (.dic xs) := .dic hp upd_same (RK.le (era_upd hp _) _ _ l)
theorem RD.newT {vs : List V} {xs : List D} (r : Rep Z K F M σ H ds) (hp : H p = none) (l : RL K Z.C (era H M) vs xs) : R K Z.C (era (upd H p (.tup vs)) M) (.ref p) (.tup xs) :=
  .tup (.inl (.inl (era_of (r.fresh hp) upd_same))) (RL.le (era_upd' hp _) _ _ l)
theorem Ext.newL (hp : H p = none) (vs : List V) : Ext F H (upd H p (.lst vs)) := .new hp fun _ _ e => nomatch e
theorem Ext.newT (hp : H p = none) (vs : List V) : Ext F H (upd H p (.tup vs)) := .new hp fun _ _ e => nomatch e
theorem Ext.newD (hp : H p = none) (vs : List (Key × V)) : Ext F H (upd H p (.dK vs)) := .new hp fun _ _ e => nomatch e
theorem dat_of {m : Md} (hm : m ≠ .o) (h : R K Z.C (era H' M) v d) : Res Z m K F M H H' v d := by
  cases m with
  | d => exact h
  | r => exact .dat h
  | o => exact absurd rfl hm
/-! ### ints, texts, bools -/
@[simp] def wI (g : Int → Int → D) (x y : D) (q : D → Prop) : Prop := ∃ i j, x = .int i ∧ y = .int j ∧ q (g i j)
@[simp] def wIc (c : Int → Int → Prop) (g : Int → Int → D) (x y : D) (q : D → Prop) : Prop := ∃ i j, x = .int i ∧ y = .int j ∧ c i j ∧ q (g i j)
theorem ow_i {g : Int → Int → Int} : OpW Z .d K (rI0 fun i j => .int (g i j)) (wI fun i j => .int (g i j)) := by
  rintro F M σ H ds x y dx dy q Q r hx hy ⟨i, j, rfl, rfl, z⟩ k
  exact ⟨i, j, hx.int, hy.int, k _ _ _ (.refl F H) (.int _) z⟩
theorem ow_b {g : Int → Int → Bool} : OpW Z .d K (rI0 fun i j => .bl (g i j)) (wI fun i j => .bl (g i j)) := by
  rintro F M σ H ds x y dx dy q Q r hx hy ⟨i, j, rfl, rfl, z⟩ k
  exact ⟨i, j, hx.int, hy.int, k _ _ _ (.refl F H) (.bl _) z⟩
theorem ow_ic {c : Int → Int → Prop} {g : Int → Int → Int} : OpW Z .d K (rI c fun i j => .int (g i j)) (wIc c fun i j => .int (g i j)) := by
  rintro F M σ H ds x y dx dy q Q r hx hy ⟨i, j, rfl, rfl, hc, z⟩ k
  exact ⟨i, j, hx.int, hy.int, hc, k _ _ _ (.refl F H) (.int _) z⟩
@[simp] def wAddS (x y : D) (q : D → Prop) : Prop := ∃ i j : Str, x = .str i ∧ y = .str j ∧ i.length + j.length ≤ sizeLine ∧ q (.str (i ++ j))
theorem ow_adds : OpW Z .d K (fun x y H Q => ∃ i j, x = .str i ∧ y = .str j ∧ i.length + j.length ≤ sizeLine ∧ Q (.str (i ++ j)) H) wAddS := by
  rintro F M σ H ds x y dx dy q Q r hx hy ⟨i, j, rfl, rfl, hc, z⟩ k
  exact ⟨i, j, hx.str, hy.str, hc, k _ _ _ (.refl F H) (.str _) z⟩
/-- the flat ones -/
@[simp] def D.val : D → Option V
  | .non => some .non
  | .bl b => some (.bl b)
  | .int i => some (.int i)
  | .str x => some (.str x)
  | _ => none
theorem RT.val {w : V} (t : RT Z K F M H v d) (h : d.val = some w) : v = w := by
  cases d <;> simp [D.val] at h <;> subst h
  · exact t.non
  · exact t.bl
  · exact t.int
  · exact t.str
@[simp] def wEq (x y : D) (q : D → Prop) : Prop := ∃ a b, x.val = some a ∧ y.val = some b ∧ scal a b = true ∧ q (.bl (decide (a = b)))
@[simp] def wNe (x y : D) (q : D → Prop) : Prop := ∃ a b, x.val = some a ∧ y.val = some b ∧ scal a b = true ∧ q (.bl (!decide (a = b)))
theorem ow_eq : OpW Z .d K rEq wEq := by
  rintro F M σ H ds x y dx dy q Q r hx hy ⟨a, b, ha, hb, hs, z⟩ k
  rw [hx.val ha, hy.val hb]
  exact ⟨hs, k _ _ _ (.refl F H) (.bl _) z⟩
theorem ow_ne : OpW Z .d K rNe wNe := by
  rintro F M σ H ds x y dx dy q Q r hx hy ⟨a, b, ha, hb, hs, z⟩ k
  rw [hx.val ha, hy.val hb]
  exact ⟨hs, k _ _ _ (.refl F H) (.bl _) z⟩
def D.isNon : D → Bool
  | .non => true
  | _ => false
@[simp] theorem isNon_non : D.non.isNon = true := rfl
@[simp] theorem isNon_bl (b : Bool) : (D.bl b).isNon = false := rfl
@[simp] theorem isNon_int (b : Int) : (D.int b).isNon = false := rfl
@[simp] theorem isNon_str (b : Str) : (D.str b).isNon = false := rfl
@[simp] theorem isNon_lst (b : List D) : (D.lst b).isNon = false := rfl
@[simp] theorem isNon_tup (b : List D) : (D.tup b).isNon = false := rfl
@[simp] theorem isNon_dic (b : List (Key × D)) : (D.dic b).isNon = false := rfl
theorem RT.isNon (t : RT Z K F M H v d) : decide (v = .non) = d.isNon := by
  cases t with
  | dat h => cases h <;> rfl
  | lst b h l => rfl
  | dic b h l => rfl
@[simp] def wIsN (x y : D) (q : D → Prop) : Prop := y = .non ∧ q (.bl x.isNon)
@[simp] def wNotN (x y : D) (q : D → Prop) : Prop := y = .non ∧ q (.bl (!x.isNon))
theorem ow_isN : OpW Z .d K (fun x y H Q => y = .non ∧ Q (.bl (decide (x = .non))) H) wIsN := by
  rintro F M σ H ds x y dx dy q Q r hx hy ⟨rfl, z⟩ k
  rw [hx.isNon]
  exact ⟨hy.non, k _ _ _ (.refl F H) (.bl _) z⟩
theorem ow_notN : OpW Z .d K (fun x y H Q => y = .non ∧ Q (.bl (!decide (x = .non))) H) wNotN := by
  rintro F M σ H ds x y dx dy q Q r hx hy ⟨rfl, z⟩ k
  rw [hx.isNon]
  exact ⟨hy.non, k _ _ _ (.refl F H) (.bl _) z⟩
@[simp] def wIsB (x y : D) (q : D → Prop) : Prop := ∃ a b : Bool, x = .bl a ∧ y = .bl b ∧ q (.bl (decide (a = b)))
@[simp] def wNotB (x y : D) (q : D → Prop) : Prop := ∃ a b : Bool, x = .bl a ∧ y = .bl b ∧ q (.bl (!decide (a = b)))
theorem ow_isB : OpW Z .d K rIsB wIsB := by
  rintro F M σ H ds x y dx dy q Q r hx hy ⟨a, b, rfl, rfl, z⟩ k
  exact ⟨a, b, hx.bl, hy.bl, k _ _ _ (.refl F H) (.bl _) z⟩
theorem ow_notB : OpW Z .d K rNotB wNotB := by
  rintro F M σ H ds x y dx dy q Q r hx hy ⟨a, b, rfl, rfl, z⟩ k
  exact ⟨a, b, hx.bl, hy.bl, k _ _ _ (.refl F H) (.bl _) z⟩
/-! ### in -/
@[simp] def Has (y : D) (xs : List D) : Prop := y = .lst xs ∨ y = .tup xs
theorem RT.has {xs : List D} (t : RT Z K F M H v d) (h : Has d xs) : ∃ a vs, v = .ref a ∧ (SqL K H a vs ∨ SqT K H a vs) ∧ RL K Z.C (era H M) vs xs := by
  rcases h with rfl | rfl
  · obtain ⟨a, vs, e, h, l⟩ := t.lstR; exact ⟨a, vs, e, .inl (.of h), l⟩
  · obtain ⟨a, vs, e, h, l⟩ := t.tupR; exact ⟨a, vs, e, .inr h, l⟩
theorem inV_int (i : Int) (ns : List Int) : inV (.int i) (ns.map V.int) = decide (i ∈ ns) := by
  induction ns with
  | nil => rfl
  | cons n ns ih =>
    show (eqV (.int n) (.int i) || inV (.int i) (ns.map V.int)) = _
    rw [ih]
    show ((n == i) || decide (i ∈ ns)) = _
    by_cases e : n = i
    · subst e; simp
    · simp [e, Ne.symm e]
theorem inV_str (i : Str) (ns : List Str) : inV (.str i) (ns.map V.str) = decide (i ∈ ns) := by
  induction ns with
  | nil => rfl
  | cons n ns ih =>
    show (eqV (.str n) (.str i) || inV (.str i) (ns.map V.str)) = _
    rw [ih]
    show ((n == i) || decide (i ∈ ns)) = _
    by_cases e : n = i
    · subst e; simp
    · simp [e, Ne.symm e]
theorem flat_ints' (ns : List Int) : (ns.map V.int).all flatV = true := List.all_eq_true.mpr fun x hx => by
  obtain ⟨n, _, rfl⟩ := List.mem_map.mp hx
  rfl
theorem flat_strs' (ns : List Str) : (ns.map V.str).all flatV = true := List.all_eq_true.mpr fun x hx => by
  obtain ⟨n, _, rfl⟩ := List.mem_map.mp hx
  rfl
@[simp] def wIn (neg : Bool) (x y : D) (q : D → Prop) : Prop :=
  (∃ (i : Int) (ns : List Int), x = .int i ∧ Has y (ns.map D.int) ∧ q (.bl (if neg then !decide (i ∈ ns) else decide (i ∈ ns)))) ∨
  ∃ (i : Str) (ns : List Str), x = .str i ∧ Has y (ns.map D.str) ∧ q (.bl (if neg then !decide (i ∈ ns) else decide (i ∈ ns)))
theorem ow_in {neg : Bool} : OpW Z .d K (rIn K neg) (wIn neg) := by
  rintro F M σ H ds x y dx dy q Q r hx hy w k
  rcases w with ⟨i, ns, rfl, hh, z⟩ | ⟨i, ns, rfl, hh, z⟩
  · obtain ⟨a, vs, rfl, h, l⟩ := hy.has hh
    cases l.ints
    cases hx.int
    refine ⟨a, _, rfl, h, rfl, flat_ints' ns, ?_⟩
    rw [inV_int]
    exact k _ _ _ (.refl F H) (.bl _) z
  · obtain ⟨a, vs, rfl, h, l⟩ := hy.has hh
    cases l.strs
    cases hx.str
    refine ⟨a, _, rfl, h, rfl, flat_strs' ns, ?_⟩
    rw [inV_str]
    exact k _ _ _ (.refl F H) (.bl _) z
/-- a sign in a text -/
@[simp] def wInS (x y : D) (q : D → Prop) : Prop := ∃ (c : Nat) (z : Str), x = .str ⟨#[c]⟩ ∧ y = .str z ∧ q (.bl (decide (c ∈ z.cps.toList)))
theorem ow_inS : OpW Z .d K (fun x y H Q => ∃ (c : Nat) (z : Str), x = .str ⟨#[c]⟩ ∧ y = .str z ∧ Q (.bl (decide (c ∈ z.cps.toList))) H) wInS := by
  rintro F M σ H ds x y dx dy q Q r hx hy ⟨a, b, rfl, rfl, z⟩ k
  exact ⟨a, b, hx.str, hy.str, k _ _ _ (.refl F H) (.bl _) z⟩
/-! ### data compared -/
def D.ok (d : D) : Prop := d.pure = true ∧ SeqAt.shaped d.py = true
@[simp] def wEqD (x y : D) (q : D → Prop) : Prop := x.ok ∧ y.ok ∧ q (.bl (PyData.eqv x.py y.py))
@[simp] def wNeD (x y : D) (q : D → Prop) : Prop := x.ok ∧ y.ok ∧ q (.bl (!PyData.eqv x.py y.py))
theorem ow_eqD : OpW Z .d K (rEqD K) wEqD := by
  rintro F M σ H ds x y dx dy q Q r hx hy ⟨a, b, z⟩ k
  exact ⟨_, _, hx.py a.1, hy.py b.1, a.2, b.2, k _ _ _ (.refl F H) (.bl _) z⟩
theorem ow_neD : OpW Z .d K (rNeD K) wNeD := by
  rintro F M σ H ds x y dx dy q Q r hx hy ⟨a, b, z⟩ k
  exact ⟨_, _, hx.py a.1, hy.py b.1, a.2, b.2, k _ _ _ (.refl F H) (.bl _) z⟩
/-! ### lists and tuples put together -/
@[simp] def wCat (x y : D) (q : D → Prop) : Prop := ∃ a b, x = .lst a ∧ y = .lst b ∧ a.length + b.length ≤ sizeLine ∧ q (.lst (a ++ b))
theorem ow_cat : OpW Z .o K rCat wCat := by
  rintro F M σ H ds x y dx dy q Q r hx hy ⟨a, b, rfl, rfl, hs, z⟩ k
  obtain ⟨p1, vs, rfl, h1, l1⟩ := hx.lstR
  obtain ⟨p2, ws, rfl, h2, l2⟩ := hy.lstR
  refine ⟨p1, p2, vs, ws, rfl, rfl, h1, h2, by rw [l1.len, l2.len]; exact hs, fun p hp => ?_⟩
  exact k _ _ _ (.newL hp _) (RO.newL hp (l1.app l2)) z
@[simp] def wCatT (x y : D) (q : D → Prop) : Prop := ∃ a b, x = .tup a ∧ y = .tup b ∧ a.length + b.length ≤ sizeLine ∧ q (.tup (a ++ b))
theorem ow_catT : OpW Z .d K (rCatA K) wCatT := by
  rintro F M σ H ds x y dx dy q Q r hx hy ⟨a, b, rfl, rfl, hs, z⟩ k
  have hx' := hx
  have hy' := hy
  obtain ⟨p1, vs, rfl, h1, l1⟩ := hx.tupR
  obtain ⟨p2, ws, rfl, h2, l2⟩ := hy.tupR
  refine ⟨p1, p2, vs, ws, rfl, rfl, h1, h2, by rw [l1.len, l2.len]; exact hs, fun e => ?_, fun e1 e2 => ?_, fun e1 e2 p hp => ?_⟩
  · subst e
    cases a with
    | cons x xs => cases l1
    | nil =>
      refine k _ _ _ (.refl F H) ?_ z
      cases hy' with
      | dat h => exact h
  · subst e2
    cases b with
    | cons x xs => cases l2
    | nil =>
      rw [List.append_nil] at z
      refine k _ _ _ (.refl F H) ?_ z
      cases hx' with
      | dat h => exact h
  · exact k _ _ _ (.newT hp _) (RD.newT r hp (l1.app l2)) z
@[simp] def wRep (x y : D) (q : D → Prop) : Prop := ∃ (d : D) (n : Nat), x = .lst [d] ∧ y = .int n ∧ n ≤ 1000 ∧ q (.lst (List.replicate n d))
theorem RL.rep {v : V} {d : D} (h : R K Z.C H v d) : ∀ n, RL K Z.C H (List.replicate n v) (List.replicate n d)
  | 0 => .nil
  | n + 1 => .cons h (RL.rep h n)
theorem ow_rep : OpW Z .o K rRep wRep := by
  rintro F M σ H ds x y dx dy q Q r hx hy ⟨d, n, rfl, rfl, hs, z⟩ k
  obtain ⟨p1, vs, rfl, h1, l1⟩ := hx.lstR
  cases hy.int
  cases l1 with
  | cons l1 l2 =>
    cases l2
    refine ⟨p1, n, _, rfl, rfl, h1, by omega, by omega, by simp only [List.length_cons, List.length_nil, Int.toNat_natCast]; rw [sizeLine_eq]; omega, fun p hp => ?_⟩
    rename_i v
    have e : (List.replicate (n : Int).toNat [v]).flatten = List.replicate n v := by
      rw [Int.toNat_natCast]
      simp
    rw [e]
    exact k _ _ _ (.newL hp _) (RO.newL hp (RL.rep l1 n)) z
@[simp] def wRepT (x y : D) (q : D → Prop) : Prop := ∃ (d : D) (n : Nat), x = .tup [d] ∧ y = .int n ∧ 1 ≤ n ∧ n ≤ 1000 ∧ q (.tup (List.replicate n d))
theorem ow_repT : OpW Z .d K (rRepN K) wRepT := by
  rintro F M σ H ds x y dx dy q Q r hx hy ⟨d, n, rfl, rfl, h1, hs, z⟩ k
  have hx' := hx
  obtain ⟨p1, vs, rfl, h1', l1⟩ := hx.tupR
  cases hy.int
  cases l1 with
  | cons l1 l2 =>
    cases l2
    refine ⟨p1, _, n, rfl, rfl, h1', h1, hs, fun e => ?_, fun p hp => ?_⟩
    · subst e
      refine k _ _ _ (.refl F H) ?_ z
      cases hx' with
      | dat h => exact h
    · exact k _ _ _ (.newT hp _) (RD.newT r hp (RL.rep l1 n)) z
end
end G78
namespace G78
open PySem PySem.Spec PyProof.Rows L2
section
variable {Z : ZZ} {K : PySem.W.Frag} {F : Fr} {M : Addr → Prop} {σ : L2.St} {H H' H1 : Hp} {ds : DS} {X : Cx} {v : V} {d : D} {p : Addr} {m : Md} {e a b : Expr} {A B W : TW} {pos : Pos} {x : Str} {pp : Pos}
/-! ### tests -/
abbrev TWT := DS → (Bool → Prop) → Prop
structure TJ (Z : ZZ) (X : Cx) (e : Expr) (W : TWT) : Prop where
  ex : ∃ t, PT X e t ∧ ∀ F M σ H ds (q : Bool → Prop) (Q : Bool → Hp → Prop), Rep Z X.K F M σ H ds → W ds q → (∀ b H', Ext F H H' → q b → Q b H') → t σ H Q
structure TJW (Z : ZZ) (X : Cx) (e : Expr) (W : TWT) : Prop where
  ex : ∃ t, PW X e t ∧ ∀ F M σ H ds (q : Bool → Prop) (Q : Bool → Hp → Prop), Rep Z X.K F M σ H ds → W ds q → (∀ b H', Ext F H H' → q b → Q b H') → t σ H Q
@[simp] def wB (W : TW) : TWT := fun ds q => W ds fun d => ∃ b, d = .bl b ∧ q b
theorem tj_val (h : EJ Z .r X e W) (he : ∀ whole, isTrue e X.env whole = (do let v ← whole; standAt e.pos; holding [v] (truthy v)) := by intro _; rfl) : TJ Z X e (wB W) := by
  obtain ⟨t, p, g⟩ := h.ex
  refine ⟨_, pt_val p he, fun F M σ H ds q Q r w k => g F M σ H ds _ _ r w fun v H' d x s z => ?_⟩
  obtain ⟨b, rfl, z⟩ := z
  exact ⟨b, RT.bl s, k b H' x z⟩
theorem tj_cmp {op : CmpOp} {r : R2} {w : D → D → (D → Prop) → Prop} (ho : OpR X (compareOp op) r) (hw : OpW Z .d X.K r w) (ha : EJ Z .r X a A) (hb : EJ Z .r X b B) (hm : behindInMarks op b = false) :
    TJ Z X (.Compare a [op] [b] pos) (wB (wOp w A B)) := by
  obtain ⟨ta, pa, ga⟩ := ha.ex
  obtain ⟨tb, pb, gb⟩ := hb.ex
  refine ⟨_, pt_cmpR ho pa pb hm, fun F M σ H ds q Q r w k => ej_two (a := a) (b := b) ga gb hw F M σ H ds _ _ r w fun v H' d x s z => ?_⟩
  obtain ⟨c, rfl, z⟩ := z
  cases (show R _ _ _ _ _ from s)
  exact ⟨c, rfl, k c H' x z⟩
theorem TJW.tj {W : TWT} (h : TJW Z X e W) : TJ Z X e W := by
  obtain ⟨t, p, g⟩ := h.ex
  exact ⟨t, p.pt, g⟩
@[simp] def wAndT (A B : TWT) : TWT := fun ds q => A ds fun c => if c = true then B ds q else q false
@[simp] def wOrT (A B : TWT) : TWT := fun ds q => A ds fun c => if c = true then q true else B ds q
@[simp] def wNotT (A : TWT) : TWT := fun ds q => A ds fun c => q (!c)
section
variable {A B : TWT} {rest : List Expr}
theorem tj_and1 (h : TJ Z X e A) : TJW Z X (.BoolOp .And [e] pos) A := by
  obtain ⟨t, p, g⟩ := h.ex
  exact ⟨t, pw_and1 p, g⟩
theorem tj_or1 (h : TJ Z X e A) : TJW Z X (.BoolOp .Or [e] pos) A := by
  obtain ⟨t, p, g⟩ := h.ex
  exact ⟨t, pw_or1 p, g⟩
theorem tj_and (ha : TJ Z X a A) (hb : TJW Z X (.BoolOp .And (b :: rest) pos) B) : TJW Z X (.BoolOp .And (a :: b :: rest) pos) (wAndT A B) := by
  obtain ⟨ta, pa, ga⟩ := ha.ex
  obtain ⟨tb, pb, gb⟩ := hb.ex
  refine ⟨_, pw_and pa pb, fun F M σ H ds q Q r w k => ga F M σ H ds _ _ r w fun c H1 x1 w1 => ?_⟩
  cases c with
  | true => exact gb F M σ H1 ds q Q (r.ext x1) w1 fun b H2 x2 z => k b H2 (x1.trans x2) z
  | false => exact k false H1 x1 w1
theorem tj_or (ha : TJ Z X a A) (hb : TJW Z X (.BoolOp .Or (b :: rest) pos) B) : TJW Z X (.BoolOp .Or (a :: b :: rest) pos) (wOrT A B) := by
  obtain ⟨ta, pa, ga⟩ := ha.ex
  obtain ⟨tb, pb, gb⟩ := hb.ex
  refine ⟨_, pw_or pa pb, fun F M σ H ds q Q r w k => ga F M σ H ds _ _ r w fun c H1 x1 w1 => ?_⟩
  cases c with
  | true => exact k true H1 x1 w1
  | false => exact gb F M σ H1 ds q Q (r.ext x1) w1 fun b H2 x2 z => k b H2 (x1.trans x2) z
theorem tj_not (ha : TJ Z X a A) : TJ Z X (.UnaryOp .Not a pos) (wNotT A) := by
  obtain ⟨ta, pa, ga⟩ := ha.ex
  exact ⟨_, pt_not pa, fun F M σ H ds q Q r w k => ga F M σ H ds _ _ r w fun c H1 x1 w1 => k _ H1 x1 w1⟩
end
/-! ### and, or, not, if as values -/
@[simp] def wAnd (A B : TW) : TW := fun ds q => A ds fun x => ∃ c, x = .bl c ∧ if c = true then B ds q else q (.bl false)
@[simp] def wOr (A B : TW) : TW := fun ds q => A ds fun x => ∃ c, x = .bl c ∧ if c = true then q (.bl true) else B ds q
@[simp] def wNot (A : TW) : TW := fun ds q => A ds fun x => ∃ c, x = .bl c ∧ q (.bl (!c))
theorem ej_one {op} (h : EJ Z m X e W) : EJ Z m X (.BoolOp op [e] pos) W := by
  obtain ⟨t, p, g⟩ := h.ex
  exact ⟨t, pe_one p, g⟩
theorem ej_and {rest : List Expr} (ha : EJ Z .r X a A) (hb : EJ Z .d X (.BoolOp .And (b :: rest) pos) B) : EJ Z .d X (.BoolOp .And (a :: b :: rest) pos) (wAnd A B) := by
  obtain ⟨ta, pa, ga⟩ := ha.ex
  obtain ⟨tb, pb, gb⟩ := hb.ex
  refine ⟨_, pe_and pa pb, fun F M σ H ds q Q r w k => ga F M σ H ds _ _ r w fun v H1 d x1 s w1 => ?_⟩
  obtain ⟨c, rfl, w1⟩ := w1
  refine ⟨c, RT.bl s, ?_⟩
  cases c with
  | true => exact gb F M σ H1 ds q Q (r.ext x1) w1 fun v H2 d x2 s z => k v H2 d (x1.trans x2) s z
  | false => exact k _ H1 _ x1 (.bl false) w1
theorem ej_or {rest : List Expr} (ha : EJ Z .r X a A) (hb : EJ Z .d X (.BoolOp .Or (b :: rest) pos) B) : EJ Z .d X (.BoolOp .Or (a :: b :: rest) pos) (wOr A B) := by
  obtain ⟨ta, pa, ga⟩ := ha.ex
  obtain ⟨tb, pb, gb⟩ := hb.ex
  refine ⟨_, pe_or pa pb, fun F M σ H ds q Q r w k => ga F M σ H ds _ _ r w fun v H1 d x1 s w1 => ?_⟩
  obtain ⟨c, rfl, w1⟩ := w1
  refine ⟨c, RT.bl s, ?_⟩
  cases c with
  | true => exact k _ H1 _ x1 (.bl true) w1
  | false => exact gb F M σ H1 ds q Q (r.ext x1) w1 fun v H2 d x2 s z => k v H2 d (x1.trans x2) s z
theorem ej_not (ha : EJ Z .r X a A) : EJ Z .d X (.UnaryOp .Not a pos) (wNot A) := by
  obtain ⟨ta, pa, ga⟩ := ha.ex
  refine ⟨_, pe_not pa, fun F M σ H ds q Q r w k => ga F M σ H ds _ _ r w fun v H1 d x1 s w1 => ?_⟩
  obtain ⟨c, rfl, w1⟩ := w1
  exact ⟨c, RT.bl s, k _ H1 _ x1 (.bl _) w1⟩
@[simp] def wIf (C : TWT) (A B : TW) : TW := fun ds q => C ds fun c => if c = true then A ds q else B ds q
theorem ej_if {c : Expr} {C : TWT} (hm : m = .d) (hc : TJ Z X c C) (ha : EJ Z .d X a A) (hb : EJ Z .d X b B) : EJ Z m X (.IfExp c a b pos) (wIf C A B) := by
  subst hm
  obtain ⟨tc, pc, gc⟩ := hc.ex
  obtain ⟨ta, pa, ga⟩ := ha.ex
  obtain ⟨tb, pb, gb⟩ := hb.ex
  refine ⟨_, pe_ifExp pc pa pb, fun F M σ H ds q Q r w k => gc F M σ H ds _ _ r w fun c H1 x1 w1 => ?_⟩
  cases c with
  | true => exact ga F M σ H1 ds q Q (r.ext x1) w1 fun v H2 d x2 s z => k v H2 d (x1.trans x2) s z
  | false => exact gb F M σ H1 ds q Q (r.ext x1) w1 fun v H2 d x2 s z => k v H2 d (x1.trans x2) s z
/-- -a -/
@[simp] def wNeg (A : TW) : TW := fun ds q => A ds fun x => ∃ i, x = .int i ∧ q (.int (-i))
theorem ej_neg (ha : EJ Z .r X a A) : EJ Z .d X (.UnaryOp .USub a pos) (wNeg A) := by
  obtain ⟨ta, pa, ga⟩ := ha.ex
  refine ⟨_, pe_un un_neg pa, fun F M σ H ds q Q r w k => ga F M σ H ds _ _ r w fun v H1 d x1 s w1 => ?_⟩
  obtain ⟨i, rfl, w1⟩ := w1
  exact ⟨i, RT.int s, k _ H1 _ x1 (.int _) w1⟩
/-- a < b < c on ints -/
@[simp] def wChI (f g : Int → Int → Bool) (A B C : TW) : TW := fun ds q => A ds fun x => B ds fun y => ∃ i j, x = .int i ∧ y = .int j ∧ if f i j = true then C ds fun z => ∃ l, z = .int l ∧ q (.bl (g j l)) else q (.bl false)
theorem gj_chain {C : TW} {f g : Int → Int → Bool} {ta tb tc : TE}
    (ga : ∀ F M σ H ds (q : D → Prop) (Q : VK), Rep Z X.K F M σ H ds → A ds q → (∀ v H' d, Ext F H H' → Res Z .r X.K F M H H' v d → q d → Q v H') → ta σ H Q)
    (gb : ∀ F M σ H ds (q : D → Prop) (Q : VK), Rep Z X.K F M σ H ds → B ds q → (∀ v H' d, Ext F H H' → Res Z .r X.K F M H H' v d → q d → Q v H') → tb σ H Q)
    (gc : ∀ F M σ H ds (q : D → Prop) (Q : VK), Rep Z X.K F M σ H ds → C ds q → (∀ v H' d, Ext F H H' → Res Z .r X.K F M H H' v d → q d → Q v H') → tc σ H Q) :
    ∀ F M σ H ds (q : D → Prop) (Q : VK), Rep Z X.K F M σ H ds → wChI f g A B C ds q → (∀ v H' d, Ext F H H' → Res Z .d X.K F M H H' v d → q d → Q v H') → tChain (rI0 fun i j => .bl (f i j)) (rI0 fun i j => .bl (g i j)) ta tb tc σ H Q :=
  fun F M σ H ds q Q r w k => ga F M σ H ds _ _ r w fun x H1 dx x1 s1 w1 => gb F M σ H1 ds _ _ (r.ext x1) w1 fun y H2 dy x2 s2 ⟨i, j, e1, e2, w2⟩ => by
    subst e1 e2
    cases RT.int s1
    cases RT.int s2
    refine ⟨i, j, rfl, rfl, f i j, rfl, ?_⟩
    cases hf : f i j with
    | true =>
      rw [hf] at w2
      exact gc F M σ H2 ds _ _ ((r.ext x1).ext x2) w2 fun z H3 dz x3 s3 ⟨l, e3, w3⟩ => by
        subst e3
        cases RT.int s3
        exact ⟨j, l, rfl, rfl, k _ H3 _ ((x1.trans x2).trans x3) (.bl _) w3⟩
    | false =>
      rw [hf] at w2
      exact k _ H2 _ (x1.trans x2) (.bl _) w2
theorem tj_chain {c : Expr} {C : TW} {f g : Int → Int → Bool} {op op' : CmpOp} (ho : OpR X (compareOp op) (rI0 fun i j => .bl (f i j))) (ho' : OpR X (compareOp op') (rI0 fun i j => .bl (g i j)))
    (ha : EJ Z .r X a A) (hb : EJ Z .r X b B) (hc : EJ Z .r X c C) (hm : lastMarks [op, op'] [b, c] = false := by with_unfolding_all rfl) : TJ Z X (.Compare a [op, op'] [b, c] pos) (wB (wChI f g A B C)) := by
  obtain ⟨ta, pa, ga⟩ := ha.ex
  obtain ⟨tb, pb, gb⟩ := hb.ex
  obtain ⟨tc, pc, gc⟩ := hc.ex
  refine ⟨_, pt_chain ho ho' pa pb pc hm, fun F M σ H ds q Q r w k => gj_chain ga gb gc F M σ H ds _ _ r w fun v H' d x s z => ?_⟩
  obtain ⟨c, rfl, z⟩ := z
  cases (show R _ _ _ _ _ from s)
  exact ⟨c, rfl, k c H' x z⟩
/-! ### items -/
@[simp] def wIx (x y : D) (q : D → Prop) : Prop := ∃ xs i d, Has x xs ∧ y = .int i ∧ atI xs i = some d ∧ q d
@[simp] def wIxS (x y : D) (q : D → Prop) : Prop := ∃ (z : Str) (i : Int) (c : Nat), x = .str z ∧ y = .int i ∧ z.length ≤ sizeLine ∧ atI z.cps.toList i = some c ∧ q (.str ⟨#[c]⟩)
@[simp] def wIxR (x y : D) (q : D → Prop) : Prop := ∃ ns i n, x = .scr ns ∧ y = .int i ∧ atI ns i = some n ∧ q (.int n)
theorem RL.atI {vs : List V} {xs : List D} {i : Int} {d : D} {C : Addr} (l : RL K C H vs xs) (h : atI xs i = some d) : ∃ v, L2.atI vs i = some v ∧ R K C H v d := by
  unfold L2.atI at h ⊢
  rw [← l.len] at h
  cases e : ixN vs.length i with
  | none => rw [e] at h; cases h
  | some j =>
    rw [e] at h
    exact l.get h
theorem ow_ix : OpW Z .d K (rIx K) wIx := by
  rintro F M σ H ds x y dx dy q Q r hx hy ⟨xs, i, d, hh, rfl, hi, z⟩ k
  obtain ⟨a, vs, rfl, h, l⟩ := hx.has hh
  cases hy.int
  obtain ⟨v, e, rv⟩ := l.atI hi
  rcases h with h | h
  · exact .inl ⟨a, vs, i, v, rfl, rfl, h, e, k _ _ _ (.refl F H) rv z⟩
  · exact .inr (.inl ⟨a, vs, i, v, rfl, rfl, h, e, k _ _ _ (.refl F H) rv z⟩)
theorem ow_ixS : OpW Z .d K rIxS wIxS := by
  rintro F M σ H ds x y dx dy q Q r hx hy ⟨xs, i, d, rfl, rfl, hs, hi, z⟩ k
  exact ⟨_, i, d, hx.str, hy.int, hs, hi, k _ _ _ (.refl F H) (.str _) z⟩
theorem ow_ixR : OpW Z .d K (rIxL K) wIxR := by
  rintro F M σ H ds x y dx dy q Q r hx hy ⟨xs, i, d, rfl, rfl, hi, z⟩ k
  obtain ⟨a, rfl, h⟩ := hx.scrR
  cases hy.int
  refine ⟨a, _, i, .int d, rfl, rfl, h, ?_, k _ _ _ (.refl F H) (.int _) z⟩
  unfold atI at hi ⊢
  rw [List.length_map]
  cases e : ixN xs.length i with
  | none => rw [e] at hi; cases hi
  | some j =>
    rw [e] at hi
    show (xs.map V.int)[j]? = _
    rw [List.getElem?_map, show xs[j]? = some d from hi]
    rfl
theorem ej_ix {r : R2} {w : D → D → (D → Prop) → Prop} (hr : IxR X r) (hw : OpW Z m X.K r w) (ha : EJ Z .r X a A) (hb : EJ Z .r X b B) (hs : PlainIx b := by exact fun _ _ => rfl) : EJ Z m X (.Subscript a b pos) (wOp w A B) := by
  obtain ⟨ta, pa, ga⟩ := ha.ex
  obtain ⟨tb, pb, gb⟩ := hb.ex
  exact ⟨_, pe_ix hr pa pb hs, ej_two (a := a) (b := b) ga gb hw⟩
/-- a key's data -/
@[simp] def D.key : D → Option Key
  | .int i => some (.inl i)
  | .str x => some (.inr x)
  | _ => none
theorem RT.key {k : Key} (t : RT Z K F M H v d) (h : d.key = some k) : v = kV k := by
  cases d <;> simp [D.key] at h <;> subst h
  · exact t.int
  · exact t.str
/-- d[k] -/
@[simp] def wDget (A B : TW) : TW := fun ds q => A ds fun x => B ds fun y => ∃ kds k d, x = .dic kds ∧ y.key = some k ∧ dgt kds k = some d ∧ q d
theorem ej_dget {kk : Nat} (hr : Room kk X.A) (ha : EJ Z .r X a A) (hb : EJ Z .r X b B) (hs : NoSl b := by exact fun _ _ => rfl) : EJ Z .d X (.Subscript a b pos) (wDget A B) := by
  obtain ⟨ta, pa, ga⟩ := ha.ex
  obtain ⟨tb, pb, gb⟩ := hb.ex
  refine ⟨_, pe_dget (hu_of hr) pa pb hs, fun F M σ H ds q Q r w k => ga F M σ H ds _ _ r w fun x H1 dx x1 s1 w1 => gb F M σ H1 ds _ _ (r.ext x1) w1 fun y H2 dy x2 s2 ⟨kds, ky, d, e1, e2, e3, z⟩ => ?_⟩
  subst e1
  obtain ⟨a, kvs, rfl, h, l⟩ := RT.dicR (RT.ext s1 (r.ext x1) x2)
  rcases l.val ky with ⟨_, n⟩ | ⟨v, d', h1, h2, rv⟩
  · rw [n] at e3; cases e3
  · rw [h2] at e3; cases e3
    exact ⟨a, v, rfl, .inl ⟨kvs, ky, h, RT.key s2 e2, h1.symm⟩, k _ _ _ (x1.trans x2) rv z⟩
/-- k in d -/
@[simp] def wDin (neg : Bool) (A B : TW) : TW := fun ds q => A ds fun y => B ds fun x => ∃ kds k, x = .dic kds ∧ y.key = some k ∧ q (.bl (if neg then !(dgt kds k).isSome else (dgt kds k).isSome))
theorem gj_din {neg : Bool} {ta tb : TE}
    (ga : ∀ F M σ H ds (q : D → Prop) (Q : VK), Rep Z X.K F M σ H ds → A ds q → (∀ v H' d, Ext F H H' → Res Z .r X.K F M H H' v d → q d → Q v H') → ta σ H Q)
    (gb : ∀ F M σ H ds (q : D → Prop) (Q : VK), Rep Z X.K F M σ H ds → B ds q → (∀ v H' d, Ext F H H' → Res Z .r X.K F M H H' v d → q d → Q v H') → tb σ H Q) :
    ∀ F M σ H ds (q : D → Prop) (Q : VK), Rep Z X.K F M σ H ds → wDin neg A B ds q → (∀ v H' d, Ext F H H' → Res Z .d X.K F M H H' v d → q d → Q v H') →
      ta σ H fun y H1 => tb σ H1 fun x H2 => ∃ a o, x = .ref a ∧ DGet H2 a y o ∧ Q (.bl (if neg then !o.isSome else o.isSome)) H2 :=
  fun F M σ H ds q Q r w k => ga F M σ H ds _ _ r w fun y H1 dy x1 s1 w1 => gb F M σ H1 ds _ _ (r.ext x1) w1 fun x H2 dx x2 s2 ⟨kds, ky, e1, e2, z⟩ => by
    subst e1
    obtain ⟨a, kvs, rfl, h, l⟩ := RT.dicR s2
    refine ⟨a, valV kvs ky, rfl, .inl ⟨kvs, ky, h, RT.key s1 e2, rfl⟩, k _ _ _ (x1.trans x2) (.bl _) ?_⟩
    rcases l.val ky with ⟨h1, h2⟩ | ⟨v, d, h1, h2, _⟩
    · rw [h1]; rw [h2] at z; exact z
    · rw [h1]; rw [h2] at z; exact z
theorem ej_din {kk : Nat} (hr : Room kk X.A) (ha : EJ Z .r X a A) (hb : EJ Z .r X b B) (h1 : behindInMarks .In b = false) : EJ Z .d X (.Compare a [.In] [b] pos) (wDin false A B) := by
  obtain ⟨ta, pa, ga⟩ := ha.ex
  obtain ⟨tb, pb, gb⟩ := hb.ex
  exact ⟨_, pe_cmp (pc_din (hu_of hr) pa pb) h1, gj_din (neg := false) ga gb⟩
theorem ej_dnin {kk : Nat} (hr : Room kk X.A) (ha : EJ Z .r X a A) (hb : EJ Z .r X b B) (h1 : behindInMarks .NotIn b = false) : EJ Z .d X (.Compare a [.NotIn] [b] pos) (wDin true A B) := by
  obtain ⟨ta, pa, ga⟩ := ha.ex
  obtain ⟨tb, pb, gb⟩ := hb.ex
  exact ⟨_, pe_cmp (pc_dnotin (hu_of hr) pa pb) h1, gj_din (neg := true) ga gb⟩
theorem tj_din {kk : Nat} (hr : Room kk X.A) (ha : EJ Z .r X a A) (hb : EJ Z .r X b B) (h1 : behindInMarks .In b = false) : TJ Z X (.Compare a [.In] [b] pos) (wB (wDin false A B)) := by
  obtain ⟨ta, pa, ga⟩ := ha.ex
  obtain ⟨tb, pb, gb⟩ := hb.ex
  refine ⟨_, pt_cmp (pc_din (hu_of hr) pa pb) h1, fun F M σ H ds q Q r w k => gj_din (neg := false) ga gb F M σ H ds _ (fun v H' => ∃ c, v = V.bl c ∧ Q c H') r w fun v H' d x s z => ?_⟩
  obtain ⟨c, rfl, z⟩ := z
  cases (show R _ _ _ _ _ from s)
  exact ⟨c, rfl, k c H' x z⟩
theorem tj_dnin {kk : Nat} (hr : Room kk X.A) (ha : EJ Z .r X a A) (hb : EJ Z .r X b B) (h1 : behindInMarks .NotIn b = false) : TJ Z X (.Compare a [.NotIn] [b] pos) (wB (wDin true A B)) := by
  obtain ⟨ta, pa, ga⟩ := ha.ex
  obtain ⟨tb, pb, gb⟩ := hb.ex
  refine ⟨_, pt_cmp (pc_dnotin (hu_of hr) pa pb) h1, fun F M σ H ds q Q r w k => gj_din (neg := true) ga gb F M σ H ds _ (fun v H' => ∃ c, v = V.bl c ∧ Q c H') r w fun v H' d x s z => ?_⟩
  obtain ⟨c, rfl, z⟩ := z
  cases (show R _ _ _ _ _ from s)
  exact ⟨c, rfl, k c H' x z⟩
/-- d.get(k, e) -/
@[simp] def wDget2 (A B C : TW) : TW := fun ds q => A ds fun x => ∃ kds, x = .dic kds ∧ B ds fun y => C ds fun z => ∃ k, y.key = some k ∧ q ((dgt kds k).getD z)
theorem ej_dget2 {kk : Nat} {c : Expr} {C : TW} {apos cpos : Pos} (hr : Room kk X.A) (ha : EJ Z .r X a A) (hb : EJ Z .r X b B) (hc : EJ Z .d X c C) (hm : M2 X a "get" apos b c cpos) :
    EJ Z .d X (.Call (.Attribute a "get" apos) [b, c] [] cpos) (wDget2 A B C) := by
  obtain ⟨ta, pa, ga⟩ := ha.ex
  obtain ⟨tb, pb, gb⟩ := hb.ex
  obtain ⟨tc, pc, gc⟩ := hc.ex
  refine ⟨_, pe_dget2 (hu_of hr) pa pb pc hm, fun F M σ H ds q Q r w k => ga F M σ H ds _ _ r w fun x H1 dx x1 s1 ⟨kds, e1, w1⟩ => ?_⟩
  subst e1
  have s1' := s1
  obtain ⟨a1, kvs, rfl, h, l⟩ := RT.dicR s1
  refine ⟨a1, rfl, .inl ⟨_, h⟩, gb F M σ H1 ds _ _ (r.ext x1) w1 fun y H2 dy x2 s2 w2 => gc F M σ H2 ds _ _ ((r.ext x1).ext x2) w2 fun z H3 dz x3 s3 ⟨ky, e2, w3⟩ => ?_⟩
  obtain ⟨a2, kvs2, e, h2, l2⟩ := RT.dicR (RT.ext s1' (r.ext x1) (x2.trans x3))
  cases e
  refine ⟨valV kvs2 ky, .inl ⟨kvs2, ky, h2, RT.key s2 e2, rfl⟩, ?_⟩
  rcases l2.val ky with ⟨n1, n2⟩ | ⟨v, d, n1, n2, rv⟩
  · rw [n1]; rw [n2] at w3
    exact k _ _ _ ((x1.trans x2).trans x3) s3 w3
  · rw [n1]; rw [n2] at w3
    exact k _ _ _ ((x1.trans x2).trans x3) rv w3
end
end G78
namespace G78
open PySem PySem.Spec PyProof.Rows L2
section
variable {Z : ZZ} {K : PySem.W.Frag} {F : Fr} {M : Addr → Prop} {σ : L2.St} {H H' H1 : Hp} {ds : DS} {X : Cx} {v : V} {d : D} {p : Addr} {m : Md} {e a b : Expr} {A B W : TW} {pos : Pos} {x : Str} {pp : Pos} {es : List Expr}
/-! ### arguments -/
abbrev TWA := DS → (List D → Prop) → Prop
structure AJ (Z : ZZ) (X : Cx) (es : List Expr) (W : TWA) : Prop where
  ex : ∃ t, PA X es t ∧ ∀ F M σ H ds (q : List D → Prop) (Q : List V → Hp → Prop), Rep Z X.K F M σ H ds → W ds q → (∀ vs H' xs, Ext F H H' → RL X.K Z.C (era H' M) vs xs → q xs → Q vs H') → t σ H Q
@[simp] def wNil : TWA := fun _ q => q []
@[simp] def wCons (A : TW) (B : TWA) : TWA := fun ds q => A ds fun x => B ds fun xs => q (x :: xs)
theorem aj_nil : AJ Z X [] wNil := ⟨_, pa_nil, fun F M σ H ds q Q r w k => k [] H [] (.refl F H) .nil w⟩
theorem aj_cons {B : TWA} (ha : EJ Z .d X e A) (hb : AJ Z X es B) (hs : starEach (e :: es) X.env = (false, eval e X.env) :: starEach es X.env := by rfl) : AJ Z X (e :: es) (wCons A B) := by
  obtain ⟨ta, pa, ga⟩ := ha.ex
  obtain ⟨tb, pb, gb⟩ := hb.ex
  refine ⟨_, pa_cons pa pb hs, fun F M σ H ds q Q r w k => ga F M σ H ds _ _ r w fun v H1 d x1 s1 w1 => gb F M σ H1 ds _ _ (r.ext x1) w1 fun vs H2 xs x2 s2 z => k _ H2 _ (x1.trans x2) ?_ z⟩
  exact .cons ((show R X.K Z.C (era H1 M) v d from s1).le ((r.ext x1).le x2)) s2
/-! ### displays -/
@[simp] def wLst (A : TWA) : TW := fun ds q => A ds fun xs => xs.length ≤ sizeLine ∧ q (.lst xs)
@[simp] def wTup (A : TWA) : TW := fun ds q => A ds fun xs => xs.length ≤ sizeLine ∧ q (.tup xs)
theorem ej_lst {A : TWA} (h : AJ Z X es A) : EJ Z .o X (.List es pos) (wLst A) := by
  obtain ⟨t, p, g⟩ := h.ex
  refine ⟨_, pe_lst p, fun F M σ H ds q Q r w k => g F M σ H ds _ _ r w fun vs H1 xs x1 s1 z => ⟨by rw [s1.len]; exact z.1, fun p hp => ?_⟩⟩
  exact k _ _ _ (x1.trans (.newL hp vs)) (Res.back (m := .o) (RO.newL hp s1) (r.back x1)) z.2
theorem ej_tup {x1} {A : TWA} (h : AJ Z X es A) : EJ Z .d X (.Tuple es x1 pos) (wTup A) := by
  obtain ⟨t, p, g⟩ := h.ex
  refine ⟨_, pe_tup p, fun F M σ H ds q Q r w k => g F M σ H ds _ _ r w fun vs H1 xs x1 s1 z => ⟨by rw [s1.len]; exact z.1, fun p hp => ?_⟩⟩
  exact k _ _ _ (x1.trans (.newT hp vs)) (RD.newT (r.ext x1) hp s1) z.2
@[simp] def wDic0 : TW := fun _ q => q (.dic [])
theorem ej_dic0 : EJ Z .o X (.Dict [] [] pos) wDic0 :=
  ⟨_, pe_dnewK, fun F M σ H ds q Q r w k => fun p hp => k _ _ _ (.newD hp _) (RO.newD hp .nil) w⟩
@[simp] def wDic1 (A B : TW) : TW := fun ds q => A ds fun x => B ds fun y => ∃ k, x.key = some k ∧ q (.dic [(k, y)])
theorem ej_dic1 (ha : EJ Z .d X a A) (hb : EJ Z .d X b B) : EJ Z .o X (.Dict [some a] [b] pos) (wDic1 A B) := by
  obtain ⟨ta, pa, ga⟩ := ha.ex
  obtain ⟨tb, pb, gb⟩ := hb.ex
  refine ⟨_, pe_disp (pps_cons pa pb pps_nil) (by rfl) (by rfl) (fun z => by cases z) (by show 1 ≤ 15; decide), fun F M σ H ds q Q r w k => fun p hp => ?_⟩
  have x0 : Ext F H (upd H p (.dK [])) := .newD hp _
  have r0 := r.grow x0 hp (by rw [upd_same]; exact Option.some_ne_none _)
  refine ga F _ σ _ ds _ _ r0 w fun v H1 d x1 s1 w1 => gb F _ σ H1 ds _ _ (r0.ext x1) w1 fun u H2 c x2 s2 ⟨ky, e1, z⟩ => ?_
  have hb : F.bx ≠ some p := r.bxN hp
  have h2 : H2 p = some (.dK []) := (x1.trans x2).same p _ hb upd_same
  have e2 : v = kV ky := RT.key (F := F) (.dat s1) e1
  subst e2
  refine ⟨h2, [(ky, u)], rfl, by show 1 ≤ 15; decide, ?_⟩
  have xx : Ext F H (upd H2 p (.dK (mergeK [] [(ky, u)]))) := by
    refine ⟨fun a o n e => ?_, fun b e h => ?_, fun a o kvs e => ?_⟩
    · rw [upd_ne (ne_of_none e hp)]
      exact (x0.trans (x1.trans x2)).same a o n e
    · obtain ⟨i, j, l, e'⟩ := (x0.trans (x1.trans x2)).box b e h
      exact ⟨i, j, l, by rw [upd_ne (fun z => hb (by rw [← z]; exact e))]; exact e'⟩
    · by_cases hap : a = p
      · subst hap; rw [upd_same] at e; cases e
      · rw [upd_ne hap] at e
        exact (x0.trans (x1.trans x2)).nl a o kvs e
  refine k _ _ _ xx (RO.dic hp upd_same ?_) z
  have l : Le (era H2 fun a => M a ∨ a = p) (era (upd H2 p (.dK (mergeK [] [(ky, u)]))) fun a => M a ∨ a = p) := era_le (fun _ z => z) fun a o m e => by
    rw [upd_ne (fun z => m (.inr z))]; exact e
  exact .cons ((show R X.K Z.C _ u c from s2).le l) .nil
/-! ### calls of built-ins with one thing -/
@[simp] def wB1 (w : DS → D → (D → Prop) → Prop) (A : TW) : TW := fun ds q => A ds fun x => w ds x q
/-- a call's reading on data -/
def C1W (Z : ZZ) (m : Md) (K : PySem.W.Frag) (r : List V → Hp → VK → Prop) (w : DS → D → (D → Prop) → Prop) : Prop :=
  ∀ F M σ H ds x dx (q : D → Prop) (Q : VK), Rep Z K F M σ H ds → RT Z K F M H x dx → w ds dx q → (∀ v H' d, Ext F H H' → Res Z m K F M H H' v d → q d → Q v H') → r [x] H Q
section
variable {r : List V → Hp → VK → Prop} {w : DS → D → (D → Prop) → Prop} {id T : String}
theorem gj_b1 {ta : TE} (ga : ∀ F M σ H ds (q : D → Prop) (Q : VK), Rep Z X.K F M σ H ds → A ds q → (∀ v H' d, Ext F H H' → Res Z .r X.K F M H H' v d → q d → Q v H') → ta σ H Q) (hw : C1W Z m X.K r w) :
    ∀ F M σ H ds (q : D → Prop) (Q : VK), Rep Z X.K F M σ H ds → wB1 w A ds q → (∀ v H' d, Ext F H H' → Res Z m X.K F M H H' v d → q d → Q v H') → tCB r (tCons ta tNil) σ H Q :=
  fun F M σ H ds q Q rp ww k => ga F M σ H ds _ _ rp ww fun x H1 dx x1 s1 w1 => hw F M σ H1 ds x dx q Q (rp.ext x1) s1 w1 fun v H2 d x2 s2 z => k v H2 d (x1.trans x2) (s2.back (rp.back x1)) z
theorem ej_b1 (hc : CallR X (.builtin id) r) (hw : C1W Z m X.K r w) (hg : Gl X x) (hm : X.mg x = none) (hv : bootBuiltins x = some (.builtin id)) (ha : EJ Z .r X a A)
    (hs : starEach [a] X.env = (false, eval a X.env) :: starEach [] X.env := by rfl) (hn : x ≠ "__name__" := by decide) (hdb : (x == ("__debug__" : Str)) = false := by decide) : EJ Z m X (.Call (.Name x pp) [a] [] pos) (wB1 w A) := by
  obtain ⟨ta, pa, ga⟩ := ha.ex
  exact ⟨_, pe_callB hc hg hm hv (pa_cons pa pa_nil hs) hn hdb hs rfl, gj_b1 ga hw⟩
theorem ej_t1 (hc : CallR X (.type T) r) (hw : C1W Z m X.K r w) (hg : Gl X x) (hm : X.mg x = none) (hv : bootBuiltins x = some (.type T)) (ha : EJ Z .r X a A)
    (hs : starEach [a] X.env = (false, eval a X.env) :: starEach [] X.env := by rfl) (hn : x ≠ "__name__" := by decide) (hdb : (x == ("__debug__" : Str)) = false := by decide) : EJ Z m X (.Call (.Name x pp) [a] [] pos) (wB1 w A) := by
  obtain ⟨ta, pa, ga⟩ := ha.ex
  exact ⟨_, pe_callTy hc hg hm hv (pa_cons pa pa_nil hs) hn hdb hs rfl, gj_b1 ga hw⟩
end
/-- len -/
@[simp] def wLen (_ : DS) (x : D) (q : D → Prop) : Prop := ∃ xs, Has x xs ∧ q (.int (xs.length : Int))
theorem cw_len : C1W Z .d K (fun xs H Q => ∃ p ys, xs = [.ref p] ∧ (SqL K H p ys ∨ SqT K H p ys) ∧ Q (.int (ys.length : Int)) H) wLen := by
  rintro F M σ H ds x dx q Q r hx ⟨xs, hh, z⟩ k
  obtain ⟨a, vs, rfl, h, l⟩ := hx.has hh
  refine ⟨a, vs, rfl, h, ?_⟩
  rw [l.len]
  exact k _ _ _ (.refl F H) (.int _) z
@[simp] def wLenR (_ : DS) (x : D) (q : D → Prop) : Prop := ∃ xs, x = .scr xs ∧ q (.int (xs.length : Int))
theorem cw_lenR : C1W Z .d K (fun xs H Q => ∃ p ys, xs = [.ref p] ∧ (SqL K H p ys ∨ SqT K H p ys) ∧ Q (.int (ys.length : Int)) H) wLenR := by
  rintro F M σ H ds x dx q Q r hx ⟨xs, rfl, z⟩ k
  obtain ⟨a, rfl, h⟩ := hx.scrR
  refine ⟨a, _, rfl, .inl h, ?_⟩
  rw [List.length_map]
  exact k _ _ _ (.refl F H) (.int _) z
@[simp] def wLenS (_ : DS) (x : D) (q : D → Prop) : Prop := ∃ z : Str, x = .str z ∧ z.length ≤ sizeLine ∧ q (.int (z.length : Int))
theorem cw_lenS : C1W Z .d K (fun xs H Q => ∃ z, xs = [.str z] ∧ z.length ≤ sizeLine ∧ Q (.int (z.length : Int)) H) wLenS := by
  rintro F M σ H ds x dx q Q r hx ⟨z, rfl, h, z1⟩ k
  exact ⟨z, by rw [hx.str], h, k _ _ _ (.refl F H) (.int _) z1⟩
theorem Rep.unl (r : Rep Z K F M σ H ds) (hn : ds.nl = true) {a : Addr} {kvs : List (Key × V)} (h : Rd H a (.dK kvs)) : H a = some (.dK kvs) := by
  rcases h with h | ⟨o, h⟩
  · exact h
  · exact absurd h (r.nl hn a o kvs)
@[simp] def wLenD (ds : DS) (x : D) (q : D → Prop) : Prop := ds.nl = true ∧ ∃ kds, x = .dic kds ∧ q (.int (kds.length : Int))
theorem cw_lenD : C1W Z .d K (fun xs H Q => ∃ a kvs, xs = [V.ref a] ∧ H a = some (.dK kvs) ∧ Q (.int (kvs.length : Int)) H) wLenD := by
  rintro F M σ H ds x dx q Q r hx ⟨hn, kds, rfl, z⟩ k
  obtain ⟨a, kvs, rfl, h, l⟩ := hx.dicR
  refine ⟨a, kvs, rfl, r.unl hn h, ?_⟩
  rw [l.len]
  exact k _ _ _ (.refl F H) (.int _) z
/-- abs, int, sum, max, min, any, all -/
@[simp] def wAbs (_ : DS) (x : D) (q : D → Prop) : Prop := ∃ i, x = .int i ∧ q (.int (if i < 0 then -i else i))
theorem cw_abs : C1W Z .d K (fun xs H Q => ∃ i, xs = [.int i] ∧ Q (.int (if i < 0 then -i else i)) H) wAbs := by
  rintro F M σ H ds x dx q Q r hx ⟨i, rfl, z⟩ k
  exact ⟨i, by rw [hx.int], k _ _ _ (.refl F H) (.int _) z⟩
@[simp] def wInt (_ : DS) (x : D) (q : D → Prop) : Prop := (∃ i, x = .int i ∧ q (.int i)) ∨ ∃ b : Bool, x = .bl b ∧ q (.int (if b then 1 else 0))
theorem cw_int : C1W Z .d K (fun xs H Q => (∃ i, xs = [.int i] ∧ Q (.int i) H) ∨ ∃ k : Bool, xs = [.bl k] ∧ Q (.int (if k then 1 else 0)) H) wInt := by
  rintro F M σ H ds x dx q Q r hx w k
  rcases w with ⟨i, rfl, z⟩ | ⟨b, rfl, z⟩
  · exact .inl ⟨i, by rw [hx.int], k _ _ _ (.refl F H) (.int _) z⟩
  · exact .inr ⟨b, by rw [hx.bl], k _ _ _ (.refl F H) (.int _) z⟩
@[simp] def wSum (_ : DS) (x : D) (q : D → Prop) : Prop := ∃ ns : List Int, x = .lst (ns.map D.int) ∧ q (.int ns.sum)
theorem cw_sum : C1W Z .d K (rSum K) wSum := by
  rintro F M σ H ds x dx q Q r hx ⟨ns, rfl, z⟩ k
  obtain ⟨a, vs, rfl, h, l⟩ := hx.lstR
  cases l.ints
  exact ⟨a, ns, rfl, .of h, k _ _ _ (.refl F H) (.int _) z⟩
@[simp] def wMax (_ : DS) (x : D) (q : D → Prop) : Prop := ∃ ns : List Int, x = .lst (ns.map D.int) ∧ 0 < ns.length ∧ ∀ m, m ∈ ns → (∀ y, y ∈ ns → y ≤ m) → q (.int m)
theorem cw_max : C1W Z .d K (rMax K) wMax := by
  rintro F M σ H ds x dx q Q r hx ⟨ns, rfl, h0, z⟩ k
  obtain ⟨a, vs, rfl, h, l⟩ := hx.lstR
  cases l.ints
  exact ⟨a, ns, rfl, .of h, h0, fun m h1 h2 => k _ _ _ (.refl F H) (.int _) (z m h1 h2)⟩
@[simp] def wMaxT (_ : DS) (x : D) (q : D → Prop) : Prop := ∃ ns : List Int, x = .tup (ns.map D.int) ∧ 0 < ns.length ∧ ∀ m, m ∈ ns → (∀ y, y ∈ ns → y ≤ m) → q (.int m)
theorem cw_maxT : C1W Z .d K (rMaxT K) wMaxT := by
  rintro F M σ H ds x dx q Q r hx ⟨ns, rfl, h0, z⟩ k
  obtain ⟨a, vs, rfl, h, l⟩ := hx.tupR
  cases l.ints
  exact ⟨a, ns, rfl, h, h0, fun m h1 h2 => k _ _ _ (.refl F H) (.int _) (z m h1 h2)⟩
@[simp] def wMin (_ : DS) (x : D) (q : D → Prop) : Prop := ∃ ns : List Int, x = .lst (ns.map D.int) ∧ 0 < ns.length ∧ ∀ m, m ∈ ns → (∀ y, y ∈ ns → m ≤ y) → q (.int m)
theorem cw_min : C1W Z .d K (rMin K) wMin := by
  rintro F M σ H ds x dx q Q r hx ⟨ns, rfl, h0, z⟩ k
  obtain ⟨a, vs, rfl, h, l⟩ := hx.lstR
  cases l.ints
  exact ⟨a, ns, rfl, .of h, h0, fun m h1 h2 => k _ _ _ (.refl F H) (.int _) (z m h1 h2)⟩
@[simp] def wAny (_ : DS) (x : D) (q : D → Prop) : Prop := ∃ bs : List Bool, x = .lst (bs.map D.bl) ∧ q (.bl (bs.any id))
theorem cw_any : C1W Z .d K (rAny K) wAny := by
  rintro F M σ H ds x dx q Q r hx ⟨ns, rfl, z⟩ k
  obtain ⟨a, vs, rfl, h, l⟩ := hx.lstR
  cases l.bls
  exact ⟨a, ns, rfl, .of h, k _ _ _ (.refl F H) (.bl _) z⟩
@[simp] def wAll (_ : DS) (x : D) (q : D → Prop) : Prop := ∃ bs : List Bool, x = .lst (bs.map D.bl) ∧ q (.bl (bs.all id))
theorem cw_all : C1W Z .d K (rAll K) wAll := by
  rintro F M σ H ds x dx q Q r hx ⟨ns, rfl, z⟩ k
  obtain ⟨a, vs, rfl, h, l⟩ := hx.lstR
  cases l.bls
  exact ⟨a, ns, rfl, .of h, k _ _ _ (.refl F H) (.bl _) z⟩
/-- list(x), tuple(x) -/
@[simp] def wList (_ : DS) (x : D) (q : D → Prop) : Prop := ∃ xs, Has x xs ∧ q (.lst xs)
theorem cw_list : C1W Z .o K (fun xs H Q => ∃ p ys, xs = [.ref p] ∧ (SqL K H p ys ∨ SqT K H p ys) ∧ ∀ l, H l = none → Q (.ref l) (upd H l (.lst ys))) wList := by
  rintro F M σ H ds x dx q Q r hx ⟨xs, hh, z⟩ k
  obtain ⟨a, vs, rfl, h, l⟩ := hx.has hh
  exact ⟨a, vs, rfl, h, fun p hp => k _ _ _ (.newL hp _) (RO.newL hp l) z⟩
@[simp] def wTuple (_ : DS) (x : D) (q : D → Prop) : Prop := ∃ xs, Has x xs ∧ q (.tup xs)
theorem cw_tuple : C1W Z .d K (fun xs H Q => ∃ p ys, xs = [.ref p] ∧ ((SqL K H p ys ∧ ∀ l, H l = none → Q (.ref l) (upd H l (.tup ys))) ∨ (SqT K H p ys ∧ Q (.ref p) H))) wTuple := by
  rintro F M σ H ds x dx q Q r hx ⟨xs, hh, z⟩ k
  rcases hh with rfl | rfl
  · obtain ⟨a, vs, rfl, h, l⟩ := hx.lstR
    exact ⟨a, vs, rfl, .inl ⟨.of h, fun p hp => k _ _ _ (.newT hp _) (RD.newT r hp l) z⟩⟩
  · have hx' := hx
    obtain ⟨a, vs, rfl, h, l⟩ := hx.tupR
    refine ⟨a, vs, rfl, .inr ⟨h, k _ _ _ (.refl F H) ?_ z⟩⟩
    cases hx' with
    | dat h => exact h
/-- sorted -/
@[simp] def wSortI (_ : DS) (x : D) (q : D → Prop) : Prop := ∃ ns : List Int, x = .lst (ns.map D.int) ∧ ∀ ms : List Int, ms.Perm ns → ms.Pairwise (· ≤ ·) → q (.lst (ms.map D.int))
theorem cw_sortI : C1W Z .o K (rSortedI K) wSortI := by
  rintro F M σ H ds x dx q Q r hx ⟨ns, rfl, z⟩ k
  obtain ⟨a, vs, rfl, h, l⟩ := hx.lstR
  cases l.ints
  exact ⟨a, ns, rfl, .of h, fun ms p h1 h2 hp => k _ _ _ (.newL hp _) (RO.newL hp (RL.int_of ms)) (z ms h1 h2)⟩
/-- sorted(d), the keys ints -/
@[simp] def wSortK (_ : DS) (x : D) (q : D → Prop) : Prop := ∃ (kds : List (Key × D)) (ns : List Int), x = .dic kds ∧ kds.map (·.1) = ns.map Sum.inl ∧ ns.length < 64 ∧ ∀ ms : List Int, ms.Perm ns → ms.Pairwise (· ≤ ·) → q (.lst (ms.map D.int))
theorem cw_sortK : C1W Z .o K (fun xs H Q => ∃ (a : Addr) (kvs : List (Key × V)) (ks : List Int), xs = [.ref a] ∧ Rd H a (.dK kvs) ∧ kvs.map (·.1) = ks.map Sum.inl ∧ ks.length < 64 ∧ ∀ (ys : List Int) (p : Addr), ys.Perm ks → ys.Pairwise (· ≤ ·) → H p = none → Q (.ref p) (upd H p (.lst (ys.map V.int)))) wSortK := by
  rintro F M σ H ds x dx q Q r hx ⟨kds, ns, rfl, hk, hl, z⟩ k
  obtain ⟨a, kvs, rfl, h, l⟩ := hx.dicR
  exact ⟨a, kvs, ns, rfl, h, by rw [l.keys]; exact hk, hl, fun ms p h1 h2 hp => k _ _ _ (.newL hp _) (RO.newL hp (RL.int_of ms)) (z ms h1 h2)⟩
/-- sorted(l), l a list of alike tuples -/
@[simp] def wSortD (_ : DS) (x : D) (q : D → Prop) : Prop := ∃ xs : List D, x = .lst xs ∧ (∀ y ∈ xs, y.pure = true) ∧ (∀ y ∈ xs, ∀ z ∈ xs, PySem.W.alike y.py z.py = true) ∧ (∀ y ∈ xs, ∃ a r, y = .tup (a :: r)) ∧ (∀ y ∈ xs, y.py.depth ≤ 20) ∧
  q (.lst (xs.mergeSort (PySem.W.dataLe false D.py)))
theorem zip_rl : ∀ {vs : List V} {xs : List D}, RL K Z.C H vs xs → (vs.zip xs).map (·.1) = vs ∧ (vs.zip xs).map (·.2) = xs
  | _, [], h => by cases h; exact ⟨rfl, rfl⟩
  | _, x :: xs, h => by
    cases h with
    | cons a b =>
      obtain ⟨h1, h2⟩ := zip_rl b
      exact ⟨by simp [h1], by simp [h2]⟩
theorem zip_mem : ∀ {vs : List V} {xs : List D}, RL K Z.C H vs xs → ∀ p ∈ vs.zip xs, p.2 ∈ xs ∧ R K Z.C H p.1 p.2
  | _, [], h, p, hp => by cases h; cases hp
  | _, x :: xs, h, p, hp => by
    cases h with
    | cons a b =>
      rcases List.mem_cons.mp hp with rfl | hp
      · exact ⟨List.mem_cons_self, a⟩
      · obtain ⟨h1, h2⟩ := zip_mem b p hp
        exact ⟨List.mem_cons_of_mem _ h1, h2⟩
theorem rl_of_pairs : ∀ {ps : List (V × D)}, (∀ p ∈ ps, R K Z.C H p.1 p.2) → RL K Z.C H (ps.map (·.1)) (ps.map (·.2))
  | [], _ => .nil
  | p :: ps, h => .cons (h p List.mem_cons_self) (rl_of_pairs fun q hq => h q (List.mem_cons_of_mem _ hq))
theorem map_mergeSort {α β : Type} {le : α → α → Bool} {le' : β → β → Bool} {f : α → β} (h : ∀ x y, le x y = le' (f x) (f y)) (l : List α) : (l.mergeSort le).map f = (l.map f).mergeSort le' := by
  have := List.map_mergeSort (r := le) (s := le') (f := f) (l := l) fun a _ b _ => h a b
  exact this
theorem cw_sortD : C1W Z .o K (rSortD K) wSortD := by
  rintro F M σ H ds x dx q Q r hx ⟨xs, rfl, hp, ha, ht, hd, z⟩ k
  obtain ⟨a, vs, rfl, h, l⟩ := hx.lstR
  obtain ⟨z1, z2⟩ := zip_rl l
  have zm := zip_mem l
  refine ⟨a, (vs.zip xs).map fun p => (p.1, p.2.py), rfl, ?_, fun p hp' => ?_, fun p h1 p' h2 => ?_, fun p h1 => ?_, fun p h1 => ?_, fun p hpn => ?_⟩
  · rw [List.map_map]
    have e : ((fun p : V × PyData => p.1) ∘ fun p : V × D => (p.1, p.2.py)) = fun p => p.1 := rfl
    rw [e, z1]
    exact .of h
  · obtain ⟨u, hu, rfl⟩ := List.mem_map.mp hp'
    obtain ⟨m1, m2⟩ := zm u hu
    exact (m2.le era_full).py _ _ (hp _ m1)
  · obtain ⟨u, hu, rfl⟩ := List.mem_map.mp h1
    obtain ⟨u', hu', rfl⟩ := List.mem_map.mp h2
    exact ha _ (zm u hu).1 _ (zm u' hu').1
  · obtain ⟨u, hu, rfl⟩ := List.mem_map.mp h1
    obtain ⟨b, c, e⟩ := ht _ (zm u hu).1
    exact ⟨b.py, D.pys c, by show u.2.py = _; rw [e]; rfl⟩
  · obtain ⟨u, hu, rfl⟩ := List.mem_map.mp h1
    exact hd _ (zm u hu).1
  · have e1 : ((vs.zip xs).map fun p => (p.1, p.2.py)).mergeSort (PySem.W.dataLe false (·.2)) = ((vs.zip xs).mergeSort (PySem.W.dataLe false fun p => p.2.py)).map fun p => (p.1, p.2.py) :=
      (map_mergeSort (f := fun p : V × D => (p.1, p.2.py)) (le := PySem.W.dataLe false fun p : V × D => p.2.py) (le' := PySem.W.dataLe false fun p : V × PyData => p.2) (fun _ _ => rfl) (vs.zip xs)).symm
    have e2 : ((vs.zip xs).mergeSort (PySem.W.dataLe false fun p => p.2.py)).map (·.2) = xs.mergeSort (PySem.W.dataLe false D.py) := by
      rw [map_mergeSort (f := fun p : V × D => p.2) (le := PySem.W.dataLe false fun p : V × D => p.2.py) (le' := PySem.W.dataLe false D.py) (fun _ _ => rfl), z2]
    rw [e1, List.map_map]
    rw [← e2] at z
    refine k _ _ _ (.newL hpn _) (RO.newL hpn ?_) z
    have e : ((fun p : V × PyData => p.1) ∘ fun p : V × D => (p.1, p.2.py)) = fun p => p.1 := rfl
    rw [e]
    exact rl_of_pairs fun p hp => (zm p ((List.mergeSort_perm _ _).mem_iff.mp hp)).2
/-- repr -/
@[simp] def wRepr (_ : DS) (x : D) (q : D → Prop) : Prop := x.pure = true ∧ (x.py ≠ .none ∧ ∀ s, x.py ≠ .str s) ∧ x.py.showable = true ∧ x.py.hasDict = false ∧ x.py.depth ≤ 20 ∧ x.py.shown.length ≤ sizeLine ∧ q (.str x.py.shown)
theorem cw_repr : C1W Z .d K (rReprD K) wRepr := by
  rintro F M σ H ds x dx q Q r hx ⟨h1, h2, h3, h4, h5, h6, z⟩ k
  exact ⟨x, _, rfl, hx.py h1, h2, h3, h4, h5, h6, k _ _ _ (.refl F H) (.str _) z⟩
end
end G78
namespace G78
open PySem PySem.Spec PyProof.Rows L2
section
variable {X : Cx}
/-- tuple(l): the new tuple is known, it has no dict of its own -/
theorem call_tupleF : CallR X (.type "tuple") (fun xs H Q => ∃ (p : Addr) (ys : List V), xs = [.ref p] ∧ SqL X.K H p ys ∧ ∀ l o, H l = none → o.cls = .type "tuple" → o.dict = none → Q (.ref l) (upd H l (.frz o (.tup ys)))) := by
  intro pins s σ H xs us Q I r h
  obtain ⟨p, ys, rfl, hq, q⟩ := h
  obtain ⟨u, rfl, rx⟩ := vals1 r
  cases rx
  have ⟨its, r', pl, hz⟩ := I.list hq
  have hlen := r'.length
  refine call_tuple_list pl.isList (fun h' kp => ?_) (by simp only [List.size_toArray] <;> omega)
  have I1 : Inv X pins σ H { s with heap := h' } := I.kept (t' := s.toks) kp
  have I2 : Inv X pins σ (upd H h'.objs.size (.frz { cls := .type "tuple", data := .seq its.toArray } (.tup ys))) { s with heap := h'.push { cls := .type "tuple", data := .seq its.toArray } } :=
    I1.laid (t' := s.toks) (fun b o e => Heap.get?_push_of_some _ e) (Nat.le_refl _) ⟨Heap.get?_push_size _ rfl, (show ObjOk X.prog X.w _ _ _ (.tup ys) from ⟨hz, its, r', IsTup.new _ _⟩)⟩
  exact ⟨.ref h'.objs.size, _, I2, rfl, q _ _ (I1.hok.fresh (Nat.le_refl _)) rfl rfl⟩
def tTI (r : V → List V → Hp → VK → Prop) (to : TE) (t : TA) : TE := fun σ H Q => to σ H fun x H1 => (∃ p ob u, x = V.ref p ∧ H1 p = some (.frz ob u) ∧ ob.cls = .type "tuple" ∧ ob.dict = none) ∧ t σ H1 fun xs H2 => r x xs H2 Q
/-- t.m(e), t a tuple that is known -/
theorem pe_bmF {o e : Expr} {es : List Expr} {to : TE} {t : TA} {name : Str} {apos cpos : Pos} {id : String} {r : V → List V → Hp → VK → Prop} (slot : Slot "tuple" name id) (hty : typeOf (.builtin id) = pure (.type "method_descriptor")) (hm : MtR X id r) (ho : PE X o to) (ha : PA X (e :: es) t)
    (hbase : attributeBase o name X.env (eval o X.env) = eval o X.env := by rfl)
    (hfew : ((backTo cpos (starEach (e :: es) X.env)).all (fun x => !x.1) && (backToKw cpos (keywordEach [] X.env)).all (fun x => x.1.isSome)
      && decide ((e :: es).length + ([] : List Keyword).length + (if ([] : List Keyword).isEmpty then 0 else 1) < 30)) = true := by rfl)
    (hline : (apos.endLine == cpos.line) = true := by rfl) (hs : starEach (e :: es) X.env = (false, eval e X.env) :: starEach es X.env := by rfl) (hplain : (backTo cpos (starEach es X.env)).any (·.1) = false := by rfl) :
    PE X (.Call (.Attribute o name apos) (e :: es) [] cpos) (tTI r to t) := by
  refine ⟨fun pins s σ H Q I h => ?_⟩
  refine wpAny_Call_method_late hbase hfew hline rfl (thn (ho.run pins s σ H _ I h) fun v s1 ⟨x, H1, I1, r1, ⟨p, ob, u, ex, hp, hcl, hdd⟩, q1⟩ => ?_)
  subst ex
  have hA := ha.run cpos pins s1 σ H1 _ I1 q1
  have r1' := r1
  obtain rfl : v = Value.ref p := r1
  have hg : s1.heap.get? p = some ob := (show ObjOk X.prog X.w H1 s1.heap p (.frz ob u) from I1.hok p _ hp).1
  refine ⟨"tuple", id, PySem.F.plainAttrs_tuple, slot, hty, ⟨ob, hg, hcl⟩, fun a e => ?_, ?_⟩
  · cases e
    exact ⟨ob, hg, hdd⟩
  rw [hs] at hA ⊢
  refine Calls.callWith_builtin (by show (false || (backTo cpos (starEach es X.env)).any (·.1)) = false; rw [hplain] <;> rfl) (Calls.evalArgs_plain ?_)
  exact thn hA fun us s2 ⟨vs, H2, I2, r2, q2⟩ => hm pins s2 σ H2 (.ref p) vs (.ref p) us Q I2 r1' r2 q2
end
end G78
namespace G78
open PySem PySem.Spec PyProof.Rows L2
section
variable {Z : ZZ} {K : PySem.W.Frag} {F : Fr} {M : Addr → Prop} {σ : L2.St} {H H' H1 : Hp} {ds : DS} {X : Cx} {v : V} {d : D} {p : Addr} {m : Md} {e a b : Expr} {A B W : TW} {pos : Pos} {x : Str} {pp : Pos} {es : List Expr}
/-! ### sorted(set(t)), t a tuple of ints -/
@[simp] def wSSet (A : TW) : TW := fun ds q => A ds fun x => ∃ ns : List Int, x = .tup (ns.map D.int) ∧ ns.length < 64 ∧ ∀ ms : List Int, ms.Pairwise (· < ·) → (∀ k, k ∈ ms ↔ k ∈ ns) → q (.lst (ms.map D.int))
theorem ej_sset {p1 p2 pos2 : Pos} (hc : X.calm = true) (hg : Gl X "sorted") (hm : X.mg "sorted" = none) (hg2 : Gl X "set") (hm2 : X.mg "set" = none) (ha : EJ Z .r X a A)
    (hs : starEach [a] X.env = (false, eval a X.env) :: starEach [] X.env := by rfl) : EJ Z .o X (.Call (.Name "sorted" p1) [.Call (.Name "set" p2) [a] [] pos2] [] pos) (wSSet A) := by
  obtain ⟨ta, pa, ga⟩ := ha.ex
  refine ⟨_, pe_callB (cr_sortedSet hc) hg hm (by decide +kernel) (pa_cons (pe_callTy (cr_setT hc) hg2 hm2 (by decide +kernel) (pa_cons pa pa_nil hs) (by decide) (by decide) hs rfl) pa_nil rfl) (by decide) (by decide) rfl rfl, fun F M σ H ds q Q r w k => ga F M σ H ds _ _ r w fun x H1 d x1 s1 ⟨ns, e1, h1, w1⟩ => ?_⟩
  subst e1
  obtain ⟨a, vs, rfl, h, l⟩ := RT.tupR s1
  cases l.ints
  refine ⟨a, ns, rfl, h, by omega, fun p c hp hl => ⟨p, _, c, rfl, upd_same, by omega, fun ms p' o1 o2 o3 hp' => ?_⟩⟩
  have x2 : Ext F H1 (upd H1 p (SetO X.w p (fun j => decide (j ∈ ns)) c)) := .new hp fun _ _ e => by unfold SetO at e; cases e
  refine k _ _ _ ((x1.trans x2).trans (.newL hp' _)) (Res.back (m := .o) (RO.newL hp' (RL.int_of ms)) (r.back (x1.trans x2))) (w1 ms o1 fun k => by rw [o2 k]; simp)
/-! ### ranges -/
def rg (i j : Int) : List Int := (List.range (j - i).toNat).map fun k => i + (k : Nat)
theorem rg_vals (i j : Int) : rgV i j = (rg i j).map V.int := by unfold rgV rg; rw [List.map_map]; rfl
def rgN (n : Nat) : List Int := (List.range n).map fun k : Nat => (k : Int)
theorem rg_0 (n : Nat) : rg 0 n = rgN n := by
  unfold rg rgN
  rw [show ((n : Int) - 0).toNat = n by omega]
  exact List.map_congr_left fun k _ => Int.zero_add _
@[simp] def wRg1 (A : TW) (f : List D → D) : TW := fun ds q => A ds fun x => ∃ n : Nat, x = .int n ∧ n ≤ 100000 ∧ q (f ((rgN n).map D.int))
theorem rg_ok {n : Nat} (h : n ≤ 100000) : RgOk 0 (n : Int) := .of_le (by omega) (by omega) (by omega) (by omega)
theorem ej_listRg {p1 p2 pos2 : Pos} (hc : X.calm = true) (hg : Gl X "list") (hm : X.mg "list" = none) (hg2 : Gl X "range") (hm2 : X.mg "range" = none) (ha : EJ Z .r X a A)
    (hs : starEach [a] X.env = (false, eval a X.env) :: starEach [] X.env := by rfl) : EJ Z .o X (.Call (.Name "list" p1) [.Call (.Name "range" p2) [a] [] pos2] [] pos) (wRg1 A .lst) := by
  obtain ⟨ta, pa, ga⟩ := ha.ex
  refine ⟨_, pe_listRg hc hg hm (prg_1 hg2 hm2 pa hs), fun F M σ H ds q Q r w k => ga F M σ H ds _ _ r w fun x H1 d x1 s1 ⟨n, e1, h1, w1⟩ => ?_⟩
  subst e1
  cases RT.int s1
  refine ⟨n, rfl, rg_ok h1, fun p hp => ?_⟩
  rw [rg_vals, rg_0]
  exact k _ _ _ (x1.trans (.newL hp _)) (Res.back (m := .o) (RO.newL hp (RL.int_of _)) (r.back x1)) w1
theorem ej_tupRg {p1 p2 pos2 : Pos} (hc : X.calm = true) (hg : Gl X "tuple") (hm : X.mg "tuple" = none) (hg2 : Gl X "range") (hm2 : X.mg "range" = none) (ha : EJ Z .r X a A)
    (hs : starEach [a] X.env = (false, eval a X.env) :: starEach [] X.env := by rfl) : EJ Z .d X (.Call (.Name "tuple" p1) [.Call (.Name "range" p2) [a] [] pos2] [] pos) (wRg1 A .tup) := by
  obtain ⟨ta, pa, ga⟩ := ha.ex
  refine ⟨_, pe_tupRg hc hg hm (prg_1 hg2 hm2 pa hs), fun F M σ H ds q Q r w k => ga F M σ H ds _ _ r w fun x H1 d x1 s1 ⟨n, e1, h1, w1⟩ => ?_⟩
  subst e1
  cases RT.int s1
  refine ⟨n, rfl, rg_ok h1, fun p hp => ?_⟩
  rw [rg_vals, rg_0]
  exact k _ _ _ (x1.trans (.newT hp _)) (RD.newT (r.ext x1) hp (RL.int_of _)) w1
/-! ### l.index(x), t.index(x) -/
@[simp] def wIdx (A B : TW) : TW := fun ds q => A ds fun x => ∃ ns : List Int, x = .lst (ns.map D.int) ∧ B ds fun y => ∃ (k : Int) (j : Nat), y = .int k ∧ ns[j]? = some k ∧ (∀ m, m < j → ns[m]? ≠ some k) ∧ q (.int (j : Nat))
theorem eqV_int (a b : Int) : eqV (.int a) (.int b) = true ↔ a = b := by show (a == b) = true ↔ _; simp
section
variable {apos : Pos}
theorem ej_idx (ha : EJ Z .r X a A) (hb : EJ Z .r X b B)
    (hbase : attributeBase a "index" X.env (eval a X.env) = eval a X.env := by rfl)
    (hfew : ((backTo pos (starEach [b] X.env)).all (fun x => !x.1) && (backToKw pos (keywordEach [] X.env)).all (fun x => x.1.isSome)
      && decide ([b].length + ([] : List Keyword).length + (if ([] : List Keyword).isEmpty then 0 else 1) < 30)) = true := by rfl)
    (hline : (apos.endLine == pos.line) = true := by rfl) (hs : starEach [b] X.env = (false, eval b X.env) :: starEach [] X.env := by rfl) :
    EJ Z .d X (.Call (.Attribute a "index" apos) [b] [] pos) (wIdx A B) := by
  obtain ⟨ta, pa, ga⟩ := ha.ex
  obtain ⟨tb, pb, gb⟩ := hb.ex
  refine ⟨_, pe_bm PySem.F.plainAttrs_list PySem.F.slot_list_index PySem.F.type_list_index mt_index pa (pa_cons pb pa_nil hs) hbase hfew hline hs rfl, fun F M σ H ds q Q r w k => ga F M σ H ds _ _ r w fun x H1 dx x1 s1 ⟨ns, e1, w1⟩ => ?_⟩
  subst e1
  have s1' := s1
  obtain ⟨a1, vs, rfl, h, l⟩ := RT.lstR s1
  refine ⟨.inl ⟨rfl, _, .of h⟩, gb F M σ H1 ds _ _ (r.ext x1) w1 fun y H2 dy x2 s2 ⟨n, j, e2, h1, h2, w2⟩ => ?_⟩
  subst e2
  cases RT.int s2
  obtain ⟨a2, vs2, e, h', l'⟩ := RT.lstR (RT.ext s1' (r.ext x1) x2)
  cases e
  cases l'.ints
  refine ⟨a1, _, _, j, .int n, rfl, rfl, .of h', rfl, flat_ints' ns, by rw [List.getElem?_map, h1]; rfl, (eqV_int n n).mpr rfl, fun m z hm hz => ?_, k _ _ _ (x1.trans x2) (.int _) w2⟩
  rw [List.getElem?_map] at hz
  cases e : ns[m]? with
  | none => rw [e] at hz; cases hz
  | some i =>
    rw [e] at hz
    cases hz
    cases hq : eqV (.int i) (.int n) with
    | false => rfl
    | true => exact absurd (by rw [e, (eqV_int i n).mp hq]) (h2 m hm)
@[simp] def wIdxF (A B : TW) : TW := fun ds q => A ds fun x => ∃ ns : List Int, x = .ftu ns ∧ B ds fun y => ∃ (k : Int) (j : Nat), y = .int k ∧ ns[j]? = some k ∧ (∀ m, m < j → ns[m]? ≠ some k) ∧ q (.int (j : Nat))
theorem ej_idxF (ha : EJ Z .r X a A) (hb : EJ Z .r X b B)
    (hbase : attributeBase a "index" X.env (eval a X.env) = eval a X.env := by rfl)
    (hfew : ((backTo pos (starEach [b] X.env)).all (fun x => !x.1) && (backToKw pos (keywordEach [] X.env)).all (fun x => x.1.isSome)
      && decide ([b].length + ([] : List Keyword).length + (if ([] : List Keyword).isEmpty then 0 else 1) < 30)) = true := by rfl)
    (hline : (apos.endLine == pos.line) = true := by rfl) (hs : starEach [b] X.env = (false, eval b X.env) :: starEach [] X.env := by rfl) :
    EJ Z .d X (.Call (.Attribute a "index" apos) [b] [] pos) (wIdxF A B) := by
  obtain ⟨ta, pa, ga⟩ := ha.ex
  obtain ⟨tb, pb, gb⟩ := hb.ex
  refine ⟨_, pe_bmF PySem.F.slot_tuple_index PySem.F.type_tuple_index mt_tupIdx pa (pa_cons pb pa_nil hs) hbase hfew hline hs rfl, fun F M σ H ds q Q r w k => ga F M σ H ds _ _ r w fun x H1 dx x1 s1 ⟨ns, e1, w1⟩ => ?_⟩
  subst e1
  have s1' := s1
  obtain ⟨a1, o, rfl, h, c1, c2⟩ := RT.ftuR s1
  refine ⟨⟨_, _, _, rfl, h, c1, c2⟩, gb F M σ H1 ds _ _ (r.ext x1) w1 fun y H2 dy x2 s2 ⟨n, j, e2, h1, h2, w2⟩ => ?_⟩
  subst e2
  cases RT.int s2
  obtain ⟨a2, o2, e, h', _⟩ := RT.ftuR (RT.ext s1' (r.ext x1) x2)
  cases e
  exact ⟨a1, ns, n, j, rfl, rfl, .inl (.inr ⟨_, h'⟩), h1, h2, k _ _ _ (x1.trans x2) (.int _) w2⟩
@[simp] def wIdxD (A B : TW) : TW := fun ds q => A ds fun x => ∃ xs : List D, x = .lst xs ∧ (D.lst xs).ok ∧ B ds fun y => ∃ (j : Nat) (z : D), y.ok ∧ xs[j]? = some z ∧ PyData.eqv z.py y.py = true ∧ (∀ (m : Nat) (z' : D), m < j → xs[m]? = some z' → PyData.eqv z'.py y.py = false) ∧ q (.int (j : Nat))
theorem ej_idxD {kk : Nat} (hr : Room kk X.A) (ha : EJ Z .r X a A) (hb : EJ Z .r X b B)
    (hbase : attributeBase a "index" X.env (eval a X.env) = eval a X.env := by rfl)
    (hfew : ((backTo pos (starEach [b] X.env)).all (fun x => !x.1) && (backToKw pos (keywordEach [] X.env)).all (fun x => x.1.isSome)
      && decide ([b].length + ([] : List Keyword).length + (if ([] : List Keyword).isEmpty then 0 else 1) < 30)) = true := by rfl)
    (hline : (apos.endLine == pos.line) = true := by rfl) (hs : starEach [b] X.env = (false, eval b X.env) :: starEach [] X.env := by rfl) :
    EJ Z .d X (.Call (.Attribute a "index" apos) [b] [] pos) (wIdxD A B) := by
  obtain ⟨ta, pa, ga⟩ := ha.ex
  obtain ⟨tb, pb, gb⟩ := hb.ex
  refine ⟨_, pe_bm PySem.F.plainAttrs_list PySem.F.slot_list_index PySem.F.type_list_index (mt_indexD (by have := hr.un; omega)) pa (pa_cons pb pa_nil hs) hbase hfew hline hs rfl, fun F M σ H ds q Q r w k => ga F M σ H ds _ _ r w fun x H1 dx x1 s1 ⟨xs, e1, hok, w1⟩ => ?_⟩
  subst e1
  have s1' := s1
  obtain ⟨a1, vs, rfl, h, l⟩ := RT.lstR s1
  refine ⟨.inl ⟨rfl, _, .of h⟩, gb F M σ H1 ds _ _ (r.ext x1) w1 fun y H2 dy x2 s2 ⟨j, z, hy, h1, h2, h3, w2⟩ => ?_⟩
  have hx2 := (RT.ext s1' (r.ext x1) x2).py hok.1
  refine ⟨a1, y, dy.py, D.pys xs, j, z.py, rfl, rfl, hx2, s2.py hy.1, hok.2, hy.2, by rw [D.pys_map, List.getElem?_map, h1]; rfl, h2, fun m z' hm hz => ?_, k _ _ _ (x1.trans x2) (.int _) w2⟩
  rw [D.pys_map, List.getElem?_map] at hz
  cases e : xs[m]? with
  | none => rw [e] at hz; cases hz
  | some i =>
    rw [e] at hz
    cases hz
    exact h3 m i hm e
end
/-! ### max(t), len(t), tuple(l), the tuple known -/
@[simp] def wMaxF (_ : DS) (x : D) (q : D → Prop) : Prop := ∃ ns : List Int, x = .ftu ns ∧ 0 < ns.length ∧ ∀ m, m ∈ ns → (∀ y, y ∈ ns → y ≤ m) → q (.int m)
theorem cw_maxF : C1W Z .d K (rMaxT K) wMaxF := by
  rintro F M σ H ds x dx q Q r hx ⟨ns, rfl, h0, z⟩ k
  obtain ⟨a, o, rfl, h, _⟩ := hx.ftuR
  exact ⟨a, ns, rfl, .inl (.inr ⟨_, h⟩), h0, fun m h1 h2 => k _ _ _ (.refl F H) (.int _) (z m h1 h2)⟩
@[simp] def wTupF (_ : DS) (x : D) (q : D → Prop) : Prop := ∃ ns : List Int, x = .lst (ns.map D.int) ∧ q (.ftu ns)
theorem cw_tupF : C1W Z .d K (fun xs H Q => ∃ (p : Addr) (ys : List V), xs = [.ref p] ∧ SqL K H p ys ∧ ∀ l o, H l = none → o.cls = .type "tuple" → o.dict = none → Q (.ref l) (upd H l (.frz o (.tup ys)))) wTupF := by
  rintro F M σ H ds x dx q Q r hx ⟨ns, rfl, z⟩ k
  obtain ⟨a, vs, rfl, h, l⟩ := hx.lstR
  cases l.ints
  refine ⟨a, _, rfl, .of h, fun p o hp c1 c2 => k _ _ _ (.new hp fun _ _ e => nomatch e) (R.ftu (era_of (r.fresh hp) upd_same) c1 c2) z⟩
/-! ### slices -/
def cutD (xs : List D) (lo hi : Option Int) : List D := (xs.drop (HT.sIx xs.length 0 lo)).take (HT.sIx xs.length xs.length hi - HT.sIx xs.length 0 lo)
theorem RL.drop {C : Addr} : ∀ (n : Nat) {vs : List V} {xs : List D}, RL K C H vs xs → RL K C H (vs.drop n) (xs.drop n)
  | 0, _, _, h => h
  | _ + 1, _, [], h => by cases h; exact .nil
  | n + 1, _, _ :: _, h => by cases h with | cons a b => exact RL.drop n b
theorem RL.take {C : Addr} : ∀ (n : Nat) {vs : List V} {xs : List D}, RL K C H vs xs → RL K C H (vs.take n) (xs.take n)
  | 0, _, _, h => .nil
  | _ + 1, _, [], h => by cases h; exact .nil
  | n + 1, _, _ :: _, h => by cases h with | cons a b => exact .cons a (RL.take n b)
theorem RL.cut {C : Addr} {vs : List V} {xs : List D} (h : RL K C H vs xs) (lo hi : Option Int) : RL K C H (cutV vs lo hi) (cutD xs lo hi) := by
  unfold cutV cutD
  rw [h.len]
  exact RL.take _ (RL.drop _ h)
/-- a part of a slice -/
abbrev TWO := DS → (Option Int → Prop) → Prop
structure OJ (Z : ZZ) (X : Cx) (e : Option Expr) (W : TWO) : Prop where
  ex : ∃ t, PO X e t ∧ ∀ F M σ H ds (q : Option Int → Prop) (Q : Option Int → Hp → Prop), Rep Z X.K F M σ H ds → W ds q → (∀ o H', Ext F H H' → q o → Q o H') → t σ H Q
theorem oj_none : OJ Z X none fun _ q => q none := ⟨_, po_none, fun F M σ H ds q Q r w k => k none H (.refl F H) w⟩
theorem oj_some (h : EJ Z .r X e W) : OJ Z X (some e) fun ds q => W ds fun d => ∃ i, d = .int i ∧ q (some i) := by
  obtain ⟨t, p, g⟩ := h.ex
  refine ⟨_, po_some p, fun F M σ H ds q Q r w k => g F M σ H ds _ _ r w fun v H1 d x1 s1 ⟨i, e1, z⟩ => ?_⟩
  subst e1
  exact ⟨i, RT.int s1, k _ H1 x1 z⟩
def SlW (Z : ZZ) (m : Md) (K : PySem.W.Frag) (r : V → Option Int → Option Int → Hp → VK → Prop) (w : D → Option Int → Option Int → (D → Prop) → Prop) : Prop :=
  ∀ F M σ H ds x dx lo hi (q : D → Prop) (Q : VK), Rep Z K F M σ H ds → RT Z K F M H x dx → w dx lo hi q → (∀ v H' d, Ext F H H' → Res Z m K F M H H' v d → q d → Q v H') → r x lo hi H Q
@[simp] def wSl (w : D → Option Int → Option Int → (D → Prop) → Prop) (A : TW) (L U : TWO) : TW := fun ds q => A ds fun x => L ds fun lo => U ds fun hi => w x lo hi q
theorem ej_sl {r : V → Option Int → Option Int → Hp → VK → Prop} {w : D → Option Int → Option Int → (D → Prop) → Prop} {L U : TWO} {lo hi : Option Expr} {p2 : Pos} (hr : SlR X r) (hw : SlW Z m X.K r w) (ha : EJ Z .r X a A) (hl : OJ Z X lo L) (hu : OJ Z X hi U) :
    EJ Z m X (.Subscript a (.Slice lo hi none p2) pos) (wSl w A L U) := by
  obtain ⟨ta, pa, ga⟩ := ha.ex
  obtain ⟨tl, pl, gl⟩ := hl.ex
  obtain ⟨tu, pu, gu⟩ := hu.ex
  exact ⟨_, pe_slice hr pa pl pu, fun F M σ H ds q Q rp ww k => ga F M σ H ds _ _ rp ww fun x H1 dx x1 s1 w1 => gl F M σ H1 ds _ _ (rp.ext x1) w1 fun lo H2 x2 w2 => gu F M σ H2 ds _ _ ((rp.ext x1).ext x2) w2 fun hi H3 x3 w3 =>
    hw F M σ H3 ds x dx lo hi q Q (((rp.ext x1).ext x2).ext x3) (RT.ext s1 (rp.ext x1) (x2.trans x3)) w3 fun v H4 d x4 s4 z => k v H4 d (((x1.trans x2).trans x3).trans x4) (s4.back (rp.back ((x1.trans x2).trans x3))) z⟩
@[simp] def wSlL (x : D) (lo hi : Option Int) (q : D → Prop) : Prop := ∃ xs, x = .lst xs ∧ q (.lst (cutD xs lo hi))
theorem sw_list : SlW Z .o K (rSlL K) wSlL := by
  rintro F M σ H ds x dx lo hi q Q r hx ⟨xs, rfl, z⟩ k
  obtain ⟨a, vs, rfl, h, l⟩ := hx.lstR
  exact ⟨a, vs, rfl, .of h, fun p hp => k _ _ _ (.newL hp _) (RO.newL hp (l.cut lo hi)) z⟩
@[simp] def wSlS (x : D) (lo hi : Option Int) (q : D → Prop) : Prop := ∃ z : Str, x = .str z ∧ z.length ≤ sizeLine ∧ q (.str (cutS z lo hi))
theorem sw_str : SlW Z .d K rSlS wSlS := by
  rintro F M σ H ds x dx lo hi q Q r hx ⟨xs, rfl, h, z⟩ k
  exact ⟨xs, hx.str, h, k _ _ _ (.refl F H) (.str _) z⟩
@[simp] def wSlT (x : D) (lo hi : Option Int) (q : D → Prop) : Prop := ∃ xs, x = .tup xs ∧ ¬ (HT.sIx xs.length 0 lo = 0 ∧ HT.sIx xs.length xs.length hi = xs.length) ∧ q (.tup (cutD xs lo hi))
theorem sw_tup : SlW Z .d K (rSlT K) wSlT := by
  rintro F M σ H ds x dx lo hi q Q r hx ⟨xs, rfl, hn, z⟩ k
  obtain ⟨a, vs, rfl, h, l⟩ := hx.tupR
  exact ⟨a, vs, rfl, h, by rw [l.len]; exact hn, fun p hp => k _ _ _ (.newT hp _) (RD.newT r hp (l.cut lo hi)) z⟩
/-- l[::-1] -/
@[simp] def wRev (A : TW) : TW := fun ds q => A ds fun x => ∃ xs, x = .lst xs ∧ q (.lst xs.reverse)
theorem RL.rev {C : Addr} : ∀ {vs : List V} {xs : List D}, RL K C H vs xs → RL K C H vs.reverse xs.reverse
  | _, [], h => by cases h; exact .nil
  | _, _ :: _, h => by cases h with | cons a b => rw [List.reverse_cons, List.reverse_cons]; exact (RL.rev b).app (.one a)
theorem ej_rev {k0 : Nat} {p1 p2 p3 : Pos} (ha : EJ Z .r X a A) : EJ Z .o X (.Subscript a (.Slice none none (some (.UnaryOp .USub (.Constant (.int 1) k0 p1) p2)) p3) pos) (wRev A) := by
  obtain ⟨ta, pa, ga⟩ := ha.ex
  refine ⟨_, pe_revL pa, fun F M σ H ds q Q r w k => ga F M σ H ds _ _ r w fun x H1 dx x1 s1 ⟨xs, e, z⟩ => ?_⟩
  subst e
  obtain ⟨a, vs, rfl, h, l⟩ := RT.lstR s1
  exact ⟨a, vs, rfl, .of h, fun p hp => k _ _ _ (x1.trans (.newL hp _)) (Res.back (m := .o) (RO.newL hp l.rev) (r.back x1)) z⟩
/-! ### fields of a store -/
structure StoF (K : PySem.W.Frag) (C : Addr) : Prop where
  cl : Cls K C
  nS : NoAttr K C "size"
  nO : NoAttr K C "offices"
@[simp] def wSize (A : TW) : TW := fun ds q => A ds fun x => ∃ n d, x = .sto n d ∧ q (.int n)
@[simp] def wOffs (A : TW) : TW := fun ds q => A ds fun x => ∃ n d, x = .sto n d ∧ q d
theorem ej_size (T : StoF X.K Z.C) (ha : EJ Z .r X a A) (hb : attributeBase a "size" X.env (eval a X.env) = eval a X.env := by rfl) : EJ Z .d X (.Attribute a "size" pos) (wSize A) := by
  obtain ⟨ta, pa, ga⟩ := ha.ex
  refine ⟨_, pe_fld pa hb, fun F M σ H ds q Q r w k => ga F M σ H ds _ _ r w fun x H1 dx x1 s1 ⟨n, d, e, z⟩ => ?_⟩
  subst e
  obtain ⟨a, dx, u, rfl, h, l⟩ := RT.stoR s1
  exact ⟨a, _, dx, _, _, rfl, h, T.cl, T.nS, rfl, k _ _ _ x1 (.int _) z⟩
theorem ej_offs (T : StoF X.K Z.C) (ha : EJ Z .r X a A) (hb : attributeBase a "offices" X.env (eval a X.env) = eval a X.env := by rfl) : EJ Z .d X (.Attribute a "offices" pos) (wOffs A) := by
  obtain ⟨ta, pa, ga⟩ := ha.ex
  refine ⟨_, pe_fld pa hb, fun F M σ H ds q Q r w k => ga F M σ H ds _ _ r w fun x H1 dx x1 s1 ⟨n, d, e, z⟩ => ?_⟩
  subst e
  obtain ⟨a, dx, u, rfl, h, l⟩ := RT.stoR s1
  exact ⟨a, _, dx, _, _, rfl, h, T.cl, T.nO, rfl, k _ _ _ x1 l z⟩
/-! ### isinstance(x, T) -/
@[simp] def D.ty : D → Option String
  | .non => some "NoneType"
  | .bl _ => some "bool"
  | .int _ => some "int"
  | .str _ => some "str"
  | .lst _ => some "list"
  | .tup _ => some "tuple"
  | .ftu _ => some "tuple"
  | .dic _ => some "dict"
  | _ => none
theorem RT.tyX {t : String} (h : RT Z K F M H v d) (e : d.ty = some t) : TyX K H v (.type t) := by
  cases d with
  | non => cases h.non; cases e; exact .base .non
  | bl b => cases h.bl; cases e; exact .base (.bl _)
  | int i => cases h.int; cases e; exact .base (.int _)
  | str x => cases h.str; cases e; exact .base (.str _)
  | lst xs => cases e; obtain ⟨a, vs, rfl, h, l⟩ := h.lstR; exact .base (.lst h)
  | tup xs =>
    cases e
    obtain ⟨a, vs, rfl, h, l⟩ := h.tupR
    rcases h with (h | ⟨o, h⟩) | ⟨o, _, _, h, c, _⟩
    · exact .base (.tup h)
    · exact .fTuple h
    · exact .kTuple h c
  | ftu xs => cases e; obtain ⟨a, o, rfl, h, l⟩ := h.ftuR; exact .fTuple h
  | dic xs =>
    cases e
    obtain ⟨a, vs, rfl, h, l⟩ := h.dicR
    rcases h with h | ⟨o, h⟩
    · exact .base (.dK h)
    · exact .fDict h
  | sto _ _ => cases e
  | scr _ => cases e
@[simp] def wIsi (T : String) (A : TW) : TW := fun ds q => A ds fun x => ∃ t b, x.ty = some t ∧ kitB t T = some b ∧ q (.bl b)
theorem ej_isi {T : Str} {T' : String} {p1 p2 : Pos} (hg : Gl X "isinstance") (hm : X.mg "isinstance" = none) (hg2 : Gl X T) (hm2 : X.mg T = none) (hv : bootBuiltins T = some (.type T')) (ha : EJ Z .r X a A)
    (hs : starEach [a, .Name T p2] X.env = (false, eval a X.env) :: starEach [.Name T p2] X.env := by rfl) (hn : T ≠ "__name__" := by decide) (hd : (T == ("__debug__" : Str)) = false := by decide) : EJ Z .d X (.Call (.Name "isinstance" p1) [a, .Name T p2] [] pos) (wIsi T' A) := by
  obtain ⟨ta, pa, ga⟩ := ha.ex
  refine ⟨_, pe_callB call_isi hg hm (by decide +kernel) (pa_cons pa (pa_cons (pe_bltn (v := .ty T') hg2 hm2 hv rfl hn hd) pa_nil) hs) (by decide) (by decide) hs rfl, fun F M σ H ds q Q r w k => ga F M σ H ds _ _ r w fun x H1 dx x1 s1 ⟨t, b, h1, h2, z⟩ => ?_⟩
  exact ⟨x, _, _, _, b, rfl, .ty T', RT.tyX s1 h1, kit_ty h2, k _ _ _ x1 (.bl b) z⟩
/-! ### divmod(n, k), k between 1 and 2 ^ 30 -/
@[simp] def wDivmod (A B : TW) : TW := fun ds q => A ds fun x => B ds fun y => ∃ i j, x = .int i ∧ y = .int j ∧ CDiv i j ∧ q (.tup [.int (i / j), .int (i % j)])
theorem ej_divmod {p1 : Pos} (hg : Gl X "divmod") (hm : X.mg "divmod" = none) (ha : EJ Z .r X a A) (hb : EJ Z .r X b B)
    (hs : starEach [a, b] X.env = (false, eval a X.env) :: starEach [b] X.env := by rfl) (hs2 : starEach [b] X.env = (false, eval b X.env) :: starEach [] X.env := by rfl) (hpl : (backTo pos (starEach [b] X.env)).any (·.1) = false := by rfl) :
    EJ Z .d X (.Call (.Name "divmod" p1) [a, b] [] pos) (wDivmod A B) := by
  obtain ⟨ta, pa, ga⟩ := ha.ex
  obtain ⟨tb, pb, gb⟩ := hb.ex
  refine ⟨_, pe_callB call_divmod hg hm (by decide +kernel) (pa_cons pa (pa_cons pb pa_nil hs2) hs) (by decide) (by decide) hs hpl, fun F M σ H ds q Q r w k => ga F M σ H ds _ _ r w fun x H1 dx x1 s1 w1 => gb F M σ H1 ds _ _ (r.ext x1) w1 fun y H2 dy x2 s2 ⟨i, j, e1, e2, h, z⟩ => ?_⟩
  subst e1 e2
  cases RT.int s1
  cases RT.int s2
  exact ⟨i, j, rfl, h, fun p hp => k _ _ _ ((x1.trans x2).trans (.newT hp _)) (RD.newT ((r.ext x1).ext x2) hp (.cons (.int _) (.one (.int _)))) z⟩
end
end G78
namespace G78
open PySem PySem.Spec PyProof.Rows L2
/-! ### enumerate(t), t a tuple -/
theorem enum_newT (t : Addr) (items : Array Value) (n : Nat) (dd : Option Addr) (sl : Array (Option Value)) :
    Meets (Builtin.«enumerate.__new__» ⟨[.type "enumerate", .ref t], []⟩) (fun _ R s =>
      s.heap.get? t = some { cls := .type "tuple", dict := dd, data := .seq items n, slots := sl } ∧
      R (.ok (.ret (.ref (s.heap.objs.size + 1))))
        { s with heap := Heap.push (s.heap.push { cls := .type "tuple_iterator", data := .fields #[.ref t, .int 0 0] }) { cls := .type "enumerate", data := .fields #[.none, .bool false, .ref s.heap.objs.size, rawInt 0, .none, .none] } }) :=
  .of_wp fun prog w A R s h => by
    obtain ⟨hp, g, d, tk, os⟩ := s
    obtain ⟨hl, h⟩ := h
    have hsub := sub_enumerate
    have hT : Heap.IsTuple (Shared.heap ⟨hp, g, d, tk, os⟩) t items := ⟨_, hl, rfl, n, rfl⟩
    have hz : (hp.push { cls := .type "tuple_iterator", data := .fields #[.ref t, .int 0 0] }).objs.size = hp.objs.size + 1 := Heap.size_push ..
    wp_walk using wpAny_loadPart' hl
    refine wpAny_stack_any fun st => wpAny_pure ?_
    split
    · rename_i c _ _ _ _ _
      cases (c == Value.type "enumerate") <;>
      · wp_walk using wpAny_loadPart' hl, wpAny_pyIter_tuple hT
        exact ⟨_, rfl, by rw [hz]; exact h⟩
    · wp_walk using wpAny_loadPart' hl, wpAny_pyIter_tuple hT
      exact ⟨_, rfl, by rw [hz]; exact h⟩
section
variable {prog : Program} {w : World} {A : Around} {E : Value → Shared → Prop} {s : Shared}
theorem call_enumT {t : Addr} {items : Array Value} {Q : Value → Shared → Prop} (hT : s.heap.IsTuple t items)
    (h : ∀ h', IsEnum h' (s.heap.objs.size + 1) s.heap.objs.size 0 .none → h'.IsTupleIter s.heap.objs.size t 0 → h'.objs.size = s.heap.objs.size + 2 →
      (∀ b o, s.heap.get? b = some o → h'.get? b = some o) → Q (.ref (s.heap.objs.size + 1)) { s with heap := h' }) :
    wpAny (model prog w) A (call (.type "enumerate") [.ref t]) Q E s := by
  obtain ⟨⟨c, dd, dt, sl⟩, hl, hc, n, hd⟩ := hT
  simp only at hc hd
  subst hc hd
  refine callType_new F.called_enumerate (by decide) (F.typeCall_enumerate_1 _) (F.newCall_enumerate_1 _) (fun obj => F.args_object_init_2 obj _) F.entry_enumerate_new
    (enum_newT t items n dd sl) ⟨hl, ?_⟩
  have hz : (s.heap.push { cls := .type "tuple_iterator", data := .fields #[.ref t, .int 0 0] }).objs.size = s.heap.objs.size + 1 := Heap.size_push ..
  have he := Heap.get?_push_size (s.heap.push { cls := .type "tuple_iterator", data := .fields #[.ref t, .int 0 0] })
    (o := { cls := .type "enumerate", data := .fields #[.none, .bool false, .ref s.heap.objs.size, rawInt 0, .none, .none] }) rfl
  rw [hz] at he
  exact ⟨⟨_, he, rfl⟩, h _ he ⟨_, Heap.get?_push_of_some _ (Heap.get?_push_size _ rfl), rfl, rfl⟩ (by rw [Heap.size_push, hz]) fun b o y => Heap.get?_push_of_some _ (Heap.get?_push_of_some _ y)⟩
end
/-- the tuple at a, each item in a new pair -/
def IteT (K : PySem.W.Frag) (a : Addr) : It where
  go := fun i H => ∃ (xs : List V) (x : V), SqT K H a xs ∧ xs[i]? = some x
  yld := fun i H v H' => ∃ (T : Addr) (x : V), v = .ref T ∧ H T = none ∧ H' = upd H T (.tup [.int (i : Nat), x]) ∧ ∀ xs, SqT K H a xs → xs[i]? = some x
  stop := fun i H => ∃ xs : List V, SqT K H a xs ∧ xs.length = i
theorem draws_tup {prog : Program} {w : World} {A : Around} {it a : Addr} {items : Array Value} (hh : A.handled = none) (hne : a ≠ it) :
    Draws prog w A.in1 it [it, a] items.size (fun i v => items[i]? = some v) (fun i h => h.IsTupleIter it a i ∧ h.IsTuple a items) := Draws.tuple (A := A.in1) hh it a hne items
theorem tup_ne_it {h : Heap} {a it : Addr} {items : Array Value} {i : Nat} (p : h.IsTuple a items) (q : h.IsTupleIter it a i) : a ≠ it := fun z => by
  obtain ⟨o1, h1, c1, _⟩ := p
  obtain ⟨o2, h2, c2, _⟩ := q
  rw [z, h2] at h1
  rw [← Option.some.inj h1, c2] at c1
  exact absurd c1 (by decide)
theorem tup_ne_en {h : Heap} {a e it : Addr} {items : Array Value} {k : Int} {old : Value} (p : h.IsTuple a items) (q : IsEnum h e it k old) : a ≠ e := fun z => by
  obtain ⟨o1, h1, c1, _⟩ := p
  rw [z, show h.get? e = some _ from q] at h1
  rw [← Option.some.inj h1] at c1
  exact absurd (Value.type.inj c1) (by decide)
theorem turn_enumT {P : Program} {w : World} {K : PySem.W.Frag} {elts : List Expr} {kk : Nat} {tpos : Pos} (a e it : Addr) :
    Turn P w K (.Tuple elts kk tpos) (IteT K a) [e, it] e (fun i h => (∃ old, IsEnum h e it ((i : Nat) : Int) old) ∧ h.IsTupleIter it a i ∧ e ≠ it) where
  mem := by simp
  obj := fun i h st b hb => by
    obtain ⟨⟨old, he⟩, ⟨o, ho, hc, hd⟩, _⟩ := st
    rcases (show b = e ∨ b = it by simpa using hb) with rfl | rfl
    · exact ⟨_, he, fun v q => nomatch q⟩
    · exact ⟨o, ho, fun v q => by rw [hd] at q; cases q⟩
  keep := fun i h h' st k => let ⟨⟨old, he⟩, hi, hne⟩ := st; ⟨⟨old, k e (by simp) _ he⟩, hi.at fun o q => k it (by simp) o q, hne⟩
  item := by
    intro X hP hw hK hc i pins s σ H E I hf st hg
    subst hP hw hK
    obtain ⟨⟨old, he⟩, hit, hne⟩ := st
    obtain ⟨xs, x, hq, hx⟩ := hg
    have ⟨its, rv, p, hz⟩ := I.tuple hq
    have ⟨u, hu, ru⟩ := rv.get hx
    have hel : e < s.heap.objs.size := Heap.lt_size he
    have hil : it < s.heap.objs.size := by
      have ⟨_, q, _⟩ := hit
      exact Heap.lt_size q
    have hai : a ≠ it := tup_ne_it p hit
    have hea : e ∉ [it, a] := fun z => by
      rcases (show e = it ∨ e = a by simpa using z) with z | z
      · exact hne z
      · exact tup_ne_en p he z.symm
    have hlt : i < its.toArray.size := by
      have := (List.getElem?_eq_some_iff.mp hu).1
      simpa using this
    refine wpAny_pyNext_enum_itemC (draws_tup (items := its.toArray) (I.ok.hd hc) hai) he ⟨hit, p⟩ hlt hne hea fun v h' tk hP ho hs' hT hsz hk => ?_
    have ev : v = u := by
      have h1 : its[i]? = some v := by simpa using hP
      exact Option.some.inj (h1.symm.trans hu)
    subst ev
    refine ⟨_, rfl, wpAny_letOwnedTupleGo_enum (s := { s with heap := h', toks := tk + 1 }) ho fun h'' he' sb => ?_⟩
    have hT2 : h''.get? s.heap.objs.size = some { cls := .type "tuple", data := .seq #[.int i tk, v] } := (sb.2 _ (Nat.ne_of_gt hel)).trans hT
    have new : ObjOk X.prog X.w (upd H s.heap.objs.size (.tup [.int (i : Nat), x])) h'' s.heap.objs.size (.tup [.int (i : Nat), x]) :=
      ⟨by show 2 ≤ sizeLine; decide, [.int i tk, v], .cons ⟨_, rfl⟩ (.cons ru .nil), ⟨_, hT2, rfl, _, rfl⟩⟩
    have I1 : Inv X pins σ (upd H s.heap.objs.size (.tup [.int (i : Nat), x])) { s with heap := h'', toks := tk + 1 } := by
      refine I.turnedNew (ch := [e, it]) (fun b ob hb q => ?_) hf (Nat.le_refl _) new
      have hbe : b ≠ e := fun z => hb (by simp [z])
      exact (sb.2 b hbe).trans (hk b ob hbe (fun z => hb (by simp [z])) q)
    refine ⟨.ref s.heap.objs.size, _, I1, rfl, ⟨_, x, rfl, I.hok.fresh (Nat.le_refl _), rfl, fun ys hy => by rw [I.tuple_inj hy hq]; exact hx⟩, ⟨⟨v, ?_⟩, hs'.1.at fun o q => (sb.2 it (Ne.symm hne)).trans q, hne⟩, fun b hb => ?_⟩
    · have e1 : ((i + 1 : Nat) : Int) = (i : Int) + 1 := by omega
      rw [e1]
      exact he'
    · have hb' : b < s.heap.objs.size := by
        rcases (show b = e ∨ b = it by simpa using hb) with rfl | rfl
        · exact hel
        · exact hil
      rw [upd_ne (Nat.ne_of_lt hb')]
      exact (hf b hb).1
  done := by
    intro X hP hw hK hc i pins s σ H E I hf st hg
    subst hP hw hK
    obtain ⟨⟨old, he⟩, hit, hne⟩ := st
    obtain ⟨xs, hq, hx⟩ := hg
    have ⟨its, rv, p, hz⟩ := I.tuple hq
    obtain ⟨f0, f1, f2, f3, f4, f5⟩ := hf it (by simp)
    have hai : a ≠ it := tup_ne_it p hit
    refine wpAny_pyNext_enum_endD (draws_tup (items := its.toArray) (I.ok.hd hc) hai) he ⟨?_, p⟩ fun h' eb => ⟨rfl, I.turned (t' := s.toks) (fun b o hb q => eb b o hb q) f0 f1 f3 f4 f5⟩
    have hl := rv.length
    rw [show its.toArray.size = its.length by simp]
    rw [← hl, hx]
    exact hit
  self := fun A i s Q E st h => let ⟨⟨_, he⟩, _⟩ := st; wpAny_pyIter_enum he h
/-- for i, x in enumerate(t) -/
def iEnumT (K : PySem.W.Frag) (ta : TA) : TI := fun σ H R => ta σ H fun vs H1 => ∃ (a : Addr) (xs : List V), vs = [.ref a] ∧ SqT K H1 a xs ∧ R (IteT K a) H1
theorem pi_enumT {X : Cx} {e : Expr} {ta : TA} {p pos tpos : Pos} {elts : List Expr} {kk : Nat} (hg : Gl X "enumerate") (hm : X.mg "enumerate" = none) (ha : PA X [e] ta)
    (hs : starEach [e] X.env = [(false, eval e X.env)] := by rfl) : PI X (.Tuple elts kk tpos) (.Call (.Name "enumerate" p) [e] [] pos) (iEnumT X.K ta) := by
  refine ⟨fun pins s σ H R I h => ?_⟩
  refine Call_ (ld_blt I hg hm boot_enumerate (PyProof.Rows.callWith_type1 (thn (ha.run pos pins s σ H _ I h) fun us s1 ⟨vs, H1, I1, r1, q1⟩ => ?_) hs rfl))
  obtain ⟨a, xs, rfl, hq, q⟩ := q1
  obtain ⟨u, rfl, ru⟩ := vals1 r1
  cases ru
  have ⟨its, rv, p', hz⟩ := I1.tuple hq
  refine call_enumT p' fun h' he hit hsz hk => wpAny_pyIter_enum he ?_
  have I2 : Inv X pins σ H1 { s1 with heap := h' } := I1.kept (t' := s1.toks) hk
  refine ⟨s1.heap.objs.size + 1, [s1.heap.objs.size + 1, s1.heap.objs.size], _, _, H1, rfl, I2, turn_enumT a (s1.heap.objs.size + 1) s1.heap.objs.size, ⟨⟨.none, he⟩, hit, Nat.succ_ne_self _⟩, fun b hb => ?_, q⟩
  have hle : s1.heap.objs.size ≤ b := by
    rcases (show b = s1.heap.objs.size + 1 ∨ b = s1.heap.objs.size by simpa using hb) with rfl | rfl
    · exact Nat.le_add_right _ _
    · exact Nat.le_refl _
  exact I1.fpOk hle (I1.hok.fresh hle)
theorem walk_enumT {K : PySem.W.Frag} {a : Addr} {xs : List V} : Walk (IteT K a) xs.length (fun H => SqT K H a xs) (YPair (fun i => some (.int (i : Nat))) (fun i => xs[i]?)) where
  goes := fun i _ hi q => ⟨xs, xs[i], q, List.getElem?_eq_getElem hi⟩
  stops := fun _ q => ⟨xs, q, rfl⟩
  yields := fun i H v H' _ q y => by
    obtain ⟨T, x, h1, h2, h3, h4⟩ := y
    exact ⟨T, .int (i : Nat), x, h1, h2, h3, rfl, h4 xs q⟩
end G78
namespace G78
open PySem PySem.Spec PyProof.Rows L2
section
variable {Z : ZZ} {K : PySem.W.Frag} {F : Fr} {M M' : Addr → Prop} {σ : L2.St} {H H' H1 : Hp} {ds : DS} {X : Cx} {v : V} {d : D} {p : Addr} {m : Md} {e a b : Expr} {A B W : TW} {pos : Pos} {x : Str} {pp : Pos} {es : List Expr}
/-! ### the readings by W alone -/
def tW (Z : ZZ) (m : Md) (K : PySem.W.Frag) (W : TW) : TE := fun σ H Q => ∃ F M ds q, Rep Z K F M σ H ds ∧ W ds q ∧ ∀ v H' d, Ext F H H' → Res Z m K F M H H' v d → q d → Q v H'
def tWT (Z : ZZ) (K : PySem.W.Frag) (W : TWT) : TT := fun σ H Q => ∃ F M ds q, Rep Z K F M σ H ds ∧ W ds q ∧ ∀ b H', Ext F H H' → q b → Q b H'
theorem EJ.pe (h : EJ Z m X e W) : PE X e (tW Z m X.K W) := by
  obtain ⟨t, p, g⟩ := h.ex
  exact ⟨fun pins s σ H Q I ⟨F, M, ds, q, r, w, k⟩ => p.run pins s σ H Q I (g F M σ H ds q Q r w k)⟩
theorem TJ.pt {W : TWT} (h : TJ Z X e W) : PT X e (tWT Z X.K W) := by
  obtain ⟨t, p, g⟩ := h.ex
  exact ⟨fun pins s σ H Q I ⟨F, M, ds, q, r, w, k⟩ => p.run pins s σ H Q I (g F M σ H ds q Q r w k)⟩
/-! ### slots set -/
@[simp] def DS.set (ds : DS) (i : Nat) (c : SC) : DS := { ds with s := ds.s.set i c }
theorem Rep.set1 (r : Rep Z K F M σ H ds) {i : Nat} {c : SC} {o : Option V} (ho : c.own = false) (hs : i < σ.length → Sl Z K F M H c (some o)) : Rep Z K F M (σ.set i o) H (ds.set i c) where
  sl := fun j e h => by
    by_cases hij : i = j
    · subst hij
      have hl : i < ds.s.length := by
        have := (List.getElem?_eq_some_iff.mp h).1
        simpa [DS.set] using this
      rw [show (ds.set i c).s = ds.s.set i c from rfl, List.getElem?_set_self hl] at h
      cases h
      rw [List.getElem?_set_self (by rw [← r.ln]; exact hl)]
      exact hs (by rw [← r.ln]; exact hl)
    · rw [show (ds.set i c).s = ds.s.set i c from rfl, List.getElem?_set_ne hij] at h
      rw [List.getElem?_set_ne hij]
      exact r.sl j e h
  dj := fun j l e f h1 h2 o1 o2 hjl => by
    have hj : i ≠ j := fun q => by
      subst q
      rw [show (ds.set i c).s = ds.s.set i c from rfl] at h1
      have hl : i < ds.s.length := by simpa using (List.getElem?_eq_some_iff.mp h1).1
      rw [List.getElem?_set_self hl] at h1
      cases h1; rw [ho] at o1; cases o1
    have hl : i ≠ l := fun q => by
      subst q
      rw [show (ds.set i c).s = ds.s.set i c from rfl] at h2
      have hl : i < ds.s.length := by simpa using (List.getElem?_eq_some_iff.mp h2).1
      rw [List.getElem?_set_self hl] at h2
      cases h2; rw [ho] at o2; cases o2
    rw [show (ds.set i c).s = ds.s.set i c from rfl, List.getElem?_set_ne hj] at h1
    rw [show (ds.set i c).s = ds.s.set i c from rfl, List.getElem?_set_ne hl] at h2
    rw [List.getElem?_set_ne hj, List.getElem?_set_ne hl]
    exact r.dj j l e f h1 h2 o1 o2 hjl
  mo := r.mo
  bm := r.bm
  sn := r.sn
  dm := r.dm
  m0 := r.m0
  nl := r.nl
  fl := r.fl
  xs := r.xs
  b0 := r.b0
  ln := by simp [DS.set, r.ln]
theorem Rep.setD (r : Rep Z K F M σ H ds) {i : Nat} {x : D} (h : R K Z.C (era H M) v x) : Rep Z K F M (σ.set i (some v)) H (ds.set i (.d x)) := r.set1 rfl fun _ => ⟨v, rfl, h⟩
theorem Rep.setN (r : Rep Z K F M σ H ds) {i : Nat} : Rep Z K F M (σ.set i none) H (ds.set i .no) := r.set1 rfl fun _ => trivial
/-- the block's names forgotten -/
@[simp] def DS.wipe (ds : DS) : List Nat → DS
  | [] => ds
  | v :: vs => (ds.wipe vs).set v .no
theorem Rep.wipe (r : Rep Z K F M σ H ds) : ∀ vs : List Nat, Rep Z K F M (L2.wipe σ vs) H (ds.wipe vs)
  | [] => r
  | _ :: vs => (r.wipe vs).setN
/-- nothing is wished of an exception -/
@[simp] def DS.calm (ds : DS) : DS := { ds with x := fun _ _ => False }
theorem Rep.calm (r : Rep Z K F M σ H ds) : Rep Z K F M σ H ds.calm := ⟨r.sl, r.dj, r.mo, r.bm, r.sn, r.dm, r.m0, r.nl, r.fl, fun _ _ z => z.elim, r.b0, r.ln⟩
/-- an address held back that no slot owns is written -/
theorem Rep.poke (r : Rep Z K F M σ H ds) {o : HO} (m : M p) (hb : F.bx ≠ some p) (h0 : F.H0 p = none) (hno : ∀ (i : Nat) (c : SC), ds.s[i]? = some c → c.own = true → σ[i]? ≠ some (some (.ref p))) (ho : ∀ q kvs, o ≠ .frz q (.dK kvs)) : Rep Z K F M σ (upd H p o) ds := by
  have l : Le (era H M) (era (upd H p o) M) := era_le (fun _ z => z) fun a u n e => by rw [upd_ne (fun z : a = p => n (z ▸ m))]; exact e
  have ne : ∀ (i : Nat) (c : SC) (q : Addr), ds.s[i]? = some c → c.own = true → σ[i]? = some (some (.ref q)) → q ≠ p := fun i c q h1 h2 h3 z => hno i c h1 h2 (z ▸ h3)
  refine ⟨fun i c e => ?_, r.dj, fun a n => ?_, fun b e => ⟨(r.bm b e).1, ?_⟩, fun a u n e => ?_, fun a n => ?_, r.m0, fun z a q kvs e => ?_, fun a q kvs e => ?_, r.xs, r.b0, r.ln⟩
  · have s := r.sl i c e
    cases c with
    | no => trivial
    | d d => obtain ⟨y, e, r⟩ := s; exact ⟨y, e, r.le l⟩
    | l xs => obtain ⟨q, vs, e', m, b, n, h, r'⟩ := s; exact ⟨q, vs, e', m, b, n, by rw [upd_ne (ne i _ q e rfl e')]; exact h, RL.le l _ _ r'⟩
    | k kds => obtain ⟨q, vs, e', m, b, n, h, r'⟩ := s; exact ⟨q, vs, e', m, b, n, by rw [upd_ne (ne i _ q e rfl e')]; exact h, RK.le l _ _ r'⟩
    | bx => exact s
  · by_cases h : a = p
    · subst h; rw [upd_same]; exact Option.some_ne_none _
    · rw [upd_ne h]; exact r.mo a n
  · obtain ⟨i, j, k, h⟩ := (r.bm b e).2
    exact ⟨i, j, k, by rw [upd_ne (fun z : b = p => hb (z ▸ e))]; exact h⟩
  · rw [upd_ne (fun q => by subst q; rw [h0] at e; cases e)]
    exact r.sn a u n e
  · by_cases h : a = p
    · subst h; rw [upd_same]; exact Option.some_ne_none _
    · rw [upd_ne h]; exact r.dm a n
  · by_cases h : a = p
    · subst h; rw [upd_same] at e; exact ho q kvs (Option.some.inj e)
    · rw [upd_ne h] at e; exact r.nl z a q kvs e
  · by_cases h : a = p
    · subst h; rw [upd_same] at e; exact (ho q kvs (Option.some.inj e)).elim
    · rw [upd_ne h] at e; exact r.fl a q kvs e
/-- what is not held back stays, and is not held back -/
def Keep (M : Addr → Prop) (H : Hp) (M' : Addr → Prop) (H' : Hp) : Prop := ∀ a o, ¬ M a → H a = some o → ¬ M' a ∧ H' a = some o
theorem Keep.le (k : Keep M H M' H') : Le (era H M) (era H' M') := fun a o e => by
  obtain ⟨n, e⟩ := era_in e
  exact .inl (era_of (k a o n e).1 (k a o n e).2)
theorem Keep.refl (M : Addr → Prop) (H : Hp) : Keep M H M H := fun _ _ n e => ⟨n, e⟩
theorem Keep.trans {M1 : Addr → Prop} (a : Keep M H M1 H1) (b : Keep M1 H1 M' H') : Keep M H M' H' := fun c o n e => b c o (a c o n e).1 (a c o n e).2
theorem Keep.ext (r : Rep Z K F M σ H ds) (x : Ext F H H') : Keep M H M H' := fun a o n e => ⟨n, x.same a o (r.bxM n) e⟩
/-! ### targets -/
/-- what is owned was owned -/
def OwnSub (σ : L2.St) (ds : DS) (σ' : L2.St) (ds' : DS) : Prop := ∀ (i : Nat) (c : SC), ds'.s[i]? = some c → c.own = true → ds.s[i]? = some c ∧ σ'[i]? = σ[i]?
theorem OwnSub.refl (σ : L2.St) (ds : DS) : OwnSub σ ds σ ds := fun _ _ h _ => ⟨h, rfl⟩
theorem OwnSub.trans {σ1 σ2 : L2.St} {ds1 ds2 : DS} (a : OwnSub σ ds σ1 ds1) (b : OwnSub σ1 ds1 σ2 ds2) : OwnSub σ ds σ2 ds2 := fun i c h o => by
  obtain ⟨h1, h2⟩ := b i c h o
  obtain ⟨h3, h4⟩ := a i c h1 o
  exact ⟨h3, h2.trans h4⟩
theorem OwnSub.set {i : Nat} {c : SC} {o : Option V} (hc : c.own = false) : OwnSub σ ds (σ.set i o) (ds.set i c) := fun j e h oe => by
  have hij : i ≠ j := fun q => by
    subst q
    rw [show (ds.set i c).s = ds.s.set i c from rfl] at h
    have hl : i < ds.s.length := by simpa using (List.getElem?_eq_some_iff.mp h).1
    rw [List.getElem?_set_self hl] at h
    cases h; rw [hc] at oe; cases oe
  rw [show (ds.set i c).s = ds.s.set i c from rfl, List.getElem?_set_ne hij] at h
  exact ⟨h, List.getElem?_set_ne hij⟩
theorem OwnSub.wipe : ∀ vs : List Nat, OwnSub σ ds (L2.wipe σ vs) (ds.wipe vs)
  | [] => .refl _ _
  | _ :: vs => (OwnSub.wipe vs).trans (OwnSub.set rfl)
abbrev TWG := D → DS → (DS → Prop) → Prop
structure GJ (Z : ZZ) (X : Cx) (tg : Expr) (is : List Nat) (W : TWG) : Prop where
  ex : ∃ g, PG X tg g ∧ ∀ F M σ H ds v x (q : DS → Prop) (Q : L2.St → Hp → Prop), Rep Z X.K F M σ H ds → R X.K Z.C (era H M) v x → W x ds q →
    (∀ σ' ds', Rep Z X.K F M σ' H ds' → (∀ vs : List Nat, (∀ i ∈ is, i ∈ vs) → L2.wipe σ' vs = L2.wipe σ vs) → OwnSub σ ds σ' ds' → q ds' → Q σ' H) → g v σ H Q
def gW (Z : ZZ) (K : PySem.W.Frag) (is : List Nat) (W : TWG) : TG := fun v σ H Q => ∃ F M ds x q, Rep Z K F M σ H ds ∧ R K Z.C (era H M) v x ∧ W x ds q ∧
    ∀ σ' ds', Rep Z K F M σ' H ds' → (∀ vs : List Nat, (∀ i ∈ is, i ∈ vs) → L2.wipe σ' vs = L2.wipe σ vs) → OwnSub σ ds σ' ds' → q ds' → Q σ' H
theorem GJ.pg {is : List Nat} {W : TWG} {tg : Expr} (h : GJ Z X tg is W) : PG X tg (gW Z X.K is W) := by
  obtain ⟨g, p, k⟩ := h.ex
  exact ⟨fun pins s σ H v u Q I rv ⟨F, M, ds, x, q, r, h, w, z⟩ => p.run pins s σ H v u Q I rv (k F M σ H ds v x q Q r h w z)⟩
theorem set_comm_none {σ : L2.St} {i j : Nat} {o : Option V} : (σ.set i o).set j none = if i = j then σ.set j none else (σ.set j none).set i o := by
  by_cases h : i = j
  · subst h; rw [if_pos rfl, List.set_set]
  · rw [if_neg h, List.set_comm _ _ h]
theorem wipe_set_in {i : Nat} {o : Option V} : ∀ {vs : List Nat} {σ : L2.St}, i ∈ vs → L2.wipe (σ.set i o) vs = L2.wipe σ vs := by
  have aux : ∀ (vs : List Nat) (σ : L2.St) (i : Nat) (o : Option V), L2.wipe (σ.set i o) vs = if i ∈ vs then L2.wipe σ vs else (L2.wipe σ vs).set i o := by
    intro vs
    induction vs with
    | nil => intro σ i o; simp [L2.wipe]
    | cons v vs ih =>
      intro σ i o
      show (L2.wipe (σ.set i o) vs).set v none = _
      rw [ih]
      by_cases hv : i = v
      · subst hv
        rw [if_pos List.mem_cons_self]
        show _ = (L2.wipe σ vs).set i none
        split
        · rfl
        · rw [List.set_set]
      · by_cases h : i ∈ vs
        · rw [if_pos h, if_pos (List.mem_cons_of_mem _ h)]; rfl
        · rw [if_neg h, if_neg (by simp [hv, h])]
          show ((L2.wipe σ vs).set i o).set v none = ((L2.wipe σ vs).set v none).set i o
          rw [List.set_comm _ _ hv]
  intro vs σ h
  rw [aux, if_pos h]
@[simp] def wGn (i : Nat) : TWG := fun x ds q => q (ds.set i (.d x))
theorem gj_name {i : Nat} (hN : X.N.Nodup) (hi : X.N[i]? = some x) (hx : Loc X.env.scope x) (hf : X.fn x = true ∨ X.env.scope.names.lookup x = some .local := by first | exact .inl rfl | exact .inr rfl | assumption) : GJ Z X (.Name x pos) [i] (wGn i) := by
  refine ⟨_, pg_name hN hi hx hf, fun F M σ H ds v x q Q r h w k => k _ _ (r.setD h) (fun vs hv => wipe_set_in (hv i (by simp))) (OwnSub.set rfl) w⟩
abbrev TWGs := List D → DS → (DS → Prop) → Prop
structure GJs (Z : ZZ) (X : Cx) (tgs : List Expr) (is : List Nat) (W : TWGs) : Prop where
  ex : ∃ g, PGs X tgs g ∧ ∀ F M σ H ds vs xs (q : DS → Prop) (Q : L2.St → Hp → Prop), Rep Z X.K F M σ H ds → RL X.K Z.C (era H M) vs xs → W xs ds q →
    (∀ σ' ds', Rep Z X.K F M σ' H ds' → (∀ vs : List Nat, (∀ i ∈ is, i ∈ vs) → L2.wipe σ' vs = L2.wipe σ vs) → OwnSub σ ds σ' ds' → q ds' → Q σ' H) → g vs σ H Q
@[simp] def wGnil : TWGs := fun xs ds q => xs = [] ∧ q ds
@[simp] def wGcons (A : TWG) (B : TWGs) : TWGs := fun xs ds q => ∃ x r, xs = x :: r ∧ A x ds fun ds' => B r ds' q
theorem gjs_nil : GJs Z X [] [] wGnil := ⟨_, pgs_nil, fun F M σ H ds vs xs q Q r h ⟨e, w⟩ k => by subst e; cases h; exact ⟨rfl, k _ _ r (fun _ _ => rfl) (.refl _ _) w⟩⟩
theorem gjs_cons {es : List Expr} {i1 i2 : List Nat} {A : TWG} {B : TWGs} (h1 : GJ Z X e i1 A) (h2 : GJs Z X es i2 B)
    (hs : (assignEach (e :: es) X.env).map (·.2) = assign e X.env :: (assignEach es X.env).map (·.2) := by rfl) : GJs Z X (e :: es) (i1 ++ i2) (wGcons A B) := by
  obtain ⟨g1, p1, k1⟩ := h1.ex
  obtain ⟨g2, p2, k2⟩ := h2.ex
  refine ⟨_, pgs_cons p1 p2 hs, fun F M σ H ds vs xs q Q r h ⟨x, rr, e, w⟩ k => ?_⟩
  subst e
  cases h with
  | cons a b =>
    refine ⟨_, _, rfl, k1 F M σ H ds _ _ _ _ r a w fun σ1 ds1 r1 wp1 o1 w1 => k2 F M σ1 H ds1 _ _ _ _ r1 b w1 fun σ2 ds2 r2 wp2 o2 w2 => k _ _ r2 (fun vs hv => ?_) (o1.trans o2) w2⟩
    rw [wp2 vs fun i hi => hv i (List.mem_append_right _ hi), wp1 vs fun i hi => hv i (List.mem_append_left _ hi)]
@[simp] def wGtup (n : Nat) (B : TWGs) : TWG := fun x ds q => ∃ xs, x = .tup xs ∧ xs.length = n ∧ B xs ds q
theorem gj_tup {es : List Expr} {k : Nat} {is : List Nat} {n : Nat} {B : TWGs} (hc : X.calm = true) (h : GJs Z X es is B) (hn : (assignEach es X.env).length = n := by rfl) (hst : (assignEach es X.env).findIdx? (·.1) = none := by rfl) :
    GJ Z X (.Tuple es k pos) is (wGtup n B) := by
  obtain ⟨g, p, kk⟩ := h.ex
  refine ⟨_, pg_tup hc p hn hst, fun F M σ H ds v x q Q r h ⟨xs, e, hl, w⟩ k => ?_⟩
  subst e
  cases h with
  | tup a b => exact ⟨_, _, rfl, era_full.tup a, by rw [b.len]; exact hl, kk F M σ H ds _ _ q Q r b w k⟩
/-! ### what is walked -/
structure WalkD (Z : ZZ) (K : PySem.W.Frag) (F : Fr) (M : Addr → Prop) (H1 : Hp) (J : It) (xs : List D) (G : Hp → Prop) (Y : Nat → Hp → V → Hp → Prop) : Prop where
  w : Walk J xs.length G Y
  g : ∀ M2 H2, Keep M H1 M2 H2 → G H2
  y : ∀ i M2 σ2 H2 ds2 v H3, i < xs.length → Rep Z K F M2 σ2 H2 ds2 → Keep M H1 M2 H2 → Y i H2 v H3 → Ext F H2 H3 ∧ ∃ d, xs[i]? = some d ∧ R K Z.C (era H3 M2) v d
abbrev TWI := DS → (List D → Prop) → Prop
structure IJ (Z : ZZ) (X : Cx) (tg iter : Expr) (W : TWI) : Prop where
  ex : ∃ wi, PI X tg iter wi ∧ ∀ F M σ H ds (q : List D → Prop) (R' : It → Hp → Prop), Rep Z X.K F M σ H ds → W ds q → (∀ J H1 xs G Y, Ext F H H1 → WalkD Z X.K F M H1 J xs G Y → q xs → R' J H1) → wi σ H R'
def iW (Z : ZZ) (K : PySem.W.Frag) (W : TWI) : TI := fun σ H R' => ∃ F M ds q, Rep Z K F M σ H ds ∧ W ds q ∧ ∀ J H1 xs G Y, Ext F H H1 → WalkD Z K F M H1 J xs G Y → q xs → R' J H1
theorem IJ.pi {tg : Expr} {W : TWI} (h : IJ Z X tg e W) : PI X tg e (iW Z X.K W) := by
  obtain ⟨t, p, g⟩ := h.ex
  exact ⟨fun pins s σ H R' I ⟨F, M, ds, q, r, w, k⟩ => p.run pins s σ H R' I (g F M σ H ds q R' r w k)⟩
theorem walkD_at {J : It} {vs : List V} {xs : List D} {G : Hp → Prop} (l : RL K Z.C (era H1 M) vs xs) (w : Walk J vs.length G (YAt vs)) (g : ∀ M2 H2, Keep M H1 M2 H2 → G H2) : WalkD Z K F M H1 J xs G (YAt vs) := by
  refine ⟨by rw [← l.len]; exact w, g, fun i M2 σ2 H2 ds2 v H3 hi r k y => ?_⟩
  obtain ⟨rfl, e⟩ := y
  obtain ⟨d, h1, h2⟩ := l.at e
  exact ⟨.refl F _, d, h1, h2.le k.le⟩
@[simp] def wItL (A : TW) : TWI := fun ds q => A ds fun x => ∃ xs, x = .lst xs ∧ q xs
@[simp] def wItT (A : TW) : TWI := fun ds q => A ds fun x => ∃ xs, x = .tup xs ∧ q xs
section
variable {tg : Expr} {p1 : Pos}
theorem ij_list (ha : EJ Z .d X e A) : IJ Z X tg e (wItL A) := by
  obtain ⟨t, p, g⟩ := ha.ex
  refine ⟨_, pi_list p, fun F M σ H ds q R' r w k => g F M σ H ds _ _ r w fun v H1 d x1 s1 ⟨xs, e1, z⟩ => ?_⟩
  subst e1
  cases (show R X.K Z.C (era H1 M) v (.lst xs) from s1) with
  | lst a b =>
    obtain ⟨n, a⟩ := era_in a
    exact ⟨_, rfl, ⟨_, .of a⟩, k _ _ _ _ _ x1 (walkD_at b walk_list fun M2 H2 kp => .of (kp _ _ n a).2) z⟩
theorem sqT_keep {a : Addr} {vs : List V} (h : SqT K (era H1 M) a vs) {M2 : Addr → Prop} {H2 : Hp} (k : Keep M H1 M2 H2) : SqT K H2 a vs := era_full.tup (k.le.tup h)
theorem ij_tup (ha : EJ Z .d X e A) : IJ Z X tg e (wItT A) := by
  obtain ⟨t, p, g⟩ := ha.ex
  refine ⟨_, pi_tup p, fun F M σ H ds q R' r w k => g F M σ H ds _ _ r w fun v H1 d x1 s1 ⟨xs, e1, z⟩ => ?_⟩
  subst e1
  cases (show R X.K Z.C (era H1 M) v (.tup xs) from s1) with
  | tup a b => exact ⟨_, rfl, ⟨_, era_full.tup a⟩, k _ _ _ _ _ x1 (walkD_at b walk_tup fun M2 H2 kp => sqT_keep a kp) z⟩
@[simp] def wItR (A : TW) : TWI := fun ds q => A ds fun x => ∃ n : Nat, x = .int n ∧ n ≤ 100000 ∧ q ((rgN n).map D.int)
theorem rgN_len (n : Nat) : (rgN n).length = n := by unfold rgN; simp
theorem rgN_get {n i : Nat} (h : i < n) : ((rgN n).map D.int)[i]? = some (.int (i : Nat)) := by unfold rgN; simp [h]
theorem ij_range (hg : Gl X "range") (hm : X.mg "range" = none) (ha : EJ Z .r X a A) (hs : starEach [a] X.env = [(false, eval a X.env)] := by rfl) : IJ Z X tg (.Call (.Name "range" p1) [a] [] pos) (wItR A) := by
  obtain ⟨t, p, g⟩ := ha.ex
  refine ⟨_, pi_range1 hg hm (pa_cons p pa_nil hs) hs, fun F M σ H ds q R' r w k => g F M σ H ds _ _ r w fun v H1 d x1 s1 ⟨n, e1, hn, z⟩ => ?_⟩
  subst e1
  cases RT.int s1
  refine ⟨n, rfl, by omega, by omega, k _ _ _ (fun _ => True) (YFn fun i => .int (0 + (i : Nat))) x1 ⟨?_, fun _ _ _ => trivial, fun i M2 σ2 H2 ds2 v H3 hi r kp y => ?_⟩ z⟩
  · rw [List.length_map, rgN_len, Int.toNat_natCast]
    exact walk_range
  · obtain ⟨rfl, rfl⟩ := y
    rw [List.length_map, rgN_len] at hi
    refine ⟨.refl F _, .int (i : Nat), rgN_get hi, ?_⟩
    show R X.K Z.C _ (V.int (0 + (i : Nat))) _
    rw [Int.zero_add]
    exact .int _
/-- enumerate(t) -/
def enumD : Nat → List D → List D
  | _, [] => []
  | k, x :: xs => .tup [.int (k : Nat), x] :: enumD (k + 1) xs
theorem enumD_len : ∀ (k : Nat) (xs : List D), (enumD k xs).length = xs.length
  | _, [] => rfl
  | k, x :: xs => by simp [enumD, enumD_len (k + 1) xs]
theorem enumD_get : ∀ (k : Nat) (xs : List D) (i : Nat) (d : D), xs[i]? = some d → (enumD k xs)[i]? = some (.tup [.int ((k + i : Nat) : Int), d])
  | _, [], i, d, h => by simp at h
  | k, x :: xs, 0, d, h => by simp at h; subst h; simp [enumD]
  | k, x :: xs, i + 1, d, h => by
    have := enumD_get (k + 1) xs i d (by simpa using h)
    simp only [enumD, List.getElem?_cons_succ]
    rw [this, show k + 1 + i = k + (i + 1) by omega]
@[simp] def wItE (A : TW) : TWI := fun ds q => A ds fun x => ∃ xs, x = .tup xs ∧ q (enumD 0 xs)
theorem ij_enum {elts : List Expr} {kk : Nat} {tpos : Pos} (hg : Gl X "enumerate") (hm : X.mg "enumerate" = none) (ha : EJ Z .d X a A) (hs : starEach [a] X.env = [(false, eval a X.env)] := by rfl) : IJ Z X (.Tuple elts kk tpos) (.Call (.Name "enumerate" p1) [a] [] pos) (wItE A) := by
  obtain ⟨t, p, g⟩ := ha.ex
  refine ⟨_, pi_enumT hg hm (pa_cons p pa_nil hs) hs, fun F M σ H ds q R' r w k => g F M σ H ds _ _ r w fun v H1 d x1 s1 ⟨xs, e1, z⟩ => ?_⟩
  subst e1
  cases (show R X.K Z.C (era H1 M) v (.tup xs) from s1) with
  | @tup a vs _ ha hb =>
    refine ⟨_, _, rfl, era_full.tup ha, k _ _ _ (fun H => SqT X.K H a vs) (YPair (fun i => some (.int (i : Nat))) (fun i => vs[i]?)) x1 ⟨?_, fun M2 H2 kp => sqT_keep ha kp, fun i M2 σ2 H2 ds2 v H3 hi r kp y => ?_⟩ z⟩
    · rw [enumD_len, ← hb.len]; exact walk_enumT
    · obtain ⟨T, y1, y2, rfl, hT, rfl, e1, e2⟩ := y
      cases e1
      obtain ⟨d, h1, h2⟩ := hb.at e2
      refine ⟨.newT hT _, .tup [.int (i : Nat), d], by have := enumD_get 0 xs i d h1; rw [Nat.zero_add] at this; exact this, ?_⟩
      exact RD.newT r hT (.cons (.int _) (.one (h2.le kp.le)))
/-- the signs of a text -/
def signs (z : Str) : List D := z.cps.toList.map fun c => D.str ⟨#[c]⟩
@[simp] def wItS (A : TW) : TWI := fun ds q => A ds fun x => ∃ z, x = .str z ∧ q (signs z)
theorem ij_str (ha : EJ Z .r X a A) : IJ Z X tg a (wItS A) := by
  obtain ⟨t, p, g⟩ := ha.ex
  refine ⟨_, pi_str p, fun F M σ H ds q R' r w k => g F M σ H ds _ _ r w fun v H1 d x1 s1 ⟨xs, e1, z⟩ => ?_⟩
  subst e1
  cases RT.str s1
  refine ⟨xs, rfl, k _ _ _ (fun _ => True) (fun i H v H' => H' = H ∧ ∃ c, xs.cps[i]? = some c ∧ v = .str ⟨#[c]⟩) x1 ⟨by unfold signs; rw [List.length_map, Array.length_toList]; exact walk_str, fun _ _ _ => trivial, fun i M2 σ2 H2 ds2 v H3 hi r kp y => ?_⟩ z⟩
  obtain ⟨rfl, c, h1, rfl⟩ := y
  refine ⟨.refl F _, .str ⟨#[c]⟩, ?_, .str _⟩
  unfold signs
  rw [List.getElem?_map, Array.getElem?_toList, h1]
  rfl
end
/-! ### one loop, its turns told by Pv -/
theorem it_core {J : It} {n : Nat} {G : Hp → Prop} {Y : Nat → Hp → V → Hp → Prop} (w : Walk J n G Y) {H0 : Hp} {Qd : Hp → Prop} (Pv : Nat → Hp → Prop) (B : (Hp → Prop) → V → Hp → Prop) (h0 : Pv 0 H0) (hG : ∀ i H, i ≤ n → Pv i H → G H)
    (hs : ∀ i x H H', i < n → Pv i H → Y i H x H' → B (Pv (i + 1)) x H') (hd : ∀ H, Pv n H → Qd H) :
    ∃ W : Nat → Nat → Hp → Prop, (∃ m, W 0 m H0) ∧ ∀ i m H, W i m H → (J.stop i H ∧ Qd H) ∨ (J.go i H ∧ ∃ Nx : Hp → Prop, (∀ H', Nx H' → ∃ m', m' < m ∧ W (i + 1) m' H') ∧ ∀ x H', J.yld i H x H' → B Nx x H') := by
  refine ⟨fun i m H => m = n - i ∧ i ≤ n ∧ Pv i H, ⟨n, by simp, Nat.zero_le _, h0⟩, ?_⟩
  rintro i m H ⟨rfl, hi, p⟩
  have q := hG i H hi p
  by_cases hlt : i < n
  · exact .inr ⟨w.goes i H hlt q, Pv (i + 1), fun H' p' => ⟨n - (i + 1), by omega, rfl, hlt, p'⟩, fun x H' y => hs i x H H' hlt p (w.yields i H x H' hlt q y)⟩
  · have e : i = n := by omega
    subst e
    exact .inl ⟨w.stops H q, hd H p⟩
/-! ### comprehensions -/
structure TsJ (Z : ZZ) (X : Cx) (ifs : List Expr) (W : TWT) : Prop where
  pts : PTs X ifs (tWT Z X.K W)
theorem ts_nil : TsJ Z X [] (fun _ q => q true) := ⟨⟨fun pins s σ H Q I ⟨F, M, ds, q, r, w, k⟩ => pts_nil.run pins s σ H Q I (k true H (.refl F H) w)⟩⟩
theorem ts_one {c : Expr} {W : TWT} (h : TJ Z X c W) : TsJ Z X [c] W := ⟨pts_one h.pt⟩
/-- one loop: the items, what is made so far, what follows -/
def lcGo {α : Type} (B : D → α → (α → Prop) → Prop) : List D → α → (α → Prop) → Prop
  | [], acc, q => q acc
  | x :: xs, acc, q => B x acc fun acc' => lcGo B xs acc' q
@[simp] def lcB (G : TWG) (T : TWT) (E : TW) (ds : DS) : D → List D → (List D → Prop) → Prop := fun x acc q =>
  G x ds fun ds2 => T ds2 fun b => if b = true then E ds2 fun y => acc.length < 100000 ∧ q (acc ++ [y]) else q acc
@[simp] def wLc (I : TWI) (G : TWG) (T : TWT) (E : TW) (vs : List Nat) : TW := fun ds q => I ds fun xs => lcGo (lcB G T E (ds.calm.wipe vs)) xs [] fun ys => q (.lst ys)
theorem wipe_calm (ds : DS) : ∀ vs : List Nat, ds.calm.wipe vs = (ds.wipe vs).calm
  | [] => rfl
  | v :: vs => by show (ds.calm.wipe vs).set v .no = _; rw [wipe_calm ds vs]; rfl
theorem wipe_idem {σ : L2.St} {vs : List Nat} : L2.wipe (L2.wipe σ vs) vs = L2.wipe σ vs := by
  have aux : ∀ (us vs : List Nat) (σ : L2.St), (∀ u ∈ us, u ∈ vs) → L2.wipe (L2.wipe σ us) vs = L2.wipe σ vs := by
    intro us
    induction us with
    | nil => intro vs σ _; rfl
    | cons u us ih =>
      intro vs σ h
      show L2.wipe ((L2.wipe σ us).set u none) vs = _
      rw [wipe_set_in (h u List.mem_cons_self), ih vs σ fun v hv => h v (List.mem_cons_of_mem _ hv)]
  exact aux vs vs σ fun _ h => h
/-- the state of a comprehension's loop -/
structure LcSt (Z : ZZ) (K : PySem.W.Frag) (F : Fr) (M : Addr → Prop) (σ : L2.St) (ds : DS) (H1 : Hp) (L : Addr) (H : Hp) (ys : List D) : Prop where
  x : Ext F H1 H
  l : ∃ acc, H L = some (.lst acc) ∧ RL K Z.C (era H fun a => M a ∨ a = L) acc ys
  r : Rep Z K F (fun a => M a ∨ a = L) σ H ds
theorem own_ne {L : Addr} (r : Rep Z K F M σ H ds) (hL : H L = none) : ∀ (i : Nat) (c : SC), ds.s[i]? = some c → c.own = true → σ[i]? ≠ some (some (.ref L)) := fun i c h1 h2 h3 => by
  have s := r.sl i c h1
  cases c with
  | l xs => obtain ⟨p, vs, e, m, b, n, h, l⟩ := s; rw [h3] at e; cases e; rw [hL] at h; cases h
  | k xs => obtain ⟨p, vs, e, m, b, n, h, l⟩ := s; rw [h3] at e; cases e; rw [hL] at h; cases h
  | no => cases h2
  | d _ => cases h2
  | bx => cases h2
theorem LcSt.start {L : Addr} (r : Rep Z K F M σ H1 ds) (hL : H1 L = none) : LcSt Z K F M σ ds H1 L (upd H1 L (.lst [])) [] :=
  ⟨.newL hL _, ⟨[], upd_same, .nil⟩, r.grow (.newL hL _) hL (by rw [upd_same]; exact Option.some_ne_none _)⟩
/-- an item is put behind; σ2: the slots of the block -/
theorem LcSt.app {L : Addr} {ys : List D} {σ2 : L2.St} {ds2 : DS} {H3 : Hp} {acc : List V} {y : V} {d : D} (rM : Rep Z K F M σ H1 ds) (hL : H1 L = none) (s : LcSt Z K F M σ ds H1 L H ys)
    (x2 : Ext F H H3) (hy : R K Z.C (era H3 fun a => M a ∨ a = L) y d) (hacc : H3 L = some (.lst acc)) : LcSt Z K F M σ ds H1 L (upd H3 L (.lst (acc ++ [y]))) (ys ++ [d]) := by
  obtain ⟨acc', h1, h2⟩ := s.l
  have hb : F.bx ≠ some L := rM.bxN hL
  have e : acc = acc' := by
    have := x2.same L _ hb h1
    rw [hacc] at this
    cases this; rfl
  subst e
  have le : Le (era H3 fun a => M a ∨ a = L) (era (upd H3 L (.lst (acc ++ [y]))) fun a => M a ∨ a = L) := era_le (fun _ z => z) fun a u n e => by rw [upd_ne (fun z : a = L => n (.inr z))]; exact e
  have r3 := s.r.ext x2
  refine ⟨⟨fun a o n e => ?_, fun b n h => ?_, fun a o kvs e => ?_⟩, ⟨_, upd_same, ?_⟩, ?_⟩
  · rw [upd_ne (ne_of_none e hL)]; exact (s.x.trans x2).same a o n e
  · obtain ⟨i, j, k, h⟩ := (s.x.trans x2).box b n h
    exact ⟨i, j, k, by rw [upd_ne (fun z : b = L => hb (z ▸ n))]; exact h⟩
  · by_cases h : a = L
    · subst h; rw [upd_same] at e; cases e
    · rw [upd_ne h] at e; exact (s.x.trans x2).nl a o kvs e
  · exact (RL.le (s.r.le x2) _ _ h2 |> fun z => RL.le le _ _ z).app (.one (hy.le le))
  · exact r3.poke (.inr rfl) hb (rM.h0N hL) (own_ne rM hL) fun _ _ e => nomatch e
end
end G78
namespace G78
open PySem PySem.Spec PyProof.Rows L2
section
variable {Z : ZZ} {K : PySem.W.Frag} {F : Fr} {M M' : Addr → Prop} {σ : L2.St} {H H' H1 : Hp} {ds : DS} {X : Cx} {v : V} {d : D} {p : Addr} {m : Md} {e a b : Expr} {A B W : TW} {pos : Pos} {x : Str} {pp : Pos} {es : List Expr}
/-- the items of a walk, within a comprehension whose new thing stands at L -/
theorem walk_in {J : It} {xs : List D} {G : Hp → Prop} {Y : Nat → Hp → V → Hp → Prop} {L : Addr} (rM : Rep Z K F M σ H1 ds) (hL : H1 L = none) (x : Ext F H1 H) : Keep M H1 (fun a => M a ∨ a = L) H := fun a o n e =>
  ⟨fun z => z.elim n fun q => (by rw [q, hL] at e; cases e), x.same a o (rM.bxM n) e⟩
section
variable {tg elt iter : Expr} {ifs : List Expr} {scope : Scope} {own : List (Str × Nat)} {I : TWI} {G : TWG} {T : TWT} {E : TW} {is : List Nat}
theorem lc_read (his : ∀ i ∈ is, i ∈ own.map (·.2)) {L : Addr} {xs : List D} {J : It} {G0 : Hp → Prop} {Y : Nat → Hp → V → Hp → Prop} {σ : L2.St} {H1 : Hp} {q : List D → Prop} {Qd : Hp → Prop}
    (r : Rep Z K F M σ H1 ds) (hL : H1 L = none) (w : WalkD Z K F M H1 J xs G0 Y) (hq : lcGo (lcB G T E (ds.calm.wipe (own.map (·.2)))) xs [] q)
    (hd : ∀ H ys, LcSt Z K F M σ ds H1 L H ys → q ys → Qd H) :
    ∃ W : Nat → Nat → Hp → Prop, (∃ m, W 0 m (upd H1 L (.lst []))) ∧ ∀ i m H, W i m H → (J.stop i H ∧ Qd H) ∨ (J.go i H ∧ ∃ Nx : Hp → Prop, (∀ H', Nx H' → ∃ m', m' < m ∧ W (i + 1) m' H') ∧
      ∀ x H', J.yld i H x H' → gW Z K is G x (wipe σ (own.map (·.2))) H' fun σ2 H2 => wipe σ2 (own.map (·.2)) = wipe σ (own.map (·.2)) ∧ tWT Z K T σ2 H2 fun b H3 =>
        if b = true then tW Z .d K E σ2 H3 fun y H4 => ∃ acc, H4 L = some (.lst acc) ∧ acc.length < sizeLine ∧ Nx (upd H4 L (.lst (acc ++ [y]))) else Nx H3) := by
  refine it_core w.w (fun i H => ∃ ys, LcSt Z K F M σ ds H1 L H ys ∧ lcGo (lcB G T E (ds.calm.wipe (own.map (·.2)))) (xs.drop i) ys q) (fun Nx x H' => gW Z K is G x (wipe σ (own.map (·.2))) H' fun σ2 H2 => wipe σ2 (own.map (·.2)) = wipe σ (own.map (·.2)) ∧ tWT Z K T σ2 H2 fun b H3 =>
        if b = true then tW Z .d K E σ2 H3 fun y H4 => ∃ acc, H4 L = some (.lst acc) ∧ acc.length < sizeLine ∧ Nx (upd H4 L (.lst (acc ++ [y]))) else Nx H3) ⟨[], .start r hL, hq⟩ ?_ ?_ ?_
  · rintro i H - ⟨ys, s, -⟩
    exact w.g _ _ (walk_in (J := J) (xs := xs) (G := G0) (Y := Y) r hL s.x)
  · rintro i x H H' hi ⟨ys, s, hq⟩ hy
    obtain ⟨x1, d, h1, h2⟩ := w.y i _ _ _ _ x H' hi s.r (walk_in (J := J) (xs := xs) (G := G0) (Y := Y) r hL s.x) hy
    rw [List.drop_eq_getElem_cons hi] at hq
    have e : xs[i] = d := by rw [List.getElem?_eq_getElem hi] at h1; exact Option.some.inj h1
    rw [e] at hq
    have rw1 := ((s.r.ext x1).calm.wipe (own.map (·.2)))
    refine ⟨F, _, _, d, _, rw1, h2, hq, fun σ2 ds2 r2 wp _ hq => ⟨?_, F, _, ds2, _, r2, hq, fun b H3 x3 hq => ?_⟩⟩
    · rw [wp _ his, wipe_idem]
    · cases b with
      | false =>
        refine ⟨ys, ⟨s.x.trans (x1.trans x3), ?_, (s.r.ext x1).ext x3⟩, hq⟩
        obtain ⟨acc, a1, a2⟩ := s.l
        exact ⟨acc, (x1.trans x3).same _ _ (r.bxN hL) a1, RL.le (s.r.le (x1.trans x3)) _ _ a2⟩
      | true =>
        refine ⟨F, _, ds2, _, r2.ext x3, hq, fun y H4 d' x4 hy hq => ?_⟩
        obtain ⟨acc, a1, a2⟩ := s.l
        have a3 := (x1.trans (x3.trans x4)).same _ _ (r.bxN hL) a1
        refine ⟨acc, a3, by rw [a2.len, sizeLine_eq]; have := hq.1; omega, ys ++ [d'], .app (σ2 := σ2) (ds2 := ds2) r hL s (x1.trans (x3.trans x4)) hy a3, hq.2⟩
  · rintro H ⟨ys, s, hq⟩
    rw [List.drop_length] at hq
    exact hd H ys s hq
theorem ej_lc (hc : X.calm = true) (hN : X.N.Nodup) (hi : IJ Z X tg iter I) (ok : BlkOk X.N X.env.scope scope own) (his : ∀ i ∈ is, i ∈ own.map (·.2))
    (hg : ∀ (s : Shared) (H : Hp) (C : Addr) (cl : List (Str × Addr)) (fp : List Addr), GJ Z (X.blk s H scope (compEnvC scope cl C X.env) fp) tg is G) (ht : ∀ (s : Shared) (H : Hp) (C : Addr) (cl : List (Str × Addr)) (fp : List Addr), TsJ Z (X.blk s H scope (compEnvC scope cl C X.env) fp) ifs T)
    (he : ∀ (s : Shared) (H : Hp) (C : Addr) (cl : List (Str × Addr)) (fp : List Addr), EJ Z .d (X.blk s H scope (compEnvC scope cl C X.env) fp) elt E) (hs : ∀ x, foldedSetIterable iter X.env x = pure x := by intro _; rfl) :
    EJ Z .o X (.ListComp elt [⟨tg, iter, ifs, 0⟩] scope pos) (wLc I G T E (own.map (·.2))) := by
  obtain ⟨wi, pi, gi⟩ := hi.ex
  refine ⟨_, pe_lc hc hN pi ok (g := gW Z X.K is G) (tt := tWT Z X.K T) (te := tW Z .d X.K E) (fun s H C cl fp => (hg s H C cl fp).pg) (fun s H C cl fp => (ht s H C cl fp).pts) (fun s H C cl fp => (he s H C cl fp).pe) hs, fun F M σ H ds q Q r w k => gi F M σ H ds _ _ r w fun J H1 xs G0 Y x1 wd hq L hL => ?_⟩
  refine lc_read (is := is) his (r.ext x1) hL wd hq fun H2 ys s hq => ?_
  obtain ⟨acc, a1, a2⟩ := s.l
  exact k _ _ _ (x1.trans s.x) (RO.lst (r.back x1 _ hL) a1 a2) hq
/-- y = [..] -/
theorem lc_set {i : Nat} {y : Str} {py spos : Pos} (hc : X.calm = true) (hN : X.N.Nodup) (hy : X.N[i]? = some y) (hyl : X.env.scope.names.lookup y = some .local)
    (hsw : swapsWith (.ListComp elt [⟨tg, iter, ifs, 0⟩] scope pos) (some (.Name y py)) spos.line X.env = pure true) (hi : IJ Z X tg iter I) (ok : BlkOk X.N X.env.scope scope own) (his : ∀ i ∈ is, i ∈ own.map (·.2))
    (hg : ∀ (s : Shared) (H : Hp) (C : Addr) (cl : List (Str × Addr)) (fp : List Addr), GJ Z (X.blk s H scope (compEnvC scope cl C X.env) fp) tg is G) (ht : ∀ (s : Shared) (H : Hp) (C : Addr) (cl : List (Str × Addr)) (fp : List Addr), TsJ Z (X.blk s H scope (compEnvC scope cl C X.env) fp) ifs T)
    (he : ∀ (s : Shared) (H : Hp) (C : Addr) (cl : List (Str × Addr)) (fp : List Addr), EJ Z .d (X.blk s H scope (compEnvC scope cl C X.env) fp) elt E) (hs : ∀ x, foldedSetIterable iter X.env x = pure x := by intro _; rfl) :
    ∃ t, PS X (.Assign [.Name y py] (.ListComp elt [⟨tg, iter, ifs, 0⟩] scope pos) spos) (tAsg t (gName i)) ∧ ∀ F M σ H ds (q : D → Prop) (Q : VK), Rep Z X.K F M σ H ds → wLc I G T E (own.map (·.2)) ds q → (∀ v H' d, Ext F H H' → Res Z .o X.K F M H H' v d → q d → Q v H') → t σ H Q := by
  obtain ⟨wi, pi, gi⟩ := hi.ex
  refine ⟨_, ps_setLc hc hN hy hyl hsw pi ok (g := gW Z X.K is G) (tt := tWT Z X.K T) (te := tW Z .d X.K E) (fun s H C cl fp => (hg s H C cl fp).pg) (fun s H C cl fp => (ht s H C cl fp).pts) (fun s H C cl fp => (he s H C cl fp).pe) hs, fun F M σ H ds q Q r w k => gi F M σ H ds _ _ r w fun J H1 xs G0 Y x1 wd hq L hL => ?_⟩
  refine lc_read (is := is) his (r.ext x1) hL wd hq fun H2 ys s hq => ?_
  obtain ⟨acc, a1, a2⟩ := s.l
  exact k _ _ _ (x1.trans s.x) (RO.lst (r.back x1 _ hL) a1 a2) hq
/-! ### two for -/
@[simp] def wLc2 (I : TWI) (G : TWG) (T : TWT) (I1 : TWI) (G1 : TWG) (T1 : TWT) (E : TW) (vs vs1 : List Nat) : TW := fun ds q => I ds fun xs => lcGo (fun x acc q =>
  G x (ds.calm.wipe vs) fun ds2 => T ds2 fun b => if b = true then I1 ds2 fun ys => lcGo (lcB G1 T1 E (ds2.wipe vs1)) ys acc q else q acc) xs [] fun ys => q (.lst ys)
theorem lc2_inner {ds2 : DS} {σ2 : L2.St} {Hs : Hp} {vs1 is1 : List Nat} {G1 : TWG} {T1 : TWT} (his1 : ∀ i ∈ is1, i ∈ vs1) {L : Addr} {xs ys : List D} {J : It} {G0 : Hp → Prop} {Y : Nat → Hp → V → Hp → Prop} {q : List D → Prop} {Qd : Hp → Prop}
    (hno : ∀ (i : Nat) (c : SC), ds2.s[i]? = some c → c.own = true → σ2[i]? ≠ some (some (.ref L))) (r : Rep Z K F M σ H1 ds) (hL : H1 L = none) (s : LcSt Z K F M σ ds H1 L Hs ys) (r2 : Rep Z K F (fun a => M a ∨ a = L) σ2 Hs ds2) (w : WalkD Z K F (fun a => M a ∨ a = L) Hs J xs G0 Y) (hq : lcGo (lcB G1 T1 E (ds2.wipe vs1)) xs ys q)
    (hd : ∀ H ys, LcSt Z K F M σ ds H1 L H ys → q ys → Qd H) :
    ∃ W : Nat → Nat → Hp → Prop, (∃ m, W 0 m Hs) ∧ ∀ i m H, W i m H → (J.stop i H ∧ Qd H) ∨ (J.go i H ∧ ∃ Nx : Hp → Prop, (∀ H', Nx H' → ∃ m', m' < m ∧ W (i + 1) m' H') ∧
      ∀ x H', J.yld i H x H' → gW Z K is1 G1 x (wipe σ2 vs1) H' fun σ3 H2 => wipe σ3 vs1 = wipe σ2 vs1 ∧ tWT Z K T1 σ3 H2 fun b H3 =>
        if b = true then tW Z .d K E σ3 H3 fun y H4 => ∃ acc, H4 L = some (.lst acc) ∧ acc.length < sizeLine ∧ Nx (upd H4 L (.lst (acc ++ [y]))) else Nx H3) := by
  have hb : F.bx ≠ some L := r.bxN hL
  refine it_core w.w (fun i H => ∃ ys, LcSt Z K F M σ ds H1 L H ys ∧ Rep Z K F (fun a => M a ∨ a = L) σ2 H ds2 ∧ Keep (fun a => M a ∨ a = L) Hs (fun a => M a ∨ a = L) H ∧ lcGo (lcB G1 T1 E (ds2.wipe vs1)) (xs.drop i) ys q) (fun Nx x H' => gW Z K is1 G1 x (wipe σ2 vs1) H' fun σ3 H2 => wipe σ3 vs1 = wipe σ2 vs1 ∧ tWT Z K T1 σ3 H2 fun b H3 =>
        if b = true then tW Z .d K E σ3 H3 fun y H4 => ∃ acc, H4 L = some (.lst acc) ∧ acc.length < sizeLine ∧ Nx (upd H4 L (.lst (acc ++ [y]))) else Nx H3) ⟨ys, s, r2, .refl _ _, hq⟩ ?_ ?_ ?_
  · rintro i H - ⟨ys, s, _, kp, -⟩
    exact w.g _ _ kp
  · rintro i x H H' hi ⟨ys, s, r2, kp, hq⟩ hy
    obtain ⟨x1, d, h1, h2⟩ := w.y i _ _ _ _ x H' hi r2 kp hy
    rw [List.drop_eq_getElem_cons hi] at hq
    have e : xs[i] = d := by rw [List.getElem?_eq_getElem hi] at h1; exact Option.some.inj h1
    rw [e] at hq
    have rw1 := (r2.ext x1).wipe vs1
    refine ⟨F, _, _, d, _, rw1, h2, hq, fun σ3 ds3 r3 wp _ hq => ⟨?_, F, _, ds3, _, r3, hq, fun b H3 x3 hq => ?_⟩⟩
    · rw [wp _ his1, wipe_idem]
    · cases b with
      | false =>
        refine ⟨ys, ⟨s.x.trans (x1.trans x3), ?_, (s.r.ext x1).ext x3⟩, (r2.ext x1).ext x3, kp.trans (.ext r2 (x1.trans x3)), hq⟩
        obtain ⟨acc, a1, a2⟩ := s.l
        exact ⟨acc, (x1.trans x3).same _ _ hb a1, RL.le (s.r.le (x1.trans x3)) _ _ a2⟩
      | true =>
        refine ⟨F, _, ds3, _, r3.ext x3, hq, fun y H4 d' x4 hy hq => ?_⟩
        obtain ⟨acc, a1, a2⟩ := s.l
        have a3 := (x1.trans (x3.trans x4)).same _ _ hb a1
        have r4 := r2.ext (x1.trans (x3.trans x4))
        refine ⟨acc, a3, by rw [a2.len, sizeLine_eq]; have := hq.1; omega, ys ++ [d'], .app (σ2 := σ3) (ds2 := ds3) r hL s (x1.trans (x3.trans x4)) hy a3, r4.poke (.inr rfl) hb (r.h0N hL) hno (fun _ _ e => nomatch e), kp.trans ((Keep.ext r2 (x1.trans (x3.trans x4))).trans fun a o n e => ⟨n, by rw [upd_ne (fun z : a = L => n (.inr z))]; exact e⟩), hq.2⟩
  · rintro H ⟨ys, s, _, _, hq⟩
    rw [List.drop_length] at hq
    exact hd H ys s hq
theorem ej_lc2 {tg1 iter1 : Expr} {ifs1 : List Expr} {I1 : TWI} {G1 : TWG} {T1 : TWT} {is1 vs1 : List Nat} (hc : X.calm = true) (hN : X.N.Nodup) (hi : IJ Z X tg iter I) (ok : BlkOk X.N X.env.scope scope own) (hv : ∀ i ∈ vs1, i ∈ own.map (·.2)) (his : ∀ i ∈ is, i ∈ own.map (·.2)) (his1 : ∀ i ∈ is1, i ∈ vs1)
    (hg : ∀ (s : Shared) (H : Hp) (C : Addr) (cl : List (Str × Addr)) (fp : List Addr), GJ Z (X.blk s H scope (compEnvC scope cl C X.env) fp) tg is G) (ht : ∀ (s : Shared) (H : Hp) (C : Addr) (cl : List (Str × Addr)) (fp : List Addr), TsJ Z (X.blk s H scope (compEnvC scope cl C X.env) fp) ifs T)
    (hi1 : ∀ (s : Shared) (H : Hp) (C : Addr) (cl : List (Str × Addr)) (fp : List Addr), IJ Z (X.blk s H scope (compEnvC scope cl C X.env) fp) tg1 iter1 I1)
    (hg1 : ∀ (s : Shared) (H : Hp) (C : Addr) (cl : List (Str × Addr)) (fp : List Addr), GJ Z (X.blk s H scope (compEnvC scope cl C X.env) fp) tg1 is1 G1) (ht1 : ∀ (s : Shared) (H : Hp) (C : Addr) (cl : List (Str × Addr)) (fp : List Addr), TsJ Z (X.blk s H scope (compEnvC scope cl C X.env) fp) ifs1 T1)
    (he : ∀ (s : Shared) (H : Hp) (C : Addr) (cl : List (Str × Addr)) (fp : List Addr), EJ Z .d (X.blk s H scope (compEnvC scope cl C X.env) fp) elt E) (hs : ∀ x, foldedSetIterable iter X.env x = pure x := by intro _; rfl) (hs1 : ∀ env x, foldedSetIterable iter1 env x = pure x := by intro _ _; rfl) :
    EJ Z .o X (.ListComp elt [⟨tg, iter, ifs, 0⟩, ⟨tg1, iter1, ifs1, 0⟩] scope pos) (wLc2 I G T I1 G1 T1 E (own.map (·.2)) vs1) := by
  obtain ⟨wi, pi, gi⟩ := hi.ex
  refine ⟨_, pe_lc2 hc hN pi ok hv (g := gW Z X.K is G) (tt := tWT Z X.K T) (wi1 := iW Z X.K I1) (g1 := gW Z X.K is1 G1) (tt1 := tWT Z X.K T1) (te := tW Z .d X.K E) (fun s H C cl fp => (hg s H C cl fp).pg) (fun s H C cl fp => (ht s H C cl fp).pts) (fun s H C cl fp => (hi1 s H C cl fp).pi) (fun s H C cl fp => (hg1 s H C cl fp).pg) (fun s H C cl fp => (ht1 s H C cl fp).pts) (fun s H C cl fp => (he s H C cl fp).pe) hs hs1,
    fun F M σ H ds q Q r w k => gi F M σ H ds _ _ r w fun J H1 xs G0 Y x1 wd hq L hL => ?_⟩
  have r1 := r.ext x1
  have hb : F.bx ≠ some L := r1.bxN hL
  refine it_core wd.w (fun i H => ∃ ys, LcSt Z X.K F M σ ds H1 L H ys ∧ lcGo (fun x acc q => G x (ds.calm.wipe (own.map (·.2))) fun ds2 => T ds2 fun b => if b = true then I1 ds2 fun ys => lcGo (lcB G1 T1 E (ds2.wipe vs1)) ys acc q else q acc) (xs.drop i) ys fun ys => q (.lst ys))
    (fun Nx x H' => gW Z X.K is G x (wipe σ (own.map (·.2))) H' fun σ2 H2 => wipe σ2 (own.map (·.2)) = wipe σ (own.map (·.2)) ∧ tWT Z X.K T σ2 H2 fun b H3 =>
    if b = true then iW Z X.K I1 σ2 H3 fun J1 H4 => ∃ W1 : Nat → Nat → Hp → Prop, (∃ m, W1 0 m H4) ∧ ∀ j k H, W1 j k H →
      (J1.stop j H ∧ Nx H) ∨ (J1.go j H ∧ ∃ Nx1 : Hp → Prop, (∀ H', Nx1 H' → ∃ k', k' < k ∧ W1 (j + 1) k' H') ∧ ∀ x H', J1.yld j H x H' → gW Z X.K is1 G1 x (wipe σ2 vs1) H' fun σ3 H5 => wipe σ3 vs1 = wipe σ2 vs1 ∧ tWT Z X.K T1 σ3 H5 fun b H6 =>
        if b = true then tW Z .d X.K E σ3 H6 fun y H7 => ∃ acc, H7 L = some (.lst acc) ∧ acc.length < sizeLine ∧ Nx1 (upd H7 L (.lst (acc ++ [y]))) else Nx1 H6)
    else Nx H3) ⟨[], .start r1 hL, hq⟩ ?_ ?_ ?_
  · rintro i H - ⟨ys, s, -⟩
    exact wd.g _ _ (walk_in (J := J) (xs := xs) (G := G0) (Y := Y) r1 hL s.x)
  · rintro i x H2 H2' hi ⟨ys, s, hq⟩ hy
    obtain ⟨x2, d, h1, h2⟩ := wd.y i _ _ _ _ x H2' hi s.r (walk_in (J := J) (xs := xs) (G := G0) (Y := Y) r1 hL s.x) hy
    rw [List.drop_eq_getElem_cons hi] at hq
    have e : xs[i] = d := by rw [List.getElem?_eq_getElem hi] at h1; exact Option.some.inj h1
    rw [e] at hq
    have rw1 := ((s.r.ext x2).calm.wipe (own.map (·.2)))
    refine ⟨F, _, _, d, _, rw1, h2, hq, fun σ2 ds2 r2 wp os hq => ⟨?_, F, _, ds2, _, r2, hq, fun b H3 x3 hq => ?_⟩⟩
    · rw [wp _ his, wipe_idem]
    · have s3 : LcSt Z X.K F M σ ds H1 L H3 ys := by
        refine ⟨s.x.trans (x2.trans x3), ?_, (s.r.ext x2).ext x3⟩
        obtain ⟨acc, a1, a2⟩ := s.l
        exact ⟨acc, (x2.trans x3).same _ _ hb a1, RL.le (s.r.le (x2.trans x3)) _ _ a2⟩
      cases b with
      | false => exact ⟨ys, s3, hq⟩
      | true =>
        refine ⟨F, _, ds2, _, r2.ext x3, hq, fun J1 H4 ys1 G1' Y1' x4 wd1 hq => ?_⟩
        have s4 : LcSt Z X.K F M σ ds H1 L H4 ys := by
          refine ⟨s3.x.trans x4, ?_, s3.r.ext x4⟩
          obtain ⟨acc, a1, a2⟩ := s3.l
          exact ⟨acc, x4.same _ _ hb a1, RL.le (s3.r.le x4) _ _ a2⟩
        refine lc2_inner his1 (fun i c h1 h2 h3 => ?_) r1 hL s4 ((r2.ext x3).ext x4) wd1 hq fun H ys s hq => ⟨ys, s, hq⟩
        obtain ⟨o1, o2⟩ := os i c h1 h2
        rw [o2] at h3
        have ow := OwnSub.wipe (σ := σ) (ds := ds.calm) (own.map (·.2)) i c o1 h2
        rw [ow.2] at h3
        exact own_ne r1 hL i c ow.1 h2 h3
  · rintro H2 ⟨ys, s, hq⟩
    rw [List.drop_length] at hq
    obtain ⟨acc, a1, a2⟩ := s.l
    exact k _ _ _ (x1.trans s.x) (RO.lst (r.back x1 _ hL) a1 a2) hq
end
end
end G78
namespace G78
open PySem PySem.Spec PyProof.Rows L2
section
variable {Z : ZZ} {K : PySem.W.Frag} {F : Fr} {M M' : Addr → Prop} {σ : L2.St} {H H' H1 : Hp} {ds : DS} {X : Cx} {v : V} {d : D} {p : Addr} {m : Md} {e a b : Expr} {A B W : TW} {pos : Pos} {x : Str} {pp : Pos} {es : List Expr}
/-! ### paths: what is read, whatever is locked -/
structure PJ (Z : ZZ) (X : Cx) (e : Expr) (W : DS → D → Prop) : Prop where
  ex : ∃ t, PE X e t ∧ ∀ F M σ H ds d, Rep Z X.K F M σ H ds → W ds d → ∃ v, R X.K Z.C (era H M) v d ∧ ∀ H2, Le H H2 → ∀ Q : VK, Q v H2 → t σ H2 Q
theorem pj_nm {i : Nat} (hN : X.N[i]? = some x) (hv : Vis X.env.scope x) (hd : (x == ("__debug__" : Str)) = false := by decide) (hcd : (x == ("__classdict__" : Str)) = false := by decide) : PJ Z X (.Name x pos) (fun ds d => ds.s[i]? = some (.d d)) := by
  refine ⟨_, pe_var hN hv hd hcd, fun F M σ H ds d r w => ?_⟩
  obtain ⟨v, h1, h2⟩ := r.sl i _ w
  exact ⟨v, h2, fun H2 _ Q q => ⟨v, h1, q⟩⟩
theorem pj_ix {A B : DS → D → Prop} (ha : PJ Z X a A) (hb : PJ Z X b B) (hs : PlainIx b := by exact fun _ _ => rfl) : PJ Z X (.Subscript a b pos) (fun ds d => ∃ xs i, A ds (.lst xs) ∧ B ds (.int i) ∧ atI xs i = some d) := by
  obtain ⟨ta, pa, ga⟩ := ha.ex
  obtain ⟨tb, pb, gb⟩ := hb.ex
  refine ⟨_, pe_ix ix_list pa pb hs, fun F M σ H ds d r ⟨xs, i, w1, w2, w3⟩ => ?_⟩
  obtain ⟨va, h1, k1⟩ := ga F M σ H ds _ r w1
  obtain ⟨vb, h2, k2⟩ := gb F M σ H ds _ r w2
  cases h2
  cases h1 with
  | lst a l =>
    obtain ⟨v, e, rv⟩ := l.atI w3
    refine ⟨v, rv, fun H2 le Q q => k1 H2 le _ (k2 H2 le _ ⟨_, _, i, v, rfl, rfl, ?_, e, q⟩)⟩
    exact le.lst (.of (era_in a).2)
theorem pj_dget {A B : DS → D → Prop} {kk : Nat} (hr : Room kk X.A) (ha : PJ Z X a A) (hb : PJ Z X b B) (hs : NoSl b := by exact fun _ _ => rfl) : PJ Z X (.Subscript a b pos) (fun ds d => ∃ kds i, A ds (.dic kds) ∧ B ds (.int i) ∧ dgt kds (.inl i) = some d) := by
  obtain ⟨ta, pa, ga⟩ := ha.ex
  obtain ⟨tb, pb, gb⟩ := hb.ex
  refine ⟨_, pe_dget (hu_of hr) pa pb hs, fun F M σ H ds d r ⟨xs, i, w1, w2, w3⟩ => ?_⟩
  obtain ⟨va, h1, k1⟩ := ga F M σ H ds _ r w1
  obtain ⟨vb, h2, k2⟩ := gb F M σ H ds _ r w2
  cases h2
  cases h1 with
  | dic a l =>
    rcases l.val (.inl i) with ⟨_, n⟩ | ⟨v, d', h1, h2, rv⟩
    · rw [n] at w3; cases w3
    · rw [h2] at w3; cases w3
      exact ⟨v, rv, fun H2 le Q q => k1 H2 le _ (k2 H2 le _ ⟨_, v, rfl, .inl ⟨_, .inl i, le.dic (era_full.dic a), rfl, h1.symm⟩, q⟩)⟩
/-! ### locked dicts -/
@[simp] def DS.lock (ds : DS) : DS := { ds with nl := false }
@[simp] def DS.unlock (ds : DS) : DS := { ds with nl := true }
theorem Le.lock {kvs : List (Key × V)} {od : Obj} (h : H p = some (.dK kvs)) : Le H (upd H p (.frz od (.dK kvs))) := fun a o e => by
  by_cases q : a = p
  · subst q; rw [h] at e; cases e; exact .inr (.inl ⟨_, _, rfl, upd_same⟩)
  · exact .inl (by rw [upd_ne q]; exact e)
theorem Le.unlock {kvs : List (Key × V)} {od : Obj} (h : H p = some (.frz od (.dK kvs))) : Le H (upd H p (.dK kvs)) := fun a o e => by
  by_cases q : a = p
  · subst q; rw [h] at e; cases e; exact .inr (.inr ⟨_, _, rfl, upd_same⟩)
  · exact .inl (by rw [upd_ne q]; exact e)
theorem era_lock {kvs : List (Key × V)} {od : Obj} (h : H p = some (.dK kvs)) : Le (era H M) (era (upd H p (.frz od (.dK kvs))) M) := fun a o e => by
  obtain ⟨n, e⟩ := era_in e
  rcases Le.lock (od := od) h a o e with z | ⟨k, o', e1, z⟩ | ⟨k, o', e1, z⟩
  · exact .inl (era_of n z)
  · exact .inr (.inl ⟨k, o', e1, era_of n z⟩)
  · exact .inr (.inr ⟨k, o', e1, era_of n z⟩)
theorem era_unlock {kvs : List (Key × V)} {od : Obj} (h : H p = some (.frz od (.dK kvs))) : Le (era H M) (era (upd H p (.dK kvs)) M) := fun a o e => by
  obtain ⟨n, e⟩ := era_in e
  rcases Le.unlock h a o e with z | ⟨k, o', e1, z⟩ | ⟨k, o', e1, z⟩
  · exact .inl (era_of n z)
  · exact .inr (.inl ⟨k, o', e1, era_of n z⟩)
  · exact .inr (.inr ⟨k, o', e1, era_of n z⟩)
/-- another dict is locked -/
def Fr.lock (F : Fr) (p : Addr) : Fr := { F with lk := some p }
theorem Rep.relock {F' : Fr} (r : Rep Z K F M σ H ds) {ds' : DS} {o : HO} (hm : ¬ M p) (hp : H p ≠ none) (l : Le (era H M) (era (upd H p o) M)) (f1 : F'.H0 = F.H0) (f2 : F'.bx = F.bx) (f3 : F'.M0 = F.M0) (e1 : ds'.s = ds.s) (e2 : ds'.x = ds.x) (e3 : ds'.b0 = ds.b0) (sn : SnL F (upd H p o)) (nl : ds'.nl = true → NL (upd H p o))
    (fl : ∀ a o' kvs, upd H p o a = some (.frz o' (.dK kvs)) → F'.lk = some a) : Rep Z K F' M σ (upd H p o) ds' := by
  obtain ⟨H0', bx', M0', lk'⟩ := F'
  simp only at f1 f2 f3
  subst f1 f2 f3
  have ne : ∀ q, M q → q ≠ p := fun q m z => hm (z ▸ m)
  refine ⟨fun i c h => ?_, fun i j c e h1 h2 => r.dj i j c e (e1 ▸ h1) (e1 ▸ h2), fun q m => by rw [upd_ne (ne q m)]; exact r.mo q m, fun b h => ⟨(r.bm b h).1, ?_⟩, sn, fun a n => ?_, r.m0, nl, fl, by rw [e2]; exact r.xs, by rw [e3]; exact r.b0, by rw [e1]; exact r.ln⟩
  · have s := r.sl i c (e1 ▸ h)
    cases c with
    | no => trivial
    | d d => obtain ⟨y, e, r⟩ := s; exact ⟨y, e, r.le l⟩
    | l xs => obtain ⟨q, vs, e', m, b, n, h, r'⟩ := s; exact ⟨q, vs, e', m, b, n, by rw [upd_ne (ne q m)]; exact h, RL.le l _ _ r'⟩
    | k kds => obtain ⟨q, vs, e', m, b, n, h, r'⟩ := s; exact ⟨q, vs, e', m, b, n, by rw [upd_ne (ne q m)]; exact h, RK.le l _ _ r'⟩
    | bx => exact s
  · obtain ⟨i, j, k, z⟩ := (r.bm b h).2
    exact ⟨i, j, k, by rw [upd_ne (ne b (r.bm b h).1)]; exact z⟩
  · by_cases h : a = p
    · subst h; rw [upd_same]; exact Option.some_ne_none _
    · rw [upd_ne h]; exact r.dm a n
theorem Rep.lock {kvs : List (Key × V)} {od : Obj} (r : Rep Z K F M σ H ds) (hn : ds.nl = true) (hm : ¬ M p) (h : H p = some (.dK kvs)) : Rep Z K (F.lock p) M σ (upd H p (.frz od (.dK kvs))) ds.lock := by
  refine r.relock hm (by rw [h]; exact Option.some_ne_none _) (era_lock h) rfl rfl rfl rfl rfl rfl (fun a o b e => ?_) (fun z => nomatch z) fun a o' ks e => ?_
  · have e' := (r.sn.sn (r.nl hn)) a o b e
    by_cases q : a = p
    · subst q; rw [h] at e'; cases e'; exact .inr ⟨_, _, rfl, upd_same⟩
    · exact .inl (by rw [upd_ne q]; exact e')
  · by_cases q : a = p
    · subst q; rfl
    · rw [upd_ne q] at e; exact absurd e (r.nl hn a o' ks)
/-- .. and unlocked -/
theorem Rep.unlock {kvs : List (Key × V)} {od : Obj} (r : Rep Z K (F.lock p) M σ H ds) (hm : ¬ M p) (h : H p = some (.frz od (.dK kvs))) (h0 : ∀ o, F.H0 p = some o → o = .dK kvs) : Rep Z K F M σ (upd H p (.dK kvs)) ds.unlock := by
  have nl : NL (upd H p (.dK kvs)) := fun a o ks e => by
    by_cases q : a = p
    · subst q; rw [upd_same] at e; cases e
    · rw [upd_ne q] at e
      have := r.fl a o ks e
      exact q (Option.some.inj this).symm
  refine r.relock hm (by rw [h]; exact Option.some_ne_none _) (era_unlock h) rfl rfl rfl rfl rfl rfl (fun a o b e => ?_) (fun _ => nl) fun a o' ks e => absurd e (nl a o' ks)
  by_cases q : a = p
  · subst q; rw [upd_same, h0 o e]; exact .inl rfl
  · rcases r.sn a o b e with z | ⟨k, od', z1, z2⟩
    · exact .inl (by rw [upd_ne q]; exact z)
    · exact .inr ⟨k, od', z1, by rw [upd_ne q]; exact z2⟩
/-- a walk over a dict that is locked meanwhile -/
structure LJ (Z : ZZ) (X : Cx) (tg iter : Expr) (W : TWI) : Prop where
  ex : ∃ wi, PI X tg iter wi ∧ ∀ F M σ H ds (q : List D → Prop), Rep Z X.K F M σ H ds → ds.nl = true → W ds q → ∃ (d : Addr) (kvs : List (Key × V)) (xs : List D) (G : Obj → Hp → Prop), H d = some (.dK kvs) ∧ ¬ M d ∧ q xs ∧ ∀ od (R' : It → Hp → Prop),
    (∀ J Y, WalkD Z X.K (F.lock d) M (upd H d (.frz od (.dK kvs))) J xs (G od) Y → R' J (upd H d (.frz od (.dK kvs)))) → wi σ (upd H d (.frz od (.dK kvs))) R'
def kd : Key → D
  | .inl i => .int i
  | .inr x => .str x
@[simp] theorem kd_l (i : Int) : kd (.inl i) = .int i := rfl
@[simp] theorem kd_r (i : Str) : kd (.inr i) = .str i := rfl
theorem R_kd {C : Addr} (k : Key) : R K C H (kV k) (kd k) := by cases k with | inl i => exact .int i | inr x => exact .str x
@[simp] def wKeys (P : DS → D → Prop) : TWI := fun ds q => ∃ kds, P ds (.dic kds) ∧ q (kds.map fun kv => kd kv.1)
@[simp] def wItems (P : DS → D → Prop) : TWI := fun ds q => ∃ kds, P ds (.dic kds) ∧ q (kds.map fun kv => .tup [kd kv.1, kv.2])
theorem lj_keys {tg : Expr} {P : DS → D → Prop} (hp : PJ Z X e P) : LJ Z X tg e (wKeys P) := by
  obtain ⟨t, pe, g⟩ := hp.ex
  refine ⟨_, pi_keys pe, fun F M σ H ds q r hn ⟨kds, w, z⟩ => ?_⟩
  obtain ⟨v, h, k⟩ := g F M σ H ds _ r w
  cases h with
  | @dic a kvs _ ha hb =>
    obtain ⟨hm, hd⟩ : ¬ M a ∧ Rd H a (.dK kvs) := by
      refine ⟨?_, era_full.dic ha⟩
      rcases ha with ha | ⟨o, ha⟩ <;> exact (era_in ha).1
    have hd := r.unl hn hd
    refine ⟨a, kvs, _, fun od H => H a = some (.frz od (.dK kvs)), hd, hm, z, fun od R' kk => k _ (.lock hd) _ ⟨a, od, rfl, .inl ⟨kvs, upd_same, kk _ (fun i H x H' => H' = H ∧ ∃ k v, kvs[i]? = some (k, v) ∧ x = kV k) ⟨?_, fun M2 H2 kp => (kp a _ hm upd_same).2, fun i M2 σ2 H2 ds2 v H3 hi r2 kp y => ?_⟩⟩⟩⟩
    · rw [List.length_map, ← hb.len]; exact walk_keys
    · obtain ⟨rfl, k, v, e1, rfl⟩ := y
      obtain ⟨d, h1, h2⟩ := hb.at e1
      exact ⟨.refl _ _, kd k, by rw [List.getElem?_map, h1]; rfl, R_kd k⟩
theorem lj_items {P : DS → D → Prop} {elts : List Expr} {kk : Nat} {tpos apos cpos : Pos} (hp : PJ Z X e P) (hbase : attributeBase e "items" X.env (eval e X.env) = eval e X.env := by rfl) (hline : (apos.endLine == cpos.line) = true := by rfl) :
    LJ Z X (.Tuple elts kk tpos) (.Call (.Attribute e "items" apos) [] [] cpos) (wItems P) := by
  obtain ⟨t, pe, g⟩ := hp.ex
  refine ⟨_, pi_items pe hbase hline, fun F M σ H ds q r hn ⟨kds, w, z⟩ => ?_⟩
  obtain ⟨v, h, k⟩ := g F M σ H ds _ r w
  cases h with
  | @dic a kvs _ ha hb =>
    obtain ⟨hm, hd⟩ : ¬ M a ∧ Rd H a (.dK kvs) := by
      refine ⟨?_, era_full.dic ha⟩
      rcases ha with ha | ⟨o, ha⟩ <;> exact (era_in ha).1
    have hd := r.unl hn hd
    refine ⟨a, kvs, _, fun od H => H a = some (.frz od (.dK kvs)), hd, hm, z, fun od R' kk => k _ (.lock hd) _ ⟨a, od, kvs, rfl, upd_same, kk _ (YPair (fun i => kvs[i]?.map fun kv => kV kv.1) (fun i => kvs[i]?.map Prod.snd)) ⟨?_, fun M2 H2 kp => (kp a _ hm upd_same).2, fun i M2 σ2 H2 ds2 v H3 hi r2 kp y => ?_⟩⟩⟩
    · rw [List.length_map, ← hb.len]; exact walk_items
    · obtain ⟨T, y1, y2, rfl, hT, rfl, e1, e2⟩ := y
      obtain ⟨⟨k, u⟩, e3, rfl⟩ := Option.map_eq_some_iff.mp e1
      simp only [e3] at e2
      cases e2
      obtain ⟨d, h1, h2⟩ := hb.at e3
      refine ⟨.newT hT _, .tup [kd k, d], by rw [List.getElem?_map, h1]; rfl, RD.newT r2 hT (.cons (R_kd k) (.one ?_))⟩
      exact (h2.le (era_lock (od := od) hd)).le kp.le
/-- behind an expression within which p was locked -/
theorem Ext.locked {kvs : List (Key × V)} {od : Obj} (hb : F.bx ≠ some p) (h : H p = some (.dK kvs)) (x : Ext (F.lock p) (upd H p (.frz od (.dK kvs))) H') : H' p = some (.frz od (.dK kvs)) ∧ Ext F H (upd H' p (.dK kvs)) := by
  have e0 := x.same p _ hb upd_same
  refine ⟨e0, fun a o n e => ?_, fun b n z => ?_, fun a o ks e => ?_⟩
  · by_cases q : a = p
    · subst q; rw [upd_same]; rw [h] at e; exact e
    · rw [upd_ne q]; exact x.same a o n (by rw [upd_ne q]; exact e)
  · have ne : b ≠ p := fun q => hb (q ▸ n)
    obtain ⟨i, j, k, z⟩ := x.box b n (by obtain ⟨i, j, k, z⟩ := z; exact ⟨i, j, k, by rw [upd_ne ne]; exact z⟩)
    exact ⟨i, j, k, by rw [upd_ne ne]; exact z⟩
  · by_cases q : a = p
    · subst q; rw [upd_same] at e; cases e
    · rw [upd_ne q] at e
      have := x.nl a o ks e
      rw [upd_ne q] at this
      exact this
section
variable {tg elt iter kx vx : Expr} {ifs : List Expr} {scope : Scope} {own : List (Str × Nat)} {I : TWI} {G : TWG} {T : TWT} {E Ek Ev : TW} {is : List Nat}
@[simp] def wLcL (I : TWI) (G : TWG) (T : TWT) (E : TW) (vs : List Nat) : TW := fun ds q => ds.nl = true ∧ I ds fun xs => lcGo (lcB G T E (ds.lock.calm.wipe vs)) xs [] fun ys => q (.lst ys)
theorem ej_lcL (hc : X.calm = true) (hN : X.N.Nodup) (hi : LJ Z X tg iter I) (ok : BlkOk X.N X.env.scope scope own) (his : ∀ i ∈ is, i ∈ own.map (·.2))
    (hg : ∀ (s : Shared) (H : Hp) (C : Addr) (cl : List (Str × Addr)) (fp : List Addr), GJ Z (X.blk s H scope (compEnvC scope cl C X.env) fp) tg is G) (ht : ∀ (s : Shared) (H : Hp) (C : Addr) (cl : List (Str × Addr)) (fp : List Addr), TsJ Z (X.blk s H scope (compEnvC scope cl C X.env) fp) ifs T)
    (he : ∀ (s : Shared) (H : Hp) (C : Addr) (cl : List (Str × Addr)) (fp : List Addr), EJ Z .d (X.blk s H scope (compEnvC scope cl C X.env) fp) elt E) (hs : ∀ x, foldedSetIterable iter X.env x = pure x := by intro _; rfl) :
    EJ Z .o X (.ListComp elt [⟨tg, iter, ifs, 0⟩] scope pos) (wLcL I G T E (own.map (·.2))) := by
  obtain ⟨wi, pi, gi⟩ := hi.ex
  refine ⟨_, pe_lock (pe_lc hc hN pi ok (g := gW Z X.K is G) (tt := tWT Z X.K T) (te := tW Z .d X.K E) (fun s H C cl fp => (hg s H C cl fp).pg) (fun s H C cl fp => (ht s H C cl fp).pts) (fun s H C cl fp => (he s H C cl fp).pe) hs), fun F M σ H ds q Q r w k => ?_⟩
  obtain ⟨d, kvs, xs, G0, hd, hm, hq, w2⟩ := gi F M σ H ds _ r w.1 w.2
  refine ⟨d, _, hd, trivial, fun od => w2 od _ fun J Y wd L hL => ?_⟩
  refine lc_read (is := is) his (r.lock w.1 hm hd) hL wd hq fun H2 ys s hq => ?_
  obtain ⟨acc, a1, a2⟩ := s.l
  obtain ⟨e0, x⟩ := Ext.locked (r.bxM hm) hd s.x
  have hLd : L ≠ d := fun e => by subst e; rw [upd_same] at hL; cases hL
  have hL' : H L = none := by rw [upd_ne hLd] at hL; exact hL
  exact ⟨e0, k _ _ _ x (RO.lst hL' (by rw [upd_ne hLd]; exact a1) (RL.le (era_unlock e0) _ _ a2)) hq⟩
/-! ### dict comprehensions -/
@[simp] def dcB (G : TWG) (T : TWT) (Ek Ev : TW) (ds : DS) : D → List (Key × D) → (List (Key × D) → Prop) → Prop := fun x acc q =>
  G x ds fun ds2 => T ds2 fun b => if b = true then Ek ds2 fun y => Ev ds2 fun z => ∃ k, y.key = some k ∧ acc.length < 100000 ∧ q (dpt acc k z) else q acc
@[simp] def wDc (I : TWI) (G : TWG) (T : TWT) (Ek Ev : TW) (vs : List Nat) : TW := fun ds q => I ds fun xs => lcGo (dcB G T Ek Ev (ds.calm.wipe vs)) xs [] fun ys => q (.dic ys)
@[simp] def wDcL (I : TWI) (G : TWG) (T : TWT) (Ek Ev : TW) (vs : List Nat) : TW := fun ds q => ds.nl = true ∧ I ds fun xs => lcGo (dcB G T Ek Ev (ds.lock.calm.wipe vs)) xs [] fun ys => q (.dic ys)
structure DcSt (Z : ZZ) (K : PySem.W.Frag) (F : Fr) (M : Addr → Prop) (σ : L2.St) (ds : DS) (H1 : Hp) (L : Addr) (H : Hp) (ys : List (Key × D)) : Prop where
  x : Ext F H1 H
  l : ∃ acc, H L = some (.dK acc) ∧ RK K Z.C (era H fun a => M a ∨ a = L) acc ys
  r : Rep Z K F (fun a => M a ∨ a = L) σ H ds
theorem DcSt.start {L : Addr} (r : Rep Z K F M σ H1 ds) (hL : H1 L = none) : DcSt Z K F M σ ds H1 L (upd H1 L (.dK [])) [] :=
  ⟨.newD hL _, ⟨[], upd_same, .nil⟩, r.grow (.newD hL _) hL (by rw [upd_same]; exact Option.some_ne_none _)⟩
theorem DcSt.put {L : Addr} {ys : List (Key × D)} {H3 : Hp} {acc : List (Key × V)} {k : Key} {y : V} {d : D} (rM : Rep Z K F M σ H1 ds) (hL : H1 L = none) (s : DcSt Z K F M σ ds H1 L H ys)
    (x2 : Ext F H H3) (hy : R K Z.C (era H3 fun a => M a ∨ a = L) y d) (hacc : H3 L = some (.dK acc)) : DcSt Z K F M σ ds H1 L (upd H3 L (.dK (putK acc k y))) (dpt ys k d) := by
  obtain ⟨acc', h1, h2⟩ := s.l
  have hb : F.bx ≠ some L := rM.bxN hL
  have e : acc = acc' := by
    have := x2.same L _ hb h1
    rw [hacc] at this
    cases this; rfl
  subst e
  have le : Le (era H3 fun a => M a ∨ a = L) (era (upd H3 L (.dK (putK acc k y))) fun a => M a ∨ a = L) := era_le (fun _ z => z) fun a u n e => by rw [upd_ne (fun z : a = L => n (.inr z))]; exact e
  have r3 := s.r.ext x2
  refine ⟨⟨fun a o n e => ?_, fun b n h => ?_, fun a o kvs e => ?_⟩, ⟨_, upd_same, ?_⟩, ?_⟩
  · rw [upd_ne (ne_of_none e hL)]; exact (s.x.trans x2).same a o n e
  · obtain ⟨i, j, k, h⟩ := (s.x.trans x2).box b n h
    exact ⟨i, j, k, by rw [upd_ne (fun z : b = L => hb (z ▸ n))]; exact h⟩
  · by_cases h : a = L
    · subst h; rw [upd_same] at e; cases e
    · rw [upd_ne h] at e; exact (s.x.trans x2).nl a o kvs e
  · exact (RK.le (s.r.le x2) _ _ h2 |> fun z => RK.le le _ _ z).put (hy.le le)
  · exact r3.poke (.inr rfl) hb (rM.h0N hL) (own_ne rM hL) fun _ _ e => nomatch e
theorem dc_read (his : ∀ i ∈ is, i ∈ own.map (·.2)) {L : Addr} {xs : List D} {J : It} {G0 : Hp → Prop} {Y : Nat → Hp → V → Hp → Prop} {σ : L2.St} {H1 : Hp} {q : List (Key × D) → Prop} {Qd : Hp → Prop}
    (r : Rep Z K F M σ H1 ds) (hL : H1 L = none) (w : WalkD Z K F M H1 J xs G0 Y) (hq : lcGo (dcB G T Ek Ev (ds.calm.wipe (own.map (·.2)))) xs [] q)
    (hd : ∀ H ys, DcSt Z K F M σ ds H1 L H ys → q ys → Qd H) :
    ∃ W : Nat → Nat → Hp → Prop, (∃ m, W 0 m (upd H1 L (.dK []))) ∧ ∀ i m H, W i m H → (J.stop i H ∧ Qd H) ∨ (J.go i H ∧ ∃ Nx : Hp → Prop, (∀ H', Nx H' → ∃ m', m' < m ∧ W (i + 1) m' H') ∧
      ∀ x H', J.yld i H x H' → gW Z K is G x (wipe σ (own.map (·.2))) H' fun σ2 H2 => wipe σ2 (own.map (·.2)) = wipe σ (own.map (·.2)) ∧ tWT Z K T σ2 H2 fun b H3 =>
        if b = true then tW Z .d K Ek σ2 H3 fun y H4 => tW Z .d K Ev σ2 H4 fun z H5 => ∃ kvs k, y = kV k ∧ H5 L = some (.dK kvs) ∧ kvs.length < sizeLine ∧ Nx (upd H5 L (.dK (putK kvs k z))) else Nx H3) := by
  refine it_core w.w (fun i H => ∃ ys, DcSt Z K F M σ ds H1 L H ys ∧ lcGo (dcB G T Ek Ev (ds.calm.wipe (own.map (·.2)))) (xs.drop i) ys q) (fun Nx x H' => gW Z K is G x (wipe σ (own.map (·.2))) H' fun σ2 H2 => wipe σ2 (own.map (·.2)) = wipe σ (own.map (·.2)) ∧ tWT Z K T σ2 H2 fun b H3 =>
        if b = true then tW Z .d K Ek σ2 H3 fun y H4 => tW Z .d K Ev σ2 H4 fun z H5 => ∃ kvs k, y = kV k ∧ H5 L = some (.dK kvs) ∧ kvs.length < sizeLine ∧ Nx (upd H5 L (.dK (putK kvs k z))) else Nx H3) ⟨[], .start r hL, hq⟩ ?_ ?_ ?_
  · rintro i H - ⟨ys, s, -⟩
    exact w.g _ _ (walk_in (J := J) (xs := xs) (G := G0) (Y := Y) r hL s.x)
  · rintro i x H H' hi ⟨ys, s, hq⟩ hy
    obtain ⟨x1, d, h1, h2⟩ := w.y i _ _ _ _ x H' hi s.r (walk_in (J := J) (xs := xs) (G := G0) (Y := Y) r hL s.x) hy
    rw [List.drop_eq_getElem_cons hi] at hq
    have e : xs[i] = d := by rw [List.getElem?_eq_getElem hi] at h1; exact Option.some.inj h1
    rw [e] at hq
    have rw1 := ((s.r.ext x1).calm.wipe (own.map (·.2)))
    refine ⟨F, _, _, d, _, rw1, h2, hq, fun σ2 ds2 r2 wp _ hq => ⟨?_, F, _, ds2, _, r2, hq, fun b H3 x3 hq => ?_⟩⟩
    · rw [wp _ his, wipe_idem]
    · cases b with
      | false =>
        refine ⟨ys, ⟨s.x.trans (x1.trans x3), ?_, (s.r.ext x1).ext x3⟩, hq⟩
        obtain ⟨acc, a1, a2⟩ := s.l
        exact ⟨acc, (x1.trans x3).same _ _ (r.bxN hL) a1, RK.le (s.r.le (x1.trans x3)) _ _ a2⟩
      | true =>
        refine ⟨F, _, ds2, _, r2.ext x3, hq, fun y H4 d' x4 hy hq => ⟨F, _, ds2, _, (r2.ext x3).ext x4, hq, fun z H5 d2 x5 hz hq => ?_⟩⟩
        obtain ⟨k, hk, hl, hq⟩ := hq
        obtain ⟨acc, a1, a2⟩ := s.l
        have a3 := (x1.trans (x3.trans (x4.trans x5))).same _ _ (r.bxN hL) a1
        exact ⟨acc, k, RT.key (F := F) (.dat hy) hk, a3, by rw [a2.len, sizeLine_eq]; omega, dpt ys k d2, .put r hL s (x1.trans (x3.trans (x4.trans x5))) hz a3, hq⟩
  · rintro H ⟨ys, s, hq⟩
    rw [List.drop_length] at hq
    exact hd H ys s hq
section
variable (hc : X.calm = true) (hN : X.N.Nodup) (ok : BlkOk X.N X.env.scope scope own) (his : ∀ i ∈ is, i ∈ own.map (·.2))
    (hg : ∀ (s : Shared) (H : Hp) (C : Addr) (cl : List (Str × Addr)) (fp : List Addr), GJ Z (X.blk s H scope (compEnvC scope cl C X.env) fp) tg is G) (ht : ∀ (s : Shared) (H : Hp) (C : Addr) (cl : List (Str × Addr)) (fp : List Addr), TsJ Z (X.blk s H scope (compEnvC scope cl C X.env) fp) ifs T)
    (hk : ∀ (s : Shared) (H : Hp) (C : Addr) (cl : List (Str × Addr)) (fp : List Addr), EJ Z .d (X.blk s H scope (compEnvC scope cl C X.env) fp) kx Ek)
    (hv : ∀ (s : Shared) (H : Hp) (C : Addr) (cl : List (Str × Addr)) (fp : List Addr), EJ Z .d (X.blk s H scope (compEnvC scope cl C X.env) fp) vx Ev)
include hc hN ok his hg ht hk hv
theorem ej_dc (hi : IJ Z X tg iter I) (hs : ∀ x, foldedSetIterable iter X.env x = pure x := by intro _; rfl) : EJ Z .o X (.DictComp kx vx [⟨tg, iter, ifs, 0⟩] scope pos) (wDc I G T Ek Ev (own.map (·.2))) := by
  obtain ⟨wi, pi, gi⟩ := hi.ex
  refine ⟨_, pe_dc hc hN pi ok (g := gW Z X.K is G) (tt := tWT Z X.K T) (tk := tW Z .d X.K Ek) (tv := tW Z .d X.K Ev) (fun s H C cl fp => (hg s H C cl fp).pg) (fun s H C cl fp => (ht s H C cl fp).pts) (fun s H C cl fp => (hk s H C cl fp).pe) (fun s H C cl fp => (hv s H C cl fp).pe) hs, fun F M σ H ds q Q r w k => gi F M σ H ds _ _ r w fun J H1 xs G0 Y x1 wd hq L hL => ?_⟩
  refine dc_read (is := is) his (r.ext x1) hL wd hq fun H2 ys s hq => ?_
  obtain ⟨acc, a1, a2⟩ := s.l
  exact k _ _ _ (x1.trans s.x) (RO.dic (r.back x1 _ hL) a1 a2) hq
theorem ej_dcL (hi : LJ Z X tg iter I) (hs : ∀ x, foldedSetIterable iter X.env x = pure x := by intro _; rfl) : EJ Z .o X (.DictComp kx vx [⟨tg, iter, ifs, 0⟩] scope pos) (wDcL I G T Ek Ev (own.map (·.2))) := by
  obtain ⟨wi, pi, gi⟩ := hi.ex
  refine ⟨_, pe_lock (pe_dc hc hN pi ok (g := gW Z X.K is G) (tt := tWT Z X.K T) (tk := tW Z .d X.K Ek) (tv := tW Z .d X.K Ev) (fun s H C cl fp => (hg s H C cl fp).pg) (fun s H C cl fp => (ht s H C cl fp).pts) (fun s H C cl fp => (hk s H C cl fp).pe) (fun s H C cl fp => (hv s H C cl fp).pe) hs), fun F M σ H ds q Q r w k => ?_⟩
  obtain ⟨d, kvs, xs, G0, hd, hm, hq, w2⟩ := gi F M σ H ds _ r w.1 w.2
  refine ⟨d, _, hd, trivial, fun od => w2 od _ fun J Y wd L hL => ?_⟩
  refine dc_read (is := is) his (r.lock w.1 hm hd) hL wd hq fun H2 ys s hq => ?_
  obtain ⟨acc, a1, a2⟩ := s.l
  obtain ⟨e0, x⟩ := Ext.locked (r.bxM hm) hd s.x
  have hLd : L ≠ d := fun e => by subst e; rw [upd_same] at hL; cases hL
  have hL' : H L = none := by rw [upd_ne hLd] at hL; exact hL
  exact ⟨e0, k _ _ _ x (RO.dic hL' (by rw [upd_ne hLd]; exact a1) (RK.le (era_unlock e0) _ _ a2)) hq⟩
end
end
/-! ### d == {}, d != {} -/
@[simp] def wEqE (neg : Bool) (A : TW) : TW := fun ds q => ds.nl = true ∧ A ds fun x => ∃ kds, x = .dic kds ∧ q (.bl (if neg then !kds.isEmpty else kds.isEmpty))
theorem tj_eqE {kk : Nat} (hr : Room kk X.A) (ha : EJ Z .d X a A) (hm : behindInMarks .Eq (.Dict [] [] pp) = false) : TJ Z X (.Compare a [.Eq] [.Dict [] [] pp] pos) (wB (wEqE false A)) := by
  obtain ⟨ta, pa, ga⟩ := ha.ex
  refine ⟨_, pt_cmpR (op_eqE hr.units0) pa pe_dnewK hm, fun F M σ H ds q Q r ⟨hn, w⟩ k => ga F M σ H ds _ _ r w fun v H1 d x1 s ⟨kds, e, z⟩ => ?_⟩
  subst e
  obtain ⟨a, kvs, rfl, h, l⟩ := RT.dicR (F := F) (.dat s)
  have h := (r.ext x1).unl hn h
  intro p hp
  obtain ⟨c, ec, z⟩ := z
  cases ec
  refine ⟨a, p, kvs, rfl, rfl, by rw [upd_ne (ne_of_none h hp)]; exact h, upd_same, _, rfl, ?_⟩
  have e : kvs.isEmpty = kds.isEmpty := by have := l.len; cases kvs <;> cases kds <;> first | rfl | cases this
  rw [e]
  exact k _ _ (x1.trans (.newD hp _)) z
theorem tj_neE {kk : Nat} (hr : Room kk X.A) (ha : EJ Z .d X a A) (hm : behindInMarks .NotEq (.Dict [] [] pp) = false) : TJ Z X (.Compare a [.NotEq] [.Dict [] [] pp] pos) (wB (wEqE true A)) := by
  obtain ⟨ta, pa, ga⟩ := ha.ex
  refine ⟨_, pt_cmpR (op_neE hr.units0) pa pe_dnewK hm, fun F M σ H ds q Q r ⟨hn, w⟩ k => ga F M σ H ds _ _ r w fun v H1 d x1 s ⟨kds, e, z⟩ => ?_⟩
  subst e
  obtain ⟨a, kvs, rfl, h, l⟩ := RT.dicR (F := F) (.dat s)
  have h := (r.ext x1).unl hn h
  intro p hp
  obtain ⟨c, ec, z⟩ := z
  cases ec
  refine ⟨a, p, kvs, rfl, rfl, by rw [upd_ne (ne_of_none h hp)]; exact h, upd_same, _, rfl, ?_⟩
  have e : kvs.isEmpty = kds.isEmpty := by have := l.len; cases kvs <;> cases kds <;> first | rfl | cases this
  rw [e]
  exact k _ _ (x1.trans (.newD hp _)) z
end
end G78
namespace G78
open PySem PySem.Spec PyProof.Rows L2
/-! ### a def's promise where no repr is under way -/
structure FnG (P : Program) (w : World) (K : PySem.W.Frag) (mg : Str → Option Value) (base : Heap) (CX : CXT) (k : Nat) (f : Addr) (fd : FuncData) (ps : List Str) (sp : Sp) : Prop where
  len : ∀ vs H Q E, sp vs H Q E → vs.length = ps.length
  run : ∀ (A : Around) (outer : List Env) (s : Shared) (H : Hp) (args : Args) (us : List Value) (vs : List V) (Q : VK) (E : XK), Room k A → A.guards = some [] →
    Env0 P w K mg base A outer s H → BindsTo s fd args (ps.zip us) → Vals vs us → sp vs H Q E → codeAny (model P w) A (.call (.ref f) args) (CR CX outer P w H s Q E) s
section
variable {P : Program} {w : World} {K : PySem.W.Frag} {mg : Str → Option Value} {base : Heap} {x qual : Str} {params : Arguments} {body : List Stmt} {scope : Scope} {dvs : List V} {kws : List (Str × V)} {f : Addr} {fd : FuncData}
theorem okG {CX : CXT} {N ps : List Str} {k : Nat} {sp : Sp} (F : FunD K x qual params body scope dvs kws f fd) (S : FnScope N ps scope) (len : ∀ vs H Q E, sp vs H Q E → vs.length = ps.length)
    (hbody : ∀ (cdv : Value) (A : Around) (outer : List Env) (s : Shared) (H : Hp) (vs : List V) (Q : VK) (E : XK), Room k (A.deeper (envOfC qual scope s.heap.objs.size f cdv)) → A.guards = some [] → sp vs H Q E →
      ∃ t, PSs (cxOf CX P w K mg base N qual scope f cdv A outer s H E) body t ∧ t { nx := fun _ H' => Q .non H', rt := Q } (start N vs) H) : FnG P w K mg base CX (k + 1) f fd ps sp := by
  obtain ⟨oc, od, dV, kV, doc, pm, an, cdv, ct, osl, rfl, lk, hcd, _, _⟩ := F.ex
  refine ⟨len, fun A outer s H args us vs Q E hr hg e0 hb rv hsp => ?_⟩
  have hold : ∀ b o, base.get? b = some o → s.heap.get? b = some o := fun b o e => (e0.bs b o e).1
  refine codeAny_call_function hr.depth (e0.mod.kin.keeps hold _ _ lk) rfl S.co S.gen rfl (PySem.W.codeRec_of (e0.mod.kin.keeps hold) hcd) (hb _ _ _ _ ?_)
  refine wpAny_newFunctionEnv_cells S.kind (fun y hy => ?_) fun env he s1 ic => ?_
  · rcases S.par y.1 (List.of_mem_zip hy).1 with q | q
    · exact Or.inl q
    · exact Or.inr ⟨q, PySem.W.cellsFrom_some _ _ _ (Or.inl q)⟩
  subst he
  refine ⟨(e0.mod.nolimit.keeps hold).keeps ic.toInCall.keep, codeAny_func ?_⟩
  obtain ⟨t, ht, hq⟩ := hbody cdv A outer s H vs Q E (hr.deeper _) hg hsp
  have I0 := inv_start (CX := CX) (E := E) S hr.hd e0 (len _ _ _ _ hsp) rv ic
  refine wpAny_mono (ht.run [] s1 (start N vs) H _ I0 hq) (fun fl s' hs => ?_) fun _ _ hs => hs
  cases fl with
  | ret u =>
    obtain ⟨v, σ', H', J, r, q⟩ := hs
    exact ⟨v, H', J.os, J.bare, J.base, J.hok, r, q⟩
  | next =>
    obtain ⟨σ', H', J, q⟩ := hs
    exact ⟨V.non, H', J.os, J.bare, J.base, J.hok, rfl, q⟩
  | brk =>
    obtain ⟨_, _, _, q⟩ := hs
    exact q.elim
  | cont =>
    obtain ⟨_, _, _, q⟩ := hs
    exact q.elim
end
section
variable {X : Cx} {CX : CXT} {k : Nat} {f : Addr} {fd : FuncData} {ps : List Str} {sp : Sp} {E : XK} {x : Str} {p pos : Pos} {e : Expr} {es : List Expr} {t : TA}
/-- f(e, ..), the callee's promise where no repr is under way -/
theorem pe_callG (F : FnG X.prog X.w X.K X.mg X.base CX k f fd ps sp) (hr : Room k X.A) (hgd : X.A.guards = some []) (hg : Gl X x) (hm : X.mg x = some (.ref f)) (hk : PySem.W.keepIn X.K (.ref f) = true)
    (hb : Binds X.K fd ps []) (hx : Passes CX X E) (ha : PA X (e :: es) t) (hdb : (x == ("__debug__" : Str)) = false := by decide)
    (he : starEach (e :: es) X.env = (false, eval e X.env) :: starEach es X.env := by rfl) (hpl : (backTo pos (starEach es X.env)).any (·.1) = false := by rfl) :
    PE X (.Call (.Name x p) (e :: es) [] pos) (tCall sp [] E t) := by
  refine ⟨fun pins s σ H Q I h => wpAny_Call_Name_kw (ld_glob I hg hm ?_ hdb)⟩
  refine PySem.W.callWith_K (h₀ := X.base) I.ok.mod.kin hk (thn (ha.run pos pins s σ H _ I h) fun us s1 ⟨vs, H1, I1, r, q⟩ => ⟨I1.kIn, ?_⟩) he hpl
  have q : sp vs H1 Q E := by
    have q1 : sp (vs ++ []) H1 Q E := q
    rw [List.append_nil] at q1
    exact q1
  show wpAny _ _ (call (.ref f) us) _ _ _
  have hl : (us ++ []).length = ps.length := by
    rw [List.append_nil, ← r.length]
    exact F.len _ _ _ _ q
  have hbs := hb s1 us I1.kIn hl
  rw [List.append_nil] at hbs
  refine wpAny_call (codeAny_mono (F.run X.A X.stack s1 H1 ⟨us, []⟩ us vs Q E hr hgd I1.env0 hbs r q) fun res s' hq => ?_)
  cases res with
  | error er => exact hx pins σ H1 s1 er s' I1 hq
  | ok fl => cases fl with
    | ret u => exact I1.after hq
    | next => exact hq.elim
    | brk => exact hq.elim
    | cont => exact hq.elim
end
/-! ### the law's own head, over such a promise -/
section
variable {P : Program} {w : World} {K : PySem.W.Frag} {mg mb : Str → Option Value} {CX : CXT} {k : Nat} {fa a : Addr} {fd : FuncData} {x : Str} {sp : Sp} {sA : Shared} {us : List Value} {ns : List Int}
/-- what is wanted of the law's call -/
def LawEnd (sA : Shared) (r : Result) (s' : Shared) : Prop := r = .ok (.ret (.bool true)) ∧ OldK sA.heap s'.heap ∧ s'.os = sA.os ∧ AllBare s'.gens
theorem law_from (KX : K.In sA.heap) (nsM : sA.heap.Ns mainGlobals mg) (nsB : sA.heap.Ns builtinsNs mb) (eqB : ∀ y : Str, y ≠ "__name__" → mb y = bootBuiltins y) (lim : sA.heap.NoLimit) (g0 : sA.gens = #[])
    (obj : sA.heap.get? a = some { cls := .type "list", data := .seq us.toArray }) (room : Room k callerA)
    (F : ∀ base : Heap, K.In base → base.Ns mainGlobals mg → FnG P w K mg base CX k fa fd [x] sp) (bnd : ∀ (s : Shared) (u : Value), BindsTo s fd ⟨[u], []⟩ [(x, u)])
    (noX : ∀ H e s', CX [] H sA (fun _ _ _ => False) e s' → False) (H : Hp) (only : Only H) (hok : HOk P w H sA.heap) (one : ∀ b, H b ≠ none → b = a) (apart : H a ≠ none → K.lookup a = none)
    (wish : sp [.ref a] H (fun v _ => v = .bl true) fun _ _ _ => False) : codeAny (model P w) callerA (.call (.ref fa) ⟨[.ref a], []⟩) (LawEnd sA) sA := by
  have free : ∀ {b : Addr} {o : Obj}, (∀ o', sA.heap.get? b = some o' → b = a → o' ≠ { cls := .type "list", data := .seq us.toArray }) → sA.heap.get? b = some o → H b = none := fun {b o} hn eo => by
    cases q : H b with
    | none => rfl
    | some z =>
      have e1 := one b (by rw [q]; exact fun h => nomatch h)
      rw [e1] at eo
      exact absurd (Option.some.inj (eo.symm.trans obj)) (hn o (by rw [e1]; exact eo) e1)
  have nsHid : ∀ {b : Addr} {m : Str → Option Value}, sA.heap.Ns b m → (hidT sA.heap H).Ns b m := fun {b m} n => by
    obtain ⟨o, es, ep, eo, ed, r⟩ := n
    refine ⟨o, es, ep, hidT_get eo (free (fun o' eo' _ z => ?_) eo), ed, r⟩
    rw [eo] at eo'
    rw [Option.some.inj eo', z] at ed
    exact nomatch ed
  have kHid : K.In (hidT sA.heap H) := fun b o eb => hidT_get (KX b o eb) (by
    cases q : H b with
    | none => rfl
    | some z =>
      have e1 := one b (by rw [q]; exact fun h => nomatch h)
      have e2 := apart (by rw [← e1, q]; exact fun h => nomatch h)
      rw [e1, e2] at eb
      exact nomatch eb)
  have ready : Env0 P w K mg (hidT sA.heap H) callerA [] sA H :=
    { frames := rfl
      mod := ⟨kHid, nsHid nsM, ⟨mb, nsHid nsB, eqB⟩, let ⟨mc, l1, l2⟩ := lim; ⟨mc, nsHid l1, l2⟩⟩
      bs := fun _ _ eb => of_hidT eb
      bsz := Nat.le_of_eq (hidT_size _ _)
      funs := trivial
      frf := fun b hb => absurd hb (List.not_mem_nil (a := b))
      hok := hok
      bare := .of_eq g0 }
  refine codeAny_mono ((F _ kHid (nsHid nsM)).run callerA [] sA H ⟨[.ref a], []⟩ [.ref a] [.ref a] _ _ room rfl ready (bnd sA (.ref a)) (.cons rfl .nil) wish) fun res s' h => ?_
  match res, h with
  | .error er, h => exact (noX H er s' h).elim
  | .ok .next, h => exact False.elim h
  | .ok .brk, h => exact False.elim h
  | .ok .cont, h => exact False.elim h
  | .ok (.ret u), h =>
    obtain ⟨v, H', hos, hbare, un, hok', ru, ev⟩ := h
    have ev : v = .bl true := ev
    subst ev
    obtain rfl : u = Value.bool true := ru
    refine ⟨rfl, OldK.of_keep fun b o eo => ?_, hos, hbare⟩
    rcases only b with z | ⟨ob, xs, z⟩
    · exact un.keep b o eo z (List.not_mem_nil (a := b)) (List.not_mem_nil (a := b))
    · have h1 := (hok b _ z).1
      have h2 := (hok' b _ (un.frzs b ob _ z)).1
      rw [Option.some.inj (eo.symm.trans h1)]
      exact h2
theorem law_callG (KX : K.In sA.heap) (nsM : sA.heap.Ns mainGlobals mg) (nsB : sA.heap.Ns builtinsNs mb) (eqB : ∀ y : Str, y ≠ "__name__" → mb y = bootBuiltins y) (lim : sA.heap.NoLimit) (g0 : sA.gens = #[])
    (obj : sA.heap.get? a = some { cls := .type "list", data := .seq us.toArray }) (hin : IntsAre us ns) (few : ns.length ≤ sizeLine) (room : Room k callerA)
    (F : ∀ base : Heap, K.In base → base.Ns mainGlobals mg → FnG P w K mg base CX k fa fd [x] sp) (bnd : ∀ (s : Shared) (u : Value), BindsTo s fd ⟨[u], []⟩ [(x, u)])
    (wish : ∀ H : Hp, Only H → SqL K H a (ns.map V.int) → sp [.ref a] H (fun v _ => v = .bl true) fun _ _ _ => False) (noX : ∀ H e s', CX [] H sA (fun _ _ _ => False) e s' → False) :
    codeAny (model P w) callerA (.call (.ref fa) ⟨[.ref a], []⟩) (LawEnd sA) sA := by
  have rv := vals_ints hin
  cases hk : K.lookup a with
  | some o =>
    have eo := KX a o hk
    rw [obj] at eo
    have eo := Option.some.inj eo
    subst eo
    have sq : SqL K (fun _ => none) a (ns.map V.int) := .inr ⟨_, us.toArray, _, hk, rfl, rfl, rfl, by rw [List.size_toArray, hin.length]; exact few, by simpa using rv⟩
    exact law_from KX nsM nsB eqB lim g0 obj room F bnd noX (fun _ => none) (fun _ => .inl rfl) (fun b u z => nomatch (show (none : Option HO) = some u from z)) (fun b z => absurd rfl z) (fun z => absurd rfl z) (wish _ (fun _ => .inl rfl) sq)
  | none =>
    have at_a : upd (fun _ => none) a (.frz { cls := .type "list", data := .seq us.toArray } (.lst (ns.map V.int))) a = some (.frz { cls := .type "list", data := .seq us.toArray } (.lst (ns.map V.int))) := upd_same
    have only1 : Only (upd (fun _ => none) a (.frz { cls := .type "list", data := .seq us.toArray } (.lst (ns.map V.int)))) := fun b => by
      by_cases hb : b = a
      · rw [hb]
        exact .inr ⟨_, _, at_a⟩
      · exact .inl (upd_ne hb)
    refine law_from KX nsM nsB eqB lim g0 obj room F bnd noX _ only1 (fun b u z => ?_) (fun b z => ?_) (fun _ => hk) (wish _ only1 (.inl (.inr ⟨_, at_a⟩)))
    · by_cases hb : b = a
      · subst hb
        rw [at_a] at z
        rw [← Option.some.inj z]
        exact ⟨obj, by rw [List.length_map]; exact few, us, _, rv, obj⟩
      · rw [upd_ne hb] at z
        exact nomatch z
    · by_cases hb : b = a
      · exact hb
      · exact absurd (upd_ne hb) z
end
theorem walk_ofG {l : PySem.W.OpenLaw} {n k : Nat} {q : Program} {loose : List Str} {XP : (Str → Option Value) → Heap → Prop} {YP : World → Heap → Prop} {d : DefRec} {x : Str} {CX : World → CXT}
    (hn : l.most = some n) (few : n ≤ sizeLine) (hdf : d.params.defaults = []) (room : Room k callerA)
    (F : ∀ (w : World) (mg : Str → Option Value) (fa : Addr) (h : Heap), YP w h → h.Ns mainGlobals mg → mg d.name = some (.ref fa) →
      ∃ (K : PySem.W.Frag) (fd : FuncData) (sp : Sp), K.In h ∧ (∀ (s : Shared) (u : Value), BindsTo s fd ⟨[u], []⟩ [(x, u)]) ∧
        (∀ (H : Hp) (a : Addr) (ns : List Int), ns.length ≤ n → Only H → SqL K H a (ns.map V.int) → sp [.ref a] H (fun v _ => v = .bl true) fun _ _ _ => False) ∧
        ∀ base : Heap, K.In base → base.Ns mainGlobals mg → FnG l.prog w K mg base (CX w) k fa fd [x] sp)
    (noX : ∀ (w : World) (H : Hp) (s : Shared) (e : Value) (s' : Shared), CX w [] H s (fun _ _ _ => False) e s' → False) :
    PySem.W.WalkO q loose XP YP l.row.toRowW d [] (fun f vs => PySem.call f vs) := by
  refine Att.attach_call hn hdf fun w s₀ sA mg mb fa o pm cd doc a vs ns G Y ho hd hcd hmg hobj hints hlen hg => ?_
  obtain ⟨K, fd, sp, KX, hb, hsp, hF⟩ := F w mg fa _ Y G.T.g hmg
  exact law_callG KX G.T.g G.T.b G.T.builtins G.T.nolimit hg hobj hints (Nat.le_trans hlen few) room hF hb (fun H hO hS => hsp H a ns hlen hO hS) fun H e s' => noX w H sA e s'
end G78
namespace G78
open PySem PySem.Spec PyProof.Rows L2
/-- a def of the text, as it stands behind the top -/
def Def (K : PySem.W.Frag) (mg : Str → Option Value) (x : Str) (st : Stmt) (dvs : List V) : Prop :=
  ∃ (f : Addr) (fd : FuncData), FunD K x x (defArgs st) (defBody st) (defScope st) dvs [] f fd ∧ mg x = some (.ref f)
/-- what a def of the name x is worth (it may raise) -/
structure Cl (P : Program) (w : World) (K : PySem.W.Frag) (mg : Str → Option Value) (base : Heap) (k : Nat) (x : Str) (sp : Sp) : Prop where
  ex : ∃ (f : Addr) (fd : FuncData) (ps : List Str), FnOk P w K mg base (L2.CX P w) k f fd ps sp ∧ mg x = some (.ref f) ∧ PySem.W.keepIn K (.ref f) = true ∧ Binds K fd ps [] ∧ ∃ oc od osl, K.lookup f = some ⟨oc, od, .func fd, osl⟩
/-- the same where no repr is under way -/
structure ClG (P : Program) (w : World) (K : PySem.W.Frag) (mg : Str → Option Value) (base : Heap) (k : Nat) (x : Str) (sp : Sp) : Prop where
  ex : ∃ (f : Addr) (fd : FuncData) (ps : List Str), FnG P w K mg base (L2.CX P w) k f fd ps sp ∧ mg x = some (.ref f) ∧ PySem.W.keepIn K (.ref f) = true ∧ Binds K fd ps []
section
variable {P : Program} {w : World} {K : PySem.W.Frag} {mg : Str → Option Value} {base : Heap} {x : Str} {st : Stmt} {N ps : List Str} {k : Nat} {sp : Sp}
/-- how all parameters bind -/
abbrev BindAll (x : Str) (st : Stmt) (ps : List Str) : Prop := ∀ (kV doc pm : Value) (an : Option Addr) (cdv ct : Value) (us : List Value), us.length = ps.length →
  bindArgs (PySem.W.fnOf x x (defArgs st) (defBody st) (defScope st) .none kV doc pm an cdv ct) ⟨us, []⟩ = pure (ps.zip us)
/-- the same with one default, the last, that is given -/
abbrev BindAll1 (x : Str) (st : Stmt) (ps : List Str) : Prop := ∀ (T : Addr) (kV doc pm : Value) (an : Option Addr) (cdv ct : Value) (us its : List Value), us.length = ps.length → its.length = 1 →
  ∃ k, bindArgs (PySem.W.fnOf x x (defArgs st) (defBody st) (defScope st) (.ref T) kV doc pm an cdv ct) ⟨us, []⟩ = seqItems? (.ref T) >>= k ∧ k (some its.toArray) = pure (ps.zip (us ++ its.drop 1))
theorem lkF {x qual : Str} {params : Arguments} {body : List Stmt} {scope : Scope} {dvs : List V} {kws : List (Str × V)} {f : Addr} {fd : FuncData} (F : FunD K x qual params body scope dvs kws f fd) : ∃ oc od osl, K.lookup f = some ⟨oc, od, .func fd, osl⟩ := by
  obtain ⟨oc, od, dV, kV, doc, pm, an, cdv, ct, osl, rfl, lk, _⟩ := F.ex
  exact ⟨oc, od, osl, lk⟩
theorem cl_of (D : Def K mg x st []) (S : FnScope N ps (defScope st)) (hb : BindAll x st ps) (len : ∀ vs H Q E, sp vs H Q E → vs.length = ps.length)
    (hbody : ∀ (f : Addr) (cdv : Value) (A : Around) (outer : List Env) (s : Shared) (H : Hp) (vs : List V) (Q : VK) (E : XK), Room k (A.deeper (envOfC x (defScope st) s.heap.objs.size f cdv)) → sp vs H Q E →
      ∃ t, PSs (cxOf (L2.CX P w) P w K mg base N x (defScope st) f cdv A outer s H E) (defBody st) t ∧ t { nx := fun _ H' => Q .non H', rt := Q } (start N vs) H) : Cl P w K mg base (k + 1) x sp := by
  obtain ⟨f, fd, F, hm⟩ := D
  exact ⟨f, fd, ps, F.ok S len (hbody f), hm, F.kp, F.bindsN hb, lkF F⟩
theorem cl_of1 {v : V} (D : Def K mg x st [v]) (S : FnScope N ps (defScope st)) (hb : BindAll1 x st ps) (len : ∀ vs H Q E, sp vs H Q E → vs.length = ps.length)
    (hbody : ∀ (f : Addr) (cdv : Value) (A : Around) (outer : List Env) (s : Shared) (H : Hp) (vs : List V) (Q : VK) (E : XK), Room k (A.deeper (envOfC x (defScope st) s.heap.objs.size f cdv)) → sp vs H Q E →
      ∃ t, PSs (cxOf (L2.CX P w) P w K mg base N x (defScope st) f cdv A outer s H E) (defBody st) t ∧ t { nx := fun _ H' => Q .non H', rt := Q } (start N vs) H) : Cl P w K mg base (k + 1) x sp := by
  obtain ⟨f, fd, F, hm⟩ := D
  obtain ⟨ds, rd, hB⟩ := F.binds1 ps.length 1 (List.cons_ne_nil _ _) (by simp) hb
  have e : ds = [] := by
    cases rd
    rfl
  subst e
  exact ⟨f, fd, ps, F.ok S len (hbody f), hm, F.kp, hB, lkF F⟩
theorem clG_of (D : Def K mg x st []) (S : FnScope N ps (defScope st)) (hb : BindAll x st ps) (len : ∀ vs H Q E, sp vs H Q E → vs.length = ps.length)
    (hbody : ∀ (f : Addr) (cdv : Value) (A : Around) (outer : List Env) (s : Shared) (H : Hp) (vs : List V) (Q : VK) (E : XK), Room k (A.deeper (envOfC x (defScope st) s.heap.objs.size f cdv)) → A.guards = some [] → sp vs H Q E →
      ∃ t, PSs (cxOf (L2.CX P w) P w K mg base N x (defScope st) f cdv A outer s H E) (defBody st) t ∧ t { nx := fun _ H' => Q .non H', rt := Q } (start N vs) H) : ClG P w K mg base (k + 1) x sp := by
  obtain ⟨f, fd, F, hm⟩ := D
  exact ⟨f, fd, ps, okG F S len (hbody f), hm, F.kp, F.bindsN hb⟩
/-- a weaker promise -/
theorem Cl.imp {sp' : Sp} (c : Cl P w K mg base k x sp) (h : ∀ vs H Q E, sp' vs H Q E → sp vs H Q E) : Cl P w K mg base k x sp' := by
  obtain ⟨f, fd, ps, F, hm, kp, hb, lk⟩ := c.ex
  exact ⟨f, fd, ps, F.imp h, hm, kp, hb, lk⟩
end
section
variable {X : Cx} {k j : Nat} {x : Str} {sp : Sp} {p pos : Pos} {e : Expr} {es : List Expr} {t : TA} {W : WX}
/-- x(e, ..), where nothing is raised -/
theorem pe_cl (c : Cl X.prog X.w X.K X.mg X.base k x sp) (hr : Room j X.A) (hk : k ≤ j) (hg : Gl X x) (ha : PA X (e :: es) t)
    (hdb : (x == ("__debug__" : Str)) = false := by decide) (he : starEach (e :: es) X.env = (false, eval e X.env) :: starEach es X.env := by rfl) (hpl : (backTo pos (starEach es X.env)).any (·.1) = false := by rfl) :
    PE X (.Call (.Name x p) (e :: es) [] pos) (tCall sp [] E0 t) := by
  obtain ⟨f, fd, ps, F, hm, kp, b, _⟩ := c.ex
  exact pe_call F (hr.mono hk) hg hm kp b .nil passL ha hdb he hpl
/-- .. what is raised is wished for by W -/
theorem pe_clW (c : Cl X.prog X.w X.K X.mg X.base k x sp) (tk : Takes X W) (hr : Room j X.A) (hk : k ≤ j) (hg : Gl X x) (ha : PA X (e :: es) t)
    (hdb : (x == ("__debug__" : Str)) = false := by decide) (he : starEach (e :: es) X.env = (false, eval e X.env) :: starEach es X.env := by rfl) (hpl : (backTo pos (starEach es X.env)).any (·.1) = false := by rfl) :
    PE X (.Call (.Name x p) (e :: es) [] pos) (tCallS sp (WE W) t) := by
  obtain ⟨f, fd, ps, F, hm, kp, b, _⟩ := c.ex
  exact pe_callS F (hr.mono hk) hg hm kp b (fun σ => passAt tk σ) ha hdb he hpl
theorem pe_clG (c : ClG X.prog X.w X.K X.mg X.base k x sp) (hgd : X.A.guards = some []) (hr : Room j X.A) (hk : k ≤ j) (hg : Gl X x) (ha : PA X (e :: es) t)
    (hdb : (x == ("__debug__" : Str)) = false := by decide) (he : starEach (e :: es) X.env = (false, eval e X.env) :: starEach es X.env := by rfl) (hpl : (backTo pos (starEach es X.env)).any (·.1) = false := by rfl) :
    PE X (.Call (.Name x p) (e :: es) [] pos) (tCall sp [] E0 t) := by
  obtain ⟨f, fd, ps, F, hm, kp, b⟩ := c.ex
  exact pe_callG F (hr.mono hk) hgd hg hm kp b passL ha hdb he hpl
/-! ### a call by keywords alone -/
/-- how the keywords ks bind: the values in the parameters' order -/
structure ClK (P : Program) (w : World) (K : PySem.W.Frag) (mg : Str → Option Value) (base : Heap) (k : Nat) (x : Str) (sp : Sp) (ks : List Str) (g : {α : Type} → List α → List α) : Prop where
  ex : ∃ (f : Addr) (fd : FuncData) (ps : List Str), FnOk P w K mg base (L2.CX P w) k f fd ps sp ∧ mg x = some (.ref f) ∧ PySem.W.keepIn K (.ref f) = true ∧ KBn K fd ps 0 ks (fun _ ws => g ws) (fun _ zs => g zs)
def tCallKw (sp : Sp) (n : Nat) (g : List V → List V) (tk : TA) : TE := fun σ H Q => tk σ H fun zs H1 => zs.length = n ∧ sp (g zs) H1 Q E0
theorem pe_clK {ks : List Str} {g : {α : Type} → List α → List α} {kws : List Keyword} {tk : TA} (c : ClK X.prog X.w X.K X.mg X.base k x sp ks g) (hr : Room j X.A) (hk : k ≤ j) (hg : Gl X x) (hkw : PK X kws tk)
    (hall : (backToKw pos (keywordEach kws X.env)).all (·.1.isSome) = true := by rfl) (hks : (backToKw pos (keywordEach kws X.env)).filterMap (·.1) = ks := by rfl) (hdb : (x == ("__debug__" : Str)) = false := by decide)
    (hpl : ((backTo pos (starEach [] X.env)).any (·.1) || (backToKw pos (keywordEach kws X.env)).any (·.1.isNone)) = false := by rfl) :
    PE X (.Call (.Name x p) [] kws pos) (tCallKw sp ks.length g tk) := by
  obtain ⟨f, fd, ps, F, hm, kp, b⟩ := c.ex
  refine ⟨fun pins s σ H Q I h => wpAny_Call_Name_kw (ld_glob I hg hm ?_ hdb)⟩
  refine PySem.W.callWith_KW0 (h₀ := X.base) I.ok.mod.kin kp hall (thn (hkw.run pos pins s σ H _ I h) fun ws s1 ⟨zs, H1, I1, rz, l1, q⟩ => ⟨I1.kIn, ?_⟩) hpl
  rw [hks]
  exact run_fnN F (hr.mono hk) b passL I1 (.nil : Vals [] []) rz rfl l1 q
end
section
variable {P : Program} {w : World} {K : PySem.W.Frag} {mg : Str → Option Value} {base : Heap} {x : Str} {st : Stmt} {ps ks : List Str} {k : Nat} {sp : Sp}
theorem clK_of {g : {α : Type} → List α → List α} (c : Cl P w K mg base k x sp) (D : Def K mg x st []) (hg : ∀ {zs : List V} {ws : List Value}, Vals zs ws → Vals (g zs) (g ws)) (hlen : ∀ vs H Q E, sp vs H Q E → vs.length = ps.length)
    (h : ∀ (kV doc pm : Value) (an : Option Addr) (cdv ct : Value) (ws : List Value), ws.length = ks.length →
      bindArgs (PySem.W.fnOf x x (defArgs st) (defBody st) (defScope st) .none kV doc pm an cdv ct) ⟨[], ks.zip ws⟩ = pure (ps.zip (g ws))) (hps : ∀ f fd ps', FnOk P w K mg base (L2.CX P w) k f fd ps' sp → FnOk P w K mg base (L2.CX P w) k f fd ps sp) : ClK P w K mg base k x sp ks g := by
  obtain ⟨f, fd, ps', F, hm, kp, hb, oc, od, osl, lk⟩ := c.ex
  obtain ⟨f', fd', F', hm'⟩ := D
  rw [hm] at hm'
  cases hm'
  obtain ⟨oc', od', dV, kV, doc, pm, an, cdv, ct, osl', e, lk', hcd, hD, hK⟩ := F'.ex
  rw [lk] at lk'
  cases lk'
  rcases hD with ⟨_, e2⟩ | ⟨n, _⟩
  · subst e e2
    exact ⟨f, _, ps, hps _ _ _ F, hm, kp, ⟨fun s us ws _ hu hw => by
      have : us = [] := List.eq_nil_of_length_eq_zero hu
      subst this
      exact .of_eq (h kV doc pm an cdv ct ws hw), fun _ r => hg r⟩⟩
  · exact absurd rfl n
end
end G78
namespace G78
open PySem PySem.Spec PyProof.Rows L2
section
variable {Z : ZZ} {K : PySem.W.Frag} {F : Fr} {M M' : Addr → Prop} {σ : L2.St} {H H' H1 : Hp} {ds : DS} {X : Cx} {v : V} {d : D} {p : Addr} {m : Md} {e a b : Expr} {pos : Pos} {x : Str} {pp : Pos} {es : List Expr} {st : Stmt} {sts : List Stmt}
/-- what is wanted behind a statement, on data -/
structure DE where
  nx : DS → Prop
  rt : D → Prop
  bk : DS → Prop := fun _ => False
  ct : DS → Prop := fun _ => False
abbrev TWS := DE → DS → Prop
structure EO (Z : ZZ) (K : PySem.W.Frag) (F : Fr) (M : Addr → Prop) (H : Hp) (k : DE) (E : Ends) : Prop where
  nx : ∀ M' σ' H' ds', Rep Z K F M' σ' H' ds' → Keep M H M' H' → k.nx ds' → E.nx σ' H'
  bk : ∀ M' σ' H' ds', Rep Z K F M' σ' H' ds' → Keep M H M' H' → k.bk ds' → E.bk σ' H'
  ct : ∀ M' σ' H' ds', Rep Z K F M' σ' H' ds' → Keep M H M' H' → k.ct ds' → E.ct σ' H'
  rt : ∀ M' σ' H' ds' v d, Rep Z K F M' σ' H' ds' → ds'.nl = true → R K Z.C (era H' M') v d → k.rt d → E.rt v H'
theorem EO.keep {k : DE} {E : Ends} (o : EO Z K F M H k E) (kp : Keep M H M' H') : EO Z K F M' H' k E :=
  ⟨fun _ _ _ _ r k2 z => o.nx _ _ _ _ r (kp.trans k2) z, fun _ _ _ _ r k2 z => o.bk _ _ _ _ r (kp.trans k2) z, fun _ _ _ _ r k2 z => o.ct _ _ _ _ r (kp.trans k2) z, o.rt⟩
structure SJ (Z : ZZ) (X : Cx) (st : Stmt) (W : TWS) : Prop where
  ex : ∃ t, PS X st t ∧ ∀ F M σ H ds k E, Rep Z X.K F M σ H ds → W k ds → EO Z X.K F M H k E → t E σ H
structure SsJ (Z : ZZ) (X : Cx) (sts : List Stmt) (W : TWS) : Prop where
  ex : ∃ t, PSs X sts t ∧ ∀ F M σ H ds k E, Rep Z X.K F M σ H ds → W k ds → EO Z X.K F M H k E → t E σ H
@[simp] def wNext : TWS := fun k ds => k.nx ds
@[simp] def wSeq (A B : TWS) : TWS := fun k ds => A { k with nx := fun ds' => B k ds' } ds
theorem ss_nil : SsJ Z X [] wNext := ⟨_, pss_nil, fun F M σ H ds k E r w o => o.nx _ _ _ _ r (.refl M H) w⟩
theorem ss_one {A : TWS} (h : SJ Z X st A) : SsJ Z X [st] A := by
  obtain ⟨t, p, g⟩ := h.ex
  exact ⟨_, pss_one p, g⟩
theorem ss_cons {A B : TWS} (h : SJ Z X st A) (h2 : SsJ Z X sts B) : SsJ Z X (st :: sts) (wSeq A B) := by
  obtain ⟨t, p, g⟩ := h.ex
  obtain ⟨t2, p2, g2⟩ := h2.ex
  exact ⟨_, pss_cons p p2, fun F M σ H ds k E r w o => g F M σ H ds _ _ r w
    { nx := fun M' σ' H' ds' r' kp z => g2 F M' σ' H' ds' k E r' z (o.keep kp), bk := o.bk, ct := o.ct, rt := o.rt }⟩
/-- some slots' own things become data ahead of the statement -/
@[simp] def SC.frz : SC → SC
  | .l xs => .d (.lst xs)
  | .k kvs => .d (.dic kvs)
  | c => c
@[simp] def DS.frz (ds : DS) (i : Nat) : DS := { ds with s := ds.s.modify i SC.frz }
theorem Rep.frz (r : Rep Z K F M σ H ds) (i : Nat) : ∃ M', Rep Z K F M' σ H (ds.frz i) ∧ Keep M H M' H := by
  by_cases hx : ∃ c, ds.s[i]? = some c ∧ c.own = true
  · obtain ⟨c, hc, ho⟩ := hx
    have s := r.sl i c hc
    obtain ⟨p, hp, hv, hb, h0⟩ : ∃ p, M p ∧ σ[i]? = some (some (.ref p)) ∧ F.bx ≠ some p ∧ F.H0 p = none := by
      cases c with
      | l xs => obtain ⟨p, vs, e, m, b, n, h, l⟩ := s; exact ⟨p, m, e, b, n⟩
      | k xs => obtain ⟨p, vs, e, m, b, n, h, l⟩ := s; exact ⟨p, m, e, b, n⟩
      | no => cases ho
      | d _ => cases ho
      | bx => cases ho
    have le : Le (era H M) (era H fun a => M a ∧ a ≠ p) := era_le (fun a z => z.1) fun _ _ _ h => h
    have get : ∀ (j : Nat) (c : SC), (ds.frz i).s[j]? = some c → if j = i then ∃ c', ds.s[j]? = some c' ∧ c = c'.frz else ds.s[j]? = some c := fun j c h => by
      have h : (ds.s.modify i SC.frz)[j]? = some c := h
      rw [List.getElem?_modify] at h
      by_cases e : i = j
      · subst e; rw [if_pos rfl]
        simp only [if_pos] at h
        obtain ⟨c', h1, h2⟩ := Option.map_eq_some_iff.mp h
        exact ⟨c', h1, h2.symm⟩
      · rw [if_neg (Ne.symm e)]
        simpa [if_neg e] using h
    have fo : ∀ c : SC, c.frz.own = false := fun c => by cases c <;> rfl
    refine ⟨fun a => M a ∧ a ≠ p, ⟨fun j c h => ?_, fun j l c e h1 h2 o1 o2 hjl => ?_, fun a m => r.mo a m.1, fun b e => ⟨⟨(r.bm b e).1, fun q => hb (q ▸ e)⟩, (r.bm b e).2⟩, r.sn, r.dm, fun a m => ⟨⟨(r.m0 a m).1, fun q => (r.m0 a m).2 (q ▸ h0)⟩, (r.m0 a m).2⟩, r.nl, r.fl, r.xs, r.b0, ?_⟩, fun a o n e => ⟨fun z => n z.1, e⟩⟩
    · have g := get j c h
      by_cases e : j = i
      · subst e
        rw [if_pos rfl] at g
        obtain ⟨c', h1, rfl⟩ := g
        rw [hc] at h1; cases h1
        cases c with
        | l xs =>
          obtain ⟨p', vs, e, m, b, n, h, l⟩ := s
          rw [hv] at e; cases e
          exact ⟨_, hv, .lst (era_of (fun z => z.2 rfl) h) (RL.le le _ _ l)⟩
        | k xs =>
          obtain ⟨p', vs, e, m, b, n, h, l⟩ := s
          rw [hv] at e; cases e
          exact ⟨_, hv, .dic (.inl (era_of (fun z => z.2 rfl) h)) (RK.le le _ _ l)⟩
        | no => cases ho
        | d _ => cases ho
        | bx => cases ho
      · rw [if_neg e] at g
        have s' := r.sl j c g
        have ne : c.own = true → σ[j]? ≠ σ[i]? := fun o => r.dj j i c _ g hc o ho e
        cases c with
        | no => trivial
        | d d => obtain ⟨y, e, r⟩ := s'; exact ⟨y, e, r.le le⟩
        | l xs => obtain ⟨q, vs, e', m, b, n, h, r'⟩ := s'; exact ⟨q, vs, e', ⟨m, fun z => ne rfl (by rw [e', hv, z])⟩, b, n, h, RL.le le _ _ r'⟩
        | k kds => obtain ⟨q, vs, e', m, b, n, h, r'⟩ := s'; exact ⟨q, vs, e', ⟨m, fun z => ne rfl (by rw [e', hv, z])⟩, b, n, h, RK.le le _ _ r'⟩
        | bx => exact s'
    · have g1 := get j c h1
      have g2 := get l e h2
      have e1 : j ≠ i := fun q => by
        rw [if_pos q] at g1
        obtain ⟨c', _, rfl⟩ := g1
        rw [fo] at o1; cases o1
      have e2 : l ≠ i := fun q => by
        rw [if_pos q] at g2
        obtain ⟨c', _, rfl⟩ := g2
        rw [fo] at o2; cases o2
      rw [if_neg e1] at g1
      rw [if_neg e2] at g2
      exact r.dj j l c e g1 g2 o1 o2 hjl
    · show (ds.s.modify i SC.frz).length = _
      rw [List.length_modify]; exact r.ln
  · have e : ds.frz i = ds := by
      have : ds.s.modify i SC.frz = ds.s := by
        apply List.ext_getElem?
        intro j
        rw [List.getElem?_modify]
        by_cases e : i = j
        · subst e
          simp only [if_pos]
          cases h : ds.s[i]? with
          | none => rfl
          | some c =>
            have : c.own = false := by
              cases q : c.own with
              | false => rfl
              | true => exact absurd ⟨c, h, q⟩ hx
            cases c <;> first | rfl | cases this
        · simp [if_neg e]
      show ({ ds with s := ds.s.modify i SC.frz } : DS) = ds
      rw [this]
    rw [e]
    exact ⟨M, r, .refl M H⟩
@[simp] def wFrz (i : Nat) (A : TWS) : TWS := fun k ds => A k (ds.frz i)
theorem ss_frz {A : TWS} (i : Nat) (h : SsJ Z X sts A) : SsJ Z X sts (wFrz i A) := by
  obtain ⟨t, p, g⟩ := h.ex
  refine ⟨t, p, fun F M σ H ds k E r w o => ?_⟩
  obtain ⟨M', r', kp⟩ := r.frz i
  exact g F M' σ H _ k E r' w (o.keep kp)
/-! ### assignments -/
structure AsJ (Z : ZZ) (m : Md) (X : Cx) (st : Stmt) (i : Nat) (W : TW) : Prop where
  ex : ∃ t, PS X st (tAsg t (gName i)) ∧ ∀ F M σ H ds (q : D → Prop) (Q : VK), Rep Z X.K F M σ H ds → W ds q → (∀ v H' d, Ext F H H' → Res Z m X.K F M H H' v d → q d → Q v H') → t σ H Q
variable {A W : TW} {i : Nat}
theorem as_of {pos' : Pos} (hN : X.N.Nodup) (hi : X.N[i]? = some x) (hx : Loc X.env.scope x) (he : EJ Z m X e W) (hs : swapsWith e (some (.Name x pos')) pos.line X.env = pure false := by rfl)
    (hf : X.fn x = true ∨ X.env.scope.names.lookup x = some .local := by first | exact .inl rfl | exact .inr rfl | assumption) : AsJ Z m X (.Assign [.Name x pos'] e pos) i W := by
  obtain ⟨t, p, g⟩ := he.ex
  exact ⟨t, ps_set hN hi hx p hs hf, g⟩
theorem AsJ.dt (h : AsJ Z .o X st i W) : AsJ Z .d X st i W := by
  obtain ⟨t, p, g⟩ := h.ex
  exact ⟨t, p, fun F M σ H ds q Q r w k => g F M σ H ds q Q r w fun v H' d x s z => k v H' d x (RO.dat r s) z⟩
@[simp] def wSet (i : Nat) (A : TW) : TWS := fun k ds => A ds fun x => k.nx (ds.set i (.d x))
theorem sj_set (h : AsJ Z .d X st i A) : SJ Z X st (wSet i A) := by
  obtain ⟨t, p, g⟩ := h.ex
  exact ⟨_, p, fun F M σ H ds k E r w o => g F M σ H ds _ _ r w fun v H1 d x s z => o.nx _ _ _ _ ((r.ext x).setD s) (.ext r x) z⟩
@[simp] def SC.of : D → Option SC
  | .lst xs => some (.l xs)
  | .dic kvs => some (.k kvs)
  | _ => none
@[simp] def wOwn (i : Nat) (A : TW) : TWS := fun k ds => A ds fun x => ∃ c, SC.of x = some c ∧ k.nx (ds.set i c)
/-- a slot gets a thing of its own -/
theorem Rep.setO (r : Rep Z K F M σ H ds) {c : SC} (hno : ∀ (i : Nat) (c : SC), ds.s[i]? = some c → c.own = true → σ[i]? ≠ some (some (.ref p))) (hc : Sl Z K F M H c (some (some (.ref p)))) : Rep Z K F M (σ.set i (some (.ref p))) H (ds.set i c) where
  sl := fun j e h => by
    by_cases hij : i = j
    · subst hij
      have hl : i < ds.s.length := by simpa [DS.set] using (List.getElem?_eq_some_iff.mp h).1
      rw [show (ds.set i c).s = ds.s.set i c from rfl, List.getElem?_set_self hl] at h
      cases h
      rw [List.getElem?_set_self (by rw [← r.ln]; exact hl)]
      exact hc
    · rw [show (ds.set i c).s = ds.s.set i c from rfl, List.getElem?_set_ne hij] at h
      rw [List.getElem?_set_ne hij]
      exact r.sl j e h
  dj := fun j l e f h1 h2 o1 o2 hjl => by
    rw [show (ds.set i c).s = ds.s.set i c from rfl] at h1 h2
    by_cases hj : i = j
    · subst hj
      have hl : i < ds.s.length := by simpa using (List.getElem?_eq_some_iff.mp h1).1
      rw [List.getElem?_set_ne hjl] at h2 ⊢
      rw [List.getElem?_set_self (by rw [← r.ln]; exact hl)]
      exact (hno l f h2 o2).symm
    · rw [List.getElem?_set_ne hj] at h1 ⊢
      by_cases hl : i = l
      · subst hl
        have hl : i < ds.s.length := by simpa using (List.getElem?_eq_some_iff.mp h2).1
        rw [List.getElem?_set_self (by rw [← r.ln]; exact hl)]
        exact hno j e h1 o1
      · rw [List.getElem?_set_ne hl] at h2 ⊢
        exact r.dj j l e f h1 h2 o1 o2 hjl
  mo := r.mo
  bm := r.bm
  sn := r.sn
  dm := r.dm
  m0 := r.m0
  nl := r.nl
  fl := r.fl
  xs := r.xs
  b0 := r.b0
  ln := by simp [DS.set, r.ln]
theorem RO.grow (r : Rep Z K F M σ H ds) (x : Ext F H H1) (s : RO Z K M H H1 v d) : ∃ p c, v = .ref p ∧ SC.of d = some c ∧ Rep Z K F (fun a => M a ∨ a = p) σ H1 ds ∧ Keep M H (fun a => M a ∨ a = p) H1 ∧ Sl Z K F (fun a => M a ∨ a = p) H1 c (some (some (.ref p))) ∧ H p = none := by
  cases s with
  | lst hn h l =>
    exact ⟨_, _, rfl, rfl, r.grow x hn (by rw [h]; exact Option.some_ne_none _), walk_in (J := ⟨fun _ _ => True, fun _ _ _ _ => True, fun _ _ => True⟩) (xs := []) (G := fun _ => True) (Y := fun _ _ _ _ => True) r hn x, ⟨_, _, rfl, .inr rfl, r.bxN hn, r.h0N hn, h, l⟩, hn⟩
  | dic hn h l =>
    exact ⟨_, _, rfl, rfl, r.grow x hn (by rw [h]; exact Option.some_ne_none _), walk_in (J := ⟨fun _ _ => True, fun _ _ _ _ => True, fun _ _ => True⟩) (xs := []) (G := fun _ => True) (Y := fun _ _ _ _ => True) r hn x, ⟨_, _, rfl, .inr rfl, r.bxN hn, r.h0N hn, h, l⟩, hn⟩
theorem sj_own (h : AsJ Z .o X st i A) : SJ Z X st (wOwn i A) := by
  obtain ⟨t, p, g⟩ := h.ex
  refine ⟨_, p, fun F M σ H ds k E r w o => g F M σ H ds _ _ r w fun v H1 d x s ⟨c, hc, z⟩ => ?_⟩
  obtain ⟨p, c', rfl, hc', r', kp, sl, hn⟩ := RO.grow r x s
  rw [hc] at hc'; cases hc'
  exact o.nx _ _ _ _ (r'.setO (own_ne r hn) sl) kp z
/-- for effect alone -/
@[simp] def wDrop (A : TW) : TWS := fun k ds => A ds fun _ => k.nx ds
theorem sj_expr (h : EJ Z m X e A) (hs : swapsWith e none pos.line X.env = pure false := by rfl) : SJ Z X (.Expr e pos) (wDrop A) := by
  obtain ⟨t, p, g⟩ := h.ex
  exact ⟨_, ps_expr p hs, fun F M σ H ds k E r w o => g F M σ H ds _ _ r w fun v H1 d x s z => o.nx _ _ _ _ (r.ext x) (.ext r x) z⟩
@[simp] def wRet (A : TW) : TWS := fun k ds => ds.nl = true ∧ A ds k.rt
theorem sj_ret (h : EJ Z .d X e A) : SJ Z X (.Return (some e) pos) (wRet A) := by
  obtain ⟨t, p, g⟩ := h.ex
  exact ⟨_, ps_ret p, fun F M σ H ds k E r w o => g F M σ H ds _ _ r w.2 fun v H1 d x s z => o.rt _ σ _ ds _ _ (r.ext x) w.1 s z⟩
@[simp] def wIfS (C : TWT) (A B : TWS) : TWS := fun k ds => C ds fun b => if b = true then A k ds else B k ds
theorem sj_if {c : Expr} {s1 s2 : List Stmt} {C : TWT} {A B : TWS} (hc : TJ Z X c C) (ha : SsJ Z X s1 A) (hb : SsJ Z X s2 B) : SJ Z X (.If c s1 s2 pos) (wIfS C A B) := by
  obtain ⟨tc, pc, gc⟩ := hc.ex
  obtain ⟨ta, pa, ga⟩ := ha.ex
  obtain ⟨tb, pb, gb⟩ := hb.ex
  refine ⟨_, ps_if pc pa pb, fun F M σ H ds k E r w o => gc F M σ H ds _ _ r w fun c H1 x1 w1 => ?_⟩
  cases c with
  | true => exact ga F M σ H1 ds k E (r.ext x1) w1 (o.keep (.ext r x1))
  | false => exact gb F M σ H1 ds k E (r.ext x1) w1 (o.keep (.ext r x1))
theorem sj_pass : SJ Z X (.Pass pos) wNext := ⟨_, ps_pass, fun F M σ H ds k E r w o => o.nx _ _ _ _ r (.refl M H) w⟩
/-! ### loops -/
def forGo (G : TWG) (B : TWS) (k : DE) : List D → DS → Prop
  | [], ds => k.nx ds
  | x :: xs, ds => G x ds fun ds2 => B { k with nx := forGo G B k xs, ct := forGo G B k xs, bk := k.nx } ds2
@[simp] def wFor (I : TWI) (G : TWG) (B : TWS) : TWS := fun k ds => I ds fun xs => forGo G B k xs ds
section
variable {tg iter : Expr} {I : TWI} {G : TWG} {B : TWS} {is : List Nat} {body : List Stmt}
theorem for_read {g : TG} {tb : TS} {k : DE} {E : Ends} {xs : List D} {J : It} {G0 : Hp → Prop} {Y : Nat → Hp → V → Hp → Prop}
    (gg : ∀ F M σ H ds v x (q : DS → Prop) (Q : L2.St → Hp → Prop), Rep Z K F M σ H ds → R K Z.C (era H M) v x → G x ds q →
      (∀ σ' ds', Rep Z K F M σ' H ds' → (∀ vs : List Nat, (∀ i ∈ is, i ∈ vs) → L2.wipe σ' vs = L2.wipe σ vs) → OwnSub σ ds σ' ds' → q ds' → Q σ' H) → g v σ H Q)
    (gb : ∀ F M σ H ds k E, Rep Z K F M σ H ds → B k ds → EO Z K F M H k E → tb E σ H)
    (r : Rep Z K F M σ H1 ds) (w : WalkD Z K F M H1 J xs G0 Y) (hq : forGo G B k xs ds) (o : EO Z K F M H1 k E) :
    ∃ W : Nat → Nat → L2.St → Hp → Prop, (∃ m, W 0 m σ H1) ∧ ∀ i m σ H, W i m σ H →
      (J.stop i H ∧ E.nx σ H) ∨ (J.go i H ∧ ∃ N : L2.St → Hp → Prop, (∀ σ' H', N σ' H' → ∃ m', m' < m ∧ W (i + 1) m' σ' H') ∧ ∀ x H', J.yld i H x H' → g x σ H' fun σ2 H2 => tb { E with nx := N, ct := N, bk := E.nx } σ2 H2) := by
  refine for_it w.w (fun i σ H => ∃ M' ds', Rep Z K F M' σ H ds' ∧ Keep M H1 M' H ∧ forGo G B k (xs.drop i) ds') ⟨M, ds, r, .refl _ _, hq⟩ ?_ ?_ ?_
  · rintro i σ H - ⟨M', ds', r', kp, -⟩
    exact w.g _ _ kp
  · rintro i x σ H H' hi ⟨M', ds', r', kp, hq⟩ hy
    obtain ⟨x1, d, h1, h2⟩ := w.y i _ _ _ _ x H' hi r' kp hy
    rw [List.drop_eq_getElem_cons hi] at hq
    have e : xs[i] = d := by rw [List.getElem?_eq_getElem hi] at h1; exact Option.some.inj h1
    rw [e] at hq
    have kp1 := kp.trans (.ext r' x1)
    refine gg F M' σ H' ds' x d _ _ (r'.ext x1) h2 hq fun σ2 ds2 r2 _ _ hq => gb F M' σ2 H' ds2 _ _ r2 hq ⟨fun M3 σ3 H3 ds3 r3 kp3 z => ⟨M3, ds3, r3, kp1.trans kp3, z⟩, fun M3 σ3 H3 ds3 r3 kp3 z => o.nx _ _ _ _ r3 (kp1.trans kp3) z, fun M3 σ3 H3 ds3 r3 kp3 z => ⟨M3, ds3, r3, kp1.trans kp3, z⟩, fun M3 σ3 H3 ds3 v d r3 hn hv z => o.rt _ _ _ _ _ _ r3 hn hv z⟩
  · rintro σ H ⟨M', ds', r', kp, hq⟩
    rw [List.drop_length] at hq
    exact o.nx _ _ _ _ r' kp hq
theorem sj_for (hp : PassesOwn (model X.prog X.w) X.A X.env X.xe) (hc : X.calm = true) (hi : IJ Z X tg iter I) (hg : GJ Z X tg is G) (hb : SsJ Z X body B)
    (hs : ∀ x, foldedSetIterable iter X.env x = pure x := by intro _; rfl) : SJ Z X (.For tg iter body [] pos) (wFor I G B) := by
  obtain ⟨wi, pi, gi⟩ := hi.ex
  obtain ⟨g, pg, gg⟩ := hg.ex
  obtain ⟨tb, pb, gb⟩ := hb.ex
  exact ⟨_, ps_for hp hc pi pg pb hs, fun F M σ H ds k E r w o => gi F M σ H ds _ _ r w fun J H1 xs G0 Y x1 wd hq => for_read gg gb (r.ext x1) wd hq (o.keep (.ext r x1))⟩
/-- over a dict that is locked meanwhile -/
@[simp] def wForL (I : TWI) (G : TWG) (B : TWS) : TWS := fun k ds => ds.nl = true ∧ I ds fun xs => forGo G B { nx := fun ds' => k.nx ds'.unlock, rt := fun _ => False } xs ds.lock
theorem sj_forL (hp : PassesOwn (model X.prog X.w) X.A X.env X.xe) (hc : X.calm = true) (hi : LJ Z X tg iter I) (hg : GJ Z X tg is G) (hb : SsJ Z X body B)
    (hs : ∀ x, foldedSetIterable iter X.env x = pure x := by intro _; rfl) : SJ Z X (.For tg iter body [] pos) (wForL I G B) := by
  obtain ⟨wi, pi, gi⟩ := hi.ex
  obtain ⟨g, pg, gg⟩ := hg.ex
  obtain ⟨tb, pb, gb⟩ := hb.ex
  refine ⟨_, ps_lock (ps_for hp hc pi pg pb hs), fun F M σ H ds k E r w o => ?_⟩
  obtain ⟨d, kvs, xs, G0, hd, hm, hq, w2⟩ := gi F M σ H ds _ r w.1 w.2
  refine ⟨d, _, hd, trivial, fun od => w2 od _ fun J Y wd => for_read gg gb (r.lock w.1 hm hd) wd hq ⟨fun M' σ' H' ds' r' kp z => ?_, fun _ _ _ _ _ _ z => z.elim, fun _ _ _ _ _ _ z => z.elim, fun _ _ _ _ _ _ _ _ _ z => z.elim⟩⟩
  obtain ⟨n1, n2⟩ := kp d _ hm upd_same
  refine ⟨n2, o.nx _ _ _ _ (r'.unlock n1 n2 fun u e => ?_) (fun a u n e => ?_) z⟩
  · have := (r.sn.sn (r.nl w.1)) d u (r.bxM hm) e
    rw [hd] at this; cases this; rfl
  · by_cases q : a = d
    · subst q; rw [hd] at e; cases e; exact ⟨n1, upd_same⟩
    · obtain ⟨h1, h2⟩ := kp a u n (by rw [upd_ne q]; exact e)
      exact ⟨h1, by rw [upd_ne q]; exact h2⟩
/-- while: an invariant with its measure -/
@[simp] def wWhile (C : TWT) (B : TWS) : TWS := fun k ds => ∃ Pv : Nat → DS → Prop, (∃ m, Pv m ds) ∧ ∀ m ds', Pv m ds' → C ds' fun b => if b = true then B { k with nx := fun ds2 => ∃ m', m' < m ∧ Pv m' ds2, ct := fun ds2 => ∃ m', m' < m ∧ Pv m' ds2, bk := k.nx } ds' else k.nx ds'
theorem sj_while {c : Expr} {C : TWT} (hp : PassesOwn (model X.prog X.w) X.A X.env X.xe) (hc : TJ Z X c C) (hb : SsJ Z X body B) : SJ Z X (.While c body [] pos) (wWhile C B) := by
  obtain ⟨tc, pc, gc⟩ := hc.ex
  obtain ⟨tb, pb, gb⟩ := hb.ex
  refine ⟨_, ps_while hp pc pb, fun F M σ H ds k E r ⟨Pv, ⟨m0, h0⟩, step⟩ o => ?_⟩
  refine ⟨fun m σ' H' => ∃ M' ds', Rep Z X.K F M' σ' H' ds' ∧ Keep M H M' H' ∧ Pv m ds', ⟨m0, M, ds, r, .refl _ _, h0⟩, ?_⟩
  rintro m σ' H' ⟨M', ds', r', kp, hv⟩
  refine gc F M' σ' H' ds' _ _ r' (step m ds' hv) fun b H1 x1 w1 => ?_
  have kp1 := kp.trans (.ext r' x1)
  cases b with
  | false => exact o.nx _ _ _ _ (r'.ext x1) kp1 w1
  | true =>
    refine ⟨fun σ2 H2 => ∃ M2 ds2, Rep Z X.K F M2 σ2 H2 ds2 ∧ Keep M H M2 H2 ∧ ∃ m', m' < m ∧ Pv m' ds2, fun σ2 H2 ⟨M2, ds2, r2, k2, m', hm, hv⟩ => ⟨m', hm, M2, ds2, r2, k2, hv⟩, ?_⟩
    exact gb F M' σ' H1 ds' _ _ (r'.ext x1) w1 ⟨fun M3 σ3 H3 ds3 r3 kp3 z => ⟨M3, ds3, r3, kp1.trans kp3, z⟩, fun M3 σ3 H3 ds3 r3 kp3 z => o.nx _ _ _ _ r3 (kp1.trans kp3) z, fun M3 σ3 H3 ds3 r3 kp3 z => ⟨M3, ds3, r3, kp1.trans kp3, z⟩, o.rt⟩
end
end
end G78
namespace G78
open PySem PySem.Spec PyProof.Rows L2
section
variable {Z : ZZ} {K : PySem.W.Frag} {F : Fr} {M M' : Addr → Prop} {σ : L2.St} {H H' H1 : Hp} {ds : DS} {X : Cx} {v : V} {d : D} {p : Addr} {m : Md} {e a b : Expr} {pos : Pos} {x y : Str} {pp : Pos} {es : List Expr} {st : Stmt} {sts : List Stmt} {A B W : TW} {i j : Nat}
/-! ### own things written -/
theorem Rep.mut (r : Rep Z K F M σ H ds) {c c' : SC} {o : HO} (hi : ds.s[i]? = some c) (hc : c.own = true) (hv : σ[i]? = some (some (.ref p))) (m : M p) (hb : F.bx ≠ some p) (h0 : F.H0 p = none) (ho : ∀ q kvs, o ≠ .frz q (.dK kvs)) (hc' : Sl Z K F M (upd H p o) c' (some (some (.ref p)))) : Rep Z K F M σ (upd H p o) (ds.set i c') := by
  have l : Le (era H M) (era (upd H p o) M) := era_le (fun _ z => z) fun a u n e => by rw [upd_ne (fun z : a = p => n (z ▸ m))]; exact e
  have get : ∀ (j : Nat) (e : SC), (ds.set i c').s[j]? = some e → (i = j ∧ e = c') ∨ (i ≠ j ∧ ds.s[j]? = some e) := fun j e h => by
    rw [show (ds.set i c').s = ds.s.set i c' from rfl] at h
    by_cases hij : i = j
    · subst hij
      have hl : i < ds.s.length := by simpa using (List.getElem?_eq_some_iff.mp h).1
      rw [List.getElem?_set_self hl] at h
      exact .inl ⟨rfl, (Option.some.inj h).symm⟩
    · rw [List.getElem?_set_ne hij] at h
      exact .inr ⟨hij, h⟩
  refine ⟨fun j e h => ?_, fun j l e f h1 h2 o1 o2 hjl => ?_, fun a n => ?_, fun b e => ⟨(r.bm b e).1, ?_⟩, fun a u n e => ?_, fun a n => ?_, r.m0, fun z a q kvs e => ?_, fun a q kvs e => ?_, r.xs, r.b0, by simp [DS.set, r.ln]⟩
  · rcases get j e h with ⟨rfl, rfl⟩ | ⟨hij, h⟩
    · rw [hv]; exact hc'
    · have s := r.sl j e h
      have ne : e.own = true → ∀ q, σ[j]? = some (some (.ref q)) → q ≠ p := fun oe q hq z => r.dj i j c e hi h hc oe hij (by rw [hv, hq, z])
      cases e with
      | no => trivial
      | d d => obtain ⟨y, e, r⟩ := s; exact ⟨y, e, r.le l⟩
      | l xs => obtain ⟨q, vs, e', m, b, n, h, r'⟩ := s; exact ⟨q, vs, e', m, b, n, by rw [upd_ne (ne rfl q e')]; exact h, RL.le l _ _ r'⟩
      | k kds => obtain ⟨q, vs, e', m, b, n, h, r'⟩ := s; exact ⟨q, vs, e', m, b, n, by rw [upd_ne (ne rfl q e')]; exact h, RK.le l _ _ r'⟩
      | bx => exact s
  · rcases get j e h1 with ⟨q1, q2⟩ | ⟨hij, h1'⟩
    · subst q1
      rcases get l f h2 with ⟨q3, q4⟩ | ⟨hil, h2'⟩
      · exact absurd q3 hjl
      · exact r.dj _ l c f hi h2' hc o2 hjl
    · rcases get l f h2 with ⟨q3, q4⟩ | ⟨hil, h2'⟩
      · subst q3
        exact r.dj j _ e c h1' hi o1 hc hjl
      · exact r.dj j l e f h1' h2' o1 o2 hjl
  · by_cases h : a = p
    · subst h; rw [upd_same]; exact Option.some_ne_none _
    · rw [upd_ne h]; exact r.mo a n
  · obtain ⟨i, j, k, h⟩ := (r.bm b e).2
    exact ⟨i, j, k, by rw [upd_ne (fun z : b = p => hb (z ▸ e))]; exact h⟩
  · rw [upd_ne (fun q => by subst q; rw [h0] at e; cases e)]
    exact r.sn a u n e
  · by_cases h : a = p
    · subst h; rw [upd_same]; exact Option.some_ne_none _
    · rw [upd_ne h]; exact r.dm a n
  · by_cases h : a = p
    · subst h; rw [upd_same] at e; exact ho q kvs (Option.some.inj e)
    · rw [upd_ne h] at e; exact r.nl z a q kvs e
  · by_cases h : a = p
    · subst h; rw [upd_same] at e; exact (ho q kvs (Option.some.inj e)).elim
    · rw [upd_ne h] at e; exact r.fl a q kvs e
theorem keep_upd (m : M p) {o : HO} : Keep M H M (upd H p o) := fun a u n e => ⟨n, by rw [upd_ne (fun z : a = p => n (z ▸ m))]; exact e⟩
theorem le_upd (m : M p) {o : HO} : Le (era H M) (era (upd H p o) M) := (keep_upd m).le
/-- an own list gets another content -/
theorem Rep.mutL (r : Rep Z K F M σ H ds) {xs ys : List D} {vs : List V} (hi : ds.s[i]? = some (.l xs)) (hv : σ[i]? = some (some (.ref p))) (l : RL K Z.C (era H M) vs ys) : Rep Z K F M σ (upd H p (.lst vs)) (ds.set i (.l ys)) ∧ Keep M H M (upd H p (.lst vs)) := by
  obtain ⟨q, ws, e, m, b, n, h, l'⟩ := r.sl i _ hi
  rw [hv] at e; cases e
  exact ⟨r.mut hi rfl hv m b n (fun _ _ z => nomatch z) ⟨p, vs, rfl, m, b, n, upd_same, RL.le (le_upd m) _ _ l⟩, keep_upd m⟩
theorem Rep.mutK (r : Rep Z K F M σ H ds) {xs ys : List (Key × D)} {vs : List (Key × V)} (hi : ds.s[i]? = some (.k xs)) (hv : σ[i]? = some (some (.ref p))) (l : RK K Z.C (era H M) vs ys) : Rep Z K F M σ (upd H p (.dK vs)) (ds.set i (.k ys)) ∧ Keep M H M (upd H p (.dK vs)) := by
  obtain ⟨q, ws, e, m, b, n, h, l'⟩ := r.sl i _ hi
  rw [hv] at e; cases e
  exact ⟨r.mut hi rfl hv m b n (fun _ _ z => nomatch z) ⟨p, vs, rfl, m, b, n, upd_same, RK.le (le_upd m) _ _ l⟩, keep_upd m⟩
theorem Rep.own (r : Rep Z K F M σ H ds) {xs : List D} (hi : ds.s[i]? = some (.l xs)) : ∃ p vs, σ[i]? = some (some (.ref p)) ∧ H p = some (.lst vs) ∧ RL K Z.C (era H M) vs xs := by
  obtain ⟨q, ws, e, m, b, n, h, l'⟩ := r.sl i _ hi
  exact ⟨q, ws, e, h, l'⟩
theorem Rep.ownK (r : Rep Z K F M σ H ds) {xs : List (Key × D)} (hi : ds.s[i]? = some (.k xs)) : ∃ p vs, σ[i]? = some (some (.ref p)) ∧ H p = some (.dK vs) ∧ RK K Z.C (era H M) vs xs := by
  obtain ⟨q, ws, e, m, b, n, h, l'⟩ := r.sl i _ hi
  exact ⟨q, ws, e, h, l'⟩
/-- x.append(e) -/
@[simp] def wApp (i : Nat) (A : TW) : TWS := fun k ds => ∃ xs, ds.s[i]? = some (.l xs) ∧ A ds fun d => xs.length < 100000 ∧ k.nx (ds.set i (.l (xs ++ [d])))
section
variable {apos cpos : Pos} {px : Pos}
theorem sj_app (hN : X.N[i]? = some x) (hv : Vis X.env.scope x) (he : EJ Z .d X e A) (hd : (x == ("__debug__" : Str)) = false := by decide) (hcd : (x == ("__classdict__" : Str)) = false := by decide)
    (hs0 : swapsWith (.Call (.Attribute (.Name x px) "append" apos) [e] [] cpos) none pos.line X.env = pure false := by rfl)
    (hbase : attributeBase (.Name x px) "append" X.env (eval (.Name x px) X.env) = eval (.Name x px) X.env := by rfl)
    (hfew : ((backTo cpos (starEach [e] X.env)).all (fun x => !x.1) && (backToKw cpos (keywordEach [] X.env)).all (fun x => x.1.isSome)
      && decide ([e].length + ([] : List Keyword).length + (if ([] : List Keyword).isEmpty then 0 else 1) < 30)) = true := by rfl)
    (hline : (apos.endLine == cpos.line) = true := by rfl) (hs : starEach [e] X.env = (false, eval e X.env) :: starEach [] X.env := by rfl) :
    SJ Z X (.Expr (.Call (.Attribute (.Name x px) "append" apos) [e] [] cpos) pos) (wApp i A) := by
  obtain ⟨t, pe, g⟩ := he.ex
  refine ⟨_, ps_expr (pe_bm PySem.F.plainAttrs_list PySem.F.slot_list_append PySem.F.type_list_append mt_append (pe_var hN hv hd hcd) (pa_cons pe pa_nil hs) hbase hfew hline hs rfl) hs0, fun F M σ H ds k E r ⟨xs, hi, w⟩ o => ?_⟩
  obtain ⟨p, vs, h1, h2, l⟩ := r.own hi
  refine ⟨.ref p, h1, .inl ⟨rfl, _, .of h2⟩, g F M σ H ds _ _ r w fun v H1 d x1 s ⟨hl, z⟩ => ?_⟩
  obtain ⟨p', vs', h1', h2', l'⟩ := (r.ext x1).own hi
  rw [h1] at h1'; cases h1'
  obtain ⟨r2, kp⟩ := (r.ext x1).mutL hi h1 (l'.app (.one s))
  exact ⟨p, vs', v, rfl, rfl, h2', by rw [l'.len, sizeLine_eq]; omega, o.nx _ _ _ _ r2 ((Keep.ext r x1).trans kp) z⟩
/-- x[j] = e, x an own list -/
@[simp] def wPut (i : Nat) (A B : TW) : TWS := fun k ds => ∃ xs, ds.s[i]? = some (.l xs) ∧ A ds fun d => B ds fun y => ∃ n l, y = .int n ∧ ixN xs.length n = some l ∧ k.nx (ds.set i (.l (xs.set l d)))
theorem sj_put (hN : X.N[i]? = some x) (hv : Vis X.env.scope x) (he : EJ Z .d X e A) (hb : EJ Z .r X b B)
    (hd : (x == ("__debug__" : Str)) = false := by decide) (hcd : (x == ("__classdict__" : Str)) = false := by decide)
    (ha : ∀ v, assign (.Subscript (.Name x px) b pp) X.env v = (do
      let ov ← holding [v] (eval (.Name x px) X.env)
      let iv ← holding [v, ov] (eval b X.env)
      standAt pp
      holding [v, ov, iv] (setItem ov iv v)
      release [v, ov, iv] []) := by intro _; rfl)
    (hs : swapsWithSole [.Subscript (.Name x px) b pp] e pos.line X.env = pure false := by rfl) (hw : swappedStores [.Subscript (.Name x px) b pp] e X.env = pure none := by rfl)
    (h1 : (assignEach [.Subscript (.Name x px) b pp] X.env).map (·.2) = [assign (.Subscript (.Name x px) b pp) X.env] := by rfl) : SJ Z X (.Assign [.Subscript (.Name x px) b pp] e pos) (wPut i A B) := by
  obtain ⟨t, pe, g⟩ := he.ex
  obtain ⟨tb, pb, gb⟩ := hb.ex
  refine ⟨_, ps_asg pe (pg_sub (pe_var hN hv hd hcd) pb set_list ha) hs hw h1, fun F M σ H ds k E r ⟨xs, hi, w⟩ o => g F M σ H ds _ _ r w fun v H1 d x1 s w1 => ?_⟩
  have r1 := r.ext x1
  obtain ⟨p, vs, h1, h2, l⟩ := r1.own hi
  refine ⟨.ref p, h1, gb F M σ H1 ds _ _ r1 w1 fun u H2 y x2 s2 ⟨n, l', e, hl, z⟩ => ?_⟩
  subst e
  cases RT.int s2
  obtain ⟨p', vs', h1', h2', lx⟩ := (r1.ext x2).own hi
  rw [h1] at h1'; cases h1'
  obtain ⟨r2, kp⟩ := (r1.ext x2).mutL hi h1 (RL.set l' lx ((show R X.K Z.C (era H1 M) v d from s).le (r1.le x2)))
  exact ⟨p, vs', n, l', rfl, rfl, h2', by rw [lx.len]; exact hl, o.nx _ _ _ _ r2 ((Keep.ext r (x1.trans x2)).trans kp) z⟩
/-- x[j] = e, x an own dict -/
@[simp] def wDput (i : Nat) (A B : TW) : TWS := fun k ds => ∃ kds, ds.s[i]? = some (.k kds) ∧ A ds fun d => B ds fun y => ∃ ky, y.key = some ky ∧ kds.length < 100000 ∧ k.nx (ds.set i (.k (dpt kds ky d)))
theorem sj_dput {kk : Nat} (hr : Room kk X.A) (hN : X.N[i]? = some x) (hv : Vis X.env.scope x) (he : EJ Z .d X e A) (hb : EJ Z .r X b B)
    (hd : (x == ("__debug__" : Str)) = false := by decide) (hcd : (x == ("__classdict__" : Str)) = false := by decide)
    (hs : swapsWith e (some (.Subscript (.Name x px) b pp)) pos.line X.env = pure false := by rfl) : SJ Z X (.Assign [.Subscript (.Name x px) b pp] e pos) (wDput i A B) := by
  obtain ⟨t, pe, g⟩ := he.ex
  obtain ⟨tb, pb, gb⟩ := hb.ex
  refine ⟨_, ps_dput (hu_of hr) (pe_var hN hv hd hcd) pb pe hs, fun F M σ H ds k E r ⟨xs, hi, w⟩ o => g F M σ H ds _ _ r w fun v H1 d x1 s w1 => ?_⟩
  have r1 := r.ext x1
  obtain ⟨p, vs, h1, h2, l⟩ := r1.ownK hi
  refine ⟨.ref p, h1, gb F M σ H1 ds _ _ r1 w1 fun u H2 y x2 s2 ⟨ky, e, hl, z⟩ => ?_⟩
  obtain ⟨p', vs', h1', h2', lx⟩ := (r1.ext x2).ownK hi
  rw [h1] at h1'; cases h1'
  obtain ⟨r2, kp⟩ := (r1.ext x2).mutK hi h1 (lx.put (k := ky) ((show R X.K Z.C (era H1 M) v d from s).le (r1.le x2)))
  have e2 : u = kV ky := RT.key s2 e
  subst e2
  exact ⟨p, _, rfl, DPut.k h2' (by rw [lx.len, sizeLine_eq]; omega), o.nx _ _ _ _ r2 ((Keep.ext r (x1.trans x2)).trans kp) z⟩
/-- x = y.pop() -/
@[simp] def wPop (i j : Nat) : TWS := fun k ds => ∃ xs d, ds.s[j]? = some (.l xs) ∧ xs[xs.length - 1]? = some d ∧ k.nx ((ds.set j (.l xs.dropLast)).set i (.d d))
theorem RL.dropLast {C : Addr} {vs : List V} {xs : List D} (h : RL K C H vs xs) : RL K C H vs.dropLast xs.dropLast := by
  rw [List.dropLast_eq_take, List.dropLast_eq_take, h.len]; exact RL.take _ h
theorem sj_pop (hN : X.N.Nodup) (hi : X.N[i]? = some x) (hx : Loc X.env.scope x) (hNy : X.N[j]? = some y) (hy : Vis X.env.scope y) (hd : (y == ("__debug__" : Str)) = false := by decide) (hcd : (y == ("__classdict__" : Str)) = false := by decide)
    (hs : swapsWith (.Call (.Attribute (.Name y px) "pop" apos) [] [] cpos) (some (.Name x pp)) pos.line X.env = pure false := by rfl)
    (hf : X.fn x = true ∨ X.env.scope.names.lookup x = some .local := by first | exact .inl rfl | exact .inr rfl | assumption)
    (hbase : attributeBase (.Name y px) "pop" X.env (eval (.Name y px) X.env) = eval (.Name y px) X.env := by rfl) (hline : (apos.endLine == cpos.line) = true := by rfl) :
    SJ Z X (.Assign [.Name x pp] (.Call (.Attribute (.Name y px) "pop" apos) [] [] cpos) pos) (wPop i j) := by
  refine ⟨_, ps_set hN hi hx (pe_bm0 PySem.F.plainAttrs_list PySem.F.slot_list_pop PySem.F.type_list_pop mt_pop (pe_var hNy hy hd hcd) hbase hline) hs hf, fun F M σ H ds k E r ⟨xs, d, hj, hl, z⟩ o => ?_⟩
  obtain ⟨p, vs, h1, h2, l⟩ := r.own hj
  obtain ⟨v, e, rv⟩ := l.get hl
  obtain ⟨r2, kp⟩ := r.mutL hj h1 l.dropLast
  rw [← l.len] at e
  exact ⟨.ref p, h1, .inl ⟨rfl, _, .of h2⟩, p, vs, v, rfl, rfl, h2, e, o.nx _ _ _ _ (r2.setD (rv.le kp.le)) kp z⟩
/-- x.append(y.pop(e)) -/
@[simp] def wAppPop (i j : Nat) (A : TW) : TWS := fun k ds => ∃ xs ys, i ≠ j ∧ ds.s[i]? = some (.l xs) ∧ ds.s[j]? = some (.l ys) ∧ A ds fun y => ∃ (n : Nat) (d : D), y = .int n ∧ n < 100000 ∧ ys[n]? = some d ∧ xs.length < 100000 ∧ k.nx ((ds.set j (.l (ys.eraseIdx n))).set i (.l (xs ++ [d])))
theorem RL.erase {C : Addr} : ∀ (n : Nat) {vs : List V} {xs : List D}, RL K C H vs xs → RL K C H (vs.eraseIdx n) (xs.eraseIdx n)
  | _, _, [], h => by cases h; exact .nil
  | 0, _, _ :: _, h => by cases h with | cons a b => exact b
  | n + 1, _, _ :: _, h => by cases h with | cons a b => exact .cons a (RL.erase n b)
theorem sj_apppop {apos2 cpos2 py : Pos} (hNx : X.N[i]? = some x) (hvx : Vis X.env.scope x) (hNy : X.N[j]? = some y) (hvy : Vis X.env.scope y) (he : EJ Z .r X e A) (hdx : (x == ("__debug__" : Str)) = false := by decide) (hcdx : (x == ("__classdict__" : Str)) = false := by decide) (hdy : (y == ("__debug__" : Str)) = false := by decide) (hcdy : (y == ("__classdict__" : Str)) = false := by decide)
    (hs0 : swapsWith (.Call (.Attribute (.Name x px) "append" apos) [.Call (.Attribute (.Name y py) "pop" apos2) [e] [] cpos2] [] cpos) none pos.line X.env = pure false := by rfl)
    (hbase : attributeBase (.Name x px) "append" X.env (eval (.Name x px) X.env) = eval (.Name x px) X.env := by rfl)
    (hfew : ((backTo cpos (starEach [.Call (.Attribute (.Name y py) "pop" apos2) [e] [] cpos2] X.env)).all (fun x => !x.1) && (backToKw cpos (keywordEach [] X.env)).all (fun x => x.1.isSome)
      && decide ([Expr.Call (.Attribute (.Name y py) "pop" apos2) [e] [] cpos2].length + ([] : List Keyword).length + (if ([] : List Keyword).isEmpty then 0 else 1) < 30)) = true := by rfl)
    (hline : (apos.endLine == cpos.line) = true := by rfl)
    (hbase2 : attributeBase (.Name y py) "pop" X.env (eval (.Name y py) X.env) = eval (.Name y py) X.env := by rfl)
    (hfew2 : ((backTo cpos2 (starEach [e] X.env)).all (fun x => !x.1) && (backToKw cpos2 (keywordEach [] X.env)).all (fun x => x.1.isSome)
      && decide ([e].length + ([] : List Keyword).length + (if ([] : List Keyword).isEmpty then 0 else 1) < 30)) = true := by rfl)
    (hline2 : (apos2.endLine == cpos2.line) = true := by rfl) (hs : starEach [e] X.env = (false, eval e X.env) :: starEach [] X.env := by rfl) :
    SJ Z X (.Expr (.Call (.Attribute (.Name x px) "append" apos) [.Call (.Attribute (.Name y py) "pop" apos2) [e] [] cpos2] [] cpos) pos) (wAppPop i j A) := by
  obtain ⟨t, pe, g⟩ := he.ex
  refine ⟨_, ps_expr (pe_bm PySem.F.plainAttrs_list PySem.F.slot_list_append PySem.F.type_list_append mt_append (pe_var hNx hvx hdx hcdx) (pa_cons (pe_bm PySem.F.plainAttrs_list PySem.F.slot_list_pop PySem.F.type_list_pop mt_popAt (pe_var hNy hvy hdy hcdy) (pa_cons pe pa_nil hs) hbase2 hfew2 hline2 hs rfl) pa_nil rfl) hbase hfew hline rfl rfl) hs0, fun F M σ H ds k E r ⟨xs, ys, hij, hi, hj, w⟩ o => ?_⟩
  obtain ⟨p, vs, h1, h2, l⟩ := r.own hi
  obtain ⟨p2, vs2, g1, g2, l2⟩ := r.own hj
  refine ⟨.ref p, h1, .inl ⟨rfl, _, .of h2⟩, .ref p2, g1, .inl ⟨rfl, _, .of g2⟩, g F M σ H ds _ _ r w fun v H1 d x1 s ⟨n, d', e1, hn, hy, hlx, z⟩ => ?_⟩
  subst e1
  cases RT.int s
  obtain ⟨p', vs', h1', h2', l'⟩ := (r.ext x1).own hj
  rw [g1] at h1'; cases h1'
  obtain ⟨u, e2, ru⟩ := l'.get hy
  have hb := (List.getElem?_eq_some_iff.mp e2).1
  obtain ⟨r2, kp⟩ := (r.ext x1).mutL hj g1 (RL.erase n l')
  have hi2 : (ds.set j (.l (ys.eraseIdx n))).s[i]? = some (.l xs) := by
    rw [show (ds.set j (.l (ys.eraseIdx n))).s = ds.s.set j (.l (ys.eraseIdx n)) from rfl, List.getElem?_set_ne (Ne.symm hij)]; exact hi
  obtain ⟨p3, vs3, f1, f2, l3⟩ := r2.own hi2
  rw [h1] at f1; cases f1
  obtain ⟨r3, kp3⟩ := r2.mutL hi2 h1 (l3.app (.one (ru.le kp.le)))
  refine ⟨p2, vs', (n : Int), n, u, rfl, rfl, h2', by omega, by omega, ?_, e2, p, vs3, u, rfl, rfl, f2, by rw [l3.len, sizeLine_eq]; omega, o.nx _ _ _ _ r3 (((Keep.ext r x1).trans kp).trans kp3) z⟩
  rw [seqIndex_of (by omega) (by omega), Int.toNat_natCast]
end
/-- x op= e, ints -/
@[simp] def wAug (c : Int → Int → Prop) (g : Int → Int → Int) (i : Nat) (A : TW) : TWS := fun k ds => ∃ n, ds.s[i]? = some (.d (.int n)) ∧ A ds fun y => ∃ l, y = .int l ∧ c n l ∧ k.nx (ds.set i (.d (.int (g n l))))
theorem sj_aug {c : Int → Int → Prop} {g : Int → Int → Int} {op : Operator} {pos' : Pos} (hN : X.N.Nodup) (hi : X.N[i]? = some x) (hx : Loc X.env.scope x) (he : EJ Z .r X e A) (ho : PIp X op (rI c fun i j => .int (g i j)))
    (hf : X.fn x = true ∨ X.env.scope.names.lookup x = some .local := by first | exact .inl rfl | exact .inr rfl | assumption) : SJ Z X (.AugAssign (.Name x pos') op e pos) (wAug c g i A) := by
  obtain ⟨t, pe, gg⟩ := he.ex
  refine ⟨_, ps_aug hN hi hx pe ho hf, fun F M σ H ds k E r ⟨n, hs, w⟩ o => ?_⟩
  obtain ⟨v, h1, h2⟩ := r.sl i _ hs
  cases h2
  refine ⟨.int n, h1, gg F M σ H ds _ _ r w fun u H1 y x1 s ⟨l, e, hc, z⟩ => ?_⟩
  subst e
  cases RT.int s
  exact ⟨n, l, rfl, rfl, hc, o.nx _ _ _ _ ((r.ext x1).setD (.int _)) (.ext r x1) z⟩
theorem ip_mulC : PIp X .Mult (rI CMul fun i j => .int (i * j)) := iop_mul
theorem ip_addC : PIp X .Add (rI (fun _ _ => True) fun i j => .int (i + j)) := fun pins s σ H x y v u Q I r1 r2 ⟨i, j, e1, e2, _, q⟩ => ip_add pins s σ H x y v u Q I r1 r2 ⟨i, j, e1, e2, q⟩
/-! ### several targets -/
@[simp] def DS.app (ds : DS) (cs : List SC) : DS := { ds with s := ds.s ++ cs }
theorem Rep.pre {τ : L2.St} {cs : List SC} (r : Rep Z K F M (σ ++ τ) H (ds.app cs)) (hl : ds.s.length = σ.length) : Rep Z K F M σ H ds where
  sl := fun i c e => by
    have hi := (List.getElem?_eq_some_iff.mp e).1
    have := r.sl i c (by rw [show (ds.app cs).s = ds.s ++ cs from rfl, List.getElem?_append_left hi]; exact e)
    rw [List.getElem?_append_left (by rw [← hl]; exact hi)] at this
    exact this
  dj := fun i j c e h1 h2 o1 o2 hij => by
    have hi := (List.getElem?_eq_some_iff.mp h1).1
    have hj := (List.getElem?_eq_some_iff.mp h2).1
    have := r.dj i j c e (by rw [show (ds.app cs).s = ds.s ++ cs from rfl, List.getElem?_append_left hi]; exact h1) (by rw [show (ds.app cs).s = ds.s ++ cs from rfl, List.getElem?_append_left hj]; exact h2) o1 o2 hij
    rw [List.getElem?_append_left (by rw [← hl]; exact hi), List.getElem?_append_left (by rw [← hl]; exact hj)] at this
    exact this
  mo := r.mo
  bm := r.bm
  sn := r.sn
  dm := r.dm
  m0 := r.m0
  nl := r.nl
  fl := r.fl
  xs := r.xs
  b0 := r.b0
  ln := hl
/-- one more thing is held -/
theorem Rep.push (r : Rep Z K F M σ H ds) {c : SC} {o : Option V} (hs : Sl Z K F M H c (some o)) (hn : c.own = true → ∀ (i : Nat) (e : SC), ds.s[i]? = some e → e.own = true → σ[i]? ≠ some o) : Rep Z K F M (σ ++ [o]) H (ds.app [c]) where
  sl := fun i e h => by
    rw [show (ds.app [c]).s = ds.s ++ [c] from rfl] at h
    by_cases hi : i < ds.s.length
    · rw [List.getElem?_append_left hi] at h
      rw [List.getElem?_append_left (by rw [← r.ln]; exact hi)]
      exact r.sl i e h
    · rw [List.getElem?_append_right (by omega)] at h
      rw [List.getElem?_append_right (by rw [← r.ln]; omega)]
      have : i - ds.s.length = 0 := by
        have := (List.getElem?_eq_some_iff.mp h).1
        simp at this; omega
      rw [this] at h
      rw [← r.ln, this]
      simp at h; subst h
      exact hs
  dj := fun i j e f h1 h2 o1 o2 hij => by
    rw [show (ds.app [c]).s = ds.s ++ [c] from rfl] at h1 h2
    have at_end : ∀ k g, ¬ k < ds.s.length → (ds.s ++ [c])[k]? = some g → k = ds.s.length ∧ g = c := fun k g hk h => by
      rw [List.getElem?_append_right (by omega)] at h
      have h' := (List.getElem?_eq_some_iff.mp h).1
      have : k - ds.s.length = 0 := by simp at h'; omega
      rw [this] at h; simp at h
      exact ⟨by omega, h.symm⟩
    by_cases hi : i < ds.s.length
    · rw [List.getElem?_append_left hi] at h1
      rw [List.getElem?_append_left (by rw [← r.ln]; exact hi)]
      by_cases hj : j < ds.s.length
      · rw [List.getElem?_append_left hj] at h2
        rw [List.getElem?_append_left (by rw [← r.ln]; exact hj)]
        exact r.dj i j e f h1 h2 o1 o2 hij
      · obtain ⟨e1, e2⟩ := at_end j f hj h2
        subst e1 e2
        rw [List.getElem?_append_right (by rw [r.ln]; exact Nat.le_refl _), r.ln, Nat.sub_self]
        exact hn o2 i e h1 o1
    · obtain ⟨e1, e2⟩ := at_end i e hi h1
      subst e1 e2
      by_cases hj : j < ds.s.length
      · rw [List.getElem?_append_left hj] at h2
        have a1 : (σ ++ [o])[ds.s.length]? = some o := by rw [List.getElem?_append_right (by rw [r.ln]; exact Nat.le_refl _), r.ln, Nat.sub_self]; rfl
        have a2 : (σ ++ [o])[j]? = σ[j]? := List.getElem?_append_left (by rw [← r.ln]; exact hj)
        rw [a1, a2]
        exact (hn o1 j f h2 o2).symm
      · exact absurd (at_end j f hj h2).1.symm hij
  mo := r.mo
  bm := r.bm
  sn := r.sn
  dm := r.dm
  m0 := r.m0
  nl := r.nl
  fl := r.fl
  xs := r.xs
  b0 := r.b0
  ln := by simp [DS.app, r.ln]
/-- the thing that is held goes to a slot -/
theorem Rep.take1 {τ : L2.St} {cs : List SC} {c : SC} {o : Option V} (r : Rep Z K F M (σ ++ o :: τ) H (ds.app (c :: cs))) (hl : ds.s.length = σ.length) : Rep Z K F M (σ.set i o ++ τ) H ((ds.set i c).app cs) := by
  -- where each slot comes from
  have src : ∀ (k : Nat) (e : SC), ((ds.set i c).app cs).s[k]? = some e → ∃ k', (ds.app (c :: cs)).s[k']? = some e ∧ (σ.set i o ++ τ)[k]? = (σ ++ o :: τ)[k']? ∧ k' = (if k < σ.length then (if k = i then σ.length else k) else k + 1) := fun k e h => by
    rw [show ((ds.set i c).app cs).s = ds.s.set i c ++ cs from rfl] at h
    rw [show (ds.app (c :: cs)).s = ds.s ++ c :: cs from rfl]
    refine ⟨_, ?_, ?_, rfl⟩
    · by_cases hk : k < σ.length
      · rw [if_pos hk]
        rw [List.getElem?_append_left (by simp [hl, hk])] at h
        by_cases hki : k = i
        · subst hki
          rw [List.getElem?_set_self (by rw [hl]; exact hk)] at h
          rw [if_pos rfl, List.getElem?_append_right (by rw [hl]; exact Nat.le_refl _), hl, Nat.sub_self]
          simpa using h
        · rw [List.getElem?_set_ne (Ne.symm hki)] at h
          rw [if_neg hki, List.getElem?_append_left (by rw [hl]; exact hk)]
          exact h
      · rw [if_neg hk]
        rw [List.getElem?_append_right (by simp [hl]; omega)] at h
        rw [List.getElem?_append_right (by rw [hl]; omega)]
        simp only [List.length_set] at h
        rw [show k + 1 - ds.s.length = (k - ds.s.length) + 1 by omega]
        simpa using h
    · by_cases hk : k < σ.length
      · rw [if_pos hk, List.getElem?_append_left (by simp [hk])]
        by_cases hki : k = i
        · subst hki
          rw [List.getElem?_set_self hk, if_pos rfl, List.getElem?_append_right (Nat.le_refl _), Nat.sub_self]
          rfl
        · rw [List.getElem?_set_ne (Ne.symm hki), if_neg hki, List.getElem?_append_left hk]
      · rw [if_neg hk, List.getElem?_append_right (by simp; omega), List.getElem?_append_right (by omega), List.length_set, show k + 1 - σ.length = (k - σ.length) + 1 by omega]
        rfl
  refine ⟨fun k e h => ?_, fun k l e f h1 h2 o1 o2 hkl => ?_, r.mo, r.bm, r.sn, r.dm, r.m0, r.nl, r.fl, r.xs, r.b0, ?_⟩
  · obtain ⟨k', g1, g2, _⟩ := src k e h
    rw [g2]
    exact r.sl k' e g1
  · obtain ⟨k', g1, g2, e1⟩ := src k e h1
    obtain ⟨l', g3, g4, e2⟩ := src l f h2
    rw [g2, g4]
    refine r.dj k' l' e f g1 g3 o1 o2 fun q => hkl ?_
    rw [e1, e2] at q
    split at q <;> split at q <;> (try split at q) <;> (try split at q) <;> omega
  · have := r.ln
    simp only [DS.app, DS.set, List.length_append, List.length_cons, List.length_set] at this ⊢
    omega
/-- several things, some of one's own; pre: what is held already -/
abbrev TWM := DS → (List SC → Prop) → Prop
structure MJ (Z : ZZ) (X : Cx) (es : List Expr) (W : TWM) : Prop where
  ex : ∃ t, PA X es t ∧ ∀ F M σ H ds (τ : L2.St) (pc : List SC) (q : List SC → Prop) (Q : List V → Hp → Prop), ds.s.length = σ.length → Rep Z X.K F M (σ ++ τ) H (ds.app pc) → W ds q →
    (∀ vs H' cs M', Rep Z X.K F M' (σ ++ (τ ++ vs.map some)) H' (ds.app (pc ++ cs)) → Keep M H M' H' → vs.length = cs.length → q cs → Q vs H') → t σ H Q
@[simp] def wMnil : TWM := fun _ q => q []
@[simp] def wMd (A : TW) (B : TWM) : TWM := fun ds q => A ds fun x => B ds fun cs => q (.d x :: cs)
@[simp] def wMo (A : TW) (B : TWM) : TWM := fun ds q => A ds fun x => B ds fun cs => ∃ c, SC.of x = some c ∧ q (c :: cs)
theorem mj_nil : MJ Z X [] wMnil := ⟨_, pa_nil, fun F M σ H ds τ pc q Q hl r w k => k [] H [] M (by simpa using r) (.refl M H) rfl w⟩
theorem DS.app_app (ds : DS) (a b : List SC) : (ds.app a).app b = ds.app (a ++ b) := by simp [DS.app]
theorem mj_d {B : TWM} (ha : EJ Z .d X e A) (hb : MJ Z X es B) (hs : starEach (e :: es) X.env = (false, eval e X.env) :: starEach es X.env := by rfl) : MJ Z X (e :: es) (wMd A B) := by
  obtain ⟨ta, pa, ga⟩ := ha.ex
  obtain ⟨tb, pb, gb⟩ := hb.ex
  refine ⟨_, pa_cons pa pb hs, fun F M σ H ds τ pc q Q hl r w k => ga F M σ H ds _ _ (r.pre hl) w fun v H1 d x1 s1 w1 => ?_⟩
  have r1 := (r.ext x1).push (c := .d d) (o := some v) ⟨v, rfl, s1⟩ (fun z => nomatch z)
  rw [DS.app_app, List.append_assoc] at r1
  refine gb F M σ H1 ds _ _ _ _ hl r1 w1 fun vs H2 cs M' r2 kp hc z => k (v :: vs) H2 (.d d :: cs) M' ?_ ((Keep.ext r x1).trans kp) (by simp [hc]) z
  simpa using r2
theorem mj_o {B : TWM} (ha : EJ Z .o X e A) (hb : MJ Z X es B) (hs : starEach (e :: es) X.env = (false, eval e X.env) :: starEach es X.env := by rfl) : MJ Z X (e :: es) (wMo A B) := by
  obtain ⟨ta, pa, ga⟩ := ha.ex
  obtain ⟨tb, pb, gb⟩ := hb.ex
  refine ⟨_, pa_cons pa pb hs, fun F M σ H ds τ pc q Q hl r w k => ga F M σ H ds _ _ (r.pre hl) w fun v H1 d x1 s1 w1 => ?_⟩
  obtain ⟨p, c, rfl, hc, r', kp, sl, hn⟩ := RO.grow r x1 s1
  have r1 := r'.push sl (fun _ i e h1 h2 => own_ne r hn i e h1 h2)
  rw [DS.app_app, List.append_assoc] at r1
  refine gb F _ σ H1 ds _ _ _ _ hl r1 w1 fun vs H2 cs M' r2 kp2 hl2 ⟨c', hc', z⟩ => ?_
  rw [hc] at hc'; cases hc'
  exact k (.ref p :: vs) H2 (c :: cs) M' (by simpa using r2) (kp.trans kp2) (by simp [hl2]) z
@[simp] def DS.sets (ds : DS) : List Nat → List SC → DS
  | i :: is, c :: cs => (ds.set i c).sets is cs
  | _, _ => ds
def setsS (σ : L2.St) : List Nat → List V → L2.St
  | i :: is, v :: vs => setsS (σ.set i (some v)) is vs
  | _, _ => σ
theorem Rep.takes : ∀ (is : List Nat) (vs : List V) (cs : List SC) (σ : L2.St) (ds : DS), is.length = vs.length → vs.length = cs.length → ds.s.length = σ.length → Rep Z K F M (σ ++ vs.map some) H (ds.app cs) → Rep Z K F M (setsS σ is vs) H (ds.sets is cs)
  | [], [], [], σ, ds, _, _, hl, r => r.pre hl
  | i :: is, v :: vs, c :: cs, σ, ds, h1, h2, hl, r => Rep.takes is vs cs _ _ (by simpa using h1) (by simpa using h2) (by simp [DS.set, hl]) (r.take1 hl)
  | [], _ :: _, _, _, _, h, _, _, _ => by simp at h
  | _ :: _, [], _, _, _, h, _, _, _ => by simp at h
  | _, [], _ :: _, _, _, _, h, _, _ => by simp at h
  | _, _ :: _, [], _, _, _, h, _, _ => by simp at h
theorem Rep.app0 (r : Rep Z K F M σ H ds) : Rep Z K F M (σ ++ []) H (ds.app []) := by
  rw [List.append_nil]
  have : ds.app [] = ds := by simp [DS.app]
  rw [this]; exact r
@[simp] def wPar (is : List Nat) (A : TWM) : TWS := fun k ds => A ds fun cs => cs.length = is.length ∧ k.nx (ds.sets is cs)
theorem sj_par2 {W : TWM} {a b : Expr} {px py pt : Pos} {kt k2 pt2} (hc : X.calm = true) (hN : X.N.Nodup) (hi : X.N[i]? = some x) (hj : X.N[j]? = some y) (hij : i ≠ j)
    (hx : X.env.scope.names.lookup x = some .local) (hy : X.env.scope.names.lookup y = some .local) (ha : MJ Z X [a, b] W)
    (hw : swappedStores [.Tuple [.Name x px, .Name y py] kt pt] (.Tuple [a, b] k2 pt2) X.env = pure (some [x, y]))
    (hs : swapsWithSole [.Tuple [.Name x px, .Name y py] kt pt] (.Tuple [a, b] k2 pt2) pos.line X.env = pure false := by rfl) :
    SJ Z X (.Assign [.Tuple [.Name x px, .Name y py] kt pt] (.Tuple [a, b] k2 pt2) pos) (wPar [i, j] W) := by
  obtain ⟨t, p, g⟩ := ha.ex
  refine ⟨_, ps_par hc hN hi hj hij hx hy p hw hs, fun F M σ H ds k E r w o => g F M σ H ds [] [] _ _ r.ln r.app0 w fun vs H1 cs M' r1 kp hl ⟨hl2, z⟩ => ?_⟩
  obtain ⟨v1, v2, rfl⟩ : ∃ v1 v2, vs = [v1, v2] := by
    rw [hl2] at hl
    match vs, hl with
    | [v1, v2], _ => exact ⟨v1, v2, rfl⟩
  exact ⟨v1, v2, rfl, o.nx _ _ _ _ (Rep.takes [i, j] [v1, v2] cs σ ds rfl hl r.ln (by simpa using r1)) kp z⟩
theorem sj_par3 {W : TWM} {l : Nat} {z : Str} {a b c : Expr} {px py pz pt : Pos} {kt k2 pt2} (hc : X.calm = true) (hN : X.N.Nodup) (hi : X.N[i]? = some x) (hj : X.N[j]? = some y) (hl : X.N[l]? = some z) (hij : i ≠ j) (hil : i ≠ l) (hjl : j ≠ l)
    (hx : X.env.scope.names.lookup x = some .local) (hy : X.env.scope.names.lookup y = some .local) (hz : X.env.scope.names.lookup z = some .local) (ha : MJ Z X [a, b, c] W)
    (hw : swappedStores [.Tuple [.Name x px, .Name y py, .Name z pz] kt pt] (.Tuple [a, b, c] k2 pt2) X.env = pure (some [x, y, z]))
    (hs : swapsWithSole [.Tuple [.Name x px, .Name y py, .Name z pz] kt pt] (.Tuple [a, b, c] k2 pt2) pos.line X.env = pure false := by rfl) :
    SJ Z X (.Assign [.Tuple [.Name x px, .Name y py, .Name z pz] kt pt] (.Tuple [a, b, c] k2 pt2) pos) (wPar [i, j, l] W) := by
  obtain ⟨t, p, g⟩ := ha.ex
  refine ⟨_, ps_par3 hc hN hi hj hl hij hil hjl hx hy hz p hw hs, fun F M σ H ds k E r w o => g F M σ H ds [] [] _ _ r.ln r.app0 w fun vs H1 cs M' r1 kp hl ⟨hl2, z⟩ => ?_⟩
  obtain ⟨v1, v2, v3, rfl⟩ : ∃ v1 v2 v3, vs = [v1, v2, v3] := by
    rw [hl2] at hl
    match vs, hl with
    | [v1, v2, v3], _ => exact ⟨v1, v2, v3, rfl⟩
  exact ⟨v1, v2, v3, rfl, o.nx _ _ _ _ (Rep.takes [i, j, l] [v1, v2, v3] cs σ ds rfl hl r.ln (by simpa using r1)) kp z⟩
def gNs : List Nat → TGs
  | [] => gNil
  | i :: is => gCons (gName i) (gNs is)
theorem gNs_run : ∀ (is : List Nat) (vs : List V) (σ : L2.St) (H : Hp) (Q : L2.St → Hp → Prop), is.length = vs.length → Q (setsS σ is vs) H → gNs is vs σ H Q
  | [], [], σ, H, Q, _, q => ⟨rfl, q⟩
  | i :: is, v :: vs, σ, H, Q, h, q => ⟨v, vs, rfl, gNs_run is vs _ H Q (by simpa using h) q⟩
  | [], _ :: _, _, _, _, h, _ => by simp at h
  | _ :: _, [], _, _, _, h, _ => by simp at h
/-- a, b, c, d = e1, e2, e3, e4: a tuple is made and taken apart -/
theorem sj_parT {W : TWM} {is : List Nat} {ts : List Expr} {kt k2 : Nat} {pt pt2 : Pos} (hc : X.calm = true) (hg : PGs X ts (gNs is)) (ha : MJ Z X es W) (hn1 : is.length ≤ 10)
    (hn : (assignEach ts X.env).length = is.length := by rfl) (hst : (assignEach ts X.env).findIdx? (·.1) = none := by rfl)
    (hs : swapsWithSole [.Tuple ts kt pt] (.Tuple es k2 pt2) pos.line X.env = pure false := by rfl) (hw : swappedStores [.Tuple ts kt pt] (.Tuple es k2 pt2) X.env = pure none := by rfl)
    (h1 : (assignEach [.Tuple ts kt pt] X.env).map (·.2) = [assign (.Tuple ts kt pt) X.env] := by rfl) :
    SJ Z X (.Assign [.Tuple ts kt pt] (.Tuple es k2 pt2) pos) (wPar is W) := by
  obtain ⟨t, p, g⟩ := ha.ex
  refine ⟨_, ps_asg (pe_tup p) (pg_tup hc hg hn hst) hs hw h1, fun F M σ H ds k E r w o => g F M σ H ds [] [] _ _ r.ln r.app0 w fun vs H1 cs M' r1 kp hl ⟨hl2, z⟩ => ⟨by rw [sizeLine_eq]; omega, fun p hp => ?_⟩⟩
  have x2 : Ext F H1 (upd H1 p (.tup vs)) := .newT hp vs
  refine ⟨p, vs, rfl, .of upd_same, by omega, gNs_run is vs σ _ _ (by omega) ?_⟩
  refine o.nx _ _ _ _ (Rep.takes is vs cs σ ds (by omega) hl r.ln ?_) (kp.trans (Keep.ext r1 x2)) z
  have := r1.ext x2
  simpa using this
/-- targets taken from a list or tuple that is data: a, b = f(..) -/
@[simp] def wAsg (A : TW) (G : TWG) : TWS := fun k ds => A ds fun x => G x ds k.nx
theorem sj_asg {tg : Expr} {is : List Nat} {G : TWG} (he : EJ Z .d X e A) (hg : GJ Z X tg is G) (hs : swapsWithSole [tg] e pos.line X.env = pure false := by rfl) (hw : swappedStores [tg] e X.env = pure none := by rfl)
    (h1 : (assignEach [tg] X.env).map (·.2) = [assign tg X.env] := by rfl) : SJ Z X (.Assign [tg] e pos) (wAsg A G) := by
  obtain ⟨t, p, g⟩ := he.ex
  obtain ⟨tg, pg, gg⟩ := hg.ex
  exact ⟨_, ps_asg p pg hs hw h1, fun F M σ H ds k E r w o => g F M σ H ds _ _ r w fun v H1 d x1 s w1 => gg F M σ H1 ds v d _ _ (r.ext x1) s w1 fun σ' ds' r' _ _ z => o.nx _ _ _ _ r' (.ext r x1) z⟩
end
end G78
namespace G78
open PySem PySem.W PySem.Calls PyProof.Rows PySem.HandSPX
/-! ### an own exception class whose __init__ says super().__init__(msg); self.word = word -/
def xA (p1 p2 : Pos) : Arguments := { posonlyargs := [], args := [{ arg := "self", annotation := none, pos := p1 }, { arg := "word", annotation := none, pos := p2 }], vararg := none, kwonlyargs := [], kw_defaults := [], kwarg := none, defaults := [] }
def xB (msg : Str) (q1 q2 q3 q4 q5 q6 q7 q8 q9 q10 : Pos) (j : Nat) : List Stmt :=
  [.Expr (.Call (.Attribute (.Call (.Name "super" q1) [] [] q2) "__init__" q3) [.Constant (.str msg) j q4] [] q5) q6,
   .Assign [.Attribute (.Name "self" q7) "word" q8] (.Name "word" q9) q10]
def xS : Scope := { kind := .function, names := [(PySem.Str.ofString "self", .local), (PySem.Str.ofString "word", .local), (PySem.Str.ofString "__class__", .free), (PySem.Str.ofString "super", .globalImplicit)], isGenerator := false, isCoroutine := false, more := [] }
theorem super_call {q : Str} {L a cc : Addr} {cd : Value} {q1 q2 q3 q4 q5 : Pos} {msg : Str} {j : Nat} (hl : (q3.endLine == q5.line) = true) :
    eval (.Call (.Attribute (.Call (.Name "super" q1) [] [] q2) "__init__" q3) [.Constant (.str msg) j q4] [] q5) (ksEnv q xS L a cd cc) = (do
      let ov ← attributeBase (.Call (.Name "super" q1) [] [] q2) "__init__" (ksEnv q xS L a cd cc) (eval (.Call (.Name "super" q1) [] [] q2) (ksEnv q xS L a cd cc))
      standAt q3.atName
      let (f, first) ← holding [ov] (getMethod ov "__init__" (L2.plainOf (.Call (.Name "super" q1) [] [] q2) (ksEnv q xS L a cd cc)))
      callWith q5 f first (backTo q5 (starEach [.Constant (.str msg) j q4] (ksEnv q xS L a cd cc))) []) := by
  rw [arm_eval_Call]
  refine congrArg (_ >>= ·) (funext fun ov => congrArg (_ >>= ·) (funext fun _ => ?_))
  exact L2.mcall_line rfl hl
structure XTxt (P : Program) (K : Frag) (mg : Str → Option Value) (cn : Str) (C fI cc ca : Addr) : Prop where
  gC : mg cn = some (.ref C)
  gS : mg "super" = none
  cls : ∃ nm q N bs bm sn sub ab col dd k0 k1 k2 k3 k5, K.lookup C = some (excClassObj nm q C N bs bm true sn sub ab col dd k0 k1 k2 k3 k5 "ValueError.__new__") ∧ refsVE bm = true ∧
    alongIn K "__init__" (((Value.ref C :: bm).dropWhile (· != .ref C)).drop 1) = some (some (.builtin "ValueError.__init__"))
  sa : findIn K (.ref C) "__setattr__" = some (some (.builtin "object.__setattr__"))
  ga : findIn K (.ref C) "__getattribute__" = some (some (.builtin "BaseException.__getattribute__"))
  gg : findIn K (.ref C) "__getattr__" = some none
  noN : findIn K (.ref C) "word" = some none
  iC : findIn K (.ref C) "__init__" = some (some (.ref fI))
  tC : typeIn K (.ref fI) = some (.type "function")
  kC : keepIn K (.ref C) = true
  exC : subIn K (.ref C) (.type "BaseException") = some true
  exV : subIn K (.ref C) (.type "ValueError") = some true
  tyC : typeIn K (.ref C) = some (.type "type")
  hdC : hasDictIn K C = true
  own : mroIn K C (.ref C) = some true
  opq : nsIn K cStatics "thirdparty.any" = some none
  cell : ∃ cl cld csl, K.lookup cc = some ⟨cl, cld, .cell (some (.ref C)), csl⟩
  code : ∃ ccl cdd vs ccs file tf, K.lookup ca = some ⟨ccl, cdd, .fields vs, ccs⟩ ∧ vs[2]? = some (.str file tf) ∧ ((P.main.file : Str) == file) = true
  fn : ∃ (qual msg : Str) (oc : Value) (od : Option Addr) (doc pm : Value) (an : Option Addr) (ct : Value) (osl : Array (Option Value)) (p1 p2 q1 q2 q3 q4 q5 q6 q7 q8 q9 q10 : Pos) (j : Nat),
    K.lookup fI = some ⟨oc, od, .func (ksFn "__init__" qual (xA p1 p2) (xB msg q1 q2 q3 q4 q5 q6 q7 q8 q9 q10 j) xS .none .none doc pm an (.ref ca) ct cc), osl⟩ ∧ codeIn K (.ref ca) qual = true ∧ (q3.endLine == q5.line) = true
  top : (P.main.scope.names.lookup ("super" : Str)).isSome = false
theorem ldX {M : Model} {A : Around} {E : Value → Shared → Prop} {s : Shared} {q : Str} {L a cc : Addr} {cd : Value} {m : Str → Option Value} {x : Str} {pos : Pos} {v : Value} {Q : Value → Shared → Prop} (hn : s.heap.Ns L m) (hv : m x = some v) (h : Q v s)
    (hl : (ksEnv q xS L a cd cc).kindOf x = some .local := by rfl) (hd : (x == ("__debug__" : Str)) = false := by decide) :
    wpAny M A (eval (.Name x pos) (ksEnv q xS L a cd cc)) Q E s := wpAny_Name (wpAny_loadName_local (env := ksEnv q xS L a cd cc) rfl hl hn hv h) hd
theorem x_loc (u v : Value) : ∀ y ∈ ([("self", u), ("word", v)] : List (Str × Value)), xS.names.lookup y.1 = some .local := fun y hy => by
  rcases List.mem_cons.mp hy with rfl | hy
  · rfl
  · rw [List.mem_singleton.mp hy]
    rfl
structure XEnd (h h' : Heap) (x C dx t1 : Addr) (v : Value) : Prop where
  keep : ∀ b o, b ≠ x → h.get? b = some o → h'.get? b = some o
  obj : h'.get? x = some { cls := .ref C, dict := some dx, data := .fields #[.ref t1, .none, .none, .none, .bool false, .none] }
  dbig : h.objs.size ≤ dx
  dne : dx ≠ x
  ns : h'.Ns1 dx (fun y => if y = "word" then some v else none)
section
variable {prog : Program} {w : World} {A : Around} {E : Value → Shared → Prop} {R : Result → Shared → Prop} {s : Shared} {K : Frag} {mg mb : Str → Option Value} {cn : Str} {C fI cc ca : Addr}
set_option maxHeartbeats 8000000 in
theorem x_init (T : XTxt prog K mg cn C fI cc ca) {x t0 : Addr} {v : Value} (X : K.In s.heap) (hlim : s.heap.NoLimit) (nsM : s.heap.Ns mainGlobals mg) (nsB : s.heap.Ns builtinsNs mb) (eqB : ∀ y : Str, y ≠ "__name__" → mb y = bootBuiltins y)
    (hx : s.heap.get? x = some (excO C t0)) (hnx : K.lookup x = none) (hroom : A.depth < recursionLimit)
    (hq : ∀ h' tk dx t1, XEnd s.heap h' x C dx t1 v → R (.ok (.ret .none)) { s with heap := h', toks := tk }) :
    codeAny (model prog w) A (.call (.ref fI) ⟨[.ref x, v], []⟩) R s := by
  obtain ⟨qual, msg, oc, od, doc, pm, an, ct, osl, p1, p2, q1, q2, q3, q4, q5, q6, q7, q8, q9, q10, j, ho, hcd, hln⟩ := T.fn
  obtain ⟨nm, q, N, bs, bm, sn, sub, ab, col, dd, k0, k1, k2, k3, k5, hC, hbm, hal⟩ := T.cls
  obtain ⟨cl, cld, csl, hcell⟩ := T.cell
  obtain ⟨ccl, cdd, vs, ccs, file, tf, hcode, hvs, hfile⟩ := T.code
  have hcl : clsIn K C = some { name := nm, bases := bs, mro := .ref C :: bm, ns := N, qualname := q, hasDict := true, slotNames := sn, subclasses := sub, abstract := ab, collection := col, hasDel := false } := by
    unfold clsIn
    rw [hC]
  refine ks_codeAny_call_defAt (binds := [("self", .ref x), ("word", v)]) hroom (X _ _ ho) rfl hlim (codeRec_of X hcd) rfl (BindsTo.of_eq (by first | rfl | with_unfolding_all rfl)) (show ∀ y ∈ xS.names, y.2 ≠ .cell by decide) (x_loc (.ref x) v) (fun h₁ hns k₁ => ?_) rfl rfl rfl
  have X₁ : K.In h₁ := X.keeps k₁
  have hx₁ := k₁ _ _ hx
  have lt₁ : s.heap.objs.size < h₁.objs.size := hns.lt
  have vx : (List.lookup ("self" : Str) ([("self", Value.ref x), ("word", v)] : List (Str × Value)).reverse) = some (.ref x) := by first | rfl | with_unfolding_all rfl
  have vw : (List.lookup ("word" : Str) ([("self", Value.ref x), ("word", v)] : List (Str × Value)).reverse) = some v := by first | rfl | with_unfolding_all rfl
  show PySem.wpAt (model prog w) (A.deeper (ksEnv qual xS s.heap.objs.size fI (.ref ca) cc)) (.func (xB msg q1 q2 q3 q4 q5 q6 q7 q8 q9 q10 j) (ksEnv qual xS s.heap.objs.size fI (.ref ca) cc)) (execs (xB msg q1 q2 q3 q4 q5 q6 q7 q8 q9 q10 j) (ksEnv qual xS s.heap.objs.size fI (.ref ca) cc)) _ _ _
  -- super().__init__(msg)
  refine ks_wpAt_execs_cons (ks_wpAt_Expr_any (ks_wpAt_MethodCall ?_ (super_call hln)) rfl rfl)
  refine ks_wpAt_super_base (env := ksEnv qual xS s.heap.objs.size fI (.ref ca) cc) rfl rfl (by decide) rfl (X₁ _ _ ho) rfl rfl rfl (X₁ _ _ hcode) rfl hvs hfile T.top ?_
  refine ks_loadName_global rfl rfl (loadGlobal_builtin (env := ksEnv qual xS s.heap.objs.size fI (.ref ca) cc) (nsM.keeps k₁) T.gS (nsB.keeps k₁) ((eqB _ (by decide +kernel)).trans PyProof.Rows.Boot.«super») ⟨rfl, ?_⟩)
  refine wpAny_loadName_free rfl rfl rfl ⟨_, X₁ _ _ hcell, rfl⟩ ?_
  refine wpAny_loadName_local rfl rfl hns vx ?_
  refine ks_wpAny_isType_cls (X₁ _ _ hC) rfl ⟨rfl, ?_⟩
  refine ks_wpAny_call_super (X₁ _ _ hC) rfl hx₁ rfl (fun c e => by cases e) (looks_mroIn X₁ T.own) (fun h₂ e₂ k₂ => ?_)
  have X₂ : K.In h₂ := X₁.keeps k₂
  have hx₂ := k₂ _ _ hx₁
  have I₂ : InstAt h₂ x (excO C t0) C none := ⟨hx₂, rfl, rfl, trivial⟩
  have lookM : Looks (model prog w) h₂ (mroOf (.ref C)) (.ref C :: bm) := (looks_clsIn X₂ hcl).andThen .now
  refine kxs_getMethod kxs_ValueError e₂ (looks_opaque X₂ T.opq) lookM rfl X₂ hal (I₂.type.andThen (looks_subIn X₂ T.exV)) (ks_ne X₂ I₂ hcl) (by decide) ?_
  have k₃ : ∀ b o, h₂.get? b = some o → (h₂.push (kxs_mw "ValueError.__init__" x)).get? b = some o := fun b o e => Heap.get?_push_of_some _ e
  have hu : (h₂.push (kxs_mw "ValueError.__init__" x)).get? h₂.objs.size = some (kxs_mw "ValueError.__init__" x) := Heap.get?_push_size _ rfl
  generalize h₂.push (kxs_mw "ValueError.__init__" x) = h₃ at k₃ hu
  have X₃ : K.In h₃ := X₂.keeps k₃
  have hx₃ := k₃ _ _ hx₂
  show wpAny _ _ (callWith q5 (.ref h₂.objs.size) [] (backTo q5 (starEach [.Constant (.str msg) j q4] (ksEnv qual xS s.heap.objs.size fI (.ref ca) cc))) []) _ _ _
  refine kxs_callWith (i := "ValueError.__init__") (x := x) rfl (evalArgs_plain (Calls.spliced_cons (Calls.Constant_str (k := j) (pos := q4) (Calls.spliced_nil ⟨hu, ?_⟩))))
  show wpAny _ _ (call (.ref h₂.objs.size) [_]) _ _ _
  refine wpAny_call (codeAny_of_tree ?_)
  show wpAny _ _ (callAny (.ref h₂.objs.size) ⟨[_], []⟩) _ _ _
  simp only [callAny]
  refine wpAny_bind (wpAny_load hu ?_)
  simp only [kxs_mw, show (Value.type "method-wrapper" == Value.type "method" || Value.type "method-wrapper" == Value.type "builtin_function_or_method" || Value.type "method-wrapper" == Value.type "method-wrapper") = true by decide, if_true]
  refine KFB.if_so (by decide) ?_
  refine wpAny_bind (check_bound_init F.excBase_ValueError.toExcCallFacts (X₃ _ _ hC) hx₃ rfl ?_)
  refine wpAny_bind (wpAny_pure (wpAny_pure ?_))
  refine ⟨plainId_quiet F.excBase_ValueError.init.plain _, codeAny_builtin F.excBase_ValueError.initEntry ?_⟩
  refine exc_init_tree (cls := .ref C) (t0 := t0) (dv := none) (c2 := .none) (c3 := .none) (b4 := .bool false) hx₃ (by show 1 ≤ sizeLine; rw [sizeLine_eq]; decide) fun h₄ k₄ hx₄ _ => ?_
  have X₄ : K.In h₄ := fun b o e => k₄ b o (fun z => by rw [z, hnx] at e; cases e) (X₃ b o e)
  have hxL : s.heap.objs.size ≠ x := Nat.ne_of_gt (Heap.lt_size hx)
  have hn₄ : h₄.Ns s.heap.objs.size (fun y => List.lookup y ([("self", Value.ref x), ("word", v)] : List (Str × Value)).reverse) := by
    obtain ⟨o, es, ep, e1, e2⟩ := hns
    exact ⟨o, es, ep, k₄ _ _ hxL (k₃ _ _ (k₂ _ _ e1)), e2⟩
  -- self.word = word
  show PySem.wpAt _ _ _ (execs [.Assign [.Attribute (.Name "self" q7) "word" q8] (.Name "word" q9) q10] (ksEnv qual xS s.heap.objs.size fI (.ref ca) cc)) _ _ _
  refine wpAt_of_wpAny (wpAny_execs_cons (plainObj_wpAny_Assign_Attribute ?_))
  refine ldX (v := v) hn₄ vw (ldX (v := .ref x) hn₄ vx ?_)
  refine set_plain X₄ (ox := excO C h₃.objs.size) (od := none) ⟨hx₄, rfl, rfl, trivial⟩ T.sa ?_
  refine exc_osa X₄ hx₄ hcl (show refsVE (.ref C :: bm) = true from hbm) rfl T.noN (fun h₅ tk₅ dx k₅ dn dne hx₅ hn₅ => ?_)
  show wpAny _ _ (execs _ _) _ _ _
  have up : ∀ b o, b ≠ x → s.heap.get? b = some o → h₄.get? b = some o := fun b o hb e => k₄ b o hb (k₃ b o (k₂ b o (k₁ b o e)))
  refine wpAny_execs_nil (hq h₅ tk₅ dx _ ⟨fun b o hb e => k₅ b o hb (up b o hb e), hx₅, ?_, dne, hn₅⟩)
  obtain ⟨o, es, ep, e1, _⟩ := hn₄
  exact Nat.le_of_lt (Nat.lt_of_lt_of_le (Heap.lt_size e1) dn)
/-- a made exception -/
structure XMade (h h' : Heap) (e C d : Addr) (v : Value) : Prop where
  keep : ∀ b o, h.get? b = some o → h'.get? b = some o
  new : h.objs.size ≤ e
  obj : ∃ oe vs, h'.get? e = some oe ∧ oe.cls = .ref C ∧ oe.dict = some d ∧ oe.data = .fields vs ∧ vs[1]? = some .none
  dbig : h.objs.size ≤ d
  dne : d ≠ e
  ns : h'.Ns1 d (fun y => if y = "word" then some v else none)
theorem x_made (T : XTxt prog K mg cn C fI cc ca) {v : Value} (X : K.In s.heap) (hlim : s.heap.NoLimit) (nsM : s.heap.Ns mainGlobals mg) (nsB : s.heap.Ns builtinsNs mb) (eqB : ∀ y : Str, y ≠ "__name__" → mb y = bootBuiltins y) (hroom : A.depth + 1 < recursionLimit)
    (hq : ∀ h' tk e d, XMade s.heap h' e C d v → R (.ok (.ret (.ref e))) { s with heap := h', toks := tk }) :
    codeAny (model prog w) A (.call (.ref C) ⟨[v], []⟩) R s := by
  obtain ⟨nm, q, N, bs, bm, sn, sub, ab, col, dd, k0, k1, k2, k3, k5, hC, hbm, _⟩ := T.cls
  obtain ⟨hp, g, dr, tk, os⟩ := s
  have old : ∀ b o, hp.get? b = some o → ((hp.push (kdv_tup [v])).push (excO C hp.objs.size)).get? b = some o := fun b o e => Heap.get?_push_of_some _ (Heap.get?_push_of_some _ e)
  have hget : ((hp.push (kdv_tup [v])).push (excO C hp.objs.size)).get? (hp.objs.size + 1) = some (excO C hp.objs.size) := by heap_get
  have hnx : K.lookup (hp.objs.size + 1) = none := by
    cases e : K.lookup (hp.objs.size + 1) with
    | none => rfl
    | some o => exact absurd (Nat.lt_of_succ_lt (Heap.lt_size (X _ _ e))) (Nat.lt_irrefl _)
  refine call_own F.excBase_ValueError (fun Y => refsVE_contains Y bm hbm) (X _ _ hC) (looks_findIn X T.iC) (fun self => bind_fn X self T.tC) (by rw [sizeLine_eq]; exact (by decide : 1 ≤ 16777216)) ?_
  refine x_init (s := ⟨(hp.push (kdv_tup [v])).push (excO C hp.objs.size), g, dr, tk, os⟩) T (X.keeps old) (hlim.keeps old) (nsM.keeps old) (nsB.keeps old) eqB hget hnx (by rw [L2.make_depth]; exact hroom) fun h' tk' dx t1 M => ?_
  have keep : ∀ b o, hp.get? b = some o → h'.get? b = some o := fun b o e => M.keep b o (Nat.ne_of_lt (Nat.lt_succ_of_lt (Heap.lt_size e))) (old b o e)
  have big : hp.objs.size + 1 + 1 ≤ dx := by
    have z := M.dbig
    first
      | simpa only [Heap.size_push] using z
      | (rw [Heap.size_push, Heap.size_push] at z; exact z)
      | exact z
  exact ⟨rfl, hq h' tk' (hp.objs.size + 1) dx ⟨keep, Nat.le_succ _, ⟨_, _, M.obj, rfl, rfl, rfl, rfl⟩, Nat.le_trans (Nat.le_trans (Nat.le_succ _) (Nat.le_succ _)) big, M.dne, M.ns⟩⟩
end
end G78
namespace G78
open PySem PySem.Spec PyProof.Rows L2
theorem relO_word {v : V} {v' : Value} (r : RelV v v') (f : Str) : RelO (List.lookup f [(("word" : Str), v)]) (if f = "word" then some v' else none) := by
  by_cases hw : f = "word"
  · subst hw
    rw [if_pos rfl, show List.lookup ("word" : Str) [(("word" : Str), v)] = some v by simp [List.lookup]]
    exact r
  · rw [if_neg hw, show List.lookup f [(("word" : Str), v)] = none by simp [List.lookup, show (f == ("word" : Str)) = false by simpa using hw]]
    trivial
section
variable {X : Cx} {cn : Str} {C fI cc ca : Addr} {mb : Str → Option Value}
/-- cn(e) -/
def tMkX (C : Addr) (ta : TA) : L2.St → Hp → XK → Prop := fun σ H Q => ta σ H fun vs H1 => ∃ v, vs = [v] ∧ ∀ d, H1 d = none → Q (.ref C) (some d) (upd H1 d (.xd [(("word" : Str), v)]))
theorem pmk_x {a : Expr} {ta : TA} {p pos : Pos} {k : Nat} (T : XTxt X.prog X.K X.mg cn C fI cc ca) (hr : Room k X.A) (ha : PA X [a] ta) (hg : Gl X cn := by rfl) (hdb : (cn == ("__debug__" : Str)) = false := by decide)
    (he : starEach (a :: []) X.env = (false, eval a X.env) :: starEach [] X.env := by rfl) (hpl : (backTo pos (starEach [] X.env)).any (·.1) = false := by rfl) :
    PMk X (.Call (.Name cn p) [a] [] pos) (tMkX C ta) := by
  intro pins s σ H Q I h
  refine wpAny_Call_Name_kw (ld_glob I hg T.gC ?_ hdb)
  refine PySem.W.callWith_K (h₀ := X.base) I.ok.mod.kin T.kC (thn (ha.run pos pins s σ H _ I h) fun us s1 ⟨vs, H1, I1, r1, v, ev, q1⟩ => ⟨I1.kIn, ?_⟩) he hpl
  subst ev
  obtain ⟨v', rfl, rv⟩ := vals1 r1
  show wpAny _ _ (call (.ref C) [v']) _ _ _
  have hlim := I1.nolimit
  obtain ⟨_, nsM, ⟨mb, nsB, eqB⟩, _⟩ := I1.ok.mod
  have bk := I1.bk
  obtain ⟨hp, g, dr, tk, os⟩ := s1
  refine wpAny_call (x_made T I1.kIn hlim (nsM.keeps bk) (nsB.keeps bk) eqB (by have := hr.dp; omega) fun h' tk' e d M => ?_)
  show MkP X pins σ Q (.ref e) ⟨h', g, dr, tk', os⟩
  obtain ⟨oe, fv, hoe, hc, hd, hdat, h1⟩ := M.obj
  have hns := M.ns
  obtain ⟨G', g1, g2⟩ := restrict h' fun b => decide (b ≠ e)
  have gk : ∀ b, b ≠ e → G'.get? b = h'.get? b := fun b hb => g1 b (decide_eq_true hb)
  have ge : G'.get? e = none := g2 e (by simp)
  have old : ∀ b o, hp.get? b = some o → G'.get? b = some o := fun b o q => (gk b (Nat.ne_of_lt (Nat.lt_of_lt_of_le (Heap.lt_size q) M.new))).trans (M.keep b o q)
  have ob : ObjOk X.prog X.w (upd H1 d (.xd [(("word" : Str), v)])) G' d (.xd [(("word" : Str), v)]) := ⟨_, hns.at (fun o q => (gk d M.dne).trans q), fun f => relO_word rv f⟩
  have J : Inv X pins σ (upd H1 d (.xd [(("word" : Str), v)])) ⟨G', g, dr, tk', os⟩ := I1.laid (t' := tk') old M.dbig ob
  refine ⟨e, oe, fv, ⟨G', g, dr, tk', os⟩, _, .ref C, some d, rfl, J, fun b o q => ?_, ge, hoe, ⟨hc, hd⟩, hdat, h1, ?_, rfl, I1.bare, raises_own T.exC T.tyC, q1 d (I1.hok.fresh M.dbig)⟩
  · by_cases hb : b = e
    · have q' : G'.get? b = some o := q
      rw [hb, ge] at q'
      cases q'
    · exact (gk b hb).symm.trans q
  · rw [upd_ne (Ne.symm M.dne)]
    exact I1.hok.fresh M.new
/-- raise cn(e) -/
def tRaiseX (C : Addr) (W : WX) (ta : TA) : TS := fun _ σ H => tMkX C ta σ H fun cls d H' => W cls d σ H'
theorem ps_raiseX {a : Expr} {ta : TA} {W : WX} {p pos pos2 : Pos} {k : Nat} (hc : X.calm = true) (T : XTxt X.prog X.K X.mg cn C fI cc ca) (hr : Room k X.A) (tk : Takes X W) (ha : PA X [a] ta) (hg : Gl X cn := by rfl) (hdb : (cn == ("__debug__" : Str)) = false := by decide)
    (he : starEach (a :: []) X.env = (false, eval a X.env) :: starEach [] X.env := by rfl) (hpl : (backTo pos (starEach [] X.env)).any (·.1) = false := by rfl) :
    PS X (.Raise (some (.Call (.Name cn p) [a] [] pos)) none pos2) (tRaiseX C W ta) := ps_raise hc tk (pmk_x T hr ha hg hdb he hpl)
end
end G78
namespace G78
open PySem PySem.Spec PyProof.Rows L2
/-- how a suite's ends are seen from behind the clause: the name in slot i is gone -/
def gone (i : Nat) (D : Ends) : Ends where
  nx := fun σ H => D.nx (σ.set i none) H
  rt := D.rt
  bk := fun σ H => D.bk (σ.set i none) H
  ct := fun σ H => D.ct (σ.set i none) H
/-- what two clauses 'except x1 as n', 'except x2 as n' wish of an exception of the body; another one does not come -/
def wTwo (K : PySem.W.Frag) (c1 c2 : Value) (i : Nat) (t1 t2 : Addr → Value → Option Addr → TS) (D : Ends) : WX := fun cls d σ H =>
  (PySem.W.exmOne K cls c1 = some true ∧ ∀ a, H a = none → t1 a cls d (gone i D) (σ.set i (some (.ref a))) H) ∨
  (PySem.W.exmOne K cls c1 = some false ∧ PySem.W.exmOne K cls c2 = some true ∧ ∀ a, H a = none → t2 a cls d (gone i D) (σ.set i (some (.ref a))) H)
section
variable {X : Cx} {x1 x2 n : Str} {c1 c2 : Value} {i : Nat} {body su1 su2 : List Stmt} {b1 b2 : Stmt} {np1 np2 pos pos1 pos2 : Pos} {tb : WX → TS} {t1 t2 : Addr → Value → Option Addr → TS}
theorem ps_try_two (hs : X.stack = X.env :: X.outer) (hf : X.env.frame = some X.env.locals) (hN : X.N.Nodup) (hi : X.N[i]? = some n) (hln : X.env.kindOf n = some .local) (hc1 : Names X x1 c1) (hc2 : Names X x2 c2)
    (hb : ∀ (W : WX) (pn : List (Addr × Obj)) (xe : Value → Shared → Prop), Takes (X.tr pn xe) W → PassesOwn (model X.prog X.w) X.A X.env xe → PSs (X.tr pn xe) body (tb W))
    (h1 : ∀ (a : Addr) (oe : Obj) (cls : Value) (d : Option Addr) (pn : List (Addr × Obj)), Zc cls d oe → (∃ vs, oe.data = .fields vs) → PSs (X.suite a ((a, oe) :: pn)) (b1 :: su1) (t1 a cls d))
    (h2 : ∀ (a : Addr) (oe : Obj) (cls : Value) (d : Option Addr) (pn : List (Addr × Obj)), Zc cls d oe → (∃ vs, oe.data = .fields vs) → PSs (X.suite a ((a, oe) :: pn)) (b2 :: su2) (t2 a cls d)) :
    PS X (.Try body [.ExceptHandler (some (.Name x1 np1)) (some n) (b1 :: su1) pos1, .ExceptHandler (some (.Name x2 np2)) (some n) (b2 :: su2) pos2] [] [] pos)
      (fun D σ H => tb (wTwo X.K c1 c2 i t1 t2 D) D σ H) := by
  refine ⟨fun pins s σ H D I h => wpAny_Try_except ?_⟩
  have ok := I.ok
  have hfr : X.A.frames = some (X.env :: X.outer) := ok.frames.trans (congrArg some hs)
  refine wpAny_mono ((hb (wTwo X.K c1 c2 i t1 t2 D) (X.pn ++ pins) (fun e sa => wpAny (model X.prog X.w) X.A (noteFrame e X.env) (fun _ sb => wpAny (model X.prog X.w) X.A (setFlight e none) (fun _ sc =>
    wpAny (model X.prog X.w) X.A (handleBy e X.env [.ExceptHandler (some (.Name x1 np1)) (some n) (b1 :: su1) pos1, .ExceptHandler (some (.Name x2 np2)) (some n) (b2 :: su2) pos2]) (SP X pins D) X.xe sc) X.xe sb) X.xe sa)
    (fun u s' xx => ?_) PassesOwn.looking).run [] s σ H D (I.toTry _) h) (fun f s1 hsp => ?_) (fun _ _ he => he)
  · obtain ⟨a, B, sI, pins', σ', H', cls, d, rfl, Jt, nb, up, sky, na, os, ag, wish⟩ := xx
    have J : Inv X pins σ' H' sI := Jt.ofTry ok
    rw [show (X.tr (X.pn ++ pins) _).stack = X.env :: X.outer from hs] at sky
    refine Sky.land Zc.steady hfr hf sky fun hp fl upL => ?_
    have JL : Inv X pins σ' H' { s' with heap := hp } := J.landed nb fl.1 (up.trans upL) os ag
    have ⟨oL, vL, atL, zL, dL⟩ := fl.there
    have off : a ∉ frs (X.env :: X.outer) := fun hm => by
      have ⟨_, o', e', hnf⟩ := fl.2.2.1.mem hm
      rw [atL] at e'
      exact hnf _ (Option.some.inj e' ▸ dL)
    have nL : a ≠ X.env.locals := fun z => off (List.mem_filterMap.mpr ⟨X.env, List.mem_cons_self, by rw [hf, z]⟩)
    have nF : a ∉ X.fs := fun hm => by
      have ⟨e, he, q⟩ := List.mem_filterMap.mp hm
      exact off (List.mem_filterMap.mpr ⟨e, List.mem_cons_of_mem _ he, q⟩)
    have SL := JL.suite atL dL na nL nF
    have LT : PySem.W.Looks (model X.prog X.w) hp (typeOf (.ref a)) cls := fun A Q E s k q => wpAny_typeOf_ref (k _ _ atL) (by rw [zL.1]; exact q)
    have ask : ∀ {x : Str} {c : Value} {np : Pos}, Names X x c → ∀ {Q : Value → Shared → Prop} {E : Value → Shared → Prop}, Q c { s' with heap := hp } →
        wpAny (model X.prog X.w) (X.A.mark (some (.ref a))) (eval (.Name x np) X.env) Q E { s' with heap := hp } := fun {x c np} hc {Q E} q => by
      obtain ⟨hg, hdb, hm | ⟨hm, hv, hnn⟩⟩ := hc
      · exact ld_glob (X := X.suite a ((a, oL) :: (X.pn ++ pins))) SL hg hm q hdb
      · exact ld_blt (X := X.suite a ((a, oL) :: (X.pn ++ pins))) SL hg hm hv q hnn hdb
    -- a suite that is entered
    have inside : ∀ {b : Stmt} {su : List Stmt} {t : Addr → Value → Option Addr → TS} {ps : Pos} {Ea Eb Ec : Value → Shared → Prop},
        (∀ (oe : Obj) (pn : List (Addr × Obj)), Zc cls d oe → (∃ vs, oe.data = .fields vs) → PSs (X.suite a ((a, oe) :: pn)) (b :: su) (t a cls d)) → t a cls d (gone i D) (σ'.set i (some (.ref a))) H' →
        wpAny (model X.prog X.w) (X.A.mark (some (.ref a))) (setFlight (.ref a) none) (fun _ s4 => wpAny (model X.prog X.w) (X.A.mark (some (.ref a))) (storeName X.env n (.ref a)) (fun _ s5 =>
          wpAny (model X.prog X.w) (X.A.mark (some (.ref a))) (execs (b :: su) X.env) (fun f s6 => wpAny (model X.prog X.w) X.A (do bindName X.env n .none; unbindBehindTheSuite X.env n ps) (fun _ s7 => SP X pins D f s7) X.xe s6)
            Ec s5) Eb s4) Ea { s' with heap := hp } := fun {b su t ps Ea Eb Ec} hsu hq => by
      refine HandSPX.lands_againZ fl fun h4 fl4 up4 => ?_
      have J4 : Inv X pins σ' H' { s' with heap := h4 } := J.landed nb fl4.1 ((up.trans upL).trans up4) os ag
      have ⟨o4, v4, at4, z4, d4⟩ := fl4.there
      have S4 := J4.suite at4 d4 na nL nF
      refine store_ok (X := X.suite a ((a, o4) :: (X.pn ++ pins))) (v := .ref a) S4 hN hi (.inl hln) rfl (fun s5 S5 => ?_) (.inr hln)
      refine wpAny_mono ((hsu o4 (X.pn ++ pins) z4 ⟨_, d4⟩).run [] s5 _ H' _ S5 hq) (fun f s6 hsp => ?_) (fun _ _ z => False.elim z)
      cases f with
      | next =>
        obtain ⟨σ6, H6, S6, q6⟩ := hsp
        exact gone_ok (S6.unsuite ok) hN hi hln fun s7 J7 => ⟨_, _, J7, q6⟩
      | brk =>
        obtain ⟨σ6, H6, S6, q6⟩ := hsp
        exact gone_ok (S6.unsuite ok) hN hi hln fun s7 J7 => ⟨_, _, J7, q6⟩
      | cont =>
        obtain ⟨σ6, H6, S6, q6⟩ := hsp
        exact gone_ok (S6.unsuite ok) hN hi hln fun s7 J7 => ⟨_, _, J7, q6⟩
      | ret u =>
        obtain ⟨v6, σ6, H6, S6, r6, q6⟩ := hsp
        exact gone_ok (S6.unsuite ok) hN hi hln fun s7 J7 => ⟨_, _, _, J7, r6, q6⟩
    refine wpAny_handleBy_cons (codeAny_handlers_test ?_) (by intro q; cases q)
    rcases wish with ⟨m1, hy⟩ | ⟨m1, m2, hy⟩
    · refine ask hc1 ((PySem.W.exm_one (M := model X.prog X.w) JL.kIn LT m1).here ?_)
      refine codeAny_handlers_suite_as ?_
      exact inside (h1 a · cls d ·) (hy a na)
    · refine ask hc1 ((PySem.W.exm_one (M := model X.prog X.w) JL.kIn LT m1).here ?_)
      show wpAny _ X.A (handleBy (.ref a) X.env [_]) _ _ _
      refine wpAny_handleBy_cons (codeAny_handlers_test ?_) (by intro q; cases q)
      refine ask hc2 ((PySem.W.exm_one (M := model X.prog X.w) JL.kIn LT m2).here ?_)
      refine codeAny_handlers_suite_as ?_
      exact inside (h2 a · cls d ·) (hy a na)
  · cases f with
    | next =>
      have ⟨σ', H', J', q⟩ := hsp
      exact wpAny_execs_nil ⟨σ', H', J'.ofTry ok, q⟩
    | brk =>
      have ⟨σ', H', J', q⟩ := hsp
      exact ⟨σ', H', J'.ofTry ok, q⟩
    | cont =>
      have ⟨σ', H', J', q⟩ := hsp
      exact ⟨σ', H', J'.ofTry ok, q⟩
    | ret u =>
      have ⟨v, σ', H', J', r, q⟩ := hsp
      exact ⟨v, σ', H', J'.ofTry ok, r, q⟩
end
end G78
namespace G78
open PySem PySem.Spec PyProof.Rows L2
section
variable {Z : ZZ} {K : PySem.W.Frag} {F : Fr} {M M' : Addr → Prop} {σ : L2.St} {H H' H1 : Hp} {ds : DS} {X : Cx} {v : V} {d : D} {p : Addr} {m : Md} {e a b : Expr} {pos : Pos} {x y : Str} {pp : Pos} {es : List Expr} {st : Stmt} {sts : List Stmt} {A B W : TW} {i j : Nat}
/-! ### a, b = l, l a list -/
@[simp] def wGlst (n : Nat) (B : TWGs) : TWG := fun x ds q => ∃ xs, x = .lst xs ∧ xs.length = n ∧ B xs ds q
theorem gj_lst {k : Nat} {is : List Nat} {n : Nat} {B : TWGs} (hc : X.calm = true) (h : GJs Z X es is B) (hn : (assignEach es X.env).length = n := by rfl) (hst : (assignEach es X.env).findIdx? (·.1) = none := by rfl) :
    GJ Z X (.Tuple es k pos) is (wGlst n B) := by
  obtain ⟨g, p, kk⟩ := h.ex
  refine ⟨_, pg_unl hc p hn hst, fun F M σ H ds v x q Q r h ⟨xs, e, hl, w⟩ k => ?_⟩
  subst e
  cases h with
  | lst a b => exact ⟨_, _, rfl, .of (era_in a).2, by rw [b.len]; exact hl, kk F M σ H ds _ _ q Q r b w k⟩
/-! ### y = [..] -/
section
variable {tg elt iter : Expr} {ifs : List Expr} {scope : Scope} {own : List (Str × Nat)} {I : TWI} {G : TWG} {T : TWT} {E : TW} {is : List Nat}
theorem as_lc {py spos : Pos} (hc : X.calm = true) (hN : X.N.Nodup) (hy : X.N[i]? = some y) (hyl : X.env.scope.names.lookup y = some .local)
    (hsw : swapsWith (.ListComp elt [⟨tg, iter, ifs, 0⟩] scope pos) (some (.Name y py)) spos.line X.env = pure true) (hi : IJ Z X tg iter I) (ok : BlkOk X.N X.env.scope scope own) (his : ∀ i ∈ is, i ∈ own.map (·.2))
    (hg : ∀ (s : Shared) (H : Hp) (C : Addr) (cl : List (Str × Addr)) (fp : List Addr), GJ Z (X.blk s H scope (compEnvC scope cl C X.env) fp) tg is G) (ht : ∀ (s : Shared) (H : Hp) (C : Addr) (cl : List (Str × Addr)) (fp : List Addr), TsJ Z (X.blk s H scope (compEnvC scope cl C X.env) fp) ifs T)
    (he : ∀ (s : Shared) (H : Hp) (C : Addr) (cl : List (Str × Addr)) (fp : List Addr), EJ Z .d (X.blk s H scope (compEnvC scope cl C X.env) fp) elt E) (hs : ∀ x, foldedSetIterable iter X.env x = pure x := by intro _; rfl) :
    AsJ Z .o X (.Assign [.Name y py] (.ListComp elt [⟨tg, iter, ifs, 0⟩] scope pos) spos) i (wLc I G T E (own.map (·.2))) :=
  ⟨lc_set hc hN hy hyl hsw hi ok his hg ht he hs⟩
end
/-! ### promises -/
abbrev SpD := List D → (D → Prop) → Prop
abbrev SpDX := List D → (D → Prop) → (Nat → Str → Prop) → Prop
def spP (C : Addr) (K : PySem.W.Frag) (f : SpD) : Sp := fun vs H Q _ => ∃ (M : Addr → Prop) (ds : List D) (q : D → Prop), (∀ p, M p → H p ≠ none) ∧ RL K C (era H M) vs ds ∧ NL H ∧ f ds q ∧
  ∀ v H' d, Same H H' → NL H' → R K C (era H' M) v d → q d → Q v H'
def spB (C : Addr) (K : PySem.W.Frag) (f : SpD) : Sp := fun vs H Q _ => ∃ (M : Addr → Prop) (b : Addr) (us : List V) (ds : List D) (q : D → Prop), vs = .ref b :: us ∧ M b ∧ BoxOk H b ∧ (∀ p, M p → H p ≠ none) ∧ RL K C (era H M) us ds ∧ NL H ∧ f ds q ∧
  ∀ v H' d, (∀ a o, a ≠ b → H a = some o → H' a = some o) → BoxOk H' b → NL H' → R K C (era H' M) v d → q d → Q v H'
def spX (C : Addr) (cls : Nat → Addr) (K : PySem.W.Frag) (f : SpDX) : Sp := fun vs H Q E => ∃ (M : Addr → Prop) (ds : List D) (q : D → Prop) (x : Nat → Str → Prop), (∀ p, M p → H p ≠ none) ∧ RL K C (era H M) vs ds ∧ NL H ∧ f ds q x ∧
  (∀ v H' d, Same H H' → NL H' → R K C (era H' M) v d → q d → Q v H') ∧ ∀ c w H' dd, Same H H' → NL H' → H dd = none → H' dd = some (.xd [("word", .str w)]) → x c w → E (.ref (cls c)) (some dd) H'
/-! ### calls -/
@[simp] def wCall (f : SpD) (W : TWA) : TW := fun ds q => ds.nl = true ∧ W ds fun xs => f xs q
@[simp] def wCallB (i : Nat) (f : SpD) (W : TWA) : TW := fun ds q => ds.nl = true ∧ ds.s[i]? = some .bx ∧ W ds fun xs => f xs q
theorem Ext.of_same (h : Same H H') (n : NL H') : Ext F H H' := ⟨fun a o _ e => h a o e, fun b _ ⟨x, y, z, e⟩ => ⟨x, y, z, h _ _ e⟩, fun a o kvs e => absurd e (n a o kvs)⟩
section
variable {k kk : Nat} {f : SpD} {W : TWA}
theorem rd_call (r : Rep Z X.K F M σ H ds) (hn : ds.nl = true) {xs : List D} {vs : List V} {q : D → Prop} {Q : VK} {E : XK} (x1 : Ext F H H1) (s : RL X.K Z.C (era H1 M) vs xs) (hf : f xs q) (k : ∀ v H' d, Ext F H H' → Res Z .d X.K F M H H' v d → q d → Q v H') :
    spP Z.C X.K f vs H1 Q E :=
  ⟨M, xs, q, (r.ext x1).mo, s, (r.ext x1).nl hn, hf, fun v H' d h n rv z => k v H' d (x1.trans (.of_same h n)) rv z⟩
theorem ej_call (c : Cl X.prog X.w X.K X.mg X.base k x (spP Z.C X.K f)) (hr : Room kk X.A) (hk : k ≤ kk) (hg : Gl X x) (ha : AJ Z X (e :: es) W)
    (hdb : (x == ("__debug__" : Str)) = false := by decide) (he : starEach (e :: es) X.env = (false, eval e X.env) :: starEach es X.env := by rfl) (hpl : (backTo pos (starEach es X.env)).any (·.1) = false := by rfl) :
    EJ Z .d X (.Call (.Name x pp) (e :: es) [] pos) (wCall f W) := by
  obtain ⟨t, p, g⟩ := ha.ex
  exact ⟨_, pe_cl c hr hk hg p hdb he hpl, fun F M σ H ds q Q r ⟨hn, w⟩ k => g F M σ H ds _ _ r w fun vs H1 xs x1 s hf => by
    show spP Z.C X.K f (vs ++ []) H1 Q E0
    rw [List.append_nil]
    exact rd_call r hn x1 s hf k⟩
theorem ej_callG (c : ClG X.prog X.w X.K X.mg X.base k x (spP Z.C X.K f)) (hgd : X.A.guards = some []) (hr : Room kk X.A) (hk : k ≤ kk) (hg : Gl X x) (ha : AJ Z X (e :: es) W)
    (hdb : (x == ("__debug__" : Str)) = false := by decide) (he : starEach (e :: es) X.env = (false, eval e X.env) :: starEach es X.env := by rfl) (hpl : (backTo pos (starEach es X.env)).any (·.1) = false := by rfl) :
    EJ Z .d X (.Call (.Name x pp) (e :: es) [] pos) (wCall f W) := by
  obtain ⟨t, p, g⟩ := ha.ex
  exact ⟨_, pe_clG c hgd hr hk hg p hdb he hpl, fun F M σ H ds q Q r ⟨hn, w⟩ k => g F M σ H ds _ _ r w fun vs H1 xs x1 s hf => by
    show spP Z.C X.K f (vs ++ []) H1 Q E0
    rw [List.append_nil]
    exact rd_call r hn x1 s hf k⟩
theorem rd_callB (r : Rep Z X.K F M σ H ds) (hn : ds.nl = true) {b : Addr} (hb : F.bx = some b) {xs : List D} {vs : List V} {q : D → Prop} {Q : VK} {E : XK} (x1 : Ext F H H1) (s : RL X.K Z.C (era H1 M) vs xs) (hf : f xs q) (k : ∀ v H' d, Ext F H H' → Res Z .d X.K F M H H' v d → q d → Q v H') :
    spB Z.C X.K f (.ref b :: vs) H1 Q E := by
  have r1 := r.ext x1
  refine ⟨M, b, vs, xs, q, rfl, (r1.bm b hb).1, (r1.bm b hb).2, r1.mo, s, r1.nl hn, hf, fun v H' d h bo n rv z => k v H' d (x1.trans ⟨fun a o hne e => h a o (fun q => hne (q ▸ hb)) e, fun b' hb' _ => ?_, fun a o kvs e => absurd e (n a o kvs)⟩) rv z⟩
  rw [hb] at hb'; cases hb'; exact bo
theorem ej_callB {bn : Str} {bp : Pos} (c : Cl X.prog X.w X.K X.mg X.base k x (spB Z.C X.K f)) (hr : Room kk X.A) (hk : k ≤ kk) (hg : Gl X x) (hN : X.N[i]? = some bn) (hv : Vis X.env.scope bn) (ha : AJ Z X es W)
    (hd : (bn == ("__debug__" : Str)) = false := by decide) (hcd : (bn == ("__classdict__" : Str)) = false := by decide)
    (hdb : (x == ("__debug__" : Str)) = false := by decide) (he : starEach (.Name bn bp :: es) X.env = (false, eval (.Name bn bp) X.env) :: starEach es X.env := by rfl) (hpl : (backTo pos (starEach es X.env)).any (·.1) = false := by rfl) :
    EJ Z .d X (.Call (.Name x pp) (.Name bn bp :: es) [] pos) (wCallB i f W) := by
  obtain ⟨t, p, g⟩ := ha.ex
  refine ⟨_, pe_cl c hr hk hg (pa_cons (pe_var hN hv hd hcd) p he) hdb he hpl, fun F M σ H ds q Q r ⟨hn, hi, w⟩ k => ?_⟩
  obtain ⟨b, hb, h1⟩ := r.sl i _ hi
  refine ⟨.ref b, h1, g F M σ H ds _ _ r w fun vs H1 xs x1 s hf => ?_⟩
  show spB Z.C X.K f ((.ref b :: vs) ++ []) H1 Q E0
  rw [List.append_nil]
  exact rd_callB r hn hb x1 s hf k
theorem ej_callBG {bn : Str} {bp : Pos} (c : ClG X.prog X.w X.K X.mg X.base k x (spB Z.C X.K f)) (hgd : X.A.guards = some []) (hr : Room kk X.A) (hk : k ≤ kk) (hg : Gl X x) (hN : X.N[i]? = some bn) (hv : Vis X.env.scope bn) (ha : AJ Z X es W)
    (hd : (bn == ("__debug__" : Str)) = false := by decide) (hcd : (bn == ("__classdict__" : Str)) = false := by decide)
    (hdb : (x == ("__debug__" : Str)) = false := by decide) (he : starEach (.Name bn bp :: es) X.env = (false, eval (.Name bn bp) X.env) :: starEach es X.env := by rfl) (hpl : (backTo pos (starEach es X.env)).any (·.1) = false := by rfl) :
    EJ Z .d X (.Call (.Name x pp) (.Name bn bp :: es) [] pos) (wCallB i f W) := by
  obtain ⟨t, p, g⟩ := ha.ex
  refine ⟨_, pe_clG c hgd hr hk hg (pa_cons (pe_var hN hv hd hcd) p he) hdb he hpl, fun F M σ H ds q Q r ⟨hn, hi, w⟩ k => ?_⟩
  obtain ⟨b, hb, h1⟩ := r.sl i _ hi
  refine ⟨.ref b, h1, g F M σ H ds _ _ r w fun vs H1 xs x1 s hf => ?_⟩
  show spB Z.C X.K f ((.ref b :: vs) ++ []) H1 Q E0
  rw [List.append_nil]
  exact rd_callB r hn hb x1 s hf k
end
/-! ### a call that may raise -/
abbrev TWX := DS → (D → Prop) → (Nat → Str → Prop) → Prop
structure XJ (Z : ZZ) (X : Cx) (e : Expr) (W : TWX) : Prop where
  ex : ∀ WW : WX, Takes X WW → ∃ t, PE X e t ∧ ∀ F M σ H ds q x (Q : VK), Rep Z X.K F M σ H ds → W ds q x → (∀ v H' d, Ext F H H' → Res Z .d X.K F M H H' v d → q d → Q v H') →
    (∀ c w H' dd, Ext F H H' → NL H' → H dd = none → H' dd = some (.xd [("word", .str w)]) → x c w → WW (.ref (Z.cls c)) (some dd) σ H') → t σ H Q
section
variable {k kk : Nat} {f : SpDX} {W : TWA}
@[simp] def wCallX (f : SpDX) (W : TWA) : TWX := fun ds q x => ds.nl = true ∧ W ds fun xs => f xs q x
theorem xj_call (c : Cl X.prog X.w X.K X.mg X.base k x (spX Z.C Z.cls X.K f)) (hr : Room kk X.A) (hk : k ≤ kk) (hg : Gl X x) (ha : AJ Z X (e :: es) W)
    (hdb : (x == ("__debug__" : Str)) = false := by decide) (he : starEach (e :: es) X.env = (false, eval e X.env) :: starEach es X.env := by rfl) (hpl : (backTo pos (starEach es X.env)).any (·.1) = false := by rfl) :
    XJ Z X (.Call (.Name x pp) (e :: es) [] pos) (wCallX f W) := by
  obtain ⟨t, p, g⟩ := ha.ex
  refine ⟨fun WW tk => ⟨_, pe_clW c tk hr hk hg p hdb he hpl, fun F M σ H ds q x Q r ⟨hn, w⟩ k kx => g F M σ H ds _ _ r w fun vs H1 xs x1 s hf => ?_⟩⟩
  have r1 := r.ext x1
  exact ⟨M, xs, q, x, r1.mo, s, r1.nl hn, hf, fun v H' d h n rv z => k v H' d (x1.trans (.of_same h n)) rv z, fun c w H' dd h n hd hx z => kx c w H' dd (x1.trans (.of_same h n)) n (r.back x1 dd hd) hx z⟩
/-- in a def that may raise it -/
@[simp] def wX (W : TWX) : TW := fun ds q => ds.nl = true ∧ W ds q ds.x
theorem ej_x {W : TWX} (tk : Takes X (fun cls d _ H => Z.E cls d H)) (h : XJ Z X e W) : EJ Z .d X e (wX W) := by
  obtain ⟨t, p, g⟩ := h.ex _ tk
  refine ⟨t, p, fun F M σ H ds q Q r ⟨hn, w⟩ k => g F M σ H ds q ds.x Q r w k fun c w H' dd x n hd hx z => ?_⟩
  exact r.xs c w z H' dd (fun a o b e => x.same a o b (r.sn.sn (r.nl hn) a o b e)) n (r.h0N hd) hx
/-- where it does not raise -/
@[simp] def wX0 (W : TWX) : TW := fun ds q => W ds q fun _ _ => False
theorem ej_x0 {W : TWX} (h : XJ Z X e W) : EJ Z .d X e (wX0 W) := by
  obtain ⟨t, p, g⟩ := h.ex (fun _ _ _ _ => False) L2.takes0
  exact ⟨t, p, fun F M σ H ds q Q r w k => g F M σ H ds q _ Q r w k fun c w H' dd x n hd hx z => z.elim⟩
/-- raise X(e) -/
@[simp] def wRaise (c : Nat) (A : TW) : TWS := fun _ ds => ds.nl = true ∧ A ds fun x => ∃ w, x = .str w ∧ ds.x c w
theorem sj_raise {cn : Str} {n : Nat} {p1 pos2 : Pos} (hc : X.calm = true) (T : ∃ fI cc ca, XTxt X.prog X.K X.mg cn (Z.cls n) fI cc ca) (hr : Room kk X.A) (tk : Takes X (fun cls d _ H => Z.E cls d H)) (ha : EJ Z .d X a A) (hg : Gl X cn := by rfl) (hdb : (cn == ("__debug__" : Str)) = false := by decide)
    (he : starEach (a :: []) X.env = (false, eval a X.env) :: starEach [] X.env := by rfl) : SJ Z X (.Raise (some (.Call (.Name cn p1) [a] [] pos)) none pos2) (wRaise n A) := by
  obtain ⟨fI, cc, ca, T⟩ := T
  obtain ⟨t, p, g⟩ := ha.ex
  refine ⟨_, ps_raiseX hc T hr tk (pa_cons p pa_nil he) hg hdb he rfl, fun F M σ H ds k E r ⟨hn, w⟩ o => ?_⟩
  have aux : ∀ (v : V) (H1 : Hp) (d : D), Ext F H H1 → R X.K Z.C (era H1 M) v d → (∃ w, d = .str w ∧ ds.x n w) → ∀ dd, H1 dd = none → Z.E (.ref (Z.cls n)) (some dd) (upd H1 dd (.xd [("word", v)])) := fun v H1 d x1 s ⟨w, e, z⟩ dd hd => by
    subst e
    cases s
    have r1 := r.ext x1
    have x2 : Ext F H1 (upd H1 dd (.xd [("word", .str w)])) := .new hd fun _ _ z => nomatch z
    have r2 := r1.ext x2
    exact r.xs n w z _ dd (r2.sn.sn (r2.nl hn)) (r2.nl hn) (r1.h0N hd) upd_same
  exact g F M σ H ds _ _ r w fun v H1 d x1 s z => ⟨v, rfl, fun dd hd => aux v H1 d x1 s z dd hd⟩
end
/-! ### the box, of one's own -/
@[simp] def SC.unbx : SC → SC
  | .bx => .no
  | c => c
@[simp] def DS.unbx (ds : DS) : DS := { ds with s := ds.s.map SC.unbx, b0 := true }
/-- from here on slot i is the box -/
@[simp] def wBox (i : Nat) (A : TWS) : TWS := fun k ds => ds.b0 = true ∧ (∃ x y z, ds.s[i]? = some (.l [.int x, .int y, .int z])) ∧
  A { nx := fun ds' => k.nx ds'.unbx, rt := k.rt, bk := fun _ => False, ct := fun _ => False } { ds.set i .bx with b0 := false }
theorem ss_box {A : TWS} (i : Nat) (h : SsJ Z X sts A) : SsJ Z X sts (wBox i A) := by
  obtain ⟨t, p, g⟩ := h.ex
  refine ⟨t, p, fun F M σ H ds k E r ⟨hb, ⟨x, y, z, hi⟩, w⟩ o => ?_⟩
  have hF := r.b0 hb
  obtain ⟨b, vs, e, m, b', n, hH, l⟩ := r.sl i _ hi
  have hil : i < σ.length := (List.getElem?_eq_some_iff.mp e).1
  have hvs : vs = [.int x, .int y, .int z] := by
    have : [D.int x, .int y, .int z] = [x, y, z].map D.int := rfl
    rw [this] at l
    exact l.ints
  subst hvs
  obtain ⟨F', hF'⟩ : ∃ F' : Fr, F' = { F with bx := some b } := ⟨_, rfl⟩
  have f1 : F'.H0 = F.H0 := by rw [hF']
  have f2 : F'.bx = some b := by rw [hF']
  have f3 : F'.M0 = F.M0 := by rw [hF']
  have f4 : F'.lk = F.lk := by rw [hF']
  have get : ∀ (j : Nat) (c : SC), (ds.set i .bx).s[j]? = some c → (i = j ∧ c = .bx) ∨ (i ≠ j ∧ ds.s[j]? = some c) := fun j c h => by
    rw [show (ds.set i .bx).s = ds.s.set i .bx from rfl] at h
    by_cases hij : i = j
    · subst hij
      have hl : i < ds.s.length := by simpa using (List.getElem?_eq_some_iff.mp h).1
      rw [List.getElem?_set_self hl] at h
      exact .inl ⟨rfl, (Option.some.inj h).symm⟩
    · rw [List.getElem?_set_ne hij] at h
      exact .inr ⟨hij, h⟩
  have r' : Rep Z X.K F' M σ H { ds.set i .bx with b0 := false } := by
    refine ⟨fun j c h => ?_, fun j l c e' h1 h2 o1 o2 hjl => ?_, r.mo, fun b2 h => ?_, fun a o hne h => ?_, fun a h => r.dm a (by rw [← f1]; exact h), fun a h => ?_, r.nl, fun a o kvs h => by rw [f4]; exact r.fl a o kvs h, fun c w' hx H' dd sn nl h0 hd => ?_, (fun z => nomatch z), by simp [DS.set, r.ln]⟩
    · rcases get j c h with ⟨rfl, rfl⟩ | ⟨hij, h⟩
      · exact ⟨b, f2, e⟩
      · have s := r.sl j c h
        have ne : c.own = true → ∀ q, σ[j]? = some (some (.ref q)) → some b ≠ some q := fun oc q hq z => r.dj i j _ c hi h rfl oc hij (by rw [e, hq]; cases z; rfl)
        cases c with
        | no => trivial
        | d d => exact s
        | l xs => obtain ⟨q, vs, e', m, b, n, h, r'⟩ := s; exact ⟨q, vs, e', m, by rw [f2]; exact ne rfl q e', by rw [f1]; exact n, h, r'⟩
        | k kds => obtain ⟨q, vs, e', m, b, n, h, r'⟩ := s; exact ⟨q, vs, e', m, by rw [f2]; exact ne rfl q e', by rw [f1]; exact n, h, r'⟩
        | bx => obtain ⟨b2, h1, _⟩ := s; rw [hF] at h1; cases h1
    · rcases get j c h1 with ⟨rfl, rfl⟩ | ⟨hij, h1⟩
      · cases o1
      · rcases get l e' h2 with ⟨rfl, rfl⟩ | ⟨hil, h2⟩
        · cases o2
        · exact r.dj j l c e' h1 h2 o1 o2 hjl
    · rw [f2] at h; cases h; exact ⟨m, x, y, z, hH⟩
    · exact r.sn a o (by rw [hF]; exact fun z => nomatch z) (by rw [← f1]; exact h)
    · obtain ⟨h1, h2⟩ := r.m0 a (by rw [← f3]; exact h)
      exact ⟨h1, by rw [f1]; exact h2⟩
    · refine r.xs c w' hx H' dd (fun a o hne h => ?_) nl (by rw [← f1]; exact h0) hd
      refine sn a o (fun z => ?_) (by rw [f1]; exact h)
      rw [f2] at z; cases z
      rw [n] at h; cases h
  have back : ∀ M' σ' H' ds', Rep Z X.K F' M' σ' H' ds' → Rep Z X.K F M' σ' H' ds'.unbx := fun M' σ' H' ds' r2 => by
    have get2 : ∀ (j : Nat) (c : SC), ds'.unbx.s[j]? = some c → c = .no ∨ (c ≠ .bx ∧ ds'.s[j]? = some c) := fun j c h => by
      rw [show ds'.unbx.s = ds'.s.map SC.unbx from rfl, List.getElem?_map] at h
      obtain ⟨c', h1, h2⟩ := Option.map_eq_some_iff.mp h
      cases c' <;> simp only [SC.unbx] at h2 <;> subst h2
      · exact .inl rfl
      · exact .inr ⟨(fun z => nomatch z), h1⟩
      · exact .inr ⟨(fun z => nomatch z), h1⟩
      · exact .inr ⟨(fun z => nomatch z), h1⟩
      · exact .inl rfl
    have hbn : ∀ q : Addr, F.bx ≠ some q := fun q z => by rw [hF] at z; cases z
    refine ⟨fun j c h => ?_, fun j l c e' h1 h2 o1 o2 hjl => ?_, r2.mo, fun b2 h => absurd h (hbn b2), fun a o hne h => ?_, fun a h => r2.dm a (by rw [f1]; exact h), fun a h => ?_, r2.nl, fun a o kvs h => by rw [← f4]; exact r2.fl a o kvs h, fun c w' hx H' dd sn nl h0 hd => ?_, fun _ => hF, by simp [DS.unbx, r2.ln]⟩
    · rcases get2 j c h with rfl | ⟨hc, h⟩
      · trivial
      · have s := r2.sl j c h
        cases c with
        | no => trivial
        | d d => exact s
        | l xs => obtain ⟨q, vs, e', m, b, n, h, r'⟩ := s; exact ⟨q, vs, e', m, hbn q, by rw [← f1]; exact n, h, r'⟩
        | k kds => obtain ⟨q, vs, e', m, b, n, h, r'⟩ := s; exact ⟨q, vs, e', m, hbn q, by rw [← f1]; exact n, h, r'⟩
        | bx => exact absurd rfl hc
    · rcases get2 j c h1 with rfl | ⟨_, h1⟩
      · cases o1
      · rcases get2 l e' h2 with rfl | ⟨_, h2⟩
        · cases o2
        · exact r2.dj j l c e' h1 h2 o1 o2 hjl
    · refine r2.sn a o (fun z => ?_) (by rw [f1]; exact h)
      rw [f2] at z; cases z
      rw [n] at h; cases h
    · obtain ⟨h1, h2⟩ := r2.m0 a (by rw [f3]; exact h)
      exact ⟨h1, by rw [← f1]; exact h2⟩
    · exact r2.xs c w' hx H' dd (fun a o hne h => sn a o (hbn a) (by rw [← f1]; exact h)) nl (by rw [f1]; exact h0) hd
  exact g F' M σ H _ _ E r' w ⟨fun M' σ' H' ds' r2 kp z => o.nx _ _ _ _ (back _ _ _ _ r2) kp z, fun _ _ _ _ _ _ z => z.elim, fun _ _ _ _ _ _ z => z.elim, fun M' σ' H' ds' v d r2 hn hv z => o.rt _ _ _ _ _ _ (back _ _ _ _ r2) hn hv z⟩
end
/-! ### a def keeps its promise -/
section
variable {P : Program} {w : World} {K : PySem.W.Frag} {mg : Str → Option Value} {base : Heap} {x : Str} {st : Stmt} {N ps : List Str} {k : Nat} {Z : ZZ}
@[simp] def startD (N : List Str) (ds : List D) : DS := { s := ds.map .d ++ List.replicate (N.length - ds.length) .no }
@[simp] def startB (N : List Str) (ds : List D) : DS := { s := .bx :: (ds.map .d ++ List.replicate (N.length - ds.length - 1) .no), b0 := false }
theorem start_get {N : List Str} {vs : List V} {i : Nat} {v : V} (h : vs[i]? = some v) : (start N vs)[i]? = some (some v) := by
  have hi := (List.getElem?_eq_some_iff.mp h).1
  unfold L2.start
  rw [List.getElem?_append_left (by simpa using hi), List.getElem?_map, h]
  rfl
theorem rep_start {x : Nat → Str → Prop} {M : Addr → Prop} {H : Hp} {vs : List V} {ds : List D} (hN : ds.length ≤ N.length) (mo : ∀ p, M p → H p ≠ none) (l : RL K Z.C (era H M) vs ds) (nl : NL H)
    (hx : ∀ c w, x c w → ∀ H' dd, Same H H' → NL H' → H dd = none → H' dd = some (.xd [("word", .str w)]) → Z.E (.ref (Z.cls c)) (some dd) H') : Rep Z K ⟨H, none, M, none⟩ M (start N vs) H { startD N ds with x := x } where
  sl := fun i c h => by
    rw [show (startD N ds).s = ds.map .d ++ List.replicate (N.length - ds.length) .no from rfl] at h
    by_cases hi : i < ds.length
    · rw [List.getElem?_append_left (by simpa using hi), List.getElem?_map] at h
      obtain ⟨d, h1, rfl⟩ := Option.map_eq_some_iff.mp h
      obtain ⟨v, h2, r⟩ := l.get h1
      exact ⟨v, start_get h2, r⟩
    · rw [List.getElem?_append_right (by simpa using hi), List.getElem?_replicate] at h
      split at h
      · cases h; trivial
      · cases h
  dj := fun i j c e h1 _ o1 _ _ => by
    rw [show (startD N ds).s = ds.map .d ++ List.replicate (N.length - ds.length) .no from rfl] at h1
    by_cases hi : i < ds.length
    · rw [List.getElem?_append_left (by simpa using hi), List.getElem?_map] at h1
      obtain ⟨d, _, rfl⟩ := Option.map_eq_some_iff.mp h1
      cases o1
    · rw [List.getElem?_append_right (by simpa using hi), List.getElem?_replicate] at h1
      split at h1
      · cases h1; cases o1
      · cases h1
  mo := mo
  bm := fun _ z => nomatch z
  sn := fun _ _ _ h => .inl h
  dm := fun _ h => h
  m0 := fun a h => ⟨h, mo a h⟩
  nl := fun _ => nl
  fl := fun a o kvs h => absurd h (nl a o kvs)
  xs := fun c w h H' dd sn n h0 hd => hx c w h H' dd (fun a o e => sn a o (fun z => nomatch z) e) n h0 hd
  b0 := fun _ => rfl
  ln := by
    unfold startD L2.start
    simp only [List.length_append, List.length_map, List.length_replicate, l.len]
theorem rep_startB {M : Addr → Prop} {H : Hp} {b : Addr} {vs : List V} {ds : List D} (hN : ds.length + 1 ≤ N.length) (hb : M b) (bo : BoxOk H b) (mo : ∀ p, M p → H p ≠ none) (l : RL K Z.C (era H M) vs ds) (nl : NL H) : Rep Z K ⟨H, some b, M, none⟩ M (start N (.ref b :: vs)) H (startB N ds) where
  sl := fun i c h => by
    rw [show (startB N ds).s = .bx :: (ds.map .d ++ List.replicate (N.length - ds.length - 1) .no) from rfl] at h
    cases i with
    | zero => simp at h; subst h; exact ⟨b, rfl, start_get (by simp)⟩
    | succ i =>
      rw [List.getElem?_cons_succ] at h
      by_cases hi : i < ds.length
      · rw [List.getElem?_append_left (by simpa using hi), List.getElem?_map] at h
        obtain ⟨d, h1, rfl⟩ := Option.map_eq_some_iff.mp h
        obtain ⟨v, h2, r⟩ := l.get h1
        exact ⟨v, start_get (by simpa using h2), r⟩
      · rw [List.getElem?_append_right (by simpa using hi), List.getElem?_replicate] at h
        split at h
        · cases h; trivial
        · cases h
  dj := fun i j c e h1 _ o1 _ _ => by
    rw [show (startB N ds).s = .bx :: (ds.map .d ++ List.replicate (N.length - ds.length - 1) .no) from rfl] at h1
    cases i with
    | zero => simp at h1; subst h1; cases o1
    | succ i =>
      rw [List.getElem?_cons_succ] at h1
      by_cases hi : i < ds.length
      · rw [List.getElem?_append_left (by simpa using hi), List.getElem?_map] at h1
        obtain ⟨d, _, rfl⟩ := Option.map_eq_some_iff.mp h1
        cases o1
      · rw [List.getElem?_append_right (by simpa using hi), List.getElem?_replicate] at h1
        split at h1
        · cases h1; cases o1
        · cases h1
  mo := mo
  bm := fun _ z => by cases z; exact ⟨hb, bo⟩
  sn := fun _ _ _ h => .inl h
  dm := fun _ h => h
  m0 := fun a h => ⟨h, mo a h⟩
  nl := fun _ => nl
  fl := fun a o kvs h => absurd h (nl a o kvs)
  xs := fun _ _ z => z.elim
  b0 := fun z => nomatch z
  ln := by
    unfold startB L2.start
    simp only [List.length_append, List.length_map, List.length_replicate, List.length_cons, l.len]
    omega
theorem pre_le {N ps : List Str} {sc : Scope} (S : FnScope N ps sc) : ps.length ≤ N.length := by
  have := congrArg List.length S.pre
  rw [List.length_take] at this
  omega
theorem eo_end {F : Fr} {M M0 : Addr → Prop} {H : Hp} {Q : VK} {q : D → Prop} (hF : F = ⟨H, none, M0, none⟩) (h : ∀ v H' d, Same H H' → NL H' → R K Z.C (era H' M0) v d → q d → Q v H') : EO Z K F M H { nx := fun ds' => ds'.nl = true ∧ q .non, rt := q } { nx := fun _ H' => Q .non H', rt := Q } := by
  subst hF
  have sn : ∀ M' σ' H' ds', Rep Z K ⟨H, none, M0, none⟩ M' σ' H' ds' → ds'.nl = true → Same H H' ∧ NL H' ∧ ∀ v d, R K Z.C (era H' M') v d → R K Z.C (era H' M0) v d := fun M' σ' H' ds' r hn =>
    ⟨fun a o e => (r.sn.sn (r.nl hn)) a o (fun z => nomatch z) e, r.nl hn, fun v d hv => hv.le (era_le (fun a m => (r.m0 a m).1) fun _ _ _ e => e)⟩
  refine ⟨fun M' σ' H' ds' r _ ⟨hn, z⟩ => ?_, fun _ _ _ _ _ _ z => z.elim, fun _ _ _ _ _ _ z => z.elim, fun M' σ' H' ds' v d r hn hv z => ?_⟩
  · obtain ⟨h1, h2, h3⟩ := sn _ _ _ _ r hn
    exact h _ _ _ h1 h2 .non z
  · obtain ⟨h1, h2, h3⟩ := sn _ _ _ _ r hn
    exact h _ _ _ h1 h2 (h3 _ _ hv) z
theorem eo_endB {F : Fr} {M M0 : Addr → Prop} {H : Hp} {b : Addr} {Q : VK} {q : D → Prop} (hF : F = ⟨H, some b, M0, none⟩) (h : ∀ v H' d, (∀ a o, a ≠ b → H a = some o → H' a = some o) → BoxOk H' b → NL H' → R K Z.C (era H' M0) v d → q d → Q v H') : EO Z K F M H { nx := fun ds' => ds'.nl = true ∧ q .non, rt := q } { nx := fun _ H' => Q .non H', rt := Q } := by
  subst hF
  have sn : ∀ M' σ' H' ds', Rep Z K ⟨H, some b, M0, none⟩ M' σ' H' ds' → ds'.nl = true → (∀ a o, a ≠ b → H a = some o → H' a = some o) ∧ BoxOk H' b ∧ NL H' ∧ ∀ v d, R K Z.C (era H' M') v d → R K Z.C (era H' M0) v d := fun M' σ' H' ds' r hn =>
    ⟨fun a o n e => (r.sn.sn (r.nl hn)) a o (fun z => n (Option.some.inj z).symm) e, (r.bm b rfl).2, r.nl hn, fun v d hv => hv.le (era_le (fun a m => (r.m0 a m).1) fun _ _ _ e => e)⟩
  refine ⟨fun M' σ' H' ds' r _ ⟨hn, z⟩ => ?_, fun _ _ _ _ _ _ z => z.elim, fun _ _ _ _ _ _ z => z.elim, fun M' σ' H' ds' v d r hn hv z => ?_⟩
  · obtain ⟨h1, h2, h3, h4⟩ := sn _ _ _ _ r hn
    exact h _ _ _ h1 h2 h3 .non z
  · obtain ⟨h1, h2, h3, h4⟩ := sn _ _ _ _ r hn
    exact h _ _ _ h1 h2 h3 (h4 _ _ hv) z
/-- the end of a body on data -/
abbrev endD (q : D → Prop) : DE := { nx := fun ds' => ds'.nl = true ∧ q .non, rt := q }
abbrev BodyP (P : Program) (w : World) (K : PySem.W.Frag) (mg : Str → Option Value) (base : Heap) (Z : ZZ) (N : List Str) (x : Str) (st : Stmt) (k : Nat) (f : SpD) : Prop :=
  ∀ (fa : Addr) (cdv : Value) (A : Around) (outer : List Env) (s : Shared) (H : Hp) (E : XK), Room k (A.deeper (envOfC x (defScope st) s.heap.objs.size fa cdv)) →
      ∃ W, SsJ Z (cxOf (L2.CX P w) P w K mg base N x (defScope st) fa cdv A outer s H E) (defBody st) W ∧ ∀ ds q, f ds q → W (endD q) (startD N ds)
theorem body_run {f : SpD} {fa : Addr} {cdv : Value} {A : Around} {outer : List Env} {s : Shared} {H : Hp} {E : XK} {vs : List V} {Q : VK} (hl : ∀ ds q, f ds q → ds.length ≤ N.length)
    (h : ∃ W, SsJ Z (cxOf (L2.CX P w) P w K mg base N x (defScope st) fa cdv A outer s H E) (defBody st) W ∧ ∀ ds q, f ds q → W (endD q) (startD N ds)) (hsp : spP Z.C K f vs H Q E) :
    ∃ t, PSs (cxOf (L2.CX P w) P w K mg base N x (defScope st) fa cdv A outer s H E) (defBody st) t ∧ t { nx := fun _ H' => Q .non H', rt := Q } (start N vs) H := by
  obtain ⟨W, hW, hw⟩ := h
  obtain ⟨t, p, g⟩ := hW.ex
  obtain ⟨M, ds, q, mo, l, nl, hf, k⟩ := hsp
  exact ⟨t, p, g _ M _ H _ _ _ (rep_start (x := fun _ _ => False) (hl ds q hf) mo l nl fun _ _ z => z.elim) (hw ds q hf) (eo_end rfl k)⟩
theorem clP_of {f : SpD} (D : Def K mg x st []) (S : FnScope N ps (defScope st)) (hb : BindAll x st ps) (len : ∀ ds q, f ds q → ds.length = ps.length) (hbody : BodyP P w K mg base Z N x st k f) : Cl P w K mg base (k + 1) x (spP Z.C K f) :=
  cl_of D S hb (fun vs H Q E ⟨M, ds, q, _, l, _, hf, _⟩ => by rw [l.len]; exact len ds q hf) fun fa cdv A outer s H vs Q E hr hsp =>
    body_run (fun ds q hf => by rw [len ds q hf]; exact pre_le S) (hbody fa cdv A outer s H E hr) hsp
theorem clP_of1 {f : SpD} {v : V} (D : Def K mg x st [v]) (S : FnScope N ps (defScope st)) (hb : BindAll1 x st ps) (len : ∀ ds q, f ds q → ds.length = ps.length) (hbody : BodyP P w K mg base Z N x st k f) : Cl P w K mg base (k + 1) x (spP Z.C K f) :=
  cl_of1 D S hb (fun vs H Q E ⟨M, ds, q, _, l, _, hf, _⟩ => by rw [l.len]; exact len ds q hf) fun fa cdv A outer s H vs Q E hr hsp =>
    body_run (fun ds q hf => by rw [len ds q hf]; exact pre_le S) (hbody fa cdv A outer s H E hr) hsp
theorem clPG_of {f : SpD} (D : Def K mg x st []) (S : FnScope N ps (defScope st)) (hb : BindAll x st ps) (len : ∀ ds q, f ds q → ds.length = ps.length)
    (hbody : ∀ (fa : Addr) (cdv : Value) (A : Around) (outer : List Env) (s : Shared) (H : Hp) (E : XK), Room k (A.deeper (envOfC x (defScope st) s.heap.objs.size fa cdv)) → A.guards = some [] →
      ∃ W, SsJ Z (cxOf (L2.CX P w) P w K mg base N x (defScope st) fa cdv A outer s H E) (defBody st) W ∧ ∀ ds q, f ds q → W (endD q) (startD N ds)) : ClG P w K mg base (k + 1) x (spP Z.C K f) :=
  clG_of D S hb (fun vs H Q E ⟨M, ds, q, _, l, _, hf, _⟩ => by rw [l.len]; exact len ds q hf) fun fa cdv A outer s H vs Q E hr hgd hsp =>
    body_run (fun ds q hf => by rw [len ds q hf]; exact pre_le S) (hbody fa cdv A outer s H E hr hgd) hsp
theorem body_runB {f : SpD} {fa : Addr} {cdv : Value} {A : Around} {outer : List Env} {s : Shared} {H : Hp} {E : XK} {vs : List V} {Q : VK} (hl : ∀ ds q, f ds q → ds.length + 1 ≤ N.length)
    (h : ∃ W, SsJ Z (cxOf (L2.CX P w) P w K mg base N x (defScope st) fa cdv A outer s H E) (defBody st) W ∧ ∀ ds q, f ds q → W (endD q) (startB N ds)) (hsp : spB Z.C K f vs H Q E) :
    ∃ t, PSs (cxOf (L2.CX P w) P w K mg base N x (defScope st) fa cdv A outer s H E) (defBody st) t ∧ t { nx := fun _ H' => Q .non H', rt := Q } (start N vs) H := by
  obtain ⟨W, hW, hw⟩ := h
  obtain ⟨t, p, g⟩ := hW.ex
  obtain ⟨M, b, us, ds, q, rfl, hb, bo, mo, l, nl, hf, k⟩ := hsp
  exact ⟨t, p, g _ M _ H _ _ _ (rep_startB (hl ds q hf) hb bo mo l nl) (hw ds q hf) (eo_endB rfl k)⟩
theorem clB_of {f : SpD} (D : Def K mg x st []) (S : FnScope N ps (defScope st)) (hb : BindAll x st ps) (len : ∀ ds q, f ds q → ds.length + 1 = ps.length)
    (hbody : ∀ (fa : Addr) (cdv : Value) (A : Around) (outer : List Env) (s : Shared) (H : Hp) (E : XK), Room k (A.deeper (envOfC x (defScope st) s.heap.objs.size fa cdv)) →
      ∃ W, SsJ Z (cxOf (L2.CX P w) P w K mg base N x (defScope st) fa cdv A outer s H E) (defBody st) W ∧ ∀ ds q, f ds q → W (endD q) (startB N ds)) : Cl P w K mg base (k + 1) x (spB Z.C K f) :=
  cl_of D S hb (fun vs H Q E ⟨M, b, us, ds, q, e, _, _, _, l, _, hf, _⟩ => by subst e; rw [List.length_cons, l.len]; exact len ds q hf) fun fa cdv A outer s H vs Q E hr hsp =>
    body_runB (fun ds q hf => by rw [len ds q hf]; exact pre_le S) (hbody fa cdv A outer s H E hr) hsp
theorem clBG_of {f : SpD} (D : Def K mg x st []) (S : FnScope N ps (defScope st)) (hb : BindAll x st ps) (len : ∀ ds q, f ds q → ds.length + 1 = ps.length)
    (hbody : ∀ (fa : Addr) (cdv : Value) (A : Around) (outer : List Env) (s : Shared) (H : Hp) (E : XK), Room k (A.deeper (envOfC x (defScope st) s.heap.objs.size fa cdv)) → A.guards = some [] →
      ∃ W, SsJ Z (cxOf (L2.CX P w) P w K mg base N x (defScope st) fa cdv A outer s H E) (defBody st) W ∧ ∀ ds q, f ds q → W (endD q) (startB N ds)) : ClG P w K mg base (k + 1) x (spB Z.C K f) :=
  clG_of D S hb (fun vs H Q E ⟨M, b, us, ds, q, e, _, _, _, l, _, hf, _⟩ => by subst e; rw [List.length_cons, l.len]; exact len ds q hf) fun fa cdv A outer s H vs Q E hr hgd hsp =>
    body_runB (fun ds q hf => by rw [len ds q hf]; exact pre_le S) (hbody fa cdv A outer s H E hr hgd) hsp
theorem clX_of {f : SpDX} (D : Def K mg x st []) (S : FnScope N ps (defScope st)) (hb : BindAll x st ps) (len : ∀ ds q x, f ds q x → ds.length = ps.length)
    (hbody : ∀ (fa : Addr) (cdv : Value) (A : Around) (outer : List Env) (s : Shared) (H : Hp) (E : XK), Room k (A.deeper (envOfC x (defScope st) s.heap.objs.size fa cdv)) →
      ∃ W, SsJ ⟨Z.C, Z.cls, E⟩ (cxOf (L2.CX P w) P w K mg base N x (defScope st) fa cdv A outer s H E) (defBody st) W ∧ ∀ ds q x, f ds q x → W (endD q) { startD N ds with x := x }) : Cl P w K mg base (k + 1) x (spX Z.C Z.cls K f) :=
  cl_of D S hb (fun vs H Q E ⟨M, ds, q, x, _, l, _, hf, _⟩ => by rw [l.len]; exact len ds q x hf) fun fa cdv A outer s H vs Q E hr hsp => by
    obtain ⟨W, hW, hw⟩ := hbody fa cdv A outer s H E hr
    obtain ⟨t, p, g⟩ := hW.ex
    obtain ⟨M, ds, q, xx, mo, l, nl, hf, k, kx⟩ := hsp
    exact ⟨t, p, g _ M _ H _ _ _ (rep_start (Z := ⟨Z.C, Z.cls, E⟩) (x := xx) (by rw [len ds q xx hf]; exact pre_le S) mo l nl fun c w z H' dd h n h0 hd => kx c w H' dd h n h0 hd z) (hw ds q xx hf) (eo_end rfl k)⟩
end
end G78
namespace G78
open PySem PySem.Spec PyProof.Rows L2
section
variable {Z : ZZ} {K : PySem.W.Frag} {F : Fr} {M M' : Addr → Prop} {σ : L2.St} {H H' H1 : Hp} {ds : DS} {X : Cx} {v : V} {d : D} {p : Addr} {m : Md} {e a b : Expr} {pos : Pos} {x y : Str} {pp : Pos} {es : List Expr} {st : Stmt} {sts : List Stmt} {A B W : TW} {i j : Nat}
/-! ### short words for the printed terms -/
theorem n_ (i : Nat) (hN : X.N[i]? = some x := by rfl) (hv : Vis X.env.scope x := by first | exact .inl rfl | exact .inr (.inl rfl) | exact .inr (.inr rfl)) (hd : (x == ("__debug__" : Str)) = false := by decide) (hcd : (x == ("__classdict__" : Str)) = false := by decide) : EJ Z .d X (.Name x pos) (wNm i) := ej_nm hN hv hd hcd
theorem r_ (i : Nat) (hN : X.N[i]? = some x := by rfl) (hv : Vis X.env.scope x := by first | exact .inl rfl | exact .inr (.inl rfl) | exact .inr (.inr rfl)) (hd : (x == ("__debug__" : Str)) = false := by decide) (hcd : (x == ("__classdict__" : Str)) = false := by decide) : EJ Z .r X (.Name x pos) (wNmR i) := ej_nmR hN hv hd hcd
theorem p_ (i : Nat) (hN : X.N[i]? = some x := by rfl) (hv : Vis X.env.scope x := by first | exact .inl rfl | exact .inr (.inl rfl) | exact .inr (.inr rfl)) (hd : (x == ("__debug__" : Str)) = false := by decide) (hcd : (x == ("__classdict__" : Str)) = false := by decide) : PJ Z X (.Name x pos) (fun ds d => ds.s[i]? = some (.d d)) := pj_nm hN hv hd hcd
theorem g_ (i : Nat) (hN : X.N.Nodup) (hi : X.N[i]? = some x := by rfl) (hx : Loc X.env.scope x := by first | exact .inl rfl | exact .inr rfl) (hf : X.fn x = true ∨ X.env.scope.names.lookup x = some .local := by first | exact .inl rfl | exact .inr rfl) : GJ Z X (.Name x pos) [i] (wGn i) := gj_name hN hi hx hf
theorem pg_ (i : Nat) (hN : X.N.Nodup) (hi : X.N[i]? = some x := by rfl) (hx : Loc X.env.scope x := by first | exact .inl rfl | exact .inr rfl) (hf : X.fn x = true ∨ X.env.scope.names.lookup x = some .local := by first | exact .inl rfl | exact .inr rfl) : PG X (.Name x pos) (gName i) := pg_name hN hi hx hf
/-- a constant of the text -/
theorem ej_gI {n : Int} (hg : Gl X x) (hm : ∃ u, X.mg x = some u ∧ RelV (.int n) u) (hd : (x == ("__debug__" : Str)) = false := by decide) : EJ Z .d X (.Name x pos) (wC (.int n)) := by
  obtain ⟨u, h1, h2⟩ := hm
  exact ej_gint hg h1 h2 hd
theorem ej_gS {n : Str} (hg : Gl X x) (hm : ∃ u, X.mg x = some u ∧ RelV (.str n) u) (hd : (x == ("__debug__" : Str)) = false := by decide) : EJ Z .d X (.Name x pos) (wC (.str n)) := by
  obtain ⟨u, h1, h2⟩ := hm
  exact ej_gstr hg h1 h2 hd
@[simp] def wNever : TWS := fun _ _ => False
theorem sj_never : SJ Z X st wNever := ⟨_, ps_never, fun F M σ H ds k E r w o => w.elim⟩
@[simp] def wRetN : TWS := fun k ds => ds.nl = true ∧ k.rt .non
theorem sj_retN : SJ Z X (.Return none pos) wRetN := ⟨_, ps_retN, fun F M σ H ds k E r w o => o.rt _ σ _ ds _ _ r w.1 .non w.2⟩
/-! ### the box read and written -/
@[simp] def wBxGet (i : Nat) : TW := fun ds q => ds.s[i]? = some .bx ∧ ∀ n : Int, q (.int n)
theorem ej_bxget {i n : Nat} {k0 : Option String} {px p2 : Pos} {nn : Int} (hN : X.N[i]? = some x) (hv : Vis X.env.scope x) (hn : nn = 0 ∨ nn = 1 ∨ nn = 2) {kk}
    (hd : (x == ("__debug__" : Str)) = false := by decide) (hcd : (x == ("__classdict__" : Str)) = false := by decide) : EJ Z .d X (.Subscript (.Name x px) (.Constant (.int nn) kk p2) pos) (wBxGet i) := by
  refine ⟨_, pe_ix ix_list (pe_var hN hv hd hcd) pe_int (fun _ _ => rfl), fun F M σ H ds q Q r ⟨hi, w⟩ k => ?_⟩
  obtain ⟨b, hb, h1⟩ := r.sl i _ hi
  obtain ⟨x, y, z, h2⟩ := (r.bm b hb).2
  rcases hn with rfl | rfl | rfl
  · exact ⟨.ref b, h1, b, _, 0, .int x, rfl, rfl, .of h2, rfl, k _ _ _ (.refl F H) (.int x) (w x)⟩
  · exact ⟨.ref b, h1, b, _, 1, .int y, rfl, rfl, .of h2, rfl, k _ _ _ (.refl F H) (.int y) (w y)⟩
  · exact ⟨.ref b, h1, b, _, 2, .int z, rfl, rfl, .of h2, rfl, k _ _ _ (.refl F H) (.int z) (w z)⟩
theorem Rep.bxput (r : Rep Z K F M σ H ds) {b : Addr} (hb : F.bx = some b) (x y z : Int) : Rep Z K F M σ (upd H b (.lst [.int x, .int y, .int z])) ds ∧ Keep M H M (upd H b (.lst [.int x, .int y, .int z])) := by
  have m := (r.bm b hb).1
  have l := le_upd (H := H) (o := .lst [.int x, .int y, .int z]) m
  refine ⟨⟨fun i c e => ?_, r.dj, fun a n => ?_, fun b' e => ⟨(r.bm b' e).1, ?_⟩, fun a u n e => ?_, fun a n => ?_, r.m0, fun z a q kvs e => ?_, fun a q kvs e => ?_, r.xs, r.b0, r.ln⟩, keep_upd m⟩
  · have s := r.sl i c e
    cases c with
    | no => trivial
    | d d => obtain ⟨y, e, r⟩ := s; exact ⟨y, e, r.le l⟩
    | l xs => obtain ⟨q, vs, e', m, b', n, h, r'⟩ := s; exact ⟨q, vs, e', m, b', n, by rw [upd_ne (fun z : q = b => b' (z ▸ hb))]; exact h, RL.le l _ _ r'⟩
    | k kds => obtain ⟨q, vs, e', m, b', n, h, r'⟩ := s; exact ⟨q, vs, e', m, b', n, by rw [upd_ne (fun z : q = b => b' (z ▸ hb))]; exact h, RK.le l _ _ r'⟩
    | bx => exact s
  · by_cases h : a = b
    · subst h; rw [upd_same]; exact Option.some_ne_none _
    · rw [upd_ne h]; exact r.mo a n
  · rw [hb] at e; cases e; exact ⟨x, y, z, upd_same⟩
  · rw [upd_ne (fun q : a = b => n (q ▸ hb))]
    exact r.sn a u n e
  · by_cases h : a = b
    · subst h; rw [upd_same]; exact Option.some_ne_none _
    · rw [upd_ne h]; exact r.dm a n
  · by_cases h : a = b
    · subst h; rw [upd_same] at e; cases e
    · rw [upd_ne h] at e; exact r.nl z a q kvs e
  · by_cases h : a = b
    · subst h; rw [upd_same] at e; cases e
    · rw [upd_ne h] at e; exact r.fl a q kvs e
@[simp] def wBxPut (i : Nat) (A : TW) : TWS := fun k ds => ds.s[i]? = some .bx ∧ A ds fun d => ∃ n, d = .int n ∧ k.nx ds
theorem sj_bxput {px p2 : Pos} {nn : Int} {kk} (hN : X.N[i]? = some x) (hv : Vis X.env.scope x) (hn : nn = 0 ∨ nn = 1 ∨ nn = 2) (he : EJ Z .d X e A)
    (hd : (x == ("__debug__" : Str)) = false := by decide) (hcd : (x == ("__classdict__" : Str)) = false := by decide)
    (hs : swapsWithSole [.Subscript (.Name x px) (.Constant (.int nn) kk p2) pp] e pos.line X.env = pure false := by rfl) (hw : swappedStores [.Subscript (.Name x px) (.Constant (.int nn) kk p2) pp] e X.env = pure none := by rfl) :
    SJ Z X (.Assign [.Subscript (.Name x px) (.Constant (.int nn) kk p2) pp] e pos) (wBxPut i A) := by
  obtain ⟨t, pe, g⟩ := he.ex
  refine ⟨_, ps_asg pe (pg_sub (pe_var hN hv hd hcd) pe_int set_list (by intro _; rfl)) hs hw (by rfl), fun F M σ H ds k E r ⟨hi, w⟩ o => g F M σ H ds _ _ r w fun v H1 d x1 s ⟨n, e1, z⟩ => ?_⟩
  subst e1
  cases s
  have r1 := r.ext x1
  obtain ⟨b, hb, h1⟩ := r1.sl i _ hi
  obtain ⟨x, y, z', h2⟩ := (r1.bm b hb).2
  rcases hn with rfl | rfl | rfl
  · obtain ⟨r2, kp⟩ := r1.bxput hb n y z'
    exact ⟨.ref b, h1, b, _, 0, 0, rfl, rfl, h2, rfl, o.nx _ _ _ _ r2 ((Keep.ext r x1).trans kp) z⟩
  · obtain ⟨r2, kp⟩ := r1.bxput hb x n z'
    exact ⟨.ref b, h1, b, _, 1, 1, rfl, rfl, h2, rfl, o.nx _ _ _ _ r2 ((Keep.ext r x1).trans kp) z⟩
  · obtain ⟨r2, kp⟩ := r1.bxput hb x y n
    exact ⟨.ref b, h1, b, _, 2, 2, rfl, rfl, h2, rfl, o.nx _ _ _ _ r2 ((Keep.ext r x1).trans kp) z⟩
/-! ### a call by keywords alone -/
structure AKJ (Z : ZZ) (X : Cx) (ks : List Keyword) (W : TWA) : Prop where
  ex : ∃ t, PK X ks t ∧ ∀ F M σ H ds (q : List D → Prop) (Q : List V → Hp → Prop), Rep Z X.K F M σ H ds → W ds q → (∀ vs H' xs, Ext F H H' → RL X.K Z.C (era H' M) vs xs → q xs → Q vs H') → t σ H Q
end
end G78
namespace G78
open PySem PySem.Spec PyProof.Rows L2
/-! ### try -/
section
variable {Z : ZZ} {X : Cx} {e c : Expr} {pos p1 p2 p3 p4 : Pos} {i : Nat} {st : Stmt} {sts body a b : List Stmt} {n : Str}
abbrev TWB := DE → DS → (Nat → Str → Prop) → Prop
/-- what a try holds -/
structure TbJ (Z : ZZ) (X : Cx) (body : List Stmt) (W : TWB) : Prop where
  ex : ∀ WW : WX, Takes X WW → ∃ t, PSs X body t ∧ ∀ F M σ H ds k E x, Rep Z X.K F M σ H ds → W k ds x → EO Z X.K F M H k E →
    (∀ c w H' dd, Ext F H H' → NL H' → H dd = none → H' dd = some (.xd [("word", .str w)]) → x c w → WW (.ref (Z.cls c)) (some dd) σ H') → t E σ H
@[simp] def wTb (W : TWX) : TWB := fun k ds x => W ds (fun _ => k.nx ds) x
theorem tb_call {W : TWX} (h : XJ Z X e W) (hs : swapsWith e none pos.line X.env = pure false := by rfl) : TbJ Z X [.Expr e pos] (wTb W) := by
  refine ⟨fun WW tk => ?_⟩
  obtain ⟨t, p, g⟩ := h.ex WW tk
  exact ⟨_, pss_one (ps_expr p hs), fun F M σ H ds k E x r w o hx => g F M σ H ds (fun _ => k.nx ds) x _ r w (fun v H' d x1 s z => o.nx _ _ _ _ (r.ext x1) (.ext r x1) z) hx⟩
@[simp] def wTbS (W : TWX) (B : TWS) : TWB := fun k ds x => W ds (fun _ => B k ds) x
theorem tb_cons {W : TWX} {B : TWS} (h : XJ Z X e W) (h2 : SsJ Z X sts B) (hs : swapsWith e none pos.line X.env = pure false := by rfl) : TbJ Z X (.Expr e pos :: sts) (wTbS W B) := by
  refine ⟨fun WW tk => ?_⟩
  obtain ⟨t, p, g⟩ := h.ex WW tk
  obtain ⟨t2, p2, g2⟩ := h2.ex
  exact ⟨_, pss_cons (ps_expr p hs) p2, fun F M σ H ds k E x r w o hx => g F M σ H ds (fun _ => B k ds) x _ r w (fun v H' d x1 s z => g2 F M σ H' ds k E (r.ext x1) z (o.keep (.ext r x1))) hx⟩
@[simp] def wTbI (C : TWT) (A B : TWB) : TWB := fun k ds x => C ds fun b => if b = true then A k ds x else B k ds x
theorem tb_if {C : TWT} {A B : TWB} (hc : TJ Z X c C) (ha : TbJ Z X a A) (hb : TbJ Z X b B) : TbJ Z X [.If c a b pos] (wTbI C A B) := by
  refine ⟨fun WW tk => ?_⟩
  obtain ⟨tc, pc, gc⟩ := hc.ex
  obtain ⟨ta, pa, ga⟩ := ha.ex WW tk
  obtain ⟨tb, pb, gb⟩ := hb.ex WW tk
  refine ⟨_, pss_one (ps_if pc pa pb), fun F M σ H ds k E x r w o hx => gc F M σ H ds _ _ r w fun c H1 x1 w1 => ?_⟩
  have hx' : ∀ c w H' dd, Ext F H1 H' → NL H' → H1 dd = none → H' dd = some (.xd [("word", .str w)]) → x c w → WW (.ref (Z.cls c)) (some dd) σ H' := fun c w H' dd x2 n hd he z => hx c w H' dd (x1.trans x2) n (r.back x1 dd hd) he z
  cases c with
  | true => exact ga F M σ H1 ds k E x (r.ext x1) w1 (o.keep (.ext r x1)) hx'
  | false => exact gb F M σ H1 ds k E x (r.ext x1) w1 (o.keep (.ext r x1)) hx'
/-- what a clause does with the exception's word -/
structure HxJ (Z : ZZ) (X : Cx) (a dd : Addr) (i : Nat) (sts : List Stmt) (W : Str → TWS) : Prop where
  ex : ∃ t, PSs X sts t ∧ ∀ F M σ H ds k E w, Rep Z X.K F M σ H ds → σ[i]? = some (some (.ref a)) → H dd = some (.xd [("word", .str w)]) → W w k ds → EO Z X.K F M H k E → t E σ H
section
variable {C av dd : Addr} {oe : Obj} {pn : List (Addr × Obj)}
@[simp] def wHRet : Str → TWS := fun w k ds => ds.nl = true ∧ k.rt (.str w)
theorem hx_ret (T : XfC X.K C) (hno : PySem.W.findIn X.K (.ref C) "word" = some none) (hz : Zc (.ref C) (some dd) oe) (hf : ∃ vs, oe.data = .fields vs) (hN : X.N[i]? = some n) (hv : Vis X.env.scope n)
    (hd : (n == ("__debug__" : Str)) = false := by decide) (hcd : (n == ("__classdict__" : Str)) = false := by decide) (hb : attributeBase (.Name n p1) "word" X.env (eval (.Name n p1) X.env) = eval (.Name n p1) X.env := by rfl) :
    HxJ Z (X.suite av ((av, oe) :: pn)) av dd i [.Return (some (.Attribute (.Name n p1) "word" p2)) p3] wHRet :=
  ⟨_, pss_one (ps_ret (pe_xf T hno hz hf (pe_var (X := X.suite av ((av, oe) :: pn)) hN hv hd hcd) hb)), fun F M σ H ds k E w r hσ he wv o =>
    ⟨.ref av, hσ, rfl, rfl, dd, _, .str w, rfl, he, rfl, o.rt _ σ _ ds _ _ r wv.1 (.str w) wv.2⟩⟩
@[simp] def wHCat (c : Str) : Str → TWS := fun w k ds => ds.nl = true ∧ c.length + w.length ≤ sizeLine ∧ k.rt (.str (c ++ w))
theorem hx_cat {c : Str} {kk} {p5 : Pos} (T : XfC X.K C) (hno : PySem.W.findIn X.K (.ref C) "word" = some none) (hz : Zc (.ref C) (some dd) oe) (hf : ∃ vs, oe.data = .fields vs) (hN : X.N[i]? = some n) (hv : Vis X.env.scope n)
    (hd : (n == ("__debug__" : Str)) = false := by decide) (hcd : (n == ("__classdict__" : Str)) = false := by decide) (hb : attributeBase (.Name n p1) "word" X.env (eval (.Name n p1) X.env) = eval (.Name n p1) X.env := by rfl) :
    HxJ Z (X.suite av ((av, oe) :: pn)) av dd i [.Return (some (.BinOp (.Constant (.str c) kk p4) .Add (.Attribute (.Name n p1) "word" p2) p5)) p3] (wHCat c) :=
  ⟨_, pss_one (ps_ret (pe_op op_add_str pe_str (pe_xf T hno hz hf (pe_var (X := X.suite av ((av, oe) :: pn)) hN hv hd hcd) hb))), fun F M σ H ds k E w r hσ he wv o =>
    ⟨.ref av, hσ, rfl, rfl, dd, _, .str w, rfl, he, rfl, c, w, rfl, rfl, wv.2.1, o.rt _ σ _ ds _ _ r wv.1 (.str _) wv.2.2⟩⟩
@[simp] def wHNe (c : Str) (b : Bool) : Str → TWS := fun w k ds => if w = c then k.nx ds else ds.nl = true ∧ k.rt (.bl b)
theorem hx_ne {c : Str} {b : Bool} {kk kb} {p5 p6 p7 : Pos} (T : XfC X.K C) (hno : PySem.W.findIn X.K (.ref C) "word" = some none) (hz : Zc (.ref C) (some dd) oe) (hf : ∃ vs, oe.data = .fields vs) (hN : X.N[i]? = some n) (hv : Vis X.env.scope n) (hm : behindInMarks .NotEq (.Constant (.str c) kk p4) = false)
    (hd : (n == ("__debug__" : Str)) = false := by decide) (hcd : (n == ("__classdict__" : Str)) = false := by decide) (hb : attributeBase (.Name n p1) "word" X.env (eval (.Name n p1) X.env) = eval (.Name n p1) X.env := by rfl) :
    HxJ Z (X.suite av ((av, oe) :: pn)) av dd i [.If (.Compare (.Attribute (.Name n p1) "word" p2) [.NotEq] [.Constant (.str c) kk p4] p5) [.Return (some (.Constant (.bool b) kb p6)) p7] [] p3] (wHNe c b) :=
  ⟨_, pss_one (ps_if (pt_cmpR op_ne (pe_xf T hno hz hf (pe_var (X := X.suite av ((av, oe) :: pn)) hN hv hd hcd) hb) pe_str hm) (pss_one (ps_ret pe_bl)) pss_nil), fun F M σ H ds k E w r hσ he wv o => by
    refine ⟨.ref av, hσ, rfl, rfl, dd, _, .str w, rfl, he, rfl, rfl, _, rfl, ?_⟩
    by_cases h : w = c
    · have wv : k.nx ds := by simpa [h] using wv
      have e : (!decide (V.str w = V.str c)) = false := by simp [h]
      rw [e]
      exact o.nx _ _ _ _ r (.refl M H) wv
    · have wv : ds.nl = true ∧ k.rt (.bl b) := by simpa [h] using wv
      have e : (!decide (V.str w = V.str c)) = true := by simp [h]
      rw [e]
      exact o.rt _ σ _ ds _ _ r wv.1 (.bl b) wv.2⟩
end
/-- behind a clause: its name is gone -/
@[simp] def DE.gone (k : DE) (i : Nat) : DE := { nx := fun ds' => k.nx (ds'.set i .no), rt := k.rt, bk := fun ds' => k.bk (ds'.set i .no), ct := fun ds' => k.ct (ds'.set i .no) }
theorem eo_gone {K : PySem.W.Frag} {F : Fr} {M : Addr → Prop} {H H' : Hp} {σ : L2.St} {ds : DS} {k : DE} {D : Ends} (r : Rep Z K F M σ H ds) (x : Ext F H H') (o : EO Z K F M H k D) : EO Z K F M H' (k.gone i) (gone i D) :=
  ⟨fun _ _ _ _ r' kp z => o.nx _ _ _ _ r'.setN ((Keep.ext r x).trans kp) z, fun _ _ _ _ r' kp z => o.bk _ _ _ _ r'.setN ((Keep.ext r x).trans kp) z, fun _ _ _ _ r' kp z => o.ct _ _ _ _ r'.setN ((Keep.ext r x).trans kp) z, o.rt⟩
@[simp] def wTry2 (i : Nat) (B : TWB) (W1 W2 : Str → TWS) : TWS := fun k ds => i < ds.s.length ∧ B k ds fun c w => (c = 0 ∧ W1 w (k.gone i) (ds.set i .no)) ∨ (c = 1 ∧ W2 w (k.gone i) (ds.set i .no))
theorem sj_try2 {x1 x2 : Str} {b1 b2 : Stmt} {su1 su2 : List Stmt} {np1 np2 pos1 pos2 : Pos} {B : TWB} {W1 W2 : Str → TWS} (hs : X.stack = X.env :: X.outer) (hf : X.env.frame = some X.env.locals) (hN : X.N.Nodup) (hi : X.N[i]? = some n) (hln : X.env.kindOf n = some .local)
    (hc1 : Names X x1 (.ref (Z.cls 0))) (hc2 : Names X x2 (.ref (Z.cls 1))) (e00 : PySem.W.exmOne X.K (.ref (Z.cls 0)) (.ref (Z.cls 0)) = some true) (e10 : PySem.W.exmOne X.K (.ref (Z.cls 1)) (.ref (Z.cls 0)) = some false) (e11 : PySem.W.exmOne X.K (.ref (Z.cls 1)) (.ref (Z.cls 1)) = some true)
    (hb : ∀ pn xe, TbJ Z (X.tr pn xe) body B)
    (h1 : ∀ (av dd : Addr) (oe : Obj) (pn : List (Addr × Obj)), Zc (.ref (Z.cls 0)) (some dd) oe → (∃ vs, oe.data = .fields vs) → HxJ Z (X.suite av ((av, oe) :: pn)) av dd i (b1 :: su1) W1)
    (h2 : ∀ (av dd : Addr) (oe : Obj) (pn : List (Addr × Obj)), Zc (.ref (Z.cls 1)) (some dd) oe → (∃ vs, oe.data = .fields vs) → HxJ Z (X.suite av ((av, oe) :: pn)) av dd i (b2 :: su2) W2) :
    SJ Z X (.Try body [.ExceptHandler (some (.Name x1 np1)) (some n) (b1 :: su1) pos1, .ExceptHandler (some (.Name x2 np2)) (some n) (b2 :: su2) pos2] [] [] pos) (wTry2 i B W1 W2) := by
  refine ⟨_, ps_try_two hs hf hN hi hln hc1 hc2 (tb := fun WW E σ H => ∀ pn xe, Takes (X.tr pn xe) WW → ∃ t, PSs (X.tr pn xe) body t ∧ t E σ H)
    (t1 := fun av cls d E σ H => ∀ oe pn, Zc cls d oe → (∃ vs, oe.data = .fields vs) → ∃ t, PSs (X.suite av ((av, oe) :: pn)) (b1 :: su1) t ∧ t E σ H)
    (t2 := fun av cls d E σ H => ∀ oe pn, Zc cls d oe → (∃ vs, oe.data = .fields vs) → ∃ t, PSs (X.suite av ((av, oe) :: pn)) (b2 :: su2) t ∧ t E σ H)
    (fun W pn xe tk _ => ⟨fun pins s σ H D I h => by obtain ⟨t, p, ht⟩ := h pn xe tk; exact p.run pins s σ H D I ht⟩)
    (fun a oe cls d pn hz hf => ⟨fun pins s σ H D I h => by obtain ⟨t, p, ht⟩ := h oe pn hz hf; exact p.run pins s σ H D I ht⟩)
    (fun a oe cls d pn hz hf => ⟨fun pins s σ H D I h => by obtain ⟨t, p, ht⟩ := h oe pn hz hf; exact p.run pins s σ H D I ht⟩), fun F M σ H ds k E r ⟨hil, w⟩ o pn xe tk => ?_⟩
  obtain ⟨t, p, g⟩ := (hb pn xe).ex _ tk
  refine ⟨t, p, g F M σ H ds k E _ r w o fun c w H' dd x1 n1 hd he z => ?_⟩
  have hσ : ∀ v, (σ.set i v)[i]? = some v := fun v => List.getElem?_set_self (by rw [← r.ln]; exact hil)
  have r1 : ∀ v, Rep Z X.K F M (σ.set i v) H' (ds.set i .no) := fun v => (r.ext x1).set1 rfl fun _ => trivial
  rcases z with ⟨rfl, z⟩ | ⟨rfl, z⟩
  · refine .inl ⟨e00, fun a ha oe pn2 hz hf2 => ?_⟩
    obtain ⟨t1, p1, g1⟩ := (h1 a dd oe pn2 hz hf2).ex
    exact ⟨t1, p1, g1 F M _ H' _ _ _ w (r1 _) (hσ _) he z (eo_gone r x1 o)⟩
  · refine .inr ⟨e10, e11, fun a ha oe pn2 hz hf2 => ?_⟩
    obtain ⟨t1, p1, g1⟩ := (h2 a dd oe pn2 hz hf2).ex
    exact ⟨t1, p1, g1 F M _ H' _ _ _ w (r1 _) (hσ _) he z (eo_gone r x1 o)⟩
@[simp] def wTry1 (i : Nat) (B : TWB) (W1 : Str → TWS) : TWS := fun k ds => i < ds.s.length ∧ B k ds fun c w => c = 0 ∧ W1 w (k.gone i) (ds.set i .no)
theorem sj_try1 {x1 : Str} {b1 : Stmt} {su1 : List Stmt} {np1 pos1 : Pos} {B : TWB} {W1 : Str → TWS} (hs : X.stack = X.env :: X.outer) (hf : X.env.frame = some X.env.locals) (hN : X.N.Nodup) (hi : X.N[i]? = some n) (hln : X.env.kindOf n = some .local)
    (hc1 : Names X x1 (.ref (Z.cls 0))) (e00 : PySem.W.exmOne X.K (.ref (Z.cls 0)) (.ref (Z.cls 0)) = some true)
    (hb : ∀ pn xe, TbJ Z (X.tr pn xe) body B)
    (h1 : ∀ (av dd : Addr) (oe : Obj) (pn : List (Addr × Obj)), Zc (.ref (Z.cls 0)) (some dd) oe → (∃ vs, oe.data = .fields vs) → HxJ Z (X.suite av ((av, oe) :: pn)) av dd i (b1 :: su1) W1) :
    SJ Z X (.Try body [.ExceptHandler (some (.Name x1 np1)) (some n) (b1 :: su1) pos1] [] [] pos) (wTry1 i B W1) := by
  refine ⟨_, ps_try_as hs hf hN hi hln hc1 (L2.takes0) (tb := fun WW E σ H => ∀ pn xe, Takes (X.tr pn xe) WW → ∃ t, PSs (X.tr pn xe) body t ∧ t E σ H)
    (ts := fun av cls d E σ H => ∀ oe pn, Zc cls d oe → (∃ vs, oe.data = .fields vs) → ∃ t, PSs (X.suite av ((av, oe) :: pn)) (b1 :: su1) t ∧ t E σ H)
    (fun W pn xe tk _ => ⟨fun pins s σ H D I h => by obtain ⟨t, p, ht⟩ := h pn xe tk; exact p.run pins s σ H D I ht⟩)
    (fun a oe cls d pn hz hf => ⟨fun pins s σ H D I h => by obtain ⟨t, p, ht⟩ := h oe pn hz hf; exact p.run pins s σ H D I ht⟩), fun F M σ H ds k E r ⟨hil, w⟩ o pn xe tk => ?_⟩
  obtain ⟨t, p, g⟩ := (hb pn xe).ex _ tk
  refine ⟨t, p, g F M σ H ds k E _ r w o fun c w H' dd x1 n1 hd he z => ?_⟩
  have hσ : ∀ v, (σ.set i v)[i]? = some v := fun v => List.getElem?_set_self (by rw [← r.ln]; exact hil)
  have r1 : ∀ v, Rep Z X.K F M (σ.set i v) H' (ds.set i .no) := fun v => (r.ext x1).set1 rfl fun _ => trivial
  obtain ⟨rfl, z⟩ := z
  refine ⟨true, e00, fun _ a ha oe pn2 hz hf2 => ?_, nofun⟩
  obtain ⟨t1, p1, g1⟩ := (h1 a dd oe pn2 hz hf2).ex
  exact ⟨t1, p1, g1 F M _ H' _ _ _ w (r1 _) (hσ _) he z (eo_gone r x1 o)⟩
end
end G78
namespace G78
open PySem PySem.Spec PyProof.Rows L2
abbrev N_is_integer : List Str := ["value"]
abbrev P_is_integer : List Str := ["value"]
theorem sc_is_integer : FnScope N_is_integer P_is_integer (defScope st_is_integer) := ⟨rfl, rfl, rfl, by decide +kernel, rfl, by decide +kernel, by decide +kernel⟩
abbrev N_is_number : List Str := ["value"]
abbrev P_is_number : List Str := ["value"]
theorem sc_is_number : FnScope N_is_number P_is_number (defScope st_is_number) := ⟨rfl, rfl, rfl, by decide +kernel, rfl, by decide +kernel, by decide +kernel⟩
abbrev N_is_below : List Str := ["value", "bound"]
abbrev P_is_below : List Str := ["value", "bound"]
theorem sc_is_below : FnScope N_is_below P_is_below (defScope st_is_below) := ⟨rfl, rfl, rfl, by decide +kernel, rfl, by decide +kernel, by decide +kernel⟩
abbrev N_is_letter : List Str := ["sign"]
abbrev P_is_letter : List Str := ["sign"]
theorem sc_is_letter : FnScope N_is_letter P_is_letter (defScope st_is_letter) := ⟨rfl, rfl, rfl, by decide +kernel, rfl, by decide +kernel, by decide +kernel⟩
abbrev N_is_name : List Str := ["value", "sign"]
abbrev P_is_name : List Str := ["value"]
theorem sc_is_name : FnScope N_is_name P_is_name (defScope st_is_name) := ⟨rfl, rfl, rfl, by decide +kernel, rfl, by decide +kernel, by decide +kernel⟩
abbrev N_is_row : List Str := ["value", "size", "bound", "item"]
abbrev P_is_row : List Str := ["value", "size", "bound"]
theorem sc_is_row : FnScope N_is_row P_is_row (defScope st_is_row) := ⟨rfl, rfl, rfl, by decide +kernel, rfl, by decide +kernel, by decide +kernel⟩
abbrev N_is_listing : List Str := ["value", "bound", "item"]
abbrev P_is_listing : List Str := ["value", "bound"]
theorem sc_is_listing : FnScope N_is_listing P_is_listing (defScope st_is_listing) := ⟨rfl, rfl, rfl, by decide +kernel, rfl, by decide +kernel, by decide +kernel⟩
abbrev N_ends_clash : List Str := ["one", "other", "state"]
abbrev P_ends_clash : List Str := ["one", "other", "state"]
theorem sc_ends_clash : FnScope N_ends_clash P_ends_clash (defScope st_ends_clash) := ⟨rfl, rfl, rfl, by decide +kernel, rfl, by decide +kernel, by decide +kernel⟩
abbrev N_is_told_otherwise : List Str := ["one", "other", "state"]
abbrev P_is_told_otherwise : List Str := ["one", "other", "state"]
theorem sc_is_told_otherwise : FnScope N_is_told_otherwise P_is_told_otherwise (defScope st_is_told_otherwise) := ⟨rfl, rfl, rfl, by decide +kernel, rfl, by decide +kernel, by decide +kernel⟩
abbrev N_answers_clash : List Str := ["one", "other", "state"]
abbrev P_answers_clash : List Str := ["one", "other", "state"]
theorem sc_answers_clash : FnScope N_answers_clash P_answers_clash (defScope st_answers_clash) := ⟨rfl, rfl, rfl, by decide +kernel, rfl, by decide +kernel, by decide +kernel⟩
abbrev N_kinds_at : List Str := ["one", "other", "state", "kinds"]
abbrev P_kinds_at : List Str := ["one", "other", "state"]
theorem sc_kinds_at : FnScope N_kinds_at P_kinds_at (defScope st_kinds_at) := ⟨rfl, rfl, rfl, by decide +kernel, rfl, by decide +kernel, by decide +kernel⟩
abbrev N_clash_anywhere : List Str := ["one", "other", "state"]
abbrev P_clash_anywhere : List Str := ["one", "other"]
theorem sc_clash_anywhere : FnScope N_clash_anywhere P_clash_anywhere (defScope st_clash_anywhere) := ⟨rfl, rfl, rfl, by decide +kernel, rfl, by decide +kernel, by decide +kernel⟩
abbrev N_check_state : List Str := ["store", "value"]
abbrev P_check_state : List Str := ["store", "value"]
theorem sc_check_state : FnScope N_check_state P_check_state (defScope st_check_state) := ⟨rfl, rfl, rfl, by decide +kernel, rfl, by decide +kernel, by decide +kernel⟩
abbrev N_need_office : List Str := ["store", "office"]
abbrev P_need_office : List Str := ["store", "office"]
theorem sc_need_office : FnScope N_need_office P_need_office (defScope st_need_office) := ⟨rfl, rfl, rfl, by decide +kernel, rfl, by decide +kernel, by decide +kernel⟩
abbrev N_need_offices : List Str := ["store", "offices"]
abbrev P_need_offices : List Str := ["store", "offices"]
theorem sc_need_offices : FnScope N_need_offices P_need_offices (defScope st_need_offices) := ⟨rfl, rfl, rfl, by decide +kernel, rfl, by decide +kernel, by decide +kernel⟩
abbrev N_operations_of : List Str := ["store", "offices", "office", "operation"]
abbrev P_operations_of : List Str := ["store", "offices"]
theorem sc_operations_of : FnScope N_operations_of P_operations_of (defScope st_operations_of) := ⟨rfl, rfl, rfl, by decide +kernel, rfl, by decide +kernel, by decide +kernel⟩
abbrev N_distances : List Str := ["store", "state", "offices", "operations", "far", "queue", "at", "here", "operation", "end", "one"]
abbrev P_distances : List Str := ["store", "state", "offices"]
theorem sc_distances : FnScope N_distances P_distances (defScope st_distances) := ⟨rfl, rfl, rfl, by decide +kernel, rfl, by decide +kernel, by decide +kernel⟩
abbrev N_reachable : List Str := ["store", "state", "offices", "one", "far"]
abbrev P_reachable : List Str := ["store", "state", "offices"]
theorem sc_reachable : FnScope N_reachable P_reachable (defScope st_reachable) := ⟨rfl, rfl, rfl, by decide +kernel, rfl, by decide +kernel, by decide +kernel⟩
abbrev N_all_offices : List Str := ["store"]
abbrev P_all_offices : List Str := ["store"]
theorem sc_all_offices : FnScope N_all_offices P_all_offices (defScope st_all_offices) := ⟨rfl, rfl, rfl, by decide +kernel, rfl, by decide +kernel, by decide +kernel⟩
abbrev N_other_offices : List Str := ["store", "offices", "office"]
abbrev P_other_offices : List Str := ["store", "offices"]
theorem sc_other_offices : FnScope N_other_offices P_other_offices (defScope st_other_offices) := ⟨rfl, rfl, rfl, by decide +kernel, rfl, by decide +kernel, by decide +kernel⟩
abbrev N_reach_tables : List Str := ["store", "offices", "state", "goal"]
abbrev P_reach_tables : List Str := ["store", "offices"]
theorem sc_reach_tables : FnScope N_reach_tables P_reach_tables (defScope st_reach_tables) := ⟨rfl, rfl, rfl, by decide +kernel, rfl, by decide +kernel, by decide +kernel⟩
abbrev N_joint_homes : List Str := ["store", "offices", "reach", "numbers", "state", "known", "low"]
abbrev P_joint_homes : List Str := ["store", "offices"]
theorem sc_joint_homes : FnScope N_joint_homes P_joint_homes (defScope st_joint_homes) := ⟨rfl, rfl, rfl, by decide +kernel, rfl, by decide +kernel, by decide +kernel⟩
abbrev N_lasting_states : List Str := ["store", "offices", "reach", "state", "goal"]
abbrev P_lasting_states : List Str := ["store", "offices"]
theorem sc_lasting_states : FnScope N_lasting_states P_lasting_states (defScope st_lasting_states) := ⟨rfl, rfl, rfl, by decide +kernel, rfl, by decide +kernel, by decide +kernel⟩
abbrev N_of_others : List Str := ["store", "office", "at", "some", "operation"]
abbrev P_of_others : List Str := ["store", "office"]
theorem sc_of_others : FnScope N_of_others P_of_others (defScope st_of_others) := ⟨rfl, rfl, rfl, by decide +kernel, rfl, by decide +kernel, by decide +kernel⟩
abbrev N_is_operation : List Str := ["value", "size"]
abbrev P_is_operation : List Str := ["value", "size"]
theorem sc_is_operation : FnScope N_is_operation P_is_operation (defScope st_is_operation) := ⟨rfl, rfl, rfl, by decide +kernel, rfl, by decide +kernel, by decide +kernel⟩
abbrev N_check_offices : List Str := ["size", "offices", "known", "at", "office", "operation"]
abbrev P_check_offices : List Str := ["size", "offices"]
theorem sc_check_offices : FnScope N_check_offices P_check_offices (defScope st_check_offices) := ⟨rfl, rfl, rfl, by decide +kernel, rfl, by decide +kernel, by decide +kernel⟩
abbrev N_Store___init__ : List Str := ["self", "size", "offices"]
abbrev P_Store___init__ : List Str := ["self", "size", "offices"]
theorem sc_Store___init__ : FnScope N_Store___init__ P_Store___init__ (defScope st_Store___init__) := ⟨rfl, rfl, rfl, by decide +kernel, rfl, by decide +kernel, by decide +kernel⟩
abbrev N_Store_office_of : List Str := ["self", "name", "at", "office", "operation"]
abbrev P_Store_office_of : List Str := ["self", "name"]
theorem sc_Store_office_of : FnScope N_Store_office_of P_Store_office_of (defScope st_Store_office_of) := ⟨rfl, rfl, rfl, by decide +kernel, rfl, by decide +kernel, by decide +kernel⟩
abbrev N_may_be_given : List Str := ["store", "office", "value", "other"]
abbrev P_may_be_given : List Str := ["store", "office", "value"]
theorem sc_may_be_given : FnScope N_may_be_given P_may_be_given (defScope st_may_be_given) := ⟨rfl, rfl, rfl, by decide +kernel, rfl, by decide +kernel, by decide +kernel⟩
abbrev N_carried_home : List Str := ["operations", "base", "goal", "images", "waiting", "state", "name", "ends", "told", "end", "image"]
abbrev P_carried_home : List Str := ["operations", "base", "goal"]
theorem sc_carried_home : FnScope N_carried_home P_carried_home (defScope st_carried_home) := ⟨rfl, rfl, rfl, by decide +kernel, rfl, by decide +kernel, by decide +kernel⟩
abbrev N_openings : List Str := ["store", "office", "others", "view", "operations", "found", "number", "base", "tables", "goal", "images"]
abbrev P_openings : List Str := ["store", "office"]
theorem sc_openings : FnScope N_openings P_openings (defScope st_openings) := ⟨rfl, rfl, rfl, by decide +kernel, rfl, by decide +kernel, by decide +kernel⟩
abbrev N_given_goals : List Str := ["store", "office", "base", "tables"]
abbrev P_given_goals : List Str := ["store", "office"]
theorem sc_given_goals : FnScope N_given_goals P_given_goals (defScope st_given_goals) := ⟨rfl, rfl, rfl, by decide +kernel, rfl, by decide +kernel, by decide +kernel⟩
abbrev N_count_given : List Str := ["store", "office", "many", "goals"]
abbrev P_count_given : List Str := ["store", "office"]
theorem sc_count_given : FnScope N_count_given P_count_given (defScope st_count_given) := ⟨rfl, rfl, rfl, by decide +kernel, rfl, by decide +kernel, by decide +kernel⟩
abbrev N_given_ends : List Str := ["store", "office", "number", "ends", "base", "tables", "goals", "at", "state", "image"]
abbrev P_given_ends : List Str := ["store", "office", "number"]
theorem sc_given_ends : FnScope N_given_ends P_given_ends (defScope st_given_ends) := ⟨rfl, rfl, rfl, by decide +kernel, rfl, by decide +kernel, by decide +kernel⟩
abbrev N_number_of_given : List Str := ["store", "office", "value", "found", "number", "base", "tables", "images", "state", "image"]
abbrev P_number_of_given : List Str := ["store", "office", "value"]
theorem sc_number_of_given : FnScope N_number_of_given P_number_of_given (defScope st_number_of_given) := ⟨rfl, rfl, rfl, by decide +kernel, rfl, by decide +kernel, by decide +kernel⟩
abbrev N__law_box : List Str := ["_law_script", "_law_k", "_law_cell"]
abbrev P__law_box : List Str := ["_law_script", "_law_k"]
theorem sc__law_box : FnScope N__law_box P__law_box (defScope st__law_box) := ⟨rfl, rfl, rfl, by decide +kernel, rfl, by decide +kernel, by decide +kernel⟩
abbrev N__law_take : List Str := ["_law_box_here", "_law_many", "_law_digit", "_law_raw"]
abbrev P__law_take : List Str := ["_law_box_here", "_law_many"]
theorem sc__law_take : FnScope N__law_take P__law_take (defScope st__law_take) := ⟨rfl, rfl, rfl, by decide +kernel, rfl, by decide +kernel, by decide +kernel⟩
abbrev N__law_pick : List Str := ["_law_box_here", "_law_some_here"]
abbrev P__law_pick : List Str := ["_law_box_here", "_law_some_here"]
theorem sc__law_pick : FnScope N__law_pick P__law_pick (defScope st__law_pick) := ⟨rfl, rfl, rfl, by decide +kernel, rfl, by decide +kernel, by decide +kernel⟩
abbrev N__law_names : List Str := ["_law_box_here", "_law_many", "_law_letters", "_law_stem", "_law_at", "_law_first", "_law_step", "_law_found", "_law_k", "_law_place"]
abbrev P__law_names : List Str := ["_law_box_here", "_law_many"]
theorem sc__law_names : FnScope N__law_names P__law_names (defScope st__law_names) := ⟨rfl, rfl, rfl, by decide +kernel, rfl, by decide +kernel, by decide +kernel⟩
abbrev N__law_drawn : List Str := ["_law_box_here", "_law_names_here", "_law_counts", "_law_size", "_law_used", "_law_rows", "_law_count", "_law_some_here", "_law_most", "_law_turn", "_law_ends", "_law_state"]
abbrev P__law_drawn : List Str := ["_law_box_here", "_law_names_here", "_law_counts", "_law_size"]
theorem sc__law_drawn : FnScope N__law_drawn P__law_drawn (defScope st__law_drawn) := ⟨rfl, rfl, rfl, by decide +kernel, rfl, by decide +kernel, by decide +kernel⟩
abbrev N__law_renumbered : List Str := ["_law_box_here", "_law_size", "_law_rows", "_law_left", "_law_order", "_law_found", "_law_turn", "_law_raised", "_law_office", "_law_some_here", "_law_name", "_law_ends", "_law_answers", "_law_new_ends", "_law_new_answers", "_law_state"]
abbrev P__law_renumbered : List Str := ["_law_box_here", "_law_size", "_law_rows"]
theorem sc__law_renumbered : FnScope N__law_renumbered P__law_renumbered (defScope st__law_renumbered) := ⟨rfl, rfl, rfl, by decide +kernel, rfl, by decide +kernel, by decide +kernel⟩
abbrev N__law_table : List Str := ["_law_many", "_law_orders", "_law_one", "_law_two"]
abbrev P__law_table : List Str := ["_law_many"]
theorem sc__law_table : FnScope N__law_table P__law_table (defScope st__law_table) := ⟨rfl, rfl, rfl, by decide +kernel, rfl, by decide +kernel, by decide +kernel⟩
abbrev N__law_steps : List Str := ["_law_box_here", "_law_part", "_law_many", "_law_mover", "_law_around_here", "_law_found", "_law_p"]
abbrev P__law_steps : List Str := ["_law_box_here", "_law_part", "_law_many", "_law_mover"]
theorem sc__law_steps : FnScope N__law_steps P__law_steps (defScope st__law_steps) := ⟨rfl, rfl, rfl, by decide +kernel, rfl, by decide +kernel, by decide +kernel⟩
abbrev N__law_sizes : List Str := ["_law_box_here", "_law_most", "_law_offices", "_law_many", "_law_parts", "_law_size", "_law_office", "_law_part"]
abbrev P__law_sizes : List Str := ["_law_box_here", "_law_most"]
theorem sc__law_sizes : FnScope N__law_sizes P__law_sizes (defScope st__law_sizes) := ⟨rfl, rfl, rfl, by decide +kernel, rfl, by decide +kernel, by decide +kernel⟩
abbrev N__law_around : List Str := ["_law_box_here", "_law_most", "_law_size", "_law_many", "_law_parts", "_law_table_here", "_law_stride", "_law_rows", "_law_mover", "_law_used", "_law_names_here", "_law_office", "_law_part", "_law_some_here", "_law_to", "_law_by", "_law_told", "_law_ends", "_law_answers", "_law_state", "_law_p", "_law_g", "_law_share"]
abbrev P__law_around : List Str := ["_law_box_here", "_law_most"]
theorem sc__law_around : FnScope N__law_around P__law_around (defScope st__law_around) := ⟨rfl, rfl, rfl, by decide +kernel, rfl, by decide +kernel, by decide +kernel⟩
abbrev N__law_reach : List Str := ["_law_size", "_law_operations", "_law_found", "_law_state", "_law_row", "_law_seen", "_law_turn", "_law_name", "_law_ends", "_law_answers"]
abbrev P__law_reach : List Str := ["_law_size", "_law_operations"]
theorem sc__law_reach : FnScope N__law_reach P__law_reach (defScope st__law_reach) := ⟨rfl, rfl, rfl, by decide +kernel, rfl, by decide +kernel, by decide +kernel⟩
abbrev N__law_others : List Str := ["_law_offices", "_law_office", "_law_found", "_law_at"]
abbrev P__law_others : List Str := ["_law_offices", "_law_office"]
theorem sc__law_others : FnScope N__law_others P__law_others (defScope st__law_others) := ⟨rfl, rfl, rfl, by decide +kernel, rfl, by decide +kernel, by decide +kernel⟩
abbrev N__law_bases : List Str := ["_law_reach_here", "_law_state", "_law_goal"]
abbrev P__law_bases : List Str := ["_law_reach_here"]
theorem sc__law_bases : FnScope N__law_bases P__law_bases (defScope st__law_bases) := ⟨rfl, rfl, rfl, by decide +kernel, rfl, by decide +kernel, by decide +kernel⟩
abbrev N__law_fits : List Str := ["_law_operations", "_law_ends", "_law_name", "_law_goals", "_law_answers", "_law_state"]
abbrev P__law_fits : List Str := ["_law_operations", "_law_ends"]
theorem sc__law_fits : FnScope N__law_fits P__law_fits (defScope st__law_fits) := ⟨rfl, rfl, rfl, by decide +kernel, rfl, by decide +kernel, by decide +kernel⟩
abbrev N__law_extended : List Str := ["_law_operations", "_law_base", "_law_goal", "_law_images", "_law_row", "_law_turn", "_law_here", "_law_there", "_law_name", "_law_ends", "_law_answers"]
abbrev P__law_extended : List Str := ["_law_operations", "_law_base", "_law_goal"]
theorem sc__law_extended : FnScope N__law_extended P__law_extended (defScope st__law_extended) := ⟨rfl, rfl, rfl, by decide +kernel, rfl, by decide +kernel, by decide +kernel⟩
abbrev N__law_some : List Str := ["_law_box_here", "_law_counts", "_law_size", "_law_rows"]
abbrev P__law_some : List Str := ["_law_box_here"]
theorem sc__law_some : FnScope N__law_some P__law_some (defScope st__law_some) := ⟨rfl, rfl, rfl, by decide +kernel, rfl, by decide +kernel, by decide +kernel⟩
abbrev N__law_all_ends : List Str := ["_law_size", "_law_found", "_law_turn", "_law_longer", "_law_row", "_law_state"]
abbrev P__law_all_ends : List Str := ["_law_size"]
theorem sc__law_all_ends : FnScope N__law_all_ends P__law_all_ends (defScope st__law_all_ends) := ⟨rfl, rfl, rfl, by decide +kernel, rfl, by decide +kernel, by decide +kernel⟩
abbrev N__law_refused : List Str := ["_law_store", "_law_office", "_law_which", "e"]
abbrev P__law_refused : List Str := ["_law_store", "_law_office", "_law_which"]
theorem sc__law_refused : FnScope N__law_refused P__law_refused (defScope st__law_refused) := ⟨rfl, rfl, rfl, by decide +kernel, rfl, by decide +kernel, by decide +kernel⟩
abbrev N__law_numbers_right : List Str := ["_law_box_here", "_law_store", "_law_office", "_law_bases_here", "_law_goals", "_law_operations", "_law_many", "_law_lot", "_law_turn", "_law_number", "_law_ends", "_law_rest", "_law_due", "_law_at", "_law_images", "_law_state", "_law_other", "_law_odd", "e"]
abbrev P__law_numbers_right : List Str := ["_law_box_here", "_law_store", "_law_office", "_law_bases_here", "_law_goals"]
theorem sc__law_numbers_right : FnScope N__law_numbers_right P__law_numbers_right (defScope st__law_numbers_right) := ⟨rfl, rfl, rfl, by decide +kernel, rfl, by decide +kernel, by decide +kernel⟩
abbrev N__law_all_right : List Str := ["_law_store", "_law_office", "_law_bases_here", "_law_operations", "_law_rows", "_law_ends", "_law_told", "_law_number", "_law_goals", "_law_base"]
abbrev P__law_all_right : List Str := ["_law_store", "_law_office", "_law_bases_here"]
theorem sc__law_all_right : FnScope N__law_all_right P__law_all_right (defScope st__law_all_right) := ⟨rfl, rfl, rfl, by decide +kernel, rfl, by decide +kernel, by decide +kernel⟩
abbrev N__law_operations_right : List Str := ["_law_box_here", "_law_store", "_law_office", "_law_size", "_law_operations", "_law_still", "_law_fresh", "_law_turn", "_law_ends", "_law_told", "_law_due", "_law_name", "_law_goals", "_law_answers", "_law_row", "_law_used", "_law_odd", "_law_operation", "_law_state", "_law_some_here"]
abbrev P__law_operations_right : List Str := ["_law_box_here", "_law_store", "_law_office"]
theorem sc__law_operations_right : FnScope N__law_operations_right P__law_operations_right (defScope st__law_operations_right) := ⟨rfl, rfl, rfl, by decide +kernel, rfl, by decide +kernel, by decide +kernel⟩
abbrev N_law : List Str := ["_law_script", "_law_k", "_law_box_here", "_law_size", "_law_offices", "_law_store", "_law_office", "_law_operations", "_law_bases_here", "_law_odd", "_law_goals", "_law_base", "_law_which", "_law_goal"]
abbrev P_law : List Str := ["_law_script"]
theorem sc_law : FnScope N_law P_law (defScope st_law) := ⟨rfl, rfl, rfl, by decide +kernel, rfl, by decide +kernel, by decide +kernel⟩
/-- what the top leaves -/
structure Top (w : World) (K : PySem.W.Frag) (mg : Str → Option Value) (base : Heap) (Z : ZZ) : Prop where
  d_is_integer : Def K mg "is_integer" st_is_integer []
  d_is_number : Def K mg "is_number" st_is_number []
  d_is_below : Def K mg "is_below" st_is_below []
  d_is_letter : Def K mg "is_letter" st_is_letter []
  d_is_name : Def K mg "is_name" st_is_name []
  d_is_row : Def K mg "is_row" st_is_row []
  d_is_listing : Def K mg "is_listing" st_is_listing []
  d_ends_clash : Def K mg "ends_clash" st_ends_clash []
  d_is_told_otherwise : Def K mg "is_told_otherwise" st_is_told_otherwise []
  d_answers_clash : Def K mg "answers_clash" st_answers_clash []
  d_kinds_at : Def K mg "kinds_at" st_kinds_at []
  d_clash_anywhere : Def K mg "clash_anywhere" st_clash_anywhere []
  d_check_state : Def K mg "check_state" st_check_state []
  d_need_office : Def K mg "need_office" st_need_office []
  d_need_offices : Def K mg "need_offices" st_need_offices []
  d_operations_of : Def K mg "operations_of" st_operations_of []
  d_distances : Def K mg "distances" st_distances [V.non]
  d_reachable : Def K mg "reachable" st_reachable [V.non]
  d_all_offices : Def K mg "all_offices" st_all_offices []
  d_other_offices : Def K mg "other_offices" st_other_offices []
  d_reach_tables : Def K mg "reach_tables" st_reach_tables []
  d_joint_homes : Def K mg "joint_homes" st_joint_homes []
  d_lasting_states : Def K mg "lasting_states" st_lasting_states [V.non]
  d_of_others : Def K mg "of_others" st_of_others []
  d_is_operation : Def K mg "is_operation" st_is_operation []
  d_check_offices : Def K mg "check_offices" st_check_offices []
  d_may_be_given : Def K mg "may_be_given" st_may_be_given []
  d_carried_home : Def K mg "carried_home" st_carried_home []
  d_openings : Def K mg "openings" st_openings []
  d_given_goals : Def K mg "given_goals" st_given_goals []
  d_count_given : Def K mg "count_given" st_count_given []
  d_given_ends : Def K mg "given_ends" st_given_ends []
  d_number_of_given : Def K mg "number_of_given" st_number_of_given []
  d__law_box : Def K mg "_law_box" st__law_box []
  d__law_take : Def K mg "_law_take" st__law_take []
  d__law_pick : Def K mg "_law_pick" st__law_pick []
  d__law_names : Def K mg "_law_names" st__law_names []
  d__law_drawn : Def K mg "_law_drawn" st__law_drawn []
  d__law_renumbered : Def K mg "_law_renumbered" st__law_renumbered []
  d__law_table : Def K mg "_law_table" st__law_table []
  d__law_steps : Def K mg "_law_steps" st__law_steps []
  d__law_sizes : Def K mg "_law_sizes" st__law_sizes []
  d__law_around : Def K mg "_law_around" st__law_around []
  d__law_reach : Def K mg "_law_reach" st__law_reach []
  d__law_others : Def K mg "_law_others" st__law_others []
  d__law_bases : Def K mg "_law_bases" st__law_bases []
  d__law_fits : Def K mg "_law_fits" st__law_fits []
  d__law_extended : Def K mg "_law_extended" st__law_extended []
  d__law_some : Def K mg "_law_some" st__law_some []
  d__law_all_ends : Def K mg "_law_all_ends" st__law_all_ends []
  d__law_refused : Def K mg "_law_refused" st__law_refused []
  d__law_numbers_right : Def K mg "_law_numbers_right" st__law_numbers_right []
  d__law_all_right : Def K mg "_law_all_right" st__law_all_right []
  d__law_operations_right : Def K mg "_law_operations_right" st__law_operations_right []
  d_law : Def K mg "law" st_law []
  m_abs : mg "abs" = none
  m_all : mg "all" = none
  m_any : mg "any" = none
  m_bool : mg "bool" = none
  m_divmod : mg "divmod" = none
  m_enumerate : mg "enumerate" = none
  m_int : mg "int" = none
  m_isinstance : mg "isinstance" = none
  m_len : mg "len" = none
  m_list : mg "list" = none
  m_max : mg "max" = none
  m_min : mg "min" = none
  m_range : mg "range" = none
  m_repr : mg "repr" = none
  m_set : mg "set" = none
  m_sorted : mg "sorted" = none
  m_str : mg "str" = none
  m_sum : mg "sum" = none
  m_tuple : mg "tuple" = none
  c_LETTERS : ∃ u, mg "LETTERS" = some u ∧ RelV (.str "abcdefghijklmnopqrstuvwxyz") u
  c_LONGEST_NAME : ∃ u, mg "LONGEST_NAME" = some u ∧ RelV (.int 5) u
  c_MOST_ANSWER : ∃ u, mg "MOST_ANSWER" = some u ∧ RelV (.int 1000000000000) u
  c_ENDS : ∃ u, mg "ENDS" = some u ∧ RelV (.str "ends") u
  c_ANSWERS : ∃ u, mg "ANSWERS" = some u ∧ RelV (.str "answers") u
  c_MOST_STATES : ∃ u, mg "MOST_STATES" = some u ∧ RelV (.int 200) u
  c_LEAST_OFFICES : ∃ u, mg "LEAST_OFFICES" = some u ∧ RelV (.int 2) u
  c_MOST_OFFICES : ∃ u, mg "MOST_OFFICES" = some u ∧ RelV (.int 8) u
  c_MOST_OPERATIONS : ∃ u, mg "MOST_OPERATIONS" = some u ∧ RelV (.int 40) u
  sto : StoF K Z.C
  mgS : mg "Store" = some (.ref Z.C)
  mkS : ∃ (f : Addr) (fd : FuncData), FunD K "__init__" "Store.__init__" (defArgs st_Store___init__) (defBody st_Store___init__) (defScope st_Store___init__) [] [] f fd ∧ Mk K Z.C f
  ofS : ∃ (f : Addr) (fd : FuncData), FunD K "office_of" "Store.office_of" (defArgs st_Store_office_of) (defBody st_Store_office_of) (defScope st_Store_office_of) [] [] f fd ∧ Meth K Z.C "office_of" f
  xN : ∃ fI cc ca, XTxt prg K mg "InvalidNumber" (Z.cls 0) fI cc ca
  xR : ∃ fI cc ca, XTxt prg K mg "Refused" (Z.cls 1) fI cc ca
  fN : XfC K (Z.cls 0)
  fR : XfC K (Z.cls 1)
  eNN : PySem.W.exmOne K (.ref (Z.cls 0)) (.ref (Z.cls 0)) = some true
  eRN : PySem.W.exmOne K (.ref (Z.cls 1)) (.ref (Z.cls 0)) = some false
  eRR : PySem.W.exmOne K (.ref (Z.cls 1)) (.ref (Z.cls 1)) = some true
  gN : mg "InvalidNumber" = some (.ref (Z.cls 0))
  gR : mg "Refused" = some (.ref (Z.cls 1))
  wN : PySem.W.findIn K (.ref (Z.cls 0)) "word" = some none
  wR : PySem.W.findIn K (.ref (Z.cls 1)) "word" = some none
end G78
namespace G78
open PySem PySem.Spec PyProof.Rows L2
/-! ### loops of comprehensions -/
theorem lcGo_map {B : D → List D → (List D → Prop) → Prop} (f : D → D) : ∀ {xs acc : List D} {q : List D → Prop}, acc.length + xs.length ≤ 100000 → (∀ x ∈ xs, ∀ acc q, acc.length < 100000 → q (acc ++ [f x]) → B x acc q) → q (acc ++ xs.map f) → lcGo B xs acc q
  | [], acc, q, _, _, w => by simpa [lcGo] using w
  | x :: xs, acc, q, hl, h, w => by
    simp only [List.length_cons] at hl
    refine h x List.mem_cons_self acc _ (by omega) (lcGo_map f (by simp; omega) (fun y hy => h y (List.mem_cons_of_mem _ hy)) ?_)
    simpa using w
theorem lcGo_filter {B : D → List D → (List D → Prop) → Prop} (f : D → Option D) : ∀ {xs acc : List D} {q : List D → Prop}, acc.length + xs.length ≤ 100000 → (∀ x ∈ xs, ∀ acc q, acc.length < 100000 → q (acc ++ (f x).toList) → B x acc q) → q (acc ++ xs.filterMap f) → lcGo B xs acc q
  | [], acc, q, _, _, w => by simpa [lcGo] using w
  | x :: xs, acc, q, hl, h, w => by
    simp only [List.length_cons] at hl
    refine h x List.mem_cons_self acc _ (by omega) (lcGo_filter f ?_ (fun y hy => h y (List.mem_cons_of_mem _ hy)) ?_)
    · cases f x <;> simp <;> omega
    · cases e : f x with
      | none => simpa [List.filterMap_cons, e] using w
      | some y => simpa [List.filterMap_cons, e] using w
theorem lcGo_flat {B : D → List D → (List D → Prop) → Prop} (f : D → List D) : ∀ {xs acc : List D} {q : List D → Prop}, acc.length + (xs.flatMap f).length ≤ 100000 → (∀ x ∈ xs, ∀ acc q, acc.length + (f x).length ≤ 100000 → q (acc ++ f x) → B x acc q) → q (acc ++ xs.flatMap f) → lcGo B xs acc q
  | [], acc, q, _, _, w => by simpa [lcGo] using w
  | x :: xs, acc, q, hl, h, w => by
    simp only [List.flatMap_cons, List.length_append] at hl
    refine h x List.mem_cons_self acc _ (by omega) (lcGo_flat f (by simp only [List.length_append]; omega) (fun y hy => h y (List.mem_cons_of_mem _ hy)) ?_)
    simpa using w
/-- each item gives some that bears P -/
theorem lcGo_rel {B : D → List D → (List D → Prop) → Prop} (P : D → D → Prop) : ∀ {xs acc : List D} {q : List D → Prop}, acc.length + xs.length ≤ 100000 → (∀ x ∈ xs, ∀ acc q, acc.length < 100000 → (∀ y, P x y → q (acc ++ [y])) → B x acc q) →
    (∀ ys, Paired P xs ys → q (acc ++ ys)) → lcGo B xs acc q
  | [], acc, q, _, _, w => by simpa [lcGo] using w [] .nil
  | x :: xs, acc, q, hl, h, w => by
    simp only [List.length_cons] at hl
    refine h x List.mem_cons_self acc _ (by omega) fun y hy => lcGo_rel P (by simp; omega) (fun z hz => h z (List.mem_cons_of_mem _ hz)) fun ys hys => ?_
    have := w (y :: ys) (.cons hy hys)
    simpa using this
/-- a dict's comprehension with keys that all differ -/
theorem dpt_new {acc : List (Key × D)} {k : Key} {d : D} (h : ∀ p ∈ acc, p.1 ≠ k) : dpt acc k d = acc ++ [(k, d)] := by
  unfold dpt
  rw [if_neg]
  simp only [List.any_eq_true, not_exists, not_and, decide_eq_true_eq]
  exact fun p hp => h p hp
theorem dcGo_map {B : D → List (Key × D) → (List (Key × D) → Prop) → Prop} (f : D → Option (Key × D)) : ∀ {xs : List D} {acc : List (Key × D)} {q : List (Key × D) → Prop}, acc.length + xs.length ≤ 100000 →
    (∀ x ∈ xs, ∀ acc q, acc.length < 100000 → q (match f x with | some (k, d) => dpt acc k d | none => acc) → B x acc q) → ((acc ++ xs.filterMap f).map (·.1)).Nodup → q (acc ++ xs.filterMap f) → lcGo B xs acc q
  | [], acc, q, _, _, _, w => by simpa [lcGo] using w
  | x :: xs, acc, q, hl, h, nd, w => by
    simp only [List.length_cons] at hl
    refine h x List.mem_cons_self acc _ (by omega) ?_
    cases e : f x with
    | none =>
      simp only [List.filterMap_cons, e] at nd w
      exact dcGo_map f (show acc.length + xs.length ≤ 100000 by omega) (fun y hy => h y (List.mem_cons_of_mem _ hy)) nd w
    | some p =>
      obtain ⟨k, d⟩ := p
      simp only [List.filterMap_cons, e] at nd w
      have hk : ∀ p ∈ acc, p.1 ≠ k := fun p hp z => by
        rw [List.map_append, List.map_cons, List.nodup_append] at nd
        exact nd.2.2 p.1 (List.mem_map_of_mem hp) k List.mem_cons_self z
      show lcGo B xs (dpt acc k d) q
      rw [dpt_new hk]
      exact dcGo_map f (by simp; omega) (fun y hy => h y (List.mem_cons_of_mem _ hy)) (by simpa using nd) (by simpa using w)
/-! ### loops of statements -/
theorem forGo_inv {G : TWG} {B : TWS} {k : DE} (Pv : Nat → DS → Prop) : ∀ (xs : List D) (ds : DS) (n : Nat), Pv n ds →
    (∀ i x ds' (N : DS → Prop), xs[i]? = some x → Pv (n + i) ds' → (∀ d, Pv (n + i + 1) d → N d) → G x ds' fun ds2 => B { k with nx := N, ct := N, bk := k.nx } ds2) → (∀ ds', Pv (n + xs.length) ds' → k.nx ds') → forGo G B k xs ds
  | [], ds, n, h0, hs, hd => hd ds h0
  | x :: xs, ds, n, h0, hs, hd => hs 0 x ds _ rfl h0 fun d hd' => forGo_inv Pv xs d (n + 1) hd' (fun i y ds' N e p hN => hs (i + 1) y ds' N (by simpa using e) (by rw [show n + (i + 1) = n + 1 + i by omega]; exact p) fun d h => hN d (by rw [show n + 1 + i + 1 = n + (i + 1) + 1 by omega]; exact h)) fun ds' p => hd ds' (by rw [show n + (x :: xs).length = n + 1 + xs.length by simp; omega]; exact p)
@[simp] theorem atI_nat' {α : Type} (xs : List α) (n : Nat) : atI xs (n : Int) = xs[n]? := by
  unfold atI ixN
  rw [if_pos (by omega)]
  by_cases h : (n : Int) < xs.length
  · rw [if_pos h]; simp
  · rw [if_neg h]
    have : xs.length ≤ n := by omega
    simp [List.getElem?_eq_none this]
@[simp] theorem atI_0 {α : Type} (xs : List α) : atI xs 0 = xs[0]? := atI_nat' xs 0
@[simp] theorem atI_1 {α : Type} (xs : List α) : atI xs 1 = xs[1]? := atI_nat' xs 1
@[simp] theorem atI_2 {α : Type} (xs : List α) : atI xs 2 = xs[2]? := atI_nat' xs 2
/-- a tuple, a list of numbers -/
def dN (l : List Nat) : List D := l.map fun n => D.int (n : Nat)
theorem dN_int (l : List Nat) : dN l = (l.map fun n : Nat => (n : Int)).map D.int := by unfold dN; rw [List.map_map]; rfl
@[simp] theorem dN_len (l : List Nat) : (dN l).length = l.length := by simp [dN]
@[simp] theorem dN_get (l : List Nat) (i : Nat) : (dN l)[i]? = l[i]?.map fun n => D.int (n : Nat) := by simp [dN]
theorem rgN_dN (n : Nat) : (rgN n).map D.int = dN (List.range n) := by unfold rgN dN; rw [List.map_map]; rfl
@[simp] theorem scal_ii (a b : Int) : scal (.int a) (.int b) = true := rfl
@[simp] theorem scal_ss (a b : Str) : scal (.str a) (.str b) = true := rfl
@[simp] theorem scal_bb (a b : Bool) : scal (.bl a) (.bl b) = true := rfl
theorem len_ok {n : Nat} (h : n ≤ 100000) : n ≤ sizeLine := by rw [sizeLine_eq]; omega
def D.nat : D → Nat
  | .int i => i.toNat
  | _ => 0
theorem dN_filter (p : Nat → Bool) (l : List Nat) : (dN l).filterMap (fun d => if p d.nat = true then some d else none) = dN (l.filter p) := by
  induction l with
  | nil => rfl
  | cons x l ih =>
    have e : (D.int (x : Nat)).nat = x := rfl
    show List.filterMap _ (D.int (x : Nat) :: dN l) = _
    rw [List.filterMap_cons, e, List.filter_cons, ih]
    cases p x <;> rfl
/-- an operation -/
structure Op where
  nm : Str
  ends : List Nat
  told : List Nat
def Op.e (o : Op) (s : Nat) : Nat := o.ends.getD s 0
def Op.t (o : Op) (s : Nat) : Nat := o.told.getD s 0
def Op.D (o : Op) : D := .tup [.str o.nm, .tup (dN o.ends), .tup (dN o.told)]
structure Op.Ok (n : Nat) (o : Op) : Prop where
  le : o.ends.length = n
  lt : o.told.length = n
  en : ∀ e ∈ o.ends, e < n
theorem Op.Ok.e {n : Nat} {o : Op} (h : o.Ok n) {s : Nat} (hs : s < n) : o.ends[s]? = some (o.e s) ∧ o.e s < n := by
  have hl : s < o.ends.length := by rw [h.le]; exact hs
  have e : o.ends[s]? = some (o.e s) := by
    unfold Op.e
    rw [List.getD_eq_getElem?_getD, List.getElem?_eq_getElem hl]; rfl
  exact ⟨e, h.en _ (List.mem_of_getElem? e)⟩
theorem Op.Ok.t {n : Nat} {o : Op} (h : o.Ok n) {s : Nat} (hs : s < n) : o.told[s]? = some (o.t s) := by
  have hl : s < o.told.length := by rw [h.lt]; exact hs
  unfold Op.t
  rw [List.getD_eq_getElem?_getD, List.getElem?_eq_getElem hl]; rfl
end G78
namespace G78
open PySem PySem.Spec PyProof.Rows L2
/-- the store as data -/
def offD (offs : List (List Op)) : D := .tup (offs.map fun os => .tup (os.map Op.D))
def stoD (n : Nat) (offs : List (List Op)) : D := .sto n (offD offs)
structure SOk (n : Nat) (offs : List (List Op)) : Prop where
  n1 : 1 ≤ n
  n9 : n ≤ 9
  m : offs.length ≤ 8
  ok : ∀ os ∈ offs, ∀ o ∈ os, o.Ok n
  few : ∀ os ∈ offs, os.length ≤ 40
/-- what is reached -/
inductive Reach (os : List Op) : Nat → Nat → Prop
  | refl (a : Nat) : Reach os a a
  | step {a b : Nat} {o : Op} : Reach os a b → o ∈ os → Reach os a (o.e b)
theorem Reach.trans {os : List Op} {a b c : Nat} (h : Reach os a b) (k : Reach os b c) : Reach os a c := by
  induction k with
  | refl => exact h
  | step _ ho ih => exact .step ih ho
theorem Reach.mono {os os' : List Op} {a b : Nat} (h : Reach os a b) (k : ∀ o ∈ os, o ∈ os') : Reach os' a b := by
  induction h with
  | refl => exact .refl _
  | step _ ho ih => exact .step ih (k _ ho)
theorem Reach.congr {os os' : List Op} (k : ∀ o, o ∈ os ↔ o ∈ os') (a b : Nat) : Reach os a b ↔ Reach os' a b := ⟨fun h => h.mono fun o => (k o).1, fun h => h.mono fun o => (k o).2⟩
theorem Reach.lt {os : List Op} {n a b : Nat} (ok : ∀ o ∈ os, o.Ok n) (ha : a < n) (h : Reach os a b) : b < n := by
  induction h with
  | refl => exact ha
  | step _ ho ih => exact ((ok _ ho).e ih).2
open Classical in
noncomputable def reachB (os : List Op) (a b : Nat) : Bool := decide (Reach os a b)
theorem reachB_iff {os : List Op} {a b : Nat} : reachB os a b = true ↔ Reach os a b := by unfold reachB; simp
theorem reachB_congr {os os' : List Op} (k : ∀ o, o ∈ os ↔ o ∈ os') (a b : Nat) : reachB os a b = reachB os' a b := by
  rw [Bool.eq_iff_iff, reachB_iff, reachB_iff]; exact Reach.congr k a b
noncomputable def reachL (os : List Op) (n a : Nat) : List Nat := (List.range n).filter (reachB os a)
theorem mem_reachL {os : List Op} {n a b : Nat} : b ∈ reachL os n a ↔ b < n ∧ Reach os a b := by
  unfold reachL; rw [List.mem_filter, List.mem_range, reachB_iff]
/-- the operations of some offices -/
def flatOps (offs : List (List Op)) (l : List Nat) : List Op := l.flatMap fun k => offs.getD k []
theorem flatOps_ok {n : Nat} {offs : List (List Op)} (h : ∀ os ∈ offs, ∀ o ∈ os, o.Ok n) (l : List Nat) : ∀ o ∈ flatOps offs l, o.Ok n := by
  intro o ho
  obtain ⟨k, _, hk⟩ := List.mem_flatMap.mp ho
  rw [List.getD_eq_getElem?_getD] at hk
  cases e : offs[k]? with
  | none => rw [e] at hk; cases hk
  | some os => rw [e] at hk; exact h os (List.mem_of_getElem? e) o hk
/-- numbers below n, each once -/
theorem nodup_len : ∀ {n : Nat} {l : List Nat}, l.Nodup → (∀ x ∈ l, x < n) → l.length ≤ n
  | 0, l, _, h => by
    cases l with
    | nil => simp
    | cons x l => exact absurd (h x List.mem_cons_self) (Nat.not_lt_zero _)
  | n + 1, l, nd, h => by
    by_cases hn : n ∈ l
    · have := nodup_len (n := n) (nd.erase n) fun x hx => by
        obtain ⟨h1, h2⟩ := (List.Nodup.mem_erase_iff nd).mp hx
        have := h x h2
        omega
      rw [List.length_erase_of_mem hn] at this
      omega
    · have := nodup_len (n := n) nd fun x hx => by
        have h1 := h x hx
        have : x ≠ n := fun e => hn (e ▸ hx)
        omega
      omega
/-! ### a dict of numbers by numbers -/
def imD (im : List (Nat × Nat)) : List (Key × D) := im.map fun p => (Sum.inl (p.1 : Int), .int (p.2 : Nat))
@[simp] theorem imD_len (im : List (Nat × Nat)) : (imD im).length = im.length := by simp [imD]
theorem dgt_map {α : Type} (l : List (Nat × α)) (f : α → D) (x : Nat) : dgt (l.map fun p => (Sum.inl (p.1 : Int), f p.2)) (Sum.inl (x : Int)) = (l.lookup x).map f := by
  induction l with
  | nil => rfl
  | cons p l ih =>
    obtain ⟨a, b⟩ := p
    by_cases h : x = a
    · subst h; simp [dgt]
    · have h1 : ¬ ((Sum.inl (a : Int) : Key) = Sum.inl (x : Int)) := fun z => h (by have := Sum.inl.inj z; omega)
      have h2 : (x == a) = false := by simpa using h
      simp only [List.map_cons, List.lookup_cons, h2]
      rw [← ih]
      simp [dgt, List.find?_cons, h1]
theorem dgt_imD (im : List (Nat × Nat)) (x : Nat) : dgt (imD im) (Sum.inl (x : Int)) = (im.lookup x).map fun y => D.int (y : Nat) := dgt_map im (fun y => D.int (y : Nat)) x
theorem lookup_mem {α : Type} {l : List (Nat × α)} {x : Nat} {y : α} (h : l.lookup x = some y) : (x, y) ∈ l := by
  induction l with
  | nil => cases h
  | cons p l ih =>
    obtain ⟨a, b⟩ := p
    rw [List.lookup_cons] at h
    split at h
    · rename_i e
      have e : x = a := by simpa using e
      subst e; cases h; exact List.mem_cons_self
    · exact List.mem_cons_of_mem _ (ih h)
theorem lookup_none {α : Type} {l : List (Nat × α)} {x : Nat} : l.lookup x = none ↔ x ∉ l.map (·.1) := by
  induction l with
  | nil => simp
  | cons p l ih =>
    obtain ⟨a, b⟩ := p
    rw [List.lookup_cons]
    by_cases e : x = a
    · subst e; simp
    · have : (x == a) = false := by simpa using e
      simp [this, ih, e]
theorem lookup_nd {α : Type} {l : List (Nat × α)} (nd : (l.map (·.1)).Nodup) {x : Nat} {y : α} (h : (x, y) ∈ l) : l.lookup x = some y := by
  induction l with
  | nil => cases h
  | cons p l ih =>
    obtain ⟨a, b⟩ := p
    rw [List.map_cons, List.nodup_cons] at nd
    rw [List.lookup_cons]
    rcases List.mem_cons.mp h with e | h
    · cases e; simp
    · have : (x == a) = false := by
        simp only [beq_eq_false_iff_ne, ne_eq]
        intro e
        exact nd.1 (List.mem_map.mpr ⟨(x, y), h, e⟩)
      simp [this, ih nd.2 h]
theorem lookup_app {α : Type} {l r : List (Nat × α)} {x : Nat} : (l ++ r).lookup x = (l.lookup x).or (r.lookup x) := by
  induction l with
  | nil => rfl
  | cons p l ih =>
    obtain ⟨a, b⟩ := p
    rw [List.cons_append, List.lookup_cons, List.lookup_cons]
    split
    · rfl
    · exact ih
theorem imD_new {im : List (Nat × Nat)} {x y : Nat} (h : x ∉ im.map (·.1)) : dpt (imD im) (Sum.inl (x : Int)) (.int (y : Nat)) = imD (im ++ [(x, y)]) := by
  rw [dpt_new]
  · simp [imD]
  · intro p hp z
    obtain ⟨q, hq, rfl⟩ := List.mem_map.mp hp
    have : q.1 = x := by have := Sum.inl.inj z; omega
    exact h (List.mem_map.mpr ⟨q, hq, this⟩)
end G78
namespace G78
open PySem PySem.Spec PyProof.Rows L2
theorem kitB_ii : kitB "int" "int" = some true := by decide +kernel
theorem kitB_ni : kitB "NoneType" "int" = some false := by decide +kernel
theorem kitB_bi : kitB "bool" "int" = some true := by decide +kernel
theorem kitB_si : kitB "str" "int" = some false := by decide +kernel
theorem kitB_li : kitB "list" "int" = some false := by decide +kernel
theorem kitB_ti : kitB "tuple" "int" = some false := by decide +kernel
theorem kitB_di : kitB "dict" "int" = some false := by decide +kernel
theorem kitB_ib : kitB "int" "bool" = some false := by decide +kernel
theorem kitB_bb : kitB "bool" "bool" = some true := by decide +kernel
theorem kitB_is : kitB "int" "str" = some false := by decide +kernel
theorem kitB_ns : kitB "NoneType" "str" = some false := by decide +kernel
theorem kitB_bs : kitB "bool" "str" = some false := by decide +kernel
theorem kitB_ss : kitB "str" "str" = some true := by decide +kernel
theorem kitB_ls : kitB "list" "str" = some false := by decide +kernel
theorem kitB_ts : kitB "tuple" "str" = some false := by decide +kernel
theorem kitB_ds : kitB "dict" "str" = some false := by decide +kernel
theorem kitB_it : kitB "int" "tuple" = some false := by decide +kernel
theorem kitB_nt : kitB "NoneType" "tuple" = some false := by decide +kernel
theorem kitB_bt : kitB "bool" "tuple" = some false := by decide +kernel
theorem kitB_st : kitB "str" "tuple" = some false := by decide +kernel
theorem kitB_lt : kitB "list" "tuple" = some false := by decide +kernel
theorem kitB_tt : kitB "tuple" "tuple" = some true := by decide +kernel
theorem kitB_dt : kitB "dict" "tuple" = some false := by decide +kernel
/-- an int that is no truth value -/
def D.isInt : D → Bool
  | .int _ => true
  | _ => false
/-- a value that may be asked for its kind -/
def D.kind (d : D) : Prop := d.ty ≠ none
def f_is_integer : SpD := fun ds q => ∃ v, ds = [v] ∧ v.kind ∧ q (.bl v.isInt)
theorem len_is_integer : ∀ ds q, f_is_integer ds q → ds.length = P_is_integer.length := by
  rintro ds q ⟨v, rfl, _⟩; rfl
theorem p_is_integer {w : World} {K : PySem.W.Frag} {mg : Str → Option Value} {base : Heap} {Z : ZZ} (T : Top w K mg base Z) : Cl prg w K mg base 1 "is_integer" (spP Z.C K f_is_integer) := by
  have nd := sc_is_integer.nd
  refine clP_of (k := 0) T.d_is_integer sc_is_integer (by intro kV doc pm an cdv ct us h; match us, h with | [a0], _ => rfl) len_is_integer fun fa cdv A outer s H E hr => ⟨_, (ss_one (sj_ret (ej_and ((ej_isi (T' := "int") (by rfl) T.m_isinstance (by rfl) T.m_int (by decide +kernel) (r_ 0))).rd (ej_one (ej_not ((ej_isi (T' := "bool") (by rfl) T.m_isinstance (by rfl) T.m_bool (by decide +kernel) (r_ 0))).rd))))), fun ds q hf => ?_⟩
  obtain ⟨v, rfl, hk, hq⟩ := hf
  cases v <;> simp_all [D.kind, D.isInt, kitB_ii, kitB_ni, kitB_bi, kitB_si, kitB_li, kitB_ti, kitB_di, kitB_ib, kitB_bb]
def D.isNat : D → Bool
  | .int i => decide (0 ≤ i)
  | _ => false
def f_is_number : SpD := fun ds q => ∃ v, ds = [v] ∧ v.kind ∧ q (.bl v.isNat)
theorem len_is_number : ∀ ds q, f_is_number ds q → ds.length = P_is_number.length := by
  rintro ds q ⟨v, rfl, _⟩; rfl
theorem p_is_number {w : World} {K : PySem.W.Frag} {mg : Str → Option Value} {base : Heap} {Z : ZZ} (T : Top w K mg base Z) : Cl prg w K mg base 2 "is_number" (spP Z.C K f_is_number) := by
  have c_is_integer := p_is_integer T
  have nd := sc_is_number.nd
  refine clP_of (k := 1) T.d_is_number sc_is_number (by intro kV doc pm an cdv ct us h; match us, h with | [a0], _ => rfl) len_is_number fun fa cdv A outer s H E hr => ⟨_, (ss_one (sj_ret (ej_and ((ej_call c_is_integer hr (by decide) (by rfl) (aj_cons (n_ 0) aj_nil))).rd (ej_one (ej_cmp op_ge ow_b (r_ 0) (ej_int).rd (nomark _)))))), fun ds q hf => ?_⟩
  obtain ⟨v, rfl, hk, hq⟩ := hf
  cases v <;> simp_all [f_is_integer, D.kind, D.isInt, D.isNat]
def D.blw (b : Int) : D → Bool
  | .int i => decide (0 ≤ i) && decide (i < b)
  | _ => false
def f_is_below : SpD := fun ds q => ∃ v b, ds = [v, .int b] ∧ v.kind ∧ q (.bl (v.blw b))
theorem len_is_below : ∀ ds q, f_is_below ds q → ds.length = P_is_below.length := by
  rintro ds q ⟨v, b, rfl, _⟩; rfl
theorem p_is_below {w : World} {K : PySem.W.Frag} {mg : Str → Option Value} {base : Heap} {Z : ZZ} (T : Top w K mg base Z) : Cl prg w K mg base 3 "is_below" (spP Z.C K f_is_below) := by
  have c_is_number := p_is_number T
  have nd := sc_is_below.nd
  refine clP_of (k := 2) T.d_is_below sc_is_below (by intro kV doc pm an cdv ct us h; match us, h with | [a0, a1], _ => rfl) len_is_below fun fa cdv A outer s H E hr => ⟨_, (ss_one (sj_ret (ej_and ((ej_call c_is_number hr (by decide) (by rfl) (aj_cons (n_ 0) aj_nil))).rd (ej_one (ej_cmp op_lt ow_b (r_ 0) (r_ 1) (nomark _)))))), fun ds q hf => ?_⟩
  obtain ⟨v, b, rfl, hk, hq⟩ := hf
  cases v <;> simp_all [f_is_number, D.kind, D.isNat, D.blw]
  split <;> simp_all
def LETS : Str := "abcdefghijklmnopqrstuvwxyz"
def f_is_letter : SpD := fun ds q => ∃ c : Nat, ds = [.str ⟨#[c]⟩] ∧ q (.bl (decide (c ∈ LETS.cps)))
theorem len_is_letter : ∀ ds q, f_is_letter ds q → ds.length = P_is_letter.length := by
  rintro ds q ⟨c, rfl, _⟩; rfl
theorem str1_len (c : Nat) : (⟨#[c]⟩ : Str).length = 1 := rfl
theorem p_is_letter {w : World} {K : PySem.W.Frag} {mg : Str → Option Value} {base : Heap} {Z : ZZ} (T : Top w K mg base Z) : Cl prg w K mg base 1 "is_letter" (spP Z.C K f_is_letter) := by
  have nd := sc_is_letter.nd
  refine clP_of (k := 0) T.d_is_letter sc_is_letter (by intro kV doc pm an cdv ct us h; match us, h with | [a0], _ => rfl) len_is_letter fun fa cdv A outer s H E hr => ⟨_, (ss_one (sj_ret (ej_and ((ej_cmp op_eq ow_eq ((ej_b1 call_len_str cw_lenS (by rfl) T.m_len PySem.boot_len (r_ 0))).rd (ej_int).rd (nomark _))).rd (ej_one (ej_cmp op_in_sign ow_inS (r_ 0) ((ej_gS (by rfl) T.c_LETTERS)).rd (by rfl)))))), fun ds q hf => ?_⟩
  obtain ⟨c, rfl, hq⟩ := hf
  simp [str1_len, sizeLine_eq]
  exact hq
def D.isName : D → Bool
  | .str x => decide (1 ≤ x.length) && (decide (x.length ≤ 5) && x.cps.toList.all fun c => decide (c ∈ LETS.cps))
  | _ => false
def f_is_name : SpD := fun ds q => ∃ v, ds = [v] ∧ v.kind ∧ (∀ x, v = .str x → x.length ≤ 1000) ∧ q (.bl v.isName)
theorem len_is_name : ∀ ds q, f_is_name ds q → ds.length = P_is_name.length := by
  rintro ds q ⟨v, rfl, _⟩; rfl
theorem p_is_name {w : World} {K : PySem.W.Frag} {mg : Str → Option Value} {base : Heap} {Z : ZZ} (T : Top w K mg base Z) : Cl prg w K mg base 2 "is_name" (spP Z.C K f_is_name) := by
  have c_is_letter := p_is_letter T
  have nd := sc_is_name.nd
  refine clP_of (k := 1) T.d_is_name sc_is_name (by intro kV doc pm an cdv ct us h; match us, h with | [a0], _ => rfl) len_is_name fun fa cdv A outer s H E hr => ⟨_, (ss_cons (sj_if (TJW.tj (tj_or (tj_not (tj_val ((ej_isi (T' := "str") (by rfl) T.m_isinstance (by rfl) T.m_str (by decide +kernel) (r_ 0))).rd)) (tj_or1 (tj_not (tj_chain op_le op_le (ej_int).rd ((ej_b1 call_len_str cw_lenS (by rfl) T.m_len PySem.boot_len (r_ 0))).rd ((ej_gI (by rfl) T.c_LONGEST_NAME)).rd))))) (ss_one (sj_ret ej_bl)) ss_nil)
  (ss_one (sj_ret (ej_b1 (cr_all rfl) cw_all (by rfl) T.m_all (by decide +kernel) ((ej_lc (own := [("sign", 1)]) rfl nd (ij_str (r_ 0)) (blkOk_by (own := [("sign", 1)]) (N := N_is_name) (sc := defScope st_is_name) (by decide +kernel)) (by decide) (fun _ _ _ _ _ => (g_ 1 nd)) (fun _ _ _ _ _ => ts_nil) (fun _ _ _ _ _ => (ej_call c_is_letter hr (by decide) (by rfl) (aj_cons (n_ 1) aj_nil))))).dt.rd)))), fun ds q hf => ?_⟩
  obtain ⟨v, rfl, hk, hl, hq⟩ := hf
  cases v
  case str x =>
    have hx := hl x rfl
    simp [kitB_ss]
    refine ⟨len_ok (by omega), ?_⟩
    simp only [D.isName] at hq
    split
    · split
      · rename_i h1 h2
        refine lcGo_map (fun d => match d with | .str z => .bl (z.cps.toList.all fun c => decide (c ∈ LETS.cps)) | _ => .non) (by simp [signs]; exact Nat.le_trans hx (by omega)) ?_ ?_
        · intro d hd acc q hacc hq
          obtain ⟨c, hc, rfl⟩ := List.mem_map.mp hd
          simp [f_is_letter]
          exact ⟨hacc, by simpa using hq⟩
        · refine ⟨x.cps.toList.map fun c => decide (c ∈ LETS.cps), by simp [signs], ?_⟩
          have e1 : decide (1 ≤ x.length) = true := by simp; omega
          have e2 : decide (x.length ≤ 5) = true := by simp; omega
          rw [e1, e2] at hq
          simpa [List.all_map] using hq
      · rename_i h1 h2
        have e1 : decide (1 ≤ x.length) = true := by simp; omega
        have e2 : decide (x.length ≤ 5) = false := by simp; omega
        rw [e1, e2] at hq
        exact hq
    · rename_i h1
      have e1 : decide (1 ≤ x.length) = false := by simp; omega
      rw [e1] at hq
      exact hq
  all_goals (simp_all [D.kind, D.isName, kitB_is, kitB_ns, kitB_bs, kitB_ss, kitB_ls, kitB_ts, kitB_ds])
/-- a tuple of a size, all below -/
def D.isRow (n b : Int) : D → Bool
  | .tup xs => decide ((xs.length : Int) = n) && xs.all (D.blw b)
  | _ => false
def f_is_row : SpD := fun ds q => ∃ v n b, ds = [v, .int n, .int b] ∧ v.kind ∧ (∀ ns, v ≠ .ftu ns) ∧ (∀ xs, v = .tup xs → xs.length ≤ 1000 ∧ ∀ x ∈ xs, x.kind) ∧ q (.bl (v.isRow n b))
theorem len_is_row : ∀ ds q, f_is_row ds q → ds.length = P_is_row.length := by
  rintro ds q ⟨v, n, b, rfl, _⟩; rfl
theorem p_is_row {w : World} {K : PySem.W.Frag} {mg : Str → Option Value} {base : Heap} {Z : ZZ} (T : Top w K mg base Z) : Cl prg w K mg base 4 "is_row" (spP Z.C K f_is_row) := by
  have c_is_below := p_is_below T
  have nd := sc_is_row.nd
  refine clP_of (k := 3) T.d_is_row sc_is_row (by intro kV doc pm an cdv ct us h; match us, h with | [a0, a1, a2], _ => rfl) len_is_row fun fa cdv A outer s H E hr => ⟨_, (ss_one (sj_ret (ej_and ((ej_isi (T' := "tuple") (by rfl) T.m_isinstance (by rfl) T.m_tuple (by decide +kernel) (r_ 0))).rd (ej_and ((ej_cmp op_eq ow_eq ((ej_b1 call_len_seq cw_len (by rfl) T.m_len PySem.boot_len (r_ 0))).rd (r_ 1) (nomark _))).rd (ej_one (ej_b1 (cr_all rfl) cw_all (by rfl) T.m_all (by decide +kernel) ((ej_lc (own := [("item", 3)]) rfl nd (ij_tup (n_ 0)) (blkOk_by (own := [("item", 3)]) (N := N_is_row) (sc := defScope st_is_row) (by decide +kernel)) (by decide) (fun _ _ _ _ _ => (g_ 3 nd)) (fun _ _ _ _ _ => ts_nil) (fun _ _ _ _ _ => (ej_call c_is_below hr (by decide) (by rfl) (aj_cons (n_ 3) (aj_cons (n_ 2) aj_nil)))))).dt.rd)))))), fun ds q hf => ?_⟩
  obtain ⟨v, n, b, rfl, hk, hf, hl, hq⟩ := hf
  cases v
  case tup xs =>
    obtain ⟨h1, h2⟩ := hl xs rfl
    simp [kitB_tt]
    simp only [D.isRow] at hq
    split
    · rename_i hn
      refine lcGo_map (fun d => .bl (d.blw b)) (by simp; omega) ?_ ?_
      · intro d hd acc q hacc hq
        simp [f_is_below]
        refine ⟨_, _, ⟨rfl, rfl⟩, h2 d hd, hacc, hq⟩
      · refine ⟨xs.map (D.blw b), by simp, ?_⟩
        rw [show decide ((xs.length : Int) = n) = true by simpa using hn] at hq
        simpa [List.all_map] using hq
    · rename_i hn
      rw [show decide ((xs.length : Int) = n) = false by simpa using hn] at hq
      exact hq
  case ftu ns => exact absurd rfl (hf ns)
  all_goals (simp_all [D.kind, D.isRow, kitB_it, kitB_nt, kitB_bt, kitB_st, kitB_lt, kitB_tt, kitB_dt])
end G78
namespace G78
open PySem PySem.Spec PyProof.Rows L2
theorem kind_int (i : Int) : (D.int i).kind := fun z => nomatch z
def f_check_state : SpD := fun ds q => ∃ (n s : Nat) (d : D), ds = [.sto n d, .int s] ∧ s < n ∧ q .non
theorem len_check_state : ∀ ds q, f_check_state ds q → ds.length = P_check_state.length := by
  rintro ds q ⟨n, s, d, rfl, _⟩; rfl
theorem p_check_state {w : World} {K : PySem.W.Frag} {mg : Str → Option Value} {base : Heap} {Z : ZZ} (T : Top w K mg base Z) : Cl prg w K mg base 4 "check_state" (spP Z.C K f_check_state) := by
  have c_is_below := p_is_below T
  have nd := sc_check_state.nd
  refine clP_of (k := 3) T.d_check_state sc_check_state (by intro kV doc pm an cdv ct us h; match us, h with | [a0, a1], _ => rfl) len_check_state fun fa cdv A outer s H E hr => ⟨_, (ss_one (sj_if (tj_not (tj_val ((ej_call c_is_below hr (by decide) (by rfl) (aj_cons (n_ 1) (aj_cons (ej_size T.sto (r_ 0)) aj_nil)))).rd)) (ss_one sj_never) ss_nil)), fun ds q hf => ?_⟩
  obtain ⟨n, i, d, rfl, hi, hq⟩ := hf
  simp [-Bool.exists_bool]
  refine ⟨_, _, rfl, kind_int _, _, rfl, ?_⟩
  simp [D.blw, hi]
  exact hq
def f_need_office : SpDX := fun ds q x => ∃ (n : Nat) (offs : List (List Op)) (v : D), ds = [stoD n offs, v] ∧ v.kind ∧ offs.length ≤ 1000 ∧ if v.blw offs.length = true then q .non else x 0 "office"
theorem len_need_office : ∀ ds q x, f_need_office ds q x → ds.length = P_need_office.length := by
  rintro ds q x ⟨n, offs, v, rfl, _⟩; rfl
theorem p_need_office {w : World} {K : PySem.W.Frag} {mg : Str → Option Value} {base : Heap} {Z : ZZ} (T : Top w K mg base Z) : Cl prg w K mg base 4 "need_office" (spX Z.C Z.cls K f_need_office) := by
  have c_is_below := p_is_below T
  have nd := sc_need_office.nd
  refine clX_of (k := 3) T.d_need_office sc_need_office (by intro kV doc pm an cdv ct us h; match us, h with | [a0, a1], _ => rfl) len_need_office fun fa cdv A outer s H E hr => ⟨_, (ss_one (sj_if (tj_not (tj_val ((ej_call c_is_below hr (by decide) (by rfl) (aj_cons (n_ 1) (aj_cons (ej_b1 call_len_seq cw_len (by rfl) T.m_len PySem.boot_len ((ej_offs T.sto (r_ 0))).rd) aj_nil)))).rd)) (ss_one (sj_raise (n := 0) rfl T.xN hr (takes_of rfl rfl rfl rfl) ej_str)) ss_nil)), fun ds q x hf => ?_⟩
  obtain ⟨n, offs, v, rfl, hk, hl, hq⟩ := hf
  simp [-Bool.exists_bool, and_assoc, stoD, offD]
  refine ⟨_, _, rfl, hk, _, rfl, ?_⟩
  cases e : v.blw offs.length with
  | true => simpa [e] using hq
  | false => simpa [e] using hq
/-- places in rising order -/
def Rise (l : List Nat) : Prop := l.Pairwise (· < ·)
def f_is_listing : SpD := fun ds q => ∃ (l : List Nat) (b : Nat), ds = [.tup (dN l), .int b] ∧ Rise l ∧ l.length ≤ 63 ∧ (∀ x ∈ l, x < b) ∧ q (.bl true)
theorem len_is_listing : ∀ ds q, f_is_listing ds q → ds.length = P_is_listing.length := by
  rintro ds q ⟨l, b, rfl, _⟩; rfl
theorem rise_uniq : ∀ {a b : List Int}, a.Pairwise (· < ·) → b.Pairwise (· < ·) → (∀ k, k ∈ a ↔ k ∈ b) → a = b
  | [], [], _, _, _ => rfl
  | [], y :: ys, _, _, h => by have := (h y).mpr List.mem_cons_self; cases this
  | x :: xs, [], _, _, h => by have := (h x).mp List.mem_cons_self; cases this
  | x :: xs, y :: ys, ha, hb, h => by
    rw [List.pairwise_cons] at ha hb
    have e : x = y := by
      rcases List.mem_cons.mp ((h x).mp List.mem_cons_self) with e | h1
      · exact e
      · rcases List.mem_cons.mp ((h y).mpr List.mem_cons_self) with e | h2
        · exact e.symm
        · have := ha.1 y h2
          have := hb.1 x h1
          omega
    subst e
    refine congrArg _ (rise_uniq ha.2 hb.2 fun k => ⟨fun hk => ?_, fun hk => ?_⟩)
    · rcases List.mem_cons.mp ((h k).mp (List.mem_cons_of_mem _ hk)) with e | h1
      · have := ha.1 k hk; omega
      · exact h1
    · rcases List.mem_cons.mp ((h k).mpr (List.mem_cons_of_mem _ hk)) with e | h1
      · have := hb.1 k hk; omega
      · exact h1
theorem shaped_ints (ns : List Int) : (D.tup (ns.map D.int)).ok := by
  have e : ∀ ns : List Int, D.pys (ns.map D.int) = ns.map PyData.int := fun ns => by rw [D.pys_map, List.map_map]; rfl
  have h1 : ∀ ns : List Int, D.pures (ns.map D.int) = true := fun ns => by rw [D.pures_all]; simp [D.pure]
  have h2 : ∀ ns : List Int, PyData.canLayAll0 (ns.map PyData.int) = true := fun ns => by
    induction ns with
    | nil => rfl
    | cons n ns ih => simp [PyData.canLayAll0, PyData.canLay0, ih]
  have h3 : ∀ ns : List Int, PyData.depthAll (ns.map PyData.int) ≤ 1 := fun ns => by
    induction ns with
    | nil => simp [PyData.depthAll]
    | cons n ns ih => simp [PyData.depthAll, PyData.depth]; omega
  refine ⟨h1 ns, ?_⟩
  show (PyData.canLay0 (.tuple (D.pys (ns.map D.int))) && decide (PyData.depth (.tuple (D.pys (ns.map D.int))) ≤ 64)) = true
  rw [e]
  have := h3 ns
  simp [PyData.canLay0, PyData.depth, h2 ns]
  omega
theorem p_is_listing {w : World} {K : PySem.W.Frag} {mg : Str → Option Value} {base : Heap} {Z : ZZ} (T : Top w K mg base Z) : Cl prg w K mg base 4 "is_listing" (spP Z.C K f_is_listing) := by
  have c_is_below := p_is_below T
  have nd := sc_is_listing.nd
  refine clP_of (k := 3) T.d_is_listing sc_is_listing (by intro kV doc pm an cdv ct us h; match us, h with | [a0, a1], _ => rfl) len_is_listing fun fa cdv A outer s H E hr => ⟨_, (ss_cons (sj_if (TJW.tj (tj_or (tj_not (tj_val ((ej_isi (T' := "tuple") (by rfl) T.m_isinstance (by rfl) T.m_tuple (by decide +kernel) (r_ 0))).rd)) (tj_or1 (tj_not (tj_val ((ej_b1 (cr_all rfl) cw_all (by rfl) T.m_all (by decide +kernel) ((ej_lc (own := [("item", 2)]) rfl nd (ij_tup (n_ 0)) (blkOk_by (own := [("item", 2)]) (N := N_is_listing) (sc := defScope st_is_listing) (by decide +kernel)) (by decide) (fun _ _ _ _ _ => (g_ 2 nd)) (fun _ _ _ _ _ => ts_nil) (fun _ _ _ _ _ => (ej_call c_is_below hr (by decide) (by rfl) (aj_cons (n_ 2) (aj_cons (n_ 1) aj_nil)))))).dt.rd)).rd))))) (ss_one (sj_ret ej_bl)) ss_nil)
  (ss_one (sj_ret (ej_cmp (op_eqD hr.units) ow_eqD (r_ 0) ((ej_t1 call_tuple_of cw_tuple (by rfl) T.m_tuple (by decide +kernel) ((ej_sset rfl (by rfl) T.m_sorted (by rfl) T.m_set (r_ 0))).dt.rd)).rd (nomark _))))), fun ds q hf => ?_⟩
  obtain ⟨l, b, rfl, hr, hl, hb, hq⟩ := hf
  simp [-Bool.exists_bool, and_assoc, kitB_tt]
  refine lcGo_map (fun _ => .bl true) (by simp; omega) ?_ ?_
  · intro d hd acc q hacc hq
    obtain ⟨j, hj, rfl⟩ := List.mem_map.mp hd
    refine ⟨rfl, _, rfl, _, rfl, _, _, rfl, kind_int _, ?_⟩
    simp [D.blw, hb j hj, hacc]
    exact hq
  · refine ⟨l.map fun _ => true, by simp [dN], ?_⟩
    rw [if_neg (by simp)]
    refine ⟨_, dN_int l, by simp; omega, fun ms h1 h2 => ?_⟩
    have e : ms = l.map fun n : Nat => (n : Int) := rise_uniq h1 (List.pairwise_map.mpr (hr.imp fun h => by omega)) h2
    subst e
    rw [dN_int]
    refine ⟨shaped_ints _, shaped_ints _, ?_⟩
    rw [SeqAt.eqv_refl _ (SeqAt.canLay_of_shaped (shaped_ints _).2)]
    exact hq
def f_need_offices : SpD := fun ds q => ∃ (n : Nat) (offs : List (List Op)) (l : List Nat), ds = [stoD n offs, .tup (dN l)] ∧ Rise l ∧ l.length ≤ 63 ∧ (∀ x ∈ l, x < offs.length) ∧ q (.tup (dN l))
theorem len_need_offices : ∀ ds q, f_need_offices ds q → ds.length = P_need_offices.length := by
  rintro ds q ⟨n, offs, l, rfl, _⟩; rfl
theorem p_need_offices {w : World} {K : PySem.W.Frag} {mg : Str → Option Value} {base : Heap} {Z : ZZ} (T : Top w K mg base Z) : Cl prg w K mg base 5 "need_offices" (spP Z.C K f_need_offices) := by
  have c_is_listing := p_is_listing T
  have nd := sc_need_offices.nd
  refine clP_of (k := 4) T.d_need_offices sc_need_offices (by intro kV doc pm an cdv ct us h; match us, h with | [a0, a1], _ => rfl) len_need_offices fun fa cdv A outer s H E hr => ⟨_, (ss_cons (sj_if (tj_cmp op_isN ow_isN (r_ 1) (ej_non).rd (nomark _)) (ss_one (sj_ret (ej_tupRg rfl (by rfl) T.m_tuple (by rfl) T.m_range ((ej_b1 call_len_seq cw_len (by rfl) T.m_len PySem.boot_len ((ej_offs T.sto (r_ 0))).rd)).rd))) ss_nil)
  (ss_cons (sj_if (tj_not (tj_val ((ej_call c_is_listing hr (by decide) (by rfl) (aj_cons (n_ 1) (aj_cons (ej_b1 call_len_seq cw_len (by rfl) T.m_len PySem.boot_len ((ej_offs T.sto (r_ 0))).rd) aj_nil)))).rd)) (ss_one sj_never) ss_nil)
  (ss_one (sj_ret (n_ 1))))), fun ds q hf => ?_⟩
  obtain ⟨n, offs, l, rfl, hr, hl, hb, hq⟩ := hf
  simp [-Bool.exists_bool, and_assoc, stoD, offD]
  exact ⟨l, offs.length, rfl, hr, hl, hb, _, rfl, by simpa using hq⟩
def f_all_offices : SpD := fun ds q => ∃ (n : Nat) (offs : List (List Op)), ds = [stoD n offs] ∧ offs.length ≤ 1000 ∧ q (.tup (dN (List.range offs.length)))
theorem len_all_offices : ∀ ds q, f_all_offices ds q → ds.length = P_all_offices.length := by
  rintro ds q ⟨n, offs, rfl, _⟩; rfl
theorem p_all_offices {w : World} {K : PySem.W.Frag} {mg : Str → Option Value} {base : Heap} {Z : ZZ} (T : Top w K mg base Z) : Cl prg w K mg base 1 "all_offices" (spP Z.C K f_all_offices) := by
  have nd := sc_all_offices.nd
  refine clP_of (k := 0) T.d_all_offices sc_all_offices (by intro kV doc pm an cdv ct us h; match us, h with | [a0], _ => rfl) len_all_offices fun fa cdv A outer s H E hr => ⟨_, (ss_one (sj_ret (ej_tupRg rfl (by rfl) T.m_tuple (by rfl) T.m_range ((ej_b1 call_len_seq cw_len (by rfl) T.m_len PySem.boot_len ((ej_offs T.sto (r_ 0))).rd)).rd))), fun ds q hf => ?_⟩
  obtain ⟨n, offs, rfl, hl, hq⟩ := hf
  simp [-Bool.exists_bool, and_assoc, stoD, offD]
  refine ⟨offs.length, rfl, by omega, ?_⟩
  rw [rgN_dN]; exact hq
/-- all places but one -/
def others (m k : Nat) : List Nat := (List.range m).filter fun j => decide (j ≠ k)
def f_other_offices : SpD := fun ds q => ∃ (n : Nat) (offs : List (List Op)) (k : Nat), ds = [stoD n offs, .tup [.int k]] ∧ offs.length ≤ 1000 ∧ q (.tup (dN (others offs.length k)))
theorem len_other_offices : ∀ ds q, f_other_offices ds q → ds.length = P_other_offices.length := by
  rintro ds q ⟨n, offs, k, rfl, _⟩; rfl
theorem p_other_offices {w : World} {K : PySem.W.Frag} {mg : Str → Option Value} {base : Heap} {Z : ZZ} (T : Top w K mg base Z) : Cl prg w K mg base 2 "other_offices" (spP Z.C K f_other_offices) := by
  have c_all_offices := p_all_offices T
  have nd := sc_other_offices.nd
  refine clP_of (k := 1) T.d_other_offices sc_other_offices (by intro kV doc pm an cdv ct us h; match us, h with | [a0, a1], _ => rfl) len_other_offices fun fa cdv A outer s H E hr => ⟨_, (ss_one (sj_ret (ej_t1 call_tuple_of cw_tuple (by rfl) T.m_tuple (by decide +kernel) ((ej_lc (own := [("office", 2)]) rfl nd (ij_tup (ej_call c_all_offices hr (by decide) (by rfl) (aj_cons (n_ 0) aj_nil))) (blkOk_by (own := [("office", 2)]) (N := N_other_offices) (sc := defScope st_other_offices) (by decide +kernel)) (by decide) (fun _ _ _ _ _ => (g_ 2 nd)) (fun _ _ _ _ _ => (ts_one (tj_cmp op_notIn_seq ow_in (r_ 2) (r_ 1) (by rfl)))) (fun _ _ _ _ _ => (n_ 2)))).dt.rd))), fun ds q hf => ?_⟩
  obtain ⟨n, offs, kk, rfl, hl, hq⟩ := hf
  simp [-Bool.exists_bool, and_assoc, stoD, offD]
  refine ⟨n, offs, rfl, hl, _, rfl, ?_⟩
  refine lcGo_filter (fun d => if decide (d.nat ≠ kk) = true then some d else none) (by simp; omega) ?_ ?_
  · intro d hd acc q hacc hq
    obtain ⟨j, hj, rfl⟩ := List.mem_map.mp hd
    refine ⟨_, _, rfl, rfl, _, _, rfl, rfl, .inl ⟨_, [(kk : Int)], rfl, .inr rfl, _, rfl, ?_⟩⟩
    by_cases e : j = kk
    · subst e
      simpa [D.nat] using hq
    · have e' : ¬ (j : Int) = (kk : Int) := by omega
      simp [D.nat, e] at hq
      simp [e', hacc]
      exact hq
  · rw [List.nil_append, show List.filterMap (fun d : D => if decide (d.nat ≠ kk) = true then some d else none) (dN (List.range offs.length)) = dN (others offs.length kk) from dN_filter (fun j => decide (j ≠ kk)) _]
    exact hq
end G78
namespace G78
open PySem PySem.Spec PyProof.Rows L2
theorem pys_dN (l : List Nat) : D.pys (dN l) = l.map fun n => PyData.int (n : Nat) := by rw [D.pys_map]; unfold dN; rw [List.map_map]; rfl
theorem alike_ints : ∀ (a b : List Nat), PySem.W.alikeAll (a.map fun n => PyData.int (n : Nat)) (b.map fun n => PyData.int (n : Nat)) = true
  | [], _ => by simp [PySem.W.alikeAll]
  | _ :: _, [] => by simp [PySem.W.alikeAll]
  | x :: a, y :: b => by simp [PySem.W.alikeAll, PySem.W.alike, alike_ints a b]
theorem depth_ints : ∀ (a : List Nat), PyData.depthAll (a.map fun n => PyData.int (n : Nat)) = 0
  | [] => rfl
  | x :: a => by simp [PyData.depthAll, PyData.depth, depth_ints a]
theorem pures_dN (l : List Nat) : D.pures (dN l) = true := by rw [D.pures_all]; simp [dN, D.pure]
theorem opD_py (o : Op) : o.D.py = .tuple [.str o.nm, .tuple (o.ends.map fun n => PyData.int (n : Nat)), .tuple (o.told.map fun n => PyData.int (n : Nat))] := by
  simp [Op.D, D.py, D.pys, pys_dN]
theorem opD_pure (o : Op) : o.D.pure = true := by simp [Op.D, D.pure, D.pures, pures_dN]
theorem opD_alike (a b : Op) : PySem.W.alike a.D.py b.D.py = true := by
  rw [opD_py, opD_py]
  simp [PySem.W.alike, PySem.W.alikeAll, alike_ints]
theorem opD_depth (o : Op) : o.D.py.depth ≤ 20 := by
  rw [opD_py]
  simp [PyData.depth, PyData.depthAll, depth_ints]
theorem opD_inj {a b : Op} (h : a.D = b.D) : a = b := by
  obtain ⟨n1, e1, t1⟩ := a
  obtain ⟨n2, e2, t2⟩ := b
  simp only [Op.D, D.tup.injEq, List.cons.injEq, D.str.injEq, and_true] at h
  obtain ⟨h1, h2, h3⟩ := h
  have inj : ∀ {x y : List Nat}, dN x = dN y → x = y := fun {x} => by
    induction x with
    | nil => intro y h; cases y with | nil => rfl | cons _ _ => simp [dN] at h
    | cons a x ih =>
      intro y h
      cases y with
      | nil => simp [dN] at h
      | cons b y =>
        simp only [dN, List.map_cons, List.cons.injEq, D.int.injEq] at h
        have h2 := ih (y := y) h.2
        have h1 : a = b := by have := h.1; omega
        rw [h1, h2]
  rw [h1, inj h2, inj h3]
/-- a sorted list of operations is one of the same -/
theorem sort_ops (os : List Op) : ∃ os' : List Op, (os.map Op.D).mergeSort (PySem.W.dataLe false D.py) = os'.map Op.D ∧ os'.Perm os := by
  have p := List.mergeSort_perm (os.map Op.D) (PySem.W.dataLe false D.py)
  have : ∀ (l : List D) (os : List Op), l.Perm (os.map Op.D) → ∃ os' : List Op, l = os'.map Op.D ∧ os'.Perm os := by
    intro l
    induction l with
    | nil => intro os h; have := h.length_eq; cases os with | nil => exact ⟨[], rfl, .refl _⟩ | cons _ _ => simp at this
    | cons d l ih =>
      intro os h
      have hd : d ∈ os.map Op.D := h.mem_iff.mp List.mem_cons_self
      obtain ⟨o, ho, rfl⟩ := List.mem_map.mp hd
      obtain ⟨a, b, rfl⟩ := List.append_of_mem ho
      have h' : l.Perm ((a ++ b).map Op.D) := by
        have : (o.D :: l).Perm (o.D :: (a ++ b).map Op.D) := h.trans (by simpa using List.perm_middle)
        exact this.cons_inv
      obtain ⟨os', e, pe⟩ := ih _ h'
      exact ⟨o :: os', by rw [e]; rfl, (pe.cons o).trans List.perm_middle.symm⟩
  exact this _ os p
theorem flat_len {offs : List (List Op)} (h : ∀ os ∈ offs, os.length ≤ 40) : ∀ l : List Nat, (flatOps offs l).length ≤ 40 * l.length
  | [] => by simp [flatOps]
  | k :: l => by
    have ih := flat_len h l
    have hk : (offs.getD k []).length ≤ 40 := by
      rw [List.getD_eq_getElem?_getD]
      cases e : offs[k]? with
      | none => simp
      | some os => exact h os (List.mem_of_getElem? e)
    unfold flatOps at ih ⊢
    rw [List.flatMap_cons, List.length_append, List.length_cons]
    omega
def f_operations_of : SpD := fun ds q => ∃ (n : Nat) (offs : List (List Op)) (l : List Nat), ds = [stoD n offs, .tup (dN l)] ∧ SOk n offs ∧ l.length ≤ 8 ∧ (∀ x ∈ l, x < offs.length) ∧ ∀ os : List Op, (∀ o, o ∈ os ↔ o ∈ flatOps offs l) → os.length ≤ 1000 → q (.tup (os.map Op.D))
theorem len_operations_of : ∀ ds q, f_operations_of ds q → ds.length = P_operations_of.length := by
  rintro ds q ⟨n, offs, l, rfl, _⟩; rfl
theorem p_operations_of {w : World} {K : PySem.W.Frag} {mg : Str → Option Value} {base : Heap} {Z : ZZ} (T : Top w K mg base Z) : Cl prg w K mg base 1 "operations_of" (spP Z.C K f_operations_of) := by
  have nd := sc_operations_of.nd
  refine clP_of (k := 0) T.d_operations_of sc_operations_of (by intro kV doc pm an cdv ct us h; match us, h with | [a0, a1], _ => rfl) len_operations_of fun fa cdv A outer s H E hr => ⟨_, (ss_one (sj_ret (ej_t1 call_tuple_of cw_tuple (by rfl) T.m_tuple (by decide +kernel) ((ej_b1 (cr_sortD hr) cw_sortD (by rfl) T.m_sorted (by decide +kernel) ((ej_lc2 (own := [("office", 2), ("operation", 3)]) (vs1 := [3]) rfl nd (ij_tup (n_ 1)) (blkOk_by (own := [("office", 2), ("operation", 3)]) (N := N_operations_of) (sc := defScope st_operations_of) (by decide +kernel)) (by decide) (by decide) (by decide) (fun _ _ _ _ _ => (g_ 2 nd)) (fun _ _ _ _ _ => ts_nil) (fun _ _ _ _ _ => (ij_tup (ej_ix ix_seq ow_ix ((ej_offs T.sto (r_ 0))).rd (r_ 2)))) (fun _ _ _ _ _ => (g_ 3 nd)) (fun _ _ _ _ _ => ts_nil) (fun _ _ _ _ _ => (n_ 3)))).dt.rd)).dt.rd))), fun ds q hf => ?_⟩
  obtain ⟨n, offs, l, rfl, ok, hl, hb, hq⟩ := hf
  simp [-Bool.exists_bool, and_assoc, stoD, offD]
  have fl := flat_len ok.few l
  have at_ : ∀ j ∈ l, ∃ os, offs[j]? = some os := fun j hj => ⟨offs[j]'(hb j hj), List.getElem?_eq_getElem (hb j hj)⟩
  have eq : (dN l).flatMap (fun d => (offs.getD d.nat []).map Op.D) = (flatOps offs l).map Op.D := by
    unfold flatOps dN
    rw [List.flatMap_map, List.map_flatMap]
    rfl
  refine lcGo_flat (fun d => (offs.getD d.nat []).map Op.D) (by rw [eq]; simp; omega) ?_ ?_
  · intro d hd acc q hacc hq
    obtain ⟨j, hj, rfl⟩ := List.mem_map.mp hd
    obtain ⟨os, e⟩ := at_ j hj
    have e2 : offs.getD (D.int (j : Nat)).nat [] = os := by
      rw [List.getD_eq_getElem?_getD]; show (offs[j]?).getD [] = os; rw [e]; rfl
    rw [e2] at hacc hq
    simp [e]
    refine lcGo_map id (by simpa using hacc) ?_ (by simpa using hq)
    intro x hx acc q ha hq
    exact ⟨_, rfl, ha, hq⟩
  · rw [List.nil_append, eq]
    refine ⟨?_, ?_, ?_, ?_, ?_⟩
    · intro y hy; obtain ⟨o, _, rfl⟩ := List.mem_map.mp hy; exact opD_pure o
    · intro y hy z hz; obtain ⟨o, _, rfl⟩ := List.mem_map.mp hy; obtain ⟨o', _, rfl⟩ := List.mem_map.mp hz; exact opD_alike o o'
    · intro y hy; obtain ⟨o, _, rfl⟩ := List.mem_map.mp hy; exact ⟨_, _, rfl⟩
    · intro y hy; obtain ⟨o, _, rfl⟩ := List.mem_map.mp hy; exact opD_depth o
    · obtain ⟨os', e, pe⟩ := sort_ops (flatOps offs l)
      rw [e]
      refine hq os' (fun o => pe.mem_iff) ?_
      rw [pe.length_eq]
      omega
end G78
namespace G78
open PySem PySem.Spec PyProof.Rows L2
def f_distances : SpD := fun ds q => ∃ (n s : Nat) (offs : List (List Op)) (l : List Nat), ds = [stoD n offs, .int s, .tup (dN l)] ∧ SOk n offs ∧ s < n ∧ Rise l ∧ l.length ≤ 8 ∧ (∀ x ∈ l, x < offs.length) ∧
  ∀ fs : List D, fs.length = n → (∀ i, i < n → ∃ d, fs[i]? = some d ∧ d.isNon = !reachB (flatOps offs l) s i) → q (.tup fs)
theorem len_distances : ∀ ds q, f_distances ds q → ds.length = P_distances.length := by
  rintro ds q ⟨n, s, offs, l, rfl, _⟩; rfl
/-- what the search has found -/
structure Seen (os : List Op) (n s : Nat) (im : List (Nat × Nat)) (at' : Nat) : Prop where
  nd : (im.map (·.1)).Nodup
  rc : ∀ x ∈ im.map (·.1), x < n ∧ Reach os s x
  st : s ∈ im.map (·.1)
  le : at' ≤ im.length
  cl : ∀ i x, i < at' → (im.map (·.1))[i]? = some x → ∀ o ∈ os, o.e x ∈ im.map (·.1)
theorem Seen.n {os : List Op} {n s : Nat} {im : List (Nat × Nat)} {a : Nat} (h : Seen os n s im a) : im.length ≤ n := by
  have := nodup_len h.nd fun x hx => (h.rc x hx).1
  simpa using this
theorem Seen.all {os : List Op} {n s : Nat} {im : List (Nat × Nat)} (h : Seen os n s im im.length) {x : Nat} : x ∈ im.map (·.1) ↔ Reach os s x := by
  refine ⟨fun hx => (h.rc x hx).2, fun hx => ?_⟩
  induction hx with
  | refl => exact h.st
  | step _ ho ih =>
    obtain ⟨i, hi⟩ := List.getElem?_of_mem ih
    exact h.cl i _ (by have := (List.getElem?_eq_some_iff.mp hi).1; simpa using this) hi _ ho
/-- the state of the search -/
def stDist (n st : Nat) (offs : List (List Op)) (l : List Nat) (os : List Op) (im : List (Nat × Nat)) (a : Nat) (c7 c8 c9 c10 : SC) : DS :=
  { s := [.d (stoD n offs), .d (.int st), .d (.tup (dN l)), .d (.tup (os.map Op.D)), .k (imD im), .l (dN (im.map (·.1))), .d (.int a), c7, c8, c9, c10] }
def PvDist (n st : Nat) (offs : List (List Op)) (l : List Nat) (os : List Op) (m : Nat) (ds : DS) : Prop :=
  ∃ (im : List (Nat × Nat)) (a : Nat) (c7 c8 c9 c10 : SC), ds = stDist n st offs l os im a c7 c8 c9 c10 ∧ Seen os n st im a ∧ m + a = n
def PvOps (n st : Nat) (offs : List (List Op)) (l : List Nat) (os : List Op) (a here : Nat) (i : Nat) (ds : DS) : Prop :=
  ∃ (im : List (Nat × Nat)) (c8 c9 c10 : SC), ds = stDist n st offs l os im a (.d (.int here)) c8 c9 c10 ∧ Seen os n st im a ∧ (im.map (·.1))[a]? = some here ∧ ∀ o ∈ os.take i, o.e here ∈ im.map (·.1)
theorem p_distances {w : World} {K : PySem.W.Frag} {mg : Str → Option Value} {base : Heap} {Z : ZZ} (T : Top w K mg base Z) : Cl prg w K mg base 6 "distances" (spP Z.C K f_distances) := by
  have c_check_state := p_check_state T
  have c_operations_of := p_operations_of T
  have c_need_offices := p_need_offices T
  have nd := sc_distances.nd
  refine clP_of1 (k := 5) T.d_distances sc_distances (by intro T kV doc pm an cdv ct us its h1 h2; match us, its, h1, h2 with | [a0, a1, a2], [b0], _, _ => exact ⟨_, rfl, rfl⟩) len_distances fun fa cdv A outer s H E hr => ⟨_, (ss_cons (sj_expr (ej_call c_check_state hr (by decide) (by rfl) (aj_cons (n_ 0) (aj_cons (n_ 1) aj_nil))))
  (ss_cons (sj_set (as_of (i := 3) nd rfl (by first | exact .inl rfl | exact .inr rfl) (ej_call c_operations_of hr (by decide) (by rfl) (aj_cons (n_ 0) (aj_cons (ej_call c_need_offices hr (by decide) (by rfl) (aj_cons (n_ 0) (aj_cons (n_ 2) aj_nil))) aj_nil)))))
  (ss_cons (sj_parT (is := [4, 5, 6]) rfl (pgs_cons (pg_ 4 nd) (pgs_cons (pg_ 5 nd) (pgs_cons (pg_ 6 nd) pgs_nil))) (mj_o (ej_dic1 (n_ 1) ej_int) (mj_o (ej_lst (aj_cons (n_ 1) aj_nil)) (mj_d ej_int mj_nil))) (by decide))
  (ss_cons (sj_while (passes_of rfl) (tj_cmp op_lt ow_b (r_ 6) ((ej_b1 call_len_seq cw_len (by rfl) T.m_len PySem.boot_len (r_ 5))).rd (nomark _)) (ss_cons (sj_set (as_of (i := 7) nd rfl (by first | exact .inl rfl | exact .inr rfl) (ej_ix ix_seq ow_ix (r_ 5) (r_ 6))))
  (ss_cons (sj_for (passes_of rfl) rfl (ij_tup (n_ 3)) (g_ 8 nd) (ss_cons (sj_set (as_of (i := 9) nd rfl (by first | exact .inl rfl | exact .inr rfl) (ej_ix ix_seq ow_ix ((ej_ix ix_seq ow_ix (r_ 8) (ej_int).rd)).rd (r_ 7))))
  (ss_one (sj_if (tj_dnin hr (r_ 9) (r_ 4) (by rfl)) (ss_cons (sj_dput (i := 4) hr rfl (by first | exact .inl rfl | exact .inr (.inl rfl) | exact .inr (.inr rfl)) (ej_op op_add ow_i ((ej_dget hr (r_ 4) (r_ 7))).rd (ej_int).rd) (r_ 9))
  (ss_one (sj_app (i := 5) rfl (by first | exact .inl rfl | exact .inr (.inl rfl) | exact .inr (.inr rfl)) (n_ 9)))) ss_nil))))
  (ss_one (sj_aug (i := 6) nd rfl (by first | exact .inl rfl | exact .inr rfl) (ej_int).rd ip_addC)))))
  (ss_one (sj_ret (ej_t1 call_tuple_of cw_tuple (by rfl) T.m_tuple (by decide +kernel) ((ej_lc (own := [("one", 10)]) rfl nd (ij_range (by rfl) T.m_range ((ej_size T.sto (r_ 0))).rd) (blkOk_by (own := [("one", 10)]) (N := N_distances) (sc := defScope st_distances) (by decide +kernel)) (by decide) (fun _ _ _ _ _ => (g_ 10 nd)) (fun _ _ _ _ _ => ts_nil) (fun _ _ _ _ _ => (ej_dget2 hr (r_ 4) (r_ 10) ej_non ⟨rfl, rfl, rfl, rfl⟩)))).dt.rd))))))), fun ds q hf => ?_⟩
  obtain ⟨n, st, offs, l, rfl, ok, hs, hr, hl, hb, hq⟩ := hf
  simp [-Bool.exists_bool, and_assoc]
  refine ⟨n, st, offD offs, rfl, hs, n, offs, l, rfl, hr, by omega, hb, n, offs, l, rfl, ok, hl, hb, fun os hos hos' => ?_⟩
  have hok : ∀ o ∈ os, o.Ok n := fun o ho => flatOps_ok ok.ok l o ((hos o).mp ho)
  refine ⟨len_ok (by omega), PvDist n st offs l os, ⟨n, [(st, 0)], 0, .no, .no, .no, .no, rfl, ⟨by simp, by simpa using ⟨hs, Reach.refl st⟩, by simp, by simp, fun i x h => absurd h (Nat.not_lt_zero _)⟩, rfl⟩, ?_⟩
  rintro m _ ⟨im, a, c7, c8, c9, c10, rfl, sn, hm⟩
  simp [-Bool.exists_bool, and_assoc, stDist]
  split
  · rename_i hlt
    obtain ⟨here, hh⟩ : ∃ here, (im.map (·.1))[a]? = some here := ⟨_, List.getElem?_eq_getElem (by simpa using hlt)⟩
    have hh' : im[a]?.map (·.1) = some here := by rw [← List.getElem?_map]; exact hh
    obtain ⟨⟨h1, h2⟩, e1, e2⟩ := Option.map_eq_some_iff.mp hh'
    simp only at e2
    subst e2
    refine ⟨_, ⟨_, ⟨_, e1⟩, rfl⟩, ?_⟩
    refine forGo_inv (PvOps n st offs l os a h1) _ _ 0 ⟨im, c8, c9, c10, rfl, sn, hh, by simp⟩ ?_ ?_
    · rintro i x _ N hx ⟨im, c8, c9, c10, rfl, sn, hh, hcl⟩ hN
      rw [Nat.zero_add] at hcl hN
      rw [List.getElem?_map] at hx
      obtain ⟨o, ho, rfl⟩ := Option.map_eq_some_iff.mp hx
      have hmem := List.mem_of_getElem? ho
      have hin := List.mem_of_getElem? hh
      obtain ⟨hn, hrc⟩ := sn.rc h1 hin
      obtain ⟨oe1, oe2⟩ := (hok o hmem).e hn
      have hv : ∃ v, im.lookup h1 = some v := by
        cases e : im.lookup h1 with
        | none => exact absurd hin (lookup_none.mp e)
        | some v => exact ⟨v, rfl⟩
      obtain ⟨v, hv⟩ := hv
      simp [-Bool.exists_bool, and_assoc, stDist, Op.D, oe1, dgt_imD, hv]
      have take : ∀ o', o' ∈ os.take (i + 1) → o' ∈ os.take i ∨ o' = o := fun o' h => by
        rw [List.take_add_one, ho] at h
        simpa using h
      cases e : im.lookup (o.e h1) with
      | some y =>
        rw [if_neg (by rw [dgt_imD, e]; simp)]
        have hin2 : o.e h1 ∈ im.map (·.1) := List.mem_map.mpr ⟨_, lookup_mem e, rfl⟩
        refine hN _ ⟨im, _, _, _, rfl, sn, hh, fun o' h => ?_⟩
        rcases take o' h with h | rfl
        · exact hcl o' h
        · exact hin2
      | none =>
        have hout : o.e h1 ∉ im.map (·.1) := lookup_none.mp e
        rw [if_pos (by rw [dgt_imD, e]; rfl)]
        have l9 := sn.n
        have n9 := ok.n9
        refine ⟨by omega, hN _ ⟨im ++ [(o.e h1, v + 1)], .d o.D, .d (.int (o.e h1 : Nat)), c10, ?_, ?_, ?_, ?_⟩⟩
        · unfold stDist
          rw [← imD_new hout]
          simp [dN, Op.D]
        · refine ⟨?_, ?_, ?_, ?_, ?_⟩
          · rw [List.map_append, List.nodup_append]
            exact ⟨sn.nd, by simp, fun x hx y hy => by simp at hy; subst hy; exact fun z => hout (z ▸ hx)⟩
          · intro x hx
            rw [List.map_append] at hx
            rcases List.mem_append.mp hx with hx | hx
            · exact sn.rc x hx
            · simp at hx; subst hx; exact ⟨oe2, hrc.step hmem⟩
          · rw [List.map_append]; exact List.mem_append_left _ sn.st
          · have := sn.le; simp; omega
          · intro j x hj hx o' ho'
            rw [List.map_append] at hx ⊢
            rw [List.getElem?_append_left (by have := sn.le; simp; omega)] at hx
            exact List.mem_append_left _ (sn.cl j x hj hx o' ho')
        · rw [List.map_append, List.getElem?_append_left (List.getElem?_eq_some_iff.mp hh).1]
          exact hh
        · intro o' h
          rw [List.map_append]
          rcases take o' h with h | rfl
          · exact List.mem_append_left _ (hcl o' h)
          · simp
    · rintro _ ⟨im, c8, c9, c10, rfl, sn, hh, hcl⟩
      have hl2 : a < im.length := by simpa using (List.getElem?_eq_some_iff.mp hh).1
      have := sn.n
      refine ⟨a, rfl, m - 1, by omega, im, a + 1, _, _, _, _, rfl, ⟨sn.nd, sn.rc, sn.st, by omega, fun j x hj hx o ho => ?_⟩, by omega⟩
      by_cases e : j < a
      · exact sn.cl j x e hx o ho
      · have e : j = a := by omega
        subst e
        rw [hh] at hx
        cases hx
        exact hcl o (by simpa using ho)
  · rename_i hlt
    have ha : a = im.length := by have := sn.le; omega
    subst ha
    have al := fun x => sn.all (x := x)
    refine ⟨n, ⟨_, rfl⟩, n, rfl, by have := ok.n9; omega, ?_⟩
    rw [rgN_dN]
    refine lcGo_map (fun d => (im.lookup d.nat).elim .non fun y => D.int (y : Nat)) (by have := ok.n9; simp; omega) ?_ ?_
    · intro d hd acc q hacc hq
      obtain ⟨j, hj, rfl⟩ := List.mem_map.mp hd
      simp [-Bool.exists_bool, and_assoc, dgt_imD]
      refine ⟨hacc, ?_⟩
      cases e : im.lookup j <;> simpa [D.nat, e] using hq
    · refine hq _ (by simp) fun i hi => ⟨_, by simp [dN, hi]; rfl, ?_⟩
      have e2 : reachB (flatOps offs l) st i = reachB os st i := reachB_congr (fun o => (hos o).symm) st i
      rw [e2, Bool.eq_iff_iff]
      have := al i
      show _ ↔ (!reachB os st i) = true
      rw [Bool.not_eq_true', Bool.eq_false_iff, ne_eq, reachB_iff, ← this, ← lookup_none]
      show (Option.elim (im.lookup i) D.non fun y => D.int (y : Nat)).isNon = true ↔ _
      cases im.lookup i <;> simp
end G78
namespace G78
open PySem PySem.Spec PyProof.Rows L2
def f_ends_clash : SpD := fun ds q => ∃ (n : Nat) (a b : Op) (s : Nat), ds = [a.D, b.D, .int s] ∧ a.Ok n ∧ b.Ok n ∧ s < n ∧ q (.bl (!decide (a.e (b.e s) = b.e (a.e s))))
theorem len_ends_clash : ∀ ds q, f_ends_clash ds q → ds.length = P_ends_clash.length := by
  rintro ds q ⟨n, a, b, s, rfl, _⟩; rfl
theorem p_ends_clash {w : World} {K : PySem.W.Frag} {mg : Str → Option Value} {base : Heap} {Z : ZZ} (T : Top w K mg base Z) : Cl prg w K mg base 1 "ends_clash" (spP Z.C K f_ends_clash) := by
  have nd := sc_ends_clash.nd
  refine clP_of (k := 0) T.d_ends_clash sc_ends_clash (by intro kV doc pm an cdv ct us h; match us, h with | [a0, a1, a2], _ => rfl) len_ends_clash fun fa cdv A outer s H E hr => ⟨_, (ss_one (sj_ret (ej_cmp op_ne ow_ne ((ej_ix ix_seq ow_ix ((ej_ix ix_seq ow_ix (r_ 0) (ej_int).rd)).rd ((ej_ix ix_seq ow_ix ((ej_ix ix_seq ow_ix (r_ 1) (ej_int).rd)).rd (r_ 2))).rd)).rd ((ej_ix ix_seq ow_ix ((ej_ix ix_seq ow_ix (r_ 1) (ej_int).rd)).rd ((ej_ix ix_seq ow_ix ((ej_ix ix_seq ow_ix (r_ 0) (ej_int).rd)).rd (r_ 2))).rd)).rd (nomark _)))), fun ds q hf => ?_⟩
  obtain ⟨n, a, b, i, rfl, ha, hb, hi, hq⟩ := hf
  simp [Op.D, (hb.e hi).1, (ha.e hi).1, (ha.e (hb.e hi).2).1, (hb.e (ha.e hi).2).1]
  simpa [Int.ofNat_inj] using hq
def f_is_told_otherwise : SpD := fun ds q => ∃ (n : Nat) (a b : Op) (s : Nat), ds = [a.D, b.D, .int s] ∧ a.Ok n ∧ b.Ok n ∧ s < n ∧ q (.bl (!decide (a.t (b.e s) = a.t s)))
theorem len_is_told_otherwise : ∀ ds q, f_is_told_otherwise ds q → ds.length = P_is_told_otherwise.length := by
  rintro ds q ⟨n, a, b, s, rfl, _⟩; rfl
theorem p_is_told_otherwise {w : World} {K : PySem.W.Frag} {mg : Str → Option Value} {base : Heap} {Z : ZZ} (T : Top w K mg base Z) : Cl prg w K mg base 1 "is_told_otherwise" (spP Z.C K f_is_told_otherwise) := by
  have nd := sc_is_told_otherwise.nd
  refine clP_of (k := 0) T.d_is_told_otherwise sc_is_told_otherwise (by intro kV doc pm an cdv ct us h; match us, h with | [a0, a1, a2], _ => rfl) len_is_told_otherwise fun fa cdv A outer s H E hr => ⟨_, (ss_one (sj_ret (ej_cmp op_ne ow_ne ((ej_ix ix_seq ow_ix ((ej_ix ix_seq ow_ix (r_ 0) (ej_int).rd)).rd ((ej_ix ix_seq ow_ix ((ej_ix ix_seq ow_ix (r_ 1) (ej_int).rd)).rd (r_ 2))).rd)).rd ((ej_ix ix_seq ow_ix ((ej_ix ix_seq ow_ix (r_ 0) (ej_int).rd)).rd (r_ 2))).rd (nomark _)))), fun ds q hf => ?_⟩
  obtain ⟨n, a, b, i, rfl, ha, hb, hi, hq⟩ := hf
  simp [Op.D, (hb.e hi).1, ha.t hi, ha.t (hb.e hi).2]
  simpa [Int.ofNat_inj] using hq
def toldC (a b : Op) (s : Nat) : Bool := !decide (a.t (b.e s) = a.t s)
def endsC (a b : Op) (s : Nat) : Bool := !decide (a.e (b.e s) = b.e (a.e s))
def f_answers_clash : SpD := fun ds q => ∃ (n : Nat) (a b : Op) (s : Nat), ds = [a.D, b.D, .int s] ∧ a.Ok n ∧ b.Ok n ∧ s < n ∧ q (.bl (toldC a b s || toldC b a s))
theorem len_answers_clash : ∀ ds q, f_answers_clash ds q → ds.length = P_answers_clash.length := by
  rintro ds q ⟨n, a, b, s, rfl, _⟩; rfl
theorem p_answers_clash {w : World} {K : PySem.W.Frag} {mg : Str → Option Value} {base : Heap} {Z : ZZ} (T : Top w K mg base Z) : Cl prg w K mg base 2 "answers_clash" (spP Z.C K f_answers_clash) := by
  have c_is_told_otherwise := p_is_told_otherwise T
  have nd := sc_answers_clash.nd
  refine clP_of (k := 1) T.d_answers_clash sc_answers_clash (by intro kV doc pm an cdv ct us h; match us, h with | [a0, a1, a2], _ => rfl) len_answers_clash fun fa cdv A outer s H E hr => ⟨_, (ss_one (sj_ret (ej_or ((ej_call c_is_told_otherwise hr (by decide) (by rfl) (aj_cons (n_ 0) (aj_cons (n_ 1) (aj_cons (n_ 2) aj_nil))))).rd (ej_one (ej_call c_is_told_otherwise hr (by decide) (by rfl) (aj_cons (n_ 1) (aj_cons (n_ 0) (aj_cons (n_ 2) aj_nil)))))))), fun ds q hf => ?_⟩
  obtain ⟨n, a, b, i, rfl, ha, hb, hi, hq⟩ := hf
  simp [-Bool.exists_bool]
  refine ⟨n, a, b, i, rfl, ha, hb, hi, _, rfl, ?_⟩
  show if toldC a b i = true then _ else _
  cases e : toldC a b i with
  | true => simpa [e] using hq
  | false =>
    rw [e, Bool.false_or] at hq
    exact ⟨n, b, a, i, rfl, hb, ha, hi, hq⟩
/-- the kinds of clash -/
def kindsC (a b : Op) (s : Nat) : List D := (if endsC a b s then [.str "ends"] else []) ++ (if toldC a b s || toldC b a s then [.str "answers"] else [])
def f_kinds_at : SpD := fun ds q => ∃ (n : Nat) (a b : Op) (s : Nat), ds = [a.D, b.D, .int s] ∧ a.Ok n ∧ b.Ok n ∧ s < n ∧ q (.lst (kindsC a b s))
theorem len_kinds_at : ∀ ds q, f_kinds_at ds q → ds.length = P_kinds_at.length := by
  rintro ds q ⟨n, a, b, s, rfl, _⟩; rfl
theorem p_kinds_at {w : World} {K : PySem.W.Frag} {mg : Str → Option Value} {base : Heap} {Z : ZZ} (T : Top w K mg base Z) : Cl prg w K mg base 3 "kinds_at" (spP Z.C K f_kinds_at) := by
  have c_ends_clash := p_ends_clash T
  have c_answers_clash := p_answers_clash T
  have nd := sc_kinds_at.nd
  refine clP_of (k := 2) T.d_kinds_at sc_kinds_at (by intro kV doc pm an cdv ct us h; match us, h with | [a0, a1, a2], _ => rfl) len_kinds_at fun fa cdv A outer s H E hr => ⟨_, (ss_cons (sj_set (as_of (i := 3) nd rfl (by first | exact .inl rfl | exact .inr rfl) (ej_if rfl (tj_val ((ej_call c_ends_clash hr (by decide) (by rfl) (aj_cons (n_ 0) (aj_cons (n_ 1) (aj_cons (n_ 2) aj_nil))))).rd) ((ej_lst (aj_cons (ej_gS (by rfl) T.c_ENDS) aj_nil))).dt ((ej_lst aj_nil)).dt)))
  (ss_one (sj_ret (ej_if rfl (tj_val ((ej_call c_answers_clash hr (by decide) (by rfl) (aj_cons (n_ 0) (aj_cons (n_ 1) (aj_cons (n_ 2) aj_nil))))).rd) ((ej_op op_cat ow_cat (r_ 3) ((ej_lst (aj_cons (ej_gS (by rfl) T.c_ANSWERS) aj_nil))).dt.rd)).dt (n_ 3))))), fun ds q hf => ?_⟩
  obtain ⟨n, a, b, i, rfl, ha, hb, hi, hq⟩ := hf
  have l1 : 1 ≤ sizeLine := len_ok (by omega)
  have l2 : 2 ≤ sizeLine := len_ok (by omega)
  simp [-Bool.exists_bool, l1, l2]
  refine ⟨n, a, b, i, rfl, ha, hb, hi, _, rfl, ?_⟩
  show if endsC a b i = true then _ else _
  cases e : endsC a b i with
  | true =>
    refine ⟨n, a, b, i, rfl, ha, hb, hi, _, rfl, ?_⟩
    cases e2 : toldC a b i || toldC b a i <;> simpa [kindsC, e, e2] using hq
  | false =>
    refine ⟨n, a, b, i, rfl, ha, hb, hi, _, rfl, ?_⟩
    cases e2 : toldC a b i || toldC b a i <;> simpa [kindsC, e, e2] using hq
def clashC (n : Nat) (a b : Op) : Bool := (List.range n).any fun s => endsC a b s || (toldC a b s || toldC b a s)
def f_clash_anywhere : SpD := fun ds q => ∃ (n : Nat) (a b : Op), ds = [a.D, b.D] ∧ a.Ok n ∧ b.Ok n ∧ n ≤ 1000 ∧ q (.bl (clashC n a b))
theorem len_clash_anywhere : ∀ ds q, f_clash_anywhere ds q → ds.length = P_clash_anywhere.length := by
  rintro ds q ⟨n, a, b, rfl, _⟩; rfl
theorem kinds_pure (a b : Op) (s : Nat) : (D.lst (kindsC a b s)).ok := by
  unfold kindsC
  cases endsC a b s <;> cases toldC a b s || toldC b a s <;> exact ⟨by decide, by decide +kernel⟩
theorem nil_ok : (D.lst []).ok := ⟨by decide, by decide +kernel⟩
theorem eqv_nil (xs : List D) : PyData.eqv (D.lst xs).py (D.lst []).py = xs.isEmpty := by
  cases xs with
  | nil => rfl
  | cons x xs => simp [D.py, D.pys, PyData.eqv, PyData.eqvAll]
theorem p_clash_anywhere {w : World} {K : PySem.W.Frag} {mg : Str → Option Value} {base : Heap} {Z : ZZ} (T : Top w K mg base Z) : Cl prg w K mg base 4 "clash_anywhere" (spP Z.C K f_clash_anywhere) := by
  have c_kinds_at := p_kinds_at T
  have nd := sc_clash_anywhere.nd
  refine clP_of (k := 3) T.d_clash_anywhere sc_clash_anywhere (by intro kV doc pm an cdv ct us h; match us, h with | [a0, a1], _ => rfl) len_clash_anywhere fun fa cdv A outer s H E hr => ⟨_, (ss_one (sj_ret (ej_b1 (cr_any rfl) cw_any (by rfl) T.m_any (by decide +kernel) ((ej_lc (own := [("state", 2)]) rfl nd (ij_range (by rfl) T.m_range ((ej_b1 call_len_seq cw_len (by rfl) T.m_len PySem.boot_len ((ej_ix ix_seq ow_ix (r_ 0) (ej_int).rd)).rd)).rd) (blkOk_by (own := [("state", 2)]) (N := N_clash_anywhere) (sc := defScope st_clash_anywhere) (by decide +kernel)) (by decide) (fun _ _ _ _ _ => (g_ 2 nd)) (fun _ _ _ _ _ => ts_nil) (fun _ _ _ _ _ => (ej_cmp (op_neD hr.units) ow_neD ((ej_call c_kinds_at hr (by decide) (by rfl) (aj_cons (n_ 0) (aj_cons (n_ 1) (aj_cons (n_ 2) aj_nil))))).rd ((ej_lst aj_nil)).dt.rd (nomark _))))).dt.rd))), fun ds q hf => ?_⟩
  obtain ⟨n, a, b, rfl, ha, hb, hn, hq⟩ := hf
  simp [-Bool.exists_bool, Op.D]
  refine ⟨n, by rw [ha.le], by omega, ?_⟩
  rw [rgN_dN]
  refine lcGo_map (fun d => match d with | .int s => .bl (endsC a b s.toNat || (toldC a b s.toNat || toldC b a s.toNat)) | _ => .non) (by simp; omega) ?_ ?_
  · intro d hd acc q hacc hq
    obtain ⟨s, hs, rfl⟩ := List.mem_map.mp hd
    have hs' : s < n := by simpa using hs
    simp [-Bool.exists_bool]
    refine ⟨n, a, b, s, rfl, ha, hb, hs', kinds_pure a b s, nil_ok, hacc, ?_⟩
    rw [eqv_nil]
    have e : (!(kindsC a b s).isEmpty) = (endsC a b s || (toldC a b s || toldC b a s)) := by
      unfold kindsC
      cases endsC a b s <;> cases toldC a b s || toldC b a s <;> rfl
    rw [e]
    exact hq
  · refine ⟨(List.range n).map fun s => endsC a b s || (toldC a b s || toldC b a s), by simp [dN], ?_⟩
    simpa [clashC, List.any_map] using hq
end G78
namespace G78
open PySem PySem.Spec PyProof.Rows L2
/-- a store, a state, offices in rising order -/
def ArgsOk (n : Nat) (offs : List (List Op)) (l : List Nat) : Prop := SOk n offs ∧ Rise l ∧ l.length ≤ 8 ∧ ∀ x ∈ l, x < offs.length
def f_reachable : SpD := fun ds q => ∃ (n s : Nat) (offs : List (List Op)) (l : List Nat), ds = [stoD n offs, .int s, .tup (dN l)] ∧ ArgsOk n offs l ∧ s < n ∧ q (.tup (dN (reachL (flatOps offs l) n s)))
theorem len_reachable : ∀ ds q, f_reachable ds q → ds.length = P_reachable.length := by
  rintro ds q ⟨n, s, offs, l, rfl, _⟩; rfl
theorem enum_filter (P : Nat → Bool) (f : D → Option D) (hf : ∀ i d, f (.tup [.int (i : Nat), d]) = if d.isNon = true then none else some (.int (i : Nat))) : ∀ (fs : List D) (k : Nat), (∀ i, i < fs.length → ∃ d, fs[i]? = some d ∧ d.isNon = !P (k + i)) →
    (enumD k fs).filterMap f = dN (((List.range fs.length).map (k + ·)).filter P)
  | [], k, _ => rfl
  | d :: fs, k, h => by
    obtain ⟨d', e, hd⟩ := h 0 (by simp)
    simp at e; subst e
    have ih := enum_filter P f hf fs (k + 1) fun i hi => by
      obtain ⟨d', e, hd⟩ := h (i + 1) (by simpa using hi)
      exact ⟨d', by simpa using e, by rw [show k + 1 + i = k + (i + 1) by omega]; exact hd⟩
    have e2 : (List.range (d :: fs).length).map (k + ·) = k :: (List.range fs.length).map (k + 1 + ·) := by
      rw [List.length_cons, List.range_succ_eq_map, List.map_cons, List.map_map]
      refine List.cons_eq_cons.mpr ⟨rfl, List.map_congr_left fun i _ => ?_⟩
      show k + (i + 1) = k + 1 + i
      omega
    rw [e2, enumD, List.filterMap_cons, hf, List.filter_cons]
    rw [Nat.add_zero] at hd
    cases hp : P k with
    | true => rw [hp] at hd; simp at hd; simp [hd, ih, dN]
    | false => rw [hp] at hd; simp at hd; simp [hd, ih]
theorem enumD_mem : ∀ (fs : List D) (k : Nat) (x : D), x ∈ enumD k fs → ∃ (i : Nat) (d : D), x = .tup [.int (i : Nat), d]
  | [], _, x, h => by cases h
  | d :: fs, k, x, h => by
    rcases List.mem_cons.mp h with rfl | h
    · exact ⟨k, d, rfl⟩
    · exact enumD_mem fs (k + 1) x h
theorem p_reachable {w : World} {K : PySem.W.Frag} {mg : Str → Option Value} {base : Heap} {Z : ZZ} (T : Top w K mg base Z) : Cl prg w K mg base 7 "reachable" (spP Z.C K f_reachable) := by
  have c_distances := p_distances T
  have nd := sc_reachable.nd
  refine clP_of1 (k := 6) T.d_reachable sc_reachable (by intro T kV doc pm an cdv ct us its h1 h2; match us, its, h1, h2 with | [a0, a1, a2], [b0], _, _ => exact ⟨_, rfl, rfl⟩) len_reachable fun fa cdv A outer s H E hr => ⟨_, (ss_one (sj_ret (ej_t1 call_tuple_of cw_tuple (by rfl) T.m_tuple (by decide +kernel) ((ej_lc (own := [("one", 3), ("far", 4)]) rfl nd (ij_enum (by rfl) T.m_enumerate (ej_call c_distances hr (by decide) (by rfl) (aj_cons (n_ 0) (aj_cons (n_ 1) (aj_cons (n_ 2) aj_nil))))) (blkOk_by (own := [("one", 3), ("far", 4)]) (N := N_reachable) (sc := defScope st_reachable) (by decide +kernel)) (by decide) (fun _ _ _ _ _ => (gj_tup (n := 2) rfl (gjs_cons (g_ 3 nd) (gjs_cons (g_ 4 nd) gjs_nil)))) (fun _ _ _ _ _ => (ts_one (tj_cmp op_notN ow_notN (r_ 4) (ej_non).rd (nomark _)))) (fun _ _ _ _ _ => (n_ 3)))).dt.rd))), fun ds q hf => ?_⟩
  obtain ⟨n, st, offs, l, rfl, ⟨ok, hr', hl, hb⟩, hs, hq⟩ := hf
  have n9 := ok.n9
  simp [-Bool.exists_bool, and_assoc]
  refine ⟨n, st, offs, l, rfl, ok, hs, hr', hl, hb, fun fs h1 h2 => ?_⟩
  refine ⟨fs, rfl, ?_⟩
  refine lcGo_filter (fun d => match d with | .tup [i, d] => if d.isNon = true then none else some i | _ => none) (by rw [enumD_len]; simp; omega) ?_ ?_
  · intro x hx acc q hacc hq
    obtain ⟨i, d, rfl⟩ := enumD_mem fs 0 x hx
    simp [-Bool.exists_bool, and_assoc]
    cases e : d.isNon <;> simp [e] at hq ⊢
    · exact ⟨hacc, hq⟩
    · exact hq
  · rw [List.nil_append, enum_filter (fun i => reachB (flatOps offs l) st i) _ (fun i d => rfl) fs 0 (by rw [h1]; simpa using h2)]
    have e : (List.range fs.length).map (0 + ·) = List.range n := by rw [h1]; simp
    rw [e]
    exact hq
theorem reachL_len (os : List Op) (n s : Nat) : (reachL os n s).length ≤ n := by
  have := List.length_filter_le (reachB os s) (List.range n)
  simpa [reachL] using this
theorem reachL_nd (os : List Op) (n s : Nat) : (reachL os n s).Nodup := List.nodup_range.filter _
/-- the keys of what is reached -/
def rowK (l : List Nat) : List (Key × D) := l.map fun g : Nat => (Sum.inl (g : Int), D.bl true)
theorem rowK_items (l : List Nat) : (rowK l).map (fun kv => kd kv.1) = dN l := by
  unfold rowK dN
  rw [List.map_map]
  rfl
theorem rowK_key (l : List Nat) (x : Nat) : (dgt (rowK l) (Sum.inl (x : Int))).isSome = decide (x ∈ l) := by
  have := dgt_map (l.map fun g => (g, true)) (fun b => D.bl b) x
  have e : (l.map fun g => (g, true)).map (fun p => ((Sum.inl (p.1 : Int) : Key), D.bl p.2)) = rowK l := by unfold rowK; rw [List.map_map]; rfl
  rw [e] at this
  rw [this]
  by_cases h : x ∈ l
  · rw [decide_eq_true h]
    cases e : (l.map fun g => (g, true)).lookup x with
    | none => exact absurd (by rw [List.map_map]; simpa using h) (lookup_none.mp e)
    | some y => rfl
  · rw [decide_eq_false h]
    have : (l.map fun g => (g, true)).lookup x = none := lookup_none.mpr (by rw [List.map_map]; simpa using h)
    rw [this]; rfl
theorem nodup_map {α β : Type} {f : α → β} {l : List α} (nd : l.Nodup) (h : ∀ a b, f a = f b → a = b) : (l.map f).Nodup := by
  unfold List.Nodup at nd ⊢
  rw [List.pairwise_map]
  exact nd.imp fun hne z => hne (h _ _ z)
theorem inl_inj {a b : Nat} (h : (Sum.inl (a : Int) : Key) = Sum.inl (b : Int)) : a = b := by have := Sum.inl.inj h; omega
noncomputable def tabsD (os : List Op) (n : Nat) : List D := (List.range n).map fun s => .dic (rowK (reachL os n s))
def f_reach_tables : SpD := fun ds q => ∃ (n : Nat) (offs : List (List Op)) (l : List Nat), ds = [stoD n offs, .tup (dN l)] ∧ ArgsOk n offs l ∧ q (.lst (tabsD (flatOps offs l) n))
theorem len_reach_tables : ∀ ds q, f_reach_tables ds q → ds.length = P_reach_tables.length := by
  rintro ds q ⟨n, offs, l, rfl, _⟩; rfl
theorem p_reach_tables {w : World} {K : PySem.W.Frag} {mg : Str → Option Value} {base : Heap} {Z : ZZ} (T : Top w K mg base Z) : Cl prg w K mg base 8 "reach_tables" (spP Z.C K f_reach_tables) := by
  have c_reachable := p_reachable T
  have nd := sc_reach_tables.nd
  refine clP_of (k := 7) T.d_reach_tables sc_reach_tables (by intro kV doc pm an cdv ct us h; match us, h with | [a0, a1], _ => rfl) len_reach_tables fun fa cdv A outer s H E hr => ⟨_, (ss_one (sj_ret ((ej_lc (own := [("state", 2)]) rfl nd (ij_range (by rfl) T.m_range ((ej_size T.sto (r_ 0))).rd) (blkOk_by (own := [("state", 2)]) (N := N_reach_tables) (sc := defScope st_reach_tables) (by decide +kernel)) (by decide) (fun _ _ _ _ _ => (g_ 2 nd)) (fun _ _ _ _ _ => ts_nil) (fun _ _ _ _ _ => ((ej_dc (own := [("goal", 3)]) rfl nd (blkOk_by (own := [("goal", 3)]) (N := N_reach_tables) (by kernel_rfl)) (by decide) (fun _ _ _ _ _ => (g_ 3 nd)) (fun _ _ _ _ _ => ts_nil) (fun _ _ _ _ _ => (n_ 3)) (fun _ _ _ _ _ => ej_bl) (ij_tup (ej_call c_reachable hr (by decide) (by rfl) (aj_cons (n_ 0) (aj_cons (n_ 2) (aj_cons (n_ 1) aj_nil))))))).dt))).dt)), fun ds q hf => ?_⟩
  obtain ⟨n, offs, l, rfl, ⟨ok, hr', hl, hb⟩, hq⟩ := hf
  have n9 := ok.n9
  simp [-Bool.exists_bool, and_assoc, stoD]
  refine ⟨n, rfl, by omega, ?_⟩
  rw [rgN_dN]
  refine lcGo_map (fun d => .dic (rowK (reachL (flatOps offs l) n d.nat))) (by simp; omega) ?_ ?_
  · intro d hd acc q hacc hq
    obtain ⟨j, hj, rfl⟩ := List.mem_map.mp hd
    have hj' : j < n := by simpa using hj
    simp [-Bool.exists_bool, and_assoc]
    refine ⟨n, j, offs, l, rfl, ⟨ok, hr', hl, hb⟩, hj', _, rfl, ?_⟩
    have ll := reachL_len (flatOps offs l) n j
    have e : (dN (reachL (flatOps offs l) n j)).filterMap (fun d => some ((Sum.inl (d.nat : Int) : Key), D.bl true)) = rowK (reachL (flatOps offs l) n j) := by
      unfold rowK dN
      rw [List.filterMap_map]
      exact congrFun (List.filterMap_eq_map (f := fun g : Nat => ((Sum.inl (g : Int) : Key), D.bl true))) _
    refine dcGo_map (fun d => some (Sum.inl (d.nat : Int), .bl true)) (by simp; omega) ?_ ?_ ?_
    · intro x hx acc' q' hacc' hq'
      obtain ⟨g, hg, rfl⟩ := List.mem_map.mp hx
      simp [-Bool.exists_bool, and_assoc]
      exact ⟨hacc', hq'⟩
    · rw [e, List.nil_append]
      unfold rowK
      rw [List.map_map]
      exact nodup_map (reachL_nd _ _ _) fun a b z => inl_inj z
    · rw [e, List.nil_append]
      exact ⟨hacc, hq⟩
  · have e : (dN (List.range n)).map (fun d => D.dic (rowK (reachL (flatOps offs l) n d.nat))) = tabsD (flatOps offs l) n := by
      unfold dN tabsD
      rw [List.map_map]; rfl
    rw [e]; exact hq
noncomputable def lastB (os : List Op) (n s : Nat) : Bool := (reachL os n s).all fun g => reachB os g s
def f_lasting_states : SpD := fun ds q => ∃ (n : Nat) (offs : List (List Op)) (l : List Nat), ds = [stoD n offs, .tup (dN l)] ∧ ArgsOk n offs l ∧ q (.tup (dN ((List.range n).filter (lastB (flatOps offs l) n))))
theorem len_lasting_states : ∀ ds q, f_lasting_states ds q → ds.length = P_lasting_states.length := by
  rintro ds q ⟨n, offs, l, rfl, _⟩; rfl
theorem p_lasting_states {w : World} {K : PySem.W.Frag} {mg : Str → Option Value} {base : Heap} {Z : ZZ} (T : Top w K mg base Z) : Cl prg w K mg base 9 "lasting_states" (spP Z.C K f_lasting_states) := by
  have c_reach_tables := p_reach_tables T
  have nd := sc_lasting_states.nd
  refine clP_of1 (k := 8) T.d_lasting_states sc_lasting_states (by intro T kV doc pm an cdv ct us its h1 h2; match us, its, h1, h2 with | [a0, a1], [b0], _, _ => exact ⟨_, rfl, rfl⟩) len_lasting_states fun fa cdv A outer s H E hr => ⟨_, (ss_cons (sj_set (as_of (i := 2) nd rfl (by first | exact .inl rfl | exact .inr rfl) (ej_call c_reach_tables hr (by decide) (by rfl) (aj_cons (n_ 0) (aj_cons (n_ 1) aj_nil)))))
  (ss_one (sj_ret (ej_t1 call_tuple_of cw_tuple (by rfl) T.m_tuple (by decide +kernel) ((ej_lc (own := [("state", 3)]) rfl nd (ij_range (by rfl) T.m_range ((ej_size T.sto (r_ 0))).rd) (blkOk_by (own := [("state", 3)]) (N := N_lasting_states) (sc := defScope st_lasting_states) (by decide +kernel)) (by decide) (fun _ _ _ _ _ => (g_ 3 nd)) (fun _ _ _ _ _ => (ts_one (tj_val ((ej_b1 (cr_all rfl) cw_all (by rfl) T.m_all (by decide +kernel) ((ej_lcL (own := [("goal", 4)]) rfl nd (lj_keys (pj_ix (p_ 2) (p_ 3))) (blkOk_by (own := [("goal", 4)]) (N := N_lasting_states) (by kernel_rfl)) (by decide) (fun _ _ _ _ _ => (g_ 4 nd)) (fun _ _ _ _ _ => ts_nil) (fun _ _ _ _ _ => (ej_din hr (r_ 3) ((ej_ix ix_seq ow_ix (r_ 2) (r_ 4))).rd (by rfl))))).dt.rd)).rd))) (fun _ _ _ _ _ => (n_ 3)))).dt.rd)))), fun ds q hf => ?_⟩
  obtain ⟨n, offs, l, rfl, ⟨ok, hr', hl, hb⟩, hq⟩ := hf
  have n9 := ok.n9
  simp [-Bool.exists_bool, and_assoc]
  refine ⟨n, offs, l, rfl, ⟨ok, hr', hl, hb⟩, n, ⟨_, rfl⟩, n, rfl, by omega, ?_⟩
  rw [rgN_dN]
  refine lcGo_filter (fun d => if lastB (flatOps offs l) n d.nat = true then some d else none) (by simp; omega) ?_ ?_
  · intro d hd acc q hacc hq
    obtain ⟨j, hj, rfl⟩ := List.mem_map.mp hd
    have hj' : j < n := by simpa using hj
    have tab : ∀ g, g < n → (tabsD (flatOps offs l) n)[g]? = some (.dic (rowK (reachL (flatOps offs l) n g))) := fun g hg => by simp [tabsD, hg]
    have hok := flatOps_ok ok.ok l
    simp [-Bool.exists_bool, and_assoc, tab j hj']
    rw [rowK_items]
    refine lcGo_map (fun d => .bl (reachB (flatOps offs l) d.nat j)) (by have := reachL_len (flatOps offs l) n j; simp; omega) ?_ ?_
    · intro x hx acc' q' hacc' hq'
      obtain ⟨g, hg, rfl⟩ := List.mem_map.mp hx
      obtain ⟨hg1, hg2⟩ := mem_reachL.mp hg
      simp [-Bool.exists_bool, and_assoc, tab g hg1]
      refine ⟨hacc', ?_⟩
      rw [rowK_key]
      have e : decide (j ∈ reachL (flatOps offs l) n g) = reachB (flatOps offs l) g j := by
        rw [Bool.eq_iff_iff, decide_eq_true_iff, mem_reachL, reachB_iff]
        exact ⟨fun h => h.2, fun h => ⟨hj', h⟩⟩
      rw [e]
      exact hq'
    · refine ⟨(reachL (flatOps offs l) n j).map fun g => reachB (flatOps offs l) g j, by simp [dN, D.nat], ?_⟩
      by_cases h : lastB (flatOps offs l) n j = true
      · rw [if_neg]
        · simp [D.nat, h] at hq
          exact ⟨hacc, hq⟩
        · unfold lastB at h
          rw [List.all_eq_true] at h
          rw [List.mem_map]
          rintro ⟨g, hg, e⟩
          rw [h g hg] at e; cases e
      · rw [if_pos]
        · simp [D.nat, h] at hq
          exact hq
        · unfold lastB at h
          rw [List.all_eq_true] at h
          simp only [Classical.not_forall] at h
          obtain ⟨g, hg, e⟩ := h
          exact List.mem_map.mpr ⟨g, hg, by simpa using e⟩
  · rw [List.nil_append, show (dN (List.range n)).filterMap (fun d : D => if lastB (flatOps offs l) n d.nat = true then some d else none) = dN ((List.range n).filter (lastB (flatOps offs l) n)) from dN_filter _ _]
    exact hq
/-! ### homes -/
/-- both ways -/
noncomputable def mutB (os : List Op) (a b : Nat) : Bool := reachB os a b && reachB os b a
/-- the least state of those that s shares both ways with, at most s -/
noncomputable def known (os : List Op) (s : Nat) : List Nat := (List.range s).filter fun low => mutB os low s
/-- the bases: no lower state shares both ways -/
noncomputable def bases (os : List Op) (n : Nat) : List Nat := (List.range n).filter fun s => (known os s).isEmpty
structure Homes (os : List Op) (n : Nat) (ns : List Nat) : Prop where
  len : ns.length = n
  low : ∀ s, s < n → ∀ k r, known os s = k :: r → ns[s]? = ns[k]?
  base : ∀ s, s < n → known os s = [] → ns[s]? = some (bases os s).length
theorem bases_succ (os : List Op) (s : Nat) : bases os (s + 1) = bases os s ++ (if (known os s).isEmpty then [s] else []) := by
  unfold bases
  rw [List.range_succ, List.filter_append]
  cases h : (known os s).isEmpty <;> simp [h]
def f_joint_homes : SpD := fun ds q => ∃ (n : Nat) (offs : List (List Op)) (l : List Nat), ds = [stoD n offs, .tup (dN l)] ∧ ArgsOk n offs l ∧ ∀ ns, Homes (flatOps offs l) n ns → q (.ftu (ns.map fun k : Nat => (k : Int)))
theorem len_joint_homes : ∀ ds q, f_joint_homes ds q → ds.length = P_joint_homes.length := by
  rintro ds q ⟨n, offs, l, rfl, _⟩; rfl
/-- the numbers that were given up to s -/
structure HomesTo (os : List Op) (s : Nat) (ns : List Nat) : Prop where
  len : ns.length = s
  low : ∀ t, t < s → ∀ k r, known os t = k :: r → ns[t]? = ns[k]?
  base : ∀ t, t < s → known os t = [] → ns[t]? = some (bases os t).length
  lt : ∀ x ∈ ns, x < (bases os s).length
  all : ∀ j, j < (bases os s).length → j ∈ ns
def stHome (n : Nat) (offs : List (List Op)) (l : List Nat) (tabs : List D) (ns : List Nat) (c4 c5 c6 : SC) : DS :=
  { s := [.d (stoD n offs), .d (.tup (dN l)), .d (.lst tabs), .l (dN ns), c4, c5, c6] }
def PvHome (n : Nat) (offs : List (List Op)) (l : List Nat) (tabs : List D) (i : Nat) (ds : DS) : Prop :=
  ∃ (ns : List Nat) (c4 c5 c6 : SC), ds = stHome n offs l tabs ns c4 c5 c6 ∧ HomesTo (flatOps offs l) i ns
theorem known_lt {os : List Op} {s k : Nat} (h : k ∈ known os s) : k < s := by
  unfold known at h
  rw [List.mem_filter, List.mem_range] at h
  exact h.1
theorem HomesTo.step {os : List Op} {s : Nat} {ns : List Nat} (h : HomesTo os s ns) (x : Nat) (hk : ∀ k r, known os s = k :: r → ns[k]? = some x) (hb : known os s = [] → x = (bases os s).length) : HomesTo os (s + 1) (ns ++ [x]) := by
  have old : ∀ t, t < s → (ns ++ [x])[t]? = ns[t]? := fun t ht => List.getElem?_append_left (by rw [h.len]; exact ht)
  have new : (ns ++ [x])[s]? = some x := by rw [List.getElem?_append_right (by rw [h.len]; exact Nat.le_refl _), h.len, Nat.sub_self]; rfl
  refine ⟨by simp [h.len], fun t ht k r e => ?_, fun t ht e => ?_, fun y hy => ?_, fun j hj => ?_⟩
  · have hkt : k < t := known_lt (e ▸ List.mem_cons_self)
    by_cases e2 : t = s
    · subst e2
      rw [new, old k hkt, hk k r e]
    · rw [old t (by omega), old k (by omega)]
      exact h.low t (by omega) k r e
  · by_cases e2 : t = s
    · subst e2; rw [new, hb e]
    · rw [old t (by omega)]; exact h.base t (by omega) e
  · rw [bases_succ, List.length_append]
    rcases List.mem_append.mp hy with hy | hy
    · have := h.lt y hy; omega
    · simp at hy; subst hy
      cases e : known os s with
      | nil => rw [hb e]; simp
      | cons k r =>
        have := h.lt y (List.mem_of_getElem? (hk k r e))
        omega
  · rw [bases_succ, List.length_append] at hj
    by_cases e : j < (bases os s).length
    · exact List.mem_append_left _ (h.all j e)
    · cases e2 : known os s with
      | nil => rw [e2] at hj; simp at hj; rw [hb e2]; have : j = (bases os s).length := by omega
               simp [this]
      | cons k r => rw [e2] at hj; simp at hj; omega
theorem shaped_intsL (ns : List Int) : (D.lst (ns.map D.int)).ok := by
  obtain ⟨h1, h2⟩ := shaped_ints ns
  exact ⟨h1, h2⟩
theorem p_joint_homes {w : World} {K : PySem.W.Frag} {mg : Str → Option Value} {base : Heap} {Z : ZZ} (T : Top w K mg base Z) : Cl prg w K mg base 9 "joint_homes" (spP Z.C K f_joint_homes) := by
  have c_reach_tables := p_reach_tables T
  have nd := sc_joint_homes.nd
  refine clP_of (k := 8) T.d_joint_homes sc_joint_homes (by intro kV doc pm an cdv ct us h; match us, h with | [a0, a1], _ => rfl) len_joint_homes fun fa cdv A outer s H E hr => ⟨_, (ss_cons (sj_parT (is := [2, 3]) rfl (pgs_cons (pg_ 2 nd) (pgs_cons (pg_ 3 nd) pgs_nil)) (mj_d (ej_call c_reach_tables hr (by decide) (by rfl) (aj_cons (n_ 0) (aj_cons (n_ 1) aj_nil))) (mj_o (ej_lst aj_nil) mj_nil)) (by decide))
  (ss_cons (sj_for (passes_of rfl) rfl (ij_range (by rfl) T.m_range ((ej_size T.sto (r_ 0))).rd) (g_ 4 nd) (ss_cons (sj_set ((as_lc (i := 5) (own := [("low", 6)]) rfl nd rfl rfl (sw_true rfl rfl rfl (by decide +kernel)) (ij_range (by rfl) T.m_range (r_ 4)) (blkOk_by (own := [("low", 6)]) (N := N_joint_homes) (sc := defScope st_joint_homes) (by decide +kernel)) (by decide) (fun _ _ _ _ _ => (g_ 6 nd)) (fun _ _ _ _ _ => (ts_one (TJW.tj (tj_and (tj_din hr (r_ 6) ((ej_ix ix_seq ow_ix (r_ 2) (r_ 4))).rd (by rfl)) (tj_and1 (tj_din hr (r_ 4) ((ej_ix ix_seq ow_ix (r_ 2) (r_ 6))).rd (by rfl))))))) (fun _ _ _ _ _ => (n_ 6)))).dt)
  (ss_one (sj_app (i := 3) rfl (by first | exact .inl rfl | exact .inr (.inl rfl) | exact .inr (.inr rfl)) (ej_if rfl (tj_cmp (op_neD hr.units) ow_neD (r_ 5) ((ej_lst aj_nil)).dt.rd (nomark _)) (ej_ix ix_seq ow_ix (r_ 3) ((ej_ix ix_seq ow_ix (r_ 5) (ej_int).rd)).rd) (ej_op op_add ow_i ((ej_b1 (cr_max rfl) cw_max (by rfl) T.m_max (by decide +kernel) ((ej_op op_cat ow_cat ((ej_lst (aj_cons (ej_neg (ej_int).rd) aj_nil))).dt.rd (r_ 3))).dt.rd)).rd (ej_int).rd))))))
  (ss_one (sj_ret (ej_t1 call_tupleF cw_tupF (by rfl) T.m_tuple (by decide +kernel) (r_ 3)))))), fun ds q hf => ?_⟩
  obtain ⟨n, offs, l, rfl, ⟨ok, hr', hl, hb⟩, hq⟩ := hf
  have n9 := ok.n9
  simp [-Bool.exists_bool, and_assoc]
  refine ⟨n, offs, l, rfl, ⟨ok, hr', hl, hb⟩, n, ⟨_, rfl⟩, n, rfl, by omega, ?_⟩
  rw [rgN_dN]
  have tab : ∀ g, g < n → (tabsD (flatOps offs l) n)[g]? = some (.dic (rowK (reachL (flatOps offs l) n g))) := fun g hg => by simp [tabsD, hg]
  refine forGo_inv (PvHome n offs l (tabsD (flatOps offs l) n)) _ _ 0 ⟨[], .no, .no, .no, rfl, ⟨rfl, fun t h => absurd h (Nat.not_lt_zero _), fun t h => absurd h (Nat.not_lt_zero _), fun x h => absurd h List.not_mem_nil, fun j h => absurd h (Nat.not_lt_zero _)⟩⟩ ?_ ?_
  · rintro i x _ N hx ⟨ns, c4, c5, c6, rfl, hh⟩ hN
    rw [Nat.zero_add] at hh hN
    have hi : i < n := by have := (List.getElem?_eq_some_iff.mp hx).1; simpa using this
    have ex : x = .int i := by
      have := (dN_get (List.range n) i).symm.trans hx
      rw [List.getElem?_range hi] at this
      exact (Option.some.inj this).symm
    subst ex
    simp [-Bool.exists_bool, and_assoc, stHome]
    refine ⟨i, rfl, by omega, ?_⟩
    rw [rgN_dN]
    refine lcGo_filter (fun d => if mutB (flatOps offs l) d.nat i = true then some d else none) (by rw [dN_len, List.length_range, List.length_nil]; omega) ?_ ?_
    · intro d hd acc q' hacc hq'
      obtain ⟨j, hj, rfl⟩ := List.mem_map.mp hd
      have hj' : j < i := List.mem_range.mp hj
      simp [-Bool.exists_bool, and_assoc, tab i hi, tab j (by omega)]
      rw [rowK_key, rowK_key]
      have e1 : decide (j ∈ reachL (flatOps offs l) n i) = reachB (flatOps offs l) i j := by
        rw [Bool.eq_iff_iff, decide_eq_true_iff, mem_reachL, reachB_iff]
        exact ⟨fun h => h.2, fun h => ⟨by omega, h⟩⟩
      have e2 : decide (i ∈ reachL (flatOps offs l) n j) = reachB (flatOps offs l) j i := by
        rw [Bool.eq_iff_iff, decide_eq_true_iff, mem_reachL, reachB_iff]
        exact ⟨fun h => h.2, fun h => ⟨hi, h⟩⟩
      rw [e1, e2]
      simp only [D.nat, Int.toNat_natCast, mutB] at hq'
      cases h1 : reachB (flatOps offs l) i j <;> cases h2 : reachB (flatOps offs l) j i <;> simp [h1, h2] at hq' ⊢ <;> first | exact hq' | exact ⟨hacc, hq'⟩
    · rw [List.nil_append, show (dN (List.range i)).filterMap (fun d : D => if mutB (flatOps offs l) d.nat i = true then some d else none) = dN (known (flatOps offs l) i) from dN_filter (fun j => mutB (flatOps offs l) j i) _]
      have lk : (known (flatOps offs l) i).length ≤ i := by
        have := List.length_filter_le (fun low => mutB (flatOps offs l) low i) (List.range i)
        simpa [known] using this
      have ln : ns.length = i := hh.len
      refine ⟨?_, nil_ok, !(known (flatOps offs l) i).isEmpty, ?_, ?_⟩
      · rw [dN_int]; exact shaped_intsL _
      · rw [eqv_nil, Bool.not_not]
        cases known (flatOps offs l) i <;> rfl
      · cases ek : known (flatOps offs l) i with
        | nil =>
          simp only [List.isEmpty_nil, Bool.not_true, Bool.false_eq_true, if_false]
          refine ⟨len_ok (by omega), len_ok (by omega), -1 :: ns.map fun k : Nat => (k : Int), by rw [dN_int]; rfl, by simp, fun m hm hmax => ?_⟩
          have em : m + 1 = ((bases (flatOps offs l) i).length : Int) := by
            by_cases hb0 : (bases (flatOps offs l) i).length = 0
            · have : ns = [] := List.eq_nil_iff_forall_not_mem.mpr fun x hx => by have := hh.lt x hx; omega
              subst this
              simp at hm
              omega
            · have h1 := hh.all ((bases (flatOps offs l) i).length - 1) (by omega)
              have h2 := hmax (((bases (flatOps offs l) i).length - 1 : Nat) : Int) (List.mem_cons_of_mem _ (List.mem_map_of_mem (f := fun k : Nat => (k : Int)) h1))
              rcases List.mem_cons.mp hm with rfl | hm
              · omega
              · obtain ⟨x, hx, rfl⟩ := List.mem_map.mp hm
                have := hh.lt x hx
                omega
          refine ⟨by omega, hN _ ⟨ns ++ [(bases (flatOps offs l) i).length], .d (.int i), .d (.lst (dN [])), c6, ?_, ?_⟩⟩
          · unfold stHome
            rw [em]
            simp [dN]
          · exact hh.step _ (fun k r e => by rw [ek] at e; cases e) fun _ => rfl
        | cons k r =>
          simp only [List.isEmpty_cons, Bool.not_false, if_true]
          have hk : k < i := known_lt (ek ▸ List.mem_cons_self)
          have hns : ns[k]? = some (ns[k]'(by omega)) := List.getElem?_eq_getElem _
          refine ⟨.int (k : Nat), by simp [dN], _, rfl, .int (ns[k]'(by omega) : Nat), by simp [hns], by omega, hN _ ⟨ns ++ [ns[k]'(by omega)], .d (.int i), .d (.lst (dN (k :: r))), c6, ?_, ?_⟩⟩
          · unfold stHome
            simp [dN]
          · exact hh.step _ (fun k' r' e => by rw [ek] at e; cases e; exact hns) fun e => by rw [ek] at e; cases e
  · rintro _ ⟨ns, c4, c5, c6, rfl, hh⟩
    simp [stHome]
    rw [Nat.zero_add, dN_len, List.length_range] at hh
    exact ⟨_, dN_int ns, hq ns ⟨hh.len, hh.low, hh.base⟩⟩
end G78
namespace G78
open PySem PySem.Spec PyProof.Rows L2
/-- the others' operations in their order -/
def othOps (offs : List (List Op)) (k : Nat) : List Op := flatOps offs (others offs.length k)
def f_of_others : SpD := fun ds q => ∃ (n : Nat) (offs : List (List Op)) (k : Nat), ds = [stoD n offs, .int k] ∧ SOk n offs ∧ q (.lst ((othOps offs k).map Op.D))
theorem len_of_others : ∀ ds q, f_of_others ds q → ds.length = P_of_others.length := by
  rintro ds q ⟨n, offs, k, rfl, _⟩; rfl
theorem others_rise (m k : Nat) : Rise (others m k) := List.Pairwise.filter _ List.pairwise_lt_range
theorem others_lt {m k x : Nat} (h : x ∈ others m k) : x < m := List.mem_range.mp (List.mem_filter.mp h).1
theorem others_len (m k : Nat) : (others m k).length ≤ m := by
  have := List.length_filter_le (fun j => decide (j ≠ k)) (List.range m)
  simpa [others] using this
theorem argsOk_others {n : Nat} {offs : List (List Op)} (ok : SOk n offs) (k : Nat) : ArgsOk n offs (others offs.length k) :=
  ⟨ok, others_rise _ _, by have := others_len offs.length k; have := ok.m; omega, fun x => others_lt⟩
theorem enum_oth (k : Nat) (f : D → List D) (hf : ∀ (i : Nat) (os : List Op), f (.tup [.int (i : Nat), .tup (os.map Op.D)]) = if i = k then [] else os.map Op.D) : ∀ (offs : List (List Op)) (j : Nat) (g : Nat → List Op), (∀ i, i < offs.length → g (j + i) = offs.getD i []) →
    (enumD j (offs.map fun os => .tup (os.map Op.D))).flatMap f = (((List.range' j offs.length).filter fun i => decide (i ≠ k)).flatMap g).map Op.D
  | [], j, g, _ => rfl
  | os :: offs, j, g, h => by
    have ih := enum_oth k f hf offs (j + 1) g fun i hi => by
      have := h (i + 1) (by simpa using hi)
      rw [show j + (i + 1) = j + 1 + i by omega] at this
      simpa using this
    have h0 : g j = os := by simpa using h 0 (by simp)
    rw [List.map_cons, enumD, List.flatMap_cons, hf, ih, List.length_cons, List.range'_succ, List.filter_cons]
    by_cases e : j = k
    · simp [e]
    · simp [e, h0]
theorem enumD_mem2 : ∀ (fs : List D) (k : Nat) (x : D), x ∈ enumD k fs → ∃ (i : Nat) (d : D), d ∈ fs ∧ x = .tup [.int (i : Nat), d]
  | [], _, x, h => by cases h
  | d :: fs, k, x, h => by
    rcases List.mem_cons.mp h with rfl | h
    · exact ⟨k, d, List.mem_cons_self, rfl⟩
    · obtain ⟨i, d', h1, h2⟩ := enumD_mem2 fs (k + 1) x h
      exact ⟨i, d', List.mem_cons_of_mem _ h1, h2⟩
theorem ex_not (x : Bool) (p : Bool → Prop) : (∃ b, x = !b ∧ p b) ↔ p (!x) := ⟨fun ⟨b, h, hp⟩ => by rw [h, Bool.not_not]; exact hp, fun h => ⟨!x, by rw [Bool.not_not], h⟩⟩
theorem p_of_others {w : World} {K : PySem.W.Frag} {mg : Str → Option Value} {base : Heap} {Z : ZZ} (T : Top w K mg base Z) : Cl prg w K mg base 1 "of_others" (spP Z.C K f_of_others) := by
  have nd := sc_of_others.nd
  refine clP_of (k := 0) T.d_of_others sc_of_others (by intro kV doc pm an cdv ct us h; match us, h with | [a0, a1], _ => rfl) len_of_others fun fa cdv A outer s H E hr => ⟨_, (ss_one (sj_ret ((ej_lc2 (own := [("at", 2), ("some", 3), ("operation", 4)]) (vs1 := [4]) rfl nd (ij_enum (by rfl) T.m_enumerate (ej_offs T.sto (r_ 0))) (blkOk_by (own := [("at", 2), ("some", 3), ("operation", 4)]) (N := N_of_others) (sc := defScope st_of_others) (by decide +kernel)) (by decide) (by decide) (by decide) (fun _ _ _ _ _ => (gj_tup (n := 2) rfl (gjs_cons (g_ 2 nd) (gjs_cons (g_ 3 nd) gjs_nil)))) (fun _ _ _ _ _ => (ts_one (tj_cmp op_ne ow_ne (r_ 2) (r_ 1) (nomark _)))) (fun _ _ _ _ _ => (ij_tup (n_ 3))) (fun _ _ _ _ _ => (g_ 4 nd)) (fun _ _ _ _ _ => ts_nil) (fun _ _ _ _ _ => (n_ 4)))).dt)), fun ds q hf => ?_⟩
  obtain ⟨n, offs, kk, rfl, ok, hq⟩ := hf
  have hm := ok.m
  simp [-Bool.exists_bool, and_assoc, stoD, offD]
  have eq : (enumD 0 (offs.map fun os => D.tup (os.map Op.D))).flatMap (fun d => match d with | .tup [.int i, .tup xs] => if i.toNat = kk then [] else xs | _ => []) = (othOps offs kk).map Op.D := by
    rw [enum_oth kk _ (fun i os => rfl) offs 0 (fun i => offs.getD i []) (fun i _ => by rw [Nat.zero_add])]
    unfold othOps flatOps others
    rw [List.range_eq_range']
  have ln : ((othOps offs kk).map Op.D).length ≤ 40 * 8 := by
    have h1 := flat_len ok.few (others offs.length kk)
    have h2 := others_len offs.length kk
    simp only [List.length_map, othOps]
    omega
  refine lcGo_flat (fun d => match d with | .tup [.int i, .tup xs] => if i.toNat = kk then [] else xs | _ => []) (by rw [eq]; simp only [List.length_nil]; omega) ?_ ?_
  · intro d hd acc q hacc hq
    obtain ⟨i, d', hd', rfl⟩ := enumD_mem2 _ 0 d hd
    obtain ⟨os, hos, rfl⟩ := List.mem_map.mp hd'
    have fw := ok.few os hos
    simp [-Bool.exists_bool, and_assoc, ex_not]
    by_cases e : i = kk
    · subst e
      simpa using hq
    · have e' : ¬ (i : Int) = (kk : Int) := by omega
      simp [e] at hq
      simp [e']
      refine lcGo_map id (by simpa [e] using hacc) ?_ (by simpa using hq)
      intro x hx acc' q' ha hq'
      exact ⟨_, rfl, ha, hq'⟩
  · rw [List.nil_append, eq]
    exact hq
/-- an operation among weird values -/
def D.isOp (n : Nat) : D → Bool
  | .tup [a, b, c] => a.isName && (b.isRow n n && c.isRow n 1000000000001)
  | _ => false
/-- such a value may be asked -/
def D.fair (v : D) : Prop := v.kind ∧ (∀ ns, v ≠ .ftu ns) ∧ (∀ x, v = .str x → x.length ≤ 1000) ∧ ∀ xs, v = .tup xs → xs.length ≤ 1000 ∧ ∀ x ∈ xs, x.kind
def f_is_operation : SpD := fun ds q => ∃ (v : D) (n : Nat), ds = [v, .int n] ∧ v.kind ∧ (∀ ns, v ≠ .ftu ns) ∧ (∀ xs, v = .tup xs → xs.length ≤ 1000 ∧ ∀ x ∈ xs, x.fair) ∧ q (.bl (v.isOp n))
theorem len_is_operation : ∀ ds q, f_is_operation ds q → ds.length = P_is_operation.length := by
  rintro ds q ⟨v, n, rfl, _⟩; rfl
theorem p_is_operation {w : World} {K : PySem.W.Frag} {mg : Str → Option Value} {base : Heap} {Z : ZZ} (T : Top w K mg base Z) : Cl prg w K mg base 5 "is_operation" (spP Z.C K f_is_operation) := by
  have c_is_row := p_is_row T
  have c_is_name := p_is_name T
  have nd := sc_is_operation.nd
  refine clP_of (k := 4) T.d_is_operation sc_is_operation (by intro kV doc pm an cdv ct us h; match us, h with | [a0, a1], _ => rfl) len_is_operation fun fa cdv A outer s H E hr => ⟨_, (ss_cons (sj_if (TJW.tj (tj_or (tj_not (tj_val ((ej_isi (T' := "tuple") (by rfl) T.m_isinstance (by rfl) T.m_tuple (by decide +kernel) (r_ 0))).rd)) (tj_or (tj_cmp op_ne ow_ne ((ej_b1 call_len_seq cw_len (by rfl) T.m_len PySem.boot_len (r_ 0))).rd (ej_int).rd (nomark _)) (tj_or1 (tj_not (tj_val ((ej_call c_is_name hr (by decide) (by rfl) (aj_cons (ej_ix ix_seq ow_ix (r_ 0) (ej_int).rd) aj_nil))).rd)))))) (ss_one (sj_ret ej_bl)) ss_nil)
  (ss_one (sj_ret (ej_and ((ej_call c_is_row hr (by decide) (by rfl) (aj_cons (ej_ix ix_seq ow_ix (r_ 0) (ej_int).rd) (aj_cons (n_ 1) (aj_cons (n_ 1) aj_nil))))).rd (ej_one (ej_call c_is_row hr (by decide) (by rfl) (aj_cons (ej_ix ix_seq ow_ix (r_ 0) (ej_int).rd) (aj_cons (n_ 1) (aj_cons (ej_op op_add ow_i ((ej_gI (by rfl) T.c_MOST_ANSWER)).rd (ej_int).rd) aj_nil))))))))), fun ds q hf => ?_⟩
  obtain ⟨v, n, rfl, hk, hft, hl, hq⟩ := hf
  cases v
  case tup xs =>
    obtain ⟨h1, h2⟩ := hl xs rfl
    simp [-Bool.exists_bool, and_assoc, ex_not, kitB_tt]
    split
    · rename_i h3
      obtain ⟨a, b, c, rfl⟩ : ∃ a b c, xs = [a, b, c] := by
        match xs, h3 with
        | [a, b, c], _ => exact ⟨a, b, c, rfl⟩
        | [], h => simp at h
        | [_], h => simp at h
        | [_, _], h => simp at h
        | _ :: _ :: _ :: _ :: _, h => simp at h; omega
      have fa := h2 a (by simp)
      have fb := h2 b (by simp)
      have fc := h2 c (by simp)
      refine ⟨a, rfl, a, rfl, fa.1, fa.2.2.1, _, rfl, ?_⟩
      simp only [D.isOp] at hq
      cases e1 : a.isName with
      | false => rw [e1] at hq; simpa using hq
      | true =>
        rw [e1] at hq
        simp only [Bool.true_and] at hq
        simp [-Bool.exists_bool]
        refine ⟨b, _, _, rfl, fb.1, fb.2.1, fb.2.2.2, _, rfl, ?_⟩
        cases e2 : b.isRow n n with
        | false => rw [e2] at hq; simpa using hq
        | true =>
          rw [e2] at hq
          simp only [Bool.true_and] at hq
          exact ⟨c, _, _, rfl, fc.1, fc.2.1, fc.2.2.2, hq⟩
    · rename_i h3
      have e : (D.tup xs).isOp n = false := by
        match xs, h3 with
        | [a, b, c], h => simp at h
        | [], h => rfl
        | [_], h => rfl
        | [_, _], h => rfl
        | _ :: _ :: _ :: _ :: _, h => rfl
      rw [e] at hq
      exact hq
  case ftu ns => exact absurd rfl (hft ns)
  all_goals (simp_all [D.kind, D.isOp, kitB_it, kitB_nt, kitB_bt, kitB_st, kitB_lt, kitB_tt, kitB_dt])
def optD : Option Nat → D
  | some i => .int (i : Nat)
  | none => .non
@[simp] theorem optD_isNon (o : Option Nat) : (optD o).isNon = o.isNone := by cases o <;> rfl
/-- where a name stands -/
def nameAt (offs : List (List Op)) (x : Str) : Option Nat := offs.findIdx? fun os => decide (x ∈ os.map Op.nm)
def f_office_of : SpD := fun ds q => ∃ (n : Nat) (offs : List (List Op)) (x : Str), ds = [stoD n offs, .str x] ∧ SOk n offs ∧ (D.str x).isName = true ∧ x.length ≤ 1000 ∧ q (optD (nameAt offs x))
structure ClM (P : Program) (w : World) (K : PySem.W.Frag) (mg : Str → Option Value) (base : Heap) (k : Nat) (C : Addr) (m : Str) (sp : Sp) : Prop where
  ex : ∃ (f : Addr) (fd : FuncData) (ps : List Str), FnOk P w K mg base (L2.CX P w) k f fd ps sp ∧ Meth K C m f ∧ Binds K fd ps []
section
variable {Z : ZZ} {X : Cx} {x m : Str} {A : TW} {W : TWA} {f : SpD} {k kk : Nat} {o e : Expr} {es : List Expr} {pos apos : Pos}
@[simp] def wMeth (f : SpD) (A : TW) (W : TWA) : TW := fun ds q => ds.nl = true ∧ A ds fun x => ∃ n d, x = .sto n d ∧ W ds fun xs => f (x :: xs) q
theorem ej_meth (c : ClM X.prog X.w X.K X.mg X.base k Z.C m (spP Z.C X.K f)) (T : StoF X.K Z.C) (hm1 : m ≠ "size") (hm2 : m ≠ "offices") (hr : Room kk X.A) (hk : k ≤ kk) (ho : EJ Z .d X o A) (ha : AJ Z X (e :: es) W)
    (hst : starEach (e :: es) X.env = (false, eval e X.env) :: starEach es X.env := by rfl) (hpl : (backTo pos (starEach es X.env)).any (·.1) = false := by rfl)
    {pl : Sem Bool} (ht : eval (.Call (.Attribute o m apos) (e :: es) [] pos) X.env = (do
      let ov ← eval o X.env
      standAt apos.atName
      let (f, first) ← holding [ov] (getMethod ov m pl)
      callWith pos f first (backTo pos (starEach (e :: es) X.env)) (backToKw pos (keywordEach [] X.env))) := by rfl) :
    EJ Z .d X (.Call (.Attribute o m apos) (e :: es) [] pos) (wMeth f A W) := by
  obtain ⟨fa, fd, ps, F, hm, hb⟩ := c.ex
  obtain ⟨to, po, go⟩ := ho.ex
  obtain ⟨t, p, g⟩ := ha.ex
  refine ⟨_, pe_meth po T.cl hm F (hr.mono hk) hb .nil passL p hst hpl ht, fun F M σ H ds q Q r ⟨hn, w⟩ k => go F M σ H ds _ _ r w fun v H1 d x1 s1 ⟨n, d', e1, w1⟩ => ?_⟩
  subst e1
  have s1' : R X.K Z.C (era H1 M) v (.sto n d') := s1
  obtain ⟨a, dx, u, rfl, h1, h2⟩ := RT.stoR (F := F) (.dat s1)
  refine ⟨a, dx, _, rfl, h1, ?_, g F M σ H1 ds _ _ (r.ext x1) w1 fun vs H2 xs x2 s2 hf => ?_⟩
  · have e1 : (m == ("size" : Str)) = false := by simpa using hm1
    have e2 : (m == ("offices" : Str)) = false := by simpa using hm2
    simp [List.lookup_cons, e1, e2]
  · show spP Z.C X.K f (.ref a :: (vs ++ [])) H2 Q E0
    rw [List.append_nil]
    exact rd_call r hn (x1.trans x2) (.cons (s1'.le ((r.ext x1).le x2)) s2) hf k
end
end G78
namespace G78
open PySem PySem.Spec PyProof.Rows L2
/-- the same, its parameters named -/
structure ClP (P : Program) (w : World) (K : PySem.W.Frag) (mg : Str → Option Value) (base : Heap) (k : Nat) (x : Str) (ps : List Str) (sp : Sp) : Prop where
  ex : ∃ (f : Addr) (fd : FuncData), FnOk P w K mg base (L2.CX P w) k f fd ps sp ∧ mg x = some (.ref f) ∧ PySem.W.keepIn K (.ref f) = true ∧ Binds K fd ps [] ∧ ∃ oc od osl, K.lookup f = some ⟨oc, od, .func fd, osl⟩
section
variable {P : Program} {w : World} {K : PySem.W.Frag} {mg : Str → Option Value} {base : Heap} {x : Str} {st : Stmt} {N ps ks : List Str} {k : Nat} {sp : Sp} {Z : ZZ}
theorem ClP.cl (c : ClP P w K mg base k x ps sp) : Cl P w K mg base k x sp := by
  obtain ⟨f, fd, F, hm, kp, hb, lk⟩ := c.ex
  exact ⟨f, fd, ps, F, hm, kp, hb, lk⟩
theorem clXP_of {f : SpDX} (D : Def K mg x st []) (S : FnScope N ps (defScope st)) (hb : BindAll x st ps) (len : ∀ ds q x, f ds q x → ds.length = ps.length)
    (hbody : ∀ (fa : Addr) (cdv : Value) (A : Around) (outer : List Env) (s : Shared) (H : Hp) (E : XK), Room k (A.deeper (envOfC x (defScope st) s.heap.objs.size fa cdv)) →
      ∃ W, SsJ ⟨Z.C, Z.cls, E⟩ (cxOf (L2.CX P w) P w K mg base N x (defScope st) fa cdv A outer s H E) (defBody st) W ∧ ∀ ds q x, f ds q x → W (endD q) { startD N ds with x := x }) : ClP P w K mg base (k + 1) x ps (spX Z.C Z.cls K f) := by
  obtain ⟨fa, fd, F, hm⟩ := D
  refine ⟨fa, fd, F.ok S (fun vs H Q E ⟨M, ds, q, x, _, l, _, hf, _⟩ => by rw [l.len]; exact len ds q x hf) fun cdv A outer s H vs Q E hr hsp => ?_, hm, F.kp, F.bindsN hb, lkF F⟩
  obtain ⟨W, hW, hw⟩ := hbody fa cdv A outer s H E hr
  obtain ⟨t, p, g⟩ := hW.ex
  obtain ⟨M, ds, q, xx, mo, l, nl, hf, k, kx⟩ := hsp
  exact ⟨t, p, g _ M _ H _ _ _ (rep_start (Z := ⟨Z.C, Z.cls, E⟩) (x := xx) (by rw [len ds q xx hf]; exact pre_le S) mo l nl fun c w z H' dd h n h0 hd => kx c w H' dd h n h0 hd z) (hw ds q xx hf) (eo_end rfl k)⟩
theorem vals_rev {vs : List V} {us : List Value} (h : Vals vs us) : Vals vs.reverse us.reverse := by
  induction h with
  | nil => exact .nil
  | cons r _ ih => rw [List.reverse_cons, List.reverse_cons]; exact ih.append (.cons r .nil)
theorem ClP.kw (c : ClP P w K mg base k x ps sp) (D : Def K mg x st [])
    (h : ∀ (kV doc pm : Value) (an : Option Addr) (cdv ct : Value) (ws : List Value), ws.length = ks.length →
      bindArgs (PySem.W.fnOf x x (defArgs st) (defBody st) (defScope st) .none kV doc pm an cdv ct) ⟨[], ks.zip ws⟩ = pure (ps.zip ws.reverse)) : ClK P w K mg base k x sp ks fun l => l.reverse := by
  obtain ⟨f, fd, F, hm, kp, hb, oc, od, osl, lk⟩ := c.ex
  obtain ⟨f', fd', F', hm'⟩ := D
  rw [hm] at hm'
  cases hm'
  obtain ⟨oc', od', dV, kV, doc, pm, an, cdv, ct, osl', e, lk', hcd, hD, hK⟩ := F'.ex
  rw [lk] at lk'
  cases lk'
  rcases hD with ⟨_, e2⟩ | ⟨n, _⟩
  · subst e e2
    refine ⟨f, _, ps, F, hm, kp, ⟨fun s us ws _ hu hw => by
      have : us = [] := List.eq_nil_of_length_eq_zero hu
      subst this
      exact .of_eq (h kV doc pm an cdv ct ws hw), fun _ r => ?_⟩⟩
    exact vals_rev r
  · exact absurd rfl n
end
section
variable {w : World} {K : PySem.W.Frag} {mg : Str → Option Value} {base : Heap} {Z : ZZ} {m x : Str} {st : Stmt} {N ps : List Str} {k : Nat} {f : SpD} {fa : Addr} {fd : FuncData}
theorem clM_of (F : FunD K m x (defArgs st) (defBody st) (defScope st) [] [] fa fd) (hm : Meth K Z.C m fa) (S : FnScope N ps (defScope st))
    (hb : ∀ (kV doc pm : Value) (an : Option Addr) (cdv ct : Value) (us : List Value), us.length = ps.length → bindArgs (PySem.W.fnOf m x (defArgs st) (defBody st) (defScope st) .none kV doc pm an cdv ct) ⟨us, []⟩ = pure (ps.zip us))
    (len : ∀ ds q, f ds q → ds.length = ps.length) (hbody : BodyP prg w K mg base Z N x st k f) : ClM prg w K mg base (k + 1) Z.C m (spP Z.C K f) :=
  ⟨fa, fd, ps, F.ok S (fun vs H Q E ⟨M, ds, q, _, l, _, hf, _⟩ => by rw [l.len]; exact len ds q hf) fun cdv A outer s H vs Q E hr hsp =>
    body_run (fun ds q hf => by rw [len ds q hf]; exact pre_le S) (hbody fa cdv A outer s H E hr) hsp, hm, F.bindsN hb⟩
end
theorem len_Store_office_of : ∀ ds q, f_office_of ds q → ds.length = P_Store_office_of.length := by
  rintro ds q ⟨n, offs, x, rfl, _⟩; rfl
abbrev f_Store_office_of := f_office_of
def PvOff (n : Nat) (offs : List (List Op)) (x : Str) (i : Nat) (ds : DS) : Prop :=
  ∃ c2 c3 c4 : SC, ds = { s := [.d (stoD n offs), .d (.str x), c2, c3, c4] } ∧ ∀ j os, j < i → offs[j]? = some os → x ∉ os.map Op.nm
theorem kind_str (i : Str) : (D.str i).kind := fun z => nomatch z
theorem p_Store_office_of {w : World} {K : PySem.W.Frag} {mg : Str → Option Value} {base : Heap} {Z : ZZ} (T : Top w K mg base Z) : ClM prg w K mg base 3 Z.C "office_of" (spP Z.C K f_Store_office_of) := by
  have c_is_name := p_is_name T
  have nd := sc_Store_office_of.nd
  obtain ⟨fa0, fd0, F0, M0⟩ := T.ofS
  refine clM_of (k := 2) (x := "Store.office_of") F0 M0 sc_Store_office_of (by intro kV doc pm an cdv ct us h; match us, h with | [a0, a1], _ => rfl) len_Store_office_of fun fa cdv A outer s H E hr => ⟨_, (ss_cons (sj_for (passes_of rfl) rfl (ij_enum (by rfl) T.m_enumerate (ej_offs T.sto (r_ 0))) (gj_tup (n := 2) rfl (gjs_cons (g_ 2 nd) (gjs_cons (g_ 3 nd) gjs_nil))) (ss_one (sj_if (TJW.tj (tj_and (tj_val ((ej_call c_is_name hr (by decide) (by rfl) (aj_cons (n_ 1) aj_nil))).rd) (tj_and1 (tj_cmp op_in_seq ow_in (r_ 1) ((ej_lc (own := [("operation", 4)]) rfl nd (ij_tup (n_ 3)) (blkOk_by (own := [("operation", 4)]) (N := N_Store_office_of) (sc := defScope st_Store_office_of) (by decide +kernel)) (by decide) (fun _ _ _ _ _ => (g_ 4 nd)) (fun _ _ _ _ _ => ts_nil) (fun _ _ _ _ _ => (ej_ix ix_seq ow_ix (r_ 4) (ej_int).rd)))).dt.rd (by rfl))))) (ss_one (sj_ret (n_ 2))) ss_nil)))
  (ss_one (sj_ret ej_non))), fun ds q hf => ?_⟩
  obtain ⟨n, offs, x, rfl, ok, hx, hl, hq⟩ := hf
  have hm := ok.m
  simp [-Bool.exists_bool, and_assoc, ex_not]
  refine ⟨n, offD offs, rfl, _, rfl, ?_⟩
  refine forGo_inv (PvOff n offs x) _ _ 0 ⟨_, _, _, rfl, fun j os h => absurd h (Nat.not_lt_zero _)⟩ ?_ ?_
  · rintro i y _ N hy ⟨c2, c3, c4, rfl, hno⟩ hN
    rw [Nat.zero_add] at hno hN
    obtain ⟨os, ho, rfl⟩ : ∃ os, offs[i]? = some os ∧ y = .tup [.int (i : Nat), .tup (os.map Op.D)] := by
      have hi : i < offs.length := by have := (List.getElem?_eq_some_iff.mp hy).1; rw [enumD_len] at this; simpa using this
      have := enumD_get 0 (offs.map fun os => D.tup (os.map Op.D)) i (.tup ((offs[i]).map Op.D)) (by simp [hi])
      rw [this] at hy
      refine ⟨offs[i], List.getElem?_eq_getElem hi, ?_⟩
      have := Option.some.inj hy
      rw [← this, Nat.zero_add]
    have fw := ok.few os (List.mem_of_getElem? ho)
    simp [-Bool.exists_bool, and_assoc, ex_not]
    refine ⟨_, rfl, kind_str x, fun y h => by cases h; exact hl, _, rfl, ?_⟩
    rw [hx]
    simp [-Bool.exists_bool, and_assoc, ex_not]
    refine lcGo_map (fun d => match d with | .tup (a :: _) => a | _ => .non) (by simp; omega) ?_ ?_
    · intro d hd acc q' hacc hq'
      obtain ⟨o, _, rfl⟩ := List.mem_map.mp hd
      simp [-Bool.exists_bool, and_assoc, Op.D] at hq' ⊢
      exact ⟨hacc, hq'⟩
    · refine ⟨os.map Op.nm, by rw [List.nil_append, List.map_map, List.map_map]; rfl, ?_⟩
      by_cases h : x ∈ os.map Op.nm
      · rw [if_pos h]
        have e : nameAt offs x = some i := by
          unfold nameAt
          rw [List.findIdx?_eq_some_iff_getElem]
          obtain ⟨hi, hoi⟩ := List.getElem?_eq_some_iff.mp ho
          refine ⟨hi, by rw [hoi]; simpa using h, fun j hj => ?_⟩
          have := hno j (offs[j]'(by omega)) hj (List.getElem?_eq_getElem _)
          simpa using this
        rw [e] at hq
        exact hq
      · rw [if_neg h]
        refine hN _ ⟨_, _, _, rfl, fun j os' hj hjo => ?_⟩
        by_cases e : j = i
        · subst e; rw [ho] at hjo; cases hjo; exact h
        · exact hno j os' (by omega) hjo
  · rintro _ ⟨c2, c3, c4, rfl, hno⟩
    simp
    have e : nameAt offs x = none := by
      unfold nameAt
      rw [List.findIdx?_eq_none_iff]
      intro os hos
      obtain ⟨j, hj⟩ := List.getElem?_of_mem hos
      have := hno j os (by rw [Nat.zero_add, enumD_len]; have := (List.getElem?_eq_some_iff.mp hj).1; simpa using this) hj
      simpa using this
    rw [e] at hq
    exact hq
/-- may v be given? -/
noncomputable def mayB (n : Nat) (offs : List (List Op)) (k : Nat) (v : D) : Prop := True
/-- v as an operation -/
def D.op : D → Op
  | .tup [.str x, .tup es, .tup ts] => ⟨x, es.map D.nat, ts.map D.nat⟩
  | _ => ⟨Str.empty, [], []⟩
def f_may_be_given : SpDX := fun ds q x => ∃ (n : Nat) (offs : List (List Op)) (v u : D), ds = [stoD n offs, v, u] ∧ SOk n offs ∧ v.kind ∧
  if v.blw offs.length = true then u.kind ∧ (∀ ns, u ≠ .ftu ns) ∧ (∀ xs, u = .tup xs → xs.length ≤ 1000 ∧ ∀ x ∈ xs, x.fair) ∧
    q (.bl (u.isOp n && ((nameAt offs u.op.nm).isNone && !(othOps offs v.nat).any fun o => clashC n u.op o)))
  else x 0 "office"
theorem len_may_be_given : ∀ ds q x, f_may_be_given ds q x → ds.length = P_may_be_given.length := by
  rintro ds q x ⟨n, offs, v, u, rfl, _⟩; rfl
theorem blw_nat {v : D} {m : Nat} (h : v.blw m = true) : ∃ k : Nat, v = .int k ∧ k < m := by
  cases v with
  | int i =>
    simp [D.blw] at h
    exact ⟨i.toNat, by rw [Int.toNat_of_nonneg h.1], by omega⟩
  | _ => cases h
theorem isRow_nat {v : D} {n b : Nat} (h : v.isRow n b = true) : ∃ l : List Nat, v = .tup (dN l) ∧ l.length = n ∧ ∀ x ∈ l, x < b := by
  cases v with
  | tup xs =>
    simp only [D.isRow, Bool.and_eq_true, decide_eq_true_eq, List.all_eq_true] at h
    obtain ⟨h1, h2⟩ := h
    have : ∀ xs : List D, (∀ x ∈ xs, x.blw b = true) → ∃ l : List Nat, xs = dN l ∧ ∀ x ∈ l, x < b := by
      intro xs
      induction xs with
      | nil => intro _; exact ⟨[], rfl, by simp⟩
      | cons x xs ih =>
        intro h
        obtain ⟨k, rfl, hk⟩ := blw_nat (h x List.mem_cons_self)
        obtain ⟨l, rfl, hl⟩ := ih fun y hy => h y (List.mem_cons_of_mem _ hy)
        exact ⟨k :: l, rfl, fun y hy => (List.mem_cons.mp hy).elim (fun e => e ▸ hk) (hl y)⟩
    obtain ⟨l, rfl, hl⟩ := this xs h2
    exact ⟨l, rfl, by rw [dN_len] at h1; omega, hl⟩
  | _ => cases h
theorem isOp_op {v : D} {n : Nat} (h : v.isOp n = true) : v = v.op.D ∧ v.op.Ok n ∧ (D.str v.op.nm).isName = true ∧ ∀ t ∈ v.op.told, t < 1000000000001 := by
  match v, h with
  | .tup [a, b, c], h =>
    simp only [D.isOp, Bool.and_eq_true] at h
    obtain ⟨h1, h2, h3⟩ := h
    obtain ⟨es, rfl, e1, e2⟩ := isRow_nat h2
    obtain ⟨ts, rfl, t1, t2⟩ := isRow_nat (b := 1000000000001) h3
    cases a with
    | str x =>
      have nat : ∀ l : List Nat, (dN l).map D.nat = l := fun l => by unfold dN; rw [List.map_map]; exact List.map_id'' (fun _ => rfl) l
      refine ⟨?_, ⟨?_, ?_, ?_⟩, h1, ?_⟩
      · simp [D.op, Op.D, nat]
      · simpa [D.op, nat] using e1
      · simpa [D.op, nat] using t1
      · simpa [D.op, nat] using e2
      · simpa [D.op, nat] using t2
    | _ => cases h1
theorem q_may_be_given {w : World} {K : PySem.W.Frag} {mg : Str → Option Value} {base : Heap} {Z : ZZ} (T : Top w K mg base Z) : ClP prg w K mg base 6 "may_be_given" P_may_be_given (spX Z.C Z.cls K f_may_be_given) := by
  have c_need_office := p_need_office T
  have c_is_operation := p_is_operation T
  have c_office_of := p_Store_office_of T
  have c_clash_anywhere := p_clash_anywhere T
  have c_of_others := p_of_others T
  have nd := sc_may_be_given.nd
  refine clXP_of (k := 5) T.d_may_be_given sc_may_be_given (by intro kV doc pm an cdv ct us h; match us, h with | [a0, a1, a2], _ => rfl) len_may_be_given fun fa cdv A outer s H E hr => ⟨_, (ss_cons (sj_expr (ej_x (takes_of rfl rfl rfl rfl) (xj_call c_need_office hr (by decide) (by rfl) (aj_cons (n_ 0) (aj_cons (n_ 1) aj_nil)))))
  (ss_cons (sj_if (TJW.tj (tj_or (tj_not (tj_val ((ej_call c_is_operation hr (by decide) (by rfl) (aj_cons (n_ 2) (aj_cons (ej_size T.sto (r_ 0)) aj_nil)))).rd)) (tj_or1 (tj_cmp op_notN ow_notN ((ej_meth c_office_of T.sto (by decide) (by decide) hr (by decide) (n_ 0) (aj_cons (ej_ix ix_seq ow_ix (r_ 2) (ej_int).rd) aj_nil))).rd (ej_non).rd (nomark _))))) (ss_one (sj_ret ej_bl)) ss_nil)
  (ss_one (sj_ret (ej_not ((ej_b1 (cr_any rfl) cw_any (by rfl) T.m_any (by decide +kernel) ((ej_lc (own := [("other", 3)]) rfl nd (ij_list (ej_call c_of_others hr (by decide) (by rfl) (aj_cons (n_ 0) (aj_cons (n_ 1) aj_nil)))) (blkOk_by (own := [("other", 3)]) (N := N_may_be_given) (sc := defScope st_may_be_given) (by decide +kernel)) (by decide) (fun _ _ _ _ _ => (g_ 3 nd)) (fun _ _ _ _ _ => ts_nil) (fun _ _ _ _ _ => (ej_call c_clash_anywhere hr (by decide) (by rfl) (aj_cons (n_ 2) (aj_cons (n_ 3) aj_nil)))))).dt.rd)).rd))))), fun ds q x hf => ?_⟩
  obtain ⟨n, offs, v, u, rfl, ok, hk, hq⟩ := hf
  have hm := ok.m
  simp [-Bool.exists_bool, and_assoc, ex_not]
  refine ⟨n, offs, v, rfl, hk, by omega, ?_⟩
  cases e : v.blw offs.length with
  | false => rw [e] at hq; exact hq
  | true =>
    rw [e] at hq
    simp only [if_true] at hq ⊢
    obtain ⟨hu1, hu2, hu3, hq⟩ := hq
    refine ⟨n, ⟨_, rfl⟩, u, n, rfl, hu1, hu2, hu3, _, rfl, ?_⟩
    cases eo : u.isOp n with
    | false => rw [eo] at hq; simpa using hq
    | true =>
      rw [eo] at hq
      obtain ⟨kk, rfl, hkk⟩ := blw_nat e
      obtain ⟨e1, e2, e3, e4⟩ := isOp_op eo
      obtain ⟨o, ho⟩ : ∃ o, o = u.op := ⟨_, rfl⟩
      rw [← ho] at e1 e2 e3 e4 hq
      subst e1
      have ln5 : o.nm.length ≤ 1000 := by
        simp only [D.isName, Bool.and_eq_true, decide_eq_true_eq] at e3
        omega
      simp only [if_true]
      refine ⟨⟨_, _, rfl⟩, _, .inr rfl, _, rfl, n, offs, o.nm, rfl, ok, e3, ln5, ?_⟩
      show if (optD (nameAt offs o.nm)).isNon = true then _ else _
      rw [optD_isNon]
      cases e5 : (nameAt offs o.nm).isNone with
      | false => rw [e5] at hq; simpa using hq
      | true =>
        rw [e5] at hq
        simp only [if_true, Bool.true_and, D.nat, Int.toNat_natCast] at hq ⊢
        have fl : (othOps offs kk).length ≤ 320 := by
          have h1 := flat_len ok.few (others offs.length kk)
          have h2 := others_len offs.length kk
          unfold othOps
          omega
        have okO : ∀ p ∈ othOps offs kk, p.Ok n := flatOps_ok ok.ok _
        have n9 := ok.n9
        refine ⟨n, offs, kk, rfl, ok, _, rfl, ?_⟩
        refine lcGo_map (fun d => .bl (clashC n o d.op)) (by simp; omega) ?_ ?_
        · intro d hd acc q' hacc hq'
          obtain ⟨p, hp, rfl⟩ := List.mem_map.mp hd
          have ep : p.D.op = p := by
            have nat : ∀ l : List Nat, (dN l).map D.nat = l := fun l => by unfold dN; rw [List.map_map]; exact List.map_id'' (fun _ => rfl) l
            obtain ⟨a, b, c⟩ := p
            simp [Op.D, D.op, nat]
          rw [ep] at hq'
          simp [-Bool.exists_bool, and_assoc]
          exact ⟨n, o, p, rfl, e2, okO p hp, by omega, hacc, hq'⟩
        · refine ⟨(othOps offs kk).map fun p => clashC n o p, ?_, ?_⟩
          · rw [List.nil_append, List.map_map, List.map_map]
            refine List.map_congr_left fun p _ => ?_
            have ep : p.D.op = p := by
              have nat : ∀ l : List Nat, (dN l).map D.nat = l := fun l => by unfold dN; rw [List.map_map]; exact List.map_id'' (fun _ => rfl) l
              obtain ⟨a, b, c⟩ := p
              simp [Op.D, D.op, nat]
            show D.bl (clashC n o p.D.op) = _
            rw [ep]; rfl
          · rw [List.any_map]
            exact hq
theorem p_may_be_given {w : World} {K : PySem.W.Frag} {mg : Str → Option Value} {base : Heap} {Z : ZZ} (T : Top w K mg base Z) : Cl prg w K mg base 6 "may_be_given" (spX Z.C Z.cls K f_may_be_given) := (q_may_be_given T).cl
end G78
namespace G78
open PySem PySem.Spec PyProof.Rows L2
/-- the pairs that a start and a goal lead to -/
inductive PR (os : List Op) (b g : Nat) : Nat → Nat → Prop
  | base : PR os b g b g
  | step {x y : Nat} {o : Op} : PR os b g x y → o ∈ os → PR os b g (o.e x) (o.e y)
/-- the goal carries the base home -/
def Good (os : List Op) (b g : Nat) : Prop := (∀ x y y', PR os b g x y → PR os b g x y' → y = y') ∧ ∀ x y, PR os b g x y → ∀ o ∈ os, o.t x = o.t y
structure ImOk (os : List Op) (b g : Nat) (im : List (Nat × Nat)) : Prop where
  nd : (im.map (·.1)).Nodup
  mem : ∀ x y, (x, y) ∈ im ↔ PR os b g x y
theorem PR.lt {os : List Op} {n b g x y : Nat} (ok : ∀ o ∈ os, o.Ok n) (hb : b < n) (hg : g < n) (h : PR os b g x y) : x < n ∧ y < n := by
  induction h with
  | base => exact ⟨hb, hg⟩
  | step _ ho ih => exact ⟨((ok _ ho).e ih.1).2, ((ok _ ho).e ih.2).2⟩
theorem PR.reach {os : List Op} {b g x y : Nat} (h : PR os b g x y) : Reach os b x ∧ Reach os g y := by
  induction h with
  | base => exact ⟨.refl _, .refl _⟩
  | step _ ho ih => exact ⟨.step ih.1 ho, .step ih.2 ho⟩
theorem PR.of_reach {os : List Op} {b g x : Nat} (h : Reach os b x) : ∃ y, PR os b g x y := by
  induction h with
  | refl => exact ⟨g, .base⟩
  | step _ ho ih => obtain ⟨y, hy⟩ := ih; exact ⟨_, .step hy ho⟩
def f_carried_home : SpD := fun ds q => ∃ (n b g : Nat) (os : List Op), ds = [.lst (os.map Op.D), .int b, .int g] ∧ (∀ o ∈ os, o.Ok n) ∧ n ≤ 9 ∧ b < n ∧ g < n ∧
  (Good os b g → ∀ im, ImOk os b g im → q (.dic (imD im))) ∧ (¬ Good os b g → q .non)
theorem len_carried_home : ∀ ds q, f_carried_home ds q → ds.length = P_carried_home.length := by
  rintro ds q ⟨n, b, g, os, rfl, _⟩; rfl
/-- what is carried so far; wt: what waits -/
structure Carry (os : List Op) (n b g : Nat) (im : List (Nat × Nat)) : Prop where
  nd : (im.map (·.1)).Nodup
  pr : ∀ x y, (x, y) ∈ im → PR os b g x y
  st : (b, g) ∈ im
  lt : ∀ x ∈ im.map (·.1), x < n
/-- closed at x -/
def Clo (os : List Op) (im : List (Nat × Nat)) (x : Nat) : Prop := ∀ y, (x, y) ∈ im → ∀ o ∈ os, o.t x = o.t y ∧ (o.e x, o.e y) ∈ im
theorem Carry.n {os : List Op} {n b g : Nat} {im : List (Nat × Nat)} (h : Carry os n b g im) : im.length ≤ n := by
  have := nodup_len h.nd h.lt
  simpa using this
theorem Carry.all {os : List Op} {n b g : Nat} {im : List (Nat × Nat)} (h : Carry os n b g im) (c : ∀ x ∈ im.map (·.1), Clo os im x) : ImOk os b g im ∧ Good os b g := by
  have m : ∀ x y, PR os b g x y → (x, y) ∈ im := fun x y hp => by
    induction hp with
    | base => exact h.st
    | step _ ho ih => exact (c _ (List.mem_map.mpr ⟨_, ih, rfl⟩) _ ih _ ho).2
  refine ⟨⟨h.nd, fun x y => ⟨h.pr x y, m x y⟩⟩, fun x y y' h1 h2 => ?_, fun x y hp o ho => ?_⟩
  · have e1 := lookup_nd h.nd (m x y h1)
    have e2 := lookup_nd h.nd (m x y' h2)
    rw [e1] at e2
    exact Option.some.inj e2
  · have hm := m x y hp
    exact (c x (List.mem_map.mpr ⟨_, hm, rfl⟩) y hm o ho).1
def stCar (os : List Op) (b g : Nat) (im : List (Nat × Nat)) (wt : List Nat) (c5 c6 c7 c8 c9 c10 : SC) : DS :=
  { s := [.d (.lst (os.map Op.D)), .d (.int b), .d (.int g), .k (imD im), .l (dN wt), c5, c6, c7, c8, c9, c10] }
def PvCar (os : List Op) (n b g : Nat) (m : Nat) (ds : DS) : Prop :=
  ∃ (im : List (Nat × Nat)) (wt : List Nat) (c5 c6 c7 c8 c9 c10 : SC), ds = stCar os b g im wt c5 c6 c7 c8 c9 c10 ∧ Carry os n b g im ∧ (∀ x ∈ wt, x ∈ im.map (·.1)) ∧ (∀ x ∈ im.map (·.1), x ∉ wt → Clo os im x) ∧ m = 2 * (n - im.length) + wt.length ∧ m ≤ 1000
def PvCarO (os : List Op) (n b g x y m : Nat) (i : Nat) (ds : DS) : Prop :=
  ∃ (im : List (Nat × Nat)) (wt : List Nat) (c6 c7 c8 c9 c10 : SC), ds = stCar os b g im wt (.d (.int x)) c6 c7 c8 c9 c10 ∧ Carry os n b g im ∧ (∀ x ∈ wt, x ∈ im.map (·.1)) ∧ (∀ z ∈ im.map (·.1), z ∉ wt → z ≠ x → Clo os im z) ∧ (x, y) ∈ im ∧
    (∀ o ∈ os.take i, o.t x = o.t y ∧ (o.e x, o.e y) ∈ im) ∧ 2 * (n - im.length) + wt.length < m ∧ m ≤ 1000
theorem p_carried_home {w : World} {K : PySem.W.Frag} {mg : Str → Option Value} {base : Heap} {Z : ZZ} (T : Top w K mg base Z) : Cl prg w K mg base 1 "carried_home" (spP Z.C K f_carried_home) := by
  have nd := sc_carried_home.nd
  refine clP_of (k := 0) T.d_carried_home sc_carried_home (by intro kV doc pm an cdv ct us h; match us, h with | [a0, a1, a2], _ => rfl) len_carried_home fun fa cdv A outer s H E hr => ⟨_, (ss_cons (sj_par2 (i := 3) (j := 4) rfl nd rfl rfl (by decide) rfl rfl (mj_o (ej_dic1 (n_ 1) (n_ 2)) (mj_o (ej_lst (aj_cons (n_ 1) aj_nil)) mj_nil)) (by rfl))
  (ss_cons (sj_while (passes_of rfl) (tj_cmp (op_neD hr.units) ow_neD (r_ 4) ((ej_lst aj_nil)).dt.rd (nomark _)) (ss_cons (sj_pop (i := 5) (j := 4) nd rfl (by first | exact .inl rfl | exact .inr rfl) rfl (by first | exact .inl rfl | exact .inr (.inl rfl) | exact .inr (.inr rfl)))
  (ss_one (sj_for (passes_of rfl) rfl (ij_list (n_ 0)) (gj_tup (n := 3) rfl (gjs_cons (g_ 6 nd) (gjs_cons (g_ 7 nd) (gjs_cons (g_ 8 nd) gjs_nil)))) (ss_cons (sj_par2 (i := 9) (j := 10) rfl nd rfl rfl (by decide) rfl rfl (mj_d (ej_ix ix_seq ow_ix (r_ 7) (r_ 5)) (mj_d (ej_ix ix_seq ow_ix (r_ 7) ((ej_dget hr (r_ 3) (r_ 5))).rd) mj_nil)) (by rfl))
  (ss_cons (sj_if (TJW.tj (tj_or (tj_cmp op_ne ow_ne ((ej_ix ix_seq ow_ix (r_ 8) (r_ 5))).rd ((ej_ix ix_seq ow_ix (r_ 8) ((ej_dget hr (r_ 3) (r_ 5))).rd)).rd (nomark _)) (tj_or1 (tj_cmp op_ne ow_ne ((ej_dget2 hr (r_ 3) (r_ 9) (n_ 10) ⟨rfl, rfl, rfl, rfl⟩)).rd (r_ 10) (nomark _))))) (ss_one (sj_ret ej_non)) ss_nil)
  (ss_one (sj_if (tj_dnin hr (r_ 9) (r_ 3) (by rfl)) (ss_cons (sj_dput (i := 3) hr rfl (by first | exact .inl rfl | exact .inr (.inl rfl) | exact .inr (.inr rfl)) (n_ 10) (r_ 9))
  (ss_one (sj_app (i := 4) rfl (by first | exact .inl rfl | exact .inr (.inl rfl) | exact .inr (.inr rfl)) (n_ 9)))) ss_nil))))))))
  (ss_frz 3 (ss_one (sj_ret (n_ 3)))))), fun ds q hf => ?_⟩
  obtain ⟨n, b, g, os, rfl, hok, n9, hb, hg, hq1, hq2⟩ := hf
  simp [-Bool.exists_bool, and_assoc, ex_not]
  refine ⟨len_ok (by omega), PvCar os n b g, ⟨2 * (n - 1) + 1, [(b, g)], [b], .no, .no, .no, .no, .no, .no, rfl, ⟨by simp, by simpa using PR.base, by simp, by simpa using hb⟩, by simp, by simp, rfl, by omega⟩, ?_⟩
  rintro m _ ⟨im, wt, c5, c6, c7, c8, c9, c10, rfl, ca, hw, hc, rfl, hm1000⟩
  simp [-Bool.exists_bool, and_assoc, ex_not, stCar]
  refine ⟨by rw [dN_int]; exact shaped_intsL _, nil_ok, ?_⟩
  rw [eqv_nil]
  cases hwt : wt with
  | nil =>
    subst hwt
    show q (D.dic (imD im))
    obtain ⟨h1, h2⟩ := ca.all fun x hx => hc x hx List.not_mem_nil
    exact hq1 h2 im h1
  | cons w0 wr =>
    rw [← hwt]
    have hpos : 0 < wt.length := by rw [hwt]; simp
    rw [if_neg (by rw [hwt]; simp [dN])]
    obtain ⟨x, hx⟩ : ∃ x, wt[wt.length - 1]? = some x := ⟨_, List.getElem?_eq_getElem (by omega)⟩
    refine ⟨_, ⟨x, hx, rfl⟩, ?_⟩
    have hxw := List.mem_of_getElem? hx
    obtain ⟨⟨x', y⟩, hxy, e⟩ := List.mem_map.mp (hw x hxw)
    simp only at e
    subst e
    have hdl : (dN wt).dropLast = dN wt.dropLast := by
      rw [List.dropLast_eq_take, List.dropLast_eq_take, dN_len]
      unfold dN
      rw [List.map_take]
    rw [hdl]
    have lx := lookup_nd ca.nd hxy
    have hsplit : ∀ z ∈ wt, z ∈ wt.dropLast ∨ z = x' := fun z hz => by
      have e := List.dropLast_concat_getLast (l := wt) (by intro h; rw [h] at hpos; cases hpos)
      rw [← e] at hz
      rcases List.mem_append.mp hz with h | h
      · exact .inl h
      · right
        simp only [List.mem_singleton] at h
        rw [h, List.getLast_eq_getElem]
        have := List.getElem?_eq_getElem (l := wt) (i := wt.length - 1) (by omega)
        rw [hx] at this
        exact (Option.some.inj this).symm
    refine forGo_inv (PvCarO os n b g x' y (2 * (n - im.length) + wt.length)) _ _ 0 ⟨im, wt.dropLast, c6, c7, c8, c9, c10, rfl, ca, fun z hz => hw z ((List.dropLast_sublist wt).mem hz), fun z hz h1 h2 => hc z hz fun h => (hsplit z h).elim h1 h2, hxy, by simp, by rw [List.length_dropLast]; omega⟩ ?_ ?_
    · rintro i d _ N hd ⟨im, wt', c6, c7, c8, c9, c10, rfl, ca, hw, hc, hxy, hcl, hms⟩ hN
      rw [Nat.zero_add] at hcl hN
      rw [List.getElem?_map] at hd
      obtain ⟨o, ho, rfl⟩ := Option.map_eq_some_iff.mp hd
      have hmem := List.mem_of_getElem? ho
      have hpr := ca.pr x' y hxy
      obtain ⟨hxn, hyn⟩ := hpr.lt hok hb hg
      have lx := lookup_nd ca.nd hxy
      obtain ⟨oe1, oe2⟩ := (hok o hmem).e hxn
      obtain ⟨oe3, oe4⟩ := (hok o hmem).e hyn
      have ot1 := (hok o hmem).t hxn
      have ot2 := (hok o hmem).t hyn
      have take : ∀ o', o' ∈ os.take (i + 1) → o' ∈ os.take i ∨ o' = o := fun o' h => by
        rw [List.take_add_one, ho] at h
        simpa using h
      simp [-Bool.exists_bool, and_assoc, ex_not, stCar, Op.D, oe1, oe3, ot1, ot2, dgt_imD, lx]
      have hstep := hpr.step hmem
      have l9 := ca.n
      by_cases et : o.t x' = o.t y
      · rw [if_pos (by rw [et])]
        cases el : im.lookup (o.e x') with
        | some z =>
          have hz := lookup_mem el
          by_cases ez : z = o.e y
          · subst ez
            rw [if_pos (by rfl), if_neg (by rw [dgt_imD, el]; simp)]
            refine hN _ ⟨im, wt', _, _, _, _, _, rfl, ca, hw, hc, hxy, fun o' h => ?_, hms⟩
            rcases take o' h with h | rfl
            · exact hcl o' h
            · exact ⟨et, hz⟩
          · rw [if_neg (by intro h; exact ez (by simpa [Int.ofNat_inj] using h))]
            exact hq2 fun gd => ez (gd.1 _ _ _ (ca.pr _ _ hz) hstep)
        | none =>
          have hout : o.e x' ∉ im.map (·.1) := lookup_none.mp el
          have hwl : wt'.length < 100000 := by omega
          rw [if_pos (by rfl), if_pos (by rw [dgt_imD, el]; rfl)]
          have cy : Carry os n b g (im ++ [(o.e x', o.e y)]) := by
            refine ⟨?_, fun u v h => ?_, List.mem_append_left _ ca.st, fun u h => ?_⟩
            · rw [List.map_append, List.nodup_append]
              exact ⟨ca.nd, by simp, fun u hu v hv => by simp at hv; subst hv; exact fun z => hout (z ▸ hu)⟩
            · rcases List.mem_append.mp h with h | h
              · exact ca.pr u v h
              · simp at h; obtain ⟨rfl, rfl⟩ := h; exact hstep
            · rw [List.map_append] at h
              rcases List.mem_append.mp h with h | h
              · exact ca.lt u h
              · simp at h; subst h; exact oe2
          have hn2 := cy.n
          rw [List.length_append, List.length_singleton] at hn2
          refine ⟨by omega, hwl, hN _ ⟨im ++ [(o.e x', o.e y)], wt' ++ [o.e x'], .d (.str o.nm), .d (.tup (dN o.ends)), .d (.tup (dN o.told)), .d (.int (o.e x' : Nat)), .d (.int (o.e y : Nat)), ?_, cy, fun u hu => ?_, fun u hu h1 h2 => ?_, List.mem_append_left _ hxy, fun o' h => ?_, ?_⟩⟩
          · unfold stCar
            rw [← imD_new hout]
            simp [dN]
          · rw [List.map_append]
            rcases List.mem_append.mp hu with h | h
            · exact List.mem_append_left _ (hw u h)
            · simp at h; subst h; simp
          · have hu' : u ∈ im.map (·.1) := by
              rw [List.map_append] at hu
              rcases List.mem_append.mp hu with h | h
              · exact h
              · simp at h; subst h; exact absurd (List.mem_append_right _ (by simp)) h1
            intro v hv o' ho'
            have hv' : (u, v) ∈ im := by
              rcases List.mem_append.mp hv with h | h
              · exact h
              · simp at h; obtain ⟨rfl, rfl⟩ := h; exact absurd hu' hout
            obtain ⟨k1, k2⟩ := hc u hu' (fun h => h1 (List.mem_append_left _ h)) h2 v hv' o' ho'
            exact ⟨k1, List.mem_append_left _ k2⟩
          · rcases take o' h with h | rfl
            · exact ⟨(hcl o' h).1, List.mem_append_left _ (hcl o' h).2⟩
            · exact ⟨et, by simp⟩
          · rw [List.length_append, List.length_append, List.length_singleton, List.length_singleton]
            omega
      · rw [if_neg (by intro h; exact et (by omega))]
        exact hq2 fun gd => et (gd.2 x' y hpr o hmem)
    · rintro _ ⟨im, wt', c6, c7, c8, c9, c10, rfl, ca, hw, hc, hxy, hcl, hms⟩
      refine ⟨_, hms.1, im, wt', _, _, _, _, _, _, rfl, ca, hw, fun z hz h1 => ?_, rfl, by omega⟩
      by_cases e : z = x'
      · subst e
        intro y' hy' o ho
        have e1 := lookup_nd ca.nd hxy
        have e2 := lookup_nd ca.nd hy'
        rw [e1] at e2
        cases e2
        exact hcl o (by simpa using ho)
      · exact hc z hz h1 e
end G78
namespace G78
open PySem PySem.Spec PyProof.Rows L2
section
variable {X : Cx}
/-- name = {..} on one line, the name a local -/
theorem ps_setDc {i : Nat} {y : Str} {py : Pos} {kx vx tg iter : Expr} {ifs : List Expr} {scope : Scope} {own : List (Str × Nat)} {pos spos : Pos} {wi : TI} {g : TG} {tt : TT} {tk tv : TE} (hc : X.calm = true) (hN : X.N.Nodup) (hy : X.N[i]? = some y) (hyl : X.env.scope.names.lookup y = some .local)
    (hsw : swapsWith (.DictComp kx vx [⟨tg, iter, ifs, 0⟩] scope pos) (some (.Name y py)) spos.line X.env = pure true) (hi : PI X tg iter wi) (ok : BlkOk X.N X.env.scope scope own)
    (hg : ∀ (s : Shared) (H : Hp) (C : Addr) (cl : List (Str × Addr)) (fp : List Addr), PG (X.blk s H scope (compEnvC scope cl C X.env) fp) tg g) (ht : ∀ (s : Shared) (H : Hp) (C : Addr) (cl : List (Str × Addr)) (fp : List Addr), PTs (X.blk s H scope (compEnvC scope cl C X.env) fp) ifs tt)
    (hk : ∀ (s : Shared) (H : Hp) (C : Addr) (cl : List (Str × Addr)) (fp : List Addr), PE (X.blk s H scope (compEnvC scope cl C X.env) fp) kx tk)
    (he : ∀ (s : Shared) (H : Hp) (C : Addr) (cl : List (Str × Addr)) (fp : List Addr), PE (X.blk s H scope (compEnvC scope cl C X.env) fp) vx tv) (hs : ∀ x, foldedSetIterable iter X.env x = pure x := by intro _; rfl) :
    PS X (.Assign [.Name y py] (.DictComp kx vx [⟨tg, iter, ifs, 0⟩] scope pos) spos) (tAsg (tDc wi g tt tk tv (own.map (·.2))) (gName i)) := by
  refine ⟨fun pins s σ H D I h => ?_⟩
  rw [exec_Assign_Name_used _ _ _ _ hsw]
  refine wpAny_bind (wpAny_standAt (wpAny_bind ?_))
  show wpAny _ X.A (do let _ ← comprehension (.DictComp kx vx [⟨tg, iter, ifs, 0⟩] scope pos) scope X.env (firstIterPos [⟨tg, iter, ifs, 0⟩] pos) newDict false (eval iter X.env) (some (assign (.Name y py) X.env))) _ _ s
  have h : tDc wi g tt tk tv (own.map (·.2)) σ H (fun x H1 => gName i x σ H1 D.nx) := h
  refine wpAny_bind (thn (dc_core (Qf := fun _ s' => SP X pins D .next s') hc hN I hi ok hg ht hk he hs h fun L C s' m H' I' q hn f => ?_) fun _ s' hq => wpAny_pure (wpAny_pure hq))
  show wpAny _ _ (assign (.Name y py) X.env (.ref L)) _ _ _
  refine wpAny_assign_Name (store_ok2 (v := V.ref L) I' hN hy (.inl hyl) rfl (fun s2 I2 ⟨a, sb, ha⟩ => ?_) (.inr hyl))
  obtain ⟨f0, f1, f2, f3, f4, f5⟩ := f
  have haC : C ≠ a := by
    rcases ha with z | z
    · rw [z]; exact f1
    · exact fun e => f4 y a z e.symm
  refine ⟨m, hn.sameBut sb haC, fun h3 sb3 => ?_⟩
  exact ⟨_, H', I2.turned (t' := s2.toks) (fun b o hb e => (sb3.2 b hb).trans e) f0 f1 f3 f4 f5, q⟩
theorem sw_dc {kx vx : Expr} {gs : List Comprehension} {scope : Scope} {pos py : Pos} {y : Str} {l : Nat} {env : Env} (hk : env.scope.kind = .function) (hy : env.scope.names.lookup y = some .local) (hl : (py.line == pos.line) = true)
    (ha : (scope.names.any fun (n, k) => n == y && (k == .local || k == .cell)) = false) : swapsWith (.DictComp kx vx gs scope pos) (some (.Name y py)) l env = pure true := by
  have ky : env.kindOf y = some .local := hy
  have hb : env.blockKind = .function := by unfold Env.blockKind; rw [hk]; rfl
  unfold swapsWith
  simp only [hb, ky, ha, Expr.pos, hl]
  rfl
variable {Z : ZZ} {i : Nat} {y : Str} {pos spos py : Pos}
variable {tg elt iter kx vx : Expr} {ifs : List Expr} {scope : Scope} {own : List (Str × Nat)} {I : TWI} {G : TWG} {T : TWT} {Ek Ev : TW} {is : List Nat}
theorem as_dc (hc : X.calm = true) (hN : X.N.Nodup) (hy : X.N[i]? = some y) (hyl : X.env.scope.names.lookup y = some .local)
    (hsw : swapsWith (.DictComp kx vx [⟨tg, iter, ifs, 0⟩] scope pos) (some (.Name y py)) spos.line X.env = pure true) (ok : BlkOk X.N X.env.scope scope own) (his : ∀ i ∈ is, i ∈ own.map (·.2))
    (hg : ∀ (s : Shared) (H : Hp) (C : Addr) (cl : List (Str × Addr)) (fp : List Addr), GJ Z (X.blk s H scope (compEnvC scope cl C X.env) fp) tg is G) (ht : ∀ (s : Shared) (H : Hp) (C : Addr) (cl : List (Str × Addr)) (fp : List Addr), TsJ Z (X.blk s H scope (compEnvC scope cl C X.env) fp) ifs T)
    (hk : ∀ (s : Shared) (H : Hp) (C : Addr) (cl : List (Str × Addr)) (fp : List Addr), EJ Z .d (X.blk s H scope (compEnvC scope cl C X.env) fp) kx Ek)
    (hv : ∀ (s : Shared) (H : Hp) (C : Addr) (cl : List (Str × Addr)) (fp : List Addr), EJ Z .d (X.blk s H scope (compEnvC scope cl C X.env) fp) vx Ev)
    (hi : IJ Z X tg iter I) (hs : ∀ x, foldedSetIterable iter X.env x = pure x := by intro _; rfl) : AsJ Z .o X (.Assign [.Name y py] (.DictComp kx vx [⟨tg, iter, ifs, 0⟩] scope pos) spos) i (wDc I G T Ek Ev (own.map (·.2))) := by
  obtain ⟨wi, pi, gi⟩ := hi.ex
  refine ⟨_, ps_setDc hc hN hy hyl hsw pi ok (g := gW Z X.K is G) (tt := tWT Z X.K T) (tk := tW Z .d X.K Ek) (tv := tW Z .d X.K Ev) (fun s H C cl fp => (hg s H C cl fp).pg) (fun s H C cl fp => (ht s H C cl fp).pts) (fun s H C cl fp => (hk s H C cl fp).pe) (fun s H C cl fp => (hv s H C cl fp).pe) hs, fun F M σ H ds q Q r w k => gi F M σ H ds _ _ r w fun J H1 xs G0 Y x1 wd hq L hL => ?_⟩
  refine dc_read (is := is) his (r.ext x1) hL wd hq fun H2 ys s hq => ?_
  obtain ⟨acc, a1, a2⟩ := s.l
  exact k _ _ _ (x1.trans s.x) (RO.dic (r.back x1 _ hL) a1 a2) hq
end
end G78
namespace G78
open PySem PySem.Spec PyProof.Rows L2
open Classical in
noncomputable def goodB (os : List Op) (b g : Nat) : Bool := decide (Good os b g)
theorem goodB_iff {os : List Op} {b g : Nat} : goodB os b g = true ↔ Good os b g := by unfold goodB; simp
noncomputable def goals (os : List Op) (n b : Nat) : List Nat := (List.range n).filter (goodB os b)
/-- every way leads back -/
def Sym (os : List Op) (n : Nat) : Prop := ∀ s, s < n → ∀ g, Reach os s g → Reach os g s
open Classical in
noncomputable def symB (os : List Op) (n : Nat) : Bool := decide (Sym os n)
theorem symB_iff {os : List Op} {n : Nat} : symB os n = true ↔ Sym os n := by unfold symB; simp
theorem last_sym {os : List Op} {n : Nat} (ok : ∀ o ∈ os, o.Ok n) : ((List.range n).filter (lastB os n)).length < n ↔ symB os n = false := by
  have h1 : ((List.range n).filter (lastB os n)).length = n ↔ ∀ s, s < n → lastB os n s = true := by
    have := List.length_filter_eq_length_iff (p := lastB os n) (l := List.range n)
    rw [List.length_range] at this
    rw [this]
    simp
  have h2 : (∀ s, s < n → lastB os n s = true) ↔ Sym os n := by
    refine ⟨fun h s hs g hg => ?_, fun h s hs => ?_⟩
    · have := h s hs
      unfold lastB at this
      rw [List.all_eq_true] at this
      exact reachB_iff.mp (this g (mem_reachL.mpr ⟨hg.lt ok hs, hg⟩))
    · unfold lastB
      rw [List.all_eq_true]
      exact fun g hg => reachB_iff.mpr (h s hs g (mem_reachL.mp hg).2)
  have h3 := List.length_filter_le (lastB os n) (List.range n)
  rw [List.length_range] at h3
  rw [Bool.eq_false_iff, ne_eq, symB_iff, ← h2, ← h1]
  omega
abbrev Tab := List (Nat × List (Nat × Nat))
def tabD (t : Tab) : List (Key × D) := t.map fun p => (Sum.inl (p.1 : Int), D.dic (imD p.2))
def foundD (f : List (Nat × Tab)) : List D := f.map fun p => .tup [.int (p.1 : Nat), .dic (tabD p.2)]
structure TabOk (os : List Op) (n b : Nat) (t : Tab) : Prop where
  keys : t.map (·.1) = goals os n b
  im : ∀ r ∈ t, ImOk os b r.1 r.2
structure OpenOk (os : List Op) (n : Nat) (bs : List Nat) (f : List (Nat × Tab)) : Prop where
  bases : f.map (·.1) = bs
  tab : ∀ p ∈ f, TabOk os n p.1 p.2
theorem bases_pre (os : List Op) {s n : Nat} (h : s ≤ n) : ∃ r, bases os n = bases os s ++ r := by
  induction n with
  | zero => have : s = 0 := by omega
            subst this; exact ⟨[], by simp⟩
  | succ n ih =>
    by_cases e : s = n + 1
    · subst e; exact ⟨[], by simp⟩
    · obtain ⟨r, hr⟩ := ih (by omega)
      rw [bases_succ, hr]
      exact ⟨_, List.append_assoc _ _ _⟩
theorem mem_bases {os : List Op} {n c : Nat} : c ∈ bases os n ↔ c < n ∧ known os c = [] := by
  unfold bases
  rw [List.mem_filter, List.mem_range, List.isEmpty_iff]
theorem home_at {os : List Op} {n : Nat} {ns : List Nat} (h : Homes os n ns) : ∀ s, s < n → ∃ j, ns[s]? = some j ∧ j < (bases os n).length ∧ ∀ c, (bases os n)[j]? = some c → c ≤ s := by
  intro s
  induction s using Nat.strongRecOn with
  | ind s ih =>
    intro hs
    cases e : known os s with
    | nil =>
      obtain ⟨r, hr⟩ := bases_pre os (show s + 1 ≤ n from hs)
      rw [bases_succ, e] at hr
      simp only [List.isEmpty_nil, if_true, List.append_assoc] at hr
      refine ⟨_, h.base s hs e, by rw [hr]; simp, fun c hc => ?_⟩
      rw [hr, List.getElem?_append_right (Nat.le_refl _), Nat.sub_self] at hc
      simp at hc
      omega
    | cons k r =>
      have hk : k < s := known_lt (e ▸ List.mem_cons_self)
      obtain ⟨j, h1, h2, h3⟩ := ih k hk (by omega)
      exact ⟨j, by rw [h.low s hs k r e, h1], h2, fun c hc => by have := h3 c hc; omega⟩
theorem nd_inj {l : List Nat} (nd : l.Nodup) {i j : Nat} (hi : i < l.length) (hj : j < l.length) (e : l[i] = l[j]) : i = j := by
  rcases Nat.lt_trichotomy i j with h | h | h
  · exact absurd e (List.pairwise_iff_getElem.mp nd i j hi hj h)
  · exact h
  · exact absurd e.symm (List.pairwise_iff_getElem.mp nd j i hj hi h)
/-- the place of a base -/
theorem home_base {os : List Op} {n : Nat} {ns : List Nat} (h : Homes os n ns) {j c : Nat} (hc : (bases os n)[j]? = some c) : ns[c]? = some j ∧ ∀ m, m < c → ns[m]? ≠ some j := by
  obtain ⟨hcn, hk⟩ := mem_bases.mp (List.mem_of_getElem? hc)
  obtain ⟨r, hr⟩ := bases_pre os (show c + 1 ≤ n from hcn)
  rw [bases_succ, hk] at hr
  simp only [List.isEmpty_nil, if_true, List.append_assoc] at hr
  have nd : (bases os n).Nodup := List.nodup_range.filter _
  have h1 : (bases os n)[(bases os c).length]? = some c := by rw [hr, List.getElem?_append_right (Nat.le_refl _), Nat.sub_self]; rfl
  have ej : j = (bases os c).length := by
    obtain ⟨a1, a2⟩ := List.getElem?_eq_some_iff.mp hc
    obtain ⟨b1, b2⟩ := List.getElem?_eq_some_iff.mp h1
    exact nd_inj nd a1 b1 (a2.trans b2.symm)
  refine ⟨by rw [ej]; exact h.base c hcn hk, fun m hm e => ?_⟩
  obtain ⟨j', e1, e2, e3⟩ := home_at h m (by omega)
  rw [e] at e1
  cases e1
  have := e3 c hc
  omega
theorem bases_pos {os : List Op} {n : Nat} (h : 1 ≤ n) : 0 ∈ bases os n := mem_bases.mpr ⟨h, by simp [known]⟩
theorem home_max {os : List Op} {n : Nat} {ns : List Nat} (h : Homes os n ns) (h1 : 1 ≤ n) {m : Int} (hm : m ∈ ns.map fun k : Nat => (k : Int)) (hmax : ∀ y ∈ ns.map (fun k : Nat => (k : Int)), y ≤ m) : m + 1 = ((bases os n).length : Int) := by
  have hb : 0 < (bases os n).length := List.length_pos_of_mem (bases_pos h1)
  obtain ⟨x, hx, rfl⟩ := List.mem_map.mp hm
  obtain ⟨s, hs⟩ := List.getElem?_of_mem hx
  have hsn : s < n := by have := (List.getElem?_eq_some_iff.mp hs).1; rw [h.len] at this; exact this
  obtain ⟨j, e1, e2, _⟩ := home_at h s hsn
  rw [hs] at e1
  cases e1
  obtain ⟨c, hc⟩ : ∃ c, (bases os n)[(bases os n).length - 1]? = some c := ⟨_, List.getElem?_eq_getElem (by omega)⟩
  have h2 := (home_base h hc).1
  have h3 := hmax (((bases os n).length - 1 : Nat) : Int) (List.mem_map_of_mem (f := fun k : Nat => (k : Int)) (List.mem_of_getElem? h2))
  omega
theorem dcGo_rel {B : D → List (Key × D) → (List (Key × D) → Prop) → Prop} (key : D → Key) (P : D → D → Prop) : ∀ {xs : List D} {acc : List (Key × D)} {q : List (Key × D) → Prop}, acc.length + xs.length ≤ 100000 →
    (∀ x ∈ xs, ∀ acc q, acc.length < 100000 → (∀ y, P x y → q (dpt acc (key x) y)) → B x acc q) → (acc.map (·.1) ++ xs.map key).Nodup → (∀ ys, Paired P xs ys → q (acc ++ List.zipWith (fun x y => (key x, y)) xs ys)) → lcGo B xs acc q
  | [], acc, q, _, _, _, w => by simpa [lcGo] using w [] .nil
  | x :: xs, acc, q, hl, h, nd, w => by
    simp only [List.length_cons] at hl
    refine h x List.mem_cons_self acc _ (by omega) fun y hy => ?_
    have hk : ∀ p ∈ acc, p.1 ≠ key x := fun p hp z => by
      rw [List.map_cons, List.nodup_append] at nd
      exact nd.2.2 p.1 (List.mem_map_of_mem hp) (key x) List.mem_cons_self z
    rw [dpt_new hk]
    refine dcGo_rel key P (by simp; omega) (fun z hz => h z (List.mem_cons_of_mem _ hz)) (by simpa using nd) fun ys hys => ?_
    have := w (y :: ys) (.cons hy hys)
    simpa using this
/-- what a goal's carrying gives -/
def CarP (os : List Op) (b : Nat) (x y : D) : Prop := (Good os b x.nat ∧ ∃ im, ImOk os b x.nat im ∧ y = .dic (imD im)) ∨ (¬ Good os b x.nat ∧ y = .non)
theorem carP_tab {os : List Op} {b : Nat} : ∀ (l : List Nat) (ys : List D), Paired (CarP os b) (dN l) ys → ∃ t : Tab, (List.zipWith (fun x y => (Sum.inl (D.nat x : Int), y)) (dN l) ys : List (Key × D)).filterMap (fun p => if p.2.isNon = true then none else some p) = tabD t ∧ t.map (·.1) = l.filter (goodB os b) ∧ ∀ r ∈ t, ImOk os b r.1 r.2
  | [], ys, h => by cases h; exact ⟨[], rfl, rfl, fun r hr => absurd hr List.not_mem_nil⟩
  | g :: l, ys, h => by
    have h : Paired (CarP os b) (D.int (g : Nat) :: dN l) ys := h
    cases h with
    | @cons _ y _ ys' hp ht =>
      obtain ⟨t, e1, e2, e3⟩ := carP_tab l ys' ht
      have e0 : dN (g :: l) = D.int (g : Nat) :: dN l := rfl
      rw [e0]
      rcases hp with ⟨hg, im, hi, rfl⟩ | ⟨hg, rfl⟩
      · have hg : Good os b g := hg
        refine ⟨(g, im) :: t, ?_, ?_, ?_⟩
        · rw [List.zipWith_cons_cons, List.filterMap_cons, e1]; rfl
        · rw [List.filter_cons, goodB_iff.mpr hg]
          simp [e2]
        · intro r hr
          rcases List.mem_cons.mp hr with rfl | hr
          · exact hi
          · exact e3 r hr
      · have hg : ¬ Good os b g := hg
        refine ⟨t, ?_, ?_, e3⟩
        · rw [List.zipWith_cons_cons, List.filterMap_cons, e1]; rfl
        · rw [List.filter_cons, Bool.eq_false_iff.mpr (fun h => hg (goodB_iff.mp h))]
          simp [e2]
def tabF : D → Option (Key × D)
  | .tup [k, y] => if y.isNon = true then none else k.key.map fun k => (k, y)
  | _ => none
theorem tabF_kd (kv : Key × D) : tabF (.tup [kd kv.1, kv.2]) = if kv.2.isNon = true then none else some kv := by
  obtain ⟨k, y⟩ := kv
  cases k <;> rfl
def f_openings : SpDX := fun ds q x => ∃ (n : Nat) (offs : List (List Op)) (v : D), ds = [stoD n offs, v] ∧ SOk n offs ∧ v.kind ∧
  if v.blw offs.length = true then (if symB (othOps offs v.nat) n = true then ∀ f, OpenOk (othOps offs v.nat) n (bases (othOps offs v.nat) n) f → q (.lst (foundD f)) else x 1 "oneway") else x 0 "office"
theorem len_openings : ∀ ds q x, f_openings ds q x → ds.length = P_openings.length := by
  rintro ds q x ⟨n, offs, v, rfl, _⟩; rfl
def stOpen (n : Nat) (offs : List (List Op)) (kk : Nat) (os : List Op) (ns : List Nat) (x : Nat → Str → Prop) (f : List (Nat × Tab)) (c6 c7 c8 c9 c10 : SC) : DS :=
  { s := [.d (stoD n offs), .d (.int kk), .d (.tup (dN (others offs.length kk))), .d (.ftu (ns.map fun k : Nat => (k : Int))), .d (.lst (os.map Op.D)), .l (foundD f), c6, c7, c8, c9, c10], x := x }
def PvOpen (n : Nat) (offs : List (List Op)) (kk : Nat) (os : List Op) (ns : List Nat) (x : Nat → Str → Prop) (i : Nat) (ds : DS) : Prop :=
  ∃ (f : List (Nat × Tab)) (c6 c7 c8 c9 c10 : SC), ds = stOpen n offs kk os ns x f c6 c7 c8 c9 c10 ∧ OpenOk os n ((bases os n).take i) f
theorem p_openings {w : World} {K : PySem.W.Frag} {mg : Str → Option Value} {base : Heap} {Z : ZZ} (T : Top w K mg base Z) : Cl prg w K mg base 10 "openings" (spX Z.C Z.cls K f_openings) := by
  have c_need_office := p_need_office T
  have c_other_offices := p_other_offices T
  have c_joint_homes := p_joint_homes T
  have c_of_others := p_of_others T
  have c_lasting_states := p_lasting_states T
  have c_carried_home := p_carried_home T
  have nd := sc_openings.nd
  refine clX_of (k := 9) T.d_openings sc_openings (by intro kV doc pm an cdv ct us h; match us, h with | [a0, a1], _ => rfl) len_openings fun fa cdv A outer s H E hr => ⟨_, (ss_cons (sj_expr (ej_x (takes_of rfl rfl rfl rfl) (xj_call c_need_office hr (by decide) (by rfl) (aj_cons (n_ 0) (aj_cons (n_ 1) aj_nil)))))
  (ss_cons (sj_set (as_of (i := 2) nd rfl (by first | exact .inl rfl | exact .inr rfl) (ej_call c_other_offices hr (by decide) (by rfl) (aj_cons (n_ 0) (aj_cons (ej_tup (aj_cons (n_ 1) aj_nil)) aj_nil)))))
  (ss_cons (sj_if (tj_cmp op_lt ow_b ((ej_b1 call_len_seq cw_len (by rfl) T.m_len PySem.boot_len ((ej_call c_lasting_states hr (by decide) (by rfl) (aj_cons (n_ 0) (aj_cons (n_ 2) aj_nil)))).rd)).rd ((ej_size T.sto (r_ 0))).rd (nomark _)) (ss_one (sj_raise (n := 1) rfl T.xR hr (takes_of rfl rfl rfl rfl) ej_str)) ss_nil)
  (ss_cons (sj_parT (is := [3, 4, 5]) rfl (pgs_cons (pg_ 3 nd) (pgs_cons (pg_ 4 nd) (pgs_cons (pg_ 5 nd) pgs_nil))) (mj_d (ej_call c_joint_homes hr (by decide) (by rfl) (aj_cons (n_ 0) (aj_cons (n_ 2) aj_nil))) (mj_d (ej_call c_of_others hr (by decide) (by rfl) (aj_cons (n_ 0) (aj_cons (n_ 1) aj_nil))) (mj_o (ej_lst aj_nil) mj_nil))) (by decide))
  (ss_cons (sj_for (passes_of rfl) rfl (ij_range (by rfl) T.m_range ((ej_op op_add ow_i ((ej_b1 (cr_maxT rfl hr) cw_maxF (by rfl) T.m_max (by decide +kernel) (r_ 3))).rd (ej_int).rd)).rd) (g_ 6 nd) (ss_cons (sj_set (as_of (i := 7) nd rfl (by first | exact .inl rfl | exact .inr rfl) (ej_idxF (r_ 3) (r_ 6))))
  (ss_cons (sj_set ((as_dc (i := 8) (own := [("goal", 9)]) rfl nd rfl rfl (sw_dc rfl rfl rfl (by decide +kernel)) (blkOk_by (own := [("goal", 9)]) (N := N_openings) (sc := defScope st_openings) (by decide +kernel)) (by decide) (fun _ _ _ _ _ => (g_ 9 nd)) (fun _ _ _ _ _ => ts_nil) (fun _ _ _ _ _ => (n_ 9)) (fun _ _ _ _ _ => (ej_call c_carried_home hr (by decide) (by rfl) (aj_cons (n_ 4) (aj_cons (n_ 7) (aj_cons (n_ 9) aj_nil))))) (ij_range (by rfl) T.m_range ((ej_size T.sto (r_ 0))).rd))).dt)
  (ss_one (sj_app (i := 5) rfl (by first | exact .inl rfl | exact .inr (.inl rfl) | exact .inr (.inr rfl)) (ej_tup (aj_cons (n_ 7) (aj_cons ((ej_dcL (own := [("goal", 9), ("images", 10)]) rfl nd (blkOk_by (own := [("goal", 9), ("images", 10)]) (N := N_openings) (sc := defScope st_openings) (by decide +kernel)) (by decide) (fun _ _ _ _ _ => (gj_tup (n := 2) rfl (gjs_cons (g_ 9 nd) (gjs_cons (g_ 10 nd) gjs_nil)))) (fun _ _ _ _ _ => (ts_one (tj_cmp op_notN ow_notN (r_ 10) (ej_non).rd (nomark _)))) (fun _ _ _ _ _ => (n_ 9)) (fun _ _ _ _ _ => (n_ 10)) (lj_items (p_ 8)))).dt aj_nil))))))))
  (ss_frz 5 (ss_one (sj_ret (n_ 5))))))))), fun ds q x hf => ?_⟩
  obtain ⟨n, offs, v, rfl, ok, hk, hq⟩ := hf
  have hm := ok.m
  have n9 := ok.n9
  simp [-Bool.exists_bool, and_assoc, ex_not]
  refine ⟨n, offs, v, rfl, hk, by omega, ?_⟩
  cases e : v.blw offs.length with
  | false => rw [e] at hq; exact hq
  | true =>
    rw [e] at hq
    obtain ⟨kk, rfl, hkk⟩ := blw_nat e
    simp only [if_true, D.nat, Int.toNat_natCast] at hq ⊢
    obtain ⟨os, hos⟩ : ∃ os, os = othOps offs kk := ⟨_, rfl⟩
    have hq : (if symB os n = true then ∀ f, OpenOk os n (bases os n) f → q (.lst (foundD f)) else x 1 "oneway") := by subst hos; exact hq
    have hok : ∀ o ∈ os, o.Ok n := hos ▸ flatOps_ok ok.ok _
    have n1 := ok.n1
    refine ⟨len_ok (by omega), n, offs, kk, rfl, by omega, n, offs, others offs.length kk, rfl, argsOk_others ok kk, ?_⟩
    have ls : ((List.range n).filter (lastB os n)).length < n ↔ symB os n = false := last_sym hok
    refine ⟨_, .inr rfl, n, ⟨_, rfl⟩, ?_⟩
    rw [dN_len, show flatOps offs (others offs.length kk) = os from hos.symm]
    cases esy : symB os n with
    | false =>
      rw [esy] at hq
      have := ls.mpr esy
      rw [if_pos (by omega)]
      exact hq
    | true =>
      rw [esy] at hq
      simp only [if_true] at hq
      have hnl : ¬ ((List.range n).filter (lastB os n)).length < n := fun h => by rw [ls.mp h] at esy; cases esy
      rw [if_neg (by omega)]
      refine ⟨n, offs, others offs.length kk, rfl, argsOk_others ok kk, fun ns hns => ?_⟩
      rw [show flatOps offs (others offs.length kk) = os from hos.symm] at hns
      refine ⟨n, offs, kk, rfl, ok, ?_⟩
      rw [← hos]
      refine ⟨_, rfl, by rw [List.length_map, hns.len]; omega, fun m hm hmax => ⟨(bases os n).length, home_max hns n1 hm hmax, ?_, ?_⟩⟩
      · have := List.length_filter_le (fun s => (known os s).isEmpty) (List.range n)
        rw [List.length_range] at this
        unfold bases
        omega
      · rw [rgN_dN]
        refine forGo_inv (PvOpen n offs kk os ns x) _ _ 0 ⟨[], .no, .no, .no, .no, .no, rfl, ⟨by simp, by simp⟩⟩ ?_ ?_
        · rintro i d _ N hd ⟨f, c6, c7, c8, c9, c10, rfl, hf⟩ hN
          rw [Nat.zero_add] at hf hN
          have hi : i < (bases os n).length := by have := (List.getElem?_eq_some_iff.mp hd).1; simpa using this
          have ed : d = .int i := by
            have := (dN_get (List.range (bases os n).length) i).symm.trans hd
            rw [List.getElem?_range hi] at this
            exact (Option.some.inj this).symm
          subst ed
          obtain ⟨c, hc⟩ : ∃ c, (bases os n)[i]? = some c := ⟨_, List.getElem?_eq_getElem hi⟩
          obtain ⟨hb1, hb2⟩ := home_base hns hc
          have hcn := (mem_bases.mp (List.mem_of_getElem? hc)).1
          simp [-Bool.exists_bool, and_assoc, ex_not, stOpen]
          refine ⟨c, ⟨i, hb1, rfl⟩, fun m hm z hz e => hb2 m hm (by rw [hz]; congr 1; omega), n, ⟨_, rfl⟩, n, rfl, by omega, ?_⟩
          rw [rgN_dN]
          refine dcGo_rel (fun d => Sum.inl (d.nat : Int)) (CarP os c) (by simp; omega) ?_ ?_ ?_
          · intro d hd acc q2 hacc hq2
            obtain ⟨g, hg, rfl⟩ := List.mem_map.mp hd
            have hgn := List.mem_range.mp hg
            simp [-Bool.exists_bool, and_assoc, ex_not]
            refine ⟨n, c, g, os, rfl, hok, by omega, hcn, hgn, fun hgd im him => ?_, fun hgd => ?_⟩
            · exact ⟨hacc, hq2 _ (.inl ⟨hgd, im, him, rfl⟩)⟩
            · exact ⟨hacc, hq2 _ (.inr ⟨hgd, rfl⟩)⟩
          · unfold dN
            rw [List.map_nil, List.nil_append, List.map_map]
            refine List.pairwise_map.mpr (List.nodup_range.imp fun h e => h ?_)
            have := Sum.inl.inj e
            simp [D.nat] at this
            omega
          · intro ys hys
            obtain ⟨t, et1, et2, et3⟩ := carP_tab (List.range n) ys hys
            rw [List.nil_append]
            obtain ⟨zs, hzs⟩ : ∃ zs, zs = (List.zipWith (fun x y => (Sum.inl (D.nat x : Int), y)) (dN (List.range n)) ys : List (Key × D)) := ⟨_, rfl⟩
            have hlz : zs.length ≤ n := by rw [hzs, List.length_zipWith]; simp; omega
            rw [← hzs] at et1 ⊢
            have efm : (zs.map fun kv => D.tup [kd kv.1, kv.2]).filterMap tabF = tabD t := by
              rw [← et1, List.filterMap_map]
              exact congrArg (fun h => List.filterMap h zs) (funext tabF_kd)
            have eky : (tabD t).map (·.1) = (goals os n c).map fun g : Nat => (Sum.inl (g : Int) : Key) := by
              unfold tabD goals
              rw [← et2, List.map_map, List.map_map]; rfl
            refine dcGo_map tabF (by simp; omega) ?_ ?_ ?_
            · intro d hd acc q2 hacc hq2
              obtain ⟨kv, hkv, rfl⟩ := List.mem_map.mp hd
              rw [tabF_kd] at hq2
              simp [-Bool.exists_bool, and_assoc, ex_not]
              cases e : kv.2.isNon with
              | true => rw [e] at hq2; simpa using hq2
              | false =>
                rw [e] at hq2
                obtain ⟨k, y⟩ := kv
                cases k <;> simpa [hacc] using hq2
            · rw [List.nil_append, efm, eky]
              refine List.pairwise_map.mpr ((List.nodup_range.filter _).imp fun h e => h ?_)
              have := Sum.inl.inj e
              omega
            · rw [List.nil_append, efm]
              have hfl : f.length ≤ i := by
                have := congrArg List.length hf.bases
                rw [List.length_map, List.length_take] at this
                omega
              have hbl : (bases os n).length ≤ n := by
                have := List.length_filter_le (fun s => (known os s).isEmpty) (List.range n)
                rw [List.length_range] at this
                exact this
              refine ⟨len_ok (by omega), by simp [foundD]; omega, hN _ ⟨f ++ [(c, t)], .d (.int i), .d (.int c), .d (.dic zs), c9, c10, ?_, ?_, ?_⟩⟩
              · simp [stOpen, foundD]
              · rw [List.map_append, hf.bases, List.take_add_one, hc]; rfl
              · intro p hp
                rcases List.mem_append.mp hp with h | h
                · exact hf.tab p h
                · simp only [List.mem_singleton] at h
                  subst h
                  exact ⟨et2, et3⟩
        · rintro _ ⟨f, c6, c7, c8, c9, c10, rfl, hf⟩
          simp [stOpen]
          refine hq f ⟨?_, hf.tab⟩
          have := hf.bases
          rw [Nat.zero_add, dN_len, List.length_range, List.take_length] at this
          exact this
end G78
namespace G78
open PySem PySem.Spec PyProof.Rows L2
/-- the goals of each base -/
noncomputable def goalsD (os : List Op) (n : Nat) : List D := (bases os n).map fun b => .tup (dN (goals os n b))
theorem goals_len (os : List Op) (n b : Nat) : (goals os n b).length ≤ n := by
  have := List.length_filter_le (goodB os b) (List.range n)
  rw [List.length_range] at this
  exact this
theorem range_rise (n : Nat) : (List.range n).Pairwise (· < ·) := List.pairwise_lt_range
theorem goals_rise (os : List Op) (n b : Nat) : ((goals os n b).map fun g : Nat => (g : Int)).Pairwise (· < ·) :=
  List.pairwise_map.mpr (((range_rise n).filter _).imp fun h => by omega)
/-- a sorted order of rising numbers is theirs -/
theorem sort_uniq {ms ns : List Int} (hp : ms.Perm ns) (hs : ms.Pairwise (· ≤ ·)) (hr : ns.Pairwise (· < ·)) : ms = ns := by
  refine List.Perm.eq_of_pairwise (le := (· ≤ ·)) (fun a b _ _ h1 h2 => by omega) hs (hr.imp fun h => by omega) hp
theorem OpenOk.len {os : List Op} {n : Nat} {bs : List Nat} {f : List (Nat × Tab)} (h : OpenOk os n bs f) : f.length = bs.length := by
  rw [← h.bases, List.length_map]
theorem bases_len (os : List Op) (n : Nat) : (bases os n).length ≤ n := by
  have := List.length_filter_le (fun s => (known os s).isEmpty) (List.range n)
  rw [List.length_range] at this
  exact this
noncomputable def goalF (os : List Op) (n : Nat) : D → D
  | .tup [.int b, _] => .tup (dN (goals os n b.toNat))
  | _ => .non
def f_given_goals : SpDX := fun ds q x => ∃ (n : Nat) (offs : List (List Op)) (v : D), ds = [stoD n offs, v] ∧ SOk n offs ∧ v.kind ∧
  if v.blw offs.length = true then (if symB (othOps offs v.nat) n = true then q (.tup (goalsD (othOps offs v.nat) n)) else x 1 "oneway") else x 0 "office"
theorem len_given_goals : ∀ ds q x, f_given_goals ds q x → ds.length = P_given_goals.length := by
  rintro ds q x ⟨n, offs, v, rfl, _⟩; rfl
theorem q_given_goals {w : World} {K : PySem.W.Frag} {mg : Str → Option Value} {base : Heap} {Z : ZZ} (T : Top w K mg base Z) : ClP prg w K mg base 11 "given_goals" P_given_goals (spX Z.C Z.cls K f_given_goals) := by
  have c_openings := p_openings T
  have nd := sc_given_goals.nd
  refine clXP_of (k := 10) T.d_given_goals sc_given_goals (by intro kV doc pm an cdv ct us h; match us, h with | [a0, a1], _ => rfl) len_given_goals fun fa cdv A outer s H E hr => ⟨_, (ss_one (sj_ret (ej_t1 call_tuple_of cw_tuple (by rfl) T.m_tuple (by decide +kernel) ((ej_lc (own := [("base", 2), ("tables", 3)]) rfl nd (ij_list (ej_x (takes_of rfl rfl rfl rfl) (xj_call c_openings hr (by decide) (by rfl) (aj_cons (n_ 0) (aj_cons (n_ 1) aj_nil))))) (blkOk_by (own := [("base", 2), ("tables", 3)]) (N := N_given_goals) (sc := defScope st_given_goals) (by decide +kernel)) (by decide) (fun _ _ _ _ _ => (gj_tup (n := 2) rfl (gjs_cons (g_ 2 nd) (gjs_cons (g_ 3 nd) gjs_nil)))) (fun _ _ _ _ _ => ts_nil) (fun _ _ _ _ _ => (ej_t1 call_tuple_of cw_tuple (by rfl) T.m_tuple (by decide +kernel) ((ej_b1 (call_sortedDI rfl) cw_sortK (by rfl) T.m_sorted (by decide +kernel) (r_ 3))).dt.rd)))).dt.rd))), fun ds q x hf => ?_⟩
  obtain ⟨n, offs, v, rfl, ok, hk, hq⟩ := hf
  simp [-Bool.exists_bool, and_assoc, ex_not]
  refine ⟨n, offs, v, rfl, ok, hk, ?_⟩
  cases e : v.blw offs.length with
  | false => rw [e] at hq; exact hq
  | true =>
    rw [e] at hq
    simp only [if_true] at hq ⊢
    cases es : symB (othOps offs v.nat) n with
    | false => rw [es] at hq; exact hq
    | true =>
      rw [es] at hq
      simp only [if_true] at hq ⊢
      obtain ⟨os, hos⟩ : ∃ os, os = othOps offs v.nat := ⟨_, rfl⟩
      rw [← hos] at hq ⊢
      intro f hf
      have n9 := ok.n9
      have hfl := hf.len
      have hbl := bases_len os n
      refine ⟨_, rfl, ?_⟩
      refine lcGo_map (goalF os n) (by simp [foundD]; omega) ?_ ?_
      · intro d hd acc q2 hacc hq2
        obtain ⟨p, hp, rfl⟩ := List.mem_map.mp hd
        obtain ⟨h1, h2⟩ := hf.tab p hp
        simp [-Bool.exists_bool, and_assoc, ex_not]
        refine ⟨(goals os n p.1).map fun g : Nat => (g : Int), ?_, ?_, ?_⟩
        · rw [← h1]; unfold tabD; simp [List.map_map]
        · rw [List.length_map]
          have := goals_len os n p.1
          omega
        · intro ms hm1 hm2
          have e : ms = (goals os n p.1).map fun g : Nat => (g : Int) := sort_uniq hm1 hm2 (goals_rise os n p.1)
          subst e
          rw [← dN_int]
          exact ⟨hacc, hq2⟩
      · rw [List.nil_append]
        have e : (foundD f).map (goalF os n) = goalsD os n := by
          unfold foundD goalsD
          rw [← hf.bases, List.map_map, List.map_map]; rfl
        rw [e]; exact hq
theorem p_given_goals {w : World} {K : PySem.W.Frag} {mg : Str → Option Value} {base : Heap} {Z : ZZ} (T : Top w K mg base Z) : Cl prg w K mg base 11 "given_goals" (spX Z.C Z.cls K f_given_goals) := (q_given_goals T).cl
/-- how many -/
noncomputable def countG (os : List Op) (n : Nat) : Nat := ((bases os n).map fun b => (goals os n b).length).foldl (· * ·) 1
def f_count_given : SpDX := fun ds q x => ∃ (n : Nat) (offs : List (List Op)) (v : D), ds = [stoD n offs, v] ∧ SOk n offs ∧ v.kind ∧
  if v.blw offs.length = true then (if symB (othOps offs v.nat) n = true then q (.int (countG (othOps offs v.nat) n : Nat)) else x 1 "oneway") else x 0 "office"
theorem len_count_given : ∀ ds q x, f_count_given ds q x → ds.length = P_count_given.length := by
  rintro ds q x ⟨n, offs, v, rfl, _⟩; rfl
theorem q_count_given {w : World} {K : PySem.W.Frag} {mg : Str → Option Value} {base : Heap} {Z : ZZ} (T : Top w K mg base Z) : ClP prg w K mg base 12 "count_given" P_count_given (spX Z.C Z.cls K f_count_given) := by
  have c_given_goals := p_given_goals T
  have nd := sc_count_given.nd
  refine clXP_of (k := 11) T.d_count_given sc_count_given (by intro kV doc pm an cdv ct us h; match us, h with | [a0, a1], _ => rfl) len_count_given fun fa cdv A outer s H E hr => ⟨_, (ss_cons (sj_set (as_of (i := 2) nd rfl (by first | exact .inl rfl | exact .inr rfl) ej_int))
  (ss_cons (sj_for (passes_of rfl) rfl (ij_tup (ej_x (takes_of rfl rfl rfl rfl) (xj_call c_given_goals hr (by decide) (by rfl) (aj_cons (n_ 0) (aj_cons (n_ 1) aj_nil))))) (g_ 3 nd) (ss_one (sj_aug (i := 2) nd rfl (by first | exact .inl rfl | exact .inr rfl) ((ej_b1 call_len_seq cw_len (by rfl) T.m_len PySem.boot_len (r_ 3))).rd ip_mulC)))
  (ss_one (sj_ret (n_ 2))))), fun ds q x hf => ?_⟩
  obtain ⟨n, offs, v, rfl, ok, hk, hq⟩ := hf
  simp [-Bool.exists_bool, and_assoc, ex_not]
  refine ⟨n, offs, v, rfl, ok, hk, ?_⟩
  cases e : v.blw offs.length with
  | false => rw [e] at hq; exact hq
  | true =>
    rw [e] at hq
    simp only [if_true] at hq ⊢
    cases es : symB (othOps offs v.nat) n with
    | false => rw [es] at hq; exact hq
    | true =>
      rw [es] at hq
      simp only [if_true] at hq ⊢
      obtain ⟨os, hos⟩ : ∃ os, os = othOps offs v.nat := ⟨_, rfl⟩
      rw [← hos] at hq ⊢
      refine ⟨_, rfl, ?_⟩
      obtain ⟨ls, hls⟩ : ∃ ls, ls = (bases os n).map fun b => (goals os n b).length := ⟨_, rfl⟩
      have hq : q (.int (ls.foldl (· * ·) 1 : Nat)) := by rw [hls]; exact hq
      refine forGo_inv (fun i ds => ∃ c3 : SC, ds = { s := [.d (stoD n offs), .d v, .d (.int ((ls.take i).foldl (· * ·) 1 : Nat)), c3], x := x }) _ _ 0 ⟨_, rfl⟩ ?_ ?_
      · rintro i d _ N hd ⟨c3, rfl⟩ hN
        rw [Nat.zero_add] at hN ⊢
        unfold goalsD at hd
        rw [List.getElem?_map] at hd
        obtain ⟨b, hb, rfl⟩ := Option.map_eq_some_iff.mp hd
        simp [-Bool.exists_bool, and_assoc, ex_not]
        have n9 := ok.n9
        have hg := goals_len os n b
        refine ⟨.inr ⟨by omega, by omega⟩, hN _ ⟨.d (.tup (dN (goals os n b))), ?_⟩⟩
        have e : ls[i]? = some (goals os n b).length := by rw [hls, List.getElem?_map, hb]; rfl
        rw [List.take_add_one, e]
        simp [List.foldl_append]
      · rintro _ ⟨c3, rfl⟩
        have hl : (ls.take (0 + (goalsD os n).length)) = ls := by
          rw [Nat.zero_add, List.take_of_length_le]
          rw [hls, List.length_map]
          unfold goalsD
          rw [List.length_map]
          exact Nat.le_refl _
        rw [hl]
        exact ⟨rfl, _, rfl, hq⟩
theorem p_count_given {w : World} {K : PySem.W.Frag} {mg : Str → Option Value} {base : Heap} {Z : ZZ} (T : Top w K mg base Z) : Cl prg w K mg base 12 "count_given" (spX Z.C Z.cls K f_count_given) := (q_count_given T).cl
end G78
namespace G78
open PySem PySem.Spec PyProof.Rows L2
/-- the goals that a number chooses, the last base first -/
noncomputable def chs (os : List Op) (n : Nat) : List Nat → Nat → List (Nat × Nat)
  | [], _ => []
  | b :: r, k => (b, (goals os n b).getD (k % (goals os n b).length) 0) :: chs os n r (k / (goals os n b).length)
/-- the number of what goes where -/
noncomputable def numR (os : List Op) (n : Nat) (f : Nat → Nat) : List Nat → Nat
  | [] => 0
  | b :: r => numR os n f r * (goals os n b).length + (goals os n b).idxOf (f b)
noncomputable def prodR (os : List Op) (n : Nat) : List Nat → Nat
  | [] => 1
  | b :: r => prodR os n r * (goals os n b).length
/-- exchanges with all, told equal -/
def Fit (os : List Op) (n : Nat) (f : Nat → Nat) : Prop := ∀ s, s < n → f s < n ∧ ∀ o ∈ os, f (o.e s) = o.e (f s) ∧ o.t s = o.t (f s)
def at0 (l : List Nat) (s : Nat) : Nat := l.getD s 0
theorem at0_get {l : List Nat} {s : Nat} (h : s < l.length) : l[s]? = some (at0 l s) := by
  unfold at0
  rw [List.getD_eq_getElem?_getD, List.getElem?_eq_getElem h]; rfl
theorem at0_of {l : List Nat} {s y : Nat} (h : l[s]? = some y) : at0 l s = y := by
  unfold at0
  rw [List.getD_eq_getElem?_getD, h]; rfl
theorem at0_ext {l l' : List Nat} (hl : l.length = l'.length) (h : ∀ s, s < l.length → at0 l s = at0 l' s) : l = l' := by
  refine List.ext_getElem? fun s => ?_
  by_cases hs : s < l.length
  · rw [at0_get hs, at0_get (hl ▸ hs), h s hs]
  · rw [List.getElem?_eq_none (by omega), List.getElem?_eq_none (by omega)]
theorem Fit.pr {os : List Op} {n : Nat} {f : Nat → Nat} (ok : ∀ o ∈ os, o.Ok n) (h : Fit os n f) {b x y : Nat} (hb : b < n) (p : PR os b (f b) x y) : y = f x := by
  induction p with
  | base => rfl
  | step p ho ih =>
    have hx := (p.lt ok hb (h b hb).1).1
    rw [((h _ hx).2 _ ho).1, ih]
theorem Fit.good {os : List Op} {n : Nat} {f : Nat → Nat} (ok : ∀ o ∈ os, o.Ok n) (h : Fit os n f) {b : Nat} (hb : b < n) : Good os b (f b) := by
  refine ⟨fun x y y' p p' => by rw [h.pr ok hb p, h.pr ok hb p'], fun x y p o ho => ?_⟩
  have hx := (p.lt ok hb (h b hb).1).1
  rw [h.pr ok hb p]
  exact ((h x hx).2 o ho).2
theorem mem_goals {os : List Op} {n b g : Nat} : g ∈ goals os n b ↔ g < n ∧ Good os b g := by
  unfold goals; rw [List.mem_filter, List.mem_range, goodB_iff]
theorem goals_nd (os : List Op) (n b : Nat) : (goals os n b).Nodup := List.nodup_range.filter _
theorem fit_id (os : List Op) (n : Nat) : Fit os n fun s => s := fun s hs => ⟨hs, fun o _ => ⟨rfl, rfl⟩⟩
theorem goals_self {os : List Op} {n b : Nat} (ok : ∀ o ∈ os, o.Ok n) (hb : b < n) : b ∈ goals os n b := mem_goals.mpr ⟨hb, (fit_id os n).good ok hb⟩
theorem goals_pos {os : List Op} {n b : Nat} (ok : ∀ o ∈ os, o.Ok n) (hb : b < n) : 0 < (goals os n b).length := List.length_pos_of_mem (goals_self ok hb)
theorem chs_numR {os : List Op} {n : Nat} {f : Nat → Nat} : ∀ {r : List Nat}, (∀ b ∈ r, f b ∈ goals os n b) → chs os n r (numR os n f r) = r.map fun b => (b, f b)
  | [], _ => rfl
  | b :: r, h => by
    have hb := h b List.mem_cons_self
    have hi := List.idxOf_lt_length_of_mem hb
    have hp : 0 < (goals os n b).length := by omega
    rw [chs, numR, Nat.add_comm, Nat.add_mul_mod_self_right, Nat.mod_eq_of_lt hi, Nat.add_mul_div_right _ _ hp, Nat.div_eq_of_lt hi, Nat.zero_add, chs_numR fun b hb => h b (List.mem_cons_of_mem _ hb), List.map_cons]
    congr 2
    rw [List.getD_eq_getElem?_getD, List.getElem?_eq_getElem hi, List.getElem_idxOf]; rfl
theorem chs_fst (os : List Op) (n : Nat) : ∀ (r : List Nat) (k : Nat), (chs os n r k).map (·.1) = r
  | [], _ => rfl
  | b :: r, k => by rw [chs, List.map_cons, chs_fst os n r]
theorem chs_good {os : List Op} {n : Nat} : ∀ {r : List Nat} {k : Nat}, (∀ b ∈ r, 0 < (goals os n b).length) → ∀ p ∈ chs os n r k, p.2 ∈ goals os n p.1
  | [], _, _, p, hp => absurd hp List.not_mem_nil
  | b :: r, k, h, p, hp => by
    rw [chs] at hp
    rcases List.mem_cons.mp hp with rfl | hp
    · have := Nat.mod_lt k (h b List.mem_cons_self)
      show List.getD _ _ _ ∈ _
      rw [List.getD_eq_getElem?_getD, List.getElem?_eq_getElem this]
      exact List.getElem_mem this
    · exact chs_good (fun b hb => h b (List.mem_cons_of_mem _ hb)) p hp
theorem numR_chs {os : List Op} {n : Nat} {f : Nat → Nat} : ∀ {r : List Nat} {k : Nat}, (∀ b ∈ r, 0 < (goals os n b).length) → (∀ p ∈ chs os n r k, f p.1 = p.2) → k < prodR os n r → numR os n f r = k
  | [], k, _, _, hk => by have hk : k < 1 := hk; have : k = 0 := by omega
                          rw [this]; rfl
  | b :: r, k, hp, h, hk => by
    have h0 := hp b List.mem_cons_self
    have hm := Nat.mod_lt k h0
    rw [prodR] at hk
    have hr : k / (goals os n b).length < prodR os n r := Nat.div_lt_of_lt_mul (by rw [Nat.mul_comm]; exact hk)
    have e1 := h _ (by rw [chs]; exact List.mem_cons_self)
    simp only at e1
    rw [numR, numR_chs (fun b hb => hp b (List.mem_cons_of_mem _ hb)) (fun p hp => h p (by rw [chs]; exact List.mem_cons_of_mem _ hp)) hr, e1, List.getD_eq_getElem?_getD, List.getElem?_eq_getElem hm, Option.getD_some, (goals_nd os n b).idxOf_getElem]
    rw [Nat.mul_comm]; exact Nat.div_add_mod k _
theorem numR_lt {os : List Op} {n : Nat} {f : Nat → Nat} : ∀ {r : List Nat}, (∀ b ∈ r, f b ∈ goals os n b) → numR os n f r < prodR os n r
  | [], _ => Nat.zero_lt_one
  | b :: r, h => by
    have hi := List.idxOf_lt_length_of_mem (h b List.mem_cons_self)
    have h2 := numR_lt fun b hb => h b (List.mem_cons_of_mem _ hb)
    rw [numR, prodR]
    calc _ < numR os n f r * (goals os n b).length + (goals os n b).length := by omega
      _ = (numR os n f r + 1) * (goals os n b).length := by rw [Nat.add_mul, Nat.one_mul]
      _ ≤ _ := Nat.mul_le_mul_right _ h2
theorem prodR_rev (os : List Op) (n : Nat) (l : List Nat) : prodR os n l.reverse = (l.map fun b => (goals os n b).length).foldl (· * ·) 1 := by
  have e : ∀ r, prodR os n r = (r.map fun b => (goals os n b).length).foldr (fun l a => a * l) 1 := fun r => by
    induction r with
    | nil => rfl
    | cons b r ih => rw [prodR, ih]; rfl
  rw [e]
  rw [show List.map (fun b => (goals os n b).length) l.reverse = (List.map (fun b => (goals os n b).length) l).reverse by rw [List.map_reverse], List.foldr_reverse]
theorem countG_prodR (os : List Op) (n : Nat) : prodR os n (bases os n).reverse = countG os n := prodR_rev os n _
/-- each state has a base -/
theorem base_of {os : List Op} {n : Nat} : ∀ s, s < n → ∃ b ∈ bases os n, Reach os b s ∧ Reach os s b := by
  intro s
  induction s using Nat.strongRecOn with
  | ind s ih =>
    intro hs
    cases e : known os s with
    | nil => exact ⟨s, mem_bases.mpr ⟨hs, e⟩, .refl _, .refl _⟩
    | cons k r =>
      have hk : k ∈ known os s := e ▸ List.mem_cons_self
      have hk1 := known_lt hk
      unfold known at hk
      have hk2 := (List.mem_filter.mp hk).2
      unfold mutB at hk2
      rw [Bool.and_eq_true, reachB_iff, reachB_iff] at hk2
      obtain ⟨b, h1, h2, h3⟩ := ih k hk1 (by omega)
      exact ⟨b, h1, h2.trans hk2.1, hk2.2.trans h3⟩
theorem base_uniq {os : List Op} {n : Nat} (ok : ∀ o ∈ os, o.Ok n) (sy : Sym os n) {b c s : Nat} (hb : b ∈ bases os n) (hc : c ∈ bases os n) (h1 : Reach os b s) (h2 : Reach os c s) : b = c := by
  have key : ∀ {b c : Nat}, b ∈ bases os n → c ∈ bases os n → Reach os b s → Reach os c s → ¬ b < c := fun {b c} hb hc h1 h2 hlt => by
    obtain ⟨hbn, _⟩ := mem_bases.mp hb
    obtain ⟨hcn, hk⟩ := mem_bases.mp hc
    have : b ∈ known os c := by
      unfold known
      rw [List.mem_filter, List.mem_range]
      refine ⟨hlt, ?_⟩
      unfold mutB
      rw [Bool.and_eq_true, reachB_iff, reachB_iff]
      exact ⟨h1.trans (sy c hcn s h2), h2.trans (sy b hbn s h1)⟩
    rw [hk] at this
    cases this
  have := key hb hc h1 h2
  have := key hc hb h2 h1
  omega
/-- ends with a number -/
structure EndsAt (os : List Op) (n k : Nat) (ends : List Nat) : Prop where
  len : ends.length = n
  fit : Fit os n (at0 ends)
  num : numR os n (at0 ends) (bases os n).reverse = k
theorem bases_lt {os : List Op} {n b : Nat} (h : b ∈ bases os n) : b < n := (mem_bases.mp h).1
theorem fit_of {os : List Op} {n : Nat} (ok : ∀ o ∈ os, o.Ok n) {f : Nat → Nat} (hg : ∀ b ∈ bases os n, f b < n ∧ Good os b (f b) ∧ ∀ s y, PR os b (f b) s y → f s = y) : Fit os n f := by
  intro s hs
  obtain ⟨b, hb, h1, _⟩ := base_of (os := os) s hs
  obtain ⟨g1, g2, g3⟩ := hg b hb
  obtain ⟨y, hy⟩ := PR.of_reach (g := f b) h1
  have e := g3 s y hy
  rw [e]
  refine ⟨(hy.lt ok (bases_lt hb) g1).2, fun o ho => ⟨?_, g2.2 s y hy o ho⟩⟩
  exact g3 _ _ (hy.step ho)
theorem endsAt_of {os : List Op} {n k : Nat} (ok : ∀ o ∈ os, o.Ok n) (hk : k < countG os n) {ends : List Nat} (hl : ends.length = n) (h : ∀ p ∈ chs os n (bases os n).reverse k, ∀ s y, PR os p.1 p.2 s y → ends[s]? = some y) : EndsAt os n k ends := by
  have hp : ∀ b ∈ (bases os n).reverse, 0 < (goals os n b).length := fun b hb => goals_pos ok (bases_lt (List.mem_reverse.mp hb))
  have hc : ∀ p ∈ chs os n (bases os n).reverse k, at0 ends p.1 = p.2 := fun p hp => at0_of (h p hp _ _ .base)
  refine ⟨hl, fit_of ok fun b hb => ?_, numR_chs hp hc (by rw [countG_prodR]; exact hk)⟩
  have hb' : b ∈ (chs os n (bases os n).reverse k).map (·.1) := by rw [chs_fst]; exact List.mem_reverse.mpr hb
  obtain ⟨p, hp1, rfl⟩ := List.mem_map.mp hb'
  have hg := chs_good hp p hp1
  obtain ⟨g1, g2⟩ := mem_goals.mp hg
  rw [hc p hp1]
  exact ⟨g1, g2, fun s y hpr => at0_of (h p hp1 s y hpr)⟩
theorem Fit.goals {os : List Op} {n : Nat} {f : Nat → Nat} (ok : ∀ o ∈ os, o.Ok n) (h : Fit os n f) : ∀ b ∈ (bases os n).reverse, f b ∈ goals os n b := fun b hb => by
  have hb := bases_lt (List.mem_reverse.mp hb)
  exact mem_goals.mpr ⟨(h b hb).1, h.good ok hb⟩
theorem fit_num_lt {os : List Op} {n : Nat} {f : Nat → Nat} (ok : ∀ o ∈ os, o.Ok n) (h : Fit os n f) : numR os n f (bases os n).reverse < countG os n := by
  rw [← countG_prodR]; exact numR_lt (h.goals ok)
theorem fit_chs {os : List Op} {n : Nat} {f : Nat → Nat} (ok : ∀ o ∈ os, o.Ok n) (h : Fit os n f) : chs os n (bases os n).reverse (numR os n f (bases os n).reverse) = (bases os n).reverse.map fun b => (b, f b) := chs_numR (h.goals ok)
theorem fit_uniq {os : List Op} {n : Nat} {f g : Nat → Nat} (ok : ∀ o ∈ os, o.Ok n) (hf : Fit os n f) (hg : Fit os n g) (h : ∀ b ∈ bases os n, f b = g b) : ∀ s, s < n → f s = g s := by
  intro s hs
  obtain ⟨b, hb, h1, _⟩ := base_of (os := os) s hs
  obtain ⟨y, hy⟩ := PR.of_reach (g := f b) h1
  rw [← hf.pr ok (bases_lt hb) hy]
  rw [h b hb] at hy
  rw [← hg.pr ok (bases_lt hb) hy]
theorem num_inj {os : List Op} {n : Nat} {f g : Nat → Nat} (ok : ∀ o ∈ os, o.Ok n) (hf : Fit os n f) (hg : Fit os n g) (h : numR os n f (bases os n).reverse = numR os n g (bases os n).reverse) : ∀ s, s < n → f s = g s := by
  refine fit_uniq ok hf hg fun b hb => ?_
  have e1 := fit_chs ok hf
  have e2 := fit_chs ok hg
  rw [h, e2] at e1
  have := List.map_inj_left.mp e1 b (List.mem_reverse.mpr hb)
  exact (Prod.mk.inj this).2.symm
theorem EndsAt.uniq {os : List Op} {n k : Nat} {a b : List Nat} (ok : ∀ o ∈ os, o.Ok n) (ha : EndsAt os n k a) (hb : EndsAt os n k b) : a = b :=
  at0_ext (ha.len.trans hb.len.symm) fun s hs => num_inj ok ha.fit hb.fit (ha.num.trans hb.num.symm) s (ha.len ▸ hs)
end G78
namespace G78
open PySem PySem.Spec PyProof.Rows L2
theorem tabD_keys (t : Tab) : (tabD t).map (·.1) = (t.map (·.1)).map fun g : Nat => (Sum.inl (g : Int) : Key) := by
  unfold tabD; rw [List.map_map, List.map_map]; rfl
theorem dgt_tabD (t : Tab) (x : Nat) : dgt (tabD t) (Sum.inl (x : Int)) = (t.lookup x).map fun im => D.dic (imD im) := dgt_map t (fun im => D.dic (imD im)) x
theorem nd_take {l : List Nat} (nd : l.Nodup) {i b : Nat} (h : l[i]? = some b) : b ∉ l.take i := by
  intro hm
  obtain ⟨j, hj⟩ := List.getElem?_of_mem hm
  obtain ⟨a1, a2⟩ := List.getElem?_eq_some_iff.mp hj
  rw [List.length_take] at a1
  rw [List.getElem_take] at a2
  obtain ⟨b1, b2⟩ := List.getElem?_eq_some_iff.mp h
  have := nd_inj nd (by omega) b1 (a2.trans b2.symm)
  omega
/-- what is left of a number after some bases -/
noncomputable def kleft (os : List Op) (n : Nat) : List Nat → Nat → Nat → Nat
  | _, k, 0 => k
  | [], k, _ + 1 => k
  | b :: r, k, i + 1 => kleft os n r (k / (goals os n b).length) i
theorem kleft_zero (os : List Op) (n : Nat) (r : List Nat) (k : Nat) : kleft os n r k 0 = k := by cases r <;> rfl
theorem kleft_succ {os : List Op} {n b : Nat} : ∀ {r : List Nat} {k i : Nat}, r[i]? = some b → kleft os n r k (i + 1) = kleft os n r k i / (goals os n b).length
  | c :: r, k, 0, h => by
    have h : c = b := Option.some.inj h
    subst h
    show kleft os n r _ 0 = _
    cases r <;> rfl
  | c :: r, k, i + 1, h => kleft_succ (r := r) (i := i) h
theorem chs_at {os : List Op} {n b : Nat} : ∀ {r : List Nat} {k i : Nat}, r[i]? = some b → (chs os n r k)[i]? = some (b, (goals os n b).getD (kleft os n r k i % (goals os n b).length) 0)
  | c :: r, k, 0, h => by
    have h : c = b := Option.some.inj h
    subst h
    rfl
  | c :: r, k, i + 1, h => chs_at (r := r) (i := i) h
def stGe (n : Nat) (offs : List (List Op)) (v : D) (x : Nat → Str → Prop) (k : Nat) (E : List Nat) (c4 c5 c6 c7 c8 c9 : SC) : DS :=
  { s := [.d (stoD n offs), .d v, .d (.int k), .l (dN E), c4, c5, c6, c7, c8, c9], x := x }
def PvGe (n : Nat) (offs : List (List Op)) (v : D) (os : List Op) (kk : Nat) (x : Nat → Str → Prop) (i : Nat) (ds : DS) : Prop :=
  ∃ (E : List Nat) (c4 c5 c6 c7 c8 c9 : SC), ds = stGe n offs v x (kleft os n (bases os n).reverse kk i) E c4 c5 c6 c7 c8 c9 ∧ E.length = n ∧ ∀ p ∈ (chs os n (bases os n).reverse kk).take i, ∀ s y, PR os p.1 p.2 s y → E[s]? = some y
def f_given_ends : SpDX := fun ds q x => ∃ (n : Nat) (offs : List (List Op)) (v u : D), ds = [stoD n offs, v, u] ∧ SOk n offs ∧ v.kind ∧ u.kind ∧
  if v.blw offs.length = true then (if symB (othOps offs v.nat) n = true then
    (if u.blw (countG (othOps offs v.nat) n) = true then ∀ ends, EndsAt (othOps offs v.nat) n u.nat ends → q (.tup (dN ends)) else x 0 "number") else x 1 "oneway") else x 0 "office"
theorem len_given_ends : ∀ ds q x, f_given_ends ds q x → ds.length = P_given_ends.length := by
  rintro ds q x ⟨n, offs, v, u, rfl, _⟩; rfl
theorem q_given_ends {w : World} {K : PySem.W.Frag} {mg : Str → Option Value} {base : Heap} {Z : ZZ} (T : Top w K mg base Z) : ClP prg w K mg base 13 "given_ends" P_given_ends (spX Z.C Z.cls K f_given_ends) := by
  have c_is_below := p_is_below T
  have c_openings := p_openings T
  have c_count_given := p_count_given T
  have nd := sc_given_ends.nd
  refine clXP_of (k := 12) T.d_given_ends sc_given_ends (by intro kV doc pm an cdv ct us h; match us, h with | [a0, a1, a2], _ => rfl) len_given_ends fun fa cdv A outer s H E hr => ⟨_, (ss_cons (sj_if (tj_not (tj_val ((ej_call c_is_below hr (by decide) (by rfl) (aj_cons (n_ 2) (aj_cons (ej_x (takes_of rfl rfl rfl rfl) (xj_call c_count_given hr (by decide) (by rfl) (aj_cons (n_ 0) (aj_cons (n_ 1) aj_nil)))) aj_nil)))).rd)) (ss_one (sj_raise (n := 0) rfl T.xN hr (takes_of rfl rfl rfl rfl) ej_str)) ss_nil)
  (ss_cons (sj_own (as_of (i := 3) nd rfl (by first | exact .inl rfl | exact .inr rfl) (ej_op op_rep ow_rep ((ej_lst (aj_cons ej_int aj_nil))).dt.rd ((ej_size T.sto (r_ 0))).rd)))
  (ss_cons (sj_for (passes_of rfl) rfl (ij_list ((ej_rev ((ej_x (takes_of rfl rfl rfl rfl) (xj_call c_openings hr (by decide) (by rfl) (aj_cons (n_ 0) (aj_cons (n_ 1) aj_nil))))).rd)).dt) (gj_tup (n := 2) rfl (gjs_cons (g_ 4 nd) (gjs_cons (g_ 5 nd) gjs_nil))) (ss_cons (sj_set (as_of (i := 6) nd rfl (by first | exact .inl rfl | exact .inr rfl) ((ej_b1 (call_sortedDI rfl) cw_sortK (by rfl) T.m_sorted (by decide +kernel) (r_ 5))).dt))
  (ss_cons (sj_asg (ej_divmod (by rfl) T.m_divmod (r_ 2) ((ej_b1 call_len_seq cw_len (by rfl) T.m_len PySem.boot_len (r_ 6))).rd) (gj_tup (n := 2) rfl (gjs_cons (g_ 2 nd) (gjs_cons (g_ 7 nd) gjs_nil))))
  (ss_one (sj_forL (passes_of rfl) rfl (lj_items (pj_dget hr (p_ 5) (pj_ix (p_ 6) (p_ 7)))) (gj_tup (n := 2) rfl (gjs_cons (g_ 8 nd) (gjs_cons (g_ 9 nd) gjs_nil))) (ss_one (sj_put (i := 3) rfl (by first | exact .inl rfl | exact .inr (.inl rfl) | exact .inr (.inr rfl)) (n_ 9) (r_ 8))))))))
  (ss_one (sj_ret (ej_t1 call_tuple_of cw_tuple (by rfl) T.m_tuple (by decide +kernel) (r_ 3))))))), fun ds q x hf => ?_⟩
  obtain ⟨n, offs, v, u, rfl, ok, hk, hu, hq⟩ := hf
  simp [-Bool.exists_bool, and_assoc, ex_not]
  refine ⟨n, offs, v, rfl, ok, hk, ?_⟩
  cases e : v.blw offs.length with
  | false => rw [e] at hq; exact hq
  | true =>
    rw [e] at hq
    simp only [if_true] at hq ⊢
    cases es : symB (othOps offs v.nat) n with
    | false => rw [es] at hq; exact hq
    | true =>
      rw [es] at hq
      simp only [if_true] at hq ⊢
      obtain ⟨os, hos⟩ : ∃ os, os = othOps offs v.nat := ⟨_, rfl⟩
      rw [← hos] at hq es ⊢
      refine ⟨u, _, rfl, hu, ?_⟩
      cases eu : u.blw (countG os n) with
      | false => rw [eu] at hq; exact ⟨_, rfl, hq⟩
      | true =>
        rw [eu] at hq
        simp only [if_true] at hq
        obtain ⟨kk, rfl, hkk⟩ := blw_nat eu
        have n9 := ok.n9
        have hok : ∀ o ∈ os, o.Ok n := hos ▸ flatOps_ok ok.ok _
        refine ⟨_, rfl, ?_⟩
        rw [if_pos rfl]
        refine ⟨len_ok (by omega), n, ⟨_, rfl⟩, n, rfl, by omega, n, offs, v, rfl, ok, hk, ?_⟩
        rw [e, if_pos rfl, ← hos, es, if_pos rfl]
        intro f hf
        refine ⟨_, rfl, ?_⟩
        have hsy : Sym os n := symB_iff.mp es
        have efr : (foundD f).reverse = foundD f.reverse := by unfold foundD; rw [List.map_reverse]
        have hfb : f.reverse.map (·.1) = (bases os n).reverse := by rw [← hf.bases, List.map_reverse]
        rw [efr]
        have e0 : List.replicate n (D.int 0) = dN (List.replicate n 0) := by unfold dN; rw [List.map_replicate]; rfl
        rw [e0]
        refine forGo_inv (PvGe n offs v os kk x) _ _ 0 ⟨List.replicate n 0, .no, .no, .no, .no, .no, .no, by rw [kleft_zero]; rfl, by simp, by simp⟩ ?_ ?_
        · rintro i d _ N hd ⟨E, c4, c5, c6, c7, c8, c9, rfl, hE, hpr⟩ hN
          rw [Nat.zero_add] at hN ⊢
          rw [Nat.zero_add] at hpr
          unfold foundD at hd
          rw [List.getElem?_map] at hd
          obtain ⟨⟨b, t⟩, hbt, rfl⟩ := Option.map_eq_some_iff.mp hd
          have hb : (bases os n).reverse[i]? = some b := by rw [← hfb, List.getElem?_map, hbt]; rfl
          obtain ⟨tk, ti⟩ := hf.tab _ (List.mem_reverse.mp (List.mem_of_getElem? hbt))
          simp only at tk ti
          have hbm := List.mem_reverse.mp (List.mem_of_getElem? hb)
          have hbn := bases_lt hbm
          have gp := goals_pos hok hbn
          have gl := goals_len os n b
          simp [-Bool.exists_bool, and_assoc, ex_not, stGe]
          refine ⟨(goals os n b).map fun g : Nat => (g : Int), ?_, ?_, ?_⟩
          · rw [tabD_keys, tk, List.map_map]; rfl
          · rw [List.length_map]; omega
          intro ms hm1 hm2
          have e : ms = (goals os n b).map fun g : Nat => (g : Int) := sort_uniq hm1 hm2 (goals_rise os n b)
          subst e
          rw [List.length_map]
          obtain ⟨kl, hkl⟩ : ∃ kl, kl = kleft os n (bases os n).reverse kk i := ⟨_, rfl⟩
          have ks := kleft_succ (os := os) (n := n) (k := kk) hb
          have ca := chs_at (os := os) (n := n) (k := kk) hb
          rw [← hkl] at ks ca ⊢
          have hml := Nat.mod_lt kl gp
          have hgg : (goals os n b)[kl % (goals os n b).length]? = some ((goals os n b).getD (kl % (goals os n b).length) 0) := by
            rw [List.getD_eq_getElem?_getD, List.getElem?_eq_getElem hml]; rfl
          obtain ⟨g, hg⟩ : ∃ g, g = (goals os n b).getD (kl % (goals os n b).length) 0 := ⟨_, rfl⟩
          rw [← hg] at hgg ca
          have hgt : g ∈ t.map (·.1) := tk ▸ List.mem_of_getElem? hgg
          obtain ⟨im, hlk⟩ : ∃ im, t.lookup g = some im := by
            cases e : t.lookup g with
            | none => exact absurd hgt (lookup_none.mp e)
            | some v => exact ⟨v, rfl⟩
          have him := ti _ (lookup_mem hlk)
          simp only at him
          refine ⟨⟨by omega, by omega⟩, imD im, ⟨(g : Int), ?_, ?_⟩, ?_⟩
          · show atI _ ((kl % (goals os n b).length : Nat) : Int) = _
            rw [atI_nat', List.map_map, List.getElem?_map, hgg]; rfl
          · rw [dgt_tabD, hlk]; rfl
          have eit : (imD im).map (fun kv => D.tup [kd kv.1, kv.2]) = im.map fun p => .tup [.int (p.1 : Nat), .int (p.2 : Nat)] := by
            unfold imD; rw [List.map_map]; rfl
          rw [eit]
          have hbr : (bases os n).reverse.Nodup := List.pairwise_reverse.mpr ((List.nodup_range.filter _).imp Ne.symm)
          have hout : ∀ p ∈ (chs os n (bases os n).reverse kk).take i, ∀ z w y, PR os p.1 p.2 z w → PR os b g z y → False := fun p hp z w y h1 h2 => by
            have hp1 : p.1 ∈ (bases os n).reverse.take i := by
              rw [← chs_fst os n (bases os n).reverse kk, ← List.map_take]
              exact List.mem_map_of_mem hp
            have e := base_uniq hok hsy (List.mem_reverse.mp ((List.take_sublist i _).mem hp1)) hbm h1.reach.1 h2.reach.1
            exact nd_take hbr hb (e ▸ hp1)
          refine forGo_inv (fun j ds => ∃ (E2 : List Nat) (d8 d9 : SC), ds = { s := [.d (stoD n offs), .d v, .d (.int ((kl / (goals os n b).length : Nat) : Int)), .l (dN E2), .d (.int b), .d (.dic (tabD t)), .d (.lst (((goals os n b).map fun g : Nat => (g : Int)).map D.int)), .d (.int ((kl % (goals os n b).length : Nat) : Int)), d8, d9], nl := false, x := x } ∧ E2.length = n ∧
            (∀ p ∈ (chs os n (bases os n).reverse kk).take i, ∀ s y, PR os p.1 p.2 s y → E2[s]? = some y) ∧ ∀ p ∈ im.take j, E2[p.1]? = some p.2) _ _ 0 ⟨E, c8, c9, rfl, hE, hpr, by simp⟩ ?_ ?_
          · rintro j d _ N2 hd2 ⟨E2, d8, d9, rfl, hE2, hp2, hi2⟩ hN2
            rw [Nat.zero_add] at hN2 hi2
            rw [List.getElem?_map] at hd2
            obtain ⟨⟨z, y⟩, hzy, rfl⟩ := Option.map_eq_some_iff.mp hd2
            have hzm := List.mem_of_getElem? hzy
            have hpz := (him.mem z y).mp hzm
            have hzn := (hpz.lt hok hbn (mem_goals.mp (tk ▸ hgt)).1).1
            simp [-Bool.exists_bool, and_assoc, ex_not]
            refine ⟨z, by unfold ixN; rw [if_pos (by omega), if_pos (by omega)]; simp, hN2 _ ⟨E2.set z y, .d (.int z), .d (.int y), ?_, by simpa using hE2, fun p hp a c hac => ?_, fun p hp => ?_⟩⟩
            · simp [dN, List.map_set]
            · rw [List.getElem?_set_ne (fun e => hout p hp a c y hac (by rw [← e]; exact hpz))]
              exact hp2 p hp a c hac
            · rw [List.take_add_one, hzy] at hp
              by_cases e : z = p.1
              · have : p = (z, y) := by
                  rcases List.mem_append.mp hp with h | h
                  · have h1 := lookup_nd him.nd (show (p.1, p.2) ∈ im from (List.take_sublist j im).mem h)
                    have h2 := lookup_nd him.nd hzm
                    rw [← e, h2] at h1
                    have h3 := Option.some.inj h1
                    exact Prod.ext e.symm h3.symm
                  · simpa using h
                subst this
                simp [hE2, hzn]
              · rw [List.getElem?_set_ne e]
                rcases List.mem_append.mp hp with h | h
                · exact hi2 p h
                · have h : p = (z, y) := by simpa using h
                  subst h
                  exact absurd rfl e
          · rintro _ ⟨E2, d8, d9, rfl, hE2, hp2, hi2⟩
            refine hN _ ⟨E2, .d (.int b), .d (.dic (tabD t)), .d (.lst (((goals os n b).map fun g : Nat => (g : Int)).map D.int)), .d (.int ((kl % (goals os n b).length : Nat) : Int)), d8, d9, ?_, hE2, fun p hp a c hac => ?_⟩
            · rw [ks]; rfl
            · rw [List.take_add_one, ca] at hp
              rcases List.mem_append.mp hp with h | h
              · exact hp2 p h a c hac
              · have h : p = (b, g) := by simpa using h
                subst h
                refine hi2 (a, c) ?_
                rw [Nat.zero_add, List.length_map, List.take_length]
                exact (him.mem a c).mpr hac
        · rintro _ ⟨E, c4, c5, c6, c7, c8, c9, rfl, hE, hpr⟩
          simp [stGe]
          refine hq E (endsAt_of hok hkk hE fun p hp => hpr p ?_)
          have hl : (foundD f.reverse).length = (chs os n (bases os n).reverse kk).length := by
            have h1 := congrArg List.length (chs_fst os n (bases os n).reverse kk)
            rw [List.length_map] at h1
            have h2 := congrArg List.length hfb
            rw [List.length_map] at h2
            unfold foundD
            rw [List.length_map, h2, h1]
          rw [Nat.zero_add, hl, List.take_length]
          exact hp
theorem p_given_ends {w : World} {K : PySem.W.Frag} {mg : Str → Option Value} {base : Heap} {Z : ZZ} (T : Top w K mg base Z) : Cl prg w K mg base 13 "given_ends" (spX Z.C Z.cls K f_given_ends) := (q_given_ends T).cl
def nuF (l : List Nat) : D → D
  | .tup [.int s, .int y] => .bl (!decide (at0 l s.toNat = y.toNat))
  | _ => .non
def stNu (n : Nat) (offs : List (List Op)) (v : D) (l : List Nat) (f : List (Nat × Tab)) (x : Nat → Str → Prop) (k : Nat) (c5 c6 c7 c8 c9 : SC) : DS :=
  { s := [.d (stoD n offs), .d v, .d (.tup (dN l)), .d (.lst (foundD f)), .d (.int k), c5, c6, c7, c8, c9], x := x }
def PvNu (n : Nat) (offs : List (List Op)) (v : D) (os : List Op) (l : List Nat) (f : List (Nat × Tab)) (x : Nat → Str → Prop) (i : Nat) (ds : DS) : Prop :=
  ∃ (c5 c6 c7 c8 c9 : SC), ds = stNu n offs v l f x (numR os n (at0 l) ((bases os n).take i).reverse) c5 c6 c7 c8 c9 ∧ ∀ b ∈ (bases os n).take i, Good os b (at0 l b) ∧ ∀ s y, PR os b (at0 l b) s y → at0 l s = y
def f_number_of_given : SpDX := fun ds q x => ∃ (n : Nat) (offs : List (List Op)) (v u : D), ds = [stoD n offs, v, u] ∧ SOk n offs ∧ v.kind ∧
  if v.blw offs.length = true then (if symB (othOps offs v.nat) n = true then
    u.fair ∧ (if u.isRow n n = true then (∀ l, u = .tup (dN l) → (Fit (othOps offs v.nat) n (at0 l) → q (.int (numR (othOps offs v.nat) n (at0 l) (bases (othOps offs v.nat) n).reverse : Nat))) ∧ (¬ Fit (othOps offs v.nat) n (at0 l) → q .non)) else q .non) else x 1 "oneway") else x 0 "office"
theorem len_number_of_given : ∀ ds q x, f_number_of_given ds q x → ds.length = P_number_of_given.length := by
  rintro ds q x ⟨n, offs, v, u, rfl, _⟩; rfl
theorem q_number_of_given {w : World} {K : PySem.W.Frag} {mg : Str → Option Value} {base : Heap} {Z : ZZ} (T : Top w K mg base Z) : ClP prg w K mg base 11 "number_of_given" P_number_of_given (spX Z.C Z.cls K f_number_of_given) := by
  have c_openings := p_openings T
  have c_is_row := p_is_row T
  have nd := sc_number_of_given.nd
  refine clXP_of (k := 10) T.d_number_of_given sc_number_of_given (by intro kV doc pm an cdv ct us h; match us, h with | [a0, a1, a2], _ => rfl) len_number_of_given fun fa cdv A outer s H E hr => ⟨_, (ss_cons (sj_par2 (i := 3) (j := 4) rfl nd rfl rfl (by decide) rfl rfl (mj_d (ej_x (takes_of rfl rfl rfl rfl) (xj_call c_openings hr (by decide) (by rfl) (aj_cons (n_ 0) (aj_cons (n_ 1) aj_nil)))) (mj_d ej_int mj_nil)) (by rfl))
  (ss_cons (sj_if (tj_not (tj_val ((ej_call c_is_row hr (by decide) (by rfl) (aj_cons (n_ 2) (aj_cons (ej_size T.sto (r_ 0)) (aj_cons (ej_size T.sto (r_ 0)) aj_nil))))).rd)) (ss_one (sj_ret ej_non)) ss_nil)
  (ss_cons (sj_for (passes_of rfl) rfl (ij_list (n_ 3)) (gj_tup (n := 2) rfl (gjs_cons (g_ 5 nd) (gjs_cons (g_ 6 nd) gjs_nil))) (ss_cons (sj_set (as_of (i := 7) nd rfl (by first | exact .inl rfl | exact .inr rfl) (ej_dget2 hr (r_ 6) ((ej_ix ix_seq ow_ix (r_ 2) (r_ 5))).rd (ej_dic0).dt ⟨rfl, rfl, rfl, rfl⟩)))
  (ss_cons (sj_if (TJW.tj (tj_or (tj_eqE hr (n_ 7) (nomark _)) (tj_or1 (tj_val ((ej_b1 (cr_any rfl) cw_any (by rfl) T.m_any (by decide +kernel) ((ej_lcL (own := [("state", 8), ("image", 9)]) rfl nd (lj_items (p_ 7)) (blkOk_by (own := [("state", 8), ("image", 9)]) (N := N_number_of_given) (sc := defScope st_number_of_given) (by decide +kernel)) (by decide) (fun _ _ _ _ _ => (gj_tup (n := 2) rfl (gjs_cons (g_ 8 nd) (gjs_cons (g_ 9 nd) gjs_nil)))) (fun _ _ _ _ _ => ts_nil) (fun _ _ _ _ _ => (ej_cmp op_ne ow_ne ((ej_ix ix_seq ow_ix (r_ 2) (r_ 8))).rd (r_ 9) (nomark _))))).dt.rd)).rd)))) (ss_one (sj_ret ej_non)) ss_nil)
  (ss_one (sj_set (as_of (i := 4) nd rfl (by first | exact .inl rfl | exact .inr rfl) (ej_op op_add ow_i ((ej_op op_mul ow_ic (r_ 4) ((ej_b1 call_lenD cw_lenD (by rfl) T.m_len PySem.boot_len (r_ 6))).rd)).rd ((ej_idx ((ej_b1 (call_sortedDI rfl) cw_sortK (by rfl) T.m_sorted (by decide +kernel) (r_ 6))).dt.rd ((ej_ix ix_seq ow_ix (r_ 2) (r_ 5))).rd)).rd)))))))
  (ss_one (sj_ret (n_ 4)))))), fun ds q x hf => ?_⟩
  obtain ⟨n, offs, v, u, rfl, ok, hk, hq⟩ := hf
  simp [-Bool.exists_bool, and_assoc, ex_not]
  refine ⟨n, offs, v, rfl, ok, hk, ?_⟩
  cases e : v.blw offs.length with
  | false => rw [e] at hq; exact hq
  | true =>
    rw [e] at hq
    simp only [if_true] at hq ⊢
    cases es : symB (othOps offs v.nat) n with
    | false => rw [es] at hq; exact hq
    | true =>
      rw [es] at hq
      simp only [if_true] at hq ⊢
      obtain ⟨os, hos⟩ : ∃ os, os = othOps offs v.nat := ⟨_, rfl⟩
      rw [← hos] at hq es ⊢
      obtain ⟨hu, hq⟩ := hq
      intro f hf
      have n9 := ok.n9
      have hok : ∀ o ∈ os, o.Ok n := hos ▸ flatOps_ok ok.ok _
      obtain ⟨hu1, hu2, hu3, hu4⟩ := hu
      refine ⟨n, ⟨_, rfl⟩, n, ⟨_, rfl⟩, u, n, n, rfl, hu1, hu2, hu4, ?_⟩
      cases er : u.isRow n n with
      | false => rw [er] at hq; exact ⟨_, rfl, hq⟩
      | true =>
        rw [er] at hq
        simp only [if_true] at hq
        obtain ⟨l, rfl, hl, hln⟩ := isRow_nat er
        obtain ⟨hq1, hq2⟩ := hq l rfl
        refine ⟨_, rfl, ?_⟩
        rw [if_pos rfl]
        refine ⟨_, rfl, ?_⟩
        have hbl := bases_len os n
        refine forGo_inv (PvNu n offs v os l f x) _ _ 0 ⟨.no, .no, .no, .no, .no, rfl, by simp⟩ ?_ ?_
        · rintro i d _ N hd ⟨c5, c6, c7, c8, c9, rfl, hpr⟩ hN
          rw [Nat.zero_add] at hN hpr
          rw [Nat.zero_add]
          unfold foundD at hd
          rw [List.getElem?_map] at hd
          obtain ⟨⟨b, t⟩, hbt, rfl⟩ := Option.map_eq_some_iff.mp hd
          have hb : (bases os n)[i]? = some b := by rw [← hf.bases, List.getElem?_map, hbt]; rfl
          obtain ⟨tk, ti⟩ := hf.tab _ (List.mem_of_getElem? hbt)
          simp only at tk ti
          have hbm := List.mem_of_getElem? hb
          have hbn := bases_lt hbm
          have gl := goals_len os n b
          have hlb : l[b]? = some (at0 l b) := at0_get (by omega)
          have hfb := hln _ (List.mem_of_getElem? hlb)
          simp [-Bool.exists_bool, and_assoc, ex_not, stNu, hlb, dgt_tabD]
          cases hlk : t.lookup (at0 l b) with
          | none =>
            simp
            refine hq2 fun hft => ?_
            have hg := (hft.good hok hbn)
            have : at0 l b ∈ t.map (·.1) := tk ▸ mem_goals.mpr ⟨hfb, hg⟩
            exact lookup_none.mp hlk this
          | some im =>
            have him := ti _ (lookup_mem hlk)
            simp only at him
            have hgm : at0 l b ∈ goals os n b := tk ▸ List.mem_map.mpr ⟨_, lookup_mem hlk, rfl⟩
            have hne : (imD im).isEmpty = false := by
              have := (him.mem b (at0 l b)).mpr .base
              cases im with
              | nil => cases this
              | cons a r => rfl
            have hle : im.length ≤ n := by
              have := nodup_len him.nd (n := n) fun x hx => by
                obtain ⟨p, hp, rfl⟩ := List.mem_map.mp hx
                exact (((him.mem p.1 p.2).mp hp).lt hok hbn hfb).1
              simpa using this
            simp [hne]
            have eit : (imD im).map (fun kv => D.tup [kd kv.1, kv.2]) = im.map fun p => .tup [.int (p.1 : Nat), .int (p.2 : Nat)] := by
              unfold imD; rw [List.map_map]; rfl
            have htl : (tabD t).length = (goals os n b).length := by
              rw [← tk, List.length_map]; unfold tabD; rw [List.length_map]
            rw [if_neg (by intro h; rw [h] at hne; cases hne), eit]
            refine lcGo_map (nuF l) (by simp; omega) ?_ ?_
            · intro d hd acc q2 hacc hq2
              obtain ⟨p, hp, rfl⟩ := List.mem_map.mp hd
              have hp1 := (((him.mem p.1 p.2).mp hp).lt hok hbn hfb).1
              have hlp : l[p.1]? = some (at0 l p.1) := at0_get (by omega)
              have hq2 : q2 (acc ++ [D.bl (!decide (at0 l p.1 = p.2))]) := hq2
              simp [-Bool.exists_bool, and_assoc, ex_not, hlp]
              exact ⟨hacc, by simpa [Int.ofNat_inj] using hq2⟩
            · refine ⟨im.map fun p => !decide (at0 l p.1 = p.2), ?_, ?_⟩
              · rw [List.nil_append, List.map_map, List.map_map]; rfl
              by_cases hbad : true ∈ im.map fun p => !decide (at0 l p.1 = p.2)
              · rw [if_pos hbad]
                obtain ⟨p, hp, hpe⟩ := List.mem_map.mp hbad
                refine hq2 fun hft => ?_
                have := hft.pr hok hbn ((him.mem p.1 p.2).mp hp)
                simp [this] at hpe
              · rw [if_neg hbad, htl]
                refine ⟨.inr ⟨by omega, by omega⟩, (goals os n b).map fun g : Nat => (g : Int), ?_, ?_, ?_⟩
                · rw [tabD_keys, tk, List.map_map]; rfl
                · rw [List.length_map]; omega
                intro ms hm1 hm2
                have e : ms = (goals os n b).map fun g : Nat => (g : Int) := sort_uniq hm1 hm2 (goals_rise os n b)
                subst e
                have hix := List.idxOf_lt_length_of_mem hgm
                have hgi : (goals os n b)[(goals os n b).idxOf (at0 l b)]? = some (at0 l b) := by rw [List.getElem?_eq_getElem hix, List.getElem_idxOf]
                refine ⟨_, rfl, (goals os n b).idxOf (at0 l b), ?_, fun m hm e => ?_, ?_⟩
                · rw [List.getElem?_map, hgi]; rfl
                · rw [List.getElem?_map] at e
                  obtain ⟨a, ha, ha2⟩ := Option.map_eq_some_iff.mp e
                  have ha2 : a = at0 l b := by omega
                  rw [ha2] at ha
                  obtain ⟨a1, a2⟩ := List.getElem?_eq_some_iff.mp ha
                  obtain ⟨b1, b2⟩ := List.getElem?_eq_some_iff.mp hgi
                  have := nd_inj (goals_nd os n b) a1 b1 (a2.trans b2.symm)
                  omega
                · refine hN _ ⟨.d (.int b), .d (.dic (tabD t)), .d (.dic (imD im)), c8, c9, ?_, fun c hc => ?_⟩
                  · rw [List.take_add_one, hb, List.reverse_append]
                    simp [stNu, numR]
                  · rw [List.take_add_one, hb] at hc
                    rcases List.mem_append.mp hc with h | h
                    · exact hpr c h
                    · have h : c = b := by simpa using h
                      subst h
                      refine ⟨(mem_goals.mp hgm).2, fun s y hsy => ?_⟩
                      refine Classical.byContradiction fun hn => hbad (List.mem_map.mpr ⟨(s, y), (him.mem s y).mpr hsy, ?_⟩)
                      simp [hn]
        · rintro _ ⟨c5, c6, c7, c8, c9, rfl, hpr⟩
          have hll : (foundD f).length = (bases os n).length := by unfold foundD; rw [List.length_map, hf.len]
          rw [Nat.zero_add, hll, List.take_length] at hpr
          refine ⟨rfl, _, rfl, ?_⟩
          rw [Nat.zero_add, hll, List.take_length]
          exact hq1 (fit_of hok fun b hb => by
            have hb1 := bases_lt hb
            have hlb : l[b]? = some (at0 l b) := at0_get (by omega)
            obtain ⟨h1, h2⟩ := hpr b hb
            exact ⟨hln _ (List.mem_of_getElem? hlb), h1, h2⟩)
theorem p_number_of_given {w : World} {K : PySem.W.Frag} {mg : Str → Option Value} {base : Heap} {Z : ZZ} (T : Top w K mg base Z) : Cl prg w K mg base 11 "number_of_given" (spX Z.C Z.cls K f_number_of_given) := (q_number_of_given T).cl
end G78
namespace G78
open PySem PySem.Spec PyProof.Rows L2
/-- what makes a store -/
structure OffsOk (n : Nat) (offs : List (List Op)) : Prop where
  n1 : 1 ≤ n
  n9 : n ≤ 9
  m2 : 2 ≤ offs.length
  m8 : offs.length ≤ 8
  few : offs.flatten.length ≤ 40
  ok : ∀ o ∈ offs.flatten, o.Ok n
  nm : ∀ o ∈ offs.flatten, (D.str o.nm).isName = true
  told : ∀ o ∈ offs.flatten, ∀ t ∈ o.told, t < 1000000000001
  nd : (offs.flatten.map Op.nm).Nodup
theorem enumD_at : ∀ (xs : List D) (k i : Nat), (enumD k xs)[i]? = xs[i]?.map fun d => .tup [.int ((k + i : Nat) : Int), d]
  | [], _, _ => rfl
  | x :: xs, k, 0 => rfl
  | x :: xs, k, i + 1 => by
    show (enumD (k + 1) xs)[i]? = xs[i]?.map _
    rw [enumD_at xs (k + 1) i, show k + 1 + i = k + (i + 1) by omega]
theorem dgt_none {kds : List (Key × D)} {k : Key} (h : ∀ p ∈ kds, p.1 ≠ k) : dgt kds k = none := by
  unfold dgt
  rw [Option.map_eq_none_iff, List.find?_eq_none]
  intro p hp
  simpa using h p hp
theorem str_fair {x : Str} (h : x.length ≤ 1000) : (D.str x).fair := ⟨nofun, nofun, fun y e => by cases e; exact h, nofun⟩
theorem dN_fair {l : List Nat} (h : l.length ≤ 1000) : (D.tup (dN l)).fair := ⟨nofun, nofun, nofun, fun xs z => by
  cases z
  refine ⟨by simpa using h, fun y hy => ?_⟩
  obtain ⟨k, _, rfl⟩ := List.mem_map.mp hy
  exact nofun⟩
theorem dN_isRow {l : List Nat} {n b : Nat} (hl : l.length = n) (h : ∀ x ∈ l, x < b) : (D.tup (dN l)).isRow n b = true := by
  simp only [D.isRow, Bool.and_eq_true, decide_eq_true_eq, List.all_eq_true]
  refine ⟨by simp [hl], fun y hy => ?_⟩
  obtain ⟨k, hk, rfl⟩ := List.mem_map.mp hy
  have := h k hk
  simp [D.blw]; omega
theorem op_isOp {o : Op} {n : Nat} (ok : o.Ok n) (h : (D.str o.nm).isName = true) (ht : ∀ t ∈ o.told, t < 1000000000001) : o.D.isOp n = true := by
  show ((D.str o.nm).isName && ((D.tup (dN o.ends)).isRow n n && (D.tup (dN o.told)).isRow n 1000000000001)) = true
  rw [h, dN_isRow ok.le ok.en, show (D.tup (dN o.told)).isRow n 1000000000001 = true from dN_isRow (b := 1000000000001) ok.lt ht]
  rfl
def stCh (n : Nat) (offs : List (List Op)) (kds : List (Key × D)) (c3 c4 c5 : SC) : DS := { s := [.d (.int n), .d (offD offs), .k kds, c3, c4, c5] }
def PvCh (n : Nat) (offs : List (List Op)) (i : Nat) (ds : DS) : Prop := ∃ (kds : List (Key × D)) (c3 c4 c5 : SC), ds = stCh n offs kds c3 c4 c5 ∧ kds.map (·.1) = (((offs.take i).flatten).map Op.nm).map Sum.inr
def f_check_offices : SpD := fun ds q => ∃ (n : Nat) (offs : List (List Op)), ds = [.int n, offD offs] ∧ OffsOk n offs ∧ q .non
theorem len_check_offices : ∀ ds q, f_check_offices ds q → ds.length = P_check_offices.length := by
  rintro ds q ⟨n, offs, rfl, _⟩; rfl
theorem p_check_offices {w : World} {K : PySem.W.Frag} {mg : Str → Option Value} {base : Heap} {Z : ZZ} (T : Top w K mg base Z) : Cl prg w K mg base 6 "check_offices" (spP Z.C K f_check_offices) := by
  have c_is_below := p_is_below T
  have c_is_operation := p_is_operation T
  have nd := sc_check_offices.nd
  refine clP_of (k := 5) T.d_check_offices sc_check_offices (by intro kV doc pm an cdv ct us h; match us, h with | [a0, a1], _ => rfl) len_check_offices fun fa cdv A outer s H E hr => ⟨_, (ss_cons (sj_if (TJW.tj (tj_or (tj_not (tj_val ((ej_call c_is_below hr (by decide) (by rfl) (aj_cons (n_ 0) (aj_cons (ej_op op_add ow_i ((ej_gI (by rfl) T.c_MOST_STATES)).rd (ej_int).rd) aj_nil)))).rd)) (tj_or (tj_cmp op_eq ow_eq (r_ 0) (ej_int).rd (nomark _)) (tj_or1 (tj_not (tj_val ((ej_isi (T' := "tuple") (by rfl) T.m_isinstance (by rfl) T.m_tuple (by decide +kernel) (r_ 1))).rd)))))) (ss_one sj_never) ss_nil)
  (ss_cons (sj_own (as_of (i := 2) nd rfl (by first | exact .inl rfl | exact .inr rfl) ej_dic0))
  (ss_cons (sj_for (passes_of rfl) rfl (ij_enum (by rfl) T.m_enumerate (n_ 1)) (gj_tup (n := 2) rfl (gjs_cons (g_ 3 nd) (gjs_cons (g_ 4 nd) gjs_nil))) (ss_cons (sj_if (tj_not (tj_val ((ej_isi (T' := "tuple") (by rfl) T.m_isinstance (by rfl) T.m_tuple (by decide +kernel) (r_ 4))).rd)) (ss_one sj_never) ss_nil)
  (ss_one (sj_for (passes_of rfl) rfl (ij_tup (n_ 4)) (g_ 5 nd) (ss_cons (sj_if (TJW.tj (tj_or (tj_not (tj_val ((ej_call c_is_operation hr (by decide) (by rfl) (aj_cons (n_ 5) (aj_cons (n_ 0) aj_nil)))).rd)) (tj_or1 (tj_din hr ((ej_ix ix_seq ow_ix (r_ 5) (ej_int).rd)).rd (r_ 2) (by rfl))))) (ss_one sj_never) ss_nil)
  (ss_one (sj_dput (i := 2) hr rfl (by first | exact .inl rfl | exact .inr (.inl rfl) | exact .inr (.inr rfl)) (n_ 3) ((ej_ix ix_seq ow_ix (r_ 5) (ej_int).rd)).rd)))))))
  (ss_one (sj_if (TJW.tj (tj_or (tj_not (tj_chain op_le op_le ((ej_gI (by rfl) T.c_LEAST_OFFICES)).rd ((ej_b1 call_len_seq cw_len (by rfl) T.m_len PySem.boot_len (r_ 1))).rd ((ej_gI (by rfl) T.c_MOST_OFFICES)).rd)) (tj_or1 (tj_cmp op_gt ow_b ((ej_b1 call_lenD cw_lenD (by rfl) T.m_len PySem.boot_len (r_ 2))).rd ((ej_gI (by rfl) T.c_MOST_OPERATIONS)).rd (nomark _))))) (ss_one sj_never) ss_nil))))), fun ds q hf => ?_⟩
  obtain ⟨n, offs, rfl, ok, hq⟩ := hf
  simp [-Bool.exists_bool, and_assoc, ex_not, kitB_tt]
  refine ⟨_, _, rfl, kind_int _, _, rfl, ?_, ?_, _, rfl, _, kitB_tt, rfl, _, rfl, ?_⟩
  · have := ok.n9; simp [D.blw]; omega
  · have := ok.n1; omega
  have m8 := ok.m8
  have m2 := ok.m2
  refine forGo_inv (PvCh n offs) _ _ 0 ⟨[], .no, .no, .no, rfl, by simp⟩ ?_ ?_
  · rintro i d _ N hd ⟨kds, c3, c4, c5, rfl, hk⟩ hN
    rw [Nat.zero_add] at hN hk
    rw [enumD_at, List.getElem?_map, Nat.zero_add] at hd
    obtain ⟨_, hd1, rfl⟩ := Option.map_eq_some_iff.mp hd
    obtain ⟨os, hos, rfl⟩ := Option.map_eq_some_iff.mp hd1
    simp [-Bool.exists_bool, and_assoc, ex_not, stCh]
    refine ⟨_, kitB_tt, rfl, ?_⟩
    have sp : offs = offs.take i ++ os :: offs.drop (i + 1) := by
      obtain ⟨a1, a2⟩ := List.getElem?_eq_some_iff.mp hos
      rw [← a2]; exact (List.take_append_drop i offs).symm.trans (by rw [List.drop_eq_getElem_cons a1])
    have sf : offs.flatten = (offs.take i).flatten ++ (os ++ (offs.drop (i + 1)).flatten) := by
      conv => lhs; rw [sp]
      rw [List.flatten_append, List.flatten_cons]
    refine forGo_inv (fun j ds => ∃ (kds : List (Key × D)) (c5 : SC), ds = stCh n offs kds (.d (.int i)) (.d (.tup (os.map Op.D))) c5 ∧ kds.map (·.1) = (((offs.take i).flatten ++ os.take j).map Op.nm).map Sum.inr) _ _ 0 ⟨kds, c5, rfl, by simpa using hk⟩ ?_ ?_
    · rintro j d _ N2 hd2 ⟨kds, c5, rfl, hk⟩ hN2
      rw [Nat.zero_add] at hN2 hk
      rw [List.getElem?_map] at hd2
      obtain ⟨o, ho, rfl⟩ := Option.map_eq_some_iff.mp hd2
      have so : os = os.take j ++ o :: os.drop (j + 1) := by
        obtain ⟨a1, a2⟩ := List.getElem?_eq_some_iff.mp ho
        rw [← a2]; exact (List.take_append_drop j os).symm.trans (by rw [List.drop_eq_getElem_cons a1])
      have sg : offs.flatten = ((offs.take i).flatten ++ os.take j) ++ o :: (os.drop (j + 1) ++ (offs.drop (i + 1)).flatten) := by
        rw [sf]
        conv => lhs; rw [so]
        simp
      have hom : o ∈ offs.flatten := by rw [sg]; simp
      have hnd := ok.nd
      rw [sg, List.map_append, List.map_cons] at hnd
      have hfew := ok.few
      rw [sg, List.length_append, List.length_cons] at hfew
      have hkl := congrArg List.length hk
      rw [List.length_map, List.length_map, List.length_map] at hkl
      have hout : o.nm ∉ ((offs.take i).flatten ++ os.take j).map Op.nm := fun h => (List.nodup_append.mp hnd).2.2 _ h _ List.mem_cons_self rfl
      have hno : dgt kds (Sum.inr o.nm) = none := dgt_none fun p hp e => by
        have : p.1 ∈ kds.map (·.1) := List.mem_map_of_mem hp
        rw [hk, e] at this
        obtain ⟨z, hz, hz2⟩ := List.mem_map.mp this
        cases hz2
        exact hout hz
      simp [-Bool.exists_bool, and_assoc, ex_not, stCh, Op.D]
      have oko := ok.ok o hom
      have n9 := ok.n9
      refine ⟨o.D, n, rfl, nofun, nofun, fun xs z => ?_, true, ?_, rfl, hno, by omega, hN2 _ ⟨dpt kds (Sum.inr o.nm) (D.int i), .d o.D, rfl, ?_⟩⟩
      · cases z
        refine ⟨by simp, fun y hy => ?_⟩
        have h1 := oko.le
        have h2 := oko.lt
        simp only [List.mem_cons, List.not_mem_nil, or_false] at hy
        rcases hy with rfl | rfl | rfl
        · exact str_fair (by have := ok.nm o hom; simp only [D.isName, Bool.and_eq_true, decide_eq_true_eq] at this; omega)
        · exact dN_fair (by omega)
        · exact dN_fair (by omega)
      · rw [op_isOp oko (ok.nm o hom) (ok.told o hom)]
      · rw [dpt_new (fun p hp e => by
          have : p.1 ∈ kds.map (·.1) := List.mem_map_of_mem hp
          rw [hk, e] at this
          obtain ⟨z, hz, hz2⟩ := List.mem_map.mp this
          cases hz2
          exact hout hz), List.map_append, hk, List.take_add_one, ho]
        simp
    · rintro _ ⟨kds, c5, rfl, hk⟩
      refine hN _ ⟨kds, _, _, _, rfl, ?_⟩
      rw [hk, Nat.zero_add, List.length_map, List.take_length, List.take_add_one, hos]
      simp
  · rintro _ ⟨kds, c3, c4, c5, rfl, hk⟩
    have hl : (enumD 0 (offs.map fun os => D.tup (os.map Op.D))).length = offs.length := by rw [enumD_len, List.length_map]
    rw [Nat.zero_add, hl, List.take_length] at hk
    have hkl := congrArg List.length hk
    rw [List.length_map, List.length_map, List.length_map] at hkl
    have hfew := ok.few
    simp [-Bool.exists_bool, and_assoc, ex_not, stCh, offD]
    exact ⟨by omega, by omega, by omega, hq⟩
end G78
namespace G78
open PySem PySem.Spec PyProof.Rows L2
section
variable {w : World} {K : PySem.W.Frag} {mg : Str → Option Value} {base : Heap} {Z : ZZ}
/-- what __init__ of a store is worth -/
def spInit (C : Addr) (K : PySem.W.Frag) : Sp := fun vs H Q _ => ∃ (M : Addr → Prop) (a dx : Addr) (n : Nat) (offs : List (List Op)) (v : V), vs = [.ref a, .int n, v] ∧ (∀ p, M p → H p ≠ none) ∧ H a = some (.ins C dx []) ∧ R K C (era H M) v (offD offs) ∧ NL H ∧ OffsOk n offs ∧
  ∀ H1, Same H H1 → NL H1 → Q .non (upd H1 a (.ins C dx [("size", .int n), ("offices", v)]))
theorem init_body (T : Top w K mg base Z) : ∃ (f : Addr) (fd : FuncData), FnOk prg w K mg base (L2.CX prg w) 7 f fd P_Store___init__ (spInit Z.C K) ∧ Binds K fd P_Store___init__ [] ∧ Mk K Z.C f := by
  obtain ⟨f, fd, F, M⟩ := T.mkS
  have c := p_check_offices T
  have st := T.sto
  refine ⟨f, fd, F.ok (k := 6) (N := N_Store___init__) sc_Store___init__ (fun vs H Q E ⟨M, a, dx, n, offs, v, e, _⟩ => by rw [e]; rfl) (fun cdv A outer s H vs Q E hr ⟨Mm, a, dx, n, offs, v, e, mo, ha, rv, nl, ok, hq⟩ => ?_), F.bindsN (by intro kV doc pm an cdv ct us h; match us, h with | [a0, a1, a2], _ => rfl), M⟩
  subst e
  refine ⟨_, pss_cons (ps_expr (pe_cl c hr (by decide) (by rfl) (pa_cons (pe_var (i := 1) rfl (by first | exact .inl rfl | exact .inr (.inl rfl) | exact .inr (.inr rfl))) (pa_cons (pe_var (i := 2) rfl (by first | exact .inl rfl | exact .inr (.inl rfl) | exact .inr (.inr rfl))) pa_nil)))) (pss_cons (ps_fld (pe_var (i := 0) rfl (by first | exact .inl rfl | exact .inr (.inl rfl) | exact .inr (.inr rfl))) (pe_var (i := 1) rfl (by first | exact .inl rfl | exact .inr (.inl rfl) | exact .inr (.inr rfl))) (by rfl)) (pss_one (ps_fld (pe_var (i := 0) rfl (by first | exact .inl rfl | exact .inr (.inl rfl) | exact .inr (.inr rfl))) (pe_var (i := 2) rfl (by first | exact .inl rfl | exact .inr (.inl rfl) | exact .inr (.inr rfl))) (by rfl)))), ?_⟩
  refine ⟨.int n, rfl, v, rfl, Mm, [.int n, offD offs], fun _ => True, mo, .cons (.int _) (.cons rv .nil), nl, ⟨n, offs, rfl, ok, trivial⟩, fun _ H1 _ same nl1 _ _ => ?_⟩
  refine ⟨.int n, rfl, .ref a, rfl, a, Z.C, dx, [], rfl, same _ _ ha, st.cl, st.nS, by decide, ?_⟩
  refine ⟨v, rfl, .ref a, rfl, a, Z.C, dx, [("size", .int n)], rfl, upd_same, st.cl, st.nO, by show 1 < 1000; decide, ?_⟩
  have e : upd (upd H1 a (.ins Z.C dx [("size", .int n)])) a (.ins Z.C dx [("size", .int n), ("offices", v)]) = upd H1 a (.ins Z.C dx [("size", .int n), ("offices", v)]) := by
    funext b
    by_cases h : b = a
    · subst h; rw [upd_same, upd_same]
    · rw [upd_ne h, upd_ne h, upd_ne h]
  show Q .non (upd (upd H1 a (.ins Z.C dx [("size", .int n)])) a (.ins Z.C dx [("size", .int n), ("offices", v)]))
  rw [e]
  exact hq H1 same nl1
/-! ### Store(n, offices) -/
@[simp] def wMake (W : TWA) : TW := fun ds q => ds.nl = true ∧ W ds fun xs => ∃ (n : Nat) (offs : List (List Op)), xs = [.int n, offD offs] ∧ OffsOk n offs ∧ q (stoD n offs)
variable {X : Cx} {kk : Nat} {e : Expr} {es : List Expr} {W : TWA} {p pos : Pos}
theorem ej_make (T : Top w X.K X.mg X.base Z) (hp : X.prog = prg) (hw : X.w = w) (hr : Room kk X.A) (hk : 8 ≤ kk) (hg : Gl X "Store") (ha : AJ Z X (e :: es) W)
    (he : starEach (e :: es) X.env = (false, eval e X.env) :: starEach es X.env := by rfl) (hpl : (backTo pos (starEach es X.env)).any (·.1) = false := by rfl) :
    EJ Z .d X (.Call (.Name "Store" p) (e :: es) [] pos) (wMake W) := by
  obtain ⟨t, pa, g⟩ := ha.ex
  obtain ⟨f, fd, F, b, M⟩ := init_body T
  rw [← hp, ← hw] at F
  refine ⟨_, pe_make M F (hr.mono hk) hg T.mgS b .nil passL pa (by decide) he hpl, fun F M σ H ds q Q r ⟨hn, w⟩ k => g F M σ H ds _ _ r w fun vs H1 xs x1 s ⟨n, offs, e1, ok, z⟩ => ?_⟩
  subst e1
  cases s with
  | cons s1 s2 =>
  cases s2 with
  | cons s2 s3 =>
  cases s3 with
  | nil =>
  cases s1
  intro x dx hx hdx hne
  rename_i v
  have r1 := r.ext x1
  have hdn : upd H1 dx (.own x) x = none := by rw [upd_ne (Ne.symm hne)]; exact hx
  have xa : Ext F H1 (upd H1 dx (.own x)) := .new hdx fun _ _ z => nomatch z
  have xb : Ext F (upd H1 dx (.own x)) (upd (upd H1 dx (.own x)) x (.ins Z.C dx [])) := .new hdn fun _ _ z => nomatch z
  have r2 := r1.ext (xa.trans xb)
  have lv : R X.K Z.C (era (upd (upd H1 dx (.own x)) x (.ins Z.C dx [])) M) v (offD offs) := s2.le (r1.le (xa.trans xb))
  refine ⟨M, x, dx, n, offs, v, rfl, r2.mo, upd_same, lv, r2.nl hn, ok, fun H2 same nl2 => ⟨rfl, ?_⟩⟩
  have hxM : ¬ M x := fun m => r1.mo x m hx
  have hxb : F.bx ≠ some x := r1.bxM hxM
  have x3 : Ext F H1 (upd H2 x (.ins Z.C dx [("size", .int n), ("offices", v)])) := by
    refine ⟨fun a o hb ho => ?_, fun b hb ⟨i, j, l, h⟩ => ⟨i, j, l, ?_⟩, fun a o kvs h => ?_⟩
    · have hne2 : a ≠ x := ne_of_none ho hx
      rw [upd_ne hne2]
      refine same _ _ ?_
      rw [upd_ne hne2, upd_ne (ne_of_none ho hdx)]
      exact ho
    · have hne2 : b ≠ x := ne_of_none h hx
      rw [upd_ne hne2]
      refine same _ _ ?_
      rw [upd_ne hne2, upd_ne (ne_of_none h hdx)]
      exact h
    · by_cases e : a = x
      · subst e; rw [upd_same] at h; cases h
      · rw [upd_ne e] at h; exact absurd h (nl2 a o kvs)
  refine k _ _ _ (x1.trans x3) (.sto (dx := dx) (v := v) (era_of hxM upd_same) ?_) z
  exact s2.le (r1.le x3)
end
end G78
namespace G78
open PySem PySem.Spec PyProof.Rows L2
section
variable {Z : ZZ} {X : Cx} {A : TW} {W : TWA} {e : Expr} {ks : List Keyword} {nm : Option Str} {kpos pos pp : Pos} {x : Str} {names : List Str} {f : SpDX} {k kk : Nat}
structure AKL (Z : ZZ) (X : Cx) (ks : List Keyword) (W : TWA) : Prop where
  ex : ∃ t, PK X ks t ∧ ∀ F M σ H ds (q : List D → Prop) (Q : List V → Hp → Prop), Rep Z X.K F M σ H ds → W ds q → (∀ vs H' xs, xs.length = ks.length → Ext F H H' → RL X.K Z.C (era H' M) vs xs → q xs → Q vs H') → t σ H Q
theorem akj_nil : AKL Z X [] wNil := ⟨_, pk_nil, fun F M σ H ds q Q r w k => k _ _ _ rfl (.refl F H) .nil w⟩
theorem akj_cons (ha : EJ Z .d X e A) (hr : AKL Z X ks W) : AKL Z X (⟨nm, e, kpos⟩ :: ks) (wCons A W) := by
  obtain ⟨t, p, g⟩ := ha.ex
  obtain ⟨t2, p2, g2⟩ := hr.ex
  refine ⟨_, pk_cons p p2, fun F M σ H ds q Q r w k => g F M σ H ds _ _ r w fun v H1 d x1 s1 w1 => ?_⟩
  have s1 : R X.K Z.C (era H1 M) v d := s1
  exact g2 F M σ H1 ds _ _ (r.ext x1) w1 fun vs H2 xs hl x2 s2 z => k _ _ _ (by rw [List.length_cons, List.length_cons, hl]) (x1.trans x2) (.cons (s1.le ((r.ext x1).le x2)) s2) z
@[simp] def wCallK (f : SpDX) (W : TWA) : TW := fun ds q => ds.nl = true ∧ W ds fun xs => f xs.reverse q (fun _ _ => False)
theorem RL.revD {K : PySem.W.Frag} {C : Addr} {H : Hp} {vs : List V} {ds : List D} (h : RL K C H vs ds) : RL K C H vs.reverse ds.reverse := h.rev
theorem ej_callK (c : ClK X.prog X.w X.K X.mg X.base k x (spX Z.C Z.cls X.K f) names (fun l => l.reverse)) (hr : Room kk X.A) (hk : k ≤ kk) (hg : Gl X x) (ha : AKL Z X ks W) (hn : ks.length = names.length := by rfl)
    (hall : (backToKw pos (keywordEach ks X.env)).all (·.1.isSome) = true := by rfl) (hks : (backToKw pos (keywordEach ks X.env)).filterMap (·.1) = names := by rfl) (hdb : (x == ("__debug__" : Str)) = false := by decide)
    (hpl : ((backTo pos (starEach [] X.env)).any (·.1) || (backToKw pos (keywordEach ks X.env)).any (·.1.isNone)) = false := by rfl) :
    EJ Z .d X (.Call (.Name x pp) [] ks pos) (wCallK f W) := by
  obtain ⟨t, p, g⟩ := ha.ex
  refine ⟨_, pe_clK c hr hk hg p hall hks hdb hpl, fun F M σ H ds q Q r ⟨hn', w⟩ k => g F M σ H ds _ _ r w fun vs H1 xs hl x1 s hf => ?_⟩
  have r1 := r.ext x1
  exact ⟨by rw [← hn, ← hl]; exact s.len, M, xs.reverse, q, _, r1.mo, s.rev, r1.nl hn', hf, fun v H' d h n rv z => k v H' d (x1.trans (.of_same h n)) rv z, fun c w H' dd h n hd hx z => z.elim⟩
end
section
variable {w : World} {K : PySem.W.Frag} {mg : Str → Option Value} {base : Heap} {Z : ZZ}
theorem k_given_goals (T : Top w K mg base Z) : ClK prg w K mg base (11) "given_goals" (spX Z.C Z.cls K f_given_goals) ["office", "store"] fun l => l.reverse :=
  (q_given_goals T).kw T.d_given_goals (by intro kV doc pm an cdv ct ws h; match ws, h with | [a, b], _ => rfl)
theorem k_count_given (T : Top w K mg base Z) : ClK prg w K mg base (12) "count_given" (spX Z.C Z.cls K f_count_given) ["office", "store"] fun l => l.reverse :=
  (q_count_given T).kw T.d_count_given (by intro kV doc pm an cdv ct ws h; match ws, h with | [a, b], _ => rfl)
theorem k_given_ends (T : Top w K mg base Z) : ClK prg w K mg base (13) "given_ends" (spX Z.C Z.cls K f_given_ends) ["number", "office", "store"] fun l => l.reverse :=
  (q_given_ends T).kw T.d_given_ends (by intro kV doc pm an cdv ct ws h; match ws, h with | [a, b, c], _ => rfl)
theorem k_number_of_given (T : Top w K mg base Z) : ClK prg w K mg base (11) "number_of_given" (spX Z.C Z.cls K f_number_of_given) ["value", "office", "store"] fun l => l.reverse :=
  (q_number_of_given T).kw T.d_number_of_given (by intro kV doc pm an cdv ct ws h; match ws, h with | [a, b, c], _ => rfl)
theorem k_may_be_given (T : Top w K mg base Z) : ClK prg w K mg base (6) "may_be_given" (spX Z.C Z.cls K f_may_be_given) ["value", "office", "store"] fun l => l.reverse :=
  (q_may_be_given T).kw T.d_may_be_given (by intro kV doc pm an cdv ct ws h; match ws, h with | [a, b, c], _ => rfl)
end
end G78
namespace G78
open PySem PySem.Spec PyProof.Rows L2
/-! ### the law's names -/
theorem lets_at {i : Nat} (h : i < 26) : LETS.cps.toList[i]? = some (97 + i) := by
  have : ∀ i, i < 26 → LETS.cps.toList[i]? = some (97 + i) := by decide +kernel
  exact this i h
def Stem (z : Str) : Prop := z.length ≤ 3 ∧ ∀ c ∈ z.cps.toList, c ∈ LETS.cps ∧ c ≠ 122
theorem stem_of {z : Str} (h : z ∈ (["", "", "b", "so", "kkk", "rig"] : List Str)) : Stem z := by
  have : ∀ z ∈ (["", "", "b", "so", "kkk", "rig"] : List Str), z.length ≤ 3 ∧ ∀ c ∈ z.cps.toList, c ∈ LETS.cps ∧ c ≠ 122 := by decide +kernel
  exact this z h
/-- the letter c at place a of a stem -/
def nameK (z : Str) (a c : Nat) : Str := cutS z none (some (a : Int)) ++ ⟨#[c]⟩ ++ cutS z (some (a : Int)) none
theorem cps_app (a b : Str) : (a ++ b).cps.toList = a.cps.toList ++ b.cps.toList := by
  show (a.cps ++ b.cps).toList = _
  simp
theorem nameK_list {z : Str} {a c : Nat} (h : a ≤ z.length) : (nameK z a c).cps.toList = z.cps.toList.take a ++ c :: z.cps.toList.drop a := by
  unfold nameK
  rw [cps_app, cps_app]
  unfold cutS
  have hl : z.cps.toList.length = z.length := by simp [Str.length]
  simp only [HT.sIx_none, HT.sIx_nat, Nat.min_eq_left h, List.drop_zero, Nat.sub_zero, List.append_assoc]
  rw [List.take_of_length_le (l := List.drop a z.cps.toList) (by rw [List.length_drop, hl]; exact Nat.le_refl _)]
  rfl
theorem str_len (x : Str) : x.length = x.cps.toList.length := by simp [Str.length]
theorem nameK_len {z : Str} {a c : Nat} (h : a ≤ z.length) : (nameK z a c).length = z.length + 1 := by
  rw [str_len, nameK_list h]
  have hl : z.cps.toList.length = z.length := (str_len z).symm
  simp [List.length_take, List.length_drop, hl]
  omega
theorem nameK_inj {z : Str} {a c d : Nat} (h : a ≤ z.length) (e : nameK z a c = nameK z a d) : c = d := by
  have e2 := congrArg (fun x : Str => x.cps.toList) e
  simp only [nameK_list h] at e2
  have := List.append_cancel_left e2
  exact (List.cons.inj this).1
theorem nodup_set {α : Type} {l : List α} (nd : l.Nodup) {x : α} (hx : x ∉ l) (i : Nat) : (l.set i x).Nodup := by
  induction l generalizing i with
  | nil => simp
  | cons y l ih =>
    rw [List.nodup_cons] at nd
    cases i with
    | zero =>
      rw [List.set_cons_zero, List.nodup_cons]
      exact ⟨fun h => hx (List.mem_cons_of_mem _ h), nd.2⟩
    | succ i =>
      rw [List.set_cons_succ, List.nodup_cons]
      refine ⟨fun h => ?_, ih nd.2 (fun h => hx (List.mem_cons_of_mem _ h)) i⟩
      rcases List.mem_or_eq_of_mem_set h with h | rfl
      · exact nd.1 h
      · exact hx List.mem_cons_self
/-- good names -/
def Nms (ns : List Str) : Prop := ns.Nodup ∧ ∀ x ∈ ns, (D.str x).isName = true ∧ x ≠ "zzzzz"
theorem isName_of {x : Str} (h1 : 1 ≤ x.length) (h5 : x.length ≤ 5) (h : ∀ c ∈ x.cps.toList, c ∈ LETS.cps) : (D.str x).isName = true := by
  simp only [D.isName, Bool.and_eq_true, decide_eq_true_eq, List.all_eq_true]
  exact ⟨h1, h5, h⟩
def namesL (z : Str) (a f st m : Nat) : List Str := (List.range m).map fun k => nameK z a (97 + (f + st * k) % 26)
theorem let_mem {i : Nat} (h : i < 26) : 97 + i ∈ LETS.cps := Array.mem_toList_iff.mp (List.mem_of_getElem? (lets_at h))
theorem z5_len : ("zzzzz" : Str).length = 5 := by decide +kernel
theorem namesL_ok {z : Str} (hz : Stem z) {a f st m : Nat} (ha : a ≤ z.length) (hm : m ≤ 20) (hs : st = 7 ∨ st = 11 ∨ st = 23 ∨ st = 25) : Nms (namesL z a f st m) := by
  refine ⟨?_, fun x hx => ?_⟩
  · unfold namesL
    refine List.pairwise_map.mpr (List.pairwise_iff_getElem.mpr fun i j hi hj hij e => ?_)
    rw [List.length_range] at hi hj
    rw [List.getElem_range, List.getElem_range] at e
    have := nameK_inj ha e
    rcases hs with rfl | rfl | rfl | rfl <;> omega
  · obtain ⟨k, hk, rfl⟩ := List.mem_map.mp hx
    have hl := nameK_len (c := 97 + (f + st * k) % 26) ha
    have h3 := hz.1
    refine ⟨isName_of (by omega) (by omega) fun c hc => ?_, fun e => ?_⟩
    · rw [nameK_list ha] at hc
      rcases List.mem_append.mp hc with h | h
      · exact (hz.2 c ((List.take_sublist _ _).mem h)).1
      · rcases List.mem_cons.mp h with rfl | h
        · exact let_mem (Nat.mod_lt _ (by omega))
        · exact (hz.2 c ((List.drop_sublist _ _).mem h)).1
    · rw [e, z5_len] at hl; omega
theorem namesL_set {z : Str} (hz : Stem z) {a f st m p l : Nat} (ha : a ≤ z.length) (hm : m ≤ 20) (hs : st = 7 ∨ st = 11 ∨ st = 23 ∨ st = 25) {x : Str} (hp : (namesL z a f st m)[p]? = some x) (hl : l < 26) : Nms ((namesL z a f st m).set p (x ++ ⟨#[97 + l]⟩)) := by
  have ok := namesL_ok hz (f := f) ha hm hs
  obtain ⟨k, hk, rfl⟩ := List.mem_map.mp (List.mem_of_getElem? hp)
  have hlen := nameK_len (c := 97 + (f + st * k) % 26) ha
  have hn : (nameK z a (97 + (f + st * k) % 26) ++ ⟨#[97 + l]⟩ : Str).cps.toList = (nameK z a (97 + (f + st * k) % 26)).cps.toList ++ [97 + l] := cps_app _ _
  have hn2 : (nameK z a (97 + (f + st * k) % 26) ++ ⟨#[97 + l]⟩ : Str).length = z.length + 2 := by
    rw [str_len, hn, List.length_append, ← str_len, hlen]; rfl
  have h3 := hz.1
  refine ⟨nodup_set ok.1 (fun h => ?_) p, fun y hy => ?_⟩
  · obtain ⟨j, hj, e⟩ := List.mem_map.mp h
    have := nameK_len (c := 97 + (f + st * j) % 26) ha
    rw [e, hn2] at this
    omega
  · rcases List.mem_or_eq_of_mem_set hy with h | rfl
    · exact ok.2 y h
    · refine ⟨isName_of (by omega) (by omega) fun c hc => ?_, fun e => ?_⟩
      · rw [hn, nameK_list ha] at hc
        rcases List.mem_append.mp hc with h | h
        · rcases List.mem_append.mp h with h | h
          · exact (hz.2 c ((List.take_sublist _ _).mem h)).1
          · rcases List.mem_cons.mp h with rfl | h
            · exact let_mem (Nat.mod_lt _ (by omega))
            · exact (hz.2 c ((List.drop_sublist _ _).mem h)).1
        · simp only [List.mem_singleton] at h
          subst h
          exact let_mem hl
      · have h5 := hn2
        rw [e, z5_len] at h5
        have hzl : z.cps.toList.length = z.length := (str_len z).symm
        obtain ⟨c, hc⟩ : ∃ c, z.cps.toList[0]? = some c := ⟨_, List.getElem?_eq_getElem (by omega)⟩
        have hcm := List.mem_of_getElem? hc
        have h122 : ∀ c ∈ ("zzzzz" : Str).cps.toList, c = 122 := by decide +kernel
        refine (hz.2 c hcm).2 (h122 c ?_)
        rw [← e, hn, nameK_list ha]
        have : c ∈ z.cps.toList.take a ++ z.cps.toList.drop a := by rw [List.take_append_drop]; exact hcm
        rcases List.mem_append.mp this with h | h
        · exact List.mem_append_left _ (List.mem_append_left _ h)
        · exact List.mem_append_left _ (List.mem_append_right _ (List.mem_cons_of_mem _ h))
end G78
namespace G78
open PySem PySem.Spec PyProof.Rows L2
def f__law_box : SpD := fun ds q => ∃ (ns : List Int) (k : Int), ds = [.scr ns, .int k] ∧ 0 ≤ k ∧ k ≤ 5 ∧ ∀ x y z : Int, q (.lst [.int x, .int y, .int z])
theorem len__law_box : ∀ ds q, f__law_box ds q → ds.length = P__law_box.length := by
  rintro ds q ⟨ns, k, rfl, _⟩; rfl
theorem p__law_box {w : World} {K : PySem.W.Frag} {mg : Str → Option Value} {base : Heap} {Z : ZZ} (T : Top w K mg base Z) : Cl prg w K mg base 1 "_law_box" (spP Z.C K f__law_box) := by
  have nd := sc__law_box.nd
  refine clP_of (k := 0) T.d__law_box sc__law_box (by intro kV doc pm an cdv ct us h; match us, h with | [a0, a1], _ => rfl) len__law_box fun fa cdv A outer s H E hr => ⟨_, (ss_cons (sj_set (as_of (i := 2) nd rfl (by first | exact .inl rfl | exact .inr rfl) (ej_op op_add ow_i ((ej_op op_mul ow_ic (ej_int).rd (r_ 1))).rd (ej_int).rd)))
  (ss_cons (sj_if (tj_cmp op_lt ow_b (r_ 1) ((ej_b1 call_len_seq cw_lenR (by rfl) T.m_len PySem.boot_len (r_ 0))).rd (nomark _)) (ss_one (sj_set (as_of (i := 2) nd rfl (by first | exact .inl rfl | exact .inr rfl) (ej_b1 call_abs cw_abs (by rfl) T.m_abs (by decide +kernel) ((ej_ix ix_list ow_ixR (r_ 0) (r_ 1))).rd)))) (ss_one (sj_if (tj_cmp op_gt ow_b ((ej_b1 call_len_seq cw_lenR (by rfl) T.m_len PySem.boot_len (r_ 0))).rd (ej_int).rd (nomark _)) (ss_one (sj_set (as_of (i := 2) nd rfl (by first | exact .inl rfl | exact .inr rfl) (ej_op op_add ow_i (r_ 2) ((ej_op op_mul ow_ic ((ej_op op_modN ow_ic ((ej_t1 call_int1 cw_int (by rfl) T.m_int (by decide +kernel) ((ej_b1 call_abs cw_abs (by rfl) T.m_abs (by decide +kernel) ((ej_ix ix_list ow_ixR (r_ 0) ((ej_op op_modN ow_ic ((ej_t1 call_int1 cw_int (by rfl) T.m_int (by decide +kernel) (r_ 1))).rd ((ej_b1 call_len_seq cw_lenR (by rfl) T.m_len PySem.boot_len (r_ 0))).rd)).rd)).rd)).rd)).rd (ej_int).rd)).rd (ej_int).rd)).rd)))) ss_nil)))
  (ss_one (sj_ret ((ej_lst (aj_cons (ej_ix ix_seq ow_ix ((ej_lst (aj_cons ej_int (aj_cons (n_ 2) aj_nil)))).dt.rd ((ej_t1 call_int1 cw_int (by rfl) T.m_int (by decide +kernel) ((ej_cmp op_ge ow_b (r_ 2) ((ej_op op_pow ow_ic (ej_int).rd (ej_int).rd)).rd (nomark _))).rd)).rd) (aj_cons (ej_op op_add ow_i ((ej_op op_modN ow_ic ((ej_t1 call_int1 cw_int (by rfl) T.m_int (by decide +kernel) ((ej_op op_add ow_i ((ej_op op_add ow_i ((ej_op op_mul ow_ic ((ej_op op_modN ow_ic ((ej_t1 call_int1 cw_int (by rfl) T.m_int (by decide +kernel) (r_ 2))).rd (ej_int).rd)).rd (ej_int).rd)).rd ((ej_op op_mul ow_ic (ej_int).rd (r_ 1))).rd)).rd (ej_int).rd)).rd)).rd (ej_int).rd)).rd (ej_int).rd) (aj_cons ej_int aj_nil))))).dt)))), fun ds q hf => ?_⟩
  obtain ⟨ns, kk, rfl, k0, k5, hq⟩ := hf
  simp [-Bool.exists_bool, and_assoc, ex_not]
  have two : 2 ≤ sizeLine ∧ 3 ≤ sizeLine := ⟨len_ok (by omega), len_ok (by omega)⟩
  have cp : CPow 10 18 := by unfold CPow; decide
  have at2 : ∀ (a : Int) (b : Prop) [Decidable b], ∃ x, atI [D.int 0, D.int a] (if b then 1 else 0) = some (.int x) := fun a b _ => by
    by_cases h : b
    · rw [if_pos h]; exact ⟨a, rfl⟩
    · rw [if_neg h]; exact ⟨0, rfl⟩
  have cm : ∀ (a b : Int), 0 ≤ b → b < 1000000 → CMul a b := fun a b h1 h2 => .inr ⟨by omega, by omega⟩
  refine ⟨cm _ _ k0 (by omega), ?_⟩
  have fin : ∀ c : Int, ∃ x, atI [D.int 0, D.int c] (if 1000000000000000000 ≤ c then 1 else 0) = some x ∧ CMul (c.fmod 2147483629) 48271 ∧ CMul 44021 kk ∧ 3 ≤ sizeLine ∧
      q (D.lst [x, D.int ((c.fmod 2147483629 * 48271 + 44021 * kk + 983).fmod 2147483629 + 1), D.int 0]) := fun c => by
    obtain ⟨x, hx⟩ := at2 c (1000000000000000000 ≤ c)
    exact ⟨_, hx, cm _ _ (by omega) (by omega), cm _ _ k0 (by omega), two.2, hq _ _ _⟩
  split
  · rename_i h
    obtain ⟨j, rfl⟩ : ∃ j : Nat, kk = j := ⟨kk.toNat, by omega⟩
    refine ⟨ns[j]'(by omega), by rw [atI_nat']; exact List.getElem?_eq_getElem _, two.1, cp, fin _⟩
  · split
    · rename_i h1 h2
      have hm1 := Int.fmod_nonneg_of_pos kk (show (0 : Int) < ns.length by omega)
      have hm2 := Int.fmod_lt_of_pos kk (show (0 : Int) < ns.length by omega)
      obtain ⟨j, hj⟩ : ∃ j : Nat, kk.fmod ns.length = j := ⟨(kk.fmod ns.length).toNat, by omega⟩
      rw [hj] at hm2 ⊢
      refine ⟨by intro e; rw [e] at h2; simp at h2, ns[j]'(by omega), by rw [atI_nat']; exact List.getElem?_eq_getElem _, cm _ _ (by omega) (by omega), two.1, cp, fin _⟩
    · exact ⟨two.1, cp, fin _⟩
def f__law_take : SpD := fun ds q => ∃ (m : Nat), ds = [.int m] ∧ 1 ≤ m ∧ m ≤ 1000000000 ∧ ∀ i : Nat, i < m → q (.int i)
theorem len__law_take : ∀ ds q, f__law_take ds q → ds.length + 1 = P__law_take.length := by
  rintro ds q ⟨m, rfl, _⟩; rfl
theorem p__law_take {w : World} {K : PySem.W.Frag} {mg : Str → Option Value} {base : Heap} {Z : ZZ} (T : Top w K mg base Z) : Cl prg w K mg base 1 "_law_take" (spB Z.C K f__law_take) := by
  have nd := sc__law_take.nd
  refine clB_of (k := 0) T.d__law_take sc__law_take (by intro kV doc pm an cdv ct us h; match us, h with | [a0, a1], _ => rfl) len__law_take fun fa cdv A outer s H E hr => ⟨_, (ss_cons (sj_if (tj_cmp op_gt ow_b ((ej_bxget (n := 0) (k0 := none) (i := 0) rfl (by first | exact .inl rfl | exact .inr (.inl rfl) | exact .inr (.inr rfl)) (by decide))).rd (ej_int).rd (nomark _)) (ss_cons (sj_set (as_of (i := 2) nd rfl (by first | exact .inl rfl | exact .inr rfl) (ej_op op_modN ow_ic ((ej_t1 call_int1 cw_int (by rfl) T.m_int (by decide +kernel) ((ej_bxget (n := 0) (k0 := none) (i := 0) rfl (by first | exact .inl rfl | exact .inr (.inl rfl) | exact .inr (.inr rfl)) (by decide))).rd)).rd (r_ 1))))
  (ss_cons (sj_bxput (i := 0) rfl (by first | exact .inl rfl | exact .inr (.inl rfl) | exact .inr (.inr rfl)) (by decide) (ej_op op_fdivN ow_ic ((ej_bxget (n := 0) (k0 := none) (i := 0) rfl (by first | exact .inl rfl | exact .inr (.inl rfl) | exact .inr (.inr rfl)) (by decide))).rd (r_ 1)))
  (ss_one (sj_ret (n_ 2))))) ss_nil)
  (ss_cons (sj_bxput (i := 0) rfl (by first | exact .inl rfl | exact .inr (.inl rfl) | exact .inr (.inr rfl)) (by decide) (ej_op op_add ow_i ((ej_bxget (n := 0) (k0 := none) (i := 0) rfl (by first | exact .inl rfl | exact .inr (.inl rfl) | exact .inr (.inr rfl)) (by decide))).rd (ej_int).rd))
  (ss_cons (sj_set (as_of (i := 3) nd rfl (by first | exact .inl rfl | exact .inr rfl) (ej_op op_modN ow_ic ((ej_t1 call_int1 cw_int (by rfl) T.m_int (by decide +kernel) ((ej_op op_add ow_i ((ej_op op_mul ow_ic ((ej_op op_add ow_i ((ej_bxget (n := 0) (k0 := none) (i := 0) rfl (by first | exact .inl rfl | exact .inr (.inl rfl) | exact .inr (.inr rfl)) (by decide))).rd ((ej_op op_mul ow_ic (ej_int).rd ((ej_bxget (n := 0) (k0 := none) (i := 0) rfl (by first | exact .inl rfl | exact .inr (.inl rfl) | exact .inr (.inr rfl)) (by decide))).rd)).rd)).rd (ej_int).rd)).rd (ej_int).rd)).rd)).rd (ej_int).rd)))
  (ss_cons (sj_bxput (i := 0) rfl (by first | exact .inl rfl | exact .inr (.inl rfl) | exact .inr (.inr rfl)) (by decide) (ej_op op_add ow_i ((ej_op op_modN ow_ic ((ej_t1 call_int1 cw_int (by rfl) T.m_int (by decide +kernel) ((ej_op op_add ow_i ((ej_op op_mul ow_ic (r_ 3) (ej_int).rd)).rd (ej_int).rd)).rd)).rd (ej_int).rd)).rd (ej_int).rd))
  (ss_one (sj_ret (ej_op op_modN ow_ic ((ej_t1 call_int1 cw_int (by rfl) T.m_int (by decide +kernel) ((ej_op op_fdivN ow_ic ((ej_op op_add ow_i ((ej_op op_mul ow_ic (r_ 3) (ej_int).rd)).rd ((ej_bxget (n := 0) (k0 := none) (i := 0) rfl (by first | exact .inl rfl | exact .inr (.inl rfl) | exact .inr (.inr rfl)) (by decide))).rd)).rd (ej_int).rd)).rd)).rd (r_ 1)))))))), fun ds q hf => ?_⟩
  obtain ⟨m, rfl, m1, m9, hq⟩ := hf
  simp [-Bool.exists_bool, and_assoc, ex_not]
  have cr : ∀ (a b : Int), 0 ≤ b → b < 10000000000 → CMul a b := fun a b h1 h2 => .inr ⟨by omega, by omega⟩
  have cd : ∀ (a b : Int), 1 ≤ b → b ≤ 1000000000 → CDivN a b := fun a b h1 h2 => ⟨by omega, by omega⟩
  have fin : ∀ x : Int, q (D.int (x.fmod m)) := fun x => by
    have h1 := Int.fmod_nonneg_of_pos x (show (0 : Int) < m by omega)
    have h2 := Int.fmod_lt_of_pos x (show (0 : Int) < m by omega)
    obtain ⟨j, hj⟩ : ∃ j : Nat, x.fmod m = j := ⟨(x.fmod m).toNat, by omega⟩
    rw [hj] at h2 ⊢
    exact hq j (by omega)
  intro n
  split
  · exact fun n => ⟨by omega, fun n2 => ⟨cd _ _ (by omega) (by omega), fin _⟩⟩
  · exact fun n n1 => ⟨.inl ⟨by omega, by omega⟩, cr _ _ (by omega) (by omega), cr _ _ (by omega) (by omega), cr _ _ (by omega) (by omega), fun n2 => ⟨cd _ _ (by omega) (by omega), by omega, fin _⟩⟩
def f__law_pick : SpD := fun ds q => ∃ (xs : List D), ds = [.lst xs] ∧ 1 ≤ xs.length ∧ xs.length ≤ 1000 ∧ ∀ x ∈ xs, q x
theorem len__law_pick : ∀ ds q, f__law_pick ds q → ds.length + 1 = P__law_pick.length := by
  rintro ds q ⟨m, rfl, _⟩; rfl
theorem p__law_pick {w : World} {K : PySem.W.Frag} {mg : Str → Option Value} {base : Heap} {Z : ZZ} (T : Top w K mg base Z) : Cl prg w K mg base 2 "_law_pick" (spB Z.C K f__law_pick) := by
  have c__law_take := p__law_take T
  have nd := sc__law_pick.nd
  refine clB_of (k := 1) T.d__law_pick sc__law_pick (by intro kV doc pm an cdv ct us h; match us, h with | [a0, a1], _ => rfl) len__law_pick fun fa cdv A outer s H E hr => ⟨_, (ss_one (sj_ret (ej_ix ix_seq ow_ix (r_ 1) ((ej_callB (i := 0) c__law_take hr (by decide) (by rfl) rfl (by first | exact .inl rfl | exact .inr (.inl rfl) | exact .inr (.inr rfl)) (aj_cons (ej_b1 call_len_seq cw_len (by rfl) T.m_len PySem.boot_len (r_ 1)) aj_nil))).rd))), fun ds q hf => ?_⟩
  obtain ⟨xs, rfl, m1, m9, hq⟩ := hf
  simp [-Bool.exists_bool, and_assoc, ex_not]
  exact ⟨xs.length, rfl, m1, by omega, fun i hi => ⟨_, rfl, xs[i], by rw [atI_nat', List.getElem?_eq_getElem hi], hq _ (List.getElem_mem hi)⟩⟩
theorem lets_len : LETS.length = 26 := by decide +kernel
theorem str_app_len (a b : Str) : (a ++ b).length = a.length + b.length := by rw [str_len, cps_app, List.length_append, ← str_len, ← str_len]
def f__law_names : SpD := fun ds q => ∃ (m : Nat), ds = [.int m] ∧ 1 ≤ m ∧ m ≤ 20 ∧ ∀ ns : List Str, ns.length = m → Nms ns → q (.lst (ns.map D.str))
theorem len__law_names : ∀ ds q, f__law_names ds q → ds.length + 1 = P__law_names.length := by
  rintro ds q ⟨m, rfl, _⟩; rfl
def stNm (m : Nat) (z : Str) (a f st : Nat) (xs : List Str) (c8 c9 : SC) : DS :=
  { s := [.bx, .d (.int m), .d (.str LETS), .d (.str z), .d (.int a), .d (.int f), .d (.int st), .l (xs.map D.str), c8, c9], b0 := false }
theorem p__law_names {w : World} {K : PySem.W.Frag} {mg : Str → Option Value} {base : Heap} {Z : ZZ} (T : Top w K mg base Z) : Cl prg w K mg base 3 "_law_names" (spB Z.C K f__law_names) := by
  have c__law_pick := p__law_pick T
  have c__law_take := p__law_take T
  have nd := sc__law_names.nd
  refine clB_of (k := 2) T.d__law_names sc__law_names (by intro kV doc pm an cdv ct us h; match us, h with | [a0, a1], _ => rfl) len__law_names fun fa cdv A outer s H E hr => ⟨_, (ss_cons (sj_set (as_of (i := 2) nd rfl (by first | exact .inl rfl | exact .inr rfl) ej_str))
  (ss_cons (sj_set (as_of (i := 3) nd rfl (by first | exact .inl rfl | exact .inr rfl) (ej_callB (i := 0) c__law_pick hr (by decide) (by rfl) rfl (by first | exact .inl rfl | exact .inr (.inl rfl) | exact .inr (.inr rfl)) (aj_cons ((ej_lst (aj_cons ej_str (aj_cons ej_str (aj_cons ej_str (aj_cons ej_str (aj_cons ej_str (aj_cons ej_str aj_nil)))))))).dt aj_nil))))
  (ss_cons (sj_parT (is := [4, 5, 6, 7]) rfl (pgs_cons (pg_ 4 nd) (pgs_cons (pg_ 5 nd) (pgs_cons (pg_ 6 nd) (pgs_cons (pg_ 7 nd) pgs_nil)))) (mj_d (ej_callB (i := 0) c__law_take hr (by decide) (by rfl) rfl (by first | exact .inl rfl | exact .inr (.inl rfl) | exact .inr (.inr rfl)) (aj_cons (ej_op op_add ow_i ((ej_b1 call_len_str cw_lenS (by rfl) T.m_len PySem.boot_len (r_ 3))).rd (ej_int).rd) aj_nil)) (mj_d (ej_callB (i := 0) c__law_take hr (by decide) (by rfl) rfl (by first | exact .inl rfl | exact .inr (.inl rfl) | exact .inr (.inr rfl)) (aj_cons ej_int aj_nil)) (mj_d (ej_callB (i := 0) c__law_pick hr (by decide) (by rfl) rfl (by first | exact .inl rfl | exact .inr (.inl rfl) | exact .inr (.inr rfl)) (aj_cons ((ej_lst (aj_cons ej_int (aj_cons ej_int (aj_cons ej_int (aj_cons ej_int aj_nil)))))).dt aj_nil)) (mj_o (ej_lst aj_nil) mj_nil)))) (by decide))
  (ss_cons (sj_for (passes_of rfl) rfl (ij_range (by rfl) T.m_range (r_ 1)) (g_ 8 nd) (ss_one (sj_app (i := 7) rfl (by first | exact .inl rfl | exact .inr (.inl rfl) | exact .inr (.inr rfl)) (ej_op op_add_str ow_adds ((ej_op op_add_str ow_adds ((ej_sl sl_str sw_str (r_ 3) oj_none (oj_some (r_ 4)))).rd ((ej_ix ix_str ow_ixS (r_ 2) ((ej_op op_modN ow_ic ((ej_t1 call_int1 cw_int (by rfl) T.m_int (by decide +kernel) ((ej_op op_add ow_i (r_ 5) ((ej_op op_mul ow_ic (r_ 6) (r_ 8))).rd)).rd)).rd (ej_int).rd)).rd)).rd)).rd ((ej_sl sl_str sw_str (r_ 3) (oj_some (r_ 4)) oj_none)).rd))))
  (ss_cons (sj_set (as_of (i := 9) nd rfl (by first | exact .inl rfl | exact .inr rfl) (ej_callB (i := 0) c__law_take hr (by decide) (by rfl) rfl (by first | exact .inl rfl | exact .inr (.inl rfl) | exact .inr (.inr rfl)) (aj_cons (n_ 1) aj_nil))))
  (ss_cons (sj_if (tj_cmp op_eq ow_eq ((ej_callB (i := 0) c__law_take hr (by decide) (by rfl) rfl (by first | exact .inl rfl | exact .inr (.inl rfl) | exact .inr (.inr rfl)) (aj_cons ej_int aj_nil))).rd (ej_int).rd (nomark _)) (ss_one (sj_put (i := 7) rfl (by first | exact .inl rfl | exact .inr (.inl rfl) | exact .inr (.inr rfl)) (ej_op op_add_str ow_adds ((ej_ix ix_seq ow_ix (r_ 7) (r_ 9))).rd ((ej_ix ix_str ow_ixS (r_ 2) ((ej_callB (i := 0) c__law_take hr (by decide) (by rfl) rfl (by first | exact .inl rfl | exact .inr (.inl rfl) | exact .inr (.inr rfl)) (aj_cons ej_int aj_nil))).rd)).rd) (r_ 9))) ss_nil)
  (ss_frz 7 (ss_one (sj_ret (n_ 7)))))))))), fun ds q hf => ?_⟩
  obtain ⟨m, rfl, m1, m20, hq⟩ := hf
  simp [-Bool.exists_bool, and_assoc, ex_not]
  refine ⟨len_ok (by omega), _, rfl, by simp, by simp, fun x hx => ?_⟩
  obtain ⟨z, hzm, rfl⟩ : ∃ z ∈ (["", "", "b", "so", "kkk", "rig"] : List Str), x = .str z := by
    have hx : x ∈ (["", "", "b", "so", "kkk", "rig"] : List Str).map D.str := hx
    obtain ⟨z, h1, h2⟩ := List.mem_map.mp hx
    exact ⟨z, h1, h2.symm⟩
  have hz := stem_of hzm
  have hz3 := hz.1
  refine ⟨z, rfl, len_ok (by omega), z.length + 1, by simp, by omega, by omega, fun a ha => ⟨26, rfl, by omega, by omega, fun f hf => ⟨len_ok (by omega), _, rfl, by simp, by simp, fun x hx => ?_⟩⟩⟩
  obtain ⟨st, hst, rfl⟩ : ∃ st : Nat, (st = 7 ∨ st = 11 ∨ st = 23 ∨ st = 25) ∧ x = .int st := by
    simp only [List.mem_cons, List.not_mem_nil, or_false] at hx
    rcases hx with rfl | rfl | rfl | rfl
    · exact ⟨7, by simp, rfl⟩
    · exact ⟨11, by simp, rfl⟩
    · exact ⟨23, by simp, rfl⟩
    · exact ⟨25, by simp, rfl⟩
  have ha : a ≤ z.length := by omega
  refine ⟨m, rfl, by omega, ?_⟩
  rw [rgN_dN]
  refine forGo_inv (fun i ds => ∃ c8 c9, ds = stNm m z a f st (namesL z a f st i) c8 c9) _ _ 0 ⟨.no, .no, rfl⟩ ?_ ?_
  · rintro i d _ N hd ⟨c8, c9, rfl⟩ hN
    rw [Nat.zero_add] at hN ⊢
    rw [dN_get] at hd
    obtain ⟨k, hk, rfl⟩ := Option.map_eq_some_iff.mp hd
    have hki : k = i := by
      obtain ⟨h1, h2⟩ := List.getElem?_eq_some_iff.mp hk
      rw [List.getElem_range] at h2; exact h2.symm
    subst hki
    have hkm : k < m := by have := (List.getElem?_eq_some_iff.mp hk).1; simpa using this
    simp [-Bool.exists_bool, and_assoc, ex_not, stNm]
    have hl2 : (f + st * k) % 26 < 26 := Nat.mod_lt _ (by omega)
    have hat : atI LETS.cps.toList (((f : Int) + st * k).fmod 26) = some (97 + (f + st * k) % 26) := by
      rw [Int.fmod_eq_emod_of_nonneg _ (by omega)]
      show atI LETS.cps.toList (((f + st * k) % 26 : Nat) : Int) = _
      rw [atI_nat', lets_at hl2]
    have hnk : (namesL z a f st k).length = k := by unfold namesL; simp
    have c1 : (cutS z none (some (a : Int))).length ≤ z.length := cutS_length _ _ _
    have c2 : (cutS z (some (a : Int)) none).length ≤ z.length := cutS_length _ _ _
    have e1 : ∀ c, (⟨#[c]⟩ : Str).length = 1 := fun _ => rfl
    refine ⟨len_ok (by omega), .inr ⟨by omega, by omega⟩, by rw [lets_len]; exact len_ok (by omega), _, hat, len_ok (by rw [e1]; omega), len_ok (by omega), len_ok (by rw [str_app_len, e1]; omega), by omega, hN _ ⟨.d (.int k), c9, ?_⟩⟩
    unfold stNm
    have e2 : namesL z a f st (k + 1) = namesL z a f st k ++ [nameK z a (97 + (f + st * k) % 26)] := by
      unfold namesL; rw [List.range_succ, List.map_append]; rfl
    rw [e2, List.map_append]
    rfl
  · rintro _ ⟨c8, c9, rfl⟩
    rw [Nat.zero_add, dN_len, List.length_range]
    have hnl : (namesL z a f st m).length = m := by unfold namesL; simp
    simp [-Bool.exists_bool, and_assoc, ex_not, stNm]
    refine ⟨m, rfl, m1, by omega, fun p hp => ⟨2, rfl, by omega, by omega, fun b hb => ⟨.int b, rfl, rfl, ?_⟩⟩⟩
    split
    · obtain ⟨x, hx⟩ : ∃ x, (namesL z a f st m)[p]? = some x := ⟨_, List.getElem?_eq_getElem (by omega)⟩
      refine ⟨p, rfl, .str x, by rw [atI_nat', List.getElem?_map, hx]; rfl, 26, rfl, by omega, by omega, fun l hl => ⟨l, rfl, by rw [lets_len]; exact len_ok (by omega), 97 + l, by rw [atI_nat', lets_at hl], x, rfl, ?_, p, rfl, p, ?_, ?_⟩⟩
      · have hx5 := (namesL_ok hz (f := f) ha m20 hst).2 x (List.mem_of_getElem? hx)
        have := hx5.1
        simp only [D.isName, Bool.and_eq_true, decide_eq_true_eq] at this
        have e1 : (⟨#[97 + l]⟩ : Str).length = 1 := rfl
        exact len_ok (by omega)
      · rw [hnl]; unfold ixN; rw [if_pos (by omega), if_pos (by omega)]; simp
      · rw [← List.map_set]
        exact hq _ (by rw [List.length_set]; exact hnl) (namesL_set hz ha m20 hst hx hl)
    · exact hq _ hnl (namesL_ok hz ha m20 hst)
end G78
namespace G78
open PySem PySem.Spec PyProof.Rows L2
/-- an operation as a list -/
def opL (o : Op) : D := .lst [.str o.nm, .lst (dN o.ends), .lst (dN o.told)]
def rowsL (offs : List (List Op)) : D := .lst (offs.map fun os => .lst (os.map opL))
/-- drawn operations -/
structure Drawn (n : Nat) (names : List Str) (ops : List Op) : Prop where
  nm : ops.map Op.nm = names
  ok : ∀ o ∈ ops, o.Ok n
  told : ∀ o ∈ ops, ∀ t ∈ o.told, t < 3
theorem Drawn.nil (n : Nat) : Drawn n [] [] := ⟨rfl, by simp, by simp⟩
theorem Drawn.add {n : Nat} {names : List Str} {ops : List Op} (h : Drawn n names ops) {o : Op} (ok : o.Ok n) (ht : ∀ t ∈ o.told, t < 3) : Drawn n (names ++ [o.nm]) (ops ++ [o]) := by
  refine ⟨by rw [List.map_append, h.nm]; rfl, fun p hp => ?_, fun p hp => ?_⟩
  · rcases List.mem_append.mp hp with hp | hp
    · exact h.ok p hp
    · simp only [List.mem_singleton] at hp; subst hp; exact ok
  · rcases List.mem_append.mp hp with hp | hp
    · exact h.told p hp
    · simp only [List.mem_singleton] at hp; subst hp; exact ht
/-- numbers drawn below m -/
theorem paired_dN {m : Nat} : ∀ {xs ys : List D}, Paired (fun _ y => ∃ j : Nat, j < m ∧ y = D.int j) xs ys → ∃ l : List Nat, ys = dN l ∧ l.length = xs.length ∧ ∀ x ∈ l, x < m
  | [], _, h => by cases h; exact ⟨[], rfl, rfl, by simp⟩
  | x :: xs, _, h => by
    cases h with
    | cons a b =>
      obtain ⟨l, rfl, h1, h2⟩ := paired_dN b
      obtain ⟨j, hj, rfl⟩ := a
      exact ⟨j :: l, rfl, by simp [h1], fun x hx => (List.mem_cons.mp hx).elim (fun e => e ▸ hj) (h2 x)⟩
theorem lc_take {B : D → List D → (List D → Prop) → Prop} {m : Nat} {xs : List D} {q : List D → Prop} (hl : xs.length ≤ 1000) (h : ∀ x ∈ xs, ∀ acc q, acc.length < 100000 → (∀ j : Nat, j < m → q (acc ++ [D.int j])) → B x acc q)
    (w : ∀ l : List Nat, l.length = xs.length → (∀ x ∈ l, x < m) → q (dN l)) : lcGo B xs [] q := by
  refine lcGo_rel (fun _ y => ∃ j : Nat, j < m ∧ y = D.int j) (by simp; omega) (fun x hx acc q ha hq => h x hx acc q ha fun j hj => hq _ ⟨j, hj, rfl⟩) fun ys hys => ?_
  obtain ⟨l, rfl, h1, h2⟩ := paired_dN hys
  exact w l h1 h2
theorem sum_take_le : ∀ (l : List Nat) (i : Nat), (l.take i).sum ≤ l.sum
  | [], i => by simp
  | x :: l, 0 => by simp
  | x :: l, i + 1 => by
    have := sum_take_le l i
    simp
    omega
def f__law_drawn : SpD := fun ds q => ∃ (ns : List Str) (cs : List Nat) (n : Nat), ds = [.lst (ns.map D.str), .lst (dN cs), .int n] ∧ ns.length = cs.sum ∧ cs.length ≤ 10 ∧ ns.length ≤ 20 ∧ 1 ≤ n ∧ n ≤ 9 ∧
  ∀ offs : List (List Op), offs.length = cs.length → Drawn n ns offs.flatten → q (.lst [.int n, rowsL offs])
theorem len__law_drawn : ∀ ds q, f__law_drawn ds q → ds.length + 1 = P__law_drawn.length := by
  rintro ds q ⟨ns, cs, n, rfl, _⟩; rfl
def stDr (ns : List Str) (cs : List Nat) (n used : Nat) (offs : List (List Op)) (c6 c7 c8 c9 c10 c11 : SC) : DS :=
  { s := [.bx, .d (.lst (ns.map D.str)), .d (.lst (dN cs)), .d (.int n), .d (.int used), .l (offs.map fun os => .lst (os.map opL)), c6, c7, c8, c9, c10, c11], b0 := false }
theorem p__law_drawn {w : World} {K : PySem.W.Frag} {mg : Str → Option Value} {base : Heap} {Z : ZZ} (T : Top w K mg base Z) : Cl prg w K mg base 2 "_law_drawn" (spB Z.C K f__law_drawn) := by
  have c__law_take := p__law_take T
  have nd := sc__law_drawn.nd
  refine clB_of (k := 1) T.d__law_drawn sc__law_drawn (by intro kV doc pm an cdv ct us h; match us, h with | [a0, a1, a2, a3], _ => rfl) len__law_drawn fun fa cdv A outer s H E hr => ⟨_, (ss_cons (sj_par2 (i := 4) (j := 5) rfl nd rfl rfl (by decide) rfl rfl (mj_d ej_int (mj_o (ej_lst aj_nil) mj_nil)) (by rfl))
  (ss_cons (sj_for (passes_of rfl) rfl (ij_list (n_ 2)) (g_ 6 nd) (ss_cons (sj_parT (is := [7, 8]) rfl (pgs_cons (pg_ 7 nd) (pgs_cons (pg_ 8 nd) pgs_nil)) (mj_o (ej_lst aj_nil) (mj_d (ej_op op_add ow_i (ej_int).rd ((ej_callB (i := 0) c__law_take hr (by decide) (by rfl) rfl (by first | exact .inl rfl | exact .inr (.inl rfl) | exact .inr (.inr rfl)) (aj_cons ej_int aj_nil))).rd) mj_nil)) (by decide))
  (ss_cons (sj_for (passes_of rfl) rfl (ij_range (by rfl) T.m_range (r_ 6)) (g_ 9 nd) (ss_cons (sj_set ((as_lc (i := 10) (own := [("_law_state", 11)]) rfl nd rfl rfl (sw_true rfl rfl rfl (by decide +kernel)) (ij_range (by rfl) T.m_range (r_ 3)) (blkOk_by (own := [("_law_state", 11)]) (N := N__law_drawn) (sc := defScope st__law_drawn) (by decide +kernel)) (by decide) (fun _ _ _ _ _ => (g_ 11 nd)) (fun _ _ _ _ _ => ts_nil) (fun _ _ _ _ _ => (ej_callB (i := 0) c__law_take hr (by decide) (by rfl) rfl (by first | exact .inl rfl | exact .inr (.inl rfl) | exact .inr (.inr rfl)) (aj_cons (n_ 3) aj_nil))))).dt)
  (ss_cons (sj_app (i := 7) rfl (by first | exact .inl rfl | exact .inr (.inl rfl) | exact .inr (.inr rfl)) ((ej_lst (aj_cons (ej_ix ix_seq ow_ix (r_ 1) (r_ 4)) (aj_cons (n_ 10) (aj_cons ((ej_lc (own := [("_law_state", 11)]) rfl nd (ij_range (by rfl) T.m_range (r_ 3)) (blkOk_by (own := [("_law_state", 11)]) (N := N__law_drawn) (sc := defScope st__law_drawn) (by decide +kernel)) (by decide) (fun _ _ _ _ _ => (g_ 11 nd)) (fun _ _ _ _ _ => ts_nil) (fun _ _ _ _ _ => (ej_callB (i := 0) c__law_take hr (by decide) (by rfl) rfl (by first | exact .inl rfl | exact .inr (.inl rfl) | exact .inr (.inr rfl)) (aj_cons (n_ 8) aj_nil))))).dt aj_nil))))).dt)
  (ss_one (sj_set (as_of (i := 4) nd rfl (by first | exact .inl rfl | exact .inr rfl) (ej_op op_add ow_i (r_ 4) (ej_int).rd)))))))
  (ss_frz 7 (ss_one (sj_app (i := 5) rfl (by first | exact .inl rfl | exact .inr (.inl rfl) | exact .inr (.inr rfl)) (n_ 7)))))))
  (ss_frz 5 (ss_one (sj_ret ((ej_lst (aj_cons (n_ 3) (aj_cons (n_ 5) aj_nil)))).dt))))), fun ds q hf => ?_⟩
  obtain ⟨ns, cs, n, rfl, hl, c10, n20, n1, n9, hq⟩ := hf
  simp [-Bool.exists_bool, and_assoc, ex_not]
  refine forGo_inv (fun i ds => ∃ (offs : List (List Op)) (c6 c7 c8 c9 c10 c11 : SC), ds = stDr ns cs n (cs.take i).sum offs c6 c7 c8 c9 c10 c11 ∧ offs.length = i ∧ Drawn n (ns.take (cs.take i).sum) offs.flatten) _ _ 0 ⟨[], .no, .no, .no, .no, .no, .no, rfl, rfl, by simpa using Drawn.nil n⟩ ?_ ?_
  · rintro i d _ N hd ⟨offs, c6, c7, c8, c9, c10, c11, rfl, ho, hdr⟩ hN
    rw [Nat.zero_add] at hN ho hdr
    rw [Nat.zero_add]
    rw [dN_get] at hd
    obtain ⟨c, hc, rfl⟩ := Option.map_eq_some_iff.mp hd
    have hsum : (cs.take (i + 1)).sum = (cs.take i).sum + c := by rw [List.take_add_one, hc]; simp
    have hle := sum_take_le cs (i + 1)
    obtain ⟨u, hu⟩ : ∃ u, u = (cs.take i).sum := ⟨_, rfl⟩
    rw [hsum] at hN hle
    rw [← hu] at hN hle hdr ⊢
    have hi := (List.getElem?_eq_some_iff.mp hc).1
    simp [-Bool.exists_bool, and_assoc, ex_not, stDr]
    refine ⟨3, rfl, by omega, by omega, fun mo hmo => ⟨mo, rfl, c, rfl, by omega, ?_⟩⟩
    rw [rgN_dN]
    refine forGo_inv (fun j ds => ∃ (os : List Op) (d9 d10 d11 : SC), ds = { s := [.bx, .d (.lst (ns.map D.str)), .d (.lst (dN cs)), .d (.int n), .d (.int (u + j : Nat)), .l (offs.map fun os => .lst (os.map opL)), .d (.int c), .l (os.map opL), .d (.int (1 + mo : Nat)), d9, d10, d11], b0 := false } ∧
      os.length = j ∧ Drawn n (ns.take (u + j)) (offs.flatten ++ os)) _ _ 0 ⟨[], c9, c10, c11, by simp, rfl, by simpa using hdr⟩ ?_ ?_
    · rintro j d _ N2 hd2 ⟨os, d9, d10, d11, rfl, hj, hdr2⟩ hN2
      rw [Nat.zero_add] at hN2 hj hdr2
      rw [Nat.zero_add]
      have hjc : j < c := by have := (List.getElem?_eq_some_iff.mp hd2).1; simpa using this
      obtain ⟨nm, hnm⟩ : ∃ nm, ns[u + j]? = some nm := ⟨_, List.getElem?_eq_getElem (by omega)⟩
      simp [-Bool.exists_bool, and_assoc, ex_not]
      refine ⟨n, rfl, by omega, ?_⟩
      rw [rgN_dN]
      refine lc_take (m := n) (by simp; omega) (fun x hx acc q' hacc hq' => ?_) fun ends he1 he2 => ?_
      · simp [-Bool.exists_bool, and_assoc, ex_not]
        exact ⟨n, rfl, by omega, by omega, fun j hj => ⟨hacc, hq' j hj⟩⟩
      refine ⟨.str nm, by rw [show (u : Int) + j = ((u + j : Nat) : Int) by omega, atI_nat', List.getElem?_map, hnm]; rfl, n, rfl, by omega, ?_⟩
      rw [rgN_dN]
      refine lc_take (m := 1 + mo) (by simp; omega) (fun x hx acc q' hacc hq' => ?_) fun told ht1 ht2 => ?_
      · simp [-Bool.exists_bool, and_assoc, ex_not]
        exact ⟨1 + mo, by simp, by omega, by omega, fun j hj => ⟨hacc, hq' j hj⟩⟩
      rw [dN_len, List.length_range] at he1 ht1
      refine ⟨len_ok (by omega), by omega, hN2 _ ⟨os ++ [⟨nm, ends, told⟩], .d d, .d (.lst (dN ends)), d11, ?_, by simp [hj], ?_⟩⟩
      · simp [opL, Nat.add_assoc, Int.add_assoc]
      · rw [← Nat.add_assoc, List.take_add_one, hnm, ← List.append_assoc]
        exact Drawn.add (o := ⟨nm, ends, told⟩) hdr2 ⟨he1, ht1, he2⟩ fun t ht => by have := ht2 t ht; omega
    · rintro _ ⟨os, d9, d10, d11, rfl, hj, hdr2⟩
      rw [Nat.zero_add, dN_len, List.length_range] at hj hdr2
      simp [-Bool.exists_bool, and_assoc, ex_not]
      refine ⟨by omega, hN _ ⟨offs ++ [os], .d (.int c), .d (.lst (os.map opL)), .d (.int (1 + mo)), d9, d10, d11, ?_, by simp [ho], by simpa using hdr2⟩⟩
      simp [stDr]
  · rintro _ ⟨offs, c6, c7, c8, c9, c10, c11, rfl, ho, hdr⟩
    rw [Nat.zero_add, dN_len] at ho hdr
    rw [List.take_length, ← hl, List.take_length] at hdr
    simp [stDr]
    exact ⟨len_ok (by omega), hq offs ho hdr⟩
/-- the shape of what the law builds -/
structure Shape (n : Nat) (names : List Str) (ops : List Op) : Prop where
  nm : ops.map Op.nm = names
  ok : ∀ o ∈ ops, o.Ok n
  told : ∀ o ∈ ops, ∀ t ∈ o.told, t < 100000000003
theorem Shape.nil (n : Nat) : Shape n [] [] := ⟨rfl, by simp, by simp⟩
theorem Shape.add {n : Nat} {names : List Str} {ops : List Op} (h : Shape n names ops) {o : Op} (ok : o.Ok n) (ht : ∀ t ∈ o.told, t < 100000000003) : Shape n (names ++ [o.nm]) (ops ++ [o]) := by
  refine ⟨by rw [List.map_append, h.nm]; rfl, fun p hp => ?_, fun p hp => ?_⟩
  · rcases List.mem_append.mp hp with hp | hp
    · exact h.ok p hp
    · simp only [List.mem_singleton] at hp; subst hp; exact ok
  · rcases List.mem_append.mp hp with hp | hp
    · exact h.told p hp
    · simp only [List.mem_singleton] at hp; subst hp; exact ht
def f__law_renumbered : SpD := fun ds q => ∃ (n : Nat) (offs : List (List Op)), ds = [.int n, rowsL offs] ∧ 1 ≤ n ∧ n ≤ 9 ∧ offs.length ≤ 10 ∧ (∀ os ∈ offs, os.length ≤ 100) ∧ Drawn n (offs.flatten.map Op.nm) offs.flatten ∧
  ∀ offs2 : List (List Op), offs2.map (·.map Op.nm) = offs.map (·.map Op.nm) → Shape n (offs.flatten.map Op.nm) offs2.flatten → q (.lst [.int n, offD offs2])
theorem len__law_renumbered : ∀ ds q, f__law_renumbered ds q → ds.length + 1 = P__law_renumbered.length := by
  rintro ds q ⟨n, offs, rfl, _⟩; rfl
theorem map_erase {α β : Type} (f : α → β) : ∀ (l : List α) (k : Nat), (l.map f).eraseIdx k = (l.eraseIdx k).map f
  | [], _ => rfl
  | _ :: _, 0 => rfl
  | x :: l, k + 1 => by simp [List.eraseIdx, map_erase f l k]
def stRe (n : Nat) (offs : List (List Op)) (left order : List Nat) (found : List (List Op)) (c6 c7 c8 c9 c10 c11 c12 c13 c14 c15 : SC) : DS :=
  { s := [.bx, .d (.int n), .d (rowsL offs), .l (dN left), .l (dN order), .l (found.map fun os => .tup (os.map Op.D)), c6, c7, c8, c9, c10, c11, c12, c13, c14, c15], b0 := false }
theorem p__law_renumbered {w : World} {K : PySem.W.Frag} {mg : Str → Option Value} {base : Heap} {Z : ZZ} (T : Top w K mg base Z) : Cl prg w K mg base 3 "_law_renumbered" (spB Z.C K f__law_renumbered) := by
  have c__law_pick := p__law_pick T
  have c__law_take := p__law_take T
  have nd := sc__law_renumbered.nd
  refine clB_of (k := 2) T.d__law_renumbered sc__law_renumbered (by intro kV doc pm an cdv ct us h; match us, h with | [a0, a1, a2], _ => rfl) len__law_renumbered fun fa cdv A outer s H E hr => ⟨_, (ss_cons (sj_par3 (i := 3) (j := 4) (l := 5) rfl nd rfl rfl rfl (by decide) (by decide) (by decide) rfl rfl rfl (mj_o (ej_listRg rfl (by rfl) T.m_list (by rfl) T.m_range (r_ 1)) (mj_o (ej_lst aj_nil) (mj_o (ej_lst aj_nil) mj_nil))) (by rfl))
  (ss_cons (sj_for (passes_of rfl) rfl (ij_range (by rfl) T.m_range (r_ 1)) (g_ 6 nd) (ss_one (sj_apppop (i := 4) (j := 3) rfl (by first | exact .inl rfl | exact .inr (.inl rfl) | exact .inr (.inr rfl)) rfl (by first | exact .inl rfl | exact .inr (.inl rfl) | exact .inr (.inr rfl)) ((ej_callB (i := 0) c__law_take hr (by decide) (by rfl) rfl (by first | exact .inl rfl | exact .inr (.inl rfl) | exact .inr (.inr rfl)) (aj_cons (ej_b1 call_len_seq cw_len (by rfl) T.m_len PySem.boot_len (r_ 3)) aj_nil))).rd)))
  (ss_cons (sj_set (as_of (i := 7) nd rfl (by first | exact .inl rfl | exact .inr rfl) (ej_callB (i := 0) c__law_pick hr (by decide) (by rfl) rfl (by first | exact .inl rfl | exact .inr (.inl rfl) | exact .inr (.inr rfl)) (aj_cons ((ej_lst (aj_cons ej_int (aj_cons ej_int (aj_cons ej_int (aj_cons (ej_op op_pow ow_ic (ej_int).rd (ej_int).rd) aj_nil)))))).dt aj_nil))))
  (ss_cons (sj_for (passes_of rfl) rfl (ij_list (n_ 2)) (g_ 8 nd) (ss_cons (sj_own (as_of (i := 9) nd rfl (by first | exact .inl rfl | exact .inr rfl) (ej_lst aj_nil)))
  (ss_cons (sj_for (passes_of rfl) rfl (ij_list (n_ 8)) (gj_lst (n := 3) rfl (gjs_cons (g_ 10 nd) (gjs_cons (g_ 11 nd) (gjs_cons (g_ 12 nd) gjs_nil)))) (ss_cons (sj_par2 (i := 13) (j := 14) rfl nd rfl rfl (by decide) rfl rfl (mj_o (ej_op op_rep ow_rep ((ej_lst (aj_cons ej_int aj_nil))).dt.rd (r_ 1)) (mj_o (ej_op op_rep ow_rep ((ej_lst (aj_cons ej_int aj_nil))).dt.rd (r_ 1)) mj_nil)) (by rfl))
  (ss_cons (sj_for (passes_of rfl) rfl (ij_range (by rfl) T.m_range (r_ 1)) (g_ 15 nd) (ss_cons (sj_put (i := 13) rfl (by first | exact .inl rfl | exact .inr (.inl rfl) | exact .inr (.inr rfl)) (ej_ix ix_seq ow_ix (r_ 4) ((ej_ix ix_seq ow_ix (r_ 11) (r_ 15))).rd) ((ej_ix ix_seq ow_ix (r_ 4) (r_ 15))).rd)
  (ss_one (sj_put (i := 14) rfl (by first | exact .inl rfl | exact .inr (.inl rfl) | exact .inr (.inr rfl)) (ej_op op_add ow_i ((ej_ix ix_seq ow_ix (r_ 12) (r_ 15))).rd (r_ 7)) ((ej_ix ix_seq ow_ix (r_ 4) (r_ 15))).rd))))
  (ss_one (sj_app (i := 9) rfl (by first | exact .inl rfl | exact .inr (.inl rfl) | exact .inr (.inr rfl)) (ej_tup (aj_cons (n_ 10) (aj_cons (ej_t1 call_tuple_of cw_tuple (by rfl) T.m_tuple (by decide +kernel) (r_ 13)) (aj_cons (ej_t1 call_tuple_of cw_tuple (by rfl) T.m_tuple (by decide +kernel) (r_ 14)) aj_nil)))))))))
  (ss_one (sj_app (i := 5) rfl (by first | exact .inl rfl | exact .inr (.inl rfl) | exact .inr (.inr rfl)) (ej_t1 call_tuple_of cw_tuple (by rfl) T.m_tuple (by decide +kernel) (r_ 9)))))))
  (ss_one (sj_ret ((ej_lst (aj_cons (n_ 1) (aj_cons (ej_t1 call_tuple_of cw_tuple (by rfl) T.m_tuple (by decide +kernel) (r_ 5)) aj_nil)))).dt)))))), fun ds q hf => ?_⟩
  obtain ⟨n, offs, rfl, n1, n9, o10, os100, hdr, hq⟩ := hf
  simp [-Bool.exists_bool, and_assoc, ex_not]
  refine ⟨n, rfl, by omega, n, rfl, by omega, ?_⟩
  rw [rgN_dN]
  refine forGo_inv (fun i ds => ∃ (left order : List Nat) (c6 : SC), ds = stRe n offs left order [] c6 .no .no .no .no .no .no .no .no .no ∧ left.length + i = n ∧ order.length = i ∧ (∀ x ∈ left, x < n) ∧ ∀ x ∈ order, x < n) _ _ 0 ⟨List.range n, [], .no, rfl, by simp, rfl, fun x hx => List.mem_range.mp hx, by simp⟩ ?_ ?_
  · rintro i d _ N hd ⟨left, order, c6, rfl, h1, h2, h3, h4⟩ hN
    rw [Nat.zero_add] at hN h1 h2
    have hin : i < n := by have := (List.getElem?_eq_some_iff.mp hd).1; simpa using this
    simp [-Bool.exists_bool, and_assoc, ex_not, stRe]
    refine ⟨left.length, rfl, by omega, by omega, fun k hk => ?_⟩
    obtain ⟨z, hz⟩ : ∃ z, left[k]? = some z := ⟨_, List.getElem?_eq_getElem hk⟩
    have hzn := h3 z (List.mem_of_getElem? hz)
    refine ⟨k, rfl, by omega, .int z, ⟨z, hz, rfl⟩, by omega, hN _ ⟨left.eraseIdx k, order ++ [z], .d d, ?_, ?_, by simp [h2], fun x hx => h3 x ((List.eraseIdx_sublist _ _).mem hx), fun x hx => ?_⟩⟩
    · unfold stRe
      simp [dN, map_erase]
    · rw [List.length_eraseIdx_of_lt hk]; omega
    · rcases List.mem_append.mp hx with h | h
      · exact h4 x h
      · simp only [List.mem_singleton] at h; subst h; exact hzn
  · rintro _ ⟨left, order, c6, rfl, h1, h2, h3, h4⟩
    rw [Nat.zero_add, dN_len, List.length_range] at h2
    simp [-Bool.exists_bool, and_assoc, ex_not, stRe]
    refine ⟨by unfold CPow; decide, len_ok (by omega), _, rfl, by simp, by simp, fun x hx => ?_⟩
    obtain ⟨r, hr9, rfl⟩ : ∃ r : Nat, r ≤ 100000000000 ∧ x = .int r := by
      simp only [List.mem_cons, List.not_mem_nil, or_false] at hx
      rcases hx with rfl | rfl | rfl | rfl
      · exact ⟨0, by omega, rfl⟩
      · exact ⟨0, by omega, rfl⟩
      · exact ⟨7, by omega, rfl⟩
      · exact ⟨100000000000, by omega, rfl⟩
    refine ⟨_, rfl, ?_⟩
    refine forGo_inv (fun i ds => ∃ (found : List (List Op)) (c6 c8 c9 c10 c11 c12 c13 c14 c15 : SC), ds = stRe n offs left order found c6 (.d (.int r)) c8 c9 c10 c11 c12 c13 c14 c15 ∧ found.map (·.map Op.nm) = (offs.take i).map (·.map Op.nm) ∧ Shape n ((offs.take i).flatten.map Op.nm) found.flatten) _ _ 0 ⟨[], c6, .no, .no, .no, .no, .no, .no, .no, .no, rfl, by simp, by simpa using Shape.nil n⟩ ?_ ?_
    · rintro i d _ N hd ⟨found, c6, c8, c9, c10, c11, c12, c13, c14, c15, rfl, g1, g2⟩ hN
      rw [Nat.zero_add] at hN g1 g2
      rw [List.getElem?_map] at hd
      obtain ⟨os, hos, rfl⟩ := Option.map_eq_some_iff.mp hd
      have hosm := List.mem_of_getElem? hos
      simp [-Bool.exists_bool, and_assoc, ex_not, stRe]
      refine forGo_inv (fun j ds => ∃ (os2 : List Op) (d10 d11 d12 d13 d14 d15 : SC), ds = { s := [.bx, .d (.int n), .d (rowsL offs), .l (dN left), .l (dN order), .l (found.map fun os => .tup (os.map Op.D)), c6, .d (.int r), .d (.lst (os.map opL)), .l (os2.map Op.D), d10, d11, d12, d13, d14, d15], b0 := false } ∧
        Shape n ((os.take j).map Op.nm) os2) _ _ 0 ⟨[], c10, c11, c12, c13, c14, c15, rfl, by simpa using Shape.nil n⟩ ?_ ?_
      · rintro j d _ N2 hd2 ⟨os2, d10, d11, d12, d13, d14, d15, rfl, k1⟩ hN2
        rw [Nat.zero_add] at hN2 k1
        rw [List.getElem?_map] at hd2
        obtain ⟨o, ho, rfl⟩ := Option.map_eq_some_iff.mp hd2
        have hom : o ∈ offs.flatten := List.mem_flatten.mpr ⟨os, hosm, List.mem_of_getElem? ho⟩
        have hok := hdr.ok o hom
        have hto := hdr.told o hom
        have hj2 : os2.length = j := by
          have := congrArg List.length k1.nm
          have h5 := (List.getElem?_eq_some_iff.mp ho).1
          simp at this
          omega
        have hj100 := os100 os hosm
        have hjos := (List.getElem?_eq_some_iff.mp ho).1
        simp [-Bool.exists_bool, and_assoc, ex_not, opL]
        have e0 : List.replicate n (D.int 0) = dN (List.replicate n 0) := by unfold dN; rw [List.map_replicate]; rfl
        refine ⟨len_ok (by omega), n, rfl, by omega, len_ok (by omega), n, rfl, by omega, n, rfl, by omega, ?_⟩
        rw [rgN_dN, e0]
        refine forGo_inv (fun k ds => ∃ (e t : List Nat) (d15 : SC), ds = { s := [.bx, .d (.int n), .d (rowsL offs), .l (dN left), .l (dN order), .l (found.map fun os => .tup (os.map Op.D)), c6, .d (.int r), .d (.lst (os.map opL)), .l (os2.map Op.D), .d (.str o.nm), .d (.lst (dN o.ends)), .d (.lst (dN o.told)), .l (dN e), .l (dN t), d15], b0 := false } ∧
          e.length = n ∧ t.length = n ∧ (∀ x ∈ e, x < n) ∧ ∀ x ∈ t, x < 100000000003) _ _ 0 ⟨List.replicate n 0, List.replicate n 0, d15, rfl, by simp, by simp, fun x hx => by rw [List.eq_of_mem_replicate hx]; omega, fun x hx => by rw [List.eq_of_mem_replicate hx]; omega⟩ ?_ ?_
        · rintro k d _ N3 hd3 ⟨e, t, d15, rfl, l1, l2, l3, l4⟩ hN3
          rw [dN_get] at hd3
          obtain ⟨k', hk', rfl⟩ := Option.map_eq_some_iff.mp hd3
          have hkn : k' < n := List.mem_range.mp (List.mem_of_getElem? hk')
          have oe := hok.e hkn
          have ot := hok.t hkn
          obtain ⟨p, hp⟩ : ∃ p, order[k']? = some p := ⟨_, List.getElem?_eq_getElem (by omega)⟩
          obtain ⟨p2, hp2⟩ : ∃ p2, order[o.e k']? = some p2 := ⟨_, List.getElem?_eq_getElem (by omega)⟩
          have hpn := h4 p (List.mem_of_getElem? hp)
          have hpn2 := h4 p2 (List.mem_of_getElem? hp2)
          have hix : ixN n (p : Int) = some p := by unfold ixN; rw [if_pos (by omega), if_pos (by omega)]; simp
          have htk := hto _ (List.mem_of_getElem? ot)
          simp [-Bool.exists_bool, and_assoc, ex_not, oe.1, ot, hp, hp2, l1, l2, hix]
          refine hN3 _ ⟨e.set p p2, t.set p (o.t k' + r), .d (.int k'), ?_, by simpa using l1, by simpa using l2, fun x hx => ?_, fun x hx => ?_⟩
          · simp [dN, List.map_set]
          · rcases List.mem_or_eq_of_mem_set hx with h | rfl
            · exact l3 x h
            · exact hpn2
          · rcases List.mem_or_eq_of_mem_set hx with h | rfl
            · exact l4 x h
            · omega
        · rintro _ ⟨e, t, d15, rfl, l1, l2, l3, l4⟩
          simp [-Bool.exists_bool, and_assoc, ex_not]
          refine ⟨len_ok (by omega), by omega, hN2 _ ⟨os2 ++ [⟨o.nm, e, t⟩], .d (.str o.nm), .d (.lst (dN o.ends)), .d (.lst (dN o.told)), .l (dN e), .l (dN t), d15, ?_, ?_⟩⟩
          · simp [Op.D]
          · rw [List.take_add_one, ho, List.map_append]
            exact Shape.add (o := ⟨o.nm, e, t⟩) k1 ⟨l1, l2, l3⟩ l4
      · rintro _ ⟨os2, d10, d11, d12, d13, d14, d15, rfl, k1⟩
        rw [Nat.zero_add, List.length_map, List.take_length] at k1
        simp [-Bool.exists_bool, and_assoc, ex_not]
        have hfl : found.length ≤ offs.length := by
          have := congrArg List.length g1
          simp at this
          omega
        refine ⟨by omega, hN _ ⟨found ++ [os2], c6, .d (.lst (os.map opL)), .l (os2.map Op.D), d10, d11, d12, d13, d14, d15, ?_, ?_, ?_⟩⟩
        · simp [stRe]
        · rw [List.map_append, g1, List.take_add_one, hos, List.map_append]
          simp [k1.nm]
        · rw [List.take_add_one, hos]
          refine ⟨?_, fun o ho => ?_, fun o ho => ?_⟩
          · simp only [List.flatten_append, List.map_append, g2.nm]
            simp [k1.nm]
          · rw [List.flatten_append] at ho
            rcases List.mem_append.mp ho with h | h
            · exact g2.ok o h
            · exact k1.ok o (by simpa using h)
          · rw [List.flatten_append] at ho
            rcases List.mem_append.mp ho with h | h
            · exact g2.told o h
            · exact k1.told o (by simpa using h)
    · rintro _ ⟨found, c6, c8, c9, c10, c11, c12, c13, c14, c15, rfl, g1, g2⟩
      rw [Nat.zero_add, List.length_map, List.take_length] at g1 g2
      simp [-Bool.exists_bool, and_assoc, ex_not, stRe]
      exact ⟨len_ok (by omega), hq found g1 g2⟩
end G78
namespace G78
open PySem PySem.Spec PyProof.Rows L2
/-! ### what the law itself computes -/
def othI (offs : List (List Op)) (k : Int) : List Op := flatOps offs ((List.range offs.length).filter fun j : Nat => decide ((j : Int) ≠ k))
theorem othI_nat (offs : List (List Op)) (k : Nat) : othI offs k = othOps offs k := by
  unfold othI othOps others
  congr 1
  refine List.filter_congr fun j _ => ?_
  rw [decide_eq_decide]
  omega
theorem range_getD {α : Type} (l : List α) (d : α) : (List.range l.length).map (fun i => l.getD i d) = l := by
  refine List.ext_getElem (by simp) fun i h1 h2 => ?_
  rw [List.getElem_map, List.getElem_range, List.getD_eq_getElem?_getD, List.getElem?_eq_getElem h2]
  rfl
theorem othI_neg (offs : List (List Op)) {k : Int} (h : k < 0) : othI offs k = offs.flatten := by
  unfold othI flatOps
  have e : (List.range offs.length).filter (fun j : Nat => decide ((j : Int) ≠ k)) = List.range offs.length := List.filter_eq_self.mpr fun j _ => by rw [decide_eq_true_eq]; omega
  rw [e, List.flatMap_def, range_getD]
theorem mem_othI {offs : List (List Op)} {k : Int} {o : Op} (h : o ∈ othI offs k) : o ∈ offs.flatten := by
  obtain ⟨j, _, hj⟩ := List.mem_flatMap.mp h
  rw [List.getD_eq_getElem?_getD] at hj
  cases e : offs[j]? with
  | none => rw [e] at hj; cases hj
  | some os => rw [e] at hj; exact List.mem_flatten.mpr ⟨os, List.mem_of_getElem? e, hj⟩
theorem mem_othOps {offs : List (List Op)} {k : Nat} {o : Op} (h : o ∈ othOps offs k) : o ∈ offs.flatten := by
  rw [← othI_nat] at h; exact mem_othI h
theorem flatten_few {offs : List (List Op)} {m : Nat} (h : offs.flatten.length ≤ m) : ∀ os ∈ offs, os.length ≤ m := fun os ho => by
  have : os.length ≤ offs.flatten.length := (List.sublist_flatten_of_mem ho).length_le
  omega
theorem OffsOk.sok {n : Nat} {offs : List (List Op)} (h : OffsOk n offs) : SOk n offs :=
  ⟨h.n1, h.n9, h.m8, fun os hs o ho => h.ok o (List.mem_flatten.mpr ⟨os, hs, ho⟩), flatten_few h.few⟩
theorem OffsOk.oth {n : Nat} {offs : List (List Op)} (h : OffsOk n offs) (k : Nat) : ∀ o ∈ othOps offs k, o.Ok n := fun o ho => h.ok o (mem_othOps ho)
theorem SOk.othLen {n : Nat} {offs : List (List Op)} (h : SOk n offs) (k : Nat) : (othOps offs k).length ≤ 320 := by
  have h1 := flat_len h.few (others offs.length k)
  have h2 := others_len offs.length k
  have h3 := h.m
  unfold othOps
  omega
structure RowsOk (os : List Op) (n : Nat) (rows : List (List Nat)) : Prop where
  len : rows.length = n
  le : ∀ (s : Nat) (r : List Nat), rows[s]? = some r → r.length ≤ n
  mem : ∀ (s : Nat) (r : List Nat), rows[s]? = some r → ∀ x, x ∈ r ↔ Reach os s x
theorem known_nil {os : List Op} {n s : Nat} (sy : Sym os n) (hs : s < n) : known os s = [] ↔ ∀ x, Reach os s x → s ≤ x := by
  constructor
  · intro h x hx
    refine Nat.le_of_not_lt fun hlt => ?_
    have : x ∈ known os s := by
      unfold known
      rw [List.mem_filter, List.mem_range]
      refine ⟨hlt, ?_⟩
      unfold mutB
      rw [Bool.and_eq_true, reachB_iff, reachB_iff]
      exact ⟨sy s hs x hx, hx⟩
    rw [h] at this
    cases this
  · intro h
    refine List.eq_nil_iff_forall_not_mem.mpr fun x hx => ?_
    have h1 := known_lt hx
    unfold known at hx
    have hx := (List.mem_filter.mp hx).2
    unfold mutB at hx
    rw [Bool.and_eq_true, reachB_iff, reachB_iff] at hx
    have := h x hx.2
    omega
theorem bases_ne {os : List Op} {n : Nat} (h : 1 ≤ n) : bases os n ≠ [] := by
  have : 0 ∈ bases os n := mem_bases.mpr ⟨h, rfl⟩
  intro e
  rw [e] at this
  cases this
open Classical in
noncomputable def fitB (os : List Op) (n : Nat) (l : List Nat) : Bool := decide (Fit os n (at0 l))
theorem fitB_iff {os : List Op} {n : Nat} {l : List Nat} : fitB os n l = true ↔ Fit os n (at0 l) := by unfold fitB; simp
theorem fitB_no {os : List Op} {n : Nat} {l : List Nat} : fitB os n l = false ↔ ¬ Fit os n (at0 l) := by rw [← fitB_iff]; simp
/-- each number has its ends -/
theorem bases_nd (os : List Op) (n : Nat) : (bases os n).Nodup := List.nodup_range.filter _
theorem chs_fst_nd (os : List Op) (n k : Nat) : ((chs os n (bases os n).reverse k).map (·.1)).Nodup := by
  rw [chs_fst]
  exact List.pairwise_reverse.mpr ((bases_nd os n).imp Ne.symm)
theorem nd_fst {α : Type} {l : List (Nat × α)} (nd : (l.map (·.1)).Nodup) {p q : Nat × α} (hp : p ∈ l) (hq : q ∈ l) (e : p.1 = q.1) : p = q := by
  obtain ⟨a, x⟩ := p
  obtain ⟨b, y⟩ := q
  simp only at e
  subst e
  have h1 := lookup_nd nd hp
  have h2 := lookup_nd nd hq
  rw [h1] at h2
  cases h2
  rfl
theorem ends_ex {os : List Op} {n k : Nat} (ok : ∀ o ∈ os, o.Ok n) (sy : Sym os n) (hk : k < countG os n) : ∃ ends, EndsAt os n k ends := by
  have hp : ∀ b ∈ (bases os n).reverse, 0 < (goals os n b).length := fun b hb => goals_pos ok (bases_lt (List.mem_reverse.mp hb))
  have ex : ∀ s, s < n → ∃ y, ∃ p ∈ chs os n (bases os n).reverse k, PR os p.1 p.2 s y := fun s hs => by
    obtain ⟨b, hb, h1, _⟩ := base_of (os := os) s hs
    have hb' : b ∈ (chs os n (bases os n).reverse k).map (·.1) := by rw [chs_fst]; exact List.mem_reverse.mpr hb
    obtain ⟨p, hp1, rfl⟩ := List.mem_map.mp hb'
    obtain ⟨y, hy⟩ := PR.of_reach (g := p.2) h1
    exact ⟨y, p, hp1, hy⟩
  obtain ⟨F, hF⟩ : ∃ F : Nat → Nat, ∀ s, s < n → ∃ p ∈ chs os n (bases os n).reverse k, PR os p.1 p.2 s (F s) := by
    classical
    refine ⟨fun s => if h : s < n then (ex s h).choose else 0, fun s hs => ?_⟩
    simp only [dif_pos hs]
    exact (ex s hs).choose_spec
  refine ⟨(List.range n).map F, endsAt_of ok hk (by simp) fun p hpm s y hpr => ?_⟩
  have hpb : p.1 ∈ bases os n := by
    have : p.1 ∈ (chs os n (bases os n).reverse k).map (·.1) := List.mem_map_of_mem hpm
    rw [chs_fst] at this
    exact List.mem_reverse.mp this
  have hg := mem_goals.mp (chs_good hp p hpm)
  have hs := (hpr.lt ok (bases_lt hpb) hg.1).1
  obtain ⟨p', hp', hpr'⟩ := hF s hs
  have hpb' : p'.1 ∈ bases os n := by
    have : p'.1 ∈ (chs os n (bases os n).reverse k).map (·.1) := List.mem_map_of_mem hp'
    rw [chs_fst] at this
    exact List.mem_reverse.mp this
  have e := base_uniq ok sy hpb hpb' hpr.reach.1 hpr'.reach.1
  have e2 := nd_fst (chs_fst_nd os n k) hpm hp' e
  subst e2
  rw [List.getElem?_map, List.getElem?_range hs, Option.map_some, hg.2.1 _ _ _ hpr hpr']
/-- ends that fit have numbers -/
theorem EndsAt.of_fit {os : List Op} {n : Nat} {l : List Nat} (hl : l.length = n) (h : Fit os n (at0 l)) : EndsAt os n (numR os n (at0 l) (bases os n).reverse) l := ⟨hl, h, rfl⟩
/-! ### the order of rows -/
theorem goals_idx {os : List Op} {n b x y : Nat} (hx : x ∈ goals os n b) (hy : y ∈ goals os n b) (h : (goals os n b).idxOf x < (goals os n b).idxOf y) : x < y := by
  have h1 := List.idxOf_lt_length_of_mem hx
  have h2 := List.idxOf_lt_length_of_mem hy
  have := List.pairwise_iff_getElem.mp ((range_rise n).filter (goodB os b)) _ _ h1 h2 h
  have e1 : (goals os n b)[(goals os n b).idxOf x] = x := List.getElem_idxOf h1
  have e2 : (goals os n b)[(goals os n b).idxOf y] = y := List.getElem_idxOf h2
  have this : (goals os n b)[(goals os n b).idxOf x] < (goals os n b)[(goals os n b).idxOf y] := this
  rw [e1, e2] at this
  exact this
theorem numR_lex {os : List Op} {n : Nat} {f g : Nat → Nat} : ∀ {r : List Nat}, (∀ b ∈ r, f b ∈ goals os n b) → (∀ b ∈ r, g b ∈ goals os n b) → numR os n f r < numR os n g r → ∃ post b pre, r = post ++ b :: pre ∧ (∀ c ∈ pre, f c = g c) ∧ f b < g b
  | [], _, _, h => absurd h (Nat.lt_irrefl 0)
  | c :: r, hf, hg, h => by
    have hf' : ∀ b ∈ r, f b ∈ goals os n b := fun b hb => hf b (List.mem_cons_of_mem _ hb)
    have hg' : ∀ b ∈ r, g b ∈ goals os n b := fun b hb => hg b (List.mem_cons_of_mem _ hb)
    have fc := hf c List.mem_cons_self
    have gc := hg c List.mem_cons_self
    rw [numR, numR] at h
    have i1 := List.idxOf_lt_length_of_mem fc
    have i2 := List.idxOf_lt_length_of_mem gc
    rcases Nat.lt_trichotomy (numR os n f r) (numR os n g r) with hl | he | hl
    · obtain ⟨post, b, pre, rfl, h1, h2⟩ := numR_lex hf' hg' hl
      exact ⟨c :: post, b, pre, rfl, h1, h2⟩
    · rw [he] at h
      refine ⟨[], c, r, rfl, ?_, goals_idx fc gc (by omega)⟩
      have e1 := chs_numR (os := os) (n := n) hf'
      rw [he, chs_numR hg'] at e1
      exact fun b hb => (Prod.mk.inj (List.map_inj_left.mp e1 b hb)).2.symm
    · have h1 : (numR os n g r + 1) * (goals os n c).length ≤ numR os n f r * (goals os n c).length := Nat.mul_le_mul_right _ hl
      rw [Nat.add_mul, Nat.one_mul] at h1
      omega
open PySem.W in
theorem toks_lt (pre : List Nat) (x y : Nat) (h : x < y) (p q : List Nat) (u v : List (Int ⊕ List Nat)) :
    lexLt itemOrd (keyToksAll (D.pys (dN (pre ++ x :: p))) ++ u) (keyToksAll (D.pys (dN (pre ++ y :: q))) ++ v) = true := by
  induction pre with
  | nil =>
    have e : ∀ (x : Nat) (p : List Nat), keyToksAll (D.pys (dN (x :: p))) = Sum.inl 1 :: Sum.inl (x : Int) :: keyToksAll (D.pys (dN p)) := fun x p => by
      show keyToksAll ((D.int x).py :: D.pys (dN p)) = _
      rw [toks_all_cons]
      rfl
    rw [List.nil_append, List.nil_append, e, e]
    simp only [List.cons_append]
    rw [lex_self (O := itemOrd), lex_true]
    left
    show decide ((x : Int) < (y : Int)) = true
    rw [decide_eq_true_eq]; omega
  | cons a pre ih =>
    have e : ∀ (x : Nat) (p : List Nat), keyToksAll (D.pys (dN (x :: p))) = Sum.inl 1 :: Sum.inl (x : Int) :: keyToksAll (D.pys (dN p)) := fun x p => by
      show keyToksAll ((D.int x).py :: D.pys (dN p)) = _
      rw [toks_all_cons]
      rfl
    rw [List.cons_append, List.cons_append, e, e]
    simp only [List.cons_append]
    rw [lex_self (O := itemOrd), lex_self (O := itemOrd)]
    exact ih
/-- what the law sorts -/
def rowF (bs l : List Nat) : D := .tup [.tup (dN (bs.map (at0 l))), .tup (dN l)]
open PySem.W in
theorem row_lt {bs l m pre post : List Nat} {b : Nat} (e : bs = pre ++ b :: post) (h1 : ∀ c ∈ pre, at0 l c = at0 m c) (h2 : at0 l b < at0 m b) : dataLe false D.py (rowF bs m) (rowF bs l) = false := by
  show (!lexLt itemOrd (keyToks (rowF bs l).py) (keyToks (rowF bs m).py)) = false
  rw [Bool.not_eq_false']
  have ek : ∀ l, keyToks (rowF bs l).py = Sum.inl 1 :: (keyToksAll (D.pys (dN (bs.map (at0 l)))) ++ keyToksAll [(D.tup (dN l)).py]) := fun l => by
    show keyToks (.tuple [(D.tup (dN (bs.map (at0 l)))).py, (D.tup (dN l)).py]) = _
    rw [show ∀ xs, keyToks (.tuple xs) = keyToksAll xs from fun xs => by rw [keyToks], toks_all_cons]
    rfl
  rw [ek, ek, lex_self (O := itemOrd)]
  subst e
  rw [List.map_append, List.map_append, List.map_cons, List.map_cons, List.map_congr_left (l := pre) (f := at0 l) (g := at0 m) h1]
  exact toks_lt _ _ _ h2 _ _ _ _
/-- rows sorted stand in the order of their numbers -/
theorem rows_sorted {os : List Op} {n : Nat} (ok : ∀ o ∈ os, o.Ok n) (sy : Sym os n) {ls : List (List Nat)} (nd : ls.Nodup) (mem : ∀ l, l ∈ ls ↔ l.length = n ∧ Fit os n (at0 l)) :
    ∃ ms : List (List Nat), (ls.map (rowF (bases os n))).mergeSort (PySem.W.dataLe false D.py) = ms.map (rowF (bases os n)) ∧ ms.length = countG os n ∧ ∀ (k : Nat) (l : List Nat), ms[k]? = some l → EndsAt os n k l := by
  obtain ⟨le, hle⟩ : ∃ le : List Nat → List Nat → Bool, le = fun a b => PySem.W.dataLe false D.py (rowF (bases os n) a) (rowF (bases os n) b) := ⟨_, rfl⟩
  have tl : PySem.W.TotalLe (PySem.W.dataLe false D.py) := PySem.W.sortLe_total _ _ _
  refine ⟨ls.mergeSort le, ?_, ?_⟩
  · subst hle
    exact (List.map_mergeSort (f := rowF (bases os n)) (s := PySem.W.dataLe false D.py) (r := fun a b => PySem.W.dataLe false D.py (rowF (bases os n) a) (rowF (bases os n) b)) fun a _ b _ => rfl).symm
  have pw : (ls.mergeSort le).Pairwise fun a b => le a b = true := by
    subst hle
    exact PySem.W.sort_pairwise ⟨fun a b c => tl.trans (rowF _ a) (rowF _ b) (rowF _ c), fun a b => tl.total (rowF _ a) (rowF _ b)⟩ ls
  have pm := List.mergeSort_perm ls le
  obtain ⟨ms, hms⟩ : ∃ ms, ms = ls.mergeSort le := ⟨_, rfl⟩
  rw [← hms] at pw pm ⊢
  have nd' : ms.Nodup := pm.nodup_iff.mpr nd
  have mem' : ∀ l, l ∈ ms ↔ l.length = n ∧ Fit os n (at0 l) := fun l => by rw [pm.mem_iff]; exact mem l
  obtain ⟨num, hnum⟩ : ∃ num : List Nat → Nat, num = fun l => numR os n (at0 l) (bases os n).reverse := ⟨_, rfl⟩
  have rise : (ms.map num).Pairwise (· < ·) := by
    rw [List.pairwise_map]
    have := List.Pairwise.and pw nd'
    refine List.Pairwise.imp_of_mem (R := fun a b => le a b = true ∧ a ≠ b) ?_ this
    intro a b ha hb ⟨h1, h2⟩
    obtain ⟨a1, a2⟩ := (mem' a).mp ha
    obtain ⟨b1, b2⟩ := (mem' b).mp hb
    subst hnum hle
    rcases Nat.lt_trichotomy (numR os n (at0 a) (bases os n).reverse) (numR os n (at0 b) (bases os n).reverse) with h | h | h
    · exact h
    · exact absurd (EndsAt.uniq ok (EndsAt.of_fit a1 a2) (h ▸ EndsAt.of_fit b1 b2)) h2
    · obtain ⟨post, c, pre, e, e1, e2⟩ := numR_lex (b2.goals ok) (a2.goals ok) h
      have e' : bases os n = pre.reverse ++ c :: post.reverse := by
        have := congrArg List.reverse e
        rw [List.reverse_reverse] at this
        rw [this]; simp
      have := row_lt (l := b) (m := a) e' (fun c hc => e1 c (List.mem_reverse.mp hc)) e2
      simp only at h1
      rw [this] at h1
      cases h1
  have lt : ∀ x ∈ ms.map num, x < countG os n := fun x hx => by
    obtain ⟨l, hl, rfl⟩ := List.mem_map.mp hx
    subst hnum
    exact fit_num_lt ok ((mem' l).mp hl).2
  have all : ∀ x, x < countG os n → x ∈ ms.map num := fun x hx => by
    obtain ⟨l, hl⟩ := ends_ex ok sy hx
    refine List.mem_map.mpr ⟨l, (mem' l).mpr ⟨hl.len, hl.fit⟩, ?_⟩
    subst hnum
    exact hl.num
  have eq : ms.map num = List.range (countG os n) := by
    have nd2 : (ms.map num).Nodup := rise.imp fun h => Nat.ne_of_lt h
    have p : (ms.map num).Perm (List.range (countG os n)) := (List.perm_ext_iff_of_nodup nd2 List.nodup_range).mpr fun x => by
      rw [List.mem_range]; exact ⟨lt x, all x⟩
    exact List.Perm.eq_of_pairwise (le := (· < ·)) (fun a b _ _ h1 h2 => by omega) rise (range_rise _) p
  refine ⟨by have := congrArg List.length eq; simpa using this, fun k l hl => ?_⟩
  obtain ⟨l1, l2⟩ := (mem' l).mp (List.mem_of_getElem? hl)
  have : (ms.map num)[k]? = some (num l) := by rw [List.getElem?_map, hl]; rfl
  rw [eq] at this
  obtain ⟨h1, h2⟩ := List.getElem?_eq_some_iff.mp this
  rw [List.getElem_range] at h2
  subst hnum
  exact ⟨l1, l2, h2.symm⟩
/-! ### all tuples of ends -/
def allE (n : Nat) : Nat → List (List Nat)
  | 0 => [[]]
  | k + 1 => (allE n k).flatMap fun r => (List.range n).map fun s => r ++ [s]
theorem allE_len (n : Nat) : ∀ k, (allE n k).length = n ^ k
  | 0 => rfl
  | k + 1 => by
    rw [allE, List.length_flatMap]
    simp [List.map_const', allE_len n k, Nat.pow_succ]
theorem allE_mem (n : Nat) : ∀ (k : Nat) (l : List Nat), l ∈ allE n k ↔ l.length = k ∧ ∀ x ∈ l, x < n
  | 0, l => by
    rw [allE, List.mem_singleton]
    constructor
    · rintro rfl; simp
    · intro h; exact List.eq_nil_of_length_eq_zero h.1
  | k + 1, l => by
    rw [allE, List.mem_flatMap]
    constructor
    · rintro ⟨r, hr, hl⟩
      obtain ⟨s, hs, rfl⟩ := List.mem_map.mp hl
      obtain ⟨h1, h2⟩ := (allE_mem n k r).mp hr
      refine ⟨by simp [h1], fun x hx => ?_⟩
      rcases List.mem_append.mp hx with h | h
      · exact h2 x h
      · rw [List.mem_singleton] at h; subst h; exact List.mem_range.mp hs
    · rintro ⟨h1, h2⟩
      have hne : l ≠ [] := by intro e; rw [e] at h1; cases h1
      have e := List.dropLast_concat_getLast hne
      refine ⟨l.dropLast, (allE_mem n k _).mpr ⟨by rw [List.length_dropLast, h1]; rfl, fun x hx => h2 x ((List.dropLast_sublist l).mem hx)⟩, List.mem_map.mpr ⟨l.getLast hne, List.mem_range.mpr (h2 _ (List.getLast_mem hne)), e⟩⟩
theorem allE_nd (n : Nat) : ∀ k, (allE n k).Nodup
  | 0 => by simp [allE]
  | k + 1 => by
    rw [allE]
    unfold List.Nodup
    rw [List.pairwise_flatMap]
    refine ⟨fun r _ => ?_, (allE_nd n k).imp fun {a b} hab => ?_⟩
    · rw [List.pairwise_map]
      exact List.nodup_range.imp fun h e => h (by simpa using e)
    · intro x hx y hy e
      obtain ⟨s, _, rfl⟩ := List.mem_map.mp hx
      obtain ⟨t, _, rfl⟩ := List.mem_map.mp hy
      exact hab (List.append_inj_left' e rfl)
/-! ### around -/
theorem around_lt {size stride part m s to share : Nat} (hm : 0 < m) (h1 : m ∣ stride) (h2 : part * stride ∣ size) (hs : s < size) (hto : to < part) (hsh : share < m) :
    ∃ new : Nat, new < size ∧ new + (s / stride) % part * stride + s % m = s + to * stride + share := by
  obtain ⟨k, rfl⟩ := h1
  obtain ⟨q, rfl⟩ := h2
  have hk : 0 < k := Nat.pos_of_ne_zero fun e => by subst e; simp at hs
  have hp : 0 < part := by omega
  obtain ⟨S, hS⟩ : ∃ S, S = m * k := ⟨_, rfl⟩
  have hS0 : 0 < S := hS ▸ Nat.mul_pos hm hk
  rw [← hS] at hs ⊢
  have a1 := Nat.div_add_mod s S
  have a2 := Nat.div_add_mod (s / S) part
  have a3 := Nat.div_add_mod (s % S) m
  have a4 : s % S % m = s % m := Nat.mod_mod_of_dvd s (hS ▸ Nat.dvd_mul_right m k)
  rw [a4] at a3
  have a5 : s / S / part < q := by
    rw [Nat.div_div_eq_div_mul, Nat.mul_comm S part]
    exact Nat.div_lt_of_lt_mul hs
  have a6 : s % S / m < k := Nat.div_lt_of_lt_mul (hS ▸ Nat.mod_lt s hS0)
  obtain ⟨A, hA⟩ : ∃ A, A = s / S / part := ⟨_, rfl⟩
  obtain ⟨P, hP⟩ : ∃ P, P = (s / S) % part := ⟨_, rfl⟩
  obtain ⟨C, hC⟩ : ∃ C, C = s % S / m := ⟨_, rfl⟩
  rw [← hA, ← hP] at a2
  rw [← hA] at a5
  rw [← hC] at a3 a6
  rw [← hP]
  refine ⟨A * part * S + to * S + C * m + share, ?_, ?_⟩
  · have b1 : C * m + share < S := by
      have : (C + 1) * m ≤ k * m := Nat.mul_le_mul_right m a6
      rw [Nat.add_mul, Nat.one_mul, Nat.mul_comm k m, ← hS] at this
      omega
    have b2 : (to + 1) * S ≤ part * S := Nat.mul_le_mul_right S hto
    have b3 : (A + 1) * (part * S) ≤ q * (part * S) := Nat.mul_le_mul_right _ a5
    rw [Nat.add_mul, Nat.one_mul] at b2 b3
    rw [Nat.mul_comm (part * S) q, Nat.mul_assoc]
    omega
  · have c1 : S * (s / S) = A * part * S + P * S := by
      rw [← a2, Nat.mul_add, Nat.mul_comm S P, Nat.mul_comm S (part * A), Nat.mul_comm part A]
    have c2 : m * C = C * m := Nat.mul_comm _ _
    omega
/-! ### data that == may compare -/
inductive Lay : Nat → D → Prop
  | non (k : Nat) : Lay k .non
  | bl (k : Nat) (b : Bool) : Lay k (.bl b)
  | int (k : Nat) (i : Int) : Lay k (.int i)
  | str (k : Nat) (x : Str) : PyData.strOk x = true → Lay k (.str x)
  | lst (k : Nat) (xs : List D) : (∀ x ∈ xs, Lay k x) → Lay (k + 1) (.lst xs)
  | tup (k : Nat) (xs : List D) : (∀ x ∈ xs, Lay k x) → Lay (k + 1) (.tup xs)
theorem Lay.all3 {k : Nat} {d : D} (h : Lay k d) : d.pure = true ∧ PyData.canLay0 d.py = true ∧ PyData.depth d.py ≤ k + 1 := by
  have ls : ∀ (k : Nat) (xs : List D), (∀ x ∈ xs, x.pure = true ∧ PyData.canLay0 x.py = true ∧ PyData.depth x.py ≤ k + 1) → D.pures xs = true ∧ PyData.canLayAll0 (D.pys xs) = true ∧ PyData.depthAll (D.pys xs) ≤ k + 1 := fun k xs => by
    induction xs with
    | nil => intro _; exact ⟨rfl, rfl, by simp [D.pys, PyData.depthAll]⟩
    | cons x xs ih =>
      intro h
      obtain ⟨a1, a2, a3⟩ := h x List.mem_cons_self
      obtain ⟨b1, b2, b3⟩ := ih fun y hy => h y (List.mem_cons_of_mem _ hy)
      refine ⟨by rw [D.pures, a1, b1]; rfl, by rw [D.pys, PyData.canLayAll0, a2, b2]; rfl, ?_⟩
      rw [D.pys, PyData.depthAll]
      exact Nat.max_le.mpr ⟨a3, b3⟩
  induction h with
  | non k => exact ⟨rfl, rfl, by simp [D.py, PyData.depth]⟩
  | bl k b => exact ⟨rfl, rfl, by simp [D.py, PyData.depth]⟩
  | int k i => exact ⟨rfl, rfl, by simp [D.py, PyData.depth]⟩
  | str k x h => exact ⟨rfl, by simpa [D.py, PyData.canLay0] using h, by simp [D.py, PyData.depth]⟩
  | lst k xs _ ih =>
    obtain ⟨a, b, c⟩ := ls k xs ih
    refine ⟨a, by simpa [D.py, PyData.canLay0] using b, ?_⟩
    rw [D.py, PyData.depth]; omega
  | tup k xs _ ih =>
    obtain ⟨a, b, c⟩ := ls k xs ih
    refine ⟨a, by simpa [D.py, PyData.canLay0] using b, ?_⟩
    rw [D.py, PyData.depth]; omega
theorem Lay.ok {k : Nat} {d : D} (h : Lay k d) (hk : k ≤ 60 := by decide) : d.ok := by
  obtain ⟨a, b, c⟩ := h.all3
  refine ⟨a, ?_⟩
  unfold SeqAt.shaped
  rw [b, Bool.true_and, decide_eq_true_eq]; omega
theorem Lay.dN (k : Nat) (l : List Nat) : ∀ x ∈ dN l, Lay k x := fun x hx => by
  obtain ⟨n, _, rfl⟩ := List.mem_map.mp hx
  exact .int _ _
theorem Lay.dNL (k : Nat) (l : List Nat) : Lay (k + 1) (.lst (G78.dN l)) := .lst _ _ (Lay.dN k l)
theorem Lay.dNT (k : Nat) (l : List Nat) : Lay (k + 1) (.tup (G78.dN l)) := .tup _ _ (Lay.dN k l)
end G78
namespace G78
open PySem PySem.Spec PyProof.Rows L2
theorem lc_rows {B : D → List D → (List D → Prop) → Prop} {m : Nat} {xs : List D} {q : List D → Prop} (hl : xs.length ≤ 1000) (h : ∀ x ∈ xs, ∀ acc q, acc.length < 100000 → (∀ r : List Nat, r.length = m → (∀ x ∈ r, x < m) → q (acc ++ [D.lst (dN r)])) → B x acc q)
    (w : ∀ t : List (List Nat), t.length = xs.length → (∀ r ∈ t, r.length = m ∧ ∀ x ∈ r, x < m) → q (t.map fun r => .lst (dN r))) : lcGo B xs [] q := by
  refine lcGo_rel (fun _ y => ∃ r : List Nat, r.length = m ∧ (∀ x ∈ r, x < m) ∧ y = D.lst (dN r)) (by simp; omega) (fun x hx acc q ha hq => h x hx acc q ha fun r h1 h2 => hq _ ⟨r, h1, h2, rfl⟩) fun ys hys => ?_
  have key : ∀ {xs ys : List D}, Paired (fun _ y => ∃ r : List Nat, r.length = m ∧ (∀ x ∈ r, x < m) ∧ y = D.lst (dN r)) xs ys → ∃ t : List (List Nat), ys = t.map (fun r => .lst (dN r)) ∧ t.length = xs.length ∧ ∀ r ∈ t, r.length = m ∧ ∀ x ∈ r, x < m := fun {xs ys} hp => by
    induction hp with
    | nil => exact ⟨[], rfl, rfl, by simp⟩
    | cons a _ ih =>
      obtain ⟨t, rfl, h1, h2⟩ := ih
      obtain ⟨r, a1, a2, rfl⟩ := a
      refine ⟨r :: t, rfl, by simp [h1], fun x hx => ?_⟩
      rcases List.mem_cons.mp hx with rfl | hx
      · exact ⟨a1, a2⟩
      · exact h2 x hx
  obtain ⟨t, rfl, h1, h2⟩ := key hys
  exact w t h1 h2
def p6 : List (List Nat) := [[0, 1, 2], [0, 2, 1], [1, 0, 2], [1, 2, 0], [2, 0, 1], [2, 1, 0]]
def at6 (j : Fin 6) : List Nat := p6.getD j.1 []
def comp6 (a b : List Nat) : List Nat := [at0 a (at0 b 0), at0 a (at0 b 1), at0 a (at0 b 2)]
theorem p6_ok : ∀ a ∈ p6, ∀ b ∈ p6, ∃ j : Fin 6, PyData.eqv (D.tup (dN (at6 j))).py (D.tup (dN (comp6 a b))).py = true ∧ ∀ k : Fin 6, k.1 < j.1 → PyData.eqv (D.tup (dN (at6 k))).py (D.tup (dN (comp6 a b))).py = false := by decide +kernel
theorem p6_at : ∀ a ∈ p6, ∀ b ∈ p6, ∀ i : Fin 3, b[i.1]? = some (at0 b i.1) ∧ a[at0 b i.1]? = some (at0 a (at0 b i.1)) := by decide +kernel
theorem p6_get : ∀ j : Fin 6, p6[j.1]? = some (at6 j) := by decide +kernel
theorem p6_lst : (D.lst (p6.map fun a => D.tup (dN a))).ok := by unfold D.ok; decide +kernel
def f__law_table : SpD := fun ds q => ∃ (m : Nat), ds = [.int m] ∧ 1 ≤ m ∧ m ≤ 6 ∧ ∀ t : List (List Nat), t.length = m → (∀ r ∈ t, r.length = m ∧ ∀ x ∈ r, x < m) → q (.lst (t.map fun r => .lst (dN r)))
theorem len__law_table : ∀ ds q, f__law_table ds q → ds.length = P__law_table.length := by
  rintro ds q ⟨m, rfl, _⟩; rfl
theorem p__law_table {w : World} {K : PySem.W.Frag} {mg : Str → Option Value} {base : Heap} {Z : ZZ} (T : Top w K mg base Z) : Cl prg w K mg base 1 "_law_table" (spP Z.C K f__law_table) := by
  have nd := sc__law_table.nd
  refine clP_of (k := 0) T.d__law_table sc__law_table (by intro kV doc pm an cdv ct us h; match us, h with | [a0], _ => rfl) len__law_table fun fa cdv A outer s H E hr => ⟨_, (ss_cons (sj_if (tj_cmp op_lt ow_b (r_ 0) (ej_int).rd (nomark _)) (ss_one (sj_ret ((ej_lc (own := [("_law_one", 2)]) rfl nd (ij_range (by rfl) T.m_range (r_ 0)) (blkOk_by (own := [("_law_one", 2)]) (N := N__law_table) (sc := defScope st__law_table) (by decide +kernel)) (by decide) (fun _ _ _ _ _ => (g_ 2 nd)) (fun _ _ _ _ _ => ts_nil) (fun _ _ _ _ _ => ((ej_lc (own := [("_law_two", 3)]) rfl nd (ij_range (by rfl) T.m_range (r_ 0)) (blkOk_by (own := [("_law_two", 3)]) (N := N__law_table) (by kernel_rfl)) (by decide) (fun _ _ _ _ _ => (g_ 3 nd)) (fun _ _ _ _ _ => ts_nil) (fun _ _ _ _ _ => (ej_op op_modN ow_ic ((ej_t1 call_int1 cw_int (by rfl) T.m_int (by decide +kernel) ((ej_op op_add ow_i (r_ 2) (r_ 3))).rd)).rd (r_ 0))))).dt))).dt)) ss_nil)
  (ss_cons (sj_set (as_of (i := 1) nd rfl (by first | exact .inl rfl | exact .inr rfl) ((ej_lst (aj_cons (ej_tup (aj_cons ej_int (aj_cons ej_int (aj_cons ej_int aj_nil)))) (aj_cons (ej_tup (aj_cons ej_int (aj_cons ej_int (aj_cons ej_int aj_nil)))) (aj_cons (ej_tup (aj_cons ej_int (aj_cons ej_int (aj_cons ej_int aj_nil)))) (aj_cons (ej_tup (aj_cons ej_int (aj_cons ej_int (aj_cons ej_int aj_nil)))) (aj_cons (ej_tup (aj_cons ej_int (aj_cons ej_int (aj_cons ej_int aj_nil)))) (aj_cons (ej_tup (aj_cons ej_int (aj_cons ej_int (aj_cons ej_int aj_nil)))) aj_nil)))))))).dt))
  (ss_one (sj_ret ((ej_lc (own := [("_law_one", 2)]) rfl nd (ij_list (n_ 1)) (blkOk_by (own := [("_law_one", 2)]) (N := N__law_table) (sc := defScope st__law_table) (by decide +kernel)) (by decide) (fun _ _ _ _ _ => (g_ 2 nd)) (fun _ _ _ _ _ => ts_nil) (fun _ _ _ _ _ => ((ej_lc (own := [("_law_two", 3)]) rfl nd (ij_list (n_ 1)) (blkOk_by (own := [("_law_two", 3)]) (N := N__law_table) (by kernel_rfl)) (by decide) (fun _ _ _ _ _ => (g_ 3 nd)) (fun _ _ _ _ _ => ts_nil) (fun _ _ _ _ _ => (ej_idxD hr (r_ 1) ((ej_tup (aj_cons (ej_ix ix_seq ow_ix (r_ 2) ((ej_ix ix_seq ow_ix (r_ 3) (ej_int).rd)).rd) (aj_cons (ej_ix ix_seq ow_ix (r_ 2) ((ej_ix ix_seq ow_ix (r_ 3) (ej_int).rd)).rd) (aj_cons (ej_ix ix_seq ow_ix (r_ 2) ((ej_ix ix_seq ow_ix (r_ 3) (ej_int).rd)).rd) aj_nil))))).rd)))).dt))).dt)))), fun ds q hf => ?_⟩
  obtain ⟨m, rfl, m1, m6, hq⟩ := hf
  simp [-Bool.exists_bool, and_assoc, ex_not]
  split
  · refine ⟨m, rfl, by omega, ?_⟩
    rw [rgN_dN]
    refine lc_rows (m := m) (by simp; omega) (fun x hx acc q' hacc hq' => ?_) fun t ht1 ht2 => hq t (by simpa using ht1) ht2
    obtain ⟨a, ha, rfl⟩ := List.mem_map.mp hx
    simp [-Bool.exists_bool, and_assoc, ex_not]
    refine ⟨m, rfl, by omega, ?_⟩
    rw [rgN_dN]
    refine lc_take (m := m) (by simp; omega) (fun x hx acc q2 hacc2 hq2 => ?_) fun l hl1 hl2 => ⟨hacc, hq' l (by simpa using hl1) hl2⟩
    obtain ⟨b, hb, rfl⟩ := List.mem_map.mp hx
    simp [-Bool.exists_bool, and_assoc, ex_not]
    refine ⟨by omega, hacc2, ?_⟩
    rw [Int.fmod_eq_emod_of_nonneg _ (by omega)]
    exact hq2 ((a + b) % m) (Nat.mod_lt _ (by omega))
  · have e6 : m = 6 := by omega
    subst e6
    refine ⟨len_ok (by omega), len_ok (by omega), ?_⟩
    show lcGo _ (p6.map fun a => D.tup (dN a)) [] _
    refine lc_rows (m := 6) (by simp [p6]) (fun x hx acc q' hacc hq' => ?_) fun t ht1 ht2 => hq t (by simpa [p6] using ht1) ht2
    obtain ⟨a, ha, rfl⟩ := List.mem_map.mp hx
    simp [-Bool.exists_bool, and_assoc, ex_not]
    show lcGo _ (p6.map fun a => D.tup (dN a)) [] _
    refine lc_take (m := 6) (by simp [p6]) (fun x hx acc q2 hacc2 hq2 => ?_) fun l hl1 hl2 => ⟨hacc, hq' l (by simpa [p6] using hl1) hl2⟩
    obtain ⟨b, hb, rfl⟩ := List.mem_map.mp hx
    have g := p6_at a ha b hb
    have g0 := g 0
    have g1 := g 1
    have g2 := g 2
    simp only [show ((0 : Fin 3) : Nat) = 0 from rfl, show ((1 : Fin 3) : Nat) = 1 from rfl, show ((2 : Fin 3) : Nat) = 2 from rfl] at g0 g1 g2
    obtain ⟨j, hj1, hj2⟩ := p6_ok a ha b hb
    simp [-Bool.exists_bool, and_assoc, ex_not, g0.1, g0.2, g1.1, g1.2, g2.1, g2.2]
    have key : ∀ k : Nat, k < 6 → ∃ h : k < 6, (p6.map fun a => D.tup (dN a))[k]? = some (D.tup (dN (at6 ⟨k, h⟩))) := fun k h => ⟨h, by rw [List.getElem?_map, p6_get ⟨k, h⟩]; rfl⟩
    obtain ⟨_, kj⟩ := key j.1 j.2
    refine ⟨p6_lst, len_ok (by omega), ?_, j.1, _, kj, hj1, fun k z hk hz => ?_, hacc2, hq2 j.1 j.2⟩
    · have := shaped_ints ([at0 a (at0 b 0), at0 a (at0 b 1), at0 a (at0 b 2)].map fun n : Nat => (n : Int))
      exact this
    · obtain ⟨h6, kk⟩ := key k (Nat.lt_trans hk j.2)
      have hz : (p6.map fun a => D.tup (dN a))[k]? = some z := hz
      rw [kk] at hz
      cases hz
      exact hj2 ⟨k, h6⟩ hk
def prodL : List Nat → Nat
  | [] => 1
  | x :: l => x * prodL l
theorem prodL_app (a b : List Nat) : prodL (a ++ b) = prodL a * prodL b := by
  induction a with
  | nil => simp [prodL]
  | cons x a ih => rw [List.cons_append, prodL, prodL, ih, Nat.mul_assoc]
def f__law_sizes : SpD := fun ds q => ds = [.int 9] ∧ ∀ (m : Nat) (ps : List Nat), 1 ≤ m → m ≤ 6 → 2 ≤ ps.length → ps.length ≤ 4 → (∀ p ∈ ps, 1 ≤ p ∧ p ≤ 3) → m * prodL ps ≤ 9 → q (.lst [.int (m * prodL ps : Nat), .int m, .lst (dN ps)])
theorem len__law_sizes : ∀ ds q, f__law_sizes ds q → ds.length + 1 = P__law_sizes.length := by
  rintro ds q ⟨rfl, _⟩; rfl
theorem int_of {l : List Nat} {x : D} (h : x ∈ l.map fun n : Nat => D.int n) : ∃ n ∈ l, x = .int n := by
  obtain ⟨n, h1, h2⟩ := List.mem_map.mp h
  exact ⟨n, h1, h2.symm⟩
theorem prodL_snoc (a : List Nat) (p : Nat) : prodL (a ++ [p]) = prodL a * p := by
  rw [prodL_app]; simp [prodL]
theorem p__law_sizes {w : World} {K : PySem.W.Frag} {mg : Str → Option Value} {base : Heap} {Z : ZZ} (T : Top w K mg base Z) : Cl prg w K mg base 3 "_law_sizes" (spB Z.C K f__law_sizes) := by
  have c__law_pick := p__law_pick T
  have nd := sc__law_sizes.nd
  refine clB_of (k := 2) T.d__law_sizes sc__law_sizes (by intro kV doc pm an cdv ct us h; match us, h with | [a0, a1], _ => rfl) len__law_sizes fun fa cdv A outer s H E hr => ⟨_, (ss_cons (sj_set (as_of (i := 2) nd rfl (by first | exact .inl rfl | exact .inr rfl) (ej_callB (i := 0) c__law_pick hr (by decide) (by rfl) rfl (by first | exact .inl rfl | exact .inr (.inl rfl) | exact .inr (.inr rfl)) (aj_cons ((ej_lst (aj_cons ej_int (aj_cons ej_int (aj_cons ej_int (aj_cons ej_int aj_nil)))))).dt aj_nil))))
  (ss_cons (sj_par2 (i := 3) (j := 4) rfl nd rfl rfl (by decide) rfl rfl (mj_d (ej_callB (i := 0) c__law_pick hr (by decide) (by rfl) rfl (by first | exact .inl rfl | exact .inr (.inl rfl) | exact .inr (.inr rfl)) (aj_cons (ej_if rfl (tj_cmp op_eq ow_eq (r_ 2) (ej_int).rd (nomark _)) ((ej_lst (aj_cons ej_int (aj_cons ej_int (aj_cons ej_int (aj_cons ej_int (aj_cons ej_int (aj_cons ej_int aj_nil)))))))).dt ((ej_lst (aj_cons ej_int (aj_cons ej_int (aj_cons ej_int aj_nil))))).dt) aj_nil)) (mj_o (ej_lst aj_nil) mj_nil)) (by rfl))
  (ss_cons (sj_if (tj_cmp op_gt ow_b (r_ 3) (r_ 1) (nomark _)) (ss_one (sj_set (as_of (i := 3) nd rfl (by first | exact .inl rfl | exact .inr rfl) ej_int))) ss_nil)
  (ss_cons (sj_set (as_of (i := 5) nd rfl (by first | exact .inl rfl | exact .inr rfl) (n_ 3)))
  (ss_cons (sj_for (passes_of rfl) rfl (ij_range (by rfl) T.m_range (r_ 2)) (g_ 6 nd) (ss_cons (sj_set (as_of (i := 7) nd rfl (by first | exact .inl rfl | exact .inr rfl) (ej_callB (i := 0) c__law_pick hr (by decide) (by rfl) rfl (by first | exact .inl rfl | exact .inr (.inl rfl) | exact .inr (.inr rfl)) (aj_cons ((ej_lst (aj_cons ej_int (aj_cons ej_int (aj_cons ej_int (aj_cons ej_int aj_nil)))))).dt aj_nil))))
  (ss_cons (sj_app (i := 4) rfl (by first | exact .inl rfl | exact .inr (.inl rfl) | exact .inr (.inr rfl)) (ej_if rfl (tj_cmp op_le ow_b ((ej_op op_mul ow_ic (r_ 5) (r_ 7))).rd (r_ 1) (nomark _)) (n_ 7) ej_int))
  (ss_one (sj_set (as_of (i := 5) nd rfl (by first | exact .inl rfl | exact .inr rfl) (ej_op op_mul ow_ic (r_ 5) ((ej_ix ix_seq ow_ix (r_ 4) (r_ 6))).rd)))))))
  (ss_frz 4 (ss_one (sj_ret ((ej_lst (aj_cons (n_ 5) (aj_cons (n_ 3) (aj_cons (n_ 4) aj_nil))))).dt)))))))), fun ds q hf => ?_⟩
  obtain ⟨rfl, hq⟩ := hf
  simp [-Bool.exists_bool, and_assoc, ex_not]
  refine ⟨len_ok (by omega), _, rfl, by simp, by simp, fun x hx => ?_⟩
  obtain ⟨o, ho2, ho4, rfl⟩ : ∃ o : Nat, 2 ≤ o ∧ o ≤ 4 ∧ x = .int o := by
    obtain ⟨o, h1, rfl⟩ := int_of (l := [2, 2, 3, 4]) hx
    simp at h1
    exact ⟨o, by omega, by omega, rfl⟩
  refine ⟨.int o, rfl, rfl, ?_⟩
  split
  all_goals
    refine ⟨len_ok (by omega), _, rfl, by simp, by simp, fun x hx => ?_⟩
    obtain ⟨m, hm1, hm6, rfl⟩ : ∃ m : Nat, 1 ≤ m ∧ m ≤ 6 ∧ x = .int m := by
      first
      | (obtain ⟨o, h1, rfl⟩ := int_of (l := [1, 2, 2, 3, 4, 6]) hx
         simp at h1
         exact ⟨o, by omega, by omega, rfl⟩)
      | (obtain ⟨o, h1, rfl⟩ := int_of (l := [1, 2, 3]) hx
         simp at h1
         exact ⟨o, by omega, by omega, rfl⟩)
    refine ⟨m, rfl, ?_⟩
    rw [if_neg (by omega)]
    refine ⟨o, rfl, by omega, ?_⟩
    rw [rgN_dN]
    refine forGo_inv (fun i ds => ∃ (ps : List Nat) (c6 c7 : SC), ds = { s := [.bx, .d (.int 9), .d (.int o), .d (.int m), .l (dN ps), .d (.int (m * prodL ps : Nat)), c6, c7], b0 := false } ∧ ps.length = i ∧ (∀ p ∈ ps, 1 ≤ p ∧ p ≤ 3) ∧ m * prodL ps ≤ 9) _ _ 0 ⟨[], .no, .no, by simp [prodL, dN], rfl, by simp, by simp [prodL]; omega⟩ ?_ ?_
    · rintro i d _ N hd ⟨ps, c6, c7, rfl, h1, h2, h3⟩ hN
      rw [Nat.zero_add] at hN h1
      rw [dN_get] at hd
      obtain ⟨k, hk, rfl⟩ := Option.map_eq_some_iff.mp hd
      have hki : k = i := by
        obtain ⟨h1, h2⟩ := List.getElem?_eq_some_iff.mp hk
        rw [List.getElem_range] at h2; exact h2.symm
      subst hki
      have hko : k < o := by have := (List.getElem?_eq_some_iff.mp hk).1; simpa using this
      simp [-Bool.exists_bool, and_assoc, ex_not]
      refine ⟨len_ok (by omega), _, rfl, by simp, by simp, fun x hx => ?_⟩
      obtain ⟨p, hp1, hp3, rfl⟩ : ∃ p : Nat, 1 ≤ p ∧ p ≤ 3 ∧ x = .int p := by
        obtain ⟨o, h1, rfl⟩ := int_of (l := [1, 2, 2, 3]) hx
        simp at h1
        exact ⟨o, by omega, by omega, rfl⟩
      have get : ∀ e : Nat, (dN ps ++ [D.int e])[k]? = some (.int e) := fun e => by
        rw [List.getElem?_append_right (by simp [h1]), dN_len, h1, Nat.sub_self]; rfl
      have fin : ∀ e : Nat, 1 ≤ e → e ≤ 3 → m * prodL ps * e ≤ 9 → ∃ x, (dN ps ++ [D.int e])[k]? = some x ∧ ∃ x_1, x = D.int x_1 ∧ CMul (↑m * ↑(prodL ps)) x_1 ∧
          N { s := [.bx, .d (.int 9), .d (.int o), .d (.int m), .l (dN ps ++ [.int e]), .d (.int (↑m * ↑(prodL ps) * x_1)), .d (.int k), .d (.int p)], b0 := false } := fun e a1 a2 a3 => by
        refine ⟨_, get e, e, rfl, .inr ⟨by omega, by omega⟩, hN _ ⟨ps ++ [e], .d (.int k), .d (.int p), ?_, by simp [h1], fun x hx => ?_, ?_⟩⟩
        · rw [prodL_snoc, ← Nat.mul_assoc]
          simp [dN]
        · rcases List.mem_append.mp hx with h | h
          · exact h2 x h
          · rw [List.mem_singleton] at h; subst h; exact ⟨a1, a2⟩
        · rw [prodL_snoc, ← Nat.mul_assoc]; exact a3
      refine ⟨p, rfl, .inr ⟨by omega, by omega⟩, ?_⟩
      split
      · rename_i h9
        refine ⟨by omega, fin p hp1 hp3 ?_⟩
        have : ((m * prodL ps * p : Nat) : Int) ≤ 9 := by simpa using h9
        omega
      · exact ⟨by omega, fin 1 (by omega) (by omega) (by omega)⟩
    · rintro _ ⟨ps, c6, c7, rfl, h1, h2, h3⟩
      rw [Nat.zero_add, dN_len, List.length_range] at h1
      simp [-Bool.exists_bool, and_assoc, ex_not]
      have := hq m ps hm1 hm6 (by omega) (by omega) h2 h3
      refine ⟨len_ok (by omega), ?_⟩
      simpa using this
def f__law_steps : SpD := fun ds q => ∃ (p m : Nat) (b : Bool), ds = [.int p, .int m, .bl b] ∧ 1 ≤ p ∧ p ≤ 3 ∧ 1 ≤ m ∧ m ≤ 6 ∧ ∀ l : List (List Nat × List Nat), (b = true → 1 ≤ l.length) → l.length ≤ 3 → (∀ r ∈ l, r.1.length = p ∧ r.2.length = p ∧ (∀ x ∈ r.1, x < p) ∧ ∀ x ∈ r.2, x < m) → q (.lst (l.map fun r => .lst [.lst (dN r.1), .lst (dN r.2)]))
theorem len__law_steps : ∀ ds q, f__law_steps ds q → ds.length + 1 = P__law_steps.length := by
  rintro ds q ⟨p, m, b, rfl, _⟩; rfl
def stepD (l : List (List Nat × List Nat)) : List D := l.map fun r => .lst [.lst (dN r.1), .lst (dN r.2)]
def StepOk (p m : Nat) (r : List Nat × List Nat) : Prop := r.1.length = p ∧ r.2.length = p ∧ (∀ x ∈ r.1, x < p) ∧ ∀ x ∈ r.2, x < m
theorem p__law_steps {w : World} {K : PySem.W.Frag} {mg : Str → Option Value} {base : Heap} {Z : ZZ} (T : Top w K mg base Z) : Cl prg w K mg base 2 "_law_steps" (spB Z.C K f__law_steps) := by
  have c__law_take := p__law_take T
  have nd := sc__law_steps.nd
  refine clB_of (k := 1) T.d__law_steps sc__law_steps (by intro kV doc pm an cdv ct us h; match us, h with | [a0, a1, a2, a3], _ => rfl) len__law_steps fun fa cdv A outer s H E hr => ⟨_, (ss_cons (sj_par2 (i := 4) (j := 5) rfl nd rfl rfl (by decide) rfl rfl (mj_d ((ej_lc (own := [("_law_p", 6)]) rfl nd (ij_range (by rfl) T.m_range (r_ 1)) (blkOk_by (own := [("_law_p", 6)]) (N := N__law_steps) (sc := defScope st__law_steps) (by decide +kernel)) (by decide) (fun _ _ _ _ _ => (g_ 6 nd)) (fun _ _ _ _ _ => ts_nil) (fun _ _ _ _ _ => (ej_op op_modN ow_ic ((ej_t1 call_int1 cw_int (by rfl) T.m_int (by decide +kernel) ((ej_op op_add ow_i (r_ 6) (ej_int).rd)).rd)).rd (r_ 1))))).dt (mj_o (ej_lst aj_nil) mj_nil)) (by rfl))
  (ss_cons (sj_if (tj_val (r_ 3)) (ss_cons (sj_app (i := 5) rfl (by first | exact .inl rfl | exact .inr (.inl rfl) | exact .inr (.inr rfl)) ((ej_lst (aj_cons (n_ 4) (aj_cons ((ej_lc (own := [("_law_p", 6)]) rfl nd (ij_range (by rfl) T.m_range (r_ 1)) (blkOk_by (own := [("_law_p", 6)]) (N := N__law_steps) (sc := defScope st__law_steps) (by decide +kernel)) (by decide) (fun _ _ _ _ _ => (g_ 6 nd)) (fun _ _ _ _ _ => ts_nil) (fun _ _ _ _ _ => (ej_if rfl (TJW.tj (tj_and (tj_cmp op_eq ow_eq (r_ 6) (ej_int).rd (nomark _)) (tj_and1 (tj_cmp op_gt ow_b (r_ 2) (ej_int).rd (nomark _))))) (ej_ix ix_seq ow_ix ((ej_lst (aj_cons ej_int (aj_cons ej_int (aj_cons ej_int (aj_cons ej_int (aj_cons ej_int (aj_cons ej_int (aj_cons ej_int aj_nil))))))))).dt.rd (r_ 2)) ej_int)))).dt aj_nil)))).dt)
  (ss_one (sj_if (tj_cmp op_eq ow_eq (r_ 2) (ej_int).rd (nomark _)) (ss_one (sj_app (i := 5) rfl (by first | exact .inl rfl | exact .inr (.inl rfl) | exact .inr (.inr rfl)) ((ej_lst (aj_cons ((ej_listRg rfl (by rfl) T.m_list (by rfl) T.m_range (r_ 1))).dt (aj_cons ((ej_op op_rep ow_rep ((ej_lst (aj_cons ej_int aj_nil))).dt.rd (r_ 1))).dt aj_nil)))).dt)) ss_nil))) (ss_one (sj_if (TJW.tj (tj_or (tj_cmp op_gt ow_b (r_ 1) (ej_int).rd (nomark _)) (tj_or1 (tj_cmp op_eq ow_eq ((ej_callB (i := 0) c__law_take hr (by decide) (by rfl) rfl (by first | exact .inl rfl | exact .inr (.inl rfl) | exact .inr (.inr rfl)) (aj_cons ej_int aj_nil))).rd (ej_int).rd (nomark _))))) (ss_one (sj_app (i := 5) rfl (by first | exact .inl rfl | exact .inr (.inl rfl) | exact .inr (.inr rfl)) ((ej_lst (aj_cons (n_ 4) (aj_cons ((ej_lc (own := [("_law_p", 6)]) rfl nd (ij_range (by rfl) T.m_range (r_ 1)) (blkOk_by (own := [("_law_p", 6)]) (N := N__law_steps) (sc := defScope st__law_steps) (by decide +kernel)) (by decide) (fun _ _ _ _ _ => (g_ 6 nd)) (fun _ _ _ _ _ => ts_nil) (fun _ _ _ _ _ => (ej_callB (i := 0) c__law_take hr (by decide) (by rfl) rfl (by first | exact .inl rfl | exact .inr (.inl rfl) | exact .inr (.inr rfl)) (aj_cons (n_ 2) aj_nil))))).dt aj_nil)))).dt)) ss_nil)))
  (ss_cons (sj_if (TJW.tj (tj_and (tj_cmp op_eq ow_eq ((ej_callB (i := 0) c__law_take hr (by decide) (by rfl) rfl (by first | exact .inl rfl | exact .inr (.inl rfl) | exact .inr (.inr rfl)) (aj_cons ej_int aj_nil))).rd (ej_int).rd (nomark _)) (tj_and1 (tj_cmp (op_neD hr.units) ow_neD (r_ 5) ((ej_lst aj_nil)).dt.rd (nomark _))))) (ss_one (sj_app (i := 5) rfl (by first | exact .inl rfl | exact .inr (.inl rfl) | exact .inr (.inr rfl)) ((ej_lst (aj_cons ((ej_lc (own := [("_law_p", 6)]) rfl nd (ij_range (by rfl) T.m_range (r_ 1)) (blkOk_by (own := [("_law_p", 6)]) (N := N__law_steps) (sc := defScope st__law_steps) (by decide +kernel)) (by decide) (fun _ _ _ _ _ => (g_ 6 nd)) (fun _ _ _ _ _ => ts_nil) (fun _ _ _ _ _ => (ej_callB (i := 0) c__law_take hr (by decide) (by rfl) rfl (by first | exact .inl rfl | exact .inr (.inl rfl) | exact .inr (.inr rfl)) (aj_cons (n_ 1) aj_nil))))).dt (aj_cons ((ej_lc (own := [("_law_p", 6)]) rfl nd (ij_range (by rfl) T.m_range (r_ 1)) (blkOk_by (own := [("_law_p", 6)]) (N := N__law_steps) (sc := defScope st__law_steps) (by decide +kernel)) (by decide) (fun _ _ _ _ _ => (g_ 6 nd)) (fun _ _ _ _ _ => ts_nil) (fun _ _ _ _ _ => (ej_callB (i := 0) c__law_take hr (by decide) (by rfl) rfl (by first | exact .inl rfl | exact .inr (.inl rfl) | exact .inr (.inr rfl)) (aj_cons (n_ 2) aj_nil))))).dt aj_nil)))).dt)) ss_nil)
  (ss_frz 5 (ss_one (sj_ret (n_ 5))))))), fun ds q hf => ?_⟩
  obtain ⟨p, m, b, rfl, p1, p3, m1, m6, hq⟩ := hf
  change wSeq _ (wSeq _ ?t) _ _
  generalize hT : ?t = Tl
  simp [-Bool.exists_bool, and_assoc, ex_not]
  have tail : ∀ (l : List (List Nat × List Nat)) (c4 c6 : SC), (b = true → 1 ≤ l.length) → l.length ≤ 2 → (∀ r ∈ l, StepOk p m r) → Tl (endD q) { s := [.bx, .d (.int p), .d (.int m), .d (.bl b), c4, .l (stepD l), c6], b0 := false } := by
    subst hT
    intro l c4 c6 h1 h2 h3
    simp [-Bool.exists_bool, and_assoc, ex_not]
    have fin : ∀ l : List (List Nat × List Nat), (b = true → 1 ≤ l.length) → l.length ≤ 3 → (∀ r ∈ l, StepOk p m r) → q (.lst (stepD l)) := fun l a1 a2 a3 => hq l a1 a2 a3
    refine ⟨2, rfl, by omega, by omega, fun j hj => ⟨.int j, rfl, rfl, ?_⟩⟩
    split
    · refine ⟨Lay.ok (k := 3) (.lst _ _ fun x hx => ?_), nil_ok, ?_⟩
      · obtain ⟨r, _, rfl⟩ := List.mem_map.mp hx
        refine .lst _ _ fun y hy => ?_
        simp only [List.mem_cons, List.not_mem_nil, or_false] at hy
        rcases hy with rfl | rfl <;> exact Lay.dNL _ _
      · split
        · exact fin l h1 (by omega) h3
        · refine ⟨p, rfl, by omega, ?_⟩
          rw [rgN_dN]
          refine lc_take (m := p) (by simp; omega) (fun x hx acc q2 hacc2 hq2 => ?_) fun l1 hl1 hl2 => ⟨p, rfl, by omega, ?_⟩
          · simp [-Bool.exists_bool, and_assoc, ex_not]
            exact ⟨p, rfl, p1, by omega, fun i hi => ⟨hacc2, hq2 i hi⟩⟩
          rw [rgN_dN]
          refine lc_take (m := m) (by simp; omega) (fun x hx acc q2 hacc2 hq2 => ?_) fun l2 hl3 hl4 => ⟨len_ok (by omega), by simp [stepD]; omega, ?_⟩
          · simp [-Bool.exists_bool, and_assoc, ex_not]
            exact ⟨m, rfl, m1, by omega, fun i hi => ⟨hacc2, hq2 i hi⟩⟩
          have := fin (l ++ [(l1, l2)]) (fun _ => by simp) (by simp; omega) fun r hr => (List.mem_append.mp hr).elim (h3 r) fun h => by
            rw [List.mem_singleton] at h; subst h
            exact ⟨by simpa using hl1, by simpa using hl3, hl2, hl4⟩
          simpa [stepD] using this
    · exact fin l h1 (by omega) h3
  refine ⟨p, rfl, by omega, ?_⟩
  rw [rgN_dN]
  refine lc_take (m := p) (by simp; omega) (fun x hx acc q2 hacc2 hq2 => ?_) fun l1 hl1 hl2 => ?_
  · obtain ⟨a, ha, rfl⟩ := List.mem_map.mp hx
    simp [-Bool.exists_bool, and_assoc, ex_not]
    refine ⟨by omega, hacc2, ?_⟩
    rw [Int.fmod_eq_emod_of_nonneg _ (by omega)]
    exact hq2 ((a + 1) % p) (Nat.mod_lt _ (by omega))
  rw [dN_len, List.length_range] at hl1
  have one : ∀ (l2 : List Nat) (c6 : SC), l2.length = p → (∀ x ∈ l2, x < m) → Tl (endD q) { s := [.bx, .d (.int p), .d (.int m), .d (.bl b), .d (.lst (dN l1)), .l [.lst [.lst (dN l1), .lst (dN l2)]], c6], b0 := false } := fun l2 c6 k1 k2 =>
    tail [(l1, l2)] _ _ (fun _ => Nat.le_refl _) (by simp) fun r hr => by
      rw [List.mem_singleton] at hr; subst hr; exact ⟨hl1, k1, hl2, k2⟩
  have none : b = false → ∀ (c6 : SC), Tl (endD q) { s := [.bx, .d (.int p), .d (.int m), .d (.bl b), .d (.lst (dN l1)), .l [], c6], b0 := false } := fun hb c6 =>
    tail [] _ _ (fun h => by rw [hb] at h; cases h) (by simp) (by simp)
  have draw : ∀ (st : DS) (hst : st = { s := [.bx, .d (.int p), .d (.int m), .d (.bl b), .d (.lst (dN l1)), .l [], .no], b0 := false }), ∃ n : Nat, (p : Int) = n ∧ n ≤ 100000 ∧ lcGo (lcB (wGn 6) (fun x q => q true) (wCallB 0 f__law_take (wCons (wNm 2) wNil)) st) (List.map D.int (rgN n)) [] fun ys => 2 ≤ sizeLine ∧
      Tl (endD q) { s := [.bx, .d (.int p), .d (.int m), .d (.bl b), .d (.lst (dN l1)), .l [.lst [.lst (dN l1), .lst ys]], .no], b0 := false } := fun st hst => by
    subst hst
    refine ⟨p, rfl, by omega, ?_⟩
    rw [rgN_dN]
    refine lc_take (m := m) (by simp; omega) (fun x hx acc q2 hacc2 hq2 => ?_) fun l2 hl3 hl4 => ⟨len_ok (by omega), one l2 _ (by simpa using hl3) hl4⟩
    simp [-Bool.exists_bool, and_assoc, ex_not]
    exact ⟨m, rfl, m1, by omega, fun i hi => ⟨hacc2, hq2 i hi⟩⟩
  split
  · refine ⟨p, rfl, by omega, ?_⟩
    rw [rgN_dN]
    refine lc_take (m := m) (by simp; omega) (fun x hx acc q2 hacc2 hq2 => ?_) fun l2 hl3 hl4 => ⟨len_ok (by omega), ?_⟩
    · obtain ⟨a, ha, rfl⟩ := List.mem_map.mp hx
      simp [-Bool.exists_bool, and_assoc, ex_not]
      obtain ⟨j, hj, hm⟩ : ∃ j : Nat, [D.int 0, D.int 1, D.int 1, D.int 1, D.int 1, D.int 1, D.int 3][m]? = some (.int j) ∧ (1 < m → j < m) := by
        have h7 : ∀ m : Nat, m ≤ 6 → ∃ j : Nat, ([0, 1, 1, 1, 1, 1, 3] : List Nat)[m]? = some j ∧ (1 < m → j < m) := by decide
        obtain ⟨j, h1, h2⟩ := h7 m m6
        refine ⟨j, ?_, h2⟩
        show (dN [0, 1, 1, 1, 1, 1, 3])[m]? = _
        rw [dN_get, h1]; rfl
      split
      · split
        · exact ⟨len_ok (by omega), _, hj, hacc2, hq2 j (hm (by omega))⟩
        · exact ⟨hacc2, hq2 0 (by omega)⟩
      · exact ⟨hacc2, hq2 0 (by omega)⟩
    · rw [dN_len, List.length_range] at hl3
      split
      · rename_i h6
        refine ⟨p, rfl, by omega, len_ok (by omega), p, rfl, by omega, len_ok (by omega), ?_⟩
        rw [rgN_dN]
        have e1 : List.replicate p (D.int 1) = dN (List.replicate p 1) := by unfold dN; rw [List.map_replicate]; rfl
        rw [e1]
        exact tail [(l1, l2), (List.range p, List.replicate p 1)] _ _ (fun _ => by simp) (by simp) fun r hr => by
          simp only [List.mem_cons, List.not_mem_nil, or_false] at hr
          rcases hr with rfl | rfl
          · exact ⟨hl1, hl3, hl2, hl4⟩
          · exact ⟨by simp, by simp, fun x hx => List.mem_range.mp hx, fun x hx => by rw [List.eq_of_mem_replicate hx]; omega⟩
      · exact one l2 _ hl3 hl4
  · rename_i hb
    split
    · exact draw _ rfl
    · refine ⟨2, rfl, by omega, by omega, fun j hj => ⟨.int j, rfl, rfl, ?_⟩⟩
      split
      · exact draw _ rfl
      · exact none (by simpa using hb) _
end G78
namespace G78
open PySem PySem.Spec PyProof.Rows L2
/-- what the law draws -/
structure LawOk (n : Nat) (offs : List (List Op)) : Prop where
  ok : OffsOk n offs
  zz : ∀ o ∈ offs.flatten, o.nm ≠ "zzzzz"
  told : ∀ o ∈ offs.flatten, ∀ t ∈ o.told, t < 100000000003
  ne : offs.flatten ≠ []
def f__law_around : SpD := fun ds q => ds = [.int 9] ∧ ∀ (n : Nat) (offs : List (List Op)), LawOk n offs → q (.lst [.int n, offD offs])
theorem len__law_around : ∀ ds q, f__law_around ds q → ds.length + 1 = P__law_around.length := by
  rintro ds q ⟨rfl, _⟩; rfl
theorem prodL_drop {ps : List Nat} {i p : Nat} (h : ps[i]? = some p) : prodL (ps.drop i) = p * prodL (ps.drop (i + 1)) := by
  obtain ⟨h1, h2⟩ := List.getElem?_eq_some_iff.mp h
  rw [List.drop_eq_getElem_cons h1, h2, prodL]
theorem prodL_take (ps : List Nat) (i : Nat) : prodL (ps.take i) * prodL (ps.drop i) = prodL ps := by
  rw [← prodL_app, List.take_append_drop]
theorem prodL_pos {ps : List Nat} (h : ∀ p ∈ ps, 1 ≤ p) : 1 ≤ prodL ps := by
  induction ps with
  | nil => exact Nat.le_refl 1
  | cons p ps ih =>
    have h1 := h p List.mem_cons_self
    have h2 := ih fun q hq => h q (List.mem_cons_of_mem _ hq)
    rw [prodL]; exact Nat.mul_pos h1 h2
theorem range_at {n i k : Nat} (h : (List.range n)[i]? = some k) : k = i ∧ i < n := by
  obtain ⟨h1, h2⟩ := List.getElem?_eq_some_iff.mp h
  rw [List.getElem_range] at h2
  exact ⟨h2.symm, by simpa using h1⟩
/-- what the rows are when they are handed on -/
theorem law_ok {n : Nat} {names : List Str} {offs offs2 : List (List Op)} (n1 : 1 ≤ n) (n9 : n ≤ 9) (m2 : 2 ≤ offs.length) (m8 : offs.length ≤ 8) (few : offs.flatten.length ≤ 40) (hnm : Nms names) (hd : ∃ k, offs.flatten.map Op.nm = names.take k) (ne : 1 ≤ offs.flatten.length)
    (h1 : offs2.map (·.map Op.nm) = offs.map (·.map Op.nm)) (h2 : Shape n (offs.flatten.map Op.nm) offs2.flatten) : LawOk n offs2 := by
  have hl := congrArg List.length h1
  simp only [List.length_map] at hl
  have hf := congrArg List.length h2.nm
  rw [List.length_map, List.length_map] at hf
  obtain ⟨k, hk⟩ := hd
  have hmem : ∀ o ∈ offs2.flatten, o.nm ∈ names := fun o ho => by
    have : o.nm ∈ offs2.flatten.map Op.nm := List.mem_map_of_mem ho
    rw [h2.nm, hk] at this
    exact (List.take_sublist k names).mem this
  refine ⟨⟨n1, n9, by omega, by omega, by omega, h2.ok, fun o ho => (hnm.2 _ (hmem o ho)).1, fun o ho t ht => by have := h2.told o ho t ht; omega, ?_⟩, fun o ho => (hnm.2 _ (hmem o ho)).2, h2.told, fun e => by rw [e] at hf; rw [← hf] at ne; exact absurd ne (by decide)⟩
  rw [h2.nm, hk]
  exact hnm.1.sublist (List.take_sublist k names)
def stAr (n m : Nat) (ps : List Nat) (t : List (List Nat)) (stride : Nat) (offs : List (List Op)) (mv used : Nat) (nms : List Str) (c11 c12 c13 c14 c15 c16 c17 c18 c19 c20 c21 c22 : SC) : DS :=
  { s := [.bx, .d (.int 9), .d (.int n), .d (.int m), .d (.lst (dN ps)), .d (.lst (t.map fun r => .lst (dN r))), .d (.int stride), .l (offs.map fun os => .lst (os.map opL)), .d (.int mv), .d (.int used), .d (.lst (nms.map D.str)), c11, c12, c13, c14, c15, c16, c17, c18, c19, c20, c21, c22], b0 := false }
theorem p__law_around {w : World} {K : PySem.W.Frag} {mg : Str → Option Value} {base : Heap} {Z : ZZ} (T : Top w K mg base Z) : Cl prg w K mg base 4 "_law_around" (spB Z.C K f__law_around) := by
  have c__law_sizes := p__law_sizes T
  have c__law_names := p__law_names T
  have c__law_renumbered := p__law_renumbered T
  have c__law_table := p__law_table T
  have c__law_take := p__law_take T
  have c__law_steps := p__law_steps T
  have nd := sc__law_around.nd
  refine clB_of (k := 3) T.d__law_around sc__law_around (by intro kV doc pm an cdv ct us h; match us, h with | [a0, a1], _ => rfl) len__law_around fun fa cdv A outer s H E hr => ⟨_, (ss_cons (sj_asg (ej_callB (i := 0) c__law_sizes hr (by decide) (by rfl) rfl (by first | exact .inl rfl | exact .inr (.inl rfl) | exact .inr (.inr rfl)) (aj_cons (n_ 1) aj_nil)) (gj_lst (n := 3) rfl (gjs_cons (g_ 2 nd) (gjs_cons (g_ 3 nd) (gjs_cons (g_ 4 nd) gjs_nil)))))
  (ss_cons (sj_parT (is := [5, 6, 7, 8, 9]) rfl (pgs_cons (pg_ 5 nd) (pgs_cons (pg_ 6 nd) (pgs_cons (pg_ 7 nd) (pgs_cons (pg_ 8 nd) (pgs_cons (pg_ 9 nd) pgs_nil))))) (mj_d (ej_call c__law_table hr (by decide) (by rfl) (aj_cons (n_ 3) aj_nil)) (mj_d (n_ 2) (mj_o (ej_lst aj_nil) (mj_d (ej_callB (i := 0) c__law_take hr (by decide) (by rfl) rfl (by first | exact .inl rfl | exact .inr (.inl rfl) | exact .inr (.inr rfl)) (aj_cons (ej_b1 call_len_seq cw_len (by rfl) T.m_len PySem.boot_len (r_ 4)) aj_nil)) (mj_d ej_int mj_nil))))) (by decide))
  (ss_cons (sj_set (as_of (i := 10) nd rfl (by first | exact .inl rfl | exact .inr rfl) (ej_callB (i := 0) c__law_names hr (by decide) (by rfl) rfl (by first | exact .inl rfl | exact .inr (.inl rfl) | exact .inr (.inr rfl)) (aj_cons ej_int aj_nil))))
  (ss_cons (sj_for (passes_of rfl) rfl (ij_range (by rfl) T.m_range ((ej_b1 call_len_seq cw_len (by rfl) T.m_len PySem.boot_len (r_ 4))).rd) (g_ 11 nd) (ss_cons (sj_par2 (i := 12) (j := 13) rfl nd rfl rfl (by decide) rfl rfl (mj_d (ej_ix ix_seq ow_ix (r_ 4) (r_ 11)) (mj_o (ej_lst aj_nil) mj_nil)) (by rfl))
  (ss_cons (sj_set (as_of (i := 6) nd rfl (by first | exact .inl rfl | exact .inr rfl) (ej_op op_fdivN ow_ic (r_ 6) (r_ 12))))
  (ss_cons (sj_for (passes_of rfl) rfl (ij_list (ej_callB (i := 0) c__law_steps hr (by decide) (by rfl) rfl (by first | exact .inl rfl | exact .inr (.inl rfl) | exact .inr (.inr rfl)) (aj_cons (n_ 12) (aj_cons (n_ 3) (aj_cons (ej_cmp op_eq ow_eq (r_ 11) (r_ 8) (nomark _)) aj_nil))))) (gj_lst (n := 2) rfl (gjs_cons (g_ 14 nd) (gjs_cons (g_ 15 nd) gjs_nil))) (ss_cons (sj_par3 (i := 16) (j := 17) (l := 18) rfl nd rfl rfl rfl (by decide) (by decide) (by decide) rfl rfl rfl (mj_d ((ej_lc (own := [("_law_p", 20)]) rfl nd (ij_range (by rfl) T.m_range (r_ 12)) (blkOk_by (own := [("_law_p", 20)]) (N := N__law_around) (sc := defScope st__law_around) (by decide +kernel)) (by decide) (fun _ _ _ _ _ => (g_ 20 nd)) (fun _ _ _ _ _ => ts_nil) (fun _ _ _ _ _ => (ej_callB (i := 0) c__law_take hr (by decide) (by rfl) rfl (by first | exact .inl rfl | exact .inr (.inl rfl) | exact .inr (.inr rfl)) (aj_cons (ej_op op_add ow_i (ej_int).rd ((ej_op op_mul ow_ic ((ej_t1 call_int1 cw_int (by rfl) T.m_int (by decide +kernel) ((ej_cmp op_gt ow_b (r_ 11) (ej_int).rd (nomark _))).rd)).rd (ej_int).rd)).rd) aj_nil))))).dt (mj_o (ej_lst aj_nil) (mj_o (ej_lst aj_nil) mj_nil))) (by rfl))
  (ss_cons (sj_for (passes_of rfl) rfl (ij_range (by rfl) T.m_range (r_ 2)) (g_ 19 nd) (ss_cons (sj_par2 (i := 20) (j := 21) rfl nd rfl rfl (by decide) rfl rfl (mj_d (ej_op op_modN ow_ic ((ej_t1 call_int1 cw_int (by rfl) T.m_int (by decide +kernel) ((ej_op op_fdivN ow_ic (r_ 19) (r_ 6))).rd)).rd (r_ 12)) (mj_d (ej_op op_modN ow_ic ((ej_t1 call_int1 cw_int (by rfl) T.m_int (by decide +kernel) (r_ 19))).rd (r_ 3)) mj_nil)) (by rfl))
  (ss_cons (sj_set (as_of (i := 22) nd rfl (by first | exact .inl rfl | exact .inr rfl) (ej_if rfl (tj_cmp op_eq ow_eq (r_ 11) (ej_int).rd (nomark _)) (ej_ix ix_seq ow_ix ((ej_ix ix_seq ow_ix (r_ 5) ((ej_ix ix_seq ow_ix (r_ 15) (r_ 20))).rd)).rd (r_ 21)) (ej_ix ix_seq ow_ix ((ej_ix ix_seq ow_ix (r_ 5) (r_ 21))).rd ((ej_ix ix_seq ow_ix (r_ 15) (r_ 20))).rd))))
  (ss_cons (sj_app (i := 17) rfl (by first | exact .inl rfl | exact .inr (.inl rfl) | exact .inr (.inr rfl)) (ej_op op_sub ow_i ((ej_op op_add ow_i ((ej_op op_add ow_i (r_ 19) ((ej_op op_mul ow_ic ((ej_op op_sub ow_i ((ej_ix ix_seq ow_ix (r_ 14) (r_ 20))).rd (r_ 20))).rd (r_ 6))).rd)).rd (r_ 22))).rd (r_ 21)))
  (ss_one (sj_app (i := 18) rfl (by first | exact .inl rfl | exact .inr (.inl rfl) | exact .inr (.inr rfl)) (ej_ix ix_seq ow_ix (r_ 16) (r_ 20))))))))
  (ss_frz 17 (ss_frz 18 (ss_cons (sj_app (i := 13) rfl (by first | exact .inl rfl | exact .inr (.inl rfl) | exact .inr (.inr rfl)) ((ej_lst (aj_cons (ej_ix ix_seq ow_ix (r_ 10) (r_ 9)) (aj_cons (n_ 17) (aj_cons (n_ 18) aj_nil))))).dt)
  (ss_one (sj_set (as_of (i := 9) nd rfl (by first | exact .inl rfl | exact .inr rfl) (ej_op op_add ow_i (r_ 9) (ej_int).rd))))))))))
  (ss_frz 13 (ss_one (sj_app (i := 7) rfl (by first | exact .inl rfl | exact .inr (.inl rfl) | exact .inr (.inr rfl)) (n_ 13))))))))
  (ss_frz 7 (ss_one (sj_ret (ej_callB (i := 0) c__law_renumbered hr (by decide) (by rfl) rfl (by first | exact .inl rfl | exact .inr (.inl rfl) | exact .inr (.inr rfl)) (aj_cons (n_ 2) (aj_cons (n_ 7) aj_nil)))))))))), fun ds q hf => ?_⟩
  obtain ⟨rfl, hq⟩ := hf
  simp [-Bool.exists_bool, and_assoc, ex_not]
  refine ⟨rfl, fun m ps m1 m6 ps2 ps4 hps hmul => ?_⟩
  obtain ⟨n, hn⟩ : ∃ n, n = m * prodL ps := ⟨_, rfl⟩
  have n1 : 1 ≤ n := hn ▸ Nat.mul_pos m1 (prodL_pos fun p hp => (hps p hp).1)
  rw [← hn] at hmul ⊢
  refine ⟨_, rfl, rfl, _, _, rfl, _, _, rfl, _, _, rfl, rfl, m, rfl, m1, m6, fun t ht1' ht2' => ⟨_, .inl rfl, ps.length, by rw [dN_len], by omega, by omega, fun mv hmv => ⟨14, rfl, by omega, by omega, fun nms hnl hnms => ⟨_, .inl rfl, ps.length, by rw [dN_len], by omega, ?_⟩⟩⟩⟩
  rw [rgN_dN]
  refine forGo_inv (fun i ds => ∃ (offs : List (List Op)) (u : Nat) (c11 c12 c13 c14 c15 c16 c17 c18 c19 c20 c21 c22 : SC), ds = stAr n m ps t (m * prodL (ps.drop i)) offs mv u nms c11 c12 c13 c14 c15 c16 c17 c18 c19 c20 c21 c22 ∧ u = offs.flatten.length ∧ offs.length = i ∧ Drawn n (nms.take u) offs.flatten ∧ u ≤ 3 * i ∧ (mv < i → 1 ≤ u)) _ _ 0 ⟨[], 0, .no, .no, .no, .no, .no, .no, .no, .no, .no, .no, .no, .no, by rw [List.drop_zero, ← hn]; rfl, rfl, rfl, Drawn.nil n, by simp, by omega⟩ ?_ ?_
  · rintro i d _ N hd ⟨offs, u, c11, c12, c13, c14, c15, c16, c17, c18, c19, c20, c21, c22, rfl, hu, ho, hdr, h3, hmo⟩ hN
    rw [Nat.zero_add] at hN ho h3 hmo
    rw [Nat.zero_add]
    rw [dN_get] at hd
    obtain ⟨k, hk, rfl⟩ := Option.map_eq_some_iff.mp hd
    obtain ⟨rfl, hki⟩ := range_at hk
    obtain ⟨p, hp⟩ : ∃ p, ps[k]? = some p := ⟨_, List.getElem?_eq_getElem hki⟩
    obtain ⟨p1, p3⟩ := hps p (List.mem_of_getElem? hp)
    have hdp := prodL_drop hp
    have hpr := prodL_take ps k
    obtain ⟨S, hS⟩ : ∃ S, S = m * prodL (ps.drop (k + 1)) := ⟨_, rfl⟩
    have hS1 : 1 ≤ S := hS ▸ Nat.mul_pos m1 (prodL_pos fun p hp => (hps p ((List.drop_sublist _ _).mem hp)).1)
    have hmS : m ∣ S := hS ▸ Nat.dvd_mul_right _ _
    have hpS : p * S ∣ n := by
      rw [hn, ← hpr, hdp, hS]
      exact ⟨prodL (ps.take k), by
        rw [Nat.mul_left_comm p m, Nat.mul_assoc m, Nat.mul_comm (prodL (ps.take k))]⟩
    have hSn : p * S ≤ n := Nat.le_of_dvd n1 hpS
    have hS9 : S ≤ 9 := by
      have : 1 * S ≤ p * S := Nat.mul_le_mul_right S p1
      omega
    rw [← hS] at hN
    have e1 : m * prodL (ps.drop k) = p * S := by rw [hdp, hS, Nat.mul_left_comm]
    rw [e1]
    simp [-Bool.exists_bool, and_assoc, ex_not, stAr, hp]
    have eS : ((p : Int) * S).fdiv p = S := Int.mul_fdiv_cancel_left _ (by omega)
    refine ⟨⟨by omega, by omega⟩, p, m, decide (k = mv), by rw [show decide ((k : Int) = mv) = decide (k = mv) from decide_eq_decide.mpr (by omega)], p1, p3, m1, m6, fun l hl1 hl3 hl => ⟨_, rfl, ?_⟩⟩
    rw [eS]
    refine forGo_inv (fun j ds => ∃ (os : List Op) (c14 c15 c16 c17 c18 c19 c20 c21 c22 : SC), ds = stAr n m ps t S offs mv (u + j) nms (.d (.int k)) (.d (.int p)) (.l (os.map opL)) c14 c15 c16 c17 c18 c19 c20 c21 c22 ∧ os.length = j ∧ Drawn n (nms.take (u + j)) (offs.flatten ++ os)) _ _ 0 ⟨[], c14, c15, c16, c17, c18, c19, c20, c21, c22, rfl, rfl, by simpa using hdr⟩ ?_ ?_
    · rintro j d _ N2 hd2 ⟨os, c14, c15, c16, c17, c18, c19, c20, c21, c22, rfl, hj, hdr2⟩ hN2
      rw [Nat.zero_add] at hN2 hj hdr2
      rw [Nat.zero_add]
      rw [List.getElem?_map] at hd2
      obtain ⟨r, hr, rfl⟩ := Option.map_eq_some_iff.mp hd2
      have hjl := (List.getElem?_eq_some_iff.mp hr).1
      obtain ⟨r1, r2, r3, r4⟩ := hl r (List.mem_of_getElem? hr)
      obtain ⟨nm, hnm⟩ : ∃ nm, nms[u + j]? = some nm := ⟨_, List.getElem?_eq_getElem (by omega)⟩
      simp [-Bool.exists_bool, and_assoc, ex_not, stAr]
      refine ⟨p, rfl, by omega, ?_⟩
      rw [rgN_dN]
      refine lc_take (m := 3) (by simp; omega) (fun x hx acc q' hacc hq' => ?_) fun told ht1 ht2 => ?_
      · simp [-Bool.exists_bool, and_assoc, ex_not]
        obtain ⟨y, hy, hy3⟩ : ∃ y : Nat, (if 0 < k then (1 : Int) else 0) = y ∧ y ≤ 1 := by
          split
          · exact ⟨1, rfl, by omega⟩
          · exact ⟨0, rfl, by omega⟩
        rw [hy]
        exact ⟨.inr ⟨by omega, by omega⟩, 1 + y * 2, by simp, by omega, by omega, fun i hi => ⟨hacc, hq' i (by omega)⟩⟩
      · refine ⟨n, rfl, by omega, ?_⟩
        rw [rgN_dN]
        rw [dN_len, List.length_range] at ht1
        refine forGo_inv (fun z ds => ∃ (E A : List Nat) (c19 c20 c21 c22 : SC), ds = stAr n m ps t S offs mv (u + j) nms (.d (.int k)) (.d (.int p)) (.l (os.map opL)) (.d (.lst (dN r.1))) (.d (.lst (dN r.2))) (.d (.lst (dN told))) (.l (dN E)) (.l (dN A)) c19 c20 c21 c22 ∧ E.length = z ∧ A.length = z ∧ (∀ x ∈ E, x < n) ∧ ∀ x ∈ A, x < 3) _ _ 0 ⟨[], [], c19, c20, c21, c22, rfl, rfl, rfl, by simp, by simp⟩ ?_ ?_
        · rintro z d _ N3 hd3 ⟨E, A', c19, c20, c21, c22, rfl, g1, g2, g3, g4⟩ hN3
          rw [Nat.zero_add] at hN3 g1 g2
          rw [dN_get] at hd3
          obtain ⟨s', hs', rfl⟩ := Option.map_eq_some_iff.mp hd3
          obtain ⟨rfl, hsn⟩ := range_at hs'
          change wSeq _ ?t _ _
          generalize hT : ?t = Tl
          simp [-Bool.exists_bool, and_assoc, ex_not, stAr]
          refine ⟨⟨by omega, by omega⟩, by omega, by omega, ?_⟩
          obtain ⟨P, hP⟩ : ∃ P, P = s' / S % p := ⟨_, rfl⟩
          obtain ⟨G, hG⟩ : ∃ G, G = s' % m := ⟨_, rfl⟩
          have eP : (((s' : Int)).fdiv S).fmod p = (P : Nat) := by
            rw [Int.fdiv_eq_ediv_of_nonneg _ (by omega), Int.fmod_eq_emod_of_nonneg _ (by omega), hP]
            rfl
          have eG : ((s' : Int)).fmod m = (G : Nat) := by
            rw [Int.fmod_eq_emod_of_nonneg _ (by omega), hG]
            rfl
          have hPp : P < p := hP ▸ Nat.mod_lt _ p1
          have hGm : G < m := hG ▸ Nat.mod_lt _ m1
          rw [eP, eG]
          obtain ⟨b', hb'⟩ : ∃ b', r.2[P]? = some b' := ⟨_, List.getElem?_eq_getElem (by omega)⟩
          have hbm := r4 _ (List.mem_of_getElem? hb')
          obtain ⟨to, hto⟩ : ∃ to, r.1[P]? = some to := ⟨_, List.getElem?_eq_getElem (by omega)⟩
          have htp := r3 _ (List.mem_of_getElem? hto)
          obtain ⟨tt, htt⟩ : ∃ tt, told[P]? = some tt := ⟨_, List.getElem?_eq_getElem (by omega)⟩
          have htt3 := ht2 _ (List.mem_of_getElem? htt)
          have two : ∀ x y, x < m → y < m → ∃ R : List Nat, t[x]? = some R ∧ ∃ z, R[y]? = some z ∧ z < m := fun x y hx hy => by
            obtain ⟨R, hR⟩ : ∃ R, t[x]? = some R := ⟨_, List.getElem?_eq_getElem (by omega)⟩
            obtain ⟨q1, q2⟩ := ht2' R (List.mem_of_getElem? hR)
            obtain ⟨z, hz⟩ : ∃ z, R[y]? = some z := ⟨_, List.getElem?_eq_getElem (by omega)⟩
            exact ⟨R, hR, z, hz, q2 z (List.mem_of_getElem? hz)⟩
          obtain ⟨R1, hR1, z1, hz1, hz1m⟩ := two b' G hbm hGm
          obtain ⟨R2, hR2, z2, hz2, hz2m⟩ := two G b' hGm hbm
          subst hT
          simp [-Bool.exists_bool, and_assoc, ex_not, hb', hto, htt, hR1, hR2, hz1, hz2]
          have fin : ∀ z : Nat, z < m → CMul ((to : Int) - P) S ∧ E.length < 100000 ∧ A'.length < 100000 ∧ N3 { s := [.bx, .d (.int 9), .d (.int n), .d (.int m), .d (.lst (dN ps)), .d (.lst (t.map fun r => .lst (dN r))), .d (.int S), .l (offs.map fun os => .lst (os.map opL)), .d (.int mv), .d (.int (u + j)), .d (.lst (nms.map D.str)), .d (.int k), .d (.int p), .l (os.map opL), .d (.lst (dN r.1)), .d (.lst (dN r.2)), .d (.lst (dN told)), .l (dN E ++ [.int (s' + (to - P) * S + z - G)]), .l (dN A' ++ [.int tt]), .d (.int s'), .d (.int P), .d (.int G), .d (.int z)], b0 := false } := fun z hz => by
            obtain ⟨new, hn1, hn2⟩ := around_lt (to := to) (share := z) m1 hmS hpS hsn htp hz
            rw [← hP, ← hG] at hn2
            have e : (s' : Int) + (to - P) * S + z - G = (new : Nat) := by
              have : ((new + P * S + G : Nat) : Int) = ((s' + to * S + z : Nat) : Int) := congrArg _ hn2
              simp only [Int.natCast_add, Int.natCast_mul] at this
              rw [Int.sub_mul]; omega
            rw [e]
            refine ⟨.inr ⟨by omega, by omega⟩, by omega, by omega, hN3 _ ⟨E ++ [new], A' ++ [tt], .d (.int s'), .d (.int P), .d (.int G), .d (.int z), ?_, by simp [g1], by simp [g2], fun x hx => ?_, fun x hx => ?_⟩⟩
            · simp [stAr, dN]
            · rcases List.mem_append.mp hx with h | h
              · exact g3 x h
              · rw [List.mem_singleton] at h; subst h; exact hn1
            · rcases List.mem_append.mp hx with h | h
              · exact g4 x h
              · rw [List.mem_singleton] at h; subst h; exact htt3
          split
          · exact fin z1 hz1m
          · exact fin z2 hz2m
        · rintro _ ⟨E, A', c19, c20, c21, c22, rfl, g1, g2, g3, g4⟩
          rw [Nat.zero_add, dN_len, List.length_range] at g1 g2
          have hat : atI (nms.map D.str) ((u : Int) + j) = some (.str nm) := by
            rw [← Int.natCast_add, atI_nat', List.getElem?_map, hnm]; rfl
          simp [-Bool.exists_bool, and_assoc, ex_not, stAr, hat]
          refine ⟨len_ok (by omega), by omega, hN2 _ ⟨os ++ [⟨nm, E, A'⟩], .d (.lst (dN r.1)), .d (.lst (dN r.2)), .d (.lst (dN told)), .d (.lst (dN E)), .d (.lst (dN A')), c19, c20, c21, c22, ?_, by simp [hj], ?_⟩⟩
          · simp [stAr, opL, Int.add_assoc]
          · rw [← Nat.add_assoc, List.take_add_one, hnm, ← List.append_assoc]
            exact Drawn.add (o := ⟨nm, E, A'⟩) hdr2 ⟨g1, g2, g3⟩ fun t ht => by have := g4 t ht; omega
    · rintro _ ⟨os, c14, c15, c16, c17, c18, c19, c20, c21, c22, rfl, hj, hdr2⟩
      rw [Nat.zero_add, List.length_map] at hj hdr2
      rw [Nat.zero_add, List.length_map]
      simp [-Bool.exists_bool, and_assoc, ex_not, stAr]
      refine ⟨by omega, hN _ ⟨offs ++ [os], u + l.length, .d (.int k), .d (.int p), .d (.lst (os.map opL)), c14, c15, c16, c17, c18, c19, c20, c21, c22, ?_, ?_, by simp [ho], by simpa using hdr2, by omega, fun hmv2 => ?_⟩⟩
      · simp [stAr]
      · rw [List.flatten_append, List.length_append, ← hu]; simp [hj]
      · by_cases e : k = mv
        · have := hl1 (by simpa using e)
          omega
        · have := hmo (by omega)
          omega
  · rintro _ ⟨offs, u, c11, c12, c13, c14, c15, c16, c17, c18, c19, c20, c21, c22, rfl, hu, ho, hdr, h3, hmo⟩
    rw [Nat.zero_add, dN_len, List.length_range] at ho h3 hmo
    simp [-Bool.exists_bool, and_assoc, ex_not, stAr]
    refine ⟨n, offs, rfl, n1, by omega, by omega, fun os hos => ?_, ?_, fun offs2 k1 k2 => ?_⟩
    · have := flatten_few (Nat.le_refl _) os hos
      rw [← hu] at this
      omega
    · rw [hdr.nm]; exact hdr
    · exact hq n offs2 (law_ok n1 (by omega) (by omega) (by omega) (by rw [← hu]; omega) hnms ⟨_, hdr.nm⟩ (by rw [← hu]; exact hmo (by omega)) k1 k2)
def f__law_some : SpD := fun ds q => ds = [] ∧ ∀ (n : Nat) (offs : List (List Op)), LawOk n offs → q (.lst [.int n, offD offs])
theorem len__law_some : ∀ ds q, f__law_some ds q → ds.length + 1 = P__law_some.length := by
  rintro ds q ⟨rfl, _⟩; rfl
theorem p__law_some {w : World} {K : PySem.W.Frag} {mg : Str → Option Value} {base : Heap} {Z : ZZ} (T : Top w K mg base Z) : Cl prg w K mg base 5 "_law_some" (spB Z.C K f__law_some) := by
  have c__law_pick := p__law_pick T
  have c__law_drawn := p__law_drawn T
  have c__law_renumbered := p__law_renumbered T
  have c__law_take := p__law_take T
  have c__law_around := p__law_around T
  have c__law_names := p__law_names T
  have nd := sc__law_some.nd
  refine clB_of (k := 4) T.d__law_some sc__law_some (by intro kV doc pm an cdv ct us h; match us, h with | [a0], _ => rfl) len__law_some fun fa cdv A outer s H E hr => ⟨_, (ss_cons (sj_if (tj_cmp op_eq ow_eq ((ej_callB (i := 0) c__law_take hr (by decide) (by rfl) rfl (by first | exact .inl rfl | exact .inr (.inl rfl) | exact .inr (.inr rfl)) (aj_cons ej_int aj_nil))).rd (ej_int).rd (nomark _)) (ss_one (sj_ret (ej_callB (i := 0) c__law_around hr (by decide) (by rfl) rfl (by first | exact .inl rfl | exact .inr (.inl rfl) | exact .inr (.inr rfl)) (aj_cons ej_int aj_nil)))) ss_nil)
  (ss_cons (sj_set (as_of (i := 1) nd rfl (by first | exact .inl rfl | exact .inr rfl) (ej_callB (i := 0) c__law_pick hr (by decide) (by rfl) rfl (by first | exact .inl rfl | exact .inr (.inl rfl) | exact .inr (.inr rfl)) (aj_cons ((ej_lst (aj_cons ((ej_lst (aj_cons ej_int (aj_cons ej_int aj_nil)))).dt (aj_cons ((ej_lst (aj_cons ej_int (aj_cons ej_int aj_nil)))).dt (aj_cons ((ej_lst (aj_cons ej_int (aj_cons ej_int aj_nil)))).dt (aj_cons ((ej_lst (aj_cons ej_int (aj_cons ej_int aj_nil)))).dt (aj_cons ((ej_lst (aj_cons ej_int (aj_cons ej_int aj_nil)))).dt (aj_cons ((ej_lst (aj_cons ej_int (aj_cons ej_int (aj_cons ej_int aj_nil))))).dt (aj_cons ((ej_lst (aj_cons ej_int (aj_cons ej_int (aj_cons ej_int (aj_cons ej_int aj_nil)))))).dt (aj_cons ((ej_lst (aj_cons ej_int (aj_cons ej_int aj_nil)))).dt aj_nil)))))))))).dt aj_nil))))
  (ss_cons (sj_asg (ej_callB (i := 0) c__law_drawn hr (by decide) (by rfl) rfl (by first | exact .inl rfl | exact .inr (.inl rfl) | exact .inr (.inr rfl)) (aj_cons (ej_callB (i := 0) c__law_names hr (by decide) (by rfl) rfl (by first | exact .inl rfl | exact .inr (.inl rfl) | exact .inr (.inr rfl)) (aj_cons (ej_b1 (cr_sum rfl) cw_sum (by rfl) T.m_sum (by decide +kernel) (r_ 1)) aj_nil)) (aj_cons (n_ 1) (aj_cons (ej_op op_add ow_i (ej_int).rd ((ej_callB (i := 0) c__law_take hr (by decide) (by rfl) rfl (by first | exact .inl rfl | exact .inr (.inl rfl) | exact .inr (.inr rfl)) (aj_cons ej_int aj_nil))).rd) aj_nil)))) (gj_lst (n := 2) rfl (gjs_cons (g_ 2 nd) (gjs_cons (g_ 3 nd) gjs_nil))))
  (ss_one (sj_ret (ej_callB (i := 0) c__law_renumbered hr (by decide) (by rfl) rfl (by first | exact .inl rfl | exact .inr (.inl rfl) | exact .inr (.inr rfl)) (aj_cons (n_ 2) (aj_cons (n_ 3) aj_nil)))))))), fun ds q hf => ?_⟩
  obtain ⟨rfl, hq⟩ := hf
  simp [-Bool.exists_bool, and_assoc, ex_not]
  refine ⟨2, rfl, by omega, by omega, fun j hj => ⟨.int j, rfl, rfl, ?_⟩⟩
  split
  · exact ⟨rfl, hq⟩
  · refine ⟨len_ok (by omega), len_ok (by omega), len_ok (by omega), len_ok (by omega), len_ok (by omega), _, rfl, by simp, by simp, fun x hx => ?_⟩
    obtain ⟨cs, hcs, rfl⟩ : ∃ cs ∈ ([[1, 1], [0, 1], [2, 1], [1, 2], [3, 0], [1, 1, 1], [0, 1, 0, 1], [4, 1]] : List (List Nat)), x = .lst (dN cs) := by
      have hx : x ∈ ([[1, 1], [0, 1], [2, 1], [1, 2], [3, 0], [1, 1, 1], [0, 1, 0, 1], [4, 1]] : List (List Nat)).map fun cs => D.lst (dN cs) := hx
      obtain ⟨cs, h1, h2⟩ := List.mem_map.mp hx
      exact ⟨cs, h1, h2.symm⟩
    have hc : ∀ cs ∈ ([[1, 1], [0, 1], [2, 1], [1, 2], [3, 0], [1, 1, 1], [0, 1, 0, 1], [4, 1]] : List (List Nat)), 1 ≤ cs.sum ∧ cs.sum ≤ 5 ∧ 2 ≤ cs.length ∧ cs.length ≤ 4 ∧ (cs.map fun n : Nat => (n : Int)).sum = (cs.sum : Nat) := by decide
    obtain ⟨c1, c5, l2, l4, es⟩ := hc cs hcs
    refine ⟨cs.map fun n : Nat => (n : Int), by rw [dN_int], cs.sum, by rw [es], c1, by omega, fun ns hl hns => ⟨3, rfl, by omega, by omega, fun i hi => ⟨i, rfl, ns, cs, 2 + i, by simp, hl, by omega, by omega, by omega, by omega, fun offs ho hd => ⟨_, rfl, rfl, _, _, rfl, _, _, rfl, rfl, 2 + i, offs, rfl, by omega, by omega, by omega, fun os hos => ?_, ?_, fun offs2 k1 k2 => ?_⟩⟩⟩⟩
    · have h1 := congrArg List.length hd.nm
      rw [List.length_map] at h1
      have := flatten_few (Nat.le_refl _) os hos
      omega
    · rw [hd.nm]; exact hd
    · have h1 := congrArg List.length hd.nm
      rw [List.length_map] at h1
      exact hq _ _ (law_ok (names := ns) (by omega) (by omega) (by omega) (by omega) (by omega) hns ⟨ns.length, by rw [hd.nm, List.take_length]⟩ (by omega) k1 k2)
end G78
namespace G78
open PySem PySem.Spec PyProof.Rows L2
def f__law_reach : SpD := fun ds q => ∃ (n : Nat) (os : List Op), ds = [.int n, .lst (os.map Op.D)] ∧ 1 ≤ n ∧ n ≤ 9 ∧ (∀ o ∈ os, o.Ok n) ∧ ∀ rows : List (List Nat), RowsOk os n rows → q (.lst (rows.map fun r => .lst (dN r)))
theorem len__law_reach : ∀ ds q, f__law_reach ds q → ds.length = P__law_reach.length := by
  rintro ds q ⟨n, os, rfl, _⟩; rfl
/-- what is seen so far from s -/
structure SeenL (os : List Op) (n s : Nat) (row : List Nat) : Prop where
  nd : row.Nodup
  lt : ∀ x ∈ row, x < n
  re : ∀ x ∈ row, Reach os s x
  st : s ∈ row
theorem SeenL.len {os : List Op} {n s : Nat} {row : List Nat} (h : SeenL os n s row) : row.length ≤ n := nodup_len h.nd h.lt
theorem SeenL.all {os : List Op} {n s : Nat} {row : List Nat} (h : SeenL os n s row) (c : ∀ x ∈ row, ∀ o ∈ os, o.e x ∈ row) (x : Nat) : x ∈ row ↔ Reach os s x := by
  refine ⟨h.re x, fun hr => ?_⟩
  induction hr with
  | refl => exact h.st
  | step _ ho ih => exact c _ ih _ ho
def seenD (row : List Nat) : List (Key × D) := row.map fun x : Nat => (Sum.inl (x : Int), .bl true)
theorem dgt_seen (row : List Nat) (x : Nat) : dgt (seenD row) (Sum.inl (x : Int)) = if x ∈ row then some (.bl true) else none := by
  have h := dgt_map (row.map fun x => (x, ())) (fun _ => D.bl true) x
  rw [List.map_map] at h
  show dgt (row.map ((fun p : Nat × Unit => (Sum.inl (p.1 : Int), D.bl true)) ∘ fun x => (x, ()))) (Sum.inl (x : Int)) = _
  rw [h]
  by_cases hx : x ∈ row
  · rw [if_pos hx]
    cases e : (row.map fun x => (x, ())).lookup x with
    | none =>
      have := lookup_none.mp e
      rw [List.map_map] at this
      exact absurd (List.mem_map.mpr ⟨x, hx, rfl⟩) this
    | some u => rfl
  · rw [if_neg hx]
    have e : (row.map fun x => (x, ())).lookup x = none := lookup_none.mpr (by
      rw [List.map_map]
      intro h
      obtain ⟨y, hy, e⟩ := List.mem_map.mp h
      exact hx (by have : y = x := e; exact this ▸ hy))
    rw [e]; rfl
theorem seen_new {row : List Nat} {x : Nat} (h : x ∉ row) : dpt (seenD row) (Sum.inl (x : Int)) (.bl true) = seenD (row ++ [x]) := by
  rw [dpt_new]
  · simp [seenD]
  · intro p hp z
    obtain ⟨y, hy, rfl⟩ := List.mem_map.mp hp
    have : y = x := by have := Sum.inl.inj z; omega
    exact h (this ▸ hy)
theorem seen_nil (x : Nat) : dpt [] (Sum.inl (x : Int)) (.bl true) = seenD [x] := rfl
def stRc (n : Nat) (os : List Op) (rows : List (List Nat)) (c3 c4 c5 c6 c7 c8 c9 : SC) : DS :=
  { s := [.d (.int n), .d (.lst (os.map Op.D)), .l (rows.map fun r => .lst (dN r)), c3, c4, c5, c6, c7, c8, c9] }
theorem p__law_reach {w : World} {K : PySem.W.Frag} {mg : Str → Option Value} {base : Heap} {Z : ZZ} (T : Top w K mg base Z) : Cl prg w K mg base 1 "_law_reach" (spP Z.C K f__law_reach) := by
  have nd := sc__law_reach.nd
  refine clP_of (k := 0) T.d__law_reach sc__law_reach (by intro kV doc pm an cdv ct us h; match us, h with | [a0, a1], _ => rfl) len__law_reach fun fa cdv A outer s H E hr => ⟨_, (ss_cons (sj_own (as_of (i := 2) nd rfl (by first | exact .inl rfl | exact .inr rfl) (ej_lst aj_nil)))
  (ss_cons (sj_for (passes_of rfl) rfl (ij_range (by rfl) T.m_range (r_ 0)) (g_ 3 nd) (ss_cons (sj_par2 (i := 4) (j := 5) rfl nd rfl rfl (by decide) rfl rfl (mj_o (ej_lst (aj_cons (n_ 3) aj_nil)) (mj_o ej_dic0 mj_nil)) (by rfl))
  (ss_cons (sj_dput (i := 5) hr rfl (by first | exact .inl rfl | exact .inr (.inl rfl) | exact .inr (.inr rfl)) ej_bl (r_ 3))
  (ss_cons (sj_for (passes_of rfl) rfl (ij_range (by rfl) T.m_range (r_ 0)) (g_ 6 nd) (ss_one (sj_if (tj_cmp op_lt ow_b (r_ 6) ((ej_b1 call_len_seq cw_len (by rfl) T.m_len PySem.boot_len (r_ 4))).rd (nomark _)) (ss_one (sj_for (passes_of rfl) rfl (ij_list (n_ 1)) (gj_tup (n := 3) rfl (gjs_cons (g_ 7 nd) (gjs_cons (g_ 8 nd) (gjs_cons (g_ 9 nd) gjs_nil)))) (ss_one (sj_if (tj_dnin hr ((ej_ix ix_seq ow_ix (r_ 8) ((ej_ix ix_seq ow_ix (r_ 4) (r_ 6))).rd)).rd (r_ 5) (by rfl)) (ss_cons (sj_dput (i := 5) hr rfl (by first | exact .inl rfl | exact .inr (.inl rfl) | exact .inr (.inr rfl)) ej_bl ((ej_ix ix_seq ow_ix (r_ 8) ((ej_ix ix_seq ow_ix (r_ 4) (r_ 6))).rd)).rd)
  (ss_one (sj_app (i := 4) rfl (by first | exact .inl rfl | exact .inr (.inl rfl) | exact .inr (.inr rfl)) (ej_ix ix_seq ow_ix (r_ 8) ((ej_ix ix_seq ow_ix (r_ 4) (r_ 6))).rd)))) ss_nil)))) ss_nil)))
  (ss_frz 4 (ss_one (sj_app (i := 2) rfl (by first | exact .inl rfl | exact .inr (.inl rfl) | exact .inr (.inr rfl)) (n_ 4))))))))
  (ss_frz 2 (ss_one (sj_ret (n_ 2)))))), fun ds q hf => ?_⟩
  obtain ⟨n, os, rfl, n1, n9, hok, hq⟩ := hf
  simp [-Bool.exists_bool, and_assoc, ex_not]
  refine ⟨n, rfl, by omega, ?_⟩
  rw [rgN_dN]
  refine forGo_inv (fun i ds => ∃ (rows : List (List Nat)) (c3 c4 c5 c6 c7 c8 c9 : SC), ds = stRc n os rows c3 c4 c5 c6 c7 c8 c9 ∧ rows.length = i ∧ ∀ (s : Nat) (r : List Nat), rows[s]? = some r → r.length ≤ n ∧ ∀ x, x ∈ r ↔ Reach os s x) _ _ 0 ⟨[], .no, .no, .no, .no, .no, .no, .no, rfl, rfl, by simp⟩ ?_ ?_
  · rintro i d _ N hd ⟨rows, c3, c4, c5, c6, c7, c8, c9, rfl, h1, h2⟩ hN
    rw [Nat.zero_add] at hN h1
    rw [dN_get] at hd
    obtain ⟨k, hk, rfl⟩ := Option.map_eq_some_iff.mp hd
    obtain ⟨rfl, hkn⟩ := range_at hk
    simp [-Bool.exists_bool, and_assoc, ex_not, stRc]
    refine ⟨len_ok (by omega), n, rfl, by omega, ?_⟩
    rw [rgN_dN]
    refine forGo_inv (fun t ds => ∃ (row : List Nat) (c6 c7 c8 c9 : SC), ds = stRc n os rows (.d (.int k)) (.l (dN row)) (.k (seenD row)) c6 c7 c8 c9 ∧ SeenL os n k row ∧ ∀ j x, j < t → row[j]? = some x → ∀ o ∈ os, o.e x ∈ row) _ _ 0 ⟨[k], c6, c7, c8, c9, rfl, ⟨by simp, by simpa using hkn, by simpa using Reach.refl k, by simp⟩, by omega⟩ ?_ ?_
    · rintro t d _ N2 hd2 ⟨row, c6, c7, c8, c9, rfl, se, cl⟩ hN2
      rw [Nat.zero_add] at hN2 cl
      rw [dN_get] at hd2
      obtain ⟨t', ht, rfl⟩ := Option.map_eq_some_iff.mp hd2
      obtain ⟨rfl, htn⟩ := range_at ht
      have hle := se.len
      simp [-Bool.exists_bool, and_assoc, ex_not, stRc]
      split
      · rename_i hlt
        obtain ⟨x, hx⟩ : ∃ x, row[t']? = some x := ⟨_, List.getElem?_eq_getElem (by simpa using hlt)⟩
        have hxm := List.mem_of_getElem? hx
        refine forGo_inv (fun i ds => ∃ (row2 ext : List Nat) (c7 c8 c9 : SC), ds = stRc n os rows (.d (.int k)) (.l (dN row2)) (.k (seenD row2)) (.d (.int t')) c7 c8 c9 ∧ row2 = row ++ ext ∧ SeenL os n k row2 ∧ ∀ o ∈ os.take i, o.e x ∈ row2) _ _ 0 ⟨row, [], c7, c8, c9, rfl, by simp, se, by simp⟩ ?_ ?_
        · rintro i d _ N3 hd3 ⟨row2, ext, c7, c8, c9, rfl, hr2, se2, cl2⟩ hN3
          rw [Nat.zero_add] at hN3 cl2
          rw [List.getElem?_map] at hd3
          obtain ⟨o, ho, rfl⟩ := Option.map_eq_some_iff.mp hd3
          have hom := List.mem_of_getElem? ho
          have hx2 : row2[t']? = some x := by rw [hr2, List.getElem?_append_left (List.getElem?_eq_some_iff.mp hx).1]; exact hx
          have hxn := se.lt x hxm
          obtain ⟨oe1, oe2⟩ := (hok o hom).e hxn
          have l2 := se2.len
          have take : ∀ o', o' ∈ os.take (i + 1) → o' ∈ os.take i ∨ o' = o := fun o' h => by
            rw [List.take_add_one, ho] at h
            simpa using h
          simp [-Bool.exists_bool, and_assoc, ex_not, stRc, Op.D, hx2, oe1, dgt_seen]
          split
          · rename_i hin
            refine hN3 _ ⟨row2, ext, .d (.str o.nm), .d (.tup (dN o.ends)), .d (.tup (dN o.told)), rfl, hr2, se2, fun o' h => ?_⟩
            rcases take o' h with h | rfl
            · exact cl2 o' h
            · exact hin
          · rename_i hout
            refine ⟨by simp [seenD]; omega, by omega, hN3 _ ⟨row2 ++ [o.e x], ext ++ [o.e x], .d (.str o.nm), .d (.tup (dN o.ends)), .d (.tup (dN o.told)), ?_, by rw [hr2, List.append_assoc], ⟨?_, fun y hy => ?_, fun y hy => ?_, List.mem_append_left _ se2.st⟩, fun o' h => ?_⟩⟩
            · rw [seen_new hout]; simp [stRc, dN]
            · rw [List.nodup_append]
              exact ⟨se2.nd, by simp, fun u hu v hv => by rw [List.mem_singleton] at hv; subst hv; exact fun z => hout (z ▸ hu)⟩
            · rcases List.mem_append.mp hy with h | h
              · exact se2.lt y h
              · rw [List.mem_singleton] at h; subst h; exact oe2
            · rcases List.mem_append.mp hy with h | h
              · exact se2.re y h
              · rw [List.mem_singleton] at h; subst h; exact .step (se2.re x (List.mem_of_getElem? hx2)) hom
            · rcases take o' h with h | rfl
              · exact List.mem_append_left _ (cl2 o' h)
              · simp
        · rintro _ ⟨row2, ext, c7, c8, c9, rfl, hr2, se2, cl2⟩
          rw [Nat.zero_add, List.length_map, List.take_length] at cl2
          refine hN2 _ ⟨row2, .d (.int t'), c7, c8, c9, rfl, se2, fun j y hj hy o ho => ?_⟩
          by_cases e : j = t'
          · subst e
            rw [hr2, List.getElem?_append_left (List.getElem?_eq_some_iff.mp hx).1, hx] at hy
            cases hy
            exact cl2 o ho
          · have hjr : j < row.length := by have := (List.getElem?_eq_some_iff.mp hx).1; omega
            rw [hr2, List.getElem?_append_left hjr] at hy
            rw [hr2]
            exact List.mem_append_left _ (cl j y (by omega) hy o ho)
      · rename_i hge
        refine hN2 _ ⟨row, .d (.int t'), c7, c8, c9, rfl, se, fun j y hj hy o ho => ?_⟩
        have hjr := (List.getElem?_eq_some_iff.mp hy).1
        have hge : ¬ t' < row.length := by simpa using hge
        exact cl j y (by omega) hy o ho
    · rintro _ ⟨row, c6, c7, c8, c9, rfl, se, cl⟩
      rw [Nat.zero_add, dN_len, List.length_range] at cl
      have hle := se.len
      simp [-Bool.exists_bool, and_assoc, ex_not, stRc]
      refine ⟨by omega, hN _ ⟨rows ++ [row], .d (.int k), .d (.lst (dN row)), .k (seenD row), c6, c7, c8, c9, by simp [stRc], by simp [h1], fun s r hs => ?_⟩⟩
      by_cases e : s < rows.length
      · rw [List.getElem?_append_left e] at hs
        exact h2 s r hs
      · have : s = rows.length := by
          have := (List.getElem?_eq_some_iff.mp hs).1
          simp at this; omega
        subst this
        rw [List.getElem?_append_right (by omega), Nat.sub_self] at hs
        cases hs
        rw [h1]
        exact ⟨hle, se.all fun x hx o ho => by
          obtain ⟨j, hj⟩ := List.getElem?_of_mem hx
          exact cl j x (by have := (List.getElem?_eq_some_iff.mp hj).1; omega) hj o ho⟩
  · rintro _ ⟨rows, c3, c4, c5, c6, c7, c8, c9, rfl, h1, h2⟩
    rw [Nat.zero_add, dN_len, List.length_range] at h1
    simp [-Bool.exists_bool, and_assoc, ex_not, stRc]
    exact hq rows ⟨h1, fun s r h => (h2 s r h).1, fun s r h => (h2 s r h).2⟩
theorem fl_sub {offs : List (List Op)} {l : List Nat} (h : l.Sublist (List.range offs.length)) : (flatOps offs l).length ≤ offs.flatten.length := by
  have e : flatOps offs (List.range offs.length) = offs.flatten := by
    unfold flatOps
    rw [List.flatMap_def, range_getD]
  rw [← e]
  have key : ∀ {l m : List Nat}, l.Sublist m → (flatOps offs l).length ≤ (flatOps offs m).length := fun {l m} h => by
    induction h with
    | slnil => exact Nat.le_refl _
    | cons a _ ih => simp only [flatOps, List.flatMap_cons, List.length_append] at ih ⊢; omega
    | cons_cons a _ ih => simp only [flatOps, List.flatMap_cons, List.length_append] at ih ⊢; omega
  exact key h
def f__law_others : SpD := fun ds q => ∃ (offs : List (List Op)) (k : Int), ds = [offD offs, .int k] ∧ offs.length ≤ 8 ∧ offs.flatten.length ≤ 40 ∧ q (.lst ((othI offs k).map Op.D))
theorem len__law_others : ∀ ds q, f__law_others ds q → ds.length = P__law_others.length := by
  rintro ds q ⟨offs, k, rfl, _⟩; rfl
theorem p__law_others {w : World} {K : PySem.W.Frag} {mg : Str → Option Value} {base : Heap} {Z : ZZ} (T : Top w K mg base Z) : Cl prg w K mg base 1 "_law_others" (spP Z.C K f__law_others) := by
  have nd := sc__law_others.nd
  refine clP_of (k := 0) T.d__law_others sc__law_others (by intro kV doc pm an cdv ct us h; match us, h with | [a0, a1], _ => rfl) len__law_others fun fa cdv A outer s H E hr => ⟨_, (ss_cons (sj_set (as_of (i := 2) nd rfl (by first | exact .inl rfl | exact .inr rfl) ((ej_lst aj_nil)).dt))
  (ss_cons (sj_for (passes_of rfl) rfl (ij_range (by rfl) T.m_range ((ej_b1 call_len_seq cw_len (by rfl) T.m_len PySem.boot_len (r_ 0))).rd) (g_ 3 nd) (ss_one (sj_if (tj_cmp op_ne ow_ne (r_ 3) (r_ 1) (nomark _)) (ss_one (sj_set (as_of (i := 2) nd rfl (by first | exact .inl rfl | exact .inr rfl) ((ej_op op_cat ow_cat (r_ 2) ((ej_t1 call_list_of cw_list (by rfl) T.m_list (by decide +kernel) ((ej_ix ix_seq ow_ix (r_ 0) (r_ 3))).rd)).dt.rd)).dt))) ss_nil)))
  (ss_one (sj_ret (n_ 2))))), fun ds q hf => ?_⟩
  obtain ⟨offs, k, rfl, m8, few, hq⟩ := hf
  simp [-Bool.exists_bool, and_assoc, ex_not, offD]
  refine ⟨offs.length, rfl, by omega, ?_⟩
  rw [rgN_dN]
  refine forGo_inv (fun i ds => ∃ c3, ds = { s := [.d (offD offs), .d (.int k), .d (.lst ((flatOps offs ((List.range i).filter fun j : Nat => decide ((j : Int) ≠ k))).map Op.D)), c3] }) _ _ 0 ⟨.no, rfl⟩ ?_ ?_
  · rintro i d _ N hd ⟨c3, rfl⟩ hN
    rw [Nat.zero_add] at hN ⊢
    rw [dN_get] at hd
    obtain ⟨j, hj, rfl⟩ := Option.map_eq_some_iff.mp hd
    obtain ⟨rfl, hjn⟩ := range_at hj
    obtain ⟨os, hos⟩ : ∃ os, offs[j]? = some os := ⟨_, List.getElem?_eq_getElem hjn⟩
    simp [-Bool.exists_bool, and_assoc, ex_not, offD, hos]
    split
    · rename_i e
      refine hN _ ⟨.d (.int j), ?_⟩
      rw [List.range_succ, List.filter_append]
      simp [e, offD]
    · rename_i e
      refine ⟨?_, hN _ ⟨.d (.int j), ?_⟩⟩
      · have h1 : (flatOps offs ((List.range j).filter fun j : Nat => !decide ((j : Int) = k)) ++ os).length ≤ offs.flatten.length := by
          have e1 : flatOps offs ((List.range j).filter fun j : Nat => !decide ((j : Int) = k)) ++ os = flatOps offs (((List.range j).filter fun j : Nat => !decide ((j : Int) = k)) ++ [j]) := by
            simp [flatOps, hos]
          rw [e1]
          refine fl_sub (List.Sublist.trans ?_ (List.take_sublist (j + 1) (List.range offs.length)))
          rw [List.take_range, Nat.min_eq_left (by omega), List.range_succ]
          exact List.Sublist.append List.filter_sublist (List.Sublist.refl _)
        rw [List.length_append] at h1
        exact len_ok (by omega)
      · rw [List.range_succ, List.filter_append]
        simp [e, offD, flatOps, hos]
  · rintro _ ⟨c3, rfl⟩
    rw [Nat.zero_add, dN_len, List.length_range]
    exact ⟨rfl, _, rfl, hq⟩
def f__law_bases : SpD := fun ds q => ∃ (n : Nat) (os : List Op) (rows : List (List Nat)), ds = [.lst (rows.map fun r => .lst (dN r))] ∧ n ≤ 9 ∧ (∀ o ∈ os, o.Ok n) ∧ RowsOk os n rows ∧ q (.lst (dN (if symB os n = true then bases os n else [])))
theorem len__law_bases : ∀ ds q, f__law_bases ds q → ds.length = P__law_bases.length := by
  rintro ds q ⟨n, os, rows, rfl, _⟩; rfl
theorem p__law_bases {w : World} {K : PySem.W.Frag} {mg : Str → Option Value} {base : Heap} {Z : ZZ} (T : Top w K mg base Z) : Cl prg w K mg base 1 "_law_bases" (spP Z.C K f__law_bases) := by
  have nd := sc__law_bases.nd
  refine clP_of (k := 0) T.d__law_bases sc__law_bases (by intro kV doc pm an cdv ct us h; match us, h with | [a0], _ => rfl) len__law_bases fun fa cdv A outer s H E hr => ⟨_, (ss_cons (sj_for (passes_of rfl) rfl (ij_range (by rfl) T.m_range ((ej_b1 call_len_seq cw_len (by rfl) T.m_len PySem.boot_len (r_ 0))).rd) (g_ 1 nd) (ss_one (sj_if (tj_not (tj_val ((ej_b1 (cr_all rfl) cw_all (by rfl) T.m_all (by decide +kernel) ((ej_lc (own := [("_law_goal", 2)]) rfl nd (ij_list (ej_ix ix_seq ow_ix (r_ 0) (r_ 1))) (blkOk_by (own := [("_law_goal", 2)]) (N := N__law_bases) (sc := defScope st__law_bases) (by decide +kernel)) (by decide) (fun _ _ _ _ _ => (g_ 2 nd)) (fun _ _ _ _ _ => ts_nil) (fun _ _ _ _ _ => (ej_cmp op_in_seq ow_in (r_ 1) ((ej_ix ix_seq ow_ix (r_ 0) (r_ 2))).rd (by rfl))))).dt.rd)).rd)) (ss_one (sj_ret ((ej_lst aj_nil)).dt)) ss_nil)))
  (ss_one (sj_ret ((ej_lc (own := [("_law_state", 1)]) rfl nd (ij_range (by rfl) T.m_range ((ej_b1 call_len_seq cw_len (by rfl) T.m_len PySem.boot_len (r_ 0))).rd) (blkOk_by (own := [("_law_state", 1)]) (N := N__law_bases) (sc := defScope st__law_bases) (by decide +kernel)) (by decide) (fun _ _ _ _ _ => (g_ 1 nd)) (fun _ _ _ _ _ => (ts_one (tj_cmp op_eq ow_eq ((ej_b1 (cr_min rfl) cw_min (by rfl) T.m_min (by decide +kernel) ((ej_ix ix_seq ow_ix (r_ 0) (r_ 1))).rd)).rd (r_ 1) (nomark _)))) (fun _ _ _ _ _ => (n_ 1)))).dt))), fun ds q hf => ?_⟩
  obtain ⟨n, os, rows, rfl, n9, hok, hr', hq⟩ := hf
  simp [-Bool.exists_bool, and_assoc, ex_not]
  have hrl := hr'.len
  refine ⟨rows.length, rfl, by omega, ?_⟩
  rw [rgN_dN]
  refine forGo_inv (fun i ds => ∃ c1, ds = { s := [.d (.lst (rows.map fun r => .lst (dN r))), c1, .no] } ∧ ∀ s, s < i → ∀ g, Reach os s g → Reach os g s) _ _ 0 ⟨.no, rfl, by omega⟩ ?_ ?_
  · rintro i d _ N hd ⟨c1, rfl, hs⟩ hN
    rw [Nat.zero_add] at hN hs
    rw [dN_get] at hd
    obtain ⟨j, hj, rfl⟩ := Option.map_eq_some_iff.mp hd
    obtain ⟨rfl, hjn⟩ := range_at hj
    obtain ⟨row, hrow⟩ : ∃ row, rows[j]? = some row := ⟨_, List.getElem?_eq_getElem hjn⟩
    have hle := hr'.le j row hrow
    have hmem := hr'.mem j row hrow
    simp [-Bool.exists_bool, and_assoc, ex_not, hrow]
    refine lcGo_map (fun d => .bl (reachB os d.nat j)) (by simp; omega) ?_ ?_
    · intro d hd acc q' hacc hq'
      obtain ⟨g, hg, rfl⟩ := List.mem_map.mp hd
      have hgn := ((hmem g).mp hg).lt hok (by omega : j < n)
      obtain ⟨row2, hrow2⟩ : ∃ row2, rows[g]? = some row2 := ⟨_, List.getElem?_eq_getElem (by omega)⟩
      have hmem2 := hr'.mem g row2 hrow2
      simp [-Bool.exists_bool, and_assoc, ex_not, hrow2]
      refine ⟨row2.map fun n : Nat => (n : Int), dN_int row2, hacc, ?_⟩
      have e : decide ((j : Int) ∈ row2.map fun n : Nat => (n : Int)) = reachB os g j := by
        rw [Bool.eq_iff_iff, decide_eq_true_eq, reachB_iff, ← hmem2]
        constructor
        · intro h
          obtain ⟨y, hy, e⟩ := List.mem_map.mp h
          have : y = j := by omega
          exact this ▸ hy
        · exact fun h => List.mem_map.mpr ⟨j, h, rfl⟩
      rw [e]; exact hq'
    · refine ⟨row.map fun g => reachB os g j, ?_, ?_⟩
      · rw [List.nil_append]; unfold dN; rw [List.map_map, List.map_map]; rfl
      · split
        · rename_i hf
          obtain ⟨g, hg, e⟩ := List.mem_map.mp hf
          have : ¬ Sym os n := fun sy => by
            have := sy j (by omega) g ((hmem g).mp hg)
            rw [← reachB_iff, e] at this
            cases this
          rw [if_neg (fun h => this (symB_iff.mp h))] at hq
          exact hq
        · rename_i hf
          refine hN _ ⟨.d (.int j), rfl, fun s hsj g hg => ?_⟩
          by_cases e : s = j
          · subst e
            cases hb : reachB os g s with
            | true => exact reachB_iff.mp hb
            | false => exact absurd (List.mem_map.mpr ⟨g, (hmem g).mpr hg, hb⟩) hf
          · exact hs s (by omega) g hg
  · rintro _ ⟨c1, rfl, hs⟩
    rw [Nat.zero_add, dN_len, List.length_range] at hs
    have sy : Sym os n := fun s h => hs s (by omega)
    rw [if_pos (symB_iff.mpr sy)] at hq
    simp [-Bool.exists_bool, and_assoc, ex_not]
    refine ⟨rows.length, rfl, by omega, ?_⟩
    rw [rgN_dN]
    refine lcGo_filter (fun d => if (known os d.nat).isEmpty = true then some d else none) (by simp; omega) ?_ ?_
    · intro d hd acc q' hacc hq'
      obtain ⟨s', hs', rfl⟩ := List.mem_map.mp hd
      have hsn := List.mem_range.mp hs'
      obtain ⟨row, hrow⟩ : ∃ row, rows[s']? = some row := ⟨_, List.getElem?_eq_getElem hsn⟩
      have hle := hr'.le s' row hrow
      have hmem := hr'.mem s' row hrow
      simp [-Bool.exists_bool, and_assoc, ex_not, hrow]
      have hsr : s' ∈ row := (hmem s').mpr (.refl _)
      refine ⟨row.map fun n : Nat => (n : Int), dN_int row, by simpa using List.length_pos_of_mem hsr, fun m hm hmin => ?_⟩
      obtain ⟨y, hy, rfl⟩ := List.mem_map.mp hm
      have hmin' : ∀ z ∈ row, y ≤ z := fun z hz => by have := hmin z (List.mem_map.mpr ⟨z, hz, rfl⟩); omega
      have hk := known_nil sy (show s' < n by omega)
      have hq'' : q' (acc ++ (if (known os s').isEmpty = true then some (D.int (s' : Nat)) else none).toList) := hq'
      split
      · rename_i e
        have e : y = s' := by omega
        subst e
        rw [if_pos (by rw [List.isEmpty_iff, hk]; exact fun x hx => hmin' x ((hmem x).mpr hx))] at hq''
        exact ⟨hacc, hq''⟩
      · rename_i e
        rw [if_neg (fun h => e (by
          have := hk.mp (List.isEmpty_iff.mp h) y ((hmem y).mp hy)
          have := hmin' s' hsr
          omega))] at hq''
        simpa using hq''
    · rw [hrl, dN_filter fun s => (known os s).isEmpty, List.nil_append]
      exact hq
end G78
namespace G78
open PySem PySem.Spec PyProof.Rows L2
def f__law_fits : SpD := fun ds q => ∃ (n : Nat) (os : List Op) (l : List Nat) (d : D), ds = [.lst (os.map Op.D), d] ∧ (d = .lst (dN l) ∨ d = .tup (dN l)) ∧ n ≤ 9 ∧ (∀ o ∈ os, o.Ok n) ∧ l.length = n ∧ (∀ x ∈ l, x < n) ∧ q (.bl (fitB os n l))
theorem len__law_fits : ∀ ds q, f__law_fits ds q → ds.length = P__law_fits.length := by
  rintro ds q ⟨n, os, l, d, rfl, _⟩; rfl
theorem p__law_fits {w : World} {K : PySem.W.Frag} {mg : Str → Option Value} {base : Heap} {Z : ZZ} (T : Top w K mg base Z) : Cl prg w K mg base 1 "_law_fits" (spP Z.C K f__law_fits) := by
  have nd := sc__law_fits.nd
  refine clP_of (k := 0) T.d__law_fits sc__law_fits (by intro kV doc pm an cdv ct us h; match us, h with | [a0, a1], _ => rfl) len__law_fits fun fa cdv A outer s H E hr => ⟨_, (ss_cons (sj_for (passes_of rfl) rfl (ij_list (n_ 0)) (gj_tup (n := 3) rfl (gjs_cons (g_ 2 nd) (gjs_cons (g_ 3 nd) (gjs_cons (g_ 4 nd) gjs_nil)))) (ss_one (sj_for (passes_of rfl) rfl (ij_range (by rfl) T.m_range ((ej_b1 call_len_seq cw_len (by rfl) T.m_len PySem.boot_len (r_ 1))).rd) (g_ 5 nd) (ss_one (sj_if (TJW.tj (tj_or (tj_cmp op_ne ow_ne ((ej_ix ix_seq ow_ix (r_ 3) ((ej_ix ix_seq ow_ix (r_ 1) (r_ 5))).rd)).rd ((ej_ix ix_seq ow_ix (r_ 1) ((ej_ix ix_seq ow_ix (r_ 3) (r_ 5))).rd)).rd (nomark _)) (tj_or1 (tj_cmp op_ne ow_ne ((ej_ix ix_seq ow_ix (r_ 4) ((ej_ix ix_seq ow_ix (r_ 1) (r_ 5))).rd)).rd ((ej_ix ix_seq ow_ix (r_ 4) (r_ 5))).rd (nomark _))))) (ss_one (sj_ret ej_bl)) ss_nil)))))
  (ss_one (sj_ret ej_bl))), fun ds q hf => ?_⟩
  obtain ⟨n, os, l, d, rfl, hd, n9, hok, hl, hln, hq⟩ := hf
  simp [-Bool.exists_bool, and_assoc, ex_not]
  refine forGo_inv (fun i ds => ∃ c2 c3 c4 c5, ds = { s := [.d (.lst (os.map Op.D)), .d d, c2, c3, c4, c5] } ∧ ∀ o ∈ os.take i, ∀ s, s < n → at0 l (o.e s) = o.e (at0 l s) ∧ o.t s = o.t (at0 l s)) _ _ 0 ⟨.no, .no, .no, .no, rfl, by simp⟩ ?_ ?_
  · rintro i dd _ N hdd ⟨c2, c3, c4, c5, rfl, h1⟩ hN
    rw [Nat.zero_add] at hN h1
    rw [List.getElem?_map] at hdd
    obtain ⟨o, ho, rfl⟩ := Option.map_eq_some_iff.mp hdd
    have hom := List.mem_of_getElem? ho
    have hoo := hok o hom
    simp [-Bool.exists_bool, and_assoc, ex_not, Op.D]
    refine ⟨dN l, hd, n, by rw [dN_len, hl], by omega, ?_⟩
    rw [rgN_dN]
    refine forGo_inv (fun j ds => ∃ c5, ds = { s := [.d (.lst (os.map Op.D)), .d d, .d (.str o.nm), .d (.tup (dN o.ends)), .d (.tup (dN o.told)), c5] } ∧ ∀ s, s < j → at0 l (o.e s) = o.e (at0 l s) ∧ o.t s = o.t (at0 l s)) _ _ 0 ⟨c5, rfl, by omega⟩ ?_ ?_
    · rintro j dd _ N2 hdd2 ⟨c5, rfl, h2⟩ hN2
      rw [Nat.zero_add] at hN2 h2
      rw [dN_get] at hdd2
      obtain ⟨s', hs', rfl⟩ := Option.map_eq_some_iff.mp hdd2
      obtain ⟨rfl, hsn⟩ := range_at hs'
      have hls : l[s']? = some (at0 l s') := at0_get (by omega)
      have hlsn := hln _ (List.mem_of_getElem? hls)
      obtain ⟨oe1, oe2⟩ := hoo.e hsn
      obtain ⟨oe3, oe4⟩ := hoo.e hlsn
      have ot1 := hoo.t hsn
      have ot2 := hoo.t hlsn
      have hle : l[o.e s']? = some (at0 l (o.e s')) := at0_get (by omega)
      have bad : ¬ (at0 l (o.e s') = o.e (at0 l s') ∧ o.t s' = o.t (at0 l s')) → q (.bl false) := fun h => by
        rw [fitB_no.mpr fun hf => h ((hf s' hsn).2 o hom)] at hq
        exact hq
      have good : at0 l (o.e s') = o.e (at0 l s') → o.t s' = o.t (at0 l s') → N2 { s := [.d (.lst (os.map Op.D)), .d d, .d (.str o.nm), .d (.tup (dN o.ends)), .d (.tup (dN o.told)), .d (.int s')] } := fun a b => hN2 _ ⟨.d (.int s'), rfl, fun s hs => by
        by_cases e : s = s'
        · subst e; exact ⟨a, b⟩
        · exact h2 s (by omega)⟩
      rcases hd with rfl | rfl
      · simp [-Bool.exists_bool, and_assoc, ex_not, oe1, oe3, ot1, ot2, hls, hle]
        split
        · split
          · exact good (by omega) (by omega)
          · exact bad (by omega)
        · exact bad (by omega)
      · simp [-Bool.exists_bool, and_assoc, ex_not, oe1, oe3, ot1, ot2, hls, hle]
        split
        · split
          · exact good (by omega) (by omega)
          · exact bad (by omega)
        · exact bad (by omega)
    · rintro _ ⟨c5, rfl, h2⟩
      rw [Nat.zero_add, dN_len, List.length_range] at h2
      refine hN _ ⟨.d (.str o.nm), .d (.tup (dN o.ends)), .d (.tup (dN o.told)), c5, rfl, fun o' h => ?_⟩
      rw [List.take_add_one, ho] at h
      rcases List.mem_append.mp h with h | h
      · exact h1 o' h
      · have h : o' = o := by simpa using h
        subst h
        exact h2
  · rintro _ ⟨c2, c3, c4, c5, rfl, h1⟩
    rw [Nat.zero_add, List.length_map, List.take_length] at h1
    have : Fit os n (at0 l) := fun s hs => ⟨hln _ (List.mem_of_getElem? (at0_get (by omega))), fun o ho => h1 o ho s hs⟩
    rw [fitB_iff.mpr this] at hq
    exact ⟨rfl, hq⟩
def f__law_extended : SpD := fun ds q => ∃ (n b g : Nat) (os : List Op), ds = [.lst (os.map Op.D), .int b, .int g] ∧ (∀ o ∈ os, o.Ok n) ∧ n ≤ 9 ∧ b < n ∧ g < n ∧
  (Good os b g → ∀ im, ImOk os b g im → q (.dic (imD im))) ∧ (¬ Good os b g → q (.dic []))
theorem len__law_extended : ∀ ds q, f__law_extended ds q → ds.length = P__law_extended.length := by
  rintro ds q ⟨n, b, g, os, rfl, _⟩; rfl
def stEx (os : List Op) (b g : Nat) (im : List (Nat × Nat)) (c5 c6 c7 c8 c9 c10 : SC) : DS :=
  { s := [.d (.lst (os.map Op.D)), .d (.int b), .d (.int g), .k (imD im), .l (dN (im.map (·.1))), c5, c6, c7, c8, c9, c10] }
theorem p__law_extended {w : World} {K : PySem.W.Frag} {mg : Str → Option Value} {base : Heap} {Z : ZZ} (T : Top w K mg base Z) : Cl prg w K mg base 1 "_law_extended" (spP Z.C K f__law_extended) := by
  have nd := sc__law_extended.nd
  refine clP_of (k := 0) T.d__law_extended sc__law_extended (by intro kV doc pm an cdv ct us h; match us, h with | [a0, a1, a2], _ => rfl) len__law_extended fun fa cdv A outer s H E hr => ⟨_, (ss_cons (sj_par2 (i := 3) (j := 4) rfl nd rfl rfl (by decide) rfl rfl (mj_o ej_dic0 (mj_o (ej_lst (aj_cons (n_ 1) aj_nil)) mj_nil)) (by rfl))
  (ss_cons (sj_dput (i := 3) hr rfl (by first | exact .inl rfl | exact .inr (.inl rfl) | exact .inr (.inr rfl)) (n_ 2) (r_ 1))
  (ss_cons (sj_for (passes_of rfl) rfl (ij_range (by rfl) T.m_range (ej_int).rd) (g_ 5 nd) (ss_cons (sj_if (tj_cmp op_eq ow_eq (r_ 5) ((ej_b1 call_len_seq cw_len (by rfl) T.m_len PySem.boot_len (r_ 4))).rd (nomark _)) (ss_frz 3 (ss_one (sj_ret (n_ 3)))) ss_nil)
  (ss_cons (sj_par2 (i := 6) (j := 7) rfl nd rfl rfl (by decide) rfl rfl (mj_d (ej_ix ix_seq ow_ix (r_ 4) (r_ 5)) (mj_d (ej_dget hr (r_ 3) ((ej_ix ix_seq ow_ix (r_ 4) (r_ 5))).rd) mj_nil)) (by rfl))
  (ss_one (sj_for (passes_of rfl) rfl (ij_list (n_ 0)) (gj_tup (n := 3) rfl (gjs_cons (g_ 8 nd) (gjs_cons (g_ 9 nd) (gjs_cons (g_ 10 nd) gjs_nil)))) (ss_cons (sj_if (tj_cmp op_ne ow_ne ((ej_ix ix_seq ow_ix (r_ 10) (r_ 6))).rd ((ej_ix ix_seq ow_ix (r_ 10) (r_ 7))).rd (nomark _)) (ss_one (sj_ret (ej_dic0).dt)) ss_nil)
  (ss_cons (sj_if (tj_dnin hr ((ej_ix ix_seq ow_ix (r_ 9) (r_ 6))).rd (r_ 3) (by rfl)) (ss_cons (sj_dput (i := 3) hr rfl (by first | exact .inl rfl | exact .inr (.inl rfl) | exact .inr (.inr rfl)) (ej_ix ix_seq ow_ix (r_ 9) (r_ 7)) ((ej_ix ix_seq ow_ix (r_ 9) (r_ 6))).rd)
  (ss_one (sj_app (i := 4) rfl (by first | exact .inl rfl | exact .inr (.inl rfl) | exact .inr (.inr rfl)) (ej_ix ix_seq ow_ix (r_ 9) (r_ 6))))) ss_nil)
  (ss_one (sj_if (tj_cmp op_ne ow_ne ((ej_dget hr (r_ 3) ((ej_ix ix_seq ow_ix (r_ 9) (r_ 6))).rd)).rd ((ej_ix ix_seq ow_ix (r_ 9) (r_ 7))).rd (nomark _)) (ss_one (sj_ret (ej_dic0).dt)) ss_nil)))))))))
  (ss_frz 3 (ss_one (sj_ret (n_ 3))))))), fun ds q hf => ?_⟩
  obtain ⟨n, b, g, os, rfl, hok, n9, hb, hg, hq1, hq2⟩ := hf
  simp [-Bool.exists_bool, and_assoc, ex_not]
  refine ⟨len_ok (by omega), 200, rfl, by omega, ?_⟩
  rw [rgN_dN]
  have fin : ∀ im : List (Nat × Nat), Carry os n b g im → (∀ (j : Nat) (p : Nat × Nat), im[j]? = some p → Clo os im p.1) → q (.dic (imD im)) := fun im ca hc => by
    obtain ⟨h1, h2⟩ := ca.all fun x hx => by
      obtain ⟨p, hp, rfl⟩ := List.mem_map.mp hx
      obtain ⟨j, hj⟩ := List.getElem?_of_mem hp
      exact hc j p hj
    exact hq1 h2 im h1
  refine forGo_inv (fun t ds => ∃ (im : List (Nat × Nat)) (c5 c6 c7 c8 c9 c10 : SC), ds = stEx os b g im c5 c6 c7 c8 c9 c10 ∧ Carry os n b g im ∧ t ≤ im.length ∧ ∀ (j : Nat) (p : Nat × Nat), j < t → im[j]? = some p → Clo os im p.1) _ _ 0 ⟨[(b, g)], .no, .no, .no, .no, .no, .no, rfl, ⟨by simp, by simpa using PR.base, by simp, by simpa using hb⟩, by simp, by omega⟩ ?_ ?_
  · rintro t d _ N hd ⟨im, c5, c6, c7, c8, c9, c10, rfl, ca, htl, hc⟩ hN
    rw [Nat.zero_add] at hN htl hc
    rw [dN_get] at hd
    obtain ⟨t', ht, rfl⟩ := Option.map_eq_some_iff.mp hd
    obtain ⟨rfl, htn⟩ := range_at ht
    have hcn := ca.n
    by_cases hte : t' = im.length
    · simp [-Bool.exists_bool, and_assoc, ex_not, stEx, hte]
      exact fin im ca fun j p hj => hc j p (by have := (List.getElem?_eq_some_iff.mp hj).1; omega) hj
    · obtain ⟨⟨x, y⟩, hp⟩ : ∃ p, im[t']? = some p := ⟨_, List.getElem?_eq_getElem (by omega)⟩
      have hxy := List.mem_of_getElem? hp
      have lx := lookup_nd ca.nd hxy
      have hne : ¬ (t' : Int) = im.length := by omega
      simp [-Bool.exists_bool, and_assoc, ex_not, stEx, hne, hp, dgt_imD, lx]
      refine forGo_inv (fun i ds => ∃ (im2 ext : List (Nat × Nat)) (c8 c9 c10 : SC), ds = stEx os b g im2 (.d (.int t')) (.d (.int x)) (.d (.int y)) c8 c9 c10 ∧ im2 = im ++ ext ∧ Carry os n b g im2 ∧ ∀ o ∈ os.take i, o.t x = o.t y ∧ (o.e x, o.e y) ∈ im2) _ _ 0 ⟨im, [], c8, c9, c10, by simp [stEx], by simp, ca, by simp⟩ ?_ ?_
      · rintro i d _ N3 hd3 ⟨im2, ext, c8, c9, c10, rfl, hi2, ca2, cl2⟩ hN3
        rw [Nat.zero_add] at hN3 cl2
        rw [List.getElem?_map] at hd3
        obtain ⟨o, ho, rfl⟩ := Option.map_eq_some_iff.mp hd3
        have hmem := List.mem_of_getElem? ho
        have hpr := ca.pr x y hxy
        obtain ⟨hxn, hyn⟩ := hpr.lt hok hb hg
        obtain ⟨oe1, oe2⟩ := (hok o hmem).e hxn
        obtain ⟨oe3, oe4⟩ := (hok o hmem).e hyn
        have ot1 := (hok o hmem).t hxn
        have ot2 := (hok o hmem).t hyn
        have take : ∀ o', o' ∈ os.take (i + 1) → o' ∈ os.take i ∨ o' = o := fun o' h => by
          rw [List.take_add_one, ho] at h
          simpa using h
        have hstep := hpr.step hmem
        have l9 := ca2.n
        by_cases et : o.t x = o.t y
        · have et' : (o.t x : Int) = o.t y := by omega
          cases el : im2.lookup (o.e x) with
          | some z =>
            have hz := lookup_mem el
            simp [-Bool.exists_bool, and_assoc, ex_not, stEx, Op.D, oe1, oe3, ot1, ot2, dgt_imD, el, et']
            split
            · rename_i ez
              have ez : z = o.e y := by omega
              subst ez
              refine hN3 _ ⟨im2, ext, .d (.str o.nm), .d (.tup (dN o.ends)), .d (.tup (dN o.told)), by simp [stEx], hi2, ca2, fun o' h => ?_⟩
              rcases take o' h with h | rfl
              · exact cl2 o' h
              · exact ⟨et, hz⟩
            · rename_i ez
              exact hq2 fun gd => ez (by have := gd.1 _ _ _ (ca2.pr _ _ hz) hstep; omega)
          | none =>
            have hout : o.e x ∉ im2.map (·.1) := lookup_none.mp el
            have ln : (im2 ++ [(o.e x, o.e y)]).lookup (o.e x) = some (o.e y) := by rw [lookup_app, el]; simp
            have cy : Carry os n b g (im2 ++ [(o.e x, o.e y)]) := by
              refine ⟨?_, fun u v h => ?_, List.mem_append_left _ ca2.st, fun u h => ?_⟩
              · rw [List.map_append, List.nodup_append]
                exact ⟨ca2.nd, by simp, fun u hu v hv => by simp at hv; subst hv; exact fun z => hout (z ▸ hu)⟩
              · rcases List.mem_append.mp h with h | h
                · exact ca2.pr u v h
                · simp at h; obtain ⟨rfl, rfl⟩ := h; exact hstep
              · rw [List.map_append] at h
                rcases List.mem_append.mp h with h | h
                · exact ca2.lt u h
                · simp at h; subst h; exact oe2
            simp [-Bool.exists_bool, and_assoc, ex_not, stEx, Op.D, oe1, oe3, ot1, ot2, dgt_imD, el, et', imD_new hout, ln]
            refine ⟨by omega, ?_⟩
            refine hN3 _ ⟨im2 ++ [(o.e x, o.e y)], ext ++ [(o.e x, o.e y)], .d (.str o.nm), .d (.tup (dN o.ends)), .d (.tup (dN o.told)), by simp [stEx, dN], by rw [hi2, List.append_assoc], cy, fun o' h => ?_⟩
            rcases take o' h with h | rfl
            · exact ⟨(cl2 o' h).1, List.mem_append_left _ (cl2 o' h).2⟩
            · exact ⟨et, by simp⟩
        · have et' : ¬ (o.t x : Int) = o.t y := by omega
          simp [-Bool.exists_bool, and_assoc, ex_not, stEx, Op.D, oe1, oe3, ot1, ot2, dgt_imD, et']
          exact hq2 fun gd => et (gd.2 x y hpr o hmem)
      · rintro _ ⟨im2, ext, c8, c9, c10, rfl, hi2, ca2, cl2⟩
        rw [Nat.zero_add, List.length_map, List.take_length] at cl2
        have hsub : ∀ p ∈ im, p ∈ im2 := fun p hp => hi2 ▸ List.mem_append_left _ hp
        refine hN _ ⟨im2, .d (.int t'), .d (.int x), .d (.int y), c8, c9, c10, rfl, ca2, by rw [hi2, List.length_append]; omega, fun j p hj hpj => ?_⟩
        have hjl : j < im.length := by omega
        rw [hi2, List.getElem?_append_left hjl] at hpj
        by_cases e : j = t'
        · subst e
          rw [hp] at hpj
          cases hpj
          intro y' hy' o ho
          have e1 := lookup_nd ca2.nd (hsub _ hxy)
          have e2 := lookup_nd ca2.nd hy'
          rw [e1] at e2
          cases e2
          exact cl2 o ho
        · have hpm := List.mem_of_getElem? hpj
          intro y' hy' o ho
          have e1 := lookup_nd ca2.nd (hsub _ hpm)
          have e2 := lookup_nd ca2.nd hy'
          rw [e1] at e2
          cases e2
          obtain ⟨k1, k2⟩ := hc j p (by omega) hpj p.2 hpm o ho
          exact ⟨k1, hsub _ k2⟩
  · rintro _ ⟨im, c5, c6, c7, c8, c9, c10, rfl, ca, htl, hc⟩
    rw [Nat.zero_add, dN_len, List.length_range] at htl
    have := ca.n
    omega
def f__law_all_ends : SpD := fun ds q => ∃ (n : Nat), ds = [.int n] ∧ n ≤ 3 ∧ q (.lst ((allE n n).map fun l => .tup (dN l)))
theorem len__law_all_ends : ∀ ds q, f__law_all_ends ds q → ds.length = P__law_all_ends.length := by
  rintro ds q ⟨n, rfl, _⟩; rfl
theorem p__law_all_ends {w : World} {K : PySem.W.Frag} {mg : Str → Option Value} {base : Heap} {Z : ZZ} (T : Top w K mg base Z) : Cl prg w K mg base 1 "_law_all_ends" (spP Z.C K f__law_all_ends) := by
  have nd := sc__law_all_ends.nd
  refine clP_of (k := 0) T.d__law_all_ends sc__law_all_ends (by intro kV doc pm an cdv ct us h; match us, h with | [a0], _ => rfl) len__law_all_ends fun fa cdv A outer s H E hr => ⟨_, (ss_cons (sj_set (as_of (i := 1) nd rfl (by first | exact .inl rfl | exact .inr rfl) ((ej_lst (aj_cons (ej_tup aj_nil) aj_nil))).dt))
  (ss_cons (sj_for (passes_of rfl) rfl (ij_range (by rfl) T.m_range (r_ 0)) (g_ 2 nd) (ss_cons (sj_set (as_of (i := 3) nd rfl (by first | exact .inl rfl | exact .inr rfl) ((ej_lst aj_nil)).dt))
  (ss_cons (sj_for (passes_of rfl) rfl (ij_list (n_ 1)) (g_ 4 nd) (ss_one (sj_set (as_of (i := 3) nd rfl (by first | exact .inl rfl | exact .inr rfl) ((ej_op op_cat ow_cat (r_ 3) ((ej_lc (own := [("_law_state", 5)]) rfl nd (ij_range (by rfl) T.m_range (r_ 0)) (blkOk_by (own := [("_law_state", 5)]) (N := N__law_all_ends) (sc := defScope st__law_all_ends) (by decide +kernel)) (by decide) (fun _ _ _ _ _ => (g_ 5 nd)) (fun _ _ _ _ _ => ts_nil) (fun _ _ _ _ _ => (ej_op op_catA ow_catT (r_ 4) ((ej_tup (aj_cons (n_ 5) aj_nil))).rd)))).dt.rd)).dt))))
  (ss_one (sj_set (as_of (i := 1) nd rfl (by first | exact .inl rfl | exact .inr rfl) (n_ 3)))))))
  (ss_one (sj_ret (n_ 1))))), fun ds q hf => ?_⟩
  obtain ⟨n, rfl, n3, hq⟩ := hf
  simp [-Bool.exists_bool, and_assoc, ex_not]
  refine ⟨len_ok (by omega), n, rfl, by omega, ?_⟩
  rw [rgN_dN]
  have pw : ∀ k, k ≤ 3 → n ^ k ≤ 27 := fun k hk => by
    have h1 : n ^ k ≤ 3 ^ k := Nat.pow_le_pow_left n3 k
    have h2 : 3 ^ k ≤ 3 ^ 3 := Nat.pow_le_pow_right (by omega) hk
    omega
  refine forGo_inv (fun i ds => ∃ c2 c3 c4 c5, ds = { s := [.d (.int n), .d (.lst ((allE n i).map fun l => .tup (dN l))), c2, c3, c4, c5] }) _ _ 0 ⟨.no, .no, .no, .no, rfl⟩ ?_ ?_
  · rintro i d _ N hd ⟨c2, c3, c4, c5, rfl⟩ hN
    rw [Nat.zero_add] at hN ⊢
    rw [dN_get] at hd
    obtain ⟨k, hk, rfl⟩ := Option.map_eq_some_iff.mp hd
    obtain ⟨rfl, hkn⟩ := range_at hk
    simp [-Bool.exists_bool, and_assoc, ex_not]
    refine forGo_inv (fun j ds => ∃ c4, ds = { s := [.d (.int n), .d (.lst ((allE n k).map fun l => .tup (dN l))), .d (.int k), .d (.lst ((((allE n k).take j).flatMap fun r => (List.range n).map fun s => r ++ [s]).map fun l => .tup (dN l))), c4, c5] }) _ _ 0 ⟨c4, rfl⟩ ?_ ?_
    · rintro j d _ N2 hd2 ⟨c4, rfl⟩ hN2
      rw [Nat.zero_add] at hN2 ⊢
      rw [List.getElem?_map] at hd2
      obtain ⟨r, hr, rfl⟩ := Option.map_eq_some_iff.mp hd2
      have hrm := List.mem_of_getElem? hr
      obtain ⟨rl, _⟩ := (allE_mem n k r).mp hrm
      have hjl := (List.getElem?_eq_some_iff.mp hr).1
      rw [allE_len] at hjl
      have := pw k (by omega)
      simp [-Bool.exists_bool, and_assoc, ex_not]
      refine ⟨n, rfl, by omega, ?_⟩
      rw [rgN_dN]
      refine lcGo_map (fun d => .tup (dN (r ++ [d.nat]))) (by simp; omega) ?_ ?_
      · intro d hd acc q' hacc hq'
        obtain ⟨s', hs', rfl⟩ := List.mem_map.mp hd
        simp [-Bool.exists_bool, and_assoc, ex_not]
        refine ⟨len_ok (by omega), len_ok (by omega), hacc, ?_⟩
        have e : D.tup (dN (r ++ [(D.int (s' : Nat)).nat])) = .tup (dN r ++ [.int s']) := by simp [dN, D.nat]
        rw [← e]; exact hq'
      · refine ⟨?_, hN2 _ ⟨.d (.tup (dN r)), ?_⟩⟩
        · have h1 : ((List.take j (List.map (fun _ => n) (allE n k))).sum) ≤ n ^ (k + 1) := by
            have : (List.map (fun _ : List Nat => n) (allE n k)).sum = n ^ (k + 1) := by
              rw [List.map_const', allE_len]; simp [Nat.pow_succ]
            rw [← this]
            exact sum_take_le _ _
          have h2 := pw (k + 1) (by omega)
          simp
          exact len_ok (by omega)
        · rw [List.take_add_one, hr]
          simp [dN, D.nat]
    · rintro _ ⟨c4, rfl⟩
      rw [Nat.zero_add, List.length_map, List.take_length]
      exact ⟨_, rfl, hN _ ⟨_, _, _, _, rfl⟩⟩
  · rintro _ ⟨c2, c3, c4, c5, rfl⟩
    rw [Nat.zero_add, dN_len, List.length_range]
    exact ⟨rfl, _, rfl, hq⟩
end G78
namespace G78
open PySem PySem.Spec PyProof.Rows L2
def f__law_refused : SpD := fun ds q => ∃ (n : Nat) (offs : List (List Op)) (v : D) (w : Nat), ds = [stoD n offs, v, .int w] ∧ SOk n offs ∧ v.kind ∧ w ≤ 4 ∧
  if v.blw offs.length = true then (if w = 4 then q .non else symB (othOps offs v.nat) n = false ∧ q (.str "refused oneway")) else q (.str "office")
theorem len__law_refused : ∀ ds q, f__law_refused ds q → ds.length = P__law_refused.length := by
  rintro ds q ⟨n, offs, v, w, rfl, _⟩; rfl
theorem p__law_refused {w : World} {K : PySem.W.Frag} {mg : Str → Option Value} {base : Heap} {Z : ZZ} (T : Top w K mg base Z) : Cl prg w K mg base 14 "_law_refused" (spP Z.C K f__law_refused) := by
  have c_given_goals := p_given_goals T
  have c_count_given := p_count_given T
  have c_given_ends := p_given_ends T
  have c_number_of_given := p_number_of_given T
  have c_may_be_given := p_may_be_given T
  have nd := sc__law_refused.nd
  refine clP_of (k := 13) T.d__law_refused sc__law_refused (by intro kV doc pm an cdv ct us h; match us, h with | [a0, a1, a2], _ => rfl) len__law_refused fun fa cdv A outer s H E hr => ⟨_, (ss_cons (sj_try2 (i := 3) rfl rfl nd rfl rfl ⟨by rfl, by decide, .inl T.gN⟩ ⟨by rfl, by decide, .inl T.gR⟩ T.eNN T.eRN T.eRR (fun _ _ => (tb_if (tj_cmp op_eq ow_eq (r_ 2) (ej_int).rd (nomark _)) (tb_call (xj_call c_given_goals hr (by decide) (by rfl) (aj_cons (n_ 0) (aj_cons (n_ 1) aj_nil)))) (tb_if (tj_cmp op_eq ow_eq (r_ 2) (ej_int).rd (nomark _)) (tb_call (xj_call c_count_given hr (by decide) (by rfl) (aj_cons (n_ 0) (aj_cons (n_ 1) aj_nil)))) (tb_if (tj_cmp op_eq ow_eq (r_ 2) (ej_int).rd (nomark _)) (tb_call (xj_call c_given_ends hr (by decide) (by rfl) (aj_cons (n_ 0) (aj_cons (n_ 1) (aj_cons (ej_op op_sub ow_i (ej_int).rd (ej_int).rd) aj_nil))))) (tb_if (tj_cmp op_eq ow_eq (r_ 2) (ej_int).rd (nomark _)) (tb_call (xj_call c_number_of_given hr (by decide) (by rfl) (aj_cons (n_ 0) (aj_cons (n_ 1) (aj_cons ej_non aj_nil))))) (tb_call (xj_call c_may_be_given hr (by decide) (by rfl) (aj_cons (n_ 0) (aj_cons (n_ 1) (aj_cons ej_non aj_nil)))))))))) (fun _ _ _ _ hz hf => hx_ret T.fN T.wN hz hf rfl (by first | exact .inl rfl | exact .inr (.inl rfl) | exact .inr (.inr rfl))) (fun _ _ _ _ hz hf => hx_cat T.fR T.wR hz hf rfl (by first | exact .inl rfl | exact .inr (.inl rfl) | exact .inr (.inr rfl))))
  (ss_one (sj_ret ej_non))), fun ds q hf => ?_⟩
  obtain ⟨n, offs, v, w, rfl, ok, hk, w4, hq⟩ := hf
  simp [-Bool.exists_bool, and_assoc, ex_not]
  have l8 : ("refused " : Str).length = 8 := by decide +kernel
  have l6 : ("oneway" : Str).length = 6 := by decide +kernel
  have e8 : ("refused " : Str) ++ "oneway" = "refused oneway" := by decide +kernel
  cases e : v.blw offs.length with
  | false =>
    rw [e] at hq
    have hq : q (.str "office") := hq
    have xx : (0 = 0 ∧ q (D.str "office") ∨ 0 = 1 ∧ (Str.ofString "refused ").length + ("office" : Str).length ≤ sizeLine ∧ q (D.str (Str.ofString "refused " ++ "office"))) := .inl ⟨rfl, hq⟩
    split
    · exact ⟨n, offs, v, rfl, ok, hk, by rw [e]; exact xx⟩
    · split
      · exact ⟨n, offs, v, rfl, ok, hk, by rw [e]; exact xx⟩
      · split
        · exact ⟨n, offs, v, _, rfl, ok, hk, kind_int _, by rw [e]; exact xx⟩
        · split
          · exact ⟨n, offs, v, _, rfl, ok, hk, by rw [e]; exact xx⟩
          · exact ⟨n, offs, v, _, rfl, ok, hk, by rw [e]; exact xx⟩
  | true =>
    rw [e] at hq
    simp only [if_true] at hq
    by_cases w4' : w = 4
    · rw [if_pos w4'] at hq
      subst w4'
      rw [if_neg (by omega), if_neg (by omega), if_neg (by omega), if_neg (by omega)]
      refine ⟨n, offs, v, .non, rfl, ok, hk, ?_⟩
      rw [e]
      simp only [if_true]
      exact ⟨nofun, nofun, nofun, hq⟩
    · rw [if_neg w4'] at hq
      obtain ⟨sy, hq⟩ := hq
      have xx : (1 = 0 ∧ q (D.str "oneway") ∨ 1 = 1 ∧ (Str.ofString "refused ").length + ("oneway" : Str).length ≤ sizeLine ∧ q (D.str (Str.ofString "refused " ++ "oneway"))) := .inr ⟨rfl, len_ok (by rw [show (Str.ofString "refused ").length = 8 from l8, l6]; omega), by rw [show Str.ofString "refused " ++ ("oneway" : Str) = "refused oneway" from e8]; exact hq⟩
      split
      · exact ⟨n, offs, v, rfl, ok, hk, by rw [e, sy]; exact xx⟩
      · split
        · exact ⟨n, offs, v, rfl, ok, hk, by rw [e, sy]; exact xx⟩
        · split
          · exact ⟨n, offs, v, _, rfl, ok, hk, kind_int _, by rw [e, sy]; exact xx⟩
          · split
            · exact ⟨n, offs, v, _, rfl, ok, hk, by rw [e, sy]; exact xx⟩
            · omega
end G78
namespace G78
open PySem PySem.Spec PyProof.Rows L2
/-! ### a def that gives a new list of numbers -/
def spN (C : Addr) (K : PySem.W.Frag) (f : SpD) : Sp := fun vs H Q _ => ∃ (M : Addr → Prop) (ds : List D) (q : D → Prop), (∀ p, M p → H p ≠ none) ∧ RL K C (era H M) vs ds ∧ NL H ∧ f ds q ∧
  ∀ p H' (ns : List Int), Same H H' → NL H' → H p = none → H' p = some (.lst (ns.map V.int)) → q (.lst (ns.map D.int)) → Q (.ref p) H'
section
variable {P : Program} {w : World} {K : PySem.W.Frag} {mg : Str → Option Value} {base : Heap} {x : Str} {st : Stmt} {N ps : List Str} {k : Nat} {Z : ZZ} {f : SpD}
theorem clN_of (D0 : Def K mg x st []) (S : FnScope N ps (defScope st)) (hb : BindAll x st ps) (len : ∀ ds q, f ds q → ds.length = ps.length)
    (hbody : ∀ (fa : Addr) (cdv : Value) (A : Around) (outer : List Env) (s : Shared) (H : Hp) (E : XK), Room k (A.deeper (envOfC x (defScope st) s.heap.objs.size fa cdv)) →
      ∃ s1 s2 e pos W1 W2 W3, defBody st = [s1, s2, .Return (some e) pos] ∧ SJ Z (cxOf (L2.CX P w) P w K mg base N x (defScope st) fa cdv A outer s H E) s1 W1 ∧ SJ Z (cxOf (L2.CX P w) P w K mg base N x (defScope st) fa cdv A outer s H E) s2 W2 ∧
        EJ Z .o (cxOf (L2.CX P w) P w K mg base N x (defScope st) fa cdv A outer s H E) e W3 ∧
        ∀ ds q, f ds q → W1 { nx := fun ds1 => W2 { nx := fun ds2 => ds2.nl = true ∧ W3 ds2 fun d => ∃ ns : List Int, d = .lst (ns.map D.int) ∧ q d, rt := fun _ => False } ds1, rt := fun _ => False } (startD N ds)) : Cl P w K mg base (k + 1) x (spN Z.C K f) :=
  cl_of D0 S hb (fun vs H Q E ⟨M, ds, q, _, l, _, hf, _⟩ => by rw [l.len]; exact len ds q hf) fun fa cdv A outer s H vs Q E hr ⟨M, ds, q, mo, l, nl, hf, kq⟩ => by
    obtain ⟨s1, s2, e, pos, W1, W2, W3, eb, J1, J2, J3, hw⟩ := hbody fa cdv A outer s H E hr
    obtain ⟨t1, p1, g1⟩ := J1.ex
    obtain ⟨t2, p2, g2⟩ := J2.ex
    obtain ⟨t3, p3, g3⟩ := J3.ex
    rw [eb]
    refine ⟨_, pss_cons p1 (pss_cons p2 (pss_one (ps_ret p3))), g1 _ M _ H _ _ _ (rep_start (x := fun _ _ => False) (by rw [len ds q hf]; exact pre_le S) mo l nl fun _ _ z => z.elim) (hw ds q hf) ?_⟩
    refine ⟨fun M1 σ1 H1 ds1 r1 kp1 z1 => g2 _ M1 _ H1 _ _ _ r1 z1 ?_, fun _ _ _ _ _ _ z => z.elim, fun _ _ _ _ _ _ z => z.elim, fun _ _ _ _ _ _ _ _ _ z => z.elim⟩
    refine ⟨fun M2 σ2 H2 ds2 r2 kp2 ⟨hn, z2⟩ => ?_, fun _ _ _ _ _ _ z => z.elim, fun _ _ _ _ _ _ z => z.elim, fun _ _ _ _ _ _ _ _ _ z => z.elim⟩
    refine g3 _ M2 σ2 H2 ds2 _ _ r2 z2 fun v H3 d x3 ro ⟨ns, e3, z3⟩ => ?_
    subst e3
    cases ro with
    | lst hp hl rl =>
      have e4 := rl.ints
      subst e4
      have r3 := r2.ext x3
      exact kq _ H3 ns (fun a o e => r3.sn.sn (r3.nl hn) a o (fun z => nomatch z) e) (r3.nl hn) (r2.h0N hp) hl z3
variable {X : Cx} {kk : Nat} {e : Expr} {es : List Expr} {W : TWA} {pp pos : Pos}
theorem ej_callN (c : Cl X.prog X.w X.K X.mg X.base k x (spN Z.C X.K f)) (hr : Room kk X.A) (hk : k ≤ kk) (hg : Gl X x) (ha : AJ Z X (e :: es) W)
    (hdb : (x == ("__debug__" : Str)) = false := by decide) (he : starEach (e :: es) X.env = (false, eval e X.env) :: starEach es X.env := by rfl) (hpl : (backTo pos (starEach es X.env)).any (·.1) = false := by rfl) :
    EJ Z .o X (.Call (.Name x pp) (e :: es) [] pos) (wCall f W) := by
  obtain ⟨t, p, g⟩ := ha.ex
  refine ⟨_, pe_cl c hr hk hg p hdb he hpl, fun F M σ H ds q Q r ⟨hn, w⟩ k => g F M σ H ds _ _ r w fun vs H1 xs x1 s hf => ?_⟩
  show spN Z.C X.K f (vs ++ []) H1 Q E0
  rw [List.append_nil]
  have r1 := r.ext x1
  exact ⟨M, xs, q, r1.mo, s, r1.nl hn, hf, fun p H' ns h n hp hl z => k _ H' _ (x1.trans (.of_same h n)) (.lst (r.back x1 p hp) hl (RL.int_of ns)) z⟩
end
/-- a promise where no repr is under way, its parameters named -/
structure ClGP (P : Program) (w : World) (K : PySem.W.Frag) (mg : Str → Option Value) (base : Heap) (k : Nat) (x : Str) (ps : List Str) (sp : Sp) : Prop where
  ex : ∃ (f : Addr) (fd : FuncData), FnG P w K mg base (L2.CX P w) k f fd ps sp ∧ mg x = some (.ref f) ∧ ∃ oc od osl, K.lookup f = some ⟨oc, od, .func fd, osl⟩
section
variable {P : Program} {w : World} {K : PySem.W.Frag} {mg : Str → Option Value} {base : Heap} {x : Str} {st : Stmt} {N ps : List Str} {k : Nat} {Z : ZZ}
theorem clPGP_of {f : SpD} (D0 : Def K mg x st []) (S : FnScope N ps (defScope st)) (hb : BindAll x st ps) (len : ∀ ds q, f ds q → ds.length = ps.length)
    (hbody : ∀ (fa : Addr) (cdv : Value) (A : Around) (outer : List Env) (s : Shared) (H : Hp) (E : XK), Room k (A.deeper (envOfC x (defScope st) s.heap.objs.size fa cdv)) → A.guards = some [] →
      ∃ W, SsJ Z (cxOf (L2.CX P w) P w K mg base N x (defScope st) fa cdv A outer s H E) (defBody st) W ∧ ∀ ds q, f ds q → W (endD q) (startD N ds)) : ClGP P w K mg base (k + 1) x ps (spP Z.C K f) := by
  obtain ⟨fa, fd, F, hm⟩ := D0
  exact ⟨fa, fd, okG F S (fun vs H Q E ⟨M, ds, q, _, l, _, hf, _⟩ => by rw [l.len]; exact len ds q hf) (fun cdv A outer s H vs Q E hr hgd hsp =>
    body_run (fun ds q hf => by rw [len ds q hf]; exact pre_le S) (hbody fa cdv A outer s H E hr hgd) hsp), hm, lkF F⟩
end
theorem pN__law_box {w : World} {K : PySem.W.Frag} {mg : Str → Option Value} {base : Heap} {Z : ZZ} (T : Top w K mg base Z) : Cl prg w K mg base 1 "_law_box" (spN Z.C K f__law_box) := by
  have nd := sc__law_box.nd
  refine clN_of (k := 0) T.d__law_box sc__law_box (by intro kV doc pm an cdv ct us h; match us, h with | [a0, a1], _ => rfl) len__law_box fun fa cdv A outer s H E hr => ⟨_, _, _, _, _, _, _, rfl, (sj_set (as_of (i := 2) nd rfl (by first | exact .inl rfl | exact .inr rfl) (ej_op op_add ow_i ((ej_op op_mul ow_ic (ej_int).rd (r_ 1))).rd (ej_int).rd))),
  (sj_if (tj_cmp op_lt ow_b (r_ 1) ((ej_b1 call_len_seq cw_lenR (by rfl) T.m_len PySem.boot_len (r_ 0))).rd (nomark _)) (ss_one (sj_set (as_of (i := 2) nd rfl (by first | exact .inl rfl | exact .inr rfl) (ej_b1 call_abs cw_abs (by rfl) T.m_abs (by decide +kernel) ((ej_ix ix_list ow_ixR (r_ 0) (r_ 1))).rd)))) (ss_one (sj_if (tj_cmp op_gt ow_b ((ej_b1 call_len_seq cw_lenR (by rfl) T.m_len PySem.boot_len (r_ 0))).rd (ej_int).rd (nomark _)) (ss_one (sj_set (as_of (i := 2) nd rfl (by first | exact .inl rfl | exact .inr rfl) (ej_op op_add ow_i (r_ 2) ((ej_op op_mul ow_ic ((ej_op op_modN ow_ic ((ej_t1 call_int1 cw_int (by rfl) T.m_int (by decide +kernel) ((ej_b1 call_abs cw_abs (by rfl) T.m_abs (by decide +kernel) ((ej_ix ix_list ow_ixR (r_ 0) ((ej_op op_modN ow_ic ((ej_t1 call_int1 cw_int (by rfl) T.m_int (by decide +kernel) (r_ 1))).rd ((ej_b1 call_len_seq cw_lenR (by rfl) T.m_len PySem.boot_len (r_ 0))).rd)).rd)).rd)).rd)).rd (ej_int).rd)).rd (ej_int).rd)).rd)))) ss_nil))),
  (ej_lst (aj_cons (ej_ix ix_seq ow_ix ((ej_lst (aj_cons ej_int (aj_cons (n_ 2) aj_nil)))).dt.rd ((ej_t1 call_int1 cw_int (by rfl) T.m_int (by decide +kernel) ((ej_cmp op_ge ow_b (r_ 2) ((ej_op op_pow ow_ic (ej_int).rd (ej_int).rd)).rd (nomark _))).rd)).rd) (aj_cons (ej_op op_add ow_i ((ej_op op_modN ow_ic ((ej_t1 call_int1 cw_int (by rfl) T.m_int (by decide +kernel) ((ej_op op_add ow_i ((ej_op op_add ow_i ((ej_op op_mul ow_ic ((ej_op op_modN ow_ic ((ej_t1 call_int1 cw_int (by rfl) T.m_int (by decide +kernel) (r_ 2))).rd (ej_int).rd)).rd (ej_int).rd)).rd ((ej_op op_mul ow_ic (ej_int).rd (r_ 1))).rd)).rd (ej_int).rd)).rd)).rd (ej_int).rd)).rd (ej_int).rd) (aj_cons ej_int aj_nil)))), fun ds q hf => ?_⟩
  obtain ⟨ns, kk, rfl, k0, k5, hq⟩ := hf
  simp [-Bool.exists_bool, and_assoc, ex_not]
  have two : 2 ≤ sizeLine ∧ 3 ≤ sizeLine := ⟨len_ok (by omega), len_ok (by omega)⟩
  have cp : CPow 10 18 := by unfold CPow; decide
  have at2 : ∀ (a : Int) (b : Prop) [Decidable b], ∃ x, atI [D.int 0, D.int a] (if b then 1 else 0) = some (.int x) := fun a b _ => by
    by_cases h : b
    · rw [if_pos h]; exact ⟨a, rfl⟩
    · rw [if_neg h]; exact ⟨0, rfl⟩
  have cm : ∀ (a b : Int), 0 ≤ b → b < 1000000 → CMul a b := fun a b h1 h2 => .inr ⟨by omega, by omega⟩
  refine ⟨cm _ _ k0 (by omega), ?_⟩
  have fin : ∀ c : Int, ∃ x, atI [D.int 0, D.int c] (if 1000000000000000000 ≤ c then 1 else 0) = some x ∧ CMul (c.fmod 2147483629) 48271 ∧ CMul 44021 kk ∧ 3 ≤ sizeLine ∧
      (∃ ns : List Int, [x, D.int ((c.fmod 2147483629 * 48271 + 44021 * kk + 983).fmod 2147483629 + 1), D.int 0] = ns.map D.int) ∧ q (D.lst [x, D.int ((c.fmod 2147483629 * 48271 + 44021 * kk + 983).fmod 2147483629 + 1), D.int 0]) := fun c => by
    obtain ⟨x, hx⟩ := at2 c (1000000000000000000 ≤ c)
    exact ⟨_, hx, cm _ _ (by omega) (by omega), cm _ _ k0 (by omega), two.2, ⟨[x, _, 0], rfl⟩, hq _ _ _⟩
  split
  · rename_i h
    obtain ⟨j, rfl⟩ : ∃ j : Nat, kk = j := ⟨kk.toNat, by omega⟩
    refine ⟨ns[j]'(by omega), by rw [atI_nat']; exact List.getElem?_eq_getElem _, two.1, cp, fin _⟩
  · split
    · rename_i h1 h2
      have hm1 := Int.fmod_nonneg_of_pos kk (show (0 : Int) < ns.length by omega)
      have hm2 := Int.fmod_lt_of_pos kk (show (0 : Int) < ns.length by omega)
      obtain ⟨j, hj⟩ : ∃ j : Nat, kk.fmod ns.length = j := ⟨(kk.fmod ns.length).toNat, by omega⟩
      rw [hj] at hm2 ⊢
      refine ⟨by intro e; rw [e] at h2; simp at h2, ns[j]'(by omega), by rw [atI_nat']; exact List.getElem?_eq_getElem _, cm _ _ (by omega) (by omega), two.1, cp, fin _⟩
    · exact ⟨two.1, cp, fin _⟩
end G78
namespace G78
open PySem PySem.Spec PyProof.Rows L2
/-- data whose repr is short -/
structure Rp (k W : Nat) (d : D) : Prop where
  pu : d.pure = true
  la : PyData.canLay0 d.py = true
  de : PyData.depth d.py ≤ k
  le : PyData.leavesShort 13 d.py = true
  we : PyData.weight d.py ≤ W
  sh : PyData.showable d.py = true
theorem log2_40 {n : Nat} (h : n < 10 ^ 12) : n.log2 < 40 := by
  by_cases h0 : n = 0
  · subst h0; decide
  · rw [Nat.log2_lt h0]
    exact Nat.lt_trans h (by decide)
theorem Rp.int {i : Int} (h : i.natAbs < 10 ^ 12) : Rp 0 40 (.int i) := by
  have hl := log2_40 h
  refine ⟨rfl, rfl, by simp [D.py, PyData.depth], ?_, ?_, ?_⟩
  · show decide _ = true
    rw [decide_eq_true_eq]; exact PyData.shown_int_le h
  · show (if _ then _ else _) ≤ 40
    split
    · exact Nat.zero_le _
    · exact hl
  · show decide _ = true
    rw [decide_eq_true_eq]; omega
theorem Rp.nat {n : Nat} (h : n < 10 ^ 12) : Rp 0 40 (.int (n : Nat)) := Rp.int (by simpa using h)
theorem Rp.bl (b : Bool) : Rp 0 40 (.bl b) := ⟨rfl, rfl, by simp [D.py, PyData.depth], rfl, by simp [D.py, PyData.weight], rfl⟩
theorem rp_all {k W : Nat} : ∀ {xs : List D}, (∀ x ∈ xs, Rp k W x) → D.pures xs = true ∧ PyData.canLayAll0 (D.pys xs) = true ∧ PyData.depthAll (D.pys xs) ≤ k ∧ PyData.leavesShortAll 13 (D.pys xs) = true ∧ PyData.weightAll (D.pys xs) ≤ xs.length * (W + 1) ∧ PyData.showableAll (D.pys xs) = true
  | [], _ => ⟨rfl, rfl, by simp [D.pys, PyData.depthAll], rfl, by simp [D.pys, PyData.weightAll], rfl⟩
  | x :: xs, h => by
    obtain ⟨a1, a2, a3, a4, a5, a6⟩ := h x List.mem_cons_self
    obtain ⟨b1, b2, b3, b4, b5, b6⟩ := rp_all fun y hy => h y (List.mem_cons_of_mem _ hy)
    refine ⟨by rw [D.pures, a1, b1]; rfl, by rw [D.pys, PyData.canLayAll0, a2, b2]; rfl, ?_, by rw [D.pys, PyData.leavesShortAll, a4, b4]; rfl, ?_, by rw [D.pys, PyData.showableAll, a6, b6]; rfl⟩
    · rw [D.pys, PyData.depthAll]; exact Nat.max_le.mpr ⟨a3, b3⟩
    · rw [D.pys, PyData.weightAll, List.length_cons, Nat.add_mul, Nat.one_mul]; omega
theorem Rp.lst {k W L : Nat} {xs : List D} (h : ∀ x ∈ xs, Rp k W x) (hl : xs.length ≤ L) : Rp (k + 1) (L * (W + 1)) (.lst xs) := by
  obtain ⟨a1, a2, a3, a4, a5, a6⟩ := rp_all h
  have hm : xs.length * (W + 1) ≤ L * (W + 1) := Nat.mul_le_mul_right _ hl
  refine ⟨a1, by simpa [D.py, PyData.canLay0] using a2, by rw [D.py, PyData.depth]; omega, by simpa [D.py, PyData.leavesShort] using a4, by rw [D.py, PyData.weight]; omega, by simpa [D.py, PyData.showable] using a6⟩
theorem Rp.tup {k W L : Nat} {xs : List D} (h : ∀ x ∈ xs, Rp k W x) (hl : xs.length ≤ L) : Rp (k + 1) (L * (W + 1)) (.tup xs) := by
  obtain ⟨a1, a2, a3, a4, a5, a6⟩ := rp_all h
  have hm : xs.length * (W + 1) ≤ L * (W + 1) := Nat.mul_le_mul_right _ hl
  refine ⟨a1, by simpa [D.py, PyData.canLay0] using a2, by rw [D.py, PyData.depth]; omega, by simpa [D.py, PyData.leavesShort] using a4, by rw [D.py, PyData.weight]; omega, by simpa [D.py, PyData.showable] using a6⟩
theorem Rp.dN {l : List Nat} (h : ∀ x ∈ l, x < 10 ^ 12) : ∀ x ∈ G78.dN l, Rp 0 40 x := fun x hx => by
  obtain ⟨n, hn, rfl⟩ := List.mem_map.mp hx
  exact Rp.nat (h n hn)
/-- the repr of such data -/
theorem Rp.repr {k W : Nat} {d : D} (h : Rp k W d) {ds : DS} {q : D → Prop} (hn : d.py ≠ .none ∧ ∀ s, d.py ≠ .str s) (hq : q (.str d.py.shown)) (hk : k ≤ 20 := by decide) (hW : W ≤ 1048576 := by decide) : wRepr ds d q :=
  ⟨h.pu, hn, h.sh, PyData.hasDict_of_canLay _ h.la, by have := h.de; omega, PyData.shown_fits (B := 13) (by decide) (by decide) h.le (by have := h.we; omega), hq⟩
theorem Lay.eqv {k : Nat} {d : D} (h : Lay k d) : PyData.eqv d.py d.py = true := SeqAt.eqv_refl _ h.all3.2.1
/-! ### rows that are sorted -/
theorem alike_dN : ∀ (l m : List Nat), PySem.W.alikeAll (D.pys (dN l)) (D.pys (dN m)) = true
  | [], _ => by rw [show D.pys (dN []) = [] from rfl, PySem.W.alikeAll]
  | a :: l, [] => by
    show PySem.W.alikeAll ((D.int a).py :: D.pys (dN l)) [] = true
    rw [PySem.W.alikeAll]
  | a :: l, b :: m => by
    show PySem.W.alikeAll ((D.int a).py :: D.pys (dN l)) ((D.int b).py :: D.pys (dN m)) = true
    rw [PySem.W.alikeAll, alike_dN l m]
    rfl
theorem row_pure (bs l : List Nat) : (rowF bs l).pure = true := by
  have e : ∀ l : List Nat, D.pures (dN l) = true := fun l => by rw [D.pures_all, List.all_eq_true]; intro x hx; obtain ⟨n, _, rfl⟩ := List.mem_map.mp hx; rfl
  show D.pures [D.tup (dN _), D.tup (dN _)] = true
  simp only [D.pures, D.pure, e]
  rfl
theorem row_alike (bs l m : List Nat) : PySem.W.alike (rowF bs l).py (rowF bs m).py = true := by
  show PySem.W.alike (.tuple [.tuple (D.pys (dN _)), .tuple (D.pys (dN _))]) (.tuple [.tuple (D.pys (dN _)), .tuple (D.pys (dN _))]) = true
  simp only [PySem.W.alike, PySem.W.alikeAll, alike_dN]
  rfl
theorem row_rp {bs l : List Nat} (hb : bs.length ≤ 9) (hl : l.length ≤ 9) (h : ∀ x ∈ l, x < 10 ^ 12) : Rp 2 (2 * (9 * 41 + 1)) (rowF bs l) := by
  refine Rp.tup (L := 2) (k := 1) (W := 9 * 41) (fun x hx => ?_) (Nat.le_refl 2)
  simp only [List.mem_cons, List.not_mem_nil, or_false] at hx
  rcases hx with rfl | rfl
  · refine Rp.tup (L := 9) (k := 0) (W := 40) (Rp.dN fun x hx => ?_) (by simpa using hb)
    obtain ⟨b, _, rfl⟩ := List.mem_map.mp hx
    unfold at0
    rw [List.getD_eq_getElem?_getD]
    cases e : l[b]? with
    | none => decide
    | some y => exact h y (List.mem_of_getElem? e)
  · exact Rp.tup (L := 9) (k := 0) (W := 40) (Rp.dN h) (by simpa using hl)
/-- no more numbers than 9^9 -/
theorem prodR_le {os : List Op} {n : Nat} (n9 : n ≤ 9) : ∀ r : List Nat, prodR os n r ≤ 9 ^ r.length
  | [] => Nat.le_refl 1
  | b :: r => by
    rw [prodR, List.length_cons, Nat.pow_succ]
    exact Nat.mul_le_mul (prodR_le n9 r) (Nat.le_trans (goals_len os n b) n9)
theorem countG_le {os : List Op} {n : Nat} (n9 : n ≤ 9) : countG os n ≤ 387420489 := by
  rw [← countG_prodR]
  have h1 := prodR_le (os := os) n9 (bases os n).reverse
  have h2 := bases_len os n
  rw [List.length_reverse] at h1
  have h3 : 9 ^ (bases os n).length ≤ 9 ^ 9 := Nat.pow_le_pow_right (by omega) (by omega)
  have h4 : (9 : Nat) ^ 9 = 387420489 := by decide
  omega
theorem prodR_pos {os : List Op} {n : Nat} : ∀ {r : List Nat}, (∀ b ∈ r, 0 < (goals os n b).length) → 0 < prodR os n r
  | [], _ => Nat.zero_lt_one
  | b :: r, h => by
    rw [prodR]
    exact Nat.mul_pos (prodR_pos fun c hc => h c (List.mem_cons_of_mem _ hc)) (h b List.mem_cons_self)
theorem countG_pos {os : List Op} {n : Nat} (ok : ∀ o ∈ os, o.Ok n) : 0 < countG os n := by
  rw [← countG_prodR]
  exact prodR_pos fun b hb => goals_pos ok (bases_lt (List.mem_reverse.mp hb))
end G78
namespace G78
open PySem PySem.Spec PyProof.Rows L2
def f__law_all_right : SpD := fun ds q => ∃ (n : Nat) (offs : List (List Op)) (k : Nat), ds = [stoD n offs, .int k, .lst (dN (bases (othOps offs k) n))] ∧ OffsOk n offs ∧ n ≤ 3 ∧ k < offs.length ∧ Sym (othOps offs k) n ∧ q (.bl true)
theorem len__law_all_right : ∀ ds q, f__law_all_right ds q → ds.length = P__law_all_right.length := by
  rintro ds q ⟨n, offs, k, rfl, _⟩; rfl
noncomputable def stAl (n : Nat) (offs : List (List Op)) (k : Nat) (rows : List D) (c5 c6 c7 c8 c9 : SC) : DS :=
  { s := [.d (stoD n offs), .d (.int k), .d (.lst (dN (bases (othOps offs k) n))), .d (.lst ((othOps offs k).map Op.D)), .l rows, c5, c6, c7, c8, c9] }
theorem nat_blw {k m : Nat} (h : k < m) : (D.int (k : Nat)).blw m = true := by
  simp [D.blw]; omega
def secD : D → D
  | .tup [_, x] => x
  | _ => .non
def natsOf : D → List Nat
  | .tup xs => xs.map D.nat
  | _ => []
theorem natsOf_dN (l : List Nat) : natsOf (.tup (dN l)) = l := by
  show (dN l).map D.nat = l
  unfold dN; rw [List.map_map]; exact List.map_id'' (fun _ => rfl) l
theorem dN_inj : ∀ {l m : List Nat}, dN l = dN m → l = m
  | [], [], _ => rfl
  | [], _ :: _, h => by cases h
  | _ :: _, [], h => by cases h
  | a :: l, b :: m, h => by
    have h : D.int a :: dN l = D.int b :: dN m := h
    obtain ⟨h1, h2⟩ := List.cons.inj h
    have : a = b := by have := D.int.inj h1; omega
    rw [this, dN_inj h2]
theorem p__law_all_right {w : World} {K : PySem.W.Frag} {mg : Str → Option Value} {base : Heap} {Z : ZZ} (T : Top w K mg base Z) : ClG prg w K mg base 14 "_law_all_right" (spP Z.C K f__law_all_right) := by
  have c__law_all_ends := p__law_all_ends T
  have c__law_others := p__law_others T
  have c__law_fits := p__law_fits T
  have c_given_ends := p_given_ends T
  have c_count_given := p_count_given T
  have c_number_of_given := p_number_of_given T
  have nd := sc__law_all_right.nd
  refine clPG_of (k := 13) T.d__law_all_right sc__law_all_right (by intro kV doc pm an cdv ct us h; match us, h with | [a0, a1, a2], _ => rfl) len__law_all_right fun fa cdv A outer s H E hr hgd => ⟨_, (ss_cons (sj_par2 (i := 3) (j := 4) rfl nd rfl rfl (by decide) rfl rfl (mj_d (ej_call c__law_others hr (by decide) (by rfl) (aj_cons (ej_offs T.sto (r_ 0)) (aj_cons (n_ 1) aj_nil))) (mj_o (ej_lst aj_nil) mj_nil)) (by rfl))
  (ss_cons (sj_for (passes_of rfl) rfl (ij_list (ej_call c__law_all_ends hr (by decide) (by rfl) (aj_cons (ej_size T.sto (r_ 0)) aj_nil))) (g_ 5 nd) (ss_one (sj_if (tj_val ((ej_call c__law_fits hr (by decide) (by rfl) (aj_cons (n_ 3) (aj_cons (n_ 5) aj_nil)))).rd) (ss_one (sj_app (i := 4) rfl (by first | exact .inl rfl | exact .inr (.inl rfl) | exact .inr (.inr rfl)) (ej_tup (aj_cons (ej_t1 call_tuple_of cw_tuple (by rfl) T.m_tuple (by decide +kernel) ((ej_lc (own := [("_law_base", 9)]) rfl nd (ij_list (n_ 2)) (blkOk_by (own := [("_law_base", 9)]) (N := N__law_all_right) (sc := defScope st__law_all_right) (by decide +kernel)) (by decide) (fun _ _ _ _ _ => (g_ 9 nd)) (fun _ _ _ _ _ => ts_nil) (fun _ _ _ _ _ => (ej_ix ix_seq ow_ix (r_ 5) (r_ 9))))).dt.rd) (aj_cons (n_ 5) aj_nil))))) (ss_one (sj_if (tj_cmp op_notN ow_notN ((ej_x0 (xj_call c_number_of_given hr (by decide) (by rfl) (aj_cons (n_ 0) (aj_cons (n_ 1) (aj_cons (n_ 5) aj_nil)))))).rd (ej_non).rd (nomark _)) (ss_one (sj_ret ej_bl)) ss_nil)))))
  (ss_cons (sj_own (as_of (i := 4) nd rfl (by first | exact .inl rfl | exact .inr rfl) (ej_b1 (cr_sortD hr) cw_sortD (by rfl) T.m_sorted (by decide +kernel) (r_ 4))))
  (ss_cons (sj_set ((as_lc (i := 6) (own := [("_law_number", 7)]) rfl nd rfl rfl (sw_true rfl rfl rfl (by decide +kernel)) (ij_range (by rfl) T.m_range ((ej_b1 call_len_seq cw_len (by rfl) T.m_len PySem.boot_len (r_ 4))).rd) (blkOk_by (own := [("_law_number", 7)]) (N := N__law_all_right) (sc := defScope st__law_all_right) (by decide +kernel)) (by decide) (fun _ _ _ _ _ => (g_ 7 nd)) (fun _ _ _ _ _ => ts_nil) (fun _ _ _ _ _ => (ej_x0 (xj_call c_given_ends hr (by decide) (by rfl) (aj_cons (n_ 0) (aj_cons (n_ 1) (aj_cons (n_ 7) aj_nil)))))))).dt)
  (ss_frz 4 (ss_cons (sj_if (TJW.tj (tj_or (tj_cmp op_ne ow_ne ((ej_b1 (call_reprD hr hgd) cw_repr (by rfl) T.m_repr (by decide +kernel) (r_ 6))).rd ((ej_b1 (call_reprD hr hgd) cw_repr (by rfl) T.m_repr (by decide +kernel) ((ej_lc (own := [("_law_goals", 8), ("_law_ends", 5)]) rfl nd (ij_list (n_ 4)) (blkOk_by (own := [("_law_goals", 8), ("_law_ends", 5)]) (N := N__law_all_right) (sc := defScope st__law_all_right) (by decide +kernel)) (by decide) (fun _ _ _ _ _ => (gj_tup (n := 2) rfl (gjs_cons (g_ 8 nd) (gjs_cons (g_ 5 nd) gjs_nil)))) (fun _ _ _ _ _ => ts_nil) (fun _ _ _ _ _ => (n_ 5)))).dt.rd)).rd (nomark _)) (tj_or1 (tj_cmp op_ne ow_ne ((ej_x0 (xj_call c_count_given hr (by decide) (by rfl) (aj_cons (n_ 0) (aj_cons (n_ 1) aj_nil))))).rd ((ej_b1 call_len_seq cw_len (by rfl) T.m_len PySem.boot_len (r_ 4))).rd (nomark _))))) (ss_one (sj_ret ej_bl)) ss_nil)
  (ss_one (sj_ret (ej_cmp (op_eqD hr.units) ow_eqD ((ej_lc (own := [("_law_goals", 8), ("_law_ends", 5)]) rfl nd (ij_list (n_ 4)) (blkOk_by (own := [("_law_goals", 8), ("_law_ends", 5)]) (N := N__law_all_right) (sc := defScope st__law_all_right) (by decide +kernel)) (by decide) (fun _ _ _ _ _ => (gj_tup (n := 2) rfl (gjs_cons (g_ 8 nd) (gjs_cons (g_ 5 nd) gjs_nil)))) (fun _ _ _ _ _ => ts_nil) (fun _ _ _ _ _ => (ej_x0 (xj_call c_number_of_given hr (by decide) (by rfl) (aj_cons (n_ 0) (aj_cons (n_ 1) (aj_cons (n_ 5) aj_nil)))))))).dt.rd ((ej_listRg rfl (by rfl) T.m_list (by rfl) T.m_range ((ej_b1 call_len_seq cw_len (by rfl) T.m_len PySem.boot_len (r_ 4))).rd)).dt.rd (nomark _)))))))))), fun ds q hf => ?_⟩
  obtain ⟨n, offs, k, rfl, ok, n3, hk, sy, hq⟩ := hf
  change wSeq _ (wSeq _ ?t) _ _
  generalize hT : ?t = Tl
  simp [-Bool.exists_bool, and_assoc, ex_not]
  have sok := ok.sok
  have hkb := nat_blw hk
  obtain ⟨os, hos⟩ : ∃ os, os = othOps offs k := ⟨_, rfl⟩
  have hok : ∀ o ∈ os, o.Ok n := hos ▸ ok.oth k
  have pw : n ^ n ≤ 27 := by
    have h1 : n ^ n ≤ 3 ^ n := Nat.pow_le_pow_left n3 n
    have h2 : 3 ^ n ≤ 3 ^ 3 := Nat.pow_le_pow_right (by omega) n3
    omega
  refine ⟨_, _, rfl, offs, k, rfl, ok.m8, ok.few, _, ⟨_, rfl⟩, n, rfl, n3, _, rfl, ?_⟩
  rw [othI_nat]
  have tail : ∀ c5, Tl (endD q) (stAl n offs k (((allE n n).filter (fitB os n)).map (rowF (bases os n))) c5 .no .no .no .no) := by
    intro c5
    subst hT
    obtain ⟨ls, hls⟩ : ∃ ls, ls = (allE n n).filter (fitB os n) := ⟨_, rfl⟩
    rw [← hls]
    have lmem : ∀ l, l ∈ ls ↔ l.length = n ∧ Fit os n (at0 l) := fun l => by
      rw [hls, List.mem_filter, allE_mem, fitB_iff]
      exact ⟨fun h => ⟨h.1.1, h.2⟩, fun h => ⟨⟨h.1, fun x hx => by
        obtain ⟨j, hj⟩ := List.getElem?_of_mem hx
        rw [← at0_of hj]
        exact (h.2 j (by have := (List.getElem?_eq_some_iff.mp hj).1; omega)).1⟩, h.2⟩⟩
    have lnd : ls.Nodup := hls ▸ (allE_nd n n).filter _
    obtain ⟨ms, hms, hml, hmk⟩ := rows_sorted hok (hos ▸ sy) lnd lmem
    have hbl := bases_len os n
    have hmem : ∀ l ∈ ls, Rp 2 (2 * (9 * 41 + 1)) (rowF (bases os n) l) := fun l hl => by
      obtain ⟨h1, h2⟩ := (lmem l).mp hl
      exact row_rp (by omega) (by omega) fun x hx => by
        obtain ⟨j, hj⟩ := List.getElem?_of_mem hx
        rw [← at0_of hj]
        have := (h2 j (by have := (List.getElem?_eq_some_iff.mp hj).1; omega)).1
        omega
    have hcl : countG os n ≤ 27 := by
      rw [← hml]
      have h1 := congrArg List.length hms
      rw [List.length_mergeSort, List.length_map, List.length_map] at h1
      have h2 := List.length_filter_le (fitB os n) (allE n n)
      rw [allE_len, ← hls] at h2
      omega
    change wSeq _ ?t2 _ _
    generalize hT2 : ?t2 = Tl2
    simp [-Bool.exists_bool, and_assoc, ex_not, stAl]
    refine ⟨fun a _ => row_pure _ _, fun a _ b _ => row_alike _ _ _, fun a _ => ⟨_, _, rfl⟩, fun a ha => Nat.le_trans (hmem a ha).de (by omega), ?_⟩
    rw [hms]
    subst hT2
    change wSeq _ ?t3 _ _
    generalize hT3 : ?t3 = Tl3
    simp [-Bool.exists_bool, and_assoc, ex_not]
    refine ⟨ms.length, rfl, by omega, ?_⟩
    rw [rgN_dN]
    have sb : symB os n = true := symB_iff.mpr (hos ▸ sy)
    have hget : ∀ j, j < ms.length → ∃ l, ms[j]? = some l ∧ EndsAt os n j l := fun j hj => ⟨_, List.getElem?_eq_getElem hj, hmk j _ (List.getElem?_eq_getElem hj)⟩
    refine lcGo_map (fun d => .tup (dN (ms.getD d.nat []))) (by simp; omega) ?_ ?_
    · intro d hd acc q' hacc hq'
      obtain ⟨j, hj, rfl⟩ := List.mem_map.mp hd
      have hj := List.mem_range.mp hj
      obtain ⟨l, hl, he⟩ := hget j hj
      simp [-Bool.exists_bool, and_assoc, ex_not]
      refine ⟨n, offs, .int k, .int j, rfl, sok, kind_int _, kind_int _, ?_⟩
      rw [hkb, show (D.int (k : Nat)).nat = k from rfl, ← hos, sb]
      simp only [if_true]
      rw [nat_blw (show j < countG os n by omega)]
      simp only [if_true]
      intro ends hends
      have e := EndsAt.uniq hok hends he
      subst e
      refine ⟨hacc, ?_⟩
      have e2 : ms.getD (D.int (j : Nat)).nat [] = ends := by
        show ms.getD j [] = ends
        rw [List.getD_eq_getElem?_getD, hl]; rfl
      rw [e2] at hq'
      exact hq'
    · have e1 : [] ++ (dN (List.range ms.length)).map (fun d => D.tup (dN (ms.getD d.nat []))) = ms.map fun l => .tup (dN l) := by
        rw [List.nil_append]
        unfold dN
        rw [List.map_map]
        refine List.ext_getElem (by simp) fun i h1 h2 => ?_
        have hi : i < ms.length := by simpa using h2
        rw [List.getElem_map, List.getElem_map, List.getElem_range]
        show D.tup (dN (ms.getD i [])) = .tup (dN ms[i])
        rw [List.getD_eq_getElem?_getD, List.getElem?_eq_getElem hi]; rfl
      rw [e1]
      have hrl : ∀ l ∈ ms, l.length = n ∧ ∀ x ∈ l, x < n := fun l hl => by
        obtain ⟨j, hj⟩ := List.getElem?_of_mem hl
        have he := hmk j l hj
        refine ⟨he.len, fun x hx => ?_⟩
        obtain ⟨i, hi⟩ := List.getElem?_of_mem hx
        rw [← at0_of hi]
        exact (he.fit i (by have := (List.getElem?_eq_some_iff.mp hi).1; have := he.len; omega)).1
      have hrp : Rp 2 (27 * (3 * 41 + 1)) (.lst (ms.map fun l => .tup (dN l))) := by
        refine Rp.lst (k := 1) (W := 3 * 41) (fun x hx => ?_) (by simp; omega)
        obtain ⟨l, hl, rfl⟩ := List.mem_map.mp hx
        obtain ⟨h1, h2⟩ := hrl l hl
        exact Rp.tup (k := 0) (W := 40) (Rp.dN fun x hx => by have := h2 x hx; omega) (by simp; omega)
      subst hT3
      change wFrz 4 (wSeq _ ?t4) _ _
      generalize hT4 : ?t4 = Tl4
      simp [-Bool.exists_bool, and_assoc, ex_not, -wRepr]
      refine hrp.repr ⟨nofun, fun _ => nofun⟩ ?_
      refine lcGo_map secD (by simp; omega) ?_ ?_
      · intro d hd acc q' hacc hq'
        obtain ⟨l, hl, rfl⟩ := List.mem_map.mp hd
        unfold rowF at hq' ⊢
        simp [-Bool.exists_bool, and_assoc, ex_not]
        exact ⟨hacc, hq'⟩
      · rw [List.nil_append, List.map_map, show (ms.map (secD ∘ rowF (bases os n))) = ms.map fun l => .tup (dN l) from rfl]
        refine hrp.repr ⟨nofun, fun _ => nofun⟩ ?_
        refine ⟨_, rfl, _, rfl, rfl, ?_⟩
        rw [if_pos rfl]
        refine ⟨n, offs, .int k, rfl, sok, kind_int _, ?_⟩
        rw [hkb, show (D.int (k : Nat)).nat = k from rfl, ← hos, sb]
        simp only [if_true]
        refine ⟨_, rfl, rfl, ?_⟩
        rw [if_pos (by rw [hml])]
        subst hT4
        simp [-Bool.exists_bool, and_assoc, ex_not]
        refine lcGo_map (fun d => .int (numR os n (at0 (natsOf (secD d))) (bases os n).reverse : Nat)) (by simp; omega) ?_ ?_
        · intro d hd acc q' hacc hq'
          obtain ⟨l, hl, rfl⟩ := List.mem_map.mp hd
          obtain ⟨h1, h2⟩ := hrl l hl
          obtain ⟨j, hj⟩ := List.getElem?_of_mem hl
          have he := hmk j l hj
          have hq' : q' (acc ++ [.int (numR os n (at0 (natsOf (.tup (dN l)))) (bases os n).reverse : Nat)]) := hq'
          rw [natsOf_dN] at hq'
          unfold rowF
          simp [-Bool.exists_bool, and_assoc, ex_not]
          refine ⟨n, offs, .int k, _, rfl, sok, kind_int _, ?_⟩
          rw [hkb, show (D.int (k : Nat)).nat = k from rfl, ← hos, sb]
          simp only [if_true]
          refine ⟨dN_fair (by omega), ?_⟩
          rw [dN_isRow h1 h2]
          simp only [if_true]
          intro l' e'
          have e2 : l = l' := dN_inj (D.tup.inj e')
          subst e2
          exact ⟨fun _ => ⟨hacc, hq'⟩, fun h => absurd he.fit h⟩
        · rw [List.nil_append, List.map_map]
          have e3 : ms.map ((fun d => D.int (numR os n (at0 (natsOf (secD d))) (bases os n).reverse : Nat)) ∘ rowF (bases os n)) = dN (List.range ms.length) := by
            unfold dN
            refine List.ext_getElem (by simp) fun i h1 h2 => ?_
            have hi : i < ms.length := by simpa using h2
            rw [List.getElem_map, List.getElem_map, List.getElem_range]
            show D.int (numR os n (at0 (natsOf (.tup (dN ms[i])))) (bases os n).reverse : Nat) = .int (i : Nat)
            rw [natsOf_dN, (hmk i _ (List.getElem?_eq_getElem hi)).num]
          rw [e3]
          refine ⟨ms.length, rfl, by omega, (Lay.dNL 0 _).ok, by rw [rgN_dN]; exact (Lay.dNL 0 _).ok, ?_⟩
          rw [rgN_dN, (Lay.dNL 0 _).eqv]
          exact hq
  refine forGo_inv (fun i ds => ∃ c5, ds = stAl n offs k ((((allE n n).take i).filter (fitB os n)).map (rowF (bases os n))) c5 .no .no .no .no) _ _ 0 ⟨.no, rfl⟩ ?_ ?_
  · rintro i d _ N hd ⟨c5, rfl⟩ hN
    rw [Nat.zero_add] at hN ⊢
    clear tail
    rw [List.getElem?_map] at hd
    obtain ⟨l, hl, rfl⟩ := Option.map_eq_some_iff.mp hd
    have hi := (List.getElem?_eq_some_iff.mp hl).1
    rw [allE_len] at hi
    obtain ⟨l1, l2⟩ := (allE_mem n n l).mp (List.mem_of_getElem? hl)
    have htk : (allE n n).take (i + 1) = (allE n n).take i ++ [l] := by rw [List.take_add_one, hl]; rfl
    rw [htk, List.filter_append, List.map_append] at hN
    simp [-Bool.exists_bool, and_assoc, ex_not, stAl]
    refine ⟨n, os, l, _, by rw [hos], .inr rfl, by omega, hok, l1, l2, _, rfl, ?_⟩
    have hbl := bases_len os n
    have hfl : (((allE n n).take i).filter (fitB os n)).length ≤ 27 := by
      have h1 := List.length_filter_le (fitB os n) ((allE n n).take i)
      rw [List.length_take, allE_len] at h1
      omega
    rw [← hos]
    cases ef : fitB os n l with
    | true =>
      simp only [if_true]
      refine lcGo_map (fun d => .int (at0 l d.nat : Nat)) (by simp; omega) ?_ ?_
      · intro d hd acc q' hacc hq'
        obtain ⟨b, hb, rfl⟩ := List.mem_map.mp hd
        have hlb : l[b]? = some (at0 l b) := at0_get (by rw [l1]; exact bases_lt hb)
        simp [-Bool.exists_bool, and_assoc, ex_not, hlb]
        exact ⟨hacc, hq'⟩
      · refine ⟨len_ok (by omega), by omega, hN _ ⟨.d (.tup (dN l)), ?_⟩⟩
        rw [show [l].filter (fitB os n) = [l] by simp [ef], List.map_singleton]
        unfold stAl rowF
        rw [← hos]
        congr 8
        simp [dN, D.nat]
    | false =>
      rw [if_neg nofun]
      refine ⟨n, offs, .int k, _, rfl, sok, kind_int _, ?_⟩
      rw [hkb, show (D.int (k : Nat)).nat = k from rfl, ← hos, show symB os n = true from symB_iff.mpr (hos ▸ sy)]
      simp only [if_true]
      refine ⟨dN_fair (by omega), ?_⟩
      rw [dN_isRow l1 l2]
      simp only [if_true]
      intro l' e'
      have e2 : l = l' := dN_inj (D.tup.inj e')
      subst e2
      refine ⟨fun hf => absurd hf (fitB_no.mp ef), fun _ => ?_⟩
      refine hN _ ⟨.d (.tup (dN l)), ?_⟩
      rw [show [l].filter (fitB os n) = [] by simp [ef], List.map_nil, List.append_nil]
      unfold stAl
      rw [← hos]
  · rintro _ ⟨c5, rfl⟩
    rw [Nat.zero_add, List.length_map, List.take_length]
    exact tail _
end G78
namespace G78
open PySem PySem.Spec PyProof.Rows L2
def f__law_operations_right : SpD := fun ds q => ∃ (n : Nat) (offs : List (List Op)) (k : Nat), ds = [stoD n offs, .int k] ∧ LawOk n offs ∧ k < offs.length ∧ q (.bl true)
theorem len__law_operations_right : ∀ ds q, f__law_operations_right ds q → ds.length + 1 = P__law_operations_right.length := by
  rintro ds q ⟨n, offs, k, rfl, _⟩; rfl
def stOr (n : Nat) (offs : List (List Op)) (k : Nat) (os : List Op) (c7 c8 c9 c10 c11 c12 c13 : SC) : DS :=
  { s := [.bx, .d (stoD n offs), .d (.int k), .d (.int n), .d (.lst (os.map Op.D)), .d (.tup (dN (List.range n))), .d (.str "zzzzz"), c7, c8, c9, c10, c11, c12, c13, .no, .no, .no, .no, .no, .no], b0 := false }
def nm0 : D → D
  | .tup (x :: _) => x
  | _ => .non
def tB (n : Nat) (tl : List Nat) (o : Op) : Bool := (List.range n).all fun s => decide (at0 tl (o.e s) = at0 tl s)
theorem z5_name : (D.str "zzzzz").isName = true := by decide +kernel
theorem opD_op (o : Op) : o.D.op = o := by
  have nat : ∀ l : List Nat, (dN l).map D.nat = l := fun l => by unfold dN; rw [List.map_map]; exact List.map_id'' (fun _ => rfl) l
  obtain ⟨a, b, c⟩ := o
  simp [Op.D, D.op, nat]
theorem may_go {n : Nat} {offs : List (List Op)} {k : Nat} {u : D} {q : D → Prop} {x : Nat → Str → Prop} (sok : SOk n offs) (hk : k < offs.length) (h1 : u.kind) (h2 : ∀ ns, u ≠ .ftu ns) (h3 : ∀ xs, u = .tup xs → xs.length ≤ 1000 ∧ ∀ x ∈ xs, x.fair)
    (hq : q (.bl (u.isOp n && ((nameAt offs u.op.nm).isNone && !(othOps offs k).any fun o => clashC n u.op o)))) : f_may_be_given [stoD n offs, .int k, u] q x := by
  refine ⟨n, offs, .int k, u, rfl, sok, kind_int _, ?_⟩
  rw [nat_blw hk]
  exact ⟨h1, h2, h3, hq⟩
theorem may_op {n : Nat} {offs : List (List Op)} {k : Nat} {o : Op} {q : D → Prop} {x : Nat → Str → Prop} (sok : SOk n offs) (hk : k < offs.length) (ok : o.Ok n) (hn : (D.str o.nm).isName = true) (ht : ∀ t ∈ o.told, t < 1000000000001)
    (hq : q (.bl ((nameAt offs o.nm).isNone && !(othOps offs k).any fun p => clashC n o p))) : f_may_be_given [stoD n offs, .int k, .tup [.str o.nm, .tup (dN o.ends), .tup (dN o.told)]] q x := by
  have n9 := sok.n9
  have l1 := ok.le
  have l2 := ok.lt
  refine may_go (u := o.D) sok hk nofun nofun (fun xs e => ?_) ?_
  · cases e
    refine ⟨by simp, fun y hy => ?_⟩
    simp only [List.mem_cons, List.not_mem_nil, or_false] at hy
    rcases hy with rfl | rfl | rfl
    · refine str_fair ?_
      simp only [D.isName, Bool.and_eq_true, decide_eq_true_eq] at hn
      omega
    · exact dN_fair (by omega)
    · exact dN_fair (by omega)
  · rw [op_isOp ok hn ht, opD_op, Bool.true_and]
    exact hq
theorem clash_due {os : List Op} {n : Nat} {l tl : List Nat} {nm : Str} (hok : ∀ o ∈ os, o.Ok n) (l2 : ∀ x ∈ l, x < n) (l1 : l.length = n) : (!(os.any fun o => clashC n ⟨nm, l, tl⟩ o)) = (fitB os n l && os.all (tB n tl)) := by
  rw [Bool.eq_iff_iff, Bool.not_eq_true', List.any_eq_false, Bool.and_eq_true, fitB_iff, List.all_eq_true]
  have e1 : ∀ s, (⟨nm, l, tl⟩ : Op).e s = at0 l s := fun _ => rfl
  have e2 : ∀ s, (⟨nm, l, tl⟩ : Op).t s = at0 tl s := fun _ => rfl
  constructor
  · intro h
    have h' : ∀ o ∈ os, ∀ s, s < n → at0 l (o.e s) = o.e (at0 l s) ∧ at0 tl (o.e s) = at0 tl s ∧ o.t (at0 l s) = o.t s := fun o ho s hs => by
      have := h o ho
      unfold clashC at this
      rw [Bool.not_eq_true, List.any_eq_false] at this
      have := this s (List.mem_range.mpr hs)
      simpa [endsC, toldC, e1, e2] using this
    refine ⟨fun s hs => ⟨l2 _ (List.mem_of_getElem? (at0_get (by omega))), fun o ho => ⟨(h' o ho s hs).1, (h' o ho s hs).2.2.symm⟩⟩, fun o ho => ?_⟩
    unfold tB
    rw [List.all_eq_true]
    exact fun s hs => by rw [decide_eq_true_eq]; exact (h' o ho s (List.mem_range.mp hs)).2.1
  · rintro ⟨h1, h2⟩ o ho
    unfold clashC
    rw [Bool.not_eq_true, List.any_eq_false]
    intro s hs
    have hs := List.mem_range.mp hs
    have a1 := (h1 s hs).2 o ho
    have a2 := h2 o ho
    unfold tB at a2
    rw [List.all_eq_true] at a2
    have a3 := of_decide_eq_true (a2 s (List.mem_range.mpr hs))
    simp [endsC, toldC, e1, e2, a1.1, a1.2, a3]
def OddU (n : Nat) (offs : List (List Op)) (k : Nat) (u : D) : Prop := u.kind ∧ (∀ ns, u ≠ .ftu ns) ∧ (∀ xs, u = .tup xs → xs.length ≤ 1000 ∧ ∀ x ∈ xs, x.fair) ∧ (u.isOp n && ((nameAt offs u.op.nm).isNone && !(othOps offs k).any fun o => clashC n u.op o)) = false
theorem OddU.go {n : Nat} {offs : List (List Op)} {k : Nat} {u : D} {q : D → Prop} {x : Nat → Str → Prop} (h : OddU n offs k u) (sok : SOk n offs) (hk : k < offs.length) (hq : q (.bl false)) : f_may_be_given [stoD n offs, .int k, u] q x :=
  may_go sok hk h.1 h.2.1 h.2.2.1 (by rw [h.2.2.2]; exact hq)
theorem at0_range {n s : Nat} (h : s < n) : at0 (List.range n) s = s := at0_of (by rw [List.getElem?_range h])
theorem at0_rep {n s c : Nat} (h : s < n) : at0 (List.replicate n c) s = c := at0_of (by rw [List.getElem?_replicate, if_pos h])
theorem still_due {os : List Op} {n c : Nat} {nm : Str} (hok : ∀ o ∈ os, o.Ok n) : (!(os.any fun o => clashC n ⟨nm, List.range n, List.replicate n c⟩ o)) = true := by
  rw [clash_due hok (fun x hx => List.mem_range.mp hx) (by simp), Bool.and_eq_true, fitB_iff, List.all_eq_true]
  refine ⟨fun s hs => ⟨by rw [at0_range hs]; exact hs, fun o ho => ?_⟩, fun o ho => ?_⟩
  · have := (hok o ho).e hs
    rw [at0_range hs, at0_range this.2]
    exact ⟨rfl, rfl⟩
  · unfold tB
    rw [List.all_eq_true]
    intro s hs
    have hs := List.mem_range.mp hs
    rw [decide_eq_true_eq, at0_rep hs, at0_rep ((hok o ho).e hs).2]
theorem rep_dN (n c : Nat) : List.replicate n (D.int (c : Nat)) = dN (List.replicate n c) := by unfold dN; rw [List.map_replicate]
theorem still_may {n : Nat} {offs : List (List Op)} {k c : Nat} {q : D → Prop} {x : Nat → Str → Prop} (sok : SOk n offs) (hk : k < offs.length) (hok : ∀ o ∈ othOps offs k, o.Ok n) (zz : nameAt offs "zzzzz" = none) (hc : c < 1000000000001) (hq : q (.bl true)) :
    f_may_be_given [stoD n offs, .int k, .tup [.str "zzzzz", .tup (dN (List.range n)), .tup (List.replicate n (.int (c : Nat)))]] q x := by
  rw [rep_dN]
  refine may_op (o := ⟨"zzzzz", List.range n, List.replicate n c⟩) sok hk ⟨by simp, by simp, fun e he => List.mem_range.mp he⟩ z5_name (fun t ht => by rw [List.eq_of_mem_replicate ht]; exact hc) ?_
  rw [zz, still_due hok]
  exact hq
theorem row_rep {n : Nat} {c b : Int} (n1 : 1 ≤ n) (h : b ≤ c ∨ c < 0) : (D.tup (List.replicate n (.int c))).isRow n b = false := by
  obtain ⟨m, rfl⟩ : ∃ m, n = m + 1 := ⟨n - 1, by omega⟩
  simp only [D.isRow, List.replicate_succ, List.all_cons]
  have : (D.int c).blw b = false := by
    simp [D.blw]; omega
  rw [this]; simp
theorem odd3 {n : Nat} {offs : List (List Op)} {k : Nat} {a b c : D} (ha : a.fair) (hb : b.fair) (hc : c.fair) (h : (D.tup [a, b, c]).isOp n = false ∨ ∃ x, a = .str x ∧ (nameAt offs x).isNone = false) : OddU n offs k (.tup [a, b, c]) := by
  refine ⟨nofun, nofun, fun xs e => ?_, ?_⟩
  · cases e
    refine ⟨by simp, fun y hy => ?_⟩
    simp only [List.mem_cons, List.not_mem_nil, or_false] at hy
    rcases hy with rfl | rfl | rfl
    · exact ha
    · exact hb
    · exact hc
  · rcases h with h | ⟨x, rfl, h⟩
    · rw [h]; rfl
    · by_cases hi : (D.tup [.str x, b, c]).isOp n = true
      · obtain ⟨e, _⟩ := isOp_op hi
        have hx : (D.tup [.str x, b, c]).op.nm = x := by
          have e2 : D.tup [.str x, b, c] = .tup [.str (D.tup [.str x, b, c]).op.nm, .tup (dN (D.tup [.str x, b, c]).op.ends), .tup (dN (D.tup [.str x, b, c]).op.told)] := e
          have e3 := (List.cons.inj (D.tup.inj e2)).1
          exact (D.str.inj e3).symm
        rw [hx, h]; simp
      · rw [Bool.not_eq_true] at hi
        rw [hi]; rfl
theorem rep_fair {n : Nat} (h : n ≤ 1000) (c : Int) : (D.tup (List.replicate n (.int c))).fair := ⟨nofun, nofun, nofun, fun xs z => by
  cases z
  refine ⟨by simpa using h, fun y hy => ?_⟩
  rw [List.eq_of_mem_replicate hy]; exact nofun⟩
theorem odd_told {n : Nat} {offs : List (List Op)} {k : Nat} {x : Str} {l : List Nat} {c : Int} (n1 : 1 ≤ n) (n9 : n ≤ 1000) (hl : l.length ≤ 1000) (hx : x.length ≤ 1000) (h : 1000000000001 ≤ c ∨ c < 0) : OddU n offs k (.tup [.str x, .tup (dN l), .tup (List.replicate n (.int c))]) := by
  refine odd3 (str_fair hx) (dN_fair hl) (rep_fair n9 c) (.inl ?_)
  show ((D.str x).isName && ((D.tup (dN l)).isRow n n && (D.tup (List.replicate n (.int c))).isRow n 1000000000001)) = false
  rw [row_rep n1 h]; simp
theorem p__law_operations_right {w : World} {K : PySem.W.Frag} {mg : Str → Option Value} {base : Heap} {Z : ZZ} (T : Top w K mg base Z) : ClG prg w K mg base 7 "_law_operations_right" (spB Z.C K f__law_operations_right) := by
  have c__law_others := p__law_others T
  have c__law_fits := p__law_fits T
  have c_may_be_given := p_may_be_given T
  have c__law_take := p__law_take T
  have nd := sc__law_operations_right.nd
  refine clBG_of (k := 6) T.d__law_operations_right sc__law_operations_right (by intro kV doc pm an cdv ct us h; match us, h with | [a0, a1, a2], _ => rfl) len__law_operations_right fun fa cdv A outer s H E hr hgd => ⟨_, (ss_cons (sj_parT (is := [3, 4]) rfl (pgs_cons (pg_ 3 nd) (pgs_cons (pg_ 4 nd) pgs_nil)) (mj_d (ej_size T.sto (r_ 1)) (mj_d (ej_call c__law_others hr (by decide) (by rfl) (aj_cons (ej_offs T.sto (r_ 1)) (aj_cons (n_ 2) aj_nil))) mj_nil)) (by decide))
  (ss_cons (sj_par2 (i := 5) (j := 6) rfl nd rfl rfl (by decide) rfl rfl (mj_d (ej_tupRg rfl (by rfl) T.m_tuple (by rfl) T.m_range (r_ 3)) (mj_d ej_str mj_nil)) (by rfl))
  (ss_cons (sj_for (passes_of rfl) rfl (ij_range (by rfl) T.m_range (ej_int).rd) (g_ 7 nd) (ss_cons (sj_set (as_of (i := 8) nd rfl (by first | exact .inl rfl | exact .inr rfl) (ej_if rfl (tj_cmp op_gt ow_b (r_ 7) (ej_int).rd (nomark _)) ((ej_lc (own := [("_law_state", 18)]) rfl nd (ij_range (by rfl) T.m_range (r_ 3)) (blkOk_by (own := [("_law_state", 18)]) (N := N__law_operations_right) (sc := defScope st__law_operations_right) (by decide +kernel)) (by decide) (fun _ _ _ _ _ => (g_ 18 nd)) (fun _ _ _ _ _ => ts_nil) (fun _ _ _ _ _ => (ej_callB (i := 0) c__law_take hr (by decide) (by rfl) rfl (by first | exact .inl rfl | exact .inr (.inl rfl) | exact .inr (.inr rfl)) (aj_cons (n_ 3) aj_nil))))).dt ((ej_t1 call_list_of cw_list (by rfl) T.m_list (by decide +kernel) (r_ 5))).dt)))
  (ss_cons (sj_set (as_of (i := 9) nd rfl (by first | exact .inl rfl | exact .inr rfl) (ej_if rfl (tj_cmp op_gt ow_b (r_ 7) (ej_int).rd (nomark _)) ((ej_lc (own := [("_law_state", 18)]) rfl nd (ij_range (by rfl) T.m_range (r_ 3)) (blkOk_by (own := [("_law_state", 18)]) (N := N__law_operations_right) (sc := defScope st__law_operations_right) (by decide +kernel)) (by decide) (fun _ _ _ _ _ => (g_ 18 nd)) (fun _ _ _ _ _ => ts_nil) (fun _ _ _ _ _ => (ej_callB (i := 0) c__law_take hr (by decide) (by rfl) rfl (by first | exact .inl rfl | exact .inr (.inl rfl) | exact .inr (.inr rfl)) (aj_cons ej_int aj_nil))))).dt ((ej_op op_rep ow_rep ((ej_lst (aj_cons ej_int aj_nil))).dt.rd (r_ 3))).dt)))
  (ss_cons (sj_set (as_of (i := 10) nd rfl (by first | exact .inl rfl | exact .inr rfl) (ej_call c__law_fits hr (by decide) (by rfl) (aj_cons (n_ 4) (aj_cons (n_ 8) aj_nil)))))
  (ss_cons (sj_for (passes_of rfl) rfl (ij_list (n_ 4)) (gj_tup (n := 3) rfl (gjs_cons (g_ 11 nd) (gjs_cons (g_ 12 nd) (gjs_cons (g_ 13 nd) gjs_nil)))) (ss_one (sj_set (as_of (i := 10) nd rfl (by first | exact .inl rfl | exact .inr rfl) (ej_and (r_ 10) (ej_one (ej_b1 (cr_all rfl) cw_all (by rfl) T.m_all (by decide +kernel) ((ej_lc (own := [("_law_state", 18)]) rfl nd (ij_range (by rfl) T.m_range (r_ 3)) (blkOk_by (own := [("_law_state", 18)]) (N := N__law_operations_right) (sc := defScope st__law_operations_right) (by decide +kernel)) (by decide) (fun _ _ _ _ _ => (g_ 18 nd)) (fun _ _ _ _ _ => ts_nil) (fun _ _ _ _ _ => (ej_cmp op_eq ow_eq ((ej_ix ix_seq ow_ix (r_ 9) ((ej_ix ix_seq ow_ix (r_ 12) (r_ 18))).rd)).rd ((ej_ix ix_seq ow_ix (r_ 9) (r_ 18))).rd (nomark _))))).dt.rd)))))))
  (ss_one (sj_if (tj_cmp op_ne ow_ne ((ej_b1 (call_reprD hr hgd) cw_repr (by rfl) T.m_repr (by decide +kernel) ((ej_x0 (xj_call c_may_be_given hr (by decide) (by rfl) (aj_cons (n_ 1) (aj_cons (n_ 2) (aj_cons (ej_tup (aj_cons (n_ 6) (aj_cons (ej_t1 call_tuple_of cw_tuple (by rfl) T.m_tuple (by decide +kernel) (r_ 8)) (aj_cons (ej_t1 call_tuple_of cw_tuple (by rfl) T.m_tuple (by decide +kernel) (r_ 9)) aj_nil)))) aj_nil)))))).rd)).rd ((ej_b1 (call_reprD hr hgd) cw_repr (by rfl) T.m_repr (by decide +kernel) (r_ 10))).rd (nomark _)) (ss_one (sj_ret ej_bl)) ss_nil)))))))
  (ss_cons (sj_set (as_of (i := 14) nd rfl (by first | exact .inl rfl | exact .inr rfl) (ej_op op_repN ow_repT ((ej_tup (aj_cons ej_int aj_nil))).rd (r_ 3))))
  (ss_cons (sj_set ((as_lc (i := 15) (own := [("_law_operation", 17)]) rfl nd rfl rfl (sw_true rfl rfl rfl (by decide +kernel)) (ij_list (ej_call c__law_others hr (by decide) (by rfl) (aj_cons (ej_offs T.sto (r_ 1)) (aj_cons (ej_op op_sub ow_i (ej_int).rd (ej_int).rd) aj_nil)))) (blkOk_by (own := [("_law_operation", 17)]) (N := N__law_operations_right) (sc := defScope st__law_operations_right) (by decide +kernel)) (by decide) (fun _ _ _ _ _ => (g_ 17 nd)) (fun _ _ _ _ _ => ts_nil) (fun _ _ _ _ _ => (ej_ix ix_seq ow_ix (r_ 17) (ej_int).rd)))).dt)
  (ss_cons (sj_set (as_of (i := 16) nd rfl (by first | exact .inl rfl | exact .inr rfl) ((ej_lst (aj_cons (ej_tup (aj_cons (ej_ix ix_seq ow_ix (r_ 15) (ej_int).rd) (aj_cons (n_ 5) (aj_cons (n_ 14) aj_nil)))) (aj_cons (ej_tup (aj_cons (n_ 6) (aj_cons (n_ 5) aj_nil))) (aj_cons ((ej_lst (aj_cons (n_ 6) (aj_cons (n_ 5) (aj_cons (n_ 14) aj_nil))))).dt (aj_cons (ej_tup (aj_cons ej_str (aj_cons (n_ 5) (aj_cons (n_ 14) aj_nil)))) (aj_cons (ej_tup (aj_cons (n_ 6) (aj_cons ((ej_t1 call_list_of cw_list (by rfl) T.m_list (by decide +kernel) (r_ 5))).dt (aj_cons (n_ 14) aj_nil)))) (aj_cons (ej_tup (aj_cons (n_ 6) (aj_cons (n_ 5) (aj_cons (ej_op op_catA ow_catT (r_ 14) ((ej_tup (aj_cons ej_int aj_nil))).rd) aj_nil)))) aj_nil)))))))).dt))
  (ss_cons (sj_set (as_of (i := 16) nd rfl (by first | exact .inl rfl | exact .inr rfl) ((ej_op op_cat ow_cat (r_ 16) ((ej_lst (aj_cons (ej_tup (aj_cons (n_ 6) (aj_cons (ej_sl sl_tup sw_tup (r_ 5) (oj_some (ej_int).rd) oj_none) (aj_cons (n_ 14) aj_nil)))) (aj_cons (ej_tup (aj_cons (n_ 6) (aj_cons (n_ 5) (aj_cons (ej_op op_repN ow_repT ((ej_tup (aj_cons (ej_op op_sub ow_i (ej_int).rd (ej_int).rd) aj_nil))).rd (r_ 3)) aj_nil)))) (aj_cons (ej_tup (aj_cons (n_ 6) (aj_cons (ej_op op_repN ow_repT ((ej_tup (aj_cons (n_ 3) aj_nil))).rd (r_ 3)) (aj_cons (n_ 14) aj_nil)))) (aj_cons (ej_tup (aj_cons ej_str (aj_cons (n_ 5) (aj_cons (n_ 14) aj_nil)))) (aj_cons ej_non (aj_cons ej_str (aj_cons (ej_tup aj_nil) aj_nil))))))))).dt.rd)).dt))
  (ss_cons (sj_if (TJW.tj (tj_or (tj_cmp op_notBl ow_notB ((ej_x0 (xj_call c_may_be_given hr (by decide) (by rfl) (aj_cons (n_ 1) (aj_cons (n_ 2) (aj_cons (ej_tup (aj_cons (n_ 6) (aj_cons (n_ 5) (aj_cons (ej_op op_repN ow_repT ((ej_tup (aj_cons (ej_op op_pow ow_ic (ej_int).rd (ej_int).rd) aj_nil))).rd (r_ 3)) aj_nil)))) aj_nil)))))).rd (ej_bl).rd (nomark _)) (tj_or1 (tj_val ((ej_x0 (xj_call c_may_be_given hr (by decide) (by rfl) (aj_cons (n_ 1) (aj_cons (n_ 2) (aj_cons (ej_tup (aj_cons (n_ 6) (aj_cons (n_ 5) (aj_cons (ej_op op_repN ow_repT ((ej_tup (aj_cons (ej_op op_add ow_i ((ej_op op_pow ow_ic (ej_int).rd (ej_int).rd)).rd (ej_int).rd) aj_nil))).rd (r_ 3)) aj_nil)))) aj_nil)))))).rd)))) (ss_one (sj_ret ej_bl)) ss_nil)
  (ss_one (sj_ret (ej_and ((ej_cmp op_isBl ow_isB ((ej_callK (k_may_be_given T) hr (by decide) (by rfl) (akj_cons (ej_tup (aj_cons (n_ 6) (aj_cons (n_ 5) (aj_cons (n_ 14) aj_nil)))) (akj_cons (n_ 2) (akj_cons (n_ 1) akj_nil))))).rd (ej_bl).rd (nomark _))).rd (ej_one (ej_not ((ej_b1 (cr_any rfl) cw_any (by rfl) T.m_any (by decide +kernel) ((ej_lc (own := [("_law_some_here", 19)]) rfl nd (ij_list (n_ 16)) (blkOk_by (own := [("_law_some_here", 19)]) (N := N__law_operations_right) (sc := defScope st__law_operations_right) (by decide +kernel)) (by decide) (fun _ _ _ _ _ => (g_ 19 nd)) (fun _ _ _ _ _ => ts_nil) (fun _ _ _ _ _ => (ej_x0 (xj_call c_may_be_given hr (by decide) (by rfl) (aj_cons (n_ 1) (aj_cons (n_ 2) (aj_cons (n_ 19) aj_nil)))))))).dt.rd)).rd))))))))))))), fun ds q hf => ?_⟩
  obtain ⟨n, offs, k, rfl, ok, hk, hq⟩ := hf
  change wSeq _ (wSeq _ ?t) _ _
  generalize hT : ?t = Tl
  simp [-Bool.exists_bool, and_assoc, ex_not]
  obtain ⟨os, hos⟩ : ∃ os, os = othOps offs k := ⟨_, rfl⟩
  have ok' := ok.ok
  have hok : ∀ o ∈ os, o.Ok n := hos ▸ ok'.oth k
  have sok := ok'.sok
  have n9 := ok'.n9
  have n1 := ok'.n1
  have hkb := nat_blw hk
  refine ⟨_, ⟨_, rfl⟩, _, _, rfl, offs, k, rfl, ok'.m8, ok'.few, n, rfl, by omega, ?_⟩
  rw [othI_nat, ← hos, rgN_dN]
  subst hT
  change wSeq _ ?t2 _ _
  generalize hT2 : ?t2 = Tl2
  simp [-Bool.exists_bool, and_assoc, ex_not]
  refine ⟨4, rfl, by omega, ?_⟩
  rw [rgN_dN]
  have zz : nameAt offs "zzzzz" = none := by
    unfold nameAt
    rw [List.findIdx?_eq_none_iff]
    intro os hos'
    simp only [decide_eq_false_iff_not]
    intro h
    obtain ⟨o, ho, e⟩ := List.mem_map.mp h
    exact ok.zz o (List.mem_flatten.mpr ⟨os, hos', ho⟩) e
  have hosl : os.length ≤ 320 := hos ▸ sok.othLen k
  refine forGo_inv (fun i ds => ∃ (c7 c8 c9 c10 c11 c12 c13 : SC), ds = stOr n offs k os c7 c8 c9 c10 c11 c12 c13) _ _ 0 ⟨_, _, _, _, _, _, _, rfl⟩ ?_ ?_
  · rintro i d _ N hd ⟨c7, c8, c9, c10, c11, c12, c13, rfl⟩ hN
    rw [dN_get] at hd
    obtain ⟨i', hi', rfl⟩ := Option.map_eq_some_iff.mp hd
    obtain ⟨rfl, hi4⟩ := range_at hi'
    change wSeq _ ?t23 ?kk _
    generalize hT23 : ?t23 = Tl23
    have tail23 : ∀ (l : List Nat), l.length = n → (∀ x ∈ l, x < n) → Tl23 ?kk (stOr n offs k os (.d (.int i')) (.d (.lst (dN l))) c9 c10 c11 c12 c13) := by
      intro l l1 l2
      subst hT23
      change wSeq _ ?t3 _ _
      generalize hT3 : ?t3 = Tl3
      have tail : ∀ (tl : List Nat), tl.length = n → (∀ x ∈ tl, x < 10) → Tl3 ?kk (stOr n offs k os (.d (.int i')) (.d (.lst (dN l))) (.d (.lst (dN tl))) c10 c11 c12 c13) := by
        intro tl t1 t2
        subst hT3
        change wSeq _ (wSeq _ ?t4) ?k4 _
        generalize hT4 : ?t4 = Tl4
        simp [-Bool.exists_bool, and_assoc, ex_not, stOr]
        refine ⟨n, os, l, _, rfl, .inl rfl, n9, hok, l1, l2, ?_⟩
        refine forGo_inv (fun i ds => ∃ (c11 c12 c13 : SC), ds = stOr n offs k os (.d (.int i')) (.d (.lst (dN l))) (.d (.lst (dN tl))) (.d (.bl (fitB os n l && (os.take i).all (tB n tl)))) c11 c12 c13) _ _ 0 ⟨c11, c12, c13, by simp [stOr]⟩ ?_ ?_
        · rintro i d _ N3 hd3 ⟨c11, c12, c13, rfl⟩ hN3
          rw [Nat.zero_add] at hN3 ⊢
          rw [List.getElem?_map] at hd3
          obtain ⟨o, ho, rfl⟩ := Option.map_eq_some_iff.mp hd3
          have htk : os.take (i + 1) = os.take i ++ [o] := by rw [List.take_add_one, ho]; rfl
          rw [htk, List.all_append, ← Bool.and_assoc] at hN3
          have hoo := hok o (List.mem_of_getElem? ho)
          obtain ⟨due, hdue⟩ : ∃ due, due = (fitB os n l && (os.take i).all (tB n tl)) := ⟨_, rfl⟩
          rw [← hdue] at hN3 ⊢
          simp [-Bool.exists_bool, and_assoc, ex_not, stOr, Op.D]
          have step : ∀ b : Bool, b = (due && tB n tl o) → N3 (stOr n offs k os (.d (.int i')) (.d (.lst (dN l))) (.d (.lst (dN tl))) (.d (.bl b)) (.d (.str o.nm)) (.d (.tup (dN o.ends))) (.d (.tup (dN o.told)))) := fun b hb => by
            subst hb
            exact hN3 _ ⟨.d (.str o.nm), .d (.tup (dN o.ends)), .d (.tup (dN o.told)), by simp⟩
          cases hdd : due with
          | false =>
            rw [if_neg nofun]
            exact step false (by rw [hdd]; rfl)
          | true =>
            rw [if_pos rfl]
            refine ⟨n, rfl, by omega, ?_⟩
            rw [rgN_dN]
            refine lcGo_map (fun d => .bl (decide (at0 tl (o.e d.nat) = at0 tl d.nat))) (by simp; omega) ?_ ?_
            · intro d hd acc q' hacc hq'
              obtain ⟨s', hs', rfl⟩ := List.mem_map.mp hd
              have hsn := List.mem_range.mp hs'
              obtain ⟨oe1, oe2⟩ := hoo.e hsn
              have g1 : tl[o.e s']? = some (at0 tl (o.e s')) := at0_get (by omega)
              have g2 : tl[s']? = some (at0 tl s') := at0_get (by omega)
              have hq' : q' (acc ++ [.bl (decide (at0 tl (o.e s') = at0 tl s'))]) := hq'
              simp [-Bool.exists_bool, and_assoc, ex_not, oe1, g1, g2]
              exact ⟨hacc, by simpa [Int.ofNat_inj] using hq'⟩
            · refine ⟨(List.range n).map fun s => decide (at0 tl (o.e s) = at0 tl s), ?_, step _ ?_⟩
              · rw [List.nil_append]; unfold dN; rw [List.map_map, List.map_map]; rfl
              · rw [hdd, Bool.true_and, List.all_map]; rfl
        · rintro _ ⟨c11, c12, c13, rfl⟩
          rw [Nat.zero_add, List.length_map, List.take_length]
          subst hT4
          simp [-Bool.exists_bool, and_assoc, ex_not, stOr, -wRepr]
          refine ⟨len_ok (by omega), ?_⟩
          have hk12 : ∀ t ∈ tl, t < 1000000000001 := fun t ht => by have := t2 t ht; omega
          refine may_op (o := ⟨"zzzzz", l, tl⟩) sok hk ⟨l1, t1, l2⟩ z5_name hk12 ?_
          rw [zz, ← hos, clash_due hok l2 l1]
          obtain ⟨due, hdue⟩ : ∃ due, due = (fitB os n l && os.all (tB n tl)) := ⟨_, rfl⟩
          rw [← hdue]
          show wRepr _ (.bl due) _
          refine (Rp.bl due).repr ⟨nofun, fun _ => nofun⟩ ((Rp.bl due).repr ⟨nofun, fun _ => nofun⟩ ⟨_, rfl, _, rfl, rfl, ?_⟩)
          rw [if_pos rfl]
          exact hN _ ⟨_, _, _, _, _, _, _, by rw [hdue]; rfl⟩
      generalize ?kk = KK at tail ⊢
      simp [-Bool.exists_bool, and_assoc, ex_not, stOr]
      split
      · refine ⟨n, rfl, by omega, ?_⟩
        rw [rgN_dN]
        refine lc_take (m := 2) (by simp; omega) (fun x hx acc q' hacc hq' => ?_) fun tl ht1 ht2 => tail tl (by simpa using ht1) fun x hx => by have := ht2 x hx; omega
        simp [-Bool.exists_bool, and_assoc, ex_not]
        exact ⟨2, rfl, by omega, by omega, fun j hj => ⟨hacc, hq' j hj⟩⟩
      · refine ⟨len_ok (by omega), n, rfl, by omega, ?_⟩
        have := tail (List.replicate n 7) (by simp) fun x hx => by rw [List.eq_of_mem_replicate hx]; omega
        rw [show dN (List.replicate n 7) = List.replicate n (D.int 7) by unfold dN; rw [List.map_replicate]; rfl] at this
        exact this
    generalize ?kk = KK at tail23 ⊢
    simp [-Bool.exists_bool, and_assoc, ex_not, stOr]
    split
    · refine ⟨n, rfl, by omega, ?_⟩
      rw [rgN_dN]
      refine lc_take (m := n) (by simp; omega) (fun x hx acc q' hacc hq' => ?_) fun l hl1 hl2 => tail23 l (by simpa using hl1) hl2
      simp [-Bool.exists_bool, and_assoc, ex_not]
      exact ⟨n, rfl, n1, by omega, fun j hj => ⟨hacc, hq' j hj⟩⟩
    · exact tail23 (List.range n) (by simp) fun x hx => List.mem_range.mp hx
  · rintro _ ⟨c7, c8, c9, c10, c11, c12, c13, rfl⟩
    show Tl2 (endD q) _
    subst hT2
    change wSeq _ ?t5 _ _
    generalize hT5 : ?t5 = Tl5
    simp [-Bool.exists_bool, and_assoc, ex_not, stOr]
    refine ⟨len_ok (by omega), n, rfl, by omega, by omega, ?_⟩
    subst hT5
    change wSeq _ ?t6 _ _
    generalize hT6 : ?t6 = Tl6
    simp [-Bool.exists_bool, and_assoc, ex_not]
    refine ⟨_, _, rfl, offs, -1, rfl, ok'.m8, ok'.few, _, rfl, ?_⟩
    rw [othI_neg offs (by omega)]
    refine lcGo_map nm0 (by have := ok'.few; simp only [List.length_map, List.length_nil]; omega) ?_ ?_
    · intro d hd acc q' hacc hq'
      obtain ⟨o, ho, rfl⟩ := List.mem_map.mp hd
      have hq' : q' (acc ++ [.str o.nm]) := hq'
      simp [-Bool.exists_bool, and_assoc, ex_not, Op.D]
      exact ⟨hacc, hq'⟩
    · obtain ⟨o0, fr, hfl⟩ : ∃ o fr, offs.flatten = o :: fr := by
        cases e : offs.flatten with
        | nil => exact absurd e ok.ne
        | cons o fr => exact ⟨o, fr, rfl⟩
      have o0m : o0 ∈ offs.flatten := by rw [hfl]; exact List.mem_cons_self
      rw [hfl]
      subst hT6
      change wSeq _ (wSeq _ ?t7) _ _
      generalize hT7 : ?t7 = Tl7
      simp [-Bool.exists_bool, and_assoc, ex_not]
      have fin : ∀ (odds : List D) (c15 : SC), odds.length ≤ 100 → (∀ u ∈ odds, OddU n offs k u) → Tl7 (endD q) { s := [.bx, .d (stoD n offs), .d (.int k), .d (.int n), .d (.lst (os.map Op.D)), .d (.tup (dN (List.range n))), .d (.str "zzzzz"), c7, c8, c9, c10, c11, c12, c13, .d (.tup (List.replicate n (D.int 0))), c15, .d (.lst odds), .no, .no, .no], b0 := false } := by
        intro odds c15 od1 od2
        subst hT7
        simp [-Bool.exists_bool, and_assoc, ex_not]
        have cp : CPow 10 12 := by unfold CPow; decide
        refine ⟨cp, len_ok (by omega), n, rfl, n1, by omega, len_ok (by omega), still_may sok hk (hos ▸ hok) zz (c := 1000000000000) (by omega) ⟨_, rfl, ?_⟩⟩
        rw [if_pos rfl]
        refine ⟨cp, len_ok (by omega), n, rfl, n1, by omega, len_ok (by omega), (odd_told (x := "zzzzz") (l := List.range n) (c := 1000000000001) n1 (by omega) (by simp; omega) (by decide +kernel) (.inl (by omega))).go sok hk ⟨_, rfl, ?_⟩⟩
        rw [if_neg nofun]
        refine ⟨len_ok (by omega), still_may sok hk (hos ▸ hok) zz (c := 0) (by omega) ⟨_, rfl, ?_⟩⟩
        rw [if_pos rfl]
        refine lcGo_map (fun _ => .bl false) (by simp; omega) ?_ ?_
        · intro d hd acc q' hacc hq'
          simp [-Bool.exists_bool, and_assoc, ex_not]
          exact (od2 d hd).go sok hk ⟨hacc, hq'⟩
        · refine ⟨odds.map fun _ => false, by rw [List.nil_append, List.map_map]; rfl, ?_⟩
          have e : ((odds.map fun _ => false).any id) = false := by
            rw [List.any_eq_false]
            intro x hx
            obtain ⟨_, _, rfl⟩ := List.mem_map.mp hx
            exact nofun
          rw [e]; exact hq
      have sl1 : HT.sIx n 0 (some (1 : Int)) = 1 := by
        have := HT.sIx_nat n 0 1
        rw [Nat.min_eq_left n1] at this
        exact this
      refine ⟨len_ok (by omega), len_ok (by omega), len_ok (by omega), len_ok (by omega), len_ok (by omega), len_ok (by omega), len_ok (by omega), by rw [sl1]; omega, len_ok (by omega), len_ok (by omega), n, rfl, n1, by omega, len_ok (by omega), len_ok (by omega), n, rfl, n1, by omega, len_ok (by omega), len_ok (by omega), len_ok (by omega), fin _ _ (by simp) fun u hu => ?_⟩
      simp only [List.mem_cons, List.not_mem_nil, or_false] at hu
      have l5 : ("zzzzz" : Str).length ≤ 1000 := by decide +kernel
      rcases hu with rfl | rfl | rfl | rfl | rfl | rfl | rfl | rfl | rfl | rfl | rfl | rfl | rfl
      · refine odd3 (str_fair ?_) (dN_fair (by simp; omega)) (rep_fair (by omega) 0) (.inr ⟨o0.nm, rfl, ?_⟩)
        · have := ok'.nm o0 o0m
          simp only [D.isName, Bool.and_eq_true, decide_eq_true_eq] at this
          omega
        · cases e : nameAt offs o0.nm with
          | some _ => rfl
          | none =>
            unfold nameAt at e
            rw [List.findIdx?_eq_none_iff] at e
            obtain ⟨os2, h1, h2⟩ := List.mem_flatten.mp o0m
            have := e os2 h1
            simp only [decide_eq_false_iff_not] at this
            exact absurd (List.mem_map_of_mem h2) this
      · exact ⟨nofun, nofun, fun xs e => by
          cases e
          refine ⟨by simp, fun y hy => ?_⟩
          simp only [List.mem_cons, List.not_mem_nil, or_false] at hy
          rcases hy with rfl | rfl
          · exact str_fair l5
          · exact dN_fair (by simp; omega), rfl⟩
      · exact ⟨nofun, nofun, nofun, rfl⟩
      · refine odd3 (str_fair (by decide +kernel)) (dN_fair (by simp; omega)) (rep_fair (by omega) 0) (.inl ?_)
        show ((D.str "zzzzzz").isName && ((D.tup (dN (List.range n))).isRow n n && (D.tup (List.replicate n (D.int 0))).isRow n 1000000000001)) = false
        rw [show (D.str "zzzzzz").isName = false by decide +kernel, Bool.false_and]
      · refine odd3 (str_fair l5) ⟨nofun, nofun, nofun, nofun⟩ (rep_fair (by omega) 0) (.inl ?_)
        show ((D.str "zzzzz").isName && (false && (D.tup (List.replicate n (D.int 0))).isRow n 1000000000001)) = false
        rw [Bool.false_and, Bool.and_false]
      · refine odd3 (str_fair l5) (dN_fair (by simp; omega)) ⟨nofun, nofun, nofun, fun xs z => ?_⟩ (.inl ?_)
        · cases z
          refine ⟨by simp; omega, fun y hy => ?_⟩
          rcases List.mem_append.mp hy with h | h
          · rw [List.eq_of_mem_replicate h]; exact nofun
          · rw [List.mem_singleton] at h; subst h; exact nofun
        · show ((D.str "zzzzz").isName && (_ && (D.tup (List.replicate n (D.int 0) ++ [D.int 0])).isRow n 1000000000001)) = false
          rw [show (D.tup (List.replicate n (D.int 0) ++ [D.int 0])).isRow n 1000000000001 = false by
            simp only [D.isRow, List.length_append, List.length_replicate, List.length_singleton]
            rw [decide_eq_false (by omega)]; rfl, Bool.and_false, Bool.and_false]
      · have cl : (cutD (dN (List.range n)) (some 1) none).length = n - 1 := by
          unfold cutD
          rw [dN_len, List.length_range, sl1, HT.sIx_none]
          simp
        refine odd3 (str_fair l5) ⟨nofun, nofun, nofun, fun xs z => ?_⟩ (rep_fair (by omega) 0) (.inl ?_)
        · cases z
          refine ⟨by omega, fun y hy => ?_⟩
          have hy : y ∈ dN (List.range n) := by
            unfold cutD at hy
            exact List.mem_of_mem_drop (List.mem_of_mem_take hy)
          obtain ⟨m, _, rfl⟩ := List.mem_map.mp hy
          exact nofun
        · show ((D.str "zzzzz").isName && ((D.tup (cutD (dN (List.range n)) (some 1) none)).isRow n n && _)) = false
          rw [show (D.tup (cutD (dN (List.range n)) (some 1) none)).isRow n n = false by
            simp only [D.isRow, cl]
            rw [decide_eq_false (by omega)]; rfl, Bool.false_and, Bool.and_false]
      · exact odd_told n1 (by omega) (by simp; omega) l5 (.inr (by omega))
      · refine odd3 (str_fair l5) (rep_fair (by omega) _) (rep_fair (by omega) 0) (.inl ?_)
        show ((D.str "zzzzz").isName && ((D.tup (List.replicate n (D.int n))).isRow n n && _)) = false
        rw [row_rep n1 (.inl (by omega)), Bool.false_and, Bool.and_false]
      · refine odd3 (str_fair (by decide +kernel)) (dN_fair (by simp; omega)) (rep_fair (by omega) 0) (.inl ?_)
        show ((D.str "").isName && ((D.tup (dN (List.range n))).isRow n n && (D.tup (List.replicate n (D.int 0))).isRow n 1000000000001)) = false
        rw [show (D.str "").isName = false by decide +kernel, Bool.false_and]
      · exact ⟨nofun, nofun, nofun, rfl⟩
      · exact ⟨nofun, nofun, nofun, rfl⟩
      · exact ⟨nofun, nofun, fun xs e => by cases e; exact ⟨by simp, nofun⟩, rfl⟩
end G78
namespace G78
open PySem PySem.Spec PyProof.Rows L2
section
variable {n k j : Nat} {offs : List (List Op)} {q : D → Prop} {x : Nat → Str → Prop}
theorem count_go (sok : SOk n offs) (hk : k < offs.length) (sy : Sym (othOps offs k) n) (hq : q (.int (countG (othOps offs k) n : Nat))) : f_count_given [stoD n offs, .int k] q x := by
  refine ⟨n, offs, .int k, rfl, sok, kind_int _, ?_⟩
  rw [nat_blw hk, show (D.int (k : Nat)).nat = k from rfl, symB_iff.mpr sy]
  exact hq
theorem ends_go (sok : SOk n offs) (hk : k < offs.length) (sy : Sym (othOps offs k) n) (hj : j < countG (othOps offs k) n) (hq : ∀ ends, EndsAt (othOps offs k) n j ends → q (.tup (dN ends))) : f_given_ends [stoD n offs, .int k, .int j] q x := by
  refine ⟨n, offs, .int k, .int j, rfl, sok, kind_int _, kind_int _, ?_⟩
  rw [nat_blw hk, show (D.int (k : Nat)).nat = k from rfl, symB_iff.mpr sy, nat_blw hj]
  exact hq
theorem ends_odd {u : D} (sok : SOk n offs) (hk : k < offs.length) (sy : Sym (othOps offs k) n) (hu : u.kind) (hb : u.blw (countG (othOps offs k) n) = false) (hx : x 0 "number") : f_given_ends [stoD n offs, .int k, u] q x := by
  refine ⟨n, offs, .int k, u, rfl, sok, kind_int _, hu, ?_⟩
  rw [nat_blw hk, show (D.int (k : Nat)).nat = k from rfl, symB_iff.mpr sy, hb]
  exact hx
theorem num_go {l : List Nat} (sok : SOk n offs) (hk : k < offs.length) (sy : Sym (othOps offs k) n) (l1 : l.length = n) (l2 : ∀ x ∈ l, x < n) (h1 : Fit (othOps offs k) n (at0 l) → q (.int (numR (othOps offs k) n (at0 l) (bases (othOps offs k) n).reverse : Nat))) (h2 : ¬ Fit (othOps offs k) n (at0 l) → q .non) :
    f_number_of_given [stoD n offs, .int k, .tup (dN l)] q x := by
  have n9 := sok.n9
  refine ⟨n, offs, .int k, _, rfl, sok, kind_int _, ?_⟩
  rw [nat_blw hk, show (D.int (k : Nat)).nat = k from rfl, symB_iff.mpr sy]
  simp only [if_true]
  refine ⟨dN_fair (by omega), ?_⟩
  rw [dN_isRow l1 l2]
  simp only [if_true]
  intro l' e'
  have e2 : l = l' := dN_inj (D.tup.inj e')
  subst e2
  exact ⟨h1, h2⟩
theorem num_odd {u : D} (sok : SOk n offs) (hk : k < offs.length) (sy : Sym (othOps offs k) n) (hu : u.fair) (hr : u.isRow n n = false) (hq : q .non) : f_number_of_given [stoD n offs, .int k, u] q x := by
  refine ⟨n, offs, .int k, _, rfl, sok, kind_int _, ?_⟩
  rw [nat_blw hk, show (D.int (k : Nat)).nat = k from rfl, symB_iff.mpr sy]
  simp only [if_true]
  refine ⟨hu, ?_⟩
  rw [hr]
  exact hq
end
/-- what is due so far -/
structure DueOk (n : Nat) (ends : List Nat) (dd : List (Nat × Nat)) : Prop where
  nd : (dd.map (·.1)).Nodup
  lt : ∀ x ∈ dd.map (·.1), x < n
  eq : ∀ p ∈ dd, p.2 = at0 ends p.1
theorem DueOk.len {n : Nat} {ends : List Nat} {dd : List (Nat × Nat)} (h : DueOk n ends dd) : dd.length ≤ n := by
  have := nodup_len h.nd h.lt
  simpa using this
theorem DueOk.put {n s y : Nat} {ends : List Nat} {dd : List (Nat × Nat)} (h : DueOk n ends dd) (hs : s < n) (hy : y = at0 ends s) :
    ∃ dd', dpt (imD dd) (Sum.inl (s : Int)) (.int (y : Nat)) = imD dd' ∧ DueOk n ends dd' ∧ (∀ x ∈ dd.map (·.1), x ∈ dd'.map (·.1)) ∧ s ∈ dd'.map (·.1) := by
  by_cases hin : s ∈ dd.map (·.1)
  · refine ⟨dd, ?_, h, fun _ h => h, hin⟩
    unfold dpt
    rw [if_pos]
    · unfold imD
      rw [List.map_map]
      refine List.map_congr_left fun p hp => ?_
      show (if (Sum.inl (p.1 : Int) : Key) = Sum.inl (s : Int) then _ else _) = _
      split
      · rename_i e
        have e1 : p.1 = s := by have := Sum.inl.inj e; omega
        show ((Sum.inl (p.1 : Int) : Key), D.int (y : Nat)) = (Sum.inl (p.1 : Int), .int (p.2 : Nat))
        rw [h.eq p hp, hy, e1]
      · rfl
    · simp only [List.any_eq_true, decide_eq_true_eq]
      obtain ⟨p, hp, e⟩ := List.mem_map.mp hin
      exact ⟨_, List.mem_map_of_mem hp, by rw [← e]⟩
  · refine ⟨dd ++ [(s, y)], imD_new hin, ⟨?_, fun x hx => ?_, fun p hp => ?_⟩, fun x hx => ?_, by simp⟩
    · rw [List.map_append, List.nodup_append]
      exact ⟨h.nd, by simp, fun u hu v hv => by simp at hv; subst hv; exact fun z => hin (z ▸ hu)⟩
    · rw [List.map_append] at hx
      rcases List.mem_append.mp hx with h' | h'
      · exact h.lt x h'
      · simp at h'; subst h'; exact hs
    · rcases List.mem_append.mp hp with h' | h'
      · exact h.eq p h'
      · simp at h'; subst h'; exact hy
    · rw [List.map_append]; exact List.mem_append_left _ hx
theorem DueOk.get {n s : Nat} {ends : List Nat} {dd : List (Nat × Nat)} (h : DueOk n ends dd) (hs : s ∈ dd.map (·.1)) : dgt (imD dd) (Sum.inl (s : Int)) = some (.int (at0 ends s : Nat)) := by
  rw [dgt_imD]
  obtain ⟨p, hp, rfl⟩ := List.mem_map.mp hs
  rw [lookup_nd h.nd hp, h.eq p hp]; rfl
noncomputable def stNr (n : Nat) (offs : List (List Op)) (k : Nat) (os : List Op) (m : Nat) (c7 c8 c9 c10 c11 c12 c13 c14 c15 c16 c17 c18 : SC) : DS :=
  { s := [.bx, .d (stoD n offs), .d (.int k), .d (.lst (dN (bases os n))), .d (.lst (goalsD os n)), .d (.lst (os.map Op.D)), .d (.int m), c7, c8, c9, c10, c11, c12, c13, c14, c15, c16, c17, c18], b0 := false }
def f__law_numbers_right : SpD := fun ds q => ∃ (n : Nat) (offs : List (List Op)) (k : Nat), ds = [stoD n offs, .int k, .lst (dN (bases (othOps offs k) n)), .lst (goalsD (othOps offs k) n)] ∧ OffsOk n offs ∧ k < offs.length ∧ Sym (othOps offs k) n ∧ q (.bl true)
theorem len__law_numbers_right : ∀ ds q, f__law_numbers_right ds q → ds.length + 1 = P__law_numbers_right.length := by
  rintro ds q ⟨n, offs, k, rfl, _⟩; rfl
theorem p__law_numbers_right {w : World} {K : PySem.W.Frag} {mg : Str → Option Value} {base : Heap} {Z : ZZ} (T : Top w K mg base Z) : ClG prg w K mg base 14 "_law_numbers_right" (spB Z.C K f__law_numbers_right) := by
  have c__law_others := p__law_others T
  have c__law_take := p__law_take T
  have c_given_ends := p_given_ends T
  have c__law_extended := p__law_extended T
  have c_count_given := p_count_given T
  have c__law_fits := p__law_fits T
  have c_number_of_given := p_number_of_given T
  have nd := sc__law_numbers_right.nd
  refine clBG_of (k := 13) T.d__law_numbers_right sc__law_numbers_right (by intro kV doc pm an cdv ct us h; match us, h with | [a0, a1, a2, a3, a4], _ => rfl) len__law_numbers_right fun fa cdv A outer s H E hr hgd => ⟨_, (ss_cons (sj_par2 (i := 5) (j := 6) rfl nd rfl rfl (by decide) rfl rfl (mj_d (ej_call c__law_others hr (by decide) (by rfl) (aj_cons (ej_offs T.sto (r_ 1)) (aj_cons (n_ 2) aj_nil))) (mj_d ej_int mj_nil)) (by rfl))
  (ss_cons (sj_for (passes_of rfl) rfl (ij_list (n_ 4)) (g_ 7 nd) (ss_one (sj_set (as_of (i := 6) nd rfl (by first | exact .inl rfl | exact .inr rfl) (ej_op op_mul ow_ic (r_ 6) ((ej_b1 call_len_seq cw_len (by rfl) T.m_len PySem.boot_len (r_ 7))).rd)))))
  (ss_cons (sj_if (TJW.tj (tj_or (tj_cmp op_ne ow_ne ((ej_b1 (call_reprD hr hgd) cw_repr (by rfl) T.m_repr (by decide +kernel) ((ej_x0 (xj_call c_count_given hr (by decide) (by rfl) (aj_cons (n_ 1) (aj_cons (n_ 2) aj_nil))))).rd)).rd ((ej_b1 (call_reprD hr hgd) cw_repr (by rfl) T.m_repr (by decide +kernel) (r_ 6))).rd (nomark _)) (tj_or1 (tj_cmp op_ne ow_ne ((ej_b1 (call_reprD hr hgd) cw_repr (by rfl) T.m_repr (by decide +kernel) ((ej_callK (k_count_given T) hr (by decide) (by rfl) (akj_cons (n_ 2) (akj_cons (n_ 1) akj_nil)))).rd)).rd ((ej_b1 (call_reprD hr hgd) cw_repr (by rfl) T.m_repr (by decide +kernel) (r_ 6))).rd (nomark _))))) (ss_one (sj_ret ej_bl)) ss_nil)
  (ss_cons (sj_for (passes_of rfl) rfl (ij_range (by rfl) T.m_range (ej_int).rd) (g_ 8 nd) (ss_cons (sj_set (as_of (i := 9) nd rfl (by first | exact .inl rfl | exact .inr rfl) (ej_ix ix_seq ow_ix ((ej_lst (aj_cons ej_int (aj_cons (ej_op op_sub ow_i (r_ 6) (ej_int).rd) (aj_cons (ej_callB (i := 0) c__law_take hr (by decide) (by rfl) rfl (by first | exact .inl rfl | exact .inr (.inl rfl) | exact .inr (.inr rfl)) (aj_cons (n_ 6) aj_nil)) aj_nil))))).dt.rd (r_ 8))))
  (ss_cons (sj_parT (is := [10, 11, 12]) rfl (pgs_cons (pg_ 10 nd) (pgs_cons (pg_ 11 nd) (pgs_cons (pg_ 12 nd) pgs_nil))) (mj_d (ej_x0 (xj_call c_given_ends hr (by decide) (by rfl) (aj_cons (n_ 1) (aj_cons (n_ 2) (aj_cons (n_ 9) aj_nil))))) (mj_d (n_ 9) (mj_o ej_dic0 mj_nil))) (by decide))
  (ss_cons (sj_for (passes_of rfl) rfl (ij_range (by rfl) T.m_range ((ej_b1 call_len_seq cw_len (by rfl) T.m_len PySem.boot_len (r_ 3))).rd) (g_ 13 nd) (ss_cons (sj_set (as_of (i := 7) nd rfl (by first | exact .inl rfl | exact .inr rfl) (ej_ix ix_seq ow_ix (r_ 4) ((ej_op op_sub ow_i ((ej_op op_sub ow_i ((ej_b1 call_len_seq cw_len (by rfl) T.m_len PySem.boot_len (r_ 4))).rd (ej_int).rd)).rd (r_ 13))).rd)))
  (ss_cons (sj_set (as_of (i := 14) nd rfl (by first | exact .inl rfl | exact .inr rfl) (ej_call c__law_extended hr (by decide) (by rfl) (aj_cons (n_ 5) (aj_cons (ej_ix ix_seq ow_ix (r_ 3) ((ej_op op_sub ow_i ((ej_op op_sub ow_i ((ej_b1 call_len_seq cw_len (by rfl) T.m_len PySem.boot_len (r_ 3))).rd (ej_int).rd)).rd (r_ 13))).rd) (aj_cons (ej_ix ix_seq ow_ix (r_ 7) ((ej_op op_modN ow_ic ((ej_t1 call_int1 cw_int (by rfl) T.m_int (by decide +kernel) (r_ 11))).rd ((ej_b1 call_len_seq cw_len (by rfl) T.m_len PySem.boot_len (r_ 7))).rd)).rd) aj_nil))))))
  (ss_cons (sj_set (as_of (i := 11) nd rfl (by first | exact .inl rfl | exact .inr rfl) (ej_op op_fdivN ow_ic (r_ 11) ((ej_b1 call_len_seq cw_len (by rfl) T.m_len PySem.boot_len (r_ 7))).rd)))
  (ss_one (sj_forL (passes_of rfl) rfl (lj_keys (p_ 14)) (g_ 15 nd) (ss_one (sj_dput (i := 12) hr rfl (by first | exact .inl rfl | exact .inr (.inl rfl) | exact .inr (.inr rfl)) (ej_dget hr (r_ 14) (r_ 15)) (r_ 15)))))))))
  (ss_cons (sj_if (TJW.tj (tj_or (tj_cmp op_ne ow_ne ((ej_b1 (call_reprD hr hgd) cw_repr (by rfl) T.m_repr (by decide +kernel) (r_ 10))).rd ((ej_b1 (call_reprD hr hgd) cw_repr (by rfl) T.m_repr (by decide +kernel) ((ej_t1 call_tuple_of cw_tuple (by rfl) T.m_tuple (by decide +kernel) ((ej_lc (own := [("_law_state", 15)]) rfl nd (ij_range (by rfl) T.m_range ((ej_size T.sto (r_ 1))).rd) (blkOk_by (own := [("_law_state", 15)]) (N := N__law_numbers_right) (sc := defScope st__law_numbers_right) (by decide +kernel)) (by decide) (fun _ _ _ _ _ => (g_ 15 nd)) (fun _ _ _ _ _ => ts_nil) (fun _ _ _ _ _ => (ej_dget hr (r_ 12) (r_ 15))))).dt.rd)).rd)).rd (nomark _)) (tj_or1 (tj_not (tj_val ((ej_call c__law_fits hr (by decide) (by rfl) (aj_cons (n_ 5) (aj_cons (n_ 10) aj_nil)))).rd))))) (ss_one (sj_ret ej_bl)) ss_nil)
  (ss_cons (sj_if (TJW.tj (tj_or (tj_cmp op_ne ow_ne ((ej_b1 (call_reprD hr hgd) cw_repr (by rfl) T.m_repr (by decide +kernel) ((ej_x0 (xj_call c_number_of_given hr (by decide) (by rfl) (aj_cons (n_ 1) (aj_cons (n_ 2) (aj_cons (n_ 10) aj_nil)))))).rd)).rd ((ej_b1 (call_reprD hr hgd) cw_repr (by rfl) T.m_repr (by decide +kernel) (r_ 9))).rd (nomark _)) (tj_or1 (tj_cmp op_ne ow_ne ((ej_b1 (call_reprD hr hgd) cw_repr (by rfl) T.m_repr (by decide +kernel) ((ej_callK (k_given_ends T) hr (by decide) (by rfl) (akj_cons (n_ 9) (akj_cons (n_ 2) (akj_cons (n_ 1) akj_nil))))).rd)).rd ((ej_b1 (call_reprD hr hgd) cw_repr (by rfl) T.m_repr (by decide +kernel) (r_ 10))).rd (nomark _))))) (ss_one (sj_ret ej_bl)) ss_nil)
  (ss_cons (sj_own (as_of (i := 16) nd rfl (by first | exact .inl rfl | exact .inr rfl) (ej_t1 call_list_of cw_list (by rfl) T.m_list (by decide +kernel) (r_ 10))))
  (ss_cons (sj_put (i := 16) rfl (by first | exact .inl rfl | exact .inr (.inl rfl) | exact .inr (.inr rfl)) (ej_callB (i := 0) c__law_take hr (by decide) (by rfl) rfl (by first | exact .inl rfl | exact .inr (.inl rfl) | exact .inr (.inr rfl)) (aj_cons (ej_size T.sto (r_ 1)) aj_nil)) ((ej_callB (i := 0) c__law_take hr (by decide) (by rfl) rfl (by first | exact .inl rfl | exact .inr (.inl rfl) | exact .inr (.inr rfl)) (aj_cons (ej_size T.sto (r_ 1)) aj_nil))).rd)
  (ss_frz 16 (ss_cons (sj_if (tj_cmp op_ne ow_ne ((ej_cmp op_isN ow_isN ((ej_callK (k_number_of_given T) hr (by decide) (by rfl) (akj_cons (ej_t1 call_tuple_of cw_tuple (by rfl) T.m_tuple (by decide +kernel) (r_ 16)) (akj_cons (n_ 2) (akj_cons (n_ 1) akj_nil))))).rd (ej_non).rd (nomark _))).rd ((ej_not ((ej_call c__law_fits hr (by decide) (by rfl) (aj_cons (n_ 5) (aj_cons (n_ 16) aj_nil)))).rd)).rd (nomark _)) (ss_one (sj_ret ej_bl)) ss_nil)
  (ss_one (sj_for (passes_of rfl) rfl (ij_list ((ej_lst (aj_cons (n_ 16) (aj_cons (ej_op op_catA ow_catT ((ej_t1 call_tuple_of cw_tuple (by rfl) T.m_tuple (by decide +kernel) (r_ 16))).rd ((ej_tup (aj_cons ej_int aj_nil))).rd) (aj_cons (ej_t1 call_tuple_of cw_tuple (by rfl) T.m_tuple (by decide +kernel) ((ej_sl sl_list sw_list (r_ 16) (oj_some (ej_int).rd) oj_none)).dt.rd) (aj_cons ej_non (aj_cons (ej_op op_repN ow_repT ((ej_tup (aj_cons ej_bl aj_nil))).rd ((ej_size T.sto (r_ 1))).rd) (aj_cons (ej_op op_repN ow_repT ((ej_tup (aj_cons (ej_size T.sto (r_ 1)) aj_nil))).rd ((ej_size T.sto (r_ 1))).rd) aj_nil)))))))).dt) (g_ 17 nd) (ss_one (sj_if (tj_cmp op_notN ow_notN ((ej_x0 (xj_call c_number_of_given hr (by decide) (by rfl) (aj_cons (n_ 1) (aj_cons (n_ 2) (aj_cons (n_ 17) aj_nil)))))).rd (ej_non).rd (nomark _)) (ss_one (sj_ret ej_bl)) ss_nil))))))))))))))
  (ss_cons (sj_for (passes_of rfl) rfl (ij_list ((ej_lst (aj_cons (n_ 6) (aj_cons (ej_op op_sub ow_i (ej_int).rd (ej_int).rd) (aj_cons ej_non (aj_cons ej_bl (aj_cons ej_str (aj_cons (ej_tup (aj_cons ej_int aj_nil)) aj_nil)))))))).dt) (g_ 17 nd) (ss_one (sj_try1 (i := 18) rfl rfl nd rfl rfl ⟨by rfl, by decide, .inl T.gN⟩ T.eNN (fun _ _ => (tb_cons (xj_call c_given_ends hr (by decide) (by rfl) (aj_cons (n_ 1) (aj_cons (n_ 2) (aj_cons (n_ 17) aj_nil)))) (ss_one (sj_ret ej_bl)))) (fun _ _ _ _ hz hf => hx_ne T.fN T.wN hz hf rfl (by first | exact .inl rfl | exact .inr (.inl rfl) | exact .inr (.inr rfl)) (nomark _)))))
  (ss_one (sj_ret ej_bl))))))), fun ds q hf => ?_⟩
  obtain ⟨n, offs, k, rfl, ok, hk, sy, hq⟩ := hf
  have sok := ok.sok
  have n9 := ok.n9
  have n1 := ok.n1
  have hok := ok.oth k
  have cg := countG_le (os := othOps offs k) n9
  have cp := countG_pos hok
  change wSeq _ (wSeq _ ?t) _ _
  generalize hT : ?t = Tl
  have go1 := @count_go n k offs
  have go2 := @ends_go n k
  obtain ⟨os, hos⟩ : ∃ os, os = othOps offs k := ⟨_, rfl⟩
  rw [← hos] at hok cg cp
  simp [-Bool.exists_bool, and_assoc, ex_not]
  refine ⟨_, _, rfl, offs, k, rfl, ok.m8, ok.few, ?_⟩
  rw [othI_nat, ← hos]
  refine forGo_inv (fun i ds => ∃ (c7 : SC), ds = stNr n offs k os ((((bases os n).take i).map fun b => (goals os n b).length).foldl (· * ·) 1) c7 .no .no .no .no .no .no .no .no .no .no .no) _ _ 0 ⟨_, rfl⟩ ?_ ?_
  · rintro i d _ N hd ⟨c7, rfl⟩ hN
    rw [Nat.zero_add] at hN ⊢
    unfold goalsD at hd
    rw [List.getElem?_map] at hd
    obtain ⟨b, hb, rfl⟩ := Option.map_eq_some_iff.mp hd
    have hgl := goals_len os n b
    simp [-Bool.exists_bool, and_assoc, ex_not, stNr]
    refine ⟨.inr ⟨by omega, by omega⟩, ?_⟩
    refine hN _ ⟨.d (.tup (dN (goals os n b))), ?_⟩
    rw [List.take_add_one, hb, List.map_append, List.foldl_append]
    simp [stNr]
  · rintro _ ⟨c7, rfl⟩
    have hgl : (goalsD os n).length = (bases os n).length := by unfold goalsD; rw [List.length_map]
    rw [Nat.zero_add, hgl, List.take_length]
    show Tl (endD q) (stNr n offs k os (countG os n) c7 .no .no .no .no .no .no .no .no .no .no .no)
    obtain ⟨m, hm⟩ : ∃ m, m = countG os n := ⟨_, rfl⟩
    rw [← hm] at cg cp ⊢
    subst hT
    change wSeq _ (wSeq (wFor _ _ ?b2) ?t2) _ _
    generalize hB2 : ?b2 = B2
    generalize hT2 : ?t2 = Tl2
    simp [-Bool.exists_bool, and_assoc, ex_not, stNr, -wRepr]
    have rm : Rp 0 40 (.int (m : Nat)) := Rp.nat (by omega)
    refine count_go sok hk sy ?_
    rw [← hos, ← hm]
    refine rm.repr ⟨nofun, fun _ => nofun⟩ (rm.repr ⟨nofun, fun _ => nofun⟩ ⟨_, rfl, _, rfl, rfl, ?_⟩)
    rw [if_pos rfl]
    refine count_go sok hk sy ?_
    rw [← hos, ← hm]
    refine rm.repr ⟨nofun, fun _ => nofun⟩ (rm.repr ⟨nofun, fun _ => nofun⟩ ⟨_, rfl, _, rfl, rfl, ?_⟩)
    rw [if_pos rfl]
    refine ⟨3, rfl, by omega, ?_⟩
    rw [rgN_dN]
    refine forGo_inv (fun i ds => ∃ (c7 c8 c9 c10 c11 c12 c13 c14 c15 c16 c17 : SC), ds = stNr n offs k os m c7 c8 c9 c10 c11 c12 c13 c14 c15 c16 c17 .no) _ _ 0 ⟨c7, .no, .no, .no, .no, .no, .no, .no, .no, .no, .no, rfl⟩ ?_ ?_
    · rintro i d _ N hd ⟨c7, c8, c9, c10, c11, c12, c13, c14, c15, c16, c17, rfl⟩ hN
      rw [dN_get] at hd
      obtain ⟨i', hi', rfl⟩ := Option.map_eq_some_iff.mp hd
      obtain ⟨rfl, hi3⟩ := range_at hi'
      subst hB2
      change wSeq _ ?b3 ?k3 _
      generalize hB3 : ?b3 = B3
      have tail : ∀ (j : Nat), j < m → B3 ?k3 (stNr n offs k os m c7 (.d (.int i')) (.d (.int j)) c10 c11 c12 c13 c14 c15 c16 c17 .no) := by
        intro j hj
        subst hB3
        change wSeq _ (wSeq _ ?b4) ?k4 _
        generalize hB4 : ?b4 = B4
        simp [-Bool.exists_bool, and_assoc, ex_not, stNr, -wRepr]
        refine ends_go sok hk sy (by rw [← hos, ← hm]; exact hj) fun ends he => ?_
        rw [← hos] at he
        have hbl := bases_len os n
        refine ⟨(bases os n).length, rfl, by omega, ?_⟩
        rw [rgN_dN]
        have hch := fit_chs hok he.fit
        rw [he.num] at hch
        have hl := he.len
        refine forGo_inv (fun i ds => ∃ (dd : List (Nat × Nat)) (c7 c13 c14 c15 : SC), ds = stNr n offs k os m c7 (.d (.int i')) (.d (.int j)) (.d (.tup (dN ends))) (.d (.int (kleft os n (bases os n).reverse j i : Nat))) (.k (imD dd)) c13 c14 c15 c16 c17 .no ∧ DueOk n ends dd ∧ ∀ b ∈ (bases os n).reverse.take i, ∀ s, Reach os b s → s ∈ dd.map (·.1)) _ _ 0 ⟨[], c7, c13, c14, c15, by rw [kleft_zero]; rfl, ⟨by simp, by simp, by simp⟩, by simp⟩ ?_ ?_
        · rintro a d _ N4 hd4 ⟨dd, c7, c13, c14, c15, rfl, hdd, hcov⟩ hN4
          rw [Nat.zero_add] at hN4 hcov ⊢
          rw [dN_get] at hd4
          obtain ⟨a', ha', rfl⟩ := Option.map_eq_some_iff.mp hd4
          obtain ⟨rfl, hab⟩ := range_at ha'
          obtain ⟨b, hb⟩ : ∃ b, (bases os n).reverse[a']? = some b := ⟨_, List.getElem?_eq_getElem (by simpa using hab)⟩
          have hbm := List.mem_reverse.mp (List.mem_of_getElem? hb)
          have hbn := bases_lt hbm
          have gp := goals_pos hok hbn
          have gl := goals_len os n b
          have ks := kleft_succ (os := os) (n := n) (k := j) hb
          have ca := chs_at (os := os) (n := n) (k := j) hb
          obtain ⟨kl, hkl⟩ : ∃ kl, kl = kleft os n (bases os n).reverse j a' := ⟨_, rfl⟩
          rw [← hkl] at ks ca ⊢
          have hml := Nat.mod_lt kl gp
          have hix : (bases os n)[(bases os n).length - 1 - a']? = some b := by
            rw [List.getElem?_reverse hab] at hb
            exact hb
          have hixI : ∀ {α : Type} (xs : List α), xs.length = (bases os n).length → atI xs ((xs.length : Int) - 1 - a') = xs[(bases os n).length - 1 - a']? := fun xs hx => by
            rw [show ((xs.length : Int) - 1 - a') = (((bases os n).length - 1 - a' : Nat) : Int) by omega, atI_nat']
          have hfm : (((kl : Int)).fmod ((goals os n b).length : Nat)) = ((kl % (goals os n b).length : Nat) : Int) := by
            rw [Int.fmod_eq_emod_of_nonneg _ (by omega)]; rfl
          have hfd : (((kl : Int)).fdiv ((goals os n b).length : Nat)) = ((kl / (goals os n b).length : Nat) : Int) := by
            rw [Int.fdiv_eq_ediv_of_nonneg _ (by omega)]; rfl
          have hgg : (goals os n b)[kl % (goals os n b).length]? = some ((goals os n b).getD (kl % (goals os n b).length) 0) := by
            rw [List.getD_eq_getElem?_getD, List.getElem?_eq_getElem hml]; rfl
          have hgat : (goals os n b).getD (kl % (goals os n b).length) 0 = at0 ends b := by
            rw [hch, List.getElem?_map, hb] at ca
            have := Option.some.inj ca
            exact (Prod.mk.inj this).2.symm
          rw [hgat] at hgg
          have hgm := mem_goals.mp (List.mem_of_getElem? hgg)
          have hgd : (goalsD os n)[(bases os n).length - 1 - a']? = some (.tup (dN (goals os n b))) := by
            unfold goalsD; rw [List.getElem?_map, hix]; rfl
          have hg1 : atI (goalsD os n) (((goalsD os n).length : Int) - 1 - a') = some (.tup (dN (goals os n b))) := by rw [hixI _ hgl, hgd]
          rw [hgl] at hg1
          have hb1 : atI (dN (bases os n)) (((bases os n).length : Int) - 1 - a') = some (.int b) := by
            have := hixI (dN (bases os n)) (by simp)
            rw [dN_len] at this
            rw [this, dN_get, hix]; rfl
          have hd1 : (((kl : Int)).fmod ((goals os n b).length : Nat)) = ((kl % (goals os n b).length : Nat) : Int) := hfm
          change wSeq _ ?b5 ?k5 _
          generalize hB5 : ?b5 = B5
          simp [-Bool.exists_bool, and_assoc, ex_not, stNr, hgl, hg1]
          subst hB5
          change wSeq _ ?b6 _ _
          generalize hB6 : ?b6 = B6
          simp [-Bool.exists_bool, and_assoc, ex_not, hb1, hfm, hgg]
          refine ⟨fun h => by have := congrArg List.length h; rw [dN_len] at this; simp at this; rw [this] at gp; exact absurd gp (by decide), .int (at0 ends b), ?_, n, b, at0 ends b, os, rfl, hok, n9, hbn, hgm.1, fun _ im him => ?_, fun h => absurd hgm.2 h⟩
          · show atI (dN (goals os n b)) ((kl % (goals os n b).length : Nat) : Int) = _
            rw [atI_nat', dN_get, hgg]; rfl
          subst hB6
          simp [-Bool.exists_bool, and_assoc, ex_not]
          refine ⟨⟨by omega, by omega⟩, ?_⟩
          have eit : (imD im).map (fun kv => kd kv.1) = dN (im.map (·.1)) := by
            unfold imD dN; rw [List.map_map, List.map_map]; rfl
          rw [eit, hfd, ← ks]
          have hpn : ∀ p ∈ im, p.1 < n ∧ p.2 = at0 ends p.1 := fun p hp => by
            have hpr := (him.mem p.1 p.2).mp hp
            exact ⟨(hpr.lt hok hbn hgm.1).1, he.fit.pr hok hbn hpr⟩
          refine forGo_inv (fun i ds => ∃ (d2 : List (Nat × Nat)) (c15 : SC), ds = { stNr n offs k os m (.d (.tup (dN (goals os n b)))) (.d (.int i')) (.d (.int j)) (.d (.tup (dN ends))) (.d (.int (kleft os n (bases os n).reverse j (a' + 1) : Nat))) (.k (imD d2)) (.d (.int a')) (.d (.dic (imD im))) c15 c16 c17 .no with nl := false } ∧ DueOk n ends d2 ∧ (∀ x ∈ dd.map (·.1), x ∈ d2.map (·.1)) ∧ ∀ p ∈ im.take i, p.1 ∈ d2.map (·.1)) _ _ 0 ⟨dd, c15, rfl, hdd, fun _ h => h, by simp⟩ ?_ ?_
          · rintro u d _ N6 hd6 ⟨d2, c15, rfl, hd2, hsub, hcv⟩ hN6
            rw [Nat.zero_add] at hN6 hcv
            rw [dN_get, List.getElem?_map, Option.map_map] at hd6
            obtain ⟨p, hp, rfl⟩ := Option.map_eq_some_iff.mp hd6
            obtain ⟨p1, p2⟩ := hpn p (List.mem_of_getElem? hp)
            have hlk := lookup_nd him.nd (show (p.1, p.2) ∈ im from List.mem_of_getElem? hp)
            obtain ⟨d3, e3, hd3, hs3, hin3⟩ := hd2.put p1 p2
            have hl2 := hd2.len
            simp [-Bool.exists_bool, and_assoc, ex_not, stNr, dgt_imD, hlk]
            rw [e3]
            refine ⟨by omega, hN6 _ ⟨d3, .d (.int p.1), rfl, hd3, fun x h => hs3 x (hsub x h), fun r hr => ?_⟩⟩
            rw [List.take_add_one, hp] at hr
            rcases List.mem_append.mp hr with h | h
            · exact hs3 _ (hcv r h)
            · have h : r = p := by simpa using h
              subst h; exact hin3
          · rintro _ ⟨d2, c15, rfl, hd2, hsub, hcv⟩
            rw [Nat.zero_add, dN_len, List.length_map, List.take_length] at hcv
            refine hN4 _ ⟨d2, .d (.tup (dN (goals os n b))), .d (.int a'), .d (.dic (imD im)), c15, rfl, hd2, fun c hc s hs => ?_⟩
            rw [List.take_add_one, hb] at hc
            rcases List.mem_append.mp hc with h | h
            · exact hsub s (hcov c h s hs)
            · have h : c = b := by simpa using h
              subst h
              obtain ⟨y, hy⟩ := PR.of_reach (g := at0 ends c) hs
              exact hcv (s, y) ((him.mem s y).mpr hy)
        · rintro _ ⟨dd, c7, c13, c14, c15, rfl, hdd, hcov⟩
          rw [Nat.zero_add, dN_len, List.length_range] at hcov
          rw [show (bases os n).length = (bases os n).reverse.length by simp, List.take_length] at hcov
          have hall : ∀ s, s < n → s ∈ dd.map (·.1) := fun s hs => by
            obtain ⟨b, hb, h1, _⟩ := base_of (os := os) s hs
            exact hcov b (List.mem_reverse.mpr hb) s h1
          show B4 _ _
          subst hB4
          change wSeq _ ?b7 _ _
          generalize hB7 : ?b7 = B7
          simp [-Bool.exists_bool, and_assoc, ex_not, stNr, -wRepr]
          have hln : ∀ x ∈ ends, x < n := fun x hx => by
            obtain ⟨j, hj⟩ := List.getElem?_of_mem hx
            rw [← at0_of hj]
            exact (he.fit j (by have := (List.getElem?_eq_some_iff.mp hj).1; omega)).1
          have re : Rp 1 (9 * 41) (.tup (dN ends)) := Rp.tup (k := 0) (W := 40) (Rp.dN fun x hx => by have := hln x hx; omega) (by simp; omega)
          have rj : Rp 0 40 (.int (j : Nat)) := Rp.nat (by omega)
          refine re.repr ⟨nofun, fun _ => nofun⟩ ⟨n, ⟨_, rfl⟩, n, rfl, by omega, ?_⟩
          rw [rgN_dN]
          refine lcGo_map (fun d => .int (at0 ends d.nat : Nat)) (by simp; omega) ?_ ?_
          · intro d hd acc q' hacc hq'
            obtain ⟨s', hs', rfl⟩ := List.mem_map.mp hd
            have hsn := List.mem_range.mp hs'
            have hq' : q' (acc ++ [.int (at0 ends s' : Nat)]) := hq'
            have hg := hdd.get (hall s' hsn)
            simp [-Bool.exists_bool, and_assoc, ex_not, hg]
            exact ⟨hacc, hq'⟩
          · have e1 : [] ++ (dN (List.range n)).map (fun d => D.int (at0 ends d.nat : Nat)) = dN ends := by
              rw [List.nil_append]
              unfold dN
              rw [List.map_map]
              refine List.ext_getElem (by simp [hl]) fun i h1 h2 => ?_
              have hi : i < ends.length := by simpa using h2
              rw [List.getElem_map, List.getElem_map, List.getElem_range]
              show D.int (at0 ends i : Nat) = .int (ends[i] : Nat)
              rw [at0_of (List.getElem?_eq_getElem hi)]
            rw [e1]
            refine re.repr ⟨nofun, fun _ => nofun⟩ ⟨_, rfl, _, rfl, rfl, ?_⟩
            rw [if_pos rfl]
            refine ⟨n, os, ends, _, rfl, .inr rfl, n9, hok, hl, hln, _, rfl, ?_⟩
            rw [fitB_iff.mpr he.fit, if_pos rfl]
            subst hB7
            change wSeq _ ?b8 _ _
            generalize hB8 : ?b8 = B8
            simp [-Bool.exists_bool, and_assoc, ex_not, -wRepr]
            refine num_go sok hk sy hl hln (fun _ => ?_) fun h => absurd (hos ▸ he.fit) h
            rw [← hos, he.num]
            refine rj.repr ⟨nofun, fun _ => nofun⟩ (rj.repr ⟨nofun, fun _ => nofun⟩ ⟨_, rfl, _, rfl, rfl, ?_⟩)
            rw [if_pos rfl]
            refine ends_go sok hk sy (by rw [← hos, ← hm]; exact hj) fun ends' he' => ?_
            rw [← hos] at he'
            have ee := EndsAt.uniq hok he' he
            subst ee
            refine re.repr ⟨nofun, fun _ => nofun⟩ (re.repr ⟨nofun, fun _ => nofun⟩ ⟨_, rfl, _, rfl, rfl, ?_⟩)
            rw [if_pos rfl]
            subst hB8
            change wSeq _ (wSeq _ ?b9) _ _
            generalize hB9 : ?b9 = B9
            simp [-Bool.exists_bool, and_assoc, ex_not]
            refine ⟨n, ⟨_, rfl⟩, n, rfl, n1, by omega, fun v hv => ⟨n, ⟨_, rfl⟩, n, rfl, n1, by omega, fun z hz => ⟨z, rfl, z, by unfold ixN; rw [if_pos (by omega), if_pos (by omega)]; simp, ?_⟩⟩⟩
            obtain ⟨l', hl'⟩ : ∃ l', l' = ends'.set z v := ⟨_, rfl⟩
            have es : (dN ends').set z (.int v) = dN l' := by rw [hl']; simp [dN, List.map_set]
            rw [es]
            have l1 : l'.length = n := by rw [hl']; simpa using hl
            have l2 : ∀ x ∈ l', x < n := fun x hx => by
              rw [hl'] at hx
              rcases List.mem_or_eq_of_mem_set hx with h | rfl
              · exact hln x h
              · exact hv
            subst hB9
            change wFrz 16 (wSeq _ ?b10) _ _
            generalize hB10 : ?b10 = B10
            simp [-Bool.exists_bool, and_assoc, ex_not]
            have next : B10 { nx := N, rt := q, bk := fun ds' => Tl2 (endD q) ds', ct := N } (stNr n offs k os m c7 (.d (.int i')) (.d (.int j)) (.d (.tup (dN ends'))) (.d (.int (kleft os n (bases os n).reverse j (bases os n).length : Nat))) (.k (imD dd)) c13 c14 c15 (.d (.lst (dN l'))) c17 .no) := by
              subst hB10
              simp [-Bool.exists_bool, and_assoc, ex_not, stNr]
              refine ⟨len_ok (by omega), len_ok (by omega), len_ok (by omega), n, ⟨_, rfl⟩, n, rfl, n1, by omega, n, ⟨_, rfl⟩, len_ok (by omega), n, ⟨_, rfl⟩, n, rfl, n1, by omega, len_ok (by omega), ?_⟩
              refine forGo_inv (fun i ds => ∃ c17, ds = stNr n offs k os m c7 (.d (.int i')) (.d (.int j)) (.d (.tup (dN ends'))) (.d (.int (kleft os n (bases os n).reverse j (bases os n).length : Nat))) (.k (imD dd)) c13 c14 c15 (.d (.lst (dN l'))) c17 .no) _ _ 0 ⟨_, rfl⟩ ?_ ?_
              · rintro u d _ N7 hd7 ⟨c17, rfl⟩ hN7
                have hu : d.fair ∧ d.isRow n n = false := by
                  have hm' := List.mem_of_getElem? hd7
                  simp only [List.mem_cons, List.not_mem_nil, or_false] at hm'
                  rcases hm' with rfl | rfl | rfl | rfl | rfl | rfl
                  · exact ⟨⟨nofun, nofun, nofun, nofun⟩, rfl⟩
                  · refine ⟨⟨nofun, nofun, nofun, fun xs z => ?_⟩, ?_⟩
                    · cases z
                      refine ⟨by simp; omega, fun y hy => ?_⟩
                      rcases List.mem_append.mp hy with h | h
                      · obtain ⟨_, _, rfl⟩ := List.mem_map.mp h; exact nofun
                      · rw [List.mem_singleton] at h; subst h; exact nofun
                    · simp only [D.isRow, List.length_append, dN_len, List.length_singleton]
                      rw [decide_eq_false (by omega)]; rfl
                  · have sl1 : HT.sIx n 0 (some (1 : Int)) = 1 := by
                      have := HT.sIx_nat n 0 1
                      rw [Nat.min_eq_left n1] at this
                      exact this
                    have cl : (cutD (dN l') (some 1) none).length = n - 1 := by
                      unfold cutD
                      rw [dN_len, l1, sl1, HT.sIx_none]
                      simp [l1]
                    refine ⟨⟨nofun, nofun, nofun, fun xs z => ?_⟩, ?_⟩
                    · cases z
                      refine ⟨by omega, fun y hy => ?_⟩
                      have hy : y ∈ dN l' := by
                        unfold cutD at hy
                        exact List.mem_of_mem_drop (List.mem_of_mem_take hy)
                      obtain ⟨_, _, rfl⟩ := List.mem_map.mp hy
                      exact nofun
                    · simp only [D.isRow, cl]
                      rw [decide_eq_false (by omega)]; rfl
                  · exact ⟨⟨nofun, nofun, nofun, nofun⟩, rfl⟩
                  · refine ⟨⟨nofun, nofun, nofun, fun xs z => ?_⟩, ?_⟩
                    · cases z
                      refine ⟨by simp; omega, fun y hy => ?_⟩
                      rw [List.eq_of_mem_replicate hy]; exact nofun
                    · obtain ⟨w, rfl⟩ : ∃ w, n = w + 1 := ⟨n - 1, by omega⟩
                      simp [D.isRow, List.replicate_succ, D.blw]
                  · exact ⟨rep_fair (by omega) _, row_rep n1 (.inl (by omega))⟩
                simp [-Bool.exists_bool, and_assoc, ex_not, stNr]
                refine num_odd sok hk sy hu.1 hu.2 ?_
                rw [if_pos (by rfl)]
                exact hN7 _ ⟨.d d, rfl⟩
              · rintro _ ⟨c17, rfl⟩
                exact hN _ ⟨c7, _, _, _, _, _, c13, c14, c15, _, c17, rfl⟩
            refine num_go sok hk sy l1 l2 (fun hf => ⟨n, os, l', _, rfl, .inl rfl, n9, hok, l1, l2, _, rfl, ?_⟩) fun hf => ⟨n, os, l', _, rfl, .inl rfl, n9, hok, l1, l2, _, rfl, ?_⟩
            · rw [← hos] at hf
              rw [fitB_iff.mpr hf, if_pos (by rfl)]
              exact next
            · rw [← hos] at hf
              rw [fitB_no.mpr hf, if_pos (by rfl)]
              exact next
      generalize ?k3 = K3 at tail ⊢
      simp [-Bool.exists_bool, and_assoc, ex_not, stNr, -wRepr]
      refine ⟨m, rfl, cp, by omega, fun j hj => ⟨len_ok (by omega), ?_⟩⟩
      have hx : ∃ y : Nat, [D.int 0, D.int ((m : Int) - 1), D.int (j : Nat)][i']? = some (.int (y : Nat)) ∧ y < m := by
        match i', hi3 with
        | 0, _ => exact ⟨0, rfl, cp⟩
        | 1, _ => exact ⟨m - 1, by rw [show ((m - 1 : Nat) : Int) = m - 1 by omega]; rfl, by omega⟩
        | 2, _ => exact ⟨j, rfl, hj⟩
      obtain ⟨y, hy, hym⟩ := hx
      exact ⟨_, hy, tail y hym⟩
    · rintro _ ⟨c7, c8, c9, c10, c11, c12, c13, c14, c15, c16, c17, rfl⟩
      show Tl2 (endD q) _
      subst hT2
      simp [-Bool.exists_bool, and_assoc, ex_not, stNr, -wRepr]
      refine ⟨len_ok (by omega), len_ok (by omega), ?_⟩
      refine forGo_inv (fun i ds => ∃ (c7 c8 c9 c10 c11 c12 c13 c14 c15 c16 c17 : SC), ds = stNr n offs k os m c7 c8 c9 c10 c11 c12 c13 c14 c15 c16 c17 .no) _ _ 0 ⟨c7, c8, c9, c10, c11, c12, c13, c14, c15, c16, c17, rfl⟩ ?_ ?_
      · rintro i d _ N hd ⟨c7, c8, c9, c10, c11, c12, c13, c14, c15, c16, c17, rfl⟩ hN
        have hm' := List.mem_of_getElem? hd
        have hu : d.kind ∧ d.blw (countG (othOps offs k) n) = false := by
          rw [← hos, ← hm]
          simp only [List.mem_cons, List.not_mem_nil, or_false] at hm'
          rcases hm' with rfl | rfl | rfl | rfl | rfl | rfl
          · exact ⟨nofun, by simp [D.blw]⟩
          · exact ⟨nofun, rfl⟩
          · exact ⟨nofun, rfl⟩
          · exact ⟨nofun, rfl⟩
          · exact ⟨nofun, rfl⟩
          · exact ⟨nofun, rfl⟩
        simp [-Bool.exists_bool, and_assoc, ex_not, stNr]
        refine ends_odd sok hk sy hu.1 hu.2 ?_
        simp
        exact hN _ ⟨c7, c8, c9, c10, c11, c12, c13, c14, c15, c16, _, rfl⟩
      · rintro _ ⟨c7, c8, c9, c10, c11, c12, c13, c14, c15, c16, c17, rfl⟩
        exact ⟨rfl, hq⟩
end G78
namespace G78
open PySem PySem.Spec PyProof.Rows L2
def f_law : SpD := fun ds q => ∃ (ns : List Int), ds = [.scr ns] ∧ q (.bl true)
theorem len_law : ∀ ds q, f_law ds q → ds.length = P_law.length := by
  rintro ds q ⟨ns, rfl, _⟩; rfl
noncomputable def stLaw (ns : List Int) (i n : Nat) (offs : List (List Op)) (k : Nat) (os : List Op) (c9 c10 c11 c12 c13 : SC) : DS :=
  { s := [.d (.scr ns), .d (.int i), .bx, .d (.int n), .d (offD offs), .d (stoD n offs), .d (.int k), .d (.lst (os.map Op.D)), .d (.lst (dN (if symB os n = true then bases os n else []))), c9, c10, c11, c12, c13], b0 := false }
theorem p_law {w : World} {K : PySem.W.Frag} {mg : Str → Option Value} {base : Heap} {Z : ZZ} (T : Top w K mg base Z) : ClGP prg w K mg base 15 "law" P_law (spP Z.C K f_law) := by
  have c__law_box := pN__law_box T
  have c__law_some := p__law_some T
  have c__law_others := p__law_others T
  have c__law_bases := p__law_bases T
  have c__law_take := p__law_take T
  have c__law_reach := p__law_reach T
  have c__law_operations_right := p__law_operations_right T
  have c__law_refused := p__law_refused T
  have c__law_numbers_right := p__law_numbers_right T
  have c_given_goals := p_given_goals T
  have c__law_all_right := p__law_all_right T
  have c__law_extended := p__law_extended T
  have nd := sc_law.nd
  refine clPGP_of (k := 14) T.d_law sc_law (by intro kV doc pm an cdv ct us h; match us, h with | [a0], _ => rfl) len_law fun fa cdv A outer s H E hr hgd => ⟨_, (ss_cons (sj_for (passes_of rfl) rfl (ij_range (by rfl) T.m_range ((ej_op op_add ow_i (ej_int).rd ((ej_t1 call_int1 cw_int (by rfl) T.m_int (by decide +kernel) ((ej_cmp op_gt ow_b ((ej_b1 call_len_seq cw_lenR (by rfl) T.m_len PySem.boot_len (r_ 0))).rd (ej_int).rd (nomark _))).rd)).rd)).rd) (g_ 1 nd) (ss_cons (sj_own (as_of (i := 2) nd rfl (by first | exact .inl rfl | exact .inr rfl) (ej_callN c__law_box hr (by decide) (by rfl) (aj_cons (n_ 0) (aj_cons (n_ 1) aj_nil)))))
  (ss_box 2 (ss_cons (sj_asg (ej_callB (i := 2) c__law_some hr (by decide) (by rfl) rfl (by first | exact .inl rfl | exact .inr (.inl rfl) | exact .inr (.inr rfl)) aj_nil) (gj_lst (n := 2) rfl (gjs_cons (g_ 3 nd) (gjs_cons (g_ 4 nd) gjs_nil))))
  (ss_cons (sj_parT (is := [5, 6]) rfl (pgs_cons (pg_ 5 nd) (pgs_cons (pg_ 6 nd) pgs_nil)) (mj_d (ej_make T rfl rfl hr (by decide) (by rfl) (aj_cons (n_ 3) (aj_cons (n_ 4) aj_nil))) (mj_d (ej_callB (i := 2) c__law_take hr (by decide) (by rfl) rfl (by first | exact .inl rfl | exact .inr (.inl rfl) | exact .inr (.inr rfl)) (aj_cons (ej_b1 call_len_seq cw_len (by rfl) T.m_len PySem.boot_len (r_ 4)) aj_nil)) mj_nil)) (by decide))
  (ss_cons (sj_set (as_of (i := 7) nd rfl (by first | exact .inl rfl | exact .inr rfl) (ej_call c__law_others hr (by decide) (by rfl) (aj_cons (n_ 4) (aj_cons (n_ 6) aj_nil)))))
  (ss_cons (sj_set (as_of (i := 8) nd rfl (by first | exact .inl rfl | exact .inr rfl) (ej_call c__law_bases hr (by decide) (by rfl) (aj_cons (ej_call c__law_reach hr (by decide) (by rfl) (aj_cons (n_ 3) (aj_cons (n_ 7) aj_nil))) aj_nil))))
  (ss_cons (sj_for (passes_of rfl) rfl (ij_list ((ej_lst (aj_cons (ej_b1 call_len_seq cw_len (by rfl) T.m_len PySem.boot_len (r_ 4)) (aj_cons (ej_op op_sub ow_i (ej_int).rd (ej_int).rd) (aj_cons ej_non (aj_cons ej_bl (aj_cons ej_str (aj_cons (ej_tup (aj_cons ej_int aj_nil)) aj_nil)))))))).dt) (g_ 9 nd) (ss_one (sj_if (tj_cmp (op_neD hr.units) ow_neD ((ej_lc (own := [("_law_which", 12)]) rfl nd (ij_range (by rfl) T.m_range (ej_int).rd) (blkOk_by (own := [("_law_which", 12)]) (N := N_law) (sc := defScope st_law) (by decide +kernel)) (by decide) (fun _ _ _ _ _ => (g_ 12 nd)) (fun _ _ _ _ _ => ts_nil) (fun _ _ _ _ _ => (ej_call c__law_refused hr (by decide) (by rfl) (aj_cons (n_ 5) (aj_cons (n_ 9) (aj_cons (n_ 12) aj_nil))))))).dt.rd ((ej_op op_rep ow_rep ((ej_lst (aj_cons ej_str aj_nil))).dt.rd (ej_int).rd)).dt.rd (nomark _)) (ss_one (sj_ret ej_bl)) ss_nil)))
  (ss_cons (sj_if (tj_not (tj_val ((ej_callBG (i := 2) c__law_operations_right hgd hr (by decide) (by rfl) rfl (by first | exact .inl rfl | exact .inr (.inl rfl) | exact .inr (.inr rfl)) (aj_cons (n_ 5) (aj_cons (n_ 6) aj_nil)))).rd)) (ss_one (sj_ret ej_bl)) ss_nil)
  (ss_one (sj_if (tj_cmp (op_eqD hr.units) ow_eqD (r_ 8) ((ej_lst aj_nil)).dt.rd (nomark _)) (ss_one (sj_if (tj_cmp (op_neD hr.units) ow_neD ((ej_lc (own := [("_law_which", 12)]) rfl nd (ij_range (by rfl) T.m_range (ej_int).rd) (blkOk_by (own := [("_law_which", 12)]) (N := N_law) (sc := defScope st_law) (by decide +kernel)) (by decide) (fun _ _ _ _ _ => (g_ 12 nd)) (fun _ _ _ _ _ => ts_nil) (fun _ _ _ _ _ => (ej_call c__law_refused hr (by decide) (by rfl) (aj_cons (n_ 5) (aj_cons (n_ 6) (aj_cons (n_ 12) aj_nil))))))).dt.rd ((ej_op op_cat ow_cat ((ej_op op_rep ow_rep ((ej_lst (aj_cons ej_str aj_nil))).dt.rd (ej_int).rd)).dt.rd ((ej_lst (aj_cons ej_non aj_nil))).dt.rd)).dt.rd (nomark _)) (ss_one (sj_ret ej_bl)) ss_nil)) (ss_cons (sj_set ((as_lc (i := 10) (own := [("_law_base", 11)]) rfl nd rfl rfl (sw_true rfl rfl rfl (by decide +kernel)) (ij_list (n_ 8)) (blkOk_by (own := [("_law_base", 11)]) (N := N_law) (sc := defScope st_law) (by decide +kernel)) (by decide) (fun _ _ _ _ _ => (g_ 11 nd)) (fun _ _ _ _ _ => ts_nil) (fun _ _ _ _ _ => (ej_t1 call_tuple_of cw_tuple (by rfl) T.m_tuple (by decide +kernel) ((ej_lc (own := [("_law_goal", 13)]) rfl nd (ij_range (by rfl) T.m_range (r_ 3)) (blkOk_by (own := [("_law_goal", 13)]) (N := N_law) (by kernel_rfl)) (by decide) (fun _ _ _ _ _ => (g_ 13 nd)) (fun _ _ _ _ _ => (ts_one (tj_neE hr (ej_call c__law_extended hr (by decide) (by rfl) (aj_cons (n_ 7) (aj_cons (n_ 11) (aj_cons (n_ 13) aj_nil)))) (nomark _)))) (fun _ _ _ _ _ => (n_ 13)))).dt.rd)))).dt)
  (ss_cons (sj_if (TJW.tj (tj_or (tj_cmp op_ne ow_ne ((ej_b1 (call_reprD hr hgd) cw_repr (by rfl) T.m_repr (by decide +kernel) ((ej_x0 (xj_call c_given_goals hr (by decide) (by rfl) (aj_cons (n_ 5) (aj_cons (n_ 6) aj_nil))))).rd)).rd ((ej_b1 (call_reprD hr hgd) cw_repr (by rfl) T.m_repr (by decide +kernel) ((ej_t1 call_tuple_of cw_tuple (by rfl) T.m_tuple (by decide +kernel) (r_ 10))).rd)).rd (nomark _)) (tj_or1 (tj_cmp op_ne ow_ne ((ej_b1 (call_reprD hr hgd) cw_repr (by rfl) T.m_repr (by decide +kernel) ((ej_callK (k_given_goals T) hr (by decide) (by rfl) (akj_cons (n_ 6) (akj_cons (n_ 5) akj_nil)))).rd)).rd ((ej_b1 (call_reprD hr hgd) cw_repr (by rfl) T.m_repr (by decide +kernel) ((ej_t1 call_tuple_of cw_tuple (by rfl) T.m_tuple (by decide +kernel) (r_ 10))).rd)).rd (nomark _))))) (ss_one (sj_ret ej_bl)) ss_nil)
  (ss_one (sj_if (TJW.tj (tj_or (tj_not (tj_val ((ej_callBG (i := 2) c__law_numbers_right hgd hr (by decide) (by rfl) rfl (by first | exact .inl rfl | exact .inr (.inl rfl) | exact .inr (.inr rfl)) (aj_cons (n_ 5) (aj_cons (n_ 6) (aj_cons (n_ 8) (aj_cons (n_ 10) aj_nil)))))).rd)) (tj_or1 (TJW.tj (tj_and (tj_cmp op_lt ow_b (r_ 3) (ej_int).rd (nomark _)) (tj_and1 (tj_not (tj_val ((ej_callG c__law_all_right hgd hr (by decide) (by rfl) (aj_cons (n_ 5) (aj_cons (n_ 6) (aj_cons (n_ 8) aj_nil))))).rd)))))))) (ss_one (sj_ret ej_bl)) ss_nil)))))))))))))))
  (ss_one (sj_ret ej_bl))), fun ds q hf => ?_⟩
  obtain ⟨ns, rfl, hq⟩ := hf
  simp [-Bool.exists_bool, and_assoc, ex_not]
  obtain ⟨t, ht, ht2⟩ : ∃ t : Nat, ((1 : Int) + if (2 : Int) < ns.length then 1 else 0) = t ∧ t ≤ 2 := by
    split
    · exact ⟨2, rfl, by omega⟩
    · exact ⟨1, rfl, by omega⟩
  refine ⟨t, ht, by omega, ?_⟩
  rw [rgN_dN]
  refine forGo_inv (fun i ds => ∃ (c1 c2 c3 c4 c5 c6 c7 c8 c9 c10 c11 c12 c13 : SC), ds = { s := [.d (.scr ns), c1, c2, c3, c4, c5, c6, c7, c8, c9, c10, c11, c12, c13] }) _ _ 0 ⟨_, _, _, _, _, _, _, _, _, _, _, _, _, rfl⟩ ?_ ?_
  · rintro i d _ N hd ⟨c1, c2, c3, c4, c5, c6, c7, c8, c9, c10, c11, c12, c13, rfl⟩ hN
    rw [dN_get] at hd
    obtain ⟨i', hi', rfl⟩ := Option.map_eq_some_iff.mp hd
    obtain ⟨rfl, hit⟩ := range_at hi'
    change wSeq _ (wBox 2 ?t1) _ _
    generalize hT1 : ?t1 = Tl1
    simp [-Bool.exists_bool, and_assoc, ex_not]
    refine ⟨ns, i', rfl, by omega, by omega, fun x y z => ⟨_, rfl, ⟨x, y, z, rfl⟩, ?_⟩⟩
    have back : ∀ (c1 c3 c4 c5 c6 c7 c8 c9 c10 c11 c12 c13 : SC), ({ nx := fun ds' => N { s := List.map SC.unbx ds'.s, nl := ds'.nl, x := ds'.x }, rt := q } : DE).nx { s := [.d (.scr ns), c1, .bx, c3, c4, c5, c6, c7, c8, c9, c10, c11, c12, c13], b0 := false } := fun c1 c3 c4 c5 c6 c7 c8 c9 c10 c11 c12 c13 => hN _ ⟨_, _, _, _, _, _, _, _, _, _, _, _, _, rfl⟩
    have hKr : ({ nx := fun ds' => N { s := List.map SC.unbx ds'.s, nl := ds'.nl, x := ds'.x }, rt := q } : DE).rt = q := rfl
    generalize ({ nx := fun ds' => N { s := List.map SC.unbx ds'.s, nl := ds'.nl, x := ds'.x }, rt := q } : DE) = KK at back hKr ⊢
    clear hN
    subst hT1
    change wSeq _ ?t2 _ _
    generalize hT2 : ?t2 = Tl2
    simp [-Bool.exists_bool, and_assoc, ex_not]
    refine ⟨rfl, fun n offs ok => ⟨_, rfl, rfl, _, _, rfl, _, _, rfl, rfl, ?_⟩⟩
    have ok' := ok.ok
    have n9 := ok'.n9
    have n1 := ok'.n1
    have m2 := ok'.m2
    have m8 := ok'.m8
    have sok := ok'.sok
    subst hT2
    change wSeq _ (wSeq _ ?t3) _ _
    generalize hT3 : ?t3 = Tl3
    simp [-Bool.exists_bool, and_assoc, ex_not]
    refine ⟨n, rfl, offs, rfl, ok', _, .inr rfl, offs.length, by simp, by omega, by omega, fun k hk => ⟨offs, k, rfl, m8, ok'.few, ?_⟩⟩
    rw [othI_nat]
    obtain ⟨os, hos⟩ : ∃ os, os = othOps offs k := ⟨_, rfl⟩
    have hok : ∀ o ∈ os, o.Ok n := hos ▸ ok'.oth k
    rw [← hos]
    subst hT3
    change wSeq _ ?t4 _ _
    generalize hT4 : ?t4 = Tl4
    simp [-Bool.exists_bool, and_assoc, ex_not]
    refine ⟨n, os, rfl, n1, n9, hok, fun rows hrows => ⟨n, os, rows, rfl, n9, hok, hrows, ?_⟩⟩
    subst hT4
    change wSeq _ ?t5 _ _
    generalize hT5 : ?t5 = Tl5
    simp [-Bool.exists_bool, and_assoc, ex_not]
    refine ⟨_, .inr rfl, len_ok (by omega), len_ok (by omega), ?_⟩
    refine forGo_inv (fun i ds => ∃ (c9 c12 : SC), ds = stLaw ns i' n offs k os c9 c10 c11 c12 c13) _ _ 0 ⟨_, _, rfl⟩ ?_ ?_
    · rintro u d _ N2 hd2 ⟨c9, c12, rfl⟩ hN2
      have hu : d.kind ∧ d.blw offs.length = false := by
        have hm' := List.mem_of_getElem? hd2
        simp only [List.mem_cons, List.not_mem_nil, or_false] at hm'
        rcases hm' with rfl | rfl | rfl | rfl | rfl | rfl
        · exact ⟨nofun, by simp [D.blw]⟩
        · exact ⟨nofun, rfl⟩
        · exact ⟨nofun, rfl⟩
        · exact ⟨nofun, rfl⟩
        · exact ⟨nofun, rfl⟩
        · exact ⟨nofun, rfl⟩
      simp [-Bool.exists_bool, and_assoc, ex_not, stLaw]
      refine ⟨5, rfl, by omega, ?_⟩
      rw [rgN_dN]
      refine lcGo_map (fun _ => .str "office") (by simp) ?_ ?_
      · intro d' hd' acc q' hacc hq'
        obtain ⟨w', hw', rfl⟩ := List.mem_map.mp hd'
        have := List.mem_range.mp hw'
        simp [-Bool.exists_bool, and_assoc, ex_not]
        refine ⟨n, offs, d, w', rfl, sok, hu.1, by omega, ?_⟩
        rw [hu.2]
        exact ⟨hacc, hq'⟩
      · have e : [] ++ (dN (List.range 5)).map (fun _ => D.str "office") = List.replicate 5 (.str "office") := rfl
        have lo : Lay 1 (.lst (List.replicate 5 (D.str "office"))) := .lst _ _ fun x hx => by rw [List.eq_of_mem_replicate hx]; exact .str _ _ (by decide +kernel)
        rw [e]
        refine ⟨len_ok (by omega), 5, rfl, by omega, lo.ok, lo.ok, ?_⟩
        rw [if_pos lo.eqv]
        exact hN2 _ ⟨_, _, rfl⟩
    · rintro _ ⟨c9, c12, rfl⟩
      show Tl5 KK _
      subst hT5
      change wSeq _ ?t6 _ _
      generalize hT6 : ?t6 = Tl6
      simp [-Bool.exists_bool, and_assoc, ex_not, stLaw]
      refine ⟨n, offs, k, rfl, ok, hk, _, rfl, ?_⟩
      rw [if_pos rfl]
      subst hT6
      simp [-Bool.exists_bool, and_assoc, ex_not, -wRepr]
      have hkb := nat_blw hk
      cases hsy : symB os n with
      | false =>
        rw [if_neg (show ¬ (false = true) by decide)]
        refine ⟨nil_ok, nil_ok, ?_⟩
        rw [if_pos (by rw [show dN [] = [] from rfl, eqv_nil]; rfl)]
        refine ⟨5, rfl, by omega, ?_⟩
        rw [rgN_dN]
        refine lcGo_map (fun d => if d.nat = 4 then .non else .str "refused oneway") (by simp) ?_ ?_
        · intro d' hd' acc q' hacc hq'
          obtain ⟨w', hw', rfl⟩ := List.mem_map.mp hd'
          have := List.mem_range.mp hw'
          have hq' : q' (acc ++ [if w' = 4 then D.non else .str "refused oneway"]) := hq'
          simp [-Bool.exists_bool, and_assoc, ex_not]
          refine ⟨n, offs, .int k, w', rfl, sok, kind_int _, by omega, ?_⟩
          rw [hkb, show (D.int (k : Nat)).nat = k from rfl, ← hos, hsy]
          simp only [if_true]
          split
          · rename_i h4
            rw [if_pos h4] at hq'
            exact ⟨hacc, hq'⟩
          · rename_i h4
            rw [if_neg h4] at hq'
            exact ⟨trivial, hacc, hq'⟩
        · have e : [] ++ (dN (List.range 5)).map (fun d => if d.nat = 4 then D.non else .str "refused oneway") = List.replicate 4 (.str "refused oneway") ++ [.non] := rfl
          have lo : Lay 1 (.lst (List.replicate 4 (D.str "refused oneway") ++ [.non])) := .lst _ _ fun x hx => by
            rcases List.mem_append.mp hx with h | h
            · rw [List.eq_of_mem_replicate h]; exact .str _ _ (by decide +kernel)
            · rw [List.mem_singleton] at h; subst h; exact .non _
          rw [e]
          refine ⟨len_ok (by omega), 4, rfl, by omega, len_ok (by omega), len_ok (by omega), lo.ok, lo.ok, ?_⟩
          rw [if_pos lo.eqv]
          exact back _ _ _ _ _ _ _ _ _ _ _ _
      | true =>
        have sy : Sym os n := symB_iff.mp hsy
        have hbl := bases_len os n
        rw [if_pos (show true = true from rfl)]
        refine ⟨(Lay.dNL 0 _).ok, nil_ok, ?_⟩
        rw [if_neg (by
          rw [eqv_nil, List.isEmpty_iff]
          intro h
          have h2 := congrArg List.length h
          rw [dN_len] at h2
          exact bases_ne n1 (List.eq_nil_of_length_eq_zero h2))]
        refine lcGo_map (fun d => .tup (dN (goals os n d.nat))) (by simp; omega) ?_ ?_
        · intro d' hd' acc q' hacc hq'
          obtain ⟨b, hb, rfl⟩ := List.mem_map.mp hd'
          have hbn := bases_lt hb
          have hq' : q' (acc ++ [.tup (dN (goals os n b))]) := hq'
          simp [-Bool.exists_bool, and_assoc, ex_not]
          refine ⟨n, rfl, by omega, ?_⟩
          rw [rgN_dN]
          refine lcGo_filter (fun d => if goodB os b d.nat = true then some d else none) (by simp; omega) ?_ ?_
          · intro d2 hd2 acc2 q2 hacc2 hq2
            obtain ⟨g, hg, rfl⟩ := List.mem_map.mp hd2
            have hgn := List.mem_range.mp hg
            have hq2 : q2 (acc2 ++ (if goodB os b g = true then some (D.int (g : Nat)) else none).toList) := hq2
            simp [-Bool.exists_bool, and_assoc, ex_not]
            refine ⟨n, b, g, os, rfl, hok, n9, hbn, hgn, fun gd im him => ⟨_, rfl, ?_⟩, fun gd => ⟨_, rfl, ?_⟩⟩
            · rw [if_neg (fun h => by
                have h1 := (him.mem b g).mpr .base
                cases im with
                | nil => cases h1
                | cons _ _ => cases h)]
              rw [if_pos (goodB_iff.mpr gd)] at hq2
              exact ⟨hacc2, hq2⟩
            · rw [if_pos rfl]
              rw [if_neg (fun h => gd (goodB_iff.mp h))] at hq2
              simpa using hq2
          · rw [List.nil_append, dN_filter (goodB os b)]
            exact ⟨hacc, hq'⟩
        · have e : [] ++ (dN (bases os n)).map (fun d => D.tup (dN (goals os n d.nat))) = goalsD os n := by
            unfold goalsD dN; rw [List.nil_append, List.map_map]; rfl
          rw [e]
          have rg : Rp 2 (9 * (9 * 41 + 1)) (.tup (goalsD os n)) := by
            refine Rp.tup (k := 1) (W := 9 * 41) (fun x hx => ?_) (by unfold goalsD; simp; omega)
            obtain ⟨b, _, rfl⟩ := List.mem_map.mp hx
            exact Rp.tup (k := 0) (W := 40) (Rp.dN fun y hy => by have := (mem_goals.mp hy).1; omega) (by have := goals_len os n b; simp; omega)
          have gg : ∀ {q : D → Prop} {x : Nat → Str → Prop}, q (.tup (goalsD os n)) → f_given_goals [stoD n offs, .int k] q x := fun {q x} h => by
            refine ⟨n, offs, .int k, rfl, sok, kind_int _, ?_⟩
            rw [hkb, show (D.int (k : Nat)).nat = k from rfl, ← hos, hsy]
            exact h
          refine gg (rg.repr ⟨nofun, fun _ => nofun⟩ (rg.repr ⟨nofun, fun _ => nofun⟩ ⟨_, rfl, _, rfl, rfl, ?_⟩))
          rw [if_pos rfl]
          refine gg (rg.repr ⟨nofun, fun _ => nofun⟩ (rg.repr ⟨nofun, fun _ => nofun⟩ ⟨_, rfl, _, rfl, rfl, ?_⟩))
          rw [if_pos rfl]
          refine ⟨n, offs, k, by rw [hos], ok', hk, hos ▸ sy, true, rfl, ?_⟩
          rw [if_pos rfl]
          split
          · refine ⟨n, offs, k, by rw [hos], ok', by omega, hk, hos ▸ sy, true, rfl, ?_⟩
            rw [if_pos rfl]
            exact back _ _ _ _ _ _ _ _ _ _ _ _
          · exact back _ _ _ _ _ _ _ _ _ _ _ _
  · rintro _ ⟨c1, c2, c3, c4, c5, c6, c7, c8, c9, c10, c11, c12, c13, rfl⟩
    exact ⟨rfl, hq⟩
end G78
namespace G78
open PySem PySem.Spec PyProof.Rows L2
theorem xt_xf {K : PySem.W.Frag} {cn qual : Str} (h : xtB K cn qual = true) : xfB K (He.ga K cn) = true := (He.ba (He.ba (He.ba (He.ba h).2).2).2).1
theorem cellB_ok {K : PySem.W.Frag} {cc C : Addr} (h : cellB K cc C = true) : ∃ cl cld csl, K.lookup cc = some ⟨cl, cld, .cell (some (.ref C)), csl⟩ := by
  unfold cellB at h
  split at h
  · rename_i q
    have e := of_decide_eq_true h
    subst e
    exact ⟨_, _, _, q⟩
  · cases h
theorem codeB_ok {K : PySem.W.Frag} {ca : Addr} (h : codeB K ca = true) : ∃ ccl cdd vs ccs file tf, K.lookup ca = some ⟨ccl, cdd, .fields vs, ccs⟩ ∧ vs[2]? = some (.str file tf) ∧ ((prg.main.file : Str) == file) = true := by
  unfold codeB at h
  split at h
  · rename_i q
    split at h
    · rename_i q2
      exact ⟨_, _, _, _, _, _, q, q2, h⟩
    · cases h
  · cases h
theorem xtC_ok {K : PySem.W.Frag} {C : Addr} (h : xtC K C = true) : ∃ nm q N bs bm sn sub ab col dd k0 k1 k2 k3 k5, K.lookup C = some (PySem.excClassObj nm q C N bs bm true sn sub ab col dd k0 k1 k2 k3 k5 "ValueError.__new__") ∧ HandSPX.refsVE bm = true ∧
    PySem.W.alongIn K "__init__" (((Value.ref C :: bm).dropWhile (· != .ref C)).drop 1) = some (some (.builtin "ValueError.__init__")) := by
  unfold xtC at h
  split at h
  · rename_i dd cd sl ho
    split at h
    · rename_i C' bm k0 k1 k2 k3 n k5 hm hs
      obtain ⟨e1, h⟩ := He.ba h
      obtain ⟨e2, h⟩ := He.ba h
      obtain ⟨e3, h⟩ := He.ba h
      obtain ⟨e4, h⟩ := He.ba h
      obtain ⟨e5, e6⟩ := He.ba h
      have e1 := of_decide_eq_true e1
      have e2 := of_decide_eq_true e2
      have e6 := He.eqO_ok e6
      obtain ⟨nm, bs, mro, ns, qn, hd, sn, sub, ab, col, del⟩ := cd
      dsimp only at hm e3 e4
      subst hm e1 e2 e4
      have e3 : del = false := by cases del <;> simp_all
      subst e3
      have hsl : sl = #[k0, k1, k2, k3, some (.builtin "ValueError.__new__"), k5] := by
        obtain ⟨l⟩ := sl
        simp only at hs
        rw [hs]
      subst hsl
      exact ⟨nm, qn, ns, bs, bm, sn, sub, ab, col, dd, k0, k1, k2, k3, k5, ho, e5, e6⟩
    · cases h
  · cases h
theorem xtxt_ok {K : PySem.W.Frag} {h : Heap} {mg : Str → Option Value} {cn qual msg : Str} {st : Stmt} (X : K.In h) (G : h.Ns mainGlobals mg) (g : (He.Fa.glo cn).ok K = true) (sp : (He.Fa.free "super").ok K = true)
    (b : xtB K cn qual = true) (ob : xtO K cn = xtV qual st) (tp : (prg.main.scope.names.lookup ("super" : Str)).isSome = false) (hS : defScope st = xS)
    (hA : ∃ p1 p2, defArgs st = xA p1 p2) (hB : ∃ q1 q2 q3 q4 q5 q6 q7 q8 q9 q10 j, defBody st = xB msg q1 q2 q3 q4 q5 q6 q7 q8 q9 q10 j ∧ (q3.endLine == q5.line) = true) : ∃ fI cc ca, XTxt prg K mg cn (He.ga K cn) fI cc ca := by
  obtain ⟨bF, b⟩ := He.ba b
  obtain ⟨bC, b⟩ := He.ba b
  obtain ⟨b1, b⟩ := He.ba b
  obtain ⟨b2, b⟩ := He.ba b
  obtain ⟨b3, b⟩ := He.ba b
  obtain ⟨b4, b⟩ := He.ba b
  obtain ⟨b5, b⟩ := He.ba b
  obtain ⟨b6, b⟩ := He.ba b
  obtain ⟨b7, b⟩ := He.ba b
  obtain ⟨b8, b⟩ := He.ba b
  obtain ⟨b9, b10⟩ := He.ba b
  have xf := xfB_ok b2
  unfold xtF at bF
  unfold xtO xtV at ob
  cases q : K.lookup (He.ma K (He.ga K cn) "__init__") with
  | none => rw [q] at bF; cases bF
  | some o =>
    obtain ⟨oc, od, dt, osl⟩ := o
    rw [q] at bF ob
    cases dt with
    | func fd =>
      obtain ⟨n1, n2, n3, n4, n5, n6, n7, n8, n9, n10, n11, n12, n13, n14, n15⟩ := fd
      have ob : (some (n1, n2, n3, n4, n5, n6, n15) : XtO) = some (("__init__" : Str), qual, defArgs st, FuncBody.stmts (defBody st), defScope st, mainGlobals, builtinsNs) := ob
      simp only [Option.some.injEq, Prod.mk.injEq] at ob
      obtain ⟨h1, h2, h3, h4, h5, h6, h7⟩ := ob
      subst h1 h2 h3 h4 h5 h6 h7
      dsimp only at bF
      split at bF
      · rename_i x cc ca
        obtain ⟨c1, bF⟩ := He.ba bF
        obtain ⟨c2, bF⟩ := He.ba bF
        obtain ⟨c3, c4⟩ := He.ba bF
        have c1 := of_decide_eq_true c1
        subst c1
        obtain ⟨p1, p2, hA⟩ := hA
        obtain ⟨q1, q2, q3, q4, q5, q6, q7, q8, q9, q10, j, hB, hl⟩ := hB
        rw [hA, hB, hS] at q
        exact ⟨He.ma K (He.ga K cn) "__init__", cc, ca, ⟨He.glo_ok X G g, He.free_ok X G sp, xtC_ok bC, He.eqO_ok b1, xf.ga, xf.gg, He.eqO_ok b3, He.eqO_ok b4, of_decide_eq_true b5, b6, xf.exC, of_decide_eq_true b7, of_decide_eq_true b8, xf.hdC, of_decide_eq_true b9, He.eqO_ok b10,
          cellB_ok c3, codeB_ok c4, ⟨_, msg, oc, od, _, _, _, _, osl, p1, p2, q1, q2, q3, q4, q5, q6, q7, q8, q9, q10, j, q, c2, hl⟩, tp⟩⟩
      · cases bF
    | _ => cases bF
theorem hcon_int {K : PySem.W.Frag} {h : Heap} {mg : Str → Option Value} {x : Str} {i : Int} (X : K.In h) (G : h.Ns mainGlobals mg) (c : (He.Fa.int x i).ok K = true) : ∃ u, mg x = some u ∧ RelV (.int i) u := by
  obtain ⟨t, e⟩ := He.int_ok X G c
  exact ⟨_, e, t, rfl⟩
theorem hcon_str {K : PySem.W.Frag} {h : Heap} {mg : Str → Option Value} {x z : Str} (X : K.In h) (G : h.Ns mainGlobals mg) (c : (He.Fa.str x z).ok K = true) : ∃ u, mg x = some u ∧ RelV (.str z) u := by
  obtain ⟨t, e⟩ := He.str_ok X G c
  exact ⟨_, e, t, rfl⟩

def clsH (K : PySem.W.Frag) : Nat → Addr
  | 0 => He.ga K "InvalidNumber"
  | _ => He.ga K "Refused"
theorem hdef_ {K : PySem.W.Frag} {h : Heap} {mg : Str → Option Value} {x : Str} {st : Stmt} {dvs : List V} (X : K.In h) (G : h.Ns mainGlobals mg) (c : SaysH K) (i j : Nat) {d : He.DefD} (e : fnH[i]? = some d) (e2 : faH[j]? = some (.glo x))
    (hat : d.at_ = (x, none) := by rfl) (hn : d.name = x := by rfl) (hq : d.qual = x := by rfl) (ha : d.params = defArgs st := by rfl) (hb : d.body = defBody st := by rfl) (hs : d.scope = defScope st := by rfl) (hd : d.dvs K = dvs := by rfl) (hk : d.kws K = [] := by rfl) : Def K mg x st dvs := by
  obtain ⟨fd, F⟩ := c.1.def_ i e
  rw [hat, hn, hq, ha, hb, hs, hd, hk] at F
  exact ⟨_, fd, F, He.glo_ok X G (c.1.fact j e2)⟩

theorem top_of {w : World} {K : PySem.W.Frag} {h base : Heap} {mg : Str → Option Value} {E : XK} (X : K.In h) (G : h.Ns mainGlobals mg) (c : SaysH K) : Top w K mg base ⟨He.ga K "Store", clsH K, E⟩ :=
  {
    d_is_integer := hdef_ X G c 0 0 rfl rfl
    d_is_number := hdef_ X G c 1 1 rfl rfl
    d_is_below := hdef_ X G c 2 2 rfl rfl
    d_is_letter := hdef_ X G c 3 3 rfl rfl
    d_is_name := hdef_ X G c 4 4 rfl rfl
    d_is_row := hdef_ X G c 5 5 rfl rfl
    d_is_listing := hdef_ X G c 6 6 rfl rfl
    d_ends_clash := hdef_ X G c 7 7 rfl rfl
    d_is_told_otherwise := hdef_ X G c 8 8 rfl rfl
    d_answers_clash := hdef_ X G c 9 9 rfl rfl
    d_kinds_at := hdef_ X G c 10 10 rfl rfl
    d_clash_anywhere := hdef_ X G c 11 11 rfl rfl
    d_check_state := hdef_ X G c 12 12 rfl rfl
    d_need_office := hdef_ X G c 13 13 rfl rfl
    d_need_offices := hdef_ X G c 14 14 rfl rfl
    d_operations_of := hdef_ X G c 15 15 rfl rfl
    d_distances := hdef_ X G c 16 16 rfl rfl
    d_reachable := hdef_ X G c 17 17 rfl rfl
    d_all_offices := hdef_ X G c 18 18 rfl rfl
    d_other_offices := hdef_ X G c 19 19 rfl rfl
    d_reach_tables := hdef_ X G c 20 20 rfl rfl
    d_joint_homes := hdef_ X G c 21 21 rfl rfl
    d_lasting_states := hdef_ X G c 22 22 rfl rfl
    d_of_others := hdef_ X G c 23 23 rfl rfl
    d_is_operation := hdef_ X G c 24 24 rfl rfl
    d_check_offices := hdef_ X G c 25 25 rfl rfl
    d_may_be_given := hdef_ X G c 26 26 rfl rfl
    d_carried_home := hdef_ X G c 27 27 rfl rfl
    d_openings := hdef_ X G c 28 28 rfl rfl
    d_given_goals := hdef_ X G c 29 29 rfl rfl
    d_count_given := hdef_ X G c 30 30 rfl rfl
    d_given_ends := hdef_ X G c 31 31 rfl rfl
    d_number_of_given := hdef_ X G c 32 32 rfl rfl
    d__law_box := hdef_ X G c 33 33 rfl rfl
    d__law_take := hdef_ X G c 34 34 rfl rfl
    d__law_pick := hdef_ X G c 35 35 rfl rfl
    d__law_names := hdef_ X G c 36 36 rfl rfl
    d__law_drawn := hdef_ X G c 37 37 rfl rfl
    d__law_renumbered := hdef_ X G c 38 38 rfl rfl
    d__law_table := hdef_ X G c 39 39 rfl rfl
    d__law_steps := hdef_ X G c 40 40 rfl rfl
    d__law_sizes := hdef_ X G c 41 41 rfl rfl
    d__law_around := hdef_ X G c 42 42 rfl rfl
    d__law_reach := hdef_ X G c 43 43 rfl rfl
    d__law_others := hdef_ X G c 44 44 rfl rfl
    d__law_bases := hdef_ X G c 45 45 rfl rfl
    d__law_fits := hdef_ X G c 46 46 rfl rfl
    d__law_extended := hdef_ X G c 47 47 rfl rfl
    d__law_some := hdef_ X G c 48 48 rfl rfl
    d__law_all_ends := hdef_ X G c 49 49 rfl rfl
    d__law_refused := hdef_ X G c 50 50 rfl rfl
    d__law_numbers_right := hdef_ X G c 51 51 rfl rfl
    d__law_all_right := hdef_ X G c 52 52 rfl rfl
    d__law_operations_right := hdef_ X G c 53 53 rfl rfl
    d_law := hdef_ X G c 54 54 rfl rfl
    m_abs := He.free_ok X G (c.1.fact 55 rfl)
    m_all := He.free_ok X G (c.1.fact 56 rfl)
    m_any := He.free_ok X G (c.1.fact 57 rfl)
    m_bool := He.free_ok X G (c.1.fact 58 rfl)
    m_divmod := He.free_ok X G (c.1.fact 59 rfl)
    m_enumerate := He.free_ok X G (c.1.fact 60 rfl)
    m_int := He.free_ok X G (c.1.fact 61 rfl)
    m_isinstance := He.free_ok X G (c.1.fact 62 rfl)
    m_len := He.free_ok X G (c.1.fact 63 rfl)
    m_list := He.free_ok X G (c.1.fact 64 rfl)
    m_max := He.free_ok X G (c.1.fact 65 rfl)
    m_min := He.free_ok X G (c.1.fact 66 rfl)
    m_range := He.free_ok X G (c.1.fact 67 rfl)
    m_repr := He.free_ok X G (c.1.fact 68 rfl)
    m_set := He.free_ok X G (c.1.fact 69 rfl)
    m_sorted := He.free_ok X G (c.1.fact 70 rfl)
    m_str := He.free_ok X G (c.1.fact 71 rfl)
    m_sum := He.free_ok X G (c.1.fact 72 rfl)
    m_tuple := He.free_ok X G (c.1.fact 73 rfl)
    c_LETTERS := hcon_str X G (c.1.fact 74 rfl)
    c_LONGEST_NAME := hcon_int X G (c.1.fact 75 rfl)
    c_MOST_ANSWER := hcon_int X G (c.1.fact 76 rfl)
    c_ENDS := hcon_str X G (c.1.fact 77 rfl)
    c_ANSWERS := hcon_str X G (c.1.fact 78 rfl)
    c_MOST_STATES := hcon_int X G (c.1.fact 79 rfl)
    c_LEAST_OFFICES := hcon_int X G (c.1.fact 80 rfl)
    c_MOST_OFFICES := hcon_int X G (c.1.fact 81 rfl)
    c_MOST_OPERATIONS := hcon_int X G (c.1.fact 82 rfl)
    sto := ⟨He.cls_ok (c.1.fact 84 rfl), He.noat_ok (c.1.fact 85 rfl), He.noat_ok (c.1.fact 86 rfl)⟩
    mgS := He.glo_ok X G (c.1.fact 83 rfl)
    mkS := by
      obtain ⟨fd, F⟩ := c.1.def_ 55 (d := hd_Store_init) rfl
      exact ⟨_, fd, F, He.mkr_ok (c.1.fact 87 rfl)⟩
    ofS := by
      obtain ⟨fd, F⟩ := c.1.def_ 56 (d := hd_Store_office_of) rfl
      exact ⟨_, fd, F, He.meth_ok (c.1.fact 88 rfl)⟩
    xN := xtxt_ok (cn := "InvalidNumber") (qual := "InvalidNumber.__init__") (msg := "invalid number") (st := st_InvalidNumber) X G (c.1.fact 89 rfl) (c.1.fact 91 rfl) c.2.1 c.2.2.2.1 (by kernel_rfl) rfl ⟨_, _, rfl⟩ ⟨_, _, _, _, _, _, _, _, _, _, _, rfl, by decide +kernel⟩
    xR := xtxt_ok (cn := "Refused") (qual := "Refused.__init__") (msg := "refused") (st := st_Refused) X G (c.1.fact 90 rfl) (c.1.fact 91 rfl) c.2.2.1 c.2.2.2.2 (by kernel_rfl) rfl ⟨_, _, rfl⟩ ⟨_, _, _, _, _, _, _, _, _, _, _, rfl, by decide +kernel⟩
    fN := xfB_ok (xt_xf c.2.1)
    fR := xfB_ok (xt_xf c.2.2.1)
    eNN := He.exm_ok (c.1.fact 94 rfl)
    eRN := He.exm_ok (c.1.fact 95 rfl)
    eRR := He.exm_ok (c.1.fact 96 rfl)
    gN := He.glo_ok X G (c.1.fact 89 rfl)
    gR := He.glo_ok X G (c.1.fact 90 rfl)
    wN := He.noat_ok (c.1.fact 92 rfl)
    wR := He.noat_ok (c.1.fact 93 rfl)
  }
end G78
namespace G78
open PySem PySem.Spec PyProof.Rows L2
theorem factsW {w : World} {K : PySem.W.Frag} {h : Heap} {mg : Str → Option Value} {fa : Addr} (X : K.In h) (G : h.Ns mainGlobals mg) (hfa : mg ("law" : Str) = some (.ref fa)) (c : SaysH K) :
    ∃ fd : FuncData, (∀ (s : Shared) (v : Value), BindsTo s fd ⟨[v], []⟩ [("_law_script", v)]) ∧ ∀ base : Heap, K.In base → base.Ns mainGlobals mg → FnG prg w K mg base (L2.CX prg w) 15 fa fd ["_law_script"] (spP (He.ga K "Store") K f_law) := by
  have T0 : Top w K mg h ⟨He.ga K "Store", clsH K, fun _ _ _ => False⟩ := top_of X G c
  obtain ⟨f, fd, F, hm⟩ := T0.d_law
  rw [hfa] at hm
  cases hm
  have b := FunD.bindsA (ps := ["_law_script"]) F fun _ _ _ _ _ _ us hl => match us, hl with | [_], _ => rfl
  obtain ⟨oc, od, osl, lk⟩ := lkF F
  refine ⟨fd, fun s v => b s [v] rfl, fun base _ _ => ?_⟩
  have T : Top w K mg base ⟨He.ga K "Store", clsH K, fun _ _ _ => False⟩ := top_of X G c
  obtain ⟨f', fd', F', hm', oc', od', osl', lk'⟩ := (p_law T).ex
  rw [hfa] at hm'
  cases hm'
  rw [lk] at lk'
  cases lk'
  exact F'
theorem wishW {K : PySem.W.Frag} {C : Addr} {H : Hp} {a : Addr} {ns : List Int} (hO : Only H) (hS : SqL K H a (ns.map V.int)) : spP C K f_law [.ref a] H (fun v _ => v = .bl true) fun _ _ _ => False := by
  have e : era H (fun _ => False) = H := by
    funext b
    unfold era
    rw [if_neg (fun h => h)]
  refine ⟨fun _ => False, [.scr ns], fun d => d = .bl true, fun _ h => h.elim, .cons (.scr (by rw [e]; exact hS)) .nil, fun b o kvs hb => ?_, ⟨ns, rfl, rfl⟩, fun v H' d _ _ rv hd => ?_⟩
  · rcases hO b with z | ⟨ob, xs, z⟩
    · rw [z] at hb; cases hb
    · rw [z] at hb; cases hb
  · subst hd
    cases rv
    rfl
end G78
open PySem PySem.W PySem.Calls PyProof.Rows
theorem PySem.Challenge.cw_sharedunseen_k78_whole_what_may_be_given_holds : PySem.Challenge.rw_sharedunseen_k78_whole_what_may_be_given.Holds := by
  w_on; o_law
  refine HandSHeadRun.head_any (r := OpenLaw.row PySem.Challenge.rw_sharedunseen_k78_whole_what_may_be_given) (q := view (OpenLaw.row PySem.Challenge.rw_sharedunseen_k78_whole_what_may_be_given).prog [78]) (H := G78.hookH 5) (ob := G78.obW) (M := 4000) (loose := G78.namesW) (d := HandSHeadRun.topDef (OpenLaw.row PySem.Challenge.rw_sharedunseen_k78_whole_what_may_be_given).prog 78) (kwd := []) G78.obW_eq
    (by kernel_rfl) (fun s => by kernel_rfl) G78.runW (by kernel_rfl) (by kernel_rfl) (by kernel_rfl) (by rfl) (by first | assumption | decide +kernel) (by decide +kernel) ⟨rfl, rfl, rfl, rfl, rfl, by decide +kernel⟩ ?hw ?hc
  case hw => w_witness2
  case hc =>
    refine G78.walk_ofG (l := PySem.Challenge.rw_sharedunseen_k78_whole_what_may_be_given) (n := 63) (k := 15) (x := "_law_script") (CX := fun w => L2.CX G78.prg w) rfl (by decide) (by kernel_rfl) ⟨rfl, by decide, by decide⟩ ?F ?N
    case F =>
      intro w mg fa h Y G hmg0
      obtain ⟨K, KX, c⟩ := Y
      have hmg : mg ("law" : PySem.Str) = some (.ref fa) := by
        have e : (HandSHeadRun.topDef (OpenLaw.row PySem.Challenge.rw_sharedunseen_k78_whole_what_may_be_given).prog 78).name = ("law" : PySem.Str) := by kernel_rfl
        rw [← e]
        exact hmg0
      obtain ⟨fd, hb, hF⟩ := G78.factsW (w := w) KX G hmg c
      exact ⟨K, fd, _, KX, hb, fun H a ns _ hO hS => G78.wishW hO hS, hF⟩
    case N =>
      rintro w H s e s' ⟨_, _, _, _, _, _, _, _, _, _, _, _, z⟩
      exact z
