import PyProof.Rows.All
import Wide.All
import OpenK.AllK
import Wide.FinOn
import KE.KStateDown
import HandS.Walk
import HandS.ForMost
import HandS.Exc
import HandS.TryOnly
import HandS.ExcOwn
import HandS.WordsExc
import HandS.Defaults
import HandS.More
import HandS.Style
import HandS.Strs
import HandS.Conv
import HandS.TupAny
import HandS.IsInst
import HandS.Deep
import HandS.DictComp
import HandS.SortInts
import HandS.Flow
import HandS.Wide
import KE.KExcIs
import KE.KExcSuper
import HandS.Head0
import HandS.Head1
import HandS.Head2
import HandS.HeadEnd
import HandS.HeadHook1
import HandS.HeadHook2
import PySem.Challenge.RW_fieldrides_k56_whole_raises
set_option Elab.async false
set_option linter.all false
set_option maxRecDepth 100000
set_option maxHeartbeats 0
namespace K56
open PySem PySem.Spec PyProof.Rows L2
def top (i : Nat) : Stmt := PySem.Challenge.pw_fieldrides_k56_whole_raises.main.body.getD i (.Pass ⟨0, 0, 0, 0⟩)
end K56
namespace K56
open PySem PySem.Spec PyProof.Rows L2
/-! ### the head -/
def d_better : He.DefD := ⟨("better", none), "better", "better", defArgs (top 17), defBody (top 17), defScope (top 17), [], []⟩
def d_raised : He.DefD := ⟨("raised", none), "raised", "raised", defArgs (top 18), defBody (top 18), defScope (top 18), [], []⟩
def d_path_of : He.DefD := ⟨("path_of", none), "path_of", "path_of", defArgs (top 19), defBody (top 19), defScope (top 19), [], []⟩
def d_first_unlike_on : He.DefD := ⟨("first_unlike_on", none), "first_unlike_on", "first_unlike_on", defArgs (top 20), defBody (top 20), defScope (top 20), [], []⟩
def d_merged_record : He.DefD := ⟨("merged_record", none), "merged_record", "merged_record", defArgs (top 21), defBody (top 21), defScope (top 21), [], []⟩
def d_check_record : He.DefD := ⟨("check_record", none), "check_record", "check_record", defArgs (top 22), defBody (top 22), defScope (top 22), [], []⟩
def d_check_place : He.DefD := ⟨("check_place", none), "check_place", "check_place", defArgs (top 23), defBody (top 23), defScope (top 23), [], []⟩
def d_check_places : He.DefD := ⟨("check_places", none), "check_places", "check_places", defArgs (top 24), defBody (top 24), defScope (top 24), [], []⟩
def d_check_fair : He.DefD := ⟨("check_fair", none), "check_fair", "check_fair", defArgs (top 25), defBody (top 25), defScope (top 25), [], []⟩
def d_check_write : He.DefD := ⟨("check_write", none), "check_write", "check_write", defArgs (top 27), defBody (top 27), defScope (top 27), [], []⟩
def d_with_values : He.DefD := ⟨("with_values", none), "with_values", "with_values", defArgs (top 28), defBody (top 28), defScope (top 28), [], []⟩
def d_fields_above : He.DefD := ⟨("fields_above", none), "fields_above", "fields_above", defArgs (top 29), defBody (top 29), defScope (top 29), [], []⟩
def d_steps_of : He.DefD := ⟨("steps_of", none), "steps_of", "steps_of", defArgs (top 30), defBody (top 30), defScope (top 30), [], []⟩
def d_blocked_in : He.DefD := ⟨("blocked_in", none), "blocked_in", "blocked_in", defArgs (top 31), defBody (top 31), defScope (top 31), [], []⟩
def d_lands : He.DefD := ⟨("lands", none), "lands", "lands", defArgs (top 32), defBody (top 32), defScope (top 32), [], []⟩
def d_free_above : He.DefD := ⟨("free_above", none), "free_above", "free_above", defArgs (top 33), defBody (top 33), defScope (top 33), [], []⟩
def d_raises_at : He.DefD := ⟨("raises_at", none), "raises_at", "raises_at", defArgs (top 34), defBody (top 34), defScope (top 34), [], []⟩
def d_nearest_raises : He.DefD := ⟨("nearest_raises", none), "nearest_raises", "nearest_raises", defArgs (top 35), defBody (top 35), defScope (top 35), [], []⟩
def d_fewest_raises : He.DefD := ⟨("fewest_raises", none), "fewest_raises", "fewest_raises", defArgs (top 36), defBody (top 36), defScope (top 36), [], []⟩
def d_with_raises : He.DefD := ⟨("with_raises", none), "with_raises", "with_raises", defArgs (top 37), defBody (top 37), defScope (top 37), [], []⟩
def d_reach : He.DefD := ⟨("reach", none), "reach", "reach", defArgs (top 38), defBody (top 38), defScope (top 38), [], []⟩
def d_never_ends : He.DefD := ⟨("never_ends", none), "never_ends", "never_ends", defArgs (top 41), defBody (top 41), defScope (top 41), [], []⟩
def d_check_shape : He.DefD := ⟨("check_shape", none), "check_shape", "check_shape", defArgs (top 42), defBody (top 42), defScope (top 42), [], []⟩
def d_l_tape : He.DefD := ⟨("_law_tape", none), "_law_tape", "_law_tape", defArgs (top 45), defBody (top 45), defScope (top 45), [], []⟩
def d_l_take : He.DefD := ⟨("_law_take", none), "_law_take", "_law_take", defArgs (top 46), defBody (top 46), defScope (top 46), [], []⟩
def d_l_value : He.DefD := ⟨("_law_value", none), "_law_value", "_law_value", defArgs (top 47), defBody (top 47), defScope (top 47), [], []⟩
def d_l_record : He.DefD := ⟨("_law_record", none), "_law_record", "_law_record", defArgs (top 48), defBody (top 48), defScope (top 48), [], []⟩
def d_l_turns : He.DefD := ⟨("_law_turns", none), "_law_turns", "_law_turns", defArgs (top 49), defBody (top 49), defScope (top 49), [], []⟩
def d_l_parents : He.DefD := ⟨("_law_parents", none), "_law_parents", "_law_parents", defArgs (top 50), defBody (top 50), defScope (top 50), [], []⟩
def d_l_kinds : He.DefD := ⟨("_law_kinds", none), "_law_kinds", "_law_kinds", defArgs (top 51), defBody (top 51), defScope (top 51), [], []⟩
def d_l_path : He.DefD := ⟨("_law_path", none), "_law_path", "_law_path", defArgs (top 52), defBody (top 52), defScope (top 52), [], []⟩
def d_l_side : He.DefD := ⟨("_law_side", none), "_law_side", "_law_side", defArgs (top 53), defBody (top 53), defScope (top 53), [], []⟩
def d_l_merge : He.DefD := ⟨("_law_merge", none), "_law_merge", "_law_merge", defArgs (top 54), defBody (top 54), defScope (top 54), [], []⟩
def d_l_is_integer : He.DefD := ⟨("_law_is_integer", none), "_law_is_integer", "_law_is_integer", defArgs (top 55), defBody (top 55), defScope (top 55), [], []⟩
def d_l_is_record : He.DefD := ⟨("_law_is_record", none), "_law_is_record", "_law_is_record", defArgs (top 56), defBody (top 56), defScope (top 56), [], []⟩
def d_l_is_ascending : He.DefD := ⟨("_law_is_ascending", none), "_law_is_ascending", "_law_is_ascending", defArgs (top 57), defBody (top 57), defScope (top 57), [], []⟩
def d_l_size : He.DefD := ⟨("_law_size", none), "_law_size", "_law_size", defArgs (top 58), defBody (top 58), defScope (top 58), [], []⟩
def d_l_raised : He.DefD := ⟨("_law_raised", none), "_law_raised", "_law_raised", defArgs (top 59), defBody (top 59), defScope (top 59), [], []⟩
def d_l_no_field : He.DefD := ⟨("_law_no_field", none), "_law_no_field", "_law_no_field", defArgs (top 60), defBody (top 60), defScope (top 60), [], []⟩
def d_l_level : He.DefD := ⟨("_law_level", none), "_law_level", "_law_level", defArgs (top 61), defBody (top 61), defScope (top 61), [], []⟩
def d_l_unfair : He.DefD := ⟨("_law_unfair", none), "_law_unfair", "_law_unfair", defArgs (top 62), defBody (top 62), defScope (top 62), [], []⟩
def d_l_stays : He.DefD := ⟨("_law_stays", none), "_law_stays", "_law_stays", defArgs (top 63), defBody (top 63), defScope (top 63), [], []⟩
def d_l_step : He.DefD := ⟨("_law_step", none), "_law_step", "_law_step", defArgs (top 64), defBody (top 64), defScope (top 64), [], []⟩
def d_l_blocked : He.DefD := ⟨("_law_blocked", none), "_law_blocked", "_law_blocked", defArgs (top 65), defBody (top 65), defScope (top 65), [], []⟩
def d_l_new : He.DefD := ⟨("_law_new", none), "_law_new", "_law_new", defArgs (top 66), defBody (top 66), defScope (top 66), [], []⟩
def d_l_changes : He.DefD := ⟨("_law_changes", none), "_law_changes", "_law_changes", defArgs (top 67), defBody (top 67), defScope (top 67), [], []⟩
def d_l_spoilt : He.DefD := ⟨("_law_spoilt", none), "_law_spoilt", "_law_spoilt", defArgs (top 68), defBody (top 68), defScope (top 68), [], []⟩
def d_l_question : He.DefD := ⟨("_law_question", none), "_law_question", "_law_question", defArgs (top 69), defBody (top 69), defScope (top 69), [], []⟩
def d_l_healed : He.DefD := ⟨("_law_healed", none), "_law_healed", "_law_healed", defArgs (top 70), defBody (top 70), defScope (top 70), [], []⟩
def d_l_refusal : He.DefD := ⟨("_law_refusal", none), "_law_refusal", "_law_refusal", defArgs (top 71), defBody (top 71), defScope (top 71), [], []⟩
def d_l_ask : He.DefD := ⟨("_law_ask", none), "_law_ask", "_law_ask", defArgs (top 72), defBody (top 72), defScope (top 72), [], []⟩
def d_l_is_refusal : He.DefD := ⟨("_law_is_refusal", none), "_law_is_refusal", "_law_is_refusal", defArgs (top 73), defBody (top 73), defScope (top 73), [], []⟩
def d_l_sets : He.DefD := ⟨("_law_sets", none), "_law_sets", "_law_sets", defArgs (top 74), defBody (top 74), defScope (top 74), [], []⟩
def d_l_helps : He.DefD := ⟨("_law_helps", none), "_law_helps", "_law_helps", defArgs (top 75), defBody (top 75), defScope (top 75), [], []⟩
def d_l_reach : He.DefD := ⟨("_law_reach", none), "_law_reach", "_law_reach", defArgs (top 76), defBody (top 76), defScope (top 76), [], []⟩
def d_l_picked : He.DefD := ⟨("_law_picked", none), "_law_picked", "_law_picked", defArgs (top 77), defBody (top 77), defScope (top 77), [], []⟩
def d_l_raises : He.DefD := ⟨("_law_raises", none), "_law_raises", "_law_raises", defArgs (top 78), defBody (top 78), defScope (top 78), [], []⟩
def d_l_least : He.DefD := ⟨("_law_least", none), "_law_least", "_law_least", defArgs (top 79), defBody (top 79), defScope (top 79), [], []⟩
def d_l_landed : He.DefD := ⟨("_law_landed", none), "_law_landed", "_law_landed", defArgs (top 80), defBody (top 80), defScope (top 80), [], []⟩
def d_l_holds : He.DefD := ⟨("_law_holds", none), "_law_holds", "_law_holds", defArgs (top 81), defBody (top 81), defScope (top 81), [], []⟩
def d_l_whole : He.DefD := ⟨("_law_whole", none), "_law_whole", "_law_whole", defArgs (top 82), defBody (top 82), defScope (top 82), [], []⟩
def d_law : He.DefD := ⟨("law", none), "law", "law", defArgs (top 83), defBody (top 83), defScope (top 83), [], []⟩
def d_init : He.DefD := ⟨("Forest", some "__init__"), "__init__", "Forest.__init__", defArgs (inClass (top 43) 0), defBody (inClass (top 43) 0), defScope (inClass (top 43) 0), [], []⟩
def fnL0 : List He.DefD := [d_better, d_raised, d_path_of, d_first_unlike_on, d_merged_record, d_check_record, d_check_place, d_check_places, d_check_fair, d_check_write, d_with_values, d_fields_above, d_steps_of, d_blocked_in, d_lands, d_free_above, d_raises_at, d_nearest_raises, d_fewest_raises, d_with_raises, d_reach, d_never_ends, d_check_shape, d_l_tape, d_l_take, d_l_value, d_l_record, d_l_turns, d_l_parents, d_l_kinds]
def fnL1 : List He.DefD := [d_l_path, d_l_side, d_l_merge, d_l_is_integer, d_l_is_record, d_l_is_ascending, d_l_size, d_l_raised, d_l_no_field, d_l_level, d_l_unfair, d_l_stays, d_l_step, d_l_blocked, d_l_new, d_l_changes, d_l_spoilt, d_l_question, d_l_healed, d_l_refusal, d_l_ask, d_l_is_refusal, d_l_sets, d_l_helps, d_l_reach, d_l_picked, d_l_raises, d_l_least, d_l_landed, d_l_holds]
def fnL2 : List He.DefD := [d_l_whole, d_law, d_init]
def fnL : List He.DefD := fnL0 ++ fnL1 ++ fnL2
def faL0 : List He.Fa := [.glo "better", .glo "raised", .glo "path_of", .glo "first_unlike_on", .glo "merged_record", .glo "check_record", .glo "check_place", .glo "check_places", .glo "check_fair", .glo "check_write", .glo "with_values", .glo "fields_above", .glo "steps_of", .glo "blocked_in", .glo "lands", .glo "free_above", .glo "raises_at", .glo "nearest_raises", .glo "fewest_raises", .glo "with_raises", .glo "reach", .glo "never_ends", .glo "check_shape", .glo "_law_tape", .glo "_law_take", .glo "_law_value", .glo "_law_record", .glo "_law_turns", .glo "_law_parents", .glo "_law_kinds"]
def faL1 : List He.Fa := [.glo "_law_path", .glo "_law_side", .glo "_law_merge", .glo "_law_is_integer", .glo "_law_is_record", .glo "_law_is_ascending", .glo "_law_size", .glo "_law_raised", .glo "_law_no_field", .glo "_law_level", .glo "_law_unfair", .glo "_law_stays", .glo "_law_step", .glo "_law_blocked", .glo "_law_new", .glo "_law_changes", .glo "_law_spoilt", .glo "_law_question", .glo "_law_healed", .glo "_law_refusal", .glo "_law_ask", .glo "_law_is_refusal", .glo "_law_sets", .glo "_law_helps", .glo "_law_reach", .glo "_law_picked", .glo "_law_raises", .glo "_law_least", .glo "_law_landed", .glo "_law_holds"]
def faL2 : List He.Fa := [.glo "_law_whole", .glo "law", .glo "NotFair", .glo "BadRecord", .glo "BadPlace", .glo "CannotLand", .glo "FieldridesError", .glo "Marked", .glo "BadForest", .glo "BadAnswer", .glo "BadLetter", .glo "BadTree", .glo "FieldsDiffer", .glo "HangsOn", .glo "NoRecord", .glo "Overlap", .glo "Forest", .free "len", .free "range", .free "tuple", .free "list", .free "int", .free "abs", .free "sorted", .free "any", .free "min", .free "set", .free "dict", .free "bool", .free "isinstance"]
def faL3 : List He.Fa := [.free "ValueError", .free "super", .int "MOST_FIELDS" 16, .cls "Forest", .noat "Forest" "fields", .noat "Forest" "parents", .noat "Forest" "kinds", .mkr "Forest", .exm "NotFair" "FieldridesError" true, .exm "BadRecord" "FieldridesError" true, .exm "BadPlace" "FieldridesError" true, .exm "CannotLand" "FieldridesError" true]
def faL : List He.Fa := faL0 ++ faL1 ++ faL2 ++ faL3
def looseL0 : List Str := ["_wall", "FieldridesError", "BadRecord", "NoRecord", "BadTree", "BadForest", "NotFair", "CannotLand", "Overlap", "BadLetter", "BadAnswer", "FieldsDiffer", "HangsOn", "BadPlace", "Marked", "better", "raised", "path_of", "first_unlike_on", "merged_record", "check_record", "check_place", "check_places", "check_fair", "check_write", "with_values", "fields_above", "steps_of", "blocked_in", "lands"]
def looseL1 : List Str := ["free_above", "raises_at", "nearest_raises", "fewest_raises", "with_raises", "reach", "MOST_FIELDS", "never_ends", "check_shape", "Forest", "_law_tape", "_law_take", "_law_value", "_law_record", "_law_turns", "_law_parents", "_law_kinds", "_law_path", "_law_side", "_law_merge", "_law_is_integer", "_law_is_record", "_law_is_ascending", "_law_size", "_law_raised", "_law_no_field", "_law_level", "_law_unfair", "_law_stays", "_law_step"]
def looseL2 : List Str := ["_law_blocked", "_law_new", "_law_changes", "_law_spoilt", "_law_question", "_law_healed", "_law_refusal", "_law_ask", "_law_is_refusal", "_law_sets", "_law_helps", "_law_reach", "_law_picked", "_law_raises", "_law_least", "_law_landed", "_law_holds", "_law_whole"]
def looseL : List Str := looseL0 ++ looseL1 ++ looseL2
/-- a class as the raising asks for it -/
def clsB (K : PySem.W.Frag) (C : Addr) : Bool := match K.lookup C with
  | some ⟨.type "type", _, .cls cd, sl⟩ => (match cd.mro, sl.toList with
    | .ref C' :: bm, [_, _, _, _, some (.builtin n), _] => C' == C && n == "ValueError.__new__" && !cd.hasDel && cd.hasDict && PySem.HandSPX.refsVE bm
    | _, _ => false)
  | _ => false
/-- the function that stands as __init__ -/
abbrev IV : Type := Option (Str × Str × Arguments × FuncBody × Scope × Addr × Value × Addr)
def iObs (K : PySem.W.Frag) (x : Str) : IV := match K.lookup (He.ma K (He.ga K x) "__init__") with
  | some ⟨_, _, .func fd, _⟩ => some (fd.name, fd.qualname, fd.params, fd.body, fd.scope, fd.globals, fd.defaults, fd.builtins)
  | _ => none
def iVal (q : Str) (st : Stmt) : IV := some ("__init__", q, defArgs st, .stmts (defBody st), defScope st, mainGlobals, .none, builtinsNs)
def iCell (K : PySem.W.Frag) (x q : Str) : Bool := match K.lookup (He.ma K (He.ga K x) "__init__") with
  | some ⟨_, _, .func fd, _⟩ => (match fd.closure, fd.code with
    | [(nm, cc)], .ref cda => decide (nm = "__class__") && ((match K.lookup cc with
      | some ⟨_, _, .cell (some (.ref C')), _⟩ => C' == He.ga K x
      | _ => false) && (PySem.W.codeIn K (.ref cda) q && (match K.lookup cda with
      | some ⟨_, _, .fields vs, _⟩ => (match vs.toList with
        | _ :: _ :: .str file _ :: _ => PySem.Challenge.pw_fieldrides_k56_whole_raises.main.file == file
        | _ => false)
      | _ => false)))
    | _, _ => false)
  | _ => false
def errB (K : PySem.W.Frag) (x f q : Str) : Bool :=
  clsB K (He.ga K x) && (He.eqO (PySem.W.findIn K (.ref (He.ga K x)) "__setattr__") (some (some (.builtin "object.__setattr__"))) && (He.eqO (PySem.W.findIn K (.ref (He.ga K x)) f) (some none) && (He.eqO (PySem.W.findIn K (.ref (He.ga K x)) "__init__") (some (some (.ref (He.ma K (He.ga K x) "__init__")))) &&
  (decide (PySem.W.typeIn K (.ref (He.ma K (He.ga K x) "__init__")) = some (.type "function")) && (PySem.W.keepIn K (.ref (He.ga K x)) && (decide (PySem.W.subIn K (.ref (He.ga K x)) (.type "BaseException") = some true) && (decide (PySem.W.subIn K (.ref (He.ga K x)) (.type "ValueError") = some true) &&
  (decide (PySem.W.typeIn K (.ref (He.ga K x)) = some (.type "type")) && (decide (PySem.W.mroIn K (He.ga K x) (.ref (He.ga K x)) = some true) && (He.eqO (PySem.W.ks_superIn K (He.ga K x) (He.ga K x) "__init__") (some (some (.builtin "ValueError.__init__"))) && (iCell K x q &&
  (He.eqO (PySem.W.findIn K (.ref (He.ga K x)) "__getattribute__") (some (some (.builtin "BaseException.__getattribute__"))) && (He.eqO (PySem.W.findIn K (.ref (He.ga K x)) "__getattr__") (some none) && (PySem.W.hasDictIn K (He.ga K x) &&
  (He.eqO (PySem.W.findIn K (.ref (He.ga K x)) "__class__") (some (some (.builtin "object.__class__"))) && decide (PySem.W.mroIn K (He.ga K x) (.type "object") = some true))))))))))))))))
def kiB (K : PySem.W.Frag) (x y : Str) (b : Bool) : Bool := decide (PySem.W.kitOne K (.ref (He.ga K x)) (.ref (He.ga K y)) = some b)
def kiB2 (K : PySem.W.Frag) (x : Str) : Bool := decide (PySem.W.kitOne K (.ref (He.ga K x)) (.type "ValueError") = some true) && (kiB K x "Marked" false && (kiB K x "BadForest" false && (decide (PySem.W.kitAny K (.ref (He.ga K x)) [.ref (He.ga K "BadAnswer"), .ref (He.ga K "BadLetter"), .ref (He.ga K "BadTree"), .ref (He.ga K "FieldsDiffer"), .ref (He.ga K "HangsOn"), .ref (He.ga K "NoRecord"), .ref (He.ga K "Overlap")] = some false) &&
  (kiB K x "NotFair" (decide (x = "NotFair")) && (kiB K x "BadRecord" (decide (x = "BadRecord")) && (kiB K x "BadPlace" (decide (x = "BadPlace")) && kiB K x "CannotLand" (decide (x = "CannotLand"))))))))
def exB (K : PySem.W.Frag) : Bool := He.eqO (PySem.W.nsIn K cStatics "thirdparty.any") (some none) && (decide (PySem.W.specialIn K (.builtin "object.__class__") "__get__" = some (some (.builtin "getset_descriptor.__get__"))) && (decide (PySem.W.takesIn K (.builtin "object.__class__") = some true) &&
  (errB K "NotFair" "field" "NotFair.__init__" && (errB K "BadRecord" "record" "BadRecord.__init__" && (errB K "BadPlace" "place" "BadPlace.__init__" && (errB K "CannotLand" "field" "CannotLand.__init__" &&
  (kiB2 K "NotFair" && (kiB2 K "BadRecord" && (kiB2 K "BadPlace" && kiB2 K "CannotLand")))))))))
def ivL : List IV := [iVal "NotFair.__init__" (inClass (top 7) 0), iVal "BadRecord.__init__" (inClass (top 3) 0), iVal "BadPlace.__init__" (inClass (top 14) 0), iVal "CannotLand.__init__" (inClass (top 8) 0)]
/-- what the look at the top takes: the module's names, what they stand for, one step and two on -/
def valsM (g : Addr → Option Obj) (a : Addr) : List Addr := match g a with
  | some o => (match o.data with
    | .dict es _ => es.toList.flatMap fun e => He.refV e.val
    | _ => [])
  | none => []
def subM (g : Addr → Option Obj) (a : Addr) : List Addr := match g a with
  | some o => (match o.data with
    | .func fd => He.refV fd.code ++ fd.closure.map (·.2)
    | .cls cd => cd.ns :: valsM g cd.ns
    | _ => [])
  | none => []
def nextM (g : Addr → Option Obj) (l : List Addr) : List Addr := l.flatMap (subM g)
def addM (g : Addr → Option Obj) (l : List Addr) : List Addr := mainGlobals :: cStatics :: (l ++ (nextM g l ++ nextM g (nextM g l)))
def frM (g : Addr → Option Obj) : PySem.W.Frag := He.frG g (addM g (valsM g mainGlobals))
abbrev AlM : Type := He.AlD × List IV × Bool
structure SaysM (K : PySem.W.Frag) : Prop where
  d : He.SaysD faL fnL K
  i : [iObs K "NotFair", iObs K "BadRecord", iObs K "BadPlace", iObs K "CannotLand"] = ivL
  x : exB K = true
def obK (K : PySem.W.Frag) : AlM := (He.obsD faL fnL K, [iObs K "NotFair", iObs K "BadRecord", iObs K "BadPlace", iObs K "CannotLand"], exB K)
def vaK : AlM := (He.valD fnL, ivL, true)
theorem says_of {K : PySem.W.Frag} (e : obK K = vaK) : SaysM K := ⟨congrArg (fun z : AlM => z.1) e, congrArg (fun z : AlM => z.2.1) e, congrArg (fun z : AlM => z.2.2) e⟩
def hkM : PySem.W.Hook where
  α := AlM
  obs := fun s => obK (frM s.heap.get?)
  val := fun _ => vaK
  says := fun _ h => ∃ K : PySem.W.Frag, K.In h ∧ SaysM K
  of := fun _ _ e => ⟨_, He.frG_in, says_of e⟩
  keeps := fun _ _ _ ⟨K, hK, c⟩ k => ⟨K, PySem.W.Frag.In.keeps hK k, c⟩
def obM (s : PySem.W.SharedT) : AlM := obK (frM (HandSHeadRun.getT s))
theorem obM_eq (s : PySem.W.SharedT) : obM s = hkM.obs s.abs := by
  have e : HandSHeadRun.getT s = s.abs.heap.get? := funext (HandSHeadRun.getT_eq s)
  unfold obM
  rw [e] <;> rfl
abbrev RR : PySem.W.OpenRow := PySem.W.OpenLaw.row PySem.Challenge.rw_fieldrides_k56_whole_raises
theorem runM (w : World) : HandSHeadRun.RunEq RR (PySem.W.view RR.prog [83]) hkM obM 12000 looseL w := by
  intro os
  kernel_rfl
end K56
namespace PySem
namespace Sx
open PySem.W PySem.Calls PyProof.Rows PySem.HandSPX

structure SupTxt (P : Program) (K : Frag) (C fI : Addr) (f : Str) : Prop where
  cls : ∃ nm q N bs bm sn sub ab col dd k0 k1 k2 k3 k5, K.lookup C = some (excClassObj nm q C N bs bm true sn sub ab col dd k0 k1 k2 k3 k5 "ValueError.__new__") ∧ refsVE bm = true
  sa : findIn K (.ref C) "__setattr__" = some (some (.builtin "object.__setattr__"))
  noN : findIn K (.ref C) f = some none
  iC : findIn K (.ref C) "__init__" = some (some (.ref fI))
  tC : typeIn K (.ref fI) = some (.type "function")
  kC : keepIn K (.ref C) = true
  exC : subIn K (.ref C) (.type "BaseException") = some true
  veC : subIn K (.ref C) (.type "ValueError") = some true
  tyC : typeIn K (.ref C) = some (.type "type")
  mro : mroIn K C (.ref C) = some true
  sup : ks_superIn K C C "__init__" = some (some (.builtin "ValueError.__init__"))
  opq : nsIn K cStatics "thirdparty.any" = some none
  top : (P.main.scope.names.lookup ("super" : Str)).isSome = false
  fn : ∃ (qual : Str) (params : Arguments) (body : List Stmt) (scope : Scope) (oc kV doc pm ct ccl cl : Value) (od an cdd cld : Option Addr) (osl ccs csl : Array (Option Value)) (cc cda : Addr) (vs : Array Value) (file : Str) (tf : Tok) (ar : Arg)
      (m : Str) (k : Nat) (q1 q2 q3 q4 q5 q6 q7 q8 q9 q10 : Pos),
    K.lookup fI = some ⟨oc, od, .func (fnX "__init__" qual params body scope [("__class__", cc)] .none kV doc pm an (.ref cda) ct), osl⟩ ∧ codeIn K (.ref cda) qual = true ∧
    body = [.Expr (.Call (.Attribute (.Call (.Name "super" q1) [] [] q2) "__init__" q3) [.Constant (.str m) k q4] [] q5) q6, .Assign [.Attribute (.Name "self" q7) f q8] (.Name f q9) q10] ∧
    (params.posonlyargs ++ params.args).head? = some ar ∧ ar.arg = "self" ∧
    (∀ u v : Value, bindArgs (fnX "__init__" qual params body scope [("__class__", cc)] .none kV doc pm an (.ref cda) ct) ⟨[u, v], []⟩ = (pure [(("self" : Str), u), (f, v)] : Sem (List (Str × Value)))) ∧
    scope.kind = .function ∧ scope.isCoroutine = false ∧ scope.isGenerator = false ∧ (∀ x ∈ scope.names, x.2 ≠ .cell) ∧
    scope.names.lookup ("self" : Str) = some .local ∧ scope.names.lookup f = some .local ∧ scope.names.lookup ("super" : Str) = some .globalImplicit ∧ scope.names.lookup ("__class__" : Str) = some .free ∧
    (f == ("self" : Str)) = false ∧ (f == ("__debug__" : Str)) = false ∧
    K.lookup cc = some ⟨cl, cld, .cell (some (.ref C)), csl⟩ ∧ K.lookup cda = some ⟨ccl, cdd, .fields vs, ccs⟩ ∧ vs[2]? = some (.str file tf) ∧ (P.main.file == file) = true ∧
    (∀ env : Env, swapsWith (.Call (.Attribute (.Call (.Name "super" q1) [] [] q2) "__init__" q3) [.Constant (.str m) k q4] [] q5) none q6.line env = pure false) ∧
    (∃ pl : Env → Sem Bool, ∀ env : Env, eval (.Call (.Attribute (.Call (.Name "super" q1) [] [] q2) "__init__" q3) [.Constant (.str m) k q4] [] q5) env = (do
      let ov ← attributeBase (.Call (.Name "super" q1) [] [] q2) "__init__" env (eval (.Call (.Name "super" q1) [] [] q2) env)
      standAt q3.atName
      let (g, first) ← holding [ov] (getMethod ov "__init__" (pl env))
      callWith q5 g first (backTo q5 (starEach [.Constant (.str m) k q4] env)) [])) ∧
    (∀ env : Env, swapsWith (.Name f q9) (some (.Attribute (.Name "self" q7) f q8)) q10.line env = pure false)

/-- what __init__ leaves of the exception at x -/
structure End1 (h h' : Heap) (x C dx t1 : Addr) (f : Str) (v : Value) : Prop where
  keep : ∀ b o, b ≠ x → h.get? b = some o → h'.get? b = some o
  obj : h'.get? x = some { cls := .ref C, dict := some dx, data := .fields #[.ref t1, .none, .none, .none, .bool false, .none] }
  dbig : h.objs.size ≤ dx
  dne : dx ≠ x
  ns : h'.Ns1 dx (fun y => if y = f then some v else none)
structure Made1 (h h' : Heap) (e C d : Addr) (f : Str) (v : Value) : Prop where
  keep : ∀ b o, h.get? b = some o → h'.get? b = some o
  new : h.objs.size ≤ e
  obj : ∃ oe vs, h'.get? e = some oe ∧ oe.cls = .ref C ∧ oe.dict = some d ∧ oe.data = .fields vs ∧ vs[1]? = some .none
  dbig : h.objs.size ≤ d
  dne : d ≠ e
  ns : h'.Ns1 d (fun y => if y = f then some v else none)
theorem line1 (v : Value) : [v].length ≤ sizeLine := by
  rw [sizeLine_eq]
  exact (by decide : 1 ≤ 16777216)

section
variable {prog : Program} {w : World} {A : Around} {E : Value → Shared → Prop} {R : Result → Shared → Prop} {s : Shared} {K : Frag} {mg mb : Str → Option Value} {C fI : Addr} {f : Str}
/-- the wrapper of ValueError.__init__, bound to x, is called -/
theorem bound_call {h : Heap} {g : Array GenState} {d : Drawn} {t : Nat} {os : OsState} {nm q : Str} {N : Addr} {bs bm : List Value} {sn : List Str} {sub : List Value} {ab : Bool} {col : Option Bool} {dd : Option Addr} {k0 k1 k2 k3 k5 : Option Value}
    {u x t0 : Addr} {rest : List Value} {Q : Value → Shared → Prop}
    (hC : h.get? C = some (excClassObj nm q C N bs bm true sn sub ab col dd k0 k1 k2 k3 k5 "ValueError.__new__")) (he : h.get? x = some (excO C t0)) (hu : h.get? u = some (kxs_mw "ValueError.__init__" x)) (hz : rest.length ≤ sizeLine)
    (hq : ∀ h' t1, (∀ b o, b ≠ x → h.get? b = some o → h'.get? b = some o) → h'.get? x = some (excO C t1) → Q .none ⟨h', g, d, t, os⟩) :
    wpAny (model prog w) A (call (.ref u) rest) Q E ⟨h, g, d, t, os⟩ := by
  refine wpAny_call (codeAny_of_tree ?_)
  show wpAny (model prog w) A.in1 (callAny (.ref u) { pos := rest, kw := [] }) _ _ ⟨h, g, d, t, os⟩
  unfold callAny
  refine wpAny_bind (wpAny_load hu ?_)
  have c1 : (Value.type "method-wrapper" == Value.type "method" || Value.type "method-wrapper" == Value.type "builtin_function_or_method" || Value.type "method-wrapper" == Value.type "method-wrapper") = true := by decide
  simp only [kxs_mw, c1, if_true]
  refine KFB.if_so (by decide) ?_
  refine wpAny_bind (check_bound_init F.excBase_ValueError.toExcCallFacts hC he rfl ?_)
  refine wpAny_bind (wpAny_pure (wpAny_pure ?_))
  refine ⟨plainId_quiet F.excBase_ValueError.init.plain _, codeAny_builtin F.excBase_ValueError.initEntry ?_⟩
  exact exc_init_tree (cls := .ref C) (t0 := t0) (dv := none) (c2 := .none) (c3 := .none) (b4 := .bool false) he hz fun h' a b _ => hq h' h.objs.size a b
end
end Sx
end PySem
namespace PySem
namespace Sx
open PySem.W PySem.Calls PyProof.Rows PySem.HandSPX
section
variable {prog : Program} {w : World} {A : Around} {E : Value → Shared → Prop} {R : Result → Shared → Prop} {s : Shared} {K : Frag} {mg mb : Str → Option Value} {C fI : Addr} {f : Str}
theorem lookup_cons_ne {α : Type} {a b : Str} {v : α} {l : List (Str × α)} (h : (a == b) = false) : List.lookup a ((b, v) :: l) = List.lookup a l := by
  simp [List.lookup, h]
theorem sup_init (T : SupTxt prog K C fI f) {x t0 : Addr} {v : Value} (X : K.In s.heap) (G : s.heap.Ns mainGlobals mg) (gs : mg "super" = none) (B : s.heap.Ns builtinsNs mb) (bs : mb "super" = some (.type "super"))
    (hlim : s.heap.NoLimit) (hx : s.heap.get? x = some (excO C t0)) (hnx : K.lookup x = none) (hroom : A.depth < recursionLimit)
    (hq : ∀ h' tk dx t1, End1 s.heap h' x C dx t1 f v → R (.ok (.ret .none)) { s with heap := h', toks := tk }) :
    codeAny (model prog w) A (.call (.ref fI) ⟨[.ref x, v], []⟩) R s := by
  obtain ⟨qual, params, body, scope, oc, kV, doc, pm, ct, ccl, cl, od, an, cdd, cld, osl, ccs, csl, cc, cda, vs, file, tf, ar, m, k, q1, q2, q3, q4, q5, q6, q7, q8, q9, q10, ho, hcd, rfl, hp, har, bd, sk, sc, sg, hcell, l1, l2, l3, l4, fs, fdb, hcc, hcda, hvs, hfile, hsw, ⟨pl, hev⟩, hsw2⟩ := T.fn
  obtain ⟨nm, q, N, bs', bm, sn, sub, ab, col, dd, k0, k1, k2, k3, k5, hC, hbm⟩ := T.cls
  have hcl : clsIn K C = some { name := nm, bases := bs', mro := .ref C :: bm, ns := N, qualname := q, hasDict := true, slotNames := sn, subclasses := sub, abstract := ab, collection := col, hasDel := false } := by
    unfold clsIn
    rw [hC] <;> rfl
  refine ks_codeAny_call_defAt (fd := fnX "__init__" qual params _ scope [("__class__", cc)] .none kV doc pm an (.ref cda) ct) (binds := [("self", .ref x), (f, v)]) hroom (X _ _ ho) rfl hlim (codeRec_of X hcd) rfl (BindsTo.of_eq (bd _ _)) hcell ?_ (fun h₀ hns hk => ?_) sc sg sk
  · intro y hy
    rcases List.mem_cons.mp hy with rfl | hy
    · exact l1
    · rcases List.mem_cons.mp hy with rfl | hy
      · exact l2
      · cases hy
  · obtain ⟨hp0, g, dr, tk, os⟩ := s
    have X0 : K.In h₀ := X.keeps hk
    have G0 := G.keeps hk
    have B0 := B.keeps hk
    have hx0 := hk _ _ hx
    have mself : (fun y : Str => List.lookup y ([(("self" : Str), Value.ref x), (f, v)] : List (Str × Value)).reverse) "self" = some (.ref x) := by
      show List.lookup ("self" : Str) [(f, v), (("self" : Str), Value.ref x)] = some (.ref x)
      rw [lookup_cons_ne (by rw [Bool.eq_false_iff] at fs ⊢; intro h; exact fs (beq_iff_eq.mpr (beq_iff_eq.mp h).symm))]
      simp [List.lookup]
    have mf : (fun y : Str => List.lookup y ([(("self" : Str), Value.ref x), (f, v)] : List (Str × Value)).reverse) f = some v := by
      show List.lookup f [(f, v), (("self" : Str), Value.ref x)] = some v
      simp [List.lookup]
    have hmr : (Value.ref C :: bm) = (Value.ref C :: bm) := rfl
    have hsz : hp0.objs.size < h₀.objs.size := hns.lt
    refine ks_wpAt_execs_cons (ks_wpAt_Expr_any (ks_wpAt_MethodCall (pl := pl _) ?_ (hev _)) ?hi (hsw _))
    case hi => simp [interactive, callEnv, newEnv, sk]
    refine ks_wpAt_super_base (env := callEnv (fnX "__init__" qual params _ scope [("__class__", cc)] .none kV doc pm an (.ref cda) ct) hp0.objs.size fI) l3 l4 (by decide) rfl (X0 _ _ ho) rfl hp rfl (X0 _ _ hcda) rfl hvs hfile T.top ?_
    refine ks_loadName_global sk l3 (loadGlobal_builtin (env := callEnv (fnX "__init__" qual params _ scope [("__class__", cc)] .none kV doc pm an (.ref cda) ct) hp0.objs.size fI) G0 gs B0 bs ⟨rfl, ?_⟩)
    refine wpAny_loadName_free sk l4 rfl ⟨_, X0 _ _ hcc, rfl⟩ ?_
    rw [har]
    refine wpAny_loadName_local sk l1 hns mself ?_
    refine ks_wpAny_isType_cls (X0 _ _ hC) rfl ⟨rfl, ?_⟩
    refine ks_wpAny_call_super (X0 _ _ hC) rfl hx0 rfl (fun c e => by cases e) (looks_mroIn X0 T.mro) (fun h1 e1 k1 => ?_)
    have X1 : K.In h1 := X0.keeps k1
    have hx1 := k1 _ _ hx0
    have hns1 : h1.Ns hp0.objs.size (fun y : Str => List.lookup y ([(("self" : Str), Value.ref x), (f, v)] : List (Str × Value)).reverse) := by
      obtain ⟨oL, es, ep, hL, r⟩ := hns
      exact ⟨oL, es, ep, k1 _ _ hL, r⟩
    have Ix : InstAt h1 x (excO C t0) C none := ⟨hx1, rfl, rfl, trivial⟩
    have sub1 : Looks (model prog w) h1 (isInstance (.ref x) (.type "ValueError")) true := Ix.type.andThen (looks_subIn X1 T.veC)
    have hsupm : alongIn K "__init__" (((Value.ref C :: bm).dropWhile (· != .ref C)).drop 1) = some (some (.builtin "ValueError.__init__")) := by
      have z := T.sup
      unfold ks_superIn at z
      rw [hcl] at z
      exact z
    refine kxs_getMethod kxs_ValueError e1 (looks_opaque X1 T.opq) (l₀ := Value.ref C :: bm) ?_ rfl X1 hsupm sub1 (ks_ne X1 Ix hcl) (by decide) ?_
    · exact fun A Q E s k q => wpAny_bind ((looks_clsIn X1 hcl) A _ E s k (wpAny_pure q))
    have hu : (h1.push (kxs_mw "ValueError.__init__" x)).get? h1.objs.size = some (kxs_mw "ValueError.__init__" x) := Heap.get?_push_at rfl rfl
    have k2 : ∀ b o, h1.get? b = some o → (h1.push (kxs_mw "ValueError.__init__" x)).get? b = some o := fun b o e => Heap.get?_push_of_some _ e
    show wpAny _ _ (callWith q5 (.ref h1.objs.size) [] ((false, eval (.Constant (.str m) k q4) (callEnv (fnX "__init__" qual params _ scope [("__class__", cc)] .none kV doc pm an (.ref cda) ct) hp0.objs.size fI)) :: []) []) _ _ _
    refine kxs_callWith (i := "ValueError.__init__") (x := x) rfl (evalArgs_plain ?_)
    refine Calls.spliced_cons (Calls.Constant_str (Calls.spliced_nil ?_))
    refine ⟨hu, ?_⟩
    refine bound_call (C := C) (t0 := t0) (k2 _ _ (X1 _ _ hC)) (k2 _ _ hx1) hu (line1 _) fun h3 t1 k3 hx3 => ?_
    have X3 : K.In h3 := fun a o e => k3 a o (fun z => by rw [z, hnx] at e; cases e) (k2 a o (X1 a o e))
    have hxL : x ≠ hp0.objs.size := Nat.ne_of_lt (Heap.lt_size hx)
    have hns3 : h3.Ns hp0.objs.size (fun y : Str => List.lookup y ([(("self" : Str), Value.ref x), (f, v)] : List (Str × Value)).reverse) := by
      obtain ⟨oL, es, ep, hL, r⟩ := hns1
      exact ⟨oL, es, ep, k3 _ _ hxL.symm (k2 _ _ hL), r⟩
    refine wpAt_of_wpAny (wpAny_execs_cons (plainObj_wpAny_Assign_Attribute ?_ (hsw2 _)))
    refine wpAny_Name (wpAny_loadName_local sk l2 hns3 mf ?_) fdb
    refine wpAny_Name (wpAny_loadName_local sk l1 hns3 mself ?_) (by decide)
    refine set_plain X3 (ox := excO C t1) (od := none) ⟨hx3, rfl, rfl, trivial⟩ T.sa ?_
    refine exc_osa X3 hx3 hcl (show refsVE (.ref C :: bm) = true from hbm) rfl T.noN (fun h4 tk4 dx k4 dn dne hx4 hn4 => ?_)
    refine wpAny_execs_nil (hq h4 _ dx t1 ⟨fun b o hb e => k4 b o hb (k3 b o hb (k2 b o (k1 b o (hk b o e)))), hx4, ?_, dne, hn4⟩)
    have sz3 : hp0.objs.size < h3.objs.size := hns3.lt
    exact Nat.le_of_lt (Nat.lt_of_lt_of_le sz3 dn)
theorem sup_made (T : SupTxt prog K C fI f) {v : Value} (X : K.In s.heap) (G : s.heap.Ns mainGlobals mg) (gs : mg "super" = none) (B : s.heap.Ns builtinsNs mb) (bs : mb "super" = some (.type "super"))
    (hlim : s.heap.NoLimit) (hroom : A.depth + 1 < recursionLimit) (hq : ∀ h' tk e d, Made1 s.heap h' e C d f v → R (.ok (.ret (.ref e))) { s with heap := h', toks := tk }) :
    codeAny (model prog w) A (.call (.ref C) ⟨[v], []⟩) R s := by
  obtain ⟨nm, q, N, bs', bm, sn, sub, ab, col, dd, k0, k1, k2, k3, k5, hC, hbm⟩ := T.cls
  obtain ⟨hp, g, dr, tk, os⟩ := s
  have k : ∀ b o, hp.get? b = some o → ((hp.push (kdv_tup [v])).push (excO C hp.objs.size)).get? b = some o := fun b o e => Heap.get?_push_of_some _ (Heap.get?_push_of_some _ e)
  have hget : ((hp.push (kdv_tup [v])).push (excO C hp.objs.size)).get? (hp.objs.size + 1) = some (excO C hp.objs.size) := by heap_get
  have hnx : K.lookup (hp.objs.size + 1) = none := by
    cases e : K.lookup (hp.objs.size + 1) with
    | none => rfl
    | some o => exact absurd (Nat.lt_of_succ_lt (Heap.lt_size (X _ _ e))) (Nat.lt_irrefl _)
  refine call_own F.excBase_ValueError (fun Y => refsVE_contains Y bm hbm) (X _ _ hC) (looks_findIn X T.iC) (fun self => bind_fn X self T.tC) (line1 v) ?_
  refine sup_init (s := ⟨(hp.push (kdv_tup [v])).push (excO C hp.objs.size), g, dr, tk, os⟩) T (X.keeps k) (G.keeps k) gs (B.keeps k) bs (hlim.keeps k) hget hnx ?_ fun h' tk' dx t1 z => ?_
  · exact hroom
  · obtain ⟨k', hx, dn, dne, hns⟩ := z
    have dn1 : hp.objs.size + 1 + 1 ≤ dx := by
      first
        | exact dn
        | (have y := dn; rw [Heap.size_push, Heap.size_push] at y; exact y)
    exact ⟨rfl, hq h' tk' (hp.objs.size + 1) dx ⟨fun b o e => k' b o (Nat.ne_of_lt (Nat.lt_succ_of_lt (Heap.lt_size e))) (k b o e), Nat.le_succ _, ⟨_, _, hx, rfl, rfl, rfl, rfl⟩, Nat.le_trans (Nat.le_trans (Nat.le_succ _) (Nat.le_succ _)) dn1, dne, hns⟩⟩
end
end Sx
end PySem
namespace L2
open PySem PySem.Spec PyProof.Rows
theorem relO_one {v : V} {v' : Value} {g : Str} (r : RelV v v') (f : Str) : RelO (List.lookup f [(g, v)]) (if f = g then some v' else none) := by
  by_cases hw : f = g
  · subst hw
    rw [if_pos rfl]
    have q : List.lookup f [(f, v)] = some v := by simp [List.lookup]
    rw [q]
    exact r
  · rw [if_neg hw]
    have qw : (f == g) = false := by simpa using hw
    have q2 : List.lookup f [(g, v)] = none := by simp [List.lookup, qw]
    rw [q2]
    trivial
/-- an own error: its class stands at C under the name x, its one field is f -/
structure ErrC (P : Program) (K : PySem.W.Frag) (mg : Str → Option Value) (x f : Str) (C : Addr) : Prop where
  gC : mg x = some (.ref C)
  gs : mg "super" = none
  sup : ∃ fI, PySem.Sx.SupTxt P K C fI f
  ga : PySem.W.findIn K (.ref C) "__getattribute__" = some (some (.builtin "BaseException.__getattribute__"))
  gg : PySem.W.findIn K (.ref C) "__getattr__" = some none
  hd : PySem.W.hasDictIn K C = true
  ha : PySem.W.findIn K (.ref C) "__class__" = some (some (.builtin "object.__class__"))
  hn : PySem.W.specialIn K (.builtin "object.__class__") "__get__" = some (some (.builtin "getset_descriptor.__get__"))
  ht : PySem.W.takesIn K (.builtin "object.__class__") = some true
  hm : PySem.W.mroIn K C (.type "object") = some true
section
variable {X : Cx} {C : Addr} {x f : Str}
/-- X(e) -/
def tMkX (C : Addr) (f : Str) (ta : TA) : St → Hp → XK → Prop := fun σ H Q => ta σ H fun vs H1 => ∃ v, vs = [v] ∧ ∀ d, H1 d = none → Q (.ref C) (some d) (upd H1 d (.xd [(f, v)]))
theorem pmk_x {a : Expr} {ta : TA} {p pos : Pos} {k : Nat} (T : ErrC X.prog X.K X.mg x f C) (hr : Room k X.A) (ha : PA X [a] ta) (hg : Gl X x := by rfl) (hdb : (x == ("__debug__" : Str)) = false := by decide)
    (he : starEach (a :: []) X.env = (false, eval a X.env) :: starEach [] X.env := by rfl) (hpl : (backTo pos (starEach [] X.env)).any (·.1) = false := by rfl) :
    PMk X (.Call (.Name x p) [a] [] pos) (tMkX C f ta) := by
  obtain ⟨fI, S⟩ := T.sup
  intro pins s σ H Q I h
  refine wpAny_Call_Name_kw (ld_glob I hg T.gC ?_ hdb)
  refine PySem.W.callWith_K (h₀ := X.base) I.ok.mod.kin S.kC (thn (ha.run pos pins s σ H _ I h) fun us s1 hh => ?_) he hpl
  obtain ⟨vs, H1, I1, r1, v, ev, q1⟩ := hh
  subst ev
  refine ⟨I1.kIn, ?_⟩
  obtain ⟨v', rfl, rv⟩ := vals1 r1
  show wpAny _ _ (call (.ref C) [v']) _ _ _
  have hlim := I1.nolimit
  obtain ⟨mb, B0, hb⟩ := I1.mod.blt
  have B := B0.keeps I1.bk
  have G := I1.mod.glob.keeps I1.bk
  have bs : mb "super" = some (.type "super") := (hb _ (by decide)).trans (by decide +kernel)
  obtain ⟨hp, g, dr, tk, os⟩ := s1
  refine wpAny_call (PySem.Sx.sup_made S I1.kIn G T.gs B bs hlim (by have := hr.dp; omega) fun h' tk' e d M => ?_)
  show MkP X pins σ Q (.ref e) ⟨h', g, dr, tk', os⟩
  obtain ⟨oe, fv, hoe, hc, hd, hdat, h1⟩ := M.obj
  have hns := M.ns
  obtain ⟨G', g1, g2⟩ := restrict h' fun b => decide (b ≠ e)
  have gk : ∀ b, b ≠ e → G'.get? b = h'.get? b := fun b hb => g1 b (decide_eq_true hb)
  have ge : G'.get? e = none := g2 e (by simp)
  have old : ∀ b o, hp.get? b = some o → G'.get? b = some o := fun b o q => (gk b (Nat.ne_of_lt (Nat.lt_of_lt_of_le (Heap.lt_size q) M.new))).trans (M.keep b o q)
  have ob : ObjOk X.prog X.w (upd H1 d (.xd [(f, v)])) G' d (.xd [(f, v)]) := ⟨_, hns.at (fun o q => (gk d M.dne).trans q), fun g => relO_one rv g⟩
  have J : Inv X pins σ (upd H1 d (.xd [(f, v)])) ⟨G', g, dr, tk', os⟩ := I1.laid (t' := tk') old M.dbig ob
  refine ⟨e, oe, fv, ⟨G', g, dr, tk', os⟩, _, .ref C, some d, rfl, J, fun b o q => ?_, ge, hoe, ⟨hc, hd⟩, hdat, h1, ?_, rfl, I1.bare, raises_own S.exC S.tyC, q1 d (I1.hok.fresh M.dbig)⟩
  · by_cases hb : b = e
    · have q' : G'.get? b = some o := q
      rw [hb, ge] at q'
      cases q'
    · exact (gk b hb).symm.trans q
  · rw [upd_ne (Ne.symm M.dne)]
    exact I1.hok.fresh M.new
/-- raise X(e) -/
def tRaiseX (C : Addr) (f : Str) (W : WX) (ta : TA) : TS := fun _ σ H => tMkX C f ta σ H fun cls d H' => W cls d σ H'
theorem ps_raiseX {a : Expr} {ta : TA} {W : WX} {p pos pos2 : Pos} {k : Nat} (T : ErrC X.prog X.K X.mg x f C) (hc : X.calm = true) (hr : Room k X.A) (tk : Takes X W) (ha : PA X [a] ta) (hg : Gl X x := by rfl) (hdb : (x == ("__debug__" : Str)) = false := by decide)
    (he : starEach (a :: []) X.env = (false, eval a X.env) :: starEach [] X.env := by rfl) (hpl : (backTo pos (starEach [] X.env)).any (·.1) = false := by rfl) :
    PS X (.Raise (some (.Call (.Name x p) [a] [] pos)) none pos2) (tRaiseX C f W ta) := ps_raise hc tk (pmk_x T hr ha hg hdb he hpl)
/-- e.g, e the error that the suite holds (at a; its class cls, its dict d): whatever class with a field g it is -/
def tErrF (P : Program) (K : PySem.W.Frag) (mg : Str → Option Value) (a : Addr) (cls : Value) (d : Option Addr) (g : Str) (te : TE) : TE := fun σ H Q => te σ H fun y H1 => y = .ref a ∧ ∃ (x : Str) (C dd : Addr) (v : V), cls = .ref C ∧ ErrC P K mg x g C ∧ d = some dd ∧ H1 dd = some (.xd [(g, v)]) ∧ Q v H1
theorem pe_errF {a : Addr} {oe : Obj} {cls : Value} {d : Option Addr} {pn : List (Addr × Obj)} {e : Expr} {te : TE} {pos : Pos} {g : Str} (hz : Zc cls d oe) (hf : ∃ vs, oe.data = .fields vs) (he : PE (X.suite a ((a, oe) :: pn)) e te)
    (hb : attributeBase e g X.env (eval e X.env) = eval e X.env := by rfl) :
    PE (X.suite a ((a, oe) :: pn)) (.Attribute e g pos) (tErrF X.prog X.K X.mg a cls d g te) := by
  refine ⟨fun pins s σ H Q I h => ?_⟩
  refine attr_of hb (thn (he.run pins s σ H _ I h) fun u s1 hh => ?_)
  obtain ⟨y, H1, I1, rx, ex, x, C, dd, v, ec, T, ed, ea, q⟩ := hh
  subst ex
  obtain rfl : u = Value.ref a := rx
  subst ec
  subst ed
  obtain ⟨fI, S⟩ := T.sup
  obtain ⟨ha, _⟩ := I1.pin (a, oe) (List.mem_append_left _ List.mem_cons_self)
  obtain ⟨vs, hd⟩ := hf
  have hx : ObjOk X.prog X.w H1 s1.heap dd (.xd [(g, v)]) := I1.hok dd _ ea
  obtain ⟨mA, hns, hr⟩ := hx
  obtain ⟨od, ho, hl⟩ := lookIn_ns hns
  have l : List.lookup g [(g, v)] = some v := by simp [List.lookup]
  obtain ⟨u, hu, ru⟩ := RelO.some_of (v := v) (o := mA g) (by rw [← l]; exact hr g)
  have J : PySem.W.InstAt s1.heap a oe C (some od) := ⟨ha, hz.1, by unfold PySem.W.notCls; rw [hd] <;> rfl, by rw [hz.2]; exact ho⟩
  exact HandSPX.exc_get I1.kIn J T.ga T.gg S.exC (PySem.W.findObj_own T.hd S.noN rfl (by rw [hl, hu])) (handed_of ru) ⟨v, H1, I1.tok _, ru, q⟩
/-- isinstance(e, c), e the error that the suite holds; c a class -/
def rIsX (P : Program) (K : PySem.W.Frag) (mg : Str → Option Value) (a : Addr) (cls : Value) (d : Option Addr) : List V → Hp → VK → Prop := fun xs H Q => ∃ (x g : Str) (C dd : Addr) (v : V) (c : V) (cv : Value) (b : Bool), cls = .ref C ∧ ErrC P K mg x g C ∧ d = some dd ∧ H dd = some (.xd [(g, v)]) ∧
  xs = [.ref a, c] ∧ (∀ u, RelV c u → u = cv) ∧ PySem.W.kitOne K (.ref C) cv = some b ∧ Q (.bl b) H
theorem inst_x {a C dd : Addr} {oe : Obj} {g x : Str} {v : V} {pn pins : List (Addr × Obj)} {s : Shared} {σ : St} {H : Hp} (T : ErrC X.prog X.K X.mg x g C) (hz : Zc (.ref C) (some dd) oe) (hf : ∃ vs, oe.data = .fields vs) (I : Inv (X.suite a ((a, oe) :: pn)) pins σ H s) (ea : H dd = some (.xd [(g, v)])) :
    ∃ od, PySem.W.InstAt s.heap a oe C (some od) := by
  obtain ⟨ha, _⟩ := I.pin (a, oe) (List.mem_append_left _ List.mem_cons_self)
  obtain ⟨vs, hd⟩ := hf
  have hx : ObjOk X.prog X.w H s.heap dd (.xd [(g, v)]) := I.hok dd _ ea
  obtain ⟨mA, hns, hr⟩ := hx
  obtain ⟨od, ho, hl⟩ := lookIn_ns hns
  exact ⟨od, ha, hz.1, by unfold PySem.W.notCls; rw [hd] <;> rfl, by rw [hz.2]; exact ho⟩
theorem hasCls {K : PySem.W.Frag} {C : Addr} (h : PySem.W.hasDictIn K C = true) : (PySem.W.clsIn K C).isSome = true := by
  obtain ⟨cd, hc, _⟩ := PySem.W.any_some h
  rw [hc] <;> rfl
theorem call_isX {a : Addr} {oe : Obj} {cls : Value} {d : Option Addr} {pn : List (Addr × Obj)} (hz : Zc cls d oe) (hf : ∃ vs, oe.data = .fields vs) : CallR (X.suite a ((a, oe) :: pn)) (.builtin "isinstance") (rIsX X.prog X.K X.mg a cls d) := by
  intro pins s σ H xs us Q I r h
  obtain ⟨x, g, C, dd, v, c, cv, b, rfl, T, rfl, ea, rfl, hcv, e, q⟩ := h
  obtain ⟨fI, S⟩ := T.sup
  obtain ⟨u1, u2, rfl, r1, r2⟩ := vals2 r
  cases r1
  obtain rfl := hcv _ r2
  obtain ⟨od, J⟩ := inst_x T hz hf I ea
  exact PySem.W.kia_one (PySem.W.kitx_exc (hasCls T.hd) T.ga T.gg S.exC T.ha T.hn T.ht T.hm) I.kIn J e (fun z => nomatch z) fun tk => ⟨.bl b, H, I.kept (t' := tk) fun _ _ z => z, rfl, q⟩
/-- isinstance(e, (c, ..)) -/
def rIsXT (P : Program) (K : PySem.W.Frag) (mg : Str → Option Value) (a : Addr) (cls : Value) (d : Option Addr) : List V → Hp → VK → Prop := fun xs H Q => ∃ (x g : Str) (C dd : Addr) (v : V) (tp : Addr) (cs : List V) (us : List Value) (b : Bool), cls = .ref C ∧ ErrC P K mg x g C ∧ d = some dd ∧ H dd = some (.xd [(g, v)]) ∧
  xs = [.ref a, .ref tp] ∧ H tp = some (.tup cs) ∧ Paired ClsV cs us ∧ PySem.W.kitAny K (.ref C) us = some b ∧ Q (.bl b) H
theorem call_isXT {a : Addr} {oe : Obj} {cls : Value} {d : Option Addr} {pn : List (Addr × Obj)} (hz : Zc cls d oe) (hf : ∃ vs, oe.data = .fields vs) : CallR (X.suite a ((a, oe) :: pn)) (.builtin "isinstance") (rIsXT X.prog X.K X.mg a cls d) := by
  intro pins s σ H xs us Q I r h
  obtain ⟨x, g, C, dd, v, tp, cs, ws, b, rfl, T, rfl, ea, rfl, hT, k, e, q⟩ := h
  obtain ⟨fI, S⟩ := T.sup
  obtain ⟨u1, u2, rfl, r1, r2⟩ := vals2 r
  cases r1
  cases (show u2 = Value.ref tp from r2)
  obtain ⟨od, J⟩ := inst_x T hz hf I ea
  obtain ⟨_, its, rv, o, h1, h2, n, h3⟩ := (show ObjOk X.prog X.w H s.heap tp (.tup cs) from I.hok tp _ hT)
  have e3 := ClsV.all k rv
  subst e3
  obtain ⟨oc, od', dt, sl⟩ := o
  simp only at h2 h3
  subst h2 h3
  exact PySem.W.kia_tup (PySem.W.kitx_exc (hasCls T.hd) T.ga T.gg S.exC T.ha T.hn T.ht T.hm) I.kIn J h1 e (fun z => nomatch z) fun tk => ⟨.bl b, H, I.kept (t' := tk) fun _ _ z => z, rfl, q⟩
end
end L2
namespace K56
theorem gd_lt {α : Type} {l : List α} {i : Nat} {d : α} (h : i < l.length) : l.getD i d = l[i] := by
  rw [List.getD_eq_getElem?_getD, List.getElem?_eq_getElem h]
  rfl
theorem gd_ge {α : Type} {l : List α} {i : Nat} {d : α} (h : l.length ≤ i) : l.getD i d = d := by
  rw [List.getD_eq_getElem?_getD, List.getElem?_eq_none h]
  rfl
/-! ### paths -/
inductive Kd where
  | up | down | fst | lst
  deriving DecidableEq
def bet : Kd → Int → Int → Bool
  | .up, i, j => decide (j < i)
  | .down, i, j => decide (i < j)
  | _, _, _ => false
def rai : Kd → Int → Int → Int
  | .down, i, b => i - b
  | _, i, b => i + b
abbrev Par := List (Option Nat)
def par (ps : Par) (f : Nat) : Option Nat := (ps.getD f none)
def pathN (ps : Par) : Nat → Nat → List Nat
  | 0, f => [f]
  | k + 1, f => match par ps f with
    | some p => pathN ps k p ++ [f]
    | none => [f]
def path (ps : Par) (f : Nat) : List Nat := pathN ps ps.length f
def WF (ps : Par) : Prop := ∃ rk : Nat → Nat, (∀ f, f < ps.length → rk f < ps.length) ∧ ∀ f p, par ps f = some p → p < ps.length ∧ rk p < rk f
theorem par_lt {ps : Par} {f p : Nat} (h : par ps f = some p) : f < ps.length := by
  unfold par at h
  by_cases q : f < ps.length
  · exact q
  · rw [gd_ge (by omega)] at h
    cases h
theorem pathN_more {ps : Par} {rk : Nat → Nat} (h : ∀ f p, par ps f = some p → p < ps.length ∧ rk p < rk f) : ∀ (k m f : Nat), rk f ≤ k → rk f ≤ m → pathN ps k f = pathN ps m f
  | 0, 0, _, _, _ => rfl
  | 0, m + 1, f, h1, _ => by
    unfold pathN
    cases e : par ps f with
    | none => rfl
    | some p => have := (h f p e).2; omega
  | k + 1, 0, f, _, h2 => by
    unfold pathN
    cases e : par ps f with
    | none => rfl
    | some p => have := (h f p e).2; omega
  | k + 1, m + 1, f, h1, h2 => by
    unfold pathN
    cases e : par ps f with
    | none => rfl
    | some p =>
      have q := (h f p e).2
      show pathN ps k p ++ [f] = pathN ps m p ++ [f]
      rw [pathN_more h k m p (by omega) (by omega)]
theorem path_root {ps : Par} {f : Nat} (e : par ps f = none) : path ps f = [f] := by
  unfold path
  cases ps.length with
  | zero => rfl
  | succ n =>
    unfold pathN
    rw [e]
theorem path_step {ps : Par} (w : WF ps) {f p : Nat} (e : par ps f = some p) : path ps f = path ps p ++ [f] := by
  obtain ⟨rk, h1, h2⟩ := w
  have hf := par_lt e
  obtain ⟨hp, hr⟩ := h2 f p e
  unfold path
  have a := h1 f hf
  have hn : ∃ n, ps.length = n + 1 := ⟨ps.length - 1, by omega⟩
  obtain ⟨n, hn⟩ := hn
  rw [hn]
  show (match par ps f with | some p => pathN ps n p ++ [f] | none => [f]) = pathN ps (n + 1) p ++ [f]
  rw [e]
  show pathN ps n p ++ [f] = pathN ps (n + 1) p ++ [f]
  rw [pathN_more h2 n (n + 1) p (by omega) (by omega)]
/-- by what stands above -/
theorem path_ind {ps : Par} (w : WF ps) {M : Nat → Prop} (h0 : ∀ f, f < ps.length → par ps f = none → M f) (h1 : ∀ f p, f < ps.length → par ps f = some p → p < ps.length → M p → M f) : ∀ f, f < ps.length → M f := by
  obtain ⟨rk, r1, r2⟩ := w
  have key : ∀ n f, rk f ≤ n → f < ps.length → M f := by
    intro n
    induction n with
    | zero =>
      intro f hn hf
      cases e : par ps f with
      | none => exact h0 f hf e
      | some p => have := (r2 f p e).2; omega
    | succ n ih =>
      intro f hn hf
      cases e : par ps f with
      | none => exact h0 f hf e
      | some p =>
        obtain ⟨a, b⟩ := r2 f p e
        exact h1 f p hf e a (ih p (by omega) a)
  intro f hf
  exact key (rk f) f (Nat.le_refl _) hf
theorem path_last {ps : Par} (w : WF ps) {f : Nat} (hf : f < ps.length) : ∃ l, path ps f = l ++ [f] := by
  cases e : par ps f with
  | none => exact ⟨[], path_root e⟩
  | some p => exact ⟨path ps p, path_step w e⟩
theorem path_self {ps : Par} (w : WF ps) {f : Nat} (hf : f < ps.length) : f ∈ path ps f := by
  obtain ⟨l, e⟩ := path_last w hf
  rw [e]
  simp
theorem path_lt {ps : Par} (w : WF ps) : ∀ f, f < ps.length → ∀ g ∈ path ps f, g < ps.length := by
  refine path_ind w (fun f hf e g hg => ?_) (fun f p hf e hp ih g hg => ?_)
  · rw [path_root e] at hg
    simp at hg
    omega
  · rw [path_step w e] at hg
    rcases List.mem_append.mp hg with h | h
    · exact ih g h
    · simp at h
      omega
/-- the path of what lies on a path is its beginning -/
theorem path_pre {ps : Par} (w : WF ps) : ∀ f, f < ps.length → ∀ l g r, path ps f = l ++ g :: r → path ps g = l ++ [g] := by
  refine path_ind w (fun f hf e l g r h => ?_) (fun f p hf e hp ih l g r h => ?_)
  · rw [path_root e] at h
    cases l with
    | nil =>
      have h2 : f = g := by
        have := (List.cons.inj h).1
        exact this
      subst h2
      exact path_root e
    | cons a l =>
      have := congrArg List.length h
      simp at this
  · rw [path_step w e] at h
    by_cases hr : r = []
    · subst hr
      have h3 : path ps p ++ [f] = l ++ [g] := h
      have h4 := List.append_inj' h3 rfl
      have h5 : f = g := by simpa using h4.2
      subst h5
      rw [path_step w e, h4.1]
    · have h3 : r = r.dropLast ++ [r.getLast hr] := (List.dropLast_concat_getLast hr).symm
      have h4 : path ps p ++ [f] = (l ++ g :: r.dropLast) ++ [r.getLast hr] := by
        rw [h, List.append_assoc, List.cons_append, ← h3]
      have h5 := List.append_inj' h4 rfl
      exact ih l g r.dropLast h5.1
theorem path_mem {ps : Par} (w : WF ps) {f g : Nat} (hf : f < ps.length) (hg : g ∈ path ps f) : ∃ l r, path ps f = l ++ g :: r ∧ path ps g = l ++ [g] := by
  obtain ⟨l, r, e⟩ := List.append_of_mem hg
  exact ⟨l, r, e, path_pre w f hf l g r e⟩
theorem path_sub {ps : Par} (w : WF ps) {f g h : Nat} (hf : f < ps.length) (hg : g ∈ path ps f) (hh : h ∈ path ps g) : h ∈ path ps f := by
  obtain ⟨l, r, e1, e2⟩ := path_mem w hf hg
  rw [e2] at hh
  rw [e1]
  rcases List.mem_append.mp hh with q | q
  · exact List.mem_append.mpr (.inl q)
  · simp at q
    subst q
    simp
/-! ### the merge -/
def atr (r : List Int) (g : Nat) : Int := r.getD g 0
def kd (ks : List Kd) (g : Nat) : Kd := ks.getD g .up
def fu (l : List Nat) (a b : List Int) : Option Nat := l.find? fun g => decide (atr a g ≠ atr b g)
def pick (ps : Par) (ks : List Kd) (o n : List Int) (f : Nat) : Int := match fu (path ps f) o n with
  | none => atr o f
  | some g => if kd ks g = .fst ∨ bet (kd ks g) (atr o g) (atr n g) = true then atr o f else atr n f
def merge (ps : Par) (ks : List Kd) (o n : List Int) : List Int := (List.range ps.length).map (pick ps ks o n)
/-- what the step of a field is: raised, kept, lowered -/
def stp (k : Kd) (o n : Int) : Int := if o = n then 0 else if bet k n o = true then 1 else -1
def fair (ks : List Kd) : Prop := ∀ k ∈ ks, k = .up ∨ k = .down
theorem fair_kd {ks : List Kd} (h : fair ks) (g : Nat) : kd ks g = .up ∨ kd ks g = .down := by
  unfold kd
  by_cases q : g < ks.length
  · rw [gd_lt q]
    exact h _ (List.getElem_mem q)
  · rw [gd_ge (by omega)]
    exact .inl rfl
theorem bet_or {k : Kd} (h : k = .up ∨ k = .down) {i j : Int} (ne : i ≠ j) : bet k i j = !bet k j i := by
  rcases h with rfl | rfl
  · show decide (j < i) = !decide (i < j)
    by_cases q : j < i
    · rw [decide_eq_true q, decide_eq_false (by omega)]
      rfl
    · rw [decide_eq_false q, decide_eq_true (by omega)]
      rfl
  · show decide (i < j) = !decide (j < i)
    by_cases q : i < j
    · rw [decide_eq_true q, decide_eq_false (by omega)]
      rfl
    · rw [decide_eq_false q, decide_eq_true (by omega)]
      rfl
/-- the steps of a write -/
def sv (ks : List Kd) (o n : List Int) (f : Nat) : Int := stp (kd ks f) (atr o f) (atr n f)
theorem stp_zero {k : Kd} {o n : Int} : stp k o n = 0 ↔ o = n := by
  unfold stp
  by_cases q : o = n
  · rw [if_pos q]
    exact ⟨fun _ => q, fun _ => rfl⟩
  · rw [if_neg q]
    constructor
    · intro h
      split at h <;> omega
    · exact fun h => absurd h q
theorem stp_cases (k : Kd) (o n : Int) : stp k o n = 0 ∨ stp k o n = 1 ∨ stp k o n = -1 := by
  unfold stp
  split
  · exact .inl rfl
  · split
    · exact .inr (.inl rfl)
    · exact .inr (.inr rfl)
theorem stp_pos {k : Kd} {o n : Int} (h : 0 < stp k o n) : o ≠ n ∧ bet k n o = true := by
  unfold stp at h
  split at h
  · omega
  · rename_i q
    split at h
    · rename_i b
      exact ⟨q, b⟩
    · omega
theorem stp_neg {k : Kd} {o n : Int} (h : stp k o n < 0) : o ≠ n ∧ ¬ bet k n o = true := by
  unfold stp at h
  split at h
  · omega
  · rename_i q
    split at h
    · omega
    · rename_i b
      exact ⟨q, b⟩
theorem fu_some {l : List Nat} {a b : List Int} {g : Nat} (h : fu l a b = some g) : ∃ x y, l = x ++ g :: y ∧ (∀ z ∈ x, atr a z = atr b z) ∧ atr a g ≠ atr b g := by
  unfold fu at h
  obtain ⟨h1, x, y, h2, h3⟩ := List.find?_eq_some_iff_append.mp h
  refine ⟨x, y, h2, fun z hz => ?_, of_decide_eq_true h1⟩
  have := h3 z hz
  by_cases q : atr a z = atr b z
  · exact q
  · rw [decide_eq_true q] at this
    cases this
theorem fu_none {l : List Nat} {a b : List Int} (h : fu l a b = none) : ∀ z ∈ l, atr a z = atr b z := by
  unfold fu at h
  intro z hz
  have := List.find?_eq_none.mp h z hz
  by_cases q : atr a z = atr b z
  · exact q
  · exact absurd (decide_eq_true q) this
/-- LANDING: the merge is the new record exactly if each lowered field has a raised one on its path -/
theorem lands_iff {ps : Par} {ks : List Kd} {o n : List Int} (w : WF ps) (hk : fair ks) (hn : n.length = ps.length) :
    merge ps ks o n = n ↔ ∀ f, f < ps.length → sv ks o n f < 0 → ∃ g ∈ path ps f, 0 < sv ks o n g := by
  have pt : merge ps ks o n = n ↔ ∀ f, f < ps.length → pick ps ks o n f = atr n f := by
    constructor
    · intro h f hf
      have h1 : (merge ps ks o n)[f]? = n[f]? := by rw [h]
      unfold merge at h1
      rw [List.getElem?_map, List.getElem?_range hf] at h1
      have h2 : n[f]? = some (atr n f) := by
        unfold atr
        rw [gd_lt (by omega), List.getElem?_eq_getElem (by omega)]
      rw [h2] at h1
      exact Option.some.inj h1
    · intro h
      refine List.ext_getElem (by unfold merge; simp [hn]) fun f h1 h2 => ?_
      unfold merge at h1 ⊢
      rw [List.getElem_map, List.getElem_range, h f (by simpa using h1)]
      unfold atr
      rw [gd_lt h2]
  rw [pt]
  constructor
  · intro h f hf hl
    obtain ⟨ne, nb⟩ := stp_neg hl
    have p := h f hf
    unfold pick at p
    cases e : fu (path ps f) o n with
    | none => exact absurd (fu_none e f (path_self w hf)) ne
    | some g =>
      rw [e] at p
      obtain ⟨x, y, e2, hx, hg⟩ := fu_some e
      refine ⟨g, by rw [e2]; simp, ?_⟩
      have p2 : (if kd ks g = .fst ∨ bet (kd ks g) (atr o g) (atr n g) = true then atr o f else atr n f) = atr n f := p
      by_cases c : kd ks g = .fst ∨ bet (kd ks g) (atr o g) (atr n g) = true
      · rw [if_pos c] at p2
        exact absurd p2 ne
      · have c2 : bet (kd ks g) (atr n g) (atr o g) = true := by
          rw [bet_or (fair_kd hk g) (Ne.symm hg)]
          cases q : bet (kd ks g) (atr o g) (atr n g) with
          | false => rfl
          | true => exact absurd (.inr q) c
        unfold sv stp
        rw [if_neg hg, if_pos c2]
        decide
  · intro h f hf
    unfold pick
    cases e : fu (path ps f) o n with
    | none => exact fu_none e f (path_self w hf)
    | some g =>
      show (if kd ks g = .fst ∨ bet (kd ks g) (atr o g) (atr n g) = true then atr o f else atr n f) = atr n f
      obtain ⟨x, y, e2, hx, hg⟩ := fu_some e
      by_cases c : kd ks g = .fst ∨ bet (kd ks g) (atr o g) (atr n g) = true
      · exfalso
        have hgn : g < ps.length := path_lt w f hf g (by rw [e2]; simp)
        have hb : bet (kd ks g) (atr o g) (atr n g) = true := by
          rcases c with c | c
          · rcases fair_kd hk g with q | q <;> rw [q] at c <;> cases c
          · exact c
        have hl : sv ks o n g < 0 := by
          unfold sv stp
          rw [if_neg hg, if_neg (by rw [bet_or (fair_kd hk g) (Ne.symm hg), hb]; decide)]
          decide
        obtain ⟨z, hz, hp⟩ := h g hgn hl
        rw [path_pre w f hf x g y e2] at hz
        rcases List.mem_append.mp hz with q | q
        · have := hx z q
          have := stp_pos hp
          omega
        · simp at q
          subst q
          omega
      · rw [if_neg c]
end K56
namespace K56
/-! ### writes -/
abbrev Chg := List (Int × Int)
def look (ch : Chg) (k : Int) : Option Int := (ch.find? fun q => decide (q.1 = k)).map (·.2)
def inC (ch : Chg) (k : Int) : Bool := (look ch k).isSome
def wv (b : List Int) (ch : Chg) : List Int := (List.range b.length).map fun f : Nat => (look ch (f : Int)).getD (atr b f)
theorem wv_len {b : List Int} {ch : Chg} : (wv b ch).length = b.length := by simp [wv]
theorem wv_at {b : List Int} {ch : Chg} {f : Nat} (h : f < b.length) : atr (wv b ch) f = (look ch (f : Int)).getD (atr b f) := by
  unfold atr wv
  rw [gd_lt (by simp [h])]
  simp [atr]
theorem atr_ge {r : List Int} {f : Nat} (h : r.length ≤ f) : atr r f = 0 := gd_ge h
section
variable (ps : Par) (ks : List Kd) (b : List Int) (ch : Chg)
abbrev sw (f : Nat) : Int := sv ks b (wv b ch) f
def isBlk (f : Nat) : Bool := decide (sw ks b ch f < 0) && !(path ps f).any fun g => decide (0 < sw ks b ch g)
def blk : List Nat := (List.range ps.length).filter (isBlk ps ks b ch)
def frA (f : Nat) : List Nat := (path ps f).filter fun g : Nat => !inC ch (g : Int)
def cannot : Option Nat := (blk ps ks b ch).find? fun f => (frA ps ch f).isEmpty
def near : List Nat := (List.range ps.length).filter fun g => (blk ps ks b ch).any fun f => decide ((frA ps ch f).getLast? = some g)
def few : List Nat := (List.range ps.length).filter fun g => (blk ps ks b ch).any fun f => decide ((frA ps ch f).head? = some g)
def free : List Nat := (List.range ps.length).filter fun g : Nat => !inC ch (g : Int)
def reachL (S : List Nat) : List Nat := (List.range ps.length).filter fun f => (path ps f).any fun g => decide (g ∈ S)
def setS (new : List Int) (S : List Nat) : List Int := S.foldl (fun r f => r.set f (rai (kd ks f) (atr b f) 1)) new
def helps (S : List Nat) : Prop := merge ps ks b (setS ks b (wv b ch) S) = setS ks b (wv b ch) S
end
def sets (l : List Nat) : List (List Nat) := l.foldl (fun acc x => acc ++ acc.map fun s => s ++ [x]) [[]]
theorem sets_fold {T : List Nat} : ∀ (l : List Nat) (acc : List (List Nat)), T ∈ l.foldl (fun acc x => acc ++ acc.map fun s => s ++ [x]) acc ↔ ∃ a ∈ acc, ∃ S, S.Sublist l ∧ T = a ++ S
  | [], acc => by
    constructor
    · intro h
      exact ⟨T, h, [], List.Sublist.refl _, by simp⟩
    · rintro ⟨a, ha, S, hS, rfl⟩
      have : S = [] := List.sublist_nil.mp hS
      subst this
      simpa using ha
  | x :: l, acc => by
    show T ∈ l.foldl (fun acc x => acc ++ acc.map fun s => s ++ [x]) (acc ++ acc.map fun s => s ++ [x]) ↔ _
    rw [sets_fold l]
    constructor
    · rintro ⟨a, ha, S, hS, rfl⟩
      rcases List.mem_append.mp ha with h | h
      · exact ⟨a, h, S, hS.cons _, rfl⟩
      · obtain ⟨c, hc, rfl⟩ := List.mem_map.mp h
        exact ⟨c, hc, x :: S, hS.cons_cons _, by simp⟩
    · rintro ⟨a, ha, S, hS, rfl⟩
      cases hS with
      | cons _ h => exact ⟨a, List.mem_append.mpr (.inl ha), S, h, rfl⟩
      | cons_cons _ h => exact ⟨a ++ [x], List.mem_append.mpr (.inr (List.mem_map.mpr ⟨a, ha, rfl⟩)), _, h, by simp⟩
theorem mem_sets {T l : List Nat} : T ∈ sets l ↔ T.Sublist l := by
  unfold sets
  rw [sets_fold]
  constructor
  · rintro ⟨a, ha, S, hS, rfl⟩
    simp at ha
    subst ha
    simpa using hS
  · intro h
    exact ⟨[], by simp, T, h, by simp⟩
theorem setS_len {ks : List Kd} {b : List Int} : ∀ (S : List Nat) (new : List Int), (setS ks b new S).length = new.length
  | [], _ => rfl
  | f :: S, new => by
    show (setS ks b (new.set f (rai (kd ks f) (atr b f) 1)) S).length = new.length
    rw [setS_len S, List.length_set]
theorem atr_set {r : List Int} {f g : Nat} {v : Int} (hg : g < r.length) : atr (r.set f v) g = if f = g then v else atr r g := by
  unfold atr
  rw [gd_lt (by simpa using hg), gd_lt hg, List.getElem_set]
theorem setS_at {ks : List Kd} {b : List Int} {g : Nat} : ∀ (S : List Nat) (new : List Int), g < new.length → atr (setS ks b new S) g = if g ∈ S then rai (kd ks g) (atr b g) 1 else atr new g
  | [], _, _ => by simp [setS]
  | f :: S, new, hg => by
    show atr (setS ks b (new.set f (rai (kd ks f) (atr b f) 1)) S) g = _
    rw [setS_at S _ (by simpa using hg), atr_set hg]
    by_cases h : g ∈ S
    · rw [if_pos h, if_pos (List.mem_cons_of_mem _ h)]
    · rw [if_neg h]
      by_cases q : f = g
      · subst q
        rw [if_pos rfl, if_pos List.mem_cons_self]
      · rw [if_neg q, if_neg (by
          intro z
          rcases List.mem_cons.mp z with z | z
          · exact q z.symm
          · exact h z)]
theorem stp_rai {k : Kd} (h : k = .up ∨ k = .down) (o : Int) : stp k o (rai k o 1) = 1 := by
  unfold stp
  rcases h with rfl | rfl
  · rw [if_neg (show ¬ o = rai .up o 1 by show ¬ o = o + 1; omega), if_pos (show bet .up (rai .up o 1) o = true from decide_eq_true (show o < o + 1 by omega))]
  · rw [if_neg (show ¬ o = rai .down o 1 by show ¬ o = o - 1; omega), if_pos (show bet .down (rai .down o 1) o = true from decide_eq_true (show o - 1 < o by omega))]
section
variable {ps : Par} {ks : List Kd} {b : List Int} {ch : Chg} {S : List Nat}
theorem sv_setS (hk : fair ks) (hb : b.length = ps.length) {g : Nat} (hg : g < ps.length) : sv ks b (setS ks b (wv b ch) S) g = if g ∈ S then 1 else sw ks b ch g := by
  unfold sv sw
  rw [setS_at S _ (by rw [wv_len]; omega)]
  by_cases h : g ∈ S
  · rw [if_pos h, if_pos h, stp_rai (fair_kd hk g)]
  · rw [if_neg h, if_neg h]
    rfl
theorem low_in (hb : b.length = ps.length) {f : Nat} (hf : f < ps.length) (h : sw ks b ch f ≠ 0) : inC ch (f : Int) = true := by
  unfold inC
  cases e : look ch (f : Int) with
  | some v => rfl
  | none =>
    exfalso
    apply h
    unfold sw sv
    rw [stp_zero, wv_at (by omega), e]
    rfl
theorem isBlk_iff {f : Nat} : isBlk ps ks b ch f = true ↔ sw ks b ch f < 0 ∧ ∀ g ∈ path ps f, ¬ 0 < sw ks b ch g := by
  unfold isBlk
  rw [Bool.and_eq_true, decide_eq_true_eq, Bool.not_eq_true', List.any_eq_false]
  constructor
  · rintro ⟨a, c⟩
    exact ⟨a, fun g hg => by simpa using c g hg⟩
  · rintro ⟨a, c⟩
    exact ⟨a, fun g hg => by simpa using c g hg⟩
theorem mem_blk {f : Nat} : f ∈ blk ps ks b ch ↔ f < ps.length ∧ sw ks b ch f < 0 ∧ ∀ g ∈ path ps f, ¬ 0 < sw ks b ch g := by
  unfold blk
  rw [List.mem_filter, List.mem_range, isBlk_iff]
theorem mem_free {g : Nat} : g ∈ free ps ch ↔ g < ps.length ∧ inC ch (g : Int) = false := by
  unfold free
  rw [List.mem_filter, List.mem_range]
  simp
theorem mem_frA {f g : Nat} : g ∈ frA ps ch f ↔ g ∈ path ps f ∧ inC ch (g : Int) = false := by
  unfold frA
  rw [List.mem_filter]
  simp
/-- WHAT HELPS: a set of free fields with one on the path of each blocked field -/
theorem helps_iff (w : WF ps) (hk : fair ks) (hb : b.length = ps.length) (hS : ∀ g ∈ S, g ∈ free ps ch) : helps ps ks b ch S ↔ ∀ f ∈ blk ps ks b ch, ∃ g ∈ path ps f, g ∈ S := by
  unfold helps
  rw [lands_iff w hk (by rw [setS_len, wv_len, hb])]
  constructor
  · intro h f hf
    obtain ⟨hfn, hl, hn⟩ := mem_blk.mp hf
    have hfS : ¬ f ∈ S := fun z => by
      have := (mem_free.mp (hS f z)).2
      rw [low_in (ks := ks) hb hfn (by omega)] at this
      cases this
    obtain ⟨g, hg, hp⟩ := h f hfn (by rw [sv_setS hk hb hfn, if_neg hfS]; exact hl)
    have hgn := path_lt w f hfn g hg
    rw [sv_setS hk hb hgn] at hp
    by_cases z : g ∈ S
    · exact ⟨g, hg, z⟩
    · rw [if_neg z] at hp
      exact absurd hp (hn g hg)
  · intro h f hfn hl
    rw [sv_setS hk hb hfn] at hl
    by_cases z : f ∈ S
    · rw [if_pos z] at hl
      omega
    · rw [if_neg z] at hl
      by_cases q : ∃ g ∈ path ps f, 0 < sw ks b ch g
      · obtain ⟨g, hg, hp⟩ := q
        refine ⟨g, hg, ?_⟩
        rw [sv_setS hk hb (path_lt w f hfn g hg)]
        by_cases y : g ∈ S
        · rw [if_pos y]
          decide
        · rw [if_neg y]
          exact hp
      · obtain ⟨g, hg, hgS⟩ := h f (mem_blk.mpr ⟨hfn, hl, fun g hg hp => q ⟨g, hg, hp⟩⟩)
        refine ⟨g, hg, ?_⟩
        rw [sv_setS hk hb (path_lt w f hfn g hg), if_pos hgS]
        decide
theorem sub_free (h : S ∈ sets (free ps ch)) : ∀ g ∈ S, g ∈ free ps ch := fun _ hg => (mem_sets.mp h).subset hg
theorem none_helps (w : WF ps) (hk : fair ks) (hb : b.length = ps.length) {f : Nat} (hf : f ∈ blk ps ks b ch) (he : frA ps ch f = []) (hS : S ∈ sets (free ps ch)) : ¬ helps ps ks b ch S := fun h => by
  obtain ⟨g, hg, hgS⟩ := (helps_iff w hk hb (sub_free hS)).mp h f hf
  have : g ∈ frA ps ch f := mem_frA.mpr ⟨hg, (mem_free.mp (sub_free hS g hgS)).2⟩
  rw [he] at this
  cases this
theorem mem_near {g : Nat} : g ∈ near ps ks b ch ↔ g < ps.length ∧ ∃ f ∈ blk ps ks b ch, (frA ps ch f).getLast? = some g := by
  unfold near
  rw [List.mem_filter, List.mem_range, List.any_eq_true]
  simp
theorem mem_few {g : Nat} : g ∈ few ps ks b ch ↔ g < ps.length ∧ ∃ f ∈ blk ps ks b ch, (frA ps ch f).head? = some g := by
  unfold few
  rw [List.mem_filter, List.mem_range, List.any_eq_true]
  simp
theorem filter_sets {p : Nat → Bool} (h : ∀ g, g < ps.length → p g = true → inC ch (g : Int) = false) : (List.range ps.length).filter p ∈ sets (free ps ch) := by
  rw [mem_sets]
  have e : (List.range ps.length).filter p = (free ps ch).filter p := by
    unfold free
    rw [List.filter_filter]
    refine List.filter_congr fun g hg => ?_
    have hg' := List.mem_range.mp hg
    cases q : p g with
    | false => rfl
    | true => simp [h g hg' q]
  rw [e]
  exact List.filter_sublist
theorem near_sets : near ps ks b ch ∈ sets (free ps ch) := by
  refine filter_sets fun g hg h => ?_
  obtain ⟨f, _, e⟩ := List.any_eq_true.mp h
  have e := of_decide_eq_true e
  exact (mem_frA.mp (List.mem_of_getLast? e)).2
theorem few_sets : few ps ks b ch ∈ sets (free ps ch) := by
  refine filter_sets fun g hg h => ?_
  obtain ⟨f, _, e⟩ := List.any_eq_true.mp h
  have e := of_decide_eq_true e
  exact (mem_frA.mp (List.mem_of_mem_head? e)).2
theorem near_helps (w : WF ps) (hk : fair ks) (hb : b.length = ps.length) (h : ∀ f ∈ blk ps ks b ch, frA ps ch f ≠ []) : helps ps ks b ch (near ps ks b ch) := by
  rw [helps_iff w hk hb (sub_free near_sets)]
  intro f hf
  have e := List.getLast?_eq_some_getLast (h f hf)
  have hm := mem_frA.mp (List.mem_of_getLast? e)
  exact ⟨_, hm.1, mem_near.mpr ⟨path_lt w f (mem_blk.mp hf).1 _ hm.1, f, hf, e⟩⟩
theorem few_helps (w : WF ps) (hk : fair ks) (hb : b.length = ps.length) (h : ∀ f ∈ blk ps ks b ch, frA ps ch f ≠ []) : helps ps ks b ch (few ps ks b ch) := by
  rw [helps_iff w hk hb (sub_free few_sets)]
  intro f hf
  have e := List.head?_eq_some_head (h f hf)
  have hm := mem_frA.mp (List.mem_of_mem_head? e)
  exact ⟨_, hm.1, mem_few.mpr ⟨path_lt w f (mem_blk.mp hf).1 _ hm.1, f, hf, e⟩⟩
theorem mem_reachL {x : Nat} : x ∈ reachL ps S ↔ x < ps.length ∧ ∃ g ∈ path ps x, g ∈ S := by
  unfold reachL
  rw [List.mem_filter, List.mem_range, List.any_eq_true]
  simp
/-- what is free on a path: of two, the nearer one has the other on its path -/
theorem last_on (w : WF ps) {f t g : Nat} (hf : f < ps.length) (ht : (frA ps ch f).getLast? = some t) (hg : g ∈ frA ps ch f) : g ∈ path ps t := by
  obtain ⟨h1, h2⟩ := mem_frA.mp (List.mem_of_getLast? ht)
  obtain ⟨l, r, e1, e2⟩ := path_mem w hf h1
  rw [e2]
  obtain ⟨hg1, hg2⟩ := mem_frA.mp hg
  rw [e1] at hg1
  rcases List.mem_append.mp hg1 with q | q
  · exact List.mem_append.mpr (.inl q)
  · rcases List.mem_cons.mp q with q | q
    · subst q
      simp
    · exfalso
      have e3 : frA ps ch f = (l ++ [t]).filter (fun g : Nat => !inC ch (g : Int)) ++ r.filter (fun g : Nat => !inC ch (g : Int)) := by
        unfold frA
        rw [e1, ← List.filter_append]
        simp
      have hgr : g ∈ r.filter (fun g : Nat => !inC ch (g : Int)) := List.mem_filter.mpr ⟨q, by simp [hg2]⟩
      have hne : r.filter (fun g : Nat => !inC ch (g : Int)) ≠ [] := List.ne_nil_of_mem hgr
      rw [e3, List.getLast?_append, List.getLast?_eq_some_getLast hne] at ht
      have htr : t ∈ r := by
        have z : (r.filter (fun g : Nat => !inC ch (g : Int))).getLast hne = t := Option.some.inj (by rw [← ht]; rfl)
        rw [← z]
        exact (List.mem_filter.mp (List.getLast_mem hne)).1
      -- t stands twice on one path
      obtain ⟨x, y, e4⟩ := List.append_of_mem htr
      have e5 : path ps f = (l ++ t :: x) ++ t :: y := by
        rw [e1, e4]
        simp
      have e6 := path_pre w f hf _ _ _ e5
      rw [e2] at e6
      have := congrArg List.length e6
      simp at this
theorem head_on (w : WF ps) {f t g : Nat} (hf : f < ps.length) (ht : (frA ps ch f).head? = some t) (hg : g ∈ frA ps ch f) : (frA ps ch g).head? = some t := by
  obtain ⟨hg1, hg2⟩ := mem_frA.mp hg
  obtain ⟨l, r, e1, e2⟩ := path_mem w hf hg1
  have e3 : frA ps ch f = frA ps ch g ++ r.filter (fun g : Nat => !inC ch (g : Int)) := by
    unfold frA
    rw [e1, e2, ← List.filter_append, List.append_assoc]
    rfl
  have hne : frA ps ch g ≠ [] := List.ne_nil_of_mem (mem_frA.mpr ⟨by rw [e2]; simp, hg2⟩)
  rw [e3, List.head?_append, List.head?_eq_some_head hne] at ht
  rw [List.head?_eq_some_head hne]
  simpa using ht
theorem near_least (w : WF ps) (hk : fair ks) (hb : b.length = ps.length) (hS : S ∈ sets (free ps ch)) (h : helps ps ks b ch S) : ∀ x ∈ reachL ps (near ps ks b ch), x ∈ reachL ps S := by
  intro x hx
  obtain ⟨hxn, t, ht, htn⟩ := mem_reachL.mp hx
  obtain ⟨_, f, hf, e⟩ := mem_near.mp htn
  obtain ⟨g, hg, hgS⟩ := (helps_iff w hk hb (sub_free hS)).mp h f hf
  have hgt := last_on w (mem_blk.mp hf).1 e (mem_frA.mpr ⟨hg, (mem_free.mp (sub_free hS g hgS)).2⟩)
  exact mem_reachL.mpr ⟨hxn, g, path_sub w hxn ht hgt, hgS⟩
theorem len_le_of_sub : ∀ {l m : List Nat}, l.Nodup → (∀ x ∈ l, x ∈ m) → l.length ≤ m.length
  | [], _, _, _ => Nat.zero_le _
  | x :: l, m, hn, hs => by
    obtain ⟨h1, h2⟩ := List.nodup_cons.mp hn
    have hx := hs x List.mem_cons_self
    have : l.length ≤ (m.erase x).length := len_le_of_sub h2 fun y hy => (List.mem_erase_of_ne (fun e : y = x => h1 (by rw [← e]; exact hy))).mpr (hs y (List.mem_cons_of_mem _ hy))
    rw [List.length_erase_of_mem hx] at this
    have pos : 0 < m.length := List.length_pos_of_mem hx
    rw [List.length_cons]
    omega
theorem few_least (w : WF ps) (hk : fair ks) (hb : b.length = ps.length) (hS : S ∈ sets (free ps ch)) (h : helps ps ks b ch S) : (few ps ks b ch).length ≤ S.length := by
  have e : (few ps ks b ch).length ≤ (S.map fun g => (frA ps ch g).head?.getD 0).length := by
    refine len_le_of_sub (List.nodup_range.filter _) fun t ht => ?_
    obtain ⟨_, f, hf, e⟩ := mem_few.mp ht
    obtain ⟨g, hg, hgS⟩ := (helps_iff w hk hb (sub_free hS)).mp h f hf
    have := head_on w (mem_blk.mp hf).1 e (mem_frA.mpr ⟨hg, (mem_free.mp (sub_free hS g hgS)).2⟩)
    exact List.mem_map.mpr ⟨g, hgS, by rw [this]; rfl⟩
  simpa using e
end
end K56
namespace K56
open PySem PySem.Spec PyProof.Rows L2
/-! ### the text, the data -/
def kS : Kd → V
  | .up => .str "up"
  | .down => .str "down"
  | .fst => .str "first"
  | .lst => .str "last"
def pV : Option Nat → V
  | none => .non
  | some k => .int (k : Int)
abbrev nV (n : Nat) : V := .int (n : Int)
def dV (ch : List (Int × Int)) : List (Key × V) := ch.map fun q => (Sum.inl q.1, V.int q.2)
/-- the addresses of the classes -/
structure Ad where
  cF : Addr
  cNF : Addr
  cBR : Addr
  cBP : Addr
  cCL : Addr
  mt : Tok
def fF (n : Nat) (a b : Addr) : List (Str × V) := [("fields", .int (n : Int)), ("parents", .ref a), ("kinds", .ref b)]
def FoAt (A : Ad) (H : Hp) (f : Addr) (ps : List (Option Nat)) (ks : List Kd) : Prop :=
  ∃ dx a b, H f = some (.ins A.cF dx (fF ps.length a b)) ∧ H a = some (.tup (ps.map pV)) ∧ H b = some (.tup (ks.map kS)) ∧ ks.length = ps.length
theorem FoAt.same {A : Ad} {H H' : Hp} {f : Addr} {ps : List (Option Nat)} {ks : List Kd} (h : FoAt A H f ps ks) (s : Same H H') : FoAt A H' f ps ks := by
  obtain ⟨dx, a, b, h1, h2, h3, h4⟩ := h
  exact ⟨dx, a, b, s _ _ h1, s _ _ h2, s _ _ h3, h4⟩
theorem same_new {H : Hp} {p : Addr} {o : HO} (h : H p = none) : Same H (upd H p o) := fun b x e => by
  rw [upd_ne (ne_of_none e h)]
  exact e
theorem same_mut {H H' : Hp} {p : Addr} {o : HO} (s : Same H H') (h : H p = none) : Same H (upd H' p o) := fun b x e => by
  rw [upd_ne (ne_of_none e h)]
  exact s b x e
theorem same_upd_at {H H' : Hp} {a p : Addr} {o u : HO} (s : Same H H') (hp : H' p = none) (h : H a = some u) : upd H' p o a = some u := by
  rw [upd_ne (ne_of_none (s _ _ h) hp)]
  exact s _ _ h
/-- how to leave a new object: any extension of the heap in which it stands -/
theorem fresh_up {H : Hp} {o : HO} {R : Addr → Hp → Prop} (k : ∀ p H', H p = none → Same H H' → H' p = some o → R p H') : ∀ p, H p = none → R p (upd H p o) := fun p hp => k p _ hp (same_new hp) upd_same

/-! ### what the top says -/
structure Txt (P : Program) (K : PySem.W.Frag) (A : Ad) (mg : Str → Option Value) : Prop where
  n_len : mg "len" = none
  n_range : mg "range" = none
  n_tuple : mg "tuple" = none
  n_list : mg "list" = none
  n_int : mg "int" = none
  n_abs : mg "abs" = none
  n_sorted : mg "sorted" = none
  n_any : mg "any" = none
  n_min : mg "min" = none
  n_set : mg "set" = none
  n_dict : mg "dict" = none
  n_bool : mg "bool" = none
  n_isinstance : mg "isinstance" = none
  n_ValueError : mg "ValueError" = none
  c_MOST_FIELDS : mg "MOST_FIELDS" = some (.int 16 A.mt)
  c_Forest : mg "Forest" = some (.ref A.cF)
  cl : Cls K A.cF
  na1 : NoAttr K A.cF "fields"
  na2 : NoAttr K A.cF "parents"
  na3 : NoAttr K A.cF "kinds"
  x_NotFair : ErrC P K mg "NotFair" "field" A.cNF
  x_BadRecord : ErrC P K mg "BadRecord" "record" A.cBR
  x_BadPlace : ErrC P K mg "BadPlace" "place" A.cBP
  x_CannotLand : ErrC P K mg "CannotLand" "field" A.cCL

/-! ### a def as it stands, a def that may be called -/
structure At (K : PySem.W.Frag) (mg : Str → Option Value) (x : Str) (st : Stmt) : Prop where
  ex : ∃ f fd, mg x = some (.ref f) ∧ FunD K x x (defArgs st) (defBody st) (defScope st) [] [] f fd
structure Cal (P : Program) (w : World) (K : PySem.W.Frag) (mg : Str → Option Value) (base : Heap) (CX : CXT) (k : Nat) (x : Str) (ps : List Str) (sp : Sp) : Prop where
  ex : ∃ f fd, mg x = some (.ref f) ∧ PySem.W.keepIn K (.ref f) = true ∧ Binds K fd ps [] ∧ FnOk P w K mg base CX k f fd ps sp
section
variable {P : Program} {w : World} {K : PySem.W.Frag} {mg : Str → Option Value} {base : Heap}
theorem At.calX {x : Str} {st : Stmt} {N ps : List Str} {k : Nat} {sp : Sp} (F : At K mg x st) (S : FnScope N ps (defScope st))
    (b : ∀ (kV doc pm : Value) (an : Option Addr) (cdv ct : Value) (us : List Value), us.length = ps.length → bindArgs (PySem.W.fnOf x x (defArgs st) (defBody st) (defScope st) .none kV doc pm an cdv ct) ⟨us, []⟩ = pure (ps.zip us))
    (len : ∀ vs H Q E, sp vs H Q E → vs.length = ps.length)
    (hbody : ∀ (f : Addr) (cdv : Value) (A : Around) (outer : List Env) (s : Shared) (H : Hp) (vs : List V) (Q : VK) (E : XK), Room k (A.deeper (envOfC x (defScope st) s.heap.objs.size f cdv)) → sp vs H Q E →
      ∃ t, PSs (cxOf (L2.CX P w) P w K mg base N x (defScope st) f cdv A outer s H E) (defBody st) t ∧ t { nx := fun _ H' => Q .non H', rt := Q } (start N vs) H) : Cal P w K mg base (L2.CX P w) (k + 1) x ps sp := by
  obtain ⟨f, fd, g, F⟩ := F.ex
  exact ⟨f, fd, g, F.kp, F.bindsN b, F.ok S len fun cdv A outer s H vs Q E hr h => hbody f cdv A outer s H vs Q E hr h⟩
theorem At.cal0 {x : Str} {st : Stmt} {N ps : List Str} {k : Nat} {sp : Sp} (F : At K mg x st) (S : FnScope N ps (defScope st))
    (b : ∀ (kV doc pm : Value) (an : Option Addr) (cdv ct : Value) (us : List Value), us.length = ps.length → bindArgs (PySem.W.fnOf x x (defArgs st) (defBody st) (defScope st) .none kV doc pm an cdv ct) ⟨us, []⟩ = pure (ps.zip us))
    (len : ∀ vs H Q E, sp vs H Q E → vs.length = ps.length)
    (hbody : ∀ (f : Addr) (cdv : Value) (A : Around) (outer : List Env) (s : Shared) (H : Hp) (vs : List V) (Q : VK) (E : XK), Room k (A.deeper (envOfC x (defScope st) s.heap.objs.size f cdv)) → sp vs H Q E →
      ∃ t, PSs (cxOf CX0 P w K mg base N x (defScope st) f cdv A outer s H E).nox (defBody st) t ∧ t { nx := fun _ H' => Q .non H', rt := Q } (start N vs) H) : Cal P w K mg base CX0 (k + 1) x ps sp := by
  obtain ⟨f, fd, g, F⟩ := F.ex
  refine ⟨f, fd, g, F.kp, F.bindsN b, F.ok S len fun cdv A outer s H vs Q E hr h => ?_⟩
  obtain ⟨t, h1, h2⟩ := hbody f cdv A outer s H vs Q E hr h
  exact ⟨t, h1.nox, h2⟩
theorem pe_cal {X : Cx} {CX : CXT} {k : Nat} {ps : List Str} {sp : Sp} {E : XK} {x : Str} {p pos : Pos} {e : Expr} {es : List Expr} {t : TA} (C : Cal X.prog X.w X.K X.mg X.base CX k x ps sp) (hr : Room k X.A) (hg : Gl X x) (hx : Passes CX X E)
    (ha : PA X (e :: es) t) (hdb : (x == ("__debug__" : Str)) = false := by decide) (he : starEach (e :: es) X.env = (false, eval e X.env) :: starEach es X.env := by rfl) (hpl : (backTo pos (starEach es X.env)).any (·.1) = false := by rfl) :
    PE X (.Call (.Name x p) (e :: es) [] pos) (tCall sp [] E t) := by
  obtain ⟨f, fd, g, kp, b, F⟩ := C.ex
  exact pe_call F hr hg g kp b .nil hx ha hdb he hpl
end
def rLenK (K : PySem.W.Frag) : List V → Hp → VK → Prop := fun xs H Q => ∃ p ys, xs = [.ref p] ∧ (SqL K H p ys ∨ SqT K H p ys) ∧ Q (.int ys.length) H
/-! ### lists -/
theorem sz {n : Nat} (h : n ≤ 100000) : n ≤ sizeLine := Nat.le_trans h (by decide)
theorem szl {n : Nat} (h : n < 100000) : n < sizeLine := Nat.lt_of_lt_of_le h (by decide)
theorem atN {xs : List V} {z : Int} {j : Nat} {v : V} (e : z = (j : Int)) (h : xs[j]? = some v) : atI xs z = some v := by
  rw [e]
  exact atI_nat h
theorem ixN_at {n j : Nat} {z : Int} (e : z = (j : Int)) (hj : j < n) : ixN n z = some j := by
  subst e
  unfold ixN
  rw [if_pos (by omega), if_pos (by omega)]
  simp
theorem str_ne {a b : Str} (h : a ≠ b) : decide (V.str a = V.str b) = false := decide_eq_false fun q => h (V.str.inj q)
theorem ifT {c : Bool} {A B : Prop} (h : c = true) (k : A) : if c = true then A else B := by
  rw [if_pos h]
  exact k
theorem ifF {c : Bool} {A B : Prop} (h : c = false) (k : B) : if c = true then A else B := by
  rw [h]
  exact iteF k
theorem at_map {α : Type} {l : List α} {i : Nat} (f : α → V) (h : i < l.length) : (l.map f)[i]? = some (f l[i]) := by
  rw [List.getElem?_map, List.getElem?_eq_getElem h]
  rfl
theorem at_par {ps : Par} {g : Nat} (h : g < ps.length) : (ps.map pV)[g]? = some (pV (par ps g)) := by
  rw [at_map _ h]
  unfold par
  rw [gd_lt h]
theorem at_kd {ks : List Kd} {g : Nat} (h : g < ks.length) : (ks.map kS)[g]? = some (kS (kd ks g)) := by
  rw [at_map _ h]
  unfold kd
  rw [gd_lt h]
theorem at_atr {r : List Int} {g : Nat} (h : g < r.length) : (r.map V.int)[g]? = some (.int (atr r g)) := by
  rw [at_map _ h]
  unfold atr
  rw [gd_lt h]
theorem at_nV {l : List Nat} {i g : Nat} (h : l[i]? = some g) : (l.map nV)[i]? = some (nV g) := by
  rw [List.getElem?_map, h]
  rfl
/-! ### loops over what is given by a plain list: by the part that is through -/
theorem split_at {α : Type} {l : List α} {i : Nat} (h : i < l.length) : l = l.take i ++ l[i] :: l.drop (i + 1) := by
  rw [← List.drop_eq_getElem_cons h, List.take_append_drop]
section
variable {α : Type} {K : PySem.W.Frag} {a : Addr} {l : List α} {f : α → V} {g : TG} {tb : TS} {D : Ends} {σ : L2.St} {H : Hp}
theorem for_lp (Pv : List α → L2.St → Hp → Prop) (h0 : Pv [] σ H) (hl : ∀ p σ H, Pv p σ H → SqL K H a (l.map f))
    (hs : ∀ p x r σ H, l = p ++ x :: r → Pv p σ H → g (f x) σ H fun σ2 H2 => tb { D with nx := Pv (p ++ [x]), ct := Pv (p ++ [x]), bk := D.nx } σ2 H2) (hd : ∀ σ H, Pv l σ H → D.nx σ H) :
    ∃ W : Nat → Nat → L2.St → Hp → Prop, (∃ m, W 0 m σ H) ∧ ∀ i m σ H, W i m σ H →
      ((Itl K a).stop i H ∧ D.nx σ H) ∨ ((Itl K a).go i H ∧ ∃ N : L2.St → Hp → Prop, (∀ σ' H', N σ' H' → ∃ m', m' < m ∧ W (i + 1) m' σ' H') ∧ ∀ x H', (Itl K a).yld i H x H' → g x σ H' fun σ2 H2 => tb { D with nx := N, ct := N, bk := D.nx } σ2 H2) := by
  refine for_list (xs := l.map f) (fun i => Pv (l.take i)) h0 (fun i σ H _ h => hl _ _ _ h) (fun i x σ H hi h => ?_) (fun σ H h => hd σ H (by rw [List.length_map, List.take_length] at h; exact h))
  have hi' : i < l.length := by simpa using (List.getElem?_eq_some_iff.mp hi).1
  rw [at_map f hi'] at hi
  cases Option.some.inj hi
  have q := hs (l.take i) l[i] (l.drop (i + 1)) σ H (split_at hi') h
  rw [List.take_append_getElem] at q
  exact q
theorem for_tp (Pv : List α → L2.St → Hp → Prop) (h0 : Pv [] σ H) (hl : ∀ p σ H, Pv p σ H → SqT K H a (l.map f))
    (hs : ∀ p x r σ H, l = p ++ x :: r → Pv p σ H → g (f x) σ H fun σ2 H2 => tb { D with nx := Pv (p ++ [x]), ct := Pv (p ++ [x]), bk := D.nx } σ2 H2) (hd : ∀ σ H, Pv l σ H → D.nx σ H) :
    ∃ W : Nat → Nat → L2.St → Hp → Prop, (∃ m, W 0 m σ H) ∧ ∀ i m σ H, W i m σ H →
      ((Itt K a).stop i H ∧ D.nx σ H) ∨ ((Itt K a).go i H ∧ ∃ N : L2.St → Hp → Prop, (∀ σ' H', N σ' H' → ∃ m', m' < m ∧ W (i + 1) m' σ' H') ∧ ∀ x H', (Itt K a).yld i H x H' → g x σ H' fun σ2 H2 => tb { D with nx := N, ct := N, bk := D.nx } σ2 H2) := by
  refine for_tup (xs := l.map f) (fun i => Pv (l.take i)) h0 (fun i σ H _ h => hl _ _ _ h) (fun i x σ H hi h => ?_) (fun σ H h => hd σ H (by rw [List.length_map, List.take_length] at h; exact h))
  have hi' : i < l.length := by simpa using (List.getElem?_eq_some_iff.mp hi).1
  rw [at_map f hi'] at hi
  cases Option.some.inj hi
  have q := hs (l.take i) l[i] (l.drop (i + 1)) σ H (split_at hi') h
  rw [List.take_append_getElem] at q
  exact q
theorem for_rng {j : Int} {n : Nat} (e : j = (n : Int)) (Pv : Nat → L2.St → Hp → Prop) (h0 : Pv 0 σ H)
    (hs : ∀ i σ H, i < n → Pv i σ H → g (nV i) σ H fun σ2 H2 => tb { D with nx := Pv (i + 1), ct := Pv (i + 1), bk := D.nx } σ2 H2) (hd : ∀ σ H, Pv n σ H → D.nx σ H) :
    ∃ W : Nat → Nat → L2.St → Hp → Prop, (∃ m, W 0 m σ H) ∧ ∀ i m σ H, W i m σ H →
      ((Itr 0 j.toNat).stop i H ∧ D.nx σ H) ∨ ((Itr 0 j.toNat).go i H ∧ ∃ N : L2.St → Hp → Prop, (∀ σ' H', N σ' H' → ∃ m', m' < m ∧ W (i + 1) m' σ' H') ∧ ∀ x H', (Itr 0 j.toNat).yld i H x H' → g x σ H' fun σ2 H2 => tb { D with nx := N, ct := N, bk := D.nx } σ2 H2) := by
  subst e
  refine for_range Pv h0 (fun i σ H hi h => ?_) hd
  rw [Int.zero_add]
  exact hs i σ H hi h
end
/-! ### comprehensions whose tests and elements only make new objects -/
section
variable {α : Type} {K : PySem.W.Frag} {a : Addr} {l : List α} {f : α → V} {j : Nat} {tt : TT} {te : TE} {vs : List Nat} {σ : L2.St} {H1 : Hp} {Qd : Hp → Prop}
/-- the test, the element at an item -/
structure CompOk (tt : TT) (te : TE) (vs : List Nat) (σ : L2.St) (j : Nat) (H1 : Hp) (f : α → V) (p : α → Bool) (v : α → V) (x : α) : Prop where
  w : wipe ((wipe σ vs).set j (some (f x))) vs = wipe σ vs
  t : ∀ H', Same H1 H' → ∀ R : Bool → Hp → Prop, (∀ H2, Same H' H2 → R (p x) H2) → tt ((wipe σ vs).set j (some (f x))) H' R
  e : p x = true → ∀ H', Same H1 H' → ∀ R : V → Hp → Prop, (∀ H2, Same H' H2 → R (v x) H2) → te ((wipe σ vs).set j (some (f x))) H' R
theorem comp_turn {p : α → Bool} {v : α → V} {x : α} {pre : List α} {Dl : Addr} {H' : Hp} (C : CompOk tt te vs σ j H1 f p v x) (hz : pre.length < 100000) (h0 : H1 Dl = none) (h1 : Same H1 H') (h2 : H' Dl = some (.lst ((pre.filter p).map v))) :
    gName j (f x) (wipe σ vs) H' fun σ2 H2 => wipe σ2 vs = wipe σ vs ∧ tt σ2 H2 fun b H3 =>
      if b = true then te σ2 H3 fun y H4 => ∃ acc, H4 Dl = some (.lst acc) ∧ acc.length < sizeLine ∧ (H1 Dl = none ∧ Same H1 (upd H4 Dl (.lst (acc ++ [y]))) ∧ (upd H4 Dl (.lst (acc ++ [y]))) Dl = some (.lst (((pre ++ [x]).filter p).map v)))
        else (H1 Dl = none ∧ Same H1 H3 ∧ H3 Dl = some (.lst (((pre ++ [x]).filter p).map v))) := by
  refine ⟨C.w, C.t H' h1 _ fun H3 s3 => ?_⟩
  cases hp : p x with
  | true =>
    refine ifT rfl (C.e hp H3 (h1.trans s3) _ fun H4 s4 => ⟨_, s4 _ _ (s3 _ _ h2), szl ?_, h0, same_mut ((h1.trans s3).trans s4) h0, ?_⟩)
    · rw [List.length_map]
      exact Nat.lt_of_le_of_lt (List.length_filter_le _ _) hz
    · rw [upd_same, List.filter_append, List.map_append, List.filter_cons, if_pos hp] <;> rfl
  | false =>
    refine ifF rfl ⟨h0, h1.trans s3, ?_⟩
    rw [List.filter_append, List.filter_cons, if_neg (by rw [hp]; decide), s3 _ _ h2]
    simp
theorem lcL {q : Addr} (hq : H1 q = none) (p : α → Bool) (v : α → V) (hz : l.length ≤ 100000) (hl : ∀ H', Same H1 H' → SqL K H' a (l.map f)) (hs : ∀ x ∈ l, CompOk tt te vs σ j H1 f p v x)
    (hd : ∀ H', Same H1 H' → H' q = some (.lst ((l.filter p).map v)) → Qd H') :
    ∃ W : Nat → Nat → Hp → Prop, (∃ m, W 0 m (upd H1 q (.lst []))) ∧ ∀ i m H, W i m H →
      ((Itl K a).stop i H ∧ Qd H) ∨ ((Itl K a).go i H ∧ ∃ Nx : Hp → Prop, (∀ H', Nx H' → ∃ m', m' < m ∧ W (i + 1) m' H') ∧ ∀ x H', (Itl K a).yld i H x H' → gName j x (wipe σ vs) H' fun σ2 H2 => wipe σ2 vs = wipe σ vs ∧ tt σ2 H2 fun b H3 =>
        if b = true then te σ2 H3 fun y H4 => ∃ acc, H4 q = some (.lst acc) ∧ acc.length < sizeLine ∧ Nx (upd H4 q (.lst (acc ++ [y]))) else Nx H3) := by
  refine lc_list (xs := l.map f) (fun i H' => H1 q = none ∧ Same H1 H' ∧ H' q = some (.lst (((l.take i).filter p).map v))) ⟨hq, same_new hq, upd_same⟩ (fun i H' _ h => hl H' h.2.1) (fun i x H' hi h => ?_) (fun H' h => hd H' h.2.1 (by have z := h.2.2; rw [List.length_map, List.take_length] at z; exact z))
  have hi' : i < l.length := by simpa using (List.getElem?_eq_some_iff.mp hi).1
  rw [at_map f hi'] at hi
  cases Option.some.inj hi
  have z := comp_turn (pre := l.take i) (hs l[i] (List.getElem_mem hi')) (by rw [List.length_take]; omega) h.1 h.2.1 h.2.2
  rw [List.take_append_getElem] at z
  exact z
theorem lcT {q : Addr} (hq : H1 q = none) (p : α → Bool) (v : α → V) (hz : l.length ≤ 100000) (hl : ∀ H', Same H1 H' → SqT K H' a (l.map f)) (hs : ∀ x ∈ l, CompOk tt te vs σ j H1 f p v x)
    (hd : ∀ H', Same H1 H' → H' q = some (.lst ((l.filter p).map v)) → Qd H') :
    ∃ W : Nat → Nat → Hp → Prop, (∃ m, W 0 m (upd H1 q (.lst []))) ∧ ∀ i m H, W i m H →
      ((Itt K a).stop i H ∧ Qd H) ∨ ((Itt K a).go i H ∧ ∃ Nx : Hp → Prop, (∀ H', Nx H' → ∃ m', m' < m ∧ W (i + 1) m' H') ∧ ∀ x H', (Itt K a).yld i H x H' → gName j x (wipe σ vs) H' fun σ2 H2 => wipe σ2 vs = wipe σ vs ∧ tt σ2 H2 fun b H3 =>
        if b = true then te σ2 H3 fun y H4 => ∃ acc, H4 q = some (.lst acc) ∧ acc.length < sizeLine ∧ Nx (upd H4 q (.lst (acc ++ [y]))) else Nx H3) := by
  refine lc_tup (xs := l.map f) (fun i H' => H1 q = none ∧ Same H1 H' ∧ H' q = some (.lst (((l.take i).filter p).map v))) ⟨hq, same_new hq, upd_same⟩ (fun i H' _ h => hl H' h.2.1) (fun i x H' hi h => ?_) (fun H' h => hd H' h.2.1 (by have z := h.2.2; rw [List.length_map, List.take_length] at z; exact z))
  have hi' : i < l.length := by simpa using (List.getElem?_eq_some_iff.mp hi).1
  rw [at_map f hi'] at hi
  cases Option.some.inj hi
  have z := comp_turn (pre := l.take i) (hs l[i] (List.getElem_mem hi')) (by rw [List.length_take]; omega) h.1 h.2.1 h.2.2
  rw [List.take_append_getElem] at z
  exact z
theorem lcR {q : Addr} (hq : H1 q = none) {n : Nat} {J : Int} (eJ : J = (n : Int)) (p : Nat → Bool) (v : Nat → V) (hz : n ≤ 100000) (hs : ∀ x, x < n → CompOk tt te vs σ j H1 nV p v x)
    (hd : ∀ H', Same H1 H' → H' q = some (.lst (((List.range n).filter p).map v)) → Qd H') :
    ∃ W : Nat → Nat → Hp → Prop, (∃ m, W 0 m (upd H1 q (.lst []))) ∧ ∀ i m H, W i m H →
      ((Itr 0 J.toNat).stop i H ∧ Qd H) ∨ ((Itr 0 J.toNat).go i H ∧ ∃ Nx : Hp → Prop, (∀ H', Nx H' → ∃ m', m' < m ∧ W (i + 1) m' H') ∧ ∀ x H', (Itr 0 J.toNat).yld i H x H' → gName j x (wipe σ vs) H' fun σ2 H2 => wipe σ2 vs = wipe σ vs ∧ tt σ2 H2 fun b H3 =>
        if b = true then te σ2 H3 fun y H4 => ∃ acc, H4 q = some (.lst acc) ∧ acc.length < sizeLine ∧ Nx (upd H4 q (.lst (acc ++ [y]))) else Nx H3) := by
  subst eJ
  refine lc_range (fun i H' => H1 q = none ∧ Same H1 H' ∧ H' q = some (.lst (((List.range i).filter p).map v))) ⟨hq, same_new hq, upd_same⟩ (fun i H' hi h => ?_) (fun H' h => hd H' h.2.1 h.2.2)
  rw [Int.zero_add]
  have z := comp_turn (pre := List.range i) (hs i hi) (by rw [List.length_range]; omega) h.1 h.2.1 h.2.2
  rw [← List.range_succ] at z
  exact z
end
end K56
namespace K56
open PySem PySem.Spec PyProof.Rows L2
local macro_rules | `(tactic| walk_at "len") => `(tactic| (intro vs H Q E h; repeat' (first | (rcases h with ⟨e, _⟩; exact congrArg List.length e) | (rcases h with ⟨_, h⟩))))
abbrev s_better : Stmt := top 17
abbrev N_better : List Str := ["kind", "value", "other"]
abbrev P_better : List Str := ["kind", "value", "other"]
theorem sc_better : FnScope N_better P_better (defScope s_better) := ⟨rfl, rfl, rfl, by decide +kernel, rfl, by decide +kernel, by decide +kernel⟩
abbrev s_raised : Stmt := top 18
abbrev N_raised : List Str := ["kind", "value", "by"]
abbrev P_raised : List Str := ["kind", "value", "by"]
theorem sc_raised : FnScope N_raised P_raised (defScope s_raised) := ⟨rfl, rfl, rfl, by decide +kernel, rfl, by decide +kernel, by decide +kernel⟩
abbrev s_path_of : Stmt := top 19
abbrev N_path_of : List Str := ["parents", "field", "path"]
abbrev P_path_of : List Str := ["parents", "field"]
theorem sc_path_of : FnScope N_path_of P_path_of (defScope s_path_of) := ⟨rfl, rfl, rfl, by decide +kernel, rfl, by decide +kernel, by decide +kernel⟩
def sp_better (w : World) (K : PySem.W.Frag) (Z : Ad) : Sp := fun vs H Q _ => ∃ (k : Kd) (i j : Int), vs = [kS k, .int i, .int j] ∧ Q (.bl (bet k i j)) H
def sp_raised (w : World) (K : PySem.W.Frag) (Z : Ad) : Sp := fun vs H Q _ => ∃ (k : Kd) (i j : Int), vs = [kS k, .int i, .int j] ∧ Q (.int (rai k i j)) H
def sp_path_of (w : World) (K : PySem.W.Frag) (Z : Ad) : Sp := fun vs H Q _ => ∃ (a : Addr) (ps : Par) (f : Nat), vs = [.ref a, nV f] ∧ H a = some (.tup (ps.map pV)) ∧ WF ps ∧ f < ps.length ∧ ps.length ≤ 1000 ∧
  ∀ p H', Same H H' → H p = none → H' p = some (.tup ((path ps f).map nV)) → Q (.ref p) H'
section
variable {P : Program} {w : World} {K : PySem.W.Frag} {mg : Str → Option Value} {base : Heap} {Z : Ad}
theorem ok_better (T : Txt P K Z mg) (F : At K mg "better" s_better) : Cal P w K mg base CX0 1 "better" P_better (sp_better w K Z) := by
  refine F.cal0 sc_better (fun _ _ _ _ _ _ us hl => match us, hl with | [_, _, _], _ => rfl) (by walk_at "len") (fun f cdv Ar outer s H vs Q E hr h => ?_)
  obtain ⟨k, i, j, rfl, q⟩ := h
  refine ⟨_, (pss_cons (ps_if (pt_cmpR op_eq (pv 0) pe_str (nomark _))
      (pss_one (ps_ret (pe_cmpR op_gt (pv 1) (pv 2) (nomark _)))) pss_nil)
      (pss_cons (ps_if (pt_cmpR op_eq (pv 0) pe_str (nomark _))
      (pss_one (ps_ret (pe_cmpR op_lt (pv 1) (pv 2) (nomark _)))) pss_nil)
      (pss_one (ps_ret pe_bl)))), ?_⟩
  cases k
  · exact ⟨_, rfl, rfl, _, rfl, iteT ⟨_, rfl, _, rfl, _, _, rfl, rfl, q⟩⟩
  · exact ⟨_, rfl, rfl, _, rfl, iteF ⟨_, rfl, rfl, _, rfl, iteT ⟨_, rfl, _, rfl, _, _, rfl, rfl, q⟩⟩⟩
  · exact ⟨_, rfl, rfl, _, rfl, iteF ⟨_, rfl, rfl, _, rfl, iteF q⟩⟩
  · exact ⟨_, rfl, rfl, _, rfl, iteF ⟨_, rfl, rfl, _, rfl, iteF q⟩⟩
theorem ok_raised (T : Txt P K Z mg) (F : At K mg "raised" s_raised) : Cal P w K mg base CX0 1 "raised" P_raised (sp_raised w K Z) := by
  refine F.cal0 sc_raised (fun _ _ _ _ _ _ us hl => match us, hl with | [_, _, _], _ => rfl) (by walk_at "len") (fun f cdv Ar outer s H vs Q E hr h => ?_)
  obtain ⟨k, i, j, rfl, q⟩ := h
  refine ⟨_, (pss_cons (ps_if (pt_cmpR op_eq (pv 0) pe_str (nomark _))
      (pss_one (ps_ret (pe_op op_sub (pv 1) (pv 2)))) pss_nil)
      (pss_one (ps_ret (pe_op op_add (pv 1) (pv 2))))), ?_⟩
  cases k
  · exact ⟨_, rfl, rfl, _, rfl, iteF ⟨_, rfl, _, rfl, _, _, rfl, rfl, q⟩⟩
  · exact ⟨_, rfl, rfl, _, rfl, iteT ⟨_, rfl, _, rfl, _, _, rfl, rfl, q⟩⟩
  · exact ⟨_, rfl, rfl, _, rfl, iteF ⟨_, rfl, _, rfl, _, _, rfl, rfl, q⟩⟩
  · exact ⟨_, rfl, rfl, _, rfl, iteF ⟨_, rfl, _, rfl, _, _, rfl, rfl, q⟩⟩
theorem ok_path_of (T : Txt P K Z mg) (F : At K mg "path_of" s_path_of) : Cal P w K mg base CX0 1 "path_of" P_path_of (sp_path_of w K Z) := by
  refine F.cal0 sc_path_of (fun _ _ _ _ _ _ us hl => match us, hl with | [_, _], _ => rfl) (by walk_at "len") (fun f cdv Ar outer s H vs Q E hr h => ?_)
  obtain ⟨a, ps, f, rfl, ha, wf, hf, hz, q⟩ := h
  refine ⟨_, (pss_cons (ps_set (i := 2) sc_path_of.nd rfl (Or.inl rfl) (pe_lst (pa_cons (pv 1) pa_nil)))
      (pss_cons (ps_while PassesOwn.never (pt_cmpR op_notN (pe_ix ix_tup (pv 0) (pe_ix ix_list (pv 2) (pe_un un_neg pe_int) (fun _ _ => rfl)) (fun _ _ => rfl)) pe_non (nomark _))
      (pss_one (ps_expr (pe_bm PySem.F.plainAttrs_list PySem.F.slot_list_append PySem.F.type_list_append mt_append (pv 2) (pa_cons (pe_ix ix_tup (pv 0) (pe_ix ix_list (pv 2) (pe_un un_neg pe_int) (fun _ _ => rfl)) (fun _ _ => rfl)) pa_nil)))))
      (pss_one (ps_ret (pe_callTy call_tuple_of (by rfl) T.n_tuple (by first | exact boot_tuple | decide +kernel) (pa_cons (pe_revL (pv 2)) pa_nil)))))), ?_⟩
  obtain ⟨rk, r1, r2⟩ := id wf
  refine ⟨_, rfl, sz (by show 1 ≤ 100000; decide), fun l hl => ?_⟩
  refine ⟨fun m σ H' => ∃ (xs : List Nat) (g : Nat), σ = [some (.ref a), some (nV f), some (.ref l)] ∧ rk g = m ∧ g < ps.length ∧ path ps f = path ps g ++ xs.reverse ∧ xs.length + rk g ≤ rk f ∧ Same H H' ∧ H' l = some (.lst (xs.map nV ++ [nV g])),
    ⟨rk f, [], f, rfl, rfl, hf, by simp, by simp, same_new hl, upd_same⟩, fun m σ H' hW => ?_⟩
  obtain ⟨xs, g, rfl, rfl, hg, hp, hlen, sm, hL⟩ := hW
  refine ⟨_, rfl, _, rfl, 1, rfl, l, _, -1, _, rfl, rfl, SqL.of hL, atI_last _ _, a, _, _, _, rfl, rfl, SqT.of (sm _ _ ha), atI_nat (at_par hg), rfl, _, rfl, ?_⟩
  cases e : par ps g with
  | none =>
    refine ifF rfl ?_
    refine ⟨_, rfl, l, _, rfl, SqL.of hL, fun p hp' => ?_⟩
    refine ⟨p, _, rfl, .inl ⟨SqL.of upd_same, fun r hr => ?_⟩⟩
    have s2 : Same H (upd (upd H' p (.lst (xs.map nV ++ [nV g]).reverse)) r (.tup (xs.map nV ++ [nV g]).reverse)) := (sm.trans (same_new hp')).trans (same_new hr)
    refine q r _ s2 ((sm.trans (same_new hp')).free hr) ?_
    rw [upd_same, hp, path_root e]
    simp
  | some p =>
    refine ifT rfl ?_
    obtain ⟨hpl, hrk⟩ := r2 g p e
    refine ⟨fun σ' H2 => ∃ (xs : List Nat) (g' : Nat), σ' = [some (.ref a), some (nV f), some (.ref l)] ∧ rk g' < rk g ∧ g' < ps.length ∧ path ps f = path ps g' ++ xs.reverse ∧ xs.length + rk g' ≤ rk f ∧ Same H H2 ∧ H2 l = some (.lst (xs.map nV ++ [nV g'])),
      fun σ' H2 ⟨xs', g', h1, h2, h3⟩ => ⟨_, h2, xs', g', h1, rfl, h3⟩, ?_⟩
    refine ⟨_, rfl, .inl ⟨rfl, _, SqL.of hL⟩, _, rfl, _, rfl, 1, rfl, l, _, -1, _, rfl, rfl, SqL.of hL, atI_last _ _, a, _, _, _, rfl, rfl, SqT.of (sm _ _ ha), atI_nat (at_par hg), l, _, _, rfl, rfl, hL, szl ?_, ?_⟩
    · have := r1 f hf
      rw [List.length_append, List.length_map, List.length_singleton]
      omega
    · rw [e]
      refine ⟨xs ++ [g], p, rfl, hrk, hpl, ?_, by rw [List.length_append, List.length_singleton]; omega, same_mut sm hl, by rw [upd_same]; simp [pV]⟩
      rw [hp, path_step wf e]
      simp
end
end K56
namespace K56
open PySem PySem.Spec PyProof.Rows L2
local macro_rules | `(tactic| walk_at "len") => `(tactic| (intro vs H Q E h; repeat' (first | (rcases h with ⟨e, _⟩; exact congrArg List.length e) | (rcases h with ⟨_, h⟩))))
abbrev s_first_unlike_on : Stmt := top 20
abbrev N_first_unlike_on : List Str := ["path", "first", "second", "field"]
abbrev P_first_unlike_on : List Str := ["path", "first", "second"]
theorem sc_first_unlike_on : FnScope N_first_unlike_on P_first_unlike_on (defScope s_first_unlike_on) := ⟨rfl, rfl, rfl, by decide +kernel, rfl, by decide +kernel, by decide +kernel⟩
abbrev s_merged_record : Stmt := top 21
abbrev N_merged_record : List Str := ["parents", "kinds", "older", "newer", "result", "field", "place"]
abbrev P_merged_record : List Str := ["parents", "kinds", "older", "newer"]
theorem sc_merged_record : FnScope N_merged_record P_merged_record (defScope s_merged_record) := ⟨rfl, rfl, rfl, by decide +kernel, rfl, by decide +kernel, by decide +kernel⟩
abbrev s_check_record : Stmt := top 22
abbrev N_check_record : List Str := ["fields", "record"]
abbrev P_check_record : List Str := ["fields", "record"]
theorem sc_check_record : FnScope N_check_record P_check_record (defScope s_check_record) := ⟨rfl, rfl, rfl, by decide +kernel, rfl, by decide +kernel, by decide +kernel⟩
abbrev s_check_place : Stmt := top 23
abbrev N_check_place : List Str := ["fields", "place"]
abbrev P_check_place : List Str := ["fields", "place"]
theorem sc_check_place : FnScope N_check_place P_check_place (defScope s_check_place) := ⟨rfl, rfl, rfl, by decide +kernel, rfl, by decide +kernel, by decide +kernel⟩
abbrev s_check_places : Stmt := top 24
abbrev N_check_places : List Str := ["fields", "places", "place"]
abbrev P_check_places : List Str := ["fields", "places"]
theorem sc_check_places : FnScope N_check_places P_check_places (defScope s_check_places) := ⟨rfl, rfl, rfl, by decide +kernel, rfl, by decide +kernel, by decide +kernel⟩
abbrev s_check_fair : Stmt := top 25
abbrev N_check_fair : List Str := ["forest", "field"]
abbrev P_check_fair : List Str := ["forest"]
theorem sc_check_fair : FnScope N_check_fair P_check_fair (defScope s_check_fair) := ⟨rfl, rfl, rfl, by decide +kernel, rfl, by decide +kernel, by decide +kernel⟩
def sp_first_unlike_on (w : World) (K : PySem.W.Frag) (Z : Ad) : Sp := fun vs H Q _ => ∃ (p a b : Addr) (l : List Nat) (r1 r2 : List Int), vs = [.ref p, .ref a, .ref b] ∧ H p = some (.tup (l.map nV)) ∧ H a = some (.tup (r1.map V.int)) ∧ H b = some (.tup (r2.map V.int)) ∧
  (∀ g ∈ l, g < r1.length ∧ g < r2.length) ∧ Q (pV (fu l r1 r2)) H
def sp_merged_record (w : World) (K : PySem.W.Frag) (Z : Ad) : Sp := fun vs H Q _ => ∃ (a k o n : Addr) (ps : Par) (ks : List Kd) (r1 r2 : List Int), vs = [.ref a, .ref k, .ref o, .ref n] ∧ H a = some (.tup (ps.map pV)) ∧ H k = some (.tup (ks.map kS)) ∧
  H o = some (.tup (r1.map V.int)) ∧ H n = some (.tup (r2.map V.int)) ∧ WF ps ∧ ps.length ≤ 1000 ∧ ks.length = ps.length ∧ r1.length = ps.length ∧ r2.length = ps.length ∧
  ∀ p H', Same H H' → H p = none → H' p = some (.tup ((merge ps ks r1 r2).map V.int)) → Q (.ref p) H'
/-- an own error flies: its class, its dict (new) -/
def Err (C : Addr) (f : Str) (v : V) (H : Hp) (E : XK) : Prop := ∀ d H', Same H H' → H d = none → H' d = some (.xd [(f, v)]) → E (.ref C) (some d) H'
theorem Err.same {C : Addr} {f : Str} {v : V} {H H' : Hp} {E : XK} (e : Err C f v H E) (s : Same H H') : Err C f v H' E := fun d H2 s2 n h => e d H2 (s.trans s2) (s.free n) h
theorem Err.at_ {C : Addr} {f : Str} {v : V} {H : Hp} {E : XK} (e : Err C f v H E) {d : Addr} (n : H d = none) : E (.ref C) (some d) (upd H d (.xd [(f, v)])) := e d _ (same_new n) n upd_same
def sp_check_record (w : World) (K : PySem.W.Frag) (Z : Ad) : Sp := fun vs H Q E => ∃ (n : Int) (r : Addr) (rs : List Int), vs = [.int n, .ref r] ∧ H r = some (.tup (rs.map V.int)) ∧ ((rs.length : Int) ≠ n → Err Z.cBR "record" (.ref r) H E) ∧ ((rs.length : Int) = n → Q .non H)
def sp_check_place (w : World) (K : PySem.W.Frag) (Z : Ad) : Sp := fun vs H Q E => ∃ (n k : Int), vs = [.int n, .int k] ∧ (¬ (0 ≤ k ∧ k < n) → Err Z.cBP "place" (.int k) H E) ∧ (0 ≤ k ∧ k < n → Q .non H)
def bad (n : Int) (l : List Int) : Option Int := l.find? fun k => !decide (0 ≤ k ∧ k < n)
def sp_check_places (w : World) (K : PySem.W.Frag) (Z : Ad) : Sp := fun vs H Q E => ∃ (n : Int) (a : Addr) (l : List Int), vs = [.int n, .ref a] ∧ H a = some (.lst (l.map V.int)) ∧ (∀ k, bad n l = some k → Err Z.cBP "place" (.int k) H E) ∧ (bad n l = none → Q .non H)
def unf (k : Kd) : Bool := decide (k = .fst) || decide (k = .lst)
def unfair (ks : List Kd) : Option Nat := (List.range ks.length).find? fun f => unf (kd ks f)
def sp_check_fair (w : World) (K : PySem.W.Frag) (Z : Ad) : Sp := fun vs H Q E => ∃ (f : Addr) (ps : Par) (ks : List Kd), vs = [.ref f] ∧ FoAt Z H f ps ks ∧ ps.length ≤ 1000 ∧ (∀ k, unfair ks = some k → Err Z.cNF "field" (nV k) H E) ∧ (unfair ks = none → ∀ H', Same H H' → Q .non H')
theorem find_cat {α : Type} {p : α → Bool} {a r : List α} {x : α} (h : a.find? p = none) (hx : p x = true) : (a ++ x :: r).find? p = some x := by
  rw [List.find?_append, h, List.find?_cons, hx] <;> rfl
theorem find_snoc {α : Type} {p : α → Bool} {a : List α} {x : α} (h : a.find? p = none) (hx : p x = false) : (a ++ [x]).find? p = none := by
  rw [List.find?_append, h, List.find?_cons, hx] <;> rfl
theorem find_rng {p : Nat → Bool} {i n : Nat} (hi : i < n) (h : (List.range i).find? p = none) (hx : p i = true) : (List.range n).find? p = some i := by
  have e : List.range n = List.range i ++ i :: (List.range n).drop (i + 1) := by
    have z := split_at (l := List.range n) (i := i) (by simpa using hi)
    rw [List.getElem_range, List.take_range] at z
    rwa [Nat.min_eq_left (Nat.le_of_lt hi)] at z
  rw [e]
  exact find_cat h hx
theorem kS_in (k : Kd) : inV (kS k) [.str "first", .str "last"] = unf k := by
  cases k <;> rfl
section
variable {P : Program} {w : World} {K : PySem.W.Frag} {mg : Str → Option Value} {base : Heap} {Z : Ad}
theorem ok_first_unlike_on (T : Txt P K Z mg) (F : At K mg "first_unlike_on" s_first_unlike_on) : Cal P w K mg base CX0 1 "first_unlike_on" P_first_unlike_on (sp_first_unlike_on w K Z) := by
  refine F.cal0 sc_first_unlike_on (fun _ _ _ _ _ _ us hl => match us, hl with | [_, _, _], _ => rfl) (by walk_at "len") (fun f cdv Ar outer s H vs Q E hr h => ?_)
  obtain ⟨p, a, b, l, r1, r2, rfl, hp, ha, hb, hl, q⟩ := h
  refine ⟨_, (pss_cons (ps_for PassesOwn.never rfl (pi_tup (pv 0)) (pg_name (i := 3) sc_first_unlike_on.nd rfl (Or.inl rfl))
      (pss_one (ps_if (pt_cmpR op_ne (pe_ix ix_tup (pv 1) (pv 3) (fun _ _ => rfl)) (pe_ix ix_tup (pv 2) (pv 3) (fun _ _ => rfl)) (nomark _))
      (pss_one (ps_ret (pv 3))) pss_nil)))
      (pss_one (ps_ret pe_non))), ?_⟩
  refine ⟨_, rfl, p, rfl, ⟨_, SqT.of hp⟩, for_tp (K := K) (a := p) (l := l) (f := nV) (fun i σ H' => ∃ v, σ = [some (.ref p), some (.ref a), some (.ref b), v] ∧ H' = H ∧ i.find? (fun g => decide (atr r1 g ≠ atr r2 g)) = none)
    ⟨none, rfl, rfl, rfl⟩ (fun i σ H' ⟨_, _, e, _⟩ => by rw [e]; exact SqT.of hp) ?_ ?_⟩
  · rintro i g r σ H' hl' ⟨v, rfl, rfl, hn⟩
    have hg := hl g (by rw [hl']; simp)
    refine ⟨_, rfl, _, rfl, a, _, _, _, rfl, rfl, SqT.of ha, atI_nat (at_atr hg.1), _, rfl, _, rfl, b, _, _, _, rfl, rfl, SqT.of hb, atI_nat (at_atr hg.2), rfl, _, rfl, ?_⟩
    by_cases e : atr r1 g = atr r2 g
    · refine ifF (by rw [e]; simp) ?_
      exact ⟨_, rfl, rfl, find_snoc hn (by simp [e])⟩
    · refine ifT (by simp [e]) ?_
      refine ⟨_, rfl, ?_⟩
      have z : fu l r1 r2 = some g := by
        unfold fu
        rw [hl']
        exact find_cat hn (by simp [e])
      rw [z] at q
      exact q
  · rintro σ H' ⟨v, rfl, rfl, hn⟩
    have z : fu l r1 r2 = none := hn
    rw [z] at q
    exact q
theorem ok_merged_record (T : Txt P K Z mg) (F : At K mg "merged_record" s_merged_record) (G_better : Cal P w K mg base CX0 1 "better" P_better (sp_better w K Z)) (G_first_unlike_on : Cal P w K mg base CX0 1 "first_unlike_on" P_first_unlike_on (sp_first_unlike_on w K Z)) (G_path_of : Cal P w K mg base CX0 1 "path_of" P_path_of (sp_path_of w K Z)) : Cal P w K mg base CX0 2 "merged_record" P_merged_record (sp_merged_record w K Z) := by
  refine F.cal0 sc_merged_record (fun _ _ _ _ _ _ us hl => match us, hl with | [_, _, _, _], _ => rfl) (by walk_at "len") (fun f cdv Ar outer s H vs Q E hr h => ?_)
  obtain ⟨a, k, o, n, ps, ks, r1, r2, rfl, ha, hk, ho, hn, wf, hz, e1, e2, e3, q⟩ := h
  refine ⟨_, (pss_cons (ps_set (i := 4) sc_merged_record.nd rfl (Or.inl rfl) (pe_lst pa_nil))
      (pss_cons (ps_for PassesOwn.never rfl (pi_range1 (by rfl) T.n_range (pa_cons (pe_callB call_len_seq (by rfl) T.n_len (by first | exact PySem.boot_len | decide +kernel) (pa_cons (pv 0) pa_nil)) pa_nil)) (pg_name (i := 5) sc_merged_record.nd rfl (Or.inl rfl))
      (pss_cons (ps_set (i := 6) sc_merged_record.nd rfl (Or.inl rfl) (pe_cal G_first_unlike_on (hr.mono (by decide)) (by rfl) pass0 (pa_cons (pe_cal G_path_of (hr.mono (by decide)) (by rfl) pass0 (pa_cons (pv 0) (pa_cons (pv 5) pa_nil))) (pa_cons (pv 2) (pa_cons (pv 3) pa_nil)))))
      (pss_one (ps_if (PW.pt (pw_or (pt_cmpR op_isN (pv 6) pe_non (nomark _)) (pw_or (pt_cmpR op_eq (pe_ix ix_tup (pv 1) (pv 6) (fun _ _ => rfl)) pe_str (nomark _)) (pw_or1 (pt_val (pe_cal G_better (hr.mono (by decide)) (by rfl) pass0 (pa_cons (pe_ix ix_tup (pv 1) (pv 6) (fun _ _ => rfl)) (pa_cons (pe_ix ix_tup (pv 2) (pv 6) (fun _ _ => rfl)) (pa_cons (pe_ix ix_tup (pv 3) (pv 6) (fun _ _ => rfl)) pa_nil)))))))))
      (pss_one (ps_expr (pe_bm PySem.F.plainAttrs_list PySem.F.slot_list_append PySem.F.type_list_append mt_append (pv 4) (pa_cons (pe_ix ix_tup (pv 2) (pv 5) (fun _ _ => rfl)) pa_nil)))) (pss_one (ps_expr (pe_bm PySem.F.plainAttrs_list PySem.F.slot_list_append PySem.F.type_list_append mt_append (pv 4) (pa_cons (pe_ix ix_tup (pv 3) (pv 5) (fun _ _ => rfl)) pa_nil))))))))
      (pss_one (ps_ret (pe_callTy call_tuple_of (by rfl) T.n_tuple (by first | exact boot_tuple | decide +kernel) (pa_cons (pv 4) pa_nil)))))), ?_⟩
  refine ⟨Nat.zero_le _, fun l hl => ?_⟩
  have ha' := same_new (o := .lst []) hl _ _ ha
  refine ⟨_, rfl, a, _, rfl, .inr (SqT.of ha'), _, rfl, by omega, by rw [List.length_map]; omega, for_rng (n := ps.length) (by rw [List.length_map]) (fun i σ H' => ∃ v w, σ = [some (.ref a), some (.ref k), some (.ref o), some (.ref n), some (.ref l), v, w] ∧ Same H H' ∧ H' l = some (.lst ((List.range i).map fun f => .int (pick ps ks r1 r2 f))))
    ⟨none, none, rfl, same_new hl, upd_same⟩ ?_ ?_⟩
  · rintro i σ H' hi ⟨v, w', rfl, sm, hL⟩
    refine ⟨_, rfl, _, rfl, a, ps, i, rfl, sm _ _ ha, wf, hi, hz, fun p H2 s2 np hp => ?_⟩
    have sm2 := sm.trans s2
    have hL2 := s2 _ _ hL
    refine ⟨_, rfl, _, rfl, p, o, n, path ps i, r1, r2, rfl, hp, sm2 _ _ ho, sm2 _ _ hn, fun g hg => ?_, ?_⟩
    · have := path_lt wf i hi g hg
      omega
    have app : ∀ (H3 : Hp) (x : Int), Same H H3 → H3 l = some (.lst ((List.range i).map fun f => .int (pick ps ks r1 r2 f))) → pick ps ks r1 r2 i = x →
        (∃ v w, [some (V.ref a), some (.ref k), some (.ref o), some (.ref n), some (.ref l), some (nV i), some (pV (fu (path ps i) r1 r2))] = [some (.ref a), some (.ref k), some (.ref o), some (.ref n), some (.ref l), v, w] ∧ Same H (upd H3 l (.lst (((List.range i).map fun f => .int (pick ps ks r1 r2 f)) ++ [V.int x]))) ∧
          (upd H3 l (.lst (((List.range i).map fun f => .int (pick ps ks r1 r2 f)) ++ [V.int x]))) l = some (.lst ((List.range (i + 1)).map fun f => .int (pick ps ks r1 r2 f)))) := fun H3 x s3 h3 ex => by
      refine ⟨_, _, rfl, same_mut s3 hl, ?_⟩
      rw [upd_same, List.range_succ, List.map_append, ← ex] <;> rfl
    -- place is None or ..
    cases e : fu (path ps i) r1 r2 with
    | none =>
      rw [e] at app
      refine ⟨_, rfl, rfl, _, rfl, ifT rfl ?_⟩
      refine ifT rfl ?_
      refine ⟨_, rfl, .inl ⟨rfl, _, SqL.of hL2⟩, _, rfl, _, rfl, o, _, _, _, rfl, rfl, SqT.of (sm2 _ _ ho), atI_nat (at_atr (by omega)), l, _, _, rfl, rfl, hL2, szl (by rw [List.length_map, List.length_range]; omega), ?_⟩
      exact app H2 _ sm2 hL2 (by unfold pick; rw [e])
    | some g =>
      rw [e] at app
      have hg : g < ps.length := path_lt wf i hi g (by
        obtain ⟨x, y, e2, _⟩ := fu_some e
        rw [e2]
        simp)
      refine ⟨_, rfl, rfl, _, rfl, ifF rfl ?_⟩
      refine ⟨_, rfl, _, rfl, k, _, _, _, rfl, rfl, SqT.of (sm2 _ _ hk), atI_nat (at_kd (by omega)), by cases kd ks g <;> rfl, _, rfl, ?_⟩
      by_cases c1 : kd ks g = .fst
      · refine ifT (by rw [c1]; rfl) (ifT rfl ?_)
        refine ⟨_, rfl, .inl ⟨rfl, _, SqL.of hL2⟩, _, rfl, _, rfl, o, _, _, _, rfl, rfl, SqT.of (sm2 _ _ ho), atI_nat (at_atr (by omega)), l, _, _, rfl, rfl, hL2, szl (by rw [List.length_map, List.length_range]; omega), ?_⟩
        exact app H2 _ sm2 hL2 (by unfold pick; rw [e]; exact if_pos (.inl c1))
      · refine ifF (by revert c1; cases kd ks g <;> intro c1 <;> first | rfl | exact absurd rfl c1) ?_
        refine ⟨_, rfl, _, rfl, k, _, _, _, rfl, rfl, SqT.of (sm2 _ _ hk), atI_nat (at_kd (by omega)), _, rfl, _, rfl, o, _, _, _, rfl, rfl, SqT.of (sm2 _ _ ho), atI_nat (at_atr (by omega)), _, rfl, _, rfl, n, _, _, _, rfl, rfl, SqT.of (sm2 _ _ hn), atI_nat (at_atr (by omega)), kd ks g, _, _, rfl, _, rfl, ?_⟩
        cases c2 : bet (kd ks g) (atr r1 g) (atr r2 g) with
        | true =>
          refine ifT rfl ?_
          refine ⟨_, rfl, .inl ⟨rfl, _, SqL.of hL2⟩, _, rfl, _, rfl, o, _, _, _, rfl, rfl, SqT.of (sm2 _ _ ho), atI_nat (at_atr (by omega)), l, _, _, rfl, rfl, hL2, szl (by rw [List.length_map, List.length_range]; omega), ?_⟩
          exact app H2 _ sm2 hL2 (by unfold pick; rw [e]; exact if_pos (.inr c2))
        | false =>
          refine ifF rfl ?_
          refine ⟨_, rfl, .inl ⟨rfl, _, SqL.of hL2⟩, _, rfl, _, rfl, n, _, _, _, rfl, rfl, SqT.of (sm2 _ _ hn), atI_nat (at_atr (by omega)), l, _, _, rfl, rfl, hL2, szl (by rw [List.length_map, List.length_range]; omega), ?_⟩
          exact app H2 _ sm2 hL2 (by unfold pick; rw [e]; exact if_neg (by rintro (z | z); exact c1 z; rw [c2] at z; cases z))
  · rintro σ H' ⟨v, w', rfl, sm, hL⟩
    refine ⟨_, rfl, l, _, rfl, .inl ⟨SqL.of hL, fun r hr => ?_⟩⟩
    refine q r _ (sm.trans (same_new hr)) (sm.free hr) ?_
    rw [upd_same]
    unfold merge
    rw [List.map_map] <;> rfl
theorem ok_check_record (T : Txt P K Z mg) (F : At K mg "check_record" s_check_record) : Cal P w K mg base (L2.CX P w) 1 "check_record" P_check_record (sp_check_record w K Z) := by
  refine F.calX sc_check_record (fun _ _ _ _ _ _ us hl => match us, hl with | [_, _], _ => rfl) (by walk_at "len") (fun f cdv Ar outer s H vs Q E hr h => ?_)
  obtain ⟨n, r, rs, rfl, hr', q1, q2⟩ := h
  refine ⟨_, (pss_one (ps_if (pt_cmpR op_ne (pe_callB call_len_seq (by rfl) T.n_len (by first | exact PySem.boot_len | decide +kernel) (pa_cons (pv 1) pa_nil)) (pv 0) (nomark _))
      (pss_one (ps_raiseX T.x_BadRecord rfl hr (takes_of rfl rfl rfl rfl) (pa_cons (pv 1) pa_nil))) pss_nil)), ?_⟩
  refine ⟨_, rfl, r, _, rfl, .inr (SqT.of hr'), _, rfl, rfl, _, rfl, ?_⟩
  rw [List.length_map]
  by_cases e : (rs.length : Int) = n
  · refine ifF (by simp [e]) ?_
    exact q2 e
  · refine ifT (by simp [e]) ?_
    exact ⟨_, rfl, _, rfl, fun d hd => (q1 e).at_ hd⟩
theorem ok_check_place (T : Txt P K Z mg) (F : At K mg "check_place" s_check_place) : Cal P w K mg base (L2.CX P w) 1 "check_place" P_check_place (sp_check_place w K Z) := by
  refine F.calX sc_check_place (fun _ _ _ _ _ _ us hl => match us, hl with | [_, _], _ => rfl) (by walk_at "len") (fun f cdv Ar outer s H vs Q E hr h => ?_)
  obtain ⟨n, k, rfl, q1, q2⟩ := h
  refine ⟨_, (pss_one (ps_if (pt_not (pt_chain op_le op_lt pe_int (pv 1) (pv 0)))
      (pss_one (ps_raiseX T.x_BadPlace rfl hr (takes_of rfl rfl rfl rfl) (pa_cons (pv 1) pa_nil))) pss_nil)), ?_⟩
  refine ⟨_, rfl, _, _, rfl, rfl, _, rfl, ?_⟩
  by_cases e0 : 0 ≤ k
  · refine ifT (decide_eq_true e0) ⟨_, rfl, _, _, rfl, rfl, _, rfl, ?_⟩
    by_cases e1 : k < n
    · refine ifF (by simp [e1]) ?_
      exact q2 ⟨e0, e1⟩
    · refine ifT (by simp [e1]) ?_
      exact ⟨_, rfl, _, rfl, fun d hd => (q1 fun z => e1 z.2).at_ hd⟩
  · refine ifF (decide_eq_false e0) ⟨_, rfl, ifT rfl ?_⟩
    exact ⟨_, rfl, _, rfl, fun d hd => (q1 fun z => e0 z.1).at_ hd⟩
theorem ok_check_places (T : Txt P K Z mg) (F : At K mg "check_places" s_check_places) (G_check_place : Cal P w K mg base (L2.CX P w) 1 "check_place" P_check_place (sp_check_place w K Z)) : Cal P w K mg base (L2.CX P w) 2 "check_places" P_check_places (sp_check_places w K Z) := by
  refine F.calX sc_check_places (fun _ _ _ _ _ _ us hl => match us, hl with | [_, _], _ => rfl) (by walk_at "len") (fun f cdv Ar outer s H vs Q E hr h => ?_)
  obtain ⟨n, a, l, rfl, ha, q1, q2⟩ := h
  refine ⟨_, (pss_one (ps_for (passes_of rfl) rfl (pi_list (pv 1)) (pg_name (i := 2) sc_check_places.nd rfl (Or.inl rfl))
      (pss_one (ps_expr (pe_cal G_check_place (hr.mono (by decide)) (by rfl) (passes_call (takes_of rfl rfl rfl rfl) (fun _ _ _ _ h => h)) (pa_cons (pv 0) (pa_cons (pv 2) pa_nil))))))), ?_⟩
  refine ⟨_, rfl, a, rfl, ⟨_, SqL.of ha⟩, for_lp (K := K) (a := a) (l := l) (f := V.int) (fun i σ H' => ∃ v, σ = [some (.int n), some (.ref a), v] ∧ H' = H ∧ bad n i = none)
    ⟨none, rfl, rfl, rfl⟩ (fun i σ H' ⟨_, _, e, _⟩ => by rw [e]; exact SqL.of ha) ?_ ?_⟩
  · rintro i k r σ H' hl' ⟨v, rfl, rfl, hn⟩
    refine ⟨_, rfl, _, rfl, n, k, rfl, fun e => ?_, fun e => ?_⟩
    · refine q1 k ?_
      unfold bad
      rw [hl']
      exact find_cat hn (by simp [e])
    · exact ⟨_, rfl, rfl, find_snoc hn (by simp [e])⟩
  · rintro σ H' ⟨v, rfl, rfl, hn⟩
    exact q2 hn
theorem ok_check_fair (T : Txt P K Z mg) (F : At K mg "check_fair" s_check_fair) : Cal P w K mg base (L2.CX P w) 1 "check_fair" P_check_fair (sp_check_fair w K Z) := by
  refine F.calX sc_check_fair (fun _ _ _ _ _ _ us hl => match us, hl with | [_], _ => rfl) (by walk_at "len") (fun f cdv Ar outer s H vs Q E hr h => ?_)
  obtain ⟨f, ps, ks, rfl, hf, hz, q1, q2⟩ := h
  refine ⟨_, (pss_one (ps_for (passes_of rfl) rfl (pi_range1 (by rfl) T.n_range (pa_cons (pe_fld (pv 0) rfl) pa_nil)) (pg_name (i := 1) sc_check_fair.nd rfl (Or.inl rfl))
      (pss_one (ps_if (pt_cmpR op_in_seq (pe_ix ix_tup (pe_fld (pv 0) rfl) (pv 1) (fun _ _ => rfl)) (pe_tup (pa_cons pe_str (pa_cons pe_str pa_nil))) (by rfl))
      (pss_one (ps_raiseX T.x_NotFair rfl hr (takes_of rfl rfl rfl rfl) (pa_cons (pv 1) pa_nil))) pss_nil)))), ?_⟩
  obtain ⟨dx, a, b, h1, h2, h3, h4⟩ := hf
  refine ⟨_, rfl, f, Z.cF, dx, _, _, rfl, h1, T.cl, T.na1, rfl, _, rfl, by omega, by omega, for_rng (n := ps.length) rfl (fun i σ H' => ∃ v, σ = [some (.ref f), v] ∧ Same H H' ∧ (List.range i).find? (fun f => unf (kd ks f)) = none)
    ⟨none, rfl, fun _ _ z => z, rfl⟩ ?_ ?_⟩
  · rintro i σ H' hi ⟨v, rfl, sm, hn⟩
    refine ⟨_, rfl, f, Z.cF, dx, _, _, rfl, sm _ _ h1, T.cl, T.na3, rfl, _, rfl, b, _, _, _, rfl, rfl, SqT.of (sm _ _ h3), atI_nat (at_kd (by omega)), sz (by show 2 ≤ 100000; decide), fun p hp => ?_⟩
    refine ⟨p, _, rfl, .inr (SqT.of upd_same), by cases kd ks i <;> rfl, rfl, _, rfl, ?_⟩
    show if (inV (kS (kd ks i)) [.str "first", .str "last"]) = true then _ else _
    rw [kS_in]
    have sm2 := sm.trans (same_new (o := .tup [.str "first", .str "last"]) hp)
    cases c : unf (kd ks i) with
    | true =>
      refine ifT rfl ?_
      refine ⟨_, rfl, _, rfl, fun d hd => ((q1 i ?_).same sm2).at_ hd⟩
      unfold unfair
      exact find_rng (by omega) hn c
    | false =>
      refine ifF rfl ?_
      refine ⟨_, rfl, sm2, ?_⟩
      rw [List.range_succ]
      exact find_snoc hn c
  · rintro σ H' ⟨v, rfl, sm, hn⟩
    refine q2 ?_ H' sm
    unfold unfair
    rw [h4]
    exact hn
end
end K56
namespace K56
open PySem PySem.Spec PyProof.Rows L2
/-! ### plain data compared -/
def atomV : V → Bool
  | .non => true
  | .int _ => true
  | .str s => PyData.strOk s
  | _ => false
def pd : V → PyData
  | .int i => .int i
  | .str s => .str s
  | _ => .none
theorem dp_atom {K : PySem.W.Frag} {H : Hp} {x : V} (h : atomV x = true) : Dp K H x (pd x) := by
  cases x with
  | non => exact .non
  | int i => exact .int i
  | str s => exact .str s
  | _ => cases h
theorem dp_atoms {K : PySem.W.Frag} {H : Hp} : ∀ {xs : List V}, xs.all atomV = true → DpAll K H xs (xs.map pd)
  | [], _ => .nil
  | x :: xs, h => by
    rw [List.all_cons, Bool.and_eq_true] at h
    exact .cons (dp_atom h.1) (dp_atoms h.2)
theorem eqv_atom {x y : V} (hx : atomV x = true) (hy : atomV y = true) : PyData.eqv (pd x) (pd y) = decide (x = y) := by
  cases x with
  | non => cases y with
    | non => simp [pd, PyData.eqv]
    | int j => simp [pd, PyData.eqv]
    | str s => simp [pd, PyData.eqv]
    | _ => cases hy
  | int i => cases y with
    | non => simp [pd, PyData.eqv]
    | int j => simp [pd, PyData.eqv, Bool.beq_eq_decide_eq]
    | str s => simp [pd, PyData.eqv]
    | _ => cases hy
  | str s => cases y with
    | non => simp [pd, PyData.eqv]
    | int j => simp [pd, PyData.eqv]
    | str t => simp [pd, PyData.eqv, Bool.beq_eq_decide_eq]
    | _ => cases hy
  | _ => cases hx
theorem eqv_atoms : ∀ {xs ys : List V}, xs.all atomV = true → ys.all atomV = true → PyData.eqvAll (xs.map pd) (ys.map pd) = decide (xs = ys)
  | [], [], _, _ => by simp [PyData.eqvAll]
  | [], _ :: _, _, _ => by simp [PyData.eqvAll]
  | _ :: _, [], _, _ => by simp [PyData.eqvAll]
  | x :: xs, y :: ys, hx, hy => by
    rw [List.all_cons, Bool.and_eq_true] at hx hy
    rw [List.map_cons, List.map_cons]
    show (PyData.eqv (pd x) (pd y) && PyData.eqvAll (xs.map pd) (ys.map pd)) = _
    rw [eqv_atom hx.1 hy.1, eqv_atoms hx.2 hy.2]
    by_cases e : x = y
    · by_cases e2 : xs = ys
      · simp [e, e2]
      · simp [e2]
    · simp [e]
theorem lay_atoms : ∀ {xs : List V}, xs.all atomV = true → PyData.canLayAll0 (xs.map pd) = true
  | [], _ => by simp [PyData.canLayAll0]
  | x :: xs, h => by
    rw [List.all_cons, Bool.and_eq_true] at h
    rw [List.map_cons]
    have e : PyData.canLay0 (pd x) = true := by
      cases x with
      | non => simp [pd, PyData.canLay0]
      | int i => simp [pd, PyData.canLay0]
      | str s => exact (by simpa [pd, PyData.canLay0] using (show PyData.strOk s = true from h.1))
      | _ => cases h.1
    simp [PyData.canLayAll0, e, lay_atoms h.2]
theorem depth_atoms : ∀ xs : List V, PyData.depthAll (xs.map pd) = 0
  | [] => by simp [PyData.depthAll]
  | x :: xs => by
    have e : PyData.depth (pd x) = 0 := by cases x <;> simp [pd, PyData.depth]
    simp [PyData.depthAll, e, depth_atoms xs]
theorem shaped_tup {xs : List V} (h : xs.all atomV = true) : SeqAt.shaped (.tuple (xs.map pd)) = true := by
  unfold SeqAt.shaped
  simp [PyData.canLay0, PyData.depth, lay_atoms h, depth_atoms]
theorem shaped_lst {xs : List V} (h : xs.all atomV = true) : SeqAt.shaped (.list (xs.map pd)) = true := by
  unfold SeqAt.shaped
  simp [PyData.canLay0, PyData.depth, lay_atoms h, depth_atoms]
theorem atoms_int (l : List Int) : (l.map V.int).all atomV = true := by
  rw [List.all_map, List.all_eq_true]
  intro x _
  rfl
theorem atoms_nV (l : List Nat) : (l.map nV).all atomV = true := by
  rw [List.all_map, List.all_eq_true]
  intro x _
  rfl
theorem atoms_pV (l : Par) : (l.map pV).all atomV = true := by
  rw [List.all_map, List.all_eq_true]
  intro x _
  cases x <;> rfl
theorem atoms_kS (l : List Kd) : (l.map kS).all atomV = true := by
  rw [List.all_map, List.all_eq_true]
  intro x _
  cases x <;> decide +kernel
theorem nV_inj {a b : Nat} (h : nV a = nV b) : a = b := by
  have := V.int.inj h
  omega
theorem map_inj' {α : Type} {f : α → V} (hf : ∀ a b, f a = f b → a = b) : ∀ {l m : List α}, l.map f = m.map f → l = m
  | [], [], _ => rfl
  | [], _ :: _, h => by cases h
  | _ :: _, [], h => by cases h
  | a :: l, b :: m, h => by
    rw [List.map_cons, List.map_cons] at h
    obtain ⟨h1, h2⟩ := List.cons.inj h
    rw [hf a b h1, map_inj' hf h2]
theorem dec_map {α : Type} [DecidableEq α] {f : α → V} (hf : ∀ a b, f a = f b → a = b) (l m : List α) : decide (l.map f = m.map f) = decide (l = m) := by
  by_cases e : l = m
  · simp [e]
  · rw [decide_eq_false e, decide_eq_false fun z => e (map_inj' hf z)]
theorem decI (l m : List Int) : decide (l.map V.int = m.map V.int) = decide (l = m) := dec_map (fun _ _ h => V.int.inj h) l m
theorem decN (l m : List Nat) : decide (l.map nV = m.map nV) = decide (l = m) := dec_map (fun _ _ h => nV_inj h) l m
section
variable {K : PySem.W.Frag} {H : Hp} {a b : Addr} {xs ys : List V} {Q : VK}
/-- == of two tuples of plain things -/
theorem eq_tups (ha : SqT K H a xs) (hb : SqT K H b ys) (hx : xs.all atomV = true) (hy : ys.all atomV = true) (q : Q (.bl (decide (xs = ys))) H) : rEqD K (.ref a) (.ref b) H Q :=
  ⟨_, _, .tup ha (dp_atoms hx), .tup hb (dp_atoms hy), shaped_tup hx, shaped_tup hy, by
    show Q (.bl (PyData.eqvAll (xs.map pd) (ys.map pd))) H
    rw [eqv_atoms hx hy]
    exact q⟩
theorem ne_tups (ha : SqT K H a xs) (hb : SqT K H b ys) (hx : xs.all atomV = true) (hy : ys.all atomV = true) (q : Q (.bl (!decide (xs = ys))) H) : rNeD K (.ref a) (.ref b) H Q :=
  ⟨_, _, .tup ha (dp_atoms hx), .tup hb (dp_atoms hy), shaped_tup hx, shaped_tup hy, by
    show Q (.bl (!PyData.eqvAll (xs.map pd) (ys.map pd))) H
    rw [eqv_atoms hx hy]
    exact q⟩
theorem eq_lsts (ha : SqL K H a xs) (hb : SqL K H b ys) (hx : xs.all atomV = true) (hy : ys.all atomV = true) (q : Q (.bl (decide (xs = ys))) H) : rEqD K (.ref a) (.ref b) H Q :=
  ⟨_, _, .lst ha (dp_atoms hx), .lst hb (dp_atoms hy), shaped_lst hx, shaped_lst hy, by
    show Q (.bl (PyData.eqvAll (xs.map pd) (ys.map pd))) H
    rw [eqv_atoms hx hy]
    exact q⟩
theorem ne_lsts (ha : SqL K H a xs) (hb : SqL K H b ys) (hx : xs.all atomV = true) (hy : ys.all atomV = true) (q : Q (.bl (!decide (xs = ys))) H) : rNeD K (.ref a) (.ref b) H Q :=
  ⟨_, _, .lst ha (dp_atoms hx), .lst hb (dp_atoms hy), shaped_lst hx, shaped_lst hy, by
    show Q (.bl (!PyData.eqvAll (xs.map pd) (ys.map pd))) H
    rw [eqv_atoms hx hy]
    exact q⟩
end
/-! ### dicts of ints -/
theorem dV_keys (ch : Chg) : (dV ch).map (fun kv => kV kv.1) = (ch.map (·.1)).map V.int := by
  unfold dV
  rw [List.map_map, List.map_map] <;> rfl
theorem valV_dV (k : Int) : ∀ ch : Chg, valV (dV ch) (Sum.inl k) = (look ch k).map V.int
  | [] => rfl
  | q :: ch => by
    have ih := valV_dV k ch
    show valV ((Sum.inl q.1, V.int q.2) :: dV ch) (Sum.inl k) = _
    by_cases e : q.1 = k
    · rw [valV_pos (by rw [e])]
      simp [look, List.find?_cons, e]
    · rw [valV_neg (by intro z; exact e (Sum.inl.inj z)), ih]
      simp [look, List.find?_cons, e]
theorem dV_some (ch : Chg) (k : Int) : (valV (dV ch) (Sum.inl k)).isSome = inC ch k := by
  rw [valV_dV]
  unfold inC
  cases look ch k <;> rfl
theorem dV_getD (ch : Chg) (k d : Int) : (valV (dV ch) (Sum.inl k)).getD (.int d) = .int ((look ch k).getD d) := by
  rw [valV_dV]
  cases look ch k <;> rfl
theorem inC_iff {ch : Chg} {k : Int} : inC ch k = true ↔ k ∈ ch.map (·.1) := by
  unfold inC look
  cases e : ch.find? fun q => decide (q.1 = k) with
  | none =>
    constructor
    · intro h
      cases h
    · intro h
      obtain ⟨q, hq, rfl⟩ := List.mem_map.mp h
      have := List.find?_eq_none.mp e q hq
      simp at this
  | some q =>
    constructor
    · intro _
      have := List.find?_some e
      exact List.mem_map.mpr ⟨q, List.mem_of_find?_eq_some e, by simpa using this⟩
    · intro _
      rfl
/-! ### slices -/
theorem cut_last (xs : List V) : cutV xs none (some (-1)) = xs.dropLast := by
  unfold cutV
  rw [HT.sIx_none]
  show (xs.drop 0).take (HT.sIx xs.length xs.length (some (-1)) - 0) = xs.dropLast
  have e : HT.sIx xs.length xs.length (some (-1)) = xs.length - 1 := by
    show (if (-1 : Int) < 0 then ((-1 : Int) + (xs.length : Int)).toNat else min (-1 : Int).toNat xs.length) = xs.length - 1
    rw [if_pos (by decide)]
    omega
  rw [e, List.drop_zero, Nat.sub_zero, List.dropLast_eq_take]
theorem fair_of {ks : List Kd} (h : unfair ks = none) : fair ks := by
  intro k hk
  obtain ⟨i, hi, rfl⟩ := List.getElem_of_mem hk
  have := List.find?_eq_none.mp h i (by simpa using hi)
  have e : kd ks i = ks[i] := gd_lt hi
  rw [e] at this
  revert this
  cases ks[i] <;> simp [unf]
theorem unfair_of {ks : List Kd} (h : fair ks) : unfair ks = none := by
  refine List.find?_eq_none.mpr fun i _ => ?_
  rcases fair_kd h i with e | e <;> rw [e] <;> decide
end K56
namespace K56
open PySem PySem.Spec PyProof.Rows L2
local macro_rules | `(tactic| walk_at "len") => `(tactic| (intro vs H Q E h; repeat' (first | (rcases h with ⟨e, _⟩; exact congrArg List.length e) | (rcases h with ⟨_, h⟩))))
abbrev s_check_write : Stmt := top 27
abbrev N_check_write : List Str := ["forest", "base", "changes"]
abbrev P_check_write : List Str := ["forest", "base", "changes"]
theorem sc_check_write : FnScope N_check_write P_check_write (defScope s_check_write) := ⟨rfl, rfl, rfl, by decide +kernel, rfl, by decide +kernel, by decide +kernel⟩
abbrev s_with_values : Stmt := top 28
abbrev N_with_values : List Str := ["base", "changes", "field"]
abbrev P_with_values : List Str := ["base", "changes"]
theorem sc_with_values : FnScope N_with_values P_with_values (defScope s_with_values) := ⟨rfl, rfl, rfl, by decide +kernel, rfl, by decide +kernel, by decide +kernel⟩
abbrev s_fields_above : Stmt := top 29
abbrev N_fields_above : List Str := ["forest", "field"]
abbrev P_fields_above : List Str := ["forest", "field"]
theorem sc_fields_above : FnScope N_fields_above P_fields_above (defScope s_fields_above) := ⟨rfl, rfl, rfl, by decide +kernel, rfl, by decide +kernel, by decide +kernel⟩
abbrev s_steps_of : Stmt := top 30
abbrev N_steps_of : List Str := ["forest", "base", "changes", "new", "steps", "field", "kind"]
abbrev P_steps_of : List Str := ["forest", "base", "changes"]
theorem sc_steps_of : FnScope N_steps_of P_steps_of (defScope s_steps_of) := ⟨rfl, rfl, rfl, by decide +kernel, rfl, by decide +kernel, by decide +kernel⟩
abbrev s_blocked_in : Stmt := top 31
abbrev N_blocked_in : List Str := ["forest", "steps", "blocked", "field", "place"]
abbrev P_blocked_in : List Str := ["forest", "steps"]
theorem sc_blocked_in : FnScope N_blocked_in P_blocked_in (defScope s_blocked_in) := ⟨rfl, rfl, rfl, by decide +kernel, rfl, by decide +kernel, by decide +kernel⟩
abbrev s_lands : Stmt := top 32
abbrev N_lands : List Str := ["forest", "base", "changes", "new"]
abbrev P_lands : List Str := ["forest", "base", "changes"]
theorem sc_lands : FnScope N_lands P_lands (defScope s_lands) := ⟨rfl, rfl, rfl, by decide +kernel, rfl, by decide +kernel, by decide +kernel⟩
abbrev s_free_above : Stmt := top 33
abbrev N_free_above : List Str := ["forest", "changes", "field", "place"]
abbrev P_free_above : List Str := ["forest", "changes", "field"]
theorem sc_free_above : FnScope N_free_above P_free_above (defScope s_free_above) := ⟨rfl, rfl, rfl, by decide +kernel, rfl, by decide +kernel, by decide +kernel⟩
/-- the lowest key that is no field -/
def LBad (n : Nat) (ch : Chg) (k : Int) : Prop := k ∈ ch.map (·.1) ∧ ¬ (0 ≤ k ∧ k < (n : Int)) ∧ ∀ j : Int, j ∈ ch.map (·.1) → ¬ (0 ≤ j ∧ j < (n : Int)) → k ≤ j
def sp_check_write (w : World) (K : PySem.W.Frag) (Z : Ad) : Sp := fun vs H Q E => ∃ (f r d : Addr) (ps : Par) (ks : List Kd) (rs : List Int) (ch : Chg), vs = [.ref f, .ref r, .ref d] ∧ FoAt Z H f ps ks ∧ H r = some (.tup (rs.map V.int)) ∧ H d = some (.dK (dV ch)) ∧ ps.length ≤ 1000 ∧
  (∀ k, unfair ks = some k → Err Z.cNF "field" (nV k) H E) ∧ (unfair ks = none → rs.length ≠ ps.length → Err Z.cBR "record" (.ref r) H E) ∧
  (unfair ks = none → rs.length = ps.length → ∀ k, LBad ps.length ch k → Err Z.cBP "place" (.int k) H E) ∧
  (unfair ks = none → rs.length = ps.length → (∀ k : Int, k ∈ ch.map (·.1) → 0 ≤ k ∧ k < (ps.length : Int)) → ∀ H', Same H H' → Q .non H')
def sp_with_values (w : World) (K : PySem.W.Frag) (Z : Ad) : Sp := fun vs H Q _ => ∃ (r d : Addr) (rs : List Int) (ch : Chg), vs = [.ref r, .ref d] ∧ H r = some (.tup (rs.map V.int)) ∧ H d = some (.dK (dV ch)) ∧ rs.length ≤ 1000 ∧
  ∀ p H', Same H H' → H p = none → H' p = some (.tup ((wv rs ch).map V.int)) → Q (.ref p) H'
def sp_fields_above (w : World) (K : PySem.W.Frag) (Z : Ad) : Sp := fun vs H Q _ => ∃ (f : Addr) (ps : Par) (ks : List Kd) (i : Nat), vs = [.ref f, nV i] ∧ FoAt Z H f ps ks ∧ WF ps ∧ i < ps.length ∧ ps.length ≤ 1000 ∧
  ∀ p H', Same H H' → H p = none → H' p = some (.tup ((path ps i).dropLast.map nV)) → Q (.ref p) H'
/-- a good write: a fair forest, the right base -/
structure Good (Z : Ad) (H : Hp) (f r d : Addr) (ps : Par) (ks : List Kd) (rs : List Int) (ch : Chg) : Prop where
  fo : FoAt Z H f ps ks
  r : H r = some (.tup (rs.map V.int))
  d : H d = some (.dK (dV ch))
  wf : WF ps
  z : ps.length ≤ 16
  fair : fair ks
  len : rs.length = ps.length
  keys : ∀ k : Int, k ∈ ch.map (·.1) → 0 ≤ k ∧ k < (ps.length : Int)
theorem Good.same {Z : Ad} {H H' : Hp} {f r d : Addr} {ps : Par} {ks : List Kd} {rs : List Int} {ch : Chg} (g : Good Z H f r d ps ks rs ch) (s : Same H H') : Good Z H' f r d ps ks rs ch := { g with fo := g.fo.same s, r := s _ _ g.r, d := s _ _ g.d }
def sp_steps_of (w : World) (K : PySem.W.Frag) (Z : Ad) : Sp := fun vs H Q _ => ∃ (f r d : Addr) (ps : Par) (ks : List Kd) (rs : List Int) (ch : Chg), vs = [.ref f, .ref r, .ref d] ∧ Good Z H f r d ps ks rs ch ∧
  ∀ p H', Same H H' → H p = none → H' p = some (.tup ((List.range ps.length).map fun i => .int (sw ks rs ch i))) → Q (.ref p) H'
def sp_blocked_in (w : World) (K : PySem.W.Frag) (Z : Ad) : Sp := fun vs H Q _ => ∃ (f s : Addr) (ps : Par) (ks : List Kd) (rs : List Int) (ch : Chg), vs = [.ref f, .ref s] ∧ FoAt Z H f ps ks ∧ WF ps ∧ ps.length ≤ 1000 ∧ H s = some (.tup ((List.range ps.length).map fun i => .int (sw ks rs ch i))) ∧
  ∀ p H', Same H H' → H p = none → H' p = some (.tup ((blk ps ks rs ch).map nV)) → Q (.ref p) H'
def sp_lands (w : World) (K : PySem.W.Frag) (Z : Ad) : Sp := fun vs H Q _ => ∃ (f r d : Addr) (ps : Par) (ks : List Kd) (rs : List Int) (ch : Chg), vs = [.ref f, .ref r, .ref d] ∧ Good Z H f r d ps ks rs ch ∧
  ∀ H', Same H H' → Q (.bl (decide (merge ps ks rs (wv rs ch) = wv rs ch))) H'
def sp_free_above (w : World) (K : PySem.W.Frag) (Z : Ad) : Sp := fun vs H Q _ => ∃ (f d : Addr) (ps : Par) (ks : List Kd) (ch : Chg) (i : Nat), vs = [.ref f, .ref d, nV i] ∧ FoAt Z H f ps ks ∧ H d = some (.dK (dV ch)) ∧ WF ps ∧ i < ps.length ∧ ps.length ≤ 1000 ∧ inC ch (i : Int) = true ∧
  ∀ p H', Same H H' → H p = none → H' p = some (.lst ((frA ps ch i).map nV)) → Q (.ref p) H'
theorem path_len {ps : Par} (w : WF ps) : ∀ f, f < ps.length → (path ps f).Nodup ∧ (path ps f).length ≤ ps.length := by
  have nd : ∀ f, f < ps.length → (path ps f).Nodup := by
    intro f hf
    refine List.nodup_iff_pairwise_ne.mpr ?_
    rw [List.pairwise_iff_getElem]
    intro i j hi hj hij e
    have e1 := split_at hi
    have e2 := split_at hj
    have p1 := path_pre w f hf _ _ _ e1
    have p2 := path_pre w f hf _ _ _ e2
    rw [e, p2] at p1
    have := congrArg List.length p1
    simp at this
    omega
  intro f hf
  refine ⟨nd f hf, ?_⟩
  have := len_le_of_sub (m := List.range ps.length) (nd f hf) fun x hx => List.mem_range.mpr (path_lt w f hf x hx)
  simpa using this
theorem sw_prog {k : Kd} (hk : k = .up ∨ k = .down) (o n : Int) : ((if bet k n o = true then 1 else 0 : Int) - (if bet k o n = true then 1 else 0)) = stp k o n := by
  unfold stp
  by_cases e : o = n
  · subst e
    rw [if_pos rfl]
    have : bet k o o = false := by rcases hk with rfl | rfl <;> simp [bet]
    rw [this]
    rfl
  · rw [if_neg e, bet_or hk e]
    cases bet k n o <;> rfl
section
variable {P : Program} {w : World} {K : PySem.W.Frag} {mg : Str → Option Value} {base : Heap} {Z : Ad}
theorem ok_check_write (T : Txt P K Z mg) (F : At K mg "check_write" s_check_write) (G_check_fair : Cal P w K mg base (L2.CX P w) 1 "check_fair" P_check_fair (sp_check_fair w K Z)) (G_check_places : Cal P w K mg base (L2.CX P w) 2 "check_places" P_check_places (sp_check_places w K Z)) (G_check_record : Cal P w K mg base (L2.CX P w) 1 "check_record" P_check_record (sp_check_record w K Z)) : Cal P w K mg base (L2.CX P w) 3 "check_write" P_check_write (sp_check_write w K Z) := by
  refine F.calX sc_check_write (fun _ _ _ _ _ _ us hl => match us, hl with | [_, _, _], _ => rfl) (by walk_at "len") (fun f cdv Ar outer s H vs Q E hr h => ?_)
  obtain ⟨f, r, d, ps, ks, rs, ch, rfl, hf, hr', hd, hz, q1, q2, q3, q4⟩ := h
  refine ⟨_, (pss_cons (ps_expr (pe_cal G_check_fair (hr.mono (by decide)) (by rfl) (passes_call (takes_of rfl rfl rfl rfl) (fun _ _ _ _ h => h)) (pa_cons (pv 0) pa_nil)))
      (pss_cons (ps_expr (pe_cal G_check_record (hr.mono (by decide)) (by rfl) (passes_call (takes_of rfl rfl rfl rfl) (fun _ _ _ _ h => h)) (pa_cons (pe_fld (pv 0) rfl) (pa_cons (pv 1) pa_nil))))
      (pss_one (ps_expr (pe_cal G_check_places (hr.mono (by decide)) (by rfl) (passes_call (takes_of rfl rfl rfl rfl) (fun _ _ _ _ h => h)) (pa_cons (pe_fld (pv 0) rfl) (pa_cons (pe_callB cr_sortedI (by rfl) T.n_sorted (by first | exact PySem.boot_sorted | decide +kernel) (pa_cons (pe_callTy (call_listD rfl) (by rfl) T.n_list (by first | exact boot_list | decide +kernel) (pa_cons (pv 2) pa_nil)) pa_nil)) pa_nil))))))), ?_⟩
  -- check_fair(forest)
  refine ⟨_, rfl, f, ps, ks, rfl, hf, hz, q1, fun hu H1 s1 => ?_⟩
  have hf1 := hf.same s1
  obtain ⟨dx, a, b, h1, h2, h3, h4⟩ := id hf1
  -- check_record(forest.fields, base)
  refine ⟨_, rfl, f, Z.cF, dx, _, _, rfl, h1, T.cl, T.na1, rfl, _, rfl, _, r, rs, rfl, s1 _ _ hr', fun e => (q2 hu (by omega)).same s1, fun e => ?_⟩
  have e' : rs.length = ps.length := by omega
  -- check_places(forest.fields, sorted(list(changes)))
  refine ⟨_, rfl, f, Z.cF, dx, _, _, rfl, h1, T.cl, T.na1, rfl, _, rfl, d, _, rfl, .inl (s1 _ _ hd), fun l hl => ?_⟩
  refine ⟨l, ch.map (·.1), rfl, SqL.of (by rw [upd_same, dV_keys]), fun ns' p perm ord hp => ?_⟩
  have s2 := s1.trans ((same_new (o := .lst ((dV ch).map fun kv => kV kv.1)) hl).trans (same_new (o := .lst (ns'.map V.int)) hp))
  refine ⟨_, p, ns', rfl, upd_same, fun k hk => (q3 hu e' k ?_).same s2, fun hn => q4 hu e' (fun k hk => ?_) _ s2⟩
  · unfold bad at hk
    obtain ⟨hb, x, y, e2, hx⟩ := List.find?_eq_some_iff_append.mp hk
    have hb' : ¬ (0 ≤ k ∧ k < (ps.length : Int)) := by
      intro z
      rw [decide_eq_true z] at hb
      cases hb
    refine ⟨perm.mem_iff.mp (by rw [e2]; simp), hb', fun j hj hjb => ?_⟩
    have hj' := perm.mem_iff.mpr hj
    rw [e2] at hj' ord
    rcases List.mem_append.mp hj' with z | z
    · have := hx j z
      simp only [Bool.not_not, decide_eq_true_eq] at this
      exact absurd this hjb
    · rcases List.mem_cons.mp z with z | z
      · omega
      · exact (List.pairwise_cons.mp (List.pairwise_append.mp ord).2.1).1 j z
  · unfold bad at hn
    have := List.find?_eq_none.mp hn k (perm.mem_iff.mpr hk)
    by_cases z : 0 ≤ k ∧ k < (ps.length : Int)
    · exact z
    · rw [decide_eq_false z] at this
      exact absurd rfl this
theorem ok_with_values (T : Txt P K Z mg) (F : At K mg "with_values" s_with_values) : Cal P w K mg base CX0 1 "with_values" P_with_values (sp_with_values w K Z) := by
  refine F.cal0 sc_with_values (fun _ _ _ _ _ _ us hl => match us, hl with | [_, _], _ => rfl) (by walk_at "len") (fun f cdv Ar outer s H vs Q E hr h => ?_)
  obtain ⟨r, d, rs, ch, rfl, hr', hd, hz, q⟩ := h
  refine ⟨_, (pss_one (ps_ret (pe_callTy call_tuple_of (by rfl) T.n_tuple (by first | exact boot_tuple | decide +kernel) (pa_cons (pe_lc (own := [("field", 2)]) (g := gName 2) rfl sc_with_values.nd (pi_range1 (by rfl) T.n_range (pa_cons (pe_callB call_len_seq (by rfl) T.n_len (by first | exact PySem.boot_len | decide +kernel) (pa_cons (pv 0) pa_nil)) pa_nil)) (blkOk_by (own := [("field", 2)]) (N := N_with_values) (sc := defScope s_with_values) (by decide +kernel)) (fun _ _ _ _ _ => pg_name (i := 2) sc_with_values.nd rfl (Or.inl rfl)) (fun _ _ _ _ _ => pts_nil) (fun _ _ _ _ _ => (pe_dget2 (hu_of hr) (pv 1) (pv 2) (pe_ix (show IxR _ (rIxT K) from ix_tup) (pv 0) (pv 2) (fun _ _ => rfl)) ⟨rfl, rfl, rfl, rfl⟩))) pa_nil)))), ?_⟩
  refine ⟨_, rfl, r, _, rfl, .inr (SqT.of hr'), _, rfl, by omega, by rw [List.length_map]; omega, fun p np => ?_⟩
  refine lcR np (n := rs.length) (by rw [List.length_map]) (fun _ => true) (fun i => .int ((look ch (i : Int)).getD (atr rs i))) (by omega) (fun i hi => ⟨rfl, fun H' _ R k => k H' (Same.refl _), fun _ H' s1 R k => ?_⟩) (fun H' s1 hp => ?_)
  · refine ⟨_, rfl, d, rfl, .inl ⟨_, .inl (s1 _ _ hd)⟩, _, rfl, _, rfl, _, rfl, r, _, _, _, rfl, rfl, SqT.of (s1 _ _ hr'), atI_nat (at_atr hi), _, DGet.k (k := Sum.inl (i : Int)) (s1 _ _ hd), ?_⟩
    rw [dV_getD]
    exact k H' (Same.refl _)
  · refine ⟨p, _, rfl, .inl ⟨SqL.of hp, fun t ht => q t _ (s1.trans (same_new ht)) (s1.free ht) ?_⟩⟩
    rw [upd_same]
    unfold wv
    rw [List.map_map, List.filter_eq_self.mpr (by intro _ _; rfl)] <;> rfl
theorem ok_fields_above (T : Txt P K Z mg) (F : At K mg "fields_above" s_fields_above) (G_path_of : Cal P w K mg base CX0 1 "path_of" P_path_of (sp_path_of w K Z)) : Cal P w K mg base CX0 2 "fields_above" P_fields_above (sp_fields_above w K Z) := by
  refine F.cal0 sc_fields_above (fun _ _ _ _ _ _ us hl => match us, hl with | [_, _], _ => rfl) (by walk_at "len") (fun f cdv Ar outer s H vs Q E hr h => ?_)
  obtain ⟨f, ps, ks, i, rfl, hf, wf, hi, hz, q⟩ := h
  refine ⟨_, (pss_one (ps_ret (pe_slice sl_tupA (pe_cal G_path_of (hr.mono (by decide)) (by rfl) pass0 (pa_cons (pe_fld (pv 0) rfl) (pa_cons (pv 1) pa_nil))) po_none (po_some (pe_un un_neg pe_int))))), ?_⟩
  obtain ⟨dx, a, b, h1, h2, h3, h4⟩ := id hf
  refine ⟨_, rfl, f, Z.cF, dx, _, _, rfl, h1, T.cl, T.na2, rfl, _, rfl, a, ps, i, rfl, h2, wf, hi, hz, fun p H1 s1 np hp => ?_⟩
  obtain ⟨l, el⟩ := path_last wf hi
  refine ⟨1, rfl, -1, rfl, p, _, rfl, SqT.of hp, fun z => ?_, fun _ t ht => ?_⟩
  · exfalso
    have z2 := z.2
    rw [el] at z2
    have e : HT.sIx ((l ++ [i]).map nV).length ((l ++ [i]).map nV).length (some (-1)) = l.length := by
      show (if (-1 : Int) < 0 then ((-1 : Int) + (((l ++ [i]).map nV).length : Int)).toNat else min (-1 : Int).toNat ((l ++ [i]).map nV).length) = l.length
      rw [if_pos (by decide), List.length_map, List.length_append, List.length_singleton]
      omega
    have z3 : HT.sIx ((l ++ [i]).map nV).length ((l ++ [i]).map nV).length (some (-1)) = ((l ++ [i]).map nV).length := z2
    rw [e, List.length_map, List.length_append, List.length_singleton] at z3
    omega
  · refine q t _ (s1.trans (same_new ht)) (s1.free ht) ?_
    rw [upd_same]
    show some (HO.tup (cutV _ none (some (-1)))) = _
    rw [cut_last, List.map_dropLast]
theorem ok_steps_of (T : Txt P K Z mg) (F : At K mg "steps_of" s_steps_of) (G_better : Cal P w K mg base CX0 1 "better" P_better (sp_better w K Z)) (G_with_values : Cal P w K mg base CX0 1 "with_values" P_with_values (sp_with_values w K Z)) : Cal P w K mg base CX0 2 "steps_of" P_steps_of (sp_steps_of w K Z) := by
  refine F.cal0 sc_steps_of (fun _ _ _ _ _ _ us hl => match us, hl with | [_, _, _], _ => rfl) (by walk_at "len") (fun f cdv Ar outer s H vs Q E hr h => ?_)
  obtain ⟨f, r, d, ps, ks, rs, ch, rfl, g, q⟩ := h
  refine ⟨_, (pss_cons (ps_set (i := 3) sc_steps_of.nd rfl (Or.inl rfl) (pe_cal G_with_values (hr.mono (by decide)) (by rfl) pass0 (pa_cons (pv 1) (pa_cons (pv 2) pa_nil))))
      (pss_cons (ps_set (i := 4) sc_steps_of.nd rfl (Or.inl rfl) (pe_lst pa_nil))
      (pss_cons (ps_for PassesOwn.never rfl (pi_range1 (by rfl) T.n_range (pa_cons (pe_fld (pv 0) rfl) pa_nil)) (pg_name (i := 5) sc_steps_of.nd rfl (Or.inl rfl))
      (pss_cons (ps_set (i := 6) sc_steps_of.nd rfl (Or.inl rfl) (pe_ix ix_tup (pe_fld (pv 0) rfl) (pv 5) (fun _ _ => rfl)))
      (pss_one (ps_expr (pe_bm PySem.F.plainAttrs_list PySem.F.slot_list_append PySem.F.type_list_append mt_append (pv 4) (pa_cons (pe_op op_sub (pe_callTy call_int1 (by rfl) T.n_int (by first | exact boot_int | decide +kernel) (pa_cons (pe_cal G_better (hr.mono (by decide)) (by rfl) pass0 (pa_cons (pv 6) (pa_cons (pe_ix ix_tup (pv 3) (pv 5) (fun _ _ => rfl)) (pa_cons (pe_ix ix_tup (pv 1) (pv 5) (fun _ _ => rfl)) pa_nil)))) pa_nil)) (pe_callTy call_int1 (by rfl) T.n_int (by first | exact boot_int | decide +kernel) (pa_cons (pe_cal G_better (hr.mono (by decide)) (by rfl) pass0 (pa_cons (pv 6) (pa_cons (pe_ix ix_tup (pv 1) (pv 5) (fun _ _ => rfl)) (pa_cons (pe_ix ix_tup (pv 3) (pv 5) (fun _ _ => rfl)) pa_nil)))) pa_nil))) pa_nil))))))
      (pss_one (ps_ret (pe_callTy call_tuple_of (by rfl) T.n_tuple (by first | exact boot_tuple | decide +kernel) (pa_cons (pv 4) pa_nil))))))), ?_⟩
  have hz : ps.length ≤ 1000 := Nat.le_trans g.z (by decide)
  have hl := g.len
  refine ⟨_, rfl, _, rfl, r, d, rs, ch, rfl, g.r, g.d, by omega, fun n H1 s1 nn hn => ?_⟩
  refine ⟨Nat.zero_le _, fun l nl => ?_⟩
  have s2 := s1.trans (same_new (o := .lst []) nl)
  have hn2 := same_new (o := .lst []) nl _ _ hn
  have nl1 : H1 l = none := nl
  obtain ⟨dx, a, b, h1, h2, h3, h4⟩ := id g.fo
  refine ⟨_, rfl, f, Z.cF, dx, _, _, rfl, s2 _ _ h1, T.cl, T.na1, rfl, _, rfl, by omega, by omega, for_rng (n := ps.length) rfl (fun i σ H' => ∃ v w, σ = [some (.ref f), some (.ref r), some (.ref d), some (.ref n), some (.ref l), v, w] ∧ Same H1 H' ∧ H' l = some (.lst ((List.range i).map fun i => .int (sw ks rs ch i))))
    ⟨none, none, rfl, same_new nl, upd_same⟩ ?_ ?_⟩
  · rintro i σ H' hi ⟨v, w', rfl, sm, hL⟩
    have s3 := s1.trans sm
    have hwl : i < (wv rs ch).length := by rw [wv_len]; omega
    refine ⟨_, rfl, f, Z.cF, dx, _, _, rfl, s3 _ _ h1, T.cl, T.na3, rfl, _, rfl, b, _, _, _, rfl, rfl, SqT.of (s3 _ _ h3), atI_nat (at_kd (by omega)), ?_⟩
    refine ⟨_, rfl, .inl ⟨rfl, _, SqL.of hL⟩, ?_⟩
    refine ⟨_, rfl, _, rfl, _, rfl, n, _, _, _, rfl, rfl, SqT.of (sm _ _ hn), atI_nat (at_atr hwl), _, rfl, _, rfl, r, _, _, _, rfl, rfl, SqT.of (s3 _ _ g.r), atI_nat (at_atr (by omega)), kd ks i, _, _, rfl, .inr ⟨_, rfl, ?_⟩⟩
    refine ⟨_, rfl, _, rfl, _, rfl, r, _, _, _, rfl, rfl, SqT.of (s3 _ _ g.r), atI_nat (at_atr (by omega)), _, rfl, _, rfl, n, _, _, _, rfl, rfl, SqT.of (sm _ _ hn), atI_nat (at_atr hwl), kd ks i, _, _, rfl, .inr ⟨_, rfl, ?_⟩⟩
    refine ⟨_, _, rfl, rfl, l, _, _, rfl, rfl, hL, szl (by rw [List.length_map, List.length_range]; omega), ?_⟩
    refine ⟨_, _, rfl, same_mut sm nl1, ?_⟩
    rw [upd_same, List.range_succ, List.map_append]
    show some (HO.lst (_ ++ [V.int (_ - _)])) = _
    rw [sw_prog (fair_kd g.fair i)] <;> rfl
  · rintro σ H' ⟨v, w', rfl, sm, hL⟩
    refine ⟨_, rfl, l, _, rfl, .inl ⟨SqL.of hL, fun t ht => ?_⟩⟩
    exact q t _ ((s1.trans sm).trans (same_new ht)) ((s1.trans sm).free ht) upd_same
theorem ok_blocked_in (T : Txt P K Z mg) (F : At K mg "blocked_in" s_blocked_in) (G_fields_above : Cal P w K mg base CX0 2 "fields_above" P_fields_above (sp_fields_above w K Z)) : Cal P w K mg base CX0 3 "blocked_in" P_blocked_in (sp_blocked_in w K Z) := by
  refine F.cal0 sc_blocked_in (fun _ _ _ _ _ _ us hl => match us, hl with | [_, _], _ => rfl) (by walk_at "len") (fun f cdv Ar outer s H vs Q E hr h => ?_)
  obtain ⟨f, st, ps, ks, rs, ch, rfl, hf, wf, hz, hst, q⟩ := h
  refine ⟨_, (pss_cons (ps_set (i := 2) sc_blocked_in.nd rfl (Or.inl rfl) (pe_lst pa_nil))
      (pss_cons (ps_for PassesOwn.never rfl (pi_range1 (by rfl) T.n_range (pa_cons (pe_fld (pv 0) rfl) pa_nil)) (pg_name (i := 3) sc_blocked_in.nd rfl (Or.inl rfl))
      (pss_one (ps_if (PW.pt (pw_and (pt_cmpR op_lt (pe_ix ix_tup (pv 1) (pv 3) (fun _ _ => rfl)) pe_int (nomark _)) (pw_and1 (pt_not (pt_val (pe_callB (cr_any rfl) (by rfl) T.n_any (by first | exact PySem.boot_any | decide +kernel) (pa_cons (pe_lc (own := [("place", 4)]) (g := gName 4) rfl sc_blocked_in.nd (pi_tup (pe_cal G_fields_above (hr.mono (by decide)) (by rfl) pass0 (pa_cons (pv 0) (pa_cons (pv 3) pa_nil)))) (blkOk_by (own := [("place", 4)]) (N := N_blocked_in) (sc := defScope s_blocked_in) (by decide +kernel)) (fun _ _ _ _ _ => pg_name (i := 4) sc_blocked_in.nd rfl (Or.inl rfl)) (fun _ _ _ _ _ => pts_nil) (fun _ _ _ _ _ => (pe_cmpR op_gt (pe_ix (show IxR _ (rIxT K) from ix_tup) (pv 1) (pv 4) (fun _ _ => rfl)) pe_int (nomark _)))) pa_nil)))))))
      (pss_one (ps_expr (pe_bm PySem.F.plainAttrs_list PySem.F.slot_list_append PySem.F.type_list_append mt_append (pv 2) (pa_cons (pv 3) pa_nil)))) pss_nil)))
      (pss_one (ps_ret (pe_callTy call_tuple_of (by rfl) T.n_tuple (by first | exact boot_tuple | decide +kernel) (pa_cons (pv 2) pa_nil)))))), ?_⟩
  refine ⟨Nat.zero_le _, fun l nl => ?_⟩
  have s2 := same_new (o := .lst []) nl
  obtain ⟨dx, a, b, h1, h2, h3, h4⟩ := id hf
  have at_st : ∀ {i : Nat}, i < ps.length → ((List.range ps.length).map fun i => V.int (sw ks rs ch i))[i]? = some (.int (sw ks rs ch i)) := fun {i} hi => by
    rw [at_map _ (by simpa using hi), List.getElem_range]
  refine ⟨_, rfl, f, Z.cF, dx, _, _, rfl, s2 _ _ h1, T.cl, T.na1, rfl, _, rfl, by omega, by omega, for_rng (n := ps.length) rfl (fun i σ H' => ∃ v, σ = [some (.ref f), some (.ref st), some (.ref l), v, none] ∧ Same H H' ∧ H' l = some (.lst (((List.range i).filter (isBlk ps ks rs ch)).map nV)))
    ⟨none, rfl, s2, upd_same⟩ ?_ ?_⟩
  · rintro i σ H' hi ⟨v, rfl, sm, hL⟩
    have fin0 : isBlk ps ks rs ch i = false → ∀ H3, Same H H3 → H3 l = some (.lst (((List.range i).filter (isBlk ps ks rs ch)).map nV)) → H3 l = some (.lst (((List.range (i + 1)).filter (isBlk ps ks rs ch)).map nV)) := fun e H3 _ h => by
      rw [h, List.range_succ, List.filter_append, List.filter_cons, if_neg (by rw [e]; decide)]
      simp
    refine ⟨_, rfl, _, rfl, st, _, _, _, rfl, rfl, SqT.of (sm _ _ hst), atI_nat (at_st hi), _, _, rfl, rfl, _, rfl, ?_⟩
    by_cases c : sw ks rs ch i < 0
    · refine ifT (decide_eq_true c) ?_
      refine ⟨_, rfl, _, rfl, f, ps, ks, i, rfl, hf.same sm, wf, hi, hz, fun p H2 s2' np hp => ?_⟩
      have sm2 := sm.trans s2'
      refine ⟨p, rfl, ⟨_, SqT.of hp⟩, fun m nm => ?_⟩
      have pl := (path_len wf i hi).2
      refine lcT nm (l := (path ps i).dropLast) (f := nV) (fun _ => true) (fun g => .bl (decide (0 < sw ks rs ch g))) (by rw [List.length_dropLast]; omega) (fun H3 s3 => SqT.of (s3 _ _ hp)) (fun g hg => ⟨rfl, fun H3 _ R k => k H3 (Same.refl _), fun _ H3 s3 R k => ?_⟩) (fun H3 s3 hm => ?_)
      · have hgl := path_lt wf i hi g (List.dropLast_subset _ hg)
        exact ⟨_, rfl, _, rfl, st, _, _, _, rfl, rfl, SqT.of ((sm2.trans s3) _ _ hst), atI_nat (at_st hgl), _, _, rfl, rfl, k H3 (Same.refl _)⟩
      · have sm3 := sm2.trans s3
        have hL3 := s3 _ _ (s2' _ _ hL)
        refine ⟨m, (path ps i).dropLast.map fun g => decide (0 < sw ks rs ch g), rfl, SqL.of (by rw [hm, List.filter_eq_self.mpr (by intro _ _; rfl), List.map_map] <;> rfl), _, rfl, ?_⟩
        have any_eq : (((path ps i).dropLast.map fun g => decide (0 < sw ks rs ch g)).any id) = (path ps i).any fun g => decide (0 < sw ks rs ch g) := by
          obtain ⟨y, ey⟩ := path_last wf hi
          rw [ey, List.dropLast_concat, List.any_map, List.any_append]
          have : (List.any [i] fun g => decide (0 < sw ks rs ch g)) = false := by
            simp
            omega
          rw [this, Bool.or_false] <;> rfl
        rw [any_eq]
        cases c2 : (path ps i).any fun g => decide (0 < sw ks rs ch g) with
        | true =>
          refine ifF rfl ?_
          exact ⟨_, rfl, sm3, fin0 (by unfold isBlk; rw [c2, decide_eq_true c]; rfl) H3 sm3 hL3⟩
        | false =>
          refine ifT rfl ?_
          refine ⟨_, rfl, .inl ⟨rfl, _, SqL.of hL3⟩, _, rfl, l, _, _, rfl, rfl, hL3, szl ?_, ?_⟩
          · rw [List.length_map]
            have := List.length_filter_le (isBlk ps ks rs ch) (List.range i)
            rw [List.length_range] at this
            omega
          · refine ⟨_, rfl, same_mut sm3 nl, ?_⟩
            rw [upd_same, List.range_succ, List.filter_append, List.map_append, List.filter_cons, if_pos (by unfold isBlk; rw [c2, decide_eq_true c]; rfl)] <;> rfl
    · refine ifF (decide_eq_false c) ?_
      exact ifF rfl ⟨_, rfl, sm, fin0 (by unfold isBlk; rw [decide_eq_false c]; rfl) H' sm hL⟩
  · rintro σ H' ⟨v, rfl, sm, hL⟩
    refine ⟨_, rfl, l, _, rfl, .inl ⟨SqL.of hL, fun t ht => ?_⟩⟩
    exact q t _ (sm.trans (same_new ht)) (sm.free ht) upd_same
theorem ok_lands (T : Txt P K Z mg) (F : At K mg "lands" s_lands) (G_check_write : Cal P w K mg base (L2.CX P w) 3 "check_write" P_check_write (sp_check_write w K Z)) (G_merged_record : Cal P w K mg base CX0 2 "merged_record" P_merged_record (sp_merged_record w K Z)) (G_with_values : Cal P w K mg base CX0 1 "with_values" P_with_values (sp_with_values w K Z)) : Cal P w K mg base CX0 4 "lands" P_lands (sp_lands w K Z) := by
  refine F.cal0 sc_lands (fun _ _ _ _ _ _ us hl => match us, hl with | [_, _, _], _ => rfl) (by walk_at "len") (fun f cdv Ar outer s H vs Q E hr h => ?_)
  obtain ⟨f, r, d, ps, ks, rs, ch, rfl, g, q⟩ := h
  refine ⟨_, (pss_cons (ps_expr (pe_cal G_check_write (hr.mono (by decide)) (by rfl) passL (pa_cons (pv 0) (pa_cons (pv 1) (pa_cons (pv 2) pa_nil)))))
      (pss_cons (ps_set (i := 3) sc_lands.nd rfl (Or.inl rfl) (pe_cal G_with_values (hr.mono (by decide)) (by rfl) pass0 (pa_cons (pv 1) (pa_cons (pv 2) pa_nil))))
      (pss_one (ps_ret (pe_cmpR (op_eqD hr.units) (pe_cal G_merged_record (hr.mono (by decide)) (by rfl) pass0 (pa_cons (pe_fld (pv 0) rfl) (pa_cons (pe_fld (pv 0) rfl) (pa_cons (pv 1) (pa_cons (pv 3) pa_nil))))) (pv 3) (nomark _)))))), ?_⟩
  have hz : ps.length ≤ 1000 := Nat.le_trans g.z (by decide)
  have hl := g.len
  have hu := unfair_of g.fair
  refine ⟨_, rfl, _, rfl, _, rfl, f, r, d, ps, ks, rs, ch, rfl, g.fo, g.r, g.d, hz, fun k e => ?_, fun _ e => absurd hl e, fun _ _ k e => absurd (g.keys k e.1) e.2.1, fun _ _ _ H1 s1 => ?_⟩
  · rw [hu] at e
    cases e
  · have g1 := g.same s1
    refine ⟨_, rfl, _, rfl, r, d, rs, ch, rfl, g1.r, g1.d, by omega, fun n H2 s2 nn hn => ?_⟩
    have g2 := g1.same s2
    obtain ⟨dx, a, b, h1, h2, h3, h4⟩ := id g2.fo
    refine ⟨_, rfl, f, Z.cF, dx, _, _, rfl, h1, T.cl, T.na2, rfl, _, rfl, f, Z.cF, dx, _, _, rfl, h1, T.cl, T.na3, rfl, _, rfl, _, rfl, ?_⟩
    refine ⟨a, b, r, n, ps, ks, rs, wv rs ch, rfl, h2, h3, g2.r, hn, g2.wf, hz, h4, hl, by rw [wv_len]; omega, fun m H3 s3 nm hm => ?_⟩
    refine ⟨_, rfl, eq_tups (SqT.of hm) (SqT.of (s3 _ _ hn)) (atoms_int _) (atoms_int _) ?_⟩
    rw [decI]
    exact q H3 ((s1.trans s2).trans s3)
theorem ok_free_above (T : Txt P K Z mg) (F : At K mg "free_above" s_free_above) (G_fields_above : Cal P w K mg base CX0 2 "fields_above" P_fields_above (sp_fields_above w K Z)) : Cal P w K mg base CX0 3 "free_above" P_free_above (sp_free_above w K Z) := by
  refine F.cal0 sc_free_above (fun _ _ _ _ _ _ us hl => match us, hl with | [_, _, _], _ => rfl) (by walk_at "len") (fun f cdv Ar outer s H vs Q E hr h => ?_)
  obtain ⟨f, d, ps, ks, ch, i, rfl, hf, hd, wf, hi, hz, hc, q⟩ := h
  refine ⟨_, (pss_one (ps_ret (pe_lc (own := [("place", 3)]) (g := gName 3) rfl sc_free_above.nd (pi_tup (pe_cal G_fields_above (hr.mono (by decide)) (by rfl) pass0 (pa_cons (pv 0) (pa_cons (pv 2) pa_nil)))) (blkOk_by (own := [("place", 3)]) (N := N_free_above) (sc := defScope s_free_above) (by decide +kernel)) (fun _ _ _ _ _ => pg_name (i := 3) sc_free_above.nd rfl (Or.inl rfl)) (fun _ _ _ _ _ => pts_one (pt_cmp (pc_dnotin (hu_of hr) (pv 3) (pv 1)))) (fun _ _ _ _ _ => (pv 3))))), ?_⟩
  refine ⟨_, rfl, _, rfl, f, ps, ks, i, rfl, hf, wf, hi, hz, fun p H2 s2 np hp => ?_⟩
  refine ⟨p, rfl, ⟨_, SqT.of hp⟩, fun m nm => ?_⟩
  have pl := (path_len wf i hi).2
  refine lcT nm (l := (path ps i).dropLast) (f := nV) (fun g => !inC ch (g : Int)) nV (by rw [List.length_dropLast]; omega) (fun H3 s3 => SqT.of (s3 _ _ hp)) (fun g hg => ⟨rfl, fun H3 s3 R k => ?_, fun _ H3 s3 R k => ⟨_, rfl, k H3 (Same.refl _)⟩⟩) (fun H3 s3 hm => ?_)
  · refine ⟨_, rfl, _, rfl, d, _, rfl, DGet.k (k := Sum.inl (g : Int)) (s3 _ _ (s2 _ _ hd)), _, rfl, ?_⟩
    rw [dV_some]
    exact k H3 (Same.refl _)
  · refine q m H3 (s2.trans s3) (s2.free nm) ?_
    rw [hm]
    unfold frA
    obtain ⟨y, ey⟩ := path_last wf hi
    rw [ey, List.dropLast_concat, List.filter_append, List.filter_cons, if_neg (by rw [hc]; decide)]
    simp
end
end K56
namespace K56
open PySem PySem.Spec PyProof.Rows L2
local macro_rules | `(tactic| walk_at "len") => `(tactic| (intro vs H Q E h; repeat' (first | (rcases h with ⟨e, _⟩; exact congrArg List.length e) | (rcases h with ⟨_, h⟩))))
abbrev s_raises_at : Stmt := top 34
abbrev N_raises_at : List Str := ["forest", "base", "changes", "end", "chosen", "field", "free"]
abbrev P_raises_at : List Str := ["forest", "base", "changes", "end"]
theorem sc_raises_at : FnScope N_raises_at P_raises_at (defScope s_raises_at) := ⟨rfl, rfl, rfl, by decide +kernel, rfl, by decide +kernel, by decide +kernel⟩
abbrev s_nearest_raises : Stmt := top 35
abbrev N_nearest_raises : List Str := ["forest", "base", "changes"]
abbrev P_nearest_raises : List Str := ["forest", "base", "changes"]
theorem sc_nearest_raises : FnScope N_nearest_raises P_nearest_raises (defScope s_nearest_raises) := ⟨rfl, rfl, rfl, by decide +kernel, rfl, by decide +kernel, by decide +kernel⟩
abbrev s_fewest_raises : Stmt := top 36
abbrev N_fewest_raises : List Str := ["forest", "base", "changes"]
abbrev P_fewest_raises : List Str := ["forest", "base", "changes"]
theorem sc_fewest_raises : FnScope N_fewest_raises P_fewest_raises (defScope s_fewest_raises) := ⟨rfl, rfl, rfl, by decide +kernel, rfl, by decide +kernel, by decide +kernel⟩
abbrev s_with_raises : Stmt := top 37
abbrev N_with_raises : List Str := ["forest", "base", "changes", "stamps", "result", "place"]
abbrev P_with_raises : List Str := ["forest", "base", "changes", "stamps"]
theorem sc_with_raises : FnScope N_with_raises P_with_raises (defScope s_with_raises) := ⟨rfl, rfl, rfl, by decide +kernel, rfl, by decide +kernel, by decide +kernel⟩
abbrev s_reach : Stmt := top 38
abbrev N_reach : List Str := ["forest", "fields", "given", "result", "field", "place"]
abbrev P_reach : List Str := ["forest", "fields"]
theorem sc_reach : FnScope N_reach P_reach (defScope s_reach) := ⟨rfl, rfl, rfl, by decide +kernel, rfl, by decide +kernel, by decide +kernel⟩
/-- the fields that a choice takes -/
def rsl (ps : Par) (ks : List Kd) (rs : List Int) (ch : Chg) (sel : List Nat → Option Nat) : List Nat := (List.range ps.length).filter fun g => (blk ps ks rs ch).any fun f => decide (sel (frA ps ch f) = some g)
theorem rsl_near {ps : Par} {ks : List Kd} {rs : List Int} {ch : Chg} : rsl ps ks rs ch List.getLast? = near ps ks rs ch := rfl
theorem rsl_few {ps : Par} {ks : List Kd} {rs : List Int} {ch : Chg} : rsl ps ks rs ch List.head? = few ps ks rs ch := rfl
structure Sel (e : Int) (sel : List Nat → Option Nat) : Prop where
  some : ∀ l : List Nat, l ≠ [] → ∃ g, sel l = some g ∧ g ∈ l ∧ atI (l.map nV) e = some (nV g)
theorem sel_last : Sel (-1) List.getLast? := ⟨fun l h => ⟨l.getLast h, List.getLast?_eq_some_getLast h, List.getLast_mem h, by
  have e : l.map nV = l.dropLast.map nV ++ [nV (l.getLast h)] := by
    rw [← List.map_singleton, ← List.map_append, List.dropLast_concat_getLast]
  rw [e]
  exact atI_last _ _⟩⟩
theorem sel_head : Sel 0 List.head? := ⟨fun l h => ⟨l.head h, List.head?_eq_some_head h, List.head_mem h, by
  cases l with
  | nil => exact absurd rfl h
  | cons a l => exact atI_nat (j := 0) rfl⟩⟩
def sp_raises_at (w : World) (K : PySem.W.Frag) (Z : Ad) : Sp := fun vs H Q E => ∃ (f r d : Addr) (e : Int) (ps : Par) (ks : List Kd) (rs : List Int) (ch : Chg) (sel : List Nat → Option Nat), vs = [.ref f, .ref r, .ref d, .int e] ∧ Good Z H f r d ps ks rs ch ∧ Sel e sel ∧
  (∀ k, cannot ps ks rs ch = some k → Err Z.cCL "field" (nV k) H E) ∧ (cannot ps ks rs ch = none → ∀ p H', Same H H' → H p = none → H' p = some (.tup ((rsl ps ks rs ch sel).map nV)) → Q (.ref p) H')
/-- the outcomes of nearest_raises, fewest_raises -/
def SpRaises (Z : Ad) (sel : List Nat → Option Nat) : Sp := fun vs H Q E => ∃ (f r d : Addr) (ps : Par) (ks : List Kd) (rs : List Int) (ch : Chg), vs = [.ref f, .ref r, .ref d] ∧ FoAt Z H f ps ks ∧ H r = some (.tup (rs.map V.int)) ∧ H d = some (.dK (dV ch)) ∧ WF ps ∧ ps.length ≤ 16 ∧
  (∀ k, unfair ks = some k → Err Z.cNF "field" (nV k) H E) ∧ (unfair ks = none → rs.length ≠ ps.length → Err Z.cBR "record" (.ref r) H E) ∧
  (unfair ks = none → rs.length = ps.length → ∀ k, LBad ps.length ch k → Err Z.cBP "place" (.int k) H E) ∧
  (unfair ks = none → rs.length = ps.length → (∀ k : Int, k ∈ ch.map (·.1) → 0 ≤ k ∧ k < (ps.length : Int)) → (∀ k, cannot ps ks rs ch = some k → Err Z.cCL "field" (nV k) H E) ∧
    (cannot ps ks rs ch = none → ∀ p H', Same H H' → H p = none → H' p = some (.tup ((rsl ps ks rs ch sel).map nV)) → Q (.ref p) H'))
def sp_nearest_raises (w : World) (K : PySem.W.Frag) (Z : Ad) : Sp := SpRaises Z List.getLast?
def sp_fewest_raises (w : World) (K : PySem.W.Frag) (Z : Ad) : Sp := SpRaises Z List.head?
def raisedCh (ks : List Kd) (rs : List Int) (S : List Nat) : Chg := S.map fun g : Nat => ((g : Int), rai (kd ks g) (atr rs g) 1)
def sp_with_raises (w : World) (K : PySem.W.Frag) (Z : Ad) : Sp := fun vs H Q _ => ∃ (f r d l : Addr) (ps : Par) (ks : List Kd) (rs : List Int) (ch : Chg) (S : List Nat), vs = [.ref f, .ref r, .ref d, .ref l] ∧ Good Z H f r d ps ks rs ch ∧ H l = some (.lst (S.map nV)) ∧ S.Nodup ∧ S.length ≤ 1000 ∧ ch.length ≤ 1000 ∧
  (∀ g ∈ S, g < ps.length ∧ inC ch (g : Int) = false) ∧ ∀ p H', Same H H' → H p = none → H' p = some (.dK (dV (ch ++ raisedCh ks rs S))) → Q (.ref p) H'
def sp_reach (w : World) (K : PySem.W.Frag) (Z : Ad) : Sp := fun vs H Q _ => ∃ (f l : Addr) (ps : Par) (ks : List Kd) (S : List Nat), vs = [.ref f, .ref l] ∧ FoAt Z H f ps ks ∧ fair ks ∧ WF ps ∧ ps.length ≤ 16 ∧ H l = some (.lst (S.map nV)) ∧ (∀ g ∈ S, g < ps.length) ∧
  ∀ p H', Same H H' → H p = none → H' p = some (.tup ((reachL ps S).map nV)) → Q (.ref p) H'
/-- what is chosen by the fields of a list -/
def hit (ps : Par) (ch : Chg) (sel : List Nat → Option Nat) (p : List Nat) : Int → Bool := fun k => p.any fun f => match sel (frA ps ch f) with
  | some g => decide (k = (g : Int))
  | none => false
theorem asc_eq : ∀ {a b : List Int}, a.Pairwise (· < ·) → b.Pairwise (· < ·) → (∀ k, k ∈ a ↔ k ∈ b) → a = b
  | [], [], _, _, _ => rfl
  | [], y :: b, _, _, h => absurd ((h y).mpr List.mem_cons_self) (by simp)
  | x :: a, [], _, _, h => absurd ((h x).mp List.mem_cons_self) (by simp)
  | x :: a, y :: b, ha, hb, h => by
    obtain ⟨ha1, ha2⟩ := List.pairwise_cons.mp ha
    obtain ⟨hb1, hb2⟩ := List.pairwise_cons.mp hb
    have e : x = y := by
      rcases List.mem_cons.mp ((h x).mp List.mem_cons_self) with q | q
      · exact q
      · rcases List.mem_cons.mp ((h y).mpr List.mem_cons_self) with q2 | q2
        · exact q2.symm
        · have := hb1 x q
          have := ha1 y q2
          omega
    subst e
    rw [asc_eq ha2 hb2 fun k => ?_]
    constructor
    · intro hk
      rcases List.mem_cons.mp ((h k).mp (List.mem_cons_of_mem _ hk)) with q | q
      · have := ha1 k hk
        omega
      · exact q
    · intro hk
      rcases List.mem_cons.mp ((h k).mpr (List.mem_cons_of_mem _ hk)) with q | q
      · have := hb1 k hk
        omega
      · exact q
theorem asc_map {l : List Nat} (h : l.Pairwise (· < ·)) : (l.map fun g : Nat => (g : Int)).Pairwise (· < ·) := by
  rw [List.pairwise_map]
  exact h.imp fun h => by omega
theorem asc_filter {n : Nat} {p : Nat → Bool} : ((List.range n).filter p).Pairwise (· < ·) := List.pairwise_lt_range.sublist List.filter_sublist
theorem rsl_hit {ps : Par} {ks : List Kd} {rs : List Int} {ch : Chg} {e : Int} {sel : List Nat → Option Nat} (w : WF ps) (hs : Sel e sel) (hb : ∀ f ∈ blk ps ks rs ch, frA ps ch f ≠ []) {ns : List Int} (h1 : ns.Pairwise (· < ·)) (h2 : ∀ k, k ∈ ns ↔ hit ps ch sel (blk ps ks rs ch) k = true) :
    ns.map V.int = (rsl ps ks rs ch sel).map nV := by
  have e : ns = (rsl ps ks rs ch sel).map fun g : Nat => (g : Int) := by
    refine asc_eq h1 (asc_map asc_filter) fun k => ?_
    rw [h2]
    unfold hit rsl
    rw [List.any_eq_true]
    constructor
    · rintro ⟨f, hf, q⟩
      obtain ⟨g, hg, hgm, _⟩ := hs.some _ (hb f hf)
      rw [hg] at q
      have q : k = (g : Int) := of_decide_eq_true q
      refine List.mem_map.mpr ⟨g, List.mem_filter.mpr ⟨List.mem_range.mpr ?_, List.any_eq_true.mpr ⟨f, hf, decide_eq_true hg⟩⟩, q.symm⟩
      exact path_lt w f (mem_blk.mp hf).1 g (mem_frA.mp hgm).1
    · intro hk
      obtain ⟨g, hg, rfl⟩ := List.mem_map.mp hk
      obtain ⟨f, hf, q⟩ := List.any_eq_true.mp (List.mem_filter.mp hg).2
      have q := of_decide_eq_true q
      refine ⟨f, hf, ?_⟩
      rw [q]
      exact decide_eq_true rfl
  rw [e, List.map_map] <;> rfl
theorem in_nV {a : Nat} {S : List Nat} : inV (nV a) (S.map nV) = decide (a ∈ S) := by
  unfold inV
  rw [List.any_map]
  by_cases h : a ∈ S
  · rw [decide_eq_true h, List.any_eq_true]
    exact ⟨a, h, by simp [eqV]⟩
  · rw [decide_eq_false h, List.any_eq_false]
    intro x hx
    simp only [Function.comp, eqV, beq_iff_eq]
    intro z
    have : x = a := by omega
    exact h (this ▸ hx)
theorem flat_nV (S : List Nat) : (S.map nV).all flatV = true := by
  rw [List.all_map, List.all_eq_true]
  intro x _
  rfl
theorem putK_dV {ch : Chg} {k v : Int} (h : inC ch k = false) : putK (dV ch) (Sum.inl k) (.int v) = dV (ch ++ [(k, v)]) := by
  rw [putK_new (V.int v) (by rw [valV_dV]; unfold inC at h; cases e : look ch k with | none => rfl | some y => rw [e] at h; cases h)]
  unfold dV
  rw [List.map_append] <;> rfl
theorem inC_app {a b : Chg} {k : Int} : inC (a ++ b) k = (inC a k || inC b k) := by
  have e : ∀ c : Chg, inC c k = decide (k ∈ c.map (·.1)) := fun c => by
    by_cases h : k ∈ c.map (·.1)
    · rw [decide_eq_true h, inC_iff.mpr h]
    · rw [decide_eq_false h, Bool.eq_false_iff]
      exact fun z => h (inC_iff.mp z)
  rw [e, e, e, List.map_append]
  by_cases h1 : k ∈ a.map (·.1) <;> by_cases h2 : k ∈ b.map (·.1)
  · rw [decide_eq_true (List.mem_append.mpr (.inl h1)), decide_eq_true h1] <;> rfl
  · rw [decide_eq_true (List.mem_append.mpr (.inl h1)), decide_eq_true h1] <;> rfl
  · rw [decide_eq_true (List.mem_append.mpr (.inr h2)), decide_eq_true h2, Bool.or_true]
  · rw [decide_eq_false fun z => (List.mem_append.mp z).elim h1 h2, decide_eq_false h1, decide_eq_false h2] <;> rfl
section
variable {P : Program} {w : World} {K : PySem.W.Frag} {mg : Str → Option Value} {base : Heap} {Z : Ad}
theorem ok_raises_at (T : Txt P K Z mg) (F : At K mg "raises_at" s_raises_at) (G_blocked_in : Cal P w K mg base CX0 3 "blocked_in" P_blocked_in (sp_blocked_in w K Z)) (G_free_above : Cal P w K mg base CX0 3 "free_above" P_free_above (sp_free_above w K Z)) (G_steps_of : Cal P w K mg base CX0 2 "steps_of" P_steps_of (sp_steps_of w K Z)) : Cal P w K mg base (L2.CX P w) 4 "raises_at" P_raises_at (sp_raises_at w K Z) := by
  refine F.calX sc_raises_at (fun _ _ _ _ _ _ us hl => match us, hl with | [_, _, _, _], _ => rfl) (by walk_at "len") (fun f cdv Ar outer s H vs Q E hr h => ?_)
  obtain ⟨f, r, d, e, ps, ks, rs, ch, sel, rfl, g, hs, q1, q2⟩ := h
  refine ⟨_, (pss_cons (ps_set (i := 4) sc_raises_at.nd rfl (Or.inl rfl) (pe_callTy0 cr_set0 (by rfl) T.n_set (by decide +kernel)))
      (pss_cons (ps_for (passes_of rfl) rfl (pi_tup (pe_cal G_blocked_in (hr.mono (by decide)) (by rfl) pass0 (pa_cons (pv 0) (pa_cons (pe_cal G_steps_of (hr.mono (by decide)) (by rfl) pass0 (pa_cons (pv 0) (pa_cons (pv 1) (pa_cons (pv 2) pa_nil)))) pa_nil)))) (pg_name (i := 5) sc_raises_at.nd rfl (Or.inl rfl))
      (pss_cons (ps_set (i := 6) sc_raises_at.nd rfl (Or.inl rfl) (pe_cal G_free_above (hr.mono (by decide)) (by rfl) pass0 (pa_cons (pv 0) (pa_cons (pv 2) (pa_cons (pv 5) pa_nil)))))
      (pss_cons (ps_if (pt_cmpR op_eq (pe_callB call_len_seq (by rfl) T.n_len (by first | exact PySem.boot_len | decide +kernel) (pa_cons (pv 6) pa_nil)) pe_int (nomark _))
      (pss_one (ps_raiseX T.x_CannotLand rfl hr (takes_of rfl rfl rfl rfl) (pa_cons (pv 5) pa_nil))) pss_nil)
      (pss_one (ps_expr (pe_sadd (pv 4) (pa_cons (pe_ix ix_list (pv 6) (pv 3) (fun _ _ => rfl)) pa_nil)))))))
      (pss_one (ps_ret (pe_callTy call_tuple_of (by rfl) T.n_tuple (by first | exact boot_tuple | decide +kernel) (pa_cons (pe_callB (cr_sortedSet rfl) (by rfl) T.n_sorted (by first | exact PySem.boot_sorted | decide +kernel) (pa_cons (pv 4) pa_nil)) pa_nil)))))), ?_⟩
  refine ⟨rfl, fun c nc => ?_⟩
  have s0 := same_new (o := SetO w c (fun _ => false) 0) nc
  have g0 := g.same s0
  refine ⟨_, rfl, _, rfl, _, rfl, _, rfl, f, r, d, ps, ks, rs, ch, rfl, g0, fun st H1 s1 nst hst => ?_⟩
  have g1 := g0.same s1
  refine ⟨f, st, ps, ks, rs, ch, rfl, g1.fo, g1.wf, Nat.le_trans g1.z (by decide), hst, fun B H2 s2 nB hB => ?_⟩
  have g2 := g1.same s2
  have hc2 : H2 c = some (SetO w c (fun _ => false) 0) := s2 _ _ (s1 _ _ upd_same)
  refine ⟨B, rfl, ⟨_, SqT.of hB⟩, for_tp (K := K) (a := B) (l := blk ps ks rs ch) (f := nV) (fun p σ H' => ∃ v w1 m, σ = [some (.ref f), some (.ref r), some (.ref d), some (.int e), some (.ref c), v, w1] ∧ Same H H' ∧ H' c = some (SetO w c (hit ps ch sel p) m) ∧ m ≤ p.length ∧ H' B = some (.tup ((blk ps ks rs ch).map nV)) ∧ p.find? (fun f => (frA ps ch f).isEmpty) = none)
    ⟨none, none, 0, rfl, s0.trans (s1.trans s2), hc2, Nat.le_refl _, hB, rfl⟩ (fun p σ H' ⟨_, _, _, _, _, _, _, h, _⟩ => SqT.of h) ?_ ?_⟩
  · rintro p i r' σ H' hl ⟨v, w1, m, rfl, sm, hc, hm, hB', hn⟩
    have hi : i ∈ blk ps ks rs ch := by rw [hl]; simp
    obtain ⟨hin, hlow, _⟩ := mem_blk.mp hi
    have g3 := g.same sm
    refine ⟨_, rfl, _, rfl, _, rfl, f, d, ps, ks, ch, i, rfl, g3.fo, g3.d, g3.wf, hin, Nat.le_trans g3.z (by decide), low_in (ks := ks) g3.len hin (by omega), fun F H3 s3 nF hF => ?_⟩
    have hc3 := s3 _ _ hc
    have sm3 := sm.trans s3
    refine ⟨_, rfl, F, _, rfl, .inl (SqL.of hF), rfl, _, rfl, ?_⟩
    cases eF : frA ps ch i with
    | nil =>
      refine ifT rfl ?_
      refine ⟨_, rfl, _, rfl, fun dd hd => ((q1 i ?_).same sm3).at_ hd⟩
      unfold cannot
      rw [hl]
      exact find_cat hn (by rw [eF]; rfl)
    | cons x l =>
      refine ifF (by rw [List.length_map]; simp; omega) ?_
      obtain ⟨y, hy, _, hat⟩ := hs.some (frA ps ch i) (by rw [eF]; simp)
      have neB : B ≠ c := ne_of (s3 _ _ hB') hc3 (by intro z; cases z)
      refine ⟨_, rfl, ⟨c, _, _, rfl, hc3⟩, _, rfl, _, rfl, F, _, _, _, rfl, rfl, SqL.of hF, hat, c, _, _, _, rfl, rfl, hc3, ?_, ?_⟩
      · have h1 : m ≤ 16 := by
          have := congrArg List.length hl
          rw [List.length_append, List.length_cons] at this
          have h2 : (blk ps ks rs ch).length ≤ ps.length := by
            have := List.length_filter_le (isBlk ps ks rs ch) (List.range ps.length)
            rw [List.length_range] at this
            exact this
          have := g.z
          omega
        exact Nat.lt_of_le_of_lt (Nat.succ_le_succ h1) (by decide)
      · refine ⟨_, _, if hit ps ch sel p (y : Int) = true then m else m + 1, rfl, same_mut sm3 nc, ?_, ?_, by rw [upd_ne neB]; exact s3 _ _ hB', find_snoc hn (by rw [eF]; rfl)⟩
        · rw [upd_same]
          have eh : (fun j => hit ps ch sel p j || decide (j = (y : Int))) = hit ps ch sel (p ++ [i]) := by
            funext j
            unfold hit
            rw [List.any_append, List.any_cons, hy]
            simp
          exact congrArg (fun z => some (SetO w c z (if hit ps ch sel p (y : Int) = true then m else m + 1))) eh
        · rw [List.length_append, List.length_singleton]
          split <;> omega
  · rintro σ H' ⟨v, w1, m, rfl, sm, hc, hm, hB', hn⟩
    have hcn : cannot ps ks rs ch = none := hn
    have h2 : (blk ps ks rs ch).length ≤ ps.length := by
      have := List.length_filter_le (isBlk ps ks rs ch) (List.range ps.length)
      rw [List.length_range] at this
      exact this
    have gz := g.z
    refine ⟨_, rfl, c, _, m, rfl, hc, by omega, fun ns p asc mem _ np => ?_⟩
    refine ⟨p, _, rfl, .inl ⟨SqL.of upd_same, fun t nt => ?_⟩⟩
    refine q2 hcn t _ (sm.trans ((same_new np).trans (same_new nt))) (sm.free ((same_new (o := .lst (ns.map V.int)) np).free nt)) ?_
    rw [upd_same, rsl_hit g.wf hs (fun f hf hz => ?_) asc mem]
    have := List.find?_eq_none.mp hcn f hf
    rw [hz] at this
    exact this rfl
theorem ok_nearest_raises (T : Txt P K Z mg) (F : At K mg "nearest_raises" s_nearest_raises) (G_check_write : Cal P w K mg base (L2.CX P w) 3 "check_write" P_check_write (sp_check_write w K Z)) (G_raises_at : Cal P w K mg base (L2.CX P w) 4 "raises_at" P_raises_at (sp_raises_at w K Z)) : Cal P w K mg base (L2.CX P w) 5 "nearest_raises" P_nearest_raises (sp_nearest_raises w K Z) := by
  refine F.calX sc_nearest_raises (fun _ _ _ _ _ _ us hl => match us, hl with | [_, _, _], _ => rfl) (by walk_at "len") (fun f cdv Ar outer s H vs Q E hr h => ?_)
  obtain ⟨f, r, d, ps, ks, rs, ch, rfl, hf, hr', hd, wf, hz, q1, q2, q3, q4⟩ := h
  refine ⟨_, (pss_cons (ps_expr (pe_cal G_check_write (hr.mono (by decide)) (by rfl) (passes_call (takes_of rfl rfl rfl rfl) (fun _ _ _ _ h => h)) (pa_cons (pv 0) (pa_cons (pv 1) (pa_cons (pv 2) pa_nil)))))
      (pss_one (ps_ret (pe_cal G_raises_at (hr.mono (by decide)) (by rfl) (passes_call (takes_of rfl rfl rfl rfl) (fun _ _ _ _ h => h)) (pa_cons (pv 0) (pa_cons (pv 1) (pa_cons (pv 2) (pa_cons (pe_un un_neg pe_int) pa_nil)))))))), ?_⟩
  refine ⟨_, rfl, _, rfl, _, rfl, f, r, d, ps, ks, rs, ch, rfl, hf, hr', hd, Nat.le_trans hz (by decide), q1, q2, q3, fun a b c H1 s1 => ?_⟩
  obtain ⟨q5, q6⟩ := q4 a b c
  refine ⟨_, rfl, _, rfl, _, rfl, 1, rfl, f, r, d, -1, ps, ks, rs, ch, List.getLast?, rfl, ⟨hf.same s1, s1 _ _ hr', s1 _ _ hd, wf, hz, fair_of a, b, c⟩, sel_last, fun k e => (q5 k e).same s1, fun e p H2 s2 np hp => q6 e p H2 (s1.trans s2) (s1.free np) hp⟩
theorem ok_fewest_raises (T : Txt P K Z mg) (F : At K mg "fewest_raises" s_fewest_raises) (G_check_write : Cal P w K mg base (L2.CX P w) 3 "check_write" P_check_write (sp_check_write w K Z)) (G_raises_at : Cal P w K mg base (L2.CX P w) 4 "raises_at" P_raises_at (sp_raises_at w K Z)) : Cal P w K mg base (L2.CX P w) 5 "fewest_raises" P_fewest_raises (sp_fewest_raises w K Z) := by
  refine F.calX sc_fewest_raises (fun _ _ _ _ _ _ us hl => match us, hl with | [_, _, _], _ => rfl) (by walk_at "len") (fun f cdv Ar outer s H vs Q E hr h => ?_)
  obtain ⟨f, r, d, ps, ks, rs, ch, rfl, hf, hr', hd, wf, hz, q1, q2, q3, q4⟩ := h
  refine ⟨_, (pss_cons (ps_expr (pe_cal G_check_write (hr.mono (by decide)) (by rfl) (passes_call (takes_of rfl rfl rfl rfl) (fun _ _ _ _ h => h)) (pa_cons (pv 0) (pa_cons (pv 1) (pa_cons (pv 2) pa_nil)))))
      (pss_one (ps_ret (pe_cal G_raises_at (hr.mono (by decide)) (by rfl) (passes_call (takes_of rfl rfl rfl rfl) (fun _ _ _ _ h => h)) (pa_cons (pv 0) (pa_cons (pv 1) (pa_cons (pv 2) (pa_cons pe_int pa_nil)))))))), ?_⟩
  refine ⟨_, rfl, _, rfl, _, rfl, f, r, d, ps, ks, rs, ch, rfl, hf, hr', hd, Nat.le_trans hz (by decide), q1, q2, q3, fun a b c H1 s1 => ?_⟩
  obtain ⟨q5, q6⟩ := q4 a b c
  refine ⟨_, rfl, _, rfl, _, rfl, f, r, d, 0, ps, ks, rs, ch, List.head?, rfl, ⟨hf.same s1, s1 _ _ hr', s1 _ _ hd, wf, hz, fair_of a, b, c⟩, sel_head, fun k e => (q5 k e).same s1, fun e p H2 s2 np hp => q6 e p H2 (s1.trans s2) (s1.free np) hp⟩
theorem ok_with_raises (T : Txt P K Z mg) (F : At K mg "with_raises" s_with_raises) (G_check_place : Cal P w K mg base (L2.CX P w) 1 "check_place" P_check_place (sp_check_place w K Z)) (G_check_write : Cal P w K mg base (L2.CX P w) 3 "check_write" P_check_write (sp_check_write w K Z)) (G_raised : Cal P w K mg base CX0 1 "raised" P_raised (sp_raised w K Z)) : Cal P w K mg base CX0 4 "with_raises" P_with_raises (sp_with_raises w K Z) := by
  refine F.cal0 sc_with_raises (fun _ _ _ _ _ _ us hl => match us, hl with | [_, _, _, _], _ => rfl) (by walk_at "len") (fun f cdv Ar outer s H vs Q E hr h => ?_)
  obtain ⟨f, r, d, l, ps, ks, rs, ch, S, rfl, g, hl, nd, hSz, hcz, hS, q⟩ := h
  refine ⟨_, (pss_cons (ps_expr (pe_cal G_check_write (hr.mono (by decide)) (by rfl) passL (pa_cons (pv 0) (pa_cons (pv 1) (pa_cons (pv 2) pa_nil)))))
      (pss_cons (ps_set (i := 4) sc_with_raises.nd rfl (Or.inl rfl) (pe_callTy call_dictD (by rfl) T.n_dict (by first | exact boot_dict | decide +kernel) (pa_cons (pv 2) pa_nil)))
      (pss_cons (ps_for PassesOwn.never rfl (pi_list (pe_callTy call_list_of (by rfl) T.n_list (by first | exact boot_list | decide +kernel) (pa_cons (pv 3) pa_nil))) (pg_name (i := 5) sc_with_raises.nd rfl (Or.inl rfl))
      (pss_cons (ps_expr (pe_cal G_check_place (hr.mono (by decide)) (by rfl) passL (pa_cons (pe_fld (pv 0) rfl) (pa_cons (pv 5) pa_nil))))
      (pss_cons (ps_if (pt_cmp (pc_din (hu_of hr) (pv 5) (pv 2)))
      (pss_one ps_never) pss_nil)
      (pss_one (ps_dput (hu_of hr) (pv 4) (pv 5) (pe_cal G_raised (hr.mono (by decide)) (by rfl) pass0 (pa_cons (pe_ix ix_tup (pe_fld (pv 0) rfl) (pv 5) (fun _ _ => rfl)) (pa_cons (pe_ix ix_tup (pv 1) (pv 5) (fun _ _ => rfl)) (pa_cons pe_int pa_nil)))) rfl)))))
      (pss_one (ps_ret (pv 4)))))), ?_⟩
  have hu := unfair_of g.fair
  have gl := g.len
  refine ⟨_, rfl, _, rfl, _, rfl, f, r, d, ps, ks, rs, ch, rfl, g.fo, g.r, g.d, Nat.le_trans g.z (by decide), fun k e => ?_, fun _ e => absurd gl e, fun _ _ k e => absurd (g.keys k e.1) e.2.1, fun _ _ _ H1 s1 => ?_⟩
  · rw [hu] at e
    cases e
  · have g1 := g.same s1
    refine ⟨_, rfl, d, _, rfl, .inl g1.d, fun c nc => ?_⟩
    have s2 := s1.trans (same_new (o := .dK (dV ch)) nc)
    have ncH : H c = none := s1.free nc
    refine ⟨_, rfl, l, _, rfl, .inl (SqL.of (s2 _ _ hl)), fun t nt => ?_⟩
    have s3 := s2.trans (same_new (o := .lst (S.map nV)) nt)
    have hct : c ≠ t := ne_of_none (o := .dK (dV ch)) upd_same nt
    refine ⟨t, rfl, ⟨_, SqL.of upd_same⟩, for_lp (K := K) (a := t) (l := S) (f := nV) (fun p σ H' => ∃ v, σ = [some (.ref f), some (.ref r), some (.ref d), some (.ref l), some (.ref c), v] ∧ Same H H' ∧ H' c = some (.dK (dV (ch ++ raisedCh ks rs p))) ∧ H' t = some (.lst (S.map nV)))
      ⟨none, rfl, s3, by rw [upd_ne hct, upd_same]; simp [raisedCh], upd_same⟩ (fun p σ H' ⟨_, _, _, _, h⟩ => SqL.of h) ?_ ?_⟩
    · rintro p i r' σ H' hl' ⟨v, rfl, sm, hc, ht⟩
      obtain ⟨hin, hic⟩ := hS i (by rw [hl']; simp)
      have gm := g.same sm
      obtain ⟨dx, a, b, h1, h2, h3, h4⟩ := id gm.fo
      refine ⟨_, rfl, f, Z.cF, dx, _, _, rfl, h1, T.cl, T.na1, rfl, _, rfl, _, _, rfl, fun z => absurd ⟨by omega, by omega⟩ z, fun _ => ?_⟩
      refine ⟨_, rfl, _, rfl, d, _, rfl, DGet.k (k := Sum.inl (i : Int)) gm.d, _, rfl, ?_⟩
      rw [dV_some]
      refine ifF hic ?_
      refine ⟨_, rfl, f, Z.cF, dx, _, _, rfl, h1, T.cl, T.na3, rfl, _, rfl, b, _, _, _, rfl, rfl, SqT.of h3, atI_nat (at_kd (by omega)), _, rfl, _, rfl, r, _, _, _, rfl, rfl, SqT.of gm.r, atI_nat (at_atr (by omega)), kd ks i, _, _, rfl, ?_⟩
      have len1 : (dV (ch ++ raisedCh ks rs p)).length < sizeLine := by
        have e := congrArg List.length hl'
        rw [List.length_append, List.length_cons] at e
        unfold dV raisedCh
        rw [List.length_map, List.length_append, List.length_map]
        exact szl (by omega)
      refine ⟨_, rfl, _, rfl, c, _, rfl, DPut.k (k := Sum.inl (i : Int)) hc len1, ?_⟩
      have hnew : inC (ch ++ raisedCh ks rs p) (i : Int) = false := by
        rw [inC_app, hic, Bool.false_or, Bool.eq_false_iff]
        intro z
        obtain ⟨q', hq', e⟩ := List.mem_map.mp (inC_iff.mp z)
        obtain ⟨x, hx, rfl⟩ := List.mem_map.mp hq'
        have : x = i := by
          have e2 : (x : Int) = (i : Int) := e
          omega
        rw [hl'] at nd
        have := (List.nodup_append.mp nd).2.2 x hx i List.mem_cons_self
        exact this ‹x = i›
      rw [putK_dV hnew]
      refine ⟨_, rfl, same_mut sm ncH, ?_, ?_⟩
      · rw [upd_same]
        unfold raisedCh
        rw [List.map_append, List.append_assoc] <;> rfl
      · rw [upd_ne hct.symm]
        exact ht
    · rintro σ H' ⟨v, rfl, sm, hc, ht⟩
      exact ⟨_, rfl, q c H' sm ncH hc⟩
theorem ok_reach (T : Txt P K Z mg) (F : At K mg "reach" s_reach) (G_check_fair : Cal P w K mg base (L2.CX P w) 1 "check_fair" P_check_fair (sp_check_fair w K Z)) (G_check_places : Cal P w K mg base (L2.CX P w) 2 "check_places" P_check_places (sp_check_places w K Z)) (G_path_of : Cal P w K mg base CX0 1 "path_of" P_path_of (sp_path_of w K Z)) : Cal P w K mg base CX0 3 "reach" P_reach (sp_reach w K Z) := by
  refine F.cal0 sc_reach (fun _ _ _ _ _ _ us hl => match us, hl with | [_, _], _ => rfl) (by walk_at "len") (fun f cdv Ar outer s H vs Q E hr h => ?_)
  obtain ⟨f, l, ps, ks, S, rfl, hf, fr, wf, hz, hl, hS, q⟩ := h
  refine ⟨_, (pss_cons (ps_expr (pe_cal G_check_fair (hr.mono (by decide)) (by rfl) passL (pa_cons (pv 0) pa_nil)))
      (pss_cons (ps_set (i := 2) sc_reach.nd rfl (Or.inr rfl) (pe_callTy call_list_of (by rfl) T.n_list (by first | exact boot_list | decide +kernel) (pa_cons (pv 1) pa_nil)))
      (pss_cons (ps_expr (pe_cal G_check_places (hr.mono (by decide)) (by rfl) passL (pa_cons (pe_fld (pv 0) rfl) (pa_cons (pv 2) pa_nil))))
      (pss_cons (ps_set (i := 3) sc_reach.nd rfl (Or.inl rfl) (pe_lst pa_nil))
      (pss_cons (ps_for PassesOwn.never rfl (pi_range1 (by rfl) T.n_range (pa_cons (pe_fld (pv 0) rfl) pa_nil)) (pg_name (i := 4) sc_reach.nd rfl (Or.inl rfl))
      (pss_one (ps_if (pt_val (pe_callB (cr_any rfl) (by rfl) T.n_any (by first | exact PySem.boot_any | decide +kernel) (pa_cons (pe_lc (own := [("place", 5)]) (g := gName 5) rfl sc_reach.nd (pi_tup (pe_cal G_path_of (hr.mono (by decide)) (by rfl) pass0 (pa_cons (pe_fld (pv 0) rfl) (pa_cons (pv 4) pa_nil)))) (blkOk_by (own := [("place", 5)]) (N := N_reach) (sc := defScope s_reach) (by decide +kernel)) (fun _ _ _ _ _ => pg_name (i := 5) sc_reach.nd rfl (Or.inl rfl)) (fun _ _ _ _ _ => pts_nil) (fun _ _ _ _ _ => (pe_cmpR (show OpR _ (compareOp .In) (rIn K false) from op_in_seq) (pv 5) (pv 2) (by rfl)))) pa_nil)))
      (pss_one (ps_expr (pe_bm PySem.F.plainAttrs_list PySem.F.slot_list_append PySem.F.type_list_append mt_append (pv 3) (pa_cons (pv 4) pa_nil)))) pss_nil)))
      (pss_one (ps_ret (pe_callTy call_tuple_of (by rfl) T.n_tuple (by first | exact boot_tuple | decide +kernel) (pa_cons (pv 3) pa_nil))))))))), ?_⟩
  have hu := unfair_of fr
  have hz' : ps.length ≤ 1000 := Nat.le_trans hz (by decide)
  refine ⟨_, rfl, f, ps, ks, rfl, hf, hz', fun k e => (by rw [hu] at e; cases e), fun _ H1 s1 => ?_⟩
  refine ⟨_, rfl, l, _, rfl, .inl (SqL.of (s1 _ _ hl)), fun t nt => ?_⟩
  have s2 := s1.trans (same_new (o := .lst (S.map nV)) nt)
  obtain ⟨dx, a, b, h1, h2, h3, h4⟩ := id (hf.same s2)
  have hS' : bad (ps.length : Int) (S.map fun g : Nat => (g : Int)) = none := by
    unfold bad
    refine List.find?_eq_none.mpr fun k hk => ?_
    obtain ⟨g, hg, rfl⟩ := List.mem_map.mp hk
    have := hS g hg
    rw [decide_eq_true (show 0 ≤ (g : Int) ∧ (g : Int) < (ps.length : Int) by omega)]
    decide
  refine ⟨_, rfl, f, Z.cF, dx, _, _, rfl, h1, T.cl, T.na1, rfl, _, rfl, _, t, S.map fun g : Nat => (g : Int), rfl, by rw [upd_same, List.map_map] <;> rfl, fun k e => (by rw [hS'] at e; cases e), fun _ => ?_⟩
  refine ⟨Nat.zero_le _, fun u nu => ?_⟩
  have s3 := s2.trans (same_new (o := .lst []) nu)
  have htu : t ≠ u := ne_of_none (o := .lst (S.map nV)) upd_same nu
  have nuH : H u = none := s2.free nu
  refine ⟨_, rfl, f, Z.cF, dx, _, _, rfl, same_new nu _ _ h1, T.cl, T.na1, rfl, _, rfl, by omega, by omega, for_rng (n := ps.length) rfl (fun i σ H' => ∃ v, σ = [some (.ref f), some (.ref l), some (.ref t), some (.ref u), v, none] ∧ Same H H' ∧ H' t = some (.lst (S.map nV)) ∧ H' u = some (.lst (((List.range i).filter fun x => (path ps x).any fun g => decide (g ∈ S)).map nV)))
    ⟨none, rfl, s3, by rw [upd_ne htu, upd_same], upd_same⟩ ?_ ?_⟩
  · rintro i σ H' hi ⟨v, rfl, sm, ht, hu'⟩
    obtain ⟨dx', a', b', k1, k2, k3, k4⟩ := id (hf.same sm)
    refine ⟨_, rfl, f, Z.cF, dx', _, _, rfl, k1, T.cl, T.na2, rfl, _, rfl, a', ps, i, rfl, k2, wf, hi, hz', fun p H2 s2' np hp => ?_⟩
    refine ⟨p, rfl, ⟨_, SqT.of hp⟩, fun m nm => ?_⟩
    have pl := (path_len wf i hi).2
    refine lcT nm (l := path ps i) (f := nV) (fun _ => true) (fun g => .bl (decide (g ∈ S))) (by omega) (fun H3 s3 => SqT.of (s3 _ _ hp)) (fun g hg => ⟨rfl, fun H3 _ R k => k H3 (Same.refl _), fun _ H3 s3 R k => ?_⟩) (fun H3 s3 hm => ?_)
    · refine ⟨_, rfl, _, rfl, t, _, rfl, .inl (SqL.of (s3 _ _ (s2' _ _ ht))), rfl, flat_nV S, ?_⟩
      show R (.bl (inV (nV g) (S.map nV))) H3
      rw [in_nV]
      exact k H3 (Same.refl _)
    · have sm3 := sm.trans (s2'.trans s3)
      have hu3 := s3 _ _ (s2' _ _ hu')
      have ht3 := s3 _ _ (s2' _ _ ht)
      refine ⟨m, (path ps i).map fun g => decide (g ∈ S), rfl, SqL.of (by rw [hm, List.filter_eq_self.mpr (by intro _ _; rfl), List.map_map] <;> rfl), _, rfl, ?_⟩
      rw [List.any_map]
      show if ((path ps i).any fun g => decide (g ∈ S)) = true then _ else _
      cases c : (path ps i).any fun g => decide (g ∈ S) with
      | true =>
        refine ifT rfl ?_
        refine ⟨_, rfl, .inl ⟨rfl, _, SqL.of hu3⟩, _, rfl, u, _, _, rfl, rfl, hu3, szl ?_, ?_⟩
        · rw [List.length_map]
          have := List.length_filter_le (fun x => (path ps x).any fun g => decide (g ∈ S)) (List.range i)
          rw [List.length_range] at this
          omega
        · have htu3 : t ≠ u := htu
          refine ⟨_, rfl, same_mut sm3 nuH, by rw [upd_ne htu3]; exact ht3, ?_⟩
          rw [upd_same, List.range_succ, List.filter_append, List.map_append, List.filter_cons, if_pos c] <;> rfl
      | false =>
        refine ifF rfl ⟨_, rfl, sm3, ht3, ?_⟩
        rw [hu3, List.range_succ, List.filter_append, List.filter_cons, if_neg (by rw [c]; decide)]
        simp
  · rintro σ H' ⟨v, rfl, sm, ht, hu'⟩
    refine ⟨_, rfl, u, _, rfl, .inl ⟨SqL.of hu', fun x nx => ?_⟩⟩
    exact q x _ (sm.trans (same_new nx)) (sm.free nx) upd_same
end
end K56
namespace K56
open PySem PySem.Spec PyProof.Rows L2
local macro_rules | `(tactic| walk_at "len") => `(tactic| (intro vs H Q E h; repeat' (first | (rcases h with ⟨e, _⟩; exact congrArg List.length e) | (rcases h with ⟨_, h⟩))))
abbrev s_never_ends : Stmt := top 41
abbrev N_never_ends : List Str := ["parents", "field", "place", "_"]
abbrev P_never_ends : List Str := ["parents", "field"]
theorem sc_never_ends : FnScope N_never_ends P_never_ends (defScope s_never_ends) := ⟨rfl, rfl, rfl, by decide +kernel, rfl, by decide +kernel, by decide +kernel⟩
abbrev s_check_shape : Stmt := top 42
abbrev N_check_shape : List Str := ["parents", "kinds", "fields", "field"]
abbrev P_check_shape : List Str := ["parents", "kinds"]
theorem sc_check_shape : FnScope N_check_shape P_check_shape (defScope s_check_shape) := ⟨rfl, rfl, rfl, by decide +kernel, rfl, by decide +kernel, by decide +kernel⟩
abbrev s_init : Stmt := inClass (top 43) 0
abbrev N_init : List Str := ["self", "parents", "kinds"]
abbrev P_init : List Str := ["self", "parents", "kinds"]
theorem sc_init : FnScope N_init P_init (defScope s_init) := ⟨rfl, rfl, rfl, by decide +kernel, rfl, by decide +kernel, by decide +kernel⟩
def sp_never_ends (w : World) (K : PySem.W.Frag) (Z : Ad) : Sp := fun vs H Q _ => ∃ (a : Addr) (ps : Par) (f : Nat), vs = [.ref a, nV f] ∧ H a = some (.lst (ps.map pV)) ∧ WF ps ∧ f < ps.length ∧ ps.length ≤ 1000 ∧ Q (.bl false) H
/-- what a forest asks -/
structure Shp (ps : Par) (ks : List Kd) : Prop where
  wf : WF ps
  len : ks.length = ps.length
  lo : 1 ≤ ps.length
  hi : ps.length ≤ 16
  leaf : ∀ f, f < ps.length → unf (kd ks f) = true → some f ∉ ps
def sp_check_shape (w : World) (K : PySem.W.Frag) (Z : Ad) : Sp := fun vs H Q _ => ∃ (a k : Addr) (ps : Par) (ks : List Kd), vs = [.ref a, .ref k] ∧ H a = some (.lst (ps.map pV)) ∧ H k = some (.lst (ks.map kS)) ∧ Shp ps ks ∧ ∀ H', Same H H' → Q .non H'
def sp_init (w : World) (K : PySem.W.Frag) (Z : Ad) : Sp := fun vs H Q _ => ∃ (H0 : Hp) (x dx a k : Addr) (ps : Par) (ks : List Kd), vs = [.ref x, .ref a, .ref k] ∧ H = upd H0 x (.ins Z.cF dx []) ∧ H0 x = none ∧ H0 a = some (.lst (ps.map pV)) ∧ H0 k = some (.lst (ks.map kS)) ∧ Shp ps ks ∧
  ∀ H', Same H0 H' → FoAt Z H' x ps ks → Q .non H'
theorem par_in {ps : Par} {f p : Nat} (w : WF ps) (h : par ps f = some p) : p < ps.length := by
  obtain ⟨rk, _, r2⟩ := w
  exact (r2 f p h).1
theorem in_pV {f : Nat} {ps : Par} : inV (nV f) (ps.map pV) = decide (some f ∈ ps) := by
  unfold inV
  rw [List.any_map]
  by_cases h : some f ∈ ps
  · rw [decide_eq_true h, List.any_eq_true]
    exact ⟨_, h, by simp [eqV, pV]⟩
  · rw [decide_eq_false h, List.any_eq_false]
    intro x hx
    cases x with
    | none => simp [eqV, pV]
    | some y =>
      simp only [Function.comp, eqV, pV, beq_iff_eq]
      intro z
      have : y = f := by omega
      exact h (this ▸ hx)
theorem flat_pV (ps : Par) : (ps.map pV).all flatV = true := by
  rw [List.all_map, List.all_eq_true]
  intro x _
  cases x <;> rfl
section
variable {P : Program} {w : World} {K : PySem.W.Frag} {mg : Str → Option Value} {base : Heap} {Z : Ad}
theorem ok_never_ends (T : Txt P K Z mg) (F : At K mg "never_ends" s_never_ends) : Cal P w K mg base CX0 1 "never_ends" P_never_ends (sp_never_ends w K Z) := by
  refine F.cal0 sc_never_ends (fun _ _ _ _ _ _ us hl => match us, hl with | [_, _], _ => rfl) (by walk_at "len") (fun f cdv Ar outer s H vs Q E hr h => ?_)
  obtain ⟨a, ps, f, rfl, ha, wf, hf, hz, q⟩ := h
  refine ⟨_, (pss_cons (ps_set (i := 2) sc_never_ends.nd rfl (Or.inl rfl) (pv 1))
      (pss_cons (ps_for PassesOwn.never rfl (pi_range1 (by rfl) T.n_range (pa_cons (pe_callB call_len_seq (by rfl) T.n_len (by first | exact PySem.boot_len | decide +kernel) (pa_cons (pv 0) pa_nil)) pa_nil)) (pg_name (i := 3) sc_never_ends.nd rfl (Or.inl rfl))
      (pss_cons (ps_if (pt_cmpR op_isN (pv 2) pe_non (nomark _))
      (pss_one (ps_ret pe_bl)) pss_nil)
      (pss_one (ps_set (i := 2) sc_never_ends.nd rfl (Or.inl rfl) (pe_ix ix_list (pv 0) (pv 2) (fun _ _ => rfl))))))
      (pss_one (ps_ret (pe_cmpR op_notN (pv 2) pe_non (nomark _)))))), ?_⟩
  obtain ⟨rk, r1, r2⟩ := id wf
  refine ⟨_, rfl, _, rfl, a, _, rfl, .inl (SqL.of ha), _, rfl, by omega, by rw [List.length_map]; omega, for_rng (n := ps.length) (by rw [List.length_map]) (fun i σ H' => ∃ (o : Option Nat) (v : Option V), σ = [some (.ref a), some (nV f), some (pV o), v] ∧ H' = H ∧ ∀ g, o = some g → g < ps.length ∧ rk g + i < ps.length)
    ⟨some f, none, rfl, rfl, fun g e => ?_⟩ ?_ ?_⟩
  · cases e
    exact ⟨hf, r1 f hf⟩
  · rintro i σ H' hi ⟨o, v, rfl, rfl, ho⟩
    cases o with
    | none => exact ⟨_, rfl, rfl, _, rfl, ifT rfl q⟩
    | some g =>
      obtain ⟨h1, h2⟩ := ho g rfl
      refine ⟨_, rfl, rfl, _, rfl, ifF rfl ?_⟩
      refine ⟨_, rfl, _, rfl, a, _, _, _, rfl, rfl, SqL.of ha, atI_nat (at_par h1), ?_⟩
      refine ⟨par ps g, _, rfl, rfl, fun g' e => ?_⟩
      obtain ⟨k1, k2⟩ := r2 g g' e
      exact ⟨k1, by omega⟩
  · rintro σ H' ⟨o, v, rfl, rfl, ho⟩
    cases o with
    | none => exact ⟨_, rfl, rfl, q⟩
    | some g => exact absurd (ho g rfl).2 (by omega)
theorem ok_check_shape (T : Txt P K Z mg) (F : At K mg "check_shape" s_check_shape) (G_never_ends : Cal P w K mg base CX0 1 "never_ends" P_never_ends (sp_never_ends w K Z)) : Cal P w K mg base CX0 2 "check_shape" P_check_shape (sp_check_shape w K Z) := by
  refine F.cal0 sc_check_shape (fun _ _ _ _ _ _ us hl => match us, hl with | [_, _], _ => rfl) (by walk_at "len") (fun f cdv Ar outer s H vs Q E hr h => ?_)
  obtain ⟨a, k, ps, ks, rfl, ha, hk, S, q⟩ := h
  refine ⟨_, (pss_cons (ps_set (i := 2) sc_check_shape.nd rfl (Or.inl rfl) (pe_callB call_len_seq (by rfl) T.n_len (by first | exact PySem.boot_len | decide +kernel) (pa_cons (pv 0) pa_nil)))
      (pss_cons (ps_if (PW.pt (pw_or (pt_cmpR op_ne (pv 2) (pe_callB call_len_seq (by rfl) T.n_len (by first | exact PySem.boot_len | decide +kernel) (pa_cons (pv 1) pa_nil)) (nomark _)) (pw_or1 (pt_not (pt_chain op_le op_le pe_int (pv 2) (pe_glob (v := .int 16) (by rfl) T.c_MOST_FIELDS ⟨_, rfl⟩))))))
      (pss_one ps_never) pss_nil)
      (pss_cons (ps_for PassesOwn.never rfl (pi_range1 (by rfl) T.n_range (pa_cons (pv 2) pa_nil)) (pg_name (i := 3) sc_check_shape.nd rfl (Or.inl rfl))
      (pss_one (ps_if (PW.pt (pw_and (pt_cmpR op_notN (pe_ix ix_list (pv 0) (pv 3) (fun _ _ => rfl)) pe_non (nomark _)) (pw_and1 (pt_not (pt_chain op_le op_lt pe_int (pe_ix ix_list (pv 0) (pv 3) (fun _ _ => rfl)) (pv 2))))))
      (pss_one ps_never) pss_nil)))
      (pss_cons (ps_for PassesOwn.never rfl (pi_range1 (by rfl) T.n_range (pa_cons (pv 2) pa_nil)) (pg_name (i := 3) sc_check_shape.nd rfl (Or.inl rfl))
      (pss_one (ps_if (pt_val (pe_cal G_never_ends (hr.mono (by decide)) (by rfl) pass0 (pa_cons (pv 0) (pa_cons (pv 3) pa_nil))))
      (pss_one ps_never) pss_nil)))
      (pss_one (ps_for PassesOwn.never rfl (pi_range1 (by rfl) T.n_range (pa_cons (pv 2) pa_nil)) (pg_name (i := 3) sc_check_shape.nd rfl (Or.inl rfl))
      (pss_one (ps_if (PW.pt (pw_and (pt_cmpR op_in_seq (pe_ix ix_list (pv 1) (pv 3) (fun _ _ => rfl)) (pe_tup (pa_cons pe_str (pa_cons pe_str pa_nil))) (by rfl)) (pw_and1 (pt_cmpR op_in_seq (pv 3) (pv 0) (by rfl)))))
      (pss_one ps_never) pss_nil)))))))), ?_⟩
  have hz := S.hi
  have hl := S.lo
  have hlen := S.len
  have e1 : ((ps.map pV).length : Int) = (ps.length : Int) := by rw [List.length_map]
  refine ⟨_, rfl, a, _, rfl, .inl (SqL.of ha), _, rfl, ?_⟩
  rw [e1]
  refine ⟨_, rfl, k, _, rfl, .inl (SqL.of hk), rfl, _, rfl, ?_⟩
  refine ifF (by rw [List.length_map, hlen]; simp) ?_
  refine ⟨_, rfl, _, _, rfl, rfl, _, rfl, ifT (decide_eq_true (by omega)) ⟨_, _, rfl, rfl, _, rfl, ifF (by rw [decide_eq_true (show (ps.length : Int) ≤ 16 by omega)]; rfl) ?_⟩⟩
  refine ⟨_, rfl, _, rfl, by omega, by omega, for_rng (n := ps.length) rfl (fun i σ H' => ∃ v, σ = [some (.ref a), some (.ref k), some (.int (ps.length : Int)), v] ∧ H' = H)
    ⟨none, rfl, rfl⟩ ?_ ?_⟩
  · rintro i σ H' hi ⟨v, rfl, rfl⟩
    refine ⟨_, rfl, _, rfl, a, _, _, _, rfl, rfl, SqL.of ha, atI_nat (at_par hi), rfl, _, rfl, ?_⟩
    cases e : par ps i with
    | none => exact ifF rfl (ifF rfl ⟨_, rfl, rfl⟩)
    | some p =>
      have hp := par_in S.wf e
      refine ifT rfl ⟨_, rfl, _, rfl, a, _, _, _, rfl, rfl, SqL.of ha, atI_nat (at_par hi), ?_⟩
      rw [e]
      refine ⟨_, _, rfl, rfl, _, rfl, ifT (decide_eq_true (by omega)) ⟨_, rfl, _, _, rfl, rfl, _, rfl, ifF (by rw [decide_eq_true (show (p : Int) < (ps.length : Int) by omega)]; rfl) ?_⟩⟩
      exact ⟨_, rfl, rfl⟩
  · rintro σ H' ⟨v, rfl, rfl⟩
    refine ⟨_, rfl, _, rfl, by omega, by omega, for_rng (n := ps.length) rfl (fun i σ H1 => ∃ v, σ = [some (.ref a), some (.ref k), some (.int (ps.length : Int)), v] ∧ H1 = H')
      ⟨v, rfl, rfl⟩ ?_ ?_⟩
    · rintro i σ H1 hi ⟨v, rfl, rfl⟩
      refine ⟨_, rfl, _, rfl, a, ps, i, rfl, ha, S.wf, hi, by omega, _, rfl, ifF rfl ?_⟩
      exact ⟨_, rfl, rfl⟩
    · rintro σ H1 ⟨v, rfl, rfl⟩
      refine ⟨_, rfl, _, rfl, by omega, by omega, for_rng (n := ps.length) rfl (fun i σ H2 => ∃ v, σ = [some (.ref a), some (.ref k), some (.int (ps.length : Int)), v] ∧ Same H1 H2)
        ⟨v, rfl, Same.refl _⟩ ?_ ?_⟩
      · rintro i σ H2 hi ⟨v, rfl, sm⟩
        refine ⟨_, rfl, _, rfl, k, _, _, _, rfl, rfl, SqL.of (sm _ _ hk), atI_nat (at_kd (by omega)), sz (by show 2 ≤ 100000; decide), fun p hp => ?_⟩
        refine ⟨p, _, rfl, .inr (SqT.of upd_same), by cases kd ks i <;> rfl, rfl, _, rfl, ?_⟩
        show if (inV (kS (kd ks i)) [.str "first", .str "last"]) = true then _ else _
        rw [kS_in]
        have sm2 := sm.trans (same_new (o := .tup [.str "first", .str "last"]) hp)
        cases c : unf (kd ks i) with
        | false => exact ifF rfl (ifF rfl ⟨_, rfl, sm2⟩)
        | true =>
          refine ifT rfl ⟨_, rfl, _, rfl, a, _, rfl, .inl (SqL.of (sm2 _ _ ha)), rfl, flat_pV ps, _, rfl, ?_⟩
          show if (inV (nV i) (ps.map pV)) = true then _ else _
          rw [in_pV]
          exact ifF (decide_eq_false (S.leaf i hi c)) ⟨_, rfl, sm2⟩
      · rintro σ H2 ⟨v, rfl, sm⟩
        exact q H2 sm
theorem ok_init {f : Addr} {fd : FuncData} (T : Txt P K Z mg) (F : FunD K "__init__" "Forest.__init__" (defArgs s_init) (defBody s_init) (defScope s_init) [] [] f fd) (G_check_shape : Cal P w K mg base CX0 2 "check_shape" P_check_shape (sp_check_shape w K Z)) :
    FnOk P w K mg base CX0 3 f fd P_init (sp_init w K Z) := by
  refine F.ok sc_init (fun vs H Q E h => by obtain ⟨_, _, _, _, _, _, _, e, _⟩ := h; rw [e]; rfl) fun cdv Ar outer s H vs Q E hr h => ?_
  suffices z : ∃ t, PSs (cxOf CX0 P w K mg base N_init "Forest.__init__" (defScope s_init) f cdv Ar outer s H E).nox (defBody s_init) t ∧ t { nx := fun _ H' => Q .non H', rt := Q } (start N_init vs) H by
    obtain ⟨t, h1, h2⟩ := z
    exact ⟨t, h1.nox, h2⟩
  obtain ⟨H0, x, dx, a, k, ps, ks, rfl, rfl, hx, ha, hk, S, q⟩ := h
  refine ⟨_, (pss_cons (ps_expr (pe_cal G_check_shape (hr.mono (by decide)) (by rfl) pass0 (pa_cons (pv 1) (pa_cons (pv 2) pa_nil))))
      (pss_cons (ps_fld (pv 0) (pe_callB call_len_seq (by rfl) T.n_len (by first | exact PySem.boot_len | decide +kernel) (pa_cons (pv 1) pa_nil)) rfl)
      (pss_cons (ps_fld (pv 0) (pe_callTy call_tuple_of (by rfl) T.n_tuple (by first | exact boot_tuple | decide +kernel) (pa_cons (pv 1) pa_nil)) rfl)
      (pss_one (ps_fld (pv 0) (pe_callTy call_tuple_of (by rfl) T.n_tuple (by first | exact boot_tuple | decide +kernel) (pa_cons (pv 2) pa_nil)) rfl))))), ?_⟩
  have s0 := same_new (o := .ins Z.cF dx []) hx
  refine ⟨_, rfl, _, rfl, a, k, ps, ks, rfl, s0 _ _ ha, s0 _ _ hk, S, fun H1 s1 => ?_⟩
  have s2 := s0.trans s1
  have hx1 : H1 x = some (.ins Z.cF dx []) := s1 _ _ upd_same
  refine ⟨_, rfl, a, _, rfl, .inl (SqL.of (s2 _ _ ha)), _, rfl, x, Z.cF, dx, [], rfl, hx1, T.cl, T.na1, (by show 0 < 1000; decide), ?_⟩
  rw [List.length_map]
  have s3 : Same H0 (upd H1 x (.ins Z.cF dx (putF "fields" (.int (ps.length : Int)) []))) := same_mut s2 hx
  refine ⟨_, rfl, a, _, rfl, .inl ⟨SqL.of (s3 _ _ ha), fun t nt => ?_⟩⟩
  have s4 := s3.trans (same_new (o := .tup (ps.map pV)) nt)
  have hx4 : upd (upd H1 x (.ins Z.cF dx (putF "fields" (.int (ps.length : Int)) []))) t (.tup (ps.map pV)) x = some (.ins Z.cF dx (putF "fields" (.int (ps.length : Int)) [])) := same_new nt _ _ upd_same
  have nt0 := s3.free nt
  refine ⟨_, rfl, x, Z.cF, dx, _, rfl, hx4, T.cl, T.na2, (by show 1 < 1000; decide), ?_⟩
  have s5 := same_mut (o := .ins Z.cF dx (putF "parents" (.ref t) (putF "fields" (.int (ps.length : Int)) []))) s4 hx
  refine ⟨_, rfl, k, _, rfl, .inl ⟨SqL.of (s5 _ _ hk), fun u nu => ?_⟩⟩
  have s6 := s5.trans (same_new (o := .tup (ks.map kS)) nu)
  have xt : x ≠ t := ne_of_none (o := .ins Z.cF dx (putF "fields" (.int (ps.length : Int)) [])) upd_same nt
  have hct : upd (upd (upd H1 x (.ins Z.cF dx (putF "fields" (.int (ps.length : Int)) []))) t (.tup (ps.map pV))) x (.ins Z.cF dx (putF "parents" (.ref t) (putF "fields" (.int (ps.length : Int)) []))) t = some (.tup (ps.map pV)) := by
    rw [upd_ne xt.symm, upd_same]
  have xu : x ≠ u := ne_of_none (o := .ins Z.cF dx (putF "parents" (.ref t) (putF "fields" (.int (ps.length : Int)) []))) upd_same nu
  have tu : t ≠ u := ne_of_none hct nu
  refine ⟨_, rfl, x, Z.cF, dx, _, rfl, same_new nu _ _ upd_same, T.cl, T.na3, (by show 2 < 1000; decide), ?_⟩
  refine q _ (same_mut s6 hx) ⟨dx, t, u, upd_same, ?_, ?_, S.len⟩
  · rw [upd_ne xt.symm, upd_ne tu]
    exact hct
  · rw [upd_ne xu.symm]
    exact upd_same
end
end K56
namespace K56
open PySem PySem.Spec PyProof.Rows L2
local macro_rules | `(tactic| walk_at "len") => `(tactic| (intro vs H Q E h; repeat' (first | (rcases h with ⟨e, _⟩; exact congrArg List.length e) | (rcases h with ⟨_, h⟩))))
/-! ### dicts under a lock -/
theorem same_unlock {H H' : Hp} {d : Addr} {u o : HO} (hd : H d = some u) (s : Same (upd H d o) H') : Same H (upd H' d u) := fun b x e => by
  by_cases c : b = d
  · subst c
    rw [upd_same, ← hd]
    exact e
  · rw [upd_ne c]
    exact s b x (by rw [upd_ne c]; exact e)
theorem locked_ne {H H' : Hp} {d b : Addr} {u o x : HO} (hd : H d = some u) (s : Same (upd H d o) H') (e : H b = some x) (ne : x ≠ u) : H' b = some x := by
  refine s b x ?_
  rw [upd_ne (ne_of e hd ne)]
  exact e
section
variable {d : Addr} {o : Obj} {ch : Chg} {g : TG} {tb : TS} {D : Ends} {σ : L2.St} {H H1 : Hp}
theorem for_dk (Pv : Chg → L2.St → Hp → Prop) (h0 : Pv [] σ H) (hl : ∀ p σ H, Pv p σ H → H d = some (.frz o (.dK (dV ch))))
    (hs : ∀ p x r σ H, ch = p ++ x :: r → Pv p σ H → g (.int x.1) σ H fun σ2 H2 => tb { D with nx := Pv (p ++ [x]), ct := Pv (p ++ [x]), bk := D.nx } σ2 H2) (hd : ∀ σ H, Pv ch σ H → D.nx σ H) :
    ∃ W : Nat → Nat → L2.St → Hp → Prop, (∃ m, W 0 m σ H) ∧ ∀ i m σ H, W i m σ H →
      ((Itk d o (dV ch)).stop i H ∧ D.nx σ H) ∨ ((Itk d o (dV ch)).go i H ∧ ∃ N : L2.St → Hp → Prop, (∀ σ' H', N σ' H' → ∃ m', m' < m ∧ W (i + 1) m' σ' H') ∧ ∀ x H', (Itk d o (dV ch)).yld i H x H' → g x σ H' fun σ2 H2 => tb { D with nx := N, ct := N, bk := D.nx } σ2 H2) := by
  have el : (dV ch).length = ch.length := by
    unfold dV
    rw [List.length_map]
  refine for_it walk_keys (fun i => Pv (ch.take i)) h0 (fun i σ H _ h => hl _ _ _ h) (fun i x σ H H' hi h y => ?_) (fun σ H h => hd σ H (by rw [el, List.take_length] at h; exact h))
  obtain ⟨rfl, k, v, hk, rfl⟩ := y
  rw [el] at hi
  unfold dV at hk
  rw [List.getElem?_map, List.getElem?_eq_getElem hi] at hk
  cases Option.some.inj hk
  have q := hs (ch.take i) ch[i] (ch.drop (i + 1)) σ H' (split_at hi) h
  rw [List.take_append_getElem] at q
  exact q
theorem lcDk {tt : TT} {te : TE} {vs : List Nat} {Qd : Hp → Prop} {j : Nat} {q : Addr} (hq : H1 q = none) (p : Int × Int → Bool) (v : Int × Int → V) (hz : ch.length ≤ 100000) (hl : H1 d = some (.frz o (.dK (dV ch)))) (hs : ∀ x ∈ ch, CompOk tt te vs σ j H1 (fun x : Int × Int => .int x.1) p v x)
    (hd : ∀ H', Same H1 H' → H' q = some (.lst ((ch.filter p).map v)) → Qd H') :
    ∃ W : Nat → Nat → Hp → Prop, (∃ m, W 0 m (upd H1 q (.lst []))) ∧ ∀ i m H, W i m H →
      ((Itk d o (dV ch)).stop i H ∧ Qd H) ∨ ((Itk d o (dV ch)).go i H ∧ ∃ Nx : Hp → Prop, (∀ H', Nx H' → ∃ m', m' < m ∧ W (i + 1) m' H') ∧ ∀ x H', (Itk d o (dV ch)).yld i H x H' → gName j x (wipe σ vs) H' fun σ2 H2 => wipe σ2 vs = wipe σ vs ∧ tt σ2 H2 fun b H3 =>
        if b = true then te σ2 H3 fun y H4 => ∃ acc, H4 q = some (.lst acc) ∧ acc.length < sizeLine ∧ Nx (upd H4 q (.lst (acc ++ [y]))) else Nx H3) := by
  have el : (dV ch).length = ch.length := by
    unfold dV
    rw [List.length_map]
  refine lc_it walk_keys (fun i H' => H1 q = none ∧ Same H1 H' ∧ H' q = some (.lst (((ch.take i).filter p).map v))) ⟨hq, same_new hq, upd_same⟩ (fun i H' _ h => h.2.1 _ _ hl) (fun i x H' H2 hi h y => ?_) (fun H' h => hd H' h.2.1 (by have z := h.2.2; rw [el, List.take_length] at z; exact z))
  obtain ⟨rfl, k, v', hk, rfl⟩ := y
  rw [el] at hi
  unfold dV at hk
  rw [List.getElem?_map, List.getElem?_eq_getElem hi] at hk
  cases Option.some.inj hk
  have z := comp_turn (pre := ch.take i) (hs ch[i] (List.getElem_mem hi)) (by rw [List.length_take]; omega) h.1 h.2.1 h.2.2
  rw [List.take_append_getElem] at z
  exact z
end
theorem set_rmap {n j : Nat} {f : Nat → V} {v : V} : ((List.range n).map f).set j v = (List.range n).map fun i => if i = j then v else f i := by
  refine List.ext_getElem (by simp) fun i h1 h2 => ?_
  rw [List.getElem_set]
  simp only [List.getElem_map, List.getElem_range]
  by_cases c : j = i
  · rw [if_pos c, if_pos c.symm]
  · rw [if_neg c, if_neg fun z => c z.symm]
theorem map_rng (b : List Int) : b.map V.int = (List.range b.length).map fun f => .int (atr b f) := by
  refine List.ext_getElem (by simp) fun i h1 h2 => ?_
  simp only [List.getElem_map, List.getElem_range]
  unfold atr
  rw [gd_lt]
abbrev s_l_path : Stmt := top 52
abbrev N_l_path : List Str := ["_law_parents_here", "_law_field", "_law_path_here", "_law_k"]
abbrev P_l_path : List Str := ["_law_parents_here", "_law_field"]
theorem sc_l_path : FnScope N_l_path P_l_path (defScope s_l_path) := ⟨rfl, rfl, rfl, by decide +kernel, rfl, by decide +kernel, by decide +kernel⟩
abbrev s_l_side : Stmt := top 53
abbrev N_l_side : List Str := ["_law_parents_here", "_law_kinds_here", "_law_field", "_law_older", "_law_newer", "_law_place"]
abbrev P_l_side : List Str := ["_law_parents_here", "_law_kinds_here", "_law_field", "_law_older", "_law_newer"]
theorem sc_l_side : FnScope N_l_side P_l_side (defScope s_l_side) := ⟨rfl, rfl, rfl, by decide +kernel, rfl, by decide +kernel, by decide +kernel⟩
abbrev s_l_merge : Stmt := top 54
abbrev N_l_merge : List Str := ["_law_parents_here", "_law_kinds_here", "_law_older", "_law_newer", "_law_pair", "_law_f"]
abbrev P_l_merge : List Str := ["_law_parents_here", "_law_kinds_here", "_law_older", "_law_newer"]
theorem sc_l_merge : FnScope N_l_merge P_l_merge (defScope s_l_merge) := ⟨rfl, rfl, rfl, by decide +kernel, rfl, by decide +kernel, by decide +kernel⟩
abbrev s_l_is_integer : Stmt := top 55
abbrev N_l_is_integer : List Str := ["_law_actual"]
abbrev P_l_is_integer : List Str := ["_law_actual"]
theorem sc_l_is_integer : FnScope N_l_is_integer P_l_is_integer (defScope s_l_is_integer) := ⟨rfl, rfl, rfl, by decide +kernel, rfl, by decide +kernel, by decide +kernel⟩
abbrev s_l_is_record : Stmt := top 56
abbrev N_l_is_record : List Str := ["_law_actual", "_law_n", "_law_value_here"]
abbrev P_l_is_record : List Str := ["_law_actual", "_law_n"]
theorem sc_l_is_record : FnScope N_l_is_record P_l_is_record (defScope s_l_is_record) := ⟨rfl, rfl, rfl, by decide +kernel, rfl, by decide +kernel, by decide +kernel⟩
abbrev s_l_is_ascending : Stmt := top 57
abbrev N_l_is_ascending : List Str := ["_law_actual", "_law_n", "_law_last", "_law_value_here"]
abbrev P_l_is_ascending : List Str := ["_law_actual", "_law_n"]
theorem sc_l_is_ascending : FnScope N_l_is_ascending P_l_is_ascending (defScope s_l_is_ascending) := ⟨rfl, rfl, rfl, by decide +kernel, rfl, by decide +kernel, by decide +kernel⟩
abbrev s_l_raised : Stmt := top 59
abbrev N_l_raised : List Str := ["_law_kind", "_law_value_here", "_law_by"]
abbrev P_l_raised : List Str := ["_law_kind", "_law_value_here", "_law_by"]
theorem sc_l_raised : FnScope N_l_raised P_l_raised (defScope s_l_raised) := ⟨rfl, rfl, rfl, by decide +kernel, rfl, by decide +kernel, by decide +kernel⟩
abbrev s_l_step : Stmt := top 64
abbrev N_l_step : List Str := ["_law_kind", "_law_old", "_law_new_here"]
abbrev P_l_step : List Str := ["_law_kind", "_law_old", "_law_new_here"]
theorem sc_l_step : FnScope N_l_step P_l_step (defScope s_l_step) := ⟨rfl, rfl, rfl, by decide +kernel, rfl, by decide +kernel, by decide +kernel⟩
abbrev s_l_new : Stmt := top 66
abbrev N_l_new : List Str := ["_law_base", "_law_changes_here", "_law_new_here", "_law_field"]
abbrev P_l_new : List Str := ["_law_base", "_law_changes_here"]
theorem sc_l_new : FnScope N_l_new P_l_new (defScope s_l_new) := ⟨rfl, rfl, rfl, by decide +kernel, rfl, by decide +kernel, by decide +kernel⟩
abbrev s_l_picked : Stmt := top 77
abbrev N_l_picked : List Str := ["_law_fields", "_law_n", "_law_field"]
abbrev P_l_picked : List Str := ["_law_fields", "_law_n"]
theorem sc_l_picked : FnScope N_l_picked P_l_picked (defScope s_l_picked) := ⟨rfl, rfl, rfl, by decide +kernel, rfl, by decide +kernel, by decide +kernel⟩
abbrev s_l_level : Stmt := top 61
abbrev N_l_level : List Str := ["_law_kinds_here", "_law_level_here", "_law_kind"]
abbrev P_l_level : List Str := ["_law_kinds_here"]
theorem sc_l_level : FnScope N_l_level P_l_level (defScope s_l_level) := ⟨rfl, rfl, rfl, by decide +kernel, rfl, by decide +kernel, by decide +kernel⟩
abbrev s_l_unfair : Stmt := top 62
abbrev N_l_unfair : List Str := ["_law_kinds_here", "_law_field"]
abbrev P_l_unfair : List Str := ["_law_kinds_here"]
theorem sc_l_unfair : FnScope N_l_unfair P_l_unfair (defScope s_l_unfair) := ⟨rfl, rfl, rfl, by decide +kernel, rfl, by decide +kernel, by decide +kernel⟩
def sp_l_path (w : World) (K : PySem.W.Frag) (Z : Ad) : Sp := fun vs H Q _ => ∃ (a : Addr) (ps : Par) (f : Nat), vs = [.ref a, nV f] ∧ H a = some (.lst (ps.map pV)) ∧ WF ps ∧ f < ps.length ∧ ps.length ≤ 1000 ∧
  ∀ p H', Same H H' → H p = none → H' p = some (.lst ((path ps f).map nV)) → Q (.ref p) H'
/-- which of the two -/
def side (ps : Par) (ks : List Kd) (o n : List Int) (f : Nat) : Nat := match fu (path ps f) o n with
  | none => 0
  | some g => if kd ks g = .fst ∨ bet (kd ks g) (atr o g) (atr n g) = true then 0 else 1
theorem pick_side {ps : Par} {ks : List Kd} {o n : List Int} {f : Nat} : pick ps ks o n f = if side ps ks o n f = 0 then atr o f else atr n f := by
  unfold pick side
  cases fu (path ps f) o n with
  | none => rfl
  | some g =>
    show (if _ then _ else _) = if (if _ then 0 else 1) = 0 then _ else _
    split
    · rfl
    · rfl
def sp_l_side (w : World) (K : PySem.W.Frag) (Z : Ad) : Sp := fun vs H Q _ => ∃ (a k o n : Addr) (ps : Par) (ks : List Kd) (r1 r2 : List Int) (f : Nat), vs = [.ref a, .ref k, nV f, .ref o, .ref n] ∧ H a = some (.lst (ps.map pV)) ∧ H k = some (.lst (ks.map kS)) ∧
  H o = some (.tup (r1.map V.int)) ∧ H n = some (.lst (r2.map V.int)) ∧ WF ps ∧ ks.length = ps.length ∧ r1.length = ps.length ∧ r2.length = ps.length ∧ ps.length ≤ 1000 ∧ f < ps.length ∧
  ∀ H', Same H H' → Q (nV (side ps ks r1 r2 f)) H'
def sp_l_merge (w : World) (K : PySem.W.Frag) (Z : Ad) : Sp := fun vs H Q _ => ∃ (a k o n : Addr) (ps : Par) (ks : List Kd) (r1 r2 : List Int), vs = [.ref a, .ref k, .ref o, .ref n] ∧ H a = some (.lst (ps.map pV)) ∧ H k = some (.lst (ks.map kS)) ∧
  H o = some (.tup (r1.map V.int)) ∧ H n = some (.lst (r2.map V.int)) ∧ WF ps ∧ ks.length = ps.length ∧ r1.length = ps.length ∧ r2.length = ps.length ∧ ps.length ≤ 1000 ∧
  ∀ p H', Same H H' → H p = none → H' p = some (.tup ((merge ps ks r1 r2).map V.int)) → Q (.ref p) H'
def sp_l_is_integer (w : World) (K : PySem.W.Frag) (Z : Ad) : Sp := fun vs H Q _ => ∃ i : Int, vs = [.int i] ∧ Q (.bl true) H
def sp_l_is_record (w : World) (K : PySem.W.Frag) (Z : Ad) : Sp := fun vs H Q _ => ∃ (a : Addr) (rs : List Int) (n : Int), vs = [.ref a, .int n] ∧ H a = some (.tup (rs.map V.int)) ∧ (rs.length : Int) = n ∧ Q (.bl true) H
def sp_l_is_ascending (w : World) (K : PySem.W.Frag) (Z : Ad) : Sp := fun vs H Q _ => ∃ (a : Addr) (l : List Nat) (n : Nat), vs = [.ref a, nV n] ∧ H a = some (.tup (l.map nV)) ∧ l.Pairwise (· < ·) ∧ (∀ x ∈ l, x < n) ∧ Q (.bl true) H
def sp_l_raised (w : World) (K : PySem.W.Frag) (Z : Ad) : Sp := fun vs H Q _ => ∃ (k : Kd) (i j : Int), vs = [kS k, .int i, .int j] ∧ Q (.int (rai k i j)) H
def sp_l_step (w : World) (K : PySem.W.Frag) (Z : Ad) : Sp := fun vs H Q _ => ∃ (k : Kd) (o n : Int), vs = [kS k, .int o, .int n] ∧ (k = .up ∨ k = .down) ∧ Q (.int (stp k o n)) H
def sp_l_new (w : World) (K : PySem.W.Frag) (Z : Ad) : Sp := fun vs H Q _ => ∃ (b d : Addr) (rs : List Int) (ch : Chg), vs = [.ref b, .ref d] ∧ H b = some (.tup (rs.map V.int)) ∧ H d = some (.dK (dV ch)) ∧ rs.length ≤ 1000 ∧ (∀ k : Int, k ∈ ch.map (·.1) → 0 ≤ k ∧ k < (rs.length : Int)) ∧
  ∀ p H', Same H H' → H p = none → H' p = some (.tup ((wv rs ch).map V.int)) → Q (.ref p) H'
def sp_l_picked (w : World) (K : PySem.W.Frag) (Z : Ad) : Sp := fun vs H Q _ => ∃ (a : Addr) (S : List Nat) (n : Nat), vs = [.ref a, nV n] ∧ H a = some (.lst (S.map nV)) ∧ n ≤ 1000 ∧
  ∀ p H', Same H H' → H p = none → H' p = some (.lst (((List.range n).filter fun g => decide (g ∈ S)).map nV)) → Q (.ref p) H'
def lev : Kd → Kd
  | .fst => .up
  | .lst => .down
  | k => k
def sp_l_level (w : World) (K : PySem.W.Frag) (Z : Ad) : Sp := fun vs H Q _ => ∃ (a : Addr) (ks : List Kd), vs = [.ref a] ∧ H a = some (.lst (ks.map kS)) ∧ ks.length ≤ 1000 ∧
  ∀ p H', Same H H' → H p = none → H' p = some (.lst ((ks.map lev).map kS)) → Q (.ref p) H'
def sp_l_unfair (w : World) (K : PySem.W.Frag) (Z : Ad) : Sp := fun vs H Q _ => ∃ (a : Addr) (ks : List Kd), vs = [.ref a] ∧ H a = some (.lst (ks.map kS)) ∧ ks.length ≤ 1000 ∧ (unfair ks = none → Q .non H) ∧
  ∀ k, unfair ks = some k → ∀ p H', Same H H' → H p = none → H' p = some (.tup [.str "NotFair", nV k]) → Q (.ref p) H'
section
variable {P : Program} {w : World} {K : PySem.W.Frag} {mg : Str → Option Value} {base : Heap} {Z : Ad}
theorem ok_l_path (T : Txt P K Z mg) (F : At K mg "_law_path" s_l_path) : Cal P w K mg base CX0 1 "_law_path" P_l_path (sp_l_path w K Z) := by
  refine F.cal0 sc_l_path (fun _ _ _ _ _ _ us hl => match us, hl with | [_, _], _ => rfl) (by walk_at "len") (fun f cdv Ar outer s H vs Q E hr h => ?_)
  obtain ⟨a, ps, f, rfl, ha, wf, hf, hz, q⟩ := h
  refine ⟨_, (pss_cons (ps_set (i := 2) sc_l_path.nd rfl (Or.inl rfl) (pe_lst (pa_cons (pv 1) pa_nil)))
      (pss_cons (ps_for PassesOwn.never rfl (pi_range1 (by rfl) T.n_range (pa_cons (pe_callB call_len_seq (by rfl) T.n_len (by first | exact PySem.boot_len | decide +kernel) (pa_cons (pv 0) pa_nil)) pa_nil)) (pg_name (i := 3) sc_l_path.nd rfl (Or.inl rfl))
      (pss_one (ps_if (pt_cmpR op_notN (pe_ix ix_list (pv 0) (pe_ix ix_list (pv 2) pe_int (fun _ _ => rfl)) (fun _ _ => rfl)) pe_non (nomark _))
      (pss_one (ps_expr (pe_bm PySem.F.plainAttrs_list PySem.F.slot_list_insert PySem.F.type_list_insert mt_insert (pv 2) (pa_cons pe_int (pa_cons (pe_ix ix_list (pv 0) (pe_ix ix_list (pv 2) pe_int (fun _ _ => rfl)) (fun _ _ => rfl)) pa_nil))))) pss_nil)))
      (pss_one (ps_ret (pv 2))))), ?_⟩
  obtain ⟨rk, r1, r2⟩ := id wf
  refine ⟨_, rfl, sz (by show 1 ≤ 100000; decide), fun l nl => ?_⟩
  have s0 := same_new (o := .lst [nV f]) nl
  refine ⟨_, rfl, a, _, rfl, .inl (SqL.of (s0 _ _ ha)), _, rfl, by omega, by rw [List.length_map]; omega, for_rng (n := ps.length) (by rw [List.length_map]) (fun i σ H' => ∃ (g : Nat) (xs : List Nat) (v : Option V), σ = [some (.ref a), some (nV f), some (.ref l), v] ∧ Same H H' ∧ H' l = some (.lst ((g :: xs).map nV)) ∧ g < ps.length ∧ path ps f = path ps g ++ xs ∧ xs.length ≤ i ∧ (par ps g = none ∨ rk g + i < ps.length))
    ⟨f, [], none, rfl, s0, upd_same, hf, by simp, Nat.le_refl _, .inr (r1 f hf)⟩ ?_ ?_⟩
  · rintro i σ H' hi ⟨g, xs, v, rfl, sm, hL, hg, hp, hxs, ho⟩
    have ha' := sm _ _ ha
    refine ⟨_, rfl, _, rfl, l, _, 0, _, rfl, rfl, SqL.of hL, atI_nat (j := 0) rfl, a, _, _, _, rfl, rfl, SqL.of ha', atI_nat (at_par hg), rfl, _, rfl, ?_⟩
    cases e : par ps g with
    | none => exact ifF rfl ⟨g, xs, _, rfl, sm, hL, hg, hp, by omega, .inl e⟩
    | some p =>
      obtain ⟨hpl, hrk⟩ := r2 g p e
      refine ifT rfl ⟨_, rfl, .inl ⟨rfl, _, SqL.of hL⟩, _, rfl, _, rfl, l, _, 0, _, rfl, rfl, SqL.of hL, atI_nat (j := 0) rfl, a, _, _, _, rfl, rfl, SqL.of ha', atI_nat (at_par hg), l, _, 0, _, rfl, rfl, hL, szl ?_, by decide, by decide, ?_⟩
      · rw [List.length_map, List.length_cons]
        omega
      · rw [e]
        refine ⟨p, g :: xs, _, rfl, same_mut sm nl, upd_same, hpl, by rw [hp, path_step wf e]; simp, by rw [List.length_cons]; omega, ?_⟩
        rcases ho with ho | ho
        · rw [e] at ho
          cases ho
        · exact .inr (by omega)
  · rintro σ H' ⟨g, xs, v, rfl, sm, hL, hg, hp, hxs, ho⟩
    refine ⟨_, rfl, q l H' sm nl ?_⟩
    rw [hL, hp]
    rcases ho with ho | ho
    · rw [path_root ho] <;> rfl
    · omega
theorem ok_l_side (T : Txt P K Z mg) (F : At K mg "_law_side" s_l_side) (G_l_path : Cal P w K mg base CX0 1 "_law_path" P_l_path (sp_l_path w K Z)) : Cal P w K mg base CX0 2 "_law_side" P_l_side (sp_l_side w K Z) := by
  refine F.cal0 sc_l_side (fun _ _ _ _ _ _ us hl => match us, hl with | [_, _, _, _, _], _ => rfl) (by walk_at "len") (fun f cdv Ar outer s H vs Q E hr h => ?_)
  obtain ⟨a, k, o, n, ps, ks, r1, r2, f, rfl, ha, hk, ho, hn, wf, lk, l1, l2, hz, hf, q⟩ := h
  refine ⟨_, (pss_cons (ps_for PassesOwn.never rfl (pi_list (pe_cal G_l_path (hr.mono (by decide)) (by rfl) pass0 (pa_cons (pv 0) (pa_cons (pv 2) pa_nil)))) (pg_name (i := 5) sc_l_side.nd rfl (Or.inl rfl))
      (pss_one (ps_if (pt_cmpR op_ne (pe_ix ix_tup (pv 3) (pv 5) (fun _ _ => rfl)) (pe_ix ix_list (pv 4) (pv 5) (fun _ _ => rfl)) (nomark _))
      (pss_cons (ps_if (pt_cmpR op_eq (pe_ix ix_list (pv 1) (pv 5) (fun _ _ => rfl)) pe_str (nomark _))
      (pss_one (ps_ret pe_int)) pss_nil)
      (pss_cons (ps_if (pt_cmpR op_eq (pe_ix ix_list (pv 1) (pv 5) (fun _ _ => rfl)) pe_str (nomark _))
      (pss_one (ps_ret pe_int)) pss_nil)
      (pss_one (ps_ret (pe_callTy call_int1 (by rfl) T.n_int (by first | exact boot_int | decide +kernel) (pa_cons (pe_cmpR op_ne (pe_cmpR op_gt (pe_ix ix_tup (pv 3) (pv 5) (fun _ _ => rfl)) (pe_ix ix_list (pv 4) (pv 5) (fun _ _ => rfl)) (nomark _)) (pe_cmpR op_eq (pe_ix ix_list (pv 1) (pv 5) (fun _ _ => rfl)) pe_str (nomark _)) (nomark _)) pa_nil)))))) pss_nil)))
      (pss_one (ps_ret pe_int))), ?_⟩
  refine ⟨_, rfl, _, rfl, a, ps, f, rfl, ha, wf, hf, hz, fun p H1 s1 np hp => ?_⟩
  refine ⟨p, rfl, ⟨_, SqL.of hp⟩, for_lp (K := K) (a := p) (l := path ps f) (f := nV) (fun x σ H' => ∃ v, σ = [some (.ref a), some (.ref k), some (nV f), some (.ref o), some (.ref n), v] ∧ H' = H1 ∧ fu x r1 r2 = none)
    ⟨none, rfl, rfl, rfl⟩ (fun x σ H' ⟨_, _, e, _⟩ => by rw [e]; exact SqL.of hp) ?_ ?_⟩
  · rintro x g r σ H' hl ⟨v, rfl, rfl, hx⟩
    have hg : g < ps.length := path_lt wf f hf g (by rw [hl]; simp)
    refine ⟨_, rfl, _, rfl, o, _, _, _, rfl, rfl, SqT.of (s1 _ _ ho), atI_nat (at_atr (by omega)), _, rfl, _, rfl, n, _, _, _, rfl, rfl, SqL.of (s1 _ _ hn), atI_nat (at_atr (by omega)), rfl, _, rfl, ?_⟩
    by_cases c : atr r1 g = atr r2 g
    · refine ifF (by simp [c]) ⟨_, rfl, rfl, ?_⟩
      unfold fu
      exact find_snoc hx (by simp [c])
    · have hfu : fu (path ps f) r1 r2 = some g := by
        rw [hl]
        unfold fu
        exact find_cat hx (by simp [c])
      have hs : side ps ks r1 r2 f = if kd ks g = .fst ∨ bet (kd ks g) (atr r1 g) (atr r2 g) = true then 0 else 1 := by
        unfold side
        rw [hfu]
      refine ifT (by simp [c]) ?_
      have q' := q _ s1
      rw [hs] at q'
      have hkg := at_kd (ks := ks) (g := g) (by omega)
      refine ⟨_, rfl, _, rfl, k, _, _, _, rfl, rfl, SqL.of (s1 _ _ hk), atI_nat hkg, by cases kd ks g <;> rfl, _, rfl, ?_⟩
      by_cases c1 : kd ks g = .fst
      · refine ifT (by rw [c1]; rfl) ?_
        rw [if_pos (.inl c1)] at q'
        exact q'
      · refine ifF (by revert c1; cases kd ks g <;> intro c1 <;> first | rfl | exact absurd rfl c1) ?_
        refine ⟨_, rfl, _, rfl, k, _, _, _, rfl, rfl, SqL.of (s1 _ _ hk), atI_nat hkg, by cases kd ks g <;> rfl, _, rfl, ?_⟩
        by_cases c2 : kd ks g = .lst
        · refine ifT (by rw [c2]; rfl) ?_
          rw [c2] at q'
          exact q'
        · refine ifF (by revert c2; cases kd ks g <;> intro c2 <;> first | rfl | exact absurd rfl c2) ?_
          refine ⟨_, rfl, _, rfl, o, _, _, _, rfl, rfl, SqT.of (s1 _ _ ho), atI_nat (at_atr (by omega)), _, rfl, _, rfl, n, _, _, _, rfl, rfl, SqL.of (s1 _ _ hn), atI_nat (at_atr (by omega)), _, _, rfl, rfl, _, rfl, _, rfl, k, _, _, _, rfl, rfl, SqL.of (s1 _ _ hk), atI_nat hkg, by cases kd ks g <;> rfl, rfl, ?_⟩
          refine .inr ⟨_, rfl, ?_⟩
          refine cast (congrArg (fun z => Q (.int z) H') ?_) q'
          have nd : ¬ Str.ofString "down" = Str.ofString "up" := by decide +kernel
          revert c1 c2
          cases kd ks g <;> intro c1 c2
          · by_cases z : atr r2 g < atr r1 g
            · simp [bet, kS, z]
            · simp [bet, kS, z]
          · by_cases z : atr r2 g < atr r1 g
            · have : ¬ atr r1 g < atr r2 g := by omega
              simp [bet, kS, z, this, nd]
            · have : atr r1 g < atr r2 g := by omega
              simp [bet, kS, z, this, nd]
          · exact absurd rfl c1
          · exact absurd rfl c2
  · rintro σ H' ⟨v, rfl, rfl, hx⟩
    have q' := q _ s1
    unfold side at q'
    rw [hx] at q'
    exact q'
theorem ok_l_merge (T : Txt P K Z mg) (F : At K mg "_law_merge" s_l_merge) (G_l_side : Cal P w K mg base CX0 2 "_law_side" P_l_side (sp_l_side w K Z)) : Cal P w K mg base CX0 3 "_law_merge" P_l_merge (sp_l_merge w K Z) := by
  refine F.cal0 sc_l_merge (fun _ _ _ _ _ _ us hl => match us, hl with | [_, _, _, _], _ => rfl) (by walk_at "len") (fun f cdv Ar outer s H vs Q E hr h => ?_)
  obtain ⟨a, k, o, n, ps, ks, r1, r2, rfl, ha, hk, ho, hn, wf, lk, l1, l2, hz, q⟩ := h
  refine ⟨_, (pss_cons (ps_set (i := 4) sc_l_merge.nd rfl (Or.inr rfl) (pe_lst (pa_cons (pv 2) (pa_cons (pv 3) pa_nil))))
      (pss_one (ps_ret (pe_callTy call_tuple_of (by rfl) T.n_tuple (by first | exact boot_tuple | decide +kernel) (pa_cons (pe_lc (own := [("_law_f", 5)]) (g := gName 5) rfl sc_l_merge.nd (pi_range1 (by rfl) T.n_range (pa_cons (pe_callB call_len_seq (by rfl) T.n_len (by first | exact PySem.boot_len | decide +kernel) (pa_cons (pv 0) pa_nil)) pa_nil)) (blkOk_by (own := [("_law_f", 5)]) (N := N_l_merge) (sc := defScope s_l_merge) (by decide +kernel)) (fun _ _ _ _ _ => pg_name (i := 5) sc_l_merge.nd rfl (Or.inl rfl)) (fun _ _ _ _ _ => pts_nil) (fun _ _ _ _ _ => (pe_ix (show IxR _ (rIx K) from ix_seq) (pe_ix (show IxR _ (rIxL K) from ix_list) (pv 4) (pe_cal G_l_side (hr.mono (by decide)) (by rfl) pass0 (pa_cons (pv 0) (pa_cons (pv 1) (pa_cons (pv 5) (pa_cons (pv 2) (pa_cons (pv 3) pa_nil)))))) (fun _ _ => rfl)) (pv 5) (fun _ _ => rfl)))) pa_nil))))), ?_⟩
  refine ⟨_, rfl, _, rfl, sz (by show 2 ≤ 100000; decide), fun l nl => ?_⟩
  have s0 := same_new (o := .lst [V.ref o, V.ref n]) nl
  refine ⟨_, rfl, a, _, rfl, .inl (SqL.of (s0 _ _ ha)), _, rfl, by omega, by rw [List.length_map]; omega, fun p np => ?_⟩
  refine lcR np (n := ps.length) (by rw [List.length_map]) (fun _ => true) (fun f => .int (pick ps ks r1 r2 f)) (by omega) (fun i hi => ⟨rfl, fun H' _ R k => k H' (Same.refl _), fun _ H' s1 R kk => ?_⟩) (fun H' s1 hp => ?_)
  · have s2 := s0.trans s1
    refine ⟨_, rfl, _, rfl, _, rfl, _, rfl, _, rfl, _, rfl, a, k, o, n, ps, ks, r1, r2, i, rfl, s2 _ _ ha, s2 _ _ hk, s2 _ _ ho, s2 _ _ hn, wf, lk, l1, l2, hz, hi, fun H3 s3 => ?_⟩
    have s4 := s2.trans s3
    have hl3 : H3 l = some (.lst [V.ref o, V.ref n]) := s3 _ _ (s1 _ _ upd_same)
    have fin : R (.int (pick ps ks r1 r2 i)) H3 := kk H3 s3
    rw [pick_side] at fin
    have sd : side ps ks r1 r2 i = 0 ∨ side ps ks r1 r2 i = 1 := by
      unfold side
      cases fu (path ps i) r1 r2 with
      | none => exact .inl rfl
      | some g =>
        show (if _ then 0 else 1) = 0 ∨ (if _ then 0 else 1) = 1
        split
        · exact .inl rfl
        · exact .inr rfl
    rcases sd with e | e
    · rw [e] at fin ⊢
      exact ⟨l, _, _, _, rfl, rfl, SqL.of hl3, atI_nat (j := 0) rfl, _, rfl, .inr (.inl ⟨o, _, _, _, rfl, rfl, SqT.of (s4 _ _ ho), atI_nat (at_atr (by omega)), fin⟩)⟩
    · rw [e] at fin ⊢
      exact ⟨l, _, _, _, rfl, rfl, SqL.of hl3, atI_nat (j := 1) rfl, _, rfl, .inl ⟨n, _, _, _, rfl, rfl, SqL.of (s4 _ _ hn), atI_nat (at_atr (by omega)), fin⟩⟩
  · refine ⟨p, _, rfl, .inl ⟨SqL.of hp, fun t nt => ?_⟩⟩
    refine q t _ (s0.trans (s1.trans (same_new nt))) (s0.free (s1.free nt)) ?_
    rw [upd_same]
    unfold merge
    rw [List.map_map, List.filter_eq_self.mpr (by intro _ _; rfl)] <;> rfl
theorem ok_l_is_integer (T : Txt P K Z mg) (F : At K mg "_law_is_integer" s_l_is_integer) : Cal P w K mg base CX0 1 "_law_is_integer" P_l_is_integer (sp_l_is_integer w K Z) := by
  refine F.cal0 sc_l_is_integer (fun _ _ _ _ _ _ us hl => match us, hl with | [_], _ => rfl) (by walk_at "len") (fun f cdv Ar outer s H vs Q E hr h => ?_)
  obtain ⟨i, rfl, q⟩ := h
  refine ⟨_, (pss_one (ps_ret (pe_and (pe_callB call_isi (by rfl) T.n_isinstance (by first | exact PySem.boot_isinstance | decide +kernel) (pa_cons (pv 0) (pa_cons (pe_bltn (v := .ty "int") (by rfl) T.n_int (by first | exact boot_int | decide +kernel) rfl) pa_nil))) (pe_one (pe_not (pe_callB call_isi (by rfl) T.n_isinstance (by first | exact PySem.boot_isinstance | decide +kernel) (pa_cons (pv 0) (pa_cons (pe_bltn (v := .ty "bool") (by rfl) T.n_bool (by first | exact boot_bool | decide +kernel) rfl) pa_nil)))))))), ?_⟩
  refine ⟨_, rfl, _, _, _, _, true, rfl, .ty _, .base (.int _), rfl, true, rfl, ifT rfl ⟨_, rfl, _, _, _, _, false, rfl, .ty _, .base (.int _), rfl, _, rfl, q⟩⟩
theorem ok_l_is_record (T : Txt P K Z mg) (F : At K mg "_law_is_record" s_l_is_record) (G_l_is_integer : Cal P w K mg base CX0 1 "_law_is_integer" P_l_is_integer (sp_l_is_integer w K Z)) : Cal P w K mg base CX0 2 "_law_is_record" P_l_is_record (sp_l_is_record w K Z) := by
  refine F.cal0 sc_l_is_record (fun _ _ _ _ _ _ us hl => match us, hl with | [_, _], _ => rfl) (by walk_at "len") (fun f cdv Ar outer s H vs Q E hr h => ?_)
  obtain ⟨a, rs, n, rfl, ha, hn, q⟩ := h
  refine ⟨_, (pss_cons (ps_if (PW.pt (pw_or (pt_not (pt_val (pe_callB call_isi (by rfl) T.n_isinstance (by first | exact PySem.boot_isinstance | decide +kernel) (pa_cons (pv 0) (pa_cons (pe_bltn (v := .ty "tuple") (by rfl) T.n_tuple (by first | exact boot_tuple | decide +kernel) rfl) pa_nil))))) (pw_or1 (pt_cmpR op_ne (pe_callB call_len_seq (by rfl) T.n_len (by first | exact PySem.boot_len | decide +kernel) (pa_cons (pv 0) pa_nil)) (pv 1) (nomark _)))))
      (pss_one (ps_ret pe_bl)) pss_nil)
      (pss_cons (ps_for PassesOwn.never rfl (pi_tup (pv 0)) (pg_name (i := 2) sc_l_is_record.nd rfl (Or.inl rfl))
      (pss_one (ps_if (pt_not (pt_val (pe_cal G_l_is_integer (hr.mono (by decide)) (by rfl) pass0 (pa_cons (pv 2) pa_nil))))
      (pss_one (ps_ret pe_bl)) pss_nil)))
      (pss_one (ps_ret pe_bl)))), ?_⟩
  refine ⟨_, rfl, _, _, _, _, true, rfl, .ty _, .base (.tup ha), rfl, _, rfl, ifF rfl ⟨_, rfl, a, _, rfl, .inr (SqT.of ha), _, rfl, rfl, _, rfl, ?_⟩⟩
  refine ifF (by rw [List.length_map, hn]; simp) ?_
  refine ⟨_, rfl, a, rfl, ⟨_, SqT.of ha⟩, for_tp (K := K) (a := a) (l := rs) (f := V.int) (fun p σ H' => ∃ v, σ = [some (.ref a), some (.int n), v] ∧ H' = H)
    ⟨none, rfl, rfl⟩ (fun p σ H' ⟨_, _, e⟩ => by rw [e]; exact SqT.of ha) ?_ ?_⟩
  · rintro p i r σ H' hl ⟨v, rfl, rfl⟩
    exact ⟨_, rfl, i, rfl, _, rfl, ifF rfl ⟨_, rfl, rfl⟩⟩
  · rintro σ H' ⟨v, rfl, rfl⟩
    exact q
theorem ok_l_is_ascending (T : Txt P K Z mg) (F : At K mg "_law_is_ascending" s_l_is_ascending) (G_l_is_integer : Cal P w K mg base CX0 1 "_law_is_integer" P_l_is_integer (sp_l_is_integer w K Z)) : Cal P w K mg base CX0 2 "_law_is_ascending" P_l_is_ascending (sp_l_is_ascending w K Z) := by
  refine F.cal0 sc_l_is_ascending (fun _ _ _ _ _ _ us hl => match us, hl with | [_, _], _ => rfl) (by walk_at "len") (fun f cdv Ar outer s H vs Q E hr h => ?_)
  obtain ⟨a, l, n, rfl, ha, asc, hn, q⟩ := h
  refine ⟨_, (pss_cons (ps_if (pt_not (pt_val (pe_callB call_isi (by rfl) T.n_isinstance (by first | exact PySem.boot_isinstance | decide +kernel) (pa_cons (pv 0) (pa_cons (pe_bltn (v := .ty "tuple") (by rfl) T.n_tuple (by first | exact boot_tuple | decide +kernel) rfl) pa_nil)))))
      (pss_one (ps_ret pe_bl)) pss_nil)
      (pss_cons (ps_set (i := 2) sc_l_is_ascending.nd rfl (Or.inl rfl) (pe_op op_sub pe_int pe_int))
      (pss_cons (ps_for PassesOwn.never rfl (pi_tup (pv 0)) (pg_name (i := 3) sc_l_is_ascending.nd rfl (Or.inl rfl))
      (pss_cons (ps_if (PW.pt (pw_or (pt_not (pt_val (pe_cal G_l_is_integer (hr.mono (by decide)) (by rfl) pass0 (pa_cons (pv 3) pa_nil)))) (pw_or1 (pt_not (pt_chain op_lt op_lt (pv 2) (pv 3) (pv 1))))))
      (pss_one (ps_ret pe_bl)) pss_nil)
      (pss_one (ps_set (i := 2) sc_l_is_ascending.nd rfl (Or.inl rfl) (pv 3)))))
      (pss_one (ps_ret pe_bl))))), ?_⟩
  refine ⟨_, rfl, _, _, _, _, true, rfl, .ty _, .base (.tup ha), rfl, _, rfl, ifF rfl ?_⟩
  refine ⟨_, _, rfl, rfl, ?_⟩
  refine ⟨_, rfl, a, rfl, ⟨_, SqT.of ha⟩, for_tp (K := K) (a := a) (l := l) (f := nV) (fun p σ H' => ∃ (z : Int) (v : Option V), σ = [some (.ref a), some (nV n), some (.int z), v] ∧ H' = H ∧ (∀ x : Nat, (∀ y ∈ p, y < x) → z < (x : Int)))
    ⟨_, none, rfl, rfl, fun x _ => by omega⟩ (fun p σ H' ⟨_, _, _, e, _⟩ => by rw [e]; exact SqT.of ha) ?_ ?_⟩
  · rintro p i r σ H' hl ⟨z, v, rfl, rfl, hz⟩
    have hlt : ∀ y ∈ p, y < i := fun y hy => by
      rw [hl] at asc
      exact (List.pairwise_append.mp asc).2.2 y hy i List.mem_cons_self
    have h1 := hz i hlt
    have h2 := hn i (by rw [hl]; simp)
    refine ⟨_, rfl, _, rfl, _, rfl, ifF rfl ?_⟩
    refine ⟨_, rfl, _, rfl, _, _, rfl, rfl, _, rfl, ifT (decide_eq_true h1) ⟨_, rfl, _, _, rfl, rfl, _, rfl, ifF (by rw [decide_eq_true (show (i : Int) < (n : Int) by omega)]; rfl) ?_⟩⟩
    refine ⟨_, rfl, _, _, rfl, rfl, fun x hx => ?_⟩
    have := hx i (by simp)
    omega
  · rintro σ H' ⟨z, v, rfl, rfl, hz⟩
    exact q
theorem ok_l_raised (T : Txt P K Z mg) (F : At K mg "_law_raised" s_l_raised) : Cal P w K mg base CX0 1 "_law_raised" P_l_raised (sp_l_raised w K Z) := by
  refine F.cal0 sc_l_raised (fun _ _ _ _ _ _ us hl => match us, hl with | [_, _, _], _ => rfl) (by walk_at "len") (fun f cdv Ar outer s H vs Q E hr h => ?_)
  obtain ⟨k, i, j, rfl, q⟩ := h
  refine ⟨_, (pss_cons (ps_if (pt_cmpR op_eq (pv 0) pe_str (nomark _))
      (pss_one (ps_ret (pe_op op_sub (pv 1) (pv 2)))) pss_nil)
      (pss_one (ps_ret (pe_op op_add (pv 1) (pv 2))))), ?_⟩
  cases k
  · exact ⟨_, rfl, rfl, _, rfl, iteF ⟨_, rfl, _, rfl, _, _, rfl, rfl, q⟩⟩
  · exact ⟨_, rfl, rfl, _, rfl, iteT ⟨_, rfl, _, rfl, _, _, rfl, rfl, q⟩⟩
  · exact ⟨_, rfl, rfl, _, rfl, iteF ⟨_, rfl, _, rfl, _, _, rfl, rfl, q⟩⟩
  · exact ⟨_, rfl, rfl, _, rfl, iteF ⟨_, rfl, _, rfl, _, _, rfl, rfl, q⟩⟩
theorem ok_l_step (T : Txt P K Z mg) (F : At K mg "_law_step" s_l_step) : Cal P w K mg base CX0 1 "_law_step" P_l_step (sp_l_step w K Z) := by
  refine F.cal0 sc_l_step (fun _ _ _ _ _ _ us hl => match us, hl with | [_, _, _], _ => rfl) (by walk_at "len") (fun f cdv Ar outer s H vs Q E hr h => ?_)
  obtain ⟨k, o, n, rfl, hk, q⟩ := h
  refine ⟨_, (pss_cons (ps_if (pt_cmpR op_eq (pv 1) (pv 2) (nomark _))
      (pss_one (ps_ret pe_int)) pss_nil)
      (pss_cons (ps_if (pt_cmpR op_eq (pe_cmpR op_gt (pv 2) (pv 1) (nomark _)) (pe_cmpR op_eq (pv 0) pe_str (nomark _)) (nomark _))
      (pss_one (ps_ret pe_int)) pss_nil)
      (pss_one (ps_ret (pe_op op_sub pe_int pe_int))))), ?_⟩
  refine ⟨_, rfl, _, rfl, rfl, _, rfl, ?_⟩
  have nd : ¬ Str.ofString "down" = Str.ofString "up" := by decide +kernel
  by_cases c : o = n
  · refine ifT (by simp [c]) ?_
    unfold stp at q
    rw [if_pos c] at q
    exact q
  · refine ifF (by simp [c]) ?_
    refine ⟨_, rfl, _, rfl, _, _, rfl, rfl, _, rfl, by cases k <;> rfl, rfl, _, rfl, ?_⟩
    unfold stp at q
    rw [if_neg c] at q
    have e : decide (V.bl (decide (o < n)) = V.bl (decide (kS k = V.str "up"))) = bet k n o := by
      rcases hk with rfl | rfl
      · by_cases z : o < n
        · simp [bet, kS, z]
        · simp [bet, kS, z]
      · by_cases z : o < n
        · have : ¬ n < o := by omega
          simp [bet, kS, z, this, nd]
        · have : n < o := by omega
          simp [bet, kS, z, this, nd]
    show if (decide (V.bl (decide (o < n)) = V.bl (decide (kS k = V.str "up")))) = true then _ else _
    rw [e]
    cases c2 : bet k n o with
    | true =>
      refine ifT rfl ?_
      rw [c2] at q
      exact q
    | false =>
      refine ifF rfl ?_
      rw [c2] at q
      exact ⟨_, _, rfl, rfl, q⟩
theorem ok_l_picked (T : Txt P K Z mg) (F : At K mg "_law_picked" s_l_picked) : Cal P w K mg base CX0 1 "_law_picked" P_l_picked (sp_l_picked w K Z) := by
  refine F.cal0 sc_l_picked (fun _ _ _ _ _ _ us hl => match us, hl with | [_, _], _ => rfl) (by walk_at "len") (fun f cdv Ar outer s H vs Q E hr h => ?_)
  obtain ⟨a, S, n, rfl, ha, hz, q⟩ := h
  refine ⟨_, (pss_one (ps_ret (pe_lc (own := [("_law_field", 2)]) (g := gName 2) rfl sc_l_picked.nd (pi_range1 (by rfl) T.n_range (pa_cons (pv 1) pa_nil)) (blkOk_by (own := [("_law_field", 2)]) (N := N_l_picked) (sc := defScope s_l_picked) (by decide +kernel)) (fun _ _ _ _ _ => pg_name (i := 2) sc_l_picked.nd rfl (Or.inl rfl)) (fun _ _ _ _ _ => pts_one (pt_cmpR (show OpR _ (compareOp .In) (rIn K false) from op_in_seq) (pv 2) (pv 0) (by rfl))) (fun _ _ _ _ _ => (pv 2))))), ?_⟩
  refine ⟨_, rfl, _, rfl, by omega, by omega, fun p np => ?_⟩
  refine lcR np (n := n) rfl (fun g => decide (g ∈ S)) nV (by omega) (fun i hi => ⟨rfl, fun H' s1 R k => ?_, fun _ H' s1 R k => ⟨_, rfl, k H' (Same.refl _)⟩⟩) (fun H' s1 hp => ?_)
  · refine ⟨_, rfl, _, rfl, a, _, rfl, .inl (SqL.of (s1 _ _ ha)), rfl, flat_nV S, _, rfl, ?_⟩
    show R (inV (nV i) (S.map nV)) H'
    rw [in_nV]
    exact k H' (Same.refl _)
  · exact q p H' s1 np hp
theorem ok_l_new (T : Txt P K Z mg) (F : At K mg "_law_new" s_l_new) : Cal P w K mg base CX0 1 "_law_new" P_l_new (sp_l_new w K Z) := by
  refine F.cal0 sc_l_new (fun _ _ _ _ _ _ us hl => match us, hl with | [_, _], _ => rfl) (by walk_at "len") (fun f cdv Ar outer s H vs Q E hr h => ?_)
  obtain ⟨b, d, rs, ch, rfl, hb, hd, hz, hk, q⟩ := h
  refine ⟨_, (pss_cons (ps_set (i := 2) sc_l_new.nd rfl (Or.inl rfl) (pe_callTy call_list_of (by rfl) T.n_list (by first | exact boot_list | decide +kernel) (pa_cons (pv 0) pa_nil)))
      (pss_cons (ps_lock (ps_for PassesOwn.never rfl (pi_keys (pv 1)) (pg_name (i := 3) sc_l_new.nd rfl (Or.inl rfl))
      (pss_one (ps_asg (pe_dget (hu_of hr) (pv 1) (pv 3) (fun _ _ => rfl)) (pg_sub (pv 2) (pv 3) set_list)))))
      (pss_one (ps_ret (pe_callTy call_tuple_of (by rfl) T.n_tuple (by first | exact boot_tuple | decide +kernel) (pa_cons (pv 2) pa_nil)))))), ?_⟩
  refine ⟨_, rfl, b, _, rfl, .inr (SqT.of hb), fun l nl => ?_⟩
  have s0 := same_new (o := .lst (rs.map V.int)) nl
  have hd0 := s0 _ _ hd
  have ld : l ≠ d := (ne_of_none hd nl).symm
  have nlH : ∀ od, upd H d (.frz od (.dK (dV ch))) l = none := fun od => by rw [upd_ne ld]; exact nl
  refine ⟨d, _, hd0, trivial, fun od => ?_⟩
  refine ⟨_, rfl, d, od, rfl, .inl ⟨_, upd_same, for_dk (ch := ch) (fun p σ H' => ∃ v, σ = [some (.ref b), some (.ref d), some (.ref l), v] ∧ Same (upd H d (.frz od (.dK (dV ch)))) H' ∧ H' l = some (.lst ((List.range rs.length).map fun f : Nat => .int (if inC p (f : Int) = true then (look ch (f : Int)).getD (atr rs f) else atr rs f))))
    ⟨none, rfl, ?_, ?_⟩ (fun p σ H' ⟨_, _, sm, _⟩ => sm _ _ upd_same) ?_ ?_⟩⟩
  · intro x o e
    by_cases c : x = d
    · subst c
      rw [upd_same] at e ⊢
      exact e
    · rw [upd_ne c] at e ⊢
      exact s0 _ _ e
  · rw [upd_ne ld, upd_same, map_rng]
    have : ∀ f : Nat, (if inC ([] : Chg) (f : Int) = true then (look ch (f : Int)).getD (atr rs f) else atr rs f) = atr rs f := fun f => rfl
    simp only [this]
  · rintro p ⟨k, v⟩ r σ H' hl ⟨u, rfl, sm, hL⟩
    have hdk : H' d = some (.frz od (.dK (dV ch))) := sm _ _ upd_same
    obtain ⟨k0, k1⟩ := hk k (by rw [hl]; simp)
    obtain ⟨g, rfl⟩ := Int.eq_ofNat_of_zero_le k0
    have hin : inC ch (g : Int) = true := inC_iff.mpr (by rw [hl]; simp)
    obtain ⟨y, hy⟩ := Option.isSome_iff_exists.mp hin
    have hg2 : valV (dV ch) (Sum.inl (g : Int)) = some (.int y) := by rw [valV_dV, hy] <;> rfl
    refine ⟨_, rfl, _, rfl, d, .int y, rfl, .inl ⟨_, Sum.inl (g : Int), .inr ⟨_, hdk⟩, rfl, hg2.symm⟩, ?_⟩
    · refine ⟨_, rfl, _, rfl, l, _, (g : Int), g, rfl, rfl, hL, ixN_at rfl (by rw [List.length_map, List.length_range]; omega), ?_⟩
      refine ⟨_, rfl, same_mut sm (nlH od), ?_⟩
      rw [upd_same, set_rmap]
      refine congrArg (fun z => some (HO.lst z)) (List.map_congr_left fun f _ => ?_)
      have ei : inC (p ++ [((g : Int), v)]) (f : Int) = (inC p (f : Int) || decide (f = g)) := by
        rw [inC_app]
        refine congrArg _ ?_
        unfold inC look
        by_cases c : f = g
        · subst c
          simp
        · have : ¬ (g : Int) = (f : Int) := by omega
          simp [c, this]
      rw [ei]
      by_cases c : f = g
      · subst c
        rw [if_pos rfl, decide_eq_true rfl, Bool.or_true, if_pos rfl, hy] <;> rfl
      · rw [if_neg c, decide_eq_false c, Bool.or_false]
  · rintro σ H' ⟨u, rfl, sm, hL⟩
    refine ⟨sm _ _ upd_same, ?_⟩
    have s5 := same_unlock hd sm
    refine ⟨_, rfl, l, _, rfl, .inl ⟨SqL.of (by rw [upd_ne ld]; exact hL), fun t nt => ?_⟩⟩
    refine q t _ (s5.trans (same_new nt)) (s5.free nt) ?_
    rw [upd_same]
    refine congrArg (fun z => some (HO.tup z)) ?_
    unfold wv
    rw [List.map_map]
    refine List.map_congr_left fun f _ => ?_
    show V.int _ = V.int _
    refine congrArg V.int ?_
    unfold inC
    cases e : look ch (f : Int) with
    | none => simp [e]
    | some y => simp [e]
theorem ok_l_level (T : Txt P K Z mg) (F : At K mg "_law_level" s_l_level) : Cal P w K mg base CX0 1 "_law_level" P_l_level (sp_l_level w K Z) := by
  refine F.cal0 sc_l_level (fun _ _ _ _ _ _ us hl => match us, hl with | [_], _ => rfl) (by walk_at "len") (fun f cdv Ar outer s H vs Q E hr h => ?_)
  obtain ⟨a, ks, rfl, ha, hz, q⟩ := h
  refine ⟨_, (pss_cons (ps_set (i := 1) sc_l_level.nd rfl (Or.inl rfl) (pe_lst pa_nil))
      (pss_cons (ps_for PassesOwn.never rfl (pi_list (pv 0)) (pg_name (i := 2) sc_l_level.nd rfl (Or.inl rfl))
      (pss_one (ps_if (pt_cmpR op_eq (pv 2) pe_str (nomark _))
      (pss_one (ps_expr (pe_bm PySem.F.plainAttrs_list PySem.F.slot_list_append PySem.F.type_list_append mt_append (pv 1) (pa_cons pe_str pa_nil)))) (pss_one (ps_if (pt_cmpR op_eq (pv 2) pe_str (nomark _))
      (pss_one (ps_expr (pe_bm PySem.F.plainAttrs_list PySem.F.slot_list_append PySem.F.type_list_append mt_append (pv 1) (pa_cons pe_str pa_nil)))) (pss_one (ps_expr (pe_bm PySem.F.plainAttrs_list PySem.F.slot_list_append PySem.F.type_list_append mt_append (pv 1) (pa_cons (pv 2) pa_nil)))))))))
      (pss_one (ps_ret (pv 1))))), ?_⟩
  refine ⟨Nat.zero_le _, fun l nl => ?_⟩
  have s0 := same_new (o := .lst []) nl
  refine ⟨_, rfl, a, rfl, ⟨_, SqL.of (s0 _ _ ha)⟩, for_lp (K := K) (a := a) (l := ks) (f := kS) (fun p σ H' => ∃ v, σ = [some (.ref a), some (.ref l), v] ∧ Same H H' ∧ H' l = some (.lst ((p.map lev).map kS)))
    ⟨none, rfl, s0, upd_same⟩ (fun p σ H' ⟨_, _, sm, _⟩ => SqL.of (sm _ _ ha)) ?_ ?_⟩
  · rintro p i r σ H' hl ⟨v, rfl, sm, hL⟩
    have fin : ∀ y, y = kS (lev i) → ∃ v, [some (V.ref a), some (.ref l), some (kS i)] = [some (.ref a), some (.ref l), v] ∧ Same H (upd H' l (.lst ((p.map lev).map kS ++ [y]))) ∧ upd H' l (.lst ((p.map lev).map kS ++ [y])) l = some (.lst (((p ++ [i]).map lev).map kS)) := fun y e => by
      subst e
      exact ⟨_, rfl, same_mut sm nl, by rw [upd_same, List.map_append, List.map_append] <;> rfl⟩
    have sl : ((p.map lev).map kS).length < sizeLine := by
      rw [List.length_map, List.length_map]
      have e := congrArg List.length hl
      rw [List.length_append, List.length_cons] at e
      exact szl (by omega)
    cases i with
    | up => exact ⟨_, rfl, rfl, _, rfl, iteF ⟨_, rfl, rfl, _, rfl, iteF ⟨_, rfl, .inl ⟨rfl, _, SqL.of hL⟩, _, rfl, l, _, _, rfl, rfl, hL, sl, fin _ rfl⟩⟩⟩
    | down => exact ⟨_, rfl, rfl, _, rfl, iteF ⟨_, rfl, rfl, _, rfl, iteF ⟨_, rfl, .inl ⟨rfl, _, SqL.of hL⟩, _, rfl, l, _, _, rfl, rfl, hL, sl, fin _ rfl⟩⟩⟩
    | fst => exact ⟨_, rfl, rfl, _, rfl, iteT ⟨_, rfl, .inl ⟨rfl, _, SqL.of hL⟩, l, _, _, rfl, rfl, hL, sl, fin _ rfl⟩⟩
    | lst => exact ⟨_, rfl, rfl, _, rfl, iteF ⟨_, rfl, rfl, _, rfl, iteT ⟨_, rfl, .inl ⟨rfl, _, SqL.of hL⟩, l, _, _, rfl, rfl, hL, sl, fin _ rfl⟩⟩⟩
  · rintro σ H' ⟨v, rfl, sm, hL⟩
    exact ⟨_, rfl, q l H' sm nl hL⟩
theorem ok_l_unfair (T : Txt P K Z mg) (F : At K mg "_law_unfair" s_l_unfair) : Cal P w K mg base CX0 1 "_law_unfair" P_l_unfair (sp_l_unfair w K Z) := by
  refine F.cal0 sc_l_unfair (fun _ _ _ _ _ _ us hl => match us, hl with | [_], _ => rfl) (by walk_at "len") (fun f cdv Ar outer s H vs Q E hr h => ?_)
  obtain ⟨a, ks, rfl, ha, hz, q1, q2⟩ := h
  refine ⟨_, (pss_cons (ps_for PassesOwn.never rfl (pi_range1 (by rfl) T.n_range (pa_cons (pe_callB call_len_seq (by rfl) T.n_len (by first | exact PySem.boot_len | decide +kernel) (pa_cons (pv 0) pa_nil)) pa_nil)) (pg_name (i := 1) sc_l_unfair.nd rfl (Or.inl rfl))
      (pss_one (ps_if (PW.pt (pw_or (pt_cmpR op_eq (pe_ix ix_list (pv 0) (pv 1) (fun _ _ => rfl)) pe_str (nomark _)) (pw_or1 (pt_cmpR op_eq (pe_ix ix_list (pv 0) (pv 1) (fun _ _ => rfl)) pe_str (nomark _)))))
      (pss_one (ps_ret (pe_tup (pa_cons pe_str (pa_cons (pv 1) pa_nil))))) pss_nil)))
      (pss_one (ps_ret pe_non))), ?_⟩
  refine ⟨_, rfl, a, _, rfl, .inl (SqL.of ha), _, rfl, by omega, by rw [List.length_map]; omega, for_rng (n := ks.length) (by rw [List.length_map]) (fun i σ H' => ∃ v, σ = [some (.ref a), v] ∧ H' = H ∧ (List.range i).find? (fun f => unf (kd ks f)) = none)
    ⟨none, rfl, rfl, rfl⟩ ?_ ?_⟩
  · rintro i σ H' hi ⟨v, rfl, rfl, hn⟩
    have hki := at_kd hi
    have yes : unf (kd ks i) = true → ∀ p, H' p = none → Q (.ref p) (upd H' p (.tup [.str "NotFair", nV i])) := fun c p np => q2 i (find_rng hi hn c) p _ (same_new np) np upd_same
    have no : unf (kd ks i) = false → (List.range (i + 1)).find? (fun f => unf (kd ks f)) = none := fun c => by
      rw [List.range_succ]
      exact find_snoc hn c
    refine ⟨_, rfl, _, rfl, a, _, _, _, rfl, rfl, SqL.of ha, atI_nat hki, by cases kd ks i <;> rfl, _, rfl, ?_⟩
    by_cases c1 : kd ks i = .fst
    · refine ifT (by rw [c1]; rfl) (ifT rfl ?_)
      exact ⟨_, rfl, sz (by show 2 ≤ 100000; decide), fun p np => yes (by rw [c1]; rfl) p np⟩
    · refine ifF (by revert c1; cases kd ks i <;> intro c1 <;> first | rfl | exact absurd rfl c1) ?_
      refine ⟨_, rfl, _, rfl, a, _, _, _, rfl, rfl, SqL.of ha, atI_nat hki, by cases kd ks i <;> rfl, _, rfl, ?_⟩
      by_cases c2 : kd ks i = .lst
      · refine ifT (by rw [c2]; rfl) ?_
        exact ⟨_, rfl, sz (by show 2 ≤ 100000; decide), fun p np => yes (by rw [c2]; rfl) p np⟩
      · refine ifF (by revert c2; cases kd ks i <;> intro c2 <;> first | rfl | exact absurd rfl c2) ?_
        exact ⟨_, rfl, rfl, no (by revert c1 c2; cases kd ks i <;> intro c1 c2 <;> first | rfl | exact absurd rfl c1 | exact absurd rfl c2)⟩
  · rintro σ H' ⟨v, rfl, rfl, hn⟩
    exact q1 hn
end
end K56
namespace K56
open PySem PySem.Spec PyProof.Rows L2
local macro_rules | `(tactic| walk_at "len") => `(tactic| (intro vs H Q E h; repeat' (first | (rcases h with ⟨e, _⟩; exact congrArg List.length e) | (rcases h with ⟨_, h⟩))))
abbrev s_l_blocked : Stmt := top 65
abbrev N_l_blocked : List Str := ["_law_parents_here", "_law_kinds_here", "_law_base", "_law_new_here", "_law_steps", "_law_blocked_here", "_law_field", "_law_place"]
abbrev P_l_blocked : List Str := ["_law_parents_here", "_law_kinds_here", "_law_base", "_law_new_here"]
theorem sc_l_blocked : FnScope N_l_blocked P_l_blocked (defScope s_l_blocked) := ⟨rfl, rfl, rfl, by decide +kernel, rfl, by decide +kernel, by decide +kernel⟩
abbrev s_l_raises : Stmt := top 78
abbrev N_l_raises : List Str := ["_law_parents_here", "_law_kinds_here", "_law_base", "_law_changes_here", "_law_nearest", "_law_fewest", "_law_field", "_law_above", "_law_place"]
abbrev P_l_raises : List Str := ["_law_parents_here", "_law_kinds_here", "_law_base", "_law_changes_here"]
theorem sc_l_raises : FnScope N_l_raises P_l_raises (defScope s_l_raises) := ⟨rfl, rfl, rfl, by decide +kernel, rfl, by decide +kernel, by decide +kernel⟩
abbrev s_l_sets : Stmt := top 74
abbrev N_l_sets : List Str := ["_law_fields", "_law_sets_here", "_law_field", "_law_some"]
abbrev P_l_sets : List Str := ["_law_fields"]
theorem sc_l_sets : FnScope N_l_sets P_l_sets (defScope s_l_sets) := ⟨rfl, rfl, rfl, by decide +kernel, rfl, by decide +kernel, by decide +kernel⟩
abbrev s_l_helps : Stmt := top 75
abbrev N_l_helps : List Str := ["_law_parents_here", "_law_kinds_here", "_law_base", "_law_new_here", "_law_some", "_law_record_here", "_law_field"]
abbrev P_l_helps : List Str := ["_law_parents_here", "_law_kinds_here", "_law_base", "_law_new_here", "_law_some"]
theorem sc_l_helps : FnScope N_l_helps P_l_helps (defScope s_l_helps) := ⟨rfl, rfl, rfl, by decide +kernel, rfl, by decide +kernel, by decide +kernel⟩
abbrev s_l_reach : Stmt := top 76
abbrev N_l_reach : List Str := ["_law_parents_here", "_law_some", "_law_found", "_law_field", "_law_place"]
abbrev P_l_reach : List Str := ["_law_parents_here", "_law_some"]
theorem sc_l_reach : FnScope N_l_reach P_l_reach (defScope s_l_reach) := ⟨rfl, rfl, rfl, by decide +kernel, rfl, by decide +kernel, by decide +kernel⟩
def sp_l_blocked (w : World) (K : PySem.W.Frag) (Z : Ad) : Sp := fun vs H Q _ => ∃ (a k o n : Addr) (ps : Par) (ks : List Kd) (rs : List Int) (ch : Chg), vs = [.ref a, .ref k, .ref o, .ref n] ∧ H a = some (.lst (ps.map pV)) ∧ H k = some (.lst (ks.map kS)) ∧
  H o = some (.tup (rs.map V.int)) ∧ H n = some (.tup ((wv rs ch).map V.int)) ∧ WF ps ∧ ks.length = ps.length ∧ rs.length = ps.length ∧ ps.length ≤ 1000 ∧ fair ks ∧
  ∀ p H', Same H H' → H p = none → H' p = some (.lst ((blk ps ks rs ch).map nV)) → Q (.ref p) H'
def sp_l_raises (w : World) (K : PySem.W.Frag) (Z : Ad) : Sp := fun vs H Q _ => ∃ (a k o d : Addr) (ps : Par) (ks : List Kd) (rs : List Int) (ch : Chg), vs = [.ref a, .ref k, .ref o, .ref d] ∧ H a = some (.lst (ps.map pV)) ∧ H k = some (.lst (ks.map kS)) ∧
  H o = some (.tup (rs.map V.int)) ∧ H d = some (.dK (dV ch)) ∧ WF ps ∧ ks.length = ps.length ∧ rs.length = ps.length ∧ ps.length ≤ 1000 ∧ fair ks ∧ (∀ k : Int, k ∈ ch.map (·.1) → 0 ≤ k ∧ k < (ps.length : Int)) ∧
  (∀ x, cannot ps ks rs ch = some x → ∀ p t H', Same H H' → H p = none → H' p = some (.lst [.ref t]) → H' t = some (.tup [.str "CannotLand", nV x]) → Q (.ref p) H') ∧
  (cannot ps ks rs ch = none → ∀ p x y H', Same H H' → H p = none → H' p = some (.lst [.ref x, .ref y]) → H' x = some (.lst ((near ps ks rs ch).map nV)) → H' y = some (.lst ((few ps ks rs ch).map nV)) → Q (.ref p) H')
/-- a list of lists -/
def LL (H : Hp) (p : Addr) (ls : List (Addr × List Nat)) : Prop := H p = some (.lst (ls.map fun q => .ref q.1)) ∧ ∀ q ∈ ls, H q.1 = some (.lst (q.2.map nV))
def sp_l_sets (w : World) (K : PySem.W.Frag) (Z : Ad) : Sp := fun vs H Q _ => ∃ (a : Addr) (S : List Nat), vs = [.ref a] ∧ H a = some (.lst (S.map nV)) ∧ S.length ≤ 8 ∧
  ∀ p ls H', Same H H' → H p = none → LL H' p ls → ls.map (·.2) = sets S → Q (.ref p) H'
def sp_l_helps (w : World) (K : PySem.W.Frag) (Z : Ad) : Sp := fun vs H Q _ => ∃ (a k o n s : Addr) (ps : Par) (ks : List Kd) (rs : List Int) (ch : Chg) (S : List Nat), vs = [.ref a, .ref k, .ref o, .ref n, .ref s] ∧ H a = some (.lst (ps.map pV)) ∧ H k = some (.lst (ks.map kS)) ∧
  H o = some (.tup (rs.map V.int)) ∧ H n = some (.tup ((wv rs ch).map V.int)) ∧ H s = some (.lst (S.map nV)) ∧ WF ps ∧ ks.length = ps.length ∧ rs.length = ps.length ∧ ps.length ≤ 1000 ∧ (∀ g ∈ S, g < ps.length) ∧
  ∀ H' b, Same H H' → (b = true ↔ helps ps ks rs ch S) → Q (.bl b) H'
def sp_l_reach (w : World) (K : PySem.W.Frag) (Z : Ad) : Sp := fun vs H Q _ => ∃ (a s : Addr) (ps : Par) (S : List Nat), vs = [.ref a, .ref s] ∧ H a = some (.lst (ps.map pV)) ∧ H s = some (.lst (S.map nV)) ∧ WF ps ∧ ps.length ≤ 1000 ∧
  ∀ p H', Same H H' → H p = none → H' p = some (.lst ((reachL ps S).map nV)) → Q (.ref p) H'
section
variable {P : Program} {w : World} {K : PySem.W.Frag} {mg : Str → Option Value} {base : Heap} {Z : Ad}
theorem ap_filter {l : Addr} {H H' H3 : Hp} {p : Nat → Bool} {i : Nat} (c : p i = true) : (upd H3 l (.lst (((List.range i).filter p).map nV ++ [nV i]))) l = some (.lst (((List.range (i + 1)).filter p).map nV)) := by
  rw [upd_same, List.range_succ, List.filter_append, List.map_append, List.filter_cons, if_pos c] <;> rfl
theorem no_filter {l : Addr} {H3 : Hp} {p : Nat → Bool} {i : Nat} (h : H3 l = some (.lst (((List.range i).filter p).map nV))) (c : p i = false) : H3 l = some (.lst (((List.range (i + 1)).filter p).map nV)) := by
  rw [h, List.range_succ, List.filter_append, List.filter_cons, if_neg (by rw [c]; decide)]
  simp
theorem flen {p : Nat → Bool} {i : Nat} (h : i < 1000) : (((List.range i).filter p).map nV).length < sizeLine := by
  rw [List.length_map]
  have := List.length_filter_le p (List.range i)
  rw [List.length_range] at this
  exact szl (by omega)
theorem dec_nil {α : Type} [DecidableEq α] (l : List α) : decide (l = []) = l.isEmpty := by
  cases l with
  | nil => rfl
  | cons a l => exact decide_eq_false (by simp)
theorem ok_l_blocked (T : Txt P K Z mg) (F : At K mg "_law_blocked" s_l_blocked) (G_l_path : Cal P w K mg base CX0 1 "_law_path" P_l_path (sp_l_path w K Z)) (G_l_step : Cal P w K mg base CX0 1 "_law_step" P_l_step (sp_l_step w K Z)) : Cal P w K mg base CX0 2 "_law_blocked" P_l_blocked (sp_l_blocked w K Z) := by
  refine F.cal0 sc_l_blocked (fun _ _ _ _ _ _ us hl => match us, hl with | [_, _, _, _], _ => rfl) (by walk_at "len") (fun f cdv Ar outer s H vs Q E hr h => ?_)
  obtain ⟨a, k, o, n, ps, ks, rs, ch, rfl, ha, hk, ho, hn, wf, lk, lr, hz, fr, q⟩ := h
  refine ⟨_, (pss_cons (ps_set (i := 4) sc_l_blocked.nd rfl (Or.inr rfl) (pe_lc (own := [("_law_field", 6)]) (g := gName 6) rfl sc_l_blocked.nd (pi_range1 (by rfl) T.n_range (pa_cons (pe_callB call_len_seq (by rfl) T.n_len (by first | exact PySem.boot_len | decide +kernel) (pa_cons (pv 1) pa_nil)) pa_nil)) (blkOk_by (own := [("_law_field", 6)]) (N := N_l_blocked) (sc := defScope s_l_blocked) (by decide +kernel)) (fun _ _ _ _ _ => pg_name (i := 6) sc_l_blocked.nd rfl (Or.inl rfl)) (fun _ _ _ _ _ => pts_nil) (fun _ _ _ _ _ => (pe_cal G_l_step (hr.mono (by decide)) (by rfl) pass0 (pa_cons (pe_ix (show IxR _ (rIxL K) from ix_list) (pv 1) (pv 6) (fun _ _ => rfl)) (pa_cons (pe_ix (show IxR _ (rIxT K) from ix_tup) (pv 2) (pv 6) (fun _ _ => rfl)) (pa_cons (pe_ix (show IxR _ (rIxT K) from ix_tup) (pv 3) (pv 6) (fun _ _ => rfl)) pa_nil)))))))
      (pss_cons (ps_set (i := 5) sc_l_blocked.nd rfl (Or.inl rfl) (pe_lst pa_nil))
      (pss_cons (ps_for PassesOwn.never rfl (pi_range1 (by rfl) T.n_range (pa_cons (pe_callB call_len_seq (by rfl) T.n_len (by first | exact PySem.boot_len | decide +kernel) (pa_cons (pv 1) pa_nil)) pa_nil)) (pg_name (i := 6) sc_l_blocked.nd rfl (Or.inl rfl))
      (pss_one (ps_if (PW.pt (pw_and (pt_cmpR op_lt (pe_ix ix_list (pv 4) (pv 6) (fun _ _ => rfl)) pe_int (nomark _)) (pw_and1 (pt_cmpR (op_eqD hr.units) (pe_lc (own := [("_law_place", 7)]) (g := gName 7) rfl sc_l_blocked.nd (pi_list (pe_cal G_l_path (hr.mono (by decide)) (by rfl) pass0 (pa_cons (pv 0) (pa_cons (pv 6) pa_nil)))) (blkOk_by (own := [("_law_place", 7)]) (N := N_l_blocked) (sc := defScope s_l_blocked) (by decide +kernel)) (fun _ _ _ _ _ => pg_name (i := 7) sc_l_blocked.nd rfl (Or.inl rfl)) (fun _ _ _ _ _ => pts_one (pt_cmpR op_gt (pe_ix (show IxR _ (rIxL K) from ix_list) (pv 4) (pv 7) (fun _ _ => rfl)) pe_int (nomark _))) (fun _ _ _ _ _ => (pv 7))) (pe_lst pa_nil) (nomark _)))))
      (pss_one (ps_expr (pe_bm PySem.F.plainAttrs_list PySem.F.slot_list_append PySem.F.type_list_append mt_append (pv 5) (pa_cons (pv 6) pa_nil)))) pss_nil)))
      (pss_one (ps_ret (pv 5)))))), ?_⟩
  have lw : (wv rs ch).length = ps.length := by rw [wv_len, lr]
  refine ⟨_, rfl, k, _, rfl, .inl (SqL.of hk), _, rfl, by omega, by rw [List.length_map]; omega, fun st nst => ?_⟩
  refine lcR nst (n := ps.length) (by rw [List.length_map, lk]) (fun _ => true) (fun f => .int (sw ks rs ch f)) (by omega) (fun i hi => ⟨rfl, fun H' _ R k => k H' (Same.refl _), fun _ H' s1 R kk => ?_⟩) (fun H1 s1 hst => ?_)
  · exact ⟨_, rfl, _, rfl, k, _, _, _, rfl, rfl, SqL.of (s1 _ _ hk), atI_nat (at_kd (by omega)), _, rfl, _, rfl, o, _, _, _, rfl, rfl, SqT.of (s1 _ _ ho), atI_nat (at_atr (by omega)), _, rfl, _, rfl, n, _, _, _, rfl, rfl, SqT.of (s1 _ _ hn), atI_nat (at_atr (by omega)), kd ks i, _, _, rfl, fair_kd fr i, kk H' (Same.refl _)⟩
  · have hst' : H1 st = some (.lst ((List.range ps.length).map fun f => V.int (sw ks rs ch f))) := by
      rw [hst, List.filter_eq_self.mpr (by intro _ _; rfl)]
    have at_st : ∀ {i : Nat}, i < ps.length → ((List.range ps.length).map fun i => V.int (sw ks rs ch i))[i]? = some (.int (sw ks rs ch i)) := fun {i} hi => by
      rw [at_map _ (by simpa using hi), List.getElem_range]
    refine ⟨Nat.zero_le _, fun l nl => ?_⟩
    have s2 := s1.trans (same_new (o := .lst []) nl)
    have nlH := s1.free nl
    have hst2 := same_new (o := .lst []) nl _ _ hst'
    refine ⟨_, rfl, k, _, rfl, .inl (SqL.of (s2 _ _ hk)), _, rfl, by omega, by rw [List.length_map]; omega, for_rng (n := ps.length) (by rw [List.length_map, lk]) (fun i σ H' => ∃ v, σ = [some (.ref a), some (.ref k), some (.ref o), some (.ref n), some (.ref st), some (.ref l), v, none] ∧ Same H H' ∧ H' st = some (.lst ((List.range ps.length).map fun f => V.int (sw ks rs ch f))) ∧ H' l = some (.lst (((List.range i).filter (isBlk ps ks rs ch)).map nV)))
      ⟨none, rfl, s2, hst2, upd_same⟩ ?_ ?_⟩
    · rintro i σ H' hi ⟨v, rfl, sm, hs, hL⟩
      refine ⟨_, rfl, _, rfl, st, _, _, _, rfl, rfl, SqL.of hs, atI_nat (at_st hi), _, _, rfl, rfl, _, rfl, ?_⟩
      by_cases c : sw ks rs ch i < 0
      · refine ifT (decide_eq_true c) ?_
        refine ⟨_, rfl, _, rfl, a, ps, i, rfl, sm _ _ ha, wf, hi, hz, fun p H2 s2' np hp => ?_⟩
        have sm2 := sm.trans s2'
        have hs2 := s2' _ _ hs
        refine ⟨p, rfl, ⟨_, SqL.of hp⟩, fun m nm => ?_⟩
        have pl := (path_len wf i hi).2
        refine lcL nm (l := path ps i) (f := nV) (fun g => decide (0 < sw ks rs ch g)) nV (by omega) (fun H3 s3 => SqL.of (s3 _ _ hp)) (fun g hg => ⟨rfl, fun H3 s3 R k => ?_, fun _ H3 s3 R k => ⟨_, rfl, k H3 (Same.refl _)⟩⟩) (fun H3 s3 hm => ?_)
        · have hgl := path_lt wf i hi g hg
          exact ⟨_, rfl, _, rfl, st, _, _, _, rfl, rfl, SqL.of (s3 _ _ hs2), atI_nat (at_st hgl), _, _, rfl, rfl, _, rfl, k H3 (Same.refl _)⟩
        · have sm3 := sm2.trans s3
          have hL3 := s3 _ _ (s2' _ _ hL)
          have hs3 := s3 _ _ hs2
          refine ⟨Nat.zero_le _, fun e ne => ?_⟩
          have s4 := same_new (o := .lst []) ne
          refine eq_lsts (SqL.of (s4 _ _ hm)) (SqL.of upd_same) (atoms_nV _) rfl ⟨_, rfl, ?_⟩
          have ee : decide (((path ps i).filter fun g => decide (0 < sw ks rs ch g)).map nV = []) = !(path ps i).any fun g => decide (0 < sw ks rs ch g) := by
            rw [dec_nil, List.isEmpty_map]
            cases c3 : (path ps i).any fun g => decide (0 < sw ks rs ch g) with
            | true =>
              obtain ⟨x, hx, hx2⟩ := List.any_eq_true.mp c3
              cases c4 : (path ps i).filter fun g => decide (0 < sw ks rs ch g) with
              | nil =>
                have : x ∈ (path ps i).filter fun g => decide (0 < sw ks rs ch g) := List.mem_filter.mpr ⟨hx, hx2⟩
                rw [c4] at this
                cases this
              | cons _ _ => rfl
            | false =>
              rw [List.filter_eq_nil_iff.mpr (List.any_eq_false.mp c3)] <;> rfl
          rw [ee]
          have smf := sm3.trans s4
          cases c2 : (path ps i).any fun g => decide (0 < sw ks rs ch g) with
          | true =>
            refine ifF rfl ?_
            exact ⟨_, rfl, smf, s4 _ _ hs3, no_filter (s4 _ _ hL3) (by unfold isBlk; rw [c2]; simp)⟩
          | false =>
            refine ifT rfl ?_
            have sl : st ≠ l := ne_of_none hst' nl
            refine ⟨_, rfl, .inl ⟨rfl, _, SqL.of (s4 _ _ hL3)⟩, _, rfl, l, _, _, rfl, rfl, s4 _ _ hL3, flen (by omega), ?_⟩
            exact ⟨_, rfl, same_mut smf nlH, by rw [upd_ne sl]; exact s4 _ _ hs3, ap_filter (H := H) (H' := H) (by unfold isBlk; rw [c2, decide_eq_true c]; rfl)⟩
      · refine ifF (decide_eq_false c) ?_
        refine ifF rfl ?_
        exact ⟨_, rfl, sm, hs, no_filter hL (by unfold isBlk; rw [decide_eq_false c]; rfl)⟩
    · rintro σ H' ⟨v, rfl, sm, hs, hL⟩
      exact ⟨_, rfl, q l H' sm nlH hL⟩
theorem ok_l_reach (T : Txt P K Z mg) (F : At K mg "_law_reach" s_l_reach) (G_l_path : Cal P w K mg base CX0 1 "_law_path" P_l_path (sp_l_path w K Z)) : Cal P w K mg base CX0 2 "_law_reach" P_l_reach (sp_l_reach w K Z) := by
  refine F.cal0 sc_l_reach (fun _ _ _ _ _ _ us hl => match us, hl with | [_, _], _ => rfl) (by walk_at "len") (fun f cdv Ar outer s H vs Q E hr h => ?_)
  obtain ⟨a, st, ps, S, rfl, ha, hs, wf, hz, q⟩ := h
  refine ⟨_, (pss_cons (ps_set (i := 2) sc_l_reach.nd rfl (Or.inl rfl) (pe_lst pa_nil))
      (pss_cons (ps_for PassesOwn.never rfl (pi_range1 (by rfl) T.n_range (pa_cons (pe_callB call_len_seq (by rfl) T.n_len (by first | exact PySem.boot_len | decide +kernel) (pa_cons (pv 0) pa_nil)) pa_nil)) (pg_name (i := 3) sc_l_reach.nd rfl (Or.inl rfl))
      (pss_one (ps_if (pt_cmpR (op_neD hr.units) (pe_lc (own := [("_law_place", 4)]) (g := gName 4) rfl sc_l_reach.nd (pi_list (pe_cal G_l_path (hr.mono (by decide)) (by rfl) pass0 (pa_cons (pv 0) (pa_cons (pv 3) pa_nil)))) (blkOk_by (own := [("_law_place", 4)]) (N := N_l_reach) (sc := defScope s_l_reach) (by decide +kernel)) (fun _ _ _ _ _ => pg_name (i := 4) sc_l_reach.nd rfl (Or.inl rfl)) (fun _ _ _ _ _ => pts_one (pt_cmpR (show OpR _ (compareOp .In) (rIn K false) from op_in_seq) (pv 4) (pv 1) (by rfl))) (fun _ _ _ _ _ => (pv 4))) (pe_lst pa_nil) (nomark _))
      (pss_one (ps_expr (pe_bm PySem.F.plainAttrs_list PySem.F.slot_list_append PySem.F.type_list_append mt_append (pv 2) (pa_cons (pv 3) pa_nil)))) pss_nil)))
      (pss_one (ps_ret (pv 2))))), ?_⟩
  refine ⟨Nat.zero_le _, fun l nl => ?_⟩
  have s0 := same_new (o := .lst []) nl
  refine ⟨_, rfl, a, _, rfl, .inl (SqL.of (s0 _ _ ha)), _, rfl, by omega, by rw [List.length_map]; omega, for_rng (n := ps.length) (by rw [List.length_map]) (fun i σ H' => ∃ v, σ = [some (.ref a), some (.ref st), some (.ref l), v, none] ∧ Same H H' ∧ H' l = some (.lst (((List.range i).filter fun f => (path ps f).any fun g => decide (g ∈ S)).map nV)))
    ⟨none, rfl, s0, upd_same⟩ ?_ ?_⟩
  · rintro i σ H' hi ⟨v, rfl, sm, hL⟩
    refine ⟨_, rfl, _, rfl, a, ps, i, rfl, sm _ _ ha, wf, hi, hz, fun p H2 s2' np hp => ?_⟩
    have sm2 := sm.trans s2'
    refine ⟨p, rfl, ⟨_, SqL.of hp⟩, fun m nm => ?_⟩
    have pl := (path_len wf i hi).2
    refine lcL nm (l := path ps i) (f := nV) (fun g => decide (g ∈ S)) nV (by omega) (fun H3 s3 => SqL.of (s3 _ _ hp)) (fun g hg => ⟨rfl, fun H3 s3 R k => ?_, fun _ H3 s3 R k => ⟨_, rfl, k H3 (Same.refl _)⟩⟩) (fun H3 s3 hm => ?_)
    · refine ⟨_, rfl, _, rfl, st, _, rfl, .inl (SqL.of (s3 _ _ (sm2 _ _ hs))), rfl, flat_nV S, _, rfl, ?_⟩
      show R (inV (nV g) (S.map nV)) H3
      rw [in_nV]
      exact k H3 (Same.refl _)
    · have sm3 := sm2.trans s3
      have hL3 := s3 _ _ (s2' _ _ hL)
      refine ⟨Nat.zero_le _, fun e ne => ?_⟩
      have s4 := same_new (o := .lst []) ne
      refine ne_lsts (SqL.of (s4 _ _ hm)) (SqL.of upd_same) (atoms_nV _) rfl ⟨_, rfl, ?_⟩
      have ee : (!decide (((path ps i).filter fun g => decide (g ∈ S)).map nV = [])) = (path ps i).any fun g => decide (g ∈ S) := by
        rw [dec_nil, List.isEmpty_map]
        cases c3 : (path ps i).any fun g => decide (g ∈ S) with
        | true =>
          obtain ⟨x, hx, hx2⟩ := List.any_eq_true.mp c3
          cases c4 : (path ps i).filter fun g => decide (g ∈ S) with
          | nil =>
            have : x ∈ (path ps i).filter fun g => decide (g ∈ S) := List.mem_filter.mpr ⟨hx, hx2⟩
            rw [c4] at this
            cases this
          | cons _ _ => rfl
        | false =>
          rw [List.filter_eq_nil_iff.mpr (List.any_eq_false.mp c3)] <;> rfl
      rw [ee]
      have smf := sm3.trans s4
      cases c2 : (path ps i).any fun g => decide (g ∈ S) with
      | false => exact ifF rfl ⟨_, rfl, smf, no_filter (s4 _ _ hL3) c2⟩
      | true =>
        refine ifT rfl ?_
        refine ⟨_, rfl, .inl ⟨rfl, _, SqL.of (s4 _ _ hL3)⟩, _, rfl, l, _, _, rfl, rfl, s4 _ _ hL3, flen (by omega), ?_⟩
        exact ⟨_, rfl, same_mut smf nl, ap_filter (H := H) (H' := H) c2⟩
  · rintro σ H' ⟨v, rfl, sm, hL⟩
    exact ⟨_, rfl, q l H' sm nl hL⟩
theorem pick_eq {ps : Par} {ks : List Kd} {rs : List Int} {ch : Chg} {e : Int} {sel : List Nat → Option Nat} (hs : Sel e sel) (hb : ∀ f ∈ blk ps ks rs ch, frA ps ch f ≠ []) :
    (List.range ps.length).filter (fun g => decide (g ∈ (blk ps ks rs ch).map fun f => (sel (frA ps ch f)).getD 0)) = rsl ps ks rs ch sel := by
  unfold rsl
  refine List.filter_congr fun g _ => ?_
  refine Bool.eq_iff_iff.mpr ⟨fun h => ?_, fun h => ?_⟩
  · obtain ⟨f, hf, e⟩ := List.mem_map.mp (of_decide_eq_true h)
    obtain ⟨x, hx, _⟩ := hs.some _ (hb f hf)
    rw [hx] at e
    refine List.any_eq_true.mpr ⟨f, hf, ?_⟩
    rw [hx]
    exact decide_eq_true (congrArg some e)
  · obtain ⟨f, hf, e⟩ := List.any_eq_true.mp h
    refine decide_eq_true (List.mem_map.mpr ⟨f, hf, ?_⟩)
    rw [of_decide_eq_true e] <;> rfl
theorem snoc_map {p : List Nat} {i : Nat} {F : Nat → Nat} : (p.map F).map nV ++ [nV (F i)] = ((p ++ [i]).map F).map nV := by
  rw [List.map_append, List.map_append] <;> rfl
theorem ok_l_raises (T : Txt P K Z mg) (F : At K mg "_law_raises" s_l_raises) (G_l_blocked : Cal P w K mg base CX0 2 "_law_blocked" P_l_blocked (sp_l_blocked w K Z)) (G_l_new : Cal P w K mg base CX0 1 "_law_new" P_l_new (sp_l_new w K Z)) (G_l_path : Cal P w K mg base CX0 1 "_law_path" P_l_path (sp_l_path w K Z)) (G_l_picked : Cal P w K mg base CX0 1 "_law_picked" P_l_picked (sp_l_picked w K Z)) : Cal P w K mg base CX0 3 "_law_raises" P_l_raises (sp_l_raises w K Z) := by
  refine F.cal0 sc_l_raises (fun _ _ _ _ _ _ us hl => match us, hl with | [_, _, _, _], _ => rfl) (by walk_at "len") (fun f cdv Ar outer s H vs Q E hr h => ?_)
  obtain ⟨a, k, o, d, ps, ks, rs, ch, rfl, ha, hk, ho, hd, wf, lk, lr, hz, fr, hkeys, q1, q2⟩ := h
  refine ⟨_, (pss_cons (ps_set (i := 4) sc_l_raises.nd rfl (Or.inl rfl) (pe_lst pa_nil))
      (pss_cons (ps_set (i := 5) sc_l_raises.nd rfl (Or.inl rfl) (pe_lst pa_nil))
      (pss_cons (ps_for PassesOwn.never rfl (pi_list (pe_cal G_l_blocked (hr.mono (by decide)) (by rfl) pass0 (pa_cons (pv 0) (pa_cons (pv 1) (pa_cons (pv 2) (pa_cons (pe_cal G_l_new (hr.mono (by decide)) (by rfl) pass0 (pa_cons (pv 2) (pa_cons (pv 3) pa_nil))) pa_nil)))))) (pg_name (i := 6) sc_l_raises.nd rfl (Or.inl rfl))
      (pss_cons (ps_setLc (i := 7) (own := [("_law_place", 8)]) (g := gName 8) rfl sc_l_raises.nd rfl rfl (sw_true rfl rfl rfl (by decide +kernel)) (pi_list (pe_cal G_l_path (hr.mono (by decide)) (by rfl) pass0 (pa_cons (pv 0) (pa_cons (pv 6) pa_nil)))) (blkOk_by (own := [("_law_place", 8)]) (N := N_l_raises) (sc := defScope s_l_raises) (by decide +kernel)) (fun _ _ _ _ _ => pg_name (i := 8) sc_l_raises.nd rfl (Or.inl rfl)) (fun _ _ _ _ _ => pts_one (pt_cmp (pc_dnotin (hu_of hr) (pv 8) (pv 3)))) (fun _ _ _ _ _ => (pv 8)))
      (pss_cons (ps_if (pt_cmpR (op_eqD hr.units) (pv 7) (pe_lst pa_nil) (nomark _))
      (pss_one (ps_ret (pe_lst (pa_cons (pe_tup (pa_cons pe_str (pa_cons (pv 6) pa_nil))) pa_nil)))) pss_nil)
      (pss_cons (ps_expr (pe_bm PySem.F.plainAttrs_list PySem.F.slot_list_append PySem.F.type_list_append mt_append (pv 4) (pa_cons (pe_ix ix_list (pv 7) (pe_op op_sub (pe_callB call_len_seq (by rfl) T.n_len (by first | exact PySem.boot_len | decide +kernel) (pa_cons (pv 7) pa_nil)) pe_int) (fun _ _ => rfl)) pa_nil)))
      (pss_one (ps_expr (pe_bm PySem.F.plainAttrs_list PySem.F.slot_list_append PySem.F.type_list_append mt_append (pv 5) (pa_cons (pe_ix ix_list (pv 7) pe_int (fun _ _ => rfl)) pa_nil))))))))
      (pss_one (ps_ret (pe_lst (pa_cons (pe_cal G_l_picked (hr.mono (by decide)) (by rfl) pass0 (pa_cons (pv 4) (pa_cons (pe_callB call_len_seq (by rfl) T.n_len (by first | exact PySem.boot_len | decide +kernel) (pa_cons (pv 1) pa_nil)) pa_nil))) (pa_cons (pe_cal G_l_picked (hr.mono (by decide)) (by rfl) pass0 (pa_cons (pv 5) (pa_cons (pe_callB call_len_seq (by rfl) T.n_len (by first | exact PySem.boot_len | decide +kernel) (pa_cons (pv 1) pa_nil)) pa_nil))) pa_nil)))))))), ?_⟩
  refine ⟨Nat.zero_le _, fun N nN => ?_⟩
  have s0 := same_new (o := .lst []) nN
  refine ⟨Nat.zero_le _, fun M nM => ?_⟩
  have s1 := s0.trans (same_new (o := .lst []) nM)
  have nMH := s0.free nM
  have NM : N ≠ M := ne_of_none (o := .lst []) upd_same nM
  refine ⟨_, rfl, _, rfl, _, rfl, _, rfl, _, rfl, o, d, rs, ch, rfl, s1 _ _ ho, s1 _ _ hd, by omega, fun x hx => by have := hkeys x hx; omega, fun W H1 s2 nW hW => ?_⟩
  have s3 := s1.trans s2
  refine ⟨a, k, o, W, ps, ks, rs, ch, rfl, s3 _ _ ha, s3 _ _ hk, s3 _ _ ho, hW, wf, lk, lr, hz, fr, fun B H2 s4 nB hB => ?_⟩
  have s5 := s3.trans s4
  have hN2 : H2 N = some (.lst (([] : List Nat).map nV)) := s4 _ _ (s2 _ _ (by rw [upd_ne NM, upd_same] <;> rfl))
  have hM2 : H2 M = some (.lst (([] : List Nat).map nV)) := s4 _ _ (s2 _ _ upd_same)
  have blen : (blk ps ks rs ch).length ≤ ps.length := by
    have := List.length_filter_le (isBlk ps ks rs ch) (List.range ps.length)
    rw [List.length_range] at this
    exact this
  refine ⟨B, rfl, ⟨_, SqL.of hB⟩, for_lp (K := K) (a := B) (l := blk ps ks rs ch) (f := nV) (fun p σ H' => ∃ v u, σ = [some (.ref a), some (.ref k), some (.ref o), some (.ref d), some (.ref N), some (.ref M), v, u, none] ∧ Same H H' ∧ H' B = some (.lst ((blk ps ks rs ch).map nV)) ∧ B ≠ N ∧ B ≠ M ∧
      H' N = some (.lst ((p.map fun f => ((frA ps ch f).getLast?).getD 0).map nV)) ∧ H' M = some (.lst ((p.map fun f => ((frA ps ch f).head?).getD 0).map nV)) ∧ p.find? (fun f => (frA ps ch f).isEmpty) = none)
    ⟨none, none, rfl, s5, hB, ?_, ?_, hN2, hM2, rfl⟩ (fun p σ H' ⟨_, _, _, _, h, _⟩ => SqL.of h) ?_ ?_⟩
  · exact (ne_of_none (s2 _ _ (by rw [upd_ne NM, upd_same])) nB).symm
  · exact (ne_of_none (s2 _ _ upd_same) nB).symm
  · rintro p i r σ H' hl ⟨v, u, rfl, sm, hB', BN, BM, hN, hM, hn⟩
    have hi : i ∈ blk ps ks rs ch := by rw [hl]; simp
    obtain ⟨hin, _, _⟩ := mem_blk.mp hi
    refine ⟨_, rfl, _, rfl, a, ps, i, rfl, sm _ _ ha, wf, hin, hz, fun t H3 s6 nt ht => ?_⟩
    have sm3 := sm.trans s6
    refine ⟨t, rfl, ⟨_, SqL.of ht⟩, fun m nm => ?_⟩
    have pl := (path_len wf i hin).2
    refine lcL nm (l := path ps i) (f := nV) (fun g => !inC ch (g : Int)) nV (by omega) (fun H4 s7 => SqL.of (s7 _ _ ht)) (fun g hg => ⟨rfl, fun H4 s7 R kk => ?_, fun _ H4 s7 R kk => ⟨_, rfl, kk H4 (Same.refl _)⟩⟩) (fun H4 s7 hm => ?_)
    · refine ⟨_, rfl, _, rfl, d, _, rfl, DGet.k (k := Sum.inl (g : Int)) (s7 _ _ (sm3 _ _ hd)), _, rfl, ?_⟩
      rw [dV_some]
      exact kk H4 (Same.refl _)
    · have hm : H4 m = some (.lst ((frA ps ch i).map nV)) := hm
      have sm4 := sm3.trans s7
      have hN4 := s7 _ _ (s6 _ _ hN)
      have hM4 := s7 _ _ (s6 _ _ hM)
      have hB4 := s7 _ _ (s6 _ _ hB')
      have mN : m ≠ N := (ne_of_none (s6 _ _ hN) nm).symm
      have mM : m ≠ M := (ne_of_none (s6 _ _ hM) nm).symm
      refine ⟨_, rfl, Nat.zero_le _, fun e ne => ?_⟩
      have s8 := same_new (o := .lst []) ne
      refine eq_lsts (SqL.of (s8 _ _ hm)) (SqL.of upd_same) (atoms_nV _) rfl ⟨_, rfl, ?_⟩
      rw [dec_nil, List.isEmpty_map]
      have sm5 := sm4.trans s8
      cases eF : frA ps ch i with
      | nil =>
        refine ifT rfl ?_
        refine ⟨_, rfl, sz (by show 2 ≤ 100000; decide), fun t nt => ?_⟩
        have s9 := sm5.trans (same_new (o := .tup [.str "CannotLand", nV i]) nt)
        refine ⟨sz (by show 1 ≤ 100000; decide), fun x nx => ?_⟩
        refine q1 i ?_ x t _ (s9.trans (same_new nx)) (s9.free nx) upd_same (same_new nx _ _ upd_same)
        unfold cannot
        rw [hl]
        exact find_cat hn (by rw [eF]; rfl)
      | cons y l =>
        refine ifF rfl ?_
        obtain ⟨g1, e1, _, _⟩ := sel_last.some (frA ps ch i) (by rw [eF]; simp)
        obtain ⟨g2, e2, _, a2⟩ := sel_head.some (frA ps ch i) (by rw [eF]; simp)
        have a1 : atI ((frA ps ch i).map nV) (((((frA ps ch i).map nV).length : Nat) : Int) - 1) = some (nV g1) := by
          have hpos : 0 < (frA ps ch i).length := by rw [eF]; simp
          refine atN (j := (frA ps ch i).length - 1) (by rw [List.length_map]; omega) (at_nV ?_)
          rw [List.getLast?_eq_getElem?] at e1
          exact e1
        have hm5 := s8 _ _ hm
        have lp : p.length ≤ 1000 := by
          have := congrArg List.length hl
          rw [List.length_append, List.length_cons] at this
          omega
        refine ⟨_, rfl, .inl ⟨rfl, _, SqL.of (s8 _ _ hN4)⟩, _, rfl, _, rfl, m, _, rfl, .inl (SqL.of hm5), _, _, rfl, rfl, m, _, _, _, rfl, rfl, SqL.of hm5, a1, N, _, _, rfl, rfl, s8 _ _ hN4, szl (by rw [List.length_map, List.length_map]; omega), ?_⟩
        have sm6 := same_mut (o := .lst ((p.map fun f => ((frA ps ch f).getLast?).getD 0).map nV ++ [nV g1])) sm5 nN
        have hM6 : upd (upd H4 e (.lst [])) N (.lst ((p.map fun f => ((frA ps ch f).getLast?).getD 0).map nV ++ [nV g1])) M = some (.lst ((p.map fun f => ((frA ps ch f).head?).getD 0).map nV)) := by
          rw [upd_ne NM.symm]
          exact s8 _ _ hM4
        have hm6 : upd (upd H4 e (.lst [])) N (.lst ((p.map fun f => ((frA ps ch f).getLast?).getD 0).map nV ++ [nV g1])) m = some (.lst ((frA ps ch i).map nV)) := by
          rw [upd_ne mN]
          exact hm5
        refine ⟨_, rfl, .inl ⟨rfl, _, SqL.of hM6⟩, _, rfl, m, _, 0, _, rfl, rfl, SqL.of hm6, a2, M, _, _, rfl, rfl, hM6, szl (by rw [List.length_map, List.length_map]; omega), ?_⟩
        refine ⟨_, _, rfl, same_mut sm6 nMH, ?_, BN, BM, ?_, ?_, find_snoc hn (by rw [eF]; rfl)⟩
        · rw [upd_ne BM, upd_ne BN]
          exact s8 _ _ hB4
        · rw [upd_ne NM, upd_same, ← snoc_map, e1] <;> rfl
        · rw [upd_same, ← snoc_map, e2] <;> rfl
  · rintro σ H' ⟨v, u, rfl, sm, hB', BN, BM, hN, hM, hn⟩
    have hne : ∀ f ∈ blk ps ks rs ch, frA ps ch f ≠ [] := fun f hf e => by
      have := List.find?_eq_none.mp hn f hf
      rw [e] at this
      exact this rfl
    refine ⟨_, rfl, _, rfl, k, _, rfl, .inl (SqL.of (sm _ _ hk)), N, _, (ks.map kS).length, rfl, hN, by rw [List.length_map]; omega, fun x H3 s6 nx hx => ?_⟩
    have sm3 := sm.trans s6
    refine ⟨_, rfl, _, rfl, k, _, rfl, .inl (SqL.of (sm3 _ _ hk)), M, _, (ks.map kS).length, rfl, s6 _ _ hM, by rw [List.length_map]; omega, fun y H4 s7 ny hy => ?_⟩
    refine ⟨sz (by show 2 ≤ 100000; decide), fun z nz => ?_⟩
    have sm4 := sm3.trans s7
    rw [List.length_map, lk, pick_eq sel_last hne, rsl_near] at hx
    rw [List.length_map, lk, pick_eq sel_head hne, rsl_few] at hy
    exact q2 hn z x y _ (sm4.trans (same_new nz)) (sm4.free nz) upd_same (same_new nz _ _ (s7 _ _ hx)) (same_new nz _ _ hy)
theorem yes_if {σ : L2.St} {H : Hp} {A B : Hp → Prop} (h : A H) : tYes σ H fun b H3 => if b = true then A H3 else B H3 := ifT (B := B H) rfl h
theorem sets_snoc (p : List Nat) (g : Nat) : sets (p ++ [g]) = sets p ++ (sets p).map fun s => s ++ [g] := by
  unfold sets
  rw [List.foldl_append] <;> rfl
theorem len_sets : ∀ (n : Nat) (p : List Nat), p.length = n → (sets p).length = 2 ^ n
  | 0, p, h => by
    rw [List.length_eq_zero_iff.mp h] <;> rfl
  | n + 1, p, h => by
    obtain ⟨q, g, rfl⟩ : ∃ q g, p = q ++ [g] := ⟨p.dropLast, p.getLast (by intro z; rw [z] at h; cases h), (List.dropLast_concat_getLast _).symm⟩
    rw [List.length_append, List.length_singleton] at h
    rw [sets_snoc, List.length_append, List.length_map, len_sets n q (by omega), Nat.pow_succ]
    omega
theorem len_sets8 {p : List Nat} (h : p.length ≤ 8) : (sets p).length ≤ 256 := by
  rw [len_sets _ p rfl]
  exact Nat.pow_le_pow_right (by decide) h
theorem ok_l_sets (T : Txt P K Z mg) (F : At K mg "_law_sets" s_l_sets) : Cal P w K mg base CX0 1 "_law_sets" P_l_sets (sp_l_sets w K Z) := by
  refine F.cal0 sc_l_sets (fun _ _ _ _ _ _ us hl => match us, hl with | [_], _ => rfl) (by walk_at "len") (fun f cdv Ar outer s H vs Q E hr h => ?_)
  obtain ⟨a, S, rfl, ha, hz, q⟩ := h
  refine ⟨_, (pss_cons (ps_set (i := 1) sc_l_sets.nd rfl (Or.inl rfl) (pe_lst (pa_cons (pe_lst pa_nil) pa_nil)))
      (pss_cons (ps_for PassesOwn.never rfl (pi_list (pv 0)) (pg_name (i := 2) sc_l_sets.nd rfl (Or.inr rfl))
      (pss_one (ps_set (i := 1) sc_l_sets.nd rfl (Or.inl rfl) (pe_op op_cat (pv 1) (pe_lc (own := [("_law_some", 3)]) (g := gName 3) rfl sc_l_sets.nd (pi_list (pv 1)) (blkOk_by (own := [("_law_some", 3)]) (N := N_l_sets) (sc := defScope s_l_sets) (by decide +kernel)) (fun _ _ _ _ _ => pg_name (i := 3) sc_l_sets.nd rfl (Or.inl rfl)) (fun _ _ _ _ _ => pts_nil) (fun _ _ _ _ _ => (pe_op op_cat (pv 3) (pe_lst (pa_cons (pv 2) pa_nil)))))))))
      (pss_one (ps_ret (pv 1))))), ?_⟩
  refine ⟨Nat.zero_le _, fun e ne => ?_⟩
  have s0 := same_new (o := .lst []) ne
  refine ⟨sz (by show 1 ≤ 100000; decide), fun l nl => ?_⟩
  have s1 := s0.trans (same_new (o := .lst [V.ref e]) nl)
  refine ⟨_, rfl, a, rfl, ⟨_, SqL.of (s1 _ _ ha)⟩, for_lp (K := K) (a := a) (l := S) (f := nV) (fun p σ H' => ∃ (x : Addr) (ls : List (Addr × List Nat)) (v : Option V), σ = [some (.ref a), some (.ref x), v, none] ∧ Same H H' ∧ H x = none ∧ LL H' x ls ∧ ls.map (·.2) = sets p)
    ⟨l, [(e, [])], none, rfl, s1, s0.free nl, ⟨upd_same, fun z hz => ?_⟩, rfl⟩ (fun p σ H' ⟨_, _, _, _, sm, _⟩ => SqL.of (sm _ _ ha)) ?_ ?_⟩
  · obtain rfl : z = (e, []) := by simpa using hz
    exact same_new nl _ _ upd_same
  · rintro p g r σ H' hl ⟨x, ls, v, rfl, sm, nx, hL, els⟩
    have lp : p.length + 1 ≤ 8 := by
      have := congrArg List.length hl
      rw [List.length_append, List.length_cons] at this
      omega
    have l256 : ls.length ≤ 256 := by
      have e1 := congrArg List.length els
      rw [List.length_map] at e1
      rw [e1]
      exact len_sets8 (by omega)
    obtain ⟨hx, hls⟩ := hL
    have l8 : ∀ z ∈ ls, z.2.length ≤ 8 := fun z hz => by
      have : z.2 ∈ sets p := by rw [← els]; exact List.mem_map.mpr ⟨z, hz, rfl⟩
      have := (mem_sets.mp this).length_le
      omega
    refine ⟨_, rfl, _, rfl, x, rfl, ⟨_, SqL.of hx⟩, fun m nm => ?_⟩
    have nmH := sm.free nm
    refine lc_list (xs := ls.map fun z => V.ref z.1) (fun i H2 => Same H' H2 ∧ ∃ l2 : List (Addr × List Nat), H2 m = some (.lst (l2.map fun z => V.ref z.1)) ∧ (∀ z ∈ l2, z.1 ≠ m ∧ H2 z.1 = some (.lst (z.2.map nV))) ∧ l2.map (·.2) = (ls.take i).map fun z => z.2 ++ [g])
      ⟨same_new nm, [], upd_same, (fun z hz => by cases hz), rfl⟩ (fun i H2 _ h => SqL.of (h.1 _ _ hx)) (fun i y H2 hi h => ?_) (fun H2 h => ?_)
    · obtain ⟨s2, l2, h1, h2, h3⟩ := h
      have hi' : i < ls.length := by simpa using (List.getElem?_eq_some_iff.mp hi).1
      rw [at_map _ hi'] at hi
      cases Option.some.inj hi
      have hin : ls[i] ∈ ls := List.getElem_mem hi'
      have hz0 := s2 _ _ (hls _ hin)
      refine ⟨rfl, yes_if ?_⟩
      refine ⟨_, rfl, _, rfl, sz (by show 1 ≤ 100000; decide), fun u nu => ?_⟩
      have s3 := s2.trans (same_new (o := .lst [nV g]) nu)
      refine ⟨ls[i].1, u, _, _, rfl, rfl, same_new nu _ _ hz0, upd_same, sz ?_, fun t nt => ?_⟩
      · have := l8 _ hin
        rw [List.length_map, List.length_singleton]
        omega
      · have um : m ≠ u := ne_of_none h1 nu
        have h1u : upd H2 u (.lst [nV g]) m = some (.lst (l2.map fun z => V.ref z.1)) := by rw [upd_ne um]; exact h1
        have tm : m ≠ t := ne_of_none h1u nt
        have h1t : upd (upd H2 u (.lst [nV g])) t (.lst (ls[i].2.map nV ++ [nV g])) m = some (.lst (l2.map fun z => V.ref z.1)) := by rw [upd_ne tm]; exact h1u
        have e2 : l2.length = i := by
          have := congrArg List.length h3
          rw [List.length_map, List.length_map, List.length_take] at this
          omega
        refine ⟨_, h1t, szl (by rw [List.length_map]; omega), same_mut (s3.trans (same_new nt)) nm, l2 ++ [(t, ls[i].2 ++ [g])], ?_, ?_, ?_⟩
        · rw [upd_same, List.map_append] <;> rfl
        · intro z hz
          rcases List.mem_append.mp hz with hz | hz
          · obtain ⟨k1, k2⟩ := h2 z hz
            refine ⟨k1, ?_⟩
            rw [upd_ne k1]
            exact same_new nt _ _ (same_new nu _ _ k2)
          · obtain rfl : z = (t, ls[i].2 ++ [g]) := by simpa using hz
            refine ⟨tm.symm, ?_⟩
            show upd _ m _ t = _
            rw [upd_ne tm.symm, upd_same, List.map_append] <;> rfl
        · rw [List.map_append, h3, ← List.take_append_getElem hi', List.map_append] <;> rfl
    · obtain ⟨s2, l2, h1, h2, h3⟩ := h
      rw [List.length_map, List.take_length] at h3
      have e2 : l2.length = ls.length := by
        have := congrArg List.length h3
        rw [List.length_map, List.length_map] at this
        exact this
      refine ⟨x, m, _, _, rfl, rfl, s2 _ _ hx, h1, sz (by rw [List.length_map, List.length_map]; omega), fun t nt => ?_⟩
      have s3 := sm.trans (s2.trans (same_new (o := .lst ((ls.map fun z => V.ref z.1) ++ l2.map fun z => V.ref z.1)) nt))
      refine ⟨t, ls ++ l2, _, rfl, s3, (sm.trans s2).free nt, ⟨by rw [upd_same, List.map_append], fun z hz => ?_⟩, ?_⟩
      · rcases List.mem_append.mp hz with hz | hz
        · exact same_new nt _ _ (s2 _ _ (hls z hz))
        · exact same_new nt _ _ (h2 z hz).2
      · rw [List.map_append, h3, sets_snoc, ← els, List.map_map] <;> rfl
  · rintro σ H' ⟨x, ls, v, rfl, sm, nx, hL, els⟩
    exact ⟨_, rfl, q x ls H' sm nx hL els⟩
theorem ok_l_helps (T : Txt P K Z mg) (F : At K mg "_law_helps" s_l_helps) (G_l_merge : Cal P w K mg base CX0 3 "_law_merge" P_l_merge (sp_l_merge w K Z)) (G_l_raised : Cal P w K mg base CX0 1 "_law_raised" P_l_raised (sp_l_raised w K Z)) : Cal P w K mg base CX0 4 "_law_helps" P_l_helps (sp_l_helps w K Z) := by
  refine F.cal0 sc_l_helps (fun _ _ _ _ _ _ us hl => match us, hl with | [_, _, _, _, _], _ => rfl) (by walk_at "len") (fun f cdv Ar outer s H vs Q E hr h => ?_)
  obtain ⟨a, k, o, n, st, ps, ks, rs, ch, S, rfl, ha, hk, ho, hn, hs, wf, lk, lr, hz, hS, q⟩ := h
  refine ⟨_, (pss_cons (ps_set (i := 5) sc_l_helps.nd rfl (Or.inl rfl) (pe_callTy call_list_of (by rfl) T.n_list (by first | exact boot_list | decide +kernel) (pa_cons (pv 3) pa_nil)))
      (pss_cons (ps_for PassesOwn.never rfl (pi_list (pv 4)) (pg_name (i := 6) sc_l_helps.nd rfl (Or.inl rfl))
      (pss_one (ps_asg (pe_cal G_l_raised (hr.mono (by decide)) (by rfl) pass0 (pa_cons (pe_ix ix_list (pv 1) (pv 6) (fun _ _ => rfl)) (pa_cons (pe_ix ix_tup (pv 2) (pv 6) (fun _ _ => rfl)) (pa_cons pe_int pa_nil)))) (pg_sub (pv 5) (pv 6) set_list))))
      (pss_one (ps_ret (pe_cmpR (op_eqD hr.units) (pe_cal G_l_merge (hr.mono (by decide)) (by rfl) pass0 (pa_cons (pv 0) (pa_cons (pv 1) (pa_cons (pv 2) (pa_cons (pv 5) pa_nil))))) (pe_callTy call_tuple_of (by rfl) T.n_tuple (by first | exact boot_tuple | decide +kernel) (pa_cons (pv 5) pa_nil)) (nomark _)))))), ?_⟩
  refine ⟨_, rfl, n, _, rfl, .inr (SqT.of hn), fun l nl => ?_⟩
  have s0 := same_new (o := .lst ((wv rs ch).map V.int)) nl
  have lw : (wv rs ch).length = ps.length := by rw [wv_len, lr]
  refine ⟨_, rfl, st, rfl, ⟨_, SqL.of (s0 _ _ hs)⟩, for_lp (K := K) (a := st) (l := S) (f := nV) (fun p σ H' => ∃ v, σ = [some (.ref a), some (.ref k), some (.ref o), some (.ref n), some (.ref st), some (.ref l), v] ∧ Same H H' ∧ H' l = some (.lst ((setS ks rs (wv rs ch) p).map V.int)))
    ⟨none, rfl, s0, upd_same⟩ (fun p σ H' ⟨_, _, sm, _⟩ => SqL.of (sm _ _ hs)) ?_ ?_⟩
  · rintro p g r σ H' hl ⟨v, rfl, sm, hL⟩
    have hg := hS g (by rw [hl]; simp)
    refine ⟨_, rfl, _, rfl, k, _, _, _, rfl, rfl, SqL.of (sm _ _ hk), atI_nat (at_kd (by omega)), _, rfl, _, rfl, o, _, _, _, rfl, rfl, SqT.of (sm _ _ ho), atI_nat (at_atr (by omega)), kd ks g, _, _, rfl, ?_⟩
    refine ⟨_, rfl, _, rfl, l, _, (g : Int), g, rfl, rfl, hL, ixN_at rfl (by rw [List.length_map, setS_len]; omega), ?_⟩
    refine ⟨_, rfl, same_mut sm nl, ?_⟩
    rw [upd_same]
    unfold setS
    rw [List.foldl_append, ← List.map_set] <;> rfl
  · rintro σ H' ⟨v, rfl, sm, hL⟩
    refine ⟨_, rfl, _, rfl, _, rfl, _, rfl, a, k, o, l, ps, ks, rs, setS ks rs (wv rs ch) S, rfl, sm _ _ ha, sm _ _ hk, sm _ _ ho, hL, wf, lk, lr, by rw [setS_len]; exact lw, hz, fun t H2 s2 nt ht => ?_⟩
    refine ⟨_, rfl, l, _, rfl, .inl ⟨SqL.of (s2 _ _ hL), fun u nu => ?_⟩⟩
    have s3 := same_new (o := .tup ((setS ks rs (wv rs ch) S).map V.int)) nu
    refine eq_tups (SqT.of (s3 _ _ ht)) (SqT.of upd_same) (atoms_int _) (atoms_int _) ?_
    refine q _ _ (sm.trans (s2.trans s3)) ?_
    rw [decI]
    exact decide_eq_true_iff
end
end K56
namespace K56
open PySem PySem.Spec PyProof.Rows L2
local macro_rules | `(tactic| walk_at "len") => `(tactic| (intro vs H Q E h; repeat' (first | (rcases h with ⟨e, _⟩; exact congrArg List.length e) | (rcases h with ⟨_, h⟩))))
abbrev s_l_refusal : Stmt := top 71
abbrev N_l_refusal : List Str := ["_law_kinds_here", "_law_base", "_law_changes_here", "_law_unfair_here", "_law_wrong", "_law_field"]
abbrev P_l_refusal : List Str := ["_law_kinds_here", "_law_base", "_law_changes_here"]
theorem sc_l_refusal : FnScope N_l_refusal P_l_refusal (defScope s_l_refusal) := ⟨rfl, rfl, rfl, by decide +kernel, rfl, by decide +kernel, by decide +kernel⟩
abbrev s_l_is_refusal : Stmt := top 73
abbrev N_l_is_refusal : List Str := ["_law_told", "_law_due"]
abbrev P_l_is_refusal : List Str := ["_law_told", "_law_due"]
theorem sc_l_is_refusal : FnScope N_l_is_refusal P_l_is_refusal (defScope s_l_is_refusal) := ⟨rfl, rfl, rfl, by decide +kernel, rfl, by decide +kernel, by decide +kernel⟩
abbrev s_l_least : Stmt := top 79
abbrev N_l_least : List Str := ["_law_parents_here", "_law_helping", "_law_nearest", "_law_fewest", "_law_touched", "_law_some", "_law_reached", "_law_field"]
abbrev P_l_least : List Str := ["_law_parents_here", "_law_helping", "_law_nearest", "_law_fewest"]
theorem sc_l_least : FnScope N_l_least P_l_least (defScope s_l_least) := ⟨rfl, rfl, rfl, by decide +kernel, rfl, by decide +kernel, by decide +kernel⟩
abbrev s_l_landed : Stmt := top 80
abbrev N_l_landed : List Str := ["_law_forest", "_law_base", "_law_changes_here", "_law_raises_here", "_law_row", "_law_raised_here"]
abbrev P_l_landed : List Str := ["_law_forest", "_law_base", "_law_changes_here", "_law_raises_here"]
theorem sc_l_landed : FnScope N_l_landed P_l_landed (defScope s_l_landed) := ⟨rfl, rfl, rfl, by decide +kernel, rfl, by decide +kernel, by decide +kernel⟩
abbrev s_l_stays : Stmt := top 63
abbrev N_l_stays : List Str := ["_law_forest", "_law_parents_here", "_law_kinds_here"]
abbrev P_l_stays : List Str := ["_law_forest", "_law_parents_here", "_law_kinds_here"]
theorem sc_l_stays : FnScope N_l_stays P_l_stays (defScope s_l_stays) := ⟨rfl, rfl, rfl, by decide +kernel, rfl, by decide +kernel, by decide +kernel⟩
def sp_l_refusal (w : World) (K : PySem.W.Frag) (Z : Ad) : Sp := fun vs H Q _ => ∃ (k r d : Addr) (ks : List Kd) (rs : List Int) (ch : Chg), vs = [.ref k, .ref r, .ref d] ∧ H k = some (.lst (ks.map kS)) ∧ H r = some (.tup (rs.map V.int)) ∧ H d = some (.dK (dV ch)) ∧ ks.length ≤ 1000 ∧ ch.length ≤ 1000 ∧
  (∀ x, unfair ks = some x → ∀ p H', Same H H' → H' p = some (.tup [.str "NotFair", nV x]) → Q (.ref p) H') ∧
  (unfair ks = none → rs.length ≠ ks.length → ∀ p H', Same H H' → H' p = some (.tup [.str "BadRecord", .ref r]) → Q (.ref p) H') ∧
  (unfair ks = none → rs.length = ks.length → ∀ x, LBad ks.length ch x → ∀ p H', Same H H' → H' p = some (.tup [.str "BadPlace", .int x]) → Q (.ref p) H') ∧
  (unfair ks = none → rs.length = ks.length → (∀ x : Int, x ∈ ch.map (·.1) → 0 ≤ x ∧ x < (ks.length : Int)) → ∀ H', Same H H' → Q .non H')
/-- what a refusal holds: its name, its value -/
def OkV (H : Hp) (nm : Str) (v : V) : Prop := (nm = Str.ofString "BadRecord" ∧ ∃ r rs, v = .ref r ∧ H r = some (.tup ((rs : List Int).map V.int))) ∨ (nm ≠ Str.ofString "BadRecord" ∧ ∃ i : Int, v = .int i)
def sp_l_is_refusal (w : World) (K : PySem.W.Frag) (Z : Ad) : Sp := fun vs H Q _ => ∃ (p t u : Addr) (nm : Str) (v : V), vs = [.ref p, .ref u] ∧ H p = some (.tup [.ref t]) ∧ H t = some (.tup [.str nm, v]) ∧ H u = some (.tup [.str nm, v]) ∧ OkV H nm v ∧ ∀ H', Same H H' → Q (.bl true) H'
def sp_l_least (w : World) (K : PySem.W.Frag) (Z : Ad) : Sp := fun vs H Q _ => ∃ (a p x y : Addr) (ps : Par) (ls : List (Addr × List Nat)) (N F : List Nat), vs = [.ref a, .ref p, .ref x, .ref y] ∧ H a = some (.lst (ps.map pV)) ∧ LL H p ls ∧ H x = some (.lst (N.map nV)) ∧ H y = some (.lst (F.map nV)) ∧
  WF ps ∧ ps.length ≤ 1000 ∧ N ∈ ls.map (·.2) ∧ F ∈ ls.map (·.2) ∧ (∀ S ∈ ls.map (·.2), F.length ≤ S.length ∧ ∀ z ∈ reachL ps N, z ∈ reachL ps S) ∧ ∀ H', Same H H' → Q (.bl true) H'
def sp_l_landed (w : World) (K : PySem.W.Frag) (Z : Ad) : Sp := fun vs H Q _ => ∃ (f r d p : Addr) (ps : Par) (ks : List Kd) (rs : List Int) (ch : Chg) (ls : List (Addr × List Nat)), vs = [.ref f, .ref r, .ref d, .ref p] ∧ Good Z H f r d ps ks rs ch ∧ LL H p ls ∧ ch.length ≤ 1000 ∧
  (∀ S ∈ ls.map (·.2), S.Nodup ∧ (∀ g ∈ S, g < ps.length ∧ inC ch (g : Int) = false) ∧ helps ps ks rs ch S) ∧ ∀ H', Same H H' → Q (.bl true) H'
def sp_l_stays (w : World) (K : PySem.W.Frag) (Z : Ad) : Sp := fun vs H Q _ => ∃ (f a k : Addr) (ps : Par) (ks : List Kd), vs = [.ref f, .ref a, .ref k] ∧ FoAt Z H f ps ks ∧ H a = some (.lst (ps.map pV)) ∧ H k = some (.lst (ks.map kS)) ∧ ∀ H', Same H H' → Q (.bl true) H'
theorem un65 {k : Nat} {A : Around} (hr : Room k A) : A.units + 65 < cLine := by
  have := hr.un
  omega
theorem shaped_LL (ls : List (Addr × List Nat)) : SeqAt.shaped (.list (ls.map fun q => .list ((q.2.map nV).map pd))) = true := by
  have h1 : ∀ ls : List (Addr × List Nat), PyData.canLayAll0 (ls.map fun q => PyData.list ((q.2.map nV).map pd)) = true := fun ls => by
    induction ls with
    | nil => simp [PyData.canLayAll0]
    | cons a l ih =>
      rw [List.map_cons]
      simp only [PyData.canLayAll0, PyData.canLay0, lay_atoms (atoms_nV _), ih, Bool.and_self]
  have h2 : ∀ ls : List (Addr × List Nat), PyData.depthAll (ls.map fun q => PyData.list ((q.2.map nV).map pd)) ≤ 1 := fun ls => by
    induction ls with
    | nil => simp [PyData.depthAll]
    | cons a l ih =>
      rw [List.map_cons]
      simp only [PyData.depthAll, PyData.depth, depth_atoms]
      omega
  unfold SeqAt.shaped
  have := h2 ls
  simp only [PyData.canLay0, PyData.depth, h1, Bool.true_and]
  exact decide_eq_true (by omega)
theorem dp_LL {K : PySem.W.Frag} {H : Hp} {p : Addr} {ls : List (Addr × List Nat)} (h : LL H p ls) : Dp K H (.ref p) (.list (ls.map fun q => .list ((q.2.map nV).map pd))) := by
  refine .lst (SqL.of h.1) ?_
  have h2 := h.2
  clear h
  induction ls with
  | nil => exact .nil
  | cons a l ih => exact .cons (.lst (SqL.of (h2 a List.mem_cons_self)) (dp_atoms (atoms_nV _))) (ih fun q hq => h2 q (List.mem_cons_of_mem _ hq))
theorem any_LL {ls : List (Addr × List Nat)} {N : List Nat} (h : N ∈ ls.map (·.2)) : (ls.map fun q : Addr × List Nat => PyData.list ((q.2.map nV).map pd)).any (fun z => PyData.eqv z (.list ((N.map nV).map pd))) = true := by
  obtain ⟨q, hq, e⟩ := List.mem_map.mp h
  refine List.any_eq_true.mpr ⟨_, List.mem_map.mpr ⟨q, hq, rfl⟩, ?_⟩
  show PyData.eqvAll _ _ = true
  rw [eqv_atoms (atoms_nV _) (atoms_nV _), decN]
  exact decide_eq_true e
theorem LL.same {H H' : Hp} {p : Addr} {ls : List (Addr × List Nat)} (h : LL H p ls) (s : Same H H') : LL H' p ls := ⟨s _ _ h.1, fun q hq => s _ _ (h.2 q hq)⟩
theorem OkV.same {H H' : Hp} {nm : Str} {v : V} (h : OkV H nm v) (s : Same H H') : OkV H' nm v := by
  rcases h with ⟨e, r, rs, e2, hr⟩ | h
  · exact .inl ⟨e, r, rs, e2, s _ _ hr⟩
  · exact .inr h
theorem look_app {a b : Chg} {k : Int} : look (a ++ b) k = if inC a k = true then look a k else look b k := by
  unfold inC look
  rw [List.find?_append]
  cases a.find? (fun q => decide (q.1 = k)) <;> rfl
theorem look_raised {ks : List Kd} {rs : List Int} {f : Nat} : ∀ S : List Nat, look (raisedCh ks rs S) (f : Int) = if f ∈ S then some (rai (kd ks f) (atr rs f) 1) else none
  | [] => rfl
  | g :: S => by
    have ih := look_raised (ks := ks) (rs := rs) (f := f) S
    unfold raisedCh look at *
    rw [List.map_cons, List.find?_cons]
    by_cases c : f = g
    · subst c
      simp
    · have : ¬ (g : Int) = (f : Int) := by omega
      rw [decide_eq_false this]
      simp only
      rw [ih]
      simp [c]
theorem wv_raised {ps : Par} {ks : List Kd} {rs : List Int} {ch : Chg} {S : List Nat} (lr : rs.length = ps.length) (h : ∀ g ∈ S, g < ps.length ∧ inC ch (g : Int) = false) : wv rs (ch ++ raisedCh ks rs S) = setS ks rs (wv rs ch) S := by
  refine List.ext_getElem (by rw [wv_len, setS_len, wv_len]) fun i h1 h2 => ?_
  have e1 : atr (wv rs (ch ++ raisedCh ks rs S)) i = atr (setS ks rs (wv rs ch) S) i := by
    have hi : i < rs.length := by rw [wv_len] at h1; exact h1
    rw [wv_at hi, setS_at _ _ (by rw [wv_len]; exact hi), wv_at hi, look_app, look_raised]
    by_cases c : i ∈ S
    · rw [(h i c).2, if_neg (by decide), if_pos c, if_pos c] <;> rfl
    · rw [if_neg c]
      cases e : inC ch (i : Int) with
      | true => simp [c]
      | false =>
        have : look ch (i : Int) = none := by
          unfold inC at e
          cases z : look ch (i : Int) with
          | none => rfl
          | some y => rw [z] at e; cases e
        simp [c, this]
  unfold atr at e1
  rw [gd_lt h1, gd_lt h2] at e1
  exact e1
theorem filter_none {α : Type} {p : α → Bool} {l : List α} (h : ∀ x ∈ l, p x = false) : l.filter p = [] := List.filter_eq_nil_iff.mpr fun x hx => by rw [h x hx]; decide
section
variable {P : Program} {w : World} {K : PySem.W.Frag} {mg : Str → Option Value} {base : Heap} {Z : Ad}
theorem ok_l_stays (T : Txt P K Z mg) (F : At K mg "_law_stays" s_l_stays) : Cal P w K mg base CX0 1 "_law_stays" P_l_stays (sp_l_stays w K Z) := by
  refine F.cal0 sc_l_stays (fun _ _ _ _ _ _ us hl => match us, hl with | [_, _, _], _ => rfl) (by walk_at "len") (fun f cdv Ar outer s H vs Q E hr h => ?_)
  obtain ⟨f, a, k, ps, ks, rfl, hf, ha, hk, q⟩ := h
  refine ⟨_, (pss_one (ps_ret (pe_and (pe_cmpR (op_eqD hr.units) (pe_fld (pv 0) rfl) (pe_callTy call_tuple_of (by rfl) T.n_tuple (by first | exact boot_tuple | decide +kernel) (pa_cons (pv 1) pa_nil)) (nomark _)) (pe_one (pe_cmpR (op_eqD hr.units) (pe_fld (pv 0) rfl) (pe_callTy call_tuple_of (by rfl) T.n_tuple (by first | exact boot_tuple | decide +kernel) (pa_cons (pv 2) pa_nil)) (nomark _)))))), ?_⟩
  obtain ⟨dx, p1, p2, h1, h2, h3, h4⟩ := hf
  refine ⟨_, rfl, f, Z.cF, dx, _, _, rfl, h1, T.cl, T.na2, rfl, _, rfl, a, _, rfl, .inl ⟨SqL.of ha, fun u nu => ?_⟩⟩
  have s1 := same_new (o := .tup (ps.map pV)) nu
  refine eq_tups (SqT.of (s1 _ _ h2)) (SqT.of upd_same) (atoms_pV _) (atoms_pV _) ⟨_, rfl, ifT (decide_eq_true rfl) ?_⟩
  refine ⟨_, rfl, f, Z.cF, dx, _, _, rfl, s1 _ _ h1, T.cl, T.na3, rfl, _, rfl, k, _, rfl, .inl ⟨SqL.of (s1 _ _ hk), fun x nx => ?_⟩⟩
  have s2 := s1.trans (same_new (o := .tup (ks.map kS)) nx)
  refine eq_tups (SqT.of (s2 _ _ h3)) (SqT.of upd_same) (atoms_kS _) (atoms_kS _) ?_
  rw [decide_eq_true rfl]
  exact q _ s2
theorem ok_l_is_refusal (T : Txt P K Z mg) (F : At K mg "_law_is_refusal" s_l_is_refusal) (G_l_is_integer : Cal P w K mg base CX0 1 "_law_is_integer" P_l_is_integer (sp_l_is_integer w K Z)) (G_l_is_record : Cal P w K mg base CX0 2 "_law_is_record" P_l_is_record (sp_l_is_record w K Z)) : Cal P w K mg base CX0 3 "_law_is_refusal" P_l_is_refusal (sp_l_is_refusal w K Z) := by
  refine F.cal0 sc_l_is_refusal (fun _ _ _ _ _ _ us hl => match us, hl with | [_, _], _ => rfl) (by walk_at "len") (fun f cdv Ar outer s H vs Q E hr h => ?_)
  obtain ⟨p, t, u, nm, v, rfl, hp, ht, hu, ok, q⟩ := h
  refine ⟨_, (pss_cons (ps_if (PW.pt (pw_or (pt_not (pt_val (pe_callB call_isi (by rfl) T.n_isinstance (by first | exact PySem.boot_isinstance | decide +kernel) (pa_cons (pv 0) (pa_cons (pe_bltn (v := .ty "tuple") (by rfl) T.n_tuple (by first | exact boot_tuple | decide +kernel) rfl) pa_nil))))) (pw_or (pt_cmpR op_ne (pe_callB call_len_seq (by rfl) T.n_len (by first | exact PySem.boot_len | decide +kernel) (pa_cons (pv 0) pa_nil)) pe_int (nomark _)) (pw_or1 (pt_cmpR op_ne (pe_ix ix_tup (pe_ix ix_tup (pv 0) pe_int (fun _ _ => rfl)) pe_int (fun _ _ => rfl)) (pe_ix ix_tup (pv 1) pe_int (fun _ _ => rfl)) (nomark _))))))
      (pss_one (ps_ret pe_bl)) pss_nil)
      (pss_cons (ps_if (pt_cmpR op_eq (pe_ix ix_tup (pv 1) pe_int (fun _ _ => rfl)) pe_str (nomark _))
      (pss_one (ps_ret (pe_and (pe_cal G_l_is_record (hr.mono (by decide)) (by rfl) pass0 (pa_cons (pe_ix ix_tup (pe_ix ix_tup (pv 0) pe_int (fun _ _ => rfl)) pe_int (fun _ _ => rfl)) (pa_cons (pe_callB call_len_seq (by rfl) T.n_len (by first | exact PySem.boot_len | decide +kernel) (pa_cons (pe_ix ix_tup (pv 1) pe_int (fun _ _ => rfl)) pa_nil)) pa_nil))) (pe_one (pe_cmpR (op_eqD hr.units) (pe_ix ix_tup (pe_ix ix_tup (pv 0) pe_int (fun _ _ => rfl)) pe_int (fun _ _ => rfl)) (pe_ix ix_tup (pv 1) pe_int (fun _ _ => rfl)) (nomark _)))))) pss_nil)
      (pss_one (ps_ret (pe_and (pe_cal G_l_is_integer (hr.mono (by decide)) (by rfl) pass0 (pa_cons (pe_ix ix_tup (pe_ix ix_tup (pv 0) pe_int (fun _ _ => rfl)) pe_int (fun _ _ => rfl)) pa_nil)) (pe_one (pe_cmpR (op_eqD hr.units) (pe_ix ix_tup (pe_ix ix_tup (pv 0) pe_int (fun _ _ => rfl)) pe_int (fun _ _ => rfl)) (pe_ix ix_tup (pv 1) pe_int (fun _ _ => rfl)) (nomark _)))))))), ?_⟩
  refine ⟨_, rfl, _, _, _, _, true, rfl, .ty _, .base (.tup hp), rfl, _, rfl, ifF rfl ⟨_, rfl, p, _, rfl, .inr (SqT.of hp), rfl, _, rfl, ifF rfl ?_⟩⟩
  refine ⟨_, rfl, p, _, _, _, rfl, rfl, SqT.of hp, atI_nat (j := 0) rfl, t, _, _, _, rfl, rfl, SqT.of ht, atI_nat (j := 0) rfl, _, rfl, u, _, _, _, rfl, rfl, SqT.of hu, atI_nat (j := 0) rfl, rfl, _, rfl, ifF (by simp) ?_⟩
  refine ⟨_, rfl, u, _, _, _, rfl, rfl, SqT.of hu, atI_nat (j := 0) rfl, rfl, _, rfl, ?_⟩
  rcases ok with ⟨rfl, r, rs, rfl, hr'⟩ | ⟨ne, i, rfl⟩
  · refine ifT (by decide +kernel) ?_
    refine ⟨_, rfl, p, _, _, _, rfl, rfl, SqT.of hp, atI_nat (j := 0) rfl, t, _, _, _, rfl, rfl, SqT.of ht, atI_nat (j := 1) rfl, _, rfl, u, _, _, _, rfl, rfl, SqT.of hu, atI_nat (j := 1) rfl, r, _, rfl, .inr (SqT.of hr'), r, rs, _, rfl, hr', by rw [List.length_map], _, rfl, ifT rfl ?_⟩
    refine ⟨_, rfl, p, _, _, _, rfl, rfl, SqT.of hp, atI_nat (j := 0) rfl, t, _, _, _, rfl, rfl, SqT.of ht, atI_nat (j := 1) rfl, _, rfl, u, _, _, _, rfl, rfl, SqT.of hu, atI_nat (j := 1) rfl, ?_⟩
    refine eq_tups (SqT.of hr') (SqT.of hr') (atoms_int _) (atoms_int _) ?_
    rw [decide_eq_true rfl]
    exact q _ (Same.refl _)
  · refine ifF (decide_eq_false fun z => ne (V.str.inj z)) ?_
    refine ⟨_, rfl, p, _, _, _, rfl, rfl, SqT.of hp, atI_nat (j := 0) rfl, t, _, _, _, rfl, rfl, SqT.of ht, atI_nat (j := 1) rfl, i, rfl, _, rfl, ifT rfl ?_⟩
    refine ⟨_, rfl, p, _, _, _, rfl, rfl, SqT.of hp, atI_nat (j := 0) rfl, t, _, _, _, rfl, rfl, SqT.of ht, atI_nat (j := 1) rfl, _, rfl, u, _, _, _, rfl, rfl, SqT.of hu, atI_nat (j := 1) rfl, ?_⟩
    refine ⟨_, _, .int i, .int i, rfl, rfl, ?_⟩
    have e : PyData.eqv (.int i) (.int i) = true := by simp [PyData.eqv]
    rw [e]
    exact q _ (Same.refl _)
theorem ok_l_landed (T : Txt P K Z mg) (F : At K mg "_law_landed" s_l_landed) (G_lands : Cal P w K mg base CX0 4 "lands" P_lands (sp_lands w K Z)) (G_with_raises : Cal P w K mg base CX0 4 "with_raises" P_with_raises (sp_with_raises w K Z)) : Cal P w K mg base CX0 5 "_law_landed" P_l_landed (sp_l_landed w K Z) := by
  refine F.cal0 sc_l_landed (fun _ _ _ _ _ _ us hl => match us, hl with | [_, _, _, _], _ => rfl) (by walk_at "len") (fun f cdv Ar outer s H vs Q E hr h => ?_)
  obtain ⟨f, r, d, p, ps, ks, rs, ch, ls, rfl, g, hL, hcz, hS, q⟩ := h
  refine ⟨_, (pss_cons (ps_for PassesOwn.never rfl (pi_list (pv 3)) (pg_name (i := 4) sc_l_landed.nd rfl (Or.inl rfl))
      (pss_cons (ps_set (i := 5) sc_l_landed.nd rfl (Or.inl rfl) (pe_cal G_with_raises (hr.mono (by decide)) (by rfl) pass0 (pa_cons (pv 0) (pa_cons (pv 1) (pa_cons (pe_callTy call_dictD (by rfl) T.n_dict (by first | exact boot_dict | decide +kernel) (pa_cons (pv 2) pa_nil)) (pa_cons (pe_callTy call_list_of (by rfl) T.n_list (by first | exact boot_list | decide +kernel) (pa_cons (pv 4) pa_nil)) pa_nil))))))
      (pss_one (ps_if (PW.pt (pw_or (pt_not (pt_val (pe_callB call_isi (by rfl) T.n_isinstance (by first | exact PySem.boot_isinstance | decide +kernel) (pa_cons (pv 5) (pa_cons (pe_bltn (v := .ty "dict") (by rfl) T.n_dict (by first | exact boot_dict | decide +kernel) rfl) pa_nil))))) (pw_or1 (pt_cmpR op_notBl (pe_cal G_lands (hr.mono (by decide)) (by rfl) pass0 (pa_cons (pv 0) (pa_cons (pv 1) (pa_cons (pv 5) pa_nil)))) pe_bl (nomark _)))))
      (pss_one (ps_ret pe_bl)) pss_nil))))
      (pss_one (ps_ret pe_bl))), ?_⟩
  refine ⟨_, rfl, p, rfl, ⟨_, SqL.of hL.1⟩, for_lp (K := K) (a := p) (l := ls) (f := fun z => V.ref z.1) (fun i σ H' => ∃ v u, σ = [some (.ref f), some (.ref r), some (.ref d), some (.ref p), v, u] ∧ Same H H')
    ⟨none, none, rfl, Same.refl _⟩ (fun i σ H' ⟨_, _, _, sm⟩ => SqL.of (sm _ _ hL.1)) ?_ ?_⟩
  · rintro i ⟨x, S⟩ r' σ H' hl ⟨v, u, rfl, sm⟩
    have hz : (x, S) ∈ ls := by rw [hl]; simp
    obtain ⟨nd, hg, hh⟩ := hS S (List.mem_map.mpr ⟨_, hz, rfl⟩)
    have gm := g.same sm
    have Sl : S.length ≤ ps.length := by
      have := len_le_of_sub (m := List.range ps.length) nd fun y hy => List.mem_range.mpr (hg y hy).1
      rw [List.length_range] at this
      exact this
    have gz := g.z
    refine ⟨_, rfl, _, rfl, _, rfl, d, _, rfl, .inl gm.d, fun c nc => ?_⟩
    have s1 := same_new (o := .dK (dV ch)) nc
    refine ⟨_, rfl, x, _, rfl, .inl (SqL.of (s1 _ _ (sm _ _ (hL.2 _ hz)))), fun t nt => ?_⟩
    have s2 := same_new (o := .lst (S.map nV)) nt
    have gm2 := gm.same (s1.trans s2)
    have hc : upd (upd H' c (.dK (dV ch))) t (.lst (S.map nV)) c = some (.dK (dV ch)) := s2 _ _ upd_same
    refine ⟨f, r, c, t, ps, ks, rs, ch, S, rfl, { gm2 with d := hc }, upd_same, nd, by omega, hcz, hg, fun e H3 s3 ne he => ?_⟩
    have gm3 := gm2.same s3
    refine ⟨_, rfl, _, _, _, _, true, rfl, .ty _, .base (.dK he), rfl, _, rfl, ifF rfl ?_⟩
    refine ⟨_, rfl, _, rfl, _, rfl, f, r, e, ps, ks, rs, ch ++ raisedCh ks rs S, rfl, { gm3 with d := he, keys := fun k hk => ?_ }, fun H4 s4 => ?_⟩
    · rw [List.map_append] at hk
      rcases List.mem_append.mp hk with hk | hk
      · exact g.keys k hk
      · obtain ⟨z, hz, rfl⟩ := List.mem_map.mp hk
        obtain ⟨y, hy, rfl⟩ := List.mem_map.mp hz
        have := (hg y hy).1
        show 0 ≤ (y : Int) ∧ (y : Int) < _
        omega
    · refine ⟨_, true, rfl, rfl, _, rfl, ifF ?_ ⟨_, _, rfl, sm.trans ((s1.trans s2).trans (s3.trans s4))⟩⟩
      rw [wv_raised g.len hg]
      have hh : merge ps ks rs (setS ks rs (wv rs ch) S) = setS ks rs (wv rs ch) S := hh
      rw [decide_eq_true hh] <;> rfl
  · rintro σ H' ⟨v, u, rfl, sm⟩
    exact q _ sm
theorem ok_l_least (T : Txt P K Z mg) (F : At K mg "_law_least" s_l_least) (G_l_reach : Cal P w K mg base CX0 2 "_law_reach" P_l_reach (sp_l_reach w K Z)) : Cal P w K mg base CX0 3 "_law_least" P_l_least (sp_l_least w K Z) := by
  refine F.cal0 sc_l_least (fun _ _ _ _ _ _ us hl => match us, hl with | [_, _, _, _], _ => rfl) (by walk_at "len") (fun f cdv Ar outer s H vs Q E hr h => ?_)
  obtain ⟨a, p, x, y, ps, ls, N, F, rfl, ha, hL, hx, hy, wf, hz, inN, inF, hS, q⟩ := h
  refine ⟨_, (pss_cons (ps_if (PW.pt (pw_or (pt_cmpR (op_notInD (un65 hr)) (pv 2) (pv 1) (by rfl)) (pw_or1 (pt_cmpR (op_notInD (un65 hr)) (pv 3) (pv 1) (by rfl)))))
      (pss_one (ps_ret pe_bl)) pss_nil)
      (pss_cons (ps_set (i := 4) sc_l_least.nd rfl (Or.inl rfl) (pe_cal G_l_reach (hr.mono (by decide)) (by rfl) pass0 (pa_cons (pv 0) (pa_cons (pv 2) pa_nil))))
      (pss_cons (ps_for PassesOwn.never rfl (pi_list (pv 1)) (pg_name (i := 5) sc_l_least.nd rfl (Or.inl rfl))
      (pss_cons (ps_set (i := 6) sc_l_least.nd rfl (Or.inr rfl) (pe_cal G_l_reach (hr.mono (by decide)) (by rfl) pass0 (pa_cons (pv 0) (pa_cons (pv 5) pa_nil))))
      (pss_one (ps_if (PW.pt (pw_or (pt_cmpR op_lt (pe_callB call_len_seq (by rfl) T.n_len (by first | exact PySem.boot_len | decide +kernel) (pa_cons (pv 5) pa_nil)) (pe_callB call_len_seq (by rfl) T.n_len (by first | exact PySem.boot_len | decide +kernel) (pa_cons (pv 3) pa_nil)) (nomark _)) (pw_or1 (pt_cmpR (op_neD hr.units) (pe_lc (own := [("_law_field", 7)]) (g := gName 7) rfl sc_l_least.nd (pi_list (pv 4)) (blkOk_by (own := [("_law_field", 7)]) (N := N_l_least) (sc := defScope s_l_least) (by decide +kernel)) (fun _ _ _ _ _ => pg_name (i := 7) sc_l_least.nd rfl (Or.inl rfl)) (fun _ _ _ _ _ => pts_one (pt_cmpR (show OpR _ (compareOp .NotIn) (rIn K true) from op_notIn_seq) (pv 7) (pv 6) (by rfl))) (fun _ _ _ _ _ => (pv 7))) (pe_lst pa_nil) (nomark _)))))
      (pss_one (ps_ret pe_bl)) pss_nil))))
      (pss_one (ps_ret pe_bl))))), ?_⟩
  refine ⟨_, rfl, _, rfl, _, _, .lst (SqL.of hx) (dp_atoms (atoms_nV _)), dp_LL hL, shaped_lst (atoms_nV _), shaped_LL _, _, rfl, ifF (by rw [any_LL inN]; rfl) ?_⟩
  refine ⟨_, rfl, _, rfl, _, _, .lst (SqL.of hy) (dp_atoms (atoms_nV _)), dp_LL hL, shaped_lst (atoms_nV _), shaped_LL _, _, rfl, ifF (by rw [any_LL inF]; rfl) ?_⟩
  refine ⟨_, rfl, _, rfl, a, x, ps, N, rfl, ha, hx, wf, hz, fun t H1 s1 nt ht => ?_⟩
  have rl : ∀ S, (reachL ps S).length ≤ 1000 := fun S => by
    have := List.length_filter_le (fun f => (path ps f).any fun g => decide (g ∈ S)) (List.range ps.length)
    rw [List.length_range] at this
    exact Nat.le_trans this hz
  refine ⟨_, rfl, p, rfl, ⟨_, SqL.of (s1 _ _ hL.1)⟩, for_lp (K := K) (a := p) (l := ls) (f := fun z => V.ref z.1) (fun i σ H' => ∃ v u, σ = [some (.ref a), some (.ref p), some (.ref x), some (.ref y), some (.ref t), v, u, none] ∧ Same H1 H')
    ⟨none, none, rfl, Same.refl _⟩ (fun i σ H' ⟨_, _, _, sm⟩ => SqL.of (sm _ _ (s1 _ _ hL.1))) ?_ ?_⟩
  · rintro i ⟨e, S⟩ r' σ H' hl ⟨v, u, rfl, sm⟩
    have hz' : (e, S) ∈ ls := by rw [hl]; simp
    obtain ⟨hlen, hsub⟩ := hS S (List.mem_map.mpr ⟨_, hz', rfl⟩)
    have s2 := s1.trans sm
    refine ⟨_, rfl, _, rfl, a, e, ps, S, rfl, s2 _ _ ha, s2 _ _ (hL.2 _ hz'), wf, hz, fun m H2 s3 nm hm => ?_⟩
    have s4 := s2.trans s3
    refine ⟨_, rfl, e, _, rfl, .inl (SqL.of (s4 _ _ (hL.2 _ hz'))), _, rfl, y, _, rfl, .inl (SqL.of (s4 _ _ hy)), _, _, rfl, rfl, _, rfl, ifF (decide_eq_false (by rw [List.length_map, List.length_map]; show ¬ ((S.length : Int) < (F.length : Int)); omega)) ?_⟩
    refine ⟨_, rfl, t, rfl, ⟨_, SqL.of (s3 _ _ (sm _ _ ht))⟩, fun b nb => ?_⟩
    refine lcL nb (l := reachL ps N) (f := nV) (fun z => !decide (z ∈ reachL ps S)) nV (Nat.le_trans (rl N) (by decide)) (fun H3 s5 => SqL.of (s5 _ _ (s3 _ _ (sm _ _ ht)))) (fun z hz2 => ⟨rfl, fun H3 s5 R k => ?_, fun _ H3 s5 R k => ⟨_, rfl, k H3 (Same.refl _)⟩⟩) (fun H3 s5 hb => ?_)
    · refine ⟨_, rfl, _, rfl, m, _, rfl, .inl (SqL.of (s5 _ _ hm)), rfl, flat_nV _, _, rfl, ?_⟩
      show R (!inV (nV z) ((reachL ps S).map nV)) H3
      rw [in_nV]
      exact k H3 (Same.refl _)
    · rw [filter_none (fun z hz2 => by rw [decide_eq_true (hsub z hz2)]; rfl)] at hb
      refine ⟨Nat.zero_le _, fun c nc => ?_⟩
      have s6 := same_new (o := .lst []) nc
      refine ne_lsts (SqL.of (s6 _ _ hb)) (SqL.of upd_same) rfl rfl ⟨_, rfl, ifF rfl ⟨_, _, rfl, sm.trans (s3.trans (s5.trans s6))⟩⟩
  · rintro σ H' ⟨v, u, rfl, sm⟩
    exact q _ (s1.trans sm)
theorem ok_l_refusal (T : Txt P K Z mg) (F : At K mg "_law_refusal" s_l_refusal) (G_l_unfair : Cal P w K mg base CX0 1 "_law_unfair" P_l_unfair (sp_l_unfair w K Z)) : Cal P w K mg base CX0 2 "_law_refusal" P_l_refusal (sp_l_refusal w K Z) := by
  refine F.cal0 sc_l_refusal (fun _ _ _ _ _ _ us hl => match us, hl with | [_, _, _], _ => rfl) (by walk_at "len") (fun f cdv Ar outer s H vs Q E hr h => ?_)
  obtain ⟨k, r, d, ks, rs, ch, rfl, hk, hr', hd, hz, hcz, q1, q2, q3, q4⟩ := h
  refine ⟨_, (pss_cons (ps_set (i := 3) sc_l_refusal.nd rfl (Or.inl rfl) (pe_cal G_l_unfair (hr.mono (by decide)) (by rfl) pass0 (pa_cons (pv 0) pa_nil)))
      (pss_cons (ps_if (pt_cmpR op_notN (pv 3) pe_non (nomark _))
      (pss_one (ps_ret (pv 3))) pss_nil)
      (pss_cons (ps_if (pt_cmpR op_ne (pe_callB call_len_seq (by rfl) T.n_len (by first | exact PySem.boot_len | decide +kernel) (pa_cons (pv 1) pa_nil)) (pe_callB call_len_seq (by rfl) T.n_len (by first | exact PySem.boot_len | decide +kernel) (pa_cons (pv 0) pa_nil)) (nomark _))
      (pss_one (ps_ret (pe_tup (pa_cons pe_str (pa_cons (pv 1) pa_nil))))) pss_nil)
      (pss_cons (ps_lock (ps_setLc (i := 4) (own := [("_law_field", 5)]) (g := gName 5) rfl sc_l_refusal.nd rfl rfl (sw_true rfl rfl rfl (by decide +kernel)) (pi_keys (pv 2)) (blkOk_by (own := [("_law_field", 5)]) (N := N_l_refusal) (sc := defScope s_l_refusal) (by decide +kernel)) (fun _ _ _ _ _ => pg_name (i := 5) sc_l_refusal.nd rfl (Or.inl rfl)) (fun _ _ _ _ _ => pts_one (pt_not (pt_chain op_le op_lt pe_int (pv 5) (pe_callB (show CallR _ (.builtin "len") (rLenK K) from call_len_seq) (by rfl) T.n_len (by first | exact PySem.boot_len | decide +kernel) (pa_cons (pv 0) pa_nil))))) (fun _ _ _ _ _ => (pv 5))))
      (pss_cons (ps_if (pt_cmpR (op_neD hr.units) (pv 4) (pe_lst pa_nil) (nomark _))
      (pss_one (ps_ret (pe_tup (pa_cons pe_str (pa_cons (pe_callB (cr_min rfl) (by rfl) T.n_min (by first | exact PySem.boot_min | decide +kernel) (pa_cons (pv 4) pa_nil)) pa_nil))))) pss_nil)
      (pss_one (ps_ret pe_non))))))), ?_⟩
  refine ⟨_, rfl, k, ks, rfl, hk, hz, fun e => ?_, fun x e p H1 s1 np hp => ?_⟩
  · refine ⟨_, rfl, rfl, _, rfl, ifF rfl ?_⟩
    refine ⟨_, rfl, r, _, rfl, .inr (SqT.of hr'), _, rfl, k, _, rfl, .inl (SqL.of hk), rfl, _, rfl, ?_⟩
    by_cases c : rs.length = ks.length
    · refine ifF (by rw [List.length_map, List.length_map, c]; simp) ?_
      refine ⟨d, _, hd, trivial, fun od => ?_⟩
      refine ⟨_, rfl, d, od, rfl, .inl ⟨_, upd_same, fun m nm => ?_⟩⟩
      have md : m ≠ d := (ne_of_none (o := .frz od (.dK (dV ch))) upd_same nm).symm
      have hk0 : upd H d (.frz od (.dK (dV ch))) k = some (.lst (ks.map kS)) := by
        rw [upd_ne (ne_of hk hd (by intro z; cases z))]
        exact hk
      refine lcDk nm (fun x => !decide (0 ≤ x.1 ∧ x.1 < (ks.length : Int))) (fun x => V.int x.1) (by omega) upd_same (fun x hx => ⟨rfl, fun H3 s3 R kk => ?_, fun _ H3 s3 R kk => ⟨_, rfl, kk H3 (Same.refl _)⟩⟩) (fun H3 s3 hm => ?_)
      · refine ⟨_, rfl, _, _, rfl, rfl, _, rfl, ?_⟩
        have fin : R (!decide (0 ≤ x.1 ∧ x.1 < (ks.length : Int))) H3 := kk H3 (Same.refl _)
        by_cases e0 : 0 ≤ x.1
        · refine ifT (decide_eq_true e0) ⟨_, rfl, k, _, rfl, .inl (SqL.of (s3 _ _ hk0)), _, _, rfl, rfl, _, rfl, ?_⟩
          refine cast (congrArg (fun b => R (!b) H3) ?_) fin
          rw [List.length_map]
          exact decide_eq_decide.mpr ⟨fun z => z.2, fun z => ⟨e0, z⟩⟩
        · refine ifF (decide_eq_false e0) ?_
          rw [decide_eq_false fun z => e0 z.1] at fin
          exact ⟨_, rfl, fin⟩
      · refine ⟨s3 _ _ upd_same, ?_⟩
        have s4 := same_unlock hd s3
        have hm4 : upd H3 d (.dK (dV ch)) m = some (.lst (((ch.filter fun x => !decide (0 ≤ x.1 ∧ x.1 < (ks.length : Int))).map (·.1)).map V.int)) := by
          rw [upd_ne md, hm, List.map_map] <;> rfl
        refine ⟨_, rfl, Nat.zero_le _, fun b nb => ?_⟩
        have s5 := same_new (o := .lst []) nb
        refine ne_lsts (SqL.of (s5 _ _ hm4)) (SqL.of upd_same) (atoms_int _) rfl ⟨_, rfl, ?_⟩
        have s6 := s4.trans s5
        rw [dec_nil, List.isEmpty_map]
        cases eW : (ch.filter fun x => !decide (0 ≤ x.1 ∧ x.1 < (ks.length : Int))).map (·.1) with
        | nil =>
          refine ifF rfl (q4 e c (fun x hx => ?_) _ s6)
          obtain ⟨y, hy, rfl⟩ := List.mem_map.mp hx
          rw [List.map_eq_nil_iff, List.filter_eq_nil_iff] at eW
          have := eW y hy
          by_cases z : 0 ≤ y.1 ∧ y.1 < (ks.length : Int)
          · exact z
          · rw [decide_eq_false z] at this
            exact absurd rfl this
        | cons w0 ws =>
          refine ifT rfl ?_
          refine ⟨_, rfl, m, _, rfl, SqL.of (s5 _ _ hm4), by rw [eW]; simp, fun mn hmn hmin => ?_⟩
          refine ⟨sz (by show 2 ≤ 100000; decide), fun t nt => ?_⟩
          refine q3 e c mn ?_ t _ (s6.trans (same_new nt)) upd_same
          obtain ⟨y, hy, rfl⟩ := List.mem_map.mp hmn
          obtain ⟨hy1, hy2⟩ := List.mem_filter.mp hy
          refine ⟨List.mem_map.mpr ⟨y, hy1, rfl⟩, fun z => ?_, fun j hj hj2 => hmin j ?_⟩
          · rw [decide_eq_true z] at hy2
            cases hy2
          · obtain ⟨y2, hy3, rfl⟩ := List.mem_map.mp hj
            exact List.mem_map.mpr ⟨y2, List.mem_filter.mpr ⟨hy3, by rw [decide_eq_false hj2]; rfl⟩, rfl⟩
    · refine ifT (by rw [List.length_map, List.length_map]; simp; omega) ?_
      exact ⟨_, rfl, sz (by show 2 ≤ 100000; decide), fun p np => q2 e c p _ (same_new np) upd_same⟩
  · refine ⟨_, rfl, rfl, _, rfl, ifT rfl ?_⟩
    exact ⟨_, rfl, q1 x e p H1 s1 hp⟩
end
end K56
namespace K56
open PySem PySem.Spec PyProof.Rows L2
local macro_rules | `(tactic| walk_at "len") => `(tactic| (intro vs H Q E h; repeat' (first | (rcases h with ⟨e, _⟩; exact congrArg List.length e) | (rcases h with ⟨_, h⟩))))
abbrev s_l_tape : Stmt := top 45
abbrev N_l_tape : List Str := ["_law_script", "_law_k"]
abbrev P_l_tape : List Str := ["_law_script", "_law_k"]
theorem sc_l_tape : FnScope N_l_tape P_l_tape (defScope s_l_tape) := ⟨rfl, rfl, rfl, by decide +kernel, rfl, by decide +kernel, by decide +kernel⟩
abbrev s_l_take : Stmt := top 46
abbrev N_l_take : List Str := ["_law_tape_here", "_law_size_here", "_law_cell", "_law_k", "_law_mixed"]
abbrev P_l_take : List Str := ["_law_tape_here", "_law_size_here"]
theorem sc_l_take : FnScope N_l_take P_l_take (defScope s_l_take) := ⟨rfl, rfl, rfl, by decide +kernel, rfl, by decide +kernel, by decide +kernel⟩
abbrev s_l_value : Stmt := top 47
abbrev N_l_value : List Str := ["_law_tape_here", "_law_span", "_law_pick"]
abbrev P_l_value : List Str := ["_law_tape_here", "_law_span"]
theorem sc_l_value : FnScope N_l_value P_l_value (defScope s_l_value) := ⟨rfl, rfl, rfl, by decide +kernel, rfl, by decide +kernel, by decide +kernel⟩
abbrev s_l_record : Stmt := top 48
abbrev N_l_record : List Str := ["_law_tape_here", "_law_n", "_law_span", "_law_k"]
abbrev P_l_record : List Str := ["_law_tape_here", "_law_n", "_law_span"]
theorem sc_l_record : FnScope N_l_record P_l_record (defScope s_l_record) := ⟨rfl, rfl, rfl, by decide +kernel, rfl, by decide +kernel, by decide +kernel⟩
abbrev s_l_turns : Stmt := top 49
abbrev N_l_turns : List Str := ["_law_tape_here", "_law_n", "_law_left", "_law_turns_here", "_law_k"]
abbrev P_l_turns : List Str := ["_law_tape_here", "_law_n"]
theorem sc_l_turns : FnScope N_l_turns P_l_turns (defScope s_l_turns) := ⟨rfl, rfl, rfl, by decide +kernel, rfl, by decide +kernel, by decide +kernel⟩
abbrev s_l_parents : Stmt := top 50
abbrev N_l_parents : List Str := ["_law_tape_here", "_law_n", "_law_turns_here", "_law_bend", "_law_parents_here", "_law_k", "_law_pick"]
abbrev P_l_parents : List Str := ["_law_tape_here", "_law_n"]
theorem sc_l_parents : FnScope N_l_parents P_l_parents (defScope s_l_parents) := ⟨rfl, rfl, rfl, by decide +kernel, rfl, by decide +kernel, by decide +kernel⟩
abbrev s_l_kinds : Stmt := top 51
abbrev N_l_kinds : List Str := ["_law_tape_here", "_law_parents_here", "_law_fair", "_law_kinds_here", "_law_field", "_law_pick"]
abbrev P_l_kinds : List Str := ["_law_tape_here", "_law_parents_here", "_law_fair"]
theorem sc_l_kinds : FnScope N_l_kinds P_l_kinds (defScope s_l_kinds) := ⟨rfl, rfl, rfl, by decide +kernel, rfl, by decide +kernel, by decide +kernel⟩
abbrev s_l_size : Stmt := top 58
abbrev N_l_size : List Str := ["_law_tape_here", "_law_size_here"]
abbrev P_l_size : List Str := ["_law_tape_here"]
theorem sc_l_size : FnScope N_l_size P_l_size (defScope s_l_size) := ⟨rfl, rfl, rfl, by decide +kernel, rfl, by decide +kernel, by decide +kernel⟩
abbrev s_l_no_field : Stmt := top 60
abbrev N_l_no_field : List Str := ["_law_tape_here", "_law_n"]
abbrev P_l_no_field : List Str := ["_law_tape_here", "_law_n"]
theorem sc_l_no_field : FnScope N_l_no_field P_l_no_field (defScope s_l_no_field) := ⟨rfl, rfl, rfl, by decide +kernel, rfl, by decide +kernel, by decide +kernel⟩
def Tape (H : Hp) (t : Addr) : Prop := ∃ c k : Int, H t = some (.lst [.int c, .int k])
/-- all but the tape is kept -/
structure Tp (H : Hp) (t : Addr) (H' : Hp) : Prop where
  tp : Tape H' t
  kp : ∀ b o, b ≠ t → H b = some o → H' b = some o
section
variable {H H' H2 : Hp} {t p b : Addr} {o : HO}
theorem Tp.of_same (h : Tape H t) (s : Same H H') : Tp H t H' := by
  obtain ⟨c, k, e⟩ := h
  exact ⟨⟨c, k, s _ _ e⟩, fun b o _ e => s b o e⟩
theorem Tp.trans (x : Tp H t H') (y : Tp H' t H2) : Tp H t H2 := ⟨y.tp, fun b o n e => y.kp b o n (x.kp b o n e)⟩
theorem Tp.ne (x : Tp H t H') (h : H' p = none) : p ≠ t := by
  obtain ⟨c, k, e⟩ := x.tp
  exact (ne_of_none e h).symm
theorem Tp.free (x : Tp H t H') (h : H' p = none) : H p = none := by
  cases e : H p with
  | none => rfl
  | some o =>
    have := x.kp p o (x.ne h) e
    rw [h] at this
    cases this
theorem Tp.new (x : Tp H t H') (h : H' p = none) : Tp H t (upd H' p o) := by
  obtain ⟨c, k, e⟩ := x.tp
  refine ⟨⟨c, k, by rw [upd_ne (ne_of_none e h)]; exact e⟩, fun b u n e2 => ?_⟩
  exact same_new h _ _ (x.kp b u n e2)
/-- an object of one's own is changed -/
theorem Tp.mut (x : Tp H t H') (h : H p = none) (n : p ≠ t) : Tp H t (upd H' p o) := by
  obtain ⟨c, k, e⟩ := x.tp
  refine ⟨⟨c, k, by rw [upd_ne n.symm]; exact e⟩, fun b u m e2 => ?_⟩
  rw [upd_ne (ne_of_none e2 h)]
  exact x.kp b u m e2
theorem Tp.same (x : Tp H t H') (s : Same H' H2) : Tp H t H2 := x.trans (.of_same x.tp s)
end
theorem Tp.tick {H H' : Hp} {t : Addr} {c k : Int} (x : Tp H t H') : Tp H t (upd H' t (.lst [.int c, .int k])) := by
  refine ⟨⟨c, k, upd_same⟩, fun b o n e => ?_⟩
  rw [upd_ne n]
  exact x.kp b o n e
theorem rgV_nat (n : Nat) : rgV 0 (n : Int) = (List.range n).map nV := by
  unfold rgV
  rw [show ((n : Int) - 0).toNat = n by omega]
  refine List.map_congr_left fun i _ => ?_
  show V.int _ = V.int _
  rw [Int.zero_add]
theorem ne_tape {H : Hp} {t b : Addr} {o : HO} (h : Tape H t) (e : H b = some o) (n : ∀ c k : Int, o ≠ .lst [.int c, .int k]) : b ≠ t := by
  obtain ⟨c, k, h⟩ := h
  exact ne_of e h (n c k)
def sp_l_tape (w : World) (K : PySem.W.Frag) (Z : Ad) : Sp := fun vs H Q _ => ∃ (a : Addr) (xs : List Int) (k : Nat), vs = [.ref a, nV k] ∧ SqL K H a (xs.map V.int) ∧ ∀ p H', Same H H' → H p = none → Tape H' p → Q (.ref p) H'
def sp_l_take (w : World) (K : PySem.W.Frag) (Z : Ad) : Sp := fun vs H Q _ => ∃ (t : Addr) (m : Int), vs = [.ref t, .int m] ∧ Tape H t ∧ 0 < m ∧ m < 1073741824 ∧ ∀ r c k : Int, 0 ≤ r → r < m → Q (.int r) (upd H t (.lst [.int c, .int k]))
def sp_l_value (w : World) (K : PySem.W.Frag) (Z : Ad) : Sp := fun vs H Q _ => ∃ (t : Addr) (m : Int), vs = [.ref t, .int m] ∧ Tape H t ∧ 0 < m ∧ m < 1073741824 ∧ ∀ i c k : Int, Q (.int i) (upd H t (.lst [.int c, .int k]))
def sp_l_record (w : World) (K : PySem.W.Frag) (Z : Ad) : Sp := fun vs H Q _ => ∃ (t : Addr) (n : Nat) (m : Int), vs = [.ref t, nV n, .int m] ∧ Tape H t ∧ n ≤ 1000 ∧ 0 < m ∧ m < 1073741824 ∧ ∀ (p : Addr) (rs : List Int) H', Tp H t H' → H p = none → rs.length = n → H' p = some (.tup (rs.map V.int)) → Q (.ref p) H'
def sp_l_size (w : World) (K : PySem.W.Frag) (Z : Ad) : Sp := fun vs H Q _ => ∃ t : Addr, vs = [.ref t] ∧ Tape H t ∧ ∀ (n : Nat) (c k : Int), 1 ≤ n → n ≤ 8 → Q (nV n) (upd H t (.lst [.int c, .int k]))
def sp_l_no_field (w : World) (K : PySem.W.Frag) (Z : Ad) : Sp := fun vs H Q _ => ∃ (t : Addr) (n : Nat), vs = [.ref t, nV n] ∧ Tape H t ∧ 1 ≤ n ∧ n ≤ 1000 ∧ ∀ (i : Int) H', Tp H t H' → ¬ (0 ≤ i ∧ i < (n : Int)) → Q (.int i) H'
def sp_l_turns (w : World) (K : PySem.W.Frag) (Z : Ad) : Sp := fun vs H Q _ => ∃ (t : Addr) (n : Nat), vs = [.ref t, nV n] ∧ Tape H t ∧ n ≤ 1000 ∧ ∀ (p : Addr) (T : List Nat) H', Tp H t H' → H p = none → T.Perm (List.range n) → H' p = some (.lst (T.map nV)) → Q (.ref p) H'
def sp_l_parents (w : World) (K : PySem.W.Frag) (Z : Ad) : Sp := fun vs H Q _ => ∃ (t : Addr) (n : Nat), vs = [.ref t, nV n] ∧ Tape H t ∧ 1 ≤ n ∧ n ≤ 1000 ∧ ∀ (p : Addr) (ps : Par) H', Tp H t H' → H p = none → WF ps → ps.length = n → H' p = some (.lst (ps.map pV)) → Q (.ref p) H'
def sp_l_kinds (w : World) (K : PySem.W.Frag) (Z : Ad) : Sp := fun vs H Q _ => ∃ (t a : Addr) (fr : Bool) (ps : Par), vs = [.ref t, .ref a, .bl fr] ∧ Tape H t ∧ a ≠ t ∧ H a = some (.lst (ps.map pV)) ∧ ps.length ≤ 1000 ∧
  ∀ (p : Addr) (ks : List Kd) H', Tp H t H' → H p = none → ks.length = ps.length → (∀ f, f < ps.length → unf (kd ks f) = true → some f ∉ ps) → H' p = some (.lst (ks.map kS)) → Q (.ref p) H'
section
variable {P : Program} {w : World} {K : PySem.W.Frag} {mg : Str → Option Value} {base : Heap} {Z : Ad}
theorem ok_l_tape (T : Txt P K Z mg) (F : At K mg "_law_tape" s_l_tape) : Cal P w K mg base CX0 1 "_law_tape" P_l_tape (sp_l_tape w K Z) := by
  refine F.cal0 sc_l_tape (fun _ _ _ _ _ _ us hl => match us, hl with | [_, _], _ => rfl) (by walk_at "len") (fun f cdv Ar outer s H vs Q E hr h => ?_)
  obtain ⟨a, xs, k, rfl, ha, q⟩ := h
  refine ⟨_, (pss_cons (ps_if (pt_cmpR op_lt (pv 1) (pe_callB call_len_seq (by rfl) T.n_len (by first | exact PySem.boot_len | decide +kernel) (pa_cons (pv 0) pa_nil)) (nomark _))
      (pss_one (ps_ret (pe_lst (pa_cons (pe_callB call_abs (by rfl) T.n_abs (by first | exact PySem.boot_abs | decide +kernel) (pa_cons (pe_ix ix_list (pv 0) (pv 1) (fun _ _ => rfl)) pa_nil)) (pa_cons pe_int pa_nil))))) pss_nil)
      (pss_one (ps_ret (pe_lst (pa_cons (pv 1) (pa_cons pe_int pa_nil)))))), ?_⟩
  refine ⟨_, rfl, _, rfl, a, _, rfl, .inl ha, _, _, rfl, rfl, _, rfl, ?_⟩
  by_cases c : k < xs.length
  · refine ifT (decide_eq_true (by rw [List.length_map]; omega)) ?_
    refine ⟨_, rfl, _, rfl, a, _, _, _, rfl, rfl, ha, atI_nat (at_map V.int c), _, rfl, sz (by show 2 ≤ 100000; decide), fun p np => ?_⟩
    exact q p _ (same_new np) np ⟨_, _, upd_same⟩
  · refine ifF (decide_eq_false (by rw [List.length_map]; omega)) ?_
    exact ⟨_, rfl, sz (by show 2 ≤ 100000; decide), fun p np => q p _ (same_new np) np ⟨_, _, upd_same⟩⟩
theorem ok_l_take (T : Txt P K Z mg) (F : At K mg "_law_take" s_l_take) : Cal P w K mg base CX0 1 "_law_take" P_l_take (sp_l_take w K Z) := by
  refine F.cal0 sc_l_take (fun _ _ _ _ _ _ us hl => match us, hl with | [_, _], _ => rfl) (by walk_at "len") (fun f cdv Ar outer s H vs Q E hr h => ?_)
  obtain ⟨t, m, rfl, ⟨c, k, ht⟩, h0, h1, q⟩ := h
  refine ⟨_, (pss_cons (ps_set (i := 2) sc_l_take.nd rfl (Or.inl rfl) (pe_ix ix_list (pv 0) pe_int (fun _ _ => rfl)))
      (pss_cons (ps_asg (pe_op op_add (pe_ix ix_list (pv 0) pe_int (fun _ _ => rfl)) pe_int) (pg_sub (pv 0) pe_int set_list))
      (pss_cons (ps_set (i := 3) sc_l_take.nd rfl (Or.inl rfl) (pe_ix ix_list (pv 0) pe_int (fun _ _ => rfl)))
      (pss_cons (ps_if (pt_cmpR op_ge (pv 2) (pe_op op_pow pe_int pe_int) (nomark _))
      (pss_cons (ps_asg (pe_op op_fdiv (pv 2) (pv 1)) (pg_sub (pv 0) pe_int set_list))
      (pss_one (ps_ret (pe_op op_mod (pe_callTy call_int1 (by rfl) T.n_int (by first | exact boot_int | decide +kernel) (pa_cons (pv 2) pa_nil)) (pv 1))))) pss_nil)
      (pss_cons (ps_set (i := 4) sc_l_take.nd rfl (Or.inl rfl) (pe_op op_mod (pe_callTy call_int1 (by rfl) T.n_int (by first | exact boot_int | decide +kernel) (pa_cons (pe_op op_add (pe_op op_add (pv 2) (pe_op op_mul pe_int (pv 3))) pe_int) pa_nil)) pe_int))
      (pss_cons (ps_set (i := 4) sc_l_take.nd rfl (Or.inl rfl) (pe_op op_mod (pe_callTy call_int1 (by rfl) T.n_int (by first | exact boot_int | decide +kernel) (pa_cons (pe_op op_mul (pv 4) (pe_op op_add (pv 4) pe_int)) pa_nil)) pe_int))
      (pss_cons (ps_set (i := 4) sc_l_take.nd rfl (Or.inl rfl) (pe_op op_mod (pe_callTy call_int1 (by rfl) T.n_int (by first | exact boot_int | decide +kernel) (pa_cons (pe_op op_add (pe_op op_mul (pv 4) (pe_op op_add (pv 4) pe_int)) (pe_op op_mul pe_int (pv 3))) pa_nil)) pe_int))
      (pss_one (ps_ret (pe_op op_mod (pe_callTy call_int1 (by rfl) T.n_int (by first | exact boot_int | decide +kernel) (pa_cons (pe_op op_fdiv (pv 4) pe_int) pa_nil)) (pv 1))))))))))), ?_⟩
  refine ⟨_, rfl, t, _, 0, _, rfl, rfl, SqL.of ht, atI_nat (j := 0) rfl, ?_⟩
  refine ⟨_, rfl, t, _, 1, _, rfl, rfl, SqL.of ht, atI_nat (j := 1) rfl, _, _, rfl, rfl, _, rfl, t, _, 1, 1, rfl, rfl, ht, rfl, ?_⟩
  have ht2 : upd H t (.lst [.int c, .int (k + 1)]) t = some (.lst [.int c, .int (k + 1)]) := upd_same
  refine ⟨_, rfl, t, _, 1, _, rfl, rfl, SqL.of ht2, atI_nat (j := 1) rfl, ?_⟩
  refine ⟨_, rfl, _, _, rfl, rfl, ⟨by decide, by decide, by decide⟩, _, _, rfl, rfl, _, rfl, ?_⟩
  by_cases g : (10 : Int) ^ (18 : Int).toNat ≤ c
  · refine ifT (decide_eq_true g) ?_
    refine ⟨_, rfl, _, rfl, _, _, rfl, rfl, ⟨h0, h1⟩, _, rfl, t, _, 0, 0, rfl, rfl, ht2, rfl, ?_⟩
    refine ⟨_, rfl, .inl ⟨_, rfl, ?_⟩⟩
    refine ⟨_, rfl, _, _, rfl, rfl, h0, ?_⟩
    rw [upd_upd]
    exact q _ _ _ (Int.emod_nonneg _ (by omega)) (Int.emod_lt_of_pos _ h0)
  · refine ifF (decide_eq_false g) ?_
    refine ⟨_, rfl, _, rfl, _, _, rfl, rfl, .inl ⟨by decide, by decide⟩, _, _, rfl, rfl, _, _, rfl, rfl, .inl ⟨_, rfl, _, _, rfl, rfl, (show (0 : Int) < 2147483647 by decide), ?_⟩⟩
    have b1 := Int.emod_nonneg (c + 7919 * (k + 1) + 13) (show (2147483647 : Int) ≠ 0 by decide)
    have b2 := Int.emod_lt_of_pos (c + 7919 * (k + 1) + 13) (show (0 : Int) < 2147483647 by decide)
    generalize (c + 7919 * (k + 1) + 13) % 2147483647 = m1 at b1 b2
    refine ⟨_, rfl, _, rfl, _, _, rfl, rfl, _, _, rfl, rfl, .inl ⟨by omega, by omega⟩, .inl ⟨_, rfl, _, _, rfl, rfl, (show (0 : Int) < 2147483629 by decide), ?_⟩⟩
    have b3 := Int.emod_nonneg (m1 * (m1 + 48271)) (show (2147483629 : Int) ≠ 0 by decide)
    have b4 := Int.emod_lt_of_pos (m1 * (m1 + 48271)) (show (0 : Int) < 2147483629 by decide)
    generalize m1 * (m1 + 48271) % 2147483629 = m2 at b3 b4
    refine ⟨_, rfl, _, rfl, _, _, rfl, rfl, _, _, rfl, rfl, .inl ⟨by omega, by omega⟩, _, rfl, _, _, rfl, rfl, .inl ⟨by decide, by decide⟩, _, _, rfl, rfl, .inl ⟨_, rfl, _, _, rfl, rfl, (show (0 : Int) < 2147483647 by decide), ?_⟩⟩
    generalize (m2 * (m2 + 69621) + 31 * (k + 1)) % 2147483647 = m3
    refine ⟨_, rfl, _, _, rfl, rfl, ⟨by decide, by decide⟩, .inl ⟨_, rfl, _, rfl, _, _, rfl, rfl, h0, ?_⟩⟩
    exact q _ _ _ (Int.emod_nonneg _ (by omega)) (Int.emod_lt_of_pos _ h0)
theorem ok_l_value (T : Txt P K Z mg) (F : At K mg "_law_value" s_l_value) (G_l_take : Cal P w K mg base CX0 1 "_law_take" P_l_take (sp_l_take w K Z)) : Cal P w K mg base CX0 2 "_law_value" P_l_value (sp_l_value w K Z) := by
  refine F.cal0 sc_l_value (fun _ _ _ _ _ _ us hl => match us, hl with | [_, _], _ => rfl) (by walk_at "len") (fun f cdv Ar outer s H vs Q E hr h => ?_)
  obtain ⟨t, m, rfl, ht, h0, h1, q⟩ := h
  refine ⟨_, (pss_cons (ps_set (i := 2) sc_l_value.nd rfl (Or.inl rfl) (pe_cal G_l_take (hr.mono (by decide)) (by rfl) pass0 (pa_cons (pv 0) (pa_cons pe_int pa_nil))))
      (pss_cons (ps_if (pt_cmpR op_eq (pv 2) pe_int (nomark _))
      (pss_one (ps_ret (pe_op op_sub (pe_op op_mul (pe_cal G_l_take (hr.mono (by decide)) (by rfl) pass0 (pa_cons (pv 0) (pa_cons (pe_op op_pow pe_int pe_int) pa_nil))) (pe_op op_pow pe_int pe_int)) (pe_cal G_l_take (hr.mono (by decide)) (by rfl) pass0 (pa_cons (pv 0) (pa_cons (pe_op op_pow pe_int pe_int) pa_nil)))))) pss_nil)
      (pss_cons (ps_if (pt_cmpR op_eq (pv 2) pe_int (nomark _))
      (pss_one (ps_ret (pe_op op_sub pe_int (pe_cal G_l_take (hr.mono (by decide)) (by rfl) pass0 (pa_cons (pv 0) (pa_cons (pv 1) pa_nil)))))) pss_nil)
      (pss_one (ps_ret (pe_cal G_l_take (hr.mono (by decide)) (by rfl) pass0 (pa_cons (pv 0) (pa_cons (pv 1) pa_nil)))))))), ?_⟩
  refine ⟨_, rfl, t, 8, rfl, ht, by decide, by decide, fun r c k r0 r1 => ?_⟩
  refine ⟨_, rfl, rfl, _, rfl, ?_⟩
  have tp : ∀ c k : Int, Tape (upd H t (.lst [.int c, .int k])) t := fun c k => ⟨c, k, upd_same⟩
  by_cases g0 : r = 0
  · refine ifT (by rw [g0]; rfl) ?_
    refine ⟨_, rfl, _, _, rfl, rfl, ⟨by decide, by decide, by decide⟩, t, (10 : Int) ^ (9 : Int).toNat, rfl, tp _ _, by decide, by decide, fun r2 c2 k2 p0 p1 => ?_⟩
    have p1 : r2 < 1000000000 := p1
    refine ⟨_, _, rfl, rfl, ⟨by decide, by decide, by decide⟩, _, _, rfl, rfl, .inl ⟨by omega, by omega⟩, ?_⟩
    refine ⟨_, rfl, _, _, rfl, rfl, ⟨by decide, by decide, by decide⟩, t, (10 : Int) ^ (9 : Int).toNat, rfl, by rw [upd_upd]; exact tp _ _, by decide, by decide, fun r3 c3 k3 p2 p3 => ?_⟩
    refine ⟨_, _, rfl, rfl, ?_⟩
    rw [upd_upd, upd_upd]
    exact q _ _ _
  · refine ifF (decide_eq_false fun z => g0 (V.int.inj z)) ?_
    refine ⟨_, rfl, rfl, _, rfl, ?_⟩
    by_cases g1 : r = 1
    · refine ifT (by rw [g1]; rfl) ?_
      refine ⟨_, rfl, _, rfl, t, m, rfl, tp _ _, h0, h1, fun r2 c2 k2 p0 p1 => ⟨_, _, rfl, rfl, ?_⟩⟩
      rw [upd_upd]
      exact q _ _ _
    · refine ifF (decide_eq_false fun z => g1 (V.int.inj z)) ?_
      refine ⟨_, rfl, _, rfl, t, m, rfl, tp _ _, h0, h1, fun r2 c2 k2 p0 p1 => ?_⟩
      rw [upd_upd]
      exact q _ _ _
theorem ok_l_size (T : Txt P K Z mg) (F : At K mg "_law_size" s_l_size) (G_l_take : Cal P w K mg base CX0 1 "_law_take" P_l_take (sp_l_take w K Z)) : Cal P w K mg base CX0 2 "_law_size" P_l_size (sp_l_size w K Z) := by
  refine F.cal0 sc_l_size (fun _ _ _ _ _ _ us hl => match us, hl with | [_], _ => rfl) (by walk_at "len") (fun f cdv Ar outer s H vs Q E hr h => ?_)
  obtain ⟨t, rfl, ht, q⟩ := h
  refine ⟨_, (pss_cons (ps_set (i := 1) sc_l_size.nd rfl (Or.inl rfl) (pe_op op_add pe_int (pe_cal G_l_take (hr.mono (by decide)) (by rfl) pass0 (pa_cons (pv 0) (pa_cons pe_int pa_nil)))))
      (pss_cons (ps_if (pt_cmpR op_eq (pe_cal G_l_take (hr.mono (by decide)) (by rfl) pass0 (pa_cons (pv 0) (pa_cons pe_int pa_nil))) pe_int (nomark _))
      (pss_one (ps_set (i := 1) sc_l_size.nd rfl (Or.inl rfl) (pe_op op_add pe_int (pe_cal G_l_take (hr.mono (by decide)) (by rfl) pass0 (pa_cons (pv 0) (pa_cons pe_int pa_nil)))))) pss_nil)
      (pss_one (ps_ret (pv 1))))), ?_⟩
  have tp : ∀ c k : Int, Tape (upd H t (.lst [.int c, .int k])) t := fun c k => ⟨c, k, upd_same⟩
  refine ⟨_, rfl, t, 6, rfl, ht, by decide, by decide, fun r c k r0 r1 => ⟨_, _, rfl, rfl, ?_⟩⟩
  obtain ⟨x, rfl⟩ := Int.eq_ofNat_of_zero_le r0
  refine ⟨_, rfl, t, 8, rfl, tp _ _, by decide, by decide, fun r2 c2 k2 p0 p1 => ⟨rfl, _, rfl, ?_⟩⟩
  rw [upd_upd]
  by_cases g0 : r2 = 0
  · refine ifT (by rw [g0]; rfl) ?_
    refine ⟨_, rfl, t, 2, rfl, tp _ _, by decide, by decide, fun r3 c3 k3 p2 p3 => ⟨_, _, rfl, rfl, _, rfl, ?_⟩⟩
    rw [upd_upd]
    obtain ⟨y, rfl⟩ := Int.eq_ofNat_of_zero_le p2
    have := q (7 + y) c3 k3 (by omega) (by omega)
    exact this
  · refine ifF (decide_eq_false fun z => g0 (V.int.inj z)) ?_
    have := q (1 + x) c2 k2 (by omega) (by omega)
    exact ⟨_, rfl, this⟩
theorem ok_l_no_field (T : Txt P K Z mg) (F : At K mg "_law_no_field" s_l_no_field) (G_l_take : Cal P w K mg base CX0 1 "_law_take" P_l_take (sp_l_take w K Z)) : Cal P w K mg base CX0 2 "_law_no_field" P_l_no_field (sp_l_no_field w K Z) := by
  refine F.cal0 sc_l_no_field (fun _ _ _ _ _ _ us hl => match us, hl with | [_, _], _ => rfl) (by walk_at "len") (fun f cdv Ar outer s H vs Q E hr h => ?_)
  obtain ⟨t, n, rfl, ht, h0, h1, q⟩ := h
  refine ⟨_, (pss_one (ps_ret (pe_ix ix_list (pe_lst (pa_cons (pe_op op_sub pe_int pe_int) (pa_cons (pv 1) (pa_cons (pe_op op_add (pv 1) pe_int) (pa_cons (pe_op op_sub pe_int (pv 1)) (pa_cons (pe_op op_sub (pe_op op_sub pe_int (pv 1)) pe_int) (pa_cons (pe_op op_pow pe_int pe_int) pa_nil))))))) (pe_cal G_l_take (hr.mono (by decide)) (by rfl) pass0 (pa_cons (pv 0) (pa_cons pe_int pa_nil))) (fun _ _ => rfl)))), ?_⟩
  refine ⟨_, _, rfl, rfl, _, rfl, _, rfl, _, _, rfl, rfl, _, rfl, _, _, rfl, rfl, _, rfl, _, _, rfl, rfl, _, _, rfl, rfl, _, _, rfl, rfl, ⟨by decide, by decide, by decide⟩, sz (by show 6 ≤ 100000; decide), fun p np => ?_⟩
  have tpn := (Tp.of_same ht (Same.refl _)).new (o := .lst [.int (0 - 1), .int (n : Int), .int ((n : Int) + 1), .int (0 - (n : Int)), .int (0 - (n : Int) - 1), .int ((10 : Int) ^ (20 : Int).toNat)]) np
  have pt : p ≠ t := (Tp.of_same ht (Same.refl _)).ne np
  refine ⟨_, rfl, t, 6, rfl, tpn.tp, by decide, by decide, fun r c k r0 r1 => ?_⟩
  have hp : upd (upd H p (.lst [.int (0 - 1), .int (n : Int), .int ((n : Int) + 1), .int (0 - (n : Int)), .int (0 - (n : Int) - 1), .int ((10 : Int) ^ (20 : Int).toNat)])) t (.lst [.int c, .int k]) p = some (.lst [.int (0 - 1), .int (n : Int), .int ((n : Int) + 1), .int (0 - (n : Int)), .int (0 - (n : Int) - 1), .int ((10 : Int) ^ (20 : Int).toNat)]) := by
    rw [upd_ne pt, upd_same]
  have tpe : Tp H t (upd (upd H p (.lst [.int (0 - 1), .int (n : Int), .int ((n : Int) + 1), .int (0 - (n : Int)), .int (0 - (n : Int) - 1), .int ((10 : Int) ^ (20 : Int).toNat)])) t (.lst [.int c, .int k])) := by
    refine ⟨⟨c, k, upd_same⟩, fun b o ne e => ?_⟩
    rw [upd_ne ne]
    exact tpn.kp b o ne e
  have big : (n : Int) ≤ (10 : Int) ^ (20 : Int).toNat := by
    show (n : Int) ≤ 100000000000000000000
    omega
  have six : r = 0 ∨ r = 1 ∨ r = 2 ∨ r = 3 ∨ r = 4 ∨ r = 5 := by omega
  rcases six with rfl | rfl | rfl | rfl | rfl | rfl
  · exact ⟨p, _, _, _, rfl, rfl, SqL.of hp, atI_nat (j := 0) rfl, q _ _ tpe (by omega)⟩
  · exact ⟨p, _, _, _, rfl, rfl, SqL.of hp, atI_nat (j := 1) rfl, q _ _ tpe (by omega)⟩
  · exact ⟨p, _, _, _, rfl, rfl, SqL.of hp, atI_nat (j := 2) rfl, q _ _ tpe (by omega)⟩
  · exact ⟨p, _, _, _, rfl, rfl, SqL.of hp, atI_nat (j := 3) rfl, q _ _ tpe (by omega)⟩
  · exact ⟨p, _, _, _, rfl, rfl, SqL.of hp, atI_nat (j := 4) rfl, q _ _ tpe (by omega)⟩
  · exact ⟨p, _, _, _, rfl, rfl, SqL.of hp, atI_nat (j := 5) rfl, q _ _ tpe (by omega)⟩
theorem ok_l_record (T : Txt P K Z mg) (F : At K mg "_law_record" s_l_record) (G_l_value : Cal P w K mg base CX0 2 "_law_value" P_l_value (sp_l_value w K Z)) : Cal P w K mg base CX0 3 "_law_record" P_l_record (sp_l_record w K Z) := by
  refine F.cal0 sc_l_record (fun _ _ _ _ _ _ us hl => match us, hl with | [_, _, _], _ => rfl) (by walk_at "len") (fun f cdv Ar outer s H vs Q E hr h => ?_)
  obtain ⟨t, n, m, rfl, ht, hz, h0, h1, q⟩ := h
  refine ⟨_, (pss_one (ps_ret (pe_callTy call_tuple_of (by rfl) T.n_tuple (by first | exact boot_tuple | decide +kernel) (pa_cons (pe_lc (own := [("_law_k", 3)]) (g := gName 3) rfl sc_l_record.nd (pi_range1 (by rfl) T.n_range (pa_cons (pv 1) pa_nil)) (blkOk_by (own := [("_law_k", 3)]) (N := N_l_record) (sc := defScope s_l_record) (by decide +kernel)) (fun _ _ _ _ _ => pg_name (i := 3) sc_l_record.nd rfl (Or.inl rfl)) (fun _ _ _ _ _ => pts_nil) (fun _ _ _ _ _ => (pe_cal G_l_value (hr.mono (by decide)) (by rfl) pass0 (pa_cons (pv 0) (pa_cons (pv 2) pa_nil))))) pa_nil)))), ?_⟩
  refine ⟨_, rfl, _, rfl, by omega, by omega, fun d nd => ?_⟩
  have t0 := Tp.of_same ht (Same.refl _)
  have dt := t0.ne nd
  refine lc_range (n := n) (fun i H' => Tp H t H' ∧ ∃ rs : List Int, rs.length = i ∧ H' d = some (.lst (rs.map V.int))) ⟨t0.new nd, [], rfl, upd_same⟩ (fun i H' hi h => ?_) (fun H' h => ?_)
  · obtain ⟨tp, rs, hrs, hd⟩ := h
    refine ⟨rfl, yes_if ?_⟩
    refine ⟨_, rfl, _, rfl, t, m, rfl, tp.tp, h0, h1, fun v c k => ?_⟩
    refine ⟨rs.map V.int, by rw [upd_ne dt]; exact hd, szl (by rw [List.length_map]; omega), ⟨⟨c, k, by rw [upd_ne dt.symm, upd_same]⟩, fun b o ne e => ?_⟩, rs ++ [v], by rw [List.length_append, List.length_singleton, hrs], by rw [upd_same, List.map_append] <;> rfl⟩
    rw [upd_ne (ne_of_none e nd), upd_ne ne]
    exact tp.kp b o ne e
  · obtain ⟨tp, rs, hrs, hd⟩ := h
    refine ⟨d, _, rfl, .inl ⟨SqL.of hd, fun p np => ?_⟩⟩
    exact q p rs _ (tp.new np) (tp.free np) hrs upd_same
theorem ok_l_turns (T : Txt P K Z mg) (F : At K mg "_law_turns" s_l_turns) (G_l_take : Cal P w K mg base CX0 1 "_law_take" P_l_take (sp_l_take w K Z)) : Cal P w K mg base CX0 2 "_law_turns" P_l_turns (sp_l_turns w K Z) := by
  refine F.cal0 sc_l_turns (fun _ _ _ _ _ _ us hl => match us, hl with | [_, _], _ => rfl) (by walk_at "len") (fun f cdv Ar outer s H vs Q E hr h => ?_)
  obtain ⟨t, n, rfl, ht, hz, q⟩ := h
  refine ⟨_, (pss_cons (ps_set (i := 2) sc_l_turns.nd rfl (Or.inl rfl) (pe_listRg rfl (by rfl) T.n_list (prg_1 (by rfl) T.n_range (pv 1))))
      (pss_cons (ps_set (i := 3) sc_l_turns.nd rfl (Or.inl rfl) (pe_lst pa_nil))
      (pss_cons (ps_for PassesOwn.never rfl (pi_range1 (by rfl) T.n_range (pa_cons (pv 1) pa_nil)) (pg_name (i := 4) sc_l_turns.nd rfl (Or.inl rfl))
      (pss_one (ps_expr (pe_bm PySem.F.plainAttrs_list PySem.F.slot_list_append PySem.F.type_list_append mt_append (pv 3) (pa_cons (pe_bm PySem.F.plainAttrs_list PySem.F.slot_list_pop PySem.F.type_list_pop mt_popAt (pv 2) (pa_cons (pe_cal G_l_take (hr.mono (by decide)) (by rfl) pass0 (pa_cons (pv 0) (pa_cons (pe_callB call_len_seq (by rfl) T.n_len (by first | exact PySem.boot_len | decide +kernel) (pa_cons (pv 2) pa_nil)) pa_nil))) pa_nil)) pa_nil)))))
      (pss_one (ps_ret (pv 3)))))), ?_⟩
  refine ⟨_, rfl, _, rfl, .of_le (by decide) (by omega) (by decide) (by omega), fun l nl => ?_⟩
  rw [rgV_nat]
  have t0 := Tp.of_same ht (Same.refl _)
  have lt := t0.ne nl
  have t1 := t0.new (o := .lst ((List.range n).map nV)) nl
  refine ⟨Nat.zero_le _, fun u nu => ?_⟩
  have ut := t1.ne nu
  have t2 := t1.new (o := .lst []) nu
  have nuH := t1.free nu
  have lu : l ≠ u := ne_of_none (o := .lst ((List.range n).map nV)) upd_same nu
  refine ⟨_, rfl, _, rfl, by omega, by omega, for_rng (n := n) rfl (fun i σ H' => ∃ (v : Option V) (L R : List Nat), σ = [some (.ref t), some (nV n), some (.ref l), some (.ref u), v] ∧ Tp H t H' ∧ H' l = some (.lst (L.map nV)) ∧ H' u = some (.lst (R.map nV)) ∧ R.length = i ∧ (L ++ R).Perm (List.range n))
    ⟨none, List.range n, [], rfl, t2, by rw [upd_ne lu, upd_same], upd_same, rfl, by rw [List.append_nil]⟩ ?_ ?_⟩
  · rintro i σ H' hi ⟨v, L, R, rfl, tp, hL, hR, lR, pm⟩
    have lenL : L.length + i = n := by
      have := pm.length_eq
      rw [List.length_append, List.length_range] at this
      omega
    refine ⟨_, rfl, .inl ⟨rfl, _, SqL.of hR⟩, _, rfl, .inl ⟨rfl, _, SqL.of hL⟩, _, rfl, _, rfl, l, _, rfl, .inl (SqL.of hL), t, _, rfl, tp.tp, by rw [List.length_map]; omega, by rw [List.length_map]; omega, fun r c k r0 r1 => ?_⟩
    rw [List.length_map] at r1
    obtain ⟨x, rfl⟩ := Int.eq_ofNat_of_zero_le r0
    have hx : x < L.length := by omega
    have hL2 : upd H' t (.lst [.int c, .int k]) l = some (.lst (L.map nV)) := by rw [upd_ne lt]; exact hL
    have hR2 : upd H' t (.lst [.int c, .int k]) u = some (.lst (R.map nV)) := by rw [upd_ne ut]; exact hR
    refine ⟨l, _, (x : Int), x, _, rfl, rfl, hL2, by omega, by omega, (ixN_seq (ixN_at rfl (by rw [List.length_map]; exact hx))).1, at_map nV hx, ?_⟩
    have hR3 : upd (upd H' t (.lst [.int c, .int k])) l (.lst ((L.map nV).eraseIdx x)) u = some (.lst (R.map nV)) := by rw [upd_ne lu.symm]; exact hR2
    refine ⟨u, _, _, rfl, rfl, hR3, szl (by rw [List.length_map]; omega), ?_⟩
    refine ⟨_, L.eraseIdx x, R ++ [L[x]], rfl, (tp.tick.mut nl lt).mut nuH ut, ?_, ?_, by rw [List.length_append, lR]; rfl, ?_⟩
    · rw [upd_ne lu, upd_same, List.eraseIdx_eq_take_drop_succ, List.eraseIdx_eq_take_drop_succ, List.map_append, List.map_take, List.map_drop]
    · rw [upd_same, List.map_append] <;> rfl
    · refine List.Perm.trans ?_ pm
      rw [← List.append_assoc]
      have h1 : (L[x] :: L.eraseIdx x).Perm L := by
        rw [List.eraseIdx_eq_take_drop_succ]
        refine List.perm_middle.symm.trans ?_
        rw [← split_at hx]
      refine (List.perm_append_comm).trans ?_
      rw [← List.append_assoc]
      exact h1.append_right R
  · rintro σ H' ⟨v, L, R, rfl, tp, hL, hR, lR, pm⟩
    have l0 : L = [] := by
      have := pm.length_eq
      rw [List.length_append, List.length_range] at this
      exact List.length_eq_zero_iff.mp (by omega)
    rw [l0, List.nil_append] at pm
    exact ⟨_, rfl, q u R H' tp nuH pm hR⟩
theorem erase_map {L : List Nat} {x : Nat} : (L.map nV).eraseIdx x = (L.eraseIdx x).map nV := by
  rw [List.eraseIdx_eq_take_drop_succ, List.eraseIdx_eq_take_drop_succ, List.map_append, List.map_take, List.map_drop]
theorem getD_app {α : Type} {l m : List α} {d : α} {i : Nat} (h : i < l.length) : (l ++ m).getD i d = l.getD i d := by
  rw [List.getD_eq_getElem?_getD, List.getD_eq_getElem?_getD, List.getElem?_append_left h]
theorem getD_snoc {α : Type} {l : List α} {d x : α} : (l ++ [x]).getD l.length d = x := by
  rw [List.getD_eq_getElem?_getD, List.getElem?_append_right (Nat.le_refl _), Nat.sub_self] <;> rfl
theorem ok_l_kinds (T : Txt P K Z mg) (F : At K mg "_law_kinds" s_l_kinds) (G_l_take : Cal P w K mg base CX0 1 "_law_take" P_l_take (sp_l_take w K Z)) : Cal P w K mg base CX0 2 "_law_kinds" P_l_kinds (sp_l_kinds w K Z) := by
  refine F.cal0 sc_l_kinds (fun _ _ _ _ _ _ us hl => match us, hl with | [_, _, _], _ => rfl) (by walk_at "len") (fun f cdv Ar outer s H vs Q E hr h => ?_)
  obtain ⟨t, a, fr, ps, rfl, ht, at', ha, hz, q⟩ := h
  refine ⟨_, (pss_cons (ps_set (i := 3) sc_l_kinds.nd rfl (Or.inl rfl) (pe_lst pa_nil))
      (pss_cons (ps_for PassesOwn.never rfl (pi_range1 (by rfl) T.n_range (pa_cons (pe_callB call_len_seq (by rfl) T.n_len (by first | exact PySem.boot_len | decide +kernel) (pa_cons (pv 1) pa_nil)) pa_nil)) (pg_name (i := 4) sc_l_kinds.nd rfl (Or.inl rfl))
      (pss_cons (ps_set (i := 5) sc_l_kinds.nd rfl (Or.inl rfl) (pe_cal G_l_take (hr.mono (by decide)) (by rfl) pass0 (pa_cons (pv 0) (pa_cons pe_int pa_nil))))
      (pss_cons (ps_if (PW.pt (pw_or (pt_val (pv 2)) (pw_or1 (pt_cmpR op_in_seq (pv 4) (pv 1) (by rfl)))))
      (pss_one (ps_set (i := 5) sc_l_kinds.nd rfl (Or.inl rfl) (pe_op op_mod (pe_callTy call_int1 (by rfl) T.n_int (by first | exact boot_int | decide +kernel) (pa_cons (pv 5) pa_nil)) pe_int))) pss_nil)
      (pss_one (ps_expr (pe_bm PySem.F.plainAttrs_list PySem.F.slot_list_append PySem.F.type_list_append mt_append (pv 3) (pa_cons (pe_ix ix_list (pe_lst (pa_cons pe_str (pa_cons pe_str (pa_cons pe_str (pa_cons pe_str pa_nil))))) (pv 5) (fun _ _ => rfl)) pa_nil)))))))
      (pss_one (ps_ret (pv 3))))), ?_⟩
  have t0 := Tp.of_same ht (Same.refl _)
  refine ⟨Nat.zero_le _, fun l nl => ?_⟩
  have lt := t0.ne nl
  have t1 := t0.new (o := .lst []) nl
  refine ⟨_, rfl, a, _, rfl, .inl (SqL.of (t1.kp _ _ at' ha)), _, rfl, by omega, by rw [List.length_map]; omega, for_rng (n := ps.length) (by rw [List.length_map]) (fun i σ H' => ∃ (v u : Option V) (ks : List Kd), σ = [some (.ref t), some (.ref a), some (.bl fr), some (.ref l), v, u] ∧ Tp H t H' ∧ H' l = some (.lst (ks.map kS)) ∧ ks.length = i ∧ ∀ f, f < i → unf (kd ks f) = true → some f ∉ ps)
    ⟨none, none, [], rfl, t1, upd_same, rfl, fun f hf => absurd hf (Nat.not_lt_zero _)⟩ ?_ ?_⟩
  · rintro i σ H' hi ⟨v, u, ks, rfl, tp, hl, lk, hu⟩
    refine ⟨_, rfl, t, 4, rfl, tp.tp, by decide, by decide, fun r c k r0 r1 => ?_⟩
    have tp2 := tp.tick (c := c) (k := k)
    have hl2 : upd H' t (.lst [.int c, .int k]) l = some (.lst (ks.map kS)) := by rw [upd_ne lt]; exact hl
    have ha2 := tp2.kp _ _ at' ha
    have app : ∀ (x : Kd) (H2 : Hp) (w1 w2 : Option V), Tp H t H2 → H2 l = some (.lst (ks.map kS)) → (unf x = true → some i ∉ ps) → ∃ (v u : Option V) (ks' : List Kd), [some (V.ref t), some (.ref a), some (.bl fr), some (.ref l), w1, w2] = [some (.ref t), some (.ref a), some (.bl fr), some (.ref l), v, u] ∧ Tp H t (upd H2 l (.lst (ks.map kS ++ [kS x]))) ∧ upd H2 l (.lst (ks.map kS ++ [kS x])) l = some (.lst (ks'.map kS)) ∧ ks'.length = i + 1 ∧ ∀ f, f < i + 1 → unf (kd ks' f) = true → some f ∉ ps := fun x H2 w1 w2 tp3 hl3 hx => by
      refine ⟨_, _, ks ++ [x], rfl, tp3.mut nl lt, by rw [upd_same, List.map_append] <;> rfl, by rw [List.length_append, lk] <;> rfl, fun f hf => ?_⟩
      by_cases e : f < i
      · have : kd (ks ++ [x]) f = kd ks f := by
          unfold kd
          rw [getD_app (by omega)]
        rw [this]
        exact hu f e
      · have e : f = i := by omega
        subst e
        have : kd (ks ++ [x]) f = x := by
          unfold kd
          rw [← lk]
          exact getD_snoc
        rw [this]
        exact hx
    have sl : (ks.map kS).length < sizeLine := szl (by rw [List.length_map]; omega)
    have two : r % 2 = 0 ∨ r % 2 = 1 := by omega
    have four : (r = 0 ∨ r = 1) ∨ (r = 2 ∨ r = 3) := by omega
    have mod2 : (0 : Int) < 2 := by decide
    refine ⟨_, rfl, _, rfl, ?_⟩
    cases fr with
    | true =>
      refine ifT rfl (ifT rfl ⟨_, rfl, .inl ⟨_, rfl, _, _, rfl, rfl, mod2, ?_⟩⟩)
      show gName 5 (V.int (r % 2)) _ _ _
      rcases two with e | e
      · rw [e]
        exact ⟨_, rfl, .inl ⟨rfl, _, SqL.of hl2⟩, sz (by show 4 ≤ 100000; decide), fun p np => ⟨_, rfl, p, _, _, _, rfl, rfl, SqL.of upd_same, atI_nat (j := 0) rfl, l, _, _, rfl, rfl, same_new np _ _ hl2, sl, app .up _ _ _ (tp2.new np) (same_new np _ _ hl2) (fun e => by cases e)⟩⟩
      · rw [e]
        exact ⟨_, rfl, .inl ⟨rfl, _, SqL.of hl2⟩, sz (by show 4 ≤ 100000; decide), fun p np => ⟨_, rfl, p, _, _, _, rfl, rfl, SqL.of upd_same, atI_nat (j := 1) rfl, l, _, _, rfl, rfl, same_new np _ _ hl2, sl, app .down _ _ _ (tp2.new np) (same_new np _ _ hl2) (fun e => by cases e)⟩⟩
    | false =>
      refine ifF rfl ⟨_, rfl, _, rfl, a, _, rfl, .inl (SqL.of ha2), rfl, flat_pV ps, _, rfl, ?_⟩
      show if (inV (nV i) (ps.map pV)) = true then _ else _
      rw [in_pV]
      by_cases c1 : some i ∈ ps
      · refine ifT (decide_eq_true c1) ⟨_, rfl, .inl ⟨_, rfl, _, _, rfl, rfl, mod2, ?_⟩⟩
        show gName 5 (V.int (r % 2)) _ _ _
        rcases two with e | e
        · rw [e]
          exact ⟨_, rfl, .inl ⟨rfl, _, SqL.of hl2⟩, sz (by show 4 ≤ 100000; decide), fun p np => ⟨_, rfl, p, _, _, _, rfl, rfl, SqL.of upd_same, atI_nat (j := 0) rfl, l, _, _, rfl, rfl, same_new np _ _ hl2, sl, app .up _ _ _ (tp2.new np) (same_new np _ _ hl2) (fun e => by cases e)⟩⟩
        · rw [e]
          exact ⟨_, rfl, .inl ⟨rfl, _, SqL.of hl2⟩, sz (by show 4 ≤ 100000; decide), fun p np => ⟨_, rfl, p, _, _, _, rfl, rfl, SqL.of upd_same, atI_nat (j := 1) rfl, l, _, _, rfl, rfl, same_new np _ _ hl2, sl, app .down _ _ _ (tp2.new np) (same_new np _ _ hl2) (fun e => by cases e)⟩⟩
      · refine ifF (decide_eq_false c1) ?_
        rcases four with (rfl | rfl) | (rfl | rfl)
        · exact ⟨_, rfl, .inl ⟨rfl, _, SqL.of hl2⟩, sz (by show 4 ≤ 100000; decide), fun p np => ⟨_, rfl, p, _, _, _, rfl, rfl, SqL.of upd_same, atI_nat (j := 0) rfl, l, _, _, rfl, rfl, same_new np _ _ hl2, sl, app .up _ _ _ (tp2.new np) (same_new np _ _ hl2) (fun e => by cases e)⟩⟩
        · exact ⟨_, rfl, .inl ⟨rfl, _, SqL.of hl2⟩, sz (by show 4 ≤ 100000; decide), fun p np => ⟨_, rfl, p, _, _, _, rfl, rfl, SqL.of upd_same, atI_nat (j := 1) rfl, l, _, _, rfl, rfl, same_new np _ _ hl2, sl, app .down _ _ _ (tp2.new np) (same_new np _ _ hl2) (fun e => by cases e)⟩⟩
        · exact ⟨_, rfl, .inl ⟨rfl, _, SqL.of hl2⟩, sz (by show 4 ≤ 100000; decide), fun p np => ⟨_, rfl, p, _, _, _, rfl, rfl, SqL.of upd_same, atI_nat (j := 2) rfl, l, _, _, rfl, rfl, same_new np _ _ hl2, sl, app .fst _ _ _ (tp2.new np) (same_new np _ _ hl2) (fun _ => c1)⟩⟩
        · exact ⟨_, rfl, .inl ⟨rfl, _, SqL.of hl2⟩, sz (by show 4 ≤ 100000; decide), fun p np => ⟨_, rfl, p, _, _, _, rfl, rfl, SqL.of upd_same, atI_nat (j := 3) rfl, l, _, _, rfl, rfl, same_new np _ _ hl2, sl, app .lst _ _ _ (tp2.new np) (same_new np _ _ hl2) (fun _ => c1)⟩⟩
  · rintro σ H' ⟨v, u, ks, rfl, tp, hl, lk, hu⟩
    exact ⟨_, rfl, q l ks H' tp nl lk hu hl⟩
theorem par_set {P : Par} {a b f : Nat} (h : a < P.length) : par (P.set a (some b)) f = if f = a then some b else par P f := by
  unfold par
  rw [List.getD_eq_getElem?_getD, List.getD_eq_getElem?_getD, List.getElem?_set]
  by_cases c : a = f
  · subst c
    simp [h]
  · have : ¬ f = a := fun z => c z.symm
    simp [c, this]
theorem perm_idx {T : List Nat} {n : Nat} (h : T.Perm (List.range n)) : T.length = n ∧ T.Nodup ∧ ∀ f, f ∈ T ↔ f < n := by
  refine ⟨by rw [h.length_eq, List.length_range], h.nodup_iff.mpr List.nodup_range, fun f => ?_⟩
  rw [h.mem_iff, List.mem_range]
theorem ok_l_parents (T : Txt P K Z mg) (F : At K mg "_law_parents" s_l_parents) (G_l_take : Cal P w K mg base CX0 1 "_law_take" P_l_take (sp_l_take w K Z)) (G_l_turns : Cal P w K mg base CX0 2 "_law_turns" P_l_turns (sp_l_turns w K Z)) : Cal P w K mg base CX0 3 "_law_parents" P_l_parents (sp_l_parents w K Z) := by
  refine F.cal0 sc_l_parents (fun _ _ _ _ _ _ us hl => match us, hl with | [_, _], _ => rfl) (by walk_at "len") (fun f cdv Ar outer s H vs Q E hr h => ?_)
  obtain ⟨t, n, rfl, ht, h0, hz, q⟩ := h
  refine ⟨_, (pss_cons (ps_set (i := 2) sc_l_parents.nd rfl (Or.inl rfl) (pe_cal G_l_turns (hr.mono (by decide)) (by rfl) pass0 (pa_cons (pv 0) (pa_cons (pv 1) pa_nil))))
      (pss_cons (ps_set (i := 3) sc_l_parents.nd rfl (Or.inl rfl) (pe_cal G_l_take (hr.mono (by decide)) (by rfl) pass0 (pa_cons (pv 0) (pa_cons pe_int pa_nil))))
      (pss_cons (ps_setLc (i := 4) (own := [("_law_k", 5)]) (g := gName 5) rfl sc_l_parents.nd rfl rfl (sw_true rfl rfl rfl (by decide +kernel)) (pi_range1 (by rfl) T.n_range (pa_cons (pv 1) pa_nil)) (blkOk_by (own := [("_law_k", 5)]) (N := N_l_parents) (sc := defScope s_l_parents) (by decide +kernel)) (fun _ _ _ _ _ => pg_name (i := 5) sc_l_parents.nd rfl (Or.inl rfl)) (fun _ _ _ _ _ => pts_nil) (fun _ _ _ _ _ => pe_non))
      (pss_cons (ps_for PassesOwn.never rfl (pi_range2 (by rfl) T.n_range (pa_cons pe_int (pa_cons (pv 1) pa_nil))) (pg_name (i := 5) sc_l_parents.nd rfl (Or.inl rfl))
      (pss_cons (ps_set (i := 6) sc_l_parents.nd rfl (Or.inl rfl) (pe_cal G_l_take (hr.mono (by decide)) (by rfl) pass0 (pa_cons (pv 0) (pa_cons (pe_op op_add (pv 5) pe_int) pa_nil))))
      (pss_cons (ps_if (pt_cmpR op_eq (pv 3) pe_int (nomark _))
      (pss_one (ps_set (i := 6) sc_l_parents.nd rfl (Or.inl rfl) (pv 5))) pss_nil)
      (pss_cons (ps_if (pt_cmpR op_eq (pv 3) pe_int (nomark _))
      (pss_one (ps_set (i := 6) sc_l_parents.nd rfl (Or.inl rfl) pe_int)) pss_nil)
      (pss_one (ps_if (pt_cmpR op_gt (pv 6) pe_int (nomark _))
      (pss_one (ps_asg (pe_ix ix_list (pv 2) (pe_op op_sub (pv 6) pe_int) (fun _ _ => rfl)) (pg_sub (pv 4) (pe_ix ix_list (pv 2) (pv 5) (fun _ _ => rfl)) set_list))) pss_nil))))))
      (pss_one (ps_ret (pv 4))))))), ?_⟩
  obtain ⟨c0, k0, ht0⟩ := id ht
  refine ⟨_, rfl, _, rfl, t, n, rfl, ht, hz, fun u T H1 t1 nu pm hu => ?_⟩
  obtain ⟨lT, ndT, mT⟩ := perm_idx pm
  have ut : u ≠ t := (ne_of_none ht0 nu).symm
  refine ⟨_, rfl, t, 4, rfl, t1.tp, by decide, by decide, fun r c k r0 r1 => ?_⟩
  have t2 := t1.tick (c := c) (k := k)
  have hu2 : upd H1 t (.lst [.int c, .int k]) u = some (.lst (T.map nV)) := by rw [upd_ne ut]; exact hu
  refine ⟨_, rfl, _, rfl, by omega, by omega, fun m nm => ?_⟩
  have nmH := t2.free nm
  have mt := t2.ne nm
  have um : u ≠ m := ne_of_none hu2 nm
  refine lcR nm (n := n) rfl (fun _ => true) (fun _ => .non) (by omega) (fun i hi => ⟨rfl, fun H' _ R k => k H' (Same.refl _), fun _ H' _ R k => k H' (Same.refl _)⟩) (fun H3 s3 hm => ?_)
  have hm : H3 m = some (.lst (((List.range n).map fun _ => (none : Option Nat)).map pV)) := by
    rw [hm, List.filter_eq_self.mpr (by intro _ _; rfl), List.map_map] <;> rfl
  have t3 := t2.same s3
  have hu3 := s3 _ _ hu2
  have in_T : ∀ {j : Nat} (h : j < n), T[j]'(by omega) < n := fun {j} h => (mT _).mp (List.getElem_mem _)
  have idx_T : ∀ {j : Nat} (h : j < n), T.idxOf (T[j]'(by omega)) = j := fun {j} h => ndT.idxOf_getElem _ _
  refine ⟨_, rfl, _, _, rfl, ⟨by decide, by decide, by omega, by omega⟩, for_range (lo := 1) (n := ((n : Int) - 1).toNat) (fun i σ H' => ∃ (v w : Option V) (P : Par), σ = [some (.ref t), some (nV n), some (.ref u), some (.int r), some (.ref m), v, w] ∧ Tp H t H' ∧ H' u = some (.lst (T.map nV)) ∧ H' m = some (.lst (P.map pV)) ∧ P.length = n ∧ ∀ f p, par P f = some p → p < n ∧ T.idxOf p < T.idxOf f)
    ⟨none, none, _, rfl, t3, hu3, hm, by rw [List.length_map, List.length_range], fun f p e => ?_⟩ ?_ ?_⟩
  · unfold par at e
    rw [List.getD_eq_getElem?_getD, List.getElem?_map] at e
    cases z : (List.range n)[f]? with
    | none => rw [z] at e; cases e
    | some y => rw [z] at e; cases e
  · rintro i σ H' hi ⟨v, w, P, rfl, tp, hu', hm', lP, hP⟩
    have hi' : 1 + i < n := by omega
    refine ⟨_, rfl, _, rfl, _, _, rfl, rfl, t, _, rfl, tp.tp, by omega, by omega, fun r2 c2 k2 p0 p1 => ?_⟩
    have tp4 := tp.tick (c := c2) (k := k2)
    have hu4 : upd H' t (.lst [.int c2, .int k2]) u = some (.lst (T.map nV)) := by rw [upd_ne ut]; exact hu'
    have hm4 : upd H' t (.lst [.int c2, .int k2]) m = some (.lst (P.map pV)) := by rw [upd_ne mt]; exact hm'
    have at_k : atI (T.map nV) (1 + (i : Int)) = some (nV (T[1 + i]'(by omega))) := atN (j := 1 + i) (by omega) (at_map nV (by omega))
    have stay : ∀ (v w : Option V), ∃ (v' w' : Option V) (P : Par), [some (.ref t), some (nV n), some (.ref u), some (.int r), some (.ref m), v, w] = [some (.ref t), some (nV n), some (.ref u), some (.int r), some (.ref m), v', w'] ∧ Tp H t (upd H' t (.lst [.int c2, .int k2])) ∧ upd H' t (.lst [.int c2, .int k2]) u = some (.lst (T.map nV)) ∧ upd H' t (.lst [.int c2, .int k2]) m = some (.lst (P.map pV)) ∧ P.length = n ∧ ∀ f p, par P f = some p → p < n ∧ T.idxOf p < T.idxOf f := fun v w => ⟨v, w, P, rfl, tp4, hu4, hm4, lP, hP⟩
    have step : ∀ (y : Nat) (hy : y < 1 + i) (v w : Option V), ∃ (v' w' : Option V) (P' : Par), [some (.ref t), some (nV n), some (.ref u), some (.int r), some (.ref m), v, w] = [some (.ref t), some (nV n), some (.ref u), some (.int r), some (.ref m), v', w'] ∧ Tp H t (upd (upd H' t (.lst [.int c2, .int k2])) m (.lst ((P.map pV).set (T[1 + i]'(by omega)) (nV (T[y]'(by omega)))))) ∧ upd (upd H' t (.lst [.int c2, .int k2])) m (.lst ((P.map pV).set (T[1 + i]'(by omega)) (nV (T[y]'(by omega))))) u = some (.lst (T.map nV)) ∧ upd (upd H' t (.lst [.int c2, .int k2])) m (.lst ((P.map pV).set (T[1 + i]'(by omega)) (nV (T[y]'(by omega))))) m = some (.lst (P'.map pV)) ∧ P'.length = n ∧ ∀ f p, par P' f = some p → p < n ∧ T.idxOf p < T.idxOf f := fun y hy v w => by
      refine ⟨v, w, P.set (T[1 + i]'(by omega)) (some (T[y]'(by omega))), rfl, tp4.mut nmH mt, by rw [upd_ne um]; exact hu4, ?_, by rw [List.length_set, lP], fun f p e => ?_⟩
      · rw [upd_same, List.map_set] <;> rfl
      · rw [par_set (by rw [lP]; exact in_T hi')] at e
        by_cases c : f = T[1 + i]'(by omega)
        · rw [if_pos c] at e
          cases Option.some.inj e
          refine ⟨in_T (by omega), ?_⟩
          rw [c, idx_T hi', idx_T (by omega)]
          exact hy
        · rw [if_neg c] at e
          exact hP f p e
    have ixk : ixN (P.map pV).length ((T[1 + i]'(by omega) : Nat) : Int) = some (T[1 + i]'(by omega)) := ixN_at rfl (by rw [List.length_map, lP]; exact in_T hi')
    refine ⟨_, rfl, rfl, _, rfl, ?_⟩
    by_cases g0 : r = 0
    · subst g0
      refine ifT rfl ⟨_, rfl, _, rfl, rfl, _, rfl, ifF rfl ?_⟩
      refine ⟨_, rfl, _, _, rfl, rfl, _, rfl, ifT (decide_eq_true (by omega)) ?_⟩
      exact ⟨_, rfl, _, rfl, _, _, rfl, rfl, u, _, _, _, rfl, rfl, SqL.of hu4, atN (j := i) (by omega) (at_map nV (by omega)), _, rfl, _, rfl, _, rfl, u, _, _, _, rfl, rfl, SqL.of hu4, at_k, m, _, _, _, rfl, rfl, hm4, ixk, step i (by omega) _ _⟩
    · refine ifF (decide_eq_false fun z => g0 (V.int.inj z)) ⟨_, rfl, rfl, _, rfl, ?_⟩
      by_cases g1 : r = 1
      · subst g1
        refine ifT rfl ?_
        exact ⟨_, rfl, _, _, rfl, rfl, _, rfl, ifF rfl (stay _ _)⟩
      · refine ifF (decide_eq_false fun z => g1 (V.int.inj z)) ?_
        by_cases g : 0 < r2
        · obtain ⟨y, rfl⟩ : ∃ y : Nat, r2 = (y : Int) + 1 := ⟨(r2 - 1).toNat, by omega⟩
          refine ⟨_, rfl, _, _, rfl, rfl, _, rfl, ifT (decide_eq_true g) ?_⟩
          exact ⟨_, rfl, _, rfl, _, _, rfl, rfl, u, _, _, _, rfl, rfl, SqL.of hu4, atN (j := y) (by omega) (at_map nV (by omega)), _, rfl, _, rfl, _, rfl, u, _, _, _, rfl, rfl, SqL.of hu4, at_k, m, _, _, _, rfl, rfl, hm4, ixk, step y (by omega) _ _⟩
        · exact ⟨_, rfl, _, _, rfl, rfl, _, rfl, ifF (decide_eq_false g) (stay _ _)⟩
  · rintro σ H' ⟨v, w, P, rfl, tp, hu', hm', lP, hP⟩
    refine ⟨_, rfl, q m P H' tp nmH ⟨fun f => T.idxOf f, fun f hf => ?_, fun f p e => by rw [lP]; exact hP f p e⟩ lP hm'⟩
    rw [lP, ← lT]
    exact List.idxOf_lt_length_of_mem ((mT f).mpr (by omega))
end
end K56
namespace K56
open PySem PySem.Spec PyProof.Rows L2
local macro_rules | `(tactic| walk_at "len") => `(tactic| (intro vs H Q E h; repeat' (first | (rcases h with ⟨e, _⟩; exact congrArg List.length e) | (rcases h with ⟨_, h⟩))))
abbrev s_l_changes : Stmt := top 67
abbrev N_l_changes : List Str := ["_law_tape_here", "_law_parents_here", "_law_kinds_here", "_law_base", "_law_changes_here", "_law_calm", "_law_n", "_law_field", "_law_pick"]
abbrev P_l_changes : List Str := ["_law_tape_here", "_law_parents_here", "_law_kinds_here", "_law_base"]
theorem sc_l_changes : FnScope N_l_changes P_l_changes (defScope s_l_changes) := ⟨rfl, rfl, rfl, by decide +kernel, rfl, by decide +kernel, by decide +kernel⟩
abbrev s_l_spoilt : Stmt := top 68
abbrev N_l_spoilt : List Str := ["_law_tape_here", "_law_n", "_law_changes_here", "_law_pairs", "_law_k", "_law_spoilt_here", "_law_pair", "_law_place", "_law_wrong", "_law_field"]
abbrev P_l_spoilt : List Str := ["_law_tape_here", "_law_n", "_law_changes_here"]
theorem sc_l_spoilt : FnScope N_l_spoilt P_l_spoilt (defScope s_l_spoilt) := ⟨rfl, rfl, rfl, by decide +kernel, rfl, by decide +kernel, by decide +kernel⟩
/-! ### putting into a dict -/
def NK (ch : Chg) : Prop := (ch.map (·.1)).Nodup
def put (ch : Chg) (k v : Int) : Chg := if inC ch k = true then ch.map (fun q => if q.1 = k then (q.1, v) else q) else ch ++ [(k, v)]
theorem put_dV {ch : Chg} {k v : Int} : putK (dV ch) (Sum.inl k) (.int v) = dV (put ch k v) := by
  unfold put
  cases e : inC ch k with
  | false =>
    rw [if_neg (by decide)]
    exact putK_dV e
  | true =>
    rw [if_pos rfl]
    unfold putK
    rw [valV_any, dV_some, e, if_pos rfl]
    unfold dV
    rw [List.map_map, List.map_map]
    refine List.map_congr_left fun q _ => ?_
    show (if (Sum.inl q.1 : Key) = Sum.inl k then _ else _) = (Sum.inl (if q.1 = k then (q.1, v) else q).1, V.int (if q.1 = k then (q.1, v) else q).2)
    by_cases c : q.1 = k
    · rw [if_pos c, if_pos (by rw [c])]
    · rw [if_neg c, if_neg (fun z => c (Sum.inl.inj z))]
theorem put_map {ch : Chg} {k v : Int} : (ch.map (fun q : Int × Int => if q.1 = k then (q.1, v) else q)).map (·.1) = ch.map (·.1) := by
  rw [List.map_map]
  refine List.map_congr_left fun q _ => ?_
  show (if q.1 = k then (q.1, v) else q).1 = q.1
  split <;> rfl
theorem put_nodup {ch : Chg} {k v : Int} (h : NK ch) : NK (put ch k v) := by
  unfold NK put
  cases e : inC ch k with
  | false =>
    rw [if_neg (by decide), List.map_append, List.nodup_append]
    refine ⟨h, by simp, fun a ha b hb => ?_⟩
    obtain rfl : b = k := by simpa using hb
    intro z
    subst z
    rw [inC_iff.mpr ha] at e
    cases e
  | true =>
    rw [if_pos rfl, put_map]
    exact h
theorem put_keys {ch : Chg} {k v x : Int} (h : x ∈ (put ch k v).map (·.1)) : x = k ∨ x ∈ ch.map (·.1) := by
  unfold put at h
  cases e : inC ch k with
  | false =>
    rw [e, if_neg (by decide), List.map_append, List.mem_append] at h
    rcases h with h | h
    · exact .inr h
    · exact .inl (by simpa using h)
  | true =>
    rw [e, if_pos rfl, put_map] at h
    exact .inr h
theorem put_len {ch : Chg} {k v : Int} : (put ch k v).length ≤ ch.length + 1 := by
  unfold put
  split
  · rw [List.length_map]
    omega
  · rw [List.length_append] <;> exact Nat.le_refl _
theorem keys_len {ch : Chg} {n : Nat} (h : NK ch) (hr : ∀ x : Int, x ∈ ch.map (·.1) → 0 ≤ x ∧ x < (n : Int)) : ch.length ≤ n := by
  have h1 : ((ch.map (·.1)).map Int.toNat).Nodup := by
    unfold NK at h
    rw [List.nodup_iff_pairwise_ne, List.pairwise_map]
    refine List.Pairwise.imp_of_mem ?_ (List.nodup_iff_pairwise_ne.mp h)
    intro a b ha hb ne z
    have := hr a ha
    have := hr b hb
    exact ne (by omega)
  have := len_le_of_sub (m := List.range n) h1 fun x hx => by
    obtain ⟨y, hy, rfl⟩ := List.mem_map.mp hx
    have := hr y hy
    exact List.mem_range.mpr (by omega)
  rw [List.length_map, List.length_map, List.length_range] at this
  exact this
/-- behind a statement: one word that all its ways end in -/
theorem seq_mid {a b : TS} {D : Ends} {σ : L2.St} {H : Hp} (M : L2.St → Hp → Prop) (h2 : ∀ σ' H', M σ' H' → b D σ' H') (h1 : (∀ σ' H', M σ' H' → b D σ' H') → a { D with nx := fun σ' H' => b D σ' H' } σ H) : tSeq a b D σ H := h1 h2
theorem cut_map {l : List Nat} {lo hi : Option Int} : ∃ L : List Nat, cutV (l.map nV) lo hi = L.map nV ∧ ∀ x ∈ L, x ∈ l := by
  refine ⟨(l.drop (HT.sIx l.length 0 lo)).take (HT.sIx l.length l.length hi - HT.sIx l.length 0 lo), ?_, fun x hx => List.drop_subset _ _ (List.take_subset _ _ hx)⟩
  unfold cutV
  rw [List.length_map, List.map_take, List.map_drop]
def Rng (n : Nat) (ch : Chg) : Prop := ∀ x : Int, x ∈ ch.map (·.1) → 0 ≤ x ∧ x < (n : Int)
theorem put_rng {ch : Chg} {n g : Nat} {v : Int} (h : Rng n ch) (hg : g < n) : Rng n (put ch (g : Int) v) := fun x hx => by
  rcases put_keys hx with rfl | hx
  · omega
  · exact h x hx
def ChMid (H : Hp) (t a k b d u : Addr) (calm nn : Int) (g n : Nat) (T : List Nat) : L2.St → Hp → Prop := fun σ' H2 => ∃ (z : Int) (ch : Chg), σ' = [some (.ref t), some (.ref a), some (.ref k), some (.ref b), some (.ref d), some (.int calm), some (.int nn), some (nV g), some (.int z)] ∧ Tp H t H2 ∧ H2 u = some (.lst (T.map nV)) ∧ H2 d = some (.dK (dV ch)) ∧ NK ch ∧ Rng n ch
def sp_l_changes (w : World) (K : PySem.W.Frag) (Z : Ad) : Sp := fun vs H Q _ => ∃ (t a k b : Addr) (ps : Par) (ks : List Kd) (rs : List Int), vs = [.ref t, .ref a, .ref k, .ref b] ∧ Tape H t ∧ a ≠ t ∧ k ≠ t ∧ H a = some (.lst (ps.map pV)) ∧ H k = some (.lst (ks.map kS)) ∧ H b = some (.tup (rs.map V.int)) ∧
  ks.length = ps.length ∧ rs.length = ps.length ∧ ps.length ≤ 16 ∧
  ∀ (d : Addr) (ch : Chg) H', Tp H t H' → H d = none → H' d = some (.dK (dV ch)) → NK ch → Rng ps.length ch → Q (.ref d) H'
/-- a list of pairs -/
def PL (H : Hp) (p : Addr) (ls : List (Addr × Int × Int)) : Prop := H p = some (.lst (ls.map fun q => .ref q.1)) ∧ ∀ q ∈ ls, H q.1 = some (.tup [.int q.2.1, .int q.2.2])
def sp_l_spoilt (w : World) (K : PySem.W.Frag) (Z : Ad) : Sp := fun vs H Q _ => ∃ (t d : Addr) (n : Nat) (ch : Chg), vs = [.ref t, nV n, .ref d] ∧ Tape H t ∧ H d = some (.dK (dV ch)) ∧ 1 ≤ n ∧ n ≤ 16 ∧ ch.length ≤ 100 ∧
  ∀ (p : Addr) (ch' : Chg) H', Tp H t H' → H p = none → H' p = some (.dK (dV ch')) → NK ch' → ch'.length ≤ 200 → Q (.ref p) H'
theorem Tp.under {H H1 H2 : Hp} {t : Addr} (s : Same H H1) (n : H t = none) (x : Tp H1 t H2) : Same H H2 := fun b o e => x.kp b o (ne_of_none e n) (s b o e)
section
variable {P : Program} {w : World} {K : PySem.W.Frag} {mg : Str → Option Value} {base : Heap} {Z : Ad}
theorem ok_l_changes (T : Txt P K Z mg) (F : At K mg "_law_changes" s_l_changes) (G_l_raised : Cal P w K mg base CX0 1 "_law_raised" P_l_raised (sp_l_raised w K Z)) (G_l_take : Cal P w K mg base CX0 1 "_law_take" P_l_take (sp_l_take w K Z)) (G_l_turns : Cal P w K mg base CX0 2 "_law_turns" P_l_turns (sp_l_turns w K Z)) (G_l_value : Cal P w K mg base CX0 2 "_law_value" P_l_value (sp_l_value w K Z)) : Cal P w K mg base CX0 3 "_law_changes" P_l_changes (sp_l_changes w K Z) := by
  refine F.cal0 sc_l_changes (fun _ _ _ _ _ _ us hl => match us, hl with | [_, _, _, _], _ => rfl) (by walk_at "len") (fun f cdv Ar outer s H vs Q E hr h => ?_)
  obtain ⟨t, a, k, b, ps, ks, rs, rfl, ht, at', kt, ha, hk, hb, lk, lr, hz, q⟩ := h
  refine ⟨_, (pss_cons (ps_set (i := 4) sc_l_changes.nd rfl (Or.inr rfl) pe_dnewK)
      (pss_cons (ps_set (i := 5) sc_l_changes.nd rfl (Or.inl rfl) (pe_cal G_l_take (hr.mono (by decide)) (by rfl) pass0 (pa_cons (pv 0) (pa_cons pe_int pa_nil))))
      (pss_cons (ps_set (i := 6) sc_l_changes.nd rfl (Or.inl rfl) (pe_callB call_len_seq (by rfl) T.n_len (by first | exact PySem.boot_len | decide +kernel) (pa_cons (pv 2) pa_nil)))
      (pss_cons (ps_for PassesOwn.never rfl (pi_list (pe_cal G_l_turns (hr.mono (by decide)) (by rfl) pass0 (pa_cons (pv 0) (pa_cons (pv 6) pa_nil)))) (pg_name (i := 7) sc_l_changes.nd rfl (Or.inl rfl))
      (pss_cons (ps_set (i := 8) sc_l_changes.nd rfl (Or.inl rfl) (pe_cal G_l_take (hr.mono (by decide)) (by rfl) pass0 (pa_cons (pv 0) (pa_cons pe_int pa_nil))))
      (pss_cons (ps_if (PW.pt (pw_and (pt_cmpR op_gt (pv 5) pe_int (nomark _)) (pw_and1 (pt_cmpR op_isN (pe_ix ix_list (pv 1) (pv 7) (fun _ _ => rfl)) pe_non (nomark _)))))
      (pss_one (ps_set (i := 8) sc_l_changes.nd rfl (Or.inl rfl) (pe_ix ix_list (pe_lst (pa_cons pe_int (pa_cons pe_int pa_nil))) (pe_op op_sub (pv 5) pe_int) (fun _ _ => rfl)))) pss_nil)
      (pss_cons (ps_if (PW.pt (pw_and (pt_cmpR op_gt (pv 8) pe_int (nomark _)) (pw_and1 (pt_cmpR op_lt (pv 8) pe_int (nomark _)))))
      (pss_one (ps_dput (hu_of hr) (pv 4) (pv 7) (pe_cal G_l_raised (hr.mono (by decide)) (by rfl) pass0 (pa_cons (pe_ix ix_list (pv 2) (pv 7) (fun _ _ => rfl)) (pa_cons (pe_ix ix_tup (pv 3) (pv 7) (fun _ _ => rfl)) (pa_cons (pe_op op_sub (pe_op op_sub pe_int pe_int) (pe_cal G_l_take (hr.mono (by decide)) (by rfl) pass0 (pa_cons (pv 0) (pa_cons pe_int pa_nil)))) pa_nil)))) rfl)) pss_nil)
      (pss_cons (ps_if (pt_cmpR op_eq (pv 8) pe_int (nomark _))
      (pss_one (ps_dput (hu_of hr) (pv 4) (pv 7) (pe_cal G_l_raised (hr.mono (by decide)) (by rfl) pass0 (pa_cons (pe_ix ix_list (pv 2) (pv 7) (fun _ _ => rfl)) (pa_cons (pe_ix ix_tup (pv 3) (pv 7) (fun _ _ => rfl)) (pa_cons (pe_op op_add pe_int (pe_cal G_l_take (hr.mono (by decide)) (by rfl) pass0 (pa_cons (pv 0) (pa_cons pe_int pa_nil)))) pa_nil)))) rfl)) pss_nil)
      (pss_cons (ps_if (pt_cmpR op_eq (pv 8) pe_int (nomark _))
      (pss_one (ps_dput (hu_of hr) (pv 4) (pv 7) (pe_ix ix_tup (pv 3) (pv 7) (fun _ _ => rfl)) rfl)) pss_nil)
      (pss_one (ps_if (pt_cmpR op_eq (pv 8) pe_int (nomark _))
      (pss_one (ps_dput (hu_of hr) (pv 4) (pv 7) (pe_cal G_l_value (hr.mono (by decide)) (by rfl) pass0 (pa_cons (pv 0) (pa_cons pe_int pa_nil))) rfl)) pss_nil))))))))
      (pss_cons (ps_for PassesOwn.never rfl (pi_list (pe_slice sl_list (pe_lc (own := [("_law_field", 7)]) (g := gName 7) rfl sc_l_changes.nd (pi_range1 (by rfl) T.n_range (pa_cons (pv 6) pa_nil)) (blkOk_by (own := [("_law_field", 7)]) (N := N_l_changes) (sc := defScope s_l_changes) (by decide +kernel)) (fun _ _ _ _ _ => pg_name (i := 7) sc_l_changes.nd rfl (Or.inl rfl)) (fun _ _ _ _ _ => pts_one (pt_cmp (pc_dnotin (hu_of hr) (pv 7) (pv 4)))) (fun _ _ _ _ _ => (pv 7))) (po_some pe_int) po_none)) (pg_name (i := 7) sc_l_changes.nd rfl (Or.inl rfl))
      (pss_one (ps_dput (hu_of hr) (pv 4) (pv 7) (pe_ix ix_tup (pv 3) (pv 7) (fun _ _ => rfl)) rfl)))
      (pss_one (ps_ret (pv 4)))))))), ?_⟩
  have bt := ne_tape ht hb (fun c k z => by cases z)
  have t0 := Tp.of_same ht (Same.refl _)
  intro d nd
  have dt := t0.ne nd
  have t1 := t0.new (o := .dK []) nd
  have hd1 : upd H d (.dK []) d = some (.dK (dV [])) := upd_same
  refine ⟨_, rfl, t, 3, rfl, t1.tp, by decide, by decide, fun calm c0 k0 r0 r1 => ?_⟩
  have t2 := t1.tick (c := c0) (k := k0)
  have hd2 : upd (upd H d (.dK [])) t (.lst [.int c0, .int k0]) d = some (.dK (dV [])) := by rw [upd_ne dt]; exact hd1
  refine ⟨_, rfl, k, _, rfl, .inl (SqL.of (t2.kp _ _ kt hk)), ?_⟩
  refine ⟨_, rfl, _, rfl, t, (ks.map kS).length, rfl, t2.tp, by rw [List.length_map]; omega, fun u T H3 t3 nu pm hu => ?_⟩
  rw [List.length_map, lk] at pm
  obtain ⟨lT, ndT, mT⟩ := perm_idx pm
  have ut : u ≠ t := by
    obtain ⟨c1, k1, e⟩ := t2.tp
    exact (ne_of_none e nu).symm
  have t4 := t2.trans t3
  have hd3 := t3.kp _ _ dt hd2
  have nuH := t2.free nu
  have ud : u ≠ d := (ne_of_none hd2 nu).symm
  have mid : ∀ (g : Nat), g < ps.length → ∀ (ch : Chg) (H' : Hp) (v : Int), Tp H t H' → H' u = some (.lst (T.map nV)) → H' d = some (.dK (dV ch)) → NK ch → Rng ps.length ch →
      (dV ch).length < sizeLine ∧ Tp H t (upd H' d (.dK (putK (dV ch) (Sum.inl (g : Int)) (.int v)))) ∧ upd H' d (.dK (putK (dV ch) (Sum.inl (g : Int)) (.int v))) u = some (.lst (T.map nV)) ∧ upd H' d (.dK (putK (dV ch) (Sum.inl (g : Int)) (.int v))) d = some (.dK (dV (put ch (g : Int) v))) ∧ NK (put ch (g : Int) v) ∧ Rng ps.length (put ch (g : Int) v) := fun g hg ch H' v tp hu hd nk rg => by
    refine ⟨?_, tp.mut nd dt, by rw [upd_ne ud]; exact hu, by rw [upd_same, put_dV], put_nodup nk, put_rng rg hg⟩
    unfold dV
    rw [List.length_map]
    have := keys_len nk rg
    exact szl (by omega)
  refine ⟨u, rfl, ⟨_, SqL.of hu⟩, for_lp (K := K) (a := u) (l := T) (f := nV) (fun _ σ H' => ∃ (v y : Option V) (ch : Chg), σ = [some (.ref t), some (.ref a), some (.ref k), some (.ref b), some (.ref d), some (.int calm), some (.int (((ks.map kS).length : Nat) : Int)), v, y] ∧ Tp H t H' ∧ H' u = some (.lst (T.map nV)) ∧ H' d = some (.dK (dV ch)) ∧ NK ch ∧ Rng ps.length ch)
    ⟨none, none, [], rfl, t4, hu, hd3, List.nodup_nil, fun x hx => by cases hx⟩ (fun _ σ H' ⟨_, _, _, _, _, h, _⟩ => SqL.of h) ?_ ?_⟩
  · rintro p g r' σ H' hl ⟨v, w, ch, rfl, tp, hu', hd', nk, rg⟩
    have hg : g < ps.length := (mT g).mp (by rw [hl]; simp)
    have getk := at_kd (ks := ks) (g := g) (by omega)
    have getr := at_atr (r := rs) (g := g) (by omega)
    refine ⟨_, rfl, t, 8, rfl, tp.tp, by decide, by decide, fun r c1 k1 p0 p1 => ?_⟩
    have tp1 := tp.tick (c := c1) (k := k1)
    have hu1 : upd H' t (.lst [.int c1, .int k1]) u = some (.lst (T.map nV)) := by rw [upd_ne ut]; exact hu'
    have hd1 : upd H' t (.lst [.int c1, .int k1]) d = some (.dK (dV ch)) := by rw [upd_ne dt]; exact hd'
    dsimp only [gName]
    refine seq_mid (ChMid H t a k b d u calm (((ks.map kS).length : Nat) : Int) g ps.length T) ?_ fun rest => ?_
    · rintro σ' H2 ⟨z, ch, rfl, tp, hu', hd', nk, rg⟩
      refine seq_mid (ChMid H t a k b d u calm (((ks.map kS).length : Nat) : Int) g ps.length T) ?_ fun rest => ?_
      · rintro σ' H2 ⟨z, ch, rfl, tp, hu', hd', nk, rg⟩
        refine seq_mid (ChMid H t a k b d u calm (((ks.map kS).length : Nat) : Int) g ps.length T) ?_ fun rest => ?_
        · rintro σ' H2 ⟨z, ch, rfl, tp, hu', hd', nk, rg⟩
          refine seq_mid (ChMid H t a k b d u calm (((ks.map kS).length : Nat) : Int) g ps.length T) ?_ fun rest => ?_
          · rintro σ' H2 ⟨z, ch, rfl, tp, hu', hd', nk, rg⟩
            refine ⟨_, rfl, rfl, _, rfl, ?_⟩
            by_cases g1 : z = 7
            · refine ifT (decide_eq_true (by rw [g1])) ⟨_, rfl, t, 3, rfl, tp.tp, by decide, by decide, fun v2 c2 k2 => ?_⟩
              obtain ⟨m1, m2, m3, m4, m5, m6⟩ := mid g hg ch _ v2 (tp.tick (c := c2) (k := k2)) (by rw [upd_ne ut]; exact hu') (by rw [upd_ne dt]; exact hd') nk rg
              exact ⟨_, rfl, _, rfl, d, _, rfl, DPut.k (k := Sum.inl (g : Int)) (by rw [upd_ne dt]; exact hd') m1, _, _, _, rfl, m2, m3, m4, m5, m6⟩
            · exact ifF (decide_eq_false fun x => g1 (V.int.inj x)) ⟨_, _, ch, rfl, tp, hu', hd', nk, rg⟩
          · refine ⟨_, rfl, rfl, _, rfl, ?_⟩
            by_cases g1 : z = 6
            · refine ifT (decide_eq_true (by rw [g1])) ⟨_, rfl, _, rfl, b, _, _, _, rfl, rfl, SqT.of (tp.kp _ _ bt hb), atI_nat getr, ?_⟩
              obtain ⟨m1, m2, m3, m4, m5, m6⟩ := mid g hg ch _ (atr rs g) tp hu' hd' nk rg
              exact ⟨_, rfl, _, rfl, d, _, rfl, DPut.k (k := Sum.inl (g : Int)) hd' m1, rest _ _ ⟨_, _, rfl, m2, m3, m4, m5, m6⟩⟩
            · exact ifF (decide_eq_false fun x => g1 (V.int.inj x)) (rest _ _ ⟨_, ch, rfl, tp, hu', hd', nk, rg⟩)
        · refine ⟨_, rfl, rfl, _, rfl, ?_⟩
          by_cases g1 : z = 5
          · refine ifT (decide_eq_true (by rw [g1])) ⟨_, rfl, _, rfl, k, _, _, _, rfl, rfl, SqL.of (tp.kp _ _ kt hk), atI_nat getk, _, rfl, _, rfl, b, _, _, _, rfl, rfl, SqT.of (tp.kp _ _ bt hb), atI_nat getr, _, rfl, t, 3, rfl, tp.tp, by decide, by decide, fun r2 c2 k2 q0 q1 => ⟨_, _, rfl, rfl, kd ks g, _, _, rfl, ?_⟩⟩
            obtain ⟨m1, m2, m3, m4, m5, m6⟩ := mid g hg ch _ (rai (kd ks g) (atr rs g) (1 + r2)) (tp.tick (c := c2) (k := k2)) (by rw [upd_ne ut]; exact hu') (by rw [upd_ne dt]; exact hd') nk rg
            exact ⟨_, rfl, _, rfl, d, _, rfl, DPut.k (k := Sum.inl (g : Int)) (by rw [upd_ne dt]; exact hd') m1, rest _ _ ⟨_, _, rfl, m2, m3, m4, m5, m6⟩⟩
          · exact ifF (decide_eq_false fun x => g1 (V.int.inj x)) (rest _ _ ⟨_, ch, rfl, tp, hu', hd', nk, rg⟩)
      · refine ⟨_, rfl, _, _, rfl, rfl, _, rfl, ?_⟩
        by_cases g1 : 1 < z
        · refine ifT (decide_eq_true g1) ⟨_, rfl, _, _, rfl, rfl, _, rfl, ?_⟩
          by_cases g2 : z < 5
          · refine ifT (decide_eq_true g2) ⟨_, rfl, _, rfl, k, _, _, _, rfl, rfl, SqL.of (tp.kp _ _ kt hk), atI_nat getk, _, rfl, _, rfl, b, _, _, _, rfl, rfl, SqT.of (tp.kp _ _ bt hb), atI_nat getr, _, _, rfl, rfl, _, rfl, t, 3, rfl, tp.tp, by decide, by decide, fun r2 c2 k2 q0 q1 => ⟨_, _, rfl, rfl, kd ks g, _, _, rfl, ?_⟩⟩
            obtain ⟨m1, m2, m3, m4, m5, m6⟩ := mid g hg ch _ (rai (kd ks g) (atr rs g) (0 - 1 - r2)) (tp.tick (c := c2) (k := k2)) (by rw [upd_ne ut]; exact hu') (by rw [upd_ne dt]; exact hd') nk rg
            exact ⟨_, rfl, _, rfl, d, _, rfl, DPut.k (k := Sum.inl (g : Int)) (by rw [upd_ne dt]; exact hd') m1, rest _ _ ⟨_, _, rfl, m2, m3, m4, m5, m6⟩⟩
          · exact ifF (decide_eq_false g2) (rest _ _ ⟨_, ch, rfl, tp, hu', hd', nk, rg⟩)
        · exact ifF (decide_eq_false g1) (ifF rfl (rest _ _ ⟨_, ch, rfl, tp, hu', hd', nk, rg⟩))
    · refine ⟨_, rfl, _, _, rfl, rfl, _, rfl, ?_⟩
      by_cases g0 : 0 < calm
      · refine ifT (decide_eq_true g0) ⟨_, rfl, _, rfl, a, _, _, _, rfl, rfl, SqL.of (tp1.kp _ _ at' ha), atI_nat (at_par hg), rfl, _, rfl, ?_⟩
        cases e : par ps g with
        | some y => exact ifF rfl (rest _ _ ⟨_, ch, rfl, tp1, hu1, hd1, nk, rg⟩)
        | none =>
          refine ifT rfl ⟨sz (by show 2 ≤ 100000; decide), fun m nm => ?_⟩
          have s1 := same_new (o := .lst [.int 0, .int 6]) nm
          have two : calm = 1 ∨ calm = 2 := by omega
          rcases two with rfl | rfl
          · exact ⟨_, rfl, _, _, rfl, rfl, m, _, _, _, rfl, rfl, SqL.of upd_same, atI_nat (j := 0) rfl, rest _ _ ⟨_, ch, rfl, tp1.same s1, s1 _ _ hu1, s1 _ _ hd1, nk, rg⟩⟩
          · exact ⟨_, rfl, _, _, rfl, rfl, m, _, _, _, rfl, rfl, SqL.of upd_same, atI_nat (j := 1) rfl, rest _ _ ⟨_, ch, rfl, tp1.same s1, s1 _ _ hu1, s1 _ _ hd1, nk, rg⟩⟩
      · exact ifF (decide_eq_false g0) (ifF rfl (rest _ _ ⟨_, ch, rfl, tp1, hu1, hd1, nk, rg⟩))
  · rintro σ H' ⟨v, y, ch, rfl, tp, hu', hd', nk, rg⟩
    have nlen : (((ks.map kS).length : Nat) : Int) = (ps.length : Int) := by rw [List.length_map, lk]
    refine ⟨_, rfl, _, rfl, by omega, by omega, fun m nm => ?_⟩
    have md : m ≠ d := (ne_of_none hd' nm).symm
    refine lcR nm (n := ps.length) nlen (fun g => !inC ch (g : Int)) nV (by omega) (fun g hg => ⟨rfl, fun H3 s3 R kk => ?_, fun _ H3 s3 R kk => ⟨_, rfl, kk H3 (Same.refl _)⟩⟩) (fun H3 s3 hm => ?_)
    · refine ⟨_, rfl, _, rfl, d, _, rfl, DGet.k (k := Sum.inl (g : Int)) (s3 _ _ hd'), _, rfl, ?_⟩
      rw [dV_some]
      exact kk H3 (Same.refl _)
    · refine ⟨6, rfl, m, _, rfl, SqL.of hm, fun x nx => ?_⟩
      obtain ⟨L, eL, hL⟩ := cut_map (l := (List.range ps.length).filter fun g : Nat => !inC ch (g : Int)) (lo := some 6) (hi := none)
      have s4 := s3.trans (same_new (o := .lst (L.map nV)) nx)
      rw [eL]
      have tp4 := tp.same s4
      have nxH := tp.free (s3.free nx)
      have xt := (tp.same s3).ne nx
      have xd : x ≠ d := (ne_of_none (s3 _ _ hd') nx).symm
      refine ⟨x, rfl, ⟨_, SqL.of upd_same⟩, for_lp (K := K) (a := x) (l := L) (f := nV) (fun _ σ H' => ∃ (v y : Option V) (ch : Chg), σ = [some (.ref t), some (.ref a), some (.ref k), some (.ref b), some (.ref d), some (.int calm), some (.int (((ks.map kS).length : Nat) : Int)), v, y] ∧ Tp H t H' ∧ H' x = some (.lst (L.map nV)) ∧ H' d = some (.dK (dV ch)) ∧ NK ch ∧ Rng ps.length ch)
        ⟨_, _, ch, rfl, tp4, upd_same, s4 _ _ hd', nk, rg⟩ (fun _ σ H' ⟨_, _, _, _, _, h, _⟩ => SqL.of h) ?_ ?_⟩
      · rintro p g r' σ H' hl ⟨v, y, ch, rfl, tp, hx', hd', nk, rg⟩
        have hg : g < ps.length := List.mem_range.mp (List.mem_filter.mp (hL g (by rw [hl]; simp))).1
        have getr := at_atr (r := rs) (g := g) (by omega)
        refine ⟨_, rfl, _, rfl, b, _, _, _, rfl, rfl, SqT.of (tp.kp _ _ bt hb), atI_nat getr, ?_⟩
        refine ⟨_, rfl, _, rfl, d, _, rfl, DPut.k (k := Sum.inl (g : Int)) hd' ?_, _, _, put ch (g : Int) (atr rs g), rfl, tp.mut nd dt, by rw [upd_ne xd]; exact hx', by rw [upd_same, put_dV], put_nodup nk, put_rng rg hg⟩
        unfold dV
        rw [List.length_map]
        have := keys_len nk rg
        exact szl (by omega)
      · rintro σ H' ⟨v, y, ch, rfl, tp, hx', hd', nk, rg⟩
        exact ⟨_, rfl, q d ch H' tp nd hd' nk rg⟩
theorem ok_l_spoilt (T : Txt P K Z mg) (F : At K mg "_law_spoilt" s_l_spoilt) (G_l_no_field : Cal P w K mg base CX0 2 "_law_no_field" P_l_no_field (sp_l_no_field w K Z)) (G_l_take : Cal P w K mg base CX0 1 "_law_take" P_l_take (sp_l_take w K Z)) (G_l_value : Cal P w K mg base CX0 2 "_law_value" P_l_value (sp_l_value w K Z)) : Cal P w K mg base CX0 3 "_law_spoilt" P_l_spoilt (sp_l_spoilt w K Z) := by
  refine F.cal0 sc_l_spoilt (fun _ _ _ _ _ _ us hl => match us, hl with | [_, _, _], _ => rfl) (by walk_at "len") (fun f cdv Ar outer s H vs Q E hr h => ?_)
  obtain ⟨t, d, n, ch, rfl, ht, hd, n0, n1, hz, q⟩ := h
  refine ⟨_, (pss_cons (ps_lock (ps_setLc (i := 3) (own := [("_law_field", 9)]) (g := gName 9) rfl sc_l_spoilt.nd rfl rfl (sw_true rfl rfl rfl (by decide +kernel)) (pi_keys (pv 2)) (blkOk_by (own := [("_law_field", 9)]) (N := N_l_spoilt) (sc := defScope s_l_spoilt) (by decide +kernel)) (fun _ _ _ _ _ => pg_name (i := 9) sc_l_spoilt.nd rfl (Or.inl rfl)) (fun _ _ _ _ _ => pts_nil) (fun _ _ _ _ _ => (pe_tup (pa_cons (pv 9) (pa_cons (pe_dget (hu_of hr) (pv 2) (pv 9) (fun _ _ => rfl)) pa_nil))))))
      (pss_cons (ps_for PassesOwn.never rfl (pi_range1 (by rfl) T.n_range (pa_cons (pe_op op_add pe_int (pe_cal G_l_take (hr.mono (by decide)) (by rfl) pass0 (pa_cons (pv 0) (pa_cons pe_int pa_nil)))) pa_nil)) (pg_name (i := 4) sc_l_spoilt.nd rfl (Or.inl rfl))
      (pss_cons (ps_set (i := 7) sc_l_spoilt.nd rfl (Or.inl rfl) (pe_cal G_l_take (hr.mono (by decide)) (by rfl) pass0 (pa_cons (pv 0) (pa_cons (pe_op op_add (pe_callB call_len_seq (by rfl) T.n_len (by first | exact PySem.boot_len | decide +kernel) (pa_cons (pv 3) pa_nil)) pe_int) pa_nil))))
      (pss_cons (ps_set (i := 8) sc_l_spoilt.nd rfl (Or.inl rfl) (pe_cal G_l_no_field (hr.mono (by decide)) (by rfl) pass0 (pa_cons (pv 0) (pa_cons (pv 1) pa_nil))))
      (pss_one (ps_expr (pe_bm PySem.F.plainAttrs_list PySem.F.slot_list_insert PySem.F.type_list_insert mt_insert (pv 3) (pa_cons (pv 7) (pa_cons (pe_tup (pa_cons (pv 8) (pa_cons (pe_cal G_l_value (hr.mono (by decide)) (by rfl) pass0 (pa_cons (pv 0) (pa_cons pe_int pa_nil))) pa_nil))) pa_nil))))))))
      (pss_cons (ps_set (i := 5) sc_l_spoilt.nd rfl (Or.inl rfl) pe_dnewK)
      (pss_cons (ps_for PassesOwn.never rfl (pi_list (pv 3)) (pg_name (i := 6) sc_l_spoilt.nd rfl (Or.inl rfl))
      (pss_one (ps_dput (hu_of hr) (pv 5) (pe_ix ix_tup (pv 6) pe_int (fun _ _ => rfl)) (pe_ix ix_tup (pv 6) pe_int (fun _ _ => rfl)) rfl)))
      (pss_one (ps_ret (pv 5))))))), ?_⟩
  have dt := ne_tape ht hd (fun c k z => by cases z)
  have t0 := Tp.of_same ht (Same.refl _)
  refine ⟨d, _, hd, trivial, fun od => ?_⟩
  refine ⟨_, rfl, d, od, rfl, .inl ⟨_, upd_same, fun m nm => ?_⟩⟩
  have md : m ≠ d := (ne_of_none (o := .frz od (.dK (dV ch))) upd_same nm).symm
  have el : (dV ch).length = ch.length := by
    unfold dV
    rw [List.length_map]
  refine lc_it walk_keys (fun i H' => Same (upd H d (.frz od (.dK (dV ch)))) H' ∧ ∃ ls, PL H' m ls ∧ ls.length = i) ⟨same_new nm, [], ⟨upd_same, fun z hz => by cases hz⟩, rfl⟩ (fun i H' _ h => h.1 _ _ upd_same) (fun i x H' H2 hi h y => ?_) (fun H' h => ?_)
  · obtain ⟨rfl, k, v, hk, rfl⟩ := y
    obtain ⟨s1, ls, hp, hlen⟩ := h
    rw [el] at hi
    unfold dV at hk
    rw [List.getElem?_map, List.getElem?_eq_getElem hi] at hk
    cases Option.some.inj hk
    have hin : inC ch (ch[i].1) = true := inC_iff.mpr (List.mem_map.mpr ⟨_, List.getElem_mem hi, rfl⟩)
    obtain ⟨y, hy⟩ := Option.isSome_iff_exists.mp hin
    have hv : valV (dV ch) (Sum.inl ch[i].1) = some (.int y) := by rw [valV_dV, hy] <;> rfl
    refine ⟨rfl, yes_if ?_⟩
    refine ⟨_, rfl, _, rfl, _, rfl, d, .int y, rfl, .inl ⟨_, Sum.inl ch[i].1, .inr ⟨_, s1 _ _ upd_same⟩, rfl, hv.symm⟩, sz (by show 2 ≤ 100000; decide), fun x nx => ?_⟩
    have s2 := same_new (o := .tup [.int ch[i].1, .int y]) nx
    have mx : m ≠ x := ne_of_none hp.1 nx
    refine ⟨_, s2 _ _ hp.1, szl (by rw [List.length_map]; omega), same_mut (s1.trans s2) nm, ls ++ [(x, ch[i].1, y)], ⟨by rw [upd_same, List.map_append] <;> rfl, fun z hz => ?_⟩, by rw [List.length_append, hlen] <;> rfl⟩
    have keep : ∀ (z : Addr) (a b : Int), upd H2 x (.tup [.int ch[i].1, .int y]) z = some (.tup [.int a, .int b]) → upd (upd H2 x (.tup [.int ch[i].1, .int y])) m (.lst ((ls.map fun q => V.ref q.1) ++ [V.ref x])) z = some (.tup [.int a, .int b]) := fun z a b e => by
      rw [upd_ne (ne_of e (s2 _ _ hp.1) (by intro z; cases z))]
      exact e
    rcases List.mem_append.mp hz with hz | hz
    · exact keep _ _ _ (s2 _ _ (hp.2 z hz))
    · obtain rfl : z = (x, ch[i].1, y) := by simpa using hz
      exact keep _ _ _ upd_same
  · obtain ⟨s1, ls, hp, hlen⟩ := h
    rw [el] at hlen
    refine ⟨s1 _ _ upd_same, ?_⟩
    have s2 := same_unlock hd s1
    have hp2 : PL (upd H' d (.dK (dV ch))) m ls := by
      refine ⟨by rw [upd_ne md]; exact hp.1, fun z hz => ?_⟩
      rw [upd_ne (ne_of (hp.2 z hz) (s1 _ _ upd_same) (by intro z; cases z))]
      exact hp.2 z hz
    have tp2 := t0.same s2
    have nmH : H m = none := by
      rw [upd_ne md] at nm
      exact nm
    have mt : m ≠ t := by
      obtain ⟨c, k, e⟩ := ht
      exact (ne_of_none e nmH).symm
    refine ⟨_, rfl, t, 2, rfl, tp2.tp, by decide, by decide, fun r c k r0 r1 => ?_⟩
    obtain ⟨x, rfl⟩ := Int.eq_ofNat_of_zero_le r0
    refine ⟨_, _, rfl, rfl, _, rfl, by omega, by omega, ?_⟩
    have pl_tick : ∀ {H1 : Hp} {ls : List (Addr × Int × Int)} {c k : Int}, Tape H1 t → PL H1 m ls → PL (upd H1 t (.lst [.int c, .int k])) m ls := fun {H1 ls c k} ht1 h => by
      refine ⟨by rw [upd_ne mt]; exact h.1, fun z hz => ?_⟩
      rw [upd_ne (ne_tape ht1 (h.2 z hz) (fun c k z => by cases z))]
      exact h.2 z hz
    refine for_rng (n := 1 + x) (by omega) (fun i σ H' => ∃ (v7 v8 v4 : Option V) (ls : List (Addr × Int × Int)), σ = [some (.ref t), some (nV n), some (.ref d), some (.ref m), v4, none, none, v7, v8, none] ∧ Tp H t H' ∧ PL H' m ls ∧ ls.length ≤ 100 + i)
      ⟨none, none, none, ls, rfl, tp2.tick, pl_tick tp2.tp hp2, by omega⟩ ?_ ?_
    · rintro i σ H1 hi ⟨v7, v8, v4, ls, rfl, tp, hp, hlen⟩
      refine ⟨_, rfl, _, rfl, m, _, rfl, .inl (SqL.of hp.1), _, _, rfl, rfl, t, _, rfl, tp.tp, by omega, by rw [List.length_map]; omega, fun r c k r0 r1 => ?_⟩
      rw [List.length_map] at r1
      obtain ⟨y, rfl⟩ := Int.eq_ofNat_of_zero_le r0
      have tp3 := tp.tick (c := c) (k := k)
      have hp3 := pl_tick (c := c) (k := k) tp.tp hp
      refine ⟨_, rfl, _, rfl, t, n, rfl, tp3.tp, n0, by omega, fun wr H4 tp4' _ => ?_⟩
      have tp4 := tp3.trans tp4'
      have hp4 : PL H4 m ls := ⟨tp4'.kp _ _ mt hp3.1, fun z hz => tp4'.kp _ _ (ne_tape tp3.tp (hp3.2 z hz) (fun c k z => by cases z)) (hp3.2 z hz)⟩
      have hm4 := hp4.1
      refine ⟨_, rfl, .inl ⟨rfl, _, SqL.of hm4⟩, _, rfl, _, rfl, _, rfl, t, 3, rfl, tp4.tp, by decide, by decide, fun v c5 k5 => ?_⟩
      have tp5 := tp4.tick (c := c5) (k := k5)
      have hp5 := pl_tick (c := c5) (k := k5) tp4.tp hp4
      refine ⟨sz (by show 2 ≤ 100000; decide), fun z nz => ?_⟩
      have s6 := same_new (o := .tup [.int wr, .int v]) nz
      have hm6 := s6 _ _ hp5.1
      refine ⟨m, _, (y : Int), _, rfl, rfl, hm6, szl (by rw [List.length_map]; omega), by omega, by omega, ?_⟩
      refine ⟨_, _, _, ls.take y ++ [(z, wr, v)] ++ ls.drop y, rfl, (tp5.same s6).mut nmH mt, ⟨?_, fun x hx => ?_⟩, ?_⟩
      · rw [upd_same, Int.toNat_natCast, List.map_append, List.map_append, List.map_take, List.map_drop] <;> rfl
      · have hx6 : upd (upd H4 t (.lst [.int c5, .int k5])) z (.tup [.int wr, .int v]) x.1 = some (.tup [.int x.2.1, .int x.2.2]) := by
          rcases List.mem_append.mp hx with hx | hx
          · rcases List.mem_append.mp hx with hx | hx
            · exact s6 _ _ (hp5.2 x (List.take_subset _ _ hx))
            · obtain rfl : x = (z, wr, v) := by simpa using hx
              exact upd_same
          · exact s6 _ _ (hp5.2 x (List.drop_subset _ _ hx))
        rw [upd_ne (ne_of hx6 hm6 (by intro z; cases z))]
        exact hx6
      · rw [List.length_append, List.length_append, List.length_take, List.length_drop, List.length_singleton]
        omega
    · rintro σ H1 ⟨v7, v8, v4, ls, rfl, tp, hp, hlen⟩
      intro e ne
      have et := tp.ne ne
      have neH := tp.free ne
      have s1 := same_new (o := .dK []) ne
      refine ⟨_, rfl, m, rfl, ⟨_, SqL.of (s1 _ _ hp.1)⟩, for_lp (K := K) (a := m) (l := ls) (f := fun z => V.ref z.1) (fun p σ H' => ∃ (v6 : Option V) (ch' : Chg), σ = [some (.ref t), some (nV n), some (.ref d), some (.ref m), v4, some (.ref e), v6, v7, v8, none] ∧ Tp H t H' ∧ PL H' m ls ∧ H' e = some (.dK (dV ch')) ∧ NK ch' ∧ ch'.length ≤ p.length)
        ⟨none, [], rfl, tp.new ne, ⟨s1 _ _ hp.1, fun z hz => s1 _ _ (hp.2 z hz)⟩, upd_same, List.nodup_nil, Nat.le_refl _⟩ (fun p σ H' ⟨_, _, _, _, h, _⟩ => SqL.of h.1) ?_ ?_⟩
      · rintro p ⟨x, kk, v⟩ r' σ H' hl ⟨v6, ch', rfl, tp, hp, he, nk, hlen'⟩
        have hx := hp.2 (x, kk, v) (by rw [hl]; simp)
        have hx : H' x = some (.tup [.int kk, .int v]) := hx
        have llen : p.length + 1 ≤ ls.length := by
          rw [hl, List.length_append, List.length_cons]
          omega
        refine ⟨_, rfl, x, _, _, _, rfl, rfl, SqT.of hx, atI_nat (j := 1) rfl, _, rfl, _, rfl, x, _, _, _, rfl, rfl, SqT.of hx, atI_nat (j := 0) rfl, e, _, rfl, DPut.k (k := Sum.inl kk) he ?_, ?_⟩
        · unfold dV
          rw [List.length_map]
          exact szl (by omega)
        · have me : m ≠ e := ne_of hp.1 he (by intro z; cases z)
          refine ⟨_, put ch' kk v, rfl, tp.mut neH et, ⟨by rw [upd_ne me]; exact hp.1, fun z hz => ?_⟩, by rw [upd_same, put_dV], put_nodup nk, ?_⟩
          · rw [upd_ne (ne_of (hp.2 z hz) he (by intro z; cases z))]
            exact hp.2 z hz
          · rw [List.length_append, List.length_singleton]
            have := put_len (ch := ch') (k := kk) (v := v)
            omega
      · rintro σ H' ⟨v6, ch', rfl, tp, hp, he, nk, hlen'⟩
        exact ⟨_, rfl, q e ch' H' tp neH he nk (by omega)⟩
end
end K56
namespace K56
open PySem PySem.Spec PyProof.Rows L2
local macro_rules | `(tactic| walk_at "len") => `(tactic| (intro vs H Q E h; repeat' (first | (rcases h with ⟨e, _⟩; exact congrArg List.length e) | (rcases h with ⟨_, h⟩))))
abbrev s_l_question : Stmt := top 69
abbrev N_l_question : List Str := ["_law_script", "_law_turn", "_law_parents_here", "_law_kinds_here", "_law_n", "_law_base", "_law_tape_here", "_law_changes_here", "_law_spoil"]
abbrev P_l_question : List Str := ["_law_script", "_law_turn", "_law_parents_here", "_law_kinds_here"]
theorem sc_l_question : FnScope N_l_question P_l_question (defScope s_l_question) := ⟨rfl, rfl, rfl, by decide +kernel, rfl, by decide +kernel, by decide +kernel⟩
abbrev s_l_healed : Stmt := top 70
abbrev N_l_healed : List Str := ["_law_question_here", "_law_n", "_law_changes_here", "_law_field"]
abbrev P_l_healed : List Str := ["_law_question_here", "_law_n"]
theorem sc_l_healed : FnScope N_l_healed P_l_healed (defScope s_l_healed) := ⟨rfl, rfl, rfl, by decide +kernel, rfl, by decide +kernel, by decide +kernel⟩
/-- a question: a record, changes -/
structure QA (H : Hp) (q : Addr) (b d : Addr) (rs : List Int) (ch : Chg) : Prop where
  q : H q = some (.lst [.ref b, .ref d])
  b : H b = some (.tup (rs.map V.int))
  d : H d = some (.dK (dV ch))
  nk : NK ch
  len : ch.length ≤ 300
theorem QA.same {H H' : Hp} {q b d : Addr} {rs : List Int} {ch : Chg} (x : QA H q b d rs ch) (s : Same H H') : QA H' q b d rs ch := ⟨s _ _ x.q, s _ _ x.b, s _ _ x.d, x.nk, x.len⟩
def sp_l_question (w : World) (K : PySem.W.Frag) (Z : Ad) : Sp := fun vs H Q _ => ∃ (sc a k : Addr) (xs : List Int) (u : Nat) (ps : Par) (ks : List Kd), vs = [.ref sc, nV u, .ref a, .ref k] ∧ SqL K H sc (xs.map V.int) ∧ H a = some (.lst (ps.map pV)) ∧ H k = some (.lst (ks.map kS)) ∧ u ≤ 10 ∧
  ks.length = ps.length ∧ 1 ≤ ps.length ∧ ps.length ≤ 16 ∧
  ∀ (p b d : Addr) (rs : List Int) (ch : Chg) H', Same H H' → QA H' p b d rs ch → ps.length ≤ rs.length + 1 → rs.length ≤ ps.length + 1 → Q (.ref p) H'
def sp_l_healed (w : World) (K : PySem.W.Frag) (Z : Ad) : Sp := fun vs H Q _ => ∃ (q b d : Addr) (rs : List Int) (ch : Chg) (n : Nat), vs = [.ref q, nV n] ∧ QA H q b d rs ch ∧ n ≤ rs.length + 1 ∧ rs.length ≤ 100 ∧ n ≤ 16 ∧
  ∀ (p b' d' : Addr) (rs' : List Int) (ch' : Chg) H', Same H H' → QA H' p b' d' rs' ch' → rs'.length = n → Rng n ch' → Q (.ref p) H'
section
variable {P : Program} {w : World} {K : PySem.W.Frag} {mg : Str → Option Value} {base : Heap} {Z : Ad}
theorem ok_l_question (T : Txt P K Z mg) (F : At K mg "_law_question" s_l_question) (G_l_changes : Cal P w K mg base CX0 3 "_law_changes" P_l_changes (sp_l_changes w K Z)) (G_l_record : Cal P w K mg base CX0 3 "_law_record" P_l_record (sp_l_record w K Z)) (G_l_spoilt : Cal P w K mg base CX0 3 "_law_spoilt" P_l_spoilt (sp_l_spoilt w K Z)) (G_l_take : Cal P w K mg base CX0 1 "_law_take" P_l_take (sp_l_take w K Z)) (G_l_tape : Cal P w K mg base CX0 1 "_law_tape" P_l_tape (sp_l_tape w K Z)) : Cal P w K mg base CX0 4 "_law_question" P_l_question (sp_l_question w K Z) := by
  refine F.cal0 sc_l_question (fun _ _ _ _ _ _ us hl => match us, hl with | [_, _, _, _], _ => rfl) (by walk_at "len") (fun f cdv Ar outer s H vs Q E hr h => ?_)
  obtain ⟨sc, a, k, xs, u, ps, ks, rfl, hsc, ha, hk, hu, lk, n0, n1, q⟩ := h
  refine ⟨_, (pss_cons (ps_set (i := 4) sc_l_question.nd rfl (Or.inl rfl) (pe_callB call_len_seq (by rfl) T.n_len (by first | exact PySem.boot_len | decide +kernel) (pa_cons (pv 3) pa_nil)))
      (pss_cons (ps_set (i := 5) sc_l_question.nd rfl (Or.inl rfl) (pe_cal G_l_record (hr.mono (by decide)) (by rfl) pass0 (pa_cons (pe_cal G_l_tape (hr.mono (by decide)) (by rfl) pass0 (pa_cons (pv 0) (pa_cons (pe_op op_add pe_int (pe_op op_mul pe_int (pv 1))) pa_nil))) (pa_cons (pv 4) (pa_cons pe_int pa_nil)))))
      (pss_cons (ps_set (i := 6) sc_l_question.nd rfl (Or.inl rfl) (pe_cal G_l_tape (hr.mono (by decide)) (by rfl) pass0 (pa_cons (pv 0) (pa_cons (pe_op op_add pe_int (pe_op op_mul pe_int (pv 1))) pa_nil))))
      (pss_cons (ps_set (i := 7) sc_l_question.nd rfl (Or.inl rfl) (pe_cal G_l_changes (hr.mono (by decide)) (by rfl) pass0 (pa_cons (pv 6) (pa_cons (pv 2) (pa_cons (pv 3) (pa_cons (pv 5) pa_nil))))))
      (pss_cons (ps_if (pt_cmpR op_eq (pe_cal G_l_take (hr.mono (by decide)) (by rfl) pass0 (pa_cons (pv 6) (pa_cons pe_int pa_nil))) pe_int (nomark _))
      (pss_one (ps_set (i := 7) sc_l_question.nd rfl (Or.inl rfl) (pe_cal G_l_spoilt (hr.mono (by decide)) (by rfl) pass0 (pa_cons (pv 6) (pa_cons (pv 4) (pa_cons (pv 7) pa_nil)))))) pss_nil)
      (pss_cons (ps_set (i := 8) sc_l_question.nd rfl (Or.inl rfl) (pe_cal G_l_take (hr.mono (by decide)) (by rfl) pass0 (pa_cons (pv 6) (pa_cons pe_int pa_nil))))
      (pss_cons (ps_if (pt_cmpR op_eq (pv 8) pe_int (nomark _))
      (pss_one (ps_set (i := 5) sc_l_question.nd rfl (Or.inl rfl) (pe_op op_catA (pv 5) (pe_tup (pa_cons pe_int pa_nil))))) pss_nil)
      (pss_cons (ps_if (pt_cmpR op_eq (pv 8) pe_int (nomark _))
      (pss_one (ps_set (i := 5) sc_l_question.nd rfl (Or.inl rfl) (pe_slice sl_tupA (pv 5) (po_some pe_int) po_none))) pss_nil)
      (pss_one (ps_ret (pe_lst (pa_cons (pv 5) (pa_cons (pv 7) pa_nil))))))))))))), ?_⟩
  refine ⟨_, rfl, k, _, rfl, .inl (SqL.of hk), ?_⟩
  have en : (((ks.map kS).length : Nat) : Int) = (ps.length : Int) := by rw [List.length_map, lk]
  rw [en]
  refine ⟨_, rfl, _, rfl, _, _, rfl, rfl, .inl ⟨by decide, by decide⟩, _, _, rfl, rfl, sc, xs, 2 + 2 * u, ?_, hsc, fun t1 H1 s1 nt1 tp1 => ?_⟩
  · show [V.ref sc, V.int (2 + 2 * (u : Int))] = [V.ref sc, V.int ((2 + 2 * u : Nat) : Int)]
    rw [show (2 + 2 * (u : Int)) = ((2 + 2 * u : Nat) : Int) by omega]
  refine ⟨_, rfl, t1, ps.length, 3, rfl, tp1, by omega, by decide, by decide, fun b rs H2 tp2 nb lrs hb => ?_⟩
  have s2 := Tp.under s1 nt1 tp2
  have nbH := s1.free nb
  refine ⟨_, rfl, _, rfl, _, _, rfl, rfl, .inl ⟨by decide, by decide⟩, _, _, rfl, rfl, sc, xs, 3 + 2 * u, ?_, s2.seq hsc, fun t H3 s3 nt tp3 => ?_⟩
  · show [V.ref sc, V.int (3 + 2 * (u : Int))] = [V.ref sc, V.int ((3 + 2 * u : Nat) : Int)]
    rw [show (3 + 2 * (u : Int)) = ((3 + 2 * u : Nat) : Int) by omega]
  have s4 := s2.trans s3
  have ntH := s2.free nt
  have hb3 := s3 _ _ hb
  have bt : b ≠ t := ne_of_none hb nt
  refine ⟨_, rfl, _, rfl, _, rfl, _, rfl, t, a, k, b, ps, ks, rs, rfl, tp3, ne_of_none ha ntH, ne_of_none hk ntH, s4 _ _ ha, s4 _ _ hk, hb3, lk, lrs, n1, fun d ch H4 tp4 nd hd nk rg => ?_⟩
  have s5 := Tp.under s4 ntH tp4
  have hb4 := tp4.kp _ _ bt hb3
  have dt : d ≠ t := ne_tape tp4.tp hd (fun c k z => by cases z)
  have cl := keys_len nk rg
  dsimp only [gName]
  refine seq_mid (fun σ' H' => ∃ (d : Addr) (ch : Chg), σ' = [some (.ref sc), some (nV u), some (.ref a), some (.ref k), some (.int (ps.length : Int)), some (.ref b), some (.ref t), some (.ref d), none] ∧ Tp H4 t H' ∧ H' d = some (.dK (dV ch)) ∧ NK ch ∧ ch.length ≤ 300) ?_ fun rest => ?_
  · rintro σ' H' ⟨d, ch, rfl, tp, hd, nk, cl⟩
    refine ⟨_, rfl, t, 8, rfl, tp.tp, by decide, by decide, fun z c1 k1 z0 z1 => ?_⟩
    have dt := ne_tape tp.tp hd (fun c k z => by cases z)
    have hd1 : upd H' t (.lst [.int c1, .int k1]) d = some (.dK (dV ch)) := by rw [upd_ne dt]; exact hd
    have tp1 := tp.tick (c := c1) (k := k1)
    have hb1 := tp1.kp _ _ bt hb4
    dsimp only [gName]
    refine seq_mid (fun σ' H' => ∃ (b : Addr) (rs : List Int), σ' = [some (.ref sc), some (nV u), some (.ref a), some (.ref k), some (.int (ps.length : Int)), some (.ref b), some (.ref t), some (.ref d), some (.int z)] ∧ Tp H4 t H' ∧ H' d = some (.dK (dV ch)) ∧ H' b = some (.tup (rs.map V.int)) ∧ ps.length ≤ rs.length ∧ rs.length ≤ ps.length + 1) ?_ fun rest => ?_
    · rintro σ' H2 ⟨b, rs, rfl, tp, hd, hb, l1, l2⟩
      refine seq_mid (fun σ' H' => ∃ (b : Addr) (rs : List Int), σ' = [some (.ref sc), some (nV u), some (.ref a), some (.ref k), some (.int (ps.length : Int)), some (.ref b), some (.ref t), some (.ref d), some (.int z)] ∧ Tp H4 t H' ∧ H' d = some (.dK (dV ch)) ∧ H' b = some (.tup (rs.map V.int)) ∧ ps.length ≤ rs.length + 1 ∧ rs.length ≤ ps.length + 1) ?_ fun rest => ?_
      · rintro σ' H2 ⟨b, rs, rfl, tp, hd, hb, l1, l2⟩
        refine ⟨_, rfl, _, rfl, sz (by show 2 ≤ 100000; decide), fun p np => ?_⟩
        have s6 := same_new (o := .lst [.ref b, .ref d]) np
        exact q p b d rs ch _ (Tp.under s4 ntH (tp4.trans (tp.same s6))) ⟨upd_same, s6 _ _ hb, s6 _ _ hd, nk, cl⟩ l1 l2
      · refine ⟨_, rfl, rfl, _, rfl, ?_⟩
        by_cases g1 : z = 1
        · refine ifT (decide_eq_true (by rw [g1])) ⟨_, rfl, 1, rfl, b, _, rfl, SqT.of hb, fun _ => rest _ _ ⟨b, rs, rfl, tp, hd, hb, by omega, l2⟩, fun _ p np => ?_⟩
          have s6 := same_new (o := .tup (cutV (rs.map V.int) (some 1) none)) np
          refine rest _ _ ⟨p, (rs.drop (HT.sIx rs.length 0 (some 1))).take (HT.sIx rs.length rs.length none - HT.sIx rs.length 0 (some 1)), rfl, tp.same s6, s6 _ _ hd, ?_, ?_, ?_⟩
          · rw [upd_same]
            unfold cutV
            rw [List.length_map, List.map_take, List.map_drop]
          · rw [List.length_take, List.length_drop, HT.sIx_none, show HT.sIx rs.length 0 (some 1) = min 1 rs.length from HT.sIx_nat rs.length 0 1]
            omega
          · rw [List.length_take, List.length_drop]
            omega
        · exact ifF (decide_eq_false fun x => g1 (V.int.inj x)) (rest _ _ ⟨b, rs, rfl, tp, hd, hb, by omega, l2⟩)
    · refine ⟨_, rfl, rfl, _, rfl, ?_⟩
      by_cases g1 : z = 0
      · refine ifT (decide_eq_true (by rw [g1])) ⟨_, rfl, sz (by show 1 ≤ 100000; decide), fun p np => ?_⟩
        have s6 := same_new (o := .tup [.int 7]) np
        refine ⟨b, p, _, _, rfl, rfl, SqT.of (s6 _ _ hb1), SqT.of upd_same, sz (by rw [List.length_map, List.length_singleton]; omega), fun e => ?_, fun _ e => (by cases e), fun _ _ x nx => ?_⟩
        · have := congrArg List.length e
          rw [List.length_map] at this
          exact absurd this (by show ¬ rs.length = 0; omega)
        · have s7 := s6.trans (same_new (o := .tup (rs.map V.int ++ [.int 7])) nx)
          exact rest _ _ ⟨x, rs ++ [7], rfl, tp1.same s7, s7 _ _ hd1, by rw [upd_same, List.map_append] <;> rfl, by rw [List.length_append]; omega, by rw [List.length_append, lrs]; exact Nat.le_refl _⟩
      · exact ifF (decide_eq_false fun x => g1 (V.int.inj x)) (rest _ _ ⟨b, rs, rfl, tp1, hd1, hb1, by omega, by omega⟩)
  · refine ⟨_, rfl, t, 3, rfl, tp4.tp, by decide, by decide, fun z c1 k1 z0 z1 => ⟨rfl, _, rfl, ?_⟩⟩
    have t4 := Tp.of_same tp4.tp (Same.refl H4)
    have hd1 : upd H4 t (.lst [.int c1, .int k1]) d = some (.dK (dV ch)) := by rw [upd_ne dt]; exact hd
    by_cases g1 : z = 0
    · refine ifT (decide_eq_true (by rw [g1])) ⟨_, rfl, _, rfl, _, rfl, t, d, ps.length, ch, rfl, t4.tick.tp, hd1, n0, n1, by omega, fun p ch' H5 tp5 np hp nk' cl' => ?_⟩
      exact rest _ _ ⟨p, ch', rfl, t4.tick.trans tp5, hp, nk', by omega⟩
    · exact ifF (decide_eq_false fun x => g1 (V.int.inj x)) (rest _ _ ⟨d, ch, rfl, t4.tick, hd1, nk, by omega⟩)
theorem ok_l_healed (T : Txt P K Z mg) (F : At K mg "_law_healed" s_l_healed) : Cal P w K mg base CX0 1 "_law_healed" P_l_healed (sp_l_healed w K Z) := by
  refine F.cal0 sc_l_healed (fun _ _ _ _ _ _ us hl => match us, hl with | [_, _], _ => rfl) (by walk_at "len") (fun f cdv Ar outer s H vs Q E hr h => ?_)
  obtain ⟨p, b, d, rs, ch, n, rfl, ⟨hp, hb, hd, nk, cl⟩, l1, l2, n1, q⟩ := h
  refine ⟨_, (pss_cons (ps_set (i := 2) sc_l_healed.nd rfl (Or.inl rfl) pe_dnewK)
      (pss_cons (ps_lock (ps_for PassesOwn.never rfl (pi_keys (pe_ix ix_list (pv 0) pe_int (fun _ _ => rfl))) (pg_name (i := 3) sc_l_healed.nd rfl (Or.inl rfl))
      (pss_one (ps_if (pt_chain op_le op_lt pe_int (pv 3) (pv 1))
      (pss_one (ps_dput (hu_of hr) (pv 2) (pv 3) (pe_dget (hu_of hr) (pe_ix ix_list (pv 0) pe_int (fun _ _ => rfl)) (pv 3) (fun _ _ => rfl)) rfl)) pss_nil))))
      (pss_one (ps_ret (pe_lst (pa_cons (pe_slice sl_tupA (pe_op op_catA (pe_ix ix_list (pv 0) pe_int (fun _ _ => rfl)) (pe_tup (pa_cons pe_int pa_nil))) po_none (po_some (pv 1))) (pa_cons (pv 2) pa_nil))))))), ?_⟩
  intro e ne
  have s0 := same_new (o := .dK []) ne
  have hd0 := s0 _ _ hd
  have ed : e ≠ d := (ne_of_none hd ne).symm
  refine ⟨d, _, hd0, trivial, fun od => ?_⟩
  have pd : p ≠ d := ne_of hp hd (by intro z; cases z)
  have bd : b ≠ d := ne_of hb hd (by intro z; cases z)
  have hp1 : upd (upd H e (.dK [])) d (.frz od (.dK (dV ch))) p = some (.lst [.ref b, .ref d]) := by
    rw [upd_ne pd]
    exact s0 _ _ hp
  refine ⟨_, rfl, p, _, _, _, rfl, rfl, SqL.of hp1, atI_nat (j := 1) rfl, d, od, rfl, .inl ⟨_, upd_same, for_dk (ch := ch) (fun pre σ H' => ∃ (v : Option V) (ch' : Chg), σ = [some (.ref p), some (nV n), some (.ref e), v] ∧ Same (upd H d (.frz od (.dK (dV ch)))) H' ∧ H' e = some (.dK (dV ch')) ∧ NK ch' ∧ Rng n ch')
    ⟨none, [], rfl, ?_, by rw [upd_ne ed, upd_same] <;> rfl, List.nodup_nil, fun x hx => by cases hx⟩ (fun pre σ H' ⟨_, _, _, sm, _⟩ => sm _ _ upd_same) ?_ ?_⟩⟩
  · intro x o ex
    by_cases c : x = d
    · subst c
      rw [upd_same] at ex ⊢
      exact ex
    · rw [upd_ne c] at ex ⊢
      exact s0 _ _ ex
  · rintro pre ⟨k, v⟩ r σ H' hl ⟨u, ch', rfl, sm, he, nk', rg⟩
    have hdk : H' d = some (.frz od (.dK (dV ch))) := sm _ _ upd_same
    have hp' : H' p = some (.lst [.ref b, .ref d]) := sm _ _ (by rw [upd_ne pd]; exact hp)
    have neL : upd H d (.frz od (.dK (dV ch))) e = none := by rw [upd_ne ed]; exact ne
    have hin : inC ch k = true := inC_iff.mpr (by rw [hl]; simp)
    obtain ⟨y, hy⟩ := Option.isSome_iff_exists.mp hin
    have hg2 : valV (dV ch) (Sum.inl k) = some (.int y) := by rw [valV_dV, hy] <;> rfl
    refine ⟨_, rfl, _, _, rfl, rfl, _, rfl, ?_⟩
    by_cases g0 : 0 ≤ k
    · refine ifT (decide_eq_true g0) ⟨_, rfl, _, _, rfl, rfl, _, rfl, ?_⟩
      by_cases g1 : k < (n : Int)
      · refine ifT (decide_eq_true g1) ?_
        obtain ⟨g, rfl⟩ := Int.eq_ofNat_of_zero_le g0
        refine ⟨_, rfl, p, _, _, _, rfl, rfl, SqL.of hp', atI_nat (j := 1) rfl, _, rfl, d, .int y, rfl, .inl ⟨_, Sum.inl (g : Int), .inr ⟨_, hdk⟩, rfl, hg2.symm⟩, _, rfl, _, rfl, e, _, rfl, DPut.k (k := Sum.inl (g : Int)) he ?_, ?_⟩
        · unfold dV
          rw [List.length_map]
          have := keys_len nk' rg
          exact szl (by omega)
        · exact ⟨_, put ch' (g : Int) y, rfl, same_mut sm neL, by rw [upd_same, put_dV], put_nodup nk', put_rng rg (by omega)⟩
      · exact ifF (decide_eq_false g1) ⟨_, ch', rfl, sm, he, nk', rg⟩
    · exact ifF (decide_eq_false g0) ⟨_, rfl, ifF rfl ⟨_, ch', rfl, sm, he, nk', rg⟩⟩
  · rintro σ H' ⟨u, ch', rfl, sm, he, nk', rg⟩
    refine ⟨sm _ _ upd_same, ?_⟩
    have s5 := same_unlock hd sm
    have he5 : upd H' d (.dK (dV ch)) e = some (.dK (dV ch')) := by rw [upd_ne ed]; exact he
    have kl := keys_len nk' rg
    refine ⟨_, rfl, p, _, _, _, rfl, rfl, SqL.of (s5 _ _ hp), atI_nat (j := 0) rfl, sz (by show 1 ≤ 100000; decide), fun m nm => ?_⟩
    have s6 := s5.trans (same_new (o := .tup [.int 0]) nm)
    have he6 := same_new (o := .tup [.int 0]) nm _ _ he5
    have slice : ∀ (R : V → Hp → Prop), (∀ (y : Addr) (rs' : List Int) (H3 : Hp), Same H H3 → H3 y = some (.tup (rs'.map V.int)) → rs'.length = n → H3 e = some (.dK (dV ch')) → R (.ref y) H3) →
        ∀ (x : Addr) (H7 : Hp), Same (upd (upd H' d (.dK (dV ch))) m (.tup [.int 0])) H7 → H7 x = some (.tup ((rs ++ [0]).map V.int)) → rSlA K (.ref x) none (some (n : Int)) H7 R := fun R kk x H7 s7 hx => by
      refine ⟨x, _, rfl, SqT.of hx, fun hh => ?_, fun hh y ny => ?_⟩
      · refine kk x _ _ (s6.trans s7) hx ?_ (s7 _ _ he6)
        have := hh.2
        rw [HT.sIx_nat, List.length_map, List.length_append, List.length_singleton] at this
        rw [List.length_append, List.length_singleton]
        omega
      · have s8 := same_new (o := .tup (cutV ((rs ++ [0]).map V.int) none (some (n : Int)))) ny
        refine kk y ((rs ++ [0]).take n) _ ((s6.trans s7).trans s8) ?_ ?_ (s8 _ _ (s7 _ _ he6))
        · rw [upd_same]
          unfold cutV
          rw [HT.sIx_none, HT.sIx_nat, List.drop_zero, Nat.sub_zero, List.length_map, List.map_take, List.length_append, List.length_singleton]
          rw [Nat.min_eq_left l1]
        · rw [List.length_take, List.length_append, List.length_singleton]
          omega
    have fin : ∀ (y : Addr) (rs' : List Int) (H3 : Hp), Same H H3 → H3 y = some (.tup (rs'.map V.int)) → rs'.length = n → H3 e = some (.dK (dV ch')) → ∀ z, H3 z = none → Q (.ref z) (upd H3 z (.lst [.ref y, .ref e])) := fun y rs' H3 s hy l he z nz => by
      have s8 := same_new (o := .lst [.ref y, .ref e]) nz
      exact q z y e rs' ch' _ (s.trans s8) ⟨upd_same, s8 _ _ hy, s8 _ _ he, nk', by omega⟩ l rg
    refine ⟨b, m, _, _, rfl, rfl, SqT.of (s6 _ _ hb), SqT.of upd_same, sz (by rw [List.length_map, List.length_singleton]; omega), fun e0 => ?_, fun _ e => (by cases e), fun _ _ x nx => ?_⟩
    · have r0 : rs = [] := List.map_eq_nil_iff.mp e0
      refine ⟨_, rfl, _, rfl, slice _ (fun y rs' H3 a1 a2 a3 a4 => ?_) m _ (Same.refl _) (by rw [upd_same, r0] <;> rfl)⟩
      exact ⟨_, rfl, sz (by show 2 ≤ 100000; decide), fin y rs' H3 a1 a2 a3 a4⟩
    · refine ⟨_, rfl, _, rfl, slice _ (fun y rs' H3 a1 a2 a3 a4 => ?_) x _ (same_new nx) (by rw [upd_same, List.map_append] <;> rfl)⟩
      exact ⟨_, rfl, sz (by show 2 ≤ 100000; decide), fin y rs' H3 a1 a2 a3 a4⟩
end
end K56
namespace K56
open PySem PySem.Spec PyProof.Rows L2
local macro_rules | `(tactic| walk_at "len") => `(tactic| (intro vs H Q E h; repeat' (first | (rcases h with ⟨e, _⟩; exact congrArg List.length e) | (rcases h with ⟨_, h⟩))))
abbrev s_l_ask : Stmt := top 72
abbrev N_l_ask : List Str := ["_law_which", "_law_forest", "_law_base", "_law_changes_here", "_law_found", "e"]
abbrev P_l_ask : List Str := ["_law_which", "_law_forest", "_law_base", "_law_changes_here"]
theorem sc_l_ask : FnScope N_l_ask P_l_ask (defScope s_l_ask) := ⟨rfl, rfl, rfl, by decide +kernel, rfl, by decide +kernel, by decide +kernel⟩
/-- the addresses of the other classes -/
structure Bd where
  cFE : Addr
  cMk : Addr
  cBF : Addr
  cBA : Addr
  cBL : Addr
  cBT : Addr
  cFD : Addr
  cHO : Addr
  cNR : Addr
  cOv : Addr
structure TxtA (K : PySem.W.Frag) (A : Ad) (B : Bd) (mg : Str → Option Value) : Prop where
  c_FieldridesError : mg "FieldridesError" = some (.ref B.cFE)
  c_Marked : mg "Marked" = some (.ref B.cMk)
  c_BadForest : mg "BadForest" = some (.ref B.cBF)
  c_BadAnswer : mg "BadAnswer" = some (.ref B.cBA)
  c_BadLetter : mg "BadLetter" = some (.ref B.cBL)
  c_BadTree : mg "BadTree" = some (.ref B.cBT)
  c_FieldsDiffer : mg "FieldsDiffer" = some (.ref B.cFD)
  c_HangsOn : mg "HangsOn" = some (.ref B.cHO)
  c_NoRecord : mg "NoRecord" = some (.ref B.cNR)
  c_Overlap : mg "Overlap" = some (.ref B.cOv)
  ex : ∀ C ∈ [A.cNF, A.cBR, A.cBP, A.cCL], PySem.W.exmOne K (.ref C) (.ref B.cFE) = some true
  kVE : ∀ C ∈ [A.cNF, A.cBR, A.cBP, A.cCL], PySem.W.kitOne K (.ref C) (.type "ValueError") = some true
  kMk : ∀ C ∈ [A.cNF, A.cBR, A.cBP, A.cCL], PySem.W.kitOne K (.ref C) (.ref B.cMk) = some false
  kBF : ∀ C ∈ [A.cNF, A.cBR, A.cBP, A.cCL], PySem.W.kitOne K (.ref C) (.ref B.cBF) = some false
  kAny : ∀ C ∈ [A.cNF, A.cBR, A.cBP, A.cCL], PySem.W.kitAny K (.ref C) [.ref B.cBA, .ref B.cBL, .ref B.cBT, .ref B.cFD, .ref B.cHO, .ref B.cNR, .ref B.cOv] = some false
  kNF : PySem.W.kitOne K (.ref A.cNF) (.ref A.cNF) = some true ∧ PySem.W.kitOne K (.ref A.cBR) (.ref A.cNF) = some false ∧ PySem.W.kitOne K (.ref A.cBP) (.ref A.cNF) = some false ∧ PySem.W.kitOne K (.ref A.cCL) (.ref A.cNF) = some false
  kBR : PySem.W.kitOne K (.ref A.cNF) (.ref A.cBR) = some false ∧ PySem.W.kitOne K (.ref A.cBR) (.ref A.cBR) = some true ∧ PySem.W.kitOne K (.ref A.cBP) (.ref A.cBR) = some false ∧ PySem.W.kitOne K (.ref A.cCL) (.ref A.cBR) = some false
  kBP : PySem.W.kitOne K (.ref A.cNF) (.ref A.cBP) = some false ∧ PySem.W.kitOne K (.ref A.cBR) (.ref A.cBP) = some false ∧ PySem.W.kitOne K (.ref A.cBP) (.ref A.cBP) = some true ∧ PySem.W.kitOne K (.ref A.cCL) (.ref A.cBP) = some false
  kCL : PySem.W.kitOne K (.ref A.cNF) (.ref A.cCL) = some false ∧ PySem.W.kitOne K (.ref A.cBR) (.ref A.cCL) = some false ∧ PySem.W.kitOne K (.ref A.cBP) (.ref A.cCL) = some false ∧ PySem.W.kitOne K (.ref A.cCL) (.ref A.cCL) = some true
def tAp (K : PySem.W.Frag) (nm : Str) (te : TE) : TS := tDrop (tBM K "list" rAppend (tVar 4) (tCons (tTup (tCons (tC (.str nm)) (tCons te tNil))) tNil))
def tI (P : Program) (K : PySem.W.Frag) (mg : Str → Option Value) (a : Addr) (cls : Value) (d : Option Addr) (c : V) : TT := tB (tCB (rIsX P K mg a cls d) (tCons (tVar 5) (tCons (tC c) tNil)))
def t_sui (P : Program) (K : PySem.W.Frag) (mg : Str → Option Value) (A : Ad) (B : Bd) : Addr → Value → Option Addr → TS := fun a cls d =>
  tSeq (tIfS (tOr (tNot (tI P K mg a cls d (.ty "ValueError"))) (tOr (tI P K mg a cls d (.ref B.cMk)) (tI P K mg a cls d (.ref B.cBF)))) (tAp K "another class" (tC (.int 0))) tNext)
  (tSeq (tIfS (tB (tCB (rIsXT P K mg a cls d) (tCons (tVar 5) (tCons (tTup (tCons (tC (.ref B.cBA)) (tCons (tC (.ref B.cBL)) (tCons (tC (.ref B.cBT)) (tCons (tC (.ref B.cFD)) (tCons (tC (.ref B.cHO)) (tCons (tC (.ref B.cNR)) (tCons (tC (.ref B.cOv)) tNil)))))))) tNil)))) (tAp K "another class" (tC (.int 0))) tNext)
  (tSeq (tIfS (tI P K mg a cls d (.ref A.cNF)) (tAp K "NotFair" (tErrF P K mg a cls d "field" (tVar 5))) tNext)
  (tSeq (tIfS (tI P K mg a cls d (.ref A.cBR)) (tAp K "BadRecord" (tErrF P K mg a cls d "record" (tVar 5))) tNext)
  (tSeq (tIfS (tI P K mg a cls d (.ref A.cBP)) (tAp K "BadPlace" (tErrF P K mg a cls d "place" (tVar 5))) tNext)
  (tIfS (tI P K mg a cls d (.ref A.cCL)) (tAp K "CannotLand" (tErrF P K mg a cls d "field" (tVar 5))) tNext)))))
/-- a refusal told -/
def Told (H : Hp) (p : Addr) (nm : Str) (v : V) : Prop := ∃ t, H p = some (.tup [.ref t]) ∧ H t = some (.tup [.str nm, v])
def sp_l_ask (w : World) (K : PySem.W.Frag) (Z : Ad) : Sp := fun vs H Q _ => ∃ (i : Nat) (f r d : Addr) (ps : Par) (ks : List Kd) (rs : List Int) (ch : Chg), vs = [nV i, .ref f, .ref r, .ref d] ∧ FoAt Z H f ps ks ∧ H r = some (.tup (rs.map V.int)) ∧ H d = some (.dK (dV ch)) ∧ WF ps ∧ ps.length ≤ 16 ∧
  (∀ k, unfair ks = some k → ∀ p H', Same H H' → Told H' p "NotFair" (nV k) → Q (.ref p) H') ∧ (unfair ks = none → rs.length ≠ ps.length → ∀ p H', Same H H' → Told H' p "BadRecord" (.ref r) → Q (.ref p) H') ∧
  (unfair ks = none → rs.length = ps.length → ∀ k, LBad ps.length ch k → ∀ p H', Same H H' → Told H' p "BadPlace" (.int k) → Q (.ref p) H') ∧
  (unfair ks = none → rs.length = ps.length → (∀ k : Int, k ∈ ch.map (·.1) → 0 ≤ k ∧ k < (ps.length : Int)) → (∀ k, cannot ps ks rs ch = some k → ∀ p H', Same H H' → Told H' p "CannotLand" (nV k) → Q (.ref p) H') ∧
    (cannot ps ks rs ch = none → ∀ p x H', Same H H' → H p = none → H' p = some (.lst [.ref x]) → H' x = some (.tup ((if i = 0 then near ps ks rs ch else few ps ks rs ch).map nV)) → Q (.ref p) H'))
section
variable {P : Program} {w : World} {K : PySem.W.Frag} {mg : Str → Option Value} {base : Heap} {Z : Ad}
/-- the suite, at an error of one of the four classes -/
theorem sui_run {B : Bd} (TA : TxtA K Z B mg) {a L dd : Addr} {D : Ends} {H : Hp} {s0 s1 s2 s3 : Option V} {x f : Str} {C : Addr} {v : V} {nm : Str} (E : ErrC P K mg x f C) (hC : C ∈ [Z.cNF, Z.cBR, Z.cBP, Z.cCL]) (hd : H dd = some (.xd [(f, v)])) (hL : H L = some (.lst []))
    (hk : (C = Z.cNF ∧ f = "field" ∧ nm = "NotFair") ∨ (C = Z.cBR ∧ f = "record" ∧ nm = "BadRecord") ∨ (C = Z.cBP ∧ f = "place" ∧ nm = "BadPlace") ∨ (C = Z.cCL ∧ f = "field" ∧ nm = "CannotLand"))
    (next : ∀ H2 t, (∀ b o, b ≠ L → H b = some o → H2 b = some o) → H2 L = some (.lst [.ref t]) → H2 t = some (.tup [.str nm, v]) → D.nx [s0, s1, s2, s3, some (.ref L), some (.ref a)] H2) :
    t_sui P K mg Z B a (.ref C) (some dd) D [s0, s1, s2, s3, some (.ref L), some (.ref a)] H := by
  refine ⟨_, rfl, _, _, _, _, _, _, _, true, rfl, E, rfl, hd, rfl, fun u r => r, (TA.kVE C hC), _, rfl, (ifF rfl ?_)⟩
  refine ⟨_, rfl, _, _, _, _, _, _, _, false, rfl, E, rfl, hd, rfl, fun u r => r, (TA.kMk C hC), _, rfl, (ifF rfl ?_)⟩
  refine ⟨_, rfl, _, _, _, _, _, _, _, false, rfl, E, rfl, hd, rfl, fun u r => r, (TA.kBF C hC), _, rfl, (ifF rfl ?_)⟩
  refine ⟨_, rfl, sz (by show 7 ≤ 100000; decide), fun tp ntp => ?_⟩
  have s1' := same_new (o := .tup [.ref B.cBA, .ref B.cBL, .ref B.cBT, .ref B.cFD, .ref B.cHO, .ref B.cNR, .ref B.cOv]) ntp
  have hd1 := s1' _ _ hd
  have hL1 := s1' _ _ hL
  refine ⟨x, f, C, dd, v, tp, _, _, false, rfl, E, rfl, hd1, rfl, upd_same, .cons (.own _) (.cons (.own _) (.cons (.own _) (.cons (.own _) (.cons (.own _) (.cons (.own _) (.cons (.own _) .nil)))))), TA.kAny C hC, _, rfl, ifF rfl ?_⟩
  generalize upd H tp (.tup [.ref B.cBA, .ref B.cBL, .ref B.cBT, .ref B.cFD, .ref B.cHO, .ref B.cNR, .ref B.cOv]) = H1 at s1' hd1 hL1
  have fin : ∀ t, H1 t = none → (∀ b o, b ≠ L → H b = some o → upd (upd H1 t (.tup [.str nm, v])) L (.lst [.ref t]) b = some o) ∧ upd (upd H1 t (.tup [.str nm, v])) L (.lst [.ref t]) L = some (.lst [.ref t]) ∧ upd (upd H1 t (.tup [.str nm, v])) L (.lst [.ref t]) t = some (.tup [.str nm, v]) ∧ upd (upd H1 t (.tup [.str nm, v])) L (.lst [.ref t]) dd = some (.xd [(f, v)]) := fun t nt => by
    have tL : t ≠ L := (ne_of_none hL1 nt).symm
    refine ⟨fun b o nb e => ?_, upd_same, by rw [upd_ne tL, upd_same], ?_⟩
    · rw [upd_ne nb]
      exact same_new nt _ _ (s1' _ _ e)
    · rw [upd_ne (ne_of hd1 hL1 (by intro z; cases z))]
      exact same_new nt _ _ hd1
  rcases hk with ⟨rfl, rfl, rfl⟩ | ⟨rfl, rfl, rfl⟩ | ⟨rfl, rfl, rfl⟩ | ⟨rfl, rfl, rfl⟩
  · refine ⟨_, rfl, _, _, _, _, _, _, _, true, rfl, E, rfl, hd1, rfl, fun u r => r, TA.kNF.1, _, rfl, (ifT rfl ?_)⟩
    refine ⟨_, rfl, .inl ⟨rfl, _, SqL.of hL1⟩, _, rfl, rfl, x, _, dd, v, rfl, E, rfl, hd1, sz (by show 2 ≤ 100000; decide), fun t nt => ?_⟩
    obtain ⟨k1, k2, k3, k4⟩ := fin t nt
    refine ⟨L, _, _, rfl, rfl, same_new nt _ _ hL1, by show 0 < sizeLine; decide, ?_⟩
    refine ⟨_, rfl, _, _, _, _, _, _, _, false, rfl, E, rfl, k4, rfl, fun u r => r, TA.kBR.1, _, rfl, (ifF rfl ?_)⟩
    refine ⟨_, rfl, _, _, _, _, _, _, _, false, rfl, E, rfl, k4, rfl, fun u r => r, TA.kBP.1, _, rfl, (ifF rfl ?_)⟩
    refine ⟨_, rfl, _, _, _, _, _, _, _, false, rfl, E, rfl, k4, rfl, fun u r => r, TA.kCL.1, _, rfl, (ifF rfl ?_)⟩
    exact next _ t k1 k2 k3
  · refine ⟨_, rfl, _, _, _, _, _, _, _, false, rfl, E, rfl, hd1, rfl, fun u r => r, TA.kNF.2.1, _, rfl, (ifF rfl ?_)⟩
    refine ⟨_, rfl, _, _, _, _, _, _, _, true, rfl, E, rfl, hd1, rfl, fun u r => r, TA.kBR.2.1, _, rfl, (ifT rfl ?_)⟩
    refine ⟨_, rfl, .inl ⟨rfl, _, SqL.of hL1⟩, _, rfl, rfl, x, _, dd, v, rfl, E, rfl, hd1, sz (by show 2 ≤ 100000; decide), fun t nt => ?_⟩
    obtain ⟨k1, k2, k3, k4⟩ := fin t nt
    refine ⟨L, _, _, rfl, rfl, same_new nt _ _ hL1, by show 0 < sizeLine; decide, ?_⟩
    refine ⟨_, rfl, _, _, _, _, _, _, _, false, rfl, E, rfl, k4, rfl, fun u r => r, TA.kBP.2.1, _, rfl, (ifF rfl ?_)⟩
    refine ⟨_, rfl, _, _, _, _, _, _, _, false, rfl, E, rfl, k4, rfl, fun u r => r, TA.kCL.2.1, _, rfl, (ifF rfl ?_)⟩
    exact next _ t k1 k2 k3
  · refine ⟨_, rfl, _, _, _, _, _, _, _, false, rfl, E, rfl, hd1, rfl, fun u r => r, TA.kNF.2.2.1, _, rfl, (ifF rfl ?_)⟩
    refine ⟨_, rfl, _, _, _, _, _, _, _, false, rfl, E, rfl, hd1, rfl, fun u r => r, TA.kBR.2.2.1, _, rfl, (ifF rfl ?_)⟩
    refine ⟨_, rfl, _, _, _, _, _, _, _, true, rfl, E, rfl, hd1, rfl, fun u r => r, TA.kBP.2.2.1, _, rfl, (ifT rfl ?_)⟩
    refine ⟨_, rfl, .inl ⟨rfl, _, SqL.of hL1⟩, _, rfl, rfl, x, _, dd, v, rfl, E, rfl, hd1, sz (by show 2 ≤ 100000; decide), fun t nt => ?_⟩
    obtain ⟨k1, k2, k3, k4⟩ := fin t nt
    refine ⟨L, _, _, rfl, rfl, same_new nt _ _ hL1, by show 0 < sizeLine; decide, ?_⟩
    refine ⟨_, rfl, _, _, _, _, _, _, _, false, rfl, E, rfl, k4, rfl, fun u r => r, TA.kCL.2.2.1, _, rfl, (ifF rfl ?_)⟩
    exact next _ t k1 k2 k3
  · refine ⟨_, rfl, _, _, _, _, _, _, _, false, rfl, E, rfl, hd1, rfl, fun u r => r, TA.kNF.2.2.2, _, rfl, (ifF rfl ?_)⟩
    refine ⟨_, rfl, _, _, _, _, _, _, _, false, rfl, E, rfl, hd1, rfl, fun u r => r, TA.kBR.2.2.2, _, rfl, (ifF rfl ?_)⟩
    refine ⟨_, rfl, _, _, _, _, _, _, _, false, rfl, E, rfl, hd1, rfl, fun u r => r, TA.kBP.2.2.2, _, rfl, (ifF rfl ?_)⟩
    refine ⟨_, rfl, _, _, _, _, _, _, _, true, rfl, E, rfl, hd1, rfl, fun u r => r, TA.kCL.2.2.2, _, rfl, (ifT rfl ?_)⟩
    refine ⟨_, rfl, .inl ⟨rfl, _, SqL.of hL1⟩, _, rfl, rfl, x, _, dd, v, rfl, E, rfl, hd1, sz (by show 2 ≤ 100000; decide), fun t nt => ?_⟩
    obtain ⟨k1, k2, k3, k4⟩ := fin t nt
    refine ⟨L, _, _, rfl, rfl, same_new nt _ _ hL1, by show 0 < sizeLine; decide, ?_⟩
    exact next _ t k1 k2 k3
theorem ok_l_ask (T : Txt P K Z mg) {B : Bd} (TA : TxtA K Z B mg) (F : At K mg "_law_ask" s_l_ask) (G_fewest_raises : Cal P w K mg base (L2.CX P w) 5 "fewest_raises" P_fewest_raises (sp_fewest_raises w K Z)) (G_nearest_raises : Cal P w K mg base (L2.CX P w) 5 "nearest_raises" P_nearest_raises (sp_nearest_raises w K Z)) : Cal P w K mg base CX0 6 "_law_ask" P_l_ask (sp_l_ask w K Z) := by
  refine F.cal0 sc_l_ask (fun _ _ _ _ _ _ us hl => match us, hl with | [_, _, _, _], _ => rfl) (by walk_at "len") (fun f cdv Ar outer s H vs Q E hr h => ?_)
  obtain ⟨i, fo, r, d, ps, ks, rs, ch, rfl, hfo, hr', hd, wf, hz, q1, q2, q3, q4⟩ := h
  obtain ⟨f_nearest_raises, fd_nearest_raises, g_nearest_raises, kp_nearest_raises, b_nearest_raises, F_nearest_raises⟩ := G_nearest_raises.ex
  obtain ⟨f_fewest_raises, fd_fewest_raises, g_fewest_raises, kp_fewest_raises, b_fewest_raises, F_fewest_raises⟩ := G_fewest_raises.ex
  refine ⟨_, (pss_cons (ps_set (i := 4) sc_l_ask.nd rfl (Or.inl rfl) (pe_lst pa_nil))
      (pss_cons (ps_try_as (i := 5) (ts := t_sui P K mg Z B) (Wout := fun _ _ _ _ => False) rfl rfl sc_l_ask.nd rfl rfl ⟨rfl, by decide, .inl TA.c_FieldridesError⟩ takes0
      (fun W pn xe tk _ => by exact (pss_cons (ps_if (pt_cmpR op_eq (pv 0) pe_int (nomark _))
      (pss_one (ps_ret (pe_lst (pa_cons (pe_callS F_nearest_raises (hr.mono (by decide)) (by rfl) g_nearest_raises kp_nearest_raises b_nearest_raises (fun σ => passAt tk σ) (pa_cons (pv 1) (pa_cons (pv 2) (pa_cons (pv 3) pa_nil)))) pa_nil)))) pss_nil)
      (pss_one (ps_ret (pe_lst (pa_cons (pe_callS F_fewest_raises (hr.mono (by decide)) (by rfl) g_fewest_raises kp_fewest_raises b_fewest_raises (fun σ => passAt tk σ) (pa_cons (pv 1) (pa_cons (pv 2) (pa_cons (pv 3) pa_nil)))) pa_nil))))))
      (fun a oe cls d pn hz hf => by exact (pss_cons (ps_if (PW.pt (pw_or (pt_not (pt_val (pe_callB (call_isX hz hf) (by rfl) T.n_isinstance (by first | exact PySem.boot_isinstance | decide +kernel) (pa_cons (pv 5) (pa_cons (pe_bltn (v := .ty "ValueError") (by rfl) T.n_ValueError (by decide +kernel) rfl) pa_nil))))) (pw_or (pt_val (pe_callB (call_isX hz hf) (by rfl) T.n_isinstance (by first | exact PySem.boot_isinstance | decide +kernel) (pa_cons (pv 5) (pa_cons (pe_glob (by rfl) TA.c_Marked rfl) pa_nil)))) (pw_or1 (pt_val (pe_callB (call_isX hz hf) (by rfl) T.n_isinstance (by first | exact PySem.boot_isinstance | decide +kernel) (pa_cons (pv 5) (pa_cons (pe_glob (by rfl) TA.c_BadForest rfl) pa_nil))))))))
      (pss_one (ps_expr (pe_bm PySem.F.plainAttrs_list PySem.F.slot_list_append PySem.F.type_list_append mt_append (pv 4) (pa_cons (pe_tup (pa_cons pe_str (pa_cons pe_int pa_nil))) pa_nil)))) pss_nil)
      (pss_cons (ps_if (pt_val (pe_callB (call_isXT hz hf) (by rfl) T.n_isinstance (by first | exact PySem.boot_isinstance | decide +kernel) (pa_cons (pv 5) (pa_cons (pe_tup (pa_cons (pe_glob (by rfl) TA.c_BadAnswer rfl) (pa_cons (pe_glob (by rfl) TA.c_BadLetter rfl) (pa_cons (pe_glob (by rfl) TA.c_BadTree rfl) (pa_cons (pe_glob (by rfl) TA.c_FieldsDiffer rfl) (pa_cons (pe_glob (by rfl) TA.c_HangsOn rfl) (pa_cons (pe_glob (by rfl) TA.c_NoRecord rfl) (pa_cons (pe_glob (by rfl) TA.c_Overlap rfl) pa_nil)))))))) pa_nil))))
      (pss_one (ps_expr (pe_bm PySem.F.plainAttrs_list PySem.F.slot_list_append PySem.F.type_list_append mt_append (pv 4) (pa_cons (pe_tup (pa_cons pe_str (pa_cons pe_int pa_nil))) pa_nil)))) pss_nil)
      (pss_cons (ps_if (pt_val (pe_callB (call_isX hz hf) (by rfl) T.n_isinstance (by first | exact PySem.boot_isinstance | decide +kernel) (pa_cons (pv 5) (pa_cons (pe_glob (by rfl) T.x_NotFair.gC rfl) pa_nil))))
      (pss_one (ps_expr (pe_bm PySem.F.plainAttrs_list PySem.F.slot_list_append PySem.F.type_list_append mt_append (pv 4) (pa_cons (pe_tup (pa_cons pe_str (pa_cons (pe_errF hz hf (pv 5)) pa_nil))) pa_nil)))) pss_nil)
      (pss_cons (ps_if (pt_val (pe_callB (call_isX hz hf) (by rfl) T.n_isinstance (by first | exact PySem.boot_isinstance | decide +kernel) (pa_cons (pv 5) (pa_cons (pe_glob (by rfl) T.x_BadRecord.gC rfl) pa_nil))))
      (pss_one (ps_expr (pe_bm PySem.F.plainAttrs_list PySem.F.slot_list_append PySem.F.type_list_append mt_append (pv 4) (pa_cons (pe_tup (pa_cons pe_str (pa_cons (pe_errF hz hf (pv 5)) pa_nil))) pa_nil)))) pss_nil)
      (pss_cons (ps_if (pt_val (pe_callB (call_isX hz hf) (by rfl) T.n_isinstance (by first | exact PySem.boot_isinstance | decide +kernel) (pa_cons (pv 5) (pa_cons (pe_glob (by rfl) T.x_BadPlace.gC rfl) pa_nil))))
      (pss_one (ps_expr (pe_bm PySem.F.plainAttrs_list PySem.F.slot_list_append PySem.F.type_list_append mt_append (pv 4) (pa_cons (pe_tup (pa_cons pe_str (pa_cons (pe_errF hz hf (pv 5)) pa_nil))) pa_nil)))) pss_nil)
      (pss_one (ps_if (pt_val (pe_callB (call_isX hz hf) (by rfl) T.n_isinstance (by first | exact PySem.boot_isinstance | decide +kernel) (pa_cons (pv 5) (pa_cons (pe_glob (by rfl) T.x_CannotLand.gC rfl) pa_nil))))
      (pss_one (ps_expr (pe_bm PySem.F.plainAttrs_list PySem.F.slot_list_append PySem.F.type_list_append mt_append (pv 4) (pa_cons (pe_tup (pa_cons pe_str (pa_cons (pe_errF hz hf (pv 5)) pa_nil))) pa_nil)))) pss_nil)))))))))
      (pss_one (ps_ret (pe_callTy call_tuple_of (by rfl) T.n_tuple (by first | exact boot_tuple | decide +kernel) (pa_cons (pv 4) pa_nil)))))), ?_⟩
  refine ⟨Nat.zero_le _, fun L nL => ?_⟩
  have s0 := same_new (o := .lst []) nL
  refine ⟨_, rfl, rfl, _, rfl, ?_⟩
  have fin : ∀ {H1 H2 : Hp} {t : Addr} {nm : Str} {v : V}, Same (upd H L (.lst [])) H1 → (∀ b o, b ≠ L → H1 b = some o → H2 b = some o) → H2 t = some (.tup [.str nm, v]) → ∀ p, H2 p = none → Same H (upd H2 p (.tup [.ref t])) ∧ Told (upd H2 p (.tup [.ref t])) p nm v := fun {H1 H2 t nm v} s1 kp ht p np => by
    refine ⟨fun b o e => ?_, t, upd_same, same_new np _ _ ht⟩
    exact same_new np _ _ (kp b o (ne_of_none e nL) (s1 _ _ (s0 _ _ e)))
  by_cases g0 : i = 0
  · refine ifT (decide_eq_true (by rw [g0]; rfl)) ?_
    refine ⟨_, rfl, _, rfl, _, rfl, fo, r, d, ps, ks, rs, ch, rfl, hfo.same s0, s0 _ _ hr', s0 _ _ hd, wf, hz, fun k e dd H1 s1 nd hdd => ?_, fun e1 e2 dd H1 s1 nd hdd => ?_, fun e1 e2 k e3 dd H1 s1 nd hdd => ?_, fun e1 e2 e3 => ⟨fun k e4 dd H1 s1 nd hdd => ?_, fun e4 p H1 s1 np hp => ?_⟩⟩
    · refine ⟨true, TA.ex _ (by simp), fun _ a _ => ?_, fun z => nomatch z⟩
      refine sui_run TA T.x_NotFair (by simp) hdd (s1 _ _ upd_same) (.inl ⟨rfl, rfl, rfl⟩) fun H2 t kp hL2 ht2 => ?_
      refine ⟨_, rfl, L, _, rfl, .inl ⟨SqL.of hL2, fun p np => ?_⟩⟩
      obtain ⟨k1, k2⟩ := fin s1 kp ht2 p np
      exact q1 k e p _ k1 k2
    · refine ⟨true, TA.ex _ (by simp), fun _ a _ => ?_, fun z => nomatch z⟩
      refine sui_run TA T.x_BadRecord (by simp) hdd (s1 _ _ upd_same) (.inr (.inl ⟨rfl, rfl, rfl⟩)) fun H2 t kp hL2 ht2 => ?_
      refine ⟨_, rfl, L, _, rfl, .inl ⟨SqL.of hL2, fun p np => ?_⟩⟩
      obtain ⟨k1, k2⟩ := fin s1 kp ht2 p np
      exact q2 e1 e2 p _ k1 k2
    · refine ⟨true, TA.ex _ (by simp), fun _ a _ => ?_, fun z => nomatch z⟩
      refine sui_run TA T.x_BadPlace (by simp) hdd (s1 _ _ upd_same) (.inr (.inr (.inl ⟨rfl, rfl, rfl⟩))) fun H2 t kp hL2 ht2 => ?_
      refine ⟨_, rfl, L, _, rfl, .inl ⟨SqL.of hL2, fun p np => ?_⟩⟩
      obtain ⟨k1, k2⟩ := fin s1 kp ht2 p np
      exact q3 e1 e2 k e3 p _ k1 k2
    · refine ⟨true, TA.ex _ (by simp), fun _ a _ => ?_, fun z => nomatch z⟩
      refine sui_run TA T.x_CannotLand (by simp) hdd (s1 _ _ upd_same) (.inr (.inr (.inr ⟨rfl, rfl, rfl⟩))) fun H2 t kp hL2 ht2 => ?_
      refine ⟨_, rfl, L, _, rfl, .inl ⟨SqL.of hL2, fun p np => ?_⟩⟩
      obtain ⟨k1, k2⟩ := fin s1 kp ht2 p np
      exact (q4 e1 e2 e3).1 k e4 p _ k1 k2
    · refine ⟨sz (by show 1 ≤ 100000; decide), fun x nx => ?_⟩
      refine (q4 e1 e2 e3).2 e4 x p _ ((s0.trans s1).trans (same_new nx)) ((s0.trans s1).free nx) upd_same (same_new nx _ _ ?_)
      rw [if_pos g0]
      exact hp
  · refine ifF (decide_eq_false (by intro z; have := V.int.inj z; omega)) ?_
    refine ⟨_, rfl, _, rfl, _, rfl, fo, r, d, ps, ks, rs, ch, rfl, hfo.same s0, s0 _ _ hr', s0 _ _ hd, wf, hz, fun k e dd H1 s1 nd hdd => ?_, fun e1 e2 dd H1 s1 nd hdd => ?_, fun e1 e2 k e3 dd H1 s1 nd hdd => ?_, fun e1 e2 e3 => ⟨fun k e4 dd H1 s1 nd hdd => ?_, fun e4 p H1 s1 np hp => ?_⟩⟩
    · refine ⟨true, TA.ex _ (by simp), fun _ a _ => ?_, fun z => nomatch z⟩
      refine sui_run TA T.x_NotFair (by simp) hdd (s1 _ _ upd_same) (.inl ⟨rfl, rfl, rfl⟩) fun H2 t kp hL2 ht2 => ?_
      refine ⟨_, rfl, L, _, rfl, .inl ⟨SqL.of hL2, fun p np => ?_⟩⟩
      obtain ⟨k1, k2⟩ := fin s1 kp ht2 p np
      exact q1 k e p _ k1 k2
    · refine ⟨true, TA.ex _ (by simp), fun _ a _ => ?_, fun z => nomatch z⟩
      refine sui_run TA T.x_BadRecord (by simp) hdd (s1 _ _ upd_same) (.inr (.inl ⟨rfl, rfl, rfl⟩)) fun H2 t kp hL2 ht2 => ?_
      refine ⟨_, rfl, L, _, rfl, .inl ⟨SqL.of hL2, fun p np => ?_⟩⟩
      obtain ⟨k1, k2⟩ := fin s1 kp ht2 p np
      exact q2 e1 e2 p _ k1 k2
    · refine ⟨true, TA.ex _ (by simp), fun _ a _ => ?_, fun z => nomatch z⟩
      refine sui_run TA T.x_BadPlace (by simp) hdd (s1 _ _ upd_same) (.inr (.inr (.inl ⟨rfl, rfl, rfl⟩))) fun H2 t kp hL2 ht2 => ?_
      refine ⟨_, rfl, L, _, rfl, .inl ⟨SqL.of hL2, fun p np => ?_⟩⟩
      obtain ⟨k1, k2⟩ := fin s1 kp ht2 p np
      exact q3 e1 e2 k e3 p _ k1 k2
    · refine ⟨true, TA.ex _ (by simp), fun _ a _ => ?_, fun z => nomatch z⟩
      refine sui_run TA T.x_CannotLand (by simp) hdd (s1 _ _ upd_same) (.inr (.inr (.inr ⟨rfl, rfl, rfl⟩))) fun H2 t kp hL2 ht2 => ?_
      refine ⟨_, rfl, L, _, rfl, .inl ⟨SqL.of hL2, fun p np => ?_⟩⟩
      obtain ⟨k1, k2⟩ := fin s1 kp ht2 p np
      exact (q4 e1 e2 e3).1 k e4 p _ k1 k2
    · refine ⟨sz (by show 1 ≤ 100000; decide), fun x nx => ?_⟩
      refine (q4 e1 e2 e3).2 e4 x p _ ((s0.trans s1).trans (same_new nx)) ((s0.trans s1).free nx) upd_same (same_new nx _ _ ?_)
      rw [if_neg g0]
      exact hp
end
end K56
namespace K56
open PySem PySem.Spec PyProof.Rows L2
local macro_rules | `(tactic| walk_at "len") => `(tactic| (intro vs H Q E h; repeat' (first | (rcases h with ⟨e, _⟩; exact congrArg List.length e) | (rcases h with ⟨_, h⟩))))
abbrev s_l_holds : Stmt := top 81
abbrev N_l_holds : List Str := ["_law_forest", "_law_parents_here", "_law_kinds_here", "_law_base", "_law_changes_here", "_law_handed", "_law_told", "_law_due", "_law_raises_here", "_law_k", "_law_which"]
abbrev P_l_holds : List Str := ["_law_forest", "_law_parents_here", "_law_kinds_here", "_law_base", "_law_changes_here"]
theorem sc_l_holds : FnScope N_l_holds P_l_holds (defScope s_l_holds) := ⟨rfl, rfl, rfl, by decide +kernel, rfl, by decide +kernel, by decide +kernel⟩
abbrev s_l_whole : Stmt := top 82
abbrev N_l_whole : List Str := ["_law_forest", "_law_parents_here", "_law_kinds_here", "_law_base", "_law_changes_here", "_law_free", "_law_new_here", "_law_helping", "_law_raises_here", "_law_touched", "_law_field", "_law_some"]
abbrev P_l_whole : List Str := ["_law_forest", "_law_parents_here", "_law_kinds_here", "_law_base", "_law_changes_here"]
theorem sc_l_whole : FnScope N_l_whole P_l_whole (defScope s_l_whole) := ⟨rfl, rfl, rfl, by decide +kernel, rfl, by decide +kernel, by decide +kernel⟩
def sp_l_holds (w : World) (K : PySem.W.Frag) (Z : Ad) : Sp := fun vs H Q _ => ∃ (f a k b d : Addr) (ps : Par) (ks : List Kd) (rs : List Int) (ch : Chg), vs = [.ref f, .ref a, .ref k, .ref b, .ref d] ∧ FoAt Z H f ps ks ∧ H a = some (.lst (ps.map pV)) ∧ H k = some (.lst (ks.map kS)) ∧
  H b = some (.tup (rs.map V.int)) ∧ H d = some (.dK (dV ch)) ∧ NK ch ∧ ch.length ≤ 300 ∧ Shp ps ks ∧ ∀ H', Same H H' → Q (.bl true) H'
def sp_l_whole (w : World) (K : PySem.W.Frag) (Z : Ad) : Sp := fun vs H Q _ => ∃ (f a k b d : Addr) (ps : Par) (ks : List Kd) (rs : List Int) (ch : Chg), vs = [.ref f, .ref a, .ref k, .ref b, .ref d] ∧ Good Z H f b d ps ks rs ch ∧ H a = some (.lst (ps.map pV)) ∧ H k = some (.lst (ks.map kS)) ∧
  NK ch ∧ Shp ps ks ∧ ps.length ≤ 8 ∧ ∀ H', Same H H' → Q (.bl true) H'
theorem Told.same {H H' : Hp} {p : Addr} {nm : Str} {v : V} (h : Told H p nm v) (s : Same H H') : Told H' p nm v := by
  obtain ⟨t, h1, h2⟩ := h
  exact ⟨t, s _ _ h1, s _ _ h2⟩
/-- what an ask tells, by the outcome -/
structure AnsI (ps : Par) (ks : List Kd) (rs : List Int) (ch : Chg) (b : Addr) (j : Nat) (H : Hp) (p : Addr) : Prop where
  nf : ∀ x, unfair ks = some x → Told H p "NotFair" (nV x)
  br : unfair ks = none → rs.length ≠ ps.length → Told H p "BadRecord" (.ref b)
  bp : unfair ks = none → rs.length = ps.length → ∀ x, LBad ps.length ch x → Told H p "BadPlace" (.int x)
  cl : unfair ks = none → rs.length = ps.length → Rng ps.length ch → ∀ x, cannot ps ks rs ch = some x → Told H p "CannotLand" (nV x)
  ok : unfair ks = none → rs.length = ps.length → Rng ps.length ch → cannot ps ks rs ch = none → ∃ x, H p = some (.lst [.ref x]) ∧ H x = some (.tup ((if j = 0 then near ps ks rs ch else few ps ks rs ch).map nV))
theorem AnsI.same {ps : Par} {ks : List Kd} {rs : List Int} {ch : Chg} {b : Addr} {j : Nat} {H H' : Hp} {p : Addr} (h : AnsI ps ks rs ch b j H p) (s : Same H H') : AnsI ps ks rs ch b j H' p := by
  refine ⟨fun x e => (h.nf x e).same s, fun a e => (h.br a e).same s, fun a e x z => (h.bp a e x z).same s, fun a e r x z => (h.cl a e r x z).same s, fun a e r z => ?_⟩
  obtain ⟨x, h1, h2⟩ := h.ok a e r z
  exact ⟨x, s _ _ h1, s _ _ h2⟩
theorem Told.tup {H : Hp} {p : Addr} {nm : Str} {v : V} (h : Told H p nm v) : ∃ xs, H p = some (.tup xs) := by
  obtain ⟨t, h1, _⟩ := h
  exact ⟨_, h1⟩
theorem Told.upd {H : Hp} {p m : Addr} {nm : Str} {v : V} {xs : List V} {o : HO} (h : Told H p nm v) (hm : H m = some (.lst xs)) : Told (upd H m o) p nm v := by
  obtain ⟨t, h1, h2⟩ := h
  exact ⟨t, by rw [upd_ne (ne_of h1 hm (by intro z; cases z))]; exact h1, by rw [upd_ne (ne_of h2 hm (by intro z; cases z))]; exact h2⟩
theorem AnsI.upd {ps : Par} {ks : List Kd} {rs : List Int} {ch : Chg} {b : Addr} {j : Nat} {H : Hp} {p m : Addr} {xs : List V} {o : HO} (h : AnsI ps ks rs ch b j H p) (hm : H m = some (.lst xs)) (ne : p ≠ m) : AnsI ps ks rs ch b j (upd H m o) p := by
  refine ⟨fun x e => (h.nf x e).upd hm, fun a e => (h.br a e).upd hm, fun a e x z => (h.bp a e x z).upd hm, fun a e r x z => (h.cl a e r x z).upd hm, fun a e r z => ?_⟩
  obtain ⟨x, h1, h2⟩ := h.ok a e r z
  exact ⟨x, by rw [upd_ne ne]; exact h1, by rw [upd_ne (ne_of h2 hm (by intro z; cases z))]; exact h2⟩
theorem none_some {α : Type} {o : Option α} {x : α} {p : Prop} (h1 : o = none) (h2 : o = some x) : p := by
  rw [h1] at h2
  cases h2
theorem bad_rng {n : Nat} {ch : Chg} {x : Int} {p : Prop} (h : LBad n ch x) (r : Rng n ch) : p := absurd (r x h.1) h.2.1
theorem ask_ans {w : World} {K : PySem.W.Frag} {Z : Ad} {H : Hp} {f b d : Addr} {ps : Par} {ks : List Kd} {rs : List Int} {ch : Chg} {j : Nat} {Q : VK} {E : XK} (hf : FoAt Z H f ps ks) (hb : H b = some (.tup (rs.map V.int))) (hd : H d = some (.dK (dV ch))) (wf : WF ps) (hz : ps.length ≤ 16)
    (q : ∀ p H', Same H H' → AnsI ps ks rs ch b j H' p → (H p = none ∨ ∃ xs, H' p = some (.tup xs)) → Q (.ref p) H') : sp_l_ask w K Z [nV j, .ref f, .ref b, .ref d] H Q E := by
  refine ⟨j, f, b, d, ps, ks, rs, ch, rfl, hf, hb, hd, wf, hz, fun k e p H' s t => q p H' s ?_ (.inr t.tup), fun e1 e2 p H' s t => q p H' s ?_ (.inr t.tup), fun e1 e2 k e3 p H' s t => q p H' s ?_ (.inr t.tup), fun e1 e2 e3 => ⟨fun k e4 p H' s t => q p H' s ?_ (.inr t.tup), fun e4 p x H' s nn h1 h2 => q p H' s ?_ (.inl nn)⟩⟩
  · refine ⟨fun x e' => ?_, fun a _ => none_some a e, fun a _ _ _ => none_some a e, fun a _ _ _ _ => none_some a e, fun a _ _ _ => none_some a e⟩
    rw [e] at e'
    cases e'
    exact t
  · exact ⟨fun x e' => none_some e1 e', fun _ _ => t, fun _ z _ _ => absurd z e2, fun _ z _ _ _ => absurd z e2, fun _ z _ _ => absurd z e2⟩
  · refine ⟨fun x e' => none_some e1 e', fun _ z => absurd e2 z, fun _ _ x hx => ?_, fun _ _ r _ _ => bad_rng e3 r, fun _ _ r _ => bad_rng e3 r⟩
    have : x = k := Int.le_antisymm (hx.2.2 k e3.1 e3.2.1) (e3.2.2 x hx.1 hx.2.1)
    rw [this]
    exact t
  · refine ⟨fun x e' => none_some e1 e', fun _ z => absurd e2 z, fun _ _ x hx => bad_rng hx e3, fun _ _ _ x hx => ?_, fun _ _ _ z => none_some z e4⟩
    rw [e4] at hx
    cases hx
    exact t
  · exact ⟨fun x e' => none_some e1 e', fun _ z => absurd e2 z, fun _ _ x hx => bad_rng hx e3, fun _ _ _ x hx => none_some e4 hx, fun _ _ _ _ => ⟨x, h1, h2⟩⟩
theorem look_nodup {ch : Chg} (h : NK ch) : ∀ q ∈ ch, look ch q.1 = some q.2 := by
  induction ch with
  | nil =>
    intro q hq
    cases hq
  | cons a l ih =>
    intro q hq
    obtain ⟨h1, h2⟩ := List.nodup_cons.mp (show ((a :: l).map (·.1)).Nodup from h)
    rcases List.mem_cons.mp hq with rfl | hq
    · unfold look
      rw [List.find?_cons]
      simp
    · have ne : ¬ a.1 = q.1 := fun z => h1 (List.mem_map.mpr ⟨q, hq, z.symm⟩)
      unfold look
      rw [List.find?_cons, decide_eq_false ne]
      exact ih h2 q hq
theorem nodup_dV {ch : Chg} (h : NK ch) : ∀ p ∈ dV ch, valV (dV ch) p.1 = some p.2 ∧ flatB p.2 = true := by
  intro p hp
  obtain ⟨q, hq, rfl⟩ := List.mem_map.mp hp
  refine ⟨?_, rfl⟩
  show valV (dV ch) (Sum.inl q.1) = some (.int q.2)
  rw [valV_dV, look_nodup h q hq] <;> rfl
section
variable {P : Program} {w : World} {K : PySem.W.Frag} {mg : Str → Option Value} {base : Heap} {Z : Ad}
theorem ok_l_holds (T : Txt P K Z mg) (F : At K mg "_law_holds" s_l_holds) (G_l_ask : Cal P w K mg base CX0 6 "_law_ask" P_l_ask (sp_l_ask w K Z)) (G_l_is_ascending : Cal P w K mg base CX0 2 "_law_is_ascending" P_l_is_ascending (sp_l_is_ascending w K Z)) (G_l_is_refusal : Cal P w K mg base CX0 3 "_law_is_refusal" P_l_is_refusal (sp_l_is_refusal w K Z)) (G_l_raises : Cal P w K mg base CX0 3 "_law_raises" P_l_raises (sp_l_raises w K Z)) (G_l_refusal : Cal P w K mg base CX0 2 "_law_refusal" P_l_refusal (sp_l_refusal w K Z)) : Cal P w K mg base CX0 7 "_law_holds" P_l_holds (sp_l_holds w K Z) := by
  refine F.cal0 sc_l_holds (fun _ _ _ _ _ _ us hl => match us, hl with | [_, _, _, _, _], _ => rfl) (by walk_at "len") (fun f cdv Ar outer s H vs Q E hr h => ?_)
  obtain ⟨f, a, k, b, d, ps, ks, rs, ch, rfl, hf, ha, hk, hb, hd, nk, cl, S, q⟩ := h
  refine ⟨_, (pss_cons (ps_set (i := 5) sc_l_holds.nd rfl (Or.inr rfl) (pe_callTy call_dictD (by rfl) T.n_dict (by first | exact boot_dict | decide +kernel) (pa_cons (pv 4) pa_nil)))
      (pss_cons (ps_setLc (i := 6) (own := [("_law_which", 10)]) (g := gName 10) rfl sc_l_holds.nd rfl rfl (sw_true rfl rfl rfl (by decide +kernel)) (pi_range1 (by rfl) T.n_range (pa_cons pe_int pa_nil)) (blkOk_by (own := [("_law_which", 10)]) (N := N_l_holds) (sc := defScope s_l_holds) (by decide +kernel)) (fun _ _ _ _ _ => pg_name (i := 10) sc_l_holds.nd rfl (Or.inl rfl)) (fun _ _ _ _ _ => pts_nil) (fun _ _ _ _ _ => (pe_cal G_l_ask (hr.mono (by decide)) (by rfl) pass0 (pa_cons (pv 10) (pa_cons (pv 0) (pa_cons (pv 3) (pa_cons (pv 5) pa_nil)))))))
      (pss_cons (ps_if (pt_cmpR (op_ne_dictA hr.units0) (pv 5) (pv 4) (nomark _))
      (pss_one (ps_ret pe_bl)) pss_nil)
      (pss_cons (ps_set (i := 7) sc_l_holds.nd rfl (Or.inl rfl) (pe_cal G_l_refusal (hr.mono (by decide)) (by rfl) pass0 (pa_cons (pv 2) (pa_cons (pv 3) (pa_cons (pv 4) pa_nil)))))
      (pss_cons (ps_if (pt_cmpR op_notN (pv 7) pe_non (nomark _))
      (pss_one (ps_ret (pe_and (pe_cal G_l_is_refusal (hr.mono (by decide)) (by rfl) pass0 (pa_cons (pe_ix ix_list (pv 6) pe_int (fun _ _ => rfl)) (pa_cons (pv 7) pa_nil))) (pe_one (pe_cal G_l_is_refusal (hr.mono (by decide)) (by rfl) pass0 (pa_cons (pe_ix ix_list (pv 6) pe_int (fun _ _ => rfl)) (pa_cons (pv 7) pa_nil))))))) pss_nil)
      (pss_cons (ps_set (i := 8) sc_l_holds.nd rfl (Or.inl rfl) (pe_cal G_l_raises (hr.mono (by decide)) (by rfl) pass0 (pa_cons (pv 1) (pa_cons (pv 2) (pa_cons (pv 3) (pa_cons (pv 4) pa_nil))))))
      (pss_cons (ps_if (pt_cmpR op_eq (pe_callB call_len_seq (by rfl) T.n_len (by first | exact PySem.boot_len | decide +kernel) (pa_cons (pv 8) pa_nil)) pe_int (nomark _))
      (pss_one (ps_ret (pe_and (pe_cal G_l_is_refusal (hr.mono (by decide)) (by rfl) pass0 (pa_cons (pe_ix ix_list (pv 6) pe_int (fun _ _ => rfl)) (pa_cons (pe_ix ix_list (pv 8) pe_int (fun _ _ => rfl)) pa_nil))) (pe_one (pe_cal G_l_is_refusal (hr.mono (by decide)) (by rfl) pass0 (pa_cons (pe_ix ix_list (pv 6) pe_int (fun _ _ => rfl)) (pa_cons (pe_ix ix_list (pv 8) pe_int (fun _ _ => rfl)) pa_nil))))))) pss_nil)
      (pss_cons (ps_for PassesOwn.never rfl (pi_range1 (by rfl) T.n_range (pa_cons pe_int pa_nil)) (pg_name (i := 9) sc_l_holds.nd rfl (Or.inl rfl))
      (pss_cons (ps_if (PW.pt (pw_or (pt_not (pt_val (pe_callB call_isi (by rfl) T.n_isinstance (by first | exact PySem.boot_isinstance | decide +kernel) (pa_cons (pe_ix ix_list (pv 6) (pv 9) (fun _ _ => rfl)) (pa_cons (pe_bltn (v := .ty "list") (by rfl) T.n_list (by first | exact boot_list | decide +kernel) rfl) pa_nil))))) (pw_or1 (pt_not (pt_val (pe_cal G_l_is_ascending (hr.mono (by decide)) (by rfl) pass0 (pa_cons (pe_ix ix_list (pe_ix ix_list (pv 6) (pv 9) (fun _ _ => rfl)) pe_int (fun _ _ => rfl)) (pa_cons (pe_callB call_len_seq (by rfl) T.n_len (by first | exact PySem.boot_len | decide +kernel) (pa_cons (pv 2) pa_nil)) pa_nil))))))))
      (pss_one (ps_ret pe_bl)) pss_nil)
      (pss_one (ps_if (pt_cmpR (op_neD hr.units) (pe_ix ix_list (pe_ix ix_list (pv 6) (pv 9) (fun _ _ => rfl)) pe_int (fun _ _ => rfl)) (pe_callTy call_tuple_of (by rfl) T.n_tuple (by first | exact boot_tuple | decide +kernel) (pa_cons (pe_ix ix_list (pv 8) (pv 9) (fun _ _ => rfl)) pa_nil)) (nomark _))
      (pss_one (ps_ret pe_bl)) pss_nil))))
      (pss_one (ps_ret pe_bl)))))))))), ?_⟩
  have hz := S.hi
  have lk := S.len
  refine ⟨_, rfl, d, _, rfl, .inl hd, fun e ne => ?_⟩
  have s0 := same_new (o := .dK (dV ch)) ne
  refine ⟨2, rfl, by decide, by decide, fun m nm => ?_⟩
  refine lc_range (n := 2) (fun i H' => Same (upd H e (.dK (dV ch))) H' ∧ ∃ l : List Addr, H' m = some (.lst (l.map V.ref)) ∧ l.length = i ∧ ∀ j p, l[j]? = some p → p ≠ m ∧ AnsI ps ks rs ch b j H' p) ⟨same_new nm, [], upd_same, rfl, fun j p e => by cases e⟩ (fun i H' hi h => ?_) (fun H' h => ?_)
  · obtain ⟨s1, l, hm, hl, hA⟩ := h
    refine ⟨rfl, yes_if ?_⟩
    have s2 := s0.trans s1
    rw [Int.zero_add]
    refine ⟨_, rfl, _, rfl, _, rfl, _, rfl, ?_⟩
    dsimp only [tNil]
    show sp_l_ask w K Z ([nV i, .ref f, .ref b, .ref e] ++ []) H' _ E0
    refine (ask_ans (hf.same s2) (s2 _ _ hb) (s1 _ _ upd_same) S.wf hz fun p H3 s3 A pm => ?_)
    have hm3 := s3 _ _ hm
    refine ⟨_, hm3, szl (by rw [List.length_map]; omega), same_mut (s1.trans s3) nm, l ++ [p], by rw [upd_same, List.map_append] <;> rfl, by rw [List.length_append, hl] <;> rfl, fun j x ej => ?_⟩
    have pm : p ≠ m := by
      rcases pm with pm | ⟨xs, pm⟩
      · exact (ne_of_none hm pm).symm
      · exact ne_of pm hm3 (by intro z; cases z)
    rcases Nat.lt_or_ge j l.length with c | c
    · rw [List.getElem?_append_left c] at ej
      obtain ⟨k1, k2⟩ := hA j x ej
      exact ⟨k1, (k2.same s3).upd hm3 k1⟩
    · rw [List.getElem?_append_right c] at ej
      have j0 : j - l.length = 0 := by
        rcases Nat.eq_zero_or_pos (j - l.length) with z | z
        · exact z
        · rw [List.getElem?_eq_none (by rw [List.length_singleton]; omega)] at ej
          cases ej
      rw [j0] at ej
      cases Option.some.inj ej
      have : j = i := by omega
      subst this
      exact ⟨pm, A.upd hm3 pm⟩
  · obtain ⟨s1, l, hm, hl, hA⟩ := h
    obtain ⟨p0, p1, rfl⟩ : ∃ p0 p1, l = [p0, p1] := by
      cases l with
      | nil => cases hl
      | cons p0 l => cases l with
        | nil => cases hl
        | cons p1 l => cases l with
          | nil => exact ⟨p0, p1, rfl⟩
          | cons _ _ => cases hl
    have A0 := (hA 0 p0 rfl).2
    have A1 := (hA 1 p1 rfl).2
    have s2 := s0.trans s1
    have hm : H' m = some (.lst [.ref p0, .ref p1]) := hm
    refine ⟨_, rfl, _, rfl, e, d, _, _, rfl, rfl, s1 _ _ upd_same, s2 _ _ hd, rfl, nodup_dV nk, _, rfl, ifF rfl ?_⟩
    refine ⟨_, rfl, _, rfl, _, rfl, k, b, d, ks, rs, ch, rfl, s2 _ _ hk, s2 _ _ hb, s2 _ _ hd, by omega, by omega, fun x ex u H3 s3 hu => ?_, fun e1 e2 u H3 s3 hu => ?_, fun e1 e2 x ex u H3 s3 hu => ?_, fun e1 e2 e3 H3 s3 => ?_⟩
    · refine ⟨_, rfl, rfl, _, rfl, ifT rfl ?_⟩
      obtain ⟨t0, k1, k2⟩ := ((A0.nf x ex).same s3)
      obtain ⟨t1, k3, k4⟩ := ((A1.nf x ex).same s3)
      refine ⟨_, rfl, m, _, _, _, rfl, rfl, SqL.of (s3 _ _ hm), atI_nat (j := 0) rfl, _, rfl, p0, t0, u, _, _, rfl, k1, k2, hu, (.inr ⟨by decide, _, rfl⟩), fun H4 s4 => ⟨_, rfl, ifT rfl ?_⟩⟩
      refine ⟨_, rfl, m, _, _, _, rfl, rfl, SqL.of (s4 _ _ (s3 _ _ hm)), atI_nat (j := 1) rfl, _, rfl, p1, t1, u, _, _, rfl, s4 _ _ k3, s4 _ _ k4, s4 _ _ hu, OkV.same (.inr ⟨by decide, _, rfl⟩) s4, fun H5 s5 => ?_⟩
      exact q _ (s2.trans (s3.trans (s4.trans s5)))
    · rw [lk] at e2
      refine ⟨_, rfl, rfl, _, rfl, ifT rfl ?_⟩
      obtain ⟨t0, k1, k2⟩ := ((A0.br e1 e2).same s3)
      obtain ⟨t1, k3, k4⟩ := ((A1.br e1 e2).same s3)
      refine ⟨_, rfl, m, _, _, _, rfl, rfl, SqL.of (s3 _ _ hm), atI_nat (j := 0) rfl, _, rfl, p0, t0, u, _, _, rfl, k1, k2, hu, (.inl ⟨rfl, b, rs, rfl, s3 _ _ (s2 _ _ hb)⟩), fun H4 s4 => ⟨_, rfl, ifT rfl ?_⟩⟩
      refine ⟨_, rfl, m, _, _, _, rfl, rfl, SqL.of (s4 _ _ (s3 _ _ hm)), atI_nat (j := 1) rfl, _, rfl, p1, t1, u, _, _, rfl, s4 _ _ k3, s4 _ _ k4, s4 _ _ hu, OkV.same (.inl ⟨rfl, b, rs, rfl, s3 _ _ (s2 _ _ hb)⟩) s4, fun H5 s5 => ?_⟩
      exact q _ (s2.trans (s3.trans (s4.trans s5)))
    · rw [lk] at e2 ex
      refine ⟨_, rfl, rfl, _, rfl, ifT rfl ?_⟩
      obtain ⟨t0, k1, k2⟩ := ((A0.bp e1 e2 x ex).same s3)
      obtain ⟨t1, k3, k4⟩ := ((A1.bp e1 e2 x ex).same s3)
      refine ⟨_, rfl, m, _, _, _, rfl, rfl, SqL.of (s3 _ _ hm), atI_nat (j := 0) rfl, _, rfl, p0, t0, u, _, _, rfl, k1, k2, hu, (.inr ⟨by decide, _, rfl⟩), fun H4 s4 => ⟨_, rfl, ifT rfl ?_⟩⟩
      refine ⟨_, rfl, m, _, _, _, rfl, rfl, SqL.of (s4 _ _ (s3 _ _ hm)), atI_nat (j := 1) rfl, _, rfl, p1, t1, u, _, _, rfl, s4 _ _ k3, s4 _ _ k4, s4 _ _ hu, OkV.same (.inr ⟨by decide, _, rfl⟩) s4, fun H5 s5 => ?_⟩
      exact q _ (s2.trans (s3.trans (s4.trans s5)))
    · rw [lk] at e2 e3
      refine ⟨_, rfl, rfl, _, rfl, ifF rfl ?_⟩
      have s4 := s2.trans s3
      refine ⟨_, rfl, _, rfl, _, rfl, _, rfl, a, k, b, d, ps, ks, rs, ch, rfl, s4 _ _ ha, s4 _ _ hk, s4 _ _ hb, s4 _ _ hd, S.wf, lk, e2, by omega, fair_of e1, e3, fun x ex p t H4 s5 np hp ht => ?_, fun ex p x y H4 s5 np hp hx hy => ?_⟩
      · refine ⟨_, rfl, p, _, rfl, .inl (SqL.of hp), rfl, _, rfl, ifT rfl ?_⟩
        obtain ⟨t0, k1, k2⟩ := ((A0.cl e1 e2 e3 x ex).same s3).same s5
        obtain ⟨t1, k3, k4⟩ := ((A1.cl e1 e2 e3 x ex).same s3).same s5
        have hm4 := s5 _ _ (s3 _ _ hm)
        refine ⟨_, rfl, m, _, _, _, rfl, rfl, SqL.of hm4, atI_nat (j := 0) rfl, _, rfl, p, _, _, _, rfl, rfl, SqL.of hp, atI_nat (j := 0) rfl, p0, t0, t, _, _, rfl, k1, k2, ht, .inr ⟨by decide, _, rfl⟩, fun H5 s6 => ⟨_, rfl, ifT rfl ?_⟩⟩
        refine ⟨_, rfl, m, _, _, _, rfl, rfl, SqL.of (s6 _ _ hm4), atI_nat (j := 1) rfl, _, rfl, p, _, _, _, rfl, rfl, SqL.of (s6 _ _ hp), atI_nat (j := 0) rfl, p1, t1, t, _, _, rfl, s6 _ _ k3, s6 _ _ k4, s6 _ _ ht, .inr ⟨by decide, _, rfl⟩, fun H6 s7 => ?_⟩
        exact q _ (s4.trans (s5.trans (s6.trans s7)))
      · refine ⟨_, rfl, p, _, rfl, .inl (SqL.of hp), rfl, _, rfl, ifF rfl ?_⟩
        obtain ⟨x0, h0, g0⟩ := A0.ok e1 e2 e3 ex
        obtain ⟨x1, h1, g1⟩ := A1.ok e1 e2 e3 ex
        rw [if_pos rfl] at g0
        rw [if_neg (by decide)] at g1
        have s35 := s3.trans s5
        have h0 := s35 _ _ h0
        have h1 := s35 _ _ h1
        have g0 := s35 _ _ g0
        have g1 := s35 _ _ g1
        have hm4 := s35 _ _ hm
        have hk4 := (s2.trans s35) _ _ hk
        have near_asc : (near ps ks rs ch).Pairwise (· < ·) := asc_filter
        have few_asc : (few ps ks rs ch).Pairwise (· < ·) := asc_filter
        have near_lt : ∀ y ∈ near ps ks rs ch, y < ps.length := fun y hy => (mem_near.mp hy).1
        have few_lt : ∀ y ∈ few ps ks rs ch, y < ps.length := fun y hy => (mem_few.mp hy).1
        refine ⟨2, rfl, by decide, by decide, for_rng (n := 2) rfl (fun i σ H' => ∃ v, σ = [some (.ref f), some (.ref a), some (.ref k), some (.ref b), some (.ref d), some (.ref e), some (.ref m), some .non, some (.ref p), v, none] ∧ Same H4 H') ⟨none, rfl, Same.refl _⟩ ?_ ?_⟩
        · rintro i σ H6 hi ⟨v, rfl, sm⟩
          have hm6 := sm _ _ hm4
          have two : i = 0 ∨ i = 1 := by omega
          rcases two with rfl | rfl
          · refine ⟨_, rfl, _, rfl, m, _, _, _, rfl, rfl, SqL.of hm6, atI_nat (j := 0) rfl, _, _, _, _, true, rfl, .ty _, .base (.lst (sm _ _ h0)), rfl, _, rfl, ifF rfl ?_⟩
            refine ⟨_, rfl, _, rfl, m, _, _, _, rfl, rfl, SqL.of hm6, atI_nat (j := 0) rfl, p0, _, _, _, rfl, rfl, SqL.of (sm _ _ h0), atI_nat (j := 0) rfl, _, rfl, k, _, rfl, .inl (SqL.of (sm _ _ hk4)), x0, (near ps ks rs ch), (ks.map kS).length, rfl, sm _ _ g0, near_asc, fun y hy => by rw [List.length_map, lk]; exact near_lt y hy, _, rfl, ifF rfl ?_⟩
            refine ⟨_, rfl, _, rfl, m, _, _, _, rfl, rfl, SqL.of hm6, atI_nat (j := 0) rfl, p0, _, _, _, rfl, rfl, SqL.of (sm _ _ h0), atI_nat (j := 0) rfl, _, rfl, _, rfl, p, _, _, _, rfl, rfl, SqL.of (sm _ _ hp), atI_nat (j := 0) rfl, x, _, rfl, .inl ⟨SqL.of (sm _ _ hx), fun t nt => ?_⟩⟩
            have s7 := same_new (o := .tup (((near ps ks rs ch)).map nV)) nt
            exact ne_tups (SqT.of (s7 _ _ (sm _ _ g0))) (SqT.of upd_same) (atoms_nV _) (atoms_nV _) ⟨_, rfl, ifF (by rw [decide_eq_true rfl]; rfl) ⟨_, rfl, sm.trans s7⟩⟩
          · refine ⟨_, rfl, _, rfl, m, _, _, _, rfl, rfl, SqL.of hm6, atI_nat (j := 1) rfl, _, _, _, _, true, rfl, .ty _, .base (.lst (sm _ _ h1)), rfl, _, rfl, ifF rfl ?_⟩
            refine ⟨_, rfl, _, rfl, m, _, _, _, rfl, rfl, SqL.of hm6, atI_nat (j := 1) rfl, p1, _, _, _, rfl, rfl, SqL.of (sm _ _ h1), atI_nat (j := 0) rfl, _, rfl, k, _, rfl, .inl (SqL.of (sm _ _ hk4)), x1, (few ps ks rs ch), (ks.map kS).length, rfl, sm _ _ g1, few_asc, fun y hy => by rw [List.length_map, lk]; exact few_lt y hy, _, rfl, ifF rfl ?_⟩
            refine ⟨_, rfl, _, rfl, m, _, _, _, rfl, rfl, SqL.of hm6, atI_nat (j := 1) rfl, p1, _, _, _, rfl, rfl, SqL.of (sm _ _ h1), atI_nat (j := 0) rfl, _, rfl, _, rfl, p, _, _, _, rfl, rfl, SqL.of (sm _ _ hp), atI_nat (j := 1) rfl, y, _, rfl, .inl ⟨SqL.of (sm _ _ hy), fun t nt => ?_⟩⟩
            have s7 := same_new (o := .tup (((few ps ks rs ch)).map nV)) nt
            exact ne_tups (SqT.of (s7 _ _ (sm _ _ g1))) (SqT.of upd_same) (atoms_nV _) (atoms_nV _) ⟨_, rfl, ifF (by rw [decide_eq_true rfl]; rfl) ⟨_, rfl, sm.trans s7⟩⟩
        · rintro σ H6 ⟨v, rfl, sm⟩
          exact q _ ((s2.trans s35).trans sm)
theorem ok_l_whole (T : Txt P K Z mg) (F : At K mg "_law_whole" s_l_whole) (G_l_helps : Cal P w K mg base CX0 4 "_law_helps" P_l_helps (sp_l_helps w K Z)) (G_l_is_ascending : Cal P w K mg base CX0 2 "_law_is_ascending" P_l_is_ascending (sp_l_is_ascending w K Z)) (G_l_landed : Cal P w K mg base CX0 5 "_law_landed" P_l_landed (sp_l_landed w K Z)) (G_l_least : Cal P w K mg base CX0 3 "_law_least" P_l_least (sp_l_least w K Z)) (G_l_new : Cal P w K mg base CX0 1 "_law_new" P_l_new (sp_l_new w K Z)) (G_l_raises : Cal P w K mg base CX0 3 "_law_raises" P_l_raises (sp_l_raises w K Z)) (G_l_reach : Cal P w K mg base CX0 2 "_law_reach" P_l_reach (sp_l_reach w K Z)) (G_l_sets : Cal P w K mg base CX0 1 "_law_sets" P_l_sets (sp_l_sets w K Z)) (G_reach : Cal P w K mg base CX0 3 "reach" P_reach (sp_reach w K Z)) : Cal P w K mg base CX0 6 "_law_whole" P_l_whole (sp_l_whole w K Z) := by
  refine F.cal0 sc_l_whole (fun _ _ _ _ _ _ us hl => match us, hl with | [_, _, _, _, _], _ => rfl) (by walk_at "len") (fun f cdv Ar outer s H vs Q E hr h => ?_)
  obtain ⟨f, a, k, b, d, ps, ks, rs, ch, rfl, g, ha, hk, nk, S, n8, q⟩ := h
  refine ⟨_, (pss_cons (ps_setLc (i := 5) (own := [("_law_field", 10)]) (g := gName 10) rfl sc_l_whole.nd rfl rfl (sw_true rfl rfl rfl (by decide +kernel)) (pi_range1 (by rfl) T.n_range (pa_cons (pe_callB call_len_seq (by rfl) T.n_len (by first | exact PySem.boot_len | decide +kernel) (pa_cons (pv 2) pa_nil)) pa_nil)) (blkOk_by (own := [("_law_field", 10)]) (N := N_l_whole) (sc := defScope s_l_whole) (by decide +kernel)) (fun _ _ _ _ _ => pg_name (i := 10) sc_l_whole.nd rfl (Or.inl rfl)) (fun _ _ _ _ _ => pts_one (pt_cmp (pc_dnotin (hu_of hr) (pv 10) (pv 4)))) (fun _ _ _ _ _ => (pv 10)))
      (pss_cons (ps_set (i := 6) sc_l_whole.nd rfl (Or.inr rfl) (pe_cal G_l_new (hr.mono (by decide)) (by rfl) pass0 (pa_cons (pv 3) (pa_cons (pv 4) pa_nil))))
      (pss_cons (ps_setLc (i := 7) (own := [("_law_some", 11)]) (g := gName 11) rfl sc_l_whole.nd rfl rfl (sw_true rfl rfl rfl (by decide +kernel)) (pi_list (pe_cal G_l_sets (hr.mono (by decide)) (by rfl) pass0 (pa_cons (pv 5) pa_nil))) (blkOk_by (own := [("_law_some", 11)]) (N := N_l_whole) (sc := defScope s_l_whole) (by decide +kernel)) (fun _ _ _ _ _ => pg_name (i := 11) sc_l_whole.nd rfl (Or.inl rfl)) (fun _ _ _ _ _ => pts_one (pt_val (pe_cal G_l_helps (hr.mono (by decide)) (by rfl) pass0 (pa_cons (pv 1) (pa_cons (pv 2) (pa_cons (pv 3) (pa_cons (pv 6) (pa_cons (pv 11) pa_nil)))))))) (fun _ _ _ _ _ => (pv 11)))
      (pss_cons (ps_set (i := 8) sc_l_whole.nd rfl (Or.inl rfl) (pe_cal G_l_raises (hr.mono (by decide)) (by rfl) pass0 (pa_cons (pv 1) (pa_cons (pv 2) (pa_cons (pv 3) (pa_cons (pv 4) pa_nil))))))
      (pss_cons (ps_if (pt_cmpR op_eq (pe_callB call_len_seq (by rfl) T.n_len (by first | exact PySem.boot_len | decide +kernel) (pa_cons (pv 8) pa_nil)) pe_int (nomark _))
      (pss_one (ps_ret (pe_cmpR (op_eqD hr.units) (pv 7) (pe_lst pa_nil) (nomark _)))) pss_nil)
      (pss_cons (ps_if (PW.pt (pw_or (pt_not (pt_val (pe_cal G_l_least (hr.mono (by decide)) (by rfl) pass0 (pa_cons (pv 1) (pa_cons (pv 7) (pa_cons (pe_ix ix_list (pv 8) pe_int (fun _ _ => rfl)) (pa_cons (pe_ix ix_list (pv 8) pe_int (fun _ _ => rfl)) pa_nil))))))) (pw_or1 (pt_not (pt_val (pe_cal G_l_landed (hr.mono (by decide)) (by rfl) pass0 (pa_cons (pv 0) (pa_cons (pv 3) (pa_cons (pv 4) (pa_cons (pv 8) pa_nil))))))))))
      (pss_one (ps_ret pe_bl)) pss_nil)
      (pss_cons (ps_set (i := 9) sc_l_whole.nd rfl (Or.inl rfl) (pe_cal G_reach (hr.mono (by decide)) (by rfl) pass0 (pa_cons (pv 0) (pa_cons (pe_callTy call_list_of (by rfl) T.n_list (by first | exact boot_list | decide +kernel) (pa_cons (pe_ix ix_list (pv 8) pe_int (fun _ _ => rfl)) pa_nil)) pa_nil))))
      (pss_one (ps_ret (pe_and (pe_cal G_l_is_ascending (hr.mono (by decide)) (by rfl) pass0 (pa_cons (pv 9) (pa_cons (pe_callB call_len_seq (by rfl) T.n_len (by first | exact PySem.boot_len | decide +kernel) (pa_cons (pv 2) pa_nil)) pa_nil))) (pe_one (pe_cmpR (op_eqD hr.units) (pv 9) (pe_callTy call_tuple_of (by rfl) T.n_tuple (by first | exact boot_tuple | decide +kernel) (pa_cons (pe_cal G_l_reach (hr.mono (by decide)) (by rfl) pass0 (pa_cons (pv 1) (pa_cons (pe_ix ix_list (pv 8) pe_int (fun _ _ => rfl)) pa_nil))) pa_nil)) (nomark _))))))))))))), ?_⟩
  have lk := S.len
  have wf := g.wf
  have fr := g.fair
  have lr := g.len
  have cl : ch.length ≤ ps.length := keys_len nk g.keys
  refine ⟨_, rfl, k, _, rfl, .inl (SqL.of hk), _, rfl, by omega, by rw [List.length_map]; omega, fun x nx => ?_⟩
  refine lcR nx (n := ps.length) (by rw [List.length_map, lk]) (fun g => !inC ch (g : Int)) nV (by omega) (fun i hi => ⟨rfl, fun H3 s3 R kk => ?_, fun _ H3 s3 R kk => ⟨_, rfl, kk H3 (Same.refl _)⟩⟩) (fun H1 s1 hx => ?_)
  · refine ⟨_, rfl, _, rfl, d, _, rfl, DGet.k (k := Sum.inl (i : Int)) (s3 _ _ g.d), _, rfl, ?_⟩
    rw [dV_some]
    exact kk H3 (Same.refl _)
  have hx : H1 x = some (.lst ((free ps ch).map nV)) := hx
  have fl : (free ps ch).length ≤ 8 := by
    have := List.length_filter_le (fun g : Nat => !inC ch (g : Int)) (List.range ps.length)
    rw [List.length_range] at this
    unfold free
    omega
  refine ⟨_, rfl, _, rfl, b, d, rs, ch, rfl, s1 _ _ g.r, s1 _ _ g.d, by omega, fun y hy => by have := g.keys y hy; omega, fun nw H2 s2 nnw hnw => ?_⟩
  have s12 := s1.trans s2
  refine ⟨_, rfl, x, free ps ch, rfl, s2 _ _ hx, fl, fun p ls H3 s3 np hL els => ?_⟩
  have s123 := s12.trans s3
  have l256 : ls.length ≤ 256 := by
    have e1 := congrArg List.length els
    rw [List.length_map] at e1
    rw [e1]
    exact len_sets8 fl
  have inS : ∀ z ∈ ls, z.2 ∈ sets (free ps ch) := fun z hz => by rw [← els]; exact List.mem_map.mpr ⟨z, hz, rfl⟩
  refine ⟨p, rfl, ⟨_, SqL.of hL.1⟩, fun m nm => ?_⟩
  refine lcL nm (l := ls) (f := fun z => V.ref z.1) (fun z => decide (merge ps ks rs (setS ks rs (wv rs ch) z.2) = setS ks rs (wv rs ch) z.2)) (fun z => V.ref z.1) (by omega) (fun H4 s4 => SqL.of (s4 _ _ hL.1)) (fun z hz => ⟨rfl, fun H4 s4 R kk => ?_, fun _ H4 s4 R kk => ⟨_, rfl, kk H4 (Same.refl _)⟩⟩) (fun H4 s4 hm => ?_)
  · have s5 := s123.trans s4
    refine ⟨_, rfl, _, rfl, _, rfl, _, rfl, _, rfl, a, k, b, nw, z.1, ps, ks, rs, ch, z.2, rfl, s5 _ _ ha, s5 _ _ hk, s5 _ _ g.r, s4 _ _ (s3 _ _ hnw), s4 _ _ (hL.2 z hz), wf, lk, lr, by omega, fun y hy => (mem_free.mp (sub_free (inS z hz) y hy)).1, fun H5 bb s6 hb => ?_⟩
    have e : bb = decide (merge ps ks rs (setS ks rs (wv rs ch) z.2) = setS ks rs (wv rs ch) z.2) := by
      have hb : bb = true ↔ merge ps ks rs (setS ks rs (wv rs ch) z.2) = setS ks rs (wv rs ch) z.2 := hb
      by_cases c : merge ps ks rs (setS ks rs (wv rs ch) z.2) = setS ks rs (wv rs ch) z.2
      · rw [decide_eq_true c, hb.mpr c]
      · rw [decide_eq_false c]
        cases bb with
        | false => rfl
        | true => exact absurd (hb.mp rfl) c
    rw [e]
    exact ⟨_, rfl, kk H5 s6⟩
  · have s5 := s123.trans s4
    have g5 := g.same s5
    have hLm : LL H4 m (ls.filter fun z => decide (merge ps ks rs (setS ks rs (wv rs ch) z.2) = setS ks rs (wv rs ch) z.2)) := ⟨hm, fun z hz => s4 _ _ (hL.2 z (List.mem_filter.mp hz).1)⟩
    have inL : ∀ T, T ∈ sets (free ps ch) → helps ps ks rs ch T → T ∈ (ls.filter fun z => decide (merge ps ks rs (setS ks rs (wv rs ch) z.2) = setS ks rs (wv rs ch) z.2)).map (·.2) := fun T h1 h2 => by
      rw [← els] at h1
      obtain ⟨z, hz, rfl⟩ := List.mem_map.mp h1
      exact List.mem_map.mpr ⟨z, List.mem_filter.mpr ⟨hz, decide_eq_true h2⟩, rfl⟩
    refine ⟨_, rfl, _, rfl, _, rfl, _, rfl, a, k, b, d, ps, ks, rs, ch, rfl, s5 _ _ ha, s5 _ _ hk, g5.r, g5.d, wf, lk, lr, by omega, fr, g.keys, fun y ey p' t H5 s6 np' hp' ht => ?_, fun ey p' x1 x2 H5 s6 np' hp' h1 h2 => ?_⟩
    · refine ⟨_, rfl, p', _, rfl, .inl (SqL.of hp'), rfl, _, rfl, ifT rfl ?_⟩
      have nil : (ls.filter fun z => decide (merge ps ks rs (setS ks rs (wv rs ch) z.2) = setS ks rs (wv rs ch) z.2)) = [] := filter_none fun z hz => decide_eq_false fun c => by
        have hy := List.find?_some ey
        have hym := List.mem_of_find?_eq_some ey
        exact none_helps wf fr lr hym (List.isEmpty_iff.mp hy) (inS z hz) c
      rw [nil] at hLm
      refine ⟨_, rfl, Nat.zero_le _, fun e ne => ?_⟩
      have s7 := same_new (o := .lst []) ne
      refine eq_lsts (SqL.of (s7 _ _ (s6 _ _ hLm.1))) (SqL.of upd_same) rfl rfl ?_
      exact q _ (s5.trans (s6.trans s7))
    · refine ⟨_, rfl, p', _, rfl, .inl (SqL.of hp'), rfl, _, rfl, ifF rfl ?_⟩
      have hne : ∀ f ∈ blk ps ks rs ch, frA ps ch f ≠ [] := fun f hf e => by
        have := List.find?_eq_none.mp ey f hf
        rw [e] at this
        exact this rfl
      have nS := near_sets (ps := ps) (ks := ks) (b := rs) (ch := ch)
      have fS := few_sets (ps := ps) (ks := ks) (b := rs) (ch := ch)
      have nH := near_helps wf fr lr hne
      have fH := few_helps wf fr lr hne
      have s56 := s5.trans s6
      refine ⟨_, rfl, _, rfl, _, rfl, p', _, _, _, rfl, rfl, SqL.of hp', atI_nat (j := 0) rfl, _, rfl, p', _, _, _, rfl, rfl, SqL.of hp', atI_nat (j := 1) rfl, a, m, x1, x2, ps, _, near ps ks rs ch, few ps ks rs ch, rfl, s56 _ _ ha, hLm.same s6, h1, h2, wf, by omega, inL _ nS nH, inL _ fS fH, fun T hT => ?_, fun H6 s7 => ⟨_, rfl, ifF rfl ?_⟩⟩
      · obtain ⟨z, hz, rfl⟩ := List.mem_map.mp hT
        obtain ⟨hz1, hz2⟩ := List.mem_filter.mp hz
        have hh0 : merge ps ks rs (setS ks rs (wv rs ch) z.2) = setS ks rs (wv rs ch) z.2 := of_decide_eq_true hz2
        have hh : helps ps ks rs ch z.2 := hh0
        exact ⟨few_least wf fr lr (inS z hz1) hh, near_least wf fr lr (inS z hz1) hh⟩
      · have s67 := s56.trans s7
        have hp7 := s7 _ _ hp'
        refine ⟨_, rfl, _, rfl, _, rfl, _, rfl, f, b, d, p', ps, ks, rs, ch, [(x1, near ps ks rs ch), (x2, few ps ks rs ch)], rfl, g.same s67, ⟨hp7, fun z hz => ?_⟩, by omega, fun T hT => ?_, fun H7 s8 => ⟨_, rfl, ifF rfl ?_⟩⟩
        · rcases List.mem_cons.mp hz with rfl | hz
          · exact s7 _ _ h1
          · obtain rfl : z = (x2, few ps ks rs ch) := by simpa using hz
            exact s7 _ _ h2
        · have two : T = near ps ks rs ch ∨ T = few ps ks rs ch := by simpa using hT
          rcases two with rfl | rfl
          · exact ⟨asc_filter.imp fun h => Nat.ne_of_lt h, fun y hy => mem_free.mp (sub_free nS y hy), nH⟩
          · exact ⟨asc_filter.imp fun h => Nat.ne_of_lt h, fun y hy => mem_free.mp (sub_free fS y hy), fH⟩
        · have s678 := s67.trans s8
          have hp8 := s8 _ _ hp7
          have h18 := s8 _ _ (s7 _ _ h1)
          refine ⟨_, rfl, _, rfl, p', _, _, _, rfl, rfl, SqL.of hp8, atI_nat (j := 0) rfl, x1, _, rfl, .inl (SqL.of h18), fun t nt => ?_⟩
          have s9 := s678.trans (same_new (o := .lst ((near ps ks rs ch).map nV)) nt)
          refine ⟨f, t, ps, ks, near ps ks rs ch, rfl, (g.same s9).fo, fr, wf, g.z, upd_same, fun y hy => (mem_near.mp hy).1, fun u H9 s10 nu hu => ?_⟩
          have s11 := s9.trans s10
          refine ⟨_, rfl, _, rfl, k, _, rfl, .inl (SqL.of (s11 _ _ hk)), u, reachL ps (near ps ks rs ch), (ks.map kS).length, rfl, hu, asc_filter, fun y hy => by rw [List.length_map, lk]; exact (mem_reachL.mp hy).1, _, rfl, ifT rfl ?_⟩
          have hp10 := s10 _ _ (same_new (o := .lst ((near ps ks rs ch).map nV)) nt _ _ hp8)
          have h110 := s10 _ _ (same_new (o := .lst ((near ps ks rs ch).map nV)) nt _ _ h18)
          refine ⟨_, rfl, _, rfl, _, rfl, p', _, _, _, rfl, rfl, SqL.of hp10, atI_nat (j := 0) rfl, a, x1, ps, near ps ks rs ch, rfl, s11 _ _ ha, h110, wf, by omega, fun v H10 s12 nv hv => ?_⟩
          refine ⟨v, _, rfl, .inl ⟨SqL.of hv, fun z nz => ?_⟩⟩
          have s13 := s12.trans (same_new (o := .tup ((reachL ps (near ps ks rs ch)).map nV)) nz)
          refine eq_tups (SqT.of (s13 _ _ hu)) (SqT.of upd_same) (atoms_nV _) (atoms_nV _) ?_
          rw [decide_eq_true rfl]
          exact q _ (s11.trans s13)
end
end K56
namespace K56
open PySem PySem.Spec PyProof.Rows L2
local macro_rules | `(tactic| walk_at "len") => `(tactic| (intro vs H Q E h; repeat' (first | (rcases h with ⟨e, _⟩; exact congrArg List.length e) | (rcases h with ⟨_, h⟩))))
abbrev s_law : Stmt := top 83
abbrev N_law : List Str := ["_law_script", "_law_tape_here", "_law_n", "_law_parents_here", "_law_fair", "_law_kinds_here", "_law_level_here", "_law_ranks", "_law_forests", "_law_turns_here", "_law_at", "_law_turn", "_law_question_here", "_law_asked", "_law_k", "_law_pick"]
abbrev P_law : List Str := ["_law_script"]
theorem sc_law : FnScope N_law P_law (defScope s_law) := ⟨rfl, rfl, rfl, by decide +kernel, rfl, by decide +kernel, by decide +kernel⟩
def sp_law (w : World) (K : PySem.W.Frag) (Z : Ad) : Sp := fun vs H Q _ => ∃ (a : Addr) (xs : List Int), vs = [.ref a] ∧ SqL K H a (xs.map V.int) ∧ ∀ H', Q (.bl true) H'
theorem lev_fair (ks : List Kd) : fair (ks.map lev) := fun k hk => by
  obtain ⟨x, _, rfl⟩ := List.mem_map.mp hk
  cases x
  · exact .inl rfl
  · exact .inr rfl
  · exact .inl rfl
  · exact .inr rfl
theorem Shp.lev {ps : Par} {ks : List Kd} (S : Shp ps ks) : Shp ps (ks.map lev) := by
  refine ⟨S.wf, by rw [List.length_map]; exact S.len, S.lo, S.hi, fun f _ e => ?_⟩
  rcases fair_kd (lev_fair ks) f with h | h
  · rw [h] at e
    cases e
  · rw [h] at e
    cases e
/-- a forest is made -/
theorem made_same {H : Hp} {x dx : Addr} {o : HO} (nx : H x = none) (nd : H dx = none) (ne : dx ≠ x) : Same H (upd H dx o) ∧ (upd H dx o) x = none := ⟨same_new nd, by rw [upd_ne (fun z => ne z.symm)]; exact nx⟩
section
variable {P : Program} {w : World} {K : PySem.W.Frag} {mg : Str → Option Value} {base : Heap} {Z : Ad}
theorem ok_law {fA : Addr} {fdL : FuncData} (T : Txt P K Z mg) (F : FunD K "law" "law" (defArgs s_law) (defBody s_law) (defScope s_law) [] [] fA fdL) (G_l_healed : Cal P w K mg base CX0 1 "_law_healed" P_l_healed (sp_l_healed w K Z)) (G_l_holds : Cal P w K mg base CX0 7 "_law_holds" P_l_holds (sp_l_holds w K Z)) (G_l_kinds : Cal P w K mg base CX0 2 "_law_kinds" P_l_kinds (sp_l_kinds w K Z)) (G_l_level : Cal P w K mg base CX0 1 "_law_level" P_l_level (sp_l_level w K Z)) (G_l_parents : Cal P w K mg base CX0 3 "_law_parents" P_l_parents (sp_l_parents w K Z)) (G_l_question : Cal P w K mg base CX0 4 "_law_question" P_l_question (sp_l_question w K Z)) (G_l_size : Cal P w K mg base CX0 2 "_law_size" P_l_size (sp_l_size w K Z)) (G_l_stays : Cal P w K mg base CX0 1 "_law_stays" P_l_stays (sp_l_stays w K Z)) (G_l_take : Cal P w K mg base CX0 1 "_law_take" P_l_take (sp_l_take w K Z)) (G_l_tape : Cal P w K mg base CX0 1 "_law_tape" P_l_tape (sp_l_tape w K Z)) (G_l_whole : Cal P w K mg base CX0 6 "_law_whole" P_l_whole (sp_l_whole w K Z)) {fI : Addr} {fdI : FuncData} (MF : Mk K Z.cF fI) (bF : Binds K fdI P_init []) (GI : FnOk P w K mg base CX0 3 fI fdI P_init (sp_init w K Z)) : FnOk P w K mg base CX0 8 fA fdL P_law (sp_law w K Z) := by
  refine F.ok sc_law (fun vs H Q E h => by obtain ⟨_, _, e, _⟩ := h; rw [e]; rfl) fun cdv Ar outer s H vs Q E hr h => ?_
  suffices z : ∃ t, PSs (cxOf CX0 P w K mg base N_law "law" (defScope s_law) fA cdv Ar outer s H E).nox (defBody s_law) t ∧ t { nx := fun _ H' => Q .non H', rt := Q } (start N_law vs) H by
    obtain ⟨t, h1, h2⟩ := z
    exact ⟨t, h1.nox, h2⟩
  obtain ⟨sc, xs, rfl, hsc, q⟩ := h
  refine ⟨_, (pss_cons (ps_set (i := 1) sc_law.nd rfl (Or.inl rfl) (pe_cal G_l_tape (hr.mono (by decide)) (by rfl) pass0 (pa_cons (pv 0) (pa_cons pe_int pa_nil))))
      (pss_cons (ps_set (i := 2) sc_law.nd rfl (Or.inl rfl) (pe_cal G_l_size (hr.mono (by decide)) (by rfl) pass0 (pa_cons (pv 1) pa_nil)))
      (pss_cons (ps_set (i := 3) sc_law.nd rfl (Or.inl rfl) (pe_cal G_l_parents (hr.mono (by decide)) (by rfl) pass0 (pa_cons (pv 1) (pa_cons (pv 2) pa_nil))))
      (pss_cons (ps_set (i := 1) sc_law.nd rfl (Or.inl rfl) (pe_cal G_l_tape (hr.mono (by decide)) (by rfl) pass0 (pa_cons (pv 0) (pa_cons pe_int pa_nil))))
      (pss_cons (ps_set (i := 4) sc_law.nd rfl (Or.inl rfl) (pe_cmpR op_gt (pe_cal G_l_take (hr.mono (by decide)) (by rfl) pass0 (pa_cons (pv 1) (pa_cons pe_int pa_nil))) pe_int (nomark _)))
      (pss_cons (ps_set (i := 5) sc_law.nd rfl (Or.inl rfl) (pe_cal G_l_kinds (hr.mono (by decide)) (by rfl) pass0 (pa_cons (pv 1) (pa_cons (pv 3) (pa_cons (pv 4) pa_nil)))))
      (pss_cons (ps_set (i := 6) sc_law.nd rfl (Or.inl rfl) (pe_cal G_l_level (hr.mono (by decide)) (by rfl) pass0 (pa_cons (pv 5) pa_nil)))
      (pss_cons (ps_set (i := 7) sc_law.nd rfl (Or.inl rfl) (pe_lst (pa_cons (pv 5) (pa_cons (pv 6) pa_nil))))
      (pss_cons (ps_set (i := 8) sc_law.nd rfl (Or.inl rfl) (pe_lst (pa_cons (pe_make MF GI (hr.mono (by decide)) (by rfl) T.c_Forest bF .nil pass0 (pa_cons (pe_callTy call_list_of (by rfl) T.n_list (by first | exact boot_list | decide +kernel) (pa_cons (pv 3) pa_nil)) (pa_cons (pe_callTy call_list_of (by rfl) T.n_list (by first | exact boot_list | decide +kernel) (pa_cons (pv 5) pa_nil)) pa_nil))) (pa_cons (pe_make MF GI (hr.mono (by decide)) (by rfl) T.c_Forest bF .nil pass0 (pa_cons (pe_callTy call_list_of (by rfl) T.n_list (by first | exact boot_list | decide +kernel) (pa_cons (pv 3) pa_nil)) (pa_cons (pe_callTy call_list_of (by rfl) T.n_list (by first | exact boot_list | decide +kernel) (pa_cons (pv 6) pa_nil)) pa_nil))) pa_nil))))
      (pss_cons (ps_set (i := 9) sc_law.nd rfl (Or.inl rfl) (pe_lst (pa_cons pe_int (pa_cons pe_int (pa_cons pe_int pa_nil)))))
      (pss_cons (ps_for PassesOwn.never rfl (pi_range1 (by rfl) T.n_range (pa_cons (pe_callB call_len_seq (by rfl) T.n_len (by first | exact PySem.boot_len | decide +kernel) (pa_cons (pv 9) pa_nil)) pa_nil)) (pg_name (i := 10) sc_law.nd rfl (Or.inl rfl))
      (pss_cons (ps_set (i := 12) sc_law.nd rfl (Or.inl rfl) (pe_cal G_l_question (hr.mono (by decide)) (by rfl) pass0 (pa_cons (pv 0) (pa_cons (pe_ix ix_list (pv 9) (pv 10) (fun _ _ => rfl)) (pa_cons (pv 3) (pa_cons (pv 6) pa_nil))))))
      (pss_cons (ps_set (i := 13) sc_law.nd rfl (Or.inl rfl) (pe_lst (pa_cons (pv 12) (pa_cons (pe_cal G_l_healed (hr.mono (by decide)) (by rfl) pass0 (pa_cons (pv 12) (pa_cons (pv 2) pa_nil))) pa_nil))))
      (pss_one (ps_for PassesOwn.never rfl (pi_range1 (by rfl) T.n_range (pa_cons pe_int pa_nil)) (pg_name (i := 14) sc_law.nd rfl (Or.inl rfl))
      (pss_cons (ps_set (i := 15) sc_law.nd rfl (Or.inl rfl) (pe_op op_mod (pe_callTy call_int1 (by rfl) T.n_int (by first | exact boot_int | decide +kernel) (pa_cons (pe_op op_add (pv 14) (pv 10)) pa_nil)) pe_int))
      (pss_one (ps_if (pt_not (pt_val (pe_cal G_l_holds (hr.mono (by decide)) (by rfl) pass0 (pa_cons (pe_ix ix_list (pv 8) (pv 15) (fun _ _ => rfl)) (pa_cons (pv 3) (pa_cons (pe_ix ix_list (pv 7) (pv 15) (fun _ _ => rfl)) (pa_cons (pe_ix ix_list (pe_ix ix_list (pv 13) (pv 14) (fun _ _ => rfl)) pe_int (fun _ _ => rfl)) (pa_cons (pe_ix ix_list (pe_ix ix_list (pv 13) (pv 14) (fun _ _ => rfl)) pe_int (fun _ _ => rfl)) pa_nil))))))))
      (pss_one (ps_ret pe_bl)) pss_nil))))))))
      (pss_cons (ps_for PassesOwn.never rfl (pi_range1 (by rfl) T.n_range (pa_cons pe_int pa_nil)) (pg_name (i := 11) sc_law.nd rfl (Or.inl rfl))
      (pss_cons (ps_set (i := 13) sc_law.nd rfl (Or.inl rfl) (pe_cal G_l_healed (hr.mono (by decide)) (by rfl) pass0 (pa_cons (pe_cal G_l_question (hr.mono (by decide)) (by rfl) pass0 (pa_cons (pv 0) (pa_cons (pv 11) (pa_cons (pv 3) (pa_cons (pv 6) pa_nil))))) (pa_cons (pv 2) pa_nil))))
      (pss_one (ps_if (pt_not (pt_val (pe_cal G_l_whole (hr.mono (by decide)) (by rfl) pass0 (pa_cons (pe_ix ix_list (pv 8) pe_int (fun _ _ => rfl)) (pa_cons (pv 3) (pa_cons (pv 6) (pa_cons (pe_ix ix_list (pv 13) pe_int (fun _ _ => rfl)) (pa_cons (pe_ix ix_list (pv 13) pe_int (fun _ _ => rfl)) pa_nil))))))))
      (pss_one (ps_ret pe_bl)) pss_nil))))
      (pss_one (ps_ret (pe_and (pe_cal G_l_stays (hr.mono (by decide)) (by rfl) pass0 (pa_cons (pe_ix ix_list (pv 8) pe_int (fun _ _ => rfl)) (pa_cons (pv 3) (pa_cons (pv 5) pa_nil)))) (pe_one (pe_cal G_l_stays (hr.mono (by decide)) (by rfl) pass0 (pa_cons (pe_ix ix_list (pv 8) pe_int (fun _ _ => rfl)) (pa_cons (pv 3) (pa_cons (pv 6) pa_nil)))))))))))))))))))), ?_⟩
  refine ⟨_, rfl, sc, xs, 0, rfl, hsc, fun t H1 s1 nt tp => ?_⟩
  refine ⟨_, rfl, t, rfl, tp, fun n c k n0 n8 => ?_⟩
  have t1 := (Tp.of_same tp (Same.refl H1)).tick (c := c) (k := k)
  refine ⟨_, rfl, _, rfl, t, n, rfl, t1.tp, n0, by omega, fun a ps H2 t2 na wf lp ha => ?_⟩
  have s2 := Tp.under s1 nt (t1.trans t2)
  refine ⟨_, rfl, sc, xs, 1, rfl, s2.seq hsc, fun u H3 s3 nu tu => ?_⟩
  have s03 := s2.trans s3
  have ha3 := s3 _ _ ha
  have au : a ≠ u := ne_of_none ha nu
  refine ⟨_, rfl, u, 6, rfl, tu, by decide, by decide, fun r c k r0 r1 => ?_⟩
  have u1 := (Tp.of_same tu (Same.refl H3)).tick (c := c) (k := k)
  refine ⟨_, _, rfl, rfl, ?_⟩
  refine ⟨_, rfl, _, rfl, _, rfl, u, a, _, ps, rfl, u1.tp, au, u1.kp _ _ au ha3, by omega, fun k ks H4 u2 nk lk leaf hk => ?_⟩
  have uu := u1.trans u2
  have s04 := Tp.under s03 (s2.free nu) uu
  have ha4 := uu.kp _ _ au ha3
  have S : Shp ps ks := ⟨wf, lk, by omega, by omega, leaf⟩
  have S2 := S.lev
  refine ⟨_, rfl, k, ks, rfl, hk, by omega, fun v H5 s5 nv hv => ?_⟩
  have hk5 := s5 _ _ hk
  have ha5 := s5 _ _ ha4
  have s05 := s04.trans s5
  refine ⟨_, rfl, _, rfl, sz (by show 2 ≤ 100000; decide), fun rk nrk => ?_⟩
  have s6 := same_new (o := .lst [.ref k, .ref v]) nrk
  have s06 := s05.trans s6
  have hrk6 : upd H5 rk (.lst [.ref k, .ref v]) rk = some (.lst [.ref k, .ref v]) := upd_same
  have ha6 := s6 _ _ ha5
  have hk6 := s6 _ _ hk5
  have hv6 := s6 _ _ hv
  have hsc6 := s06.seq hsc
  generalize upd H5 rk (.lst [.ref k, .ref v]) = HA at s6 s06 hrk6 ha6 hk6 hv6 hsc6
  refine ⟨_, rfl, a, _, rfl, .inl (SqL.of ha6), fun l1 nl1 => ?_⟩
  have m1 := same_new (o := .lst (ps.map pV)) nl1
  refine ⟨_, rfl, k, _, rfl, .inl (SqL.of (m1 _ _ hk6)), fun l2 nl2 => ?_⟩
  have m2 := same_new (o := .lst (ks.map kS)) nl2
  intro f0 dx0 nf0 nd0 ne0
  obtain ⟨m3, nf0'⟩ := made_same (o := .own f0) nf0 nd0 ne0
  refine ⟨_, f0, dx0, l1, l2, ps, ks, rfl, rfl, nf0', m3 _ _ (m2 _ _ upd_same), m3 _ _ upd_same, S, fun H7 m4 F0 => ⟨rfl, ?_⟩⟩
  have s07 := ((m1.trans m2).trans m3).trans m4
  have ha7 := s07 _ _ ha6
  have hv7 := s07 _ _ hv6
  refine ⟨_, rfl, a, _, rfl, .inl (SqL.of ha7), fun l3 nl3 => ?_⟩
  have m5 := same_new (o := .lst (ps.map pV)) nl3
  refine ⟨_, rfl, v, _, rfl, .inl (SqL.of (m5 _ _ hv7)), fun l4 nl4 => ?_⟩
  have m6 := same_new (o := .lst ((ks.map lev).map kS)) nl4
  intro f1 dx1 nf1 nd1 ne1
  obtain ⟨m7, nf1'⟩ := made_same (o := .own f1) nf1 nd1 ne1
  refine ⟨_, f1, dx1, l3, l4, ps, ks.map lev, rfl, rfl, nf1', m7 _ _ (m6 _ _ upd_same), m7 _ _ upd_same, S2, fun H8 m8 F1 => ⟨rfl, ?_⟩⟩
  have s78 := ((m5.trans m6).trans m7).trans m8
  have F0' := F0.same s78
  refine ⟨sz (by show 2 ≤ 100000; decide), fun fl nfl => ?_⟩
  have m9 := same_new (o := .lst [.ref f0, .ref f1]) nfl
  refine ⟨sz (by show 3 ≤ 100000; decide), fun tn ntn => ?_⟩
  have m10 := same_new (o := .lst [.int 0, .int 1, .int 0]) ntn
  have sAB := ((s07.trans s78).trans m9).trans m10
  have hfl : upd (upd H8 fl (.lst [.ref f0, .ref f1])) tn (.lst [.int 0, .int 1, .int 0]) fl = some (.lst [.ref f0, .ref f1]) := m10 _ _ upd_same
  have htn : upd (upd H8 fl (.lst [.ref f0, .ref f1])) tn (.lst [.int 0, .int 1, .int 0]) tn = some (.lst [.int 0, .int 1, .int 0]) := upd_same
  have F0B := (F0'.same m9).same m10
  have F1B := (F1.same m9).same m10
  generalize upd (upd H8 fl (.lst [.ref f0, .ref f1])) tn (.lst [.int 0, .int 1, .int 0]) = HB at sAB hfl htn F0B F1B
  have haB := sAB _ _ ha6
  have hkB := sAB _ _ hk6
  have hvB := sAB _ _ hv6
  have hrkB := sAB _ _ hrk6
  have hscB := sAB.seq hsc6
  have lk2 : (ks.map lev).length = ps.length := S2.len
  -- what is asked of a forest, a rank
  have forest : ∀ (y : Nat), y < 2 → ∃ (fo kk : Addr) (KS : List Kd), [V.ref f0, V.ref f1][y]? = some (.ref fo) ∧ [V.ref k, V.ref v][y]? = some (.ref kk) ∧ FoAt Z HB fo ps KS ∧ HB kk = some (.lst (KS.map kS)) ∧ Shp ps KS := fun y hy => by
    have two : y = 0 ∨ y = 1 := by omega
    rcases two with rfl | rfl
    · exact ⟨f0, k, ks, rfl, rfl, F0B, hkB, S⟩
    · exact ⟨f1, v, ks.map lev, rfl, rfl, F1B, hvB, S2⟩
  refine ⟨_, rfl, tn, _, rfl, .inl (SqL.of htn), 3, rfl, by decide, by decide, for_rng (n := 3) rfl (fun i σ H' => ∃ s10 s12 s13 s14 s15, σ = [some (.ref sc), some (.ref u), some (nV n), some (.ref a), some (.bl (decide (0 < r))), some (.ref k), some (.ref v), some (.ref rk), some (.ref fl), some (.ref tn), s10, none, s12, s13, s14, s15] ∧ Same HB H')
    ⟨none, none, none, none, none, rfl, Same.refl _⟩ ?_ ?_⟩
  · rintro i σ H' hi ⟨s10, s12, s13, s14, s15, rfl, sm⟩
    obtain ⟨tu, htu, tu1⟩ : ∃ tu : Nat, [V.int 0, V.int 1, V.int 0][i]? = some (nV tu) ∧ tu ≤ 1 := by
      have three : i = 0 ∨ i = 1 ∨ i = 2 := by omega
      rcases three with rfl | rfl | rfl
      · exact ⟨0, rfl, by decide⟩
      · exact ⟨1, rfl, by decide⟩
      · exact ⟨0, rfl, by decide⟩
    refine ⟨_, rfl, _, rfl, _, rfl, tn, _, _, _, rfl, rfl, SqL.of (sm _ _ htn), atI_nat htu, _, rfl, _, rfl, sc, a, v, xs, tu, ps, ks.map lev, rfl, sm.seq hscB, sm _ _ haB, sm _ _ hvB, by omega, lk2, by omega, by omega, fun p b d rs ch H9 s9 Qa q1 q2 => ?_⟩
    refine ⟨_, rfl, _, rfl, _, rfl, p, b, d, rs, ch, n, rfl, Qa, by omega, by omega, by omega, fun p' b' d' rs' ch' H10 s10' Qb lrs' rng' => ?_⟩
    refine ⟨sz (by show 2 ≤ 100000; decide), fun m nm => ?_⟩
    have s11 := same_new (o := .lst [.ref p, .ref p']) nm
    have hm : upd H10 m (.lst [.ref p, .ref p']) m = some (.lst [.ref p, .ref p']) := upd_same
    have QaC := (Qa.same s10').same s11
    have QbC := Qb.same s11
    have sBC := ((sm.trans s9).trans s10').trans s11
    generalize upd H10 m (.lst [.ref p, .ref p']) = HC at s11 hm QaC QbC sBC
    have asked : ∀ (y : Nat), y < 2 → ∃ (qq bb dd : Addr) (rr : List Int) (cc : Chg), [V.ref p, V.ref p'][y]? = some (.ref qq) ∧ QA HC qq bb dd rr cc := fun y hy => by
      have two : y = 0 ∨ y = 1 := by omega
      rcases two with rfl | rfl
      · exact ⟨p, b, d, rs, ch, rfl, QaC⟩
      · exact ⟨p', b', d', rs', ch', rfl, QbC⟩
    refine ⟨2, rfl, by decide, by decide, for_rng (n := 2) rfl (fun j σ H' => ∃ s14 s15, σ = [some (.ref sc), some (.ref u), some (nV n), some (.ref a), some (.bl (decide (0 < r))), some (.ref k), some (.ref v), some (.ref rk), some (.ref fl), some (.ref tn), some (nV i), none, some (.ref p), some (.ref m), s14, s15] ∧ Same HC H')
      ⟨_, _, rfl, Same.refl _⟩ ?_ ?_⟩
    · rintro j σ H11 hj ⟨s14, s15, rfl, sn⟩
      have sB := sBC.trans sn
      refine ⟨_, rfl, _, rfl, _, _, rfl, rfl, .inl ⟨_, rfl, _, _, rfl, rfl, (show (0 : Int) < 2 by decide), ?_⟩⟩
      obtain ⟨y, hy, ey⟩ : ∃ y : Nat, y < 2 ∧ ((j : Int) + (i : Int)) % 2 = (y : Int) := ⟨(((j : Int) + (i : Int)) % 2).toNat, by omega, by omega⟩
      obtain ⟨fo, kk, KS, e1, e2, e3, e4, e5⟩ := forest y hy
      obtain ⟨qq, bb, dd, rr, cc, e6, e7⟩ := asked j hj
      have e7 := e7.same sn
      have hmn := sn _ _ hm
      refine ⟨_, rfl, _, rfl, fl, _, _, _, rfl, rfl, SqL.of (sB _ _ hfl), atN ey e1, _, rfl, _, rfl, _, rfl, rk, _, _, _, rfl, rfl, SqL.of (sB _ _ hrkB), atN ey e2, _, rfl, _, rfl, m, _, _, _, rfl, rfl, SqL.of hmn, atI_nat e6, qq, _, _, _, rfl, rfl, SqL.of e7.q, atI_nat (j := 0) rfl, _, rfl, _, rfl, m, _, _, _, rfl, rfl, SqL.of hmn, atI_nat e6, qq, _, _, _, rfl, rfl, SqL.of e7.q, atI_nat (j := 1) rfl,
        fo, a, kk, bb, dd, ps, KS, rr, cc, rfl, e3.same sB, sB _ _ haB, sB _ _ e4, e7.b, e7.d, e7.nk, e7.len, e5, fun H12 s12 => ⟨_, rfl, ifF rfl ⟨_, _, rfl, sn.trans s12⟩⟩⟩
    · rintro σ H11 ⟨s14, s15, rfl, sn⟩
      exact ⟨_, _, _, _, _, rfl, sBC.trans sn⟩
  · rintro σ H' ⟨s10, s12, s13, s14, s15, rfl, sm⟩
    refine ⟨2, rfl, by decide, by decide, for_rng (n := 2) rfl (fun i σ H' => ∃ s11 s13, σ = [some (.ref sc), some (.ref u), some (nV n), some (.ref a), some (.bl (decide (0 < r))), some (.ref k), some (.ref v), some (.ref rk), some (.ref fl), some (.ref tn), s10, s11, s12, s13, s14, s15] ∧ Same HB H')
      ⟨none, s13, rfl, sm⟩ ?_ ?_⟩
    · rintro i σ H9 hi ⟨s11, s13, rfl, sm⟩
      refine ⟨_, rfl, _, rfl, _, rfl, _, rfl, sc, a, v, xs, i, ps, ks.map lev, rfl, sm.seq hscB, sm _ _ haB, sm _ _ hvB, by omega, lk2, by omega, by omega, fun p b d rs ch H9 s9 Qa q1 q2 => ?_⟩
      refine ⟨_, rfl, p, b, d, rs, ch, n, rfl, Qa, by omega, by omega, by omega, fun p' b' d' rs' ch' H10 s10' Qb lrs' rng' => ?_⟩
      have sB := (sm.trans s9).trans s10'
      refine ⟨_, rfl, fl, _, _, _, rfl, rfl, SqL.of (sB _ _ hfl), atI_nat (j := 1) rfl, _, rfl, _, rfl, _, rfl, p', _, _, _, rfl, rfl, SqL.of Qb.q, atI_nat (j := 0) rfl, _, rfl, p', _, _, _, rfl, rfl, SqL.of Qb.q, atI_nat (j := 1) rfl, f1, a, v, b', d', ps, ks.map lev, rs', ch', rfl,
        ⟨F1B.same sB, Qb.b, Qb.d, wf, by omega, lev_fair ks, by omega, by rw [lp]; exact rng'⟩, sB _ _ haB, sB _ _ hvB, Qb.nk, S2, by omega, fun H12 s12 => ⟨_, rfl, ifF rfl ⟨_, _, rfl, sB.trans s12⟩⟩⟩
    · rintro σ H9 ⟨s11, s13, rfl, sm⟩
      refine ⟨_, rfl, fl, _, _, _, rfl, rfl, SqL.of (sm _ _ hfl), atI_nat (j := 0) rfl, _, rfl, _, rfl, f0, a, k, ps, ks, rfl, F0B.same sm, sm _ _ haB, sm _ _ hkB, fun H10 s10' => ⟨_, rfl, ifT rfl ?_⟩⟩
      have sB := sm.trans s10'
      refine ⟨_, rfl, fl, _, _, _, rfl, rfl, SqL.of (sB _ _ hfl), atI_nat (j := 1) rfl, _, rfl, _, rfl, f1, a, v, ps, ks.map lev, rfl, F1B.same sB, sB _ _ haB, sB _ _ hvB, fun H11 s11' => ?_⟩
      exact q _
end
end K56
namespace K56
open PySem PySem.Spec PyProof.Rows L2
/-- what the text says of an error's __init__ -/
structure InitS (st : Stmt) (f : Str) : Prop where
  ex : ∃ (ar : Arg) (m : Str) (k : Nat) (q1 q2 q3 q4 q5 q6 q7 q8 q9 q10 : Pos), defBody st = [.Expr (.Call (.Attribute (.Call (.Name "super" q1) [] [] q2) "__init__" q3) [.Constant (.str m) k q4] [] q5) q6, .Assign [.Attribute (.Name "self" q7) f q8] (.Name f q9) q10] ∧
    ((defArgs st).posonlyargs ++ (defArgs st).args).head? = some ar ∧ ar.arg = "self" ∧
    (∀ (qual : Str) (cc cda : Addr) (kV doc pm ct : Value) (an : Option Addr) (u v : Value), bindArgs (PySem.W.fnX "__init__" qual (defArgs st) (defBody st) (defScope st) [("__class__", cc)] .none kV doc pm an (.ref cda) ct) ⟨[u, v], []⟩ = (pure [(("self" : Str), u), (f, v)] : Sem (List (Str × Value)))) ∧
    (defScope st).kind = .function ∧ (defScope st).isCoroutine = false ∧ (defScope st).isGenerator = false ∧ (∀ x ∈ (defScope st).names, x.2 ≠ .cell) ∧
    (defScope st).names.lookup ("self" : Str) = some .local ∧ (defScope st).names.lookup f = some .local ∧ (defScope st).names.lookup ("super" : Str) = some .globalImplicit ∧ (defScope st).names.lookup ("__class__" : Str) = some .free ∧
    (f == ("self" : Str)) = false ∧ (f == ("__debug__" : Str)) = false ∧
    (∀ env : Env, swapsWith (.Call (.Attribute (.Call (.Name "super" q1) [] [] q2) "__init__" q3) [.Constant (.str m) k q4] [] q5) none q6.line env = pure false) ∧
    (∃ pl : Env → Sem Bool, ∀ env : Env, eval (.Call (.Attribute (.Call (.Name "super" q1) [] [] q2) "__init__" q3) [.Constant (.str m) k q4] [] q5) env = (do
      let ov ← attributeBase (.Call (.Name "super" q1) [] [] q2) "__init__" env (eval (.Call (.Name "super" q1) [] [] q2) env)
      standAt q3.atName
      let (g, first) ← holding [ov] (getMethod ov "__init__" (pl env))
      callWith q5 g first (backTo q5 (starEach [.Constant (.str m) k q4] env)) [])) ∧
    (∀ env : Env, swapsWith (.Name f q9) (some (.Attribute (.Name "self" q7) f q8)) q10.line env = pure false)
theorem is_NotFair : InitS (inClass (top 7) 0) "field" := ⟨_, _, _, _, _, _, _, _, _, _, _, _, _, rfl, rfl, rfl, fun _ _ _ _ _ _ _ _ _ _ => rfl, rfl, rfl, rfl, by decide +kernel, rfl, rfl, rfl, rfl, by decide +kernel, by decide +kernel, fun _ => rfl, ⟨_, fun _ => rfl⟩, fun _ => rfl⟩
theorem is_BadRecord : InitS (inClass (top 3) 0) "record" := ⟨_, _, _, _, _, _, _, _, _, _, _, _, _, rfl, rfl, rfl, fun _ _ _ _ _ _ _ _ _ _ => rfl, rfl, rfl, rfl, by decide +kernel, rfl, rfl, rfl, rfl, by decide +kernel, by decide +kernel, fun _ => rfl, ⟨_, fun _ => rfl⟩, fun _ => rfl⟩
theorem is_BadPlace : InitS (inClass (top 14) 0) "place" := ⟨_, _, _, _, _, _, _, _, _, _, _, _, _, rfl, rfl, rfl, fun _ _ _ _ _ _ _ _ _ _ => rfl, rfl, rfl, rfl, by decide +kernel, rfl, rfl, rfl, rfl, by decide +kernel, by decide +kernel, fun _ => rfl, ⟨_, fun _ => rfl⟩, fun _ => rfl⟩
theorem is_CannotLand : InitS (inClass (top 8) 0) "field" := ⟨_, _, _, _, _, _, _, _, _, _, _, _, _, rfl, rfl, rfl, fun _ _ _ _ _ _ _ _ _ _ => rfl, rfl, rfl, rfl, by decide +kernel, rfl, rfl, rfl, rfl, by decide +kernel, by decide +kernel, fun _ => rfl, ⟨_, fun _ => rfl⟩, fun _ => rfl⟩
section
variable {K : PySem.W.Frag} {h : Heap} {mg : Str → Option Value}
theorem clsB_ok {C : Addr} (e : clsB K C = true) : ∃ nm q N bs bm sn sub ab col dd k0 k1 k2 k3 k5, K.lookup C = some (excClassObj nm q C N bs bm true sn sub ab col dd k0 k1 k2 k3 k5 "ValueError.__new__") ∧ PySem.HandSPX.refsVE bm = true := by
  unfold clsB at e
  split at e
  · rename_i dd cd sl ho
    split at e
    · rename_i C' bm k0 k1 k2 k3 n k5 hm hs
      simp only [Bool.and_eq_true, beq_iff_eq, Bool.not_eq_true'] at e
      obtain ⟨⟨⟨⟨rfl, rfl⟩, hdel⟩, hdi⟩, ht⟩ := e
      obtain ⟨nm, bs, mro, ns, qn, hd, sn, sub, ab, col, del⟩ := cd
      dsimp only at hm hdel hdi
      subst hm hdel hdi
      have hsl : sl = #[k0, k1, k2, k3, some (.builtin "ValueError.__new__"), k5] := by
        obtain ⟨l⟩ := sl
        simp only at hs
        rw [hs]
      subst hsl
      exact ⟨nm, qn, ns, bs, bm, sn, sub, ab, col, dd, k0, k1, k2, k3, k5, ho, ht⟩
    · cases e
  · cases e
theorem iCell_ok {x q : Str} {st : Stmt} (e : iCell K x q = true) (io : iObs K x = iVal q st) : ∃ (oc kV doc pm ct ccl cl : Value) (od an cdd cld : Option Addr) (osl ccs csl : Array (Option Value)) (cc cda : Addr) (vs : Array Value) (file : Str) (tf : Tok),
    K.lookup (He.ma K (He.ga K x) "__init__") = some ⟨oc, od, .func (PySem.W.fnX "__init__" q (defArgs st) (defBody st) (defScope st) [("__class__", cc)] .none kV doc pm an (.ref cda) ct), osl⟩ ∧ PySem.W.codeIn K (.ref cda) q = true ∧
    K.lookup cc = some ⟨cl, cld, .cell (some (.ref (He.ga K x))), csl⟩ ∧ K.lookup cda = some ⟨ccl, cdd, .fields vs, ccs⟩ ∧ vs[2]? = some (.str file tf) ∧ (PySem.Challenge.pw_fieldrides_k56_whole_raises.main.file == file) = true := by
  unfold iCell at e
  unfold iObs iVal at io
  cases w : K.lookup (He.ma K (He.ga K x) "__init__") with
  | none =>
    rw [w] at e
    cases e
  | some o =>
    obtain ⟨oc, od, dt, osl⟩ := o
    rw [w] at e io
    cases dt with
    | func fd =>
      obtain ⟨n1, n2, n3, n4, n5, n6, n7, n8, n9, n10, n11, n12, n13, n14, n15⟩ := fd
      simp only [Option.some.injEq, Prod.mk.injEq] at io
      obtain ⟨h1, h2, h3, h4, h5, h6, h7, h8⟩ := io
      subst h1 h2 h3 h4 h5 h6 h7 h8
      simp only at e
      split at e
      · rename_i z1 z2 nm cc cda
        obtain ⟨e1, e2⟩ := He.ba e
        obtain ⟨e3, e4⟩ := He.ba e2
        obtain ⟨e5, e6⟩ := He.ba e4
        have en := of_decide_eq_true e1
        subst en
        split at e3
        · rename_i cl cld C' csl hcc
          have ec : C' = He.ga K x := by simpa using e3
          rw [ec] at hcc
          split at e6
          · rename_i ccl cdd vs ccs hcd
            split at e6
            · rename_i a0 a1 file tf r hv
              refine ⟨oc, n9, n10, n11, n14, ccl, cl, od, n12, cdd, cld, osl, ccs, csl, cc, cda, vs, file, tf, rfl, e5, hcc, hcd, ?_, e6⟩
              rw [← Array.getElem?_toList, hv] <;> rfl
            · cases e6
          · cases e6
        · cases e3
      · cases e
    | _ => cases e
abbrev PP : Program := PySem.Challenge.pw_fieldrides_k56_whole_raises
theorem errC_of {x f q : Str} {st : Stmt} (gx : mg x = some (.ref (He.ga K x))) (gs : mg "super" = none) (e : errB K x f q = true) (io : iObs K x = iVal q st) (is : InitS st f) (opq : PySem.W.nsIn K cStatics "thirdparty.any" = some none)
    (hn : PySem.W.specialIn K (.builtin "object.__class__") "__get__" = some (some (.builtin "getset_descriptor.__get__"))) (ht : PySem.W.takesIn K (.builtin "object.__class__") = some true) : ErrC PP K mg x f (He.ga K x) := by
  obtain ⟨e1, e⟩ := He.ba e
  obtain ⟨e2, e⟩ := He.ba e
  obtain ⟨e3, e⟩ := He.ba e
  obtain ⟨e4, e⟩ := He.ba e
  obtain ⟨e5, e⟩ := He.ba e
  obtain ⟨e6, e⟩ := He.ba e
  obtain ⟨e7, e⟩ := He.ba e
  obtain ⟨e8, e⟩ := He.ba e
  obtain ⟨e9, e⟩ := He.ba e
  obtain ⟨e10, e⟩ := He.ba e
  obtain ⟨e11, e⟩ := He.ba e
  obtain ⟨e12, e⟩ := He.ba e
  obtain ⟨e13, e⟩ := He.ba e
  obtain ⟨e14, e⟩ := He.ba e
  obtain ⟨e15, e⟩ := He.ba e
  obtain ⟨e16, e17⟩ := He.ba e
  obtain ⟨oc, kV, doc, pm, ct, ccl, cl, od, an, cdd, cld, osl, ccs, csl, cc, cda, vs, file, tf, k1, k2, k3, k4, k5, k6⟩ := iCell_ok e12 io
  obtain ⟨ar, m, k, q1, q2, q3, q4, q5, q6, q7, q8, q9, q10, i1, i2, i3, i4, i5, i6, i7, i8, i9, i10, i11, i12, i13, i14, i15, i16, i17⟩ := is.ex
  refine ⟨gx, gs, ⟨He.ma K (He.ga K x) "__init__", clsB_ok e1, He.eqO_ok e2, He.eqO_ok e3, He.eqO_ok e4, of_decide_eq_true e5, e6, of_decide_eq_true e7, of_decide_eq_true e8, of_decide_eq_true e9, of_decide_eq_true e10, He.eqO_ok e11, opq, by decide +kernel, ?_⟩,
    He.eqO_ok e13, He.eqO_ok e14, e15, He.eqO_ok e16, hn, ht, of_decide_eq_true e17⟩
  exact ⟨q, defArgs st, defBody st, defScope st, oc, kV, doc, pm, ct, ccl, cl, od, an, cdd, cld, osl, ccs, csl, cc, cda, vs, file, tf, ar, m, k, q1, q2, q3, q4, q5, q6, q7, q8, q9, q10, k1, k2, i1, i2, i3, i4 q cc cda kV doc pm ct an, i5, i6, i7, i8, i9, i10, i11, i12, i13, i14, k3, k4, k5, k6, i15, i16, i17⟩
end
def ZZ (K : PySem.W.Frag) (t : Tok) : Ad := ⟨He.ga K "Forest", He.ga K "NotFair", He.ga K "BadRecord", He.ga K "BadPlace", He.ga K "CannotLand", t⟩
def BB (K : PySem.W.Frag) : Bd := ⟨He.ga K "FieldridesError", He.ga K "Marked", He.ga K "BadForest", He.ga K "BadAnswer", He.ga K "BadLetter", He.ga K "BadTree", He.ga K "FieldsDiffer", He.ga K "HangsOn", He.ga K "NoRecord", He.ga K "Overlap"⟩
theorem all4 {p : Addr → Prop} {a b c d : Addr} (h1 : p a) (h2 : p b) (h3 : p c) (h4 : p d) : ∀ C ∈ [a, b, c, d], p C := by
  intro C hC
  simp only [List.mem_cons, List.not_mem_nil, or_false] at hC
  rcases hC with rfl | rfl | rfl | rfl
  · exact h1
  · exact h2
  · exact h3
  · exact h4
section
variable {K : PySem.W.Frag} {h : Heap} {mg : Str → Option Value}
theorem exB_ok (c : SaysM K) : PySem.W.nsIn K cStatics "thirdparty.any" = some none ∧ PySem.W.specialIn K (.builtin "object.__class__") "__get__" = some (some (.builtin "getset_descriptor.__get__")) ∧ PySem.W.takesIn K (.builtin "object.__class__") = some true ∧
    errB K "NotFair" "field" "NotFair.__init__" = true ∧ errB K "BadRecord" "record" "BadRecord.__init__" = true ∧ errB K "BadPlace" "place" "BadPlace.__init__" = true ∧ errB K "CannotLand" "field" "CannotLand.__init__" = true ∧
    kiB2 K "NotFair" = true ∧ kiB2 K "BadRecord" = true ∧ kiB2 K "BadPlace" = true ∧ kiB2 K "CannotLand" = true := by
  have e : exB K = true := c.x
  obtain ⟨e1, e⟩ := He.ba e
  obtain ⟨e2, e⟩ := He.ba e
  obtain ⟨e3, e⟩ := He.ba e
  obtain ⟨e4, e⟩ := He.ba e
  obtain ⟨e5, e⟩ := He.ba e
  obtain ⟨e6, e⟩ := He.ba e
  obtain ⟨e7, e⟩ := He.ba e
  obtain ⟨e8, e⟩ := He.ba e
  obtain ⟨e9, e⟩ := He.ba e
  obtain ⟨e10, e11⟩ := He.ba e
  exact ⟨He.eqO_ok e1, of_decide_eq_true e2, of_decide_eq_true e3, e4, e5, e6, e7, e8, e9, e10, e11⟩
theorem kiB2_ok {x : Str} (e : kiB2 K x = true) : PySem.W.kitOne K (.ref (He.ga K x)) (.type "ValueError") = some true ∧ PySem.W.kitOne K (.ref (He.ga K x)) (.ref (He.ga K "Marked")) = some false ∧ PySem.W.kitOne K (.ref (He.ga K x)) (.ref (He.ga K "BadForest")) = some false ∧
    PySem.W.kitAny K (.ref (He.ga K x)) [.ref (He.ga K "BadAnswer"), .ref (He.ga K "BadLetter"), .ref (He.ga K "BadTree"), .ref (He.ga K "FieldsDiffer"), .ref (He.ga K "HangsOn"), .ref (He.ga K "NoRecord"), .ref (He.ga K "Overlap")] = some false ∧
    PySem.W.kitOne K (.ref (He.ga K x)) (.ref (He.ga K "NotFair")) = some (decide (x = "NotFair")) ∧ PySem.W.kitOne K (.ref (He.ga K x)) (.ref (He.ga K "BadRecord")) = some (decide (x = "BadRecord")) ∧ PySem.W.kitOne K (.ref (He.ga K x)) (.ref (He.ga K "BadPlace")) = some (decide (x = "BadPlace")) ∧ PySem.W.kitOne K (.ref (He.ga K x)) (.ref (He.ga K "CannotLand")) = some (decide (x = "CannotLand")) := by
  obtain ⟨e1, e⟩ := He.ba e
  obtain ⟨e2, e⟩ := He.ba e
  obtain ⟨e3, e⟩ := He.ba e
  obtain ⟨e4, e⟩ := He.ba e
  obtain ⟨e5, e⟩ := He.ba e
  obtain ⟨e6, e⟩ := He.ba e
  obtain ⟨e7, e8⟩ := He.ba e
  exact ⟨of_decide_eq_true e1, of_decide_eq_true e2, of_decide_eq_true e3, of_decide_eq_true e4, of_decide_eq_true e5, of_decide_eq_true e6, of_decide_eq_true e7, of_decide_eq_true e8⟩
theorem txt_of (X : K.In h) (G : h.Ns mainGlobals mg) (c : SaysM K) : ∃ t, Txt PP K (ZZ K t) mg := by
  obtain ⟨t, et⟩ := He.int_ok X G (c.d.fact 92 rfl)
  obtain ⟨o1, o2, o3, o4, o5, o6, o7, _⟩ := exB_ok c
  have gs : mg "super" = none := He.free_ok X G (c.d.fact 91 rfl)
  have ii := c.i
  unfold ivL at ii
  simp only [List.cons.injEq, and_true] at ii
  obtain ⟨i1, i2, i3, i4⟩ := ii
  exact ⟨t, {
    n_len := He.free_ok X G (c.d.fact 77 rfl)
    n_range := He.free_ok X G (c.d.fact 78 rfl)
    n_tuple := He.free_ok X G (c.d.fact 79 rfl)
    n_list := He.free_ok X G (c.d.fact 80 rfl)
    n_int := He.free_ok X G (c.d.fact 81 rfl)
    n_abs := He.free_ok X G (c.d.fact 82 rfl)
    n_sorted := He.free_ok X G (c.d.fact 83 rfl)
    n_any := He.free_ok X G (c.d.fact 84 rfl)
    n_min := He.free_ok X G (c.d.fact 85 rfl)
    n_set := He.free_ok X G (c.d.fact 86 rfl)
    n_dict := He.free_ok X G (c.d.fact 87 rfl)
    n_bool := He.free_ok X G (c.d.fact 88 rfl)
    n_isinstance := He.free_ok X G (c.d.fact 89 rfl)
    n_ValueError := He.free_ok X G (c.d.fact 90 rfl)
    c_MOST_FIELDS := et
    c_Forest := He.glo_ok X G (c.d.fact 76 rfl)
    cl := He.cls_ok (c.d.fact 93 rfl)
    na1 := He.noat_ok (c.d.fact 94 rfl)
    na2 := He.noat_ok (c.d.fact 95 rfl)
    na3 := He.noat_ok (c.d.fact 96 rfl)
    x_NotFair := errC_of (He.glo_ok X G (c.d.fact 62 rfl)) gs o4 i1 is_NotFair o1 o2 o3
    x_BadRecord := errC_of (He.glo_ok X G (c.d.fact 63 rfl)) gs o5 i2 is_BadRecord o1 o2 o3
    x_BadPlace := errC_of (He.glo_ok X G (c.d.fact 64 rfl)) gs o6 i3 is_BadPlace o1 o2 o3
    x_CannotLand := errC_of (He.glo_ok X G (c.d.fact 65 rfl)) gs o7 i4 is_CannotLand o1 o2 o3 }⟩
theorem txtA_of (X : K.In h) (G : h.Ns mainGlobals mg) (c : SaysM K) (t : Tok) : TxtA K (ZZ K t) (BB K) mg := by
  obtain ⟨_, _, _, _, _, _, _, a1, a2, a3, a4⟩ := exB_ok c
  obtain ⟨n1, n2, n3, n4, n5, n6, n7, n8⟩ := kiB2_ok a1
  obtain ⟨r1, r2, r3, r4, r5, r6, r7, r8⟩ := kiB2_ok a2
  obtain ⟨p1, p2, p3, p4, p5, p6, p7, p8⟩ := kiB2_ok a3
  obtain ⟨l1, l2, l3, l4, l5, l6, l7, l8⟩ := kiB2_ok a4
  exact {
    c_FieldridesError := He.glo_ok X G (c.d.fact 66 rfl)
    c_Marked := He.glo_ok X G (c.d.fact 67 rfl)
    c_BadForest := He.glo_ok X G (c.d.fact 68 rfl)
    c_BadAnswer := He.glo_ok X G (c.d.fact 69 rfl)
    c_BadLetter := He.glo_ok X G (c.d.fact 70 rfl)
    c_BadTree := He.glo_ok X G (c.d.fact 71 rfl)
    c_FieldsDiffer := He.glo_ok X G (c.d.fact 72 rfl)
    c_HangsOn := He.glo_ok X G (c.d.fact 73 rfl)
    c_NoRecord := He.glo_ok X G (c.d.fact 74 rfl)
    c_Overlap := He.glo_ok X G (c.d.fact 75 rfl)
    ex := all4 (He.exm_ok (c.d.fact 98 rfl)) (He.exm_ok (c.d.fact 99 rfl)) (He.exm_ok (c.d.fact 100 rfl)) (He.exm_ok (c.d.fact 101 rfl))
    kVE := all4 n1 r1 p1 l1
    kMk := all4 n2 r2 p2 l2
    kBF := all4 n3 r3 p3 l3
    kAny := all4 n4 r4 p4 l4
    kNF := ⟨n5.trans (congrArg some (by decide +kernel)), r5.trans (congrArg some (by decide +kernel)), p5.trans (congrArg some (by decide +kernel)), l5.trans (congrArg some (by decide +kernel))⟩
    kBR := ⟨n6.trans (congrArg some (by decide +kernel)), r6.trans (congrArg some (by decide +kernel)), p6.trans (congrArg some (by decide +kernel)), l6.trans (congrArg some (by decide +kernel))⟩
    kBP := ⟨n7.trans (congrArg some (by decide +kernel)), r7.trans (congrArg some (by decide +kernel)), p7.trans (congrArg some (by decide +kernel)), l7.trans (congrArg some (by decide +kernel))⟩
    kCL := ⟨n8.trans (congrArg some (by decide +kernel)), r8.trans (congrArg some (by decide +kernel)), p8.trans (congrArg some (by decide +kernel)), l8.trans (congrArg some (by decide +kernel))⟩ }
theorem at_of (X : K.In h) (G : h.Ns mainGlobals mg) (c : SaysM K) (i j : Nat) {x : Str} {st : Stmt} (h1 : faL[i]? = some (.glo x) := by rfl) (h2 : fnL[j]? = some ⟨(x, none), x, x, defArgs st, defBody st, defScope st, [], []⟩ := by rfl) : At K mg x st := by
  obtain ⟨fd, F⟩ := c.d.def_ j h2
  exact ⟨_, fd, He.glo_ok X G (c.d.fact i h1), F⟩
end
theorem facts {w : World} {K : PySem.W.Frag} {h : Heap} {mg : Str → Option Value} {f : Addr} (X : K.In h) (G : h.Ns mainGlobals mg) (hfa : mg ("law" : Str) = some (.ref f)) (c : SaysM K) :
    ∃ (fd : FuncData) (Z : Ad), (∀ (s : Shared) (v : Value), BindsTo s fd ⟨[v], []⟩ [("_law_script", v)]) ∧ ∀ base : Heap, K.In base → base.Ns mainGlobals mg → FnOk PP w K mg base CX0 8 f fd P_law (sp_law w K Z) := by
  obtain ⟨t, T⟩ := txt_of X G c
  have TA := txtA_of X G c t
  obtain ⟨fdI, FI⟩ := c.d.def_ 62 (d := d_init) rfl
  have MF : Mk K (ZZ K t).cF (He.ma K (He.ga K "Forest") "__init__") := He.mkr_ok (c.d.fact 97 rfl)
  have bF : Binds K fdI P_init [] := FI.bindsN fun _ _ _ _ _ _ us hl => match us, hl with | [_, _, _], _ => rfl
  have A_never_ends : At K mg "never_ends" s_never_ends := at_of X G c 21 21
  have A_check_shape : At K mg "check_shape" s_check_shape := at_of X G c 22 22
  have A_l_healed : At K mg "_law_healed" s_l_healed := at_of X G c 48 48
  have A_check_fair : At K mg "check_fair" s_check_fair := at_of X G c 8 8
  have A_check_place : At K mg "check_place" s_check_place := at_of X G c 6 6
  have A_check_places : At K mg "check_places" s_check_places := at_of X G c 7 7
  have A_check_record : At K mg "check_record" s_check_record := at_of X G c 5 5
  have A_check_write : At K mg "check_write" s_check_write := at_of X G c 9 9
  have A_path_of : At K mg "path_of" s_path_of := at_of X G c 2 2
  have A_fields_above : At K mg "fields_above" s_fields_above := at_of X G c 11 11
  have A_blocked_in : At K mg "blocked_in" s_blocked_in := at_of X G c 13 13
  have A_free_above : At K mg "free_above" s_free_above := at_of X G c 15 15
  have A_better : At K mg "better" s_better := at_of X G c 0 0
  have A_with_values : At K mg "with_values" s_with_values := at_of X G c 10 10
  have A_steps_of : At K mg "steps_of" s_steps_of := at_of X G c 12 12
  have A_raises_at : At K mg "raises_at" s_raises_at := at_of X G c 16 16
  have A_fewest_raises : At K mg "fewest_raises" s_fewest_raises := at_of X G c 18 18
  have A_nearest_raises : At K mg "nearest_raises" s_nearest_raises := at_of X G c 17 17
  have A_l_ask : At K mg "_law_ask" s_l_ask := at_of X G c 50 50
  have A_l_is_integer : At K mg "_law_is_integer" s_l_is_integer := at_of X G c 33 33
  have A_l_is_ascending : At K mg "_law_is_ascending" s_l_is_ascending := at_of X G c 35 35
  have A_l_is_record : At K mg "_law_is_record" s_l_is_record := at_of X G c 34 34
  have A_l_is_refusal : At K mg "_law_is_refusal" s_l_is_refusal := at_of X G c 51 51
  have A_l_path : At K mg "_law_path" s_l_path := at_of X G c 30 30
  have A_l_step : At K mg "_law_step" s_l_step := at_of X G c 42 42
  have A_l_blocked : At K mg "_law_blocked" s_l_blocked := at_of X G c 43 43
  have A_l_new : At K mg "_law_new" s_l_new := at_of X G c 44 44
  have A_l_picked : At K mg "_law_picked" s_l_picked := at_of X G c 55 55
  have A_l_raises : At K mg "_law_raises" s_l_raises := at_of X G c 56 56
  have A_l_unfair : At K mg "_law_unfair" s_l_unfair := at_of X G c 40 40
  have A_l_refusal : At K mg "_law_refusal" s_l_refusal := at_of X G c 49 49
  have A_l_holds : At K mg "_law_holds" s_l_holds := at_of X G c 59 59
  have A_l_take : At K mg "_law_take" s_l_take := at_of X G c 24 24
  have A_l_kinds : At K mg "_law_kinds" s_l_kinds := at_of X G c 29 29
  have A_l_level : At K mg "_law_level" s_l_level := at_of X G c 39 39
  have A_l_turns : At K mg "_law_turns" s_l_turns := at_of X G c 27 27
  have A_l_parents : At K mg "_law_parents" s_l_parents := at_of X G c 28 28
  have A_l_raised : At K mg "_law_raised" s_l_raised := at_of X G c 37 37
  have A_l_value : At K mg "_law_value" s_l_value := at_of X G c 25 25
  have A_l_changes : At K mg "_law_changes" s_l_changes := at_of X G c 45 45
  have A_l_record : At K mg "_law_record" s_l_record := at_of X G c 26 26
  have A_l_no_field : At K mg "_law_no_field" s_l_no_field := at_of X G c 38 38
  have A_l_spoilt : At K mg "_law_spoilt" s_l_spoilt := at_of X G c 46 46
  have A_l_tape : At K mg "_law_tape" s_l_tape := at_of X G c 23 23
  have A_l_question : At K mg "_law_question" s_l_question := at_of X G c 47 47
  have A_l_size : At K mg "_law_size" s_l_size := at_of X G c 36 36
  have A_l_stays : At K mg "_law_stays" s_l_stays := at_of X G c 41 41
  have A_l_side : At K mg "_law_side" s_l_side := at_of X G c 31 31
  have A_l_merge : At K mg "_law_merge" s_l_merge := at_of X G c 32 32
  have A_l_helps : At K mg "_law_helps" s_l_helps := at_of X G c 53 53
  have A_first_unlike_on : At K mg "first_unlike_on" s_first_unlike_on := at_of X G c 3 3
  have A_merged_record : At K mg "merged_record" s_merged_record := at_of X G c 4 4
  have A_lands : At K mg "lands" s_lands := at_of X G c 14 14
  have A_raised : At K mg "raised" s_raised := at_of X G c 1 1
  have A_with_raises : At K mg "with_raises" s_with_raises := at_of X G c 19 19
  have A_l_landed : At K mg "_law_landed" s_l_landed := at_of X G c 58 58
  have A_l_reach : At K mg "_law_reach" s_l_reach := at_of X G c 54 54
  have A_l_least : At K mg "_law_least" s_l_least := at_of X G c 57 57
  have A_l_sets : At K mg "_law_sets" s_l_sets := at_of X G c 52 52
  have A_reach : At K mg "reach" s_reach := at_of X G c 20 20
  have A_l_whole : At K mg "_law_whole" s_l_whole := at_of X G c 60 60
  have A_law : At K mg "law" s_law := at_of X G c 61 61
  obtain ⟨fL, fd, gL, FL⟩ := A_law.ex
  have e := hfa.symm.trans gL
  cases e
  have b := FunD.bindsA (ps := ["_law_script"]) FL fun _ _ _ _ _ _ us hl => match us, hl with | [_], _ => rfl
  refine ⟨fd, ZZ K t, fun s v => b s [v] rfl, fun base _ _ => ?_⟩
  have G_never_ends : Cal PP w K mg base CX0 1 "never_ends" P_never_ends (sp_never_ends w K (ZZ K t)) := ok_never_ends T A_never_ends
  have G_check_shape : Cal PP w K mg base CX0 2 "check_shape" P_check_shape (sp_check_shape w K (ZZ K t)) := ok_check_shape T A_check_shape G_never_ends
  have GI := ok_init (w := w) (base := base) T FI G_check_shape
  have G_l_healed : Cal PP w K mg base CX0 1 "_law_healed" P_l_healed (sp_l_healed w K (ZZ K t)) := ok_l_healed T A_l_healed
  have G_check_fair : Cal PP w K mg base (L2.CX PP w) 1 "check_fair" P_check_fair (sp_check_fair w K (ZZ K t)) := ok_check_fair T A_check_fair
  have G_check_place : Cal PP w K mg base (L2.CX PP w) 1 "check_place" P_check_place (sp_check_place w K (ZZ K t)) := ok_check_place T A_check_place
  have G_check_places : Cal PP w K mg base (L2.CX PP w) 2 "check_places" P_check_places (sp_check_places w K (ZZ K t)) := ok_check_places T A_check_places G_check_place
  have G_check_record : Cal PP w K mg base (L2.CX PP w) 1 "check_record" P_check_record (sp_check_record w K (ZZ K t)) := ok_check_record T A_check_record
  have G_check_write : Cal PP w K mg base (L2.CX PP w) 3 "check_write" P_check_write (sp_check_write w K (ZZ K t)) := ok_check_write T A_check_write G_check_fair G_check_places G_check_record
  have G_path_of : Cal PP w K mg base CX0 1 "path_of" P_path_of (sp_path_of w K (ZZ K t)) := ok_path_of T A_path_of
  have G_fields_above : Cal PP w K mg base CX0 2 "fields_above" P_fields_above (sp_fields_above w K (ZZ K t)) := ok_fields_above T A_fields_above G_path_of
  have G_blocked_in : Cal PP w K mg base CX0 3 "blocked_in" P_blocked_in (sp_blocked_in w K (ZZ K t)) := ok_blocked_in T A_blocked_in G_fields_above
  have G_free_above : Cal PP w K mg base CX0 3 "free_above" P_free_above (sp_free_above w K (ZZ K t)) := ok_free_above T A_free_above G_fields_above
  have G_better : Cal PP w K mg base CX0 1 "better" P_better (sp_better w K (ZZ K t)) := ok_better T A_better
  have G_with_values : Cal PP w K mg base CX0 1 "with_values" P_with_values (sp_with_values w K (ZZ K t)) := ok_with_values T A_with_values
  have G_steps_of : Cal PP w K mg base CX0 2 "steps_of" P_steps_of (sp_steps_of w K (ZZ K t)) := ok_steps_of T A_steps_of G_better G_with_values
  have G_raises_at : Cal PP w K mg base (L2.CX PP w) 4 "raises_at" P_raises_at (sp_raises_at w K (ZZ K t)) := ok_raises_at T A_raises_at G_blocked_in G_free_above G_steps_of
  have G_fewest_raises : Cal PP w K mg base (L2.CX PP w) 5 "fewest_raises" P_fewest_raises (sp_fewest_raises w K (ZZ K t)) := ok_fewest_raises T A_fewest_raises G_check_write G_raises_at
  have G_nearest_raises : Cal PP w K mg base (L2.CX PP w) 5 "nearest_raises" P_nearest_raises (sp_nearest_raises w K (ZZ K t)) := ok_nearest_raises T A_nearest_raises G_check_write G_raises_at
  have G_l_ask : Cal PP w K mg base CX0 6 "_law_ask" P_l_ask (sp_l_ask w K (ZZ K t)) := ok_l_ask T TA A_l_ask G_fewest_raises G_nearest_raises
  have G_l_is_integer : Cal PP w K mg base CX0 1 "_law_is_integer" P_l_is_integer (sp_l_is_integer w K (ZZ K t)) := ok_l_is_integer T A_l_is_integer
  have G_l_is_ascending : Cal PP w K mg base CX0 2 "_law_is_ascending" P_l_is_ascending (sp_l_is_ascending w K (ZZ K t)) := ok_l_is_ascending T A_l_is_ascending G_l_is_integer
  have G_l_is_record : Cal PP w K mg base CX0 2 "_law_is_record" P_l_is_record (sp_l_is_record w K (ZZ K t)) := ok_l_is_record T A_l_is_record G_l_is_integer
  have G_l_is_refusal : Cal PP w K mg base CX0 3 "_law_is_refusal" P_l_is_refusal (sp_l_is_refusal w K (ZZ K t)) := ok_l_is_refusal T A_l_is_refusal G_l_is_integer G_l_is_record
  have G_l_path : Cal PP w K mg base CX0 1 "_law_path" P_l_path (sp_l_path w K (ZZ K t)) := ok_l_path T A_l_path
  have G_l_step : Cal PP w K mg base CX0 1 "_law_step" P_l_step (sp_l_step w K (ZZ K t)) := ok_l_step T A_l_step
  have G_l_blocked : Cal PP w K mg base CX0 2 "_law_blocked" P_l_blocked (sp_l_blocked w K (ZZ K t)) := ok_l_blocked T A_l_blocked G_l_path G_l_step
  have G_l_new : Cal PP w K mg base CX0 1 "_law_new" P_l_new (sp_l_new w K (ZZ K t)) := ok_l_new T A_l_new
  have G_l_picked : Cal PP w K mg base CX0 1 "_law_picked" P_l_picked (sp_l_picked w K (ZZ K t)) := ok_l_picked T A_l_picked
  have G_l_raises : Cal PP w K mg base CX0 3 "_law_raises" P_l_raises (sp_l_raises w K (ZZ K t)) := ok_l_raises T A_l_raises G_l_blocked G_l_new G_l_path G_l_picked
  have G_l_unfair : Cal PP w K mg base CX0 1 "_law_unfair" P_l_unfair (sp_l_unfair w K (ZZ K t)) := ok_l_unfair T A_l_unfair
  have G_l_refusal : Cal PP w K mg base CX0 2 "_law_refusal" P_l_refusal (sp_l_refusal w K (ZZ K t)) := ok_l_refusal T A_l_refusal G_l_unfair
  have G_l_holds : Cal PP w K mg base CX0 7 "_law_holds" P_l_holds (sp_l_holds w K (ZZ K t)) := ok_l_holds T A_l_holds G_l_ask G_l_is_ascending G_l_is_refusal G_l_raises G_l_refusal
  have G_l_take : Cal PP w K mg base CX0 1 "_law_take" P_l_take (sp_l_take w K (ZZ K t)) := ok_l_take T A_l_take
  have G_l_kinds : Cal PP w K mg base CX0 2 "_law_kinds" P_l_kinds (sp_l_kinds w K (ZZ K t)) := ok_l_kinds T A_l_kinds G_l_take
  have G_l_level : Cal PP w K mg base CX0 1 "_law_level" P_l_level (sp_l_level w K (ZZ K t)) := ok_l_level T A_l_level
  have G_l_turns : Cal PP w K mg base CX0 2 "_law_turns" P_l_turns (sp_l_turns w K (ZZ K t)) := ok_l_turns T A_l_turns G_l_take
  have G_l_parents : Cal PP w K mg base CX0 3 "_law_parents" P_l_parents (sp_l_parents w K (ZZ K t)) := ok_l_parents T A_l_parents G_l_take G_l_turns
  have G_l_raised : Cal PP w K mg base CX0 1 "_law_raised" P_l_raised (sp_l_raised w K (ZZ K t)) := ok_l_raised T A_l_raised
  have G_l_value : Cal PP w K mg base CX0 2 "_law_value" P_l_value (sp_l_value w K (ZZ K t)) := ok_l_value T A_l_value G_l_take
  have G_l_changes : Cal PP w K mg base CX0 3 "_law_changes" P_l_changes (sp_l_changes w K (ZZ K t)) := ok_l_changes T A_l_changes G_l_raised G_l_take G_l_turns G_l_value
  have G_l_record : Cal PP w K mg base CX0 3 "_law_record" P_l_record (sp_l_record w K (ZZ K t)) := ok_l_record T A_l_record G_l_value
  have G_l_no_field : Cal PP w K mg base CX0 2 "_law_no_field" P_l_no_field (sp_l_no_field w K (ZZ K t)) := ok_l_no_field T A_l_no_field G_l_take
  have G_l_spoilt : Cal PP w K mg base CX0 3 "_law_spoilt" P_l_spoilt (sp_l_spoilt w K (ZZ K t)) := ok_l_spoilt T A_l_spoilt G_l_no_field G_l_take G_l_value
  have G_l_tape : Cal PP w K mg base CX0 1 "_law_tape" P_l_tape (sp_l_tape w K (ZZ K t)) := ok_l_tape T A_l_tape
  have G_l_question : Cal PP w K mg base CX0 4 "_law_question" P_l_question (sp_l_question w K (ZZ K t)) := ok_l_question T A_l_question G_l_changes G_l_record G_l_spoilt G_l_take G_l_tape
  have G_l_size : Cal PP w K mg base CX0 2 "_law_size" P_l_size (sp_l_size w K (ZZ K t)) := ok_l_size T A_l_size G_l_take
  have G_l_stays : Cal PP w K mg base CX0 1 "_law_stays" P_l_stays (sp_l_stays w K (ZZ K t)) := ok_l_stays T A_l_stays
  have G_l_side : Cal PP w K mg base CX0 2 "_law_side" P_l_side (sp_l_side w K (ZZ K t)) := ok_l_side T A_l_side G_l_path
  have G_l_merge : Cal PP w K mg base CX0 3 "_law_merge" P_l_merge (sp_l_merge w K (ZZ K t)) := ok_l_merge T A_l_merge G_l_side
  have G_l_helps : Cal PP w K mg base CX0 4 "_law_helps" P_l_helps (sp_l_helps w K (ZZ K t)) := ok_l_helps T A_l_helps G_l_merge G_l_raised
  have G_first_unlike_on : Cal PP w K mg base CX0 1 "first_unlike_on" P_first_unlike_on (sp_first_unlike_on w K (ZZ K t)) := ok_first_unlike_on T A_first_unlike_on
  have G_merged_record : Cal PP w K mg base CX0 2 "merged_record" P_merged_record (sp_merged_record w K (ZZ K t)) := ok_merged_record T A_merged_record G_better G_first_unlike_on G_path_of
  have G_lands : Cal PP w K mg base CX0 4 "lands" P_lands (sp_lands w K (ZZ K t)) := ok_lands T A_lands G_check_write G_merged_record G_with_values
  have G_raised : Cal PP w K mg base CX0 1 "raised" P_raised (sp_raised w K (ZZ K t)) := ok_raised T A_raised
  have G_with_raises : Cal PP w K mg base CX0 4 "with_raises" P_with_raises (sp_with_raises w K (ZZ K t)) := ok_with_raises T A_with_raises G_check_place G_check_write G_raised
  have G_l_landed : Cal PP w K mg base CX0 5 "_law_landed" P_l_landed (sp_l_landed w K (ZZ K t)) := ok_l_landed T A_l_landed G_lands G_with_raises
  have G_l_reach : Cal PP w K mg base CX0 2 "_law_reach" P_l_reach (sp_l_reach w K (ZZ K t)) := ok_l_reach T A_l_reach G_l_path
  have G_l_least : Cal PP w K mg base CX0 3 "_law_least" P_l_least (sp_l_least w K (ZZ K t)) := ok_l_least T A_l_least G_l_reach
  have G_l_sets : Cal PP w K mg base CX0 1 "_law_sets" P_l_sets (sp_l_sets w K (ZZ K t)) := ok_l_sets T A_l_sets
  have G_reach : Cal PP w K mg base CX0 3 "reach" P_reach (sp_reach w K (ZZ K t)) := ok_reach T A_reach G_check_fair G_check_places G_path_of
  have G_l_whole : Cal PP w K mg base CX0 6 "_law_whole" P_l_whole (sp_l_whole w K (ZZ K t)) := ok_l_whole T A_l_whole G_l_helps G_l_is_ascending G_l_landed G_l_least G_l_new G_l_raises G_l_reach G_l_sets G_reach
  exact ok_law (w := w) (base := base) T FL G_l_healed G_l_holds G_l_kinds G_l_level G_l_parents G_l_question G_l_size G_l_stays G_l_take G_l_tape G_l_whole MF bF GI
end K56
open PySem PySem.W PySem.Calls PyProof.Rows
theorem PySem.Challenge.cw_fieldrides_k56_whole_raises_holds : PySem.Challenge.rw_fieldrides_k56_whole_raises.Holds := by
  w_on; o_law
  refine HandSHeadRun.head_any (r := OpenLaw.row PySem.Challenge.rw_fieldrides_k56_whole_raises) (q := view (OpenLaw.row PySem.Challenge.rw_fieldrides_k56_whole_raises).prog [83]) (H := K56.hkM) (ob := K56.obM) (M := 12000) (loose := K56.looseL) (d := HandSHeadRun.topDef (OpenLaw.row PySem.Challenge.rw_fieldrides_k56_whole_raises).prog 83) (kwd := []) K56.obM_eq
    (by kernel_rfl) (fun s => by kernel_rfl) K56.runM (by kernel_rfl) (by kernel_rfl) (by kernel_rfl) (by rfl) (by first | assumption | decide +kernel) (by decide +kernel) ⟨rfl, rfl, rfl, rfl, rfl, by decide +kernel⟩ ?hw ?hc
  case hw => w_witness2
  case hc =>
    refine L2.walk_ofE (l := PySem.Challenge.rw_fieldrides_k56_whole_raises) (n := 63) (k := 8) (x := "_law_script") (CX := L2.CX0) rfl (by decide) (by kernel_rfl) ⟨rfl, by decide, by decide⟩ ?F (fun _ _ _ _ z => z)
    intro w mg fa h Y G hmg0
    obtain ⟨K, KX, c⟩ := Y
    have hmg : mg ("law" : PySem.Str) = some (.ref fa) := by
      have e : (HandSHeadRun.topDef (OpenLaw.row PySem.Challenge.rw_fieldrides_k56_whole_raises).prog 83).name = ("law" : PySem.Str) := by kernel_rfl
      rw [← e]
      exact hmg0
    obtain ⟨fd, Z, hb, hF⟩ := K56.facts (w := w) KX G hmg c
    exact ⟨K, fd, K56.sp_law w K Z, KX, hb, fun H a ns hl _ hS => ⟨a, ns, rfl, hS, fun _ => rfl⟩, hF⟩
