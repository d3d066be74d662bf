import PyProof.Rows.All
import Wide.All
import OpenK.AllK
import Wide.FinOn
import KE.KStateDown
import Lean
import HandS.ForMost
import HandS.Exc
import HandS.More
import HandS.Defaults
import HandS.Head0
import HandS.Head1
import HandS.Head2
import HandS.HeadEnd
import HandS.HeadHook1
import HandS.HeadHook2
import HandS.HeadHook3
import HandS.HeadHook4
import HandS.Property
import PySem.Challenge.RW_screentruth_k33_whole_lists
import HandS.Star
import HandS.IsInst
import HandS.Evl
import HandS.MakeKwOnly
import HandS.TupAny
import HandS.Style
import HandS.DictComp
import HandS.DictTup
import PyProof.RulesMatch
import HandS.Flow
import HandS.Walk
import HandS.SortRule
import KE.KSortTupAny
import PyProof.DictUpdate
import HandS.GenList
import HandS.Strs
import HandS.Zip
import HandS.TupLe
import HandS.GenCall
import HandS.Conv
import HandS.ListItems
import KE.KDictItemsList
import KE.KDictPairs
import KE.KEqDict
import HandS.TupLen
import HandS.Wide
set_option Elab.async false
set_option linter.all false
set_option maxRecDepth 100000
set_option maxHeartbeats 0
/-! Sc0: the text by places, the head's facts by names, the head's run. Printed by gen0.py. -/
namespace Sc
open PySem PySem.Spec PyProof.Rows L2
def top (i : Nat) : Stmt := PySem.Challenge.pw_screentruth_k33_whole_lists.main.body.getD i (.Pass ⟨0, 0, 0, 0⟩)
abbrev s_is_integer : Stmt := top 14
abbrev s_is_word : Stmt := top 15
abbrev s_are_edits : Stmt := top 16
abbrev s_Scheme___init__ : Stmt := inClass (top 17) 0
abbrev s_check_scheme : Stmt := top 18
abbrev s_are_cares : Stmt := top 19
abbrev s_check_cares : Stmt := top 20
abbrev s_in_order : Stmt := top 21
abbrev s_check_both : Stmt := top 22
abbrev s_edited : Stmt := top 23
abbrev s_deeds_of : Stmt := top 30
abbrev s_all_deeds : Stmt := top 31
abbrev s_is_deed_of : Stmt := top 32
abbrev s_Machine___init__ : Stmt := inClass (top 33) 0
abbrev s_Machine_store : Stmt := inClass (top 33) 5
abbrev s_Machine_can : Stmt := inClass (top 33) 12
abbrev s_Machine_possible : Stmt := inClass (top 33) 13
abbrev s_Machine_do : Stmt := inClass (top 33) 14
abbrev s_has : Stmt := top 34
abbrev s_first_with : Stmt := top 35
abbrev s_is_possible : Stmt := top 36
abbrev s_is_letter_possible : Stmt := top 37
abbrev s_send : Stmt := top 38
abbrev s_set_mark : Stmt := top 39
abbrev s_leave : Stmt := top 40
abbrev s_write : Stmt := top 41
abbrev s_send_edit : Stmt := top 42
abbrev s_done : Stmt := top 43
abbrev s_done_with : Stmt := top 44
abbrev s_arrive : Stmt := top 45
abbrev s_take_edit : Stmt := top 46
abbrev s_take_answer : Stmt := top 47
abbrev s_is_version : Stmt := top 48
abbrev s_take_copy : Stmt := top 49
abbrev s_failure_of_machines : Stmt := top 50
abbrev s_failure_at : Stmt := top 52
abbrev s_check_deeds : Stmt := top 56
abbrev s_answer_of : Stmt := top 57
abbrev s_answers : Stmt := top 58
abbrev s_failure_of_lists : Stmt := top 59
abbrev s_sets_of : Stmt := top 61
abbrev s_later_cares : Stmt := top 62
abbrev s_good_sets : Stmt := top 63
abbrev s_sufficient : Stmt := top 64
abbrev s_contains : Stmt := top 65
abbrev s_least_sets : Stmt := top 66
abbrev s_needed : Stmt := top 67
abbrev s_harms : Stmt := top 68
abbrev s_additions : Stmt := top 69
abbrev s_failure_with : Stmt := top 70
abbrev s_Repair___init__ : Stmt := inClass (top 71) 0
abbrev s_Repair_shows : Stmt := inClass (top 71) 2
abbrev s_repair : Stmt := top 72
abbrev s__law_cell_at : Stmt := top 74
abbrev s__law_draw : Stmt := top 75
abbrev s__law_number : Stmt := top 76
abbrev s__law_next : Stmt := top 77
abbrev s__law_pick : Stmt := top 78
abbrev s__law_scheme : Stmt := top 79
abbrev s__law_cares : Stmt := top 80
abbrev s__law_deeds : Stmt := top 81
abbrev s__law_answers : Stmt := top 82
abbrev s__law_failure : Stmt := top 83
abbrev s__law_sets : Stmt := top 84
abbrev s__law_within : Stmt := top 85
abbrev s__law_likely : Stmt := top 86
abbrev s__law_sets_right : Stmt := top 87
abbrev s__law_repair_right : Stmt := top 88
abbrev s_law : Stmt := top 89
def d_is_integer : He.DefD := ⟨("is_integer", none), "is_integer", "is_integer", defArgs s_is_integer, defBody s_is_integer, defScope s_is_integer, [], []⟩
def d_is_word : He.DefD := ⟨("is_word", none), "is_word", "is_word", defArgs s_is_word, defBody s_is_word, defScope s_is_word, [], []⟩
def d_are_edits : He.DefD := ⟨("are_edits", none), "are_edits", "are_edits", defArgs s_are_edits, defBody s_are_edits, defScope s_are_edits, [], []⟩
def d_Scheme___init__ : He.DefD := ⟨("Scheme", some "__init__"), "__init__", "Scheme.__init__", defArgs s_Scheme___init__, defBody s_Scheme___init__, defScope s_Scheme___init__, [], [("most", .int 1), ("line", .int 1), ("others", .bl false), ("losses", .bl false), ("doubles", .bl false), ("refusals", .bl false), ("reloads", .bl false)]⟩
def d_check_scheme : He.DefD := ⟨("check_scheme", none), "check_scheme", "check_scheme", defArgs s_check_scheme, defBody s_check_scheme, defScope s_check_scheme, [], []⟩
def d_are_cares : He.DefD := ⟨("are_cares", none), "are_cares", "are_cares", defArgs s_are_cares, defBody s_are_cares, defScope s_are_cares, [], []⟩
def d_check_cares : He.DefD := ⟨("check_cares", none), "check_cares", "check_cares", defArgs s_check_cares, defBody s_check_cares, defScope s_check_cares, [], []⟩
def d_in_order : He.DefD := ⟨("in_order", none), "in_order", "in_order", defArgs s_in_order, defBody s_in_order, defScope s_in_order, [], []⟩
def d_check_both : He.DefD := ⟨("check_both", none), "check_both", "check_both", defArgs s_check_both, defBody s_check_both, defScope s_check_both, [], []⟩
def d_edited : He.DefD := ⟨("edited", none), "edited", "edited", defArgs s_edited, defBody s_edited, defScope s_edited, [], []⟩
def d_deeds_of : He.DefD := ⟨("deeds_of", none), "deeds_of", "deeds_of", defArgs s_deeds_of, defBody s_deeds_of, defScope s_deeds_of, [], []⟩
def d_all_deeds : He.DefD := ⟨("all_deeds", none), "all_deeds", "all_deeds", defArgs s_all_deeds, defBody s_all_deeds, defScope s_all_deeds, [], []⟩
def d_is_deed_of : He.DefD := ⟨("is_deed_of", none), "is_deed_of", "is_deed_of", defArgs s_is_deed_of, defBody s_is_deed_of, defScope s_is_deed_of, [], []⟩
def d_Machine___init__ : He.DefD := ⟨("Machine", some "__init__"), "__init__", "Machine.__init__", defArgs s_Machine___init__, defBody s_Machine___init__, defScope s_Machine___init__, [], [("cares", .glo "ALL_CARES")]⟩
def d_Machine_can : He.DefD := ⟨("Machine", some "can"), "can", "Machine.can", defArgs s_Machine_can, defBody s_Machine_can, defScope s_Machine_can, [], []⟩
def d_Machine_possible : He.DefD := ⟨("Machine", some "possible"), "possible", "Machine.possible", defArgs s_Machine_possible, defBody s_Machine_possible, defScope s_Machine_possible, [], []⟩
def d_Machine_do : He.DefD := ⟨("Machine", some "do"), "do", "Machine.do", defArgs s_Machine_do, defBody s_Machine_do, defScope s_Machine_do, [], []⟩
def d_has : He.DefD := ⟨("has", none), "has", "has", defArgs s_has, defBody s_has, defScope s_has, [], []⟩
def d_first_with : He.DefD := ⟨("first_with", none), "first_with", "first_with", defArgs s_first_with, defBody s_first_with, defScope s_first_with, [], []⟩
def d_is_possible : He.DefD := ⟨("is_possible", none), "is_possible", "is_possible", defArgs s_is_possible, defBody s_is_possible, defScope s_is_possible, [], []⟩
def d_is_letter_possible : He.DefD := ⟨("is_letter_possible", none), "is_letter_possible", "is_letter_possible", defArgs s_is_letter_possible, defBody s_is_letter_possible, defScope s_is_letter_possible, [], []⟩
def d_send : He.DefD := ⟨("send", none), "send", "send", defArgs s_send, defBody s_send, defScope s_send, [], []⟩
def d_set_mark : He.DefD := ⟨("set_mark", none), "set_mark", "set_mark", defArgs s_set_mark, defBody s_set_mark, defScope s_set_mark, [], []⟩
def d_leave : He.DefD := ⟨("leave", none), "leave", "leave", defArgs s_leave, defBody s_leave, defScope s_leave, [], []⟩
def d_write : He.DefD := ⟨("write", none), "write", "write", defArgs s_write, defBody s_write, defScope s_write, [], []⟩
def d_send_edit : He.DefD := ⟨("send_edit", none), "send_edit", "send_edit", defArgs s_send_edit, defBody s_send_edit, defScope s_send_edit, [], []⟩
def d_done : He.DefD := ⟨("done", none), "done", "done", defArgs s_done, defBody s_done, defScope s_done, [], []⟩
def d_done_with : He.DefD := ⟨("done_with", none), "done_with", "done_with", defArgs s_done_with, defBody s_done_with, defScope s_done_with, [], []⟩
def d_arrive : He.DefD := ⟨("arrive", none), "arrive", "arrive", defArgs s_arrive, defBody s_arrive, defScope s_arrive, [], []⟩
def d_take_edit : He.DefD := ⟨("take_edit", none), "take_edit", "take_edit", defArgs s_take_edit, defBody s_take_edit, defScope s_take_edit, [], []⟩
def d_take_answer : He.DefD := ⟨("take_answer", none), "take_answer", "take_answer", defArgs s_take_answer, defBody s_take_answer, defScope s_take_answer, [], []⟩
def d_is_version : He.DefD := ⟨("is_version", none), "is_version", "is_version", defArgs s_is_version, defBody s_is_version, defScope s_is_version, [], []⟩
def d_take_copy : He.DefD := ⟨("take_copy", none), "take_copy", "take_copy", defArgs s_take_copy, defBody s_take_copy, defScope s_take_copy, [], []⟩
def d_failure_of_machines : He.DefD := ⟨("failure_of_machines", none), "failure_of", "failure_of", defArgs s_failure_of_machines, defBody s_failure_of_machines, defScope s_failure_of_machines, [], []⟩
def d_failure_at : He.DefD := ⟨("failure_at", none), "failure_at", "failure_at", defArgs s_failure_at, defBody s_failure_at, defScope s_failure_at, [], []⟩
def d_check_deeds : He.DefD := ⟨("check_deeds", none), "check_deeds", "check_deeds", defArgs s_check_deeds, defBody s_check_deeds, defScope s_check_deeds, [], []⟩
def d_answer_of : He.DefD := ⟨("answer_of", none), "answer_of", "answer_of", defArgs s_answer_of, defBody s_answer_of, defScope s_answer_of, [], []⟩
def d_answers : He.DefD := ⟨("answers", none), "answers", "answers", defArgs s_answers, defBody s_answers, defScope s_answers, [], []⟩
def d_failure_of_lists : He.DefD := ⟨("failure_of_lists", none), "failure_of", "failure_of", defArgs s_failure_of_lists, defBody s_failure_of_lists, defScope s_failure_of_lists, [], []⟩
def d_sets_of : He.DefD := ⟨("sets_of", none), "sets_of", "sets_of", defArgs s_sets_of, defBody s_sets_of, defScope s_sets_of, [], []⟩
def d_later_cares : He.DefD := ⟨("later_cares", none), "later_cares", "later_cares", defArgs s_later_cares, defBody s_later_cares, defScope s_later_cares, [], []⟩
def d_good_sets : He.DefD := ⟨("good_sets", none), "good_sets", "good_sets", defArgs s_good_sets, defBody s_good_sets, defScope s_good_sets, [], []⟩
def d_sufficient : He.DefD := ⟨("sufficient", none), "sufficient", "sufficient", defArgs s_sufficient, defBody s_sufficient, defScope s_sufficient, [], []⟩
def d_contains : He.DefD := ⟨("contains", none), "contains", "contains", defArgs s_contains, defBody s_contains, defScope s_contains, [], []⟩
def d_least_sets : He.DefD := ⟨("least_sets", none), "least_sets", "least_sets", defArgs s_least_sets, defBody s_least_sets, defScope s_least_sets, [], []⟩
def d_needed : He.DefD := ⟨("needed", none), "needed", "needed", defArgs s_needed, defBody s_needed, defScope s_needed, [], []⟩
def d_harms : He.DefD := ⟨("harms", none), "harms", "harms", defArgs s_harms, defBody s_harms, defScope s_harms, [], []⟩
def d_additions : He.DefD := ⟨("additions", none), "additions", "additions", defArgs s_additions, defBody s_additions, defScope s_additions, [], []⟩
def d_failure_with : He.DefD := ⟨("failure_with", none), "failure_with", "failure_with", defArgs s_failure_with, defBody s_failure_with, defScope s_failure_with, [], []⟩
def d_Repair___init__ : He.DefD := ⟨("Repair", some "__init__"), "__init__", "Repair.__init__", defArgs s_Repair___init__, defBody s_Repair___init__, defScope s_Repair___init__, [], []⟩
def d_Repair_shows : He.DefD := ⟨("Repair", some "shows"), "shows", "Repair.shows", defArgs s_Repair_shows, defBody s_Repair_shows, defScope s_Repair_shows, [], []⟩
def d_repair : He.DefD := ⟨("repair", none), "repair", "repair", defArgs s_repair, defBody s_repair, defScope s_repair, [], []⟩
def d__law_cell_at : He.DefD := ⟨("_law_cell_at", none), "_law_cell_at", "_law_cell_at", defArgs s__law_cell_at, defBody s__law_cell_at, defScope s__law_cell_at, [], []⟩
def d__law_draw : He.DefD := ⟨("_law_draw", none), "_law_draw", "_law_draw", defArgs s__law_draw, defBody s__law_draw, defScope s__law_draw, [], []⟩
def d__law_number : He.DefD := ⟨("_law_number", none), "_law_number", "_law_number", defArgs s__law_number, defBody s__law_number, defScope s__law_number, [], []⟩
def d__law_next : He.DefD := ⟨("_law_next", none), "_law_next", "_law_next", defArgs s__law_next, defBody s__law_next, defScope s__law_next, [], []⟩
def d__law_pick : He.DefD := ⟨("_law_pick", none), "_law_pick", "_law_pick", defArgs s__law_pick, defBody s__law_pick, defScope s__law_pick, [], []⟩
def d__law_scheme : He.DefD := ⟨("_law_scheme", none), "_law_scheme", "_law_scheme", defArgs s__law_scheme, defBody s__law_scheme, defScope s__law_scheme, [], []⟩
def d__law_cares : He.DefD := ⟨("_law_cares", none), "_law_cares", "_law_cares", defArgs s__law_cares, defBody s__law_cares, defScope s__law_cares, [], []⟩
def d__law_deeds : He.DefD := ⟨("_law_deeds", none), "_law_deeds", "_law_deeds", defArgs s__law_deeds, defBody s__law_deeds, defScope s__law_deeds, [], []⟩
def d__law_answers : He.DefD := ⟨("_law_answers", none), "_law_answers", "_law_answers", defArgs s__law_answers, defBody s__law_answers, defScope s__law_answers, [], []⟩
def d__law_failure : He.DefD := ⟨("_law_failure", none), "_law_failure", "_law_failure", defArgs s__law_failure, defBody s__law_failure, defScope s__law_failure, [], []⟩
def d__law_sets : He.DefD := ⟨("_law_sets", none), "_law_sets", "_law_sets", defArgs s__law_sets, defBody s__law_sets, defScope s__law_sets, [], []⟩
def d__law_within : He.DefD := ⟨("_law_within", none), "_law_within", "_law_within", defArgs s__law_within, defBody s__law_within, defScope s__law_within, [], []⟩
def d__law_likely : He.DefD := ⟨("_law_likely", none), "_law_likely", "_law_likely", defArgs s__law_likely, defBody s__law_likely, defScope s__law_likely, [], []⟩
def d__law_sets_right : He.DefD := ⟨("_law_sets_right", none), "_law_sets_right", "_law_sets_right", defArgs s__law_sets_right, defBody s__law_sets_right, defScope s__law_sets_right, [], []⟩
def d__law_repair_right : He.DefD := ⟨("_law_repair_right", none), "_law_repair_right", "_law_repair_right", defArgs s__law_repair_right, defBody s__law_repair_right, defScope s__law_repair_right, [], []⟩
def d_law : He.DefD := ⟨("law", none), "law", "law", defArgs s_law, defBody s_law, defScope s_law, [], []⟩
def fn : List He.DefD := [d_is_integer, d_is_word, d_are_edits, d_Scheme___init__, d_check_scheme, d_are_cares, d_check_cares, d_in_order, d_check_both, d_edited, d_deeds_of, d_all_deeds, d_is_deed_of, d_Machine___init__, d_Machine_can, d_Machine_possible, d_Machine_do, d_has, d_first_with, d_is_possible, d_is_letter_possible, d_send, d_set_mark, d_leave, d_write, d_send_edit, d_done, d_done_with, d_arrive, d_take_edit, d_take_answer, d_is_version, d_take_copy, d_failure_of_machines, d_failure_at, d_check_deeds, d_answer_of, d_answers, d_failure_of_lists, d_sets_of, d_later_cares, d_good_sets, d_sufficient, d_contains, d_least_sets, d_needed, d_harms, d_additions, d_failure_with, d_Repair___init__, d_Repair_shows, d_repair, d__law_cell_at, d__law_draw, d__law_number, d__law_next, d__law_pick, d__law_scheme, d__law_cares, d__law_deeds, d__law_answers, d__law_failure, d__law_sets, d__law_within, d__law_likely, d__law_sets_right, d__law_repair_right, d_law]
def fa : List He.Fa := [.glo "is_integer", .glo "is_word", .glo "are_edits", .glo "check_scheme", .glo "are_cares", .glo "check_cares", .glo "in_order", .glo "check_both", .glo "edited", .glo "deeds_of", .glo "all_deeds", .glo "is_deed_of", .glo "has", .glo "first_with", .glo "is_possible", .glo "is_letter_possible", .glo "send", .glo "set_mark", .glo "leave", .glo "write", .glo "send_edit", .glo "done", .glo "done_with", .glo "arrive", .glo "take_edit", .glo "take_answer", .glo "is_version", .glo "take_copy", .glo "failure_of_machines", .glo "failure_at", .glo "check_deeds", .glo "answer_of", .glo "answers", .glo "failure_of_lists", .glo "sets_of", .glo "later_cares", .glo "good_sets", .glo "sufficient", .glo "contains", .glo "least_sets", .glo "needed", .glo "harms", .glo "additions", .glo "failure_with", .glo "repair", .glo "_law_cell_at", .glo "_law_draw", .glo "_law_number", .glo "_law_next", .glo "_law_pick", .glo "_law_scheme", .glo "_law_cares", .glo "_law_deeds", .glo "_law_answers", .glo "_law_failure", .glo "_law_sets", .glo "_law_within", .glo "_law_likely", .glo "_law_sets_right", .glo "_law_repair_right", .glo "law", .glo "Scheme", .cls "Scheme", .mkr "Scheme", .keep "Scheme", .glo "Machine", .cls "Machine", .mkr "Machine", .keep "Machine", .glo "Repair", .cls "Repair", .mkr "Repair", .keep "Repair", .noat "Scheme" "kinds", .noat "Scheme" "room", .noat "Scheme" "way", .noat "Scheme" "events", .noat "Machine" "plan", .noat "Machine" "given", .noat "Machine" "stored", .noat "Machine" "written", .noat "Machine" "seen", .noat "Machine" "rows", .noat "Machine" "post", .noat "Machine" "fates", .noat "Machine" "passed", .noat "Machine" "made", .noat "Machine" "end", .noat "Machine" "trail", .noat "Repair" "added", .noat "Repair" "doubts", .meth "Machine" "can", .meth "Machine" "possible", .meth "Machine" "do", .meth "Repair" "shows", .int "MAX_MOST" 2, .int "MAX_LINE" 2, .int "VALUES" 2, .int "MAX_DEEDS" 40, .str "REFUSED" "refused", .str "NEW" "new", .str "SENT" "sent", .str "NO" "no", .glo "ALL_CARES", .glo "EDITS", .glo "PLAIN", .glo "OF_LETTERS", .free "len", .free "isinstance", .free "all", .free "any", .free "list", .free "tuple", .free "dict", .free "range", .free "zip", .free "int", .free "bool", .free "str", .free "sorted", .free "max", .free "min"]
def tv_ALL_CARES : List He.Dv := [.str "lays", .str "matches", .str "lists", .str "newer", .str "keys", .str "turns", .str "retries", .str "undoes", .str "saves"]
def tv_EDITS : List He.Dv := [.str "up", .str "nil"]
def tv_PLAIN : List He.Dv := [.str "send", .str "again", .str "ask", .str "other", .str "reload"]
def tv_OF_LETTERS : List He.Dv := [.str "carry", .str "double", .str "lose", .str "refuse"]
/-- the getter of Machine.store -/
def storeP (K : PySem.W.Frag) : Addr := He.ma K (He.ga K "Machine") "store"
def storeG (K : PySem.W.Frag) : Addr := match PySem.W.recIn K (storeP K) "property" with
  | some (.ref g :: _) => g
  | _ => 0
def fnWA (K : PySem.W.Frag) (a : Addr) : He.FnW := match K.lookup a with
  | some ⟨_, _, .func fd, _⟩ => some (fd.name, fd.qualname, fd.params, fd.body, fd.scope, fd.globals, fd.closure, fd.builtins)
  | _ => none
def propB (K : PySem.W.Frag) : Bool := He.eqO (PySem.W.findIn K (.ref (He.ga K "Machine")) "store") (some (some (.ref (storeP K)))) && (decide (PySem.W.specialIn K (.ref (storeP K)) "__get__" = some (some (.builtin "property.__get__"))) &&
  (decide (PySem.W.takesIn K (.ref (storeP K)) = some true) && ((match PySem.W.recIn K (storeP K) "property" with
    | some (.ref _ :: _) => true
    | _ => false) && (PySem.W.keepIn K (.ref (storeG K)) && (match K.lookup (storeG K) with
    | some ⟨_, _, .func fd, _⟩ => PySem.W.codeIn K fd.code "Machine.store" && (He.dflB K fd.defaults [] && He.kwdB K fd.kwdefaults [])
    | _ => false)))))
def d_store : He.DefD := ⟨("Machine", some "store"), "store", "Machine.store", defArgs s_Machine_store, defBody s_Machine_store, defScope s_Machine_store, [], []⟩
def isiB (K : PySem.W.Frag) : Bool := decide (PySem.W.kitOne K (.ref (He.ga K "Scheme")) (.ref (He.ga K "Scheme")) = some true) && (He.eqO (PySem.W.findIn K (.ref (He.ga K "Scheme")) "__class__") (some (some (.builtin "object.__class__"))) &&
  (He.eqO (PySem.W.specialIn K (.builtin "object.__class__") "__get__") (some (some (.builtin "getset_descriptor.__get__"))) && (decide (PySem.W.takesIn K (.builtin "object.__class__") = some true) && decide (PySem.W.mroIn K (He.ga K "Scheme") (.type "object") = some true))))
def tupsB (K : PySem.W.Frag) : Bool := He.tupB K "ALL_CARES" tv_ALL_CARES && (He.tupB K "EDITS" tv_EDITS && (He.tupB K "PLAIN" tv_PLAIN && (He.tupB K "OF_LETTERS" tv_OF_LETTERS)))
def bareB (K : PySem.W.Frag) : Bool := match K.lookup (He.ga K "ALL_CARES") with
  | some ⟨.type c, none, _, _⟩ => decide (c = "tuple")
  | _ => false
def ex (K : PySem.W.Frag) : Bool := tupsB K && (propB K && (isiB K && bareB K))
/-! ### the Hook -/
abbrev AlS : Type := He.AlD × Bool × He.FnW
def obsS (K : PySem.W.Frag) : AlS := (He.obsD fa fn K, ex K, fnWA K (storeG K))
def valS : AlS := (He.valD fn, true, d_store.val)
def SaysS (K : PySem.W.Frag) : Prop := obsS K = valS
def obsSG (n : Nat) (g : Addr → Option Obj) : AlS := obsS (He.frG g (He.asD g n))
def hookS (n : Nat) : PySem.W.Hook where
  α := AlS
  obs := fun s => obsSG n s.heap.get?
  val := fun _ => valS
  says := fun _ h => ∃ K : PySem.W.Frag, K.In h ∧ SaysS K
  of := fun _ _ e => ⟨_, He.frG_in, e⟩
  keeps := fun _ _ _ ⟨K, hK, c⟩ k => ⟨K, PySem.W.Frag.In.keeps hK k, c⟩
theorem obsSG_eq {n : Nat} {g : Addr → Option Obj} {s : Shared} (h : ∀ a, g a = s.heap.get? a) : obsSG n g = (hookS n).obs s := by
  have e : g = s.heap.get? := funext h
  rw [e] <;> rfl
theorem SaysS.d {K : PySem.W.Frag} (c : SaysS K) : He.SaysD fa fn K := congrArg (fun z : AlS => z.1) c
theorem SaysS.more {K : PySem.W.Frag} (c : SaysS K) : ex K = true := congrArg (fun z : AlS => z.2.1) c
theorem SaysS.st {K : PySem.W.Frag} (c : SaysS K) : fnWA K (storeG K) = d_store.val := congrArg (fun z : AlS => z.2.2) c
abbrev R : PySem.W.OpenRow := PySem.W.OpenLaw.row PySem.Challenge.rw_screentruth_k33_whole_lists
abbrev LAWI : Nat := 89
def nm0 : List PySem.Str := ["_wall", "__name__", "ScreenError", "BadScheme", "BadCares", "BadDeed", "NotPossible", "BadDeeds", "ALL_CARES", "EDITS", "MAX_MOST", "MAX_LINE", "VALUES", "is_integer", "is_word", "are_edits", "Scheme", "check_scheme", "are_cares", "check_cares", "in_order", "check_both", "edited", "REFUSED", "NEW", "SENT", "PLAIN", "OF_LETTERS", "deeds_of", "all_deeds"]
def nm1 : List PySem.Str := ["is_deed_of", "Machine", "has", "first_with", "is_possible", "is_letter_possible", "send", "set_mark", "leave", "write", "send_edit", "done", "done_with", "arrive", "take_edit", "take_answer", "is_version", "take_copy", "failure_of", "failure_of_machines", "failure_at", "MAX_DEEDS", "NO", "check_deeds", "answer_of", "answers", "failure_of_lists", "sets_of", "later_cares", "good_sets"]
def nm2 : List PySem.Str := ["sufficient", "contains", "least_sets", "needed", "harms", "additions", "failure_with", "Repair", "repair", "_law_cell_at", "_law_draw", "_law_number", "_law_next", "_law_pick", "_law_scheme", "_law_cares", "_law_deeds", "_law_answers", "_law_failure", "_law_sets", "_law_within", "_law_likely", "_law_sets_right", "_law_repair_right"]
def names : List PySem.Str := nm0 ++ nm1 ++ nm2
end Sc

set_option maxHeartbeats 4000000
/-! Sc1: rules that the layer lacks (match, a call by a positional promise), the promise of a def of the text. -/
namespace Sc
open PySem PySem.Spec PyProof.Rows L2 Evl
/-! ### match over a text -/
section
variable {X : Cx} {body : List Stmt} {rest : List MatchCase} {tb : TS} {tr : V → TS} {e : Expr} {te : TE} {pos pos' ppos : Pos}
structure PMs (X : Cx) (cs : List MatchCase) (t : V → TS) : Prop where
  run : ∀ (pins : List (Addr × Obj)) (s : Shared) (σ : L2.St) (H : Hp) (D : Ends) (x : V) (u : Value) (first : Bool), Inv X pins σ H s → RelV x u → t x D σ H → wpAny (model X.prog X.w) X.A (matchCases cs X.env u first) (SP X pins D) X.xe s
def tMNil : V → TS := fun _ D σ H => D.nx σ H
def tMVal (z : Str) (tb : TS) (tr : V → TS) : V → TS := fun x D σ H => ∃ y, x = .str y ∧ if y = z then tb D σ H else tr x D σ H
def tMAny (tb : TS) : V → TS := fun _ D σ H => tb D σ H
def tMatch (te : TE) (t : V → TS) : TS := fun D σ H => te σ H fun x H1 => t x D σ H1
theorem pm_nil : PMs X [] tMNil := ⟨fun pins s σ H D x u first I r h => wpAny_matchCases_nil ⟨σ, H, I, h⟩⟩
theorem pm_val {z : Str} {k : Nat} (hb : PSs X body tb) (hr : PMs X rest tr) : PMs X (⟨.MatchValue (.Constant (.str z) k pos) pos', none, body⟩ :: rest) (tMVal z tb tr) := by
  refine ⟨fun pins s σ H D x u first I r h => ?_⟩
  obtain ⟨y, rfl, h⟩ := h
  refine wpAny_matchCases_cons (wpAny_matchPattern_Value ?_)
  refine Calls.Constant_str ?_
  have I1 : Inv X pins σ H { s with toks := s.toks + 1 } := I.tok _
  refine thn (op_eq pins _ σ H (.str y) (.str z) u _ (fun v H2 => v = .bl (decide (V.str y = V.str z)) ∧ H2 = H) I1 r ⟨_, rfl⟩ ⟨rfl, rfl, rfl⟩) fun c s2 ⟨v, H2, I2, rc, ev, eH⟩ => ?_
  subst ev
  subst eH
  cases (show c = Value.bool _ from rc)
  refine wpAny_truthy_bool ?_
  by_cases hz : y = z
  · subst hz
    rw [if_pos rfl] at h
    rw [decide_eq_true rfl]
    show wpAny _ _ (assignInOrder _ _) _ _ _
    exact wpAny_assignInOrder_none (hb.run pins s2 σ _ D I2 h)
  · rw [if_neg hz] at h
    have e : decide (V.str y = V.str z) = false := decide_eq_false fun q => hz (V.str.inj q)
    rw [e]
    exact hr.run pins s2 σ _ D (.str y) u false I2 r h
theorem pm_any (hb : PSs X body tb) : PMs X [⟨.MatchAs none none ppos, none, body⟩] (tMAny tb) := by
  refine ⟨fun pins s σ H D x u first I r h => ?_⟩
  refine wpAny_matchCases_cons (wpAny_matchPattern_Capture ?_)
  show wpAny _ _ (assignInOrder _ _) _ _ _
  exact wpAny_assignInOrder_none (hb.run pins s σ H D I h)
theorem ps_match {cs : List MatchCase} {t : V → TS} (he : PE X e te) (hc : PMs X cs t) : PS X (.Match e cs pos) (tMatch te t) := by
  refine ⟨fun pins s σ H D I h => ?_⟩
  exact wpAny_Match (thn (he.run pins s σ H _ I h) fun u s1 ⟨x, H1, I1, r, q⟩ => hc.run pins s1 σ H1 D x u true I1 r q)
end
/-! ### a call by a positional promise -/
def tCallR (sp : Sp) (E : XK) (t : TA) : TE := fun σ H Q => t σ H fun vs H1 => sp vs H1 Q E
/-- a def of the text by its global name -/
structure FR (P : Program) (w : World) (K : PySem.W.Frag) (mg : PySem.Str → Option Value) (base : Heap) (k : Nat) (x : PySem.Str) (sp : Sp) : Prop where
  F : FnR P w K mg base CX0 k (He.ga K x) sp
  kp : PySem.W.keepIn K (.ref (He.ga K x)) = true
  m : mg x = some (.ref (He.ga K x))
section
variable {X : Cx} {k j : Nat} {x : PySem.Str} {sp : Sp} {E : XK} {e : Expr} {es : List Expr} {t : TA} {p pos : Pos}
theorem pe_cR (F : FR X.prog X.w X.K X.mg X.base k x sp) (hr : Room j X.A) (hg : Gl X x) (ha : PA X (e :: es) t) (hj : k ≤ j := by decide) (hd : (x == ("__debug__" : PySem.Str)) = false := by decide)
    (he : starEach (e :: es) X.env = (false, eval e X.env) :: starEach es X.env := by rfl) (hpl : (backTo pos (starEach es X.env)).any (·.1) = false := by rfl) : PE X (.Call (.Name x p) (e :: es) [] pos) (tCallR sp E0 t) := by
  refine ⟨fun pins s σ H Q I h => ?_⟩
  refine wpAny_Call_Name_kw (ld_glob I hg F.m ?_ hd)
  refine PySem.W.callWith_K (h₀ := X.base) I.ok.mod.kin F.kp (thn (ha.run pos pins s σ H _ I h) fun us s1 ⟨vs, H1, I1, r, q⟩ => ⟨I1.kIn, ?_⟩) he hpl
  exact wpAny_call (run_fnR F.F (hr.mono hj) pass0 I1 r q)
end
/-! ### what the walk knows of the text's top -/
structure Tx (K : PySem.W.Frag) (mg : PySem.Str → Option Value) : Prop where
  c : SaysS K
  gl : ∀ x, (He.Fa.glo x).ok K = true → mg x = some (.ref (He.ga K x))
  fr : ∀ x, (He.Fa.free x).ok K = true → mg x = none
  it : ∀ x i, (He.Fa.int x i).ok K = true → ∃ t, mg x = some (.int i t)
  st : ∀ x z, (He.Fa.str x z).ok K = true → ∃ t, mg x = some (.str z t)
theorem Tx.of {K : PySem.W.Frag} {h : Heap} {mg : PySem.Str → Option Value} (X : K.In h) (G : h.Ns mainGlobals mg) (c : SaysS K) : Tx K mg :=
  ⟨c, fun _ e => He.glo_ok X G e, fun _ e => He.free_ok X G e, fun _ _ e => He.int_ok X G e, fun _ _ e => He.str_ok X G e⟩
section
variable {P : Program} {w : World} {K : PySem.W.Frag} {mg : PySem.Str → Option Value} {base : Heap}
/-- THE RULE for a def of the text without defaults -/
theorem fr_of {x nm qual : PySem.Str} {params : Arguments} {body : List Stmt} {scope : Scope} {N ps : List PySem.Str} {k : Nat} {sp : Sp} (hm : mg x = some (.ref (He.ga K x))) (F : ∃ fd, FunD K nm qual params body scope [] [] (He.ga K x) fd) (S : FnScope N ps scope)
    (hb : ∀ (kV doc pm : Value) (an : Option Addr) (cdv ct : Value) (us : List Value), us.length = ps.length → bindArgs (PySem.W.fnOf nm qual params body scope .none kV doc pm an cdv ct) ⟨us, []⟩ = pure (ps.zip us))
    (len : ∀ vs H Q E, sp vs H Q E → vs.length = ps.length)
    (hbody : ∀ (cdv : Value) (A : Around) (outer : List Env) (s : Shared) (H : Hp) (vs : List V) (Q : VK) (E : XK), Room k (A.deeper (envOfC qual scope s.heap.objs.size (He.ga K x) cdv)) → sp vs H Q E →
      ∃ t, PSs (cxOf CX0 P w K mg base N qual scope (He.ga K x) cdv A outer s H E).nox body t ∧ t { nx := fun _ H' => Q .non H', rt := Q } (start N vs) H) : FR P w K mg base (k + 1) x sp := by
  obtain ⟨fd, F⟩ := F
  refine ⟨?_, F.kp, hm⟩
  have G : FnOk P w K mg base CX0 (k + 1) (He.ga K x) fd ps sp := F.ok S len fun cdv A outer s H vs Q E hr h => by
    obtain ⟨t, h1, h2⟩ := hbody cdv A outer s H vs Q E hr h
    exact ⟨t, h1.nox, h2⟩
  have R := G.raw (F.bindsN hb) .nil
  exact R.imp fun vs H Q E h => by rw [List.append_nil]; exact h
end
end Sc

/-! Sc2: what a reading gives, told by data (PyData), through heaps that only grow. -/
namespace L2
open PySem PySem.Spec PyProof.Rows Evl
abbrev PD := PyData
/-! ### data at values -/
section
variable {K : PySem.W.Frag} {H H' : Hp} {v : V} {d : PD}
mutual
theorem dp_ex (e : Ex H H') : ∀ (d : PD) (v : V), Dp K H v d → Dp K H' v d
  | .none, _, h => by cases h; exact .non
  | .bool b, _, h => by cases h; exact .bl b
  | .int i, _, h => by cases h; exact .int i
  | .str x, _, h => by cases h; exact .str x
  | .list ds, _, h => by
    cases h with
    | lst hs ha => exact .lst (ex_l e hs) (dps_ex e ds _ ha)
  | .tuple ds, _, h => by
    cases h with
    | tup hs ha => exact .tup (ex_t e hs) (dps_ex e ds _ ha)
  | .dict _, _, h => by cases h
theorem dps_ex (e : Ex H H') : ∀ (ds : List PD) (vs : List V), DpAll K H vs ds → DpAll K H' vs ds
  | [], _, h => by cases h; exact .nil
  | d :: ds, _, h => by
    cases h with
    | cons h1 h2 => exact .cons (dp_ex e d _ h1) (dps_ex e ds _ h2)
end
theorem Dp.ex (h : Dp K H v d) (e : Ex H H') : Dp K H' v d := dp_ex e d v h
theorem DpAll.ex {vs : List V} {ds : List PD} (h : DpAll K H vs ds) (e : Ex H H') : DpAll K H' vs ds := dps_ex e ds vs h
/-- the tuples stay -/
def Tk (H H' : Hp) : Prop := ∀ a xs, Rd H a (.tup xs) → Rd H' a (.tup xs)
theorem Tk.refl (H : Hp) : Tk H H := fun _ _ h => h
theorem Tk.trans {H1 H2 : Hp} (a : Tk H H1) (b : Tk H1 H2) : Tk H H2 := fun c xs h => b c xs (a c xs h)
theorem Tk.of (e : Ex H H') : Tk H H' := fun a xs h => ex_rd e h
theorem Tk.upd {p : Addr} {o : HO} (h : ∀ xs, ¬ Rd H p (.tup xs)) : Tk H (upd H p o) := fun a xs r => by
  have ne : a ≠ p := fun e => h xs (e ▸ r)
  rcases r with r | ⟨u, r⟩
  · exact .inl (by rw [upd_ne ne]; exact r)
  · exact .inr ⟨u, by rw [upd_ne ne]; exact r⟩
theorem tk_t (e : Tk H H') {a : Addr} {xs : List V} (h : SqT K H a xs) : SqT K H' a xs := by
  rcases h with h | h
  · exact .inl (e _ _ h)
  · exact .inr h
/-! data without lists -/
mutual
def Imm : PD → Bool
  | .list _ => false
  | .dict _ => false
  | .tuple ds => ImmAll ds
  | _ => true
def ImmAll : List PD → Bool
  | [] => true
  | d :: ds => Imm d && ImmAll ds
end
mutual
theorem dp_tk (e : Tk H H') : ∀ (d : PD) (v : V), Imm d = true → Dp K H v d → Dp K H' v d
  | .none, _, _, h => by cases h; exact .non
  | .bool b, _, _, h => by cases h; exact .bl b
  | .int i, _, _, h => by cases h; exact .int i
  | .str x, _, _, h => by cases h; exact .str x
  | .list ds, _, q, h => by simp [Imm] at q
  | .tuple ds, _, q, h => by
    cases h with
    | tup hs ha => exact .tup (tk_t e hs) (dps_tk e ds _ (by simpa [Imm] using q) ha)
  | .dict _, _, _, h => by cases h
theorem dps_tk (e : Tk H H') : ∀ (ds : List PD) (vs : List V), ImmAll ds = true → DpAll K H vs ds → DpAll K H' vs ds
  | [], _, _, h => by cases h; exact .nil
  | d :: ds, _, q, h => by
    cases h with
    | cons h1 h2 =>
      simp only [ImmAll, Bool.and_eq_true] at q
      exact .cons (dp_tk e d _ q.1 h1) (dps_tk e ds _ q.2 h2)
end
theorem Dp.tk (h : Dp K H v d) (e : Tk H H') (q : Imm d = true := by rfl) : Dp K H' v d := dp_tk e d v q h
theorem DpAll.tk {vs : List V} {ds : List PD} (h : DpAll K H vs ds) (e : Tk H H') (q : ImmAll ds = true) : DpAll K H' vs ds := dps_tk e ds vs q h
theorem DpAll.length : ∀ {vs : List V} {ds : List PD}, DpAll K H vs ds → vs.length = ds.length
  | _, _, .nil => rfl
  | _, _, .cons _ t => congrArg Nat.succ t.length
theorem DpAll.get : ∀ {vs : List V} {ds : List PD} {i : Nat} {d : PD}, DpAll K H vs ds → ds[i]? = some d → ∃ v, vs[i]? = some v ∧ Dp K H v d
  | _, _, _, _, .nil, e => by simp at e
  | _, _, 0, _, .cons r _, e => by simp at e; subst e; exact ⟨_, rfl, r⟩
  | _, _, i + 1, d, .cons _ t, e => by
    obtain ⟨v, h1, h2⟩ := DpAll.get (i := i) (d := d) t (by simpa using e)
    exact ⟨v, by simpa using h1, h2⟩
theorem DpAll.getV : ∀ {vs : List V} {ds : List PD} {i : Nat} {v : V}, DpAll K H vs ds → vs[i]? = some v → ∃ d, ds[i]? = some d ∧ Dp K H v d
  | _, _, _, _, .nil, e => by simp at e
  | _, _, 0, _, .cons r _, e => by simp at e; subst e; exact ⟨_, rfl, r⟩
  | _, _, i + 1, v, .cons _ t, e => by
    obtain ⟨d, h1, h2⟩ := DpAll.getV (i := i) (v := v) t (by simpa using e)
    exact ⟨d, by simpa using h1, h2⟩
theorem DpAll.append : ∀ {vs ws : List V} {ds es : List PD}, DpAll K H vs ds → DpAll K H ws es → DpAll K H (vs ++ ws) (ds ++ es)
  | _, _, _, _, .nil, s => s
  | _, _, _, _, .cons r t, s => .cons r (t.append s)
theorem DpAll.one (h : Dp K H v d) : DpAll K H [v] [d] := .cons h .nil
theorem DpAll.drop : ∀ {vs : List V} {ds : List PD} (n : Nat), DpAll K H vs ds → DpAll K H (vs.drop n) (ds.drop n)
  | _, _, 0, r => r
  | _, _, _ + 1, .nil => .nil
  | _, _, n + 1, .cons _ t => t.drop n
theorem DpAll.take : ∀ {vs : List V} {ds : List PD} (n : Nat), DpAll K H vs ds → DpAll K H (vs.take n) (ds.take n)
  | _, _, 0, _ => .nil
  | _, _, _ + 1, .nil => .nil
  | _, _, n + 1, .cons r t => .cons r (t.take n)
theorem DpAll.reverse {vs : List V} {ds : List PD} (h : DpAll K H vs ds) : DpAll K H vs.reverse ds.reverse := by
  induction vs generalizing ds with
  | nil => cases h; exact .nil
  | cons a r ih =>
    cases h with
    | cons h1 h2 =>
      rw [List.reverse_cons, List.reverse_cons]
      exact (ih h2).append (.one h1)
theorem DpAll.strs : ∀ (ss : List PySem.Str), DpAll K H (ss.map V.str) (ss.map PyData.str)
  | [] => .nil
  | s :: r => .cons (.str s) (DpAll.strs r)
theorem DpAll.bls : ∀ (ss : List Bool), DpAll K H (ss.map V.bl) (ss.map PyData.bool)
  | [] => .nil
  | s :: r => .cons (.bl s) (DpAll.bls r)
theorem DpAll.strsV : ∀ {ss : List PySem.Str} {vs : List V}, DpAll K H vs (ss.map PyData.str) → vs = ss.map V.str
  | [], _, h => by cases h; rfl
  | s :: r, _, h => by
    cases h with
    | cons h1 h2 =>
      cases h1
      rw [DpAll.strsV h2] <;> rfl
theorem DpAll.intsV : ∀ {ss : List Int} {vs : List V}, DpAll K H vs (ss.map PyData.int) → vs = ss.map V.int
  | [], _, h => by cases h; rfl
  | s :: r, _, h => by
    cases h with
    | cons h1 h2 =>
      cases h1
      rw [DpAll.intsV h2] <;> rfl
theorem DpAll.blsV : ∀ {ss : List Bool} {vs : List V}, DpAll K H vs (ss.map PyData.bool) → vs = ss.map V.bl
  | [], _, h => by cases h; rfl
  | s :: r, _, h => by
    cases h with
    | cons h1 h2 =>
      cases h1
      rw [DpAll.blsV h2] <;> rfl
theorem Dp.intV {i : Int} (h : Dp K H v (.int i)) : v = .int i := by cases h; rfl
theorem Dp.strV {i : PySem.Str} (h : Dp K H v (.str i)) : v = .str i := by cases h; rfl
theorem Dp.blV {i : Bool} (h : Dp K H v (.bool i)) : v = .bl i := by cases h; rfl
theorem Dp.nonV (h : Dp K H v .none) : v = .non := by cases h; rfl
theorem Dp.tupV {ds : List PD} (h : Dp K H v (.tuple ds)) : ∃ a vs, v = .ref a ∧ SqT K H a vs ∧ DpAll K H vs ds := by
  cases h with
  | tup hs ha => exact ⟨_, _, rfl, hs, ha⟩
theorem Dp.lstV {ds : List PD} (h : Dp K H v (.list ds)) : ∃ a vs, v = .ref a ∧ SqL K H a vs ∧ DpAll K H vs ds := by
  cases h with
  | lst hs ha => exact ⟨_, _, rfl, hs, ha⟩
/-- flat data -/
def flatP : PD → Bool
  | .none => true
  | .bool _ => true
  | .int _ => true
  | .str _ => true
  | _ => false
theorem Dp.flat (h : Dp K H v d) (f : flatP d = true) : flatV v = true := by
  cases h <;> first | rfl | cases f
theorem DpAll.flat : ∀ {vs : List V} {ds : List PD}, DpAll K H vs ds → ds.all flatP = true → vs.all flatV = true
  | _, _, .nil, _ => rfl
  | _, _, .cons r t, f => by
    simp only [List.all_cons, Bool.and_eq_true] at f ⊢
    exact ⟨r.flat f.1, t.flat f.2⟩
theorem Dp.eqv {w : V} {e : PD} (h : Dp K H v d) (h2 : Dp K H w e) (f : flatP d = true) (f2 : flatP e = true) : eqV v w = PyData.eqv d e := by
  cases h <;> cases h2 <;> first | rfl | cases f | cases f2
theorem DpAll.any {w : V} {e : PD} (h2 : Dp K H w e) (f2 : flatP e = true) : ∀ {vs : List V} {ds : List PD}, DpAll K H vs ds → ds.all flatP = true → (vs.any fun y => eqV y w) = ds.any fun y => PyData.eqv y e
  | _, _, .nil, _ => rfl
  | _, _, .cons r t, f => by
    simp only [List.all_cons, Bool.and_eq_true] at f
    rw [List.any_cons, List.any_cons, r.eqv h2 f.1 f2, DpAll.any h2 f2 t f.2]
end
end L2
namespace Sc
open PySem PySem.Spec PyProof.Rows L2 Evl
theorem any_strs (s : PySem.Str) : ∀ ss : List PySem.Str, ((ss.map PyData.str).any fun y => PyData.eqv y (.str s)) = decide (s ∈ ss)
  | [] => rfl
  | a :: r => by
    rw [List.map_cons, List.any_cons, any_strs s r]
    show ((a == s) || _) = _
    by_cases h : s = a
    · subst h; simp
    · have h' : (a == s) = false := beq_eq_false_iff_ne.mpr fun e => h e.symm
      simp [h', h]
theorem any_ints (s : Int) : ∀ ss : List Int, ((ss.map PyData.int).any fun y => PyData.eqv y (.int s)) = decide (s ∈ ss)
  | [] => rfl
  | a :: r => by
    rw [List.map_cons, List.any_cons, any_ints s r]
    show ((a == s) || _) = _
    by_cases h : s = a
    · subst h; simp
    · have h' : (a == s) = false := beq_eq_false_iff_ne.mpr fun e => h e.symm
      simp [h', h]
theorem flat_strs : ∀ ss : List PySem.Str, (ss.map PyData.str).all flatP = true
  | [] => rfl
  | a :: r => by rw [List.map_cons, List.all_cons, flat_strs r]; rfl
theorem flat_ints : ∀ ss : List Int, (ss.map PyData.int).all flatP = true
  | [] => rfl
  | a :: r => by rw [List.map_cons, List.all_cons, flat_ints r]; rfl
/-! ### what evaluates to what data -/
section
variable (K : PySem.W.Frag)
def Evd (te : TE) (σ : L2.St) (H : Hp) (d : PD) : Prop := ∀ H1, Ex H H1 → ∀ Q : VK, (∀ v H2, Ex H1 H2 → Dp K H2 v d → Q v H2) → te σ H1 Q
/-- a new list of these -/
def Evn (te : TE) (σ : L2.St) (H : Hp) (ds : List PD) : Prop := ∀ H1, Ex H H1 → ∀ Q : VK, (∀ p vs H2, H1 p = none → Ex H1 H2 → H2 p = some (.lst vs) → DpAll K H2 vs ds → Q (.ref p) H2) → te σ H1 Q
/-- an argument: data, or a value -/
inductive Ar where
  | dat (x : PD) | val (x : V)
def ArOk (H : Hp) : Ar → V → Prop
  | .dat x, v => Dp K H v x
  | .val x, v => v = x
def Ars (H : Hp) : List Ar → List V → Prop
  | [], vs => vs = []
  | a :: as, vs => ∃ v r, vs = v :: r ∧ ArOk K H a v ∧ Ars H as r
def Eva (ta : TA) (σ : L2.St) (H : Hp) (as : List Ar) : Prop := ∀ H1, Ex H H1 → ∀ Q : List V → Hp → Prop, (∀ vs H2, Ex H1 H2 → Ars K H2 as vs → Q vs H2) → ta σ H1 Q
/-- a pure promise: P tells the value of the arguments -/
def spP (P : Hp → List Ar → PD → Prop) : Sp := fun vs H Q _ => ∃ as d, Ars K H as vs ∧ P H as d ∧ ∀ v H', Ex H H' → Dp K H' v d → Q v H'
end
section
variable {K : PySem.W.Frag} {σ : L2.St} {H H' H1 H2 : Hp} {ta tb tc te : TE} {t u : TT} {d e : PD} {v x y : V} {ds es : List PD} {b c : Bool} {r : R2} {as : List Ar} {E : XK}
theorem ArOk.ex {a : Ar} (h : ArOk K H a v) (q : Ex H H') : ArOk K H' a v := by
  cases a with
  | dat x => exact Dp.ex (show Dp K H v x from h) q
  | val x => exact h
theorem Ars.ex : ∀ {as : List Ar} {vs : List V}, Ars K H as vs → Ex H H' → Ars K H' as vs
  | [], _, h, _ => h
  | a :: as, _, h, q => by
    obtain ⟨v, r, rfl, h1, h2⟩ := h
    exact ⟨v, r, rfl, h1.ex q, Ars.ex h2 q⟩
theorem Ars.length : ∀ {as : List Ar} {vs : List V}, Ars K H as vs → vs.length = as.length
  | [], _, h => by rw [show _ = [] from h] <;> rfl
  | a :: as, _, h => by
    obtain ⟨v, r, rfl, h1, h2⟩ := h
    exact congrArg Nat.succ h2.length
theorem Evd.mono (h : Evd K te σ H d) (q : Ex H H') : Evd K te σ H' d := fun H1 a Q k => h H1 (q.trans a) Q k
theorem Evn.mono (h : Evn K te σ H ds) (q : Ex H H') : Evn K te σ H' ds := fun H1 a Q k => h H1 (q.trans a) Q k
theorem Evn.evd (h : Evn K te σ H ds) : Evd K te σ H (.list ds) := fun H1 a Q k => h H1 a Q fun p vs H2 _ q h2 r => k _ _ q (.lst (sq_of h2) r)
theorem Evd.to (h : Evd K te σ H d) (q : d = e) : Evd K te σ H e := q ▸ h
theorem Evn.to (h : Evn K te σ H ds) (q : ds = es) : Evn K te σ H es := q ▸ h
theorem evt_to (h : EvT t σ H b) (q : b = c) : EvT t σ H c := q ▸ h
theorem Evd.int {i : Int} (h : Evd K te σ H (.int i)) : Ev te σ H (.int i) := fun H1 a Q k => h H1 a Q fun v H2 q r => by rw [r.intV]; exact k H2 q
theorem Evd.str {i : PySem.Str} (h : Evd K te σ H (.str i)) : Ev te σ H (.str i) := fun H1 a Q k => h H1 a Q fun v H2 q r => by rw [r.strV]; exact k H2 q
theorem Evd.bl {i : Bool} (h : Evd K te σ H (.bool i)) : Ev te σ H (.bl i) := fun H1 a Q k => h H1 a Q fun v H2 q r => by rw [r.blV]; exact k H2 q
theorem d_ev (h : Ev te σ H v) (r : Dp K H v d) : Evd K te σ H d := fun H1 a Q k => h H1 a Q fun H2 q => k v H2 q (r.ex (a.trans q))
/-! leaves -/
theorem d_var {i : Nat} (h : σ[i]? = some (some v)) (r : Dp K H v d) : Evd K (tVar i) σ H d := d_ev (ev_var h) r
theorem d_int {i : Int} : Evd K (tC (.int i)) σ H (.int i) := d_ev ev_c (.int i)
theorem d_str {i : PySem.Str} : Evd K (tC (.str i)) σ H (.str i) := d_ev ev_c (.str i)
theorem d_bl {i : Bool} : Evd K (tC (.bl i)) σ H (.bool i) := d_ev ev_c (.bl i)
theorem d_non : Evd K (tC .non) σ H .none := d_ev ev_c .non
theorem d_c (r : Dp K H v d) : Evd K (tC v) σ H d := d_ev ev_c r
/-! operators -/
theorem d_I0 {g : Int → Int → V} {i j : Int} (ha : Evd K ta σ H (.int i)) (hb : Evd K tb σ H (.int j)) (hd : ∀ H, Dp K H (g i j) d) : Evd K (tOp (rI0 g) ta tb) σ H d := d_ev (ev_op ha.int hb.int rv_I0) (hd H)
theorem d_I {C : Int → Int → Prop} {g : Int → Int → V} {i j : Int} (ha : Evd K ta σ H (.int i)) (hb : Evd K tb σ H (.int j)) (hc : C i j) (hd : ∀ H, Dp K H (g i j) d) : Evd K (tOp (rI C g) ta tb) σ H d := d_ev (ev_op ha.int hb.int (rv_I hc)) (hd H)
theorem d_add {i j : Int} (ha : Evd K ta σ H (.int i)) (hb : Evd K tb σ H (.int j)) : Evd K (tOp (rI0 fun i j => .int (i + j)) ta tb) σ H (.int (i + j)) := d_I0 ha hb fun _ => .int _
theorem d_sub {i j : Int} (ha : Evd K ta σ H (.int i)) (hb : Evd K tb σ H (.int j)) : Evd K (tOp (rI0 fun i j => .int (i - j)) ta tb) σ H (.int (i - j)) := d_I0 ha hb fun _ => .int _
theorem d_lt {i j : Int} (ha : Evd K ta σ H (.int i)) (hb : Evd K tb σ H (.int j)) : Evd K (tOp (rI0 fun i j => .bl (decide (i < j))) ta tb) σ H (.bool (decide (i < j))) := d_I0 ha hb fun _ => .bl _
theorem d_le {i j : Int} (ha : Evd K ta σ H (.int i)) (hb : Evd K tb σ H (.int j)) : Evd K (tOp (rI0 fun i j => .bl (decide (i ≤ j))) ta tb) σ H (.bool (decide (i ≤ j))) := d_I0 ha hb fun _ => .bl _
theorem d_gt {i j : Int} (ha : Evd K ta σ H (.int i)) (hb : Evd K tb σ H (.int j)) : Evd K (tOp (rI0 fun i j => .bl (decide (j < i))) ta tb) σ H (.bool (decide (j < i))) := d_I0 ha hb fun _ => .bl _
theorem d_ge {i j : Int} (ha : Evd K ta σ H (.int i)) (hb : Evd K tb σ H (.int j)) : Evd K (tOp (rI0 fun i j => .bl (decide (j ≤ i))) ta tb) σ H (.bool (decide (j ≤ i))) := d_I0 ha hb fun _ => .bl _
theorem d_chain {r r' : R2} {k1 k2 : Bool} (h1 : ∀ H1, Ex H H1 → ∀ Q : V → V → Hp → Prop, (∀ x y H2, Ex H1 H2 → (∀ Q' : VK, (∀ H3, Ex H2 H3 → Q' (.bl k1) H3) → r x y H2 Q') → (∀ H3, Ex H2 H3 → k1 = true → ∀ Q' : VK, (∀ H4, Ex H3 H4 → Q' (.bl k2) H4) → tc σ H3 fun w H4 => r' y w H4 Q') → Q x y H2) → ta σ H1 fun x H2 => tb σ H2 fun y H3 => Q x y H3) : Evd K (tChain r r' ta tb tc) σ H (.bool (k1 && k2)) := fun H1 a Q k =>
  h1 H1 a _ fun x y H2 q hr hc => hr _ fun H3 q3 => ⟨k1, rfl, by
    cases k1 with
    | true =>
      show tc σ H3 fun w H4 => r' y w H4 Q
      exact hc H3 q3 rfl Q fun H4 q4 => k _ _ ((q.trans q3).trans q4) (.bl _)
    | false =>
      show Q (.bl false) H3
      exact k _ _ (q.trans q3) (.bl _)⟩
theorem d_chainI {g g' : Int → Int → Bool} {i j l : Int} (ha : Evd K ta σ H (.int i)) (hb : Evd K tb σ H (.int j)) (hc : Evd K tc σ H (.int l)) :
    Evd K (tChain (rI0 fun i j => .bl (g i j)) (rI0 fun i j => .bl (g' i j)) ta tb tc) σ H (.bool (g i j && g' j l)) := d_chain fun H1 a Q k =>
  ha.int H1 a _ fun H2 q2 => hb.int H2 (a.trans q2) _ fun H3 q3 => k _ _ H3 (q2.trans q3) (fun Q' k' => ⟨i, j, rfl, rfl, k' H3 (Ex.refl _)⟩) fun H4 q4 _ Q' k' =>
    hc.int H4 (((a.trans q2).trans q3).trans q4) _ fun H5 q5 => ⟨j, l, rfl, rfl, k' H5 q5⟩
theorem d_eq (ha : Evd K ta σ H d) (hb : Evd K tb σ H e) (sd : SeqAt.shaped d = true) (se : SeqAt.shaped e = true) : Evd K (tOp (rEqD K) ta tb) σ H (.bool (PyData.eqv d e)) := fun H1 a Q k =>
  ha H1 a _ fun x H2 q2 r2 => hb H2 (a.trans q2) _ fun y H3 q3 r3 => ⟨d, e, r2.ex q3, r3, sd, se, k _ H3 (q2.trans q3) (.bl _)⟩
theorem d_ne (ha : Evd K ta σ H d) (hb : Evd K tb σ H e) (sd : SeqAt.shaped d = true) (se : SeqAt.shaped e = true) : Evd K (tOp (rNeD K) ta tb) σ H (.bool (!PyData.eqv d e)) := fun H1 a Q k =>
  ha H1 a _ fun x H2 q2 r2 => hb H2 (a.trans q2) _ fun y H3 q3 r3 => ⟨d, e, r2.ex q3, r3, sd, se, k _ H3 (q2.trans q3) (.bl _)⟩
def isNonP : PD → Bool
  | .none => true
  | _ => false
theorem _root_.L2.Dp.isNon (h : Dp K H v d) : decide (v = .non) = isNonP d := by cases h <;> rfl
theorem d_isN (ha : Evd K ta σ H d) : Evd K (tOp (fun x y H Q => y = .non ∧ Q (.bl (decide (x = .non))) H) ta (tC .non)) σ H (.bool (isNonP d)) := fun H1 a Q k =>
  ha H1 a _ fun x H2 q2 r2 => ⟨rfl, by rw [r2.isNon]; exact k _ H2 q2 (.bl _)⟩
theorem d_notN (ha : Evd K ta σ H d) : Evd K (tOp (fun x y H Q => y = .non ∧ Q (.bl (!decide (x = .non))) H) ta (tC .non)) σ H (.bool (!isNonP d)) := fun H1 a Q k =>
  ha H1 a _ fun x H2 q2 r2 => ⟨rfl, by rw [r2.isNon]; exact k _ H2 q2 (.bl _)⟩
theorem d_inG {neg : Bool} (ha : Evd K ta σ H d) (hb : Evd K tb σ H e) (he : e = .list ds ∨ e = .tuple ds) (fd : flatP d = true) (fs : ds.all flatP = true) :
    Evd K (tOp (rIn K neg) ta tb) σ H (.bool (if neg then !(ds.any fun y => PyData.eqv y d) else ds.any fun y => PyData.eqv y d)) := fun H1 a Q k =>
  ha H1 a _ fun x H2 q2 r2 => hb H2 (a.trans q2) _ fun y H3 q3 r3 => by
    have rx := r2.ex q3
    rcases he with rfl | rfl
    · obtain ⟨p, vs, rfl, hs, hv⟩ := r3.lstV
      refine ⟨p, vs, rfl, .inl hs, rx.flat fd, hv.flat fs, ?_⟩
      have z : inV x vs = ds.any fun y => PyData.eqv y d := hv.any rx fd fs
      rw [z]
      exact k _ H3 (q2.trans q3) (.bl _)
    · obtain ⟨p, vs, rfl, hs, hv⟩ := r3.tupV
      refine ⟨p, vs, rfl, .inr hs, rx.flat fd, hv.flat fs, ?_⟩
      have z : inV x vs = ds.any fun y => PyData.eqv y d := hv.any rx fd fs
      rw [z]
      exact k _ H3 (q2.trans q3) (.bl _)
theorem d_inS {s : PySem.Str} {ss : List PySem.Str} (ha : Evd K ta σ H (.str s)) (hb : Evd K tb σ H e) (he : e = .list (ss.map .str) ∨ e = .tuple (ss.map .str)) : Evd K (tOp (rIn K false) ta tb) σ H (.bool (decide (s ∈ ss))) :=
  (d_inG ha hb he rfl (flat_strs ss)).to (by rw [if_neg Bool.false_ne_true, any_strs])
theorem d_ninS {s : PySem.Str} {ss : List PySem.Str} (ha : Evd K ta σ H (.str s)) (hb : Evd K tb σ H e) (he : e = .list (ss.map .str) ∨ e = .tuple (ss.map .str)) : Evd K (tOp (rIn K true) ta tb) σ H (.bool (!decide (s ∈ ss))) :=
  (d_inG ha hb he rfl (flat_strs ss)).to (by rw [if_pos rfl, any_strs])
theorem d_inI {s : Int} {ss : List Int} (ha : Evd K ta σ H (.int s)) (hb : Evd K tb σ H e) (he : e = .list (ss.map .int) ∨ e = .tuple (ss.map .int)) : Evd K (tOp (rIn K false) ta tb) σ H (.bool (decide (s ∈ ss))) :=
  (d_inG ha hb he rfl (flat_ints ss)).to (by rw [if_neg Bool.false_ne_true, any_ints])
theorem d_ninI {s : Int} {ss : List Int} (ha : Evd K ta σ H (.int s)) (hb : Evd K tb σ H e) (he : e = .list (ss.map .int) ∨ e = .tuple (ss.map .int)) : Evd K (tOp (rIn K true) ta tb) σ H (.bool (!decide (s ∈ ss))) :=
  (d_inG ha hb he rfl (flat_ints ss)).to (by rw [if_pos rfl, any_ints])
/-! and, or, not, if -/
theorem d_and (h1 : Evd K ta σ H (.bool b)) (h2 : b = true → Evd K tb σ H (.bool c)) : Evd K (tAndV ta tb) σ H (.bool (b && c)) := d_ev (ev_andV h1.bl fun q => (h2 q).bl) (.bl _)
theorem d_or (h1 : Evd K ta σ H (.bool b)) (h2 : b = false → Evd K tb σ H (.bool c)) : Evd K (tOrV ta tb) σ H (.bool (b || c)) := d_ev (ev_orV h1.bl fun q => (h2 q).bl) (.bl _)
theorem d_not (h1 : Evd K ta σ H (.bool b)) : Evd K (tNotV ta) σ H (.bool (!b)) := d_ev (ev_notV h1.bl) (.bl _)
theorem d_if (h : EvT t σ H b) (h1 : b = true → Evd K ta σ H d) (h2 : b = false → Evd K tb σ H e) : Evd K (tIf t ta tb) σ H (if b then d else e) := fun H1 a Q k => h H1 a _ fun H2 q => by
  cases b with
  | true =>
    show ta σ H2 Q
    exact h1 rfl H2 (a.trans q) Q fun v H3 q3 r => k v H3 (q.trans q3) r
  | false =>
    show tb σ H2 Q
    exact h2 rfl H2 (a.trans q) Q fun v H3 q3 r => k v H3 (q.trans q3) r
theorem t_test (h : Evd K te σ H (.bool b)) : EvT (tTest te) σ H b := et_test h.bl
theorem t_B (h : Evd K te σ H (.bool b)) : EvT (tB te) σ H b := et_B h.bl
/-! items, slices, displays -/
theorem d_ixT {i : Int} (ha : Evd K ta σ H (.tuple ds)) (hb : Evd K tb σ H (.int i)) (h : atI ds i = some d) : Evd K (tOp (rIxT K) ta tb) σ H d := fun H1 a Q k =>
  ha H1 a _ fun x H2 q2 r2 => hb.int H2 (a.trans q2) _ fun H3 q3 => by
    obtain ⟨p, vs, rfl, hs, hv⟩ := (r2.ex q3).tupV
    have hl := hv.length
    unfold atI at h
    rw [← hl] at h
    cases hj : ixN vs.length i with
    | none => rw [hj] at h; cases h
    | some j =>
      rw [hj] at h
      obtain ⟨v, e1, e2⟩ := hv.get (show ds[j]? = some d from h)
      exact ⟨p, vs, i, v, rfl, rfl, hs, by unfold atI; rw [hj]; exact e1, k v H3 (q2.trans q3) e2⟩
theorem d_ixL {i : Int} (ha : Evd K ta σ H (.list ds)) (hb : Evd K tb σ H (.int i)) (h : atI ds i = some d) : Evd K (tOp (rIxL K) ta tb) σ H d := fun H1 a Q k =>
  ha H1 a _ fun x H2 q2 r2 => hb.int H2 (a.trans q2) _ fun H3 q3 => by
    obtain ⟨p, vs, rfl, hs, hv⟩ := (r2.ex q3).lstV
    have hl := hv.length
    unfold atI at h
    rw [← hl] at h
    cases hj : ixN vs.length i with
    | none => rw [hj] at h; cases h
    | some j =>
      rw [hj] at h
      obtain ⟨v, e1, e2⟩ := hv.get (show ds[j]? = some d from h)
      exact ⟨p, vs, i, v, rfl, rfl, hs, by unfold atI; rw [hj]; exact e1, k v H3 (q2.trans q3) e2⟩
def cutP (xs : List PD) (lo hi : Option Int) : List PD := (xs.drop (HT.sIx xs.length 0 lo)).take (HT.sIx xs.length xs.length hi - HT.sIx xs.length 0 lo)
theorem _root_.L2.DpAll.cut {vs : List V} (h : DpAll K H vs ds) (lo hi : Option Int) : DpAll K H (cutV vs lo hi) (cutP ds lo hi) := by
  unfold cutV cutP
  rw [h.length]
  exact (h.drop _).take _
theorem n_slL {tl th : TO} {lo hi : Option Int} (ha : Evd K te σ H (.list ds)) (h1 : EvO tl σ H lo) (h2 : EvO th σ H hi) : Evn K (tSl (rSlL K) te tl th) σ H (cutP ds lo hi) := fun H1 a Q k =>
  ha H1 a _ fun x H2 q2 r2 => h1 H2 (a.trans q2) _ fun H3 q3 => h2 H3 ((a.trans q2).trans q3) _ fun H4 q4 => by
    obtain ⟨p, vs, rfl, hs, hv⟩ := (r2.ex (q3.trans q4)).lstV
    exact ⟨p, vs, rfl, hs, fun l hl => k l _ _ (fresh_back ((q2.trans q3).trans q4) hl) (((q2.trans q3).trans q4).trans (Ex.new hl)) upd_same ((hv.cut lo hi).ex (Ex.new hl))⟩
theorem cutP_all (ds : List PD) {lo hi : Option Int} (h : HT.sIx ds.length 0 lo = 0 ∧ HT.sIx ds.length ds.length hi = ds.length) : cutP ds lo hi = ds := by
  unfold cutP
  rw [h.1, h.2]
  simp
theorem d_slT {tl th : TO} {lo hi : Option Int} (ha : Evd K te σ H (.tuple ds)) (h1 : EvO tl σ H lo) (h2 : EvO th σ H hi) : Evd K (tSl (rSlA K) te tl th) σ H (.tuple (cutP ds lo hi)) := fun H1 a Q k =>
  ha H1 a _ fun x H2 q2 r2 => h1 H2 (a.trans q2) _ fun H3 q3 => h2 H3 ((a.trans q2).trans q3) _ fun H4 q4 => by
    obtain ⟨p, vs, rfl, hs, hv⟩ := (r2.ex (q3.trans q4)).tupV
    refine ⟨p, vs, rfl, hs, fun w => ?_, fun w l hl => ?_⟩
    · rw [hv.length] at w
      have z := k (.ref p) H4 ((q2.trans q3).trans q4)
      rw [cutP_all ds w] at z
      exact z (.tup hs hv)
    · exact k _ _ (((q2.trans q3).trans q4).trans (Ex.new hl)) (.tup (st_of upd_same) ((hv.cut lo hi).ex (Ex.new hl)))
theorem a_nil : Eva K tNil σ H [] := fun H1 _ Q k => k [] H1 (Ex.refl _) rfl
theorem a_cons {tr : TA} (h : Evd K te σ H d) (hr : Eva K tr σ H as) : Eva K (tCons te tr) σ H (.dat d :: as) := fun H1 a Q k =>
  h H1 a _ fun v H2 q2 r2 => hr H2 (a.trans q2) _ fun vs H3 q3 r3 => k _ H3 (q2.trans q3) ⟨v, vs, rfl, r2.ex q3, r3⟩
theorem a_consV {tr : TA} (h : Ev te σ H v) (hr : Eva K tr σ H as) : Eva K (tCons te tr) σ H (.val v :: as) := fun H1 a Q k =>
  h H1 a _ fun H2 q2 => hr H2 (a.trans q2) _ fun vs H3 q3 r3 => k _ H3 (q2.trans q3) ⟨v, vs, rfl, rfl, r3⟩
/-- arguments that are data all -/
def Evs (K : PySem.W.Frag) (ta : TA) (σ : L2.St) (H : Hp) (ds : List PD) : Prop := ∀ H1, Ex H H1 → ∀ Q : List V → Hp → Prop, (∀ vs H2, Ex H1 H2 → DpAll K H2 vs ds → Q vs H2) → ta σ H1 Q
theorem e_nil : Evs K tNil σ H [] := fun H1 _ Q k => k [] H1 (Ex.refl _) .nil
theorem e_cons {tr : TA} (h : Evd K te σ H d) (hr : Evs K tr σ H ds) : Evs K (tCons te tr) σ H (d :: ds) := fun H1 a Q k =>
  h H1 a _ fun v H2 q2 r2 => hr H2 (a.trans q2) _ fun vs H3 q3 r3 => k _ H3 (q2.trans q3) (.cons (r2.ex q3) r3)
theorem e_star {tr : TA} (h : Evd K te σ H e) (he : e = .list es ∨ e = .tuple es) (hr : Evs K tr σ H ds) : Evs K (StX.tStar K te tr) σ H (es ++ ds) := fun H1 a Q k =>
  h H1 a _ fun v H2 q2 r2 => by
    rcases he with rfl | rfl
    · obtain ⟨p, vs, rfl, hs, hv⟩ := r2.lstV
      exact ⟨p, vs, rfl, .inr hs, hr H2 (a.trans q2) _ fun ws H3 q3 r3 => k _ H3 (q2.trans q3) ((hv.ex q3).append r3)⟩
    · obtain ⟨p, vs, rfl, hs, hv⟩ := r2.tupV
      exact ⟨p, vs, rfl, .inl hs, hr H2 (a.trans q2) _ fun ws H3 q3 r3 => k _ H3 (q2.trans q3) ((hv.ex q3).append r3)⟩
theorem d_tup {ta : TA} (h : Evs K ta σ H ds) (hl : ds.length ≤ 100000 := by simp) : Evd K (tTup ta) σ H (.tuple ds) := fun H1 a Q k =>
  h H1 a _ fun vs H2 q2 r2 => ⟨sz_of (by rw [r2.length]; exact hl), fun p hp => k _ _ (q2.trans (Ex.new hp)) (.tup (st_of upd_same) (r2.ex (Ex.new hp)))⟩
theorem n_lst {ta : TA} (h : Evs K ta σ H ds) (hl : ds.length ≤ 100000 := by simp) : Evn K (tLst ta) σ H ds := fun H1 a Q k =>
  h H1 a _ fun vs H2 q2 r2 => ⟨sz_of (by rw [r2.length]; exact hl), fun p hp => k p _ _ (fresh_back q2 hp) (q2.trans (Ex.new hp)) upd_same (r2.ex (Ex.new hp))⟩
/-! calls -/
theorem d_call {P : Hp → List Ar → PD → Prop} {ta : TA} (h : Eva K ta σ H as) (hP : ∀ H1, Ex H H1 → P H1 as d) : Evd K (tCallR (spP K P) E ta) σ H d := fun H1 a Q k =>
  h H1 a _ fun vs H2 q2 r2 => ⟨as, d, r2, hP H2 (a.trans q2), fun v H' q r => k v H' (q2.trans q) r⟩
theorem d_cb {r : List V → Hp → VK → Prop} {ta : TA} (h : Eva K ta σ H as) (hr : ∀ H1, Ex H H1 → ∀ vs, Ars K H1 as vs → ∀ Q : VK, (∀ v H2, Ex H1 H2 → Dp K H2 v d → Q v H2) → r vs H1 Q) : Evd K (tCB r ta) σ H d := fun H1 a Q k =>
  h H1 a _ fun vs H2 q2 r2 => hr H2 (a.trans q2) vs r2 Q fun v H3 q3 r3 => k v H3 (q2.trans q3) r3
theorem d_lenS (ha : Evd K ta σ H e) (he : e = .list ds ∨ e = .tuple ds) :
    Evd K (tCB (fun xs H Q => ∃ p ys, xs = [.ref p] ∧ (SqL K H p ys ∨ SqT K H p ys) ∧ Q (.int ys.length) H) (tCons ta tNil)) σ H (.int (ds.length : Int)) := fun H1 a Q k =>
  ha H1 a _ fun v H2 q2 r2 => by
    rcases he with rfl | rfl
    · obtain ⟨p, vs, rfl, hs, hv⟩ := r2.lstV
      exact ⟨p, vs, rfl, .inl hs, by rw [hv.length]; exact k _ H2 q2 (.int _)⟩
    · obtain ⟨p, vs, rfl, hs, hv⟩ := r2.tupV
      exact ⟨p, vs, rfl, .inr hs, by rw [hv.length]; exact k _ H2 q2 (.int _)⟩
theorem d_all {bs : List Bool} (ha : Evd K ta σ H (.list (bs.map .bool))) : Evd K (tCB (rAll K) (tCons ta tNil)) σ H (.bool (bs.all id)) := fun H1 a Q k =>
  ha H1 a _ fun v H2 q2 r2 => by
    obtain ⟨p, vs, rfl, hs, hv⟩ := r2.lstV
    have e := hv.blsV
    subst e
    exact ⟨p, bs, rfl, hs, k _ H2 q2 (.bl _)⟩
theorem d_any {bs : List Bool} (ha : Evd K ta σ H (.list (bs.map .bool))) : Evd K (tCB (rAny K) (tCons ta tNil)) σ H (.bool (bs.any id)) := fun H1 a Q k =>
  ha H1 a _ fun v H2 q2 r2 => by
    obtain ⟨p, vs, rfl, hs, hv⟩ := r2.lstV
    have e := hv.blsV
    subst e
    exact ⟨p, bs, rfl, hs, k _ H2 q2 (.bl _)⟩
theorem d_tupL (ha : Evd K ta σ H (.list ds)) : Evd K (tCB (fun xs H Q => ∃ p ys, xs = [.ref p] ∧ ((SqL K H p ys ∧ ∀ l, H l = none → Q (.ref l) (upd H l (.tup ys))) ∨ (SqT K H p ys ∧ Q (.ref p) H))) (tCons ta tNil)) σ H (.tuple ds) := fun H1 a Q k =>
  ha H1 a _ fun v H2 q2 r2 => by
    obtain ⟨p, vs, rfl, hs, hv⟩ := r2.lstV
    exact ⟨p, vs, rfl, .inl ⟨hs, fun l hl => k _ _ (q2.trans (Ex.new hl)) (.tup (st_of upd_same) (hv.ex (Ex.new hl)))⟩⟩
theorem n_listS (ha : Evd K ta σ H e) (he : e = .list ds ∨ e = .tuple ds) : Evn K (tCB (fun xs H Q => ∃ p ys, xs = [.ref p] ∧ (SqL K H p ys ∨ SqT K H p ys) ∧ ∀ l, H l = none → Q (.ref l) (upd H l (.lst ys))) (tCons ta tNil)) σ H ds := fun H1 a Q k =>
  ha H1 a _ fun v H2 q2 r2 => by
    rcases he with rfl | rfl
    · obtain ⟨p, vs, rfl, hs, hv⟩ := r2.lstV
      exact ⟨p, vs, rfl, .inl hs, fun l hl => k l _ _ (fresh_back q2 hl) (q2.trans (Ex.new hl)) upd_same (hv.ex (Ex.new hl))⟩
    · obtain ⟨p, vs, rfl, hs, hv⟩ := r2.tupV
      exact ⟨p, vs, rfl, .inr hs, fun l hl => k l _ _ (fresh_back q2 hl) (q2.trans (Ex.new hl)) upd_same (hv.ex (Ex.new hl))⟩
theorem n_cat (ha : Evn K ta σ H ds) (hb : Evn K tb σ H es) (hl : ds.length + es.length ≤ 100000) : Evn K (tOp rCat ta tb) σ H (ds ++ es) := fun H1 a Q k =>
  ha H1 a _ fun p vs H2 hp q2 h2 r2 => hb H2 (a.trans q2) _ fun p' ws H3 hp' q3 h3 r3 =>
    ⟨p, p', vs, ws, rfl, rfl, q3 p _ h2, h3, sz_of (by rw [r2.length, r3.length]; exact hl), fun l hl' => k l _ _ (fresh_back (q2.trans q3) hl') ((q2.trans q3).trans (Ex.new hl')) upd_same (((r2.ex q3).append r3).ex (Ex.new hl'))⟩
/-- list + list, both known -/
theorem n_catD {p p' : Addr} {vs ws : List V} (ha : Ev ta σ H (.ref p)) (hb : Ev tb σ H (.ref p')) (h1 : H p = some (.lst vs)) (h2 : H p' = some (.lst ws)) (r1 : DpAll K H vs ds) (r2 : DpAll K H ws es) (hl : ds.length + es.length ≤ 100000) : Evn K (tOp rCat ta tb) σ H (ds ++ es) := fun H1 a Q k =>
  ha H1 a _ fun H2 q2 => hb H2 (a.trans q2) _ fun H3 q3 =>
    ⟨p, p', vs, ws, rfl, rfl, ((a.trans q2).trans q3) p _ h1, ((a.trans q2).trans q3) p' _ h2, sz_of (by rw [r1.length, r2.length]; exact hl), fun l hl' => k l _ _ (fresh_back (q2.trans q3) hl') ((q2.trans q3).trans (Ex.new hl')) upd_same (((r1.append r2).ex ((a.trans q2).trans q3)).ex (Ex.new hl'))⟩
theorem d_catT (ha : Evd K ta σ H (.tuple ds)) (hb : Evd K tb σ H (.tuple es)) (hl : ds.length + es.length ≤ 100000) : Evd K (tOp (rCatA K) ta tb) σ H (.tuple (ds ++ es)) := fun H1 a Q k =>
  ha H1 a _ fun x H2 q2 r2 => hb H2 (a.trans q2) _ fun y H3 q3 r3 => by
    obtain ⟨p, vs, rfl, hs, hv⟩ := (r2.ex q3).tupV
    obtain ⟨p', ws, rfl, hs', hv'⟩ := r3.tupV
    refine ⟨p, p', vs, ws, rfl, rfl, hs, hs', sz_of (by rw [hv.length, hv'.length]; exact hl), fun z => ?_, fun z z' => ?_, fun z z' l hl' => ?_⟩
    · subst z
      cases hv
      exact k _ H3 (q2.trans q3) (.tup hs' hv')
    · subst z'
      cases hv'
      rw [List.append_nil] at k
      exact k _ H3 (q2.trans q3) (.tup hs hv)
    · exact k _ _ ((q2.trans q3).trans (Ex.new hl')) (.tup (st_of upd_same) ((hv.append hv').ex (Ex.new hl')))
/-! isinstance -/
def tyP : PD → String
  | .none => "NoneType" | .bool _ => "bool" | .int _ => "int" | .str _ => "str" | .list _ => "list" | .tuple _ => "tuple" | .dict _ => "dict"
theorem _root_.L2.Dp.ty (h : Dp K H v d) : TyX K H v (.type (tyP d)) := by
  cases h with
  | non => exact .base .non
  | bl b => exact .base (.bl b)
  | int i => exact .base (.int i)
  | str x => exact .base (.str x)
  | lst hs _ =>
    rcases hs with (hs | ⟨o, hs⟩) | ⟨o, its, n, hk, hc, _⟩
    · exact .base (.lst hs)
    · exact .base (.frz hs)
    · exact .kList hk hc
  | tup hs _ =>
    rcases hs with (hs | ⟨o, hs⟩) | ⟨o, its, n, hk, hc, _⟩
    · exact .base (.tup hs)
    · exact .fTuple hs
    · exact .kTuple hk hc
theorem d_isi {T : String} (ha : Evd K ta σ H d) (hk : kitB (tyP d) T = some b) : Evd K (tCB (rIsi K) (tCons ta (tCons (tC (.ty T)) tNil))) σ H (.bool b) := fun H1 a Q k =>
  ha H1 a _ fun v H2 q2 r2 => ⟨v, .ty T, _, _, b, rfl, .ty T, r2.ty, kit_ty hk, k _ H2 q2 (.bl _)⟩
theorem d_isi2 {T T' : String} {b' : Bool} (ha : Evd K ta σ H d) (hk : kitB (tyP d) T = some b) (hk' : kitB (tyP d) T' = some b') : Evd K (tCB (rIsiT K) (tCons ta (tCons (tTup (tCons (tC (.ty T)) (tCons (tC (.ty T')) tNil))) tNil))) σ H (.bool (b || b')) := fun H1 a Q k =>
  ha H1 a _ fun v H2 q2 r2 => ⟨sz_of (by simp), fun p hp => ⟨v, p, _, _, _, _, rfl, upd_same, .cons (.ty T) (.cons (.ty T') .nil), (r2.ex (Ex.new hp)).ty,
    kitAny_cons (b := b) (r := b || b') (kit_ty hk) (fun z => by subst z; exact kitAny_cons (b := b') (r := false || b') (kit_ty hk') (fun z => by subst z; exact kitAny_nil) (fun z => by subst z; rfl)) (fun z => by subst z; rfl), k _ _ (q2.trans (Ex.new hp)) (.bl _)⟩⟩
end
end Sc

/-! Sc3: loops, comprehensions and statements over such data. -/
namespace Sc
open PySem PySem.Spec PyProof.Rows L2 Evl
section
variable {K : PySem.W.Frag} {σ : L2.St} {H H' H1 H2 : Hp} {ta tb tc te tl : TE} {t u : TT} {d e : PD} {v x y : V} {ds es : List PD} {b c : Bool} {as : List Ar} {E : XK} {D : Ends} {tu tw tz : TS} {g : TG} {wi : TI} {i j : Nat}
/-! ### statements -/
theorem s_asgD (h : Evd K te σ H d) (k : ∀ v H1, Ex H H1 → Dp K H1 v d → D.nx (σ.set i (some v)) H1) : tAsg te (gName i) D σ H := h H (Ex.refl H) _ fun v H1 q r => k v H1 q r
theorem q_asgD (h : Evd K te σ H d) (k : ∀ v H1, Ex H H1 → Dp K H1 v d → tz D (σ.set i (some v)) H1) : tSeq (tAsg te (gName i)) tz D σ H := h H (Ex.refl H) _ fun v H1 q r => k v H1 q r
theorem q_asgN (h : Evn K te σ H ds) (k : ∀ p vs H1, H p = none → Ex H H1 → H1 p = some (.lst vs) → DpAll K H1 vs ds → tz D (σ.set i (some (.ref p))) H1) : tSeq (tAsg te (gName i)) tz D σ H := h H (Ex.refl H) _ fun p vs H1 hp q h1 r => k p vs H1 hp q h1 r
theorem s_asgN (h : Evn K te σ H ds) (k : ∀ p vs H1, H p = none → Ex H H1 → H1 p = some (.lst vs) → DpAll K H1 vs ds → D.nx (σ.set i (some (.ref p))) H1) : tAsg te (gName i) D σ H := h H (Ex.refl H) _ fun p vs H1 hp q h1 r => k p vs H1 hp q h1 r
theorem s_retD (h : Evd K te σ H d) (k : ∀ v H1, Ex H H1 → Dp K H1 v d → D.rt v H1) : tRet te D σ H := h H (Ex.refl H) _ fun v H1 q r => k v H1 q r
theorem s_dropD (h : Evd K te σ H d) (k : ∀ v H1, Ex H H1 → Dp K H1 v d → D.nx σ H1) : tDrop te D σ H := h H (Ex.refl H) _ fun v H1 q r => k v H1 q r
theorem q_dropD (h : Evd K te σ H d) (k : ∀ v H1, Ex H H1 → Dp K H1 v d → tz D σ H1) : tSeq (tDrop te) tz D σ H := h H (Ex.refl H) _ fun v H1 q r => k v H1 q r
/-! ### what is walked -/
def YP (K : PySem.W.Frag) (ds : List PD) : Nat → Hp → V → Hp → Prop := fun i H x H' => H' = H ∧ ∃ d, ds[i]? = some d ∧ Dp K H x d
def Src (K : PySem.W.Frag) (wi : TI) (σ : L2.St) (H : Hp) (ds : List PD) : Prop := ∀ H1, Ex H H1 → ∀ R : It → Hp → Prop, (∀ J H2, Ex H1 H2 → Walk J ds.length (fun H' => Ex H2 H') (YP K ds) → R J H2) → wi σ H1 R
theorem Src.mono (h : Src K wi σ H ds) (q : Ex H H') : Src K wi σ H' ds := fun H1 a R k => h H1 (q.trans a) R k
theorem Src.to (h : Src K wi σ H ds) (q : ds = es) : Src K wi σ H es := q ▸ h
theorem src_list (h : Evd K tl σ H (.list ds)) : Src K (iList K tl) σ H ds := fun H1 a R k => h H1 a _ fun v H2 q r => by
  obtain ⟨p, vs, rfl, hs, hv⟩ := r.lstV
  refine ⟨p, rfl, ⟨vs, hs⟩, k _ H2 q ?_⟩
  rw [← hv.length]
  exact walk_list.mono (fun H' e => ex_l e hs) fun i H3 x H4 hi e y => by
    obtain ⟨d, h1, h2⟩ := hv.getV y.2
    exact ⟨y.1, d, h1, h2.ex e⟩
theorem src_tup (h : Evd K tl σ H (.tuple ds)) : Src K (iTup K tl) σ H ds := fun H1 a R k => h H1 a _ fun v H2 q r => by
  obtain ⟨p, vs, rfl, hs, hv⟩ := r.tupV
  refine ⟨p, rfl, ⟨vs, hs⟩, k _ H2 q ?_⟩
  rw [← hv.length]
  exact walk_tup.mono (fun H' e => ex_t e hs) fun i H3 x H4 hi e y => by
    obtain ⟨d, h1, h2⟩ := hv.getV y.2
    exact ⟨y.1, d, h1, h2.ex e⟩
def intsP (n : Nat) : List PD := (List.range n).map fun i : Nat => .int (i : Int)
theorem intsP_len (n : Nat) : (intsP n).length = n := by simp [intsP]
theorem src_range {n : Nat} (h : Evd K ta σ H (.int (n : Int))) (hn : n ≤ 100000) : Src K (iRng1 (tCons ta tNil)) σ H (intsP n) := fun H1 a R k => h.int H1 a _ fun H2 q => by
  refine ⟨n, rfl, by omega, by omega, k _ H2 q ?_⟩
  rw [intsP_len]
  have e : ((n : Int)).toNat = n := by omega
  rw [e]
  exact walk_range.mono (fun _ _ => True.intro) fun i H3 x H4 hi e y => ⟨y.1, .int (i : Int), by simp [intsP, hi], by rw [y.2]; show Dp K H3 (.int (0 + (i : Int))) _; rw [Int.zero_add]; exact .int _⟩
/-- .. whatever lists change -/
def SrcT (K : PySem.W.Frag) (wi : TI) (σ : L2.St) (H : Hp) (ds : List PD) : Prop := ∀ H1, Ex H H1 → ∀ R : It → Hp → Prop, (∀ J H2, Ex H1 H2 → Walk J ds.length (fun H' => Tk H2 H') (YP K ds) → R J H2) → wi σ H1 R
theorem SrcT.to (h : SrcT K wi σ H ds) (q : ds = es) : SrcT K wi σ H es := q ▸ h
theorem immAll_get : ∀ {ds : List PD} {i : Nat} {d : PD}, ImmAll ds = true → ds[i]? = some d → Imm d = true
  | [], _, _, _, e => by simp at e
  | a :: r, 0, _, h, e => by
    have h : (Imm a && ImmAll r) = true := h
    rw [Bool.and_eq_true] at h
    simp at e; subst e; exact h.1
  | a :: r, i + 1, d, h, e => by
    have h : (Imm a && ImmAll r) = true := h
    rw [Bool.and_eq_true] at h
    exact immAll_get (i := i) h.2 (by simpa using e)
theorem src_tupT (h : Evd K tl σ H (.tuple ds)) (hi : ImmAll ds = true) : SrcT K (iTup K tl) σ H ds := fun H1 a R k => h H1 a _ fun v H2 q r => by
  obtain ⟨p, vs, rfl, hs, hv⟩ := r.tupV
  refine ⟨p, rfl, ⟨vs, hs⟩, k _ H2 q ?_⟩
  rw [← hv.length]
  exact walk_tup.mono (fun H' e => tk_t e hs) fun i H3 x H4 _ e y => by
    obtain ⟨d, h1, h2⟩ := hv.getV y.2
    exact ⟨y.1, d, h1, h2.tk e (immAll_get hi h1)⟩
theorem src_rangeT {n : Nat} (h : Evd K ta σ H (.int (n : Int))) (hn : n ≤ 100000) : SrcT K (iRng1 (tCons ta tNil)) σ H (intsP n) := fun H1 a R k => h.int H1 a _ fun H2 q => by
  refine ⟨n, rfl, by omega, by omega, k _ H2 q ?_⟩
  rw [intsP_len]
  have e : ((n : Int)).toNat = n := by omega
  rw [e]
  exact walk_range.mono (fun _ _ => True.intro) fun i H3 x H4 hi e y => ⟨y.1, .int (i : Int), by simp [intsP, hi], by rw [y.2]; show Dp K H3 (.int (0 + (i : Int))) _; rw [Int.zero_add]; exact .int _⟩

theorem t_yes : EvT tYes σ H true := fun H1 _ Q k => k H1 (Ex.refl _)
theorem immAll_map {α : Type} (f : α → PD) : ∀ {xs : List α}, (∀ x ∈ xs, Imm (f x) = true) → ImmAll (xs.map f) = true
  | [], _ => rfl
  | a :: r, h => by
    rw [List.map_cons]
    show (Imm (f a) && ImmAll (r.map f)) = true
    rw [h a (List.mem_cons_self ..), immAll_map f fun x hx => h x (List.mem_cons_of_mem _ hx)] <;> rfl
theorem immAll_append : ∀ {xs ys : List PD}, ImmAll xs = true → ImmAll ys = true → ImmAll (xs ++ ys) = true
  | [], _, _, h => h
  | a :: r, ys, h, h' => by
    have h : (Imm a && ImmAll r) = true := h
    rw [Bool.and_eq_true] at h
    show (Imm a && ImmAll (r ++ ys)) = true
    rw [h.1, immAll_append h.2 h'] <;> rfl
theorem Tk.lst {p : Addr} {xs ys : List V} (h : H p = some (.lst xs)) : Tk H (upd H p (.lst ys)) := Tk.upd fun zs r => by
  rcases r with r | ⟨o, r⟩ <;> (rw [h] at r; cases r)
/-- the list comprehension -/
structure Tgt (K : PySem.W.Frag) {α : Type} (g : TG) (σ0 : L2.St) (enc : α → PD) (B : α → Hp → L2.St → Prop) : Prop where
  go : ∀ x v H1, Dp K H1 v (enc x) → ∀ Q : L2.St → Hp → Prop, (∀ σ2, B x H1 σ2 → Q σ2 H1) → g v σ0 H1 Q
theorem n_lcG {α : Type} {xs : List α} {enc : α → PD} {p : α → Bool} {f : α → PD} {vs : List Nat} {B : α → Hp → L2.St → Prop} (hs : Src K wi σ H (xs.map enc)) (hg : Tgt K g (wipe σ vs) enc B) (hw : ∀ x H1 σ2, B x H1 σ2 → wipe σ2 vs = wipe σ vs) (hI : ∀ x ∈ xs, Imm (f x) = true) (hz : xs.length ≤ 40000)
    (hel : ∀ x ∈ xs, ∀ σ2 H1, Ex H H1 → B x H1 σ2 → EvT t σ2 H1 (p x) ∧ (p x = true → Evd K te σ2 H1 (f x))) : Evn K (tLc wi g t te vs) σ H ((xs.filter p).map f) := fun H1 a Q k =>
  hs H1 a _ fun J H2 q2 W D hD => by
    rw [List.length_map] at W
    refine lc_it W (fun i H' => Ex H2 H' ∧ ∃ acc, H' D = some (.lst acc) ∧ DpAll K H' acc (((xs.take i).filter p).map f)) ⟨Ex.new hD, [], upd_same, .nil⟩ (fun i H' _ P => P.1) (fun i x H3 H4 hi P Y => ?_) fun H3 P => ?_
    · obtain ⟨ex, acc, hacc, hdp⟩ := P
      obtain ⟨rfl, d, hd, rd⟩ := Y
      rw [List.getElem?_map] at hd
      obtain ⟨xi, hxi, rfl⟩ := Option.map_eq_some_iff.mp hd
      have hmem : xi ∈ xs := List.mem_of_getElem? hxi
      have htk : xs.take (i + 1) = xs.take i ++ [xi] := by rw [List.take_succ, hxi] <;> rfl
      have hlen : acc.length ≤ 40000 := by
        rw [hdp.length, List.length_map]
        exact Nat.le_trans (List.length_filter_le _ _) (by rw [List.length_take]; omega)
      refine hg.go xi x _ rd _ fun σ2 hB => ⟨hw _ _ _ hB, ?_⟩
      obtain ⟨h1, h2⟩ := hel xi hmem σ2 _ ((a.trans q2).trans ex) hB
      refine h1 _ (Ex.refl _) _ fun H5 q5 => ?_
      cases hp : p xi with
      | true =>
        show te σ2 H5 fun y H4 => ∃ acc, H4 D = some (.lst acc) ∧ acc.length < sizeLine ∧ _
        refine h2 hp H5 q5 _ fun w H6 q6 r6 => ⟨acc, q6 D _ (q5 D _ hacc), sz_lt (by omega), ((ex.trans q5).trans q6).mut hD, _, upd_same, ?_⟩
        rw [htk, List.filter_append, List.map_append]
        have e1 : [xi].filter p = [xi] := by simp [hp]
        rw [e1]
        have T : Tk H6 (upd H6 D (.lst (acc ++ [w]))) := Tk.lst (q6 D _ (q5 D _ hacc))
        exact ((hdp.ex (q5.trans q6)).tk T (immAll_map f fun z hz => hI z (List.mem_of_mem_take (List.mem_filter.mp hz).1))).append (.one (r6.tk T (hI xi hmem)))
      | false =>
        show Ex H2 H5 ∧ ∃ acc, H5 D = some (.lst acc) ∧ DpAll K H5 acc (((xs.take (i + 1)).filter p).map f)
        refine ⟨ex.trans q5, acc, q5 D _ hacc, ?_⟩
        rw [htk, List.filter_append, List.map_append]
        have e1 : [xi].filter p = [] := by simp [hp]
        rw [e1]
        simpa using hdp.ex q5
    · obtain ⟨ex, acc, hacc, hdp⟩ := P
      rw [List.take_of_length_le (Nat.le_refl _)] at hdp
      exact k D acc H3 (fresh_back q2 hD) (q2.trans ex) hacc hdp
theorem tgt_name {α : Type} {enc : α → PD} {σ0 : L2.St} : Tgt K (gName j) σ0 enc (fun x H1 σ2 => ∃ v, Dp K H1 v (enc x) ∧ σ2 = σ0.set j (some v)) := ⟨fun x v H1 r Q k => k _ ⟨v, r, rfl⟩⟩
/-- [te for j in wi if t] -/
theorem n_lc {α : Type} {xs : List α} {enc : α → PD} {p : α → Bool} {f : α → PD} {vs : List Nat} (hs : Src K wi σ H (xs.map enc)) (hw : ∀ v, wipe ((wipe σ vs).set j (some v)) vs = wipe σ vs) (hI : ∀ x ∈ xs, Imm (f x) = true) (hz : xs.length ≤ 40000)
    (hel : ∀ x ∈ xs, ∀ v H1, Ex H H1 → Dp K H1 v (enc x) → EvT t ((wipe σ vs).set j (some v)) H1 (p x) ∧ (p x = true → Evd K te ((wipe σ vs).set j (some v)) H1 (f x))) : Evn K (tLc wi (gName j) t te vs) σ H ((xs.filter p).map f) :=
  n_lcG hs tgt_name (fun x H1 σ2 ⟨v, _, e⟩ => by rw [e]; exact hw v) hI hz fun x hx σ2 H1 a ⟨v, r, e⟩ => by rw [e]; exact hel x hx v H1 a r
theorem n_map {α : Type} {xs : List α} {enc : α → PD} {f : α → PD} {vs : List Nat} (hs : Src K wi σ H (xs.map enc)) (hw : ∀ v, wipe ((wipe σ vs).set j (some v)) vs = wipe σ vs) (hI : ∀ x ∈ xs, Imm (f x) = true) (hz : xs.length ≤ 40000)
    (hel : ∀ x ∈ xs, ∀ v H1, Ex H H1 → Dp K H1 v (enc x) → Evd K te ((wipe σ vs).set j (some v)) H1 (f x)) : Evn K (tLc wi (gName j) tYes te vs) σ H (xs.map f) :=
  (n_lc (p := fun _ => true) hs hw hI hz fun x hx v H1 a r => ⟨t_yes, fun _ => hel x hx v H1 a r⟩).to (by rw [List.filter_eq_self.mpr (fun _ _ => rfl)])
theorem tgt_three {α : Type} {e1 e2 e3 : α → PD} {σ0 : L2.St} {j1 j2 j3 : Nat} : Tgt K (gTup K 3 (gCons (gName j1) (gCons (gName j2) (gCons (gName j3) gNil)))) σ0 (fun x => .tuple [e1 x, e2 x, e3 x])
    (fun x H1 σ2 => ∃ v1 v2 v3, Dp K H1 v1 (e1 x) ∧ Dp K H1 v2 (e2 x) ∧ Dp K H1 v3 (e3 x) ∧ σ2 = ((σ0.set j1 (some v1)).set j2 (some v2)).set j3 (some v3)) := ⟨fun x v H1 r Q k => by
  obtain ⟨a, vs, rfl, hs, hv⟩ := r.tupV
  cases hv with
  | cons r1 t1 => cases t1 with
    | cons r2 t2 => cases t2 with
      | cons r3 t3 =>
        cases t3
        exact ⟨a, _, rfl, hs, rfl, _, _, rfl, _, _, rfl, _, _, rfl, rfl, k _ ⟨_, _, _, r1, r2, r3, rfl⟩⟩⟩
theorem n_lc3 {α : Type} {xs : List α} {e1 e2 e3 : α → PD} {p : α → Bool} {f : α → PD} {vs : List Nat} {j1 j2 j3 : Nat} (hs : Src K wi σ H (xs.map fun x => .tuple [e1 x, e2 x, e3 x])) (hw : ∀ v1 v2 v3, wipe ((((wipe σ vs).set j1 (some v1)).set j2 (some v2)).set j3 (some v3)) vs = wipe σ vs) (hI : ∀ x ∈ xs, Imm (f x) = true) (hz : xs.length ≤ 40000)
    (hel : ∀ x ∈ xs, ∀ v1 v2 v3 H1, Ex H H1 → Dp K H1 v1 (e1 x) → Dp K H1 v2 (e2 x) → Dp K H1 v3 (e3 x) → EvT t ((((wipe σ vs).set j1 (some v1)).set j2 (some v2)).set j3 (some v3)) H1 (p x) ∧ (p x = true → Evd K te ((((wipe σ vs).set j1 (some v1)).set j2 (some v2)).set j3 (some v3)) H1 (f x))) :
    Evn K (tLc wi (gTup K 3 (gCons (gName j1) (gCons (gName j2) (gCons (gName j3) gNil)))) t te vs) σ H ((xs.filter p).map f) :=
  n_lcG hs tgt_three (fun x H1 σ2 ⟨v1, v2, v3, _, _, _, e⟩ => by rw [e]; exact hw v1 v2 v3) hI hz fun x hx σ2 H1 a ⟨v1, v2, v3, r1, r2, r3, e⟩ => by rw [e]; exact hel x hx v1 v2 v3 H1 a r1 r2 r3
theorem tgt_two {α : Type} {e1 e2 : α → PD} {σ0 : L2.St} {j1 j2 : Nat} : Tgt K (gTup K 2 (gCons (gName j1) (gCons (gName j2) gNil))) σ0 (fun x => .tuple [e1 x, e2 x])
    (fun x H1 σ2 => ∃ v1 v2, Dp K H1 v1 (e1 x) ∧ Dp K H1 v2 (e2 x) ∧ σ2 = (σ0.set j1 (some v1)).set j2 (some v2)) := ⟨fun x v H1 r Q k => by
  obtain ⟨a, vs, rfl, hs, hv⟩ := r.tupV
  cases hv with
  | cons r1 t1 => cases t1 with
    | cons r2 t2 =>
      cases t2
      exact ⟨a, _, rfl, hs, rfl, _, _, rfl, _, _, rfl, rfl, k _ ⟨_, _, r1, r2, rfl⟩⟩⟩
theorem n_lcP {α : Type} {xs : List α} {e1 e2 : α → PD} {p : α → Bool} {f : α → PD} {vs : List Nat} {j1 j2 : Nat} (hs : Src K wi σ H (xs.map fun x => .tuple [e1 x, e2 x])) (hw : ∀ v1 v2, wipe (((wipe σ vs).set j1 (some v1)).set j2 (some v2)) vs = wipe σ vs) (hI : ∀ x ∈ xs, Imm (f x) = true) (hz : xs.length ≤ 40000)
    (hel : ∀ x ∈ xs, ∀ v1 v2 H1, Ex H H1 → Dp K H1 v1 (e1 x) → Dp K H1 v2 (e2 x) → EvT t (((wipe σ vs).set j1 (some v1)).set j2 (some v2)) H1 (p x) ∧ (p x = true → Evd K te (((wipe σ vs).set j1 (some v1)).set j2 (some v2)) H1 (f x))) :
    Evn K (tLc wi (gTup K 2 (gCons (gName j1) (gCons (gName j2) gNil))) t te vs) σ H ((xs.filter p).map f) :=
  n_lcG hs tgt_two (fun x H1 σ2 ⟨v1, v2, _, _, e⟩ => by rw [e]; exact hw v1 v2) hI hz fun x hx σ2 H1 a ⟨v1, v2, r1, r2, e⟩ => by rw [e]; exact hel x hx v1 v2 H1 a r1 r2
/-- a plain walk by turns -/
theorem walk_by {J : It} {n : Nat} {G : Hp → Prop} {Y : Nat → Hp → V → Hp → Prop} (w : Walk J n G Y) {body : (Hp → Prop) → V → Hp → Prop} {Qd : Hp → Prop} {H1 : Hp} (Pv : Nat → Hp → Prop) (h0 : Pv 0 H1) (hG : ∀ i H, i ≤ n → Pv i H → G H)
    (hs : ∀ i x H H', i < n → Pv i H → Y i H x H' → body (Pv (i + 1)) x H') (hd : ∀ H, Pv n H → Qd H) :
    ∃ W : Nat → Nat → Hp → Prop, (∃ m, W 0 m H1) ∧ ∀ i m H, W i m H → (J.stop i H ∧ Qd H) ∨ (J.go i H ∧ ∃ Nx : Hp → Prop, (∀ H', Nx H' → ∃ m', m' < m ∧ W (i + 1) m' H') ∧ ∀ x H', J.yld i H x H' → body Nx x H') := by
  refine ⟨fun i m H => m = n - i ∧ i ≤ n ∧ Pv i H, ⟨n, by simp, Nat.zero_le _, h0⟩, ?_⟩
  rintro i m H ⟨rfl, hi, p⟩
  have q := hG i H hi p
  by_cases hlt : i < n
  · exact .inr ⟨w.goes i H hlt q, Pv (i + 1), fun H' p' => ⟨n - (i + 1), by omega, rfl, hlt, p'⟩, fun x H' y => hs i x H H' hlt p (w.yields i H x H' hlt q y)⟩
  · have e : i = n := by omega
    subst e
    exact .inl ⟨w.stops H q, hd H p⟩
/-- [te for x in wi for y in wi1 if t1] -/
theorem n_lc2 {α β : Type} {xs : List α} {enc : α → PD} {ys : α → List β} {enc1 : β → PD} {p : α → β → Bool} {f : α → β → PD} {vs vs1 : List Nat} {j1 : Nat} {wi1 : TI} {t1 : TT} (hs : Src K wi σ H (xs.map enc)) (hw : ∀ v, wipe ((wipe σ vs).set j (some v)) vs = wipe σ vs)
    (hw1 : ∀ v v1, wipe ((wipe ((wipe σ vs).set j (some v)) vs1).set j1 (some v1)) vs1 = wipe ((wipe σ vs).set j (some v)) vs1) (hI : ∀ x ∈ xs, ∀ y ∈ ys x, Imm (f x y) = true) (hE : ∀ x ∈ xs, Imm (enc x) = true) (hz : ∀ n, ((xs.take n).flatMap fun x => ((ys x).filter (p x)).map (f x)).length ≤ 20000) (hzy : ∀ x ∈ xs, (ys x).length ≤ 20000)
    (hs1 : ∀ x ∈ xs, ∀ v H1, Ex H H1 → Dp K H1 v (enc x) → SrcT K wi1 ((wipe σ vs).set j (some v)) H1 ((ys x).map enc1))
    (hel : ∀ x ∈ xs, ∀ y ∈ ys x, ∀ v v1 H1, Ex H H1 → Dp K H1 v (enc x) → Dp K H1 v1 (enc1 y) → EvT t1 ((wipe ((wipe σ vs).set j (some v)) vs1).set j1 (some v1)) H1 (p x y) ∧ (p x y = true → Evd K te ((wipe ((wipe σ vs).set j (some v)) vs1).set j1 (some v1)) H1 (f x y))) :
    Evn K (tLc2 wi (gName j) tYes wi1 (gName j1) t1 te vs vs1) σ H (xs.flatMap fun x => ((ys x).filter (p x)).map (f x)) := fun H1 a Q k =>
  hs H1 a _ fun J H2 q2 W D hD => by
    rw [List.length_map] at W
    have immO : ∀ l : List α, (∀ x ∈ l, x ∈ xs) → ImmAll (l.flatMap fun x => ((ys x).filter (p x)).map (f x)) = true := by
      intro l
      induction l with
      | nil => intro _; rfl
      | cons z r ih =>
        intro h
        rw [List.flatMap_cons]
        exact immAll_append (immAll_map _ fun y hy => hI z (h z (List.mem_cons_self ..)) y (List.mem_filter.mp hy).1) (ih fun x hx => h x (List.mem_cons_of_mem _ hx))
    refine walk_by W (body := fun Nx x H' => gName j x (wipe σ vs) H' fun σ2 H2 => wipe σ2 vs = wipe σ vs ∧ tYes σ2 H2 fun b H3 => if b = true then wi1 σ2 H3 fun J1 H4 => ∃ W1 : Nat → Nat → Hp → Prop, (∃ m, W1 0 m H4) ∧ ∀ j k H, W1 j k H →
      (J1.stop j H ∧ Nx H) ∨ (J1.go j H ∧ ∃ Nx1 : Hp → Prop, (∀ H', Nx1 H' → ∃ k', k' < k ∧ W1 (j + 1) k' H') ∧ ∀ x H', J1.yld j H x H' → gName j1 x (wipe σ2 vs1) H' fun σ3 H5 => wipe σ3 vs1 = wipe σ2 vs1 ∧ t1 σ3 H5 fun b H6 =>
        if b = true then te σ3 H6 fun y H7 => ∃ acc, H7 D = some (.lst acc) ∧ acc.length < sizeLine ∧ Nx1 (upd H7 D (.lst (acc ++ [y]))) else Nx1 H6)
      else Nx H3) (fun i H' => Ex H2 H' ∧ ∃ acc, H' D = some (.lst acc) ∧ DpAll K H' acc ((xs.take i).flatMap fun x => ((ys x).filter (p x)).map (f x))) ⟨Ex.new hD, [], upd_same, .nil⟩ (fun i H' _ P => P.1) (fun i x H3 H4 hi P Y => ?_) fun H3 P => ?_
    · obtain ⟨ex, acc, hacc, hdp⟩ := P
      obtain ⟨rfl, d, hd, rd⟩ := Y
      rw [List.getElem?_map] at hd
      obtain ⟨xi, hxi, rfl⟩ := Option.map_eq_some_iff.mp hd
      have hmem : xi ∈ xs := List.mem_of_getElem? hxi
      have htk : xs.take (i + 1) = xs.take i ++ [xi] := by rw [List.take_succ, hxi] <;> rfl
      refine ⟨hw x, ?_⟩
      refine hs1 xi hmem x _ ((a.trans q2).trans ex) rd _ (Ex.refl _) _ fun J1 H5 q5 W1 => ?_
      rw [List.length_map] at W1
      have hla : acc.length ≤ 20000 := by rw [hdp.length]; exact hz i
      have hfl : (xs.take (i + 1)).flatMap (fun x => ((ys x).filter (p x)).map (f x)) = (xs.take i).flatMap (fun x => ((ys x).filter (p x)).map (f x)) ++ ((ys xi).filter (p xi)).map (f xi) := by
        rw [htk, List.flatMap_append]
        simp
      refine walk_by W1 (body := fun Nx1 y H' => gName j1 y (wipe ((wipe σ vs).set j (some x)) vs1) H' fun σ3 H5 => wipe σ3 vs1 = wipe ((wipe σ vs).set j (some x)) vs1 ∧ t1 σ3 H5 fun b H6 =>
        if b = true then te σ3 H6 fun y H7 => ∃ acc, H7 D = some (.lst acc) ∧ acc.length < sizeLine ∧ Nx1 (upd H7 D (.lst (acc ++ [y]))) else Nx1 H6)
        (fun i' H' => Ex H2 H' ∧ Tk H5 H' ∧ ∃ acc', H' D = some (.lst acc') ∧ acc'.length ≤ 20000 + i' ∧ DpAll K H' acc' (((xs.take i).flatMap fun x => ((ys x).filter (p x)).map (f x)) ++ (((ys xi).take i').filter (p xi)).map (f xi)))
        ⟨ex.trans q5, Tk.refl _, acc, q5 D _ hacc, by omega, by simpa using hdp.ex q5⟩ (fun i' H' _ P => P.2.1) (fun i' y H6 H7 hi' P Y => ?_) fun H6 P => ?_
      · obtain ⟨ex6, tk6, acc', hacc', hl', hdp'⟩ := P
        obtain ⟨rfl, d, hd, rd'⟩ := Y
        rw [List.getElem?_map] at hd
        obtain ⟨yi, hyi, rfl⟩ := Option.map_eq_some_iff.mp hd
        have hmy : yi ∈ ys xi := List.mem_of_getElem? hyi
        have hzi := hzy xi hmem
        have hty : (ys xi).take (i' + 1) = (ys xi).take i' ++ [yi] := by rw [List.take_succ, hyi] <;> rfl
        refine ⟨hw1 x y, ?_⟩
        have rdx : Dp K H7 x (enc xi) := (rd.ex q5).tk tk6 (hE xi hmem)
        obtain ⟨h1, h2⟩ := hel xi hmem yi hmy x y H7 ((a.trans q2).trans ex6) rdx rd'
        refine h1 _ (Ex.refl _) _ fun H8 q8 => ?_
        cases hp : p xi yi with
        | true =>
          refine h2 hp H8 q8 _ fun w H9 q9 r9 => ⟨acc', q9 D _ (q8 D _ hacc'), sz_lt (by omega), ((ex6.trans q8).trans q9).mut hD, ?_, _, upd_same, by simp; omega, ?_⟩
          · exact ((tk6.trans (Tk.of q8)).trans (Tk.of q9)).trans (Tk.lst (q9 D _ (q8 D _ hacc')))
          rw [hty, List.filter_append, List.map_append]
          have e1 : [yi].filter (p xi) = [yi] := by simp [hp]
          rw [e1, ← List.append_assoc]
          have T : Tk H9 (upd H9 D (.lst (acc' ++ [w]))) := Tk.lst (q9 D _ (q8 D _ hacc'))
          refine ((hdp'.ex (q8.trans q9)).tk T ?_).append (.one (r9.tk T (hI xi hmem yi hmy)))
          exact immAll_append (immO _ fun z hz => List.mem_of_mem_take hz) (immAll_map _ fun z hz => hI xi hmem z (List.mem_of_mem_take (List.mem_filter.mp hz).1))
        | false =>
          refine ⟨ex6.trans q8, tk6.trans (Tk.of q8), acc', q8 D _ hacc', by omega, ?_⟩
          rw [hty, List.filter_append, List.map_append]
          have e1 : [yi].filter (p xi) = [] := by simp [hp]
          rw [e1]
          simpa using hdp'.ex q8
      · obtain ⟨ex6, tk6, acc', hacc', hl', hdp'⟩ := P
        rw [List.take_of_length_le (Nat.le_refl _)] at hdp'
        refine ⟨ex6, acc', hacc', ?_⟩
        rw [hfl]
        exact hdp'
    · obtain ⟨ex, acc, hacc, hdp⟩ := P
      rw [List.take_of_length_le (Nat.le_refl _)] at hdp
      exact k D acc H3 (fresh_back q2 hD) (q2.trans ex) hacc hdp
end
end Sc

/-! ScM: the machine as plain data, its deeds as plain functions. -/
namespace Sc
open PySem PySem.Spec PyProof.Rows L2 Evl
abbrev Sx := PySem.Str
inductive Ed where | up | nil deriving DecidableEq
inductive Pl where | send | again | ask | other | reload deriving DecidableEq
inductive LW where | carry | double | lose | refuse deriving DecidableEq
inductive Deed where | edit (e : Ed) | plain (p : Pl) | letr (w : LW) (i : Nat) deriving DecidableEq
inductive Fate where | ref | ver (n : Int) deriving DecidableEq
inductive Mark where | new | sent | ref | ver (n : Int) deriving DecidableEq
inductive Letter where | edit (k : Int) (e : Ed) | answer (k : Int) (f : Fate) | ask | copy (v n : Int) deriving DecidableEq
inductive FW where | again | order | older | kept | lost | twice | hidden deriving DecidableEq
structure Row where
  key : Int
  edit : Ed
  mark : Mark
  deriving DecidableEq
structure Fail where
  w : FW
  k : Int
  deriving DecidableEq
structure Sch where
  kinds : List Ed
  room : Nat
  way : Nat
  others : Bool
  losses : Bool
  doubles : Bool
  refusals : Bool
  reloads : Bool
structure M where
  stored : Int
  written : Int
  seenV : Int
  seenN : Int
  rows : List Row
  post : List Letter
  fates : List (Int × Fate)
  passed : Nat
  made : Int
  fin : Option Fail
  trail : Nat
  n : Nat
  deriving DecidableEq
def Ed.s : Ed → Sx | .up => "up" | .nil => "nil"
def Pl.s : Pl → Sx | .send => "send" | .again => "again" | .ask => "ask" | .other => "other" | .reload => "reload"
def LW.s : LW → Sx | .carry => "carry" | .double => "double" | .lose => "lose" | .refuse => "refuse"
def FW.s : FW → Sx | .again => "again" | .order => "order" | .older => "older" | .kept => "kept" | .lost => "lost" | .twice => "twice" | .hidden => "hidden"
def Fate.d : Fate → PD | .ref => .str "refused" | .ver n => .int n
def Fate.v : Fate → V | .ref => .str "refused" | .ver n => .int n
def Mark.d : Mark → PD | .new => .str "new" | .sent => .str "sent" | .ref => .str "refused" | .ver n => .int n
def Mark.v : Mark → V | .new => .str "new" | .sent => .str "sent" | .ref => .str "refused" | .ver n => .int n
def Deed.d : Deed → PD | .edit e => .tuple [.str "edit", .str e.s] | .plain p => .tuple [.str p.s] | .letr w i => .tuple [.str w.s, .int (i : Int)]
def Letter.d : Letter → PD | .edit k e => .tuple [.str "edit", .int k, .str e.s] | .answer k f => .tuple [.str "answer", .int k, f.d] | .ask => .tuple [.str "ask"] | .copy v n => .tuple [.str "copy", .int v, .int n]
def Row.d (r : Row) : PD := .tuple [.int r.key, .str r.edit.s, r.mark.d]
def Fail.d (f : Fail) : PD := .tuple [.str f.w.s, .int f.k]
def failD : Option Fail → PD | none => .none | some f => f.d
def Fate.m : Fate → Mark | .ref => .ref | .ver n => .ver n
/-! dicts by ints -/
section
variable {α : Type}
def getG (l : List (Int × α)) (k : Int) : Option α := (l.find? fun p => decide (p.1 = k)).map (·.2)
def putG (l : List (Int × α)) (k : Int) (a : α) : List (Int × α) := if (l.any fun p => decide (p.1 = k)) = true then l.map fun p => if p.1 = k then (p.1, a) else p else l ++ [(k, a)]
end
def edited (n : Int) (e : Ed) : Int := match e with | .up => (n + 1) % 2 | .nil => 0
def isVerF (f : Fate) (lim : Int) : Bool := match f with | .ref => false | .ver n => decide (0 ≤ n) && decide (n ≤ lim)
def isVerM (f : Mark) (lim : Int) : Bool := match f with | .ver n => decide (0 ≤ n) && decide (n ≤ lim) | _ => false
def firstWith (m : M) (mk : Mark) : Option Row := (m.rows.filter fun r => decide (r.mark = mk)).head?
def letterPossible (s : Sch) (m : M) (w : LW) (i : Nat) : Bool := match m.post[i]? with
  | none => false
  | some l => match w with
    | .lose => s.losses
    | .double => s.doubles
    | .refuse => s.refusals && (match l with | .edit k _ => (getG m.fates k).isNone | _ => false)
    | .carry => true
def isPossible (hs : Sx → Bool) (s : Sch) (m : M) (d : Deed) : Bool := match m.fin with
  | some _ => false
  | none => match d with
    | .edit _ => decide (m.rows.length < s.room)
    | .plain .send => decide (m.post.length < s.way) && ((!hs "turns" || (firstWith m .sent).isNone) && (firstWith m .new).isSome)
    | .plain .again => decide (m.post.length < s.way) && (hs "retries" && (firstWith m .sent).isSome)
    | .plain .ask => decide (m.post.length < s.way)
    | .plain .other => s.others
    | .plain .reload => s.reloads
    | .letr w i => letterPossible s m w i
/-- the order of letters -/
def keyL : Letter → Int × Int × Int × Int
  | .answer k .ref => (0, k, 0, 0)
  | .answer k (.ver n) => (0, k, 1, n)
  | .ask => (1, 0, 0, 0)
  | .copy v n => (2, v, n, 0)
  | .edit k .nil => (3, k, 0, 0)
  | .edit k .up => (3, k, 1, 0)
def lx4 (p q : Int × Int × Int × Int) : Bool := decide (p.1 < q.1 ∨ (p.1 = q.1 ∧ (p.2.1 < q.2.1 ∨ (p.2.1 = q.2.1 ∧ (p.2.2.1 < q.2.2.1 ∨ (p.2.2.1 = q.2.2.1 ∧ p.2.2.2 < q.2.2.2))))))
def ltL (a b : Letter) : Bool := lx4 (keyL a) (keyL b)
def insL : List Letter → Letter → List Letter
  | [], l => [l]
  | [a], l => if ltL l a then [l, a] else [a, l]
  | as, l => as ++ [l]
def send1 (s : Sch) (m : M) (l : Letter) : M := if m.post.length < s.way then { m with post := insL m.post l } else m
def setMark (m : M) (k : Int) (mk : Mark) : M := { m with rows := m.rows.map fun r => ⟨r.key, r.edit, if r.key = k then mk else r.mark⟩ }
def leaveK (m : M) (ks : List Int) : M := { m with rows := m.rows.filter fun r => !decide (r.key ∈ ks) }
def writeE (m : M) (e : Ed) : M := { m with stored := edited m.stored e, written := m.written + 1 }
def sendEdit (s : Sch) (m : M) (r : Row) : M := send1 s (setMark m r.key .sent) (.edit r.key r.edit)
def copy1 (hs : Sx → Bool) (m : M) (v : Int) : M := if hs "lists" = true then leaveK m ((m.fates.filter fun p => isVerF p.2 v).map (·.1)) else m
def copy2 (hs : Sx → Bool) (m : M) (v : Int) : M := if hs "matches" = true then leaveK m ((m.rows.filter fun r => isVerM r.mark v).map (·.key)) else m
def takeCopy (hs : Sx → Bool) (m : M) (v n : Int) : M := copy2 hs (copy1 hs { m with seenV := v, seenN := n } v) v
def listed (m : M) : List (Int × Mark) := m.rows.foldl (fun acc r => putG acc r.key r.mark) []
def underWay (m : M) : List Int := m.post.filterMap fun l => match l with | .edit k _ => some k | _ => none
def failureAt (hs : Sx → Bool) (m : M) (key : Int) (li : List (Int × Mark)) (uw : List Int) : Option Fail :=
  let isLaid := (getG li key).isSome && hs "lays"
  match getG m.fates key with
  | some .ref => if getG li key = some .ref then some ⟨.kept, key⟩ else none
  | none => if (getG li key).isNone && !decide (key ∈ uw) then some ⟨.lost, key⟩ else (if isLaid then none else some ⟨.hidden, key⟩)
  | some (.ver n) => let c := isVerF (.ver n) m.seenV
    if isLaid && c then some ⟨.twice, key⟩ else (if isLaid || c then none else some ⟨.hidden, key⟩)
def failureOf (hs : Sx → Bool) (m : M) : Option Fail := (List.range m.made.toNat).findSome? fun (i : Nat) => failureAt hs m (i : Int) (listed m) (underWay m)
def takeAnswer (hs : Sx → Bool) (m : M) (k : Int) (f : Fate) : M := match f with
  | .ref => let m1 := setMark m k .ref
    if hs "undoes" then leaveK m1 [k] else m1
  | .ver n => if !hs "matches" || decide (n ≤ m.seenV) then leaveK m [k] else setMark m k (.ver n)
def takeEdit (hs : Sx → Bool) (s : Sch) (m : M) (k : Int) (e : Ed) : M × Option Fail := match getG m.fates k with
  | some f => if hs "keys" then (send1 s m (.answer k f), none) else (writeE m e, some ⟨.again, k⟩)
  | none =>
    let m1 := writeE m e
    let m2 : M := { m1 with fates := putG m1.fates k (.ver m1.written) }
    if decide (0 ≤ k) && decide (k.toNat < m2.passed) then (m2, some ⟨.order, k⟩) else
      let m3 : M := { m2 with passed := max m2.passed k.toNat }
      (send1 s m3 (.answer k (.ver m3.written)), none)
def arrive (hs : Sx → Bool) (s : Sch) (m : M) (l : Letter) : M × Option Fail := match l with
  | .edit k e => takeEdit hs s m k e
  | .answer k f => (takeAnswer hs m k f, none)
  | .ask => (send1 s m (.copy m.written m.stored), none)
  | .copy v n => if decide (m.seenV ≤ v) then (takeCopy hs m v n, none) else (if !hs "newer" then (takeCopy hs m v n, some ⟨.older, v⟩) else (m, none))
def doneWith (hs : Sx → Bool) (s : Sch) (m : M) (w : LW) (i : Nat) : M × Option Fail := match m.post[i]? with
  | none => (m, none)
  | some l =>
    let m1 : M := match w with | .double => m | _ => { m with post := m.post.take i ++ m.post.drop (i + 1) }
    match w with
    | .refuse => (match l with
      | .edit k _ => (send1 s { m1 with fates := putG m1.fates k .ref } (.answer k .ref), none)
      | _ => (m1, none))
    | .lose => (m1, none)
    | _ => arrive hs s m1 l
def done1 (hs : Sx → Bool) (s : Sch) (m : M) (d : Deed) : M × Option Fail := match d with
  | .edit e => ({ m with rows := m.rows ++ [⟨m.made, e, .new⟩], made := m.made + 1 }, none)
  | .plain .send => (match firstWith m .new with | some r => sendEdit s m r | none => m, none)
  | .plain .again => (match firstWith m .sent with | some r => sendEdit s m r | none => m, none)
  | .plain .ask => (send1 s m .ask, none)
  | .plain .other => (writeE m .up, none)
  | .plain .reload => (takeCopy hs (if hs "saves" then m else { m with rows := [] }) m.written m.stored, none)
  | .letr w i => doneWith hs s m w i
def done (hs : Sx → Bool) (s : Sch) (m : M) (d : Deed) : M × Option Fail :=
  let r := done1 hs s m d
  let m' : M := { r.1 with n := m.n + 1 }
  (m', match r.2 with | some f => some f | none => failureOf hs m')
def doM (hs : Sx → Bool) (s : Sch) (m : M) (d : Deed) : M × Option Fail :=
  let r := done hs s { m with trail := m.trail + 1 } d
  ({ r.1 with fin := r.2 }, r.2)
def m0 : M := ⟨0, 0, 0, 0, [], [], [], 0, 0, none, 0, 0⟩
end Sc

/-! ScI: what stays true of a machine whose possible deeds are done. -/
namespace Sc
open PySem PySem.Spec PyProof.Rows L2 Evl
def ansOk (m : M) : Prop := ∀ l ∈ m.post, ∀ k f, l = .answer k f → getG m.fates k = some f
def edOk (m : M) : Prop := ∀ l ∈ m.post, ∀ k e, l = .edit k e → 0 ≤ k ∧ k < m.made
structure Iv (N : Nat) (m : M) : Prop where
  m0 : 0 ≤ m.made
  m1 : m.made ≤ (N : Int)
  fl : m.fates.length ≤ N
  ps : m.passed ≤ N
  an : ansOk m
  ed : edOk m
  rk : ∀ r ∈ m.rows, 0 ≤ r.key ∧ r.key < m.made
theorem Iv.mono {N N' : Nat} {m : M} (h : Iv N m) (e : N ≤ N') : Iv N' m := ⟨h.m0, by have := h.m1; omega, Nat.le_trans h.fl e, Nat.le_trans h.ps e, h.an, h.ed, h.rk⟩
theorem insL_mem {ls : List Letter} {l x : Letter} (h : x ∈ insL ls l) : x ∈ ls ∨ x = l := by
  match ls with
  | [] => right; simpa [insL] using h
  | [a] =>
    have h : x ∈ (if ltL l a = true then [l, a] else [a, l]) := h
    split at h <;> simp at h <;> rcases h with h | h <;> simp [h]
  | a :: b :: r =>
    have h : x ∈ (a :: b :: r) ++ [l] := h
    rcases List.mem_append.mp h with h | h
    · exact .inl h
    · exact .inr (List.mem_singleton.mp h)
def LetOk (m : M) (l : Letter) : Prop := (∀ k f, l = .answer k f → getG m.fates k = some f) ∧ ∀ k e, l = .edit k e → 0 ≤ k ∧ k < m.made
theorem Iv.send {N : Nat} {s : Sch} {m : M} {l : Letter} (h : Iv N m) (hl : LetOk m l) : Iv N (send1 s m l) := by
  unfold send1
  split
  · refine ⟨h.m0, h.m1, h.fl, h.ps, fun x hx k f e => ?_, fun x hx k f e => ?_, h.rk⟩
    · rcases insL_mem hx with hx | hx
      · exact h.an x hx k f e
      · subst hx; exact hl.1 k f e
    · rcases insL_mem hx with hx | hx
      · exact h.ed x hx k f e
      · subst hx; exact hl.2 k f e
  · exact h
theorem Iv.setMark {N : Nat} {m : M} {k : Int} {mk : Mark} (h : Iv N m) : Iv N (setMark m k mk) := by
  refine ⟨h.m0, h.m1, h.fl, h.ps, h.an, h.ed, fun r hr => ?_⟩
  obtain ⟨r0, hr0, rfl⟩ := List.mem_map.mp hr
  exact h.rk r0 hr0
theorem Iv.leave {N : Nat} {m : M} {ks : List Int} (h : Iv N m) : Iv N (leaveK m ks) := ⟨h.m0, h.m1, h.fl, h.ps, h.an, h.ed, fun r hr => h.rk r (List.mem_filter.mp hr).1⟩
theorem Iv.write {N : Nat} {m : M} {e : Ed} (h : Iv N m) : Iv N (writeE m e) := ⟨h.m0, h.m1, h.fl, h.ps, h.an, h.ed, h.rk⟩
theorem Iv.sendEdit {N : Nat} {s : Sch} {m : M} {r : Row} (h : Iv N m) (hr : r ∈ m.rows) : Iv N (sendEdit s m r) := by
  unfold Sc.sendEdit
  exact h.setMark.send ⟨fun k f e => (by cases e), fun k e z => (by cases z; exact h.rk r hr)⟩
theorem Iv.copy {N : Nat} {hs : Sx → Bool} {m : M} {v n : Int} (h : Iv N m) : Iv N (takeCopy hs m v n) := by
  have h1 : Iv N { m with seenV := v, seenN := n } := ⟨h.m0, h.m1, h.fl, h.ps, h.an, h.ed, h.rk⟩
  have h2 : Iv N (copy1 hs { m with seenV := v, seenN := n } v) := by
    unfold copy1
    split
    · exact h1.leave
    · exact h1
  unfold takeCopy copy2
  split
  · exact h2.leave
  · exact h2
theorem Iv.answer {N : Nat} {hs : Sx → Bool} {m : M} {k : Int} {f : Fate} (h : Iv N m) : Iv N (takeAnswer hs m k f) := by
  cases f with
  | ref =>
    unfold takeAnswer
    dsimp only
    split
    · exact h.setMark.leave
    · exact h.setMark
  | ver n =>
    unfold takeAnswer
    dsimp only
    split
    · exact h.leave
    · exact h.setMark
theorem getG_cons {α : Type} (p : Int × α) (r : List (Int × α)) (k : Int) : getG (p :: r) k = if p.1 = k then some p.2 else getG r k := by
  unfold getG
  rw [List.find?_cons]
  by_cases h : p.1 = k <;> simp [h]
theorem getG_over {α : Type} (k : Int) (a : α) (k' : Int) : ∀ l : List (Int × α), getG (l.map fun p => if p.1 = k then (p.1, a) else p) k' = if k' = k then (getG l k').map fun _ => a else getG l k'
  | [] => by
    show none = _
    split <;> rfl
  | p :: r => by
    rw [List.map_cons, getG_cons, getG_cons, getG_over k a k' r]
    by_cases e : p.1 = k
    · rw [if_pos e]
      by_cases e' : k' = k
      · subst e'
        simp [e]
      · have : ¬ k = k' := fun z => e' z.symm
        simp [e, e', this]
    · rw [if_neg e]
      by_cases e' : k' = k
      · subst e'
        simp [e]
      · simp [e']
theorem getG_snoc {α : Type} (k : Int) (a : α) (k' : Int) : ∀ l : List (Int × α), getG (l ++ [(k, a)]) k' = if (getG l k').isSome = true then getG l k' else (if k = k' then some a else none)
  | [] => by
    rw [List.nil_append, getG_cons]
    rfl
  | p :: r => by
    rw [List.cons_append, getG_cons, getG_cons, getG_snoc k a k' r]
    by_cases e : p.1 = k' <;> simp [e]
theorem getG_any {α : Type} (k : Int) : ∀ l : List (Int × α), (l.any fun p => decide (p.1 = k)) = (getG l k).isSome
  | [] => rfl
  | p :: r => by
    rw [List.any_cons, getG_cons, getG_any k r]
    by_cases e : p.1 = k <;> simp [e]
theorem getG_putG {α : Type} (l : List (Int × α)) (k : Int) (a : α) (k' : Int) : getG (putG l k a) k' = if k' = k then some a else getG l k' := by
  unfold putG
  rw [getG_any]
  cases hg : getG l k with
  | some b =>
    show getG (l.map fun p => if p.1 = k then (p.1, a) else p) k' = _
    rw [getG_over]
    by_cases e : k' = k
    · subst e
      rw [if_pos rfl, if_pos rfl, hg]
      rfl
    · rw [if_neg e, if_neg e]
  | none =>
    show getG (l ++ [(k, a)]) k' = _
    rw [getG_snoc]
    by_cases e : k' = k
    · subst e
      rw [hg]
      simp
    · have : ¬ k = k' := fun z => e z.symm
      rw [if_neg e, if_neg this]
      cases getG l k' <;> rfl
theorem putG_len {α : Type} (l : List (Int × α)) (k : Int) (a : α) : (putG l k a).length ≤ l.length + 1 := by
  unfold putG
  split
  · rw [List.length_map]; omega
  · simp
theorem Iv.put {N : Nat} {m : M} {k : Int} {f : Fate} (h : Iv N m) (hk : getG m.fates k = none) : Iv (N + 1) { m with fates := putG m.fates k f } := by
  refine ⟨h.m0, by have := h.m1; show m.made ≤ _; omega, Nat.le_trans (putG_len _ _ _) (Nat.succ_le_succ h.fl), Nat.le_succ_of_le h.ps, fun l hl k' f' e => ?_, h.ed, h.rk⟩
  have := h.an l hl k' f' e
  rw [getG_putG, if_neg (fun z => by rw [z, hk] at this; cases this)]
  exact this
theorem Iv.post {N : Nat} {m : M} {ls : List Letter} (h : Iv N m) (hs : ∀ l ∈ ls, l ∈ m.post) : Iv N { m with post := ls } := ⟨h.m0, h.m1, h.fl, h.ps, fun l hl => h.an l (hs l hl), fun l hl => h.ed l (hs l hl), h.rk⟩
theorem takeEdit_some {hs : Sx → Bool} {s : Sch} {m : M} {k : Int} {e : Ed} {f : Fate} (h : getG m.fates k = some f) : takeEdit hs s m k e = if hs "keys" = true then (send1 s m (.answer k f), none) else (writeE m e, some ⟨.again, k⟩) := by
  unfold takeEdit
  rw [h]
theorem takeEdit_none {hs : Sx → Bool} {s : Sch} {m : M} {k : Int} {e : Ed} (h : getG m.fates k = none) : takeEdit hs s m k e = if (decide (0 ≤ k) && decide (k.toNat < m.passed)) = true then ({ writeE m e with fates := putG m.fates k (.ver (m.written + 1)) }, some ⟨.order, k⟩) else
    (send1 s { writeE m e with fates := putG m.fates k (.ver (m.written + 1)), passed := max m.passed k.toNat } (.answer k (.ver (m.written + 1))), none) := by
  unfold takeEdit
  rw [h]
  rfl
theorem Iv.edit {N : Nat} {hs : Sx → Bool} {s : Sch} {m : M} {k : Int} {e : Ed} (h : Iv N m) (hk : 0 ≤ k ∧ k < m.made) : Iv (N + 1) (takeEdit hs s m k e).1 := by
  cases hg : getG m.fates k with
  | some f =>
    rw [takeEdit_some hg]
    split
    · exact (h.send ⟨fun k' f' z => (by cases z; exact hg), fun k' e' z => (by cases z)⟩).mono (Nat.le_succ _)
    · exact h.write.mono (Nat.le_succ _)
  | none =>
    rw [takeEdit_none hg]
    have h1 : Iv (N + 1) { writeE m e with fates := putG m.fates k (.ver (m.written + 1)) } := (h.write (e := e)).put hg
    split
    · exact h1
    · refine Iv.send ⟨h1.m0, h1.m1, h1.fl, ?_, h1.an, h1.ed, h1.rk⟩ ⟨fun k' f' z => by
        cases z
        show getG (putG m.fates k (.ver (m.written + 1))) k = _
        rw [getG_putG, if_pos rfl], fun k' e' z => by cases z⟩
      have h2 := h.m1
      have h3 := h.ps
      show max m.passed k.toNat ≤ N + 1
      omega
theorem Iv.arr {N : Nat} {hs : Sx → Bool} {s : Sch} {m : M} {l : Letter} (h : Iv N m) (hl : ∀ k e, l = .edit k e → 0 ≤ k ∧ k < m.made) : Iv (N + 1) (arrive hs s m l).1 := by
  cases l with
  | edit k e => exact h.edit (hl k e rfl)
  | answer k f => exact (h.answer (hs := hs)).mono (Nat.le_succ _)
  | ask => exact (h.send ⟨fun k f z => (by cases z), fun k f z => (by cases z)⟩).mono (Nat.le_succ _)
  | copy v n =>
    have ka : arrive hs s m (.copy v n) = (if decide (m.seenV ≤ v) = true then (takeCopy hs m v n, none) else (if (!hs "newer") = true then (takeCopy hs m v n, some ⟨.older, v⟩) else (m, none))) := rfl
    rw [ka]
    split
    · exact (h.copy).mono (Nat.le_succ _)
    · split
      · exact (h.copy).mono (Nat.le_succ _)
      · exact h.mono (Nat.le_succ _)
/-- the post without the letter, if it goes -/
def rmPost (m : M) (w : LW) (i : Nat) : M := match w with | .double => m | _ => { m with post := m.post.take i ++ m.post.drop (i + 1) }
theorem doneWith_eq {hs : Sx → Bool} {s : Sch} {m : M} {w : LW} {i : Nat} {l : Letter} (h : m.post[i]? = some l) : doneWith hs s m w i = (match w with
    | .refuse => (match l with
      | .edit k _ => (send1 s { rmPost m w i with fates := putG (rmPost m w i).fates k .ref } (.answer k .ref), none)
      | _ => (rmPost m w i, none))
    | .lose => (rmPost m w i, none)
    | _ => arrive hs s (rmPost m w i) l) := by
  unfold doneWith
  cases w <;> simp only [h] <;> first | rfl | (cases l <;> rfl)
theorem rm_fates (m : M) (w : LW) (i : Nat) : (rmPost m w i).fates = m.fates := by cases w <;> rfl
theorem rm_made (m : M) (w : LW) (i : Nat) : (rmPost m w i).made = m.made := by cases w <;> rfl
theorem rm_mem (m : M) (w : LW) (i : Nat) : ∀ l ∈ (rmPost m w i).post, l ∈ m.post := by
  intro l hl
  have k : ∀ l ∈ m.post.take i ++ m.post.drop (i + 1), l ∈ m.post := fun l hl => by
    rcases List.mem_append.mp hl with h | h
    · exact List.mem_of_mem_take h
    · exact List.mem_of_mem_drop h
  cases w <;> first | exact hl | exact k l hl
theorem Iv.rm {N : Nat} {m : M} {w : LW} {i : Nat} (h : Iv N m) : Iv N (rmPost m w i) := by
  have k : ∀ l ∈ m.post.take i ++ m.post.drop (i + 1), l ∈ m.post := fun l hl => by
    rcases List.mem_append.mp hl with h | h
    · exact List.mem_of_mem_take h
    · exact List.mem_of_mem_drop h
  cases w <;> first | exact h | exact h.post k
theorem possible_letr {s : Sch} {m : M} {w : LW} {i : Nat} (h : letterPossible s m w i = true) : ∃ l, m.post[i]? = some l ∧ (w = .refuse → ∃ k e, l = .edit k e ∧ getG m.fates k = none) := by
  unfold letterPossible at h
  cases hl : m.post[i]? with
  | none => rw [hl] at h; cases h
  | some l =>
    rw [hl] at h
    refine ⟨l, rfl, fun hw => ?_⟩
    subst hw
    cases l with
    | edit k e =>
      refine ⟨k, e, rfl, ?_⟩
      have h : (s.refusals && (getG m.fates k).isNone) = true := h
      rw [Bool.and_eq_true] at h
      exact Option.isNone_iff_eq_none.mp h.2
    | _ => simp at h
theorem Iv.withL {N : Nat} {hs : Sx → Bool} {s : Sch} {m : M} {w : LW} {i : Nat} (h : Iv N m) (hp : letterPossible s m w i = true) : Iv (N + 1) (doneWith hs s m w i).1 := by
  obtain ⟨l, hl, hr⟩ := possible_letr hp
  rw [doneWith_eq hl]
  have hmem : l ∈ m.post := List.mem_of_getElem? hl
  have hr1 := h.rm (w := w) (i := i)
  have ar : Iv (N + 1) (arrive hs s (rmPost m w i) l).1 := hr1.arr fun k e z => by
    rw [rm_made]
    exact h.ed l hmem k e z
  cases w with
  | carry => exact ar
  | double => exact ar
  | lose => exact hr1.mono (Nat.le_succ _)
  | refuse =>
    obtain ⟨k, e, rfl, hg⟩ := hr rfl
    refine (hr1.put (f := .ref) (k := k) (by rw [rm_fates]; exact hg)).send ⟨fun k' f' z => by
      cases z
      show getG (putG _ k Fate.ref) k = _
      rw [getG_putG, if_pos rfl], fun k' e' z => by cases z⟩
theorem firstWith_mem {m : M} {mk : Mark} {r : Row} (h : firstWith m mk = some r) : r ∈ m.rows := by
  unfold firstWith at h
  exact (List.mem_filter.mp (List.mem_of_head? h)).1
theorem Iv.done1 {N : Nat} {hs : Sx → Bool} {s : Sch} {m : M} {d : Deed} (h : Iv N m) (hp : isPossible hs s m d = true) : Iv (N + 1) (done1 hs s m d).1 := by
  cases d with
  | edit e =>
    refine ⟨by have := h.m0; show 0 ≤ m.made + 1; omega, by have := h.m1; show m.made + 1 ≤ ((N + 1 : Nat) : Int); omega, Nat.le_succ_of_le h.fl, Nat.le_succ_of_le h.ps, h.an, fun l hl k e z => ?_, fun r hr => ?_⟩
    · have := h.ed l hl k e z
      show 0 ≤ k ∧ k < m.made + 1
      omega
    · show 0 ≤ r.key ∧ r.key < m.made + 1
      rcases List.mem_append.mp hr with hr | hr
      · have := h.rk r hr; omega
      · have h0 := h.m0
        rw [List.mem_singleton.mp hr]
        show 0 ≤ m.made ∧ m.made < m.made + 1
        omega
  | plain pl =>
    cases pl with
    | send =>
      show Iv (N + 1) (match firstWith m .new with | some r => Sc.sendEdit s m r | none => m)
      cases hf : firstWith m .new with
      | none => exact h.mono (Nat.le_succ _)
      | some r => exact (h.sendEdit (firstWith_mem hf)).mono (Nat.le_succ _)
    | again =>
      show Iv (N + 1) (match firstWith m .sent with | some r => Sc.sendEdit s m r | none => m)
      cases hf : firstWith m .sent with
      | none => exact h.mono (Nat.le_succ _)
      | some r => exact (h.sendEdit (firstWith_mem hf)).mono (Nat.le_succ _)
    | ask => exact (h.send ⟨fun k f z => (by cases z), fun k f z => (by cases z)⟩).mono (Nat.le_succ _)
    | other => exact h.write.mono (Nat.le_succ _)
    | reload =>
      refine Iv.mono (Iv.copy ?_) (Nat.le_succ _)
      split
      · exact h
      · exact ⟨h.m0, h.m1, h.fl, h.ps, h.an, h.ed, fun r hr => by simp at hr⟩
  | letr w i =>
    have hp : letterPossible s m w i = true := by
      unfold isPossible at hp
      cases hf : m.fin with
      | some f => rw [hf] at hp; cases hp
      | none => rw [hf] at hp; exact hp
    exact h.withL hp
theorem iv_m0 : Iv 0 Sc.m0 := ⟨Int.le_refl _, Int.le_refl _, Nat.le_refl _, Nat.le_refl _, fun l hl => by simp [Sc.m0] at hl, fun l hl => by simp [Sc.m0] at hl, fun l hl => by simp [Sc.m0] at hl⟩
theorem Iv.any {N : Nat} {m : M} (h : Iv N m) {t n : Nat} {f : Option Fail} : Iv N { m with trail := t, n := n, fin := f } := ⟨h.m0, h.m1, h.fl, h.ps, h.an, h.ed, h.rk⟩
theorem possible_fin {hs : Sx → Bool} {s : Sch} {m : M} {d : Deed} (hp : isPossible hs s m d = true) : m.fin = none := by
  unfold isPossible at hp
  cases hf : m.fin with
  | some f => rw [hf] at hp; cases hp
  | none => rfl
end Sc

/-! ScS: sorted() of letters, dict.update by a dict of ints. -/
namespace Sc
open PySem PySem.Spec PyProof.Rows L2 Evl
theorem lx4_iff {p q : Int × Int × Int × Int} : lx4 p q = true ↔ (p.1 < q.1 ∨ (p.1 = q.1 ∧ (p.2.1 < q.2.1 ∨ (p.2.1 = q.2.1 ∧ (p.2.2.1 < q.2.2.1 ∨ (p.2.2.1 = q.2.2.1 ∧ p.2.2.2 < q.2.2.2)))))) := decide_eq_true_iff
theorem lx4_no {p q : Int × Int × Int × Int} : lx4 p q = false ↔ ¬ (p.1 < q.1 ∨ (p.1 = q.1 ∧ (p.2.1 < q.2.1 ∨ (p.2.1 = q.2.1 ∧ (p.2.2.1 < q.2.2.1 ∨ (p.2.2.1 = q.2.2.1 ∧ p.2.2.2 < q.2.2.2)))))) := decide_eq_false_iff_not
theorem swo_L {α : Type} (f : α → Letter) : SrtO.Swo fun x y => ltL (f x) (f y) := by
  refine ⟨fun x y h => ?_, fun x y z h1 h2 => ?_⟩
  · have a := lx4_iff.mp h
    refine lx4_no.mpr ?_
    omega
  · have a := lx4_no.mp h1
    have b := lx4_no.mp h2
    refine lx4_no.mpr ?_
    omega
def agree : Letter → Letter → Prop
  | .answer k f, .answer k' f' => k = k' → f = f'
  | _, _ => True
def LetVals : Letter → List Value → Prop
  | .edit k e, vs => ∃ t t' t'', vs = [.str "edit" t, .int k t', .str e.s t'']
  | .answer k .ref, vs => ∃ t t' t'', vs = [.str "answer" t, .int k t', .str "refused" t'']
  | .answer k (.ver n), vs => ∃ t t' t'', vs = [.str "answer" t, .int k t', .int n t'']
  | .ask, vs => ∃ t, vs = [.str "ask" t]
  | .copy v n, vs => ∃ t t' t'', vs = [.str "copy" t, .int v t', .int n t'']
def IsLet (h : Heap) (v : Value) (l : Letter) : Prop := ∃ a o xs n, v = .ref a ∧ h.get? a = some o ∧ o.cls = .type "tuple" ∧ o.data = .seq xs n ∧ LetVals l xs.toList
theorem IsLet.keeps {h h' : Heap} {v : Value} {l : Letter} (x : IsLet h v l) (k : ∀ b o, h.get? b = some o → o.cls = .type "tuple" → h'.get? b = some o) : IsLet h' v l := by
  obtain ⟨a, o, xs, n, h1, h2, h3, h4, h5⟩ := x
  exact ⟨a, o, xs, n, h1, k a o h2 h3, h3, h4, h5⟩
section
variable {prog : Program} {w : World} {A : Around} {E : Value → Shared → Prop} {s : Shared} {b fin : Bool} {Q : Bool → Shared → Prop} {r : List (Value × Value)} {i : Nat}
theorem kl_str {x y : PySem.Str} {t u : Tok} (h1 : x = y → PySem.W.KatLex prog w A b fin Q r (i + 1) s) (h2 : x ≠ y → Q (decide (x.cps.toList < y.cps.toList)) s) : PySem.W.KatLex prog w A b fin Q ((.str x t, .str y u) :: r) i s := by
  refine PySem.W.kat_cons (SeqAt.EqAt.str_str x t y u prog w _ _ ?_)
  refine PySem.W.kat_go (fun e1 => ?_) (fun e1 => ?_)
  · exact PySem.W.kat_yes (h1 (by simpa using e1))
  · exact PySem.W.kat_no (PyProof.Rows.oneLt_any_str (h2 (by simpa using e1)))
theorem kl_int {x y : Int} {t u : Tok} (h1 : x = y → PySem.W.KatLex prog w A b fin Q r (i + 1) s) (h2 : x ≠ y → Q (decide (x < y)) s) : PySem.W.KatLex prog w A b fin Q ((.int x t, .int y u) :: r) i s := by
  refine PySem.W.kat_cons (SeqAt.EqAt.int_int x t y u prog w _ _ ?_)
  refine PySem.W.kat_go (fun e1 => ?_) (fun e1 => ?_)
  · exact PySem.W.kat_yes (h1 (by simpa using e1))
  · exact PySem.W.kat_no (PyProof.Rows.oneLt_any_int (h2 (by simpa using e1)))
theorem q_no {x y : PySem.Str} {c : Bool} (h : (decide (x.cps.toList < y.cps.toList)) = c) {s : Shared} : s = s ∧ decide (x.cps.toList < y.cps.toList) = c := ⟨rfl, h⟩
theorem let_cmp {vs : List Value} {f : Value → Letter} (hp : ∀ v ∈ vs, IsLet s.heap v (f v)) (hg : ∀ v ∈ vs, ∀ u ∈ vs, agree (f v) (f u)) : SrtO.Cmp prog w A s (tuples' true) (fun p => p.1 ∈ vs) (SrtO.lt2 fun v u => ltL (f v) (f u)) := by
  intro p q hm hm'
  have h1 := hp _ hm
  have h2 := hp _ hm'
  have h3 := hg _ hm _ hm'
  show wpAny (model prog w) A (keyLt' (tuples' true) p.1 q.1) (fun r s' => s' = s ∧ r = ltL (f p.1) (f q.1)) (fun _ _ => False) s
  generalize f p.1 = l at h1 h3 ⊢
  generalize f q.1 = l' at h2 h3 ⊢
  obtain ⟨a, o, xs, n, e, ho, hc, hd, hl⟩ := h1
  obtain ⟨a', o', xs', n', e', ho', hc', hd', hl'⟩ := h2
  rw [e, e']
  refine PySem.W.kat_lt ho hd ho' hd' ?_
  have z1 : xs.size = xs.toList.length := by simp
  have z2 : xs'.size = xs'.toList.length := by simp
  rw [z1, z2]
  generalize xs.toList = ys at hl ⊢
  generalize xs'.toList = ys' at hl' ⊢
  have fins : ∀ {c : Bool} {j : Nat} {k : Nat}, ltL l l' = false → PySem.W.KatLex prog w A true (decide (k < k)) (fun r s' => s' = s ∧ r = ltL l l') [] j s := fun hh => PySem.W.kat_nil ⟨rfl, by rw [hh]; exact decide_eq_false (Nat.lt_irrefl _)⟩
  rcases l with ⟨k, e⟩ | ⟨k, f⟩ | _ | ⟨v, m⟩
  · rcases l' with ⟨k', e'⟩ | ⟨k', f'⟩ | _ | ⟨v', m'⟩
    · obtain ⟨t, t', t'', rfl⟩ := hl
      obtain ⟨u, u', u'', rfl⟩ := hl'
      refine kl_str (fun _ => kl_int (fun hk => kl_str (fun he => ?_) fun he => ?_) fun hk => ?_) fun h => absurd rfl h
      · subst hk
        have : e = e' := by cases e <;> cases e' <;> first | rfl | (exact absurd he (by decide +kernel))
        subst this
        exact fins (c := true) (by cases e <;> exact lx4_no.mpr (by simp [keyL]))
      · subst hk
        cases e <;> cases e' <;> first | exact absurd rfl he | exact ⟨rfl, by rw [show ltL (.edit k .up) (.edit k .nil) = false from lx4_no.mpr (by simp [keyL])]; decide +kernel⟩ | exact ⟨rfl, by rw [show ltL (.edit k .nil) (.edit k .up) = true from lx4_iff.mpr (by simp [keyL])]; decide +kernel⟩
      · refine ⟨rfl, ?_⟩
        cases e <;> cases e' <;> (unfold ltL lx4; simp [keyL, hk])
    · have hr : ltL (.edit k e) (.answer k' f') = false := by cases e <;> cases f' <;> exact lx4_no.mpr (by simp [keyL])
      rw [hr]
      obtain ⟨t, t', t'', rfl⟩ := hl
      have : ∃ u us, ys' = .str "answer" u :: us := by
        cases f' with
        | ref => obtain ⟨u, u', u'', rfl⟩ := hl'; exact ⟨_, _, rfl⟩
        | ver _ => obtain ⟨u, u', u'', rfl⟩ := hl'; exact ⟨_, _, rfl⟩
      obtain ⟨u, us, rfl⟩ := this
      exact kl_str (fun h => absurd h (by decide +kernel)) fun _ => ⟨rfl, by decide +kernel⟩
    · have hr : ltL (.edit k e) .ask = false := by cases e <;> exact lx4_no.mpr (by simp [keyL])
      rw [hr]
      obtain ⟨t, t', t'', rfl⟩ := hl
      obtain ⟨u, rfl⟩ := hl'
      exact kl_str (fun h => absurd h (by decide +kernel)) fun _ => ⟨rfl, by decide +kernel⟩
    · have hr : ltL (.edit k e) (.copy v' m') = false := by cases e <;> exact lx4_no.mpr (by simp [keyL])
      rw [hr]
      obtain ⟨t, t', t'', rfl⟩ := hl
      obtain ⟨u, u', u'', rfl⟩ := hl'
      exact kl_str (fun h => absurd h (by decide +kernel)) fun _ => ⟨rfl, by decide +kernel⟩
  · have : ∃ t t' c, ys = [.str "answer" t, .int k t', c] ∧ ((f = .ref ∧ ∃ t'', c = .str "refused" t'') ∨ ∃ n t'', f = .ver n ∧ c = .int n t'') := by
      cases f with
      | ref => obtain ⟨u, u', u'', rfl⟩ := hl; exact ⟨_, _, _, rfl, .inl ⟨rfl, _, rfl⟩⟩
      | ver _ => obtain ⟨u, u', u'', rfl⟩ := hl; exact ⟨_, _, _, rfl, .inr ⟨_, _, rfl, rfl⟩⟩
    obtain ⟨t, t', c, rfl, hc1⟩ := this
    rcases l' with ⟨k', e'⟩ | ⟨k', f'⟩ | _ | ⟨v', m'⟩
    · have hr : ltL (.answer k f) (.edit k' e') = true := by cases e' <;> cases f <;> exact lx4_iff.mpr (by simp [keyL])
      rw [hr]
      obtain ⟨u, u', u'', rfl⟩ := hl'
      exact kl_str (fun h => absurd h (by decide +kernel)) fun _ => ⟨rfl, by decide +kernel⟩
    · have : ∃ t t' c', ys' = [.str "answer" t, .int k' t', c'] ∧ ((f' = .ref ∧ ∃ t'', c' = .str "refused" t'') ∨ ∃ n t'', f' = .ver n ∧ c' = .int n t'') := by
        cases f' with
        | ref => obtain ⟨u, u', u'', rfl⟩ := hl'; exact ⟨_, _, _, rfl, .inl ⟨rfl, _, rfl⟩⟩
        | ver _ => obtain ⟨u, u', u'', rfl⟩ := hl'; exact ⟨_, _, _, rfl, .inr ⟨_, _, rfl, rfl⟩⟩
      obtain ⟨u, u', c', rfl, hc2⟩ := this
      refine kl_str (fun _ => kl_int (fun hk => ?_) fun hk => ?_) fun h => absurd rfl h
      · have hf : f = f' := h3 hk
        subst hk hf
        have hr : ltL (.answer k f) (.answer k f) = false := by cases f <;> exact lx4_no.mpr (by simp [keyL])
        rcases hc1 with ⟨rfl, t'', rfl⟩ | ⟨n, t'', rfl, rfl⟩
        · rcases hc2 with ⟨_, u'', rfl⟩ | ⟨n', u'', hh, rfl⟩
          · exact kl_str (fun _ => fins (c := true) hr) fun h => absurd rfl h
          · cases hh
        · rcases hc2 with ⟨hh, u'', rfl⟩ | ⟨n', u'', hh, rfl⟩
          · cases hh
          · cases hh
            exact kl_int (fun _ => fins (c := true) hr) fun h => absurd rfl h
      · refine ⟨rfl, ?_⟩
        cases f <;> cases f' <;> (unfold ltL lx4; simp [keyL, hk])
    · have hr : ltL (.answer k f) .ask = true := by cases f <;> exact lx4_iff.mpr (by simp [keyL])
      rw [hr]
      obtain ⟨u, rfl⟩ := hl'
      exact kl_str (fun h => absurd h (by decide +kernel)) fun _ => ⟨rfl, by decide +kernel⟩
    · have hr : ltL (.answer k f) (.copy v' m') = true := by cases f <;> exact lx4_iff.mpr (by simp [keyL])
      rw [hr]
      obtain ⟨u, u', u'', rfl⟩ := hl'
      exact kl_str (fun h => absurd h (by decide +kernel)) fun _ => ⟨rfl, by decide +kernel⟩
  · obtain ⟨t, rfl⟩ := hl
    rcases l' with ⟨k', e'⟩ | ⟨k', f'⟩ | _ | ⟨v', m'⟩
    · have hr : ltL .ask (.edit k' e') = true := by cases e' <;> exact lx4_iff.mpr (by simp [keyL])
      rw [hr]
      obtain ⟨u, u', u'', rfl⟩ := hl'
      exact kl_str (fun h => absurd h (by decide +kernel)) fun _ => ⟨rfl, by decide +kernel⟩
    · have hr : ltL .ask (.answer k' f') = false := by cases f' <;> exact lx4_no.mpr (by simp [keyL])
      rw [hr]
      have : ∃ u us, ys' = .str "answer" u :: us := by
        cases f' with
        | ref => obtain ⟨u, u', u'', rfl⟩ := hl'; exact ⟨_, _, rfl⟩
        | ver _ => obtain ⟨u, u', u'', rfl⟩ := hl'; exact ⟨_, _, rfl⟩
      obtain ⟨u, us, rfl⟩ := this
      exact kl_str (fun h => absurd h (by decide +kernel)) fun _ => ⟨rfl, by decide +kernel⟩
    · obtain ⟨u, rfl⟩ := hl'
      exact kl_str (fun _ => fins (c := true) (lx4_no.mpr (by simp [keyL]))) fun h => absurd rfl h
    · have hr : ltL .ask (.copy v' m') = true := lx4_iff.mpr (by simp [keyL])
      rw [hr]
      obtain ⟨u, u', u'', rfl⟩ := hl'
      exact kl_str (fun h => absurd h (by decide +kernel)) fun _ => ⟨rfl, by decide +kernel⟩
  · obtain ⟨t, t', t'', rfl⟩ := hl
    rcases l' with ⟨k', e'⟩ | ⟨k', f'⟩ | _ | ⟨v', m'⟩
    · have hr : ltL (.copy v m) (.edit k' e') = true := by cases e' <;> exact lx4_iff.mpr (by simp [keyL])
      rw [hr]
      obtain ⟨u, u', u'', rfl⟩ := hl'
      exact kl_str (fun h => absurd h (by decide +kernel)) fun _ => ⟨rfl, by decide +kernel⟩
    · have hr : ltL (.copy v m) (.answer k' f') = false := by cases f' <;> exact lx4_no.mpr (by simp [keyL])
      rw [hr]
      have : ∃ u us, ys' = .str "answer" u :: us := by
        cases f' with
        | ref => obtain ⟨u, u', u'', rfl⟩ := hl'; exact ⟨_, _, rfl⟩
        | ver _ => obtain ⟨u, u', u'', rfl⟩ := hl'; exact ⟨_, _, rfl⟩
      obtain ⟨u, us, rfl⟩ := this
      exact kl_str (fun h => absurd h (by decide +kernel)) fun _ => ⟨rfl, by decide +kernel⟩
    · have hr : ltL (.copy v m) .ask = false := lx4_no.mpr (by simp [keyL])
      rw [hr]
      obtain ⟨u, rfl⟩ := hl'
      exact kl_str (fun h => absurd h (by decide +kernel)) fun _ => ⟨rfl, by decide +kernel⟩
    · obtain ⟨u, u', u'', rfl⟩ := hl'
      refine kl_str (fun _ => kl_int (fun hk => kl_int (fun hn => ?_) fun hn => ?_) fun hk => ?_) fun h => absurd rfl h
      · subst hk hn
        exact fins (c := true) (lx4_no.mpr (by simp [keyL]))
      · subst hk
        exact ⟨rfl, by unfold ltL lx4; simp [keyL, hn]⟩
      · exact ⟨rfl, by unfold ltL lx4; simp [keyL, hk]⟩
theorem let_first {l : Letter} {vs : List Value} (h : LetVals l vs) : ∃ x t r, vs = .str x t :: r := by
  rcases l with ⟨k, e⟩ | ⟨k, f⟩ | _ | ⟨v, m⟩
  · obtain ⟨t, t', t'', rfl⟩ := h; exact ⟨_, _, _, rfl⟩
  · cases f with
    | ref => obtain ⟨u, u', u'', rfl⟩ := h; exact ⟨_, _, _, rfl⟩
    | ver _ => obtain ⟨u, u', u'', rfl⟩ := h; exact ⟨_, _, _, rfl⟩
  · obtain ⟨t, rfl⟩ := h; exact ⟨_, _, _, rfl⟩
  · obtain ⟨t, t', t'', rfl⟩ := h; exact ⟨_, _, _, rfl⟩
theorem let_firsts : ∀ {vs : List Value} {h : Heap}, (∀ v ∈ vs, ∃ l, IsLet h v l) → ∃ fs, PySem.W.KatTups h vs fs ∧ fs.length = vs.length ∧ ∀ f ∈ fs, ∃ x t, f = Value.str x t
  | [], _, _ => ⟨[], PySem.W.KatTups.nil, rfl, fun f hf => absurd hf (by simp)⟩
  | v :: vs, h, hp => by
    obtain ⟨l, a, o, xs, n, rfl, ho, hc, hd, hl⟩ := hp v List.mem_cons_self
    obtain ⟨fs, h1, h2, h3⟩ := let_firsts (vs := vs) (h := h) fun u hu => hp u (List.mem_cons_of_mem _ hu)
    obtain ⟨x, t, r, e⟩ := let_first hl
    refine ⟨.str x t :: fs, PySem.W.KatTups.cons ho hc hd (by rw [← Array.getElem?_toList, e] <;> rfl) h1, by simp [h2], fun f hf => ?_⟩
    rcases List.mem_cons.mp hf with rfl | hf
    · exact ⟨_, _, rfl⟩
    · exact h3 f hf
theorem lets_sortable {a : Addr} {vs : List Value} {f : Value → Letter} (h0 : 0 < vs.length) (hp : ∀ v ∈ vs, IsLet s.heap v (f v)) (hg : ∀ v ∈ vs, ∀ u ∈ vs, agree (f v) (f u)) (ha : ∀ o, s.heap.get? a = some o → o.cls ≠ .type "tuple") : SrtO.SortableO prog w A s a vs fun v u => ltL (f v) (f u) := by
  intro h' keep
  have hp' : ∀ v ∈ vs, IsLet h' v (f v) := fun v hm => (hp v hm).keeps fun b o e c => keep b o (fun z => by subst z; exact ha o e c) e
  obtain ⟨fs, h1, h2, h3⟩ := let_firsts fun v hm => ⟨_, hp' v hm⟩
  refine ⟨tuples' true, fun Q E hq => ?_, let_cmp (s := { s with heap := h' }) hp' hg⟩
  refine PySem.W.kat_kind (T := .type "str") h1 (by omega) (fun f hm => ?_) (by rfl) ?_
  · obtain ⟨x, t, rfl⟩ := h3 f hm
    exact PySem.W.Looks.now
  · have e : (Value.type "str" != Value.type "tuple") = true := by first | decide +kernel | rfl | decide
    rw [e]
    exact hq
end
/-! ### as a rule -/
def rSortedL (K : PySem.W.Frag) : List V → Hp → VK → Prop := fun vs H Q => ∃ (a : Addr) (xs : List V) (f : V → Letter), vs = [V.ref a] ∧ SqL K H a xs ∧ (∀ x ∈ xs, Dp K H x (f x).d) ∧ (∀ x ∈ xs, ∀ y ∈ xs, agree (f x) (f y)) ∧
  ∀ ys p, SrtO.Srtd (fun x y => ltL (f x) (f y)) ys → SrtO.Stb (fun x y => ltL (f x) (f y)) ys xs → H p = none → Q (.ref p) (upd H p (.lst ys))
theorem letVals_of {X : Cx} {pins : List (Addr × Obj)} {σ : L2.St} {H : Hp} {s : Shared} {x : V} {l : Letter} {u : Value} (I : Inv X pins σ H s) (h : Dp X.K H x l.d) (r : RelV x u) : IsLet s.heap u l := by
  have key : ∀ {ds : List PD}, Dp X.K H x (.tuple ds) → ∃ a o xs n vs, u = .ref a ∧ s.heap.get? a = some o ∧ o.cls = .type "tuple" ∧ o.data = .seq xs n ∧ Vals vs xs.toList ∧ DpAll X.K H vs ds := fun h => by
    obtain ⟨a, vs, rfl, hs, hv⟩ := h.tupV
    obtain ⟨its, r2, ⟨o, ho, hc, n, hd⟩, _⟩ := I.tuple hs
    cases (show u = Value.ref a from r)
    exact ⟨a, o, its.toArray, n, vs, rfl, ho, hc, hd, by simpa using r2, hv⟩
  have v3 : ∀ {vs : List V} {us : List Value} {d1 d2 d3 : PD}, Vals vs us → DpAll X.K H vs [d1, d2, d3] → ∃ v1 v2 v3 u1 u2 u3, us = [u1, u2, u3] ∧ RelV v1 u1 ∧ RelV v2 u2 ∧ RelV v3 u3 ∧ Dp X.K H v1 d1 ∧ Dp X.K H v2 d2 ∧ Dp X.K H v3 d3 := fun a b => by
    cases b with
    | cons b1 b => cases b with
      | cons b2 b => cases b with
        | cons b3 b =>
          cases b
          cases a with
          | cons a1 a => cases a with
            | cons a2 a => cases a with
              | cons a3 a =>
                cases a
                exact ⟨_, _, _, _, _, _, rfl, a1, a2, a3, b1, b2, b3⟩
  have st : ∀ {v : V} {z : PySem.Str} {u : Value}, Dp X.K H v (.str z) → RelV v u → ∃ t, u = .str z t := fun h r => by cases h; exact r
  have it : ∀ {v : V} {z : Int} {u : Value}, Dp X.K H v (.int z) → RelV v u → ∃ t, u = .int z t := fun h r => by cases h; exact r
  rcases l with ⟨k, e⟩ | ⟨k, f⟩ | _ | ⟨v, m⟩
  · obtain ⟨a, o, xs, n, vs, rfl, ho, hc, hd, r2, hv⟩ := key h
    obtain ⟨v1, v2, v3, u1, u2, u3, e1, a1, a2, a3, b1, b2, b3⟩ := v3 r2 hv
    obtain ⟨t1, rfl⟩ := st b1 a1
    obtain ⟨t2, rfl⟩ := it b2 a2
    obtain ⟨t3, rfl⟩ := st b3 a3
    exact ⟨a, o, xs, n, rfl, ho, hc, hd, t1, t2, t3, e1⟩
  · obtain ⟨a, o, xs, n, vs, rfl, ho, hc, hd, r2, hv⟩ := key h
    obtain ⟨v1, v2, v3, u1, u2, u3, e1, a1, a2, a3, b1, b2, b3⟩ := v3 r2 hv
    obtain ⟨t1, rfl⟩ := st b1 a1
    obtain ⟨t2, rfl⟩ := it b2 a2
    cases f with
    | ref =>
      obtain ⟨t3, rfl⟩ := st b3 a3
      exact ⟨a, o, xs, n, rfl, ho, hc, hd, t1, t2, t3, e1⟩
    | ver m =>
      obtain ⟨t3, rfl⟩ := it b3 a3
      exact ⟨a, o, xs, n, rfl, ho, hc, hd, t1, t2, t3, e1⟩
  · obtain ⟨a, o, xs, n, vs, rfl, ho, hc, hd, r2, hv⟩ := key h
    cases hv with
    | cons b1 b =>
      cases b
      generalize hx : xs.toList = ys at r2
      cases r2 with
      | cons a1 a2 =>
        cases a2
        obtain ⟨t1, rfl⟩ := st b1 a1
        exact ⟨a, o, xs, n, rfl, ho, hc, hd, t1, hx⟩
  · obtain ⟨a, o, xs, n, vs, rfl, ho, hc, hd, r2, hv⟩ := key h
    obtain ⟨v1, v2, v3, u1, u2, u3, e1, a1, a2, a3, b1, b2, b3⟩ := v3 r2 hv
    obtain ⟨t1, rfl⟩ := st b1 a1
    obtain ⟨t2, rfl⟩ := it b2 a2
    obtain ⟨t3, rfl⟩ := it b3 a3
    exact ⟨a, o, xs, n, rfl, ho, hc, hd, t1, t2, t3, e1⟩
theorem cr_sortedL {X : Cx} : CallR X (.builtin "sorted") (rSortedL X.K) := by
  intro pins s σ H vs us Q I r h
  obtain ⟨a, xs, f, rfl, hs, hx, hg, q⟩ := h
  obtain ⟨its, rv, hl, hz⟩ := I.list hs
  obtain ⟨u, rfl, ru⟩ := vals1 r
  obtain rfl : u = Value.ref a := ru
  have isr : ∀ x ∈ xs, ∃ t, x = V.ref t := fun x m => by
    have := hx x m
    generalize f x = l at this
    rcases l with ⟨k, e⟩ | ⟨k, f⟩ | _ | ⟨v, m⟩ <;> (obtain ⟨a, _, rfl, _⟩ := this.tupV; exact ⟨a, rfl⟩)
  obtain ⟨e1, e2⟩ := refs_back rv isr
  have hb1 : ∀ v ∈ its, IsLet s.heap v (f (backV v)) ∧ backV v ∈ xs := fun v hv => by
    obtain ⟨t, rfl⟩ := e2 v hv
    have hm : V.ref t ∈ xs := by rw [e1]; exact List.mem_map.mpr ⟨_, hv, rfl⟩
    exact ⟨letVals_of I (hx _ hm) (show RelV (.ref t) (.ref t) from rfl), hm⟩
  refine SrtO.sorted_ord (swo_L fun u => f (backV u)) hl.isList (by rw [← rv.length]; exact hz) (fun h2 h₁ a ha kk => ?_) fun out h1 h2 => ?_
  · refine lets_sortable (s := { s with heap := h₁ }) (f := fun u => f (backV u)) (by omega) (fun v hm => (hb1 v hm).1.keeps fun b o e _ => (kk b o e).2) (fun v hv u hu => hg _ (hb1 v hv).2 _ (hb1 u hu).2) fun o e => ?_
    have e' : some o = some (seqObj "list" its.toArray 0) := e.symm.trans ha
    cases e'
    intro c
    exact absurd (Value.type.inj c) (by decide)
  · have h3 : ∀ u ∈ out, ∃ a, u = Value.ref a := fun u hu => e2 u (h2.perm.mem_iff.mp hu)
    obtain ⟨n, hn⟩ := sortedAll_at s.heap its out.toArray
    have hb : SrtO.Stb (fun x y => ltL (f x) (f y)) (out.map backV) xs := by
      rw [e1]
      exact SrtO.Stb.map (swo_L f) backV h2
    have kp : ∀ b o, s.heap.get? b = some o → (sortedAll s.heap its out.toArray).get? b = some o := fun b o e => sortedAll_old e
    refine ⟨.ref (s.heap.objs.size + 1), upd H (s.heap.objs.size + 1) (.lst (out.map backV)), I.laid (t' := s.toks) kp (Nat.le_succ _) ⟨?_, out, n, vals_back h3, hn⟩, rfl, q _ _ (SrtO.srtd_map (f := backV) (lt := fun x y => ltL (f x) (f y)) h1) hb (I.hok.fresh (Nat.le_succ _))⟩
    rw [hb.perm.length_eq]
    exact hz
/-! ### d.update(d') -/
def mergeK (kvs more : List (L2.Key × V)) : List (L2.Key × V) := more.foldl (fun acc kv => putK acc kv.1 kv.2) kvs
def rUpdateK : V → List V → Hp → VK → Prop := fun x xs H Q => ∃ (a b : Addr) (kvs more : List (L2.Key × V)), x = .ref a ∧ xs = [.ref b] ∧ a ≠ b ∧ H a = some (.dK kvs) ∧ H b = some (.dK more) ∧ kvs.length + more.length ≤ 100000 ∧ Q .non (upd H a (.dK (mergeK kvs more)))
theorem kv_merge : ∀ {more : List (L2.Key × V)} {ms : List (L2.Key × Value)} {kvs : List (L2.Key × V)} {vs : List (L2.Key × Value)}, KV more ms → KV kvs vs → KV (mergeK kvs more) (merged vs ms)
  | [], _, _, _, .nil, h => h
  | p :: more, q :: ms, kvs, vs, .cons h t, h' => by
    have z := h'.put p.1 h.2
    have e : p.1 = q.1 := h.1
    show KV (mergeK (putK kvs p.1 p.2) more) (merged (stored vs q.1 q.2) ms)
    rw [← e]
    exact kv_merge t z
theorem mt_updateK {X : Cx} : MtR X "dict.update" rUpdateK := by
  intro pins s σ H x xs v us Q I rx rxs h
  obtain ⟨a, b, kvs, more, rfl, rfl, hab, ha, hb, hl, q⟩ := h
  cases rx
  obtain ⟨u, rfl, ru⟩ := rxs.one
  cases ru
  obtain ⟨z, hd, vs, rel, dd⟩ := dk_of I.hok ha
  obtain ⟨z2, hd2, vs2, rel2, dd2⟩ := dk_of I.hok hb
  have hn : vs.length + vs2.length ≤ sizeLine := by rw [← rel.length, ← rel2.length]; exact sz_of hl
  refine call_meetsIn PySem.F.slot_dict_update dd.typeIs PySem.F.entry_dict_update (PySem.F.args_dict_update_2 _ _) (meets_dict_update (mixKind X.prog X.w) a b hab hd2) ⟨vs, vs2, dd, dd2, hn, fun h' dd' _ hs => ?_⟩
  have he : ∃ q, h'.get? a = some q := let ⟨q, _, _, hq, _⟩ := dd'; ⟨q, hq⟩
  have hm := kv_merge rel2 rel
  refine ⟨.non, _, L2.d_write I (by rw [ha]; exact True.intro) hs he (dk_new ?_ hd hm dd'), rfl, q⟩
  have e1 := merged_length_le vs vs2
  rw [hm.length]
  omega
end Sc

/-! ScY: yield from a list. -/
namespace L2
open PySem PySem.Spec PyProof.Rows GenW
section
variable {prog : Program} {w : World} {A : Around} {E : Value → Shared → Prop} {s : Shared}
theorem special_lst_item {it t : Addr} {i : Nat} {items : Array Value} {x : Value} {Q : Option Value → Shared → Prop} (hit : s.heap.IsListIter it t i) (ht : s.heap.IsList t items) (hx : items[i]? = some x)
    (hQ : ∀ h', h'.IsListIter it t (i + 1) → Heap.SameBut it s.heap h' → Q (some x) { s with heap := h' }) : wpAny (model prog w) A (callSpecial? (.ref it) "__next__") Q E s := by
  obtain ⟨o, ho, hc, hd⟩ := id hit
  obtain ⟨ol, hol, _, nl, hdl⟩ := ht
  refine wpAny_callSpecial?_slot (name := Str.ofString "__next__") hit.typeIs slot_listiter_next (wpAny_call_entry slot_listiter_next hit.typeIs entry_listiter_next ?_ (args_listiter_next _))
  show wpAny _ _ (field (.ref it) 0 >>= _) _ _ s
  refine wpAny_bind (wpAny_field ho hd (x := .ref t) rfl ?_)
  show wpAny _ _ (if (Value.ref t == Value.none) = true then _ else _) _ _ s
  rw [if_neg (show ¬ ((Value.ref t == Value.none) = true) from Bool.false_ne_true)]
  show wpAny _ _ (field (.ref it) 1 >>= _) _ _ s
  refine wpAny_bind (wpAny_field ho hd (x := .int i 0) rfl ?_)
  show wpAny _ _ (seqItems? (.ref t) >>= _) _ _ s
  refine wpAny_bind (wpAny_seqItems hol hdl ?_)
  simp only [Int.toNat_natCast, hx]
  refine wpAny_bind (wpAny_setField ho hd (by simp) (wpAny_pure ⟨x, rfl, hQ _ ?_ (Heap.SameBut.update ..)⟩))
  exact ⟨_, Heap.get?_update_self _ ho (Obj.isFreed_of_fields (Obj.data_mapFields hd _)), (Obj.cls_mapFields ..).trans hc, by
    rw [Obj.data_mapFields hd]; simp [rawInt]⟩
theorem special_lst_end {it t : Addr} {i : Nat} {items : Array Value} {Q : Option Value → Shared → Prop} (hh : A.handled = none) (hit : s.heap.IsListIter it t i) (ht : s.heap.IsList t items) (hx : items[i]? = none)
    (hE : ∀ e h', StopX e h' → Heap.ExtBut it s.heap h' → E e { s with heap := h' }) : wpAny (model prog w) A (callSpecial? (.ref it) "__next__") Q E s := by
  obtain ⟨o, ho, hc, hd⟩ := id hit
  obtain ⟨ol, hol, _, nl, hdl⟩ := ht
  refine wpAny_callSpecial?_slot (name := Str.ofString "__next__") hit.typeIs slot_listiter_next (wpAny_call_entry slot_listiter_next hit.typeIs entry_listiter_next ?_ (args_listiter_next _))
  show wpAny _ _ (field (.ref it) 0 >>= _) _ _ s
  refine wpAny_bind (wpAny_field ho hd (x := .ref t) rfl ?_)
  show wpAny _ _ (if (Value.ref t == Value.none) = true then _ else _) _ _ s
  rw [if_neg (show ¬ ((Value.ref t == Value.none) = true) from Bool.false_ne_true)]
  show wpAny _ _ (field (.ref it) 1 >>= _) _ _ s
  refine wpAny_bind (wpAny_field ho hd (x := .int i 0) rfl ?_)
  show wpAny _ _ (seqItems? (.ref t) >>= _) _ _ s
  refine wpAny_bind (wpAny_seqItems hol hdl ?_)
  simp only [Int.toNat_natCast, hx]
  refine wpAny_bind (wpAny_rule (wpAny_bind (wpAny_setField ho hd (by simp) ?_)))
  show wpAny _ _ (newExc (.type "StopIteration") [] >>= _) _ _ _
  refine wpAny_bind ?_
  simp only [newExc, newTuple]
  refine wpAny_bind (wpAny_newObj_type ?_ (by size_fits))
  refine wpAny_bind (m := firstArgMember _ _) (wpAny_of_eq (a := Value.none) (by first | rfl | (simp only [firstArgMember]; rfl)) ?_)
  refine wpAny_newObj_type ?_ (by size_fits)
  simp only [raiseNew]
  refine wpAny_bind (wpAny_handled ?_)
  first | rw [show A.in1.handled = none from hh] | rw [hh]
  refine wpAny_bind (wpAny_pure (wpAny_throw ?_))
  refine hE _ _ ⟨_, _, _, rfl, Heap.get?_push_size _ rfl, rfl, rfl, ?_⟩ (((Heap.SameBut.update ..).extBut.push _).push _)
  first
    | rfl
    | (rw [Array.getElem?_append_left (by decide)]; rfl)
    | kernel_rfl
end
def tYfLst (te : TE) : TYf := fun σ H Q => te σ H fun x H1 => ∃ a xs, x = .ref a ∧ H1 a = some (.lst xs) ∧ Q xs H1
theorem close_lst : typeLookup (.type "list_iterator") "close" = pure none := by rw [typeLookup_type, builtinLookup_eq_fast]; kernel_rfl
section
variable {X : Cx} {e : Expr} {te : TE}
theorem yf_lst (he : PE X e te) : YfE X e (tYfLst te) := by
  refine ⟨fun pins s σ H Q I h => ?_⟩
  refine thn (he.run pins s σ H _ I h) fun v s1 ⟨x, H1, I1, r1, a, xs, ex, ha, hq⟩ => ?_
  subst ex
  obtain rfl : v = Value.ref a := r1
  obtain ⟨hlen, its, nn, rits, hg⟩ := I1.hok a _ ha
  have ht : s1.heap.IsList a its.toArray := ⟨_, hg, rfl, nn, rfl⟩
  refine ⟨"list", ht.typeIs, by decide, wpAny_pyIter_list ht ?_⟩
  have ksz : ∀ b o, s1.heap.get? b = some o → b ≠ s1.heap.objs.size := fun b o e => Nat.ne_of_lt (Heap.lt_size e)
  have kp : ∀ b o, s1.heap.get? b = some o → (s1.heap.push { cls := .type "list_iterator", data := .fields #[.ref a, .int 0 0] }).get? b = some o := fun b o e => Heap.get?_push_of_some _ e
  refine ⟨s1.heap.objs.size, H1, xs, fun j h => h.IsListIter s1.heap.objs.size a j ∧ h.IsList a its.toArray, rfl, I1.kept (t' := s1.toks) kp, .inr I1.sz, Nat.ne_of_gt I1.lt, fun y c hy => ?_, I1.hok.fresh (Nat.le_refl _), fun p hp => ?_,
    ⟨⟨_, Heap.get?_push_size _ rfl, rfl, rfl⟩, ht.push _⟩, ⟨⟨"list_iterator", fun j h q => ?_, close_lst, by decide⟩, fun j h h' q hk => ?_, fun A' j x s2 Q' E' hA hx q hQ => ?_, fun A' s2 Q' E' hA q hE => ?_⟩, hq⟩
  · obtain ⟨v, o, ho, _⟩ := I1.cell y c hy
    exact ksz c o ho
  · exact ksz p.1 _ (I1.pin p hp).1
  · obtain ⟨⟨o, ho, hc, _⟩, _⟩ := q
    exact ⟨o, ho, hc⟩
  · obtain ⟨⟨o, ho, r⟩, o2, ho2, r2⟩ := q
    exact ⟨⟨o, hk _ o (.inl rfl) ho, r⟩, o2, hk _ o2 (.inr (by rw [ha]; exact fun z => by cases z)) ho2, r2⟩
  · obtain ⟨q1, q2⟩ := q
    obtain ⟨u, hu, ru⟩ := rits.get hx
    have hne : a ≠ s1.heap.objs.size := ksz a _ hg
    exact special_lst_item q1 q2 (x := u) (by simpa using hu) fun h' q1' hs => hQ u h' s2.toks ru ⟨q1', q2.extBut hs.extBut hne⟩ fun b o hb eb => hs.extBut b o hb eb
  · obtain ⟨q1, q2⟩ := q
    have hnone : its.toArray[xs.length]? = none := by
      have e := rits.length
      have e2 : its[xs.length]? = none := List.getElem?_eq_none_iff.mpr (by omega)
      simpa using e2
    exact special_lst_end hA q1 q2 hnone fun e h' hS hk => hE e h' s2.toks hS fun b o hb eb => hk b o hb eb
end
end L2

/-! ScT: trail, counter play no part in what a deed does. -/
namespace Sc
open PySem PySem.Spec PyProof.Rows L2 Evl
def tr (t n : Nat) (m : M) : M := { m with trail := t, n := n }
variable {hs : Sx → Bool} {s : Sch} {t n : Nat}
theorem tr_send (m : M) (l : Letter) : send1 s (tr t n m) l = tr t n (send1 s m l) := by
  unfold send1
  show (if m.post.length < s.way then _ else _) = _
  split <;> rfl
theorem tr_leave (m : M) (ks : List Int) : leaveK (tr t n m) ks = tr t n (leaveK m ks) := rfl
theorem tr_setMark (m : M) (k : Int) (mk : Mark) : setMark (tr t n m) k mk = tr t n (setMark m k mk) := rfl
theorem tr_write (m : M) (e : Ed) : writeE (tr t n m) e = tr t n (writeE m e) := rfl
theorem tr_sendEdit (m : M) (r : Row) : sendEdit s (tr t n m) r = tr t n (sendEdit s m r) := by
  unfold sendEdit
  rw [tr_setMark, tr_send]
theorem tr_copy1 (m : M) (v : Int) : copy1 hs (tr t n m) v = tr t n (copy1 hs m v) := by
  unfold copy1
  split <;> rfl
theorem tr_copy2 (m : M) (v : Int) : copy2 hs (tr t n m) v = tr t n (copy2 hs m v) := by
  unfold copy2
  split <;> rfl
theorem tr_copy (m : M) (v k : Int) : takeCopy hs (tr t n m) v k = tr t n (takeCopy hs m v k) := by
  unfold takeCopy
  rw [← tr_copy2, ← tr_copy1]
  rfl
theorem tr_answer (m : M) (k : Int) (f : Fate) : takeAnswer hs (tr t n m) k f = tr t n (takeAnswer hs m k f) := by
  cases f with
  | ref =>
    unfold takeAnswer
    dsimp only
    split <;> rfl
  | ver v =>
    show (if (!hs "matches" || decide (v ≤ m.seenV)) = true then _ else _) = tr t n (if (!hs "matches" || decide (v ≤ m.seenV)) = true then _ else _)
    split <;> rfl
theorem tr_edit (m : M) (k : Int) (e : Ed) : takeEdit hs s (tr t n m) k e = (tr t n (takeEdit hs s m k e).1, (takeEdit hs s m k e).2) := by
  cases hg : getG m.fates k with
  | some f =>
    rw [takeEdit_some hg, takeEdit_some (m := tr t n m) hg]
    split
    · rw [tr_send]
    · rfl
  | none =>
    rw [takeEdit_none hg, takeEdit_none (m := tr t n m) hg]
    show (if (decide (0 ≤ k) && decide (k.toNat < m.passed)) = true then _ else _) = _
    split
    · rfl
    · rw [← tr_send]
      rfl
theorem tr_arrive (m : M) (l : Letter) : arrive hs s (tr t n m) l = (tr t n (arrive hs s m l).1, (arrive hs s m l).2) := by
  cases l with
  | edit k e => exact tr_edit m k e
  | answer k f => exact congrArg (fun x => (x, none)) (tr_answer m k f)
  | ask => exact congrArg (fun x => (x, none)) (tr_send m (.copy m.written m.stored))
  | copy v k =>
    have ka : ∀ m : M, arrive hs s m (.copy v k) = (if decide (m.seenV ≤ v) = true then (takeCopy hs m v k, none) else (if (!hs "newer") = true then (takeCopy hs m v k, some ⟨.older, v⟩) else (m, none))) := fun _ => rfl
    rw [ka, ka, tr_copy]
    show (if decide (m.seenV ≤ v) = true then _ else _) = _
    split
    · rfl
    · split <;> rfl
theorem tr_rm (m : M) (w : LW) (i : Nat) : rmPost (tr t n m) w i = tr t n (rmPost m w i) := by cases w <;> rfl
theorem tr_with (m : M) (w : LW) (i : Nat) : doneWith hs s (tr t n m) w i = (tr t n (doneWith hs s m w i).1, (doneWith hs s m w i).2) := by
  cases hl : m.post[i]? with
  | none =>
    have h1 : ∀ m : M, m.post[i]? = none → doneWith hs s m w i = (m, none) := fun m h => by
      unfold doneWith
      rw [h]
    rw [h1 m hl, h1 (tr t n m) hl]
  | some l =>
    rw [doneWith_eq hl, doneWith_eq (m := tr t n m) hl, tr_rm]
    cases w with
    | carry => exact tr_arrive _ l
    | double => exact tr_arrive _ l
    | lose => rfl
    | refuse =>
      cases l with
      | edit k e => exact congrArg (fun x => (x, none)) (tr_send { rmPost m .refuse i with fates := putG (rmPost m .refuse i).fates k .ref } (.answer k .ref))
      | _ => rfl
theorem tr_done1 (m : M) (d : Deed) : done1 hs s (tr t n m) d = (tr t n (done1 hs s m d).1, (done1 hs s m d).2) := by
  cases d with
  | edit e => rfl
  | plain p =>
    cases p with
    | send =>
      show ((match firstWith m .new with | some r => sendEdit s (tr t n m) r | none => tr t n m), (none : Option Fail)) = (tr t n (match firstWith m .new with | some r => sendEdit s m r | none => m), none)
      cases firstWith m .new with
      | none => rfl
      | some r => exact congrArg (fun x => (x, none)) (tr_sendEdit m r)
    | again =>
      show ((match firstWith m .sent with | some r => sendEdit s (tr t n m) r | none => tr t n m), (none : Option Fail)) = (tr t n (match firstWith m .sent with | some r => sendEdit s m r | none => m), none)
      cases firstWith m .sent with
      | none => rfl
      | some r => exact congrArg (fun x => (x, none)) (tr_sendEdit m r)
    | ask => exact congrArg (fun x => (x, none)) (tr_send m .ask)
    | other => rfl
    | reload =>
      refine congrArg (fun x => (x, none)) ?_
      show takeCopy hs (if hs "saves" = true then tr t n m else { tr t n m with rows := [] }) m.written m.stored = tr t n (takeCopy hs (if hs "saves" = true then m else { m with rows := [] }) m.written m.stored)
      rw [← tr_copy]
      split <;> rfl
  | letr w i => exact tr_with m w i
theorem tr_possible (m : M) (d : Deed) : isPossible hs s (tr t n m) d = isPossible hs s m d := rfl
theorem tr_done (m : M) (d : Deed) : (done hs s (tr t n m) d).2 = (done hs s m d).2 ∧ ∃ n', (done hs s (tr t n m) d).1 = tr t n' (done hs s m d).1 := by
  unfold done
  rw [tr_done1]
  dsimp only
  cases (done1 hs s m d).2 with
  | some f => exact ⟨rfl, _, rfl⟩
  | none => exact ⟨rfl, _, rfl⟩
theorem done_trail (m : M) (d : Deed) : (done hs s m d).1.trail = m.trail := by
  have h := tr_done1 (hs := hs) (s := s) (t := m.trail) (n := m.n) m d
  have e : tr m.trail m.n m = m := rfl
  rw [e] at h
  have h1 := congrArg (fun x : M × Option Fail => x.1.trail) h
  exact h1
end Sc

/-! ScL: the sets of a pool, by layers. -/
namespace Sc
open PySem PySem.Spec PyProof.Rows L2 Evl
/-- what may follow a set: what stands behind its last -/
def begAt (pool : List Sx) (s : List Sx) : Nat := match s.getLast? with
  | none => 0
  | some c => pool.idxOf c + 1
def later (pool : List Sx) (s : List Sx) : List Sx := pool.drop (begAt pool s)
def nextL (pool : List Sx) (L : List (List Sx)) : List (List Sx) := L.flatMap fun s => (later pool s).map fun c => s ++ [c]
def layer (pool : List Sx) : Nat → List (List Sx)
  | 0 => [[]]
  | k + 1 => nextL pool (layer pool k)
def foundL (pool : List Sx) : Nat → List (List Sx)
  | 0 => [[]]
  | k + 1 => foundL pool k ++ layer pool (k + 1)
def setsOf (pool : List Sx) : List (List Sx) := foundL pool (pool.length + 1)
theorem layer_after {pool : List Sx} {k : Nat} (h : layer pool k = []) : ∀ j, layer pool (k + j) = []
  | 0 => h
  | j + 1 => by
    show nextL pool (layer pool (k + j)) = []
    rw [layer_after h j]
    rfl
theorem found_stop {pool : List Sx} {k : Nat} (h : layer pool k = []) : ∀ j, foundL pool (k + j) = foundL pool k
  | 0 => rfl
  | j + 1 => by
    show foundL pool (k + j) ++ layer pool (k + j + 1) = _
    rw [show k + j + 1 = k + (j + 1) from rfl, layer_after h (j + 1), List.append_nil, found_stop h j]
theorem idx_drop {pool : List Sx} (hn : pool.Nodup) {i j : Nat} {c : Sx} (h : (pool.drop i)[j]? = some c) : pool.idxOf c = i + j := by
  rw [List.getElem?_drop] at h
  obtain ⟨hlt, he⟩ := List.getElem?_eq_some_iff.mp h
  rw [← he]
  exact hn.idxOf_getElem _ hlt
theorem beg_snoc {pool : List Sx} {s : List Sx} {c : Sx} : begAt pool (s ++ [c]) = pool.idxOf c + 1 := by
  unfold begAt
  rw [List.getLast?_append]
  rfl
theorem layer_beg {pool : List Sx} (hn : pool.Nodup) : ∀ k, ∀ s ∈ layer pool k, k ≤ begAt pool s ∧ begAt pool s ≤ pool.length
  | 0, s, h => by
    have : s = [] := by simpa [layer] using h
    subst this
    exact ⟨Nat.zero_le _, Nat.zero_le _⟩
  | k + 1, s, h => by
    obtain ⟨t, ht, hs⟩ := List.mem_flatMap.mp h
    obtain ⟨c, hc, rfl⟩ := List.mem_map.mp hs
    obtain ⟨h1, h2⟩ := layer_beg hn k t ht
    obtain ⟨j, hj⟩ := List.mem_iff_getElem?.mp hc
    have e := idx_drop hn hj
    have hlt := (List.getElem?_eq_some_iff.mp hj).1
    rw [later, List.length_drop] at hlt
    rw [beg_snoc, e]
    omega
theorem layer_end {pool : List Sx} (hn : pool.Nodup) : layer pool (pool.length + 1) = [] := by
  cases h : layer pool (pool.length + 1) with
  | nil => rfl
  | cons s r =>
    have := layer_beg hn (pool.length + 1) s (by rw [h]; exact List.mem_cons_self ..)
    omega
theorem setsOf_stop {pool : List Sx} (hn : pool.Nodup) {k : Nat} (h : layer pool k = []) : setsOf pool = foundL pool k := by
  unfold setsOf
  by_cases hk : k ≤ pool.length + 1
  · obtain ⟨j, e⟩ := Nat.le.dest hk
    rw [← e, found_stop h j]
  · obtain ⟨j, e⟩ := Nat.le.dest (show pool.length + 1 ≤ k by omega)
    rw [← e, found_stop (layer_end hn) j]
/-! sizes -/
def wt (pool : List Sx) (s : List Sx) : Nat := 2 ^ (pool.length - begAt pool s)
def sumW (pool : List Sx) : List (List Sx) → Nat
  | [] => 0
  | s :: r => wt pool s + sumW pool r
theorem sumW_app (pool : List Sx) : ∀ a b : List (List Sx), sumW pool (a ++ b) = sumW pool a + sumW pool b
  | [], b => by simp [sumW]
  | s :: r, b => by
    show wt pool s + sumW pool (r ++ b) = _
    rw [sumW_app pool r b]
    show _ = wt pool s + sumW pool r + sumW pool b
    omega
theorem sumW_step {pool : List Sx} (hn : pool.Nodup) (s : List Sx) : ∀ (m i : Nat), i + m = pool.length → sumW pool ((pool.drop i).map fun c => s ++ [c]) + 1 = 2 ^ m
  | 0, i, h => by
    rw [List.drop_of_length_le (by omega)]
    rfl
  | m + 1, i, h => by
    have hlt : i < pool.length := by omega
    rw [List.drop_eq_getElem_cons hlt, List.map_cons]
    show wt pool (s ++ [pool[i]]) + sumW pool _ + 1 = _
    have ih := sumW_step hn s m (i + 1) (by omega)
    have e : wt pool (s ++ [pool[i]]) = 2 ^ m := by
      unfold wt
      rw [beg_snoc, hn.idxOf_getElem i hlt]
      congr 1
      omega
    rw [e, Nat.pow_succ]
    omega
theorem sumW_next {pool : List Sx} (hn : pool.Nodup) : ∀ L : List (List Sx), (∀ s ∈ L, begAt pool s ≤ pool.length) → sumW pool (nextL pool L) + L.length = sumW pool L
  | [], _ => rfl
  | s :: r, h => by
    unfold nextL
    rw [List.flatMap_cons, sumW_app]
    show _ = wt pool s + sumW pool r
    have h1 := sumW_step hn s (pool.length - begAt pool s) (begAt pool s) (by have := h s (List.mem_cons_self ..); omega)
    have h2 := sumW_next hn r fun t ht => h t (List.mem_cons_of_mem _ ht)
    unfold nextL at h2
    unfold wt
    have h1' : sumW pool ((later pool s).map fun c => s ++ [c]) + 1 = 2 ^ (pool.length - begAt pool s) := h1
    rw [List.length_cons]
    omega
theorem sumW_layer {pool : List Sx} (hn : pool.Nodup) : ∀ k, sumW pool (layer pool k) ≤ 2 ^ pool.length
  | 0 => by
    show wt pool [] + 0 ≤ _
    unfold wt begAt
    simp
  | k + 1 => by
    have h1 := sumW_next hn (layer pool k) fun s hs => (layer_beg hn k s hs).2
    have h2 := sumW_layer hn k
    show sumW pool (nextL pool (layer pool k)) ≤ _
    omega
theorem len_sumW (pool : List Sx) : ∀ L : List (List Sx), L.length ≤ sumW pool L
  | [] => Nat.le_refl _
  | s :: r => by
    have := len_sumW pool r
    have h : 0 < wt pool s := Nat.pow_pos (by decide)
    show r.length + 1 ≤ wt pool s + sumW pool r
    omega
theorem layer_len {pool : List Sx} (hn : pool.Nodup) (h9 : pool.length ≤ 9) (k : Nat) : (layer pool k).length ≤ 512 := by
  have h1 := len_sumW pool (layer pool k)
  have h2 := sumW_layer hn k
  have h3 : 2 ^ pool.length ≤ 2 ^ 9 := Nat.pow_le_pow_right (by decide) h9
  omega
theorem found_sum {pool : List Sx} (hn : pool.Nodup) : ∀ k, (foundL pool k).length + sumW pool (layer pool (k + 1)) = 2 ^ pool.length
  | 0 => by
    have h1 := sumW_next hn (layer pool 0) fun s hs => (layer_beg hn 0 s hs).2
    have h2 : sumW pool (layer pool 0) = 2 ^ pool.length := by
      show wt pool [] + 0 = _
      unfold wt begAt
      simp
    show 1 + sumW pool (nextL pool (layer pool 0)) = _
    have h3 : (layer pool 0).length = 1 := rfl
    omega
  | k + 1 => by
    have h1 := sumW_next hn (layer pool (k + 1)) fun s hs => (layer_beg hn (k + 1) s hs).2
    have h2 := found_sum hn k
    show (foundL pool k ++ layer pool (k + 1)).length + sumW pool (nextL pool (layer pool (k + 1))) = _
    rw [List.length_append]
    omega
theorem found_len {pool : List Sx} (hn : pool.Nodup) (h9 : pool.length ≤ 9) (k : Nat) : (foundL pool k).length ≤ 512 := by
  have h1 := found_sum hn k
  have h3 : 2 ^ pool.length ≤ 2 ^ 9 := Nat.pow_le_pow_right (by decide) h9
  omega
theorem layer_mem {pool : List Sx} : ∀ k, ∀ s ∈ layer pool k, s.length = k ∧ ∀ c ∈ s, c ∈ pool
  | 0, s, h => by
    have : s = [] := by simpa [layer] using h
    subst this
    exact ⟨rfl, fun c hc => by simp at hc⟩
  | k + 1, s, h => by
    obtain ⟨t, ht, hs⟩ := List.mem_flatMap.mp h
    obtain ⟨c, hc, rfl⟩ := List.mem_map.mp hs
    obtain ⟨h1, h2⟩ := layer_mem k t ht
    refine ⟨by simp [h1], fun x hx => ?_⟩
    rcases List.mem_append.mp hx with hx | hx
    · exact h2 x hx
    · rw [List.mem_singleton.mp hx]
      exact List.mem_of_mem_drop hc
theorem sets_mem {pool : List Sx} : ∀ k, ∀ s ∈ foundL pool k, ∃ j ≤ k, s ∈ layer pool j
  | 0, s, h => ⟨0, Nat.le_refl _, h⟩
  | k + 1, s, h => by
    rcases List.mem_append.mp h with h | h
    · obtain ⟨j, hj, hs⟩ := sets_mem k s h
      exact ⟨j, Nat.le_succ_of_le hj, hs⟩
    · exact ⟨k + 1, Nat.le_refl _, h⟩
theorem layer_sub {pool : List Sx} (hn : pool.Nodup) : ∀ k, ∀ s ∈ layer pool k, s.Sublist (pool.take (begAt pool s))
  | 0, s, h => by
    have : s = [] := by simpa [layer] using h
    subst this
    exact List.nil_sublist _
  | k + 1, s, h => by
    obtain ⟨t, ht, hs⟩ := List.mem_flatMap.mp h
    obtain ⟨c, hc, rfl⟩ := List.mem_map.mp hs
    have ih := layer_sub hn k t ht
    obtain ⟨j, hj⟩ := List.mem_iff_getElem?.mp hc
    have e := idx_drop hn hj
    rw [later, List.getElem?_drop] at hj
    rw [beg_snoc, e]
    have hlt := (List.getElem?_eq_some_iff.mp hj).1
    have h1 : pool.take (begAt pool t + j + 1) = pool.take (begAt pool t + j) ++ [c] := by
      rw [List.take_add_one, hj]
      rfl
    rw [h1]
    refine List.Sublist.append ?_ (List.Sublist.refl _)
    exact ih.trans (List.take_sublist_take_left (by omega))
theorem sets_sub {pool : List Sx} (hn : pool.Nodup) {s : List Sx} (h : s ∈ setsOf pool) : s.Sublist pool := by
  obtain ⟨j, _, hs⟩ := sets_mem _ s h
  exact (layer_sub hn j s hs).trans (List.take_sublist _ _)
theorem sub_filter : ∀ {pool s : List Sx}, pool.Nodup → s.Sublist pool → pool.filter (fun c => decide (c ∈ s)) = s
  | _, _, _, .slnil => rfl
  | a :: pool, s, hn, .cons _ h => by
    rw [List.nodup_cons] at hn
    have : a ∉ s := fun ha => hn.1 (h.subset ha)
    rw [List.filter_cons_of_neg (by simpa using this)]
    exact sub_filter hn.2 h
  | a :: pool, _ :: s, hn, .cons₂ _ h => by
    rw [List.nodup_cons] at hn
    rw [List.filter_cons_of_pos (by simp)]
    refine congrArg (List.cons a) ?_
    rw [← sub_filter hn.2 h]
    refine List.filter_congr fun c hc => ?_
    have hne : c ≠ a := fun e => hn.1 (e ▸ hc)
    rw [sub_filter hn.2 h]
    simp [hne]
end Sc

/-! ScN: the sets are different, ordered by size, and the whole pool is one of them. -/
namespace Sc
open PySem PySem.Spec PyProof.Rows L2 Evl
theorem map_snoc_nodup (s : List Sx) {l : List Sx} (h : l.Nodup) : (l.map fun c => s ++ [c]).Nodup := by
  refine List.pairwise_map.mpr (h.imp fun hab e => hab ?_)
  have := List.append_cancel_left e
  simpa using this
theorem next_nodup {pool : List Sx} (hn : pool.Nodup) : ∀ {L : List (List Sx)}, L.Nodup → (nextL pool L).Nodup
  | [], _ => List.nodup_nil
  | s :: r, h => by
    rw [List.nodup_cons] at h
    unfold nextL
    rw [List.flatMap_cons, List.nodup_append]
    refine ⟨map_snoc_nodup s ((List.drop_sublist _ _).nodup hn), next_nodup hn h.2, ?_⟩
    intro a ha b hb e
    obtain ⟨c, _, rfl⟩ := List.mem_map.mp ha
    obtain ⟨t, ht, hb⟩ := List.mem_flatMap.mp hb
    obtain ⟨d, _, rfl⟩ := List.mem_map.mp hb
    have := List.append_inj_left' e rfl
    exact h.1 (this ▸ ht)
theorem layer_nodup {pool : List Sx} (hn : pool.Nodup) : ∀ k, (layer pool k).Nodup
  | 0 => by show [[]].Nodup; simp
  | k + 1 => next_nodup hn (layer_nodup hn k)
theorem found_nodup {pool : List Sx} (hn : pool.Nodup) : ∀ k, (foundL pool k).Nodup
  | 0 => by show [[]].Nodup; simp
  | k + 1 => by
    show (foundL pool k ++ layer pool (k + 1)).Nodup
    rw [List.nodup_append]
    refine ⟨found_nodup hn k, layer_nodup hn _, fun a ha b hb e => ?_⟩
    obtain ⟨j, hj, hs⟩ := sets_mem k a ha
    have h1 := (layer_mem j a hs).1
    have h2 := (layer_mem _ b hb).1
    rw [e] at h1
    omega
theorem sets_nodup {pool : List Sx} (hn : pool.Nodup) : (setsOf pool).Nodup := found_nodup hn _
theorem found_sorted {pool : List Sx} : ∀ k, (foundL pool k).Pairwise fun a b => a.length ≤ b.length
  | 0 => List.pairwise_singleton ..
  | k + 1 => by
    show (foundL pool k ++ layer pool (k + 1)).Pairwise _
    rw [List.pairwise_append]
    refine ⟨found_sorted k, ?_, fun a ha b hb => ?_⟩
    · refine List.Pairwise.imp_of_mem (R := fun _ _ => True) (fun {a b} ha hb _ => ?_) (List.pairwise_of_forall (fun _ _ => trivial))
      rw [(layer_mem _ a ha).1, (layer_mem _ b hb).1]
      exact Nat.le_refl _
    · obtain ⟨j, hj, hs⟩ := sets_mem k a ha
      rw [(layer_mem j a hs).1, (layer_mem _ b hb).1]
      omega
theorem sets_sorted (pool : List Sx) : (setsOf pool).Pairwise fun a b => a.length ≤ b.length := found_sorted _
theorem beg_take {pool : List Sx} (hn : pool.Nodup) {k : Nat} (hk : k ≤ pool.length) : begAt pool (pool.take k) = k := by
  cases k with
  | zero => rfl
  | succ k =>
    have hlt : k < pool.length := hk
    rw [List.take_add_one, List.getElem?_eq_getElem hlt]
    show begAt pool (pool.take k ++ [pool[k]]) = _
    rw [beg_snoc, hn.idxOf_getElem k hlt]
theorem take_layer {pool : List Sx} (hn : pool.Nodup) : ∀ k, k ≤ pool.length → pool.take k ∈ layer pool k
  | 0, _ => by show _ ∈ [[]]; simp
  | k + 1, h => by
    have hlt : k < pool.length := h
    refine List.mem_flatMap.mpr ⟨pool.take k, take_layer hn k (by omega), List.mem_map.mpr ⟨pool[k], ?_, ?_⟩⟩
    · unfold later
      rw [beg_take hn (by omega), List.drop_eq_getElem_cons hlt]
      exact List.mem_cons_self ..
    · rw [List.take_add_one, List.getElem?_eq_getElem hlt]
      rfl
theorem layer_found {pool : List Sx} {s : List Sx} : ∀ {k j}, j ≤ k → s ∈ layer pool j → s ∈ foundL pool k
  | 0, j, h, hs => by
    have : j = 0 := by omega
    subst this
    exact hs
  | k + 1, j, h, hs => by
    show s ∈ foundL pool k ++ layer pool (k + 1)
    by_cases e : j = k + 1
    · subst e
      exact List.mem_append_right _ hs
    · exact List.mem_append_left _ (layer_found (by omega) hs)
theorem pool_mem {pool : List Sx} (hn : pool.Nodup) : pool ∈ setsOf pool := by
  have := take_layer hn pool.length (Nat.le_refl _)
  rw [List.take_length] at this
  exact layer_found (Nat.le_succ _) this
end Sc

/-! ScR: what evaluates to what, told by any relation that stays. -/
namespace Sc
open PySem PySem.Spec PyProof.Rows L2 Evl
structure Rl (α : Type) where
  r : Hp → V → α → Prop
  ex : ∀ {H H' : Hp} {v : V} {x : α}, Ex H H' → r H v x → r H' v x
  up : ∀ {H : Hp} {D : Addr} {xs ys : List V} {v : V} {x : α}, H D = some (.lst xs) → r H v x → r (upd H D (.lst ys)) v x
def AllR {α : Type} (R : Rl α) (H : Hp) : List V → List α → Prop
  | [], [] => True
  | v :: vs, x :: xs => R.r H v x ∧ AllR R H vs xs
  | _, _ => False
section
variable {α β : Type} {R : Rl α} {Ro : Rl β} {H H' : Hp} {K : PySem.W.Frag}
theorem AllR.ex : ∀ {vs : List V} {xs : List α}, AllR R H vs xs → Ex H H' → AllR R H' vs xs
  | [], [], _, _ => trivial
  | _ :: _, _ :: _, ⟨h, t⟩, e => ⟨R.ex e h, AllR.ex t e⟩
  | [], _ :: _, h, _ => h.elim
  | _ :: _, [], h, _ => h.elim
theorem AllR.up {D : Addr} {us ws : List V} : ∀ {vs : List V} {xs : List α}, AllR R H vs xs → H D = some (.lst us) → AllR R (upd H D (.lst ws)) vs xs
  | [], [], _, _ => trivial
  | _ :: _, _ :: _, ⟨h, t⟩, e => ⟨R.up e h, AllR.up t e⟩
  | [], _ :: _, h, _ => h.elim
  | _ :: _, [], h, _ => h.elim
theorem AllR.length : ∀ {vs : List V} {xs : List α}, AllR R H vs xs → vs.length = xs.length
  | [], [], _ => rfl
  | _ :: _, _ :: _, ⟨_, t⟩ => congrArg Nat.succ (AllR.length t)
  | [], _ :: _, h => h.elim
  | _ :: _, [], h => h.elim
theorem AllR.append : ∀ {vs : List V} {xs : List α} {ws : List V} {ys : List α}, AllR R H vs xs → AllR R H ws ys → AllR R H (vs ++ ws) (xs ++ ys)
  | [], [], _, _, _, h => h
  | _ :: _, _ :: _, _, _, ⟨h, t⟩, h' => ⟨h, AllR.append t h'⟩
  | [], _ :: _, _, _, h, _ => h.elim
  | _ :: _, [], _, _, h, _ => h.elim
theorem AllR.one {v : V} {x : α} (h : R.r H v x) : AllR R H [v] [x] := ⟨h, trivial⟩
theorem AllR.getV : ∀ {vs : List V} {xs : List α} {i : Nat} {v : V}, AllR R H vs xs → vs[i]? = some v → ∃ x, xs[i]? = some x ∧ R.r H v x
  | [], [], _, _, _, h => by simp at h
  | v :: _, x :: _, 0, _, ⟨h, _⟩, e => by
    simp at e
    subst e
    exact ⟨x, rfl, h⟩
  | _ :: _, _ :: _, i + 1, _, ⟨_, t⟩, e => by
    obtain ⟨x, h1, h2⟩ := AllR.getV (i := i) t (by simpa using e)
    exact ⟨x, by simpa using h1, h2⟩
  | [], _ :: _, _, _, h, _ => h.elim
  | _ :: _, [], _, _, h, _ => h.elim
theorem AllR.get : ∀ {vs : List V} {xs : List α} {i : Nat} {x : α}, AllR R H vs xs → xs[i]? = some x → ∃ v, vs[i]? = some v ∧ R.r H v x
  | [], [], _, _, _, h => by simp at h
  | v :: _, x :: _, 0, _, ⟨h, _⟩, e => by
    simp at e
    subst e
    exact ⟨v, rfl, h⟩
  | _ :: _, _ :: _, i + 1, _, ⟨_, t⟩, e => by
    obtain ⟨x, h1, h2⟩ := AllR.get (i := i) t (by simpa using e)
    exact ⟨x, by simpa using h1, h2⟩
  | [], _ :: _, _, _, h, _ => h.elim
  | _ :: _, [], _, _, h, _ => h.elim
theorem AllR.dp {enc : α → PD} (hd : ∀ v x, R.r H v x → Dp K H v (enc x)) : ∀ {vs : List V} {xs : List α}, AllR R H vs xs → DpAll K H vs (xs.map enc)
  | [], [], _ => .nil
  | _ :: _, _ :: _, ⟨h, t⟩ => .cons (hd _ _ h) (AllR.dp hd t)
  | [], _ :: _, h => h.elim
  | _ :: _, [], h => h.elim
theorem AllR.mono {R' : Rl α} (hd : ∀ v x, R.r H v x → R'.r H' v x) : ∀ {vs : List V} {xs : List α}, AllR R H vs xs → AllR R' H' vs xs
  | [], [], _ => trivial
  | _ :: _, _ :: _, ⟨h, t⟩ => ⟨hd _ _ h, AllR.mono hd t⟩
  | [], _ :: _, h => h.elim
  | _ :: _, [], h => h.elim
end
/-- data without lists -/
def Dr (K : PySem.W.Frag) {α : Type} (enc : α → PD) (hi : ∀ x, Imm (enc x) = true) : Rl α := ⟨fun H v x => Dp K H v (enc x), fun e h => Dp.ex h e, fun hD h => Dp.tk h (Tk.lst hD) (hi _)⟩
/-- a held tuple of texts -/
def Tr : Rl (List Sx) := ⟨fun H v ks => ∃ a, v = .ref a ∧ H a = some (.tup (ks.map V.str)), fun e ⟨a, h1, h2⟩ => ⟨a, h1, e _ _ h2⟩, fun hD ⟨a, h1, h2⟩ => ⟨a, h1, by
  rw [upd_ne (ne_of h2 hD (fun z => nomatch z))]
  exact h2⟩⟩
def setD (ks : List Sx) : PD := .tuple (ks.map .str)
theorem tr_dp {K : PySem.W.Frag} {H : Hp} {v : V} {ks : List Sx} (h : Tr.r H v ks) : Dp K H v (setD ks) := by
  obtain ⟨a, rfl, h⟩ := h
  exact .tup (st_of h) (DpAll.strs ks)
def EvR {α : Type} (R : Rl α) (te : TE) (σ : L2.St) (H : Hp) (x : α) : Prop := ∀ H1, Ex H H1 → ∀ Q : VK, (∀ v H2, Ex H1 H2 → R.r H2 v x → Q v H2) → te σ H1 Q
def EvnR {α : Type} (R : Rl α) (te : TE) (σ : L2.St) (H : Hp) (xs : List α) : Prop := ∀ H1, Ex H H1 → ∀ Q : VK, (∀ p vs H2, H1 p = none → Ex H1 H2 → H2 p = some (.lst vs) → AllR R H2 vs xs → Q (.ref p) H2) → te σ H1 Q
def SrcR {α : Type} (R : Rl α) (wi : TI) (σ : L2.St) (H : Hp) (xs : List α) : Prop := ∀ H1, Ex H H1 → ∀ Z : It → Hp → Prop, (∀ J H2, Ex H1 H2 → Walk J xs.length (fun H' => Ex H2 H') (fun i H v H' => H' = H ∧ ∃ x, xs[i]? = some x ∧ R.r H v x) → Z J H2) → wi σ H1 Z
section
variable {K : PySem.W.Frag} {σ : L2.St} {H H' H1 H2 : Hp} {ta tb tc te tl : TE} {t u : TT} {d e : PD} {v x y : V} {ds es : List PD} {D : Ends} {tu tw tz : TS} {g : TG} {wi : TI} {i j : Nat}
variable {α β : Type} {R Ri : Rl α} {Ro : Rl β}
theorem EvR.mono {a : α} (h : EvR R te σ H a) (q : Ex H H') : EvR R te σ H' a := fun H1 a Q k => h H1 (q.trans a) Q k
theorem EvnR.mono {xs : List α} (h : EvnR R te σ H xs) (q : Ex H H') : EvnR R te σ H' xs := fun H1 a Q k => h H1 (q.trans a) Q k
theorem EvnR.to {xs ys : List α} (h : EvnR R te σ H xs) (q : xs = ys) : EvnR R te σ H ys := q ▸ h
theorem r_var {a : α} (h : σ[i]? = some (some v)) (r : R.r H v a) : EvR R (tVar i) σ H a := fun H1 q Q k => ⟨v, h, k v H1 (Ex.refl _) (R.ex q r)⟩
theorem r_dp {a : α} {enc : α → PD} (hd : ∀ H v x, R.r H v x → Dp K H v (enc x)) (h : EvR R te σ H a) : Evd K te σ H (enc a) := fun H1 q Q k => h H1 q Q fun v H2 e r => k v H2 e (hd _ _ _ r)
theorem nr_dp {xs : List α} {enc : α → PD} (hd : ∀ H v x, R.r H v x → Dp K H v (enc x)) (h : EvnR R te σ H xs) : Evn K te σ H (xs.map enc) := fun H1 q Q k => h H1 q Q fun p vs H2 hp e h2 r => k p vs H2 hp e h2 (r.dp fun v x => hd _ _ _)
theorem r_of {a : α} {enc : α → PD} {hi : ∀ x, Imm (enc x) = true} (h : Evd K te σ H (enc a)) : EvR (Dr K enc hi) te σ H a := h
theorem srcR_list {a : Addr} {vs : List V} {xs : List α} (h : Ev tl σ H (.ref a)) (ha : H a = some (.lst vs)) (r : AllR R H vs xs) : SrcR R (iList K tl) σ H xs := fun H1 q Z k => h H1 q _ fun H2 q2 => by
  have e := q.trans q2
  refine ⟨a, rfl, ⟨vs, sq_of (e _ _ ha)⟩, k _ H2 q2 ?_⟩
  rw [← r.length]
  exact walk_list.mono (fun H' e' => sq_of (e' _ _ (e _ _ ha))) fun i H3 x H4 hi e' y => by
    obtain ⟨d, h1, h2⟩ := r.getV y.2
    refine ⟨y.1, d, h1, ?_⟩
    exact R.ex (e.trans e') h2
theorem srcR_evn {xs : List α} (h : EvnR R tl σ H xs) : SrcR R (iList K tl) σ H xs := fun H1 q Z k => h H1 q _ fun p vs H2 hp q2 h2 r => by
  refine ⟨p, rfl, ⟨vs, sq_of h2⟩, k _ H2 q2 ?_⟩
  rw [← r.length]
  exact walk_list.mono (fun H' e' => sq_of (e' _ _ h2)) fun i H3 x H4 hi e' y => by
    obtain ⟨d, h1, h3⟩ := r.getV y.2
    exact ⟨y.1, d, h1, R.ex e' h3⟩
theorem srcR_of {xs : List α} {enc : α → PD} {hi : ∀ x, Imm (enc x) = true} (h : Src K wi σ H (xs.map enc)) : SrcR (Dr K enc hi) wi σ H xs := fun H1 q Z k => h H1 q _ fun J H2 q2 W => k J H2 q2 (by
  rw [List.length_map] at W
  refine W.mono (fun _ h => h) fun i H3 v H4 hi e y => ?_
  obtain ⟨e1, d, h1, h2⟩ := y
  rw [List.getElem?_map] at h1
  obtain ⟨x, hx, rfl⟩ := Option.map_eq_some_iff.mp h1
  exact ⟨e1, x, hx, by subst e1; exact h2⟩)
theorem n_lcR {xs : List α} {p : α → Bool} {f : α → β} {vs : List Nat} (hs : SrcR Ri wi σ H xs) (hw : ∀ v, wipe ((wipe σ vs).set j (some v)) vs = wipe σ vs) (hz : xs.length ≤ 40000)
    (hel : ∀ x ∈ xs, ∀ v H1, Ex H H1 → Ri.r H1 v x → EvT t ((wipe σ vs).set j (some v)) H1 (p x) ∧ (p x = true → EvR Ro te ((wipe σ vs).set j (some v)) H1 (f x))) : EvnR Ro (tLc wi (gName j) t te vs) σ H ((xs.filter p).map f) := fun H1 a Q k =>
  hs H1 a _ fun J H2 q2 W D hD => by
    refine lc_it W (fun i H' => Ex H2 H' ∧ ∃ acc, H' D = some (.lst acc) ∧ AllR Ro H' acc (((xs.take i).filter p).map f)) ⟨Ex.new hD, [], upd_same, trivial⟩ (fun i H' _ P => P.1) (fun i x H3 H4 hi P Y => ?_) fun H3 P => ?_
    · obtain ⟨ex, acc, hacc, hdp⟩ := P
      obtain ⟨rfl, xi, hxi, rd⟩ := Y
      have hmem : xi ∈ xs := List.mem_of_getElem? hxi
      have htk : xs.take (i + 1) = xs.take i ++ [xi] := by rw [List.take_succ, hxi] <;> rfl
      have hlen : acc.length ≤ 40000 := by
        rw [hdp.length, List.length_map]
        exact Nat.le_trans (List.length_filter_le _ _) (by rw [List.length_take]; omega)
      refine ⟨hw x, ?_⟩
      obtain ⟨h1, h2⟩ := hel xi hmem x _ ((a.trans q2).trans ex) rd
      refine h1 _ (Ex.refl _) _ fun H5 q5 => ?_
      cases hp : p xi with
      | true =>
        show te _ H5 fun y H4 => ∃ acc, H4 D = some (.lst acc) ∧ acc.length < sizeLine ∧ _
        refine h2 hp H5 q5 _ fun w H6 q6 r6 => ⟨acc, q6 D _ (q5 D _ hacc), sz_lt (by omega), ((ex.trans q5).trans q6).mut hD, _, upd_same, ?_⟩
        rw [htk, List.filter_append, List.map_append]
        have e1 : [xi].filter p = [xi] := by simp [hp]
        rw [e1]
        have hD6 := q6 D _ (q5 D _ hacc)
        exact ((hdp.ex (q5.trans q6)).up hD6).append (.one (Ro.up hD6 r6))
      | false =>
        show Ex H2 H5 ∧ ∃ acc, H5 D = some (.lst acc) ∧ AllR Ro H5 acc (((xs.take (i + 1)).filter p).map f)
        refine ⟨ex.trans q5, acc, q5 D _ hacc, ?_⟩
        rw [htk, List.filter_append, List.map_append]
        have e1 : [xi].filter p = [] := by simp [hp]
        rw [e1]
        simpa using hdp.ex q5
    · obtain ⟨ex, acc, hacc, hdp⟩ := P
      rw [List.take_of_length_le (Nat.le_refl _)] at hdp
      exact k D acc H3 (fresh_back q2 hD) (q2.trans ex) hacc hdp
theorem n_mapR {xs : List α} {f : α → β} {vs : List Nat} (hs : SrcR Ri wi σ H xs) (hw : ∀ v, wipe ((wipe σ vs).set j (some v)) vs = wipe σ vs) (hz : xs.length ≤ 40000)
    (hel : ∀ x ∈ xs, ∀ v H1, Ex H H1 → Ri.r H1 v x → EvR Ro te ((wipe σ vs).set j (some v)) H1 (f x)) : EvnR Ro (tLc wi (gName j) tYes te vs) σ H (xs.map f) :=
  (n_lcR (p := fun _ => true) hs hw hz fun x hx v H1 a r => ⟨t_yes, fun _ => hel x hx v H1 a r⟩).to (by rw [List.filter_eq_self.mpr (fun _ _ => rfl)])
/-- two fors, the inner over texts -/
theorem n_lc2R {xs : List α} {ys : α → List Sx} {p : α → Sx → Bool} {f : α → Sx → β} {vs vs1 : List Nat} {j1 : Nat} {wi1 : TI} {t1 : TT} (hs : SrcR Ri wi σ H xs) (hw : ∀ v, wipe ((wipe σ vs).set j (some v)) vs = wipe σ vs)
    (hw1 : ∀ v v1, wipe ((wipe ((wipe σ vs).set j (some v)) vs1).set j1 (some v1)) vs1 = wipe ((wipe σ vs).set j (some v)) vs1) (hz : ∀ n, ((xs.take n).flatMap fun x => ((ys x).filter (p x)).map (f x)).length ≤ 20000) (hzy : ∀ x ∈ xs, (ys x).length ≤ 20000)
    (hs1 : ∀ x ∈ xs, ∀ v H1, Ex H H1 → Ri.r H1 v x → SrcT K wi1 ((wipe σ vs).set j (some v)) H1 ((ys x).map .str))
    (hel : ∀ x ∈ xs, ∀ y ∈ ys x, ∀ v H1, Ex H H1 → Ri.r H1 v x → EvT t1 ((wipe ((wipe σ vs).set j (some v)) vs1).set j1 (some (.str y))) H1 (p x y) ∧ (p x y = true → EvR Ro te ((wipe ((wipe σ vs).set j (some v)) vs1).set j1 (some (.str y))) H1 (f x y))) :
    EvnR Ro (tLc2 wi (gName j) tYes wi1 (gName j1) t1 te vs vs1) σ H (xs.flatMap fun x => ((ys x).filter (p x)).map (f x)) := fun H1 a Q k =>
  hs H1 a _ fun J H2 q2 W D hD => by
    refine walk_by W (body := fun Nx x H' => gName j x (wipe σ vs) H' fun σ2 H2 => wipe σ2 vs = wipe σ vs ∧ tYes σ2 H2 fun b H3 => if b = true then wi1 σ2 H3 fun J1 H4 => ∃ W1 : Nat → Nat → Hp → Prop, (∃ m, W1 0 m H4) ∧ ∀ j k H, W1 j k H →
      (J1.stop j H ∧ Nx H) ∨ (J1.go j H ∧ ∃ Nx1 : Hp → Prop, (∀ H', Nx1 H' → ∃ k', k' < k ∧ W1 (j + 1) k' H') ∧ ∀ x H', J1.yld j H x H' → gName j1 x (wipe σ2 vs1) H' fun σ3 H5 => wipe σ3 vs1 = wipe σ2 vs1 ∧ t1 σ3 H5 fun b H6 =>
        if b = true then te σ3 H6 fun y H7 => ∃ acc, H7 D = some (.lst acc) ∧ acc.length < sizeLine ∧ Nx1 (upd H7 D (.lst (acc ++ [y]))) else Nx1 H6)
      else Nx H3) (fun i H' => Ex H2 H' ∧ ∃ acc, H' D = some (.lst acc) ∧ AllR Ro H' acc ((xs.take i).flatMap fun x => ((ys x).filter (p x)).map (f x))) ⟨Ex.new hD, [], upd_same, trivial⟩ (fun i H' _ P => P.1) (fun i x H3 H4 hi P Y => ?_) fun H3 P => ?_
    · obtain ⟨ex, acc, hacc, hdp⟩ := P
      obtain ⟨rfl, xi, hxi, rd⟩ := Y
      have hmem : xi ∈ xs := List.mem_of_getElem? hxi
      have htk : xs.take (i + 1) = xs.take i ++ [xi] := by rw [List.take_succ, hxi] <;> rfl
      refine ⟨hw x, ?_⟩
      refine hs1 xi hmem x _ ((a.trans q2).trans ex) rd _ (Ex.refl _) _ fun J1 H5 q5 W1 => ?_
      rw [List.length_map] at W1
      have hla : acc.length ≤ 20000 := by rw [hdp.length]; exact hz i
      have hfl : (xs.take (i + 1)).flatMap (fun x => ((ys x).filter (p x)).map (f x)) = (xs.take i).flatMap (fun x => ((ys x).filter (p x)).map (f x)) ++ ((ys xi).filter (p xi)).map (f xi) := by
        rw [htk, List.flatMap_append]
        simp
      refine walk_by W1 (body := fun Nx1 y H' => gName j1 y (wipe ((wipe σ vs).set j (some x)) vs1) H' fun σ3 H5 => wipe σ3 vs1 = wipe ((wipe σ vs).set j (some x)) vs1 ∧ t1 σ3 H5 fun b H6 =>
        if b = true then te σ3 H6 fun y H7 => ∃ acc, H7 D = some (.lst acc) ∧ acc.length < sizeLine ∧ Nx1 (upd H7 D (.lst (acc ++ [y]))) else Nx1 H6)
        (fun i' H' => Ex H2 H' ∧ Tk H5 H' ∧ Ri.r H' x xi ∧ ∃ acc', H' D = some (.lst acc') ∧ acc'.length ≤ 20000 + i' ∧ AllR Ro H' acc' (((xs.take i).flatMap fun x => ((ys x).filter (p x)).map (f x)) ++ (((ys xi).take i').filter (p xi)).map (f xi)))
        ⟨ex.trans q5, Tk.refl _, Ri.ex q5 rd, acc, q5 D _ hacc, by omega, by simpa using hdp.ex q5⟩ (fun i' H' _ P => P.2.1) (fun i' y H6 H7 hi' P Y => ?_) fun H6 P => ?_
      · obtain ⟨ex6, tk6, rx6, acc', hacc', hl', hdp'⟩ := P
        obtain ⟨rfl, d, hd, rd'⟩ := Y
        rw [List.getElem?_map] at hd
        obtain ⟨yi, hyi, rfl⟩ := Option.map_eq_some_iff.mp hd
        have hyv := rd'.strV
        subst hyv
        have hmy : yi ∈ ys xi := List.mem_of_getElem? hyi
        have hzi := hzy xi hmem
        have hty : (ys xi).take (i' + 1) = (ys xi).take i' ++ [yi] := by rw [List.take_succ, hyi] <;> rfl
        refine ⟨hw1 x (.str yi), ?_⟩
        obtain ⟨h1, h2⟩ := hel xi hmem yi hmy x H7 ((a.trans q2).trans ex6) rx6
        refine h1 _ (Ex.refl _) _ fun H8 q8 => ?_
        cases hp : p xi yi with
        | true =>
          refine h2 hp H8 q8 _ fun w H9 q9 r9 => ⟨acc', q9 D _ (q8 D _ hacc'), sz_lt (by omega), ((ex6.trans q8).trans q9).mut hD, ?_, ?_, _, upd_same, by simp; omega, ?_⟩
          · exact ((tk6.trans (Tk.of q8)).trans (Tk.of q9)).trans (Tk.lst (q9 D _ (q8 D _ hacc')))
          · exact Ri.up (q9 D _ (q8 D _ hacc')) (Ri.ex (q8.trans q9) rx6)
          rw [hty, List.filter_append, List.map_append]
          have e1 : [yi].filter (p xi) = [yi] := by simp [hp]
          rw [e1, ← List.append_assoc]
          have hD9 := q9 D _ (q8 D _ hacc')
          exact ((hdp'.ex (q8.trans q9)).up hD9).append (.one (Ro.up hD9 r9))
        | false =>
          refine ⟨ex6.trans q8, tk6.trans (Tk.of q8), Ri.ex q8 rx6, acc', q8 D _ hacc', by omega, ?_⟩
          rw [hty, List.filter_append, List.map_append]
          have e1 : [yi].filter (p xi) = [] := by simp [hp]
          rw [e1]
          simpa using hdp'.ex q8
      · obtain ⟨ex6, tk6, rx6, acc', hacc', hl', hdp'⟩ := P
        rw [List.take_of_length_le (Nat.le_refl _)] at hdp'
        refine ⟨ex6, acc', hacc', ?_⟩
        rw [hfl]
        exact hdp'
    · obtain ⟨ex, acc, hacc, hdp⟩ := P
      rw [List.take_of_length_le (Nat.le_refl _)] at hdp
      exact k D acc H3 (fresh_back q2 hD) (q2.trans ex) hacc hdp
/-! held tuples made -/
theorem tr_tup {ks : List Sx} {ta : TA} (h : Evs K ta σ H (ks.map .str)) (hl : ks.length ≤ 100000) : EvR Tr (tTup ta) σ H ks := fun H1 a Q k =>
  h H1 a _ fun vs H2 q2 r2 => ⟨sz_of (by rw [r2.length, List.length_map]; exact hl), fun p hp => k _ _ (q2.trans (Ex.new hp)) ⟨p, rfl, by rw [upd_same, r2.strsV]⟩⟩
theorem tr_cat {ks : List Sx} {c : Sx} (ha : Evd K ta σ H (setD ks)) (hb : EvR Tr tb σ H [c]) (hl : ks.length ≤ 1000) : EvR Tr (tOp (rCatA K) ta tb) σ H (ks ++ [c]) := fun H1 a Q k =>
  ha H1 a _ fun x H2 q2 r2 => hb H2 (a.trans q2) _ fun y H3 q3 r3 => by
    obtain ⟨p, vs, rfl, hs, hv⟩ := (r2.ex q3).tupV
    obtain ⟨p', rfl, h3⟩ := id r3
    have ev := hv.strsV
    subst ev
    refine ⟨p, p', _, _, rfl, rfl, hs, st_of h3, sz_of (by simp; omega), fun z => ?_, fun z z' => by simp at z', fun z z' l hl' => ?_⟩
    · have : ks = [] := by simpa using z
      subst this
      exact k _ H3 (q2.trans q3) r3
    · exact k _ _ ((q2.trans q3).trans (Ex.new hl')) ⟨l, rfl, by rw [upd_same, List.map_append]⟩
theorem nr_one {a : α} (h : EvR R te σ H a) : EvnR R (tLst (tCons te tNil)) σ H [a] := fun H1 q Q k =>
  h H1 q _ fun v H2 q2 r => ⟨sz_of (by simp), fun p hp => k p [v] _ (fresh_back q2 hp) (q2.trans (Ex.new hp)) upd_same (AllR.one (R.ex (Ex.new hp) r))⟩
theorem nr_nil : EvnR R (tLst tNil) σ H [] := fun H1 q Q k => ⟨sz_of (by simp), fun p hp => k p [] _ hp (Ex.new hp) upd_same trivial⟩
theorem q_asgR {xs : List α} (h : EvnR R te σ H xs) (k : ∀ p vs H1, H p = none → Ex H H1 → H1 p = some (.lst vs) → AllR R H1 vs xs → tz D (σ.set i (some (.ref p))) H1) : tSeq (tAsg te (gName i)) tz D σ H := h H (Ex.refl H) _ fun p vs H1 hp q h1 r => k p vs H1 hp q h1 r
theorem s_asgR {xs : List α} (h : EvnR R te σ H xs) (k : ∀ p vs H1, H p = none → Ex H H1 → H1 p = some (.lst vs) → AllR R H1 vs xs → D.nx (σ.set i (some (.ref p))) H1) : tAsg te (gName i) D σ H := h H (Ex.refl H) _ fun p vs H1 hp q h1 r => k p vs H1 hp q h1 r
theorem s_retR {xs : List α} (h : EvnR R te σ H xs) (k : ∀ p vs H1, H p = none → Ex H H1 → H1 p = some (.lst vs) → AllR R H1 vs xs → D.rt (.ref p) H1) : tRet te D σ H := h H (Ex.refl H) _ fun p vs H1 hp q h1 r => k p vs H1 hp q h1 r
theorem q_parR {xs : List α} {ys : List β} (h1 : EvnR R ta σ H xs) (h2 : EvnR Ro tb σ H ys) (k : ∀ p q vs ws H1, H p = none → H q = none → p ≠ q → Ex H H1 → H1 p = some (.lst vs) → AllR R H1 vs xs → H1 q = some (.lst ws) → AllR Ro H1 ws ys → tz D ((σ.set i (some (.ref p))).set j (some (.ref q))) H1) :
    tSeq (tPar i j (tCons ta (tCons tb tNil))) tz D σ H := h1 H (Ex.refl _) _ fun p vs H1 hp q1 hv r1 => h2 H1 q1 _ fun q ws H2 hq q2 hw r2 => ⟨_, _, rfl, k p q vs ws H2 hp (fresh_back q1 hq) (fun z => by rw [z, hq] at hv; cases hv) (q1.trans q2) (q2 _ _ hv) (r1.ex q2) hw r2⟩
end
/-- a promise: a new list of these -/
def spN (K : PySem.W.Frag) {α : Type} (R : Rl α) (P : Hp → List Ar → List α → Prop) : Sp := fun vs H Q _ => ∃ as L, Ars K H as vs ∧ P H as L ∧ ∀ p ws H', H p = none → Ex H H' → H' p = some (.lst ws) → AllR R H' ws L → Q (.ref p) H'
theorem n_callN {K : PySem.W.Frag} {α : Type} {R : Rl α} {P : Hp → List Ar → List α → Prop} {σ : L2.St} {H : Hp} {ta : TA} {as : List Ar} {L : List α} {E : XK} (h : Eva K ta σ H as) (hP : ∀ H1, Ex H H1 → P H1 as L) : EvnR R (tCallR (spN K R P) E ta) σ H L := fun H1 a Q k =>
  h H1 a _ fun vs H2 q2 r2 => ⟨as, L, r2, hP H2 (a.trans q2), fun p ws H' hp q h' r => k p ws H' (fresh_back q2 hp) (q2.trans q) h' r⟩
end Sc

/-! ScD: rules the layer lacks: tuple(list) whose object is known, its index(); dicts whose keys are tuples, asked by any tuple. -/
namespace L2
open PySem PySem.Spec PyProof.Rows GenW
section
variable {X : Cx}
/-- tuple(l): the new tuple's object is known to have no dict -/
def rTupF (K : PySem.W.Frag) : List V → Hp → VK → Prop := fun xs H Q => ∃ p ys, xs = [.ref p] ∧ SqL K H p ys ∧ ∀ l od, H l = none → od.dict = none → od.cls = .type "tuple" → Q (.ref l) (upd H l (.frz od (.tup ys)))
theorem call_tupleF : CallR X (.type "tuple") (rTupF X.K) := by
  intro pins s σ H xs us Q I r h
  obtain ⟨p, ys, rfl, hq, q⟩ := h
  obtain ⟨u, rfl, rx⟩ := vals1 r
  cases rx
  obtain ⟨its, r', pl, hz⟩ := I.list hq
  have hlen := r'.length
  refine call_tuple_list pl.isList (fun h' kp => ?_) (by simp only [List.size_toArray] <;> omega)
  have I1 : Inv X pins σ H { s with heap := h' } := I.kept (t' := s.toks) kp
  have hg : (h'.push { cls := .type "tuple", data := .seq its.toArray }).get? h'.objs.size = some { cls := .type "tuple", data := .seq its.toArray } := Heap.get?_push_size _ rfl
  have hok : ObjOk X.prog X.w (upd H h'.objs.size (.frz { cls := .type "tuple", data := .seq its.toArray } (.tup ys))) (h'.push { cls := .type "tuple", data := .seq its.toArray }) h'.objs.size (.frz { cls := .type "tuple", data := .seq its.toArray } (.tup ys)) := ⟨hg, hz, its, r', IsTup.new _ _⟩
  have I2 : Inv X pins σ (upd H h'.objs.size (.frz { cls := .type "tuple", data := .seq its.toArray } (.tup ys))) { s with heap := h'.push { cls := .type "tuple", data := .seq its.toArray } } :=
    I1.laid (t' := s.toks) (fun b o e => Heap.get?_push_of_some _ e) (Nat.le_refl _) hok
  exact ⟨.ref h'.objs.size, _, I2, rfl, q _ _ (I1.hok.fresh (Nat.le_refl _)) rfl rfl⟩
/-- a tuple whose object is known to have no dict -/
def tyP (K : PySem.W.Frag) (x : V) (H : Hp) : Prop := ∃ p, x = .ref p ∧ ((∃ od u, H p = some (.frz od u) ∧ od.cls = .type "tuple" ∧ od.dict = none) ∨ ∃ o, K.lookup p = some o ∧ o.cls = .type "tuple" ∧ o.dict = none)
theorem tyP_is {pins : List (Addr × Obj)} {σ : St} {H : Hp} {s : Shared} {x : V} {v : Value} (I : Inv X pins σ H s) (r : RelV x v) (ty : tyP X.K x H) : s.TypeIs v "tuple" ∧ ∀ a, v = .ref a → ∃ ob, s.heap.get? a = some ob ∧ ob.dict = none := by
  obtain ⟨p, rfl, h⟩ := ty
  obtain rfl : v = Value.ref p := r
  rcases h with ⟨od, u, h1, h2, h3⟩ | ⟨o, h1, h2, h3⟩
  · obtain ⟨hg, _⟩ := I.hok p _ h1
    exact ⟨⟨od, hg, h2⟩, fun a e => by cases e; exact ⟨od, hg, h3⟩⟩
  · have hg := I.kIn p o h1
    exact ⟨⟨o, hg, h2⟩, fun a e => by cases e; exact ⟨o, hg, h3⟩⟩
def tBMP (K : PySem.W.Frag) (r : V → List V → Hp → VK → Prop) (to : TE) (t : TA) : TE := fun σ H Q => to σ H fun x H1 => tyP K x H1 ∧ t σ H1 fun xs H2 => r x xs H2 Q
theorem pe_bmP {K : PySem.W.Frag} {o e : Expr} {es : List Expr} {to : TE} {t : TA} {name : Str} {apos cpos : Pos} {id : String} {r : V → List V → Hp → VK → Prop} (hK : X.K = K) (pa : PlainAttrs "tuple") (slot : Slot "tuple" name id) (hty : typeOf (.builtin id) = pure (.type "method_descriptor")) (hm : MtR X id r) (ho : PE X o to) (ha : PA X (e :: es) t)
    (hbase : attributeBase o name X.env (eval o X.env) = eval o X.env := by rfl)
    (hfew : ((backTo cpos (starEach (e :: es) X.env)).all (fun x => !x.1) && (backToKw cpos (keywordEach [] X.env)).all (fun x => x.1.isSome)
      && decide ((e :: es).length + ([] : List Keyword).length + (if ([] : List Keyword).isEmpty then 0 else 1) < 30)) = true := by rfl)
    (hline : (apos.endLine == cpos.line) = true := by rfl) (hs : starEach (e :: es) X.env = (false, eval e X.env) :: starEach es X.env := by rfl) (hplain : (backTo cpos (starEach es X.env)).any (·.1) = false := by rfl) :
    PE X (.Call (.Attribute o name apos) (e :: es) [] cpos) (tBMP K r to t) := by
  subst hK
  refine ⟨fun pins s σ H Q I h => ?_⟩
  refine wpAny_Call_method_late hbase hfew hline rfl (thn (ho.run pins s σ H _ I h) fun v s1 ⟨x, H1, I1, r1, ty, q1⟩ => ?_)
  obtain ⟨h1, h2⟩ := tyP_is I1 r1 ty
  refine ⟨"tuple", id, pa, slot, hty, h1, h2, ?_⟩
  have hA := ha.run cpos pins s1 σ H1 _ I1 q1
  rw [hs] at hA ⊢
  refine Calls.callWith_builtin (by show (false || (backTo cpos (starEach es X.env)).any (·.1)) = false; rw [hplain] <;> rfl) (Calls.evalArgs_plain ?_)
  refine thn hA fun us s2 ⟨vs, H2, I2, rv, q2⟩ => ?_
  exact hm pins s2 σ H2 x vs v us Q I2 r1 rv q2
end
/-! ### asked by any tuple -/
def DGetS (K : PySem.W.Frag) (H : Hp) (a : Addr) (y : V) (r : Option V) : Prop := ∃ kvs k b, Rd H a (.dT kvs) ∧ y = .ref b ∧ SqT K H b (k.map kV) ∧ r = valV kvs k
section
variable {X : Cx} {pins : List (Addr × Obj)} {σ : St} {H : Hp} {s : Shared} {a : Addr} {y v : V} {u r : Value} {o : Option V} {A : Around} {E : Value → Shared → Prop}
theorem key_ofS {b : Addr} {ks : List Key} (I : Inv X pins σ H s) (h : SqT X.K H b (ks.map kV)) : (tupleKind (mixKind X.prog X.w)).is s.heap ks b := by
  obtain ⟨its, rv, ⟨o, h1, h2, n, h3⟩, _⟩ := I.tuple h
  exact ⟨o, its.toArray, n, h1, h2, h3, by simpa using items_are rv⟩
theorem ds_getItem {Q : Value → Shared → Prop} (hu : A.units + 1 < cLine) (I : Inv X pins σ H s) (g : DGetS X.K H a y (some v)) (ry : RelV y u) (h : ∀ w' s', Inv X pins σ H s' → RelV v w' → Q w' s') :
    wpAny (model X.prog X.w) A (getItem (.ref a) u) Q E s := by
  obtain ⟨kvs, k, b, e, ey, eb, l⟩ := g
  subst ey
  cases (show u = Value.ref b from ry)
  obtain ⟨z, hd, xs, rel, dd⟩ := dt_rd I.hok e
  obtain ⟨w', hw, rw'⟩ := RelO.some_of (v := v) (o := (atKey xs k).map (·.2)) (by rw [l]; exact rel.val k)
  obtain ⟨p, hp, hp2⟩ := Option.map_eq_some_iff.mp hw
  refine wpAny_getItem_heap (tupleKind_room_in1 hu) (key_ofS I eb) dd hp ?_
  rw [hp2]
  exact h w' _ (I.tok _) rw'
theorem ds_in {Q : Value → Shared → Prop} (hu : A.units + 1 < cLine) (I : Inv X pins σ H s) (g : DGetS X.K H a y o) (ry : RelV y u) (h : ∀ s', Inv X pins σ H s' → Q (.bool o.isSome) s') :
    wpAny (model X.prog X.w) A (compareOp .In u (.ref a)) Q E s := by
  obtain ⟨kvs, k, b, e, ey, eb, l⟩ := g
  subst ey
  cases (show u = Value.ref b from ry)
  obtain ⟨z, hd, xs, rel, dd⟩ := dt_rd I.hok e
  refine wpAny_in_heap (tupleKind_room_in1 hu) (key_ofS I eb) hd dd ?_
  have q := (rel.val k).isSome_eq
  rw [Option.isSome_map] at q
  rw [← q, ← l]
  exact h _ (I.tok _)
theorem ds_notIn {Q : Value → Shared → Prop} (hu : A.units + 1 < cLine) (I : Inv X pins σ H s) (g : DGetS X.K H a y o) (ry : RelV y u) (h : ∀ s', Inv X pins σ H s' → Q (.bool (!o.isSome)) s') :
    wpAny (model X.prog X.w) A (compareOp .NotIn u (.ref a)) Q E s := by
  obtain ⟨kvs, k, b, e, ey, eb, l⟩ := g
  subst ey
  cases (show u = Value.ref b from ry)
  obtain ⟨z, hd, xs, rel, dd⟩ := dt_rd I.hok e
  refine wpAny_notIn_heap (tupleKind_room_in1 hu) (key_ofS I eb) hd dd ?_
  have q := (rel.val k).isSome_eq
  rw [Option.isSome_map] at q
  rw [← q, ← l]
  exact h _ (I.tok _)
theorem ds_typeIs (I : Inv X pins σ H s) (g : DGetS X.K H a y o) : s.TypeIs (.ref a) "dict" := by
  obtain ⟨kvs, k, b, e, _, _, _⟩ := g
  obtain ⟨_, _, xs, _, dd⟩ := dt_rd I.hok e
  exact dd.typeIs
end
def tDGetS (K : PySem.W.Frag) (td ty : TE) : TE := fun σ H Q => td σ H fun x H1 => ty σ H1 fun y H2 => ∃ a v, x = .ref a ∧ DGetS K H2 a y (some v) ∧ Q v H2
def tDInS (K : PySem.W.Frag) (ty td : TE) : TE := fun σ H Q => ty σ H fun y H1 => td σ H1 fun x H2 => ∃ a o, x = .ref a ∧ DGetS K H2 a y o ∧ Q (.bl o.isSome) H2
def tDNotInS (K : PySem.W.Frag) (ty td : TE) : TE := fun σ H Q => ty σ H fun y H1 => td σ H1 fun x H2 => ∃ a o, x = .ref a ∧ DGetS K H2 a y o ∧ Q (.bl (!o.isSome)) H2
section
variable {X : Cx} {K : PySem.W.Frag} {o i e value : Expr} {pos pos' tpos : Pos} {td ty tv : TE}
theorem pe_dgetS (hK : X.K = K) (hu : X.A.units + 1 < cLine) (ho : PE X o td) (hi : PE X i ty) (hs : NoSl i) : PE X (.Subscript o i pos) (tDGetS K td ty) := by
  subst hK
  refine ⟨fun pins s σ H Q I h => ?_⟩
  refine subD_of PySem.F.slot_dict_getitem.lookup hs (thn (ho.run pins s σ H _ I h) fun u s1 ⟨x, H1, I1, rx, q1⟩ => thn (hi.run pins s1 σ H1 _ I1 q1) fun iv s2 ⟨y, H2, I2, ry, a, v, ex, g, q2⟩ => ?_)
  subst ex
  obtain rfl : u = Value.ref a := rx
  exact ⟨ds_typeIs I2 g, ds_getItem hu I2 g ry fun w' s3 I3 rw' => ⟨v, H2, I3, rw', q2⟩⟩
theorem pc_dinS (hK : X.K = K) (hu : X.A.units + 1 < cLine) (hi : PE X i ty) (ho : PE X o td) : PC X .In i o (tDInS K ty td) := by
  subst hK
  refine ⟨fun pins s σ H Q I h => ?_⟩
  refine thn (hi.run pins s σ H _ I h) fun iv s1 ⟨y, H1, I1, ry, q1⟩ => thn (ho.run pins s1 σ H1 _ I1 q1) fun u s2 ⟨x, H2, I2, rx, a, ov, ex, g, q2⟩ => ?_
  subst ex
  obtain rfl : u = Value.ref a := rx
  exact ds_in hu I2 g ry fun s3 I3 => ⟨.bl ov.isSome, H2, I3, rfl, q2⟩
theorem pc_dnotinS (hK : X.K = K) (hu : X.A.units + 1 < cLine) (hi : PE X i ty) (ho : PE X o td) : PC X .NotIn i o (tDNotInS K ty td) := by
  subst hK
  refine ⟨fun pins s σ H Q I h => ?_⟩
  refine thn (hi.run pins s σ H _ I h) fun iv s1 ⟨y, H1, I1, ry, q1⟩ => thn (ho.run pins s1 σ H1 _ I1 q1) fun u s2 ⟨x, H2, I2, rx, a, ov, ex, g, q2⟩ => ?_
  subst ex
  obtain rfl : u = Value.ref a := rx
  exact ds_notIn hu I2 g ry fun s3 I3 => ⟨.bl (!ov.isSome), H2, I3, rfl, q2⟩
end
end L2

/-! ScD2: a dict comprehension whose keys are tuples (follows the proof of the layer's dc_core). -/
namespace L2
open PySem PySem.Spec PyProof.Rows
theorem d_dictSetT {X : Cx} {pins : List (Addr × Obj)} {σ : St} {H : Hp} {s : Shared} {E : Value → Shared → Prop} {D b : Addr} {kvs : List (List Key × V)} {k : List Key} {v : V} {u r : Value} {Q : Unit → Shared → Prop} (hu : X.A.units + 1 < cLine) (I : Inv X pins σ H s) (hD : H D = some (.dT kvs)) (eb : H b = some (.tup (k.map kV))) (hz : kvs.length < sizeLine)
    (ry : RelV (.ref b) u) (rv : RelV v r) (h : ∀ s', Inv X pins σ (upd H D (.dT (putK kvs k v))) s' → Q () s') : wpAny (model X.prog X.w) X.A (dictSet D u r) Q E s := by
  cases (show u = Value.ref b from ry)
  obtain ⟨z, hd, xs, rel, dd⟩ := dt_of I.hok hD
  have hz' : xs.length ≤ sizeLine := by rw [← Paired.length rel]; exact z
  have hl : (putK kvs k v).length ≤ sizeLine := by have := length_putK kvs k v; omega
  refine wpAny_dictSet_heap (hsz := hz') (show (tupleKind (mixKind X.prog X.w)).room X.A from Nat.lt_of_succ_lt hu) (key_of I.hok eb) dd fun h' dd' hs => h _ ?_
  obtain ⟨q, es, ep, hq, h2, h3, h4, _, h5⟩ := dd'
  refine d_write I (by rw [hD]; exact True.intro) hs ⟨q, hq⟩ ⟨hl, hd, _, (rel.put k eb rv).keeps fun c ys ec => ?_, q, es, ep, hq, h2, h3, h4, h5⟩
  rw [upd_ne (ne_of ec hD (fun z => nomatch z))]
  exact ec
section
variable {X : Cx}
/-- {k: v for target in iter if ..}, keys tuples that are held: D the new dict -/
def tDcT (wi : TI) (g : TG) (tt : TT) (tk tv : TE) (vs : List Nat) : TE := fun σ H Q => wi σ H fun J H1 => ∀ D, H1 D = none → ∃ W : Nat → Nat → Hp → Prop, (∃ m, W 0 m (upd H1 D (.dT []))) ∧ ∀ i m H, W i m H →
  (J.stop i H ∧ Q (.ref D) H) ∨ (J.go i H ∧ ∃ Nx : Hp → Prop, (∀ H', Nx H' → ∃ m', m' < m ∧ W (i + 1) m' H') ∧ ∀ x H', J.yld i H x H' → g x (wipe σ vs) H' fun σ2 H2 => wipe σ2 vs = wipe σ vs ∧ tt σ2 H2 fun b H3 =>
    if b = true then tk σ2 H3 fun y H4 => tv σ2 H4 fun z H5 => ∃ kvs k b, y = .ref b ∧ H5 b = some (.tup (k.map kV)) ∧ H5 D = some (.dT kvs) ∧ kvs.length < sizeLine ∧ Nx (upd H5 D (.dT (putK kvs k z))) else Nx H3)
theorem dcT_core {pins : List (Addr × Obj)} {s : Shared} {σ : St} {H : Hp} {Q : VK} {kx vx tg iter : Expr} {ifs : List Expr} {scope : Scope} {own : List (Str × Nat)} {pos pos' : Pos} {wi : TI} {g : TG} {tt : TT} {tk tv : TE} {use : Option (Value → Sem Unit)} {Qf : Value → Shared → Prop}
    (hc : X.calm = true) (hu : X.A.units + 1 < cLine) (hN : X.N.Nodup) (I : Inv X pins σ H s) (hi : PI X tg iter wi) (ok : BlkOk X.N X.env.scope scope own)
    (hg : ∀ (s : Shared) (H : Hp) (C : Addr) (cl : List (Str × Addr)) (fp : List Addr), PG (X.blk s H scope (compEnvC scope cl C X.env) fp) tg g) (ht : ∀ (s : Shared) (H : Hp) (C : Addr) (cl : List (Str × Addr)) (fp : List Addr), PTs (X.blk s H scope (compEnvC scope cl C X.env) fp) ifs tt)
    (hk : ∀ (s : Shared) (H : Hp) (C : Addr) (cl : List (Str × Addr)) (fp : List Addr), PE (X.blk s H scope (compEnvC scope cl C X.env) fp) kx tk)
    (he : ∀ (s : Shared) (H : Hp) (C : Addr) (cl : List (Str × Addr)) (fp : List Addr), PE (X.blk s H scope (compEnvC scope cl C X.env) fp) vx tv) (hs : ∀ x, foldedSetIterable iter X.env x = pure x)
    (h : tDcT wi g tt tk tv (own.map (·.2)) σ H Q)
    (hRR : ∀ D C s' m H', Inv X pins σ H' s' → Q (.ref D) H' → s'.heap.Ns C m → FpOk X pins H' C → compPost (model X.prog X.w) X.A X.xe use Qf (.ref D) C (.ok .next) s') :
    wpAny (model X.prog X.w) X.A (comprehension (.DictComp kx vx [⟨tg, iter, ifs, 0⟩] scope pos) scope X.env pos' newDict false (eval iter X.env) use) Qf X.xe s := by
  have hfree : ∀ y ∈ scope.names, y.2 = .free → ∃ c, X.env.cells.lookup y.1 = some c := fun y hy e => by
    rcases ok.free y hy e with k | k
    · exact I.ok.has _ (.inl k)
    · exact I.ok.has _ (.inr k)
  refine wpAny_comprehension_free (use := use) rfl hs (closure_ok hfree) ok.kind (fun y hy e => by rw [ok.uniq y hy, e])
    (thn (hi.run pins s σ H _ I h) fun xv s1 hx => thn hx fun itv s2 h2 => ?_)
  obtain ⟨it, fp, tn, J, H2, e, I2, T, st2, f2, q⟩ := h2
  subst e
  refine wpAny_newObj_type (newEnv_comp ?_)
  generalize hD : s2.heap.objs.size = D
  have hDn : H2 D = none := I2.hok.fresh (Nat.le_of_eq hD)
  obtain ⟨W, ⟨m0, w0⟩, turn⟩ := q D hDn
  -- the new list
  generalize hs3 : ({ s2 with heap := s2.heap.push { cls := .type "dict", data := .dict #[] } } : Shared) = s3
  have I3 : Inv X pins σ (upd H2 D (.dT [])) s3 := by
    rw [← hs3]
    refine I2.laid (t' := s2.toks) (fun b o e => Heap.get?_push_of_some _ e) (Nat.le_of_eq hD) ?_
    rw [← hD]
    exact dt_empty s2.heap I2.big
  have h3 : s3.heap = s2.heap.push { cls := .type "dict", data := .dict #[] } := by rw [← hs3]
  have sz : ∀ b ∈ fp, b < s2.heap.objs.size := fun b hb => by
    obtain ⟨o, e, _⟩ := T.obj _ _ st2 b hb
    exact Heap.lt_size e
  have f3 : ∀ b ∈ fp, FpOk X pins (upd H2 D (.dT [])) b ∧ b < s3.heap.objs.size := fun b hb => by
    have hlt := sz b hb
    refine ⟨⟨?_, (f2 b hb).2⟩, by rw [h3, Heap.size_push]; exact Nat.lt_succ_of_lt hlt⟩
    rw [upd_ne (by rw [← hD]; exact Nat.ne_of_lt hlt)]
    exact (f2 b hb).1
  have st3 : tn 0 s3.heap := T.keep _ _ _ st2 fun b _ o e => by rw [h3]; exact Heap.get?_push_of_some _ e
  have I4 := block_start I3 ok hN f3
  have pg := hg s3 (upd H2 D (.dT [])) s3.heap.objs.size (cellsFrom (s3.heap.objs.size + 1) scope.names (cloFrom X.env.cells scope.names [])) fp
  have pt := ht s3 (upd H2 D (.dT [])) s3.heap.objs.size (cellsFrom (s3.heap.objs.size + 1) scope.names (cloFrom X.env.cells scope.names [])) fp
  have pk := hk s3 (upd H2 D (.dT [])) s3.heap.objs.size (cellsFrom (s3.heap.objs.size + 1) scope.names (cloFrom X.env.cells scope.names [])) fp
  have pe := he s3 (upd H2 D (.dT [])) s3.heap.objs.size (cellsFrom (s3.heap.objs.size + 1) scope.names (cloFrom X.env.cells scope.names [])) fp
  show codeAny _ _ (.compStart (.DictComp kx vx [⟨tg, iter, ifs, 0⟩] scope pos) 0 (.ref it) (.ref D) (compEnvC scope (cellsFrom (s3.heap.objs.size + 1) scope.names (cloFrom X.env.cells scope.names [])) s3.heap.objs.size X.env)) (compPost (model X.prog X.w) X.A X.xe use Qf (.ref D) s3.heap.objs.size) { s3 with heap := pushCells (s3.heap.push { cls := .type "dict", data := .dict #[] }) scope.names }
  have nfp : ∀ b ∈ fp, (upd H2 D (.dT [])) b = none := fun b hb => (f3 b hb).1.1
  generalize hce : compEnvC scope (cellsFrom (s3.heap.objs.size + 1) scope.names (cloFrom X.env.cells scope.names [])) s3.heap.objs.size X.env = ce at I4 pg pt pk pe ⊢
  have cL : ce.locals = s3.heap.objs.size := by subst hce; rfl
  generalize hH3 : upd H2 D (.dT []) = H3 at I3 I4 pg pt pk pe w0 nfp f3
  generalize hs4 : ({ s3 with heap := pushCells (s3.heap.push { cls := .type "dict", data := .dict #[] }) scope.names } : Shared) = s4 at I4 ⊢
  have st4 : tn 0 s4.heap := T.keep _ _ _ st3 fun b _ o e => by rw [← hs4]; exact pushCells_keeps _ _ _ _ (Heap.get?_push_of_some _ e)
  have stat : ∀ {σ' : St} {H' : Hp} {s' : Shared}, Inv (X.blk s3 H3 scope ce fp) [] σ' H' s' → (∀ b ∈ fp, H' b = none) → ∀ b ∈ fp, FpOk (X.blk s3 H3 scope ce fp) [] H' b := fun {σ' H' s'} I' hn b hb =>
    ⟨hn b hb, (I'.ok.exf b hb).1, I'.ok.exfs b hb, .inl hb, fun x c e => (I'.ok.exf b hb).2 x c e, fun p hp => absurd (show p ∈ ([] : List (Addr × Obj)) ++ [] from hp) (by simp)⟩
  have loop : codeAny (model X.prog X.w) X.A (.compLoop (.DictComp kx vx [⟨tg, iter, ifs, 0⟩] scope pos) 0 (.ref it) (.ref D) ce) (compPost (model X.prog X.w) X.A X.xe use Qf (.ref D) s3.heap.objs.size) s4 := by
    refine compLoop_anyD (fun n s' => ∃ i H', Inv (X.blk s3 H3 scope ce fp) [] (wipe σ (own.map (·.2))) H' s' ∧ tn i s'.heap ∧ (∀ b ∈ fp, H' b = none) ∧ W i n H') ?_ m0 ⟨0, H3, I4, st4, nfp, w0⟩
    rintro n s5 ⟨i, H5, I5, st5, n5, w5⟩
    rcases turn i n H5 w5 with ⟨stop, qq⟩ | ⟨go, Nx, hNx, step⟩
    · have td := T.done (X.blk s3 H3 scope ce fp) rfl rfl rfl hc i [] s5 _ H5 (fun _ _ => False) I5 (stat I5 n5) st5 stop
      refine thnF td fun r s6 ⟨hr, I6⟩ => ?_
      subst hr
      -- back in the def's context
      have I7 : Inv X pins σ H5 s6 := I3.call' (ch := fp) I6.os I6.base I6.hok I6.bare fun b hb => ⟨(f3 b hb).1.2.2.2.1, (f3 b hb).1.2.1, (f3 b hb).1.2.2.2.2.1, (f3 b hb).1.2.2.2.2.2⟩
      have nC : H5 s3.heap.objs.size = none := by
        have z : H5 ce.locals = none := I6.free
        rw [cL] at z
        exact z
      obtain ⟨m, hn, _⟩ := I6.loc
      have hn : s6.heap.Ns ce.locals m := hn
      rw [cL] at hn
      exact hRR D s3.heap.objs.size s6 m H5 I7 qq hn (I3.fpOk (Nat.le_refl _) nC)
    · have ti := T.item (X.blk s3 H3 scope ce fp) rfl rfl rfl hc i [] s5 _ H5 (fun _ _ => False) I5 (stat I5 n5) st5 go
      refine thnF ti fun r s6 ⟨u, hr, h6⟩ => ?_
      subst hr
      refine thnF h6 fun _ s7 ⟨x, H7, I7, r7, y7, st7, n7⟩ => ?_
      have I7' := I7.pinned (stat I7 n7) (T.obj _ _ st7)
      refine thnF (pg.run _ s7 _ H7 x u _ I7' r7 (step x H7 y7)) fun _ s8 ⟨σ8, H8, I8, hw8, q8⟩ => ?_
      refine thnF (pt.run _ s8 σ8 H8 _ I8 q8) fun b s9 ⟨H9, I9, q9⟩ => ?_
      -- the turn's end
      have fin : ∀ {s' : Shared} {H' : Hp}, Inv (X.blk s3 H3 scope ce fp) ([] ++ pinsAt fp s7.heap) σ8 H' s' → Nx H' → ∃ m, m < n ∧ ∃ i H', Inv (X.blk s3 H3 scope ce fp) [] (wipe σ (own.map (·.2))) H' s' ∧ tn i s'.heap ∧ (∀ b ∈ fp, H' b = none) ∧ W i m H' := fun {s' H'} I' nx => by
        obtain ⟨m', hm, w'⟩ := hNx H' nx
        have pin' : ∀ b ∈ fp, ∀ o, s7.heap.get? b = some o → s'.heap.get? b = some o ∧ H' b = none := fun b hb o e =>
          let z := I'.pin (b, o) (List.mem_append_right _ (List.mem_append_right _ (mem_pinsAt hb e)))
          ⟨z.1, z.2.1⟩
        have hl : (wipe σ (own.map (·.2))).length = σ8.length := by rw [← hw8, wipe_length]
        refine ⟨m', hm, i + 1, H', (I'.unpinned (pins := [])).weak hl (fun j v e => ?_), T.keep _ _ _ st7 fun b hb o e => (pin' b hb o e).1, fun b hb => ?_, w'⟩
        · rw [← hw8] at e
          exact (wipe_some e).1
        · obtain ⟨o, e, _⟩ := T.obj _ _ st7 b hb
          exact (pin' b hb o e).2
      cases b with
      | false =>
        simp only [Bool.false_eq_true, if_false] at q9 ⊢
        exact fin I9 q9
      | true =>
        simp only [if_true] at q9 ⊢
        refine thnF (pk.run _ s9 σ8 H9 _ I9 q9) fun z s10 ⟨yk, H10, I10, r10, q10⟩ => ?_
        refine thnF (pe.run _ s10 σ8 H10 _ I10 q10) fun z2 s11 ⟨yv, H11, I11, r11, kvs, k, b, ek, hb11, hD11, hz11, nx⟩ => ?_
        subst ek
        exact d_dictSetT (X := X.blk s3 H3 scope ce fp) hu I11 hD11 hb11 hz11 r10 r11 fun s12 I12 => fin I12 nx
  exact codeAny_compStart_dict loop (T.self X.A 0 _ _ _ st4 loop)
/-- as a value -/
theorem pe_dcT {kx vx tg iter : Expr} {ifs : List Expr} {scope : Scope} {own : List (Str × Nat)} {pos : Pos} {wi : TI} {g : TG} {tt : TT} {tk tv : TE} (hc : X.calm = true) (hu : X.A.units + 1 < cLine) (hN : X.N.Nodup) (hi : PI X tg iter wi) (ok : BlkOk X.N X.env.scope scope own)
    (hg : ∀ (s : Shared) (H : Hp) (C : Addr) (cl : List (Str × Addr)) (fp : List Addr), PG (X.blk s H scope (compEnvC scope cl C X.env) fp) tg g) (ht : ∀ (s : Shared) (H : Hp) (C : Addr) (cl : List (Str × Addr)) (fp : List Addr), PTs (X.blk s H scope (compEnvC scope cl C X.env) fp) ifs tt)
    (hk : ∀ (s : Shared) (H : Hp) (C : Addr) (cl : List (Str × Addr)) (fp : List Addr), PE (X.blk s H scope (compEnvC scope cl C X.env) fp) kx tk)
    (he : ∀ (s : Shared) (H : Hp) (C : Addr) (cl : List (Str × Addr)) (fp : List Addr), PE (X.blk s H scope (compEnvC scope cl C X.env) fp) vx tv) (hs : ∀ x, foldedSetIterable iter X.env x = pure x := by intro _; rfl) :
    PE X (.DictComp kx vx [⟨tg, iter, ifs, 0⟩] scope pos) (tDcT wi g tt tk tv (own.map (·.2))) := by
  refine ⟨fun pins s σ H Q I h => ?_⟩
  rw [arm_eval_DictComp]
  refine dcT_core hc hu hN I hi ok hg ht hk he hs h fun D C s' m H' I' q hn f => ⟨m, hn, fun h'' sb => ?_⟩
  obtain ⟨f0, f1, f2, f3, f4, f5⟩ := f
  exact ⟨.ref D, H', I'.turned (t' := s'.toks) (fun b o hb e => (sb.2 b hb).trans e) f0 f1 f3 f4 f5, rfl, q⟩
end
end L2

/-! Sc4: the facts by names; the defs of schemes. -/
namespace Sc
open PySem PySem.Spec PyProof.Rows L2 Evl
section
variable {K : PySem.W.Frag} {mg : PySem.Str → Option Value}
theorem gl_is_integer (T : Tx K mg) : mg "is_integer" = some (.ref (He.ga K "is_integer")) := T.gl _ (T.c.d.fact 0)
theorem gl_is_word (T : Tx K mg) : mg "is_word" = some (.ref (He.ga K "is_word")) := T.gl _ (T.c.d.fact 1)
theorem gl_are_edits (T : Tx K mg) : mg "are_edits" = some (.ref (He.ga K "are_edits")) := T.gl _ (T.c.d.fact 2)
theorem gl_check_scheme (T : Tx K mg) : mg "check_scheme" = some (.ref (He.ga K "check_scheme")) := T.gl _ (T.c.d.fact 3)
theorem gl_are_cares (T : Tx K mg) : mg "are_cares" = some (.ref (He.ga K "are_cares")) := T.gl _ (T.c.d.fact 4)
theorem gl_check_cares (T : Tx K mg) : mg "check_cares" = some (.ref (He.ga K "check_cares")) := T.gl _ (T.c.d.fact 5)
theorem gl_in_order (T : Tx K mg) : mg "in_order" = some (.ref (He.ga K "in_order")) := T.gl _ (T.c.d.fact 6)
theorem gl_check_both (T : Tx K mg) : mg "check_both" = some (.ref (He.ga K "check_both")) := T.gl _ (T.c.d.fact 7)
theorem gl_edited (T : Tx K mg) : mg "edited" = some (.ref (He.ga K "edited")) := T.gl _ (T.c.d.fact 8)
theorem gl_deeds_of (T : Tx K mg) : mg "deeds_of" = some (.ref (He.ga K "deeds_of")) := T.gl _ (T.c.d.fact 9)
theorem gl_all_deeds (T : Tx K mg) : mg "all_deeds" = some (.ref (He.ga K "all_deeds")) := T.gl _ (T.c.d.fact 10)
theorem gl_is_deed_of (T : Tx K mg) : mg "is_deed_of" = some (.ref (He.ga K "is_deed_of")) := T.gl _ (T.c.d.fact 11)
theorem gl_has (T : Tx K mg) : mg "has" = some (.ref (He.ga K "has")) := T.gl _ (T.c.d.fact 12)
theorem gl_first_with (T : Tx K mg) : mg "first_with" = some (.ref (He.ga K "first_with")) := T.gl _ (T.c.d.fact 13)
theorem gl_is_possible (T : Tx K mg) : mg "is_possible" = some (.ref (He.ga K "is_possible")) := T.gl _ (T.c.d.fact 14)
theorem gl_is_letter_possible (T : Tx K mg) : mg "is_letter_possible" = some (.ref (He.ga K "is_letter_possible")) := T.gl _ (T.c.d.fact 15)
theorem gl_send (T : Tx K mg) : mg "send" = some (.ref (He.ga K "send")) := T.gl _ (T.c.d.fact 16)
theorem gl_set_mark (T : Tx K mg) : mg "set_mark" = some (.ref (He.ga K "set_mark")) := T.gl _ (T.c.d.fact 17)
theorem gl_leave (T : Tx K mg) : mg "leave" = some (.ref (He.ga K "leave")) := T.gl _ (T.c.d.fact 18)
theorem gl_write (T : Tx K mg) : mg "write" = some (.ref (He.ga K "write")) := T.gl _ (T.c.d.fact 19)
theorem gl_send_edit (T : Tx K mg) : mg "send_edit" = some (.ref (He.ga K "send_edit")) := T.gl _ (T.c.d.fact 20)
theorem gl_done (T : Tx K mg) : mg "done" = some (.ref (He.ga K "done")) := T.gl _ (T.c.d.fact 21)
theorem gl_done_with (T : Tx K mg) : mg "done_with" = some (.ref (He.ga K "done_with")) := T.gl _ (T.c.d.fact 22)
theorem gl_arrive (T : Tx K mg) : mg "arrive" = some (.ref (He.ga K "arrive")) := T.gl _ (T.c.d.fact 23)
theorem gl_take_edit (T : Tx K mg) : mg "take_edit" = some (.ref (He.ga K "take_edit")) := T.gl _ (T.c.d.fact 24)
theorem gl_take_answer (T : Tx K mg) : mg "take_answer" = some (.ref (He.ga K "take_answer")) := T.gl _ (T.c.d.fact 25)
theorem gl_is_version (T : Tx K mg) : mg "is_version" = some (.ref (He.ga K "is_version")) := T.gl _ (T.c.d.fact 26)
theorem gl_take_copy (T : Tx K mg) : mg "take_copy" = some (.ref (He.ga K "take_copy")) := T.gl _ (T.c.d.fact 27)
theorem gl_failure_of_machines (T : Tx K mg) : mg "failure_of_machines" = some (.ref (He.ga K "failure_of_machines")) := T.gl _ (T.c.d.fact 28)
theorem gl_failure_at (T : Tx K mg) : mg "failure_at" = some (.ref (He.ga K "failure_at")) := T.gl _ (T.c.d.fact 29)
theorem gl_check_deeds (T : Tx K mg) : mg "check_deeds" = some (.ref (He.ga K "check_deeds")) := T.gl _ (T.c.d.fact 30)
theorem gl_answer_of (T : Tx K mg) : mg "answer_of" = some (.ref (He.ga K "answer_of")) := T.gl _ (T.c.d.fact 31)
theorem gl_answers (T : Tx K mg) : mg "answers" = some (.ref (He.ga K "answers")) := T.gl _ (T.c.d.fact 32)
theorem gl_failure_of_lists (T : Tx K mg) : mg "failure_of_lists" = some (.ref (He.ga K "failure_of_lists")) := T.gl _ (T.c.d.fact 33)
theorem gl_sets_of (T : Tx K mg) : mg "sets_of" = some (.ref (He.ga K "sets_of")) := T.gl _ (T.c.d.fact 34)
theorem gl_later_cares (T : Tx K mg) : mg "later_cares" = some (.ref (He.ga K "later_cares")) := T.gl _ (T.c.d.fact 35)
theorem gl_good_sets (T : Tx K mg) : mg "good_sets" = some (.ref (He.ga K "good_sets")) := T.gl _ (T.c.d.fact 36)
theorem gl_sufficient (T : Tx K mg) : mg "sufficient" = some (.ref (He.ga K "sufficient")) := T.gl _ (T.c.d.fact 37)
theorem gl_contains (T : Tx K mg) : mg "contains" = some (.ref (He.ga K "contains")) := T.gl _ (T.c.d.fact 38)
theorem gl_least_sets (T : Tx K mg) : mg "least_sets" = some (.ref (He.ga K "least_sets")) := T.gl _ (T.c.d.fact 39)
theorem gl_needed (T : Tx K mg) : mg "needed" = some (.ref (He.ga K "needed")) := T.gl _ (T.c.d.fact 40)
theorem gl_harms (T : Tx K mg) : mg "harms" = some (.ref (He.ga K "harms")) := T.gl _ (T.c.d.fact 41)
theorem gl_additions (T : Tx K mg) : mg "additions" = some (.ref (He.ga K "additions")) := T.gl _ (T.c.d.fact 42)
theorem gl_failure_with (T : Tx K mg) : mg "failure_with" = some (.ref (He.ga K "failure_with")) := T.gl _ (T.c.d.fact 43)
theorem gl_repair (T : Tx K mg) : mg "repair" = some (.ref (He.ga K "repair")) := T.gl _ (T.c.d.fact 44)
theorem gl__law_cell_at (T : Tx K mg) : mg "_law_cell_at" = some (.ref (He.ga K "_law_cell_at")) := T.gl _ (T.c.d.fact 45)
theorem gl__law_draw (T : Tx K mg) : mg "_law_draw" = some (.ref (He.ga K "_law_draw")) := T.gl _ (T.c.d.fact 46)
theorem gl__law_number (T : Tx K mg) : mg "_law_number" = some (.ref (He.ga K "_law_number")) := T.gl _ (T.c.d.fact 47)
theorem gl__law_next (T : Tx K mg) : mg "_law_next" = some (.ref (He.ga K "_law_next")) := T.gl _ (T.c.d.fact 48)
theorem gl__law_pick (T : Tx K mg) : mg "_law_pick" = some (.ref (He.ga K "_law_pick")) := T.gl _ (T.c.d.fact 49)
theorem gl__law_scheme (T : Tx K mg) : mg "_law_scheme" = some (.ref (He.ga K "_law_scheme")) := T.gl _ (T.c.d.fact 50)
theorem gl__law_cares (T : Tx K mg) : mg "_law_cares" = some (.ref (He.ga K "_law_cares")) := T.gl _ (T.c.d.fact 51)
theorem gl__law_deeds (T : Tx K mg) : mg "_law_deeds" = some (.ref (He.ga K "_law_deeds")) := T.gl _ (T.c.d.fact 52)
theorem gl__law_answers (T : Tx K mg) : mg "_law_answers" = some (.ref (He.ga K "_law_answers")) := T.gl _ (T.c.d.fact 53)
theorem gl__law_failure (T : Tx K mg) : mg "_law_failure" = some (.ref (He.ga K "_law_failure")) := T.gl _ (T.c.d.fact 54)
theorem gl__law_sets (T : Tx K mg) : mg "_law_sets" = some (.ref (He.ga K "_law_sets")) := T.gl _ (T.c.d.fact 55)
theorem gl__law_within (T : Tx K mg) : mg "_law_within" = some (.ref (He.ga K "_law_within")) := T.gl _ (T.c.d.fact 56)
theorem gl__law_likely (T : Tx K mg) : mg "_law_likely" = some (.ref (He.ga K "_law_likely")) := T.gl _ (T.c.d.fact 57)
theorem gl__law_sets_right (T : Tx K mg) : mg "_law_sets_right" = some (.ref (He.ga K "_law_sets_right")) := T.gl _ (T.c.d.fact 58)
theorem gl__law_repair_right (T : Tx K mg) : mg "_law_repair_right" = some (.ref (He.ga K "_law_repair_right")) := T.gl _ (T.c.d.fact 59)
theorem gl_law (T : Tx K mg) : mg "law" = some (.ref (He.ga K "law")) := T.gl _ (T.c.d.fact 60)
theorem gl_Scheme (T : Tx K mg) : mg "Scheme" = some (.ref (He.ga K "Scheme")) := T.gl _ (T.c.d.fact 61)
theorem cl_Scheme (T : Tx K mg) : Cls K (He.ga K "Scheme") := He.cls_ok (T.c.d.fact 62)
theorem mk_Scheme (T : Tx K mg) : Mk K (He.ga K "Scheme") (He.ma K (He.ga K "Scheme") "__init__") := He.mkr_ok (T.c.d.fact 63)
theorem gl_Machine (T : Tx K mg) : mg "Machine" = some (.ref (He.ga K "Machine")) := T.gl _ (T.c.d.fact 65)
theorem cl_Machine (T : Tx K mg) : Cls K (He.ga K "Machine") := He.cls_ok (T.c.d.fact 66)
theorem mk_Machine (T : Tx K mg) : Mk K (He.ga K "Machine") (He.ma K (He.ga K "Machine") "__init__") := He.mkr_ok (T.c.d.fact 67)
theorem gl_Repair (T : Tx K mg) : mg "Repair" = some (.ref (He.ga K "Repair")) := T.gl _ (T.c.d.fact 69)
theorem cl_Repair (T : Tx K mg) : Cls K (He.ga K "Repair") := He.cls_ok (T.c.d.fact 70)
theorem mk_Repair (T : Tx K mg) : Mk K (He.ga K "Repair") (He.ma K (He.ga K "Repair") "__init__") := He.mkr_ok (T.c.d.fact 71)
theorem na_Scheme_kinds (T : Tx K mg) : NoAttr K (He.ga K "Scheme") "kinds" := He.noat_ok (T.c.d.fact 73)
theorem na_Scheme_room (T : Tx K mg) : NoAttr K (He.ga K "Scheme") "room" := He.noat_ok (T.c.d.fact 74)
theorem na_Scheme_way (T : Tx K mg) : NoAttr K (He.ga K "Scheme") "way" := He.noat_ok (T.c.d.fact 75)
theorem na_Scheme_events (T : Tx K mg) : NoAttr K (He.ga K "Scheme") "events" := He.noat_ok (T.c.d.fact 76)
theorem na_Machine_plan (T : Tx K mg) : NoAttr K (He.ga K "Machine") "plan" := He.noat_ok (T.c.d.fact 77)
theorem na_Machine_given (T : Tx K mg) : NoAttr K (He.ga K "Machine") "given" := He.noat_ok (T.c.d.fact 78)
theorem na_Machine_stored (T : Tx K mg) : NoAttr K (He.ga K "Machine") "stored" := He.noat_ok (T.c.d.fact 79)
theorem na_Machine_written (T : Tx K mg) : NoAttr K (He.ga K "Machine") "written" := He.noat_ok (T.c.d.fact 80)
theorem na_Machine_seen (T : Tx K mg) : NoAttr K (He.ga K "Machine") "seen" := He.noat_ok (T.c.d.fact 81)
theorem na_Machine_rows (T : Tx K mg) : NoAttr K (He.ga K "Machine") "rows" := He.noat_ok (T.c.d.fact 82)
theorem na_Machine_post (T : Tx K mg) : NoAttr K (He.ga K "Machine") "post" := He.noat_ok (T.c.d.fact 83)
theorem na_Machine_fates (T : Tx K mg) : NoAttr K (He.ga K "Machine") "fates" := He.noat_ok (T.c.d.fact 84)
theorem na_Machine_passed (T : Tx K mg) : NoAttr K (He.ga K "Machine") "passed" := He.noat_ok (T.c.d.fact 85)
theorem na_Machine_made (T : Tx K mg) : NoAttr K (He.ga K "Machine") "made" := He.noat_ok (T.c.d.fact 86)
theorem na_Machine_end (T : Tx K mg) : NoAttr K (He.ga K "Machine") "end" := He.noat_ok (T.c.d.fact 87)
theorem na_Machine_trail (T : Tx K mg) : NoAttr K (He.ga K "Machine") "trail" := He.noat_ok (T.c.d.fact 88)
theorem na_Repair_added (T : Tx K mg) : NoAttr K (He.ga K "Repair") "added" := He.noat_ok (T.c.d.fact 89)
theorem na_Repair_doubts (T : Tx K mg) : NoAttr K (He.ga K "Repair") "doubts" := He.noat_ok (T.c.d.fact 90)
theorem me_Machine_can (T : Tx K mg) : Meth K (He.ga K "Machine") "can" (He.ma K (He.ga K "Machine") "can") := He.meth_ok (T.c.d.fact 91)
theorem me_Machine_possible (T : Tx K mg) : Meth K (He.ga K "Machine") "possible" (He.ma K (He.ga K "Machine") "possible") := He.meth_ok (T.c.d.fact 92)
theorem me_Machine_do (T : Tx K mg) : Meth K (He.ga K "Machine") "do" (He.ma K (He.ga K "Machine") "do") := He.meth_ok (T.c.d.fact 93)
theorem me_Repair_shows (T : Tx K mg) : Meth K (He.ga K "Repair") "shows" (He.ma K (He.ga K "Repair") "shows") := He.meth_ok (T.c.d.fact 94)
theorem it_MAX_MOST (T : Tx K mg) : ∃ t, mg "MAX_MOST" = some (.int 2 t) := T.it _ _ (T.c.d.fact 95)
theorem it_MAX_LINE (T : Tx K mg) : ∃ t, mg "MAX_LINE" = some (.int 2 t) := T.it _ _ (T.c.d.fact 96)
theorem it_VALUES (T : Tx K mg) : ∃ t, mg "VALUES" = some (.int 2 t) := T.it _ _ (T.c.d.fact 97)
theorem it_MAX_DEEDS (T : Tx K mg) : ∃ t, mg "MAX_DEEDS" = some (.int 40 t) := T.it _ _ (T.c.d.fact 98)
theorem st_REFUSED (T : Tx K mg) : ∃ t, mg "REFUSED" = some (.str "refused" t) := T.st _ _ (T.c.d.fact 99)
theorem st_NEW (T : Tx K mg) : ∃ t, mg "NEW" = some (.str "new" t) := T.st _ _ (T.c.d.fact 100)
theorem st_SENT (T : Tx K mg) : ∃ t, mg "SENT" = some (.str "sent" t) := T.st _ _ (T.c.d.fact 101)
theorem st_NO (T : Tx K mg) : ∃ t, mg "NO" = some (.str "no" t) := T.st _ _ (T.c.d.fact 102)
theorem gl_ALL_CARES (T : Tx K mg) : mg "ALL_CARES" = some (.ref (He.ga K "ALL_CARES")) := T.gl _ (T.c.d.fact 103)
theorem gl_EDITS (T : Tx K mg) : mg "EDITS" = some (.ref (He.ga K "EDITS")) := T.gl _ (T.c.d.fact 104)
theorem gl_PLAIN (T : Tx K mg) : mg "PLAIN" = some (.ref (He.ga K "PLAIN")) := T.gl _ (T.c.d.fact 105)
theorem gl_OF_LETTERS (T : Tx K mg) : mg "OF_LETTERS" = some (.ref (He.ga K "OF_LETTERS")) := T.gl _ (T.c.d.fact 106)
theorem fr_len (T : Tx K mg) : mg "len" = none := T.fr _ (T.c.d.fact 107)
theorem fr_isinstance (T : Tx K mg) : mg "isinstance" = none := T.fr _ (T.c.d.fact 108)
theorem fr_all (T : Tx K mg) : mg "all" = none := T.fr _ (T.c.d.fact 109)
theorem fr_any (T : Tx K mg) : mg "any" = none := T.fr _ (T.c.d.fact 110)
theorem fr_list (T : Tx K mg) : mg "list" = none := T.fr _ (T.c.d.fact 111)
theorem fr_tuple (T : Tx K mg) : mg "tuple" = none := T.fr _ (T.c.d.fact 112)
theorem fr_dict (T : Tx K mg) : mg "dict" = none := T.fr _ (T.c.d.fact 113)
theorem fr_range (T : Tx K mg) : mg "range" = none := T.fr _ (T.c.d.fact 114)
theorem fr_zip (T : Tx K mg) : mg "zip" = none := T.fr _ (T.c.d.fact 115)
theorem fr_int (T : Tx K mg) : mg "int" = none := T.fr _ (T.c.d.fact 116)
theorem fr_bool (T : Tx K mg) : mg "bool" = none := T.fr _ (T.c.d.fact 117)
theorem fr_str (T : Tx K mg) : mg "str" = none := T.fr _ (T.c.d.fact 118)
theorem fr_sorted (T : Tx K mg) : mg "sorted" = none := T.fr _ (T.c.d.fact 119)
theorem fr_max (T : Tx K mg) : mg "max" = none := T.fr _ (T.c.d.fact 120)
theorem fr_min (T : Tx K mg) : mg "min" = none := T.fr _ (T.c.d.fact 121)
end
section
variable {X : Cx} {pos : Pos} {x : PySem.Str}
theorem pe_gint {i : Int} (h : ∃ t, X.mg x = some (.int i t)) (hg : Gl X x) (hd : (x == ("__debug__" : PySem.Str)) = false := by decide) : PE X (.Name x pos) (tC (.int i)) := by
  obtain ⟨t, h⟩ := h
  exact pe_glob hg h ⟨t, rfl⟩ hd
theorem pe_gstr {z : PySem.Str} (h : ∃ t, X.mg x = some (.str z t)) (hg : Gl X x) (hd : (x == ("__debug__" : PySem.Str)) = false := by decide) : PE X (.Name x pos) (tC (.str z)) := by
  obtain ⟨t, h⟩ := h
  exact pe_glob hg h ⟨t, rfl⟩ hd
theorem pe_gref {a : Addr} (h : X.mg x = some (.ref a)) (hg : Gl X x) (hd : (x == ("__debug__" : PySem.Str)) = false := by decide) : PE X (.Name x pos) (tC (.ref a)) := pe_glob hg h rfl hd
/-! the layer's rules with the written part named (a comprehension's block has another context) -/
section
variable {K : PySem.W.Frag} {e e' o tg l : Expr} {es : List Expr} {te te' ta tv tl : TE} {t : TA} {f : PySem.Str} {pos' : Pos}
theorem pe_fldK (hK : X.K = K) (he : PE X e ta) (hb : attributeBase e f X.env (eval e X.env) = eval e X.env) : PE X (.Attribute e f pos) (tFld K ta f) := hK ▸ pe_fld he hb
theorem ps_fldK (hK : X.K = K) (ha : PE X o ta) (hv : PE X e tv) (hs : swapsWith e (some (.Attribute o f pos')) pos.line X.env = pure false) : PS X (.Assign [.Attribute o f pos'] e pos) (sFld K ta tv f) := hK ▸ ps_fld ha hv hs
theorem ps_augK {op : Operator} {rd : V → V → Hp → VK → Prop} (hK : X.K = K) (ha : PE X o ta) (hv : PE X e tv) (hop : InOp X op rd) : PS X (.AugAssign (.Attribute o f pos') op e pos) (sFldAug K ta tv rd f) := hK ▸ ps_fldaug ha hv hop
theorem sl_listK (hK : X.K = K) : SlR X (rSlL K) := hK ▸ sl_list
theorem sl_tupK (hK : X.K = K) : SlR X (rSlA K) := hK ▸ sl_tupA
theorem ix_tupK (hK : X.K = K) : IxR X (rIxT K) := hK ▸ ix_tup
theorem ix_listK (hK : X.K = K) : IxR X (rIxL K) := hK ▸ ix_list
theorem call_lenK (hK : X.K = K) : CallR X (.builtin "len") (fun xs H Q => ∃ p ys, xs = [.ref p] ∧ (SqL K H p ys ∨ SqT K H p ys) ∧ Q (.int ys.length) H) := hK ▸ call_len_seq
theorem call_listK (hK : X.K = K) : CallR X (.type "list") (fun xs H Q => ∃ p ys, xs = [.ref p] ∧ (SqL K H p ys ∨ SqT K H p ys) ∧ ∀ l, H l = none → Q (.ref l) (upd H l (.lst ys))) := hK ▸ call_list_of
theorem call_tupleK (hK : X.K = K) : CallR X (.type "tuple") (fun xs H Q => ∃ p ys, xs = [.ref p] ∧ ((SqL K H p ys ∧ ∀ l, H l = none → Q (.ref l) (upd H l (.tup ys))) ∨ (SqT K H p ys ∧ Q (.ref p) H))) := hK ▸ call_tuple_of
theorem cr_allK (hK : X.K = K) (hc : X.calm = true := by rfl) : CallR X (.builtin "all") (rAll K) := hK ▸ cr_all hc
theorem cr_anyK (hK : X.K = K) (hc : X.calm = true := by rfl) : CallR X (.builtin "any") (rAny K) := hK ▸ cr_any hc
theorem call_isiK1 (hK : X.K = K) : CallR X (.builtin "isinstance") (rIsi K) := hK ▸ call_isi
theorem call_isiTK (hK : X.K = K) : CallR X (.builtin "isinstance") (rIsiT K) := hK ▸ call_isiT
theorem op_inK (hK : X.K = K) : OpR X (compareOp .In) (rIn K false) := hK ▸ op_in_seq
theorem op_ninK (hK : X.K = K) : OpR X (compareOp .NotIn) (rIn K true) := hK ▸ op_notIn_seq
theorem op_eqK (hK : X.K = K) (hu : X.A.units + 64 < cLine) : OpR X (compareOp .Eq) (rEqD K) := hK ▸ op_eqD hu
theorem op_neK (hK : X.K = K) (hu : X.A.units + 64 < cLine) : OpR X (compareOp .NotEq) (rNeD K) := hK ▸ op_neD hu
theorem op_catTK (hK : X.K = K) : OpR X (binaryOp .Add) (rCatA K) := hK ▸ op_catA
theorem pi_listK (hK : X.K = K) (hl : PE X l tl) : PI X tg l (iList K tl) := hK ▸ pi_list hl
theorem pi_tupK (hK : X.K = K) (hl : PE X l tl) : PI X tg l (iTup K tl) := hK ▸ pi_tup hl
theorem pg_tupK {k : Nat} {u : TGs} {n : Nat} (hK : X.K = K) (hc : X.calm = true) (h : PGs X es u) (hn : (assignEach es X.env).length = n := by rfl) (hst : (assignEach es X.env).findIdx? (·.1) = none := by rfl) : PG X (.Tuple es k pos) (gTup K n u) := hK ▸ pg_tup hc h hn hst
theorem pa_starK (hK : X.K = K) (he : PE X e te) (hr : PA X es t) (hs : starEach (.Starred e pos :: es) X.env = (true, eval e X.env) :: starEach es X.env := by rfl) : PA X (.Starred e pos :: es) (StX.tStar K te t) := hK ▸ StX.pa_star he hr hs
end
/-! name = {..} on one line -/
section
open Sem
theorem ps_setDc {i : Nat} {y : Str} {py : Pos} {kx vx tg iter : Expr} {ifs : List Expr} {scope : Scope} {own : List (Str × Nat)} {spos : Pos} {wi : TI} {g : TG} {tt : TT} {tk tv : TE} (hc : X.calm = true) (hN : X.N.Nodup) (hy : X.N[i]? = some y) (hyl : X.env.scope.names.lookup y = some .local)
    (hsw : swapsWith (.DictComp kx vx [⟨tg, iter, ifs, 0⟩] scope pos) (some (.Name y py)) spos.line X.env = pure true) (hi : PI X tg iter wi) (ok : BlkOk X.N X.env.scope scope own)
    (hg : ∀ (s : Shared) (H : Hp) (C : Addr) (cl : List (Str × Addr)) (fp : List Addr), PG (X.blk s H scope (compEnvC scope cl C X.env) fp) tg g) (ht : ∀ (s : Shared) (H : Hp) (C : Addr) (cl : List (Str × Addr)) (fp : List Addr), PTs (X.blk s H scope (compEnvC scope cl C X.env) fp) ifs tt)
    (hk : ∀ (s : Shared) (H : Hp) (C : Addr) (cl : List (Str × Addr)) (fp : List Addr), PE (X.blk s H scope (compEnvC scope cl C X.env) fp) kx tk)
    (he : ∀ (s : Shared) (H : Hp) (C : Addr) (cl : List (Str × Addr)) (fp : List Addr), PE (X.blk s H scope (compEnvC scope cl C X.env) fp) vx tv) (hs : ∀ x, foldedSetIterable iter X.env x = pure x := by intro _; rfl) :
    PS X (.Assign [.Name y py] (.DictComp kx vx [⟨tg, iter, ifs, 0⟩] scope pos) spos) (tAsg (tDc wi g tt tk tv (own.map (·.2))) (gName i)) := by
  refine ⟨fun pins s σ H D I h => ?_⟩
  rw [exec_Assign_Name_used _ _ _ _ hsw]
  refine wpAny_bind (wpAny_standAt (wpAny_bind ?_))
  show wpAny _ X.A (do let _ ← comprehension (.DictComp kx vx [⟨tg, iter, ifs, 0⟩] scope pos) scope X.env (firstIterPos [⟨tg, iter, ifs, 0⟩] pos) newDict false (eval iter X.env) (some (assign (.Name y py) X.env))) _ _ s
  have h : tDc wi g tt tk tv (own.map (·.2)) σ H (fun x H1 => gName i x σ H1 D.nx) := h
  refine wpAny_bind (thn (dc_core (Qf := fun _ s' => SP X pins D .next s') hc hN I hi ok hg ht hk he hs h fun L C s' m H' I' q hn f => ?_) fun _ s' hq => wpAny_pure (wpAny_pure hq))
  show wpAny _ _ (assign (.Name y py) X.env (.ref L)) _ _ _
  refine wpAny_assign_Name (store_ok2 (v := V.ref L) I' hN hy (.inl hyl) rfl (fun s2 I2 ⟨a, sb, ha⟩ => ?_) (.inr hyl))
  obtain ⟨f0, f1, f2, f3, f4, f5⟩ := f
  have haC : C ≠ a := by
    rcases ha with z | z
    · rw [z]; exact f1
    · exact fun e => f4 y a z e.symm
  refine ⟨m, hn.sameBut sb haC, fun h3 sb3 => ?_⟩
  exact ⟨_, H', I2.turned (t' := s2.toks) (fun b o hb e => (sb3.2 b hb).trans e) f0 f1 f3 f4 f5, q⟩
theorem sw_trueD {kx vx : Expr} {gs : List Comprehension} {scope : Scope} {py : Pos} {y : Str} {l : Nat} {env : Env} (hk : env.scope.kind = .function) (hy : env.scope.names.lookup y = some .local) (hl : (py.line == pos.line) = true)
    (ha : (scope.names.any fun (n, k) => n == y && (k == .local || k == .cell)) = false) : swapsWith (.DictComp kx vx gs scope pos) (some (.Name y py)) l env = pure true := by
  have ky : env.kindOf y = some .local := hy
  have hb : env.blockKind = .function := by unfold Env.blockKind; rw [hk]; rfl
  unfold swapsWith
  simp only [hb, ky, ha, Expr.pos, hl]
  rfl
end
/-- either of two ways to walk -/
theorem pi_or {tg e : Expr} {w w' : TI} (h : PI X tg e w) (h' : PI X tg e w') : PI X tg e (fun σ H R => w σ H R ∨ w' σ H R) := ⟨fun pins s σ H R I q => by
  rcases q with q | q
  · exact h.run pins s σ H R I q
  · exact h'.run pins s σ H R I q⟩
theorem pi_seqK {K : PySem.W.Frag} {tg e : Expr} {t : TE} (hK : X.K = K) (h : PE X e t) : PI X tg e (fun σ H R => iList K t σ H R ∨ iTup K t σ H R) := pi_or (pi_listK hK h) (pi_tupK hK h)
end
section
variable {K : PySem.W.Frag} {σ : L2.St} {H : Hp} {tl : TE} {ds : List PD} {e : PD}
theorem src_seq (h : Evd K tl σ H e) (he : e = .list ds ∨ e = .tuple ds) : Src K (fun σ H R => iList K tl σ H R ∨ iTup K tl σ H R) σ H ds := fun H1 a R k => by
  rcases he with rfl | rfl
  · exact .inl (src_list h H1 a R k)
  · exact .inr (src_tup h H1 a R k)
end
/-! ### the constants -/
def cares9 : List PySem.Str := ["lays", "matches", "lists", "newer", "keys", "turns", "retries", "undoes", "saves"]
def edits2 : List PySem.Str := ["up", "nil"]
def plain5 : List PySem.Str := ["send", "again", "ask", "other", "reload"]
def letters4 : List PySem.Str := ["carry", "double", "lose", "refuse"]
section
variable {K : PySem.W.Frag} {mg : PySem.Str → Option Value} {σ : L2.St} {H : Hp}
theorem tup_strs {x : PySem.Str} {dv : List He.Dv} {ss : List PySem.Str} (h : He.tupB K x dv = true) (e : dv.map (He.Dv.v K) = ss.map V.str) : Evd K (tC (.ref (He.ga K x))) σ H (.tuple (ss.map .str)) := by
  refine d_c (.tup (xs := ss.map V.str) ?_ (DpAll.strs ss))
  rw [← e]
  exact He.tupB_ok h H
theorem d_ALL (T : Tx K mg) : Evd K (tC (.ref (He.ga K "ALL_CARES"))) σ H (.tuple (cares9.map .str)) := tup_strs (He.ba (He.ba T.c.more).1).1 rfl
theorem d_EDITS (T : Tx K mg) : Evd K (tC (.ref (He.ga K "EDITS"))) σ H (.tuple (edits2.map .str)) := tup_strs (He.ba (He.ba (He.ba T.c.more).1).2).1 rfl
theorem d_PLAIN (T : Tx K mg) : Evd K (tC (.ref (He.ga K "PLAIN"))) σ H (.tuple (plain5.map .str)) := tup_strs (He.ba (He.ba (He.ba (He.ba T.c.more).1).2).2).1 rfl
theorem d_LET (T : Tx K mg) : Evd K (tC (.ref (He.ga K "OF_LETTERS"))) σ H (.tuple (letters4.map .str)) := tup_strs (He.ba (He.ba (He.ba (He.ba T.c.more).1).2).2).2 rfl
end
/-! ### classes of data -/
def t_int : PD → Bool
  | .int _ => true
  | .bool _ => true
  | _ => false
theorem kb_int : ∀ d : PD, kitB (tyP d) "int" = some (t_int d)
  | .none => (by decide +kernel : kitB "NoneType" "int" = some false)
  | .bool _ => (by decide +kernel : kitB "bool" "int" = some true)
  | .int _ => (by decide +kernel : kitB "int" "int" = some true)
  | .str _ => (by decide +kernel : kitB "str" "int" = some false)
  | .list _ => (by decide +kernel : kitB "list" "int" = some false)
  | .tuple _ => (by decide +kernel : kitB "tuple" "int" = some false)
  | .dict _ => (by decide +kernel : kitB "dict" "int" = some false)
def t_bool : PD → Bool
  | .bool _ => true
  | _ => false
theorem kb_bool : ∀ d : PD, kitB (tyP d) "bool" = some (t_bool d)
  | .none => (by decide +kernel : kitB "NoneType" "bool" = some false)
  | .bool _ => (by decide +kernel : kitB "bool" "bool" = some true)
  | .int _ => (by decide +kernel : kitB "int" "bool" = some false)
  | .str _ => (by decide +kernel : kitB "str" "bool" = some false)
  | .list _ => (by decide +kernel : kitB "list" "bool" = some false)
  | .tuple _ => (by decide +kernel : kitB "tuple" "bool" = some false)
  | .dict _ => (by decide +kernel : kitB "dict" "bool" = some false)
def t_str : PD → Bool
  | .str _ => true
  | _ => false
theorem kb_str : ∀ d : PD, kitB (tyP d) "str" = some (t_str d)
  | .none => (by decide +kernel : kitB "NoneType" "str" = some false)
  | .bool _ => (by decide +kernel : kitB "bool" "str" = some false)
  | .int _ => (by decide +kernel : kitB "int" "str" = some false)
  | .str _ => (by decide +kernel : kitB "str" "str" = some true)
  | .list _ => (by decide +kernel : kitB "list" "str" = some false)
  | .tuple _ => (by decide +kernel : kitB "tuple" "str" = some false)
  | .dict _ => (by decide +kernel : kitB "dict" "str" = some false)
def t_tuple : PD → Bool
  | .tuple _ => true
  | _ => false
theorem kb_tuple : ∀ d : PD, kitB (tyP d) "tuple" = some (t_tuple d)
  | .none => (by decide +kernel : kitB "NoneType" "tuple" = some false)
  | .bool _ => (by decide +kernel : kitB "bool" "tuple" = some false)
  | .int _ => (by decide +kernel : kitB "int" "tuple" = some false)
  | .str _ => (by decide +kernel : kitB "str" "tuple" = some false)
  | .list _ => (by decide +kernel : kitB "list" "tuple" = some false)
  | .tuple _ => (by decide +kernel : kitB "tuple" "tuple" = some true)
  | .dict _ => (by decide +kernel : kitB "dict" "tuple" = some false)
def t_list : PD → Bool
  | .list _ => true
  | _ => false
theorem kb_list : ∀ d : PD, kitB (tyP d) "list" = some (t_list d)
  | .none => (by decide +kernel : kitB "NoneType" "list" = some false)
  | .bool _ => (by decide +kernel : kitB "bool" "list" = some false)
  | .int _ => (by decide +kernel : kitB "int" "list" = some false)
  | .str _ => (by decide +kernel : kitB "str" "list" = some false)
  | .list _ => (by decide +kernel : kitB "list" "list" = some true)
  | .tuple _ => (by decide +kernel : kitB "tuple" "list" = some false)
  | .dict _ => (by decide +kernel : kitB "dict" "list" = some false)
/-! ### schemes -/
def isInt : PD → Int → Int → Bool
  | .int i, lo, hi => decide (lo ≤ i) && decide (i ≤ hi)
  | _, _, _ => false
def sp_is_integer (K : PySem.W.Frag) : Sp := spP K fun _ as r => ∃ d lo hi, as = [.dat d, .dat (.int lo), .dat (.int hi)] ∧ flatP d = true ∧ r = .bool (isInt d lo hi)
def isWord : PD → List PySem.Str → Bool
  | .str s, ws => decide (s ∈ ws)
  | _, _ => false
def sp_is_word (K : PySem.W.Frag) : Sp := spP K fun _ as r => ∃ d ws, as = [.dat d, .dat (.tuple (ws.map .str))] ∧ flatP d = true ∧ r = .bool (isWord d ws)
section
variable {P : Program} {w : World} {K : PySem.W.Frag} {mg : PySem.Str → Option Value} {base : Heap}
abbrev nm_is_integer : List PySem.Str := ["value", "low", "high"]
theorem sc_is_integer : FnScope nm_is_integer ["value", "low", "high"] (defScope s_is_integer) := ⟨rfl, rfl, rfl, by decide +kernel, rfl, by decide +kernel, by decide +kernel⟩
theorem ok_is_integer (T : Tx K mg) : FR P w K mg base 1 "is_integer" (sp_is_integer K) := by
  refine fr_of (k := 0) (N := nm_is_integer) (ps := ["value", "low", "high"]) (gl_is_integer T) (T.c.d.def_ 0 (d := d_is_integer)) sc_is_integer (fun _ _ _ _ _ _ us hl => match us, hl with | [_, _, _], _ => rfl) (fun vs H Q E h => ?_) (fun cdv A outer s H vs Q E hr h => ?_)
  · obtain ⟨as, r, hA, ⟨d, lo, hi, rfl, hf, rfl⟩, k⟩ := h
    exact hA.length
  · obtain ⟨as, r, hA, ⟨d, lo, hi, rfl, hf, rfl⟩, k⟩ := h
    obtain ⟨v0, _, rfl, r0, v1, _, rfl, r1, v2, _, rfl, r2, rfl⟩ := hA
    refine ⟨_, (pss_one (ps_ret (pe_and (pe_callB (call_isiK1 (K := K) rfl) (by rfl) (fr_isinstance T) (by decide +kernel) (pa_cons (pv 0) (pa_cons (pe_bltn (v := .ty "int") (u := .type "int") rfl (fr_int T) (by decide +kernel) rfl) pa_nil))) (pe_and (pe_not (pe_callB (call_isiK1 (K := K) rfl) (by rfl) (fr_isinstance T) (by decide +kernel) (pa_cons (pv 0) (pa_cons (pe_bltn (v := .ty "bool") (u := .type "bool") rfl (fr_bool T) (by decide +kernel) rfl) pa_nil)))) (pe_one (pe_chain op_le op_le (pv 1) (pv 0) (pv 2))))))), ?_⟩
    refine s_retD (Evd.to (d := .bool (t_int d && ((!t_bool d) && isInt d lo hi))) ?_ ?_) k
    · refine d_and (d_isi (d_var rfl r0) (kb_int d)) fun h1 => d_and (d_not (d_isi (d_var rfl r0) (kb_bool d))) fun h2 => ?_
      cases d with
      | int i => exact d_chainI (d_var rfl r1) (d_var rfl r0) (d_var rfl r2)
      | bool b => exact absurd h2 (by intro z; cases z)
      | none => exact absurd h1 (by intro z; cases z)
      | str s => exact absurd h1 (by intro z; cases z)
      | _ => cases hf
    · cases d <;> first | rfl | cases hf
abbrev nm_is_word : List PySem.Str := ["value", "words"]
theorem sc_is_word : FnScope nm_is_word ["value", "words"] (defScope s_is_word) := ⟨rfl, rfl, rfl, by decide +kernel, rfl, by decide +kernel, by decide +kernel⟩
theorem ok_is_word (T : Tx K mg) : FR P w K mg base 1 "is_word" (sp_is_word K) := by
  refine fr_of (k := 0) (N := nm_is_word) (ps := ["value", "words"]) (gl_is_word T) (T.c.d.def_ 1 (d := d_is_word)) sc_is_word (fun _ _ _ _ _ _ us hl => match us, hl with | [_, _], _ => rfl) (fun vs H Q E h => ?_) (fun cdv A outer s H vs Q E hr h => ?_)
  · obtain ⟨as, r, hA, ⟨d, ws, rfl, hf, rfl⟩, k⟩ := h
    exact hA.length
  · obtain ⟨as, r, hA, ⟨d, ws, rfl, hf, rfl⟩, k⟩ := h
    obtain ⟨v0, _, rfl, r0, v1, _, rfl, r1, rfl⟩ := hA
    refine ⟨_, (pss_one (ps_ret (pe_and (pe_callB (call_isiK1 (K := K) rfl) (by rfl) (fr_isinstance T) (by decide +kernel) (pa_cons (pv 0) (pa_cons (pe_bltn (v := .ty "str") (u := .type "str") rfl (fr_str T) (by decide +kernel) rfl) pa_nil))) (pe_one (pe_cmpR (op_inK (K := K) rfl) (pv 0) (pv 1) (by rfl)))))), ?_⟩
    refine s_retD (Evd.to (d := .bool (t_str d && isWord d ws)) ?_ ?_) k
    · refine d_and (d_isi (d_var rfl r0) (kb_str d)) fun h1 => ?_
      cases d with
      | str z => exact d_inS (d_var rfl r0) (d_var rfl r1) (.inr rfl)
      | none => exact absurd h1 (by intro z; cases z)
      | int s => exact absurd h1 (by intro z; cases z)
      | bool s => exact absurd h1 (by intro z; cases z)
      | _ => cases hf
    · cases d <;> first | rfl | cases hf
end
end Sc


/-! Sc5: schemes: what the defs promise. -/
namespace Sc
open PySem PySem.Spec PyProof.Rows L2 Evl
/-! ### shapes -/
def Sh (n : Nat) (d : PD) : Prop := d.canLay0 = true ∧ d.depth ≤ n
theorem Sh.ok {n : Nat} {d : PD} (h : Sh n d) (hn : n ≤ 64 := by decide) : SeqAt.shaped d = true := by
  unfold SeqAt.shaped
  rw [h.1, Bool.true_and]
  exact decide_eq_true (Nat.le_trans h.2 hn)
theorem shs_of {n : Nat} : ∀ {ds : List PD}, (∀ d ∈ ds, Sh n d) → PyData.canLayAll0 ds = true ∧ PyData.depthAll ds ≤ n
  | [], _ => ⟨by simp [PyData.canLayAll0], by simp [PyData.depthAll]⟩
  | d :: ds, h => by
    obtain ⟨h1, h2⟩ := h d (List.mem_cons_self ..)
    obtain ⟨h3, h4⟩ := shs_of (n := n) (ds := ds) fun x hx => h x (List.mem_cons_of_mem _ hx)
    exact ⟨by simp [PyData.canLayAll0, h1, h3], by simp [PyData.depthAll]; omega⟩
theorem Sh.tup {n : Nat} {ds : List PD} (h : ∀ d ∈ ds, Sh n d) : Sh (n + 1) (.tuple ds) := by
  obtain ⟨h1, h2⟩ := shs_of h
  exact ⟨by simp [PyData.canLay0, h1], by simp [PyData.depth]; omega⟩
theorem Sh.lst {n : Nat} {ds : List PD} (h : ∀ d ∈ ds, Sh n d) : Sh (n + 1) (.list ds) := by
  obtain ⟨h1, h2⟩ := shs_of h
  exact ⟨by simp [PyData.canLay0, h1], by simp [PyData.depth]; omega⟩
theorem Sh.mono {n m : Nat} {d : PD} (h : Sh n d) (hn : n ≤ m) : Sh m d := ⟨h.1, Nat.le_trans h.2 hn⟩
theorem Sh.int {i : Int} : Sh 0 (.int i) := ⟨by simp [PyData.canLay0], by simp [PyData.depth]⟩
theorem Sh.bool {i : Bool} : Sh 0 (.bool i) := ⟨by simp [PyData.canLay0], by simp [PyData.depth]⟩
theorem Sh.none : Sh 0 .none := ⟨by simp [PyData.canLay0], by simp [PyData.depth]⟩
theorem Sh.str {s : Sx} (h : PyData.strOk s = true) : Sh 0 (.str s) := ⟨by simp [PyData.canLay0, h], by simp [PyData.depth]⟩
theorem ok_cares9 : ∀ s ∈ cares9, PyData.strOk s = true := by decide +kernel
theorem ok_edits2 : ∀ s ∈ edits2, PyData.strOk s = true := by decide +kernel
theorem sh_cares {ss : List Sx} (h : ∀ s ∈ ss, s ∈ cares9) : Sh 1 (.tuple (ss.map .str)) := Sh.tup fun d hd => by
  obtain ⟨s, hs, rfl⟩ := List.mem_map.mp hd
  exact Sh.str (ok_cares9 s (h s hs))
theorem sh_edits {ss : List Sx} (h : ∀ s ∈ ss, s ∈ edits2) : Sh 1 (.tuple (ss.map .str)) := Sh.tup fun d hd => by
  obtain ⟨s, hs, rfl⟩ := List.mem_map.mp hd
  exact Sh.str (ok_edits2 s (h s hs))
/-! ### == of scalars -/
def scalP : PD → PD → Bool
  | .none, .none => true | .none, .int _ => true | .int _, .none => true | .none, .bool _ => true | .bool _, .none => true | .none, .str _ => true | .str _, .none => true
  | .int _, .int _ => true | .bool _, .bool _ => true | .str _, .str _ => true | .int _, .str _ => true | .str _, .int _ => true | .bool _, .str _ => true | .str _, .bool _ => true
  | _, _ => false
section
variable {K : PySem.W.Frag} {σ : L2.St} {H H' : Hp} {ta tb te : TE} {d e : PD} {x y : V}
theorem scal_of (h : Dp K H x d) (h' : Dp K H y e) (s : scalP d e = true) : scal x y = true ∧ decide (x = y) = PyData.eqv d e := by
  cases h <;> cases h' <;> first
    | exact ⟨rfl, rfl⟩
    | exact ⟨rfl, dec_int⟩
    | exact ⟨rfl, dec_bl⟩
    | exact ⟨rfl, dec_str⟩
    | cases s
theorem d_eqS (ha : Evd K ta σ H d) (hb : Evd K tb σ H e) (s : scalP d e = true) : Evd K (tOp rEq ta tb) σ H (.bool (PyData.eqv d e)) := fun H1 a Q k =>
  ha H1 a _ fun x H2 q2 r2 => hb H2 (a.trans q2) _ fun y H3 q3 r3 => by
    obtain ⟨h1, h2⟩ := scal_of (r2.ex q3) r3 s
    refine ⟨h1, ?_⟩
    rw [h2]
    exact k _ H3 (q2.trans q3) (.bl _)
theorem d_neS (ha : Evd K ta σ H d) (hb : Evd K tb σ H e) (s : scalP d e = true) : Evd K (tOp rNe ta tb) σ H (.bool (!PyData.eqv d e)) := fun H1 a Q k =>
  ha H1 a _ fun x H2 q2 r2 => hb H2 (a.trans q2) _ fun y H3 q3 r3 => by
    obtain ⟨h1, h2⟩ := scal_of (r2.ex q3) r3 s
    refine ⟨h1, ?_⟩
    rw [h2]
    exact k _ H3 (q2.trans q3) (.bl _)
theorem d_eqStr {a b : Sx} (ha : Evd K ta σ H (.str a)) (hb : Evd K tb σ H (.str b)) : Evd K (tOp rEq ta tb) σ H (.bool (decide (a = b))) :=
  (d_eqS ha hb rfl).to (congrArg _ (by show (a == b) = _; exact Bool.beq_eq_decide_eq _ _))
theorem d_neStr {a b : Sx} (ha : Evd K ta σ H (.str a)) (hb : Evd K tb σ H (.str b)) : Evd K (tOp rNe ta tb) σ H (.bool (!decide (a = b))) :=
  (d_neS ha hb rfl).to (congrArg _ (by show (!(a == b)) = _; rw [Bool.beq_eq_decide_eq]))
theorem d_eqInt {a b : Int} (ha : Evd K ta σ H (.int a)) (hb : Evd K tb σ H (.int b)) : Evd K (tOp rEq ta tb) σ H (.bool (decide (a = b))) :=
  (d_eqS ha hb rfl).to (congrArg _ (by show (a == b) = _; exact Bool.beq_eq_decide_eq _ _))
theorem d_neInt {a b : Int} (ha : Evd K ta σ H (.int a)) (hb : Evd K tb σ H (.int b)) : Evd K (tOp rNe ta tb) σ H (.bool (!decide (a = b))) :=
  (d_neS ha hb rfl).to (congrArg _ (by show (!(a == b)) = _; rw [Bool.beq_eq_decide_eq]))
theorem et_or' {t u : TT} {a b : Bool} (h1 : EvT t σ H a) (h2 : a = false → EvT u σ H b) : EvT (tOr t u) σ H (a || b) := et_or h1 h2
end
/-! ### dicts by comprehension -/
def EvK (te : TE) (σ : L2.St) (H : Hp) (kvs : List (Key × V)) : Prop := ∀ H1, Ex H H1 → ∀ Q : VK, (∀ p H2, H1 p = none → Ex H1 H2 → H2 p = some (.dK kvs) → Q (.ref p) H2) → te σ H1 Q
section
variable {K : PySem.W.Frag} {σ : L2.St} {H : Hp} {wi : TI} {g : TG} {t : TT} {tk tv : TE}
theorem EvK.mono {te : TE} {kvs : List (Key × V)} {H' : Hp} (h : EvK te σ H kvs) (q : Ex H H') : EvK te σ H' kvs := fun H1 a Q k => h H1 (q.trans a) Q k
theorem k_dcG {α : Type} {xs : List α} {enc : α → PD} {key : α → Key} {val : α → V} {vs : List Nat} {B : α → Hp → L2.St → Prop} (hs : Src K wi σ H (xs.map enc)) (hg : Tgt K g (wipe σ vs) enc B) (hw : ∀ x H1 σ2, B x H1 σ2 → wipe σ2 vs = wipe σ vs) (hz : xs.length ≤ 40000)
    (hel : ∀ x ∈ xs, ∀ σ2 H1, Ex H H1 → B x H1 σ2 → Ev tk σ2 H1 (kV (key x)) ∧ Ev tv σ2 H1 (val x)) : EvK (tDc wi g tYes tk tv vs) σ H (xs.foldl (fun acc x => putK acc (key x) (val x)) []) := fun H1 a Q k =>
  hs H1 a _ fun J H2 q2 W D hD => by
    rw [List.length_map] at W
    refine walk_by W (body := fun Nx x H' => g x (wipe σ vs) H' fun σ2 H2 => wipe σ2 vs = wipe σ vs ∧ tYes σ2 H2 fun b H3 => if b = true then tk σ2 H3 fun y H4 => tv σ2 H4 fun z H5 => ∃ kvs k, y = kV k ∧ H5 D = some (.dK kvs) ∧ kvs.length < sizeLine ∧ Nx (upd H5 D (.dK (putK kvs k z))) else Nx H3)
      (fun i H' => Ex H2 H' ∧ ((xs.take i).foldl (fun acc x => putK acc (key x) (val x)) []).length ≤ i ∧ H' D = some (.dK ((xs.take i).foldl (fun acc x => putK acc (key x) (val x)) []))) ⟨Ex.new hD, Nat.le_refl _, upd_same⟩ (fun i H' _ P => P.1) (fun i x H3 H4 hi P Y => ?_) fun H3 P => ?_
    · obtain ⟨ex, hl, hacc⟩ := P
      obtain ⟨rfl, d, hd, rd⟩ := Y
      rw [List.getElem?_map] at hd
      obtain ⟨xi, hxi, rfl⟩ := Option.map_eq_some_iff.mp hd
      have hmem : xi ∈ xs := List.mem_of_getElem? hxi
      have htk : xs.take (i + 1) = xs.take i ++ [xi] := by rw [List.take_succ, hxi] <;> rfl
      refine hg.go xi x _ rd _ fun σ2 hB => ⟨hw _ _ _ hB, ?_⟩
      obtain ⟨h1, h2⟩ := hel xi hmem σ2 _ ((a.trans q2).trans ex) hB
      refine h1 _ (Ex.refl _) _ fun H5 q5 => h2 H5 q5 _ fun H6 q6 => ⟨_, key xi, rfl, q6 D _ (q5 D _ hacc), sz_lt (by omega), ((ex.trans q5).trans q6).mut hD, ?_, ?_⟩
      · rw [htk, List.foldl_append]
        exact Nat.le_trans (length_putK _ _ _) (Nat.succ_le_succ hl)
      · rw [htk, List.foldl_append]
        exact upd_same
    · obtain ⟨ex, hl, hacc⟩ := P
      rw [List.take_of_length_le (Nat.le_refl _)] at hacc
      exact k D H3 (fresh_back q2 hD) (q2.trans ex) hacc
theorem k_dc {α : Type} {xs : List α} {enc : α → PD} {key : α → Key} {val : α → V} {vs : List Nat} {j : Nat} (hs : Src K wi σ H (xs.map enc)) (hw : ∀ v, wipe ((wipe σ vs).set j (some v)) vs = wipe σ vs) (hz : xs.length ≤ 40000)
    (hel : ∀ x ∈ xs, ∀ v H1, Ex H H1 → Dp K H1 v (enc x) → Ev tk ((wipe σ vs).set j (some v)) H1 (kV (key x)) ∧ Ev tv ((wipe σ vs).set j (some v)) H1 (val x)) : EvK (tDc wi (gName j) tYes tk tv vs) σ H (xs.foldl (fun acc x => putK acc (key x) (val x)) []) :=
  k_dcG hs tgt_name (fun x H1 σ2 ⟨v, _, e⟩ => by rw [e]; exact hw v) hz fun x hx σ2 H1 a ⟨v, r, e⟩ => by rw [e]; exact hel x hx v H1 a r
theorem k_dc3 {α : Type} {xs : List α} {e1 e2 e3 : α → PD} {key : α → Key} {val : α → V} {vs : List Nat} {j1 j2 j3 : Nat} (hs : Src K wi σ H (xs.map fun x => .tuple [e1 x, e2 x, e3 x])) (hw : ∀ v1 v2 v3, wipe ((((wipe σ vs).set j1 (some v1)).set j2 (some v2)).set j3 (some v3)) vs = wipe σ vs) (hz : xs.length ≤ 40000)
    (hel : ∀ x ∈ xs, ∀ v1 v2 v3 H1, Ex H H1 → Dp K H1 v1 (e1 x) → Dp K H1 v2 (e2 x) → Dp K H1 v3 (e3 x) → Ev tk ((((wipe σ vs).set j1 (some v1)).set j2 (some v2)).set j3 (some v3)) H1 (kV (key x)) ∧ Ev tv ((((wipe σ vs).set j1 (some v1)).set j2 (some v2)).set j3 (some v3)) H1 (val x)) :
    EvK (tDc wi (gTup K 3 (gCons (gName j1) (gCons (gName j2) (gCons (gName j3) gNil)))) tYes tk tv vs) σ H (xs.foldl (fun acc x => putK acc (key x) (val x)) []) :=
  k_dcG hs tgt_three (fun x H1 σ2 ⟨v1, v2, v3, _, _, _, e⟩ => by rw [e]; exact hw v1 v2 v3) hz fun x hx σ2 H1 a ⟨v1, v2, v3, r1, r2, r3, e⟩ => by rw [e]; exact hel x hx v1 v2 v3 H1 a r1 r2 r3
theorem d_lenK {te : TE} {kvs : List (Key × V)} (h : EvK te σ H kvs) : Evd K (tCB (fun xs H Q => ∃ a kvs, xs = [V.ref a] ∧ H a = some (.dK kvs) ∧ Q (.int kvs.length) H) (tCons te tNil)) σ H (.int (kvs.length : Int)) := fun H1 a Q k =>
  h H1 a _ fun p H2 _ q2 h2 => ⟨p, kvs, rfl, h2, k _ H2 q2 (.int _)⟩
theorem foldl_new {α : Type} {key : α → Key} {val : α → V} : ∀ {xs : List α} {acc : List (Key × V)}, (xs.map key).Nodup → (∀ x ∈ xs, valV acc (key x) = none) → xs.foldl (fun acc x => putK acc (key x) (val x)) acc = acc ++ xs.map fun x => (key x, val x)
  | [], acc, _, _ => by simp
  | a :: r, acc, hn, h => by
    rw [List.map_cons, List.nodup_cons] at hn
    rw [List.foldl_cons, putK_new _ (h a (List.mem_cons_self ..)), foldl_new hn.2 fun x hx => ?_]
    · simp
    · rw [valV_snoc _ _ _ _ (h a (List.mem_cons_self ..)), if_neg (fun e => hn.1 (List.mem_map.mpr ⟨x, hx, e⟩))]
      exact h x (List.mem_cons_of_mem _ hx)
end
/-! ### objects: a scheme -/
def SchF (s : Sch) (ek ev : V) : List (Sx × V) := [("kinds", ek), ("room", .int (s.room : Int)), ("way", .int (s.way : Int)), ("events", ev)]
def evD (s : Sch) : PD := .tuple [.bool s.others, .bool s.losses, .bool s.doubles, .bool s.refusals, .bool s.reloads]
def kindsD (s : Sch) : PD := .tuple ((s.kinds.map Ed.s).map .str)
def SchOk (s : Sch) : Prop := (s.kinds = [.up] ∨ s.kinds = [.nil] ∨ s.kinds = [.up, .nil]) ∧ (s.room = 1 ∨ s.room = 2) ∧ (s.way = 1 ∨ s.way = 2)
structure SchAt (K : PySem.W.Frag) (H : Hp) (x : Addr) (s : Sch) : Prop where
  ok : SchOk s
  ob : ∃ dx ek ev, H x = some (.ins (He.ga K "Scheme") dx (SchF s ek ev)) ∧ Dp K H ek (kindsD s) ∧ Dp K H ev (evD s)
theorem SchAt.ex {K : PySem.W.Frag} {H H' : Hp} {x : Addr} {s : Sch} (h : SchAt K H x s) (e : Ex H H') : SchAt K H' x s := by
  obtain ⟨ok, dx, ek, ev, h1, h2, h3⟩ := h
  exact ⟨ok, dx, ek, ev, e x _ h1, h2.ex e, h3.ex e⟩
/-- reading a field -/
theorem d_fldG {K : PySem.W.Frag} {σ : L2.St} {H : Hp} {ta : TE} {p C dx : Addr} {fs : List (Sx × V)} {f : Sx} {v : V} {d : PD} (ha : Ev ta σ H (.ref p)) (ho : H p = some (.ins C dx fs)) (c : Cls K C) (n : NoAttr K C f) (l : fs.lookup f = some v) (r : Dp K H v d) : Evd K (tFld K ta f) σ H d := fun H1 a Q k =>
  ha H1 a _ fun H2 q2 => ⟨p, C, dx, fs, v, rfl, q2 p _ (a p _ ho), c, n, l, k v H2 q2 (r.ex (a.trans q2))⟩
theorem v_fldG {K : PySem.W.Frag} {σ : L2.St} {H : Hp} {ta : TE} {p C dx : Addr} {fs : List (Sx × V)} {f : Sx} {v : V} (ha : Ev ta σ H (.ref p)) (ho : H p = some (.ins C dx fs)) (c : Cls K C) (n : NoAttr K C f) (l : fs.lookup f = some v) : Ev (tFld K ta f) σ H v := fun H1 a Q k =>
  ha H1 a _ fun H2 q2 => ⟨p, C, dx, fs, v, rfl, q2 p _ (a p _ ho), c, n, l, k H2 q2⟩
section
variable {K : PySem.W.Frag} {mg : Sx → Option Value} {σ : L2.St} {H : Hp} {ta : TE} {x : Addr} {s : Sch}
theorem d_kinds (T : Tx K mg) (ha : Ev ta σ H (.ref x)) (h : SchAt K H x s) : Evd K (tFld K ta "kinds") σ H (kindsD s) := by
  obtain ⟨ok, dx, ek, ev, h1, h2, h3⟩ := h
  exact d_fldG ha h1 (cl_Scheme T) (na_Scheme_kinds T) (by rfl) h2
theorem d_room (T : Tx K mg) (ha : Ev ta σ H (.ref x)) (h : SchAt K H x s) : Evd K (tFld K ta "room") σ H (.int (s.room : Int)) := by
  obtain ⟨ok, dx, ek, ev, h1, h2, h3⟩ := h
  exact d_fldG ha h1 (cl_Scheme T) (na_Scheme_room T) (by rfl) (.int _)
theorem d_way (T : Tx K mg) (ha : Ev ta σ H (.ref x)) (h : SchAt K H x s) : Evd K (tFld K ta "way") σ H (.int (s.way : Int)) := by
  obtain ⟨ok, dx, ek, ev, h1, h2, h3⟩ := h
  exact d_fldG ha h1 (cl_Scheme T) (na_Scheme_way T) (by rfl) (.int _)
theorem d_events (T : Tx K mg) (ha : Ev ta σ H (.ref x)) (h : SchAt K H x s) : Evd K (tFld K ta "events") σ H (evD s) := by
  obtain ⟨ok, dx, ek, ev, h1, h2, h3⟩ := h
  exact d_fldG ha h1 (cl_Scheme T) (na_Scheme_events T) (by rfl) h3
end
/-! ### promises -/
def kinds3 (ks : List Sx) : Prop := ks = (["up"] : List Sx) ∨ ks = (["nil"] : List Sx) ∨ ks = (["up", "nil"] : List Sx)
def sp_are_edits (K : PySem.W.Frag) : Sp := spP K fun _ as r => ∃ ks, as = [.dat (.tuple (ks.map .str))] ∧ kinds3 ks ∧ r = .bool true
def CaresOk (cs : List Sx) : Prop := (∀ c ∈ cs, c ∈ cares9) ∧ cs.Nodup
/-- a list or a tuple of cares -/
def carD (e : PD) (cs : List Sx) : Prop := e = .list (cs.map .str) ∨ e = .tuple (cs.map .str)
def sp_are_cares (K : PySem.W.Frag) : Sp := spP K fun _ as r => ∃ e cs, as = [.dat e] ∧ carD e cs ∧ CaresOk cs ∧ r = .bool true
def sp_check_cares (K : PySem.W.Frag) : Sp := spP K fun _ as r => ∃ e cs, as = [.dat e] ∧ carD e cs ∧ CaresOk cs ∧ r = .none
def inOrder (cs : List Sx) : List Sx := cares9.filter fun c => decide (c ∈ cs)
def sp_in_order (K : PySem.W.Frag) : Sp := spP K fun _ as r => ∃ e cs, as = [.dat e] ∧ carD e cs ∧ r = .tuple ((inOrder cs).map .str)
def sp_check_scheme (K : PySem.W.Frag) : Sp := spP K fun H as r => ∃ x s, as = [.val (.ref x)] ∧ SchAt K H x s ∧ r = .none
def sp_check_both (K : PySem.W.Frag) : Sp := spP K fun H as r => ∃ x s e cs, as = [.val (.ref x), .dat e] ∧ SchAt K H x s ∧ carD e cs ∧ CaresOk cs ∧ r = .none
def sp_edited (K : PySem.W.Frag) : Sp := spP K fun _ as r => ∃ n e, as = [.dat (.int n), .dat (.str (Ed.s e))] ∧ r = .int (edited n e)
section
variable {P : Program} {w : World} {K : PySem.W.Frag} {mg : PySem.Str → Option Value} {base : Heap}
abbrev nm_are_edits : List PySem.Str := ["value", "one"]
theorem sc_are_edits : FnScope nm_are_edits ["value"] (defScope s_are_edits) := ⟨rfl, rfl, rfl, by decide +kernel, rfl, by decide +kernel, by decide +kernel⟩
theorem ok_are_edits (T : Tx K mg) : FR P w K mg base 2 "are_edits" (sp_are_edits K) := by
  refine fr_of (k := 1) (N := nm_are_edits) (ps := ["value"]) (gl_are_edits T) (T.c.d.def_ 2 (d := d_are_edits)) sc_are_edits (fun _ _ _ _ _ _ us hl => match us, hl with | [_], _ => rfl) (fun vs H Q E h => ?_) (fun cdv A outer s H vs Q E hr h => ?_)
  · obtain ⟨as, r, hA, ⟨ks, rfl, hk, rfl⟩, k⟩ := h
    exact hA.length
  · obtain ⟨as, r, hA, ⟨ks, rfl, hk, rfl⟩, k⟩ := h
    obtain ⟨v0, _, rfl, r0, rfl⟩ := hA
    refine ⟨_, (pss_cons (ps_if (PW.pt (pw_or (pt_not (pt_val (pe_callB (call_isiK1 (K := K) rfl) (by rfl) (fr_isinstance T) (by decide +kernel) (pa_cons (pv 0) (pa_cons (pe_bltn (v := .ty "tuple") (u := .type "tuple") rfl (fr_tuple T) (by decide +kernel) rfl) pa_nil))))) (pw_or (pt_cmpR (op_eqK (K := K) rfl hr.units) (pv 0) (pe_tup pa_nil) (nomark _)) (pw_or1 (pt_not (pt_val (pe_callB (cr_allK (K := K) rfl) (by rfl) (fr_all T) (by decide +kernel) (pa_cons (pe_lc (own := [("one", 1)]) rfl sc_are_edits.nd (pi_tupK (K := K) rfl (pv 0)) (blkOk_by (own := [("one", 1)]) (N := nm_are_edits) (sc := defScope s_are_edits) (by decide +kernel)) (fun _ _ _ _ _ => (pg_name (i := 1) sc_are_edits.nd rfl (Or.inl rfl))) (fun _ _ _ _ _ => pts_nil) (fun _ _ _ _ _ => (pe_cR (ok_is_word T) hr (by rfl) (pa_cons (pv 1) (pa_cons (pe_gref (gl_EDITS T) rfl) pa_nil))))) pa_nil)))))))) (pss_one (ps_ret pe_bl)) pss_nil)
      (pss_one (ps_ret (pe_cmpR (op_eqK (K := K) rfl hr.units) (pe_callTy (call_tupleK (K := K) rfl) (by rfl) (fr_tuple T) (by decide +kernel) (pa_cons (pe_lc (own := [("one", 1)]) rfl sc_are_edits.nd (pi_tupK (K := K) rfl (pe_gref (gl_EDITS T) rfl)) (blkOk_by (own := [("one", 1)]) (N := nm_are_edits) (sc := defScope s_are_edits) (by decide +kernel)) (fun _ _ _ _ _ => (pg_name (i := 1) sc_are_edits.nd rfl (Or.inl rfl))) (fun _ _ _ _ _ => (pts_one (pt_cmpR (op_inK (K := K) rfl) (pv 1) (pv 0) (by rfl)))) (fun _ _ _ _ _ => (pv 1))) pa_nil)) (pv 0) (nomark _))))), ?_⟩
    have hm : ∀ s ∈ ks, s ∈ edits2 := by rcases hk with rfl | rfl | rfl <;> decide +kernel
    have hI : ∀ x ∈ ks, Imm (.bool (isWord (.str x) edits2)) = true := fun _ _ => rfl
    refine q_when (b := false) (et_or (a := false) (b := false) (et_not (a := true) (t_B (d_isi (d_var rfl r0) (kb_tuple _)))) fun _ => et_or (a := false) (b := false) (evt_to (t_test (d_eq (d_var rfl r0) (d_tup e_nil) (sh_edits hm).ok (by decide +kernel))) ?_) fun _ => et_not (a := true) (evt_to (t_B (d_all (bs := ks.map fun s => isWord (.str s) edits2) (Evd.to (Evn.evd (n_map (xs := ks) (enc := .str) (f := fun s => .bool (isWord (.str s) edits2)) (src_tup (d_var rfl r0)) (fun _ => rfl) hI ?_ ?_)) ?_))) ?_)) (fun z => nomatch z) fun _ H1 e1 => ?_
    · rcases hk with rfl | rfl | rfl <;> rfl
    · rcases hk with rfl | rfl | rfl <;> decide
    · exact fun x hx v H1 e r => d_call (a_cons (d_var rfl r) (a_cons (d_EDITS T) a_nil)) fun _ _ => ⟨_, edits2, rfl, rfl, rfl⟩
    · rw [List.map_map]
      rfl
    · rcases hk with rfl | rfl | rfl <;> decide +kernel
    · refine s_retD (Evd.to (d_eq (d_tupL (n_lc (xs := edits2) (enc := .str) (p := fun s => decide (s ∈ ks)) (f := .str) (src_tup (d_EDITS T)) (fun _ => rfl) (fun _ _ => rfl) (by decide) ?_).evd) (d_var rfl (r0.ex e1)) ?_ (sh_edits hm).ok) ?_) fun v H2 e2 r2 => k v H2 (e1.trans e2) r2
      · exact fun x hx v H2 e r => ⟨t_test (d_inS (d_var rfl r) (d_var rfl ((r0.ex e1).ex e)) (.inr rfl)), fun _ => d_var rfl r⟩
      · exact (sh_edits fun s hs => (List.mem_filter.mp hs).1).ok
      · rcases hk with rfl | rfl | rfl <;> exact congrArg _ (by decide +kernel)
abbrev nm_are_cares : List PySem.Str := ["value", "care"]
theorem sc_are_cares : FnScope nm_are_cares ["value"] (defScope s_are_cares) := ⟨rfl, rfl, rfl, by decide +kernel, rfl, by decide +kernel, by decide +kernel⟩
theorem ok_are_cares (T : Tx K mg) : FR P w K mg base 2 "are_cares" (sp_are_cares K) := by
  refine fr_of (k := 1) (N := nm_are_cares) (ps := ["value"]) (gl_are_cares T) (T.c.d.def_ 5 (d := d_are_cares)) sc_are_cares (fun _ _ _ _ _ _ us hl => match us, hl with | [_], _ => rfl) (fun vs H Q E h => ?_) (fun cdv A outer s H vs Q E hr h => ?_)
  · obtain ⟨as, r, hA, ⟨e, cs, rfl, hc, hk, rfl⟩, k⟩ := h
    exact hA.length
  · obtain ⟨as, r, hA, ⟨e, cs, rfl, hc, hk, rfl⟩, k⟩ := h
    obtain ⟨v0, _, rfl, r0, rfl⟩ := hA
    refine ⟨_, (pss_cons (ps_if (PW.pt (pw_or (pt_not (pt_val (pe_callB (call_isiTK (K := K) rfl) (by rfl) (fr_isinstance T) (by decide +kernel) (pa_cons (pv 0) (pa_cons (pe_tup (pa_cons (pe_bltn (v := .ty "list") (u := .type "list") rfl (fr_list T) (by decide +kernel) rfl) (pa_cons (pe_bltn (v := .ty "tuple") (u := .type "tuple") rfl (fr_tuple T) (by decide +kernel) rfl) pa_nil))) pa_nil))))) (pw_or1 (pt_not (pt_val (pe_callB (cr_allK (K := K) rfl) (by rfl) (fr_all T) (by decide +kernel) (pa_cons (pe_lc (own := [("care", 1)]) rfl sc_are_cares.nd (pi_seqK (K := K) rfl (pv 0)) (blkOk_by (own := [("care", 1)]) (N := nm_are_cares) (sc := defScope s_are_cares) (by decide +kernel)) (fun _ _ _ _ _ => (pg_name (i := 1) sc_are_cares.nd rfl (Or.inl rfl))) (fun _ _ _ _ _ => pts_nil) (fun _ _ _ _ _ => (pe_cR (ok_is_word T) hr (by rfl) (pa_cons (pv 1) (pa_cons (pe_gref (gl_ALL_CARES T) rfl) pa_nil))))) pa_nil))))))) (pss_one (ps_ret pe_bl)) pss_nil)
      (pss_one (ps_ret (pe_cmpR op_eq (pe_callB call_lenD (by rfl) (fr_len T) (by decide +kernel) (pa_cons (pe_dc (own := [("care", 1)]) rfl sc_are_cares.nd (pi_seqK (K := K) rfl (pv 0)) (blkOk_by (own := [("care", 1)]) (N := nm_are_cares) (sc := defScope s_are_cares) (by decide +kernel)) (fun _ _ _ _ _ => (pg_name (i := 1) sc_are_cares.nd rfl (Or.inl rfl))) (fun _ _ _ _ _ => pts_nil) (fun _ _ _ _ _ => (pv 1)) (fun _ _ _ _ _ => pe_bl)) pa_nil)) (pe_callB (call_lenK (K := K) rfl) (by rfl) (fr_len T) (by decide +kernel) (pa_cons (pv 0) pa_nil)) (nomark _))))), ?_⟩
    have hty : (t_list e || t_tuple e) = true := by rcases hc with rfl | rfl <;> rfl
    have hlen : cs.length ≤ 40000 := by
      have h1 := List.Nodup.length_le_of_subset hk.2 (l₂ := cares9) fun x hx => hk.1 x hx
      exact Nat.le_trans h1 (by decide)
    refine q_when (b := false) (et_or (a := false) (b := false) (et_not (a := true) (evt_to (t_B (d_isi2 (d_var rfl r0) (kb_list e) (kb_tuple e))) hty)) fun _ => et_not (a := true) (evt_to (t_B (d_all (bs := cs.map fun s => isWord (.str s) cares9) (Evd.to (Evn.evd (n_map (xs := cs) (enc := .str) (f := fun s => .bool (isWord (.str s) cares9)) (src_seq (d_var rfl r0) hc) (fun _ => rfl) (fun _ _ => rfl) hlen ?_)) ?_))) ?_)) (fun z => nomatch z) fun _ H1 e1 => ?_
    · exact fun x hx v H1 e r => d_call (a_cons (d_var rfl r) (a_cons (d_ALL T) a_nil)) fun _ _ => ⟨_, cares9, rfl, rfl, rfl⟩
    · rw [List.map_map]
      rfl
    · rw [List.all_map, List.all_eq_true]
      exact fun c hx => decide_eq_true (hk.1 c hx)
    · have hnd : (cs.map fun c => (Sum.inr c : Key)).Nodup := by
        refine List.Pairwise.map _ (fun a b h e => h (Sum.inr.inj e)) hk.2
      refine s_retD (Evd.to (d_eqInt (d_lenK (k_dc (xs := cs) (enc := .str) (key := fun c => Sum.inr c) (val := fun _ => .bl true) (src_seq (d_var rfl (r0.ex e1)) hc) (fun _ => rfl) hlen ?_)) (d_lenS (ds := cs.map .str) (d_var rfl (r0.ex e1)) hc)) ?_) fun v H2 e2 r2 => k v H2 (e1.trans e2) r2
      · exact fun x hx v H2 e r => ⟨(d_var rfl r).str, ev_c⟩
      · rw [foldl_new hnd fun _ _ => rfl]
        simp
abbrev nm_check_cares : List PySem.Str := ["cares"]
theorem sc_check_cares : FnScope nm_check_cares ["cares"] (defScope s_check_cares) := ⟨rfl, rfl, rfl, by decide +kernel, rfl, by decide +kernel, by decide +kernel⟩
theorem ok_check_cares (T : Tx K mg) : FR P w K mg base 3 "check_cares" (sp_check_cares K) := by
  refine fr_of (k := 2) (N := nm_check_cares) (ps := ["cares"]) (gl_check_cares T) (T.c.d.def_ 6 (d := d_check_cares)) sc_check_cares (fun _ _ _ _ _ _ us hl => match us, hl with | [_], _ => rfl) (fun vs H Q E h => ?_) (fun cdv A outer s H vs Q E hr h => ?_)
  · obtain ⟨as, r, hA, ⟨e, cs, rfl, hc, hk, rfl⟩, k⟩ := h
    exact hA.length
  · obtain ⟨as, r, hA, ⟨e, cs, rfl, hc, hk, rfl⟩, k⟩ := h
    obtain ⟨v0, _, rfl, r0, rfl⟩ := hA
    refine ⟨_, (pss_one (ps_if (pt_not (pt_val (pe_cR (ok_are_cares T) hr (by rfl) (pa_cons (pv 0) pa_nil)))) (pss_one ps_never) pss_nil)), ?_⟩
    exact s_when (b := false) (et_not (a := true) (t_B (d_call (a_cons (d_var rfl r0) a_nil) fun _ _ => ⟨e, cs, rfl, hc, hk, rfl⟩))) (fun z => nomatch z) fun _ H1 e1 => k .non H1 e1 .non
abbrev nm_in_order : List PySem.Str := ["cares", "care"]
theorem sc_in_order : FnScope nm_in_order ["cares"] (defScope s_in_order) := ⟨rfl, rfl, rfl, by decide +kernel, rfl, by decide +kernel, by decide +kernel⟩
theorem ok_in_order (T : Tx K mg) : FR P w K mg base 1 "in_order" (sp_in_order K) := by
  refine fr_of (k := 0) (N := nm_in_order) (ps := ["cares"]) (gl_in_order T) (T.c.d.def_ 7 (d := d_in_order)) sc_in_order (fun _ _ _ _ _ _ us hl => match us, hl with | [_], _ => rfl) (fun vs H Q E h => ?_) (fun cdv A outer s H vs Q E hr h => ?_)
  · obtain ⟨as, r, hA, ⟨e, cs, rfl, hc, rfl⟩, k⟩ := h
    exact hA.length
  · obtain ⟨as, r, hA, ⟨e, cs, rfl, hc, rfl⟩, k⟩ := h
    obtain ⟨v0, _, rfl, r0, rfl⟩ := hA
    refine ⟨_, (pss_one (ps_ret (pe_callTy (call_tupleK (K := K) rfl) (by rfl) (fr_tuple T) (by decide +kernel) (pa_cons (pe_lc (own := [("care", 1)]) rfl sc_in_order.nd (pi_tupK (K := K) rfl (pe_gref (gl_ALL_CARES T) rfl)) (blkOk_by (own := [("care", 1)]) (N := nm_in_order) (sc := defScope s_in_order) (by decide +kernel)) (fun _ _ _ _ _ => (pg_name (i := 1) sc_in_order.nd rfl (Or.inl rfl))) (fun _ _ _ _ _ => (pts_one (pt_cmpR (op_inK (K := K) rfl) (pv 1) (pv 0) (by rfl)))) (fun _ _ _ _ _ => (pv 1))) pa_nil)))), ?_⟩
    exact s_retD (d_tupL (n_lc (xs := cares9) (enc := .str) (p := fun s => decide (s ∈ cs)) (f := .str) (src_tup (d_ALL T)) (fun _ => rfl) (fun _ _ => rfl) (by decide) fun x hx v H2 e r => ⟨t_test (d_inS (d_var rfl r) (d_var rfl (Dp.ex r0 e)) hc), fun _ => d_var rfl r⟩).evd) k
theorem isScheme {mg : PySem.Str → Option Value} (T : Tx K mg) {σ : L2.St} {H : Hp} {x : Addr} {s : Sch} {ta tb : TE} (ha : Ev ta σ H (.ref x)) (hb : Ev tb σ H (.ref (He.ga K "Scheme"))) (hs : SchAt K H x s) : Evd K (tCB (rIsi K) (tCons ta (tCons tb tNil))) σ H (.bool true) := fun H1 a Q k =>
  ha H1 a _ fun H2 q2 => hb H2 (a.trans q2) _ fun H3 q3 => by
    obtain ⟨ok, dx, ek, ev, h1, h2, h3⟩ := hs.ex ((a.trans q2).trans q3)
    have m := (He.ba (He.ba (He.ba T.c.more).2).2).1
    obtain ⟨m1, m⟩ := He.ba m
    obtain ⟨m2, m⟩ := He.ba m
    obtain ⟨m3, m⟩ := He.ba m
    obtain ⟨m4, m5⟩ := He.ba m
    exact ⟨.ref x, .ref (He.ga K "Scheme"), _, _, true, rfl, .own _, .base (.ins h1 (cl_Scheme T) (He.eqO_ok m2) (He.eqO_ok m3) (of_decide_eq_true m4) (of_decide_eq_true m5)), of_decide_eq_true m1, k _ H3 (q2.trans q3) (.bl _)⟩
abbrev nm_check_scheme : List PySem.Str := ["scheme"]
theorem sc_check_scheme : FnScope nm_check_scheme ["scheme"] (defScope s_check_scheme) := ⟨rfl, rfl, rfl, by decide +kernel, rfl, by decide +kernel, by decide +kernel⟩
theorem ok_check_scheme (T : Tx K mg) : FR P w K mg base 3 "check_scheme" (sp_check_scheme K) := by
  refine fr_of (k := 2) (N := nm_check_scheme) (ps := ["scheme"]) (gl_check_scheme T) (T.c.d.def_ 4 (d := d_check_scheme)) sc_check_scheme (fun _ _ _ _ _ _ us hl => match us, hl with | [_], _ => rfl) (fun vs H Q E h => ?_) (fun cdv A outer s H vs Q E hr h => ?_)
  · obtain ⟨as, r, hA, ⟨x, sc, rfl, hs, rfl⟩, k⟩ := h
    exact hA.length
  · obtain ⟨as, r, hA, ⟨x, sc, rfl, hs, rfl⟩, k⟩ := h
    obtain ⟨v0, _, rfl, rfl, rfl⟩ := hA
    refine ⟨_, (pss_one (ps_if (pt_not (pt_val (pe_callB (call_isiK1 (K := K) rfl) (by rfl) (fr_isinstance T) (by decide +kernel) (pa_cons (pv 0) (pa_cons (pe_gref (gl_Scheme T) rfl) pa_nil))))) (pss_one ps_never) pss_nil)), ?_⟩
    exact s_when (b := false) (et_not (a := true) (t_B (isScheme T (ev_var rfl) ev_c hs))) (fun z => nomatch z) fun _ H1 e1 => k .non H1 e1 .non
abbrev nm_check_both : List PySem.Str := ["scheme", "cares"]
theorem sc_check_both : FnScope nm_check_both ["scheme", "cares"] (defScope s_check_both) := ⟨rfl, rfl, rfl, by decide +kernel, rfl, by decide +kernel, by decide +kernel⟩
theorem ok_check_both (T : Tx K mg) : FR P w K mg base 4 "check_both" (sp_check_both K) := by
  refine fr_of (k := 3) (N := nm_check_both) (ps := ["scheme", "cares"]) (gl_check_both T) (T.c.d.def_ 8 (d := d_check_both)) sc_check_both (fun _ _ _ _ _ _ us hl => match us, hl with | [_, _], _ => rfl) (fun vs H Q E h => ?_) (fun cdv A outer s H vs Q E hr h => ?_)
  · obtain ⟨as, r, hA, ⟨x, sc, e, cs, rfl, hs, hc, hk, rfl⟩, k⟩ := h
    exact hA.length
  · obtain ⟨as, r, hA, ⟨x, sc, e, cs, rfl, hs, hc, hk, rfl⟩, k⟩ := h
    obtain ⟨v0, _, rfl, rfl, v1, _, rfl, r1, rfl⟩ := hA
    refine ⟨_, (pss_cons (ps_expr (pe_cR (ok_check_scheme T) hr (by rfl) (pa_cons (pv 0) pa_nil)))
      (pss_one (ps_expr (pe_cR (ok_check_cares T) hr (by rfl) (pa_cons (pv 1) pa_nil))))), ?_⟩
    refine q_dropD (d_call (a_consV (ev_var rfl) a_nil) fun H1 e1 => ⟨x, sc, rfl, hs.ex e1, rfl⟩) fun _ H1 e1 _ => ?_
    exact s_dropD (d_call (a_cons (d_var rfl (Dp.ex r1 e1)) a_nil) fun _ _ => ⟨e, cs, rfl, hc, hk, rfl⟩) fun _ H2 e2 _ => k .non H2 (e1.trans e2) .non
abbrev nm_edited : List PySem.Str := ["number", "edit"]
theorem sc_edited : FnScope nm_edited ["number", "edit"] (defScope s_edited) := ⟨rfl, rfl, rfl, by decide +kernel, rfl, by decide +kernel, by decide +kernel⟩
theorem ok_edited (T : Tx K mg) : FR P w K mg base 1 "edited" (sp_edited K) := by
  refine fr_of (k := 0) (N := nm_edited) (ps := ["number", "edit"]) (gl_edited T) (T.c.d.def_ 9 (d := d_edited)) sc_edited (fun _ _ _ _ _ _ us hl => match us, hl with | [_, _], _ => rfl) (fun vs H Q E h => ?_) (fun cdv A outer s H vs Q E hr h => ?_)
  · obtain ⟨as, r, hA, ⟨n, e, rfl, rfl⟩, k⟩ := h
    exact hA.length
  · obtain ⟨as, r, hA, ⟨n, e, rfl, rfl⟩, k⟩ := h
    obtain ⟨v0, _, rfl, r0, v1, _, rfl, r1, rfl⟩ := hA
    refine ⟨_, (pss_one (ps_ret (pe_ifExp (pt_cmpR op_eq (pv 1) pe_str (nomark _)) (pe_op op_mod (pe_op op_add (pv 0) pe_int) (pe_gint (it_VALUES T) rfl)) pe_int))), ?_⟩
    refine s_retD (Evd.to (d_if (d := .int ((n + 1) % 2)) (e := .int 0) (t_test (d_eqStr (d_var rfl r1) d_str)) (fun _ => ?_) fun _ => d_int) ?_) k
    · exact d_I (d_add (d_var rfl r0) d_int) d_int (by decide) fun _ => .int _
    · cases e with
      | up => rfl
      | nil =>
        have h : decide (Ed.nil.s = "up") = false := by decide +kernel
        rw [h]
        rfl
end
end Sc


/-! Sc6: machines as objects; what is only read. -/
namespace Sc
open PySem PySem.Spec PyProof.Rows L2 Evl
/-! ### a machine at an address -/
structure Own where
  dx : Addr
  rows : Addr
  post : Addr
  fates : Addr
  passed : Addr
  trail : Addr
  plan : Addr
  given : V
  seen : V
  fin : V
def MF (o : Own) (m : M) : List (Sx × V) := [("plan", .ref o.plan), ("given", o.given), ("stored", .int m.stored), ("written", .int m.written), ("seen", o.seen), ("rows", .ref o.rows), ("post", .ref o.post), ("fates", .ref o.fates), ("passed", .ref o.passed), ("made", .int m.made), ("end", o.fin), ("trail", .ref o.trail)]
def fatesK (l : List (Int × Fate)) : List (Key × V) := l.map fun p => (Sum.inl p.1, p.2.v)
def passedK (n : Nat) : List (Key × V) := (List.range n).map fun (i : Nat) => (Sum.inl (i : Int), .bl true)
structure Bd (m : M) : Prop where
  r : m.rows.length ≤ 1000
  p : m.post.length ≤ 1000
  f : m.fates.length ≤ 1000
  a : m.passed ≤ 1000
  m : m.made ≤ 1000
structure MAt (K : PySem.W.Frag) (H : Hp) (p : Addr) (s : Sch) (cs : List Sx) (m : M) (o : Own) : Prop where
  ob : H p = some (.ins (He.ga K "Machine") o.dx (MF o m))
  plan : SchAt K H o.plan s
  given : Dp K H o.given (.tuple (cs.map .str))
  seen : Dp K H o.seen (.tuple [.int m.seenV, .int m.seenN])
  rows : ∃ vs, H o.rows = some (.lst vs) ∧ DpAll K H vs (m.rows.map Row.d)
  post : ∃ vs, H o.post = some (.lst vs) ∧ DpAll K H vs (m.post.map Letter.d)
  fates : H o.fates = some (.dK (fatesK m.fates))
  passed : H o.passed = some (.dK (passedK m.passed))
  fin : Dp K H o.fin (failD m.fin)
  trail : ∃ vs, H o.trail = some (.lst vs) ∧ vs.length = m.trail
  bd : Bd m
def MachP (K : PySem.W.Frag) (H : Hp) (p : Addr) (s : Sch) (cs : List Sx) (m : M) : Prop := ∃ o, MAt K H p s cs m o
theorem MAt.ex {K : PySem.W.Frag} {H H' : Hp} {p : Addr} {s : Sch} {cs : List Sx} {m : M} {o : Own} (h : MAt K H p s cs m o) (e : Ex H H') : MAt K H' p s cs m o := by
  obtain ⟨h1, h2, h3, h4, ⟨v5, h5, g5⟩, ⟨v6, h6, g6⟩, h7, h8, h9, ⟨v10, h10, g10⟩, h11⟩ := h
  exact ⟨e p _ h1, h2.ex e, h3.ex e, h4.ex e, ⟨v5, e _ _ h5, g5.ex e⟩, ⟨v6, e _ _ h6, g6.ex e⟩, e _ _ h7, e _ _ h8, h9.ex e, ⟨v10, e _ _ h10, g10⟩, h11⟩
theorem MachP.ex {K : PySem.W.Frag} {H H' : Hp} {p : Addr} {s : Sch} {cs : List Sx} {m : M} (h : MachP K H p s cs m) (e : Ex H H') : MachP K H' p s cs m := let ⟨o, h⟩ := h; ⟨o, h.ex e⟩
section
variable {K : PySem.W.Frag} {mg : Sx → Option Value} {σ : L2.St} {H : Hp} {ta : TE} {p : Addr} {s : Sch} {cs : List Sx} {m : M} {o : Own}
theorem v_plan (T : Tx K mg) (ha : Ev ta σ H (.ref p)) (h : MAt K H p s cs m o) : Ev (tFld K ta "plan") σ H (.ref o.plan) := v_fldG ha h.ob (cl_Machine T) (na_Machine_plan T) (by rfl)
theorem d_given (T : Tx K mg) (ha : Ev ta σ H (.ref p)) (h : MAt K H p s cs m o) : Evd K (tFld K ta "given") σ H (.tuple (cs.map .str)) := d_fldG ha h.ob (cl_Machine T) (na_Machine_given T) (by rfl) h.given
theorem d_stored (T : Tx K mg) (ha : Ev ta σ H (.ref p)) (h : MAt K H p s cs m o) : Evd K (tFld K ta "stored") σ H (.int m.stored) := d_fldG ha h.ob (cl_Machine T) (na_Machine_stored T) (by rfl) (.int _)
theorem d_written (T : Tx K mg) (ha : Ev ta σ H (.ref p)) (h : MAt K H p s cs m o) : Evd K (tFld K ta "written") σ H (.int m.written) := d_fldG ha h.ob (cl_Machine T) (na_Machine_written T) (by rfl) (.int _)
theorem d_seen (T : Tx K mg) (ha : Ev ta σ H (.ref p)) (h : MAt K H p s cs m o) : Evd K (tFld K ta "seen") σ H (.tuple [.int m.seenV, .int m.seenN]) := d_fldG ha h.ob (cl_Machine T) (na_Machine_seen T) (by rfl) h.seen
theorem d_rows (T : Tx K mg) (ha : Ev ta σ H (.ref p)) (h : MAt K H p s cs m o) : Evd K (tFld K ta "rows") σ H (.list (m.rows.map Row.d)) := d_fldG ha h.ob (cl_Machine T) (na_Machine_rows T) (by rfl) (let ⟨vs, h1, h2⟩ := h.rows; .lst (sq_of h1) h2)
theorem v_rows (T : Tx K mg) (ha : Ev ta σ H (.ref p)) (h : MAt K H p s cs m o) : Ev (tFld K ta "rows") σ H (.ref o.rows) := v_fldG ha h.ob (cl_Machine T) (na_Machine_rows T) (by rfl)
theorem d_post (T : Tx K mg) (ha : Ev ta σ H (.ref p)) (h : MAt K H p s cs m o) : Evd K (tFld K ta "post") σ H (.list (m.post.map Letter.d)) := d_fldG ha h.ob (cl_Machine T) (na_Machine_post T) (by rfl) (let ⟨vs, h1, h2⟩ := h.post; .lst (sq_of h1) h2)
theorem v_fates (T : Tx K mg) (ha : Ev ta σ H (.ref p)) (h : MAt K H p s cs m o) : Ev (tFld K ta "fates") σ H (.ref o.fates) := v_fldG ha h.ob (cl_Machine T) (na_Machine_fates T) (by rfl)
theorem v_passed (T : Tx K mg) (ha : Ev ta σ H (.ref p)) (h : MAt K H p s cs m o) : Ev (tFld K ta "passed") σ H (.ref o.passed) := v_fldG ha h.ob (cl_Machine T) (na_Machine_passed T) (by rfl)
theorem d_made (T : Tx K mg) (ha : Ev ta σ H (.ref p)) (h : MAt K H p s cs m o) : Evd K (tFld K ta "made") σ H (.int m.made) := d_fldG ha h.ob (cl_Machine T) (na_Machine_made T) (by rfl) (.int _)
theorem d_end (T : Tx K mg) (ha : Ev ta σ H (.ref p)) (h : MAt K H p s cs m o) : Evd K (tFld K ta "end") σ H (failD m.fin) := d_fldG ha h.ob (cl_Machine T) (na_Machine_end T) (by rfl) h.fin
theorem v_trail (T : Tx K mg) (ha : Ev ta σ H (.ref p)) (h : MAt K H p s cs m o) : Ev (tFld K ta "trail") σ H (.ref o.trail) := v_fldG ha h.ob (cl_Machine T) (na_Machine_trail T) (by rfl)
end
/-! ### shapes of words -/
theorem ok_Ed (e : Ed) : PyData.strOk e.s = true := by cases e <;> decide +kernel
theorem ok_FW (e : FW) : PyData.strOk e.s = true := by cases e <;> decide +kernel
theorem ok_Pl (e : Pl) : PyData.strOk e.s = true := by cases e <;> decide +kernel
theorem ok_LW (e : LW) : PyData.strOk e.s = true := by cases e <;> decide +kernel
theorem sh_Mark (k : Mark) : Sh 0 k.d := by cases k <;> first | exact Sh.int | exact Sh.str (by decide +kernel)
theorem sh_Fate (k : Fate) : Sh 0 k.d := by cases k <;> first | exact Sh.int | exact Sh.str (by decide +kernel)
theorem sh3 {n : Nat} {a b c : PD} (h1 : Sh n a) (h2 : Sh n b) (h3 : Sh n c) : Sh (n + 1) (.tuple [a, b, c]) := Sh.tup fun d hd => by
  simp only [List.mem_cons, List.not_mem_nil, or_false] at hd
  rcases hd with rfl | rfl | rfl <;> assumption
theorem sh2 {n : Nat} {a b : PD} (h1 : Sh n a) (h2 : Sh n b) : Sh (n + 1) (.tuple [a, b]) := Sh.tup fun d hd => by
  simp only [List.mem_cons, List.not_mem_nil, or_false] at hd
  rcases hd with rfl | rfl <;> assumption
theorem sh_Row (r : Row) : Sh 1 r.d := sh3 Sh.int (Sh.str (ok_Ed _)) (sh_Mark _)
theorem sh_Fail (r : Fail) : Sh 1 r.d := sh2 (Sh.str (ok_FW _)) Sh.int
theorem sh_failD (r : Option Fail) : Sh 1 (failD r) := by
  cases r with
  | none => exact Sh.none.mono (Nat.le_succ _)
  | some f => exact sh_Fail f
theorem imm_Row (r : Row) : Imm r.d = true := by
  obtain ⟨k, e, mk⟩ := r
  cases mk <;> rfl
theorem imm_Letter (l : Letter) : Imm l.d = true := by
  cases l with
  | answer k f => cases f <;> rfl
  | _ => rfl
theorem imm_Deed (l : Deed) : Imm l.d = true := by cases l <;> rfl
theorem imm_failD (l : Option Fail) : Imm (failD l) = true := by cases l <;> rfl
theorem at0 {α : Type} {a : α} {r : List α} : atI (a :: r) 0 = some a := atI_nat (j := 0) rfl
/-! ### match -/
theorem mv_yes {z : Sx} {tb : TS} {tr : V → TS} {D : Ends} {σ : L2.St} {H : Hp} (h : tb D σ H) : tMVal z tb tr (.str z) D σ H := ⟨z, rfl, by rw [if_pos rfl]; exact h⟩
theorem mv_no {y z : Sx} {tb : TS} {tr : V → TS} {D : Ends} {σ : L2.St} {H : Hp} (h : tr (.str y) D σ H) (n : (y == z) = false := by decide +kernel) : tMVal z tb tr (.str y) D σ H := ⟨y, rfl, by rw [if_neg (fun e => by rw [e, beq_self_eq_true] at n; cases n)]; exact h⟩
section
variable {K : PySem.W.Frag} {σ : L2.St} {H : Hp} {te : TE} {t : V → TS} {tz : TS} {D : Ends} {y : Sx}
theorem s_match (h : Evd K te σ H (.str y)) (k : ∀ H1, Ex H H1 → t (.str y) D σ H1) : tMatch te t D σ H := h.str H (Ex.refl H) _ fun H1 e => k H1 e
theorem q_match (h : Evd K te σ H (.str y)) (k : ∀ H1, Ex H H1 → t (.str y) { D with nx := tz D } σ H1) : tSeq (tMatch te t) tz D σ H := h.str H (Ex.refl H) _ fun H1 e => k H1 e
theorem q_unpack5 {d1 d2 d3 d4 d5 : PD} {i1 i2 i3 i4 i5 : Nat} (h : Evd K te σ H (.tuple [d1, d2, d3, d4, d5])) (k : ∀ v1 v2 v3 v4 v5 H1, Ex H H1 → Dp K H1 v1 d1 → Dp K H1 v2 d2 → Dp K H1 v3 d3 → Dp K H1 v4 d4 → Dp K H1 v5 d5 →
    tz D (((((σ.set i1 (some v1)).set i2 (some v2)).set i3 (some v3)).set i4 (some v4)).set i5 (some v5)) H1) : tSeq (tAsg te (gTup K 5 (gCons (gName i1) (gCons (gName i2) (gCons (gName i3) (gCons (gName i4) (gCons (gName i5) gNil))))))) tz D σ H := h H (Ex.refl H) _ fun v H1 e r => by
  obtain ⟨a, vs, rfl, hs, hv⟩ := r.tupV
  cases hv with
  | cons r1 t1 => cases t1 with
    | cons r2 t2 => cases t2 with
      | cons r3 t3 => cases t3 with
        | cons r4 t4 => cases t4 with
          | cons r5 t5 =>
            cases t5
            exact ⟨a, _, rfl, hs, rfl, _, _, rfl, _, _, rfl, _, _, rfl, _, _, rfl, _, _, rfl, rfl, k _ _ _ _ _ H1 e r1 r2 r3 r4 r5⟩
end
/-! ### dicts read -/
section
variable {K : PySem.W.Frag} {σ : L2.St} {H : Hp} {td ty : TE}
theorem valV_img {α : Type} {enc : α → V} (k : Int) : ∀ l : List (Int × α), valV (l.map fun p => ((Sum.inl p.1 : Key), enc p.2)) (Sum.inl k) = (getG l k).map enc
  | [] => rfl
  | p :: r => by
    rw [List.map_cons]
    by_cases h : p.1 = k
    · rw [valV_pos (by rw [h])]
      simp [getG, List.find?_cons, h]
    · rw [valV_neg (fun e => h (Sum.inl.inj e)), valV_img k r]
      simp [getG, List.find?_cons, h]
theorem putK_img {α : Type} {enc : α → V} (k : Int) (a : α) (l : List (Int × α)) : putK (l.map fun p => ((Sum.inl p.1 : Key), enc p.2)) (Sum.inl k) (enc a) = (putG l k a).map fun p => ((Sum.inl p.1 : Key), enc p.2) := by
  unfold putK putG
  have e : ((l.map fun p => ((Sum.inl p.1 : Key), enc p.2)).any fun kv => decide (kv.1 = Sum.inl k)) = l.any fun p => decide (p.1 = k) := by
    rw [List.any_map]
    refine congrArg (fun f => l.any f) (funext fun p => ?_)
    show decide ((Sum.inl p.1 : Key) = Sum.inl k) = decide (p.1 = k)
    exact decide_eq_decide.mpr ⟨fun e => Sum.inl.inj e, fun e => by rw [e]⟩
  rw [e]
  split
  · rw [List.map_map, List.map_map]
    refine List.map_congr_left fun p _ => ?_
    show (if (Sum.inl p.1 : Key) = Sum.inl k then _ else _) = _
    by_cases h : p.1 = k
    · rw [if_pos (by rw [h])]
      simp [h]
    · rw [if_neg (fun e => h (Sum.inl.inj e))]
      simp [h]
  · simp
theorem d_getK {a : Addr} {kvs : List (Key × V)} {k : Int} {d : PD} (hd : Ev td σ H (.ref a)) (ha : H a = some (.dK kvs)) (hk : Evd K ty σ H (.int k)) (r : ∀ H', Ex H H' → Dp K H' ((valV kvs (Sum.inl k)).getD .non) d) : Evd K (tDGet1 td ty) σ H d := fun H1 e Q q =>
  hd H1 e _ fun H2 e2 => ⟨a, rfl, .inl ⟨kvs, .inl (e2 a _ (e a _ ha))⟩, hk.int H2 (e.trans e2) _ fun H3 e3 => ⟨_, DGet.k (k := Sum.inl k) (e3 a _ (e2 a _ (e a _ ha))), q _ H3 (e2.trans e3) (r H3 ((e.trans e2).trans e3))⟩⟩
theorem d_inK {a : Addr} {kvs : List (Key × V)} {k : Int} (hk : Evd K ty σ H (.int k)) (hd : Ev td σ H (.ref a)) (ha : H a = some (.dK kvs)) : Evd K (tDIn ty td) σ H (.bool (valV kvs (Sum.inl k)).isSome) := fun H1 e Q q =>
  hk.int H1 e _ fun H2 e2 => hd H2 (e.trans e2) _ fun H3 e3 => ⟨a, _, rfl, DGet.k (k := Sum.inl k) (e3 a _ (e2 a _ (e a _ ha))), q _ H3 (e2.trans e3) (.bl _)⟩
end
theorem fate_d (f : Fate) {K : PySem.W.Frag} {H : Hp} : Dp K H f.v f.d := by cases f <;> constructor
theorem mark_d (f : Mark) {K : PySem.W.Frag} {H : Hp} : Dp K H f.v f.d := by cases f <;> constructor
def optFate : Option Fate → PD | none => .none | some f => f.d
def optMark : Option Mark → PD | none => .none | some f => f.d
theorem fate_get (l : List (Int × Fate)) (k : Int) {K : PySem.W.Frag} {H : Hp} : Dp K H ((valV (fatesK l) (Sum.inl k)).getD .non) (optFate (getG l k)) := by
  unfold fatesK
  rw [valV_img]
  cases getG l k with
  | none => exact .non
  | some f => exact fate_d f
/-! ### promises -/
def hsOf (cs : List Sx) : Sx → Bool := fun c => decide (c ∈ cs)
def sp_has (K : PySem.W.Frag) : Sp := spP K fun H as r => ∃ p s cs m c, as = [.val (.ref p), .dat (.str c)] ∧ MachP K H p s cs m ∧ r = .bool (hsOf cs c)
def optRow : Option Row → PD | none => .none | some r => r.d
def sp_first_with (K : PySem.W.Frag) : Sp := spP K fun H as r => ∃ p s cs m mk, as = [.val (.ref p), .dat (Mark.d mk)] ∧ MachP K H p s cs m ∧ (mk = .new ∨ mk = .sent) ∧ r = optRow (firstWith m mk)
def sp_is_letter_possible (K : PySem.W.Frag) : Sp := spP K fun H as r => ∃ p s cs m w i, as = [.val (.ref p), .dat (Deed.d (.letr w i)), .dat (.tuple [.bool s.losses, .bool s.doubles, .bool s.refusals])] ∧ MachP K H p s cs m ∧ r = .bool (letterPossible s m w i)
def sp_is_possible (K : PySem.W.Frag) : Sp := spP K fun H as r => ∃ p s cs m d, as = [.val (.ref p), .dat (Deed.d d)] ∧ MachP K H p s cs m ∧ r = .bool (isPossible (hsOf cs) s m d)
def sp_is_version (K : PySem.W.Frag) : Sp := spP K fun _ as r => ∃ d lim, as = [.dat d, .dat (.int lim)] ∧ flatP d = true ∧ r = .bool (isInt d 0 lim)
section
variable {P : Program} {w : World} {K : PySem.W.Frag} {mg : PySem.Str → Option Value} {base : Heap}
abbrev nm_has : List PySem.Str := ["machine", "care"]
theorem sc_has : FnScope nm_has ["machine", "care"] (defScope s_has) := ⟨rfl, rfl, rfl, by decide +kernel, rfl, by decide +kernel, by decide +kernel⟩
theorem ok_has (T : Tx K mg) : FR P w K mg base 1 "has" (sp_has K) := by
  refine fr_of (k := 0) (N := nm_has) (ps := ["machine", "care"]) (gl_has T) (T.c.d.def_ 17 (d := d_has)) sc_has (fun _ _ _ _ _ _ us hl => match us, hl with | [_, _], _ => rfl) (fun vs H Q E h => ?_) (fun cdv A outer s H vs Q E hr h => ?_)
  · obtain ⟨as, r, hA, ⟨p, sc, cs, m, c, rfl, hm, rfl⟩, k⟩ := h
    exact hA.length
  · obtain ⟨as, r, hA, ⟨p, sc, cs, m, c, rfl, ⟨o, hm⟩, rfl⟩, k⟩ := h
    obtain ⟨v0, _, rfl, rfl, v1, _, rfl, r1, rfl⟩ := hA
    refine ⟨_, (pss_one (ps_ret (pe_cmpR (op_inK (K := K) rfl) (pv 1) (pe_fldK (K := K) rfl (pv 0) rfl) (by rfl)))), ?_⟩
    exact s_retD (d_inS (d_var rfl r1) (d_given T (ev_var rfl) hm) (.inr rfl)) k
theorem eqv_mark {a mk : Mark} (h : mk = .new ∨ mk = .sent) : PyData.eqv a.d mk.d = decide (a = mk) ∧ scalP a.d mk.d = true := by
  rcases h with rfl | rfl <;> cases a <;> first | (constructor <;> rfl) | (constructor <;> decide +kernel)
abbrev nm_first_with : List PySem.Str := ["machine", "mark", "found", "row"]
theorem sc_first_with : FnScope nm_first_with ["machine", "mark"] (defScope s_first_with) := ⟨rfl, rfl, rfl, by decide +kernel, rfl, by decide +kernel, by decide +kernel⟩
theorem ok_first_with (T : Tx K mg) : FR P w K mg base 1 "first_with" (sp_first_with K) := by
  refine fr_of (k := 0) (N := nm_first_with) (ps := ["machine", "mark"]) (gl_first_with T) (T.c.d.def_ 18 (d := d_first_with)) sc_first_with (fun _ _ _ _ _ _ us hl => match us, hl with | [_, _], _ => rfl) (fun vs H Q E h => ?_) (fun cdv A outer s H vs Q E hr h => ?_)
  · obtain ⟨as, r, hA, ⟨p, sc, cs, m, mk, rfl, hm, hk, rfl⟩, k⟩ := h
    exact hA.length
  · obtain ⟨as, r, hA, ⟨p, sc, cs, m, mk, rfl, ⟨o, hm⟩, hk, rfl⟩, k⟩ := h
    obtain ⟨v0, _, rfl, rfl, v1, _, rfl, r1, rfl⟩ := hA
    refine ⟨_, (pss_cons (ps_setLc (i := 2) (own := [("row", 3)]) rfl sc_first_with.nd rfl rfl (sw_true rfl rfl rfl (by decide +kernel)) (pi_listK (K := K) rfl (pe_fldK (K := K) rfl (pv 0) rfl)) (blkOk_by (own := [("row", 3)]) (N := nm_first_with) (sc := defScope s_first_with) (by decide +kernel)) (fun _ _ _ _ _ => (pg_name (i := 3) sc_first_with.nd rfl (Or.inl rfl))) (fun _ _ _ _ _ => (pts_one (pt_cmpR op_eq (pe_ix (ix_tupK (K := K) rfl) (pv 3) pe_int (fun _ _ => rfl)) (pv 1) (nomark _)))) (fun _ _ _ _ _ => (pv 3)))
      (pss_one (ps_ret (pe_ifExp (pt_cmpR (op_neK (K := K) rfl hr.units) (pv 2) (pe_lst pa_nil) (nomark _)) (pe_ix (ix_listK (K := K) rfl) (pv 2) pe_int (fun _ _ => rfl)) pe_non)))), ?_⟩
    refine q_asgN (n_lc (xs := m.rows) (enc := Row.d) (p := fun r => decide (r.mark = mk)) (f := Row.d) (src_list (d_rows T (ev_var rfl) hm)) (fun _ => rfl) (fun r _ => imm_Row r) (Nat.le_trans hm.bd.r (by decide)) fun x hx v H1 e r => ⟨evt_to (t_test (d_eqS (d_ixT (d_var rfl r) d_int (by rfl)) (d_var rfl (Dp.ex r1 e)) (eqv_mark hk).2)) (eqv_mark hk).1, fun _ => d_var rfl r⟩) fun l vs H1 hl e1 h1 r1' => ?_
    have D1 : Dp K H1 (.ref l) (.list ((m.rows.filter fun r => decide (r.mark = mk)).map Row.d)) := .lst (sq_of h1) r1'
    unfold firstWith at k
    have hsh : Sh 2 (.list ((m.rows.filter fun r => decide (r.mark = mk)).map Row.d)) := Sh.lst fun d hd => by
      obtain ⟨r, _, rfl⟩ := List.mem_map.mp hd
      exact sh_Row r
    cases hf : m.rows.filter fun r => decide (r.mark = mk) with
    | nil =>
      rw [hf] at D1 k hsh
      exact s_retD (d_if (b := false) (d := .none) (t_test (d_ne (d_var rfl D1) (n_lst e_nil).evd hsh.ok (by decide +kernel))) (fun z => nomatch z) fun _ => d_non) fun v H2 e2 r2 => k v H2 (e1.trans e2) r2
    | cons a rest =>
      rw [hf] at D1 k hsh
      exact s_retD (d_if (b := true) (e := .none) (t_test (d_ne (d_var rfl D1) (n_lst e_nil).evd hsh.ok (by decide +kernel))) (fun _ => d_ixL (d_var rfl D1) d_int at0) fun z => nomatch z) fun v H2 e2 r2 => k v H2 (e1.trans e2) r2
abbrev nm_is_version : List PySem.Str := ["value", "limit"]
theorem sc_is_version : FnScope nm_is_version ["value", "limit"] (defScope s_is_version) := ⟨rfl, rfl, rfl, by decide +kernel, rfl, by decide +kernel, by decide +kernel⟩
theorem ok_is_version (T : Tx K mg) : FR P w K mg base 2 "is_version" (sp_is_version K) := by
  refine fr_of (k := 1) (N := nm_is_version) (ps := ["value", "limit"]) (gl_is_version T) (T.c.d.def_ 31 (d := d_is_version)) sc_is_version (fun _ _ _ _ _ _ us hl => match us, hl with | [_, _], _ => rfl) (fun vs H Q E h => ?_) (fun cdv A outer s H vs Q E hr h => ?_)
  · obtain ⟨as, r, hA, ⟨d, lim, rfl, hf, rfl⟩, k⟩ := h
    exact hA.length
  · obtain ⟨as, r, hA, ⟨d, lim, rfl, hf, rfl⟩, k⟩ := h
    obtain ⟨v0, _, rfl, r0, v1, _, rfl, r1, rfl⟩ := hA
    refine ⟨_, (pss_one (ps_ret (pe_cR (ok_is_integer T) hr (by rfl) (pa_cons (pv 0) (pa_cons pe_int (pa_cons (pv 1) pa_nil)))))), ?_⟩
    exact s_retD (d_call (a_cons (d_var rfl r0) (a_cons d_int (a_cons (d_var rfl r1) a_nil))) fun _ _ => ⟨d, 0, lim, rfl, hf, rfl⟩) k
end
end Sc


/-! Sc7: what is possible, what has failed; the deeds of a scheme. -/
namespace Sc
open PySem PySem.Spec PyProof.Rows L2 Evl
section
variable {K : PySem.W.Frag} {σ : L2.St} {H : Hp} {te tl tb td ty : TE} {ta : TA} {d e : PD} {ds es : List PD} {tz : TS} {D : Ends} {wi : TI} {i j : Nat} {tu : TS}
theorem q_par (h : Evs K ta σ H [d, e]) (k : ∀ v w H1, Ex H H1 → Dp K H1 v d → Dp K H1 w e → tz D ((σ.set i (some v)).set j (some w)) H1) : tSeq (tPar i j ta) tz D σ H := h H (Ex.refl H) _ fun vs H1 q r => by
  cases r with
  | cons r1 t1 => cases t1 with
    | cons r2 t2 =>
      cases t2
      exact ⟨_, _, rfl, k _ _ H1 q r1 r2⟩
theorem d_ninK {a : Addr} {kvs : List (Key × V)} {k : Int} (hk : Evd K ty σ H (.int k)) (hd : Ev td σ H (.ref a)) (ha : H a = some (.dK kvs)) : Evd K (tDNotIn ty td) σ H (.bool (!(valV kvs (Sum.inl k)).isSome)) := fun H1 e Q q =>
  hk.int H1 e _ fun H2 e2 => hd H2 (e.trans e2) _ fun H3 e3 => ⟨a, _, rfl, DGet.k (k := Sum.inl k) (e3 a _ (e2 a _ (e a _ ha))), q _ H3 (e2.trans e3) (.bl _)⟩
/-- a loop over what stays, all in heaps that only grow -/
theorem s_forS (hs : Src K wi σ H ds) (Pv : Hp → Nat → L2.St → Hp → Prop) (h0 : ∀ H2, Ex H H2 → Pv H2 0 σ H2) (hG : ∀ H2 i σ' H', Pv H2 i σ' H' → Ex H2 H')
    (ht : ∀ H2 i d v σ' H', Ex H H2 → ds[i]? = some d → Dp K H' v d → Pv H2 i σ' H' → tu { D with nx := Pv H2 (i + 1), ct := Pv H2 (i + 1), bk := D.nx } (σ'.set j (some v)) H') (hd : ∀ H2 σ' H', Ex H H2 → Pv H2 ds.length σ' H' → D.nx σ' H') : tFor wi (gName j) tu D σ H :=
  hs H (Ex.refl H) _ fun J H2 q2 W => for_it W (Pv H2) (h0 H2 q2) (fun i σ' H' _ P => hG H2 i σ' H' P) (fun i x σ' H' H'' hi P Y => by
    obtain ⟨rfl, d, h1, h2⟩ := Y
    exact ht H2 i d x σ' _ q2 h1 h2 P) fun σ' H' P => hd H2 σ' H' q2 P
theorem q_forS (hs : Src K wi σ H ds) (Pv : Hp → Nat → L2.St → Hp → Prop) (h0 : ∀ H2, Ex H H2 → Pv H2 0 σ H2) (hG : ∀ H2 i σ' H', Pv H2 i σ' H' → Ex H2 H')
    (ht : ∀ H2 i d v σ' H', Ex H H2 → ds[i]? = some d → Dp K H' v d → Pv H2 i σ' H' → tu { D with nx := Pv H2 (i + 1), ct := Pv H2 (i + 1), bk := tz D } (σ'.set j (some v)) H') (hd : ∀ H2 σ' H', Ex H H2 → Pv H2 ds.length σ' H' → tz D σ' H') : tSeq (tFor wi (gName j) tu) tz D σ H :=
  s_forS (D := { D with nx := tz D }) hs Pv h0 hG ht hd
theorem n_catV {p : Addr} {vs : List V} (ha : Ev te σ H (.ref p)) (hp : H p = some (.lst vs)) (r : DpAll K H vs ds) (hb : Evn K tb σ H es) (hl : ds.length + es.length ≤ 100000) : Evn K (tOp rCat te tb) σ H (ds ++ es) := fun H1 a Q k =>
  ha H1 a _ fun H2 q2 => hb H2 (a.trans q2) _ fun p' ws H3 hp' q3 h3 r3 =>
    ⟨p, p', vs, ws, rfl, rfl, q3 p _ (q2 p _ (a p _ hp)), h3, sz_of (by rw [r.length, r3.length]; exact hl), fun l hl' => k l _ _ (fresh_back (q2.trans q3) hl') ((q2.trans q3).trans (Ex.new hl')) upd_same (((r.ex ((a.trans q2).trans q3)).append r3).ex (Ex.new hl'))⟩
end
theorem isNon_fate (f : Option Fate) : isNonP (optFate f) = f.isNone := by
  cases f with
  | none => rfl
  | some f => cases f <;> rfl
theorem isNon_row (f : Option Row) : isNonP (optRow f) = f.isNone := by
  cases f <;> rfl
theorem mn_next {x : V} {D : Ends} {σ : L2.St} {H : Hp} (h : D.nx σ H) : tMNil x D σ H := h
theorem atI_of {α : Type} {l : List α} {i : Nat} {a : α} (h : l[i]? = some a) : atI l (i : Int) = some a := atI_nat h
section
variable {P : Program} {w : World} {K : PySem.W.Frag} {mg : PySem.Str → Option Value} {base : Heap}
abbrev nm_is_letter_possible : List PySem.Str := ["machine", "deed", "flags", "letter"]
theorem sc_is_letter_possible : FnScope nm_is_letter_possible ["machine", "deed", "flags"] (defScope s_is_letter_possible) := ⟨rfl, rfl, rfl, by decide +kernel, rfl, by decide +kernel, by decide +kernel⟩
theorem ok_is_letter_possible (T : Tx K mg) : FR P w K mg base 1 "is_letter_possible" (sp_is_letter_possible K) := by
  refine fr_of (k := 0) (N := nm_is_letter_possible) (ps := ["machine", "deed", "flags"]) (gl_is_letter_possible T) (T.c.d.def_ 20 (d := d_is_letter_possible)) sc_is_letter_possible (fun _ _ _ _ _ _ us hl => match us, hl with | [_, _, _], _ => rfl) (fun vs H Q E h => ?_) (fun cdv A outer s H vs Q E hr h => ?_)
  · obtain ⟨as, r, hA, ⟨p, sc, cs, m, lw, i, rfl, hm, rfl⟩, k⟩ := h
    exact hA.length
  · obtain ⟨as, r, hA, ⟨p, sc, cs, m, lw, i, rfl, ⟨o, hm⟩, rfl⟩, k⟩ := h
    obtain ⟨v0, _, rfl, rfl, v1, _, rfl, r1, v2, _, rfl, r2, rfl⟩ := hA
    refine ⟨_, (pss_cons (ps_if (pt_cmpR op_ge (pe_ix (ix_tupK (K := K) rfl) (pv 1) pe_int (fun _ _ => rfl)) (pe_callB (call_lenK (K := K) rfl) (by rfl) (fr_len T) (by decide +kernel) (pa_cons (pe_fldK (K := K) rfl (pv 0) rfl) pa_nil)) (nomark _)) (pss_one (ps_ret pe_bl)) pss_nil)
      (pss_cons (ps_set (i := 3) sc_is_letter_possible.nd rfl (Or.inl rfl) (pe_ix (ix_listK (K := K) rfl) (pe_fldK (K := K) rfl (pv 0) rfl) (pe_ix (ix_tupK (K := K) rfl) (pv 1) pe_int (fun _ _ => rfl)) (fun _ _ => rfl)))
      (pss_cons (ps_match (pe_ix (ix_tupK (K := K) rfl) (pv 1) pe_int (fun _ _ => rfl))
      (pm_val (pss_one (ps_ret (pe_ix (ix_tupK (K := K) rfl) (pv 2) pe_int (fun _ _ => rfl))))
      (pm_val (pss_one (ps_ret (pe_ix (ix_tupK (K := K) rfl) (pv 2) pe_int (fun _ _ => rfl))))
      (pm_val (pss_one (ps_ret (pe_and (pe_ix (ix_tupK (K := K) rfl) (pv 2) pe_int (fun _ _ => rfl)) (pe_and (pe_cmpR op_eq (pe_ix (ix_tupK (K := K) rfl) (pv 3) pe_int (fun _ _ => rfl)) pe_str (nomark _)) (pe_one (pe_cmpR op_isN (pe_dget1 (hu_of hr) (pe_fldK (K := K) rfl (pv 0) rfl) (pe_ix (ix_tupK (K := K) rfl) (pv 3) pe_int (fun _ _ => rfl)) ⟨by rfl, by rfl, by rfl, by rfl⟩) pe_non (nomark _)))))))
      pm_nil))))
      (pss_one (ps_ret pe_bl))))), ?_⟩
    have lenE : ∀ {ta : TE} {σ : L2.St}, Evd K ta σ H (.list (m.post.map Letter.d)) → Evd K (tCB (fun xs H Q => ∃ p ys, xs = [.ref p] ∧ (SqL K H p ys ∨ SqT K H p ys) ∧ Q (.int ys.length) H) (tCons ta tNil)) σ H (.int (m.post.length : Int)) := fun h => Evd.to (d_lenS h (.inl rfl)) (by rw [List.length_map])
    refine q_when (b := decide ((m.post.length : Int) ≤ (i : Int))) (t_test (d_ge (d_ixT (d_var rfl r1) d_int (by rfl)) (lenE (d_post T (ev_var rfl) hm)))) (fun hb H1 e1 => ?_) fun hb H1 e1 => ?_
    · have hi : m.post[i]? = none := List.getElem?_eq_none_iff.mpr (by have := of_decide_eq_true hb; omega)
      unfold letterPossible at k
      rw [hi] at k
      exact s_retD (d_bl (i := false)) fun v H2 e2 r => k v H2 (e1.trans e2) r
    · have hi : i < m.post.length := by have := of_decide_eq_false hb; omega
      have hm := hm.ex e1
      have r1 := Dp.ex r1 e1
      have r2 := Dp.ex r2 e1
      have hl : m.post[i]? = some m.post[i] := List.getElem?_eq_getElem hi
      generalize hle : m.post[i] = l at hl
      unfold letterPossible at k
      rw [hl] at k
      refine q_asgD (d_ixL (d := l.d) (d_post T (ev_var rfl) hm) (d_ixT (d_var rfl r1) d_int (by rfl)) (atI_of (by rw [List.getElem?_map, hl] <;> rfl))) fun vl H2 e2 rl => ?_
      have hm := hm.ex e2
      have r1 := Dp.ex r1 e2
      have r2 := Dp.ex r2 e2
      have k : ∀ (v : V) (H' : Hp), Ex H2 H' → Dp K H' v _ → Q v H' := fun v H' e r => k v H' ((e1.trans e2).trans e) r
      refine q_match (y := lw.s) (d_ixT (d_var rfl r1) d_int (by rfl)) fun H3 e3 => ?_
      have hm := hm.ex e3
      have r2 := Dp.ex r2 e3
      have rl := Dp.ex rl e3
      have k : ∀ (v : V) (H' : Hp), Ex H3 H' → Dp K H' v _ → Q v H' := fun v H' e r => k v H' (e3.trans e) r
      cases lw with
      | lose => exact mv_yes (s_retD (d_ixT (d_var rfl r2) d_int (by rfl)) k)
      | double => exact mv_no (mv_yes (s_retD (d_ixT (d_var rfl r2) d_int (by rfl)) k))
      | carry =>
        have fall : (tRet (tC (.bl true))) { nx := fun _ H' => Q .non H', rt := Q } [some (.ref p), some v1, some v2, some vl] H3 := s_retD d_bl k
        exact mv_no (mv_no (mv_no fall))
      | refuse =>
        refine mv_no (mv_no (mv_yes (s_retD (Evd.to (d_and (d_ixT (d_var rfl r2) d_int (by rfl)) fun _ => ?_) rfl) k)))
        cases l with
        | edit kk e =>
          refine Evd.to (d_and (b := true) (c := isNonP (optFate (getG m.fates kk))) (Evd.to (d_eqStr (d_ixT (d_var rfl rl) d_int (by rfl)) d_str) (congrArg _ (by decide +kernel))) fun _ => d_isN (d_getK (v_fates T (ev_var rfl) hm) hm.fates (d_ixT (d_var rfl rl) d_int (by rfl)) fun _ _ => fate_get _ _)) ?_
          exact congrArg PyData.bool (isNon_fate _)
        | answer kk f =>
          refine Evd.to (d_and (b := false) (c := false) (Evd.to (d_eqStr (d_ixT (d_var rfl rl) d_int (by rfl)) d_str) (congrArg _ (by decide +kernel))) fun z => nomatch z) rfl
        | ask =>
          refine Evd.to (d_and (b := false) (c := false) (Evd.to (d_eqStr (d_ixT (d_var rfl rl) d_int (by rfl)) d_str) (congrArg _ (by decide +kernel))) fun z => nomatch z) rfl
        | copy v n =>
          refine Evd.to (d_and (b := false) (c := false) (Evd.to (d_eqStr (d_ixT (d_var rfl rl) d_int (by rfl)) d_str) (congrArg _ (by decide +kernel))) fun z => nomatch z) rfl
abbrev nm_is_possible : List PySem.Str := ["machine", "deed", "others", "losses", "doubles", "refusals", "reloads", "has_room", "is_turn"]
theorem sc_is_possible : FnScope nm_is_possible ["machine", "deed"] (defScope s_is_possible) := ⟨rfl, rfl, rfl, by decide +kernel, rfl, by decide +kernel, by decide +kernel⟩
theorem ok_is_possible (T : Tx K mg) : FR P w K mg base 2 "is_possible" (sp_is_possible K) := by
  refine fr_of (k := 1) (N := nm_is_possible) (ps := ["machine", "deed"]) (gl_is_possible T) (T.c.d.def_ 19 (d := d_is_possible)) sc_is_possible (fun _ _ _ _ _ _ us hl => match us, hl with | [_, _], _ => rfl) (fun vs H Q E h => ?_) (fun cdv A outer s H vs Q E hr h => ?_)
  · obtain ⟨as, r, hA, ⟨p, sc, cs, m, d, rfl, hm, rfl⟩, k⟩ := h
    exact hA.length
  · obtain ⟨as, r, hA, ⟨p, sc, cs, m, d, rfl, ⟨o, hm⟩, rfl⟩, k⟩ := h
    obtain ⟨v0, _, rfl, rfl, v1, _, rfl, r1, rfl⟩ := hA
    refine ⟨_, (pss_cons (ps_if (pt_cmpR op_notN (pe_fldK (K := K) rfl (pv 0) rfl) pe_non (nomark _)) (pss_one (ps_ret pe_bl)) pss_nil)
      (pss_cons (ps_asg (pe_fldK (K := K) rfl (pe_fldK (K := K) rfl (pv 0) rfl) rfl) (pg_tupK (K := K) (n := 5) rfl rfl (pgs_cons (pg_name (i := 2) sc_is_possible.nd rfl (Or.inl rfl)) (pgs_cons (pg_name (i := 3) sc_is_possible.nd rfl (Or.inl rfl)) (pgs_cons (pg_name (i := 4) sc_is_possible.nd rfl (Or.inl rfl)) (pgs_cons (pg_name (i := 5) sc_is_possible.nd rfl (Or.inl rfl)) (pgs_cons (pg_name (i := 6) sc_is_possible.nd rfl (Or.inl rfl)) pgs_nil)))))))
      (pss_cons (ps_set (i := 7) sc_is_possible.nd rfl (Or.inl rfl) (pe_cmpR op_lt (pe_callB (call_lenK (K := K) rfl) (by rfl) (fr_len T) (by decide +kernel) (pa_cons (pe_fldK (K := K) rfl (pv 0) rfl) pa_nil)) (pe_fldK (K := K) rfl (pe_fldK (K := K) rfl (pv 0) rfl) rfl) (nomark _)))
      (pss_cons (ps_match (pe_ix (ix_tupK (K := K) rfl) (pv 1) pe_int (fun _ _ => rfl))
      (pm_val (pss_one (ps_ret (pe_cmpR op_lt (pe_callB (call_lenK (K := K) rfl) (by rfl) (fr_len T) (by decide +kernel) (pa_cons (pe_fldK (K := K) rfl (pv 0) rfl) pa_nil)) (pe_fldK (K := K) rfl (pe_fldK (K := K) rfl (pv 0) rfl) rfl) (nomark _))))
      (pm_val (pss_cons (ps_set (i := 8) sc_is_possible.nd rfl (Or.inl rfl) (pe_or (pe_not (pe_cR (ok_has T) hr (by rfl) (pa_cons (pv 0) (pa_cons pe_str pa_nil)))) (pe_one (pe_cmpR op_isN (pe_cR (ok_first_with T) hr (by rfl) (pa_cons (pv 0) (pa_cons (pe_gstr (st_SENT T) rfl) pa_nil))) pe_non (nomark _)))))
      (pss_one (ps_ret (pe_and (pv 7) (pe_and (pv 8) (pe_one (pe_cmpR op_notN (pe_cR (ok_first_with T) hr (by rfl) (pa_cons (pv 0) (pa_cons (pe_gstr (st_NEW T) rfl) pa_nil))) pe_non (nomark _))))))))
      (pm_val (pss_one (ps_ret (pe_and (pv 7) (pe_and (pe_cR (ok_has T) hr (by rfl) (pa_cons (pv 0) (pa_cons pe_str pa_nil))) (pe_one (pe_cmpR op_notN (pe_cR (ok_first_with T) hr (by rfl) (pa_cons (pv 0) (pa_cons (pe_gstr (st_SENT T) rfl) pa_nil))) pe_non (nomark _)))))))
      (pm_val (pss_one (ps_ret (pv 7)))
      (pm_val (pss_one (ps_ret (pv 2)))
      (pm_val (pss_one (ps_ret (pv 6)))
      pm_nil)))))))
      (pss_one (ps_ret (pe_cR (ok_is_letter_possible T) hr (by rfl) (pa_cons (pv 0) (pa_cons (pv 1) (pa_cons (pe_tup (pa_cons (pv 3) (pa_cons (pv 4) (pa_cons (pv 5) pa_nil)))) pa_nil)))))))))), ?_⟩
    unfold isPossible at k
    cases hf : m.fin with
    | some f =>
      rw [hf] at k
      exact q_when (b := true) (evt_to (t_test (d_notN (d_end T (ev_var rfl) hm))) (by rw [hf] <;> rfl)) (fun _ H1 e1 => s_retD d_bl fun v H2 e2 r => k v H2 (e1.trans e2) r) fun z => nomatch z
    | none =>
      rw [hf] at k
      refine q_when (b := false) (evt_to (t_test (d_notN (d_end T (ev_var rfl) hm))) (by rw [hf] <;> rfl)) (fun z => nomatch z) fun _ H1 e1 => ?_
      have hm := hm.ex e1
      have r1 := Dp.ex r1 e1
      refine q_unpack5 (d_events T (v_plan T (ev_var rfl) hm) hm.plan) fun w1 w2 w3 w4 w5 H2 e2 s1 s2 s3 s4 s5 => ?_
      have hm := hm.ex e2
      have r1 := Dp.ex r1 e2
      have lenE : ∀ {ta : TE} {σ : L2.St} {H3 : Hp}, Evd K ta σ H3 (.list (m.post.map Letter.d)) → Evd K (tCB (fun xs H Q => ∃ p ys, xs = [.ref p] ∧ (SqL K H p ys ∨ SqT K H p ys) ∧ Q (.int ys.length) H) (tCons ta tNil)) σ H3 (.int (m.post.length : Int)) := fun h => Evd.to (d_lenS h (.inl rfl)) (by rw [List.length_map])
      have lenR : ∀ {ta : TE} {σ : L2.St} {H3 : Hp}, Evd K ta σ H3 (.list (m.rows.map Row.d)) → Evd K (tCB (fun xs H Q => ∃ p ys, xs = [.ref p] ∧ (SqL K H p ys ∨ SqT K H p ys) ∧ Q (.int ys.length) H) (tCons ta tNil)) σ H3 (.int (m.rows.length : Int)) := fun h => Evd.to (d_lenS h (.inl rfl)) (by rw [List.length_map])
      refine q_asgD (Evd.to (d_lt (lenE (d_post T (ev_var rfl) hm)) (d_way T (v_plan T (ev_var rfl) hm) hm.plan)) (e := .bool (decide (m.post.length < sc.way))) (congrArg _ (decide_eq_decide.mpr Int.ofNat_lt))) fun w6 H3 e3 s6 => ?_
      have hm := hm.ex e3
      have r1 := Dp.ex r1 e3
      have s1 := Dp.ex s1 e3
      have s2 := Dp.ex s2 e3
      have s3 := Dp.ex s3 e3
      have s4 := Dp.ex s4 e3
      have s5 := Dp.ex s5 e3
      have k : ∀ (v : V) (H' : Hp), Ex H3 H' → Dp K H' v _ → Q v H' := fun v H' e r => k v H' (((e1.trans e2).trans e3).trans e) r
      have go : ∀ {y : Sx} {te : TE} {t : V → TS} {tz : TS} {σ : L2.St} {D : Ends}, Evd K te σ H3 (.str y) → (∀ H1, Ex H3 H1 → t (.str y) { D with nx := tz D } σ H1) → tSeq (tMatch te t) tz D σ H3 := q_match
      cases d with
      | edit e =>
        refine q_match (y := "edit") (d_ixT (d_var rfl r1) d_int (by rfl)) fun H4 e4 => mv_yes ?_
        have hm := hm.ex e4
        exact s_retD (Evd.to (d_lt (lenR (d_rows T (ev_var rfl) hm)) (d_room T (v_plan T (ev_var rfl) hm) hm.plan)) (congrArg _ (decide_eq_decide.mpr Int.ofNat_lt))) fun v H' e r => k v H' (e4.trans e) r
      | letr lw i =>
        refine q_match (y := lw.s) (d_ixT (d_var rfl r1) d_int (by rfl)) fun H4 e4 => ?_
        have hm := hm.ex e4
        have fall : (tRet (tCallR (sp_is_letter_possible K) E0 (tCons (tVar 0) (tCons (tVar 1) (tCons (tTup (tCons (tVar 3) (tCons (tVar 4) (tCons (tVar 5) tNil)))) tNil))))) { nx := fun _ H' => Q .non H', rt := Q } [some (.ref p), some v1, some w1, some w2, some w3, some w4, some w5, some w6, none] H4 :=
          s_retD (d_call (a_consV (ev_var rfl) (a_cons (d_var rfl (Dp.ex r1 e4)) (a_cons (d_tup (e_cons (d_var rfl (Dp.ex s2 e4)) (e_cons (d_var rfl (Dp.ex s3 e4)) (e_cons (d_var rfl (Dp.ex s4 e4)) e_nil)))) a_nil))) fun H5 e5 => ⟨p, sc, cs, m, lw, i, rfl, ⟨o, hm.ex e5⟩, rfl⟩) fun v H' e r => k v H' (e4.trans e) r
        cases lw <;> exact mv_no (mv_no (mv_no (mv_no (mv_no (mv_no fall)))))
      | plain pl =>
        refine q_match (y := pl.s) (d_ixT (d_var rfl r1) d_int (by rfl)) fun H4 e4 => ?_
        have hm := hm.ex e4
        have k : ∀ (v : V) (H' : Hp), Ex H4 H' → Dp K H' v _ → Q v H' := fun v H' e r => k v H' (e4.trans e) r
        have s1 := Dp.ex s1 e4
        have s5 := Dp.ex s5 e4
        have s6 := Dp.ex s6 e4
        have hasE : ∀ {c : Sx} {σ : L2.St} {H5 : Hp}, σ[0]? = some (some (.ref p)) → Ex H4 H5 → Evd K (tCallR (sp_has K) E0 (tCons (tVar 0) (tCons (tC (.str c)) tNil))) σ H5 (.bool (hsOf cs c)) := fun h e => d_call (a_consV (ev_var h) (a_cons d_str a_nil)) fun H6 e6 => ⟨p, sc, cs, m, _, rfl, ⟨o, (hm.ex e).ex e6⟩, rfl⟩
        have fwE : ∀ {mk : Mark} {z : Sx} {σ : L2.St} {H5 : Hp}, σ[0]? = some (some (.ref p)) → Ex H4 H5 → Mark.d mk = .str z → (mk = .new ∨ mk = .sent) → Evd K (tCallR (sp_first_with K) E0 (tCons (tVar 0) (tCons (tC (.str z)) tNil))) σ H5 (optRow (firstWith m mk)) := fun h e hz hk => d_call (a_consV (ev_var h) (a_cons d_str a_nil)) fun H6 e6 => ⟨p, sc, cs, m, _, by rw [hz], ⟨o, (hm.ex e).ex e6⟩, hk, rfl⟩
        cases pl with
        | send =>
          refine mv_no (mv_yes ?_)
          refine q_asgD (Evd.to (e := .bool (!hsOf cs "turns" || (firstWith m .sent).isNone)) (d_or (d_not (hasE rfl (Ex.refl _))) fun _ => d_isN (fwE (mk := .sent) rfl (Ex.refl _) rfl (.inr rfl))) (by rw [isNon_row])) fun w7 H5 e5 s7 => ?_
          exact s_retD (Evd.to (d_and (d_var rfl (Dp.ex s6 e5)) fun _ => d_and (d_var rfl s7) fun _ => d_notN (fwE (mk := .new) rfl e5 rfl (.inl rfl))) (by rw [isNon_row, Option.not_isNone])) fun v H' e r => k v H' (e5.trans e) r
        | again => exact mv_no (mv_no (mv_yes (s_retD (Evd.to (d_and (d_var rfl s6) fun _ => d_and (hasE rfl (Ex.refl _)) fun _ => d_notN (fwE (mk := .sent) rfl (Ex.refl _) rfl (.inr rfl))) (by rw [isNon_row, Option.not_isNone])) k)))
        | ask => exact mv_no (mv_no (mv_no (mv_yes (s_retD (d_var rfl s6) k))))
        | other => exact mv_no (mv_no (mv_no (mv_no (mv_yes (s_retD (d_var rfl s1) k)))))
        | reload => exact mv_no (mv_no (mv_no (mv_no (mv_no (mv_yes (s_retD (d_var rfl s5) k))))))
end
/-! ### what has failed -/
def marksK (l : List (Int × Mark)) : List (Key × V) := l.map fun p => (Sum.inl p.1, p.2.v)
theorem mark_get (l : List (Int × Mark)) (k : Int) {K : PySem.W.Frag} {H : Hp} : Dp K H ((valV (marksK l) (Sum.inl k)).getD .non) (optMark (getG l k)) := by
  unfold marksK
  rw [valV_img]
  cases getG l k with
  | none => exact .non
  | some f => exact mark_d f
theorem marks_in (l : List (Int × Mark)) (k : Int) : (valV (marksK l) (Sum.inl k)).isSome = (getG l k).isSome := by
  unfold marksK
  rw [valV_img, Option.isSome_map]
def sp_failure_at (K : PySem.W.Frag) : Sp := spP K fun H as r => ∃ p s cs m key a li uw, as = [.val (.ref p), .dat (.int key), .val (.ref a), .dat (.list (uw.map .int))] ∧ MachP K H p s cs m ∧ H a = some (.dK (marksK li)) ∧ r = failD (failureAt (hsOf cs) m key li uw)
def sp_failure_of_machines (K : PySem.W.Frag) : Sp := spP K fun H as r => ∃ p s cs m, as = [.val (.ref p)] ∧ MachP K H p s cs m ∧ 0 ≤ m.made ∧ r = failD (failureOf (hsOf cs) m)
theorem eqv_fateR (f : Option Fate) : PyData.eqv (optFate f) (.str "refused") = decide (f = some .ref) ∧ scalP (optFate f) (.str "refused") = true := by
  cases f with
  | none => exact ⟨rfl, rfl⟩
  | some f => cases f <;> first | exact ⟨rfl, rfl⟩ | exact ⟨by decide +kernel, rfl⟩
theorem eqv_markR (f : Option Mark) : PyData.eqv (optMark f) (.str "refused") = decide (f = some .ref) ∧ scalP (optMark f) (.str "refused") = true := by
  cases f with
  | none => exact ⟨rfl, rfl⟩
  | some f => cases f <;> first | exact ⟨rfl, rfl⟩ | exact ⟨by decide +kernel, rfl⟩
theorem flat_fate (f : Option Fate) : flatP (optFate f) = true := by
  cases f with
  | none => rfl
  | some f => cases f <;> rfl
theorem failTup {K : PySem.W.Frag} {σ : L2.St} {H : Hp} {tk : TE} {z : Sx} {key : Int} (fw : FW) (h : Evd K tk σ H (.int key)) (e : fw.s = z) : Evd K (tTup (tCons (tC (.str z)) (tCons tk tNil))) σ H (Fail.d ⟨fw, key⟩) := by
  subst e
  exact d_tup (e_cons d_str (e_cons h e_nil))
section
variable {P : Program} {w : World} {K : PySem.W.Frag} {mg : PySem.Str → Option Value} {base : Heap}
abbrev nm_failure_at : List PySem.Str := ["machine", "key", "listed", "under_way", "fate", "is_laid", "is_copied"]
theorem sc_failure_at : FnScope nm_failure_at ["machine", "key", "listed", "under_way"] (defScope s_failure_at) := ⟨rfl, rfl, rfl, by decide +kernel, rfl, by decide +kernel, by decide +kernel⟩
theorem ok_failure_at (T : Tx K mg) : FR P w K mg base 3 "failure_at" (sp_failure_at K) := by
  refine fr_of (k := 2) (N := nm_failure_at) (ps := ["machine", "key", "listed", "under_way"]) (gl_failure_at T) (T.c.d.def_ 34 (d := d_failure_at)) sc_failure_at (fun _ _ _ _ _ _ us hl => match us, hl with | [_, _, _, _], _ => rfl) (fun vs H Q E h => ?_) (fun cdv A outer s H vs Q E hr h => ?_)
  · obtain ⟨as, r, hA, ⟨p, sc, cs, m, key, a, li, uw, rfl, hm, ha, rfl⟩, k⟩ := h
    exact hA.length
  · obtain ⟨as, r, hA, ⟨p, sc, cs, m, key, a, li, uw, rfl, ⟨o, hm⟩, ha, rfl⟩, k⟩ := h
    obtain ⟨v0, _, rfl, rfl, v1, _, rfl, r1, v2, _, rfl, rfl, v3, _, rfl, r3, rfl⟩ := hA
    refine ⟨_, (pss_cons (ps_par (i := 4) (j := 5) rfl sc_failure_at.nd rfl rfl (by decide) rfl rfl (pa_cons (pe_dget1 (hu_of hr) (pe_fldK (K := K) rfl (pv 0) rfl) (pv 1) ⟨by rfl, by rfl, by rfl, by rfl⟩) (pa_cons (pe_and (pe_cmp (pc_din (hu_of hr) (pv 1) (pv 2))) (pe_one (pe_cR (ok_has T) hr (by rfl) (pa_cons (pv 0) (pa_cons pe_str pa_nil))))) pa_nil)) (by rfl))
      (pss_cons (ps_if (pt_cmpR op_eq (pv 4) (pe_gstr (st_REFUSED T) rfl) (nomark _)) (pss_one (ps_ret (pe_ifExp (pt_cmpR op_eq (pe_dget1 (hu_of hr) (pv 2) (pv 1) ⟨by rfl, by rfl, by rfl, by rfl⟩) (pe_gstr (st_REFUSED T) rfl) (nomark _)) (pe_tup (pa_cons pe_str (pa_cons (pv 1) pa_nil))) pe_non))) pss_nil)
      (pss_cons (ps_if (PW.pt (pw_and (pt_cmpR op_isN (pv 4) pe_non (nomark _)) (pw_and (pt_cmp (pc_dnotin (hu_of hr) (pv 1) (pv 2))) (pw_and1 (pt_cmpR (op_ninK (K := K) rfl) (pv 1) (pv 3) (by rfl)))))) (pss_one (ps_ret (pe_tup (pa_cons pe_str (pa_cons (pv 1) pa_nil))))) pss_nil)
      (pss_cons (ps_set (i := 6) sc_failure_at.nd rfl (Or.inl rfl) (pe_cR (ok_is_version T) hr (by rfl) (pa_cons (pv 4) (pa_cons (pe_ix (ix_tupK (K := K) rfl) (pe_fldK (K := K) rfl (pv 0) rfl) pe_int (fun _ _ => rfl)) pa_nil))))
      (pss_cons (ps_if (PW.pt (pw_and (pt_val (pv 5)) (pw_and1 (pt_val (pv 6))))) (pss_one (ps_ret (pe_tup (pa_cons pe_str (pa_cons (pv 1) pa_nil))))) pss_nil)
      (pss_one (ps_ret (pe_ifExp (PW.pt (pw_or (pt_val (pv 5)) (pw_or1 (pt_val (pv 6))))) pe_non (pe_tup (pa_cons pe_str (pa_cons (pv 1) pa_nil))))))))))), ?_⟩
    refine q_par (d := optFate (getG m.fates key)) (e := .bool ((getG li key).isSome && hsOf cs "lays")) (e_cons (d_getK (v_fates T (ev_var rfl) hm) hm.fates (d_var rfl r1) fun _ _ => fate_get _ _) (e_cons (Evd.to (d_and (d_inK (d_var rfl r1) (ev_var rfl) ha) fun _ => d_call (a_consV (ev_var rfl) (a_cons d_str a_nil)) fun H1 e1 => ⟨p, sc, cs, m, _, rfl, ⟨o, hm.ex e1⟩, rfl⟩) (by rw [marks_in])) e_nil)) fun w1 w2 H1 e1 s1 s2 => ?_
    have hm := hm.ex e1
    have r1 := Dp.ex r1 e1
    have r3 := Dp.ex r3 e1
    have ha := e1 a _ ha
    have k : ∀ (v : V) (H' : Hp), Ex H1 H' → Dp K H' v _ → Q v H' := fun v H' e r => k v H' (e1.trans e) r
    unfold failureAt at k
    refine q_when (b := decide (getG m.fates key = some .ref)) (evt_to (t_test (d_eqS (d_var rfl s1) d_str (eqv_fateR _).2)) (eqv_fateR _).1) (fun hb H2 e2 => ?_) fun hb H2 e2 => ?_
    · rw [of_decide_eq_true hb] at k
      have hm := hm.ex e2
      have r1 := Dp.ex r1 e2
      have ha := e2 a _ ha
      refine s_retD (Evd.to (d_if (b := decide (getG li key = some .ref)) (d := Fail.d ⟨.kept, key⟩) (e := .none) (evt_to (t_test (d_eqS (d_getK (ev_var rfl) ha (d_var rfl r1) fun _ _ => mark_get _ _) d_str (eqv_markR _).2)) (eqv_markR _).1) (fun _ => failTup .kept (d_var rfl r1) rfl) fun _ => d_non) ?_) fun v H' e r => k v H' (e2.trans e) r
      by_cases hk : getG li key = some .ref
      · rw [decide_eq_true hk, if_pos rfl]
        simp only [hk, if_true]
        rfl
      · rw [decide_eq_false hk, if_neg Bool.false_ne_true]
        simp only [hk, if_false]
        rfl
    · have hm := hm.ex e2
      have r1 := Dp.ex r1 e2
      have r3 := Dp.ex r3 e2
      have ha := e2 a _ ha
      have s1 := Dp.ex s1 e2
      have s2 := Dp.ex s2 e2
      have k : ∀ (v : V) (H' : Hp), Ex H2 H' → Dp K H' v _ → Q v H' := fun v H' e r => k v H' (e2.trans e) r
      refine q_when (b := (getG m.fates key).isNone && ((getG li key).isNone && !decide (key ∈ uw))) (et_and (evt_to (t_test (d_isN (d_var rfl s1))) (isNon_fate _)) fun _ => et_and (evt_to (t_B (d_ninK (d_var rfl r1) (ev_var rfl) ha)) (by rw [marks_in, Option.not_isSome])) fun _ => t_test (d_ninI (d_var rfl r1) (d_var rfl r3) (.inl rfl))) (fun hb2 H3 e3 => ?_) fun hb2 H3 e3 => ?_
      · cases hf : getG m.fates key with
        | some f => rw [hf] at hb2; cases hb2
        | none =>
          rw [hf] at hb2 k
          have hb2 : ((getG li key).isNone && !decide (key ∈ uw)) = true := hb2
          simp only [hb2, if_true] at k
          exact s_retD (failTup .lost (d_var rfl (Dp.ex r1 e3)) rfl) fun v H' e r => k v H' (e3.trans e) r
      · have hm := hm.ex e3
        have r1 := Dp.ex r1 e3
        have s1 := Dp.ex s1 e3
        have s2 := Dp.ex s2 e3
        have k : ∀ (v : V) (H' : Hp), Ex H3 H' → Dp K H' v _ → Q v H' := fun v H' e r => k v H' (e3.trans e) r
        refine q_asgD (d := .bool (isInt (optFate (getG m.fates key)) 0 m.seenV)) (d_call (a_cons (d_var rfl s1) (a_cons (d_ixT (d_seen T (ev_var rfl) hm) d_int (by rfl)) a_nil)) fun _ _ => ⟨_, _, rfl, flat_fate _, rfl⟩) fun w4 H4 e4 s4 => ?_
        have r1 := Dp.ex r1 e4
        have s2 := Dp.ex s2 e4
        have k : ∀ (v : V) (H' : Hp), Ex H4 H' → Dp K H' v _ → Q v H' := fun v H' e r => k v H' (e4.trans e) r
        refine q_when (b := ((getG li key).isSome && hsOf cs "lays") && isInt (optFate (getG m.fates key)) 0 m.seenV) (et_and (t_B (d_var rfl s2)) fun _ => t_B (d_var rfl s4)) (fun hb4 H5 e5 => ?_) fun hb4 H5 e5 => ?_
        · refine s_retD (failTup .twice (d_var rfl (Dp.ex r1 e5)) rfl) fun v H' e r => k v H' (e5.trans e) (Eq.mp (congrArg (Dp K H' v) ?_) r)
          cases hf : getG m.fates key with
          | none => rw [hf, Bool.and_eq_true] at hb4; exact absurd hb4.2 (by intro z; cases z)
          | some f =>
            cases f with
            | ref => rw [hf] at hb; exact absurd hb (by intro z; cases z)
            | ver n =>
              rw [hf] at hb4
              have hb4 : (((getG li key).isSome && hsOf cs "lays") && isVerF (.ver n) m.seenV) = true := hb4
              simp only [hb4, if_true]
              rfl
        · refine s_retD (Evd.to (d_if (b := ((getG li key).isSome && hsOf cs "lays") || isInt (optFate (getG m.fates key)) 0 m.seenV) (d := .none) (e := Fail.d ⟨.hidden, key⟩) (et_or (t_B (d_var rfl (Dp.ex s2 e5))) fun _ => t_B (d_var rfl (Dp.ex s4 e5))) (fun _ => d_non) fun _ => failTup .hidden (d_var rfl (Dp.ex r1 e5)) rfl) ?_) fun v H' e r => k v H' (e5.trans e) r
          cases hf : getG m.fates key with
          | none =>
            rw [hf] at hb2
            have hb2 : ((getG li key).isNone && !decide (key ∈ uw)) = false := hb2
            have e : isInt (optFate none) 0 m.seenV = false := rfl
            simp only [hb2, e, Bool.or_false]
            cases ((getG li key).isSome && hsOf cs "lays") <;> rfl
          | some f =>
            cases f with
            | ref => rw [hf] at hb; exact absurd hb (by intro z; cases z)
            | ver n =>
              rw [hf] at hb4
              have hb4 : (((getG li key).isSome && hsOf cs "lays") && isVerF (.ver n) m.seenV) = false := hb4
              have e : isInt (optFate (some (.ver n))) 0 m.seenV = isVerF (.ver n) m.seenV := rfl
              simp only [hb4, e]
              cases (((getG li key).isSome && hsOf cs "lays") || isVerF (.ver n) m.seenV) <;> rfl
end
end Sc


/-! Sc8: failure_of of machines; the deeds of a scheme; a scheme made. -/
namespace Sc
open PySem PySem.Spec PyProof.Rows L2 Evl
theorem marks_listed (m : M) : m.rows.foldl (fun acc (r : Row) => putK acc (Sum.inl r.key) r.mark.v) [] = marksK (listed m) := by
  have gen : ∀ (rs : List Row) (acc : List (Int × Mark)), rs.foldl (fun acc (r : Row) => putK acc (Sum.inl r.key) r.mark.v) (marksK acc) = marksK (rs.foldl (fun acc r => putG acc r.key r.mark) acc) := by
    intro rs
    induction rs with
    | nil => intro acc; rfl
    | cons r rs ih =>
      intro acc
      rw [List.foldl_cons, List.foldl_cons]
      have e : putK (marksK acc) (Sum.inl r.key) r.mark.v = marksK (putG acc r.key r.mark) := putK_img r.key r.mark acc
      rw [e, ih]
  exact gen m.rows []
def isEditL : Letter → Bool
  | .edit _ _ => true
  | _ => false
def keyE : Letter → Int
  | .edit k _ => k
  | .answer k _ => k
  | _ => 0
theorem under_eq (m : M) : ((m.post.filter isEditL).map fun l => PyData.int (keyE l)) = (underWay m).map .int := by
  unfold underWay
  induction m.post with
  | nil => rfl
  | cons l r ih =>
    cases l with
    | edit k e => exact congrArg (List.cons (PyData.int k)) ih
    | _ => exact ih
theorem isEdit_d (l : Letter) {K : PySem.W.Frag} {σ : L2.St} {H : Hp} {te : TE} (h : Evd K te σ H l.d) : Evd K (tOp rEq (tOp (rIxT K) te (tC (.int 0))) (tC (.str "edit"))) σ H (.bool (isEditL l)) := by
  cases l with
  | edit k e => exact Evd.to (d_eqStr (d_ixT h d_int (by rfl)) d_str) (congrArg PyData.bool (show decide (("edit" : Sx) = "edit") = true by decide +kernel))
  | answer k e => exact Evd.to (d_eqStr (d_ixT h d_int (by rfl)) d_str) (congrArg PyData.bool (show decide (("answer" : Sx) = "edit") = false by decide +kernel))
  | ask => exact Evd.to (d_eqStr (d_ixT h d_int (by rfl)) d_str) (congrArg _ (by decide +kernel))
  | copy k e => exact Evd.to (d_eqStr (d_ixT h d_int (by rfl)) d_str) (congrArg PyData.bool (show decide (("copy" : Sx) = "edit") = false by decide +kernel))
theorem findSome_take {α β : Type} {f : α → Option β} : ∀ {l : List α} {i : Nat} {a : α} {b : β}, (∀ j x, j < i → l[j]? = some x → f x = none) → l[i]? = some a → f a = some b → l.findSome? f = some b
  | [], _, _, _, _, h, _ => by simp at h
  | x :: r, 0, a, b, _, h, hb => by
    simp at h
    subst h
    simp [hb]
  | x :: r, i + 1, a, b, hn, h, hb => by
    have h0 := hn 0 x (Nat.zero_lt_succ _) rfl
    rw [List.findSome?_cons, h0]
    exact findSome_take (i := i) (fun j y hj hy => hn (j + 1) y (Nat.succ_lt_succ hj) (by simpa using hy)) (by simpa using h) hb
theorem findSome_none {α β : Type} {f : α → Option β} {l : List α} (h : ∀ (j : Nat) x, j < l.length → l[j]? = some x → f x = none) : l.findSome? f = none := by
  rw [List.findSome?_eq_none_iff]
  intro x hx
  obtain ⟨j, hj, e⟩ := List.mem_iff_getElem.mp hx
  exact h j x hj (by rw [List.getElem?_eq_getElem hj, e])
def plains : List Pl := [.send, .again, .ask, .other, .reload]
def lws : List LW := [.carry, .double, .lose, .refuse]
def allDeeds (s : Sch) : List Deed := (s.kinds.map .edit ++ plains.map .plain) ++ lws.flatMap fun w => (List.range s.way).map fun i => .letr w i
def deedOk (s : Sch) : Deed → Prop
  | .edit e => e ∈ s.kinds
  | .plain _ => True
  | .letr _ i => i < s.way
def sp_deeds_of (K : PySem.W.Frag) : Sp := spP K fun H as r => ∃ x s, as = [.val (.ref x)] ∧ SchAt K H x s ∧ r = .list ((allDeeds s).map Deed.d)
def sp_is_deed_of (K : PySem.W.Frag) : Sp := spP K fun H as r => ∃ x s d, as = [.val (.ref x), .dat (Deed.d d)] ∧ SchAt K H x s ∧ deedOk s d ∧ r = .bool true
theorem q_asgK {σ : L2.St} {H : Hp} {te : TE} {kvs : List (Key × V)} {i : Nat} {tz : TS} {D : Ends} (h : EvK te σ H kvs) (k : ∀ p H1, H p = none → Ex H H1 → H1 p = some (.dK kvs) → tz D (σ.set i (some (.ref p))) H1) : tSeq (tAsg te (gName i)) tz D σ H := h H (Ex.refl H) _ fun p H1 hp q h1 => k p H1 hp q h1
theorem way_le {s : Sch} (h : SchOk s) : s.way ≤ 2 := by rcases h.2.2 with h | h <;> omega
theorem room_le {s : Sch} (h : SchOk s) : s.room ≤ 2 := by rcases h.2.1 with h | h <;> omega
theorem kinds_le {s : Sch} (h : SchOk s) : s.kinds.length ≤ 2 := by rcases h.1 with h | h | h <;> simp [h]
section
variable {P : Program} {w : World} {K : PySem.W.Frag} {mg : PySem.Str → Option Value} {base : Heap}
abbrev nm_failure_of_machines : List PySem.Str := ["machine", "under_way", "listed", "key", "failure", "letter", "edit", "mark"]
theorem sc_failure_of_machines : FnScope nm_failure_of_machines ["machine"] (defScope s_failure_of_machines) := ⟨rfl, rfl, rfl, by decide +kernel, rfl, by decide +kernel, by decide +kernel⟩
theorem ok_failure_of_machines (T : Tx K mg) : FR P w K mg base 4 "failure_of_machines" (sp_failure_of_machines K) := by
  refine fr_of (k := 3) (N := nm_failure_of_machines) (ps := ["machine"]) (gl_failure_of_machines T) (T.c.d.def_ 33 (d := d_failure_of_machines)) sc_failure_of_machines (fun _ _ _ _ _ _ us hl => match us, hl with | [_], _ => rfl) (fun vs H Q E h => ?_) (fun cdv A outer s H vs Q E hr h => ?_)
  · obtain ⟨as, r, hA, ⟨p, sc, cs, m, rfl, hm, h0, rfl⟩, k⟩ := h
    exact hA.length
  · obtain ⟨as, r, hA, ⟨p, sc, cs, m, rfl, ⟨o, hm⟩, h0, rfl⟩, k⟩ := h
    obtain ⟨v0, _, rfl, rfl, rfl⟩ := hA
    refine ⟨_, (pss_cons (ps_setLc (i := 1) (own := [("letter", 5)]) rfl sc_failure_of_machines.nd rfl rfl (sw_true rfl rfl rfl (by decide +kernel)) (pi_listK (K := K) rfl (pe_fldK (K := K) rfl (pv 0) rfl)) (blkOk_by (own := [("letter", 5)]) (N := nm_failure_of_machines) (sc := defScope s_failure_of_machines) (by decide +kernel)) (fun _ _ _ _ _ => (pg_name (i := 5) sc_failure_of_machines.nd rfl (Or.inl rfl))) (fun _ _ _ _ _ => (pts_one (pt_cmpR op_eq (pe_ix (ix_tupK (K := K) rfl) (pv 5) pe_int (fun _ _ => rfl)) pe_str (nomark _)))) (fun _ _ _ _ _ => (pe_ix (ix_tupK (K := K) rfl) (pv 5) pe_int (fun _ _ => rfl))))
      (pss_cons (ps_setDc (i := 2) (own := [("key", 3), ("edit", 6), ("mark", 7)]) rfl sc_failure_of_machines.nd rfl rfl (sw_trueD rfl rfl rfl (by decide +kernel)) (pi_listK (K := K) rfl (pe_fldK (K := K) rfl (pv 0) rfl)) (blkOk_by (own := [("key", 3), ("edit", 6), ("mark", 7)]) (N := nm_failure_of_machines) (sc := defScope s_failure_of_machines) (by decide +kernel)) (fun _ _ _ _ _ => (pg_tupK (K := K) (n := 3) rfl rfl (pgs_cons (pg_name (i := 3) sc_failure_of_machines.nd rfl (Or.inl rfl)) (pgs_cons (pg_name (i := 6) sc_failure_of_machines.nd rfl (Or.inl rfl)) (pgs_cons (pg_name (i := 7) sc_failure_of_machines.nd rfl (Or.inl rfl)) pgs_nil))))) (fun _ _ _ _ _ => pts_nil) (fun _ _ _ _ _ => (pv 3)) (fun _ _ _ _ _ => (pv 7)))
      (pss_cons (ps_for PassesOwn.never rfl (pi_range1 rfl (fr_range T) (pa_cons (pe_fldK (K := K) rfl (pv 0) rfl) pa_nil)) (pg_name (i := 3) sc_failure_of_machines.nd rfl (Or.inl rfl)) (pss_cons (ps_set (i := 4) sc_failure_of_machines.nd rfl (Or.inl rfl) (pe_cR (ok_failure_at T) hr (by rfl) (pa_cons (pv 0) (pa_cons (pv 3) (pa_cons (pv 2) (pa_cons (pv 1) pa_nil))))))
      (pss_one (ps_if (pt_cmpR op_notN (pv 4) pe_non (nomark _)) (pss_one (ps_ret (pv 4))) pss_nil))))
      (pss_one (ps_ret pe_non))))), ?_⟩
    refine q_asgD (Evd.to (Evn.evd (n_lc (xs := m.post) (enc := Letter.d) (p := isEditL) (f := fun l => .int (keyE l)) (src_list (d_post T (ev_var rfl) hm)) (fun _ => rfl) (fun _ _ => rfl) (Nat.le_trans hm.bd.p (by decide)) fun l hl v H1 e r => ⟨t_test (isEdit_d l (d_var rfl r)), fun hp => by
      cases l with
      | edit kk ee => exact d_ixT (d_var rfl r) d_int (by rfl)
      | _ => cases hp⟩)) (congrArg _ (under_eq m))) fun w1 H1 e1 s1 => ?_
    have hm := hm.ex e1
    refine q_asgK (k_dc3 (xs := m.rows) (e1 := fun r => .int r.key) (e2 := fun r => .str r.edit.s) (e3 := fun r => r.mark.d) (key := fun r => Sum.inl r.key) (val := fun r => r.mark.v) (src_list (d_rows T (ev_var rfl) hm)) (fun _ _ _ => rfl) (Nat.le_trans hm.bd.r (by decide)) (fun r hr v1 v2 v3 H2 e r1 r2 r3 => ⟨(d_var rfl r1).int, ?_⟩)) fun a H2 _ e2 ha => ?_
    · have z : v3 = r.mark.v := by
        cases hmk : r.mark <;> (rw [hmk] at r3; cases r3; rfl)
      subst z
      exact ev_var rfl
    · rw [marks_listed] at ha
      have hm := hm.ex e2
      have s1 := Dp.ex s1 e2
      have k : ∀ (v : V) (H' : Hp), Ex H2 H' → Dp K H' v _ → Q v H' := fun v H' e r => k v H' ((e1.trans e2).trans e) r
      have hn : (m.made.toNat : Int) = m.made := Int.toNat_of_nonneg h0
      have hb := hm.bd.m
      refine q_forS (ds := intsP m.made.toNat) (src_range (n := m.made.toNat) (Evd.to (d_made T (ev_var rfl) hm) (by rw [hn])) (by omega)) (fun H3 i σ' H' => Ex H3 H' ∧ (∃ c d, σ' = [some (.ref p), some w1, some (.ref a), c, d, none, none, none]) ∧ ∀ j : Nat, j < i → failureAt (hsOf cs) m (j : Int) (listed m) (underWay m) = none) (fun H3 e3 => ⟨Ex.refl _, ⟨_, _, rfl⟩, fun j hj => absurd hj (Nat.not_lt_zero _)⟩) (fun H3 i σ' H' P => P.1) (fun H3 i d v σ' H4 e3 hd rd P => ?_) fun H3 σ' H4 e3 P => ?_
      · obtain ⟨e4, ⟨c, d', rfl⟩, hno⟩ := P
        have hdi : i < m.made.toNat ∧ d = .int (i : Int) := by
          unfold intsP at hd
          rw [List.getElem?_map] at hd
          obtain ⟨x, hx, rfl⟩ := Option.map_eq_some_iff.mp hd
          obtain ⟨h1, h2⟩ := List.getElem?_eq_some_iff.mp hx
          rw [List.length_range] at h1
          rw [List.getElem_range] at h2
          subst h2
          exact ⟨h1, rfl⟩
        obtain ⟨hi, rfl⟩ := hdi
        have e34 := e3.trans e4
        refine q_asgD (d := failD (failureAt (hsOf cs) m (i : Int) (listed m) (underWay m))) (d_call (a_consV (ev_var rfl) (a_cons (d_var rfl rd) (a_consV (ev_var rfl) (a_cons (d_var rfl (Dp.ex s1 e34)) a_nil)))) fun H5 e5 => ⟨p, sc, cs, m, _, a, _, _, rfl, ⟨o, (hm.ex e34).ex e5⟩, e5 a _ (e34 a _ ha), rfl⟩) fun w5 H5 e5 s5 => ?_
        cases hf : failureAt (hsOf cs) m (i : Int) (listed m) (underWay m) with
        | some f =>
          rw [hf] at s5
          refine s_when (b := true) (t_test (d_notN (d_var rfl s5))) (fun _ H6 e6 => s_retD (d_var rfl (Dp.ex s5 e6)) fun v H' e r => k v H' (((e34.trans e5).trans e6).trans e) ?_) fun z => nomatch z
          have z : failureOf (hsOf cs) m = some f := by
            unfold failureOf
            refine findSome_take (i := i) (a := i) (fun j x hj hx => ?_) (by simp [hi]) hf
            have hx2 : x = j := by
              have := (List.getElem?_eq_some_iff.mp hx).2
              rw [List.getElem_range] at this
              exact this.symm
            subst hx2
            exact hno x hj
          rw [z]
          exact r
        | none =>
          rw [hf] at s5
          refine s_when (b := false) (t_test (d_notN (d_var rfl s5))) (fun z => nomatch z) fun _ H6 e6 => ⟨(e4.trans e5).trans e6, ⟨_, _, rfl⟩, fun j hj => ?_⟩
          by_cases hji : j = i
          · subst hji; exact hf
          · exact hno j (by omega)
      · obtain ⟨e4, ⟨c, d', rfl⟩, hno⟩ := P
        refine s_retD (K := K) d_non fun v H' e r => k v H' ((e3.trans e4).trans e) ?_
        have z : failureOf (hsOf cs) m = none := by
          unfold failureOf
          refine findSome_none fun j x hj hx => ?_
          have hx2 : x = j := by
            have := (List.getElem?_eq_some_iff.mp hx).2
            rw [List.getElem_range] at this
            exact this.symm
          subst hx2
          rw [List.length_range] at hj
          exact hno x (by rw [intsP_len]; exact hj)
        rw [z]
        exact r
abbrev nm_deeds_of : List PySem.Str := ["scheme", "found", "one", "word", "index"]
theorem sc_deeds_of : FnScope nm_deeds_of ["scheme"] (defScope s_deeds_of) := ⟨rfl, rfl, rfl, by decide +kernel, rfl, by decide +kernel, by decide +kernel⟩
theorem ok_deeds_of (T : Tx K mg) : FR P w K mg base 1 "deeds_of" (sp_deeds_of K) := by
  refine fr_of (k := 0) (N := nm_deeds_of) (ps := ["scheme"]) (gl_deeds_of T) (T.c.d.def_ 10 (d := d_deeds_of)) sc_deeds_of (fun _ _ _ _ _ _ us hl => match us, hl with | [_], _ => rfl) (fun vs H Q E h => ?_) (fun cdv A outer s H vs Q E hr h => ?_)
  · obtain ⟨as, r, hA, ⟨x, sc, rfl, hs, rfl⟩, k⟩ := h
    exact hA.length
  · obtain ⟨as, r, hA, ⟨x, sc, rfl, hs, rfl⟩, k⟩ := h
    obtain ⟨v0, _, rfl, rfl, rfl⟩ := hA
    refine ⟨_, (pss_cons (ps_set (i := 1) sc_deeds_of.nd rfl (Or.inl rfl) (pe_op op_cat (pe_lc (own := [("one", 2)]) rfl sc_deeds_of.nd (pi_tupK (K := K) rfl (pe_fldK (K := K) rfl (pv 0) rfl)) (blkOk_by (own := [("one", 2)]) (N := nm_deeds_of) (sc := defScope s_deeds_of) (by decide +kernel)) (fun _ _ _ _ _ => (pg_name (i := 2) sc_deeds_of.nd rfl (Or.inl rfl))) (fun _ _ _ _ _ => pts_nil) (fun _ _ _ _ _ => (pe_tup (pa_cons pe_str (pa_cons (pv 2) pa_nil))))) (pe_lc (own := [("word", 3)]) rfl sc_deeds_of.nd (pi_tupK (K := K) rfl (pe_gref (gl_PLAIN T) rfl)) (blkOk_by (own := [("word", 3)]) (N := nm_deeds_of) (sc := defScope s_deeds_of) (by decide +kernel)) (fun _ _ _ _ _ => (pg_name (i := 3) sc_deeds_of.nd rfl (Or.inl rfl))) (fun _ _ _ _ _ => pts_nil) (fun _ _ _ _ _ => (pe_tup (pa_cons (pv 3) pa_nil))))))
      (pss_one (ps_ret (pe_op op_cat (pv 1) (pe_lc2 (own := [("word", 3), ("index", 4)]) (vs1 := [4]) rfl sc_deeds_of.nd (pi_tupK (K := K) rfl (pe_gref (gl_OF_LETTERS T) rfl)) (blkOk_by (own := [("word", 3), ("index", 4)]) (N := nm_deeds_of) (sc := defScope s_deeds_of) (by decide +kernel)) (by decide) (fun _ _ _ _ _ => (pg_name (i := 3) sc_deeds_of.nd rfl (Or.inl rfl))) (fun _ _ _ _ _ => pts_nil) (fun _ _ _ _ _ => (pi_range1 rfl (fr_range T) (pa_cons (pe_fldK (K := K) rfl (pv 0) rfl) pa_nil))) (fun _ _ _ _ _ => (pg_name (i := 4) sc_deeds_of.nd rfl (Or.inl rfl))) (fun _ _ _ _ _ => pts_nil) (fun _ _ _ _ _ => (pe_tup (pa_cons (pv 3) (pa_cons (pv 4) pa_nil))))))))), ?_⟩
    have hk := kinds_le hs.ok
    have hw := way_le hs.ok
    refine q_asgN (n_cat (n_map (xs := sc.kinds) (enc := fun e => .str e.s) (f := fun e => Deed.d (.edit e)) (Src.to (src_tup (d_kinds T (ev_var rfl) hs)) (by rw [List.map_map]; rfl)) (fun _ => rfl) (fun _ _ => rfl) (by omega) fun e he v H1 e1 r => d_tup (e_cons d_str (e_cons (d_var rfl r) e_nil))) (n_map (xs := plains) (enc := fun p => .str p.s) (f := fun p => Deed.d (.plain p)) (src_tup (d_PLAIN T)) (fun _ => rfl) (fun _ _ => rfl) (by decide) fun p hp v H1 e1 r => d_tup (e_cons (d_var rfl r) e_nil)) (by rw [List.length_map, List.length_map]; show _ + 5 ≤ _; omega)) fun l vs H1 hl e1 h1 r1 => ?_
    have hs := hs.ex e1
    refine s_retD (Evd.to (Evn.evd (n_catV (ev_var rfl) h1 r1 (n_lc2 (xs := lws) (enc := fun w => .str w.s) (ys := fun _ => List.range sc.way) (enc1 := fun (i : Nat) => .int (i : Int)) (p := fun _ _ => true) (f := fun w i => Deed.d (.letr w i)) (src_tup (d_LET T)) (fun _ => rfl) (fun _ _ => rfl) (fun _ _ _ _ => rfl) (fun _ _ => rfl) ?_ (fun _ _ => by rw [List.length_range]; omega) (fun w hw' v H2 e r => src_rangeT (d_way T (ev_var rfl) (hs.ex e)) (by omega)) (fun w hw' i hi v v1 H2 e r1 r2 => ⟨t_yes, fun _ => d_tup (e_cons (d_var rfl r1) (e_cons (d_var rfl r2) e_nil))⟩)) ?_)) ?_) fun v H' e r => k v H' (e1.trans e) r
    · intro n
      have h4 : ∀ l : List LW, (l.flatMap fun w => ((List.range sc.way).filter fun _ => true).map fun i => Deed.d (.letr w i)).length ≤ 2 * l.length := by
        intro l
        induction l with
        | nil => exact Nat.le_refl _
        | cons a r ih =>
          rw [List.flatMap_cons, List.length_append, List.length_cons, List.length_map]
          have := List.length_filter_le (fun _ => true) (List.range sc.way)
          rw [List.length_range] at this
          omega
      have := h4 (lws.take n)
      rw [List.length_take] at this
      have h5 : lws.length = 4 := rfl
      omega
    · rw [List.length_append, List.length_map, List.length_map]
      have h4 : ∀ l : List LW, (l.flatMap fun w => ((List.range sc.way).filter fun _ => true).map fun i => Deed.d (.letr w i)).length ≤ 2 * l.length := by
        intro l
        induction l with
        | nil => exact Nat.le_refl _
        | cons a r ih =>
          rw [List.flatMap_cons, List.length_append, List.length_cons, List.length_map]
          have := List.length_filter_le (fun _ => true) (List.range sc.way)
          rw [List.length_range] at this
          omega
      have := h4 lws
      have h5 : lws.length = 4 := rfl
      have h6 : plains.length = 5 := rfl
      omega
    · unfold allDeeds
      rw [List.map_append, List.map_append, List.map_map, List.map_map, List.map_flatMap]
      refine congrArg PyData.list (congr (congrArg HAppend.hAppend rfl) ?_)
      refine congrArg (fun f => lws.flatMap f) (funext fun w => ?_)
      rw [List.filter_eq_self.mpr (fun _ _ => rfl), List.map_map]
      rfl
abbrev nm_all_deeds : List PySem.Str := ["scheme"]
theorem sc_all_deeds : FnScope nm_all_deeds ["scheme"] (defScope s_all_deeds) := ⟨rfl, rfl, rfl, by decide +kernel, rfl, by decide +kernel, by decide +kernel⟩
theorem ok_all_deeds (T : Tx K mg) : FR P w K mg base 4 "all_deeds" (sp_deeds_of K) := by
  refine fr_of (k := 3) (N := nm_all_deeds) (ps := ["scheme"]) (gl_all_deeds T) (T.c.d.def_ 11 (d := d_all_deeds)) sc_all_deeds (fun _ _ _ _ _ _ us hl => match us, hl with | [_], _ => rfl) (fun vs H Q E h => ?_) (fun cdv A outer s H vs Q E hr h => ?_)
  · obtain ⟨as, r, hA, ⟨x, sc, rfl, hs, rfl⟩, k⟩ := h
    exact hA.length
  · obtain ⟨as, r, hA, ⟨x, sc, rfl, hs, rfl⟩, k⟩ := h
    obtain ⟨v0, _, rfl, rfl, rfl⟩ := hA
    refine ⟨_, (pss_cons (ps_expr (pe_cR (ok_check_scheme T) hr (by rfl) (pa_cons (pv 0) pa_nil)))
      (pss_one (ps_ret (pe_cR (ok_deeds_of T) hr (by rfl) (pa_cons (pv 0) pa_nil))))), ?_⟩
    refine q_dropD (d_call (a_consV (ev_var rfl) a_nil) fun H1 e1 => ⟨x, sc, rfl, hs.ex e1, rfl⟩) fun _ H1 e1 _ => ?_
    exact s_retD (d_call (a_consV (ev_var rfl) a_nil) fun H2 e2 => ⟨x, sc, rfl, (hs.ex e1).ex e2, rfl⟩) fun v H' e r => k v H' (e1.trans e) r
abbrev nm_is_deed_of : List PySem.Str := ["scheme", "value"]
theorem sc_is_deed_of : FnScope nm_is_deed_of ["scheme", "value"] (defScope s_is_deed_of) := ⟨rfl, rfl, rfl, by decide +kernel, rfl, by decide +kernel, by decide +kernel⟩
theorem ok_is_deed_of (T : Tx K mg) : FR P w K mg base 2 "is_deed_of" (sp_is_deed_of K) := by
  refine fr_of (k := 1) (N := nm_is_deed_of) (ps := ["scheme", "value"]) (gl_is_deed_of T) (T.c.d.def_ 12 (d := d_is_deed_of)) sc_is_deed_of (fun _ _ _ _ _ _ us hl => match us, hl with | [_, _], _ => rfl) (fun vs H Q E h => ?_) (fun cdv A outer s H vs Q E hr h => ?_)
  · obtain ⟨as, r, hA, ⟨x, sc, d, rfl, hs, hd, rfl⟩, k⟩ := h
    exact hA.length
  · obtain ⟨as, r, hA, ⟨x, sc, d, rfl, hs, hd, rfl⟩, k⟩ := h
    obtain ⟨v0, _, rfl, rfl, v1, _, rfl, r1, rfl⟩ := hA
    refine ⟨_, (pss_cons (ps_if (PW.pt (pw_or (pt_not (pt_val (pe_callB (call_isiK1 (K := K) rfl) (by rfl) (fr_isinstance T) (by decide +kernel) (pa_cons (pv 1) (pa_cons (pe_bltn (v := .ty "tuple") (u := .type "tuple") rfl (fr_tuple T) (by decide +kernel) rfl) pa_nil))))) (pw_or (pt_not (pt_chain op_le op_le pe_int (pe_callB (call_lenK (K := K) rfl) (by rfl) (fr_len T) (by decide +kernel) (pa_cons (pv 1) pa_nil)) pe_int)) (pw_or1 (pt_not (pt_val (pe_callB (call_isiK1 (K := K) rfl) (by rfl) (fr_isinstance T) (by decide +kernel) (pa_cons (pe_ix (ix_tupK (K := K) rfl) (pv 1) pe_int (fun _ _ => rfl)) (pa_cons (pe_bltn (v := .ty "str") (u := .type "str") rfl (fr_str T) (by decide +kernel) rfl) pa_nil))))))))) (pss_one (ps_ret pe_bl)) pss_nil)
      (pss_cons (ps_if (pt_cmpR op_eq (pe_callB (call_lenK (K := K) rfl) (by rfl) (fr_len T) (by decide +kernel) (pa_cons (pv 1) pa_nil)) pe_int (nomark _)) (pss_one (ps_ret (pe_cmpR (op_inK (K := K) rfl) (pe_ix (ix_tupK (K := K) rfl) (pv 1) pe_int (fun _ _ => rfl)) (pe_gref (gl_PLAIN T) rfl) (by rfl)))) pss_nil)
      (pss_cons (ps_if (pt_cmpR op_eq (pe_ix (ix_tupK (K := K) rfl) (pv 1) pe_int (fun _ _ => rfl)) pe_str (nomark _)) (pss_one (ps_ret (pe_and (pe_cR (ok_is_word T) hr (by rfl) (pa_cons (pe_ix (ix_tupK (K := K) rfl) (pv 1) pe_int (fun _ _ => rfl)) (pa_cons (pe_gref (gl_EDITS T) rfl) pa_nil))) (pe_one (pe_cmpR (op_inK (K := K) rfl) (pe_ix (ix_tupK (K := K) rfl) (pv 1) pe_int (fun _ _ => rfl)) (pe_fldK (K := K) rfl (pv 0) rfl) (by rfl)))))) pss_nil)
      (pss_one (ps_ret (pe_and (pe_cmpR (op_inK (K := K) rfl) (pe_ix (ix_tupK (K := K) rfl) (pv 1) pe_int (fun _ _ => rfl)) (pe_gref (gl_OF_LETTERS T) rfl) (by rfl)) (pe_one (pe_cR (ok_is_integer T) hr (by rfl) (pa_cons (pe_ix (ix_tupK (K := K) rfl) (pv 1) pe_int (fun _ _ => rfl)) (pa_cons pe_int (pa_cons (pe_op op_sub (pe_fldK (K := K) rfl (pv 0) rfl) pe_int) pa_nil))))))))))), ?_⟩
    have hlen : ∃ n : Int, (n = 1 ∨ n = 2) ∧ ∃ w r, Deed.d d = .tuple (.str w :: r) ∧ ((r.length + 1 : Nat) : Int) = n := by
      cases d with
      | edit e => exact ⟨2, .inr rfl, _, _, rfl, rfl⟩
      | plain e => exact ⟨1, .inl rfl, _, _, rfl, rfl⟩
      | letr e i => exact ⟨2, .inr rfl, _, _, rfl, rfl⟩
    obtain ⟨n, hn, wd, rst, hdd, hl⟩ := hlen
    have r1' : Dp K H v1 (.tuple (.str wd :: rst)) := hdd ▸ (show Dp K H v1 (Deed.d d) from r1)
    have lenE : ∀ {ta : TE} {σ : L2.St} {H : Hp}, Evd K ta σ H (.tuple (.str wd :: rst)) → Evd K (tCB (fun xs H Q => ∃ p ys, xs = [.ref p] ∧ (SqL K H p ys ∨ SqT K H p ys) ∧ Q (.int ys.length) H) (tCons ta tNil)) σ H (.int n) := fun h => Evd.to (d_lenS h (.inr rfl)) (by rw [List.length_cons, hl])
    refine q_when (b := false) (et_or (a := false) (b := false) (et_not (a := true) (t_B (d_isi (d_var rfl r1') (kb_tuple _)))) fun _ => et_or (a := false) (b := false) (et_not (a := true) (evt_to (t_test (d_chainI d_int (lenE (d_var rfl r1')) d_int)) ?_)) fun _ => et_not (a := true) (t_B (d_isi (d_ixT (d_var rfl r1') d_int at0) (kb_str _)))) (fun z => nomatch z) fun _ H1 e1 => ?_
    · rcases hn with rfl | rfl <;> rfl
    · have r1' := Dp.ex r1' e1
      have r1 : Dp K H1 v1 (Deed.d d) := Dp.ex r1 e1
      have hs := hs.ex e1
      refine q_when (b := decide (n = 1)) (t_test (d_eqInt (lenE (d_var rfl r1')) d_int)) (fun hb H2 e2 => ?_) fun hb H2 e2 => ?_
      · have hn1 := of_decide_eq_true hb
        cases d with
        | plain pl =>
          refine s_retD (Evd.to (d_inS (s := pl.s) (d_ixT (d_var rfl (Dp.ex r1 e2)) d_int (by rfl)) (d_PLAIN T) (.inr rfl)) ?_) fun v H' e r => k v H' ((e1.trans e2).trans e) r
          cases pl <;> exact congrArg _ (by decide +kernel)
        | edit e => injection hdd with h1; injection h1 with _ h2; subst h2; rw [← hl] at hn1; exact absurd (show (2 : Int) = 1 from hn1) (by decide)
        | letr e i => injection hdd with h1; injection h1 with _ h2; subst h2; rw [← hl] at hn1; exact absurd (show (2 : Int) = 1 from hn1) (by decide)
      · have hn1 := of_decide_eq_false hb
        have r1 := Dp.ex r1 e2
        have hs := hs.ex e2
        have k : ∀ (v : V) (H' : Hp), Ex H2 H' → Dp K H' v _ → Q v H' := fun v H' e r => k v H' ((e1.trans e2).trans e) r
        cases d with
        | plain pl => injection hdd with h1; injection h1 with _ h2; subst h2; rw [← hl] at hn1; exact absurd rfl hn1
        | edit e =>
          refine q_when (b := true) (evt_to (t_test (d_eqStr (d_ixT (d_var rfl r1) d_int (by rfl)) d_str)) (by decide +kernel)) (fun _ H3 e3 => ?_) fun z => nomatch z
          have r1 := Dp.ex r1 e3
          have hs := hs.ex e3
          refine s_retD (Evd.to (d_and (b := true) (c := true) (Evd.to (d_call (d := .bool (isWord (.str e.s) edits2)) (a_cons (d_ixT (d_var rfl r1) d_int (by rfl)) (a_cons (d_EDITS T) a_nil)) fun _ _ => ⟨.str e.s, edits2, rfl, rfl, rfl⟩) ?_) fun _ => Evd.to (d_inS (s := e.s) (ss := sc.kinds.map Ed.s) (d_ixT (d_var rfl r1) d_int (by rfl)) (d_kinds T (ev_var rfl) hs) (.inr rfl)) ?_) rfl) fun v H' e r => k v H' (e3.trans e) r
          · cases e <;> exact congrArg _ (by decide +kernel)
          · exact congrArg _ (decide_eq_true (List.mem_map_of_mem hd))
        | letr lw i =>
          refine q_when (b := false) (evt_to (t_test (d_eqStr (a := lw.s) (d_ixT (d_var rfl r1) d_int (by rfl)) d_str)) (by cases lw <;> decide +kernel)) (fun z => nomatch z) fun _ H3 e3 => ?_
          have r1 := Dp.ex r1 e3
          have hs := hs.ex e3
          refine s_retD (Evd.to (d_and (b := true) (c := true) (Evd.to (d_inS (s := lw.s) (d_ixT (d_var rfl r1) d_int (by rfl)) (d_LET T) (.inr rfl)) ?_) fun _ => Evd.to (d_call (d := .bool (isInt (.int (i : Int)) 0 ((sc.way : Int) - 1))) (a_cons (d_ixT (d_var rfl r1) d_int (by rfl)) (a_cons d_int (a_cons (d_sub (d_way T (ev_var rfl) hs) d_int) a_nil))) fun _ _ => ⟨_, _, _, rfl, rfl, rfl⟩) ?_) rfl) fun v H' e r => k v H' (e3.trans e) r
          · cases lw <;> exact congrArg _ (by decide +kernel)
          · have hd : i < sc.way := hd
            refine congrArg _ ?_
            show (decide ((0 : Int) ≤ (i : Int)) && decide ((i : Int) ≤ (sc.way : Int) - 1)) = true
            rw [decide_eq_true (by omega), decide_eq_true (by omega)] <;> rfl
end
end Sc


/-! Sc9: a machine that is written; the small writers. -/
namespace Sc
open PySem PySem.Spec PyProof.Rows L2 Evl
theorem cr_sortedLK {X : Cx} {K : PySem.W.Frag} (hK : X.K = K) : CallR X (.builtin "sorted") (rSortedL K) := hK ▸ cr_sortedL
/-! ### what is walked, new things allowed -/
def YPE (K : PySem.W.Frag) (ds : List PD) : Nat → Hp → V → Hp → Prop := fun i H x H' => Ex H H' ∧ ∃ d, ds[i]? = some d ∧ Dp K H' x d
def SrcE (K : PySem.W.Frag) (wi : TI) (σ : L2.St) (H : Hp) (ds : List PD) : Prop := ∀ H1, Ex H H1 → ∀ R : It → Hp → Prop, (∀ J H2, Ex H1 H2 → Walk J ds.length (fun H' => Ex H2 H') (YPE K ds) → R J H2) → wi σ H1 R
section
variable {K : PySem.W.Frag} {σ : L2.St} {H H' H1 H2 : Hp} {ta tb tc te tl td : TE} {t u : TT} {d e : PD} {v x y : V} {ds es : List PD} {g : TG} {wi : TI} {i j : Nat}
theorem src_items {α : Type} {enc : α → V} {encd : α → PD} {l : List (Int × α)} {a : Addr} {o : Obj} (hd : Ev td σ H (.ref a)) (ha : H a = some (.frz o (.dK (l.map fun p => ((Sum.inl p.1 : L2.Key), enc p.2))))) (hv : ∀ x H, Dp K H (enc x) (encd x)) :
    SrcE K (iItems td) σ H (l.map fun p => .tuple [.int p.1, encd p.2]) := fun H1 q1 R k => hd H1 q1 _ fun H2 q2 => by
  refine ⟨a, o, _, rfl, q2 a _ (q1 a _ ha), k _ H2 q2 ?_⟩
  have w := walk_items (d := a) (o := o) (kvs := l.map fun p => ((Sum.inl p.1 : L2.Key), enc p.2))
  rw [List.length_map] at w ⊢
  refine w.mono (fun H' e => e a _ (q2 a _ (q1 a _ ha))) fun i H3 x H4 hi e y => ?_
  obtain ⟨T, kk, vv, rfl, hT, rfl, h1, h2⟩ := y
  refine ⟨Ex.new hT, ?_⟩
  simp only [List.getElem?_map] at h1 h2 ⊢
  cases hp : l[i]? with
  | none => rw [hp] at h1; cases h1
  | some p =>
    rw [hp] at h1 h2
    cases h1
    cases h2
    exact ⟨_, rfl, .tup (st_of upd_same) (.cons (.int _) (.cons (hv _ _) .nil))⟩
theorem n_lcE {α : Type} {xs : List α} {enc : α → PD} {p : α → Bool} {f : α → PD} {vs : List Nat} {B : α → Hp → L2.St → Prop} (hs : SrcE K wi σ H (xs.map enc)) (hg : Tgt K g (wipe σ vs) enc B) (hw : ∀ x H1 σ2, B x H1 σ2 → wipe σ2 vs = wipe σ vs) (hI : ∀ x ∈ xs, Imm (f x) = true) (hz : xs.length ≤ 40000)
    (hel : ∀ x ∈ xs, ∀ σ2 H1, Ex H H1 → B x H1 σ2 → EvT t σ2 H1 (p x) ∧ (p x = true → Evd K te σ2 H1 (f x))) : Evn K (tLc wi g t te vs) σ H ((xs.filter p).map f) := fun H1 a Q k =>
  hs H1 a _ fun J H2 q2 W D hD => by
    rw [List.length_map] at W
    refine lc_it W (fun i H' => Ex H2 H' ∧ ∃ acc, H' D = some (.lst acc) ∧ DpAll K H' acc (((xs.take i).filter p).map f)) ⟨Ex.new hD, [], upd_same, .nil⟩ (fun i H' _ P => P.1) (fun i x H3 H4 hi P Y => ?_) fun H3 P => ?_
    · obtain ⟨ex0, acc, hacc0, hdp0⟩ := P
      obtain ⟨ey, d, hd, rd⟩ := Y
      have ex := ex0.trans ey
      have hacc := ey D _ hacc0
      have hdp := hdp0.ex ey
      rw [List.getElem?_map] at hd
      obtain ⟨xi, hxi, rfl⟩ := Option.map_eq_some_iff.mp hd
      have hmem : xi ∈ xs := List.mem_of_getElem? hxi
      have htk : xs.take (i + 1) = xs.take i ++ [xi] := by rw [List.take_succ, hxi] <;> rfl
      have hlen : acc.length ≤ 40000 := by
        rw [hdp.length, List.length_map]
        exact Nat.le_trans (List.length_filter_le _ _) (by rw [List.length_take]; omega)
      refine hg.go xi x _ rd _ fun σ2 hB => ⟨hw _ _ _ hB, ?_⟩
      obtain ⟨h1, h2⟩ := hel xi hmem σ2 _ ((a.trans q2).trans ex) hB
      refine h1 _ (Ex.refl _) _ fun H5 q5 => ?_
      cases hp : p xi with
      | true =>
        show te σ2 H5 fun y H4 => ∃ acc, H4 D = some (.lst acc) ∧ acc.length < sizeLine ∧ _
        refine h2 hp H5 q5 _ fun w H6 q6 r6 => ⟨acc, q6 D _ (q5 D _ hacc), sz_lt (by omega), ((ex.trans q5).trans q6).mut hD, _, upd_same, ?_⟩
        rw [htk, List.filter_append, List.map_append]
        have e1 : [xi].filter p = [xi] := by simp [hp]
        rw [e1]
        have T : Tk H6 (upd H6 D (.lst (acc ++ [w]))) := Tk.lst (q6 D _ (q5 D _ hacc))
        exact ((hdp.ex (q5.trans q6)).tk T (immAll_map f fun z hz => hI z (List.mem_of_mem_take (List.mem_filter.mp hz).1))).append (.one (r6.tk T (hI xi hmem)))
      | false =>
        show Ex H2 H5 ∧ ∃ acc, H5 D = some (.lst acc) ∧ DpAll K H5 acc (((xs.take (i + 1)).filter p).map f)
        refine ⟨ex.trans q5, acc, q5 D _ hacc, ?_⟩
        rw [htk, List.filter_append, List.map_append]
        have e1 : [xi].filter p = [] := by simp [hp]
        rw [e1]
        simpa using hdp.ex q5
    · obtain ⟨ex, acc, hacc, hdp⟩ := P
      rw [List.take_of_length_le (Nat.le_refl _)] at hdp
      exact k D acc H3 (fresh_back q2 hD) (q2.trans ex) hacc hdp
theorem n_lcPE {α : Type} {xs : List α} {e1 e2 : α → PD} {p : α → Bool} {f : α → PD} {vs : List Nat} {j1 j2 : Nat} (hs : SrcE K wi σ H (xs.map fun x => .tuple [e1 x, e2 x])) (hw : ∀ v1 v2, wipe (((wipe σ vs).set j1 (some v1)).set j2 (some v2)) vs = wipe σ vs) (hI : ∀ x ∈ xs, Imm (f x) = true) (hz : xs.length ≤ 40000)
    (hel : ∀ x ∈ xs, ∀ v1 v2 H1, Ex H H1 → Dp K H1 v1 (e1 x) → Dp K H1 v2 (e2 x) → EvT t (((wipe σ vs).set j1 (some v1)).set j2 (some v2)) H1 (p x) ∧ (p x = true → Evd K te (((wipe σ vs).set j1 (some v1)).set j2 (some v2)) H1 (f x))) :
    Evn K (tLc wi (gTup K 2 (gCons (gName j1) (gCons (gName j2) gNil))) t te vs) σ H ((xs.filter p).map f) :=
  n_lcE hs tgt_two (fun x H1 σ2 ⟨v1, v2, _, _, e⟩ => by rw [e]; exact hw v1 v2) hI hz fun x hx σ2 H1 a ⟨v1, v2, r1, r2, e⟩ => by rw [e]; exact hel x hx v1 v2 H1 a r1 r2
theorem n_lock {kvs : List (L2.Key × V)} {a : Addr} (hd : H a = some (.dK kvs)) (hi : ImmAll ds = true) (h : ∀ od, Evn K te σ (upd H a (.frz od (.dK kvs))) ds) : Evn K (tLockE te) σ H ds := fun H1 q1 Q k => by
  refine ⟨a, .dK kvs, q1 a _ hd, True.intro, fun od => ?_⟩
  refine h od (upd H1 a (.frz od (.dK kvs))) (fun b o e => ?_) _ fun p vs H2 hp q2 h2 r2 => ?_
  · by_cases hb : b = a
    · subst hb
      rw [upd_same] at e ⊢
      exact e
    · rw [upd_ne hb] at e ⊢
      exact q1 b o e
  · have hpa : p ≠ a := fun e => by rw [e, upd_same] at hp; cases hp
    rw [upd_ne hpa] at hp
    have h2a : H2 a = some (.frz od (.dK kvs)) := q2 a _ upd_same
    refine ⟨h2a, k p vs _ hp (fun b o e => ?_) (by rw [upd_ne hpa]; exact h2) (r2.tk (Tk.upd fun xs r => ?_) hi)⟩
    · by_cases hb : b = a
      · subst hb
        rw [q1 b _ hd] at e
        rw [upd_same]
        exact e
      · rw [upd_ne hb]
        exact q2 b o (by rw [upd_ne hb]; exact e)
    · rcases r with r | ⟨o, r⟩ <;> (rw [h2a] at r; cases r)
end
/-! ### a machine held: G is what others hold -/
structure Sep (K : PySem.W.Frag) (G H : Hp) (p : Addr) (s : Sch) (o : Own) : Prop where
  ex : Ex G H
  pl : SchAt K G o.plan s
  gp : G p = none
  gr : G o.rows = none
  go : G o.post = none
  gf : G o.fates = none
  ga : G o.passed = none
  gt : G o.trail = none
  d1 : o.rows ≠ o.post
  d2 : o.rows ≠ o.trail
  d3 : o.post ≠ o.trail
  d4 : o.fates ≠ o.passed
def Mach (K : PySem.W.Frag) (G H : Hp) (p : Addr) (s : Sch) (cs : List Sx) (m : M) : Prop := ∃ o, MAt K H p s cs m o ∧ Sep K G H p s o
structure Parts (K : PySem.W.Frag) (H : Hp) (cs : List Sx) (m : M) (o : Own) : Prop where
  given : Dp K H o.given (.tuple (cs.map .str))
  seen : Dp K H o.seen (.tuple [.int m.seenV, .int m.seenN])
  rows : ∃ vs, H o.rows = some (.lst vs) ∧ DpAll K H vs (m.rows.map Row.d)
  post : ∃ vs, H o.post = some (.lst vs) ∧ DpAll K H vs (m.post.map Letter.d)
  fates : H o.fates = some (.dK (fatesK m.fates))
  passed : H o.passed = some (.dK (passedK m.passed))
  fin : Dp K H o.fin (failD m.fin)
  trail : ∃ vs, H o.trail = some (.lst vs) ∧ vs.length = m.trail
  bd : Bd m
theorem imm_strs (cs : List Sx) : Imm (.tuple (cs.map .str)) = true := by
  show ImmAll (cs.map .str) = true
  exact immAll_map _ fun _ _ => rfl
theorem imm_rows (m : M) : ImmAll (m.rows.map Row.d) = true := immAll_map _ fun x _ => imm_Row x
theorem imm_post (l : List Letter) : ImmAll (l.map Letter.d) = true := immAll_map _ fun x _ => imm_Letter x
section
variable {K : PySem.W.Frag} {mg : Sx → Option Value} {σ : L2.St} {G H H' : Hp} {ta tv : TE} {p : Addr} {s : Sch} {cs : List Sx} {m m' : M} {o o' : Own}
theorem MAt.parts (h : MAt K H p s cs m o) : Parts K H cs m o := ⟨h.given, h.seen, h.rows, h.post, h.fates, h.passed, h.fin, h.trail, h.bd⟩
theorem Sep.mono (h : Sep K G H p s o) (e : Ex H H') : Sep K G H' p s o := { h with ex := h.ex.trans e }
theorem Mach.ex (h : Mach K G H p s cs m) (e : Ex H H') : Mach K G H' p s cs m := let ⟨o, h1, h2⟩ := h; ⟨o, h1.ex e, h2.mono e⟩
theorem Mach.at (h : Mach K G H p s cs m) : MachP K H p s cs m := let ⟨o, h1, _⟩ := h; ⟨o, h1⟩
theorem Mach.gex (h : Mach K G H p s cs m) : Ex G H := let ⟨_, _, h⟩ := h; h.ex
theorem Mach.bd (h : Mach K G H p s cs m) : Bd m := let ⟨_, h, _⟩ := h; h.bd
theorem Mach.ok (h : Mach K G H p s cs m) : SchOk s := let ⟨_, _, h⟩ := h; h.pl.ok
theorem Tk.ob {a : Addr} {u w : HO} (h : H a = some u) (n1 : ∀ xs, u ≠ .tup xs) (n2 : ∀ o xs, u ≠ .frz o (.tup xs)) : Tk H (upd H a w) := Tk.upd fun xs r => by
  rcases r with r | ⟨o, r⟩
  · rw [h] at r; exact n1 _ (Option.some.inj r)
  · rw [h] at r; exact n2 _ _ (Option.some.inj r)
theorem gmut (e : Ex G H) {a : Addr} {u : HO} (g : G a = none) : Ex G (upd H a u) := e.mut g
theorem Mach.wr (h : MAt K H p s cs m o) (S : Sep K G H p s o') (P : Parts K H cs m' o') (e : o'.dx = o.dx) : Mach K G (upd H p (.ins (He.ga K "Machine") o.dx (MF o' m'))) p s cs m' ∧ Tk H (upd H p (.ins (He.ga K "Machine") o.dx (MF o' m'))) := by
  have tk : Tk H (upd H p (.ins (He.ga K "Machine") o.dx (MF o' m'))) := Tk.ob h.ob (fun _ z => nomatch z) fun _ _ z => nomatch z
  have eg : Ex G (upd H p (.ins (He.ga K "Machine") o.dx (MF o' m'))) := S.ex.mut S.gp
  have ne : ∀ {a : Addr} {xs : List V}, H a = some (.lst xs) → a ≠ p := fun ha z => by rw [z, h.ob] at ha; cases ha
  have ne' : ∀ {a : Addr} {xs : List (L2.Key × V)}, H a = some (.dK xs) → a ≠ p := fun ha z => by rw [z, h.ob] at ha; cases ha
  obtain ⟨v1, h1, g1⟩ := P.rows
  obtain ⟨v2, h2, g2⟩ := P.post
  obtain ⟨v3, h3, g3⟩ := P.trail
  refine ⟨⟨o', ⟨?_, S.pl.ex eg, P.given.tk tk (imm_strs cs), P.seen.tk tk, ⟨v1, ?_, g1.tk tk (imm_rows _)⟩, ⟨v2, ?_, g2.tk tk (imm_post _)⟩, ?_, ?_, P.fin.tk tk (imm_failD _), ⟨v3, ?_, g3⟩, P.bd⟩, { S with ex := eg }⟩, tk⟩
  · rw [e]; exact upd_same
  · rw [upd_ne (ne h1)]; exact h1
  · rw [upd_ne (ne h2)]; exact h2
  · rw [upd_ne (ne' P.fates)]; exact P.fates
  · rw [upd_ne (ne' P.passed)]; exact P.passed
  · rw [upd_ne (ne h3)]; exact h3
/-- the statement `machine.f = e` -/
theorem s_fldD {f : Sx} {D : Ends} {i : Nat} {d : PD} (T : Tx K mg) (hx : σ[i]? = some (some (.ref p))) (hm : MAt K H p s cs m o) (hS : Sep K G H p s o) (n : NoAttr K (He.ga K "Machine") f) (hv : Evd K tv σ H d)
    (k : ∀ v H1, Ex H H1 → Dp K H1 v d → MAt K H1 p s cs m o → Sep K G H1 p s o → D.nx σ (upd H1 p (.ins (He.ga K "Machine") o.dx (putF f v (MF o m))))) : sFld K (tVar i) tv f D σ H := hv H (Ex.refl _) _ fun v H1 e1 r1 =>
  ⟨_, hx, p, _, _, _, rfl, (hm.ex e1).ob, cl_Machine T, n, by show (12 : Nat) < 1000; decide, k v H1 e1 r1 (hm.ex e1) (hS.mono e1)⟩
theorem s_fldN {f : Sx} {D : Ends} {i : Nat} {ds : List PD} (T : Tx K mg) (hx : σ[i]? = some (some (.ref p))) (hm : MAt K H p s cs m o) (hS : Sep K G H p s o) (n : NoAttr K (He.ga K "Machine") f) (hv : Evn K tv σ H ds)
    (k : ∀ l vs H1, H l = none → Ex H H1 → H1 l = some (.lst vs) → DpAll K H1 vs ds → MAt K H1 p s cs m o → Sep K G H1 p s o → D.nx σ (upd H1 p (.ins (He.ga K "Machine") o.dx (putF f (.ref l) (MF o m))))) : sFld K (tVar i) tv f D σ H := hv H (Ex.refl _) _ fun l vs H1 hl e1 h1' r1 =>
  ⟨_, hx, p, _, _, _, rfl, (hm.ex e1).ob, cl_Machine T, n, by show (12 : Nat) < 1000; decide, k l vs H1 hl e1 h1' r1 (hm.ex e1) (hS.mono e1)⟩
theorem s_fldA {f : Sx} {D : Ends} {i : Nat} {a b : Int} (T : Tx K mg) (hx : σ[i]? = some (some (.ref p))) (hm : MAt K H p s cs m o) (hS : Sep K G H p s o) (n : NoAttr K (He.ga K "Machine") f) (hl : (MF o m).lookup f = some (.int a)) (hv : Evd K tv σ H (.int b))
    (k : ∀ H1, Ex H H1 → MAt K H1 p s cs m o → Sep K G H1 p s o → D.nx σ (upd H1 p (.ins (He.ga K "Machine") o.dx (putF f (.int (a + b)) (MF o m))))) : sFldAug K (tVar i) tv rAdd f D σ H :=
  ⟨_, hx, p, _, _, _, _, rfl, hm.ob, cl_Machine T, n, hl, hv.int H (Ex.refl _) _ fun H1 e1 => ⟨a, b, rfl, rfl, _, _, (hm.ex e1).ob, by show (12 : Nat) < 1000; decide, k H1 e1 (hm.ex e1) (hS.mono e1)⟩⟩
theorem gnone (e : Ex G H) {a : Addr} (h : H a = none) : G a = none := fresh_back e h
theorem nold {H : Hp} {a b : Addr} {u : HO} (h : H a = some u) (h' : H b = none) : a ≠ b := fun z => by rw [z, h'] at h; cases h
/-! the statements by fields -/
variable {D : Ends} {i : Nat} {tz : TS}
theorem s_post {ls : List Letter} (T : Tx K mg) (hx : σ[i]? = some (some (.ref p))) (hm : Mach K G H p s cs m) (hv : Evn K tv σ H (ls.map Letter.d)) (hz : ls.length ≤ 1000) (k : ∀ H1, Mach K G H1 p s cs { m with post := ls } → Tk H H1 → D.nx σ H1) : sFld K (tVar i) tv "post" D σ H := by
  obtain ⟨o, hA, S⟩ := hm
  obtain ⟨y1, z1, _⟩ := hA.rows
  obtain ⟨y3, z3, _⟩ := hA.trail
  refine s_fldN T hx hA S (na_Machine_post T) hv fun l vs H1 hl e1 h1 r1 hA1 S1 => ?_
  have hg : G l = none := gnone S.ex hl
  have z := Mach.wr (G := G) (m' := { m with post := ls }) (o' := { o with post := l }) hA1 ⟨S1.ex, S1.pl, S1.gp, S1.gr, hg, S1.gf, S1.ga, S1.gt, nold z1 hl, S1.d2, (nold z3 hl).symm, S1.d4⟩ ⟨hA1.given, hA1.seen, hA1.rows, ⟨vs, h1, r1⟩, hA1.fates, hA1.passed, hA1.fin, hA1.trail, { hA1.bd with p := hz }⟩ rfl
  exact k _ z.1 ((Tk.of e1).trans z.2)
theorem s_rows {ls : List Row} (T : Tx K mg) (hx : σ[i]? = some (some (.ref p))) (hm : Mach K G H p s cs m) (hv : Evn K tv σ H (ls.map Row.d)) (hz : ls.length ≤ 1000) (k : ∀ H1, Mach K G H1 p s cs { m with rows := ls } → Tk H H1 → D.nx σ H1) : sFld K (tVar i) tv "rows" D σ H := by
  obtain ⟨o, hA, S⟩ := hm
  obtain ⟨y1, z1, _⟩ := hA.post
  obtain ⟨y3, z3, _⟩ := hA.trail
  refine s_fldN T hx hA S (na_Machine_rows T) hv fun l vs H1 hl e1 h1 r1 hA1 S1 => ?_
  have hg : G l = none := gnone S.ex hl
  have z := Mach.wr (G := G) (m' := { m with rows := ls }) (o' := { o with rows := l }) hA1 ⟨S1.ex, S1.pl, S1.gp, hg, S1.go, S1.gf, S1.ga, S1.gt, (nold z1 hl).symm, (nold z3 hl).symm, S1.d3, S1.d4⟩ ⟨hA1.given, hA1.seen, ⟨vs, h1, r1⟩, hA1.post, hA1.fates, hA1.passed, hA1.fin, hA1.trail, { hA1.bd with r := hz }⟩ rfl
  exact k _ z.1 ((Tk.of e1).trans z.2)
theorem s_seen {v n : Int} (T : Tx K mg) (hx : σ[i]? = some (some (.ref p))) (hm : Mach K G H p s cs m) (hv : Evd K tv σ H (.tuple [.int v, .int n])) (k : ∀ H1, Mach K G H1 p s cs { m with seenV := v, seenN := n } → Tk H H1 → D.nx σ H1) : sFld K (tVar i) tv "seen" D σ H := by
  obtain ⟨o, hA, S⟩ := hm
  refine s_fldD T hx hA S (na_Machine_seen T) hv fun w H1 e1 r1 hA1 S1 => ?_
  have z := Mach.wr (G := G) (m' := { m with seenV := v, seenN := n }) (o' := { o with seen := w }) hA1 ⟨S1.ex, S1.pl, S1.gp, S1.gr, S1.go, S1.gf, S1.ga, S1.gt, S1.d1, S1.d2, S1.d3, S1.d4⟩ ⟨hA1.given, r1, hA1.rows, hA1.post, hA1.fates, hA1.passed, hA1.fin, hA1.trail, { hA1.bd with }⟩ rfl
  exact k _ z.1 ((Tk.of e1).trans z.2)
theorem s_end {f : Option Fail} (T : Tx K mg) (hx : σ[i]? = some (some (.ref p))) (hm : Mach K G H p s cs m) (hv : Evd K tv σ H (failD f)) (k : ∀ H1, Mach K G H1 p s cs { m with fin := f } → Tk H H1 → D.nx σ H1) : sFld K (tVar i) tv "end" D σ H := by
  obtain ⟨o, hA, S⟩ := hm
  refine s_fldD T hx hA S (na_Machine_end T) hv fun w H1 e1 r1 hA1 S1 => ?_
  have z := Mach.wr (G := G) (m' := { m with fin := f }) (o' := { o with fin := w }) hA1 ⟨S1.ex, S1.pl, S1.gp, S1.gr, S1.go, S1.gf, S1.ga, S1.gt, S1.d1, S1.d2, S1.d3, S1.d4⟩ ⟨hA1.given, hA1.seen, hA1.rows, hA1.post, hA1.fates, hA1.passed, r1, hA1.trail, { hA1.bd with }⟩ rfl
  exact k _ z.1 ((Tk.of e1).trans z.2)
theorem s_stored {n : Int} (T : Tx K mg) (hx : σ[i]? = some (some (.ref p))) (hm : Mach K G H p s cs m) (hv : Evd K tv σ H (.int n)) (k : ∀ H1, Mach K G H1 p s cs { m with stored := n } → Tk H H1 → D.nx σ H1) : sFld K (tVar i) tv "stored" D σ H := by
  obtain ⟨o, hA, S⟩ := hm
  refine s_fldD T hx hA S (na_Machine_stored T) hv fun w H1 e1 r1 hA1 S1 => ?_
  cases r1
  have z := Mach.wr (G := G) (m' := { m with stored := n }) (o' := o) hA1 S1 ⟨hA1.given, hA1.seen, hA1.rows, hA1.post, hA1.fates, hA1.passed, hA1.fin, hA1.trail, { hA1.bd with }⟩ rfl
  exact k _ z.1 ((Tk.of e1).trans z.2)
theorem s_written {n : Int} (T : Tx K mg) (hx : σ[i]? = some (some (.ref p))) (hm : Mach K G H p s cs m) (hv : Evd K tv σ H (.int n)) (k : ∀ H1, Mach K G H1 p s cs { m with written := m.written + n } → Tk H H1 → D.nx σ H1) : sFldAug K (tVar i) tv rAdd "written" D σ H := by
  obtain ⟨o, hA, S⟩ := hm
  refine s_fldA T hx hA S (na_Machine_written T) (by rfl) hv fun H1 e1 hA1 S1 => ?_
  have z := Mach.wr (G := G) (m' := { m with written := m.written + n }) (o' := o) hA1 S1 ⟨hA1.given, hA1.seen, hA1.rows, hA1.post, hA1.fates, hA1.passed, hA1.fin, hA1.trail, { hA1.bd with }⟩ rfl
  exact k _ z.1 ((Tk.of e1).trans z.2)
theorem s_made {n : Int} (T : Tx K mg) (hx : σ[i]? = some (some (.ref p))) (hm : Mach K G H p s cs m) (hv : Evd K tv σ H (.int n)) (hz : m.made + n ≤ 1000) (k : ∀ H1, Mach K G H1 p s cs { m with made := m.made + n } → Tk H H1 → D.nx σ H1) : sFldAug K (tVar i) tv rAdd "made" D σ H := by
  obtain ⟨o, hA, S⟩ := hm
  refine s_fldA T hx hA S (na_Machine_made T) (by rfl) hv fun H1 e1 hA1 S1 => ?_
  have z := Mach.wr (G := G) (m' := { m with made := m.made + n }) (o' := o) hA1 S1 ⟨hA1.given, hA1.seen, hA1.rows, hA1.post, hA1.fates, hA1.passed, hA1.fin, hA1.trail, { hA1.bd with m := hz }⟩ rfl
  exact k _ z.1 ((Tk.of e1).trans z.2)
/-! in place -/
theorem q_nx {t : TS} (h : t { D with nx := tz D } σ H) : tSeq t tz D σ H := h
theorem hne {H : Hp} {a b : Addr} {u w : HO} (h : H a = some u) (h' : H b = some w) (d : u ≠ w) : a ≠ b := ne_of h h' d
theorem Mach.w_rows {xs ys : List V} {rs : List Row} (hA : MAt K H p s cs m o) (S : Sep K G H p s o) (h : H o.rows = some (.lst xs)) (r : DpAll K H ys (rs.map Row.d)) (hz : rs.length ≤ 1000) : Mach K G (upd H o.rows (.lst ys)) p s cs { m with rows := rs } ∧ Tk H (upd H o.rows (.lst ys)) := by
  have tk : Tk H (upd H o.rows (.lst ys)) := Tk.ob h (fun _ z => nomatch z) fun _ _ z => nomatch z
  have eg : Ex G (upd H o.rows (.lst ys)) := S.ex.mut S.gr
  obtain ⟨v2, h2, g2⟩ := hA.post
  obtain ⟨v3, h3, g3⟩ := hA.trail
  refine ⟨⟨o, ⟨?_, S.pl.ex eg, hA.given.tk tk (imm_strs cs), hA.seen.tk tk, ⟨ys, upd_same, r.tk tk (imm_rows { m with rows := rs })⟩, ⟨v2, ?_, g2.tk tk (imm_post _)⟩, ?_, ?_, hA.fin.tk tk (imm_failD _), ⟨v3, ?_, g3⟩, { hA.bd with r := hz }⟩, { S with ex := eg }⟩, tk⟩
  · rw [upd_ne (hne hA.ob h (fun z => nomatch z))]; exact hA.ob
  · rw [upd_ne S.d1.symm]; exact h2
  · rw [upd_ne (hne hA.fates h (fun z => nomatch z))]; exact hA.fates
  · rw [upd_ne (hne hA.passed h (fun z => nomatch z))]; exact hA.passed
  · rw [upd_ne S.d2.symm]; exact h3
theorem Mach.w_trail {xs ys : List V} {n : Nat} (hA : MAt K H p s cs m o) (S : Sep K G H p s o) (h : H o.trail = some (.lst xs)) (r : ys.length = n) : Mach K G (upd H o.trail (.lst ys)) p s cs { m with trail := n } ∧ Tk H (upd H o.trail (.lst ys)) := by
  have tk : Tk H (upd H o.trail (.lst ys)) := Tk.ob h (fun _ z => nomatch z) fun _ _ z => nomatch z
  have eg : Ex G (upd H o.trail (.lst ys)) := S.ex.mut S.gt
  obtain ⟨v2, h2, g2⟩ := hA.post
  obtain ⟨v3, h3, g3⟩ := hA.rows
  refine ⟨⟨o, ⟨?_, S.pl.ex eg, hA.given.tk tk (imm_strs cs), hA.seen.tk tk, ⟨v3, ?_, g3.tk tk (imm_rows m)⟩, ⟨v2, ?_, g2.tk tk (imm_post _)⟩, ?_, ?_, hA.fin.tk tk (imm_failD _), ⟨ys, upd_same, r⟩, { hA.bd with }⟩, { S with ex := eg }⟩, tk⟩
  · rw [upd_ne (hne hA.ob h (fun z => nomatch z))]; exact hA.ob
  · rw [upd_ne S.d2]; exact h3
  · rw [upd_ne S.d3]; exact h2
  · rw [upd_ne (hne hA.fates h (fun z => nomatch z))]; exact hA.fates
  · rw [upd_ne (hne hA.passed h (fun z => nomatch z))]; exact hA.passed
theorem Mach.w_fates {fs : List (Int × Fate)} (hA : MAt K H p s cs m o) (S : Sep K G H p s o) (hz : fs.length ≤ 1000) : Mach K G (upd H o.fates (.dK (fatesK fs))) p s cs { m with fates := fs } ∧ Tk H (upd H o.fates (.dK (fatesK fs))) := by
  have h := hA.fates
  have tk : Tk H (upd H o.fates (.dK (fatesK fs))) := Tk.ob h (fun _ z => nomatch z) fun _ _ z => nomatch z
  have eg : Ex G (upd H o.fates (.dK (fatesK fs))) := S.ex.mut S.gf
  obtain ⟨v1, h1, g1⟩ := hA.rows
  obtain ⟨v2, h2, g2⟩ := hA.post
  obtain ⟨v3, h3, g3⟩ := hA.trail
  refine ⟨⟨o, ⟨?_, S.pl.ex eg, hA.given.tk tk (imm_strs cs), hA.seen.tk tk, ⟨v1, ?_, g1.tk tk (imm_rows m)⟩, ⟨v2, ?_, g2.tk tk (imm_post _)⟩, upd_same, ?_, hA.fin.tk tk (imm_failD _), ⟨v3, ?_, g3⟩, { hA.bd with f := hz }⟩, { S with ex := eg }⟩, tk⟩
  · rw [upd_ne (hne hA.ob h (fun z => nomatch z))]; exact hA.ob
  · rw [upd_ne (hne h1 h (fun z => nomatch z))]; exact h1
  · rw [upd_ne (hne h2 h (fun z => nomatch z))]; exact h2
  · rw [upd_ne S.d4.symm]; exact hA.passed
  · rw [upd_ne (hne h3 h (fun z => nomatch z))]; exact h3
theorem Mach.w_passed {n : Nat} (hA : MAt K H p s cs m o) (S : Sep K G H p s o) (hz : n ≤ 1000) : Mach K G (upd H o.passed (.dK (passedK n))) p s cs { m with passed := n } ∧ Tk H (upd H o.passed (.dK (passedK n))) := by
  have h := hA.passed
  have tk : Tk H (upd H o.passed (.dK (passedK n))) := Tk.ob h (fun _ z => nomatch z) fun _ _ z => nomatch z
  have eg : Ex G (upd H o.passed (.dK (passedK n))) := S.ex.mut S.ga
  obtain ⟨v1, h1, g1⟩ := hA.rows
  obtain ⟨v2, h2, g2⟩ := hA.post
  obtain ⟨v3, h3, g3⟩ := hA.trail
  refine ⟨⟨o, ⟨?_, S.pl.ex eg, hA.given.tk tk (imm_strs cs), hA.seen.tk tk, ⟨v1, ?_, g1.tk tk (imm_rows m)⟩, ⟨v2, ?_, g2.tk tk (imm_post _)⟩, ?_, upd_same, hA.fin.tk tk (imm_failD _), ⟨v3, ?_, g3⟩, { hA.bd with a := hz }⟩, { S with ex := eg }⟩, tk⟩
  · rw [upd_ne (hne hA.ob h (fun z => nomatch z))]; exact hA.ob
  · rw [upd_ne (hne h1 h (fun z => nomatch z))]; exact h1
  · rw [upd_ne (hne h2 h (fun z => nomatch z))]; exact h2
  · rw [upd_ne S.d4]; exact hA.fates
  · rw [upd_ne (hne h3 h (fun z => nomatch z))]; exact h3
theorem s_addRow {r : Row} (T : Tx K mg) (hx : σ[i]? = some (some (.ref p))) (hm : Mach K G H p s cs m) (hv : Evd K tv σ H r.d) (hz : m.rows.length + 1 ≤ 1000) (k : ∀ H1, Mach K G H1 p s cs { m with rows := m.rows ++ [r] } → Tk H H1 → D.nx σ H1) : tDrop (tBM K "list" rAppend (tFld K (tVar i) "rows") (tCons tv tNil)) D σ H := by
  obtain ⟨o, hA, S⟩ := hm
  obtain ⟨v1, h1, g1⟩ := hA.rows
  refine v_rows T (ev_var hx) hA H (Ex.refl _) (fun x H1 => tyV K "list" x H1 ∧ (tCons tv tNil) σ H1 fun xs H2 => rAppend x xs H2 fun _ H3 => D.nx σ H3) fun H1 e1 => ⟨.inl ⟨rfl, _, sq_of (e1 _ _ h1)⟩, hv H1 e1 _ fun y H2 e2 r2 => ?_⟩
  have e := e1.trans e2
  have hl : v1.length ≤ 1000 := by rw [g1.length, List.length_map]; omega
  refine ⟨_, _, y, rfl, rfl, e _ _ h1, sz_lt (by omega), ?_⟩
  have z := Mach.w_rows (G := G) (rs := m.rows ++ [r]) (hA.ex e) (S.mono e) (e _ _ h1) (ys := v1 ++ [y]) (by rw [List.map_append]; exact (g1.ex e).append (.one r2)) (by rw [List.length_append]; exact hz)
  exact k _ z.1 ((Tk.of e).trans z.2)
theorem s_addTrail {d : PD} (T : Tx K mg) (hx : σ[i]? = some (some (.ref p))) (hm : Mach K G H p s cs m) (hv : Evd K tv σ H d) (hz : m.trail ≤ 40000) (k : ∀ H1, Mach K G H1 p s cs { m with trail := m.trail + 1 } → Tk H H1 → D.nx σ H1) : tDrop (tBM K "list" rAppend (tFld K (tVar i) "trail") (tCons tv tNil)) D σ H := by
  obtain ⟨o, hA, S⟩ := hm
  obtain ⟨v1, h1, g1⟩ := hA.trail
  refine v_trail T (ev_var hx) hA H (Ex.refl _) (fun x H1 => tyV K "list" x H1 ∧ (tCons tv tNil) σ H1 fun xs H2 => rAppend x xs H2 fun _ H3 => D.nx σ H3) fun H1 e1 => ⟨.inl ⟨rfl, _, sq_of (e1 _ _ h1)⟩, hv H1 e1 _ fun y H2 e2 r2 => ?_⟩
  have e := e1.trans e2
  refine ⟨_, _, y, rfl, rfl, e _ _ h1, sz_lt (by omega), ?_⟩
  have z := Mach.w_trail (G := G) (n := m.trail + 1) (hA.ex e) (S.mono e) (e _ _ h1) (ys := v1 ++ [y]) (by rw [List.length_append, g1]; rfl)
  exact k _ z.1 ((Tk.of e).trans z.2)
theorem s_putFate {kk : Int} {f : Fate} (T : Tx K mg) (hx : σ[i]? = some (some (.ref p))) (hm : Mach K G H p s cs m) {tk : TE} (hk : ∀ H1, Ex H H1 → Evd K tk σ H1 (.int kk)) (hv : Evd K tv σ H f.d) (hz : (putG m.fates kk f).length ≤ 1000) (k : ∀ H1, Mach K G H1 p s cs { m with fates := putG m.fates kk f } → Tk H H1 → D.nx σ H1) : sDPut (tFld K (tVar i) "fates") tk tv D σ H := by
  obtain ⟨o, hA, S⟩ := hm
  refine hv H (Ex.refl _) _ fun y H1 e1 r1 => v_fates T (ev_var hx) (hA.ex e1) H1 (Ex.refl _) _ fun H2 e2 => (hk H2 (e1.trans e2)).int H2 (Ex.refl _) _ fun H3 e3 => ?_
  have e := (e1.trans e2).trans e3
  have hy : y = f.v := by cases f <;> (cases r1; rfl)
  subst hy
  have hl := hA.bd.f
  refine ⟨o.fates, _, rfl, DPut.k (k := Sum.inl kk) (hA.ex e).fates (sz_lt (by unfold fatesK; rw [List.length_map]; omega)), ?_⟩
  have z := Mach.w_fates (G := G) (fs := putG m.fates kk f) (hA.ex e) (S.mono e) hz
  have q : putK (fatesK m.fates) (Sum.inl kk) f.v = fatesK (putG m.fates kk f) := putK_img kk f m.fates
  rw [q]
  exact k _ z.1 ((Tk.of e).trans z.2)
/-! the passed keys -/
theorem passed_succ (n : Nat) : passedK (n + 1) = passedK n ++ [(Sum.inl (n : Int), V.bl true)] := by
  unfold passedK
  rw [List.range_succ, List.map_append]
  rfl
theorem passed_get (n : Nat) (k : Int) : (valV (passedK n) (Sum.inl k)).isSome = (decide (0 ≤ k) && decide (k.toNat < n)) := by
  have h : passedK n = ((List.range n).map fun (i : Nat) => ((i : Int), ())).map fun p => ((Sum.inl p.1 : L2.Key), (fun _ : Unit => V.bl true) p.2) := by
    unfold passedK
    rw [List.map_map]
    rfl
  rw [h, valV_img (enc := fun _ : Unit => V.bl true), Option.isSome_map]
  unfold getG
  rw [Option.isSome_map, Bool.eq_iff_iff, List.find?_isSome, Bool.and_eq_true, decide_eq_true_iff, decide_eq_true_iff]
  constructor
  · rintro ⟨x, hx, e⟩
    obtain ⟨j, hj, rfl⟩ := List.mem_map.mp hx
    have e : (j : Int) = k := of_decide_eq_true e
    rw [List.mem_range] at hj
    omega
  · rintro ⟨h1, h2⟩
    exact ⟨((k.toNat : Int), ()), List.mem_map.mpr ⟨k.toNat, List.mem_range.mpr h2, rfl⟩, decide_eq_true (Int.toNat_of_nonneg h1)⟩
theorem passed_any (n j : Nat) : ((passedK n).any fun kv => decide (kv.1 = (Sum.inl (j : Int) : L2.Key))) = decide (j < n) := by
  unfold passedK
  rw [List.any_map, Bool.eq_iff_iff, List.any_eq_true, decide_eq_true_iff]
  constructor
  · rintro ⟨x, hx, e⟩
    have e : (Sum.inl (x : Int) : L2.Key) = Sum.inl (j : Int) := of_decide_eq_true e
    have e := Sum.inl.inj e
    rw [List.mem_range] at hx
    omega
  · exact fun h => ⟨j, List.mem_range.mpr h, decide_eq_true rfl⟩
theorem merge_passed (a : Nat) : ∀ b, mergeK (passedK a) (passedK b) = passedK (max a b)
  | 0 => by rw [Nat.max_zero]; rfl
  | b + 1 => by
    have ih := merge_passed a b
    rw [passed_succ]
    unfold mergeK at ih ⊢
    rw [List.foldl_append, ih]
    show putK (passedK (max a b)) (Sum.inl (b : Int)) (V.bl true) = _
    unfold putK
    rw [passed_any]
    by_cases h : b < a
    · rw [if_pos (decide_eq_true (by omega)), show max a (b + 1) = max a b by omega]
      have : ∀ l : List (L2.Key × V), (∀ p ∈ l, p.2 = V.bl true) → (l.map fun kv => if kv.1 = (Sum.inl (b : Int) : L2.Key) then (kv.1, V.bl true) else kv) = l := by
        intro l hl
        conv => rhs; rw [← List.map_id l]
        refine List.map_congr_left fun p hp => ?_
        by_cases e : p.1 = (Sum.inl (b : Int) : L2.Key)
        · rw [if_pos e, ← hl p hp]; rfl
        · rw [if_neg e]; rfl
      refine this _ fun p hp => ?_
      unfold passedK at hp
      obtain ⟨x, _, rfl⟩ := List.mem_map.mp hp
      rfl
    · rw [if_neg (by rw [decide_eq_true_iff]; omega), show max a (b + 1) = b + 1 by omega, show max a b = b by omega, passed_succ]
theorem s_updPassed {n : Nat} (T : Tx K mg) (hx : σ[i]? = some (some (.ref p))) (hm : Mach K G H p s cs m) (hv : EvK tv σ H (passedK n)) (hz : n ≤ 1000) (k : ∀ H1, Mach K G H1 p s cs { m with passed := max m.passed n } → Tk H H1 → D.nx σ H1) : tDrop (tBM K "dict" rUpdateK (tFld K (tVar i) "passed") (tCons tv tNil)) D σ H := by
  obtain ⟨o, hA, S⟩ := hm
  refine v_passed T (ev_var hx) hA H (Ex.refl _) (fun x H1 => tyV K "dict" x H1 ∧ (tCons tv tNil) σ H1 fun xs H2 => rUpdateK x xs H2 fun _ H3 => D.nx σ H3) fun H1 e1 => ⟨.inr (.inr (.inl ⟨rfl, .inl ⟨_, (hA.ex e1).passed⟩⟩)), hv H1 e1 _ fun l H2 hl e2 h2 => ?_⟩
  have e := e1.trans e2
  have hb := hA.bd.a
  refine ⟨_, _, _, _, rfl, rfl, nold (hA.ex e1).passed hl, (hA.ex e).passed, h2, by unfold passedK; rw [List.length_map, List.length_map, List.length_range, List.length_range]; omega, ?_⟩
  rw [merge_passed]
  have z := Mach.w_passed (G := G) (n := max m.passed n) (hA.ex e) (S.mono e) (by omega)
  exact k _ z.1 ((Tk.of e).trans z.2)
theorem k_range {n : Nat} {tn : TE} {j : Nat} {vs : List Nat} (hn : Evd K tn σ H (.int (n : Int))) (hz : n ≤ 1000) (hw : ∀ v, wipe ((wipe σ vs).set j (some v)) vs = wipe σ vs) (hj : ∀ v, ((wipe σ vs).set j (some v))[j]? = some (some v)) : EvK (tDc (iRng1 (tCons tn tNil)) (gName j) tYes (tVar j) (tC (.bl true)) vs) σ H (passedK n) := by
  have h := k_dc (K := K) (xs := List.range n) (enc := fun (i : Nat) => .int (i : Int)) (key := fun (i : Nat) => (Sum.inl (i : Int) : L2.Key)) (val := fun _ => V.bl true) (tk := tVar j) (tv := tC (.bl true)) (src_range hn (by omega)) hw (by rw [List.length_range]; omega) fun x hx v H1 e r => ⟨by
    cases r
    exact ev_var (hj _), ev_c⟩
  rw [foldl_new (List.Pairwise.map _ (fun a b h e => h (by have := Sum.inl.inj e; omega)) List.nodup_range) fun _ _ => rfl] at h
  exact h
end
end Sc


/-! Sc10: the writers of a machine. -/
namespace Sc
open PySem PySem.Spec PyProof.Rows L2 Evl
/-! ### promises of writers -/
def spM (K : PySem.W.Frag) (P : List Ar → Sch → List Sx → M → M → PD → Prop) : Sp := fun vs H Q _ => ∃ G p s cs m m' as d, Ars K H (.val (.ref p) :: as) vs ∧ Mach K G H p s cs m ∧ P as s cs m m' d ∧ ∀ v H', Mach K G H' p s cs m' → Tk H H' → Dp K H' v d → Q v H'
section
variable {K : PySem.W.Frag} {mg : Sx → Option Value} {σ : L2.St} {G H H' : Hp} {ta tb tn te : TE} {t : TA} {p : Addr} {s : Sch} {cs : List Sx} {m m' : M} {P : List Ar → Sch → List Sx → M → M → PD → Prop} {as : List Ar} {d : PD} {D : Ends} {E : XK} {tz : TS} {i : Nat}
theorem s_dropM (h : Eva K t σ H (.val (.ref p) :: as)) (hm : Mach K G H p s cs m) (hP : P as s cs m m' d) (k : ∀ H', Mach K G H' p s cs m' → Tk H H' → D.nx σ H') : tDrop (tCallR (spM K P) E t) D σ H :=
  h H (Ex.refl _) _ fun vs H1 e1 r1 => ⟨G, p, s, cs, m, m', as, d, r1, hm.ex e1, hP, fun v H' hm' tk _ => k H' hm' ((Tk.of e1).trans tk)⟩
theorem q_dropM (h : Eva K t σ H (.val (.ref p) :: as)) (hm : Mach K G H p s cs m) (hP : P as s cs m m' d) (k : ∀ H', Mach K G H' p s cs m' → Tk H H' → tz D σ H') : tSeq (tDrop (tCallR (spM K P) E t)) tz D σ H := s_dropM (D := { D with nx := tz D }) h hm hP k
theorem s_retM (h : Eva K t σ H (.val (.ref p) :: as)) (hm : Mach K G H p s cs m) (hP : P as s cs m m' d) (k : ∀ v H', Mach K G H' p s cs m' → Tk H H' → Dp K H' v d → D.rt v H') : tRet (tCallR (spM K P) E t) D σ H :=
  h H (Ex.refl _) _ fun vs H1 e1 r1 => ⟨G, p, s, cs, m, m', as, d, r1, hm.ex e1, hP, fun v H' hm' tk r => k v H' hm' ((Tk.of e1).trans tk) r⟩
theorem q_asgM (h : Eva K t σ H (.val (.ref p) :: as)) (hm : Mach K G H p s cs m) (hP : P as s cs m m' d) (k : ∀ v H', Mach K G H' p s cs m' → Tk H H' → Dp K H' v d → tz D (σ.set i (some v)) H') : tSeq (tAsg (tCallR (spM K P) E t) (gName i)) tz D σ H :=
  h H (Ex.refl _) _ fun vs H1 e1 r1 => ⟨G, p, s, cs, m, m', as, d, r1, hm.ex e1, hP, fun v H' hm' tk r => k v H' hm' ((Tk.of e1).trans tk) r⟩
/-! branches that write -/
theorem s_ifM {tt : TT} {tu tw : TS} {b : Bool} {m1 : M} (h : EvT tt σ H b) (hm : Mach K G H p s cs m) (hT : b = true → ∀ (D' : Ends) H1, Ex H H1 → Mach K G H1 p s cs m → (∀ H2, Mach K G H2 p s cs m1 → Tk H1 H2 → D'.nx σ H2) → tu D' σ H1)
    (hF : b = false → ∀ (D' : Ends) H1, Ex H H1 → Mach K G H1 p s cs m → (∀ H2, Mach K G H2 p s cs m1 → Tk H1 H2 → D'.nx σ H2) → tw D' σ H1) (k : ∀ H2, Mach K G H2 p s cs m1 → Tk H H2 → D.nx σ H2) : tIfS tt tu tw D σ H :=
  s_if h (fun hb H1 e1 => hT hb D H1 e1 (hm.ex e1) fun H2 h2 t2 => k H2 h2 ((Tk.of e1).trans t2)) fun hb H1 e1 => hF hb D H1 e1 (hm.ex e1) fun H2 h2 t2 => k H2 h2 ((Tk.of e1).trans t2)
theorem s_whenM {tt : TT} {tu : TS} {b : Bool} {m1 : M} (h : EvT tt σ H b) (hm : Mach K G H p s cs m) (hT : b = true → ∀ (D' : Ends) H1, Ex H H1 → Mach K G H1 p s cs m → (∀ H2, Mach K G H2 p s cs m1 → Tk H1 H2 → D'.nx σ H2) → tu D' σ H1)
    (hF : b = false → m1 = m) (k : ∀ H2, Mach K G H2 p s cs m1 → Tk H H2 → D.nx σ H2) : tIfS tt tu tNext D σ H := s_ifM h hm hT (fun hb D' H1 e1 h1 k' => k' H1 (by rw [hF hb]; exact h1) (Tk.refl _)) k
theorem q_whenM {tt : TT} {tu : TS} {b : Bool} {m1 : M} (h : EvT tt σ H b) (hm : Mach K G H p s cs m) (hT : b = true → ∀ (D' : Ends) H1, Ex H H1 → Mach K G H1 p s cs m → (∀ H2, Mach K G H2 p s cs m1 → Tk H1 H2 → D'.nx σ H2) → tu D' σ H1)
    (hF : b = false → m1 = m) (k : ∀ H2, Mach K G H2 p s cs m1 → Tk H H2 → tz D σ H2) : tSeq (tIfS tt tu tNext) tz D σ H := s_whenM (D := { D with nx := tz D }) h hm hT hF k
/-! sorted -/
theorem pair_perm {α : Type} {ys : List α} {a b : α} (h : ys.Perm [a, b]) : ys = [a, b] ∨ ys = [b, a] := by
  have hl := h.length_eq
  match ys, hl with
  | [x, y], _ =>
    have hx : x = a ∨ x = b := by
      have := h.mem_iff.mp (List.mem_cons_self (a := x) (l := [y]))
      simpa using this
    rcases hx with rfl | rfl
    · left
      have := (List.perm_cons x).mp h
      rw [List.perm_singleton.mp this]
    · right
      have := (List.perm_cons x).mp (h.trans (List.Perm.swap x a []))
      rw [List.perm_singleton.mp this]
theorem n_sorted {ls : List Letter} {l : Letter} (h : Evd K te σ H (.list ((ls ++ [l]).map Letter.d))) (hl : ls.length ≤ 1) (hg : ∀ l' ∈ ls, agree l' l ∧ agree l l') : Evn K (tCB (rSortedL K) (tCons te tNil)) σ H ((insL ls l).map Letter.d) := fun H1 a Q k =>
  h H1 a _ fun v H2 q2 r2 => by
    obtain ⟨q, vs, rfl, hs, hv⟩ := r2.lstV
    have ag : ∀ l : Letter, agree l l := fun l => by
      cases l with
      | answer k f => exact fun _ => rfl
      | _ => exact True.intro
    match ls, hl with
    | [], _ =>
      cases hv with
      | cons r1 t1 =>
        cases t1
        refine ⟨q, _, fun _ => l, rfl, hs, fun x hx => by rw [List.mem_singleton.mp hx]; exact r1, fun _ _ _ _ => ag l, fun ys w h1 h2 hw => ?_⟩
        have := List.perm_singleton.mp h2.perm
        subst this
        exact k w _ _ (fresh_back q2 hw) (q2.trans (Ex.new hw)) upd_same (.cons (r1.ex (Ex.new hw)) .nil)
    | [l1], _ =>
      cases hv with
      | @cons v1 _ _ _ r1 t1 =>
        cases t1 with
        | @cons v2 _ _ _ r2 t2 =>
          cases t2
          have hgl := hg l1 (List.mem_cons_self ..)
          refine ⟨q, _, fun x => if x = v1 then l1 else l, rfl, hs, fun x hx => ?_, fun x hx y hy => ?_, fun ys w h1 h2 hw => ?_⟩
          · show Dp K H2 x (if x = v1 then l1 else l).d
            by_cases e : x = v1
            · rw [if_pos e, e]; exact r1
            · rw [if_neg e]
              have : x = v2 := by simpa [e] using hx
              rw [this]; exact r2
          · show agree (if x = v1 then l1 else l) (if y = v1 then l1 else l)
            by_cases e : x = v1 <;> by_cases e' : y = v1
            · rw [if_pos e, if_pos e']; exact ag _
            · rw [if_pos e, if_neg e']; exact hgl.1
            · rw [if_neg e, if_pos e']; exact hgl.2
            · rw [if_neg e, if_neg e']; exact ag _
          · have insE : insL [l1] l = if ltL l l1 = true then [l, l1] else [l1, l] := rfl
            have fin : DpAll K H2 ys ((insL [l1] l).map Letter.d) := by
              by_cases hv : v2 = v1
              · subst hv
                have : ys = [v2, v2] := by rcases pair_perm h2.perm with e | e <;> exact e
                subst this
                rw [insE]
                split
                · exact .cons r2 (.cons r1 .nil)
                · exact .cons r1 (.cons r2 .nil)
              · rcases pair_perm h2.perm with e | e
                · subst e
                  have z := SrtO.srtd_head h1 v2 (List.mem_cons_self ..)
                  simp only [if_neg hv, if_pos] at z
                  rw [insE]
                  rw [if_neg (by rw [z]; exact Bool.false_ne_true)]
                  exact .cons r1 (.cons r2 .nil)
                · subst e
                  have z := SrtO.srtd_head h1 v1 (List.mem_cons_self ..)
                  simp only [if_neg hv, if_pos] at z
                  rw [insE]
                  by_cases hlt : ltL l l1 = true
                  · rw [if_pos hlt]
                    exact .cons r2 (.cons r1 .nil)
                  · have hlt : ltL l l1 = false := by simpa using hlt
                    have c := h2.cls v1
                    have q1 : SrtO.eqv (fun x y => ltL (if x = v1 then l1 else l) (if y = v1 then l1 else l)) v1 v2 = true := SrtO.eqv_iff.mpr ⟨by simpa [hv] using z, by simpa [hv] using hlt⟩
                    have q2 : SrtO.eqv (fun x y => ltL (if x = v1 then l1 else l) (if y = v1 then l1 else l)) v1 v1 = true := SrtO.eqv_iff.mpr ⟨(swo_L fun x => if x = v1 then l1 else l).refl v1, (swo_L fun x => if x = v1 then l1 else l).refl v1⟩
                    simp only [List.filter_cons, q1, q2, if_true, List.filter_nil] at c
                    exact absurd (List.cons.inj c).1 hv
            exact k w _ _ (fresh_back q2 hw) (q2.trans (Ex.new hw)) upd_same (fin.ex (Ex.new hw))
theorem insL_len (ls : List Letter) (l : Letter) : (insL ls l).length = ls.length + 1 := by
  match ls with
  | [] => rfl
  | [a] =>
    show (if ltL l a = true then [l, a] else [a, l]).length = 2
    split <;> rfl
  | a :: b :: r => unfold insL; simp
end
def agreeAll (m : M) (l : Letter) : Prop := ∀ l' ∈ m.post, agree l' l ∧ agree l l'
def P_send : List Ar → Sch → List Sx → M → M → PD → Prop := fun as s _ m m' d => ∃ l, as = [.dat (Letter.d l)] ∧ agreeAll m l ∧ m' = send1 s m l ∧ d = .none
def P_set_mark : List Ar → Sch → List Sx → M → M → PD → Prop := fun as _ _ m m' d => ∃ k mk, as = [.dat (.int k), .dat (Mark.d mk)] ∧ m' = setMark m k mk ∧ d = .none
def P_leave : List Ar → Sch → List Sx → M → M → PD → Prop := fun as _ _ m m' d => ∃ ks, as = [.dat (.list (ks.map .int))] ∧ m' = leaveK m ks ∧ d = .none
def P_write : List Ar → Sch → List Sx → M → M → PD → Prop := fun as _ _ m m' d => ∃ e, as = [.dat (.str (Ed.s e))] ∧ m' = writeE m e ∧ d = .none
def P_send_edit : List Ar → Sch → List Sx → M → M → PD → Prop := fun as s _ m m' d => ∃ r, as = [.dat (Row.d r)] ∧ m' = sendEdit s m r ∧ d = .none
def P_take_copy : List Ar → Sch → List Sx → M → M → PD → Prop := fun as _ cs m m' d => ∃ v n, as = [.dat (.tuple [.int v, .int n])] ∧ m' = takeCopy (hsOf cs) m v n ∧ d = .none
def P_take_answer : List Ar → Sch → List Sx → M → M → PD → Prop := fun as _ cs m m' d => ∃ k f, as = [.dat (.int k), .dat (Fate.d f)] ∧ m' = takeAnswer (hsOf cs) m k f ∧ d = .none
section
variable {P : Program} {w : World} {K : PySem.W.Frag} {mg : PySem.Str → Option Value} {base : Heap}
theorem d_hasM (T : Tx K mg) {σ : L2.St} {G H : Hp} {p : Addr} {s : Sch} {cs : List Sx} {m : M} {c : Sx} {i : Nat} (hx : σ[i]? = some (some (.ref p))) (hm : Mach K G H p s cs m) : Evd K (tCallR (sp_has K) E0 (tCons (tVar i) (tCons (tC (.str c)) tNil))) σ H (.bool (hsOf cs c)) :=
  d_call (a_consV (ev_var hx) (a_cons d_str a_nil)) fun H6 e6 => ⟨p, s, cs, m, _, rfl, (hm.ex e6).at, rfl⟩
abbrev nm_send : List PySem.Str := ["machine", "letter"]
theorem sc_send : FnScope nm_send ["machine", "letter"] (defScope s_send) := ⟨rfl, rfl, rfl, by decide +kernel, rfl, by decide +kernel, by decide +kernel⟩
theorem ok_send (T : Tx K mg) : FR P w K mg base 1 "send" (spM K P_send) := by
  refine fr_of (k := 0) (N := nm_send) (ps := ["machine", "letter"]) (gl_send T) (T.c.d.def_ 21 (d := d_send)) sc_send (fun _ _ _ _ _ _ us hl => match us, hl with | [_, _], _ => rfl) (fun vs H Q E h => ?_) (fun cdv A outer s H vs Q E hr h => ?_)
  · obtain ⟨G, p, sc, cs, m, m', as, d, hA, hm, ⟨l, rfl, hg, rfl, rfl⟩, k⟩ := h
    exact hA.length
  · obtain ⟨G, p, sc, cs, m, m', as, d, hA, hM, ⟨l, rfl, hg, rfl, rfl⟩, k⟩ := h
    obtain ⟨v0, _, rfl, rfl, v1, _, rfl, r1, rfl⟩ := hA
    refine ⟨_, (pss_one (ps_if (pt_cmpR op_lt (pe_callB (call_lenK (K := K) rfl) (by rfl) (fr_len T) (by decide +kernel) (pa_cons (pe_fldK (K := K) rfl (pv 0) rfl) pa_nil)) (pe_fldK (K := K) rfl (pe_fldK (K := K) rfl (pv 0) rfl) rfl) (nomark _)) (pss_one (ps_fldK (K := K) rfl (pv 0) (pe_callB (cr_sortedLK (K := K) rfl) (by rfl) (fr_sorted T) (by decide +kernel) (pa_cons (pe_lst (pa_starK (K := K) rfl (pe_fldK (K := K) rfl (pv 0) rfl) (pa_cons (pv 1) pa_nil))) pa_nil)) rfl)) pss_nil)), ?_⟩
    have hw := way_le hM.ok
    obtain ⟨o, hm, hS⟩ := id hM
    unfold send1 at k
    refine s_when (b := decide ((m.post.length : Int) < (sc.way : Int))) (t_test (d_lt (Evd.to (d_lenS (d_post T (ev_var rfl) hm) (.inl rfl)) (by rw [List.length_map])) (d_way T (v_plan T (ev_var rfl) hm) hm.plan))) (fun hb H1 e1 => ?_) fun hb H1 e1 => ?_
    · have hlt : m.post.length < sc.way := Int.ofNat_lt.mp (of_decide_eq_true hb)
      rw [if_pos hlt] at k
      have hm := hm.ex e1
      refine s_post T rfl (hM.ex e1) (n_sorted (Evd.to (Evn.evd (n_lst (e_star (d_post T (ev_var rfl) hm) (.inl rfl) (e_cons (d_var rfl (Dp.ex r1 e1)) e_nil)) (by simp; omega))) (by rw [List.map_append]; rfl)) (by omega) hg) (by rw [insL_len]; omega) fun H2 h2 t2 => k .non H2 h2 ((Tk.of e1).trans t2) .non
    · have hlt : ¬ m.post.length < sc.way := fun h => of_decide_eq_false hb (Int.ofNat_lt.mpr h)
      rw [if_neg hlt] at k
      exact k .non H1 (hM.ex e1) (Tk.of e1) .non
theorem markE {σ : L2.St} {H : Hp} {mk old : Mark} {a b : Int} {t : TT} {ta tb : TE} (h : EvT t σ H (decide (a = b))) (h1 : Evd K ta σ H mk.d) (h2 : Evd K tb σ H old.d) : Evd K (tIf t ta tb) σ H (Mark.d (if a = b then mk else old)) := by
  refine Evd.to (d_if h (fun _ => h1) fun _ => h2) ?_
  by_cases e : a = b
  · rw [if_pos e, decide_eq_true e]; rfl
  · rw [if_neg e, decide_eq_false e]; rfl
abbrev nm_set_mark : List PySem.Str := ["machine", "key", "mark", "one", "edit", "old"]
theorem sc_set_mark : FnScope nm_set_mark ["machine", "key", "mark"] (defScope s_set_mark) := ⟨rfl, rfl, rfl, by decide +kernel, rfl, by decide +kernel, by decide +kernel⟩
theorem ok_set_mark (T : Tx K mg) : FR P w K mg base 1 "set_mark" (spM K P_set_mark) := by
  refine fr_of (k := 0) (N := nm_set_mark) (ps := ["machine", "key", "mark"]) (gl_set_mark T) (T.c.d.def_ 22 (d := d_set_mark)) sc_set_mark (fun _ _ _ _ _ _ us hl => match us, hl with | [_, _, _], _ => rfl) (fun vs H Q E h => ?_) (fun cdv A outer s H vs Q E hr h => ?_)
  · obtain ⟨G, p, sc, cs, m, m', as, d, hA, hm, ⟨kk, mk, rfl, rfl, rfl⟩, k⟩ := h
    exact hA.length
  · obtain ⟨G, p, sc, cs, m, m', as, d, hA, hM, ⟨kk, mk, rfl, rfl, rfl⟩, k⟩ := h
    obtain ⟨v0, _, rfl, rfl, v1, _, rfl, r1, v2, _, rfl, r2, rfl⟩ := hA
    refine ⟨_, (pss_one (ps_fldK (K := K) rfl (pv 0) (pe_lc (own := [("one", 3), ("edit", 4), ("old", 5)]) rfl sc_set_mark.nd (pi_listK (K := K) rfl (pe_fldK (K := K) rfl (pv 0) rfl)) (blkOk_by (own := [("one", 3), ("edit", 4), ("old", 5)]) (N := nm_set_mark) (sc := defScope s_set_mark) (by decide +kernel)) (fun _ _ _ _ _ => (pg_tupK (K := K) (n := 3) rfl rfl (pgs_cons (pg_name (i := 3) sc_set_mark.nd rfl (Or.inl rfl)) (pgs_cons (pg_name (i := 4) sc_set_mark.nd rfl (Or.inl rfl)) (pgs_cons (pg_name (i := 5) sc_set_mark.nd rfl (Or.inl rfl)) pgs_nil))))) (fun _ _ _ _ _ => pts_nil) (fun _ _ _ _ _ => (pe_tup (pa_cons (pv 3) (pa_cons (pv 4) (pa_cons (pe_ifExp (pt_cmpR op_eq (pv 3) (pv 1) (nomark _)) (pv 2) (pv 5)) pa_nil)))))) rfl)), ?_⟩
    obtain ⟨o, hm, hS⟩ := id hM
    have hb := hM.bd.r
    refine s_rows T rfl hM (ls := (setMark m kk mk).rows) (Evn.to (n_lc3 (xs := m.rows) (e1 := fun r => .int r.key) (e2 := fun r => .str r.edit.s) (e3 := fun r => r.mark.d) (p := fun _ => true) (f := fun r => Row.d ⟨r.key, r.edit, if r.key = kk then mk else r.mark⟩) (src_list (d_rows T (ev_var rfl) hm)) (fun _ _ _ => rfl) (fun r _ => imm_Row _) (by omega) fun r hr v1' v2' v3' H1 e1 q1 q2 q3 => ⟨t_yes, fun _ => d_tup (e_cons (d_var rfl q1) (e_cons (d_var rfl q2) (e_cons (markE (t_test (d_eqInt (d_var rfl q1) (d_var rfl (Dp.ex r1 e1)))) (d_var rfl (Dp.ex r2 e1)) (d_var rfl q3)) e_nil)))⟩) ?_) ?_ fun H2 h2 t2 => k .non H2 h2 t2 .non
    · unfold setMark
      rw [List.filter_eq_self.mpr (fun _ _ => rfl), List.map_map]
      rfl
    · unfold setMark
      rw [List.length_map]
      exact hb
abbrev nm_leave : List PySem.Str := ["machine", "keys", "row"]
theorem sc_leave : FnScope nm_leave ["machine", "keys"] (defScope s_leave) := ⟨rfl, rfl, rfl, by decide +kernel, rfl, by decide +kernel, by decide +kernel⟩
theorem ok_leave (T : Tx K mg) : FR P w K mg base 1 "leave" (spM K P_leave) := by
  refine fr_of (k := 0) (N := nm_leave) (ps := ["machine", "keys"]) (gl_leave T) (T.c.d.def_ 23 (d := d_leave)) sc_leave (fun _ _ _ _ _ _ us hl => match us, hl with | [_, _], _ => rfl) (fun vs H Q E h => ?_) (fun cdv A outer s H vs Q E hr h => ?_)
  · obtain ⟨G, p, sc, cs, m, m', as, d, hA, hm, ⟨ks, rfl, rfl, rfl⟩, k⟩ := h
    exact hA.length
  · obtain ⟨G, p, sc, cs, m, m', as, d, hA, hM, ⟨ks, rfl, rfl, rfl⟩, k⟩ := h
    obtain ⟨v0, _, rfl, rfl, v1, _, rfl, r1, rfl⟩ := hA
    refine ⟨_, (pss_one (ps_fldK (K := K) rfl (pv 0) (pe_lc (own := [("row", 2)]) rfl sc_leave.nd (pi_listK (K := K) rfl (pe_fldK (K := K) rfl (pv 0) rfl)) (blkOk_by (own := [("row", 2)]) (N := nm_leave) (sc := defScope s_leave) (by decide +kernel)) (fun _ _ _ _ _ => (pg_name (i := 2) sc_leave.nd rfl (Or.inl rfl))) (fun _ _ _ _ _ => (pts_one (pt_cmpR (op_ninK (K := K) rfl) (pe_ix (ix_tupK (K := K) rfl) (pv 2) pe_int (fun _ _ => rfl)) (pv 1) (by rfl)))) (fun _ _ _ _ _ => (pv 2))) rfl)), ?_⟩
    obtain ⟨o, hm, hS⟩ := id hM
    have hb := hM.bd.r
    exact s_rows T rfl hM (ls := (leaveK m ks).rows) (n_lc (xs := m.rows) (enc := Row.d) (p := fun r => !decide (r.key ∈ ks)) (f := Row.d) (src_list (d_rows T (ev_var rfl) hm)) (fun _ => rfl) (fun r _ => imm_Row _) (by omega) fun r hr v H1 e1 q => ⟨t_test (d_ninI (d_ixT (d_var rfl q) d_int (by rfl)) (d_var rfl (Dp.ex r1 e1)) (.inl rfl)), fun _ => d_var rfl q⟩) (Nat.le_trans (List.length_filter_le _ _) hb) fun H2 h2 t2 => k .non H2 h2 t2 .non
abbrev nm_write : List PySem.Str := ["machine", "edit"]
theorem sc_write : FnScope nm_write ["machine", "edit"] (defScope s_write) := ⟨rfl, rfl, rfl, by decide +kernel, rfl, by decide +kernel, by decide +kernel⟩
theorem ok_write (T : Tx K mg) : FR P w K mg base 2 "write" (spM K P_write) := by
  refine fr_of (k := 1) (N := nm_write) (ps := ["machine", "edit"]) (gl_write T) (T.c.d.def_ 24 (d := d_write)) sc_write (fun _ _ _ _ _ _ us hl => match us, hl with | [_, _], _ => rfl) (fun vs H Q E h => ?_) (fun cdv A outer s H vs Q E hr h => ?_)
  · obtain ⟨G, p, sc, cs, m, m', as, d, hA, hm, ⟨e, rfl, rfl, rfl⟩, k⟩ := h
    exact hA.length
  · obtain ⟨G, p, sc, cs, m, m', as, d, hA, hM, ⟨e, rfl, rfl, rfl⟩, k⟩ := h
    obtain ⟨v0, _, rfl, rfl, v1, _, rfl, r1, rfl⟩ := hA
    refine ⟨_, (pss_cons (ps_fldK (K := K) rfl (pv 0) (pe_cR (ok_edited T) hr (by rfl) (pa_cons (pe_fldK (K := K) rfl (pv 0) rfl) (pa_cons (pv 1) pa_nil))) rfl)
      (pss_one (ps_augK (K := K) rfl (pv 0) pe_int in_add))), ?_⟩
    obtain ⟨o, hm, hS⟩ := id hM
    refine q_nx (s_stored T rfl hM (n := edited m.stored e) (d_call (a_cons (d_stored T (ev_var rfl) hm) (a_cons (d_var rfl r1) a_nil)) fun _ _ => ⟨_, e, rfl, rfl⟩) fun H1 h1 t1 => ?_)
    exact s_written T rfl h1 d_int fun H2 h2 t2 => k .non H2 h2 (t1.trans t2) .non
abbrev nm_send_edit : List PySem.Str := ["machine", "row"]
theorem sc_send_edit : FnScope nm_send_edit ["machine", "row"] (defScope s_send_edit) := ⟨rfl, rfl, rfl, by decide +kernel, rfl, by decide +kernel, by decide +kernel⟩
theorem ok_send_edit (T : Tx K mg) : FR P w K mg base 2 "send_edit" (spM K P_send_edit) := by
  refine fr_of (k := 1) (N := nm_send_edit) (ps := ["machine", "row"]) (gl_send_edit T) (T.c.d.def_ 25 (d := d_send_edit)) sc_send_edit (fun _ _ _ _ _ _ us hl => match us, hl with | [_, _], _ => rfl) (fun vs H Q E h => ?_) (fun cdv A outer s H vs Q E hr h => ?_)
  · obtain ⟨G, p, sc, cs, m, m', as, d, hA, hm, ⟨r, rfl, rfl, rfl⟩, k⟩ := h
    exact hA.length
  · obtain ⟨G, p, sc, cs, m, m', as, d, hA, hM, ⟨r, rfl, rfl, rfl⟩, k⟩ := h
    obtain ⟨v0, _, rfl, rfl, v1, _, rfl, r1, rfl⟩ := hA
    refine ⟨_, (pss_cons (ps_expr (pe_cR (ok_set_mark T) hr (by rfl) (pa_cons (pv 0) (pa_cons (pe_ix (ix_tupK (K := K) rfl) (pv 1) pe_int (fun _ _ => rfl)) (pa_cons (pe_gstr (st_SENT T) rfl) pa_nil)))))
      (pss_one (ps_expr (pe_cR (ok_send T) hr (by rfl) (pa_cons (pv 0) (pa_cons (pe_tup (pa_cons pe_str (pa_cons (pe_ix (ix_tupK (K := K) rfl) (pv 1) pe_int (fun _ _ => rfl)) (pa_cons (pe_ix (ix_tupK (K := K) rfl) (pv 1) pe_int (fun _ _ => rfl)) pa_nil)))) pa_nil)))))), ?_⟩
    refine q_dropM (a_consV (ev_var rfl) (a_cons (d_ixT (d_var rfl r1) d_int (by rfl)) (a_cons d_str a_nil))) hM ⟨r.key, .sent, rfl, rfl, rfl⟩ fun H1 h1 t1 => ?_
    have r1 := Dp.tk (show Dp K H v1 r.d from r1) t1 (imm_Row r)
    exact s_dropM (a_consV (ev_var rfl) (a_cons (d_tup (e_cons d_str (e_cons (d_ixT (d_var rfl r1) d_int (by rfl)) (e_cons (d_ixT (d_var rfl r1) d_int (by rfl)) e_nil)))) a_nil)) h1 ⟨.edit r.key r.edit, rfl, fun l _ => by cases l <;> exact ⟨True.intro, True.intro⟩, rfl, rfl⟩ fun H2 h2 t2 => k .non H2 h2 (t1.trans t2) .non
theorem verF (f : Fate) (lim : Int) : isInt f.d 0 lim = isVerF f lim := by cases f <;> rfl
theorem verM (f : Mark) (lim : Int) : isInt f.d 0 lim = isVerM f lim := by cases f <;> rfl
theorem flatF (f : Fate) : flatP f.d = true := by cases f <;> rfl
theorem flatM (f : Mark) : flatP f.d = true := by cases f <;> rfl
abbrev nm_take_copy : List PySem.Str := ["machine", "pair", "key", "fate", "edit", "mark"]
theorem sc_take_copy : FnScope nm_take_copy ["machine", "pair"] (defScope s_take_copy) := ⟨rfl, rfl, rfl, by decide +kernel, rfl, by decide +kernel, by decide +kernel⟩
theorem ok_take_copy (T : Tx K mg) : FR P w K mg base 3 "take_copy" (spM K P_take_copy) := by
  refine fr_of (k := 2) (N := nm_take_copy) (ps := ["machine", "pair"]) (gl_take_copy T) (T.c.d.def_ 32 (d := d_take_copy)) sc_take_copy (fun _ _ _ _ _ _ us hl => match us, hl with | [_, _], _ => rfl) (fun vs H Q E h => ?_) (fun cdv A outer s H vs Q E hr h => ?_)
  · obtain ⟨G, p, sc, cs, m, m', as, d, hA, hm, ⟨v, n, rfl, rfl, rfl⟩, k⟩ := h
    exact hA.length
  · obtain ⟨G, p, sc, cs, m, m', as, d, hA, hM, ⟨v, n, rfl, rfl, rfl⟩, k⟩ := h
    obtain ⟨v0, _, rfl, rfl, v1, _, rfl, r1, rfl⟩ := hA
    refine ⟨_, (pss_cons (ps_fldK (K := K) rfl (pv 0) (pv 1) rfl)
      (pss_cons (ps_if (pt_val (pe_cR (ok_has T) hr (by rfl) (pa_cons (pv 0) (pa_cons pe_str pa_nil)))) (pss_one (ps_expr (pe_cR (ok_leave T) hr (by rfl) (pa_cons (pv 0) (pa_cons (pe_lock (pe_lc (own := [("key", 2), ("fate", 3)]) rfl sc_take_copy.nd (pi_items (pe_fldK (K := K) rfl (pv 0) rfl)) (blkOk_by (own := [("key", 2), ("fate", 3)]) (N := nm_take_copy) (sc := defScope s_take_copy) (by decide +kernel)) (fun _ _ _ _ _ => (pg_tupK (K := K) (n := 2) rfl rfl (pgs_cons (pg_name (i := 2) sc_take_copy.nd rfl (Or.inl rfl)) (pgs_cons (pg_name (i := 3) sc_take_copy.nd rfl (Or.inl rfl)) pgs_nil)))) (fun _ _ _ _ _ => (pts_one (pt_val (pe_cR (ok_is_version T) hr (by rfl) (pa_cons (pv 3) (pa_cons (pe_ix (ix_tupK (K := K) rfl) (pv 1) pe_int (fun _ _ => rfl)) pa_nil)))))) (fun _ _ _ _ _ => (pv 2)))) pa_nil))))) pss_nil)
      (pss_one (ps_if (pt_val (pe_cR (ok_has T) hr (by rfl) (pa_cons (pv 0) (pa_cons pe_str pa_nil)))) (pss_one (ps_expr (pe_cR (ok_leave T) hr (by rfl) (pa_cons (pv 0) (pa_cons (pe_lc (own := [("key", 2), ("edit", 4), ("mark", 5)]) rfl sc_take_copy.nd (pi_listK (K := K) rfl (pe_fldK (K := K) rfl (pv 0) rfl)) (blkOk_by (own := [("key", 2), ("edit", 4), ("mark", 5)]) (N := nm_take_copy) (sc := defScope s_take_copy) (by decide +kernel)) (fun _ _ _ _ _ => (pg_tupK (K := K) (n := 3) rfl rfl (pgs_cons (pg_name (i := 2) sc_take_copy.nd rfl (Or.inl rfl)) (pgs_cons (pg_name (i := 4) sc_take_copy.nd rfl (Or.inl rfl)) (pgs_cons (pg_name (i := 5) sc_take_copy.nd rfl (Or.inl rfl)) pgs_nil))))) (fun _ _ _ _ _ => (pts_one (pt_val (pe_cR (ok_is_version T) hr (by rfl) (pa_cons (pv 5) (pa_cons (pe_ix (ix_tupK (K := K) rfl) (pv 1) pe_int (fun _ _ => rfl)) pa_nil)))))) (fun _ _ _ _ _ => (pv 2))) pa_nil))))) pss_nil)))), ?_⟩
    unfold takeCopy at k
    refine q_nx (s_seen T rfl hM (d_var rfl r1) fun H1 h1 t1 => ?_)
    have r1 := Dp.tk r1 t1
    generalize hm1 : ({ m with seenV := v, seenN := n } : M) = m1 at h1 k
    refine q_whenM (m1 := copy1 (hsOf cs) m1 v) (t_B (d_hasM T rfl h1)) h1 (fun hb D' H2 e2 h2 k2 => ?_) (fun hb => by unfold copy1; rw [hb]; rfl) fun H2 h2 t2 => ?_
    · obtain ⟨o, hm, hS⟩ := id h2
      unfold copy1 at k2
      rw [if_pos hb] at k2
      obtain ⟨ks, hks⟩ : ∃ ks : List Int, ks = (m1.fates.filter fun p => isVerF p.2 v).map (·.1) := ⟨_, rfl⟩
      rw [← hks] at k2
      refine s_dropM (a_consV (ev_var rfl) (a_cons (Evn.evd (n_lock (ds := ks.map .int) hm.fates (immAll_map _ fun _ _ => rfl) fun od => ?_)) a_nil)) h2 ⟨ks, rfl, rfl, rfl⟩ k2
      have hfl := hm.bd.f
      refine Evn.to (n_lcPE (xs := m1.fates) (e1 := fun p => .int p.1) (e2 := fun p => p.2.d) (p := fun p => isVerF p.2 v) (f := fun p => .int p.1) (src_items (enc := Fate.v) (encd := Fate.d) (l := m1.fates) (o := od) (a := o.fates) ?_ (by rw [upd_same]; rfl) fun x H => fate_d x) (fun _ _ => rfl) (fun _ _ => rfl) (by omega) fun x hx w1 w2 H3 e3 q1 q2 => ⟨evt_to (t_B (d_call (a_cons (d_var rfl q2) (a_cons (d_ixT (ds := [.int v, .int n]) (d_var rfl ?_) d_int (by rfl)) a_nil)) fun _ _ => ⟨_, v, rfl, flatF _, rfl⟩)) (verF _ _), fun _ => d_var rfl q1⟩) (by rw [hks, List.map_map]; rfl)
      · have hl : (upd H2 o.fates (.frz od (.dK (fatesK m1.fates)))) p = some (.ins (He.ga K "Machine") o.dx (MF o m1)) := by
          rw [upd_ne (hne hm.ob hm.fates (fun z => nomatch z))]
          exact hm.ob
        exact v_fldG (ev_var rfl) hl (cl_Machine T) (na_Machine_fates T) (by rfl)
      · have tk : Tk H2 (upd H2 o.fates (.frz od (.dK (fatesK m1.fates)))) := Tk.ob hm.fates (fun _ z => nomatch z) fun _ _ z => nomatch z
        exact Dp.ex (Dp.tk (Dp.ex r1 e2) tk) e3
    · have r1 := Dp.tk r1 t2
      generalize hm2 : copy1 (hsOf cs) m1 v = m2 at h2 k
      refine s_whenM (m1 := copy2 (hsOf cs) m2 v) (t_B (d_hasM T rfl h2)) h2 (fun hb D' H3 e3 h3 k3 => ?_) (fun hb => by unfold copy2; rw [hb]; rfl) fun H3 h3 t3 => k .non H3 h3 ((t1.trans t2).trans t3) .non
      obtain ⟨o, hm, hS⟩ := id h3
      unfold copy2 at k3
      rw [if_pos hb] at k3
      have hrl := hm.bd.r
      exact s_dropM (a_consV (ev_var rfl) (a_cons (Evd.to (Evn.evd (n_lc3 (xs := m2.rows) (e1 := fun r => .int r.key) (e2 := fun r => .str r.edit.s) (e3 := fun r => r.mark.d) (p := fun r => isVerM r.mark v) (f := fun r => .int r.key) (src_list (d_rows T (ev_var rfl) hm)) (fun _ _ _ => rfl) (fun _ _ => rfl) (by omega) fun x hx w1 w2 w3 H4 e4 q1 q2 q3 => ⟨evt_to (t_B (d_call (a_cons (d_var rfl q3) (a_cons (d_ixT (d_var rfl (Dp.ex (Dp.ex r1 e3) e4)) d_int (by rfl)) a_nil)) fun _ _ => ⟨_, v, rfl, flatM _, rfl⟩)) (verM _ _), fun _ => d_var rfl q1⟩)) (congrArg PyData.list (by rw [List.map_map]; rfl) : _ = PyData.list (((m2.rows.filter fun r => isVerM r.mark v).map (·.key)).map .int))) a_nil)) h3 ⟨_, rfl, rfl, rfl⟩ k3
abbrev nm_take_answer : List PySem.Str := ["machine", "key", "fate"]
theorem sc_take_answer : FnScope nm_take_answer ["machine", "key", "fate"] (defScope s_take_answer) := ⟨rfl, rfl, rfl, by decide +kernel, rfl, by decide +kernel, by decide +kernel⟩
theorem ok_take_answer (T : Tx K mg) : FR P w K mg base 2 "take_answer" (spM K P_take_answer) := by
  refine fr_of (k := 1) (N := nm_take_answer) (ps := ["machine", "key", "fate"]) (gl_take_answer T) (T.c.d.def_ 30 (d := d_take_answer)) sc_take_answer (fun _ _ _ _ _ _ us hl => match us, hl with | [_, _, _], _ => rfl) (fun vs H Q E h => ?_) (fun cdv A outer s H vs Q E hr h => ?_)
  · obtain ⟨G, p, sc, cs, m, m', as, d, hA, hm, ⟨kk, f, rfl, rfl, rfl⟩, k⟩ := h
    exact hA.length
  · obtain ⟨G, p, sc, cs, m, m', as, d, hA, hM, ⟨kk, f, rfl, rfl, rfl⟩, k⟩ := h
    obtain ⟨v0, _, rfl, rfl, v1, _, rfl, r1, v2, _, rfl, r2, rfl⟩ := hA
    refine ⟨_, (pss_one (ps_if (pt_cmpR op_eq (pv 2) (pe_gstr (st_REFUSED T) rfl) (nomark _)) (pss_cons (ps_expr (pe_cR (ok_set_mark T) hr (by rfl) (pa_cons (pv 0) (pa_cons (pv 1) (pa_cons (pe_gstr (st_REFUSED T) rfl) pa_nil)))))
      (pss_one (ps_if (pt_val (pe_cR (ok_has T) hr (by rfl) (pa_cons (pv 0) (pa_cons pe_str pa_nil)))) (pss_one (ps_expr (pe_cR (ok_leave T) hr (by rfl) (pa_cons (pv 0) (pa_cons (pe_lst (pa_cons (pv 1) pa_nil)) pa_nil))))) pss_nil))) (pss_one (ps_if (PW.pt (pw_or (pt_not (pt_val (pe_cR (ok_has T) hr (by rfl) (pa_cons (pv 0) (pa_cons pe_str pa_nil))))) (pw_or1 (pt_cmpR op_le (pv 2) (pe_ix (ix_tupK (K := K) rfl) (pe_fldK (K := K) rfl (pv 0) rfl) pe_int (fun _ _ => rfl)) (nomark _))))) (pss_one (ps_expr (pe_cR (ok_leave T) hr (by rfl) (pa_cons (pv 0) (pa_cons (pe_lst (pa_cons (pv 1) pa_nil)) pa_nil))))) (pss_one (ps_expr (pe_cR (ok_set_mark T) hr (by rfl) (pa_cons (pv 0) (pa_cons (pv 1) (pa_cons (pv 2) pa_nil)))))))))), ?_⟩
    have lv : ∀ {H1 : Hp} {m : M} {D : Ends}, Tk H H1 → Mach K G H1 p sc cs m → (∀ H2, Mach K G H2 p sc cs (leaveK m [kk]) → Tk H1 H2 → D.nx [some (.ref p), some v1, some v2] H2) → tDrop (tCallR (spM K P_leave) E0 (tCons (tVar 0) (tCons (tLst (tCons (tVar 1) tNil)) tNil))) D [some (.ref p), some v1, some v2] H1 := fun t h k => s_dropM (a_consV (ev_var rfl) (a_cons (Evn.evd (n_lst (e_cons (d_var rfl (Dp.tk r1 t)) e_nil))) a_nil)) h ⟨[kk], rfl, rfl, rfl⟩ k
    obtain ⟨o, hm, hS⟩ := id hM
    cases f with
    | ref =>
      refine s_if (b := true) (evt_to (t_test (d_eqS (e := .str "refused") (d_var rfl r2) d_str rfl)) (by decide +kernel)) (fun _ H1 e1 => ?_) fun z => nomatch z
      refine q_dropM (a_consV (ev_var rfl) (a_cons (d_var rfl (Dp.ex r1 e1)) (a_cons d_str a_nil))) (hM.ex e1) ⟨kk, .ref, rfl, rfl, rfl⟩ fun H2 h2 t2 => ?_
      have t2 := (Tk.of e1).trans t2
      refine s_whenM (m1 := if hsOf cs "undoes" = true then leaveK (setMark m kk .ref) [kk] else setMark m kk .ref) (t_B (d_hasM T rfl h2)) h2 (fun hb D' H3 e3 h3 k3 => ?_) (fun hb => by rw [hb]; rfl) fun H3 h3 t3 => k .non H3 h3 (t2.trans t3) .non
      rw [hb] at k3
      exact lv (t2.trans (Tk.of e3)) h3 k3
    | ver n =>
      refine s_if (b := false) (evt_to (t_test (d_eqS (e := .str "refused") (d_var rfl r2) d_str rfl)) rfl) (fun z => nomatch z) fun _ H1 e1 => ?_
      have h1 := hM.ex e1
      have hm := hm.ex e1
      have r1' := Dp.ex r1 e1
      have r2 := Dp.ex (show Dp K H v2 (.int n) from r2) e1
      refine s_ifM (b := !hsOf cs "matches" || decide (n ≤ m.seenV)) (m1 := takeAnswer (hsOf cs) m kk (.ver n)) (et_or (et_not (t_B (d_hasM T rfl h1))) fun _ => t_test (d_le (d_var rfl r2) (d_ixT (d_seen T (ev_var rfl) hm) d_int (by rfl)))) h1 (fun hb D' H2 e2 h2 k2 => ?_) (fun hb D' H2 e2 h2 k2 => ?_) fun H3 h3 t3 => k .non H3 h3 ((Tk.of e1).trans t3) .non
      · unfold takeAnswer at k2
        simp only [hb, if_true] at k2
        exact lv ((Tk.of e1).trans (Tk.of e2)) h2 k2
      · unfold takeAnswer at k2
        simp only [hb, Bool.false_eq_true, if_false] at k2
        exact s_dropM (a_consV (ev_var rfl) (a_cons (d_var rfl (Dp.ex r1' e2)) (a_cons (d_var rfl (Dp.ex r2 e2)) a_nil))) h2 ⟨kk, .ver n, rfl, rfl, rfl⟩ k2
end
end Sc


/-! Sc11: what a deed does to a machine. -/
namespace Sc
open PySem PySem.Spec PyProof.Rows L2 Evl
/-! ### the property -/
def sp_store (K : PySem.W.Frag) : Sp := spP K fun H as r => ∃ p s cs m, as = [.val (.ref p)] ∧ MachP K H p s cs m ∧ r = .tuple [.int m.written, .int m.stored]
section
variable {P : Program} {w : World} {K : PySem.W.Frag} {mg : PySem.Str → Option Value} {base : Heap}
theorem fnWA_funD {K : PySem.W.Frag} {f : Addr} {d : He.DefD} (e : fnWA K f = d.val) (kp : PySem.W.keepIn K (.ref f) = true) (c2 : (match K.lookup f with
    | some ⟨_, _, .func fd, _⟩ => PySem.W.codeIn K fd.code d.qual && (He.dflB K fd.defaults [] && He.kwdB K fd.kwdefaults [])
    | _ => false) = true) : ∃ fd, FunD K d.name d.qual d.params d.body d.scope [] [] f fd := by
  unfold fnWA at e
  cases q : K.lookup f with
  | none =>
    rw [q] at c2
    cases c2
  | some o =>
    obtain ⟨oc, od, dt, osl⟩ := o
    rw [q] at c2 e
    cases dt with
    | func fd =>
      obtain ⟨n1, n2, n3, n4, n5, n6, n7, n8, n9, n10, n11, n12, n13, n14, n15⟩ := fd
      have e2 : (some (n1, n2, n3, n4, n5, n6, n7, n15) : He.FnW) = some (d.name, d.qual, d.params, .stmts d.body, d.scope, mainGlobals, [], builtinsNs) := e
      simp only [Option.some.injEq, Prod.mk.injEq] at e2
      obtain ⟨h1, h2, h3, h4, h5, h6, h7, h8⟩ := e2
      subst h1 h2 h3 h4 h5 h6 h7 h8
      have c3 : (PySem.W.codeIn K n13 d.qual && (He.dflB K n8 [] && He.kwdB K n9 [])) = true := c2
      obtain ⟨k1, k2⟩ := He.ba c3
      obtain ⟨k3, k4⟩ := He.ba k2
      exact ⟨_, ⟨oc, od, n8, n9, n10, n11, n12, n13, n14, osl, rfl, q, k1, He.dflB_ok k3, He.kwdB_ok k4⟩, kp⟩
    | _ => cases c2
theorem propB_of (T : Tx K mg) : propB K = true := (He.ba (He.ba T.c.more).2).1
theorem store_prop (T : Tx K mg) : PropOf K (He.ga K "Machine") "store" (storeP K) (storeG K) := by
  obtain ⟨h1, h2⟩ := He.ba (propB_of T)
  obtain ⟨h2, h3⟩ := He.ba h2
  obtain ⟨h3, h4⟩ := He.ba h3
  obtain ⟨h4, h5⟩ := He.ba h4
  refine ⟨He.eqO_ok h1, of_decide_eq_true h2, of_decide_eq_true h3, ?_⟩
  unfold storeG
  cases q : PySem.W.recIn K (storeP K) "property" with
  | none => rw [q] at h4; cases h4
  | some l =>
    rw [q] at h4
    cases l with
    | nil => cases h4
    | cons a r =>
      cases a with
      | ref g => exact ⟨r, rfl⟩
      | _ => cases h4
theorem store_fun (T : Tx K mg) : ∃ fd, FunD K d_store.name d_store.qual d_store.params d_store.body d_store.scope [] [] (storeG K) fd := by
  obtain ⟨h1, h2⟩ := He.ba (propB_of T)
  obtain ⟨h2, h3⟩ := He.ba h2
  obtain ⟨h3, h4⟩ := He.ba h3
  obtain ⟨h4, h5⟩ := He.ba h4
  obtain ⟨h5, h6⟩ := He.ba h5
  exact fnWA_funD T.c.st h5 h6
abbrev nm_Machine_store : List PySem.Str := ["self"]
theorem sc_Machine_store : FnScope nm_Machine_store ["self"] (defScope s_Machine_store) := ⟨rfl, rfl, rfl, by decide +kernel, rfl, by decide +kernel, by decide +kernel⟩
theorem ok_store (T : Tx K mg) : ∃ fd, FnOk P w K mg base CX0 1 (storeG K) fd ["self"] (sp_store K) ∧ Binds K fd ["self"] [] := by
  obtain ⟨fd, F⟩ := store_fun T
  refine ⟨fd, F.ok (k := 0) (N := nm_Machine_store) (ps := ["self"]) sc_Machine_store (fun vs H Q E h => ?_) (fun cdv A outer s H vs Q E hr h => ?_), F.bindsN (fun _ _ _ _ _ _ us hl => match us, hl with | [_], _ => rfl)⟩
  · obtain ⟨as, r, hA, ⟨p, sc, cs, m, rfl, hm, rfl⟩, k⟩ := h
    exact hA.length
  · obtain ⟨as, r, hA, ⟨p, sc, cs, m, rfl, ⟨o, hm⟩, rfl⟩, k⟩ := h
    obtain ⟨v0, _, rfl, rfl, rfl⟩ := hA
    refine ⟨_, PSs.nox (pss_one (ps_ret (pe_tup (pa_cons (pe_fldK (K := K) rfl (pv 0) rfl) (pa_cons (pe_fldK (K := K) rfl (pv 0) rfl) pa_nil))))), ?_⟩
    exact s_retD (d_tup (e_cons (d_written T (ev_var rfl) hm) (e_cons (d_stored T (ev_var rfl) hm) e_nil))) k
theorem d_storeE {σ : L2.St} {G H : Hp} {p : Addr} {s : Sch} {cs : List Sx} {m : M} {i : Nat} (hx : σ[i]? = some (some (.ref p))) (hm : Mach K G H p s cs m) : Evd K (tProp (He.ga K "Machine") (sp_store K) [] E0 (tVar i)) σ H (.tuple [.int m.written, .int m.stored]) := fun H1 a Q k => by
  obtain ⟨o, hA, _⟩ := hm.ex a
  exact ⟨_, hx, p, _, _, rfl, hA.ob, [.val (.ref p)], _, ⟨_, _, rfl, rfl, rfl⟩, ⟨p, s, cs, m, rfl, ⟨o, hA⟩, rfl⟩, k⟩
end
/-! ### promises -/
theorem agree_ans {l : Letter} {k : Int} {f : Fate} (h : ∀ k' f', l = .answer k' f' → k' = k → f' = f) : agree l (.answer k f) ∧ agree (.answer k f) l := by
  cases l with
  | answer k' f' => exact ⟨fun e => h k' f' rfl e, fun e => (h k' f' rfl e.symm).symm⟩
  | _ => exact ⟨True.intro, True.intro⟩
theorem agree_oth {l' l : Letter} (h : ∀ k f, l ≠ .answer k f) : agree l' l ∧ agree l l' := by
  cases l with
  | answer k f => exact absurd rfl (h k f)
  | _ => cases l' <;> exact ⟨True.intro, True.intro⟩
def P_take_edit : List Ar → Sch → List Sx → M → M → PD → Prop := fun as s cs m m' d => ∃ k e, as = [.dat (.int k), .dat (.str (Ed.s e))] ∧ (0 ≤ k ∧ k ≤ 900 ∧ m.fates.length ≤ 900 ∧ ansOk m) ∧ m' = (takeEdit (hsOf cs) s m k e).1 ∧ d = failD (takeEdit (hsOf cs) s m k e).2
def P_arrive : List Ar → Sch → List Sx → M → M → PD → Prop := fun as s cs m m' d => ∃ l, as = [.dat (Letter.d l)] ∧ (m.fates.length ≤ 900 ∧ ansOk m ∧ ∀ k e, l = .edit k e → 0 ≤ k ∧ k ≤ 900) ∧ m' = (arrive (hsOf cs) s m l).1 ∧ d = failD (arrive (hsOf cs) s m l).2
def P_done_with : List Ar → Sch → List Sx → M → M → PD → Prop := fun as s cs m m' d => ∃ w i, as = [.dat (Deed.d (.letr w i))] ∧ letterPossible s m w i = true ∧ (m.fates.length ≤ 900 ∧ ansOk m ∧ ∀ k e, .edit k e ∈ m.post → 0 ≤ k ∧ k ≤ 900) ∧ m' = (doneWith (hsOf cs) s m w i).1 ∧ d = failD (doneWith (hsOf cs) s m w i).2
section
variable {P : Program} {w : World} {K : PySem.W.Frag} {mg : PySem.Str → Option Value} {base : Heap}
abbrev nm_take_edit : List PySem.Str := ["machine", "key", "edit", "fate", "other"]
theorem sc_take_edit : FnScope nm_take_edit ["machine", "key", "edit"] (defScope s_take_edit) := ⟨rfl, rfl, rfl, by decide +kernel, rfl, by decide +kernel, by decide +kernel⟩
theorem ok_take_edit (T : Tx K mg) : FR P w K mg base 3 "take_edit" (spM K P_take_edit) := by
  refine fr_of (k := 2) (N := nm_take_edit) (ps := ["machine", "key", "edit"]) (gl_take_edit T) (T.c.d.def_ 29 (d := d_take_edit)) sc_take_edit (fun _ _ _ _ _ _ us hl => match us, hl with | [_, _, _], _ => rfl) (fun vs H Q E h => ?_) (fun cdv A outer s H vs Q E hr h => ?_)
  · obtain ⟨G, p, sc, cs, m, m', as, d, hA, hm, ⟨kk, e, rfl, hc, rfl, rfl⟩, k⟩ := h
    exact hA.length
  · obtain ⟨G, p, sc, cs, m, m', as, d, hA, hM, ⟨kk, e, rfl, ⟨h0, h9, hf9, hans⟩, rfl, rfl⟩, k⟩ := h
    obtain ⟨v0, _, rfl, rfl, v1, _, rfl, r1, v2, _, rfl, r2, rfl⟩ := hA
    refine ⟨_, (pss_cons (ps_set (i := 3) sc_take_edit.nd rfl (Or.inl rfl) (pe_dget1 (hu_of hr) (pe_fldK (K := K) rfl (pv 0) rfl) (pv 1) ⟨by rfl, by rfl, by rfl, by rfl⟩))
      (pss_cons (ps_if (PW.pt (pw_and (pt_cmpR op_notN (pv 3) pe_non (nomark _)) (pw_and1 (pt_val (pe_cR (ok_has T) hr (by rfl) (pa_cons (pv 0) (pa_cons pe_str pa_nil))))))) (pss_cons (ps_expr (pe_cR (ok_send T) hr (by rfl) (pa_cons (pv 0) (pa_cons (pe_tup (pa_cons pe_str (pa_cons (pv 1) (pa_cons (pv 3) pa_nil)))) pa_nil))))
      (pss_one (ps_ret pe_non))) pss_nil)
      (pss_cons (ps_expr (pe_cR (ok_write T) hr (by rfl) (pa_cons (pv 0) (pa_cons (pv 2) pa_nil))))
      (pss_cons (ps_if (pt_cmpR op_notN (pv 3) pe_non (nomark _)) (pss_one (ps_ret (pe_tup (pa_cons pe_str (pa_cons (pv 1) pa_nil))))) pss_nil)
      (pss_cons (ps_dput (hu_of hr) (pe_fldK (K := K) rfl (pv 0) rfl) (pv 1) (pe_fldK (K := K) rfl (pv 0) rfl) rfl)
      (pss_cons (ps_if (pt_cmp (pc_din (hu_of hr) (pv 1) (pe_fldK (K := K) rfl (pv 0) rfl))) (pss_one (ps_ret (pe_tup (pa_cons pe_str (pa_cons (pv 1) pa_nil))))) pss_nil)
      (pss_cons (ps_expr (pe_bm PySem.F.plainAttrs_dict PySem.F.slot_dict_update PySem.F.type_dict_update mt_updateK (pe_fldK (K := K) rfl (pv 0) rfl) (pa_cons (pe_dc (own := [("other", 4)]) rfl sc_take_edit.nd (pi_range1 rfl (fr_range T) (pa_cons (pv 1) pa_nil)) (blkOk_by (own := [("other", 4)]) (N := nm_take_edit) (sc := defScope s_take_edit) (by decide +kernel)) (fun _ _ _ _ _ => (pg_name (i := 4) sc_take_edit.nd rfl (Or.inl rfl))) (fun _ _ _ _ _ => pts_nil) (fun _ _ _ _ _ => (pv 4)) (fun _ _ _ _ _ => pe_bl)) pa_nil)))
      (pss_cons (ps_expr (pe_cR (ok_send T) hr (by rfl) (pa_cons (pv 0) (pa_cons (pe_tup (pa_cons pe_str (pa_cons (pv 1) (pa_cons (pe_fldK (K := K) rfl (pv 0) rfl) pa_nil)))) pa_nil))))
      (pss_one (ps_ret pe_non)))))))))), ?_⟩
    obtain ⟨o, hm, hS⟩ := id hM
    refine q_asgD (d := optFate (getG m.fates kk)) (d_getK (v_fates T (ev_var rfl) hm) hm.fates (d_var rfl r1) fun _ _ => fate_get _ _) fun v3 H1 e1 r3 => ?_
    have h1 := hM.ex e1
    have r1 := Dp.ex r1 e1
    have r2 := Dp.ex r2 e1
    cases hg : getG m.fates kk with
    | some f =>
      rw [hg] at r3
      rw [takeEdit_some hg] at k
      have nn : isNonP (optFate (some f)) = false := by cases f <;> rfl
      refine q_when (b := hsOf cs "keys") (evt_to (et_and (b := hsOf cs "keys") (t_test (d_notN (d_var rfl r3))) fun _ => t_B (d_hasM T rfl h1)) (by rw [nn]; rfl)) (fun hb H2 e2 => ?_) fun hb H2 e2 => ?_
      · rw [if_pos hb] at k
        refine q_dropM (a_consV (ev_var rfl) (a_cons (d_tup (e_cons d_str (e_cons (d_var rfl (Dp.ex r1 e2)) (e_cons (d_var rfl (Dp.ex r3 e2)) e_nil)))) a_nil)) (h1.ex e2) ⟨.answer kk f, rfl, fun l hl => agree_ans fun k' f' hl' hk => ?_, rfl, rfl⟩ fun H3 h3 t3 => ?_
        · have := hans l hl k' f' hl'
          rw [hk, hg] at this
          exact (Option.some.inj this).symm
        · exact s_retD (K := K) d_non fun v H4 e4 r => k v H4 (h3.ex e4) (((Tk.of e1).trans (Tk.of e2)).trans (t3.trans (Tk.of e4))) r
      · rw [if_neg (by rw [hb]; exact Bool.false_ne_true)] at k
        refine q_dropM (a_consV (ev_var rfl) (a_cons (d_var rfl (Dp.ex r2 e2)) a_nil)) (h1.ex e2) ⟨e, rfl, rfl, rfl⟩ fun H3 h3 t3 => ?_
        have t := ((Tk.of e1).trans (Tk.of e2)).trans t3
        have r3 := Dp.tk (show Dp K H1 v3 f.d from r3) ((Tk.of e2).trans t3) (by cases f <;> rfl)
        refine q_when (b := true) (evt_to (t_test (d_notN (d_var rfl r3))) (by cases f <;> rfl)) (fun _ H4 e4 => ?_) fun z => nomatch z
        exact s_retD (failTup .again (d_var rfl (Dp.ex (Dp.tk r1 ((Tk.of e2).trans t3)) e4)) rfl) fun v H5 e5 r => k v H5 ((h3.ex e4).ex e5) ((t.trans (Tk.of e4)).trans (Tk.of e5)) r
    | none =>
      rw [hg] at r3
      rw [takeEdit_none hg] at k
      refine q_when (b := false) (et_and (a := false) (b := false) (t_test (d_notN (d_var rfl r3))) fun z => nomatch z) (fun z => nomatch z) fun _ H2 e2 => ?_
      refine q_dropM (a_consV (ev_var rfl) (a_cons (d_var rfl (Dp.ex r2 e2)) a_nil)) (h1.ex e2) ⟨e, rfl, rfl, rfl⟩ fun H3 h3 t3 => ?_
      have r1 := Dp.tk (Dp.ex r1 e2) t3
      have r3 : Dp K H3 v3 .none := Dp.tk (show Dp K H1 v3 .none from r3) ((Tk.of e2).trans t3)
      refine q_when (b := false) (t_test (d_notN (d_var rfl r3))) (fun z => nomatch z) fun _ H4 e4 => ?_
      have h4 := h3.ex e4
      have r1 := Dp.ex r1 e4
      obtain ⟨o4, hm4, hS4⟩ := id h4
      have hln := putG_len m.fates kk (.ver (m.written + 1) : Fate)
      refine q_nx (s_putFate (f := .ver (m.written + 1)) T rfl h4 (fun _ e => d_var rfl (Dp.ex r1 e)) (d_written T (ev_var rfl) hm4) (by show (putG m.fates kk _).length ≤ 1000; omega) fun H5 h5 t5 => ?_)
      have r1 := Dp.tk r1 t5
      have t := ((((Tk.of e1).trans (Tk.of e2)).trans t3).trans (Tk.of e4)).trans t5
      have h5 : Mach K G H5 p sc cs { writeE m e with fates := putG m.fates kk (.ver (m.written + 1)) } := h5
      obtain ⟨o5, hm5, hS5⟩ := id h5
      refine q_when (b := decide (0 ≤ kk) && decide (kk.toNat < m.passed)) (evt_to (t_test (d_inK (d_var rfl r1) (v_passed T (ev_var rfl) hm5) hm5.passed)) (passed_get _ _)) (fun hb H6 e6 => ?_) fun hb H6 e6 => ?_
      · rw [if_pos hb] at k
        exact s_retD (failTup .order (d_var rfl (Dp.ex r1 e6)) rfl) fun v H7 e7 r => k v H7 ((h5.ex e6).ex e7) ((t.trans (Tk.of e6)).trans (Tk.of e7)) r
      · rw [if_neg (by rw [hb]; exact Bool.false_ne_true)] at k
        have r1 := Dp.ex r1 e6
        have r1' : Dp K H6 v1 (.int (kk.toNat : Int)) := by rw [Int.toNat_of_nonneg h0]; exact r1
        refine q_nx (s_updPassed (n := kk.toNat) T rfl (h5.ex e6) (k_range (d_var rfl r1') (by omega) (fun _ => rfl) fun _ => rfl) (by omega) fun H7 h7 t7 => ?_)
        obtain ⟨o7, hm7, hS7⟩ := id h7
        refine q_dropM (a_consV (ev_var rfl) (a_cons (d_tup (e_cons d_str (e_cons (d_var rfl (Dp.tk r1 t7)) (e_cons (d_written T (ev_var rfl) hm7) e_nil)))) a_nil)) h7 ⟨.answer kk (.ver (m.written + 1)), rfl, fun l hl => agree_ans fun k' f' hl' hk => ?_, rfl, rfl⟩ fun H8 h8 t8 => ?_
        · have := hans l hl k' f' hl'
          rw [hk, hg] at this
          cases this
        · exact s_retD (K := K) d_non fun v H9 e9 r => k v H9 (h8.ex e9) ((((t.trans (Tk.of e6)).trans t7).trans t8).trans (Tk.of e9)) r
abbrev nm_arrive : List PySem.Str := ["machine", "letter"]
theorem sc_arrive : FnScope nm_arrive ["machine", "letter"] (defScope s_arrive) := ⟨rfl, rfl, rfl, by decide +kernel, rfl, by decide +kernel, by decide +kernel⟩
theorem ok_arrive (T : Tx K mg) : FR P w K mg base 4 "arrive" (spM K P_arrive) := by
  refine fr_of (k := 3) (N := nm_arrive) (ps := ["machine", "letter"]) (gl_arrive T) (T.c.d.def_ 28 (d := d_arrive)) sc_arrive (fun _ _ _ _ _ _ us hl => match us, hl with | [_, _], _ => rfl) (fun vs H Q E h => ?_) (fun cdv A outer s H vs Q E hr h => ?_)
  · obtain ⟨G, p, sc, cs, m, m', as, d, hA, hm, ⟨l, rfl, hc, rfl, rfl⟩, k⟩ := h
    exact hA.length
  · obtain ⟨G, p, sc, cs, m, m', as, d, hA, hM, ⟨l, rfl, ⟨hf9, hans, hed⟩, rfl, rfl⟩, k⟩ := h
    obtain ⟨v0, _, rfl, rfl, v1, _, rfl, r1, rfl⟩ := hA
    obtain ⟨fdS, Fs, Bs⟩ := ok_store (P := P) (w := w) (base := base) T
    refine ⟨_, (pss_cons (ps_match (pe_ix (ix_tupK (K := K) rfl) (pv 1) pe_int (fun _ _ => rfl))
      (pm_val (pss_one (ps_ret (pe_cR (ok_take_edit T) hr (by rfl) (pa_cons (pv 0) (pa_cons (pe_ix (ix_tupK (K := K) rfl) (pv 1) pe_int (fun _ _ => rfl)) (pa_cons (pe_ix (ix_tupK (K := K) rfl) (pv 1) pe_int (fun _ _ => rfl)) pa_nil))))))
      (pm_val (pss_one (ps_expr (pe_cR (ok_take_answer T) hr (by rfl) (pa_cons (pv 0) (pa_cons (pe_ix (ix_tupK (K := K) rfl) (pv 1) pe_int (fun _ _ => rfl)) (pa_cons (pe_ix (ix_tupK (K := K) rfl) (pv 1) pe_int (fun _ _ => rfl)) pa_nil))))))
      (pm_val (pss_one (ps_expr (pe_cR (ok_send T) hr (by rfl) (pa_cons (pv 0) (pa_cons (pe_tup (pa_cons pe_str (pa_starK (K := K) rfl (pe_prop (pv 0) (cl_Machine T) (store_prop T) Fs (hr.mono (by decide)) Bs .nil pass0 rfl) pa_nil))) pa_nil)))))
      (pm_any (pss_one (ps_if (pt_cmpR op_ge (pe_ix (ix_tupK (K := K) rfl) (pv 1) pe_int (fun _ _ => rfl)) (pe_ix (ix_tupK (K := K) rfl) (pe_fldK (K := K) rfl (pv 0) rfl) pe_int (fun _ _ => rfl)) (nomark _)) (pss_one (ps_expr (pe_cR (ok_take_copy T) hr (by rfl) (pa_cons (pv 0) (pa_cons (pe_slice (sl_tupK (K := K) rfl) (pv 1) (po_some pe_int) po_none) pa_nil))))) (pss_one (ps_if (pt_not (pt_val (pe_cR (ok_has T) hr (by rfl) (pa_cons (pv 0) (pa_cons pe_str pa_nil))))) (pss_cons (ps_expr (pe_cR (ok_take_copy T) hr (by rfl) (pa_cons (pv 0) (pa_cons (pe_slice (sl_tupK (K := K) rfl) (pv 1) (po_some pe_int) po_none) pa_nil))))
      (pss_one (ps_ret (pe_tup (pa_cons pe_str (pa_cons (pe_ix (ix_tupK (K := K) rfl) (pv 1) pe_int (fun _ _ => rfl)) pa_nil)))))) pss_nil)))))))))
      (pss_one (ps_ret pe_non))), ?_⟩
    have ret : ∀ {σ : L2.St} {m2 : M} {H2 : Hp}, (∀ v H', Mach K G H' p sc cs m2 → Tk H H' → Dp K H' v .none → Q v H') → Mach K G H2 p sc cs m2 → Tk H H2 → tRet (tC .non) { nx := fun _ H' => Q .non H', rt := Q } σ H2 := fun k h t => s_retD (K := K) d_non fun v H3 e3 r => k v H3 (h.ex e3) (t.trans (Tk.of e3)) r
    cases l with
    | edit kk e =>
      obtain ⟨h0, h9⟩ := hed kk e rfl
      refine q_match (y := "edit") (d_ixT (d_var rfl r1) d_int (by rfl)) fun H1 e1 => mv_yes ?_
      have r1 := Dp.ex r1 e1
      exact s_retM (a_consV (ev_var rfl) (a_cons (d_ixT (d_var rfl r1) d_int (by rfl)) (a_cons (d_ixT (d_var rfl r1) d_int (by rfl)) a_nil))) (hM.ex e1) ⟨kk, e, rfl, ⟨h0, h9, hf9, hans⟩, rfl, rfl⟩ fun v H2 h2 t2 r => k v H2 h2 ((Tk.of e1).trans t2) r
    | answer kk f =>
      refine q_match (y := "answer") (d_ixT (d_var rfl r1) d_int (by rfl)) fun H1 e1 => mv_no (mv_yes ?_)
      have r1 := Dp.ex r1 e1
      refine s_dropM (a_consV (ev_var rfl) (a_cons (d_ixT (d_var rfl r1) d_int (by rfl)) (a_cons (d_ixT (d_var rfl r1) d_int (by rfl)) a_nil))) (hM.ex e1) ⟨kk, f, rfl, rfl, rfl⟩ fun H2 h2 t2 => ?_
      exact ret (σ := [some (.ref p), some v1]) (fun v H' h t r => k v H' h t r) h2 ((Tk.of e1).trans t2)
    | ask =>
      refine q_match (y := "ask") (d_ixT (d_var rfl r1) d_int (by rfl)) fun H1 e1 => mv_no (mv_no (mv_yes ?_))
      have h1 := hM.ex e1
      refine s_dropM (a_consV (ev_var rfl) (a_cons (d_tup (e_cons d_str (e_star (d_storeE rfl h1) (.inr rfl) e_nil))) a_nil)) (m' := send1 sc m (.copy m.written m.stored)) (d := .none) h1 ⟨.copy m.written m.stored, rfl, fun l _ => agree_oth (by intro k f z; cases z), rfl, rfl⟩ fun H2 h2 t2 => ?_
      exact ret (σ := [some (.ref p), some v1]) (fun v H' h t r => k v H' h t r) h2 ((Tk.of e1).trans t2)
    | copy v n =>
      refine q_match (y := "copy") (d_ixT (d_var rfl r1) d_int (by rfl)) fun H1 e1 => mv_no (mv_no (mv_no ?_))
      have h1 := hM.ex e1
      have r1 : Dp K H1 v1 (.tuple [.str "copy", .int v, .int n]) := Dp.ex r1 e1
      obtain ⟨o, hm, hS⟩ := id h1
      have sl : ∀ {σ : L2.St} {H : Hp}, Evd K (tVar 1) σ H (.tuple [.str "copy", .int v, .int n]) → Evd K (tSl (rSlA K) (tVar 1) (tPart (tC (.int 1))) tNoPart) σ H (.tuple [.int v, .int n]) := fun h => d_slT h (eo_some ev_c) eo_none
      have tc : ∀ {H2 : Hp} {D : Ends}, Ex H1 H2 → (∀ H3, Mach K G H3 p sc cs (takeCopy (hsOf cs) m v n) → Tk H2 H3 → D.nx [some (.ref p), some v1] H3) → tDrop (tCallR (spM K P_take_copy) E0 (tCons (tVar 0) (tCons (tSl (rSlA K) (tVar 1) (tPart (tC (.int 1))) tNoPart) tNil))) D [some (.ref p), some v1] H2 := fun e k => s_dropM (a_consV (ev_var rfl) (a_cons (sl (d_var rfl (Dp.ex r1 e))) a_nil)) (h1.ex e) ⟨v, n, rfl, rfl, rfl⟩ k
      have ka : arrive (hsOf cs) sc m (.copy v n) = (if decide (m.seenV ≤ v) = true then (takeCopy (hsOf cs) m v n, none) else (if (!hsOf cs "newer") = true then (takeCopy (hsOf cs) m v n, some ⟨.older, v⟩) else (m, none))) := rfl
      rw [ka] at k
      refine s_if (b := decide (m.seenV ≤ v)) (t_test (d_ge (d_ixT (d_var rfl r1) d_int (by rfl)) (d_ixT (d_seen T (ev_var rfl) hm) d_int (by rfl)))) (fun hb H2 e2 => ?_) fun hb H2 e2 => ?_
      · rw [if_pos hb] at k
        refine tc e2 fun H3 h3 t3 => ?_
        exact ret (σ := [some (.ref p), some v1]) (fun v H' h t r => k v H' h t r) h3 (((Tk.of e1).trans (Tk.of e2)).trans t3)
      · rw [if_neg (by rw [hb]; exact Bool.false_ne_true)] at k
        refine s_when (b := !hsOf cs "newer") (et_not (t_B (d_hasM T rfl (h1.ex e2)))) (fun hb' H3 e3 => ?_) fun hb' H3 e3 => ?_
        · rw [if_pos hb'] at k
          refine q_nx (tc (e2.trans e3) fun H4 h4 t4 => ?_)
          exact s_retD (failTup .older (d_ixT (d_var rfl (Dp.tk (Dp.ex r1 (e2.trans e3)) t4)) d_int (by rfl)) rfl) fun v H5 e5 r => k v H5 (h4.ex e5) ((((Tk.of e1).trans (Tk.of (e2.trans e3))).trans t4).trans (Tk.of e5)) r
        · rw [if_neg (by rw [hb']; exact Bool.false_ne_true)] at k
          exact ret (σ := [some (.ref p), some v1]) (fun v H' h t r => k v H' h t r) (h1.ex (e2.trans e3)) ((Tk.of e1).trans (Tk.of (e2.trans e3)))
end
end Sc


/-! Sc12: done_with, done; a machine's methods. -/
namespace Sc
open PySem PySem.Spec PyProof.Rows L2 Evl
section
variable {P : Program} {w : World} {K : PySem.W.Frag} {mg : PySem.Str → Option Value} {base : Heap}
/-- THE RULE for a method without defaults -/
theorem fm_of {nm qual : PySem.Str} {f : Addr} {params : Arguments} {body : List Stmt} {scope : Scope} {N ps : List PySem.Str} {k : Nat} {sp : Sp} (F : ∃ fd, FunD K nm qual params body scope [] [] f fd) (S : FnScope N ps scope)
    (hb : ∀ (kV doc pm : Value) (an : Option Addr) (cdv ct : Value) (us : List Value), us.length = ps.length → bindArgs (PySem.W.fnOf nm qual params body scope .none kV doc pm an cdv ct) ⟨us, []⟩ = pure (ps.zip us))
    (len : ∀ vs H Q E, sp vs H Q E → vs.length = ps.length)
    (hbody : ∀ (cdv : Value) (A : Around) (outer : List Env) (s : Shared) (H : Hp) (vs : List V) (Q : VK) (E : XK), Room k (A.deeper (envOfC qual scope s.heap.objs.size f cdv)) → sp vs H Q E →
      ∃ t, PSs (cxOf CX0 P w K mg base N qual scope f cdv A outer s H E).nox body t ∧ t { nx := fun _ H' => Q .non H', rt := Q } (start N vs) H) : FnR P w K mg base CX0 (k + 1) f sp := by
  obtain ⟨fd, F⟩ := F
  have G : FnOk P w K mg base CX0 (k + 1) f fd ps sp := F.ok S len fun cdv A outer s H vs Q E hr h => by
    obtain ⟨t, h1, h2⟩ := hbody cdv A outer s H vs Q E hr h
    exact ⟨t, h1.nox, h2⟩
  have R := G.raw (F.bindsN hb) .nil
  exact R.imp fun vs H Q E h => by rw [List.append_nil]; exact h
theorem cut_front (ds : List PD) (i : Nat) : cutP ds none (some (i : Int)) = ds.take i := by
  unfold cutP
  rw [HT.sIx_none, HT.sIx_nat, List.drop_zero, Nat.sub_zero]
  by_cases h : i ≤ ds.length
  · rw [Nat.min_eq_left h]
  · rw [Nat.min_eq_right (by omega), List.take_length, List.take_of_length_le (by omega)]
theorem cut_back (ds : List PD) (i : Nat) : cutP ds (some (i : Int)) none = ds.drop i := by
  unfold cutP
  rw [HT.sIx_none, HT.sIx_nat]
  by_cases h : i ≤ ds.length
  · rw [Nat.min_eq_left h, List.take_of_length_le (by rw [List.length_drop]; omega)]
  · rw [Nat.min_eq_right (by omega), List.drop_of_length_le (Nat.le_refl _), List.drop_of_length_le (by omega), List.take_nil]
abbrev nm_done_with : List PySem.Str := ["machine", "deed", "letter"]
theorem sc_done_with : FnScope nm_done_with ["machine", "deed"] (defScope s_done_with) := ⟨rfl, rfl, rfl, by decide +kernel, rfl, by decide +kernel, by decide +kernel⟩
theorem ok_done_with (T : Tx K mg) : FR P w K mg base 5 "done_with" (spM K P_done_with) := by
  refine fr_of (k := 4) (N := nm_done_with) (ps := ["machine", "deed"]) (gl_done_with T) (T.c.d.def_ 27 (d := d_done_with)) sc_done_with (fun _ _ _ _ _ _ us hl => match us, hl with | [_, _], _ => rfl) (fun vs H Q E h => ?_) (fun cdv A outer s H vs Q E hr h => ?_)
  · obtain ⟨G, p, sc, cs, m, m', as, d, hA, hm, ⟨lw, i, rfl, hp, hc, rfl, rfl⟩, k⟩ := h
    exact hA.length
  · obtain ⟨G, p, sc, cs, m, m', as, d, hA, hM, ⟨lw, i, rfl, hp, ⟨hf9, hans, hed⟩, rfl, rfl⟩, k⟩ := h
    obtain ⟨v0, _, rfl, rfl, v1, _, rfl, r1, rfl⟩ := hA
    refine ⟨_, (pss_cons (ps_set (i := 2) sc_done_with.nd rfl (Or.inl rfl) (pe_ix (ix_listK (K := K) rfl) (pe_fldK (K := K) rfl (pv 0) rfl) (pe_ix (ix_tupK (K := K) rfl) (pv 1) pe_int (fun _ _ => rfl)) (fun _ _ => rfl)))
      (pss_cons (ps_if (pt_cmpR op_ne (pe_ix (ix_tupK (K := K) rfl) (pv 1) pe_int (fun _ _ => rfl)) pe_str (nomark _)) (pss_one (ps_fldK (K := K) rfl (pv 0) (pe_op op_cat (pe_slice (sl_listK (K := K) rfl) (pe_fldK (K := K) rfl (pv 0) rfl) po_none (po_some (pe_ix (ix_tupK (K := K) rfl) (pv 1) pe_int (fun _ _ => rfl)))) (pe_slice (sl_listK (K := K) rfl) (pe_fldK (K := K) rfl (pv 0) rfl) (po_some (pe_op op_add (pe_ix (ix_tupK (K := K) rfl) (pv 1) pe_int (fun _ _ => rfl)) pe_int)) po_none)) rfl)) pss_nil)
      (pss_cons (ps_if (pt_cmpR op_eq (pe_ix (ix_tupK (K := K) rfl) (pv 1) pe_int (fun _ _ => rfl)) pe_str (nomark _)) (pss_cons (ps_dput (hu_of hr) (pe_fldK (K := K) rfl (pv 0) rfl) (pe_ix (ix_tupK (K := K) rfl) (pv 2) pe_int (fun _ _ => rfl)) (pe_gstr (st_REFUSED T) rfl) rfl)
      (pss_one (ps_expr (pe_cR (ok_send T) hr (by rfl) (pa_cons (pv 0) (pa_cons (pe_tup (pa_cons pe_str (pa_cons (pe_ix (ix_tupK (K := K) rfl) (pv 2) pe_int (fun _ _ => rfl)) (pa_cons (pe_gstr (st_REFUSED T) rfl) pa_nil)))) pa_nil)))))) (pss_one (ps_if (pt_cmpR op_ne (pe_ix (ix_tupK (K := K) rfl) (pv 1) pe_int (fun _ _ => rfl)) pe_str (nomark _)) (pss_one (ps_ret (pe_cR (ok_arrive T) hr (by rfl) (pa_cons (pv 0) (pa_cons (pv 2) pa_nil))))) pss_nil)))
      (pss_one (ps_ret pe_non))))), ?_⟩
    obtain ⟨l, hl, hr'⟩ := possible_letr hp
    have hmem : l ∈ m.post := List.mem_of_getElem? hl
    obtain ⟨o, hm, hS⟩ := id hM
    have r1 : Dp K H v1 (.tuple [.str lw.s, .int (i : Int)]) := r1
    refine q_asgD (d_ixL (d := l.d) (d_post T (ev_var rfl) hm) (d_ixT (d_var rfl r1) d_int (by rfl)) (atI_of (by rw [List.getElem?_map, hl] <;> rfl))) fun vl H1 e1 rl => ?_
    have h1 := hM.ex e1
    have r1 := Dp.ex r1 e1
    have hpl := hM.bd.p
    refine q_whenM (b := decide (lw ≠ .double)) (m1 := rmPost m lw i) (evt_to (t_test (d_neStr (d_ixT (d_var rfl r1) d_int (by rfl)) d_str)) (by cases lw <;> decide +kernel)) h1 (fun hb D' H2 e2 h2 k2 => ?_) (fun hb => by
      have : lw = .double := by simpa using hb
      subst this
      rfl) fun H2 h2 t2 => ?_
    · have : rmPost m lw i = { m with post := m.post.take i ++ m.post.drop (i + 1) } := by
        have : lw ≠ .double := of_decide_eq_true hb
        cases lw <;> first | rfl | exact absurd rfl this
      rw [this] at k2
      obtain ⟨o2, hm2, hS2⟩ := id h2
      have r1 := Dp.ex r1 e2
      refine s_post T rfl h2 (Evn.to (n_cat (n_slL (d_post T (ev_var rfl) hm2) eo_none (eo_some (d_ixT (d_var rfl r1) d_int (by rfl)).int)) (n_slL (d_post T (ev_var rfl) hm2) (eo_some (d_add (d_ixT (d_var rfl r1) d_int (by rfl)) d_int).int) eo_none) ?_) ?_) ?_ k2
      · have e : ((i : Int) + 1) = ((i + 1 : Nat) : Int) := rfl
        rw [e, cut_front, cut_back, List.length_take, List.length_drop, List.length_map]
        omega
      · have e : ((i : Int) + 1) = ((i + 1 : Nat) : Int) := rfl
        rw [e, cut_front, cut_back, List.map_append, List.map_take, List.map_drop]
      · rw [List.length_append, List.length_take, List.length_drop]
        omega
    · have r1 := Dp.tk r1 t2
      have rl := Dp.tk rl t2 (imm_Letter l)
      have t12 := (Tk.of e1).trans t2
      cases lw with
      | refuse =>
        obtain ⟨kk, e, rfl, hg⟩ := hr' rfl
        have ke : doneWith (hsOf cs) sc m .refuse i = (send1 sc { rmPost m .refuse i with fates := putG (rmPost m .refuse i).fates kk .ref } (.answer kk .ref), none) := doneWith_eq hl
        rw [ke] at k
        refine q_if (b := true) (evt_to (t_test (d_eqStr (d_ixT (d_var rfl r1) d_int (by rfl)) d_str)) (by decide +kernel)) (fun _ H3 e3 => ?_) fun z => nomatch z
        have rl := Dp.ex rl e3
        have hln := putG_len (rmPost m .refuse i).fates kk (.ref : Fate)
        rw [rm_fates] at hln
        refine q_nx (s_putFate (f := .ref) (kk := kk) T rfl (h2.ex e3) (fun _ e => d_ixT (d_var rfl (Dp.ex rl e)) d_int (by rfl)) d_str (by rw [rm_fates]; omega) fun H4 h4 t4 => ?_)
        have rl := Dp.tk rl t4
        refine s_dropM (a_consV (ev_var rfl) (a_cons (d_tup (e_cons d_str (e_cons (d_ixT (d_var rfl rl) d_int (by rfl)) (e_cons d_str e_nil)))) a_nil)) h4 (m' := send1 sc { rmPost m .refuse i with fates := putG (rmPost m .refuse i).fates kk .ref } (.answer kk .ref)) (d := .none) ⟨.answer kk .ref, rfl, fun l hl => agree_ans fun k' f' hl' hk => ?_, rfl, rfl⟩ fun H5 h5 t5 => ?_
        · have := hans l (rm_mem m .refuse i l hl) k' f' hl'
          rw [hk, hg] at this
          cases this
        · exact (s_retD (K := K) d_non fun v H6 e6 r => k v H6 (h5.ex e6) ((((t12.trans (Tk.of e3)).trans t4).trans t5).trans (Tk.of e6)) r : tRet (tC .non) { nx := fun _ H' => Q .non H', rt := Q } [some (.ref p), some v1, some vl] H5)
      | lose =>
        have ke : doneWith (hsOf cs) sc m .lose i = (rmPost m .lose i, none) := doneWith_eq hl
        rw [ke] at k
        refine q_if (b := false) (evt_to (t_test (d_eqStr (d_ixT (d_var rfl r1) d_int (by rfl)) d_str)) (by decide +kernel)) (fun z => nomatch z) fun _ H3 e3 => ?_
        refine s_when (b := false) (evt_to (t_test (d_neStr (d_ixT (d_var rfl (Dp.ex r1 e3)) d_int (by rfl)) d_str)) (by decide +kernel)) (fun z => nomatch z) fun _ H4 e4 => ?_
        exact (s_retD (K := K) d_non fun v H6 e6 r => k v H6 ((h2.ex (e3.trans e4)).ex e6) ((t12.trans (Tk.of (e3.trans e4))).trans (Tk.of e6)) r : tRet (tC .non) { nx := fun _ H' => Q .non H', rt := Q } [some (.ref p), some v1, some vl] H4)
      | carry =>
        have ke : doneWith (hsOf cs) sc m .carry i = arrive (hsOf cs) sc (rmPost m .carry i) l := doneWith_eq hl
        rw [ke] at k
        refine q_if (b := false) (evt_to (t_test (d_eqStr (d_ixT (d_var rfl r1) d_int (by rfl)) d_str)) (by decide +kernel)) (fun z => nomatch z) fun _ H3 e3 => ?_
        refine s_when (b := true) (evt_to (t_test (d_neStr (d_ixT (d_var rfl (Dp.ex r1 e3)) d_int (by rfl)) d_str)) (by decide +kernel)) (fun _ H4 e4 => ?_) fun z => nomatch z
        refine s_retM (a_consV (ev_var rfl) (a_cons (d_var rfl (Dp.ex (Dp.ex rl e3) e4)) a_nil)) (h2.ex (e3.trans e4)) ⟨l, rfl, ⟨by rw [rm_fates]; exact hf9, fun x hx k f e => by rw [rm_fates]; exact hans x (rm_mem m _ i x hx) k f e, fun k e z => hed k e (z ▸ hmem)⟩, rfl, rfl⟩ fun v H5 h5 t5 r5 => k v H5 h5 ((t12.trans (Tk.of (e3.trans e4))).trans t5) r5
      | double =>
        have ke : doneWith (hsOf cs) sc m .double i = arrive (hsOf cs) sc (rmPost m .double i) l := doneWith_eq hl
        rw [ke] at k
        refine q_if (b := false) (evt_to (t_test (d_eqStr (d_ixT (d_var rfl r1) d_int (by rfl)) d_str)) (by decide +kernel)) (fun z => nomatch z) fun _ H3 e3 => ?_
        refine s_when (b := true) (evt_to (t_test (d_neStr (d_ixT (d_var rfl (Dp.ex r1 e3)) d_int (by rfl)) d_str)) (by decide +kernel)) (fun _ H4 e4 => ?_) fun z => nomatch z
        refine s_retM (a_consV (ev_var rfl) (a_cons (d_var rfl (Dp.ex (Dp.ex rl e3) e4)) a_nil)) (h2.ex (e3.trans e4)) ⟨l, rfl, ⟨by rw [rm_fates]; exact hf9, fun x hx k f e => by rw [rm_fates]; exact hans x (rm_mem m _ i x hx) k f e, fun k e z => hed k e (z ▸ hmem)⟩, rfl, rfl⟩ fun v H5 h5 t5 r5 => k v H5 h5 ((t12.trans (Tk.of (e3.trans e4))).trans t5) r5
end
end Sc


/-! Sc13: done; can, do. -/
namespace Sc
open PySem PySem.Spec PyProof.Rows L2 Evl
def P_done : List Ar → Sch → List Sx → M → M → PD → Prop := fun as s cs m m' d => ∃ dd, as = [.dat (Deed.d dd)] ∧ isPossible (hsOf cs) s m dd = true ∧ (∃ N, Iv N m ∧ N ≤ 500) ∧ m' = (done (hsOf cs) s m dd).1 ∧ d = failD (done (hsOf cs) s m dd).2
def P_do : List Ar → Sch → List Sx → M → M → PD → Prop := fun as s cs m m' d => ∃ dd, as = [.dat (Deed.d dd)] ∧ deedOk s dd ∧ isPossible (hsOf cs) s m dd = true ∧ (∃ N, Iv N m ∧ N ≤ 500) ∧ m.trail ≤ 1000 ∧ m' = (doM (hsOf cs) s m dd).1 ∧ d = failD (doM (hsOf cs) s m dd).2
def sp_can (K : PySem.W.Frag) : Sp := spP K fun H as r => ∃ p s cs m d, as = [.val (.ref p), .dat (Deed.d d)] ∧ MachP K H p s cs m ∧ deedOk s d ∧ r = .bool (isPossible (hsOf cs) s m d)
section
variable {P : Program} {w : World} {K : PySem.W.Frag} {mg : PySem.Str → Option Value} {base : Heap}
theorem Mach.n {G H : Hp} {p : Addr} {s : Sch} {cs : List Sx} {m : M} (h : Mach K G H p s cs m) (n : Nat) : Mach K G H p s cs { m with n := n } := by
  obtain ⟨o, h1, h2⟩ := h
  exact ⟨o, ⟨h1.ob, h1.plan, h1.given, h1.seen, h1.rows, h1.post, h1.fates, h1.passed, h1.fin, h1.trail, { h1.bd with }⟩, h2⟩
theorem done_none {hs : Sx → Bool} {s : Sch} {m m1 : M} {d : Deed} (h : done1 hs s m d = (m1, none)) : done hs s m d = ({ m1 with n := m.n + 1 }, failureOf hs m1) := by
  unfold done
  rw [h]
  rfl
theorem done_some {hs : Sx → Bool} {s : Sch} {m m1 : M} {d : Deed} {f : Fail} (h : done1 hs s m d = (m1, some f)) : done hs s m d = ({ m1 with n := m.n + 1 }, some f) := by
  unfold done
  rw [h]
theorem mm_next {tb : TS} {x : V} {D : Ends} {σ : L2.St} {H : Hp} (h : tb D σ H) : tMAny tb x D σ H := h
abbrev nm_done : List PySem.Str := ["machine", "deed", "failure"]
theorem sc_done : FnScope nm_done ["machine", "deed"] (defScope s_done) := ⟨rfl, rfl, rfl, by decide +kernel, rfl, by decide +kernel, by decide +kernel⟩
theorem ok_done (T : Tx K mg) : FR P w K mg base 6 "done" (spM K P_done) := by
  refine fr_of (k := 5) (N := nm_done) (ps := ["machine", "deed"]) (gl_done T) (T.c.d.def_ 26 (d := d_done)) sc_done (fun _ _ _ _ _ _ us hl => match us, hl with | [_, _], _ => rfl) (fun vs H Q E h => ?_) (fun cdv A outer s H vs Q E hr h => ?_)
  · obtain ⟨G, p, sc, cs, m, m', as, d, hA, hm, ⟨dd, rfl, hp, hi, rfl, rfl⟩, k⟩ := h
    exact hA.length
  · obtain ⟨G, p, sc, cs, m, m', as, d, hA, hM, ⟨dd, rfl, hp, ⟨N, hi, hN⟩, rfl, rfl⟩, k⟩ := h
    obtain ⟨v0, _, rfl, rfl, v1, _, rfl, r1, rfl⟩ := hA
    obtain ⟨fdS, Fs, Bs⟩ := ok_store (P := P) (w := w) (base := base) T
    refine ⟨_, (pss_cons (ps_match (pe_ix (ix_tupK (K := K) rfl) (pv 1) pe_int (fun _ _ => rfl))
      (pm_val (pss_cons (ps_expr (pe_bm PySem.F.plainAttrs_list PySem.F.slot_list_append PySem.F.type_list_append mt_append (pe_fldK (K := K) rfl (pv 0) rfl) (pa_cons (pe_tup (pa_cons (pe_fldK (K := K) rfl (pv 0) rfl) (pa_cons (pe_ix (ix_tupK (K := K) rfl) (pv 1) pe_int (fun _ _ => rfl)) (pa_cons (pe_gstr (st_NEW T) rfl) pa_nil)))) pa_nil)))
      (pss_one (ps_augK (K := K) rfl (pv 0) pe_int in_add)))
      (pm_val (pss_one (ps_expr (pe_cR (ok_send_edit T) hr (by rfl) (pa_cons (pv 0) (pa_cons (pe_cR (ok_first_with T) hr (by rfl) (pa_cons (pv 0) (pa_cons (pe_gstr (st_NEW T) rfl) pa_nil))) pa_nil)))))
      (pm_val (pss_one (ps_expr (pe_cR (ok_send_edit T) hr (by rfl) (pa_cons (pv 0) (pa_cons (pe_cR (ok_first_with T) hr (by rfl) (pa_cons (pv 0) (pa_cons (pe_gstr (st_SENT T) rfl) pa_nil))) pa_nil)))))
      (pm_val (pss_one (ps_expr (pe_cR (ok_send T) hr (by rfl) (pa_cons (pv 0) (pa_cons (pe_tup (pa_cons pe_str pa_nil)) pa_nil)))))
      (pm_val (pss_one (ps_expr (pe_cR (ok_write T) hr (by rfl) (pa_cons (pv 0) (pa_cons pe_str pa_nil)))))
      (pm_val (pss_cons (ps_if (pt_not (pt_val (pe_cR (ok_has T) hr (by rfl) (pa_cons (pv 0) (pa_cons pe_str pa_nil))))) (pss_one (ps_fldK (K := K) rfl (pv 0) (pe_lst pa_nil) rfl)) pss_nil)
      (pss_one (ps_expr (pe_cR (ok_take_copy T) hr (by rfl) (pa_cons (pv 0) (pa_cons (pe_prop (pv 0) (cl_Machine T) (store_prop T) Fs (hr.mono (by decide)) Bs .nil pass0 rfl) pa_nil))))))
      (pm_any (pss_cons (ps_set (i := 2) sc_done.nd rfl (Or.inl rfl) (pe_cR (ok_done_with T) hr (by rfl) (pa_cons (pv 0) (pa_cons (pv 1) pa_nil))))
      (pss_one (ps_if (pt_cmpR op_notN (pv 2) pe_non (nomark _)) (pss_one (ps_ret (pv 2))) pss_nil)))))))))))
      (pss_one (ps_ret (pe_cR (ok_failure_of_machines T) hr (by rfl) (pa_cons (pv 0) pa_nil))))), ?_⟩
    have hi1 := hi.done1 hp
    obtain ⟨o, hm, hS⟩ := id hM
    have fin : ∀ {σ : L2.St} {m1 : M} {H1 : Hp}, done1 (hsOf cs) sc m dd = (m1, none) → σ[0]? = some (some (.ref p)) → Mach K G H1 p sc cs m1 → Tk H H1 → tRet (tCallR (sp_failure_of_machines K) E0 (tCons (tVar 0) tNil)) { nx := fun _ H' => Q .non H', rt := Q } σ H1 := fun hd hx h1 t1 => by
      rw [done_none hd] at k
      rw [hd] at hi1
      exact s_retD (d_call (a_consV (ev_var hx) a_nil) fun H2 e2 => ⟨p, sc, cs, _, rfl, (h1.ex e2).at, hi1.m0, rfl⟩) fun v H2 e2 r => k v H2 ((h1.ex e2).n _) (t1.trans (Tk.of e2)) r
    have fwE : ∀ {mk : Mark} {z : Sx} {σ : L2.St} {H5 : Hp}, σ[0]? = some (some (.ref p)) → Ex H H5 → Mark.d mk = .str z → (mk = .new ∨ mk = .sent) → Evd K (tCallR (sp_first_with K) E0 (tCons (tVar 0) (tCons (tC (.str z)) tNil))) σ H5 (optRow (firstWith m mk)) := fun h e hz hk => d_call (a_consV (ev_var h) (a_cons d_str a_nil)) fun H6 e6 => ⟨p, sc, cs, m, _, by rw [hz], ((hM.ex e).ex e6).at, hk, rfl⟩
    cases dd with
    | edit e =>
      refine q_match (y := "edit") (d_ixT (d_var rfl r1) d_int (by rfl)) fun H1 e1 => mv_yes ?_
      have h1 := hM.ex e1
      obtain ⟨o1, hm1, hS1⟩ := id h1
      have hrm : m.rows.length + 1 ≤ 1000 := by
        have h2 := room_le hM.ok
        have : m.rows.length < sc.room := by
          have hpf := possible_fin hp
          unfold isPossible at hp
          rw [hpf] at hp
          exact of_decide_eq_true hp
        omega
      refine q_nx (s_addRow (r := ⟨m.made, e, .new⟩) T rfl h1 (d_tup (e_cons (d_made T (ev_var rfl) hm1) (e_cons (d_ixT (d_var rfl (Dp.ex r1 e1)) d_int (by rfl)) (e_cons d_str e_nil)))) hrm fun H2 h2 t2 => ?_)
      have hmd := hi.m1
      exact s_made T rfl h2 d_int (by show m.made + 1 ≤ 1000; omega) fun H3 h3 t3 => fin rfl rfl h3 (((Tk.of e1).trans t2).trans t3)
    | letr lw i =>
      have hp' : letterPossible sc m lw i = true := by
        have hpf := possible_fin hp
        unfold isPossible at hp
        rw [hpf] at hp
        exact hp
      refine q_match (y := lw.s) (d_ixT (d_var rfl r1) d_int (by rfl)) fun H1 e1 => ?_
      have h1 := hM.ex e1
      have r1 := Dp.ex r1 e1
      have fall : tSeq (tAsg (tCallR (spM K P_done_with) E0 (tCons (tVar 0) (tCons (tVar 1) tNil))) (gName 2)) (tIfS (tTest (tOp (fun x y H Q => y = .non ∧ Q (.bl (!decide (x = .non))) H) (tVar 2) (tC .non))) (tRet (tVar 2)) tNext) { nx := (tRet (tCallR (sp_failure_of_machines K) E0 (tCons (tVar 0) tNil))) { nx := fun _ H' => Q .non H', rt := Q }, rt := Q } [some (.ref p), some v1, none] H1 := by
        refine q_asgM (a_consV (ev_var rfl) (a_cons (d_var rfl r1) a_nil)) h1 ⟨lw, i, rfl, hp', ⟨Nat.le_trans hi.fl (by omega), hi.an, fun k e hk => ?_⟩, rfl, rfl⟩ fun v2 H2 h2 t2 r2 => ?_
        · have := hi.ed _ hk k e rfl
          have := hi.m1
          omega
        · cases hd : (doneWith (hsOf cs) sc m lw i).2 with
          | some f =>
            rw [hd] at r2
            refine s_when (b := true) (t_test (d_notN (d_var rfl r2))) (fun _ H3 e3 => ?_) fun z => nomatch z
            have hd1 : done1 (hsOf cs) sc m (.letr lw i) = ((doneWith (hsOf cs) sc m lw i).1, some f) := by
              rw [← hd]
              rfl
            rw [done_some hd1] at k
            exact s_retD (d_var rfl (Dp.ex r2 e3)) fun v H4 e4 r => k v H4 (((h2.ex e3).ex e4).n _) ((((Tk.of e1).trans t2).trans (Tk.of e3)).trans (Tk.of e4)) r
          | none =>
            rw [hd] at r2
            refine s_when (b := false) (t_test (d_notN (d_var rfl r2))) (fun z => nomatch z) fun _ H3 e3 => ?_
            have hd1 : done1 (hsOf cs) sc m (.letr lw i) = ((doneWith (hsOf cs) sc m lw i).1, none) := by
              rw [← hd]
              rfl
            exact fin hd1 rfl (h2.ex e3) (((Tk.of e1).trans t2).trans (Tk.of e3))
      cases lw <;> exact mv_no (mv_no (mv_no (mv_no (mv_no (mv_no fall)))))
    | plain pl =>
      refine q_match (y := pl.s) (d_ixT (d_var rfl r1) d_int (by rfl)) fun H1 e1 => ?_
      have h1 := hM.ex e1
      cases pl with
      | send =>
        refine mv_no (mv_yes ?_)
        cases hf : firstWith m .new with
        | none =>
          have hpf := possible_fin hp
          unfold isPossible at hp
          rw [hpf] at hp
          simp [hf] at hp
        | some r =>
          have h3 := fwE (mk := .new) (σ := [some (.ref p), some v1, none]) rfl e1 rfl (.inl rfl)
          rw [hf] at h3
          refine s_dropM (m' := sendEdit sc m r) (d := .none) (a_consV (ev_var rfl) (a_cons h3 a_nil)) h1 ⟨r, rfl, rfl, rfl⟩ fun H2 h2 t2 => fin (σ := [some (.ref p), some v1, none]) ?_ rfl h2 ((Tk.of e1).trans t2)
          show ((match firstWith m .new with | some r => sendEdit sc m r | none => m), (none : Option Fail)) = _
          rw [hf]
      | again =>
        refine mv_no (mv_no (mv_yes ?_))
        cases hf : firstWith m .sent with
        | none =>
          have hpf := possible_fin hp
          unfold isPossible at hp
          rw [hpf] at hp
          simp [hf] at hp
        | some r =>
          have h3 := fwE (mk := .sent) (σ := [some (.ref p), some v1, none]) rfl e1 rfl (.inr rfl)
          rw [hf] at h3
          refine s_dropM (m' := sendEdit sc m r) (d := .none) (a_consV (ev_var rfl) (a_cons h3 a_nil)) h1 ⟨r, rfl, rfl, rfl⟩ fun H2 h2 t2 => fin (σ := [some (.ref p), some v1, none]) ?_ rfl h2 ((Tk.of e1).trans t2)
          show ((match firstWith m .sent with | some r => sendEdit sc m r | none => m), (none : Option Fail)) = _
          rw [hf]
      | ask =>
        refine mv_no (mv_no (mv_no (mv_yes ?_)))
        exact s_dropM (m' := send1 sc m .ask) (d := .none) (a_consV (ev_var rfl) (a_cons (d_tup (e_cons d_str e_nil)) a_nil)) h1 ⟨.ask, rfl, fun l _ => agree_oth (by intro k f z; cases z), rfl, rfl⟩ fun H2 h2 t2 => fin (σ := [some (.ref p), some v1, none]) rfl rfl h2 ((Tk.of e1).trans t2)
      | other =>
        refine mv_no (mv_no (mv_no (mv_no (mv_yes ?_))))
        exact s_dropM (m' := writeE m .up) (d := .none) (a_consV (ev_var rfl) (a_cons d_str a_nil)) h1 ⟨.up, rfl, rfl, rfl⟩ fun H2 h2 t2 => fin (σ := [some (.ref p), some v1, none]) rfl rfl h2 ((Tk.of e1).trans t2)
      | reload =>
        refine mv_no (mv_no (mv_no (mv_no (mv_no (mv_yes ?_)))))
        refine q_whenM (b := !hsOf cs "saves") (m1 := if hsOf cs "saves" = true then m else { m with rows := [] }) (et_not (t_B (d_hasM T rfl h1))) h1 (fun hb D' H2 e2 h2 k2 => ?_) (fun hb => ?_) fun H2 h2 t2 => ?_
        · have : hsOf cs "saves" = false := by simpa using hb
          rw [this] at k2
          exact s_rows T rfl h2 (ls := []) (n_lst e_nil) (by decide) k2
        · have : hsOf cs "saves" = true := by simpa using hb
          rw [this]
          rfl
        · have ew : (if hsOf cs "saves" = true then m else { m with rows := [] } : M).written = m.written ∧ (if hsOf cs "saves" = true then m else { m with rows := [] } : M).stored = m.stored := by split <;> exact ⟨rfl, rfl⟩
          have h3 := d_storeE (σ := [some (.ref p), some v1, none]) (i := 0) rfl h2
          rw [ew.1, ew.2] at h3
          exact s_dropM (m' := takeCopy (hsOf cs) (if hsOf cs "saves" = true then m else { m with rows := [] }) m.written m.stored) (d := .none) (a_consV (ev_var rfl) (a_cons h3 a_nil)) h2 ⟨m.written, m.stored, rfl, rfl, rfl⟩ fun H3 h3 t3 => fin (σ := [some (.ref p), some v1, none]) rfl rfl h3 (((Tk.of e1).trans t2).trans t3)
abbrev nm_Machine_can : List PySem.Str := ["self", "deed"]
theorem sc_Machine_can : FnScope nm_Machine_can ["self", "deed"] (defScope s_Machine_can) := ⟨rfl, rfl, rfl, by decide +kernel, rfl, by decide +kernel, by decide +kernel⟩
theorem ok_Machine_can (T : Tx K mg) : FnR P w K mg base CX0 3 (He.ma K (He.ga K "Machine") "can") (sp_can K) := by
  refine fm_of (k := 2) (N := nm_Machine_can) (ps := ["self", "deed"]) (T.c.d.def_ 14 (d := d_Machine_can)) sc_Machine_can (fun _ _ _ _ _ _ us hl => match us, hl with | [_, _], _ => rfl) (fun vs H Q E h => ?_) (fun cdv A outer s H vs Q E hr h => ?_)
  · obtain ⟨as, r, hA, ⟨p, sc, cs, m, d, rfl, hm, hd, rfl⟩, k⟩ := h
    exact hA.length
  · obtain ⟨as, r, hA, ⟨p, sc, cs, m, d, rfl, ⟨o, hm⟩, hd, rfl⟩, k⟩ := h
    obtain ⟨v0, _, rfl, rfl, v1, _, rfl, r1, rfl⟩ := hA
    refine ⟨_, (pss_cons (ps_if (pt_not (pt_val (pe_cR (ok_is_deed_of T) hr (by rfl) (pa_cons (pe_fldK (K := K) rfl (pv 0) rfl) (pa_cons (pv 1) pa_nil))))) (pss_one ps_never) pss_nil)
      (pss_one (ps_ret (pe_cR (ok_is_possible T) hr (by rfl) (pa_cons (pv 0) (pa_cons (pv 1) pa_nil)))))), ?_⟩
    refine q_when (b := false) (et_not (a := true) (t_B (d_call (a_consV (v_plan T (ev_var rfl) hm) (a_cons (d_var rfl r1) a_nil)) fun H1 e1 => ⟨_, sc, d, rfl, hm.plan.ex e1, hd, rfl⟩))) (fun z => nomatch z) fun _ H1 e1 => ?_
    exact s_retD (d_call (a_consV (ev_var rfl) (a_cons (d_var rfl (Dp.ex r1 e1)) a_nil)) fun H2 e2 => ⟨p, sc, cs, m, d, rfl, ⟨o, (hm.ex e1).ex e2⟩, rfl⟩) fun v H2 e2 r => k v H2 (e1.trans e2) r
/-- a method of a machine called, purely -/
theorem d_meth {σ : L2.St} {H : Hp} {f : PySem.Str} {PP : Hp → List Ar → PD → Prop} {p : Addr} {s : Sch} {cs : List Sx} {m : M} {i : Nat} {t : TA} {as : List Ar} {d : PD} {E : XK} (hx : σ[i]? = some (some (.ref p))) (hM : MachP K H p s cs m) (hl : ∀ o, (MF o m).lookup f = none) (h : Eva K t σ H as) (hP : ∀ H1, Ex H H1 → PP H1 (.val (.ref p) :: as) d) : Evd K (tMethR (He.ga K "Machine") f (spP K PP) E (tVar i) t) σ H d := fun H1 a Q k => by
  obtain ⟨o, hA⟩ := hM
  refine ⟨_, hx, p, o.dx, MF o m, rfl, (hA.ex a).ob, hl o, ?_⟩
  exact h H1 a _ fun vs H2 q2 r2 => ⟨Ar.val (.ref p) :: as, d, ⟨_, _, rfl, rfl, r2⟩, hP H2 (a.trans q2), fun v H' e r => k v H' (q2.trans e) r⟩
theorem s_endM {PP : List Ar → Sch → List Sx → M → M → PD → Prop} {σ : L2.St} {G H : Hp} {p : Addr} {s : Sch} {cs : List Sx} {m m' : M} {i : Nat} {t : TA} {as : List Ar} {f : Option Fail} {E : XK} {D : Ends} (T : Tx K mg) (hx : σ[i]? = some (some (.ref p))) (h : Eva K t σ H (.val (.ref p) :: as)) (hM : Mach K G H p s cs m) (hP : PP as s cs m m' (failD f))
    (k : ∀ H1, Mach K G H1 p s cs { m' with fin := f } → Tk H H1 → D.nx σ H1) : sFld K (tVar i) (tCallR (spM K PP) E t) "end" D σ H :=
  h H (Ex.refl _) _ fun vs H1 e1 r1 => ⟨G, p, s, cs, m, m', as, _, r1, hM.ex e1, hP, fun v H' hm' tk r => s_end (tv := tC v) T hx hm' (d_c r) fun H2 h2 t2 => k H2 h2 ((Tk.of e1).trans (tk.trans t2))⟩
abbrev nm_Machine_do : List PySem.Str := ["self", "deed"]
theorem sc_Machine_do : FnScope nm_Machine_do ["self", "deed"] (defScope s_Machine_do) := ⟨rfl, rfl, rfl, by decide +kernel, rfl, by decide +kernel, by decide +kernel⟩
theorem ok_Machine_do (T : Tx K mg) : FnR P w K mg base CX0 7 (He.ma K (He.ga K "Machine") "do") (spM K P_do) := by
  refine fm_of (k := 6) (N := nm_Machine_do) (ps := ["self", "deed"]) (T.c.d.def_ 16 (d := d_Machine_do)) sc_Machine_do (fun _ _ _ _ _ _ us hl => match us, hl with | [_, _], _ => rfl) (fun vs H Q E h => ?_) (fun cdv A outer s H vs Q E hr h => ?_)
  · obtain ⟨G, p, sc, cs, m, m', as, d, hA, hm, ⟨dd, rfl, hp, hi, hn, ht, rfl, rfl⟩, k⟩ := h
    exact hA.length
  · obtain ⟨G, p, sc, cs, m, m', as, d, hA, hM, ⟨dd, rfl, hd, hp, ⟨N, hi, hN⟩, ht, rfl, rfl⟩, k⟩ := h
    obtain ⟨v0, _, rfl, rfl, v1, _, rfl, r1, rfl⟩ := hA
    refine ⟨_, (pss_cons (ps_if (pt_not (pt_val (pe_methR (pv 0) (cl_Machine T) (me_Machine_can T) (ok_Machine_can T) (hr.mono (by decide)) pass0 (pa_cons (pv 1) pa_nil)))) (pss_one ps_never) pss_nil)
      (pss_cons (ps_expr (pe_bm PySem.F.plainAttrs_list PySem.F.slot_list_append PySem.F.type_list_append mt_append (pe_fldK (K := K) rfl (pv 0) rfl) (pa_cons (pv 1) pa_nil)))
      (pss_cons (ps_fldK (K := K) rfl (pv 0) (pe_cR (ok_done T) hr (by rfl) (pa_cons (pv 0) (pa_cons (pv 1) pa_nil))) rfl)
      (pss_one (ps_ret (pe_fldK (K := K) rfl (pv 0) rfl)))))), ?_⟩
    refine q_when (b := false) (evt_to (et_not (t_B (d_meth rfl hM.at (fun _ => by rfl) (a_cons (d_var rfl r1) a_nil) fun H1 e1 => ⟨p, sc, cs, m, dd, rfl, (hM.ex e1).at, hd, rfl⟩))) (by rw [hp]; rfl)) (fun z => nomatch z) fun _ H1 e1 => ?_
    have h1 := hM.ex e1
    have r1 := Dp.ex r1 e1
    refine q_nx (s_addTrail T rfl h1 (d_var rfl r1) (by omega) fun H2 h2 t2 => ?_)
    have r1 := Dp.tk r1 t2 (imm_Deed dd)
    have hi2 : Iv N { m with trail := m.trail + 1 } := hi.any
    have e2 : doM (hsOf cs) sc m dd = ({ (done (hsOf cs) sc { m with trail := m.trail + 1 } dd).1 with fin := (done (hsOf cs) sc { m with trail := m.trail + 1 } dd).2 }, (done (hsOf cs) sc { m with trail := m.trail + 1 } dd).2) := rfl
    rw [e2] at k
    refine q_nx (s_endM T rfl (a_consV (ev_var rfl) (a_cons (d_var rfl r1) a_nil)) h2 ⟨dd, rfl, hp, ⟨N, hi2, hN⟩, rfl, rfl⟩ fun H3 h3 t3 => ?_)
    obtain ⟨o3, hm3, hS3⟩ := id h3
    exact s_retD (d_end T (ev_var rfl) hm3) fun v H4 e4 r => k v H4 (h3.ex e4) ((((Tk.of e1).trans t2).trans t3).trans (Tk.of e4)) r
end
end Sc


/-! Sc14: a machine made, a scheme made. -/
namespace Sc
open PySem PySem.Spec PyProof.Rows L2 Evl
theorem pi_zipAK {X : Cx} {K : PySem.W.Frag} {e e2 : Expr} {ta : TA} {p pos tpos : Pos} {elts : List Expr} {kk : Nat} (hK : X.K = K) (hg : Gl X "zip") (hm : X.mg "zip" = none) (ha : PA X [e, e2] ta)
    (hs : starEach [e, e2] X.env = (false, eval e X.env) :: starEach [e2] X.env := by rfl) (hpl : (backTo pos (starEach [e2] X.env)).any (·.1) = false := by rfl) :
    PI X (.Tuple elts kk tpos) (.Call (.Name "zip" p) [e, e2] [] pos) (RZ.iZipA K ta) := hK ▸ RZ.pi_zipA hg hm ha hs hpl
/-- all but p stays -/
def ExA (p : Addr) (H H' : Hp) : Prop := ∀ a o, a ≠ p → H a = some o → H' a = some o
theorem ExA.trans {p : Addr} {H H1 H2 : Hp} (a : ExA p H H1) (b : ExA p H1 H2) : ExA p H H2 := fun x o n h => b x o n (a x o n h)
theorem ExA.of {p : Addr} {H H1 : Hp} (a : Ex H H1) : ExA p H H1 := fun x o _ h => a x o h
theorem ExA.up {p : Addr} {H : Hp} {o : HO} : ExA p H (upd H p o) := fun x u n h => by rw [upd_ne n]; exact h
section
variable {K : PySem.W.Frag} {mg : Sx → Option Value} {σ : L2.St} {G H H' : Hp} {tv : TE} {p dx C : Addr} {fs : List (Sx × V)} {f : Sx} {D : Ends} {tz : TS} {d : PD}
theorem s_init (c : Cls K C) (hx : σ[0]? = some (some (.ref p))) (ob : H p = some (.ins C dx fs)) (hf : fs.length < 1000) (n : NoAttr K C f) (hv : Evd K tv σ H d) (hi : Imm d = true)
    (k : ∀ v H1, ExA p H H1 → Dp K H1 v d → H1 p = some (.ins C dx (putF f v fs)) → Tk H H1 → D.nx σ H1) : sFld K (tVar 0) tv f D σ H := hv H (Ex.refl _) _ fun v H1 e1 r1 => by
  have h1 := e1 p _ ob
  have tk : Tk H1 (upd H1 p (.ins C dx (putF f v fs))) := Tk.ob h1 (fun _ z => nomatch z) fun _ _ z => nomatch z
  exact ⟨_, hx, p, _, _, _, rfl, h1, c, n, hf, k v _ ((ExA.of e1).trans ExA.up) (r1.tk tk hi) upd_same ((Tk.of e1).trans tk)⟩
theorem q_init (c : Cls K C) (hx : σ[0]? = some (some (.ref p))) (ob : H p = some (.ins C dx fs)) (hf : fs.length < 1000) (n : NoAttr K C f) (hv : Evd K tv σ H d) (hi : Imm d = true)
    (k : ∀ v H1, ExA p H H1 → Dp K H1 v d → H1 p = some (.ins C dx (putF f v fs)) → Tk H H1 → tz D σ H1) : tSeq (sFld K (tVar 0) tv f) tz D σ H := s_init (D := { D with nx := tz D }) c hx ob hf n hv hi k
theorem q_initV {x : V} (c : Cls K C) (hx : σ[0]? = some (some (.ref p))) (ob : H p = some (.ins C dx fs)) (hf : fs.length < 1000) (n : NoAttr K C f) (hv : Ev tv σ H x)
    (k : ∀ H1, ExA p H H1 → H1 p = some (.ins C dx (putF f x fs)) → Tk H H1 → tz D σ H1) : tSeq (sFld K (tVar 0) tv f) tz D σ H := hv H (Ex.refl _) _ fun H1 e1 => by
  have h1 := e1 p _ ob
  have tk : Tk H1 (upd H1 p (.ins C dx (putF f x fs))) := Tk.ob h1 (fun _ z => nomatch z) fun _ _ z => nomatch z
  exact ⟨_, hx, p, _, _, _, rfl, h1, c, n, hf, k _ ((ExA.of e1).trans ExA.up) upd_same ((Tk.of e1).trans tk)⟩
theorem s_initL {ds : List PD} (c : Cls K C) (hx : σ[0]? = some (some (.ref p))) (ob : H p = some (.ins C dx fs)) (hf : fs.length < 1000) (n : NoAttr K C f) (hv : Evn K tv σ H ds) (hi : ImmAll ds = true)
    (k : ∀ l vs H1, H l = none → l ≠ p → ExA p H H1 → H1 l = some (.lst vs) → DpAll K H1 vs ds → H1 p = some (.ins C dx (putF f (.ref l) fs)) → Tk H H1 → D.nx σ H1) : sFld K (tVar 0) tv f D σ H := hv H (Ex.refl _) _ fun l vs H1 hl e1 h1l r1 => by
  have h1 := e1 p _ ob
  have ne : l ≠ p := (nold ob hl).symm
  have tk : Tk H1 (upd H1 p (.ins C dx (putF f (.ref l) fs))) := Tk.ob h1 (fun _ z => nomatch z) fun _ _ z => nomatch z
  exact ⟨_, hx, p, _, _, _, rfl, h1, c, n, hf, k l vs _ hl ne ((ExA.of e1).trans ExA.up) (by rw [upd_ne ne]; exact h1l) (r1.tk tk hi) upd_same ((Tk.of e1).trans tk)⟩
theorem q_initL {ds : List PD} (c : Cls K C) (hx : σ[0]? = some (some (.ref p))) (ob : H p = some (.ins C dx fs)) (hf : fs.length < 1000) (n : NoAttr K C f) (hv : Evn K tv σ H ds) (hi : ImmAll ds = true)
    (k : ∀ l vs H1, H l = none → l ≠ p → ExA p H H1 → H1 l = some (.lst vs) → DpAll K H1 vs ds → H1 p = some (.ins C dx (putF f (.ref l) fs)) → Tk H H1 → tz D σ H1) : tSeq (sFld K (tVar 0) tv f) tz D σ H := s_initL (D := { D with nx := tz D }) c hx ob hf n hv hi k
theorem q_initK (c : Cls K C) (hx : σ[0]? = some (some (.ref p))) (ob : H p = some (.ins C dx fs)) (hf : fs.length < 1000) (n : NoAttr K C f)
    (k : ∀ l H1, H l = none → l ≠ p → ExA p H H1 → H1 l = some (.dK []) → H1 p = some (.ins C dx (putF f (.ref l) fs)) → Tk H H1 → tz D σ H1) : tSeq (sFld K (tVar 0) tDNewK f) tz D σ H := fun l hl => by
  have ne : l ≠ p := (nold ob hl).symm
  have h1 : (upd H l (.dK [])) p = some (.ins C dx fs) := by rw [upd_ne ne.symm]; exact ob
  have tk : Tk (upd H l (.dK [])) (upd (upd H l (.dK [])) p (.ins C dx (putF f (.ref l) fs))) := Tk.ob h1 (fun _ z => nomatch z) fun _ _ z => nomatch z
  exact ⟨_, hx, p, _, _, _, rfl, h1, c, n, hf, k l _ hl ne ((ExA.of (Ex.new hl)).trans ExA.up) (by rw [upd_ne ne]; exact upd_same) upd_same ((Tk.of (Ex.new hl)).trans tk)⟩
end
/-- Machine.__init__ -/
def sp_minit (K : PySem.W.Frag) : Sp := fun vs H Q _ => ∃ G p dx x s v e cs, vs = [.ref p, .ref x, v] ∧ Ex G H ∧ G p = none ∧ H p = some (.ins (He.ga K "Machine") dx []) ∧ SchAt K G x s ∧ Dp K G v e ∧ carD e cs ∧ CaresOk cs ∧ ∀ H', Mach K G H' p s (inOrder cs) m0 → Q .non H'
theorem ex_away {G H H' : Hp} {p : Addr} (e : Ex G H) (g : G p = none) (a : ExA p H H') : Ex G H' := fun b o h => a b o (fun z => by rw [z, g] at h; cases h) (e b o h)
section
variable {P : Program} {w : World} {K : PySem.W.Frag} {mg : PySem.Str → Option Value} {base : Heap}
theorem ex_anew {p dx : Addr} {G H H1 : Hp} (e : ExA p H H1) : ExA p H H1 := e
abbrev nm_Machine___init__ : List PySem.Str := ["self", "scheme", "cares"]
theorem sc_Machine___init__ : FnScope nm_Machine___init__ ["self", "scheme", "cares"] (defScope s_Machine___init__) := ⟨rfl, rfl, rfl, by decide +kernel, rfl, by decide +kernel, by decide +kernel⟩
theorem ok_minit (T : Tx K mg) : ∃ fd, FnOk P w K mg base CX0 5 (He.ma K (He.ga K "Machine") "__init__") fd ["self", "scheme", "cares"] (sp_minit K) ∧ ∃ mv : List Value, KBn K fd ["self", "scheme", "cares"] 2 ["cares"] (fun us ws => us ++ ws) (fun vs zs => vs ++ zs) := by
  obtain ⟨fd, F⟩ := T.c.d.def_ 13 (d := d_Machine___init__)
  refine ⟨fd, F.ok (k := 4) (N := nm_Machine___init__) (ps := ["self", "scheme", "cares"]) sc_Machine___init__ (fun vs H Q E h => ?_) (fun cdv A outer s H vs Q E hr h => ?_), ?_⟩
  · obtain ⟨G, p, dx, x, s, v, e, cs, rfl, _⟩ := h
    rfl
  · obtain ⟨G, p, dx, x, sc, v, e, cs, rfl, eg, gp, ob, hs, rv, hc, hk, k⟩ := h
    refine ⟨_, PSs.nox (pss_cons (ps_expr (pe_cR (ok_check_both T) hr (by rfl) (pa_cons (pv 1) (pa_cons (pv 2) pa_nil))))
      (pss_cons (ps_fldK (K := K) rfl (pv 0) (pv 1) rfl)
      (pss_cons (ps_fldK (K := K) rfl (pv 0) (pe_cR (ok_in_order T) hr (by rfl) (pa_cons (pv 2) pa_nil)) rfl)
      (pss_cons (ps_fldK (K := K) rfl (pv 0) pe_int rfl)
      (pss_cons (ps_fldK (K := K) rfl (pv 0) pe_int rfl)
      (pss_cons (ps_fldK (K := K) rfl (pv 0) (pe_tup (pa_cons pe_int (pa_cons pe_int pa_nil))) rfl)
      (pss_cons (ps_fldK (K := K) rfl (pv 0) (pe_lst pa_nil) rfl)
      (pss_cons (ps_fldK (K := K) rfl (pv 0) (pe_lst pa_nil) rfl)
      (pss_cons (ps_fldK (K := K) rfl (pv 0) pe_dnewK rfl)
      (pss_cons (ps_fldK (K := K) rfl (pv 0) pe_dnewK rfl)
      (pss_cons (ps_fldK (K := K) rfl (pv 0) pe_int rfl)
      (pss_cons (ps_fldK (K := K) rfl (pv 0) pe_non rfl)
      (pss_one (ps_fldK (K := K) rfl (pv 0) (pe_lst pa_nil) rfl)))))))))))))), ?_⟩
    have c := cl_Machine T
    refine q_dropD (d_call (a_consV (ev_var rfl) (a_cons (d_var rfl (rv.ex eg)) a_nil)) fun H1 e1 => ⟨x, sc, e, cs, rfl, (hs.ex eg).ex e1, hc, hk, rfl⟩) fun _ H1 e1 _ => ?_
    have g1 := eg.trans e1
    refine q_initV c rfl (e1 p _ ob) (by show (0 : Nat) < 1000; decide) (na_Machine_plan T) (ev_var rfl) fun H2 x2 ob t2 => ?_
    have g2 := ex_away g1 gp x2
    refine q_init c rfl ob (by show (1 : Nat) < 1000; decide) (na_Machine_given T) (d_call (a_cons (d_var rfl (rv.ex g2)) a_nil) fun _ _ => ⟨e, cs, rfl, hc, rfl⟩) (imm_strs _) fun v1 H3 x3 r1 ob t3 => ?_
    have g3 := ex_away g2 gp x3
    refine q_init c rfl ob (by show (2 : Nat) < 1000; decide) (na_Machine_stored T) d_int rfl fun v2 H4 x4 r2 ob t4 => ?_
    cases r2
    refine q_init c rfl ob (by show (3 : Nat) < 1000; decide) (na_Machine_written T) d_int rfl fun v3 H5 x5 r3 ob t5 => ?_
    cases r3
    refine q_init c rfl ob (by show (4 : Nat) < 1000; decide) (na_Machine_seen T) (d_tup (e_cons d_int (e_cons d_int e_nil))) rfl fun v4 H6 x6 r4 ob t6 => ?_
    have g6 := ex_away (ex_away (ex_away g3 gp x4) gp x5) gp x6
    refine q_initL c rfl ob (by show (5 : Nat) < 1000; decide) (na_Machine_rows T) (n_lst e_nil) rfl fun l7 vs7 H7 n7 p7 x7 h7 r7 ob t7 => ?_
    cases r7
    have g7 := ex_away g6 gp x7
    refine q_initL c rfl ob (by show (6 : Nat) < 1000; decide) (na_Machine_post T) (n_lst e_nil) rfl fun l8 vs8 H8 n8 p8 x8 h8 r8 ob t8 => ?_
    cases r8
    have g8 := ex_away g7 gp x8
    refine q_initK c rfl ob (by show (7 : Nat) < 1000; decide) (na_Machine_fates T) fun l9 H9 n9 p9 x9 h9 ob t9 => ?_
    have g9 := ex_away g8 gp x9
    refine q_initK c rfl ob (by show (8 : Nat) < 1000; decide) (na_Machine_passed T) fun l10 H10 n10 p10 x10 h10 ob t10 => ?_
    have g10 := ex_away g9 gp x10
    refine q_init c rfl ob (by show (9 : Nat) < 1000; decide) (na_Machine_made T) d_int rfl fun v11 H11 x11 r11 ob t11 => ?_
    cases r11
    have g11 := ex_away g10 gp x11
    refine q_init c rfl ob (by show (10 : Nat) < 1000; decide) (na_Machine_end T) d_non rfl fun v12 H12 x12 r12 ob t12 => ?_
    cases r12
    have g12 := ex_away g11 gp x12
    refine s_initL c rfl ob (by show (11 : Nat) < 1000; decide) (na_Machine_trail T) (n_lst e_nil) rfl fun l13 vs13 H13 n13 p13 x13 h13 r13 ob t13 => ?_
    cases r13
    have g13 := ex_away g12 gp x13
    have a12 := x13
    have a11 := x12.trans a12
    have a10 := x11.trans a11
    have a9 := x10.trans a10
    have a8 := x9.trans a9
    have a7 := x8.trans a8
    have gn : ∀ {H : Hp} {l : Addr}, Ex G H → H l = none → G l = none := fun e h => gnone e h
    refine k H13 ⟨⟨dx, l7, l8, l9, l10, l13, x, v1, v4, .non⟩, ⟨ob, hs.ex g13, r1.tk ((((((((((t4.trans t5).trans t6).trans t7).trans t8).trans t9).trans t10).trans t11).trans t12).trans t13)) (imm_strs _), r4.tk (((((((t7.trans t8).trans t9).trans t10).trans t11).trans t12).trans t13)), ⟨[], a7 _ _ p7 h7, .nil⟩, ⟨[], a8 _ _ p8 h8, .nil⟩, a9 _ _ p9 h9, a10 _ _ p10 h10, .non, ⟨[], h13, rfl⟩, ⟨by decide, by decide, by decide, by decide, by decide⟩⟩,
      ⟨g13, hs, gp, gn g6 n7, gn g7 n8, gn g8 n9, gn g9 n10, gn g12 n13, nold h7 n8, nold ((x8.trans (x9.trans (x10.trans (x11.trans x12)))) _ _ p7 h7) n13, nold ((x9.trans (x10.trans (x11.trans x12))) _ _ p8 h8) n13, nold h9 n10⟩⟩
  · obtain ⟨mv, h⟩ := F.kbinds0 (ps := ["self", "scheme", "cares"]) 2 ["cares"] [] (fun us _ ws => us ++ ws) (List.cons_ne_nil _ _) (fun q hq => by simp at hq) (fun r1 _ r3 => r1.append r3) fun D doc pm an cdv ct us mv ws h1 h2 h3 => match us, mv, ws, h1, h2, h3 with | [_, _], [], [_], _, _, _ => rfl
    exact ⟨mv, h⟩
/-- Machine(scheme, cares = ..) -/
theorem s_makeM {σ : L2.St} {H : Hp} {tx tv : TE} {x : Addr} {s : Sch} {e : PD} {cs : List Sx} {D : Ends} {i : Nat} {tz : TS} (hx : ∀ H1, Ex H H1 → Ev tx σ H1 (.ref x)) (hv : Evd K tv σ H e) (hs : SchAt K H x s) (hc : carD e cs) (hk : CaresOk cs) (Q : VK)
    (k : ∀ p G H', Ex H G → G p = none → Mach K G H' p s (inOrder cs) m0 → Q (.ref p) H') : (tMakeK (He.ga K "Machine") 1 1 (sp_minit K) (fun vs zs => vs ++ zs) E0 (tCons tx tNil) (tCons tv tNil)) σ H Q :=
  hx H (Ex.refl _) H (Ex.refl _) _ fun H1 e1 => hv H1 e1 _ fun v H2 e2 r2 => by
    refine ⟨rfl, rfl, fun p dx hp hdx hne => ?_⟩
    have e12 := e1.trans e2
    refine ⟨H2, p, dx, x, s, v, e, cs, rfl, fun a o h => ?_, hp, upd_same, hs.ex e12, r2, hc, hk, fun H' hm => ⟨rfl, k p H2 H' e12 hp hm⟩⟩
    rw [upd_ne (nold h hp), upd_ne (nold h hdx)]
    exact h
theorem q_forZipT {K : PySem.W.Frag} {σ : L2.St} {H : Hp} {ta : TA} {tu tz : TS} {D : Ends} {j1 j2 : Nat} {ds es : List PD} (h : Evs K ta σ H [.tuple ds, .tuple es]) (hl : ds.length = es.length) (Pv : Hp → Nat → L2.St → Hp → Prop) (h0 : ∀ H2, Ex H H2 → Pv H2 0 σ H2) (hG : ∀ H2 i σ' H', Pv H2 i σ' H' → Ex H2 H')
    (ht : ∀ H2 i d e v w σ' H0 H', Ex H H2 → ds[i]? = some d → es[i]? = some e → Dp K H' v d → Dp K H' w e → Pv H2 i σ' H0 → Ex H0 H' → tu { D with nx := Pv H2 (i + 1), ct := Pv H2 (i + 1), bk := tz D } ((σ'.set j1 (some v)).set j2 (some w)) H')
    (hd : ∀ H2 σ' H', Ex H H2 → Pv H2 ds.length σ' H' → tz D σ' H') : tSeq (tFor (RZ.iZipA K ta) (gTup K 2 (gCons (gName j1) (gCons (gName j2) gNil))) tu) tz D σ H := h H (Ex.refl _) _ fun vs H2 q r => by
  cases r with
  | cons r1 t1 => cases t1 with
    | cons r2 t2 =>
      cases t2
      obtain ⟨a, xs, rfl, hx, hv⟩ := r1.tupV
      obtain ⟨b, ys, rfl, hy, hw⟩ := r2.tupV
      refine ⟨a, b, xs, ys, rfl, .inr ⟨hx, hy, RZ.for_zipT (D := { D with nx := tz D }) (by rw [hv.length, hw.length, hl]) (Pv H2) (h0 H2 q) (fun i σ' H' P => ⟨ex_t (hG _ _ _ _ P) hx, ex_t (hG _ _ _ _ P) hy⟩) (fun i x y T σ' H' ex ey P hT => ?_) fun σ' H' P => hd H2 σ' H' q (by rw [hv.length] at P; exact P)⟩⟩
      have e1 := (hG _ _ _ _ P).trans (Ex.new (o := .tup [x, y]) hT)
      obtain ⟨d, hd1, rd⟩ := hv.getV ex
      obtain ⟨e, he1, re⟩ := hw.getV ey
      have tup : Dp K (upd H' T (.tup [x, y])) (.ref T) (.tuple [d, e]) := .tup (st_of upd_same) (.cons (rd.ex e1) (.cons (re.ex e1) .nil))
      exact (tgt_two (α := Unit) (e1 := fun _ => d) (e2 := fun _ => e)).go () _ _ tup _ fun σ2 ⟨v1, v2, q1, q2, e'⟩ => by
        rw [e']
        exact ht H2 i d e v1 v2 σ' H' _ q hd1 he1 q1 q2 P (Ex.new hT)
/-- Scheme.__init__ -/
def sp_sinit (K : PySem.W.Frag) : Sp := fun vs H Q _ => ∃ p dx v s, vs = [.ref p, v, .int (s.room : Int), .int (s.way : Int), .bl s.others, .bl s.losses, .bl s.doubles, .bl s.refusals, .bl s.reloads] ∧ H p = some (.ins (He.ga K "Scheme") dx []) ∧ SchOk s ∧ Dp K H v (kindsD s) ∧
  ∀ H', ExA p H H' → SchAt K H' p s → Q .non H'
abbrev nm_Scheme___init__ : List PySem.Str := ["self", "edits", "most", "line", "others", "losses", "doubles", "refusals", "reloads", "flags", "flag", "part"]
theorem sc_Scheme___init__ : FnScope nm_Scheme___init__ ["self", "edits", "most", "line", "others", "losses", "doubles", "refusals", "reloads"] (defScope s_Scheme___init__) := ⟨rfl, rfl, rfl, by decide +kernel, rfl, by decide +kernel, by decide +kernel⟩
theorem ok_sinit (T : Tx K mg) : ∃ fd, FnOk P w K mg base CX0 3 (He.ma K (He.ga K "Scheme") "__init__") fd ["self", "edits", "most", "line", "others", "losses", "doubles", "refusals", "reloads"] (sp_sinit K) ∧ ∃ mv : List Value, KBn K fd ["self", "edits", "most", "line", "others", "losses", "doubles", "refusals", "reloads"] 2 ["most", "line", "others", "losses", "doubles", "refusals", "reloads"] (fun us ws => us ++ ws) (fun vs zs => vs ++ zs) := by
  obtain ⟨fd, F⟩ := T.c.d.def_ 3 (d := d_Scheme___init__)
  refine ⟨fd, F.ok (k := 2) (N := nm_Scheme___init__) (ps := ["self", "edits", "most", "line", "others", "losses", "doubles", "refusals", "reloads"]) sc_Scheme___init__ (fun vs H Q E h => ?_) (fun cdv A outer s H vs Q E hr h => ?_), ?_⟩
  · obtain ⟨p, dx, v, s, rfl, _⟩ := h
    rfl
  · obtain ⟨p, dx, v, sc, rfl, ob, hok, rv, k⟩ := h
    refine ⟨_, PSs.nox (pss_cons (ps_if (pt_not (pt_val (pe_cR (ok_are_edits T) hr (by rfl) (pa_cons (pv 1) pa_nil)))) (pss_one ps_never) pss_nil)
      (pss_cons (ps_if (pt_not (pt_val (pe_cR (ok_is_integer T) hr (by rfl) (pa_cons (pv 2) (pa_cons pe_int (pa_cons (pe_gint (it_MAX_MOST T) rfl) pa_nil)))))) (pss_one ps_never) pss_nil)
      (pss_cons (ps_if (pt_not (pt_val (pe_cR (ok_is_integer T) hr (by rfl) (pa_cons (pv 3) (pa_cons pe_int (pa_cons (pe_gint (it_MAX_LINE T) rfl) pa_nil)))))) (pss_one ps_never) pss_nil)
      (pss_cons (ps_set (i := 9) sc_Scheme___init__.nd rfl (Or.inl rfl) (pe_tup (pa_cons (pv 4) (pa_cons (pv 5) (pa_cons (pv 6) (pa_cons (pv 7) (pa_cons (pv 8) pa_nil)))))))
      (pss_cons (ps_for PassesOwn.never rfl (pi_zipAK (K := K) rfl (by rfl) (fr_zip T) (pa_cons (pv 9) (pa_cons (pe_tup (pa_cons pe_str (pa_cons pe_str (pa_cons pe_str (pa_cons pe_str (pa_cons pe_str pa_nil)))))) pa_nil))) (pg_tupK (K := K) (n := 2) rfl rfl (pgs_cons (pg_name (i := 10) sc_Scheme___init__.nd rfl (Or.inl rfl)) (pgs_cons (pg_name (i := 11) sc_Scheme___init__.nd rfl (Or.inl rfl)) pgs_nil))) (pss_one (ps_if (pt_not (pt_val (pe_callB (call_isiK1 (K := K) rfl) (by rfl) (fr_isinstance T) (by decide +kernel) (pa_cons (pv 10) (pa_cons (pe_bltn (v := .ty "bool") (u := .type "bool") rfl (fr_bool T) (by decide +kernel) rfl) pa_nil))))) (pss_one ps_never) pss_nil)))
      (pss_cons (ps_fldK (K := K) rfl (pv 0) (pv 1) rfl)
      (pss_cons (ps_fldK (K := K) rfl (pv 0) (pv 2) rfl)
      (pss_cons (ps_fldK (K := K) rfl (pv 0) (pv 3) rfl)
      (pss_one (ps_fldK (K := K) rfl (pv 0) (pv 9) rfl)))))))))), ?_⟩
    have c := cl_Scheme T
    have hk3 : kinds3 (sc.kinds.map Ed.s) := by
      rcases hok.1 with h | h | h <;> rw [h]
      · exact .inl rfl
      · exact .inr (.inl rfl)
      · exact .inr (.inr rfl)
    refine q_when (b := false) (et_not (a := true) (t_B (d_call (a_cons (d_var rfl rv) a_nil) fun _ _ => ⟨_, rfl, hk3, rfl⟩))) (fun z => nomatch z) fun _ H1 e1 => ?_
    refine q_when (b := false) (evt_to (et_not (t_B (d_call (a_cons (d_var (d := .int (sc.room : Int)) rfl (.int _)) (a_cons d_int (a_cons d_int a_nil))) fun _ _ => ⟨.int (sc.room : Int), 1, 2, rfl, rfl, rfl⟩))) (by rcases hok.2.1 with h | h <;> rw [h] <;> rfl)) (fun z => nomatch z) fun _ H2 e2 => ?_
    refine q_when (b := false) (evt_to (et_not (t_B (d_call (a_cons (d_var (d := .int (sc.way : Int)) rfl (.int _)) (a_cons d_int (a_cons d_int a_nil))) fun _ _ => ⟨.int (sc.way : Int), 1, 2, rfl, rfl, rfl⟩))) (by rcases hok.2.2 with h | h <;> rw [h] <;> rfl)) (fun z => nomatch z) fun _ H3 e3 => ?_
    refine q_asgD (K := K) (d := evD sc) (d_tup (e_cons (d_var rfl (.bl _)) (e_cons (d_var rfl (.bl _)) (e_cons (d_var rfl (.bl _)) (e_cons (d_var rfl (.bl _)) (e_cons (d_var rfl (.bl _)) e_nil)))))) fun vf H4 e4 rf => ?_
    have e14 := ((e1.trans e2).trans e3).trans e4
    refine q_forZipT (ds := [sc.others, sc.losses, sc.doubles, sc.refusals, sc.reloads].map PyData.bool) (es := [.str "OTHERS", .str "LOSSES", .str "DOUBLES", .str "REFUSALS", .str "RELOADS"]) (e_cons (d_var rfl rf) (e_cons (d_tup (e_cons d_str (e_cons d_str (e_cons d_str (e_cons d_str (e_cons d_str e_nil)))))) e_nil)) rfl
      (fun H5 _ σ' H' => Ex H5 H' ∧ ∃ x y, σ' = [some (.ref p), some v, some (.int (sc.room : Int)), some (.int (sc.way : Int)), some (.bl sc.others), some (.bl sc.losses), some (.bl sc.doubles), some (.bl sc.refusals), some (.bl sc.reloads), some vf, x, y]) (fun H5 e5 => ⟨Ex.refl _, none, none, rfl⟩) (fun H5 i σ' H' P => P.1) (fun H5 i d e v1 v2 σ' H0 H' e5 hd he q1 q2 P e6 => ?_) fun H5 σ' H6 e5 P => ?_
    · obtain ⟨e7, x, y, rfl⟩ := P
      rw [List.getElem?_map] at hd
      obtain ⟨bb, _, rfl⟩ := Option.map_eq_some_iff.mp hd
      exact s_when (b := false) (et_not (a := true) (t_B (d_isi (d_var rfl q1) (kb_bool _)))) (fun z => nomatch z) fun _ H8 e8 => ⟨(e7.trans e6).trans e8, _, _, rfl⟩
    · obtain ⟨e6, x, y, rfl⟩ := P
      have e46 := e5.trans e6
      have e16 := e14.trans e46
      refine q_init c rfl (e16 p _ ob) (by show (0 : Nat) < 1000; decide) (na_Scheme_kinds T) (d_var rfl (rv.ex e16)) (imm_strs _) fun w1 H7 x7 r7 ob t7 => ?_
      refine q_init c rfl ob (by show (1 : Nat) < 1000; decide) (na_Scheme_room T) (d_var rfl (.int _)) rfl fun w2 H8 x8 r8 ob t8 => ?_
      cases r8
      refine q_init c rfl ob (by show (2 : Nat) < 1000; decide) (na_Scheme_way T) (d_var rfl (.int _)) rfl fun w3 H9 x9 r9 ob t9 => ?_
      cases r9
      have rf' : Dp K H9 vf (evD sc) := Dp.tk (Dp.ex rf e46) ((t7.trans t8).trans t9)
      refine s_init c rfl ob (by show (3 : Nat) < 1000; decide) (na_Scheme_events T) (d_var rfl rf') rfl fun w4 H10 x10 r10 ob t10 => ?_
      exact k H10 ((ExA.of e16).trans (x7.trans (x8.trans (x9.trans x10)))) ⟨hok, dx, w1, w4, ob, r7.tk ((t8.trans t9).trans t10) (imm_strs _), r10⟩
  · obtain ⟨mv, h⟩ := F.kbinds0 (ps := ["self", "edits", "most", "line", "others", "losses", "doubles", "refusals", "reloads"]) 2 ["most", "line", "others", "losses", "doubles", "refusals", "reloads"] [] (fun us _ ws => us ++ ws) (List.cons_ne_nil _ _) (fun q hq => by simp at hq) (fun r1 _ r3 => r1.append r3) fun D doc pm an cdv ct us mv ws h1 h2 h3 => match us, mv, ws, h1, h2, h3 with | [_, _], [], [_, _, _, _, _, _, _], _, _, _ => rfl
    exact ⟨mv, h⟩
/-- Scheme(edits, most = .., ..) -/
theorem e_makeS {σ : L2.St} {H : Hp} {tv t1 t2 t3 t4 t5 t6 t7 : TE} {s : Sch} (hv : ∀ H1, Ex H H1 → Evd K tv σ H1 (kindsD s)) (h1 : Evd K t1 σ H (.int (s.room : Int))) (h2 : Evd K t2 σ H (.int (s.way : Int))) (h3 : Evd K t3 σ H (.bool s.others)) (h4 : Evd K t4 σ H (.bool s.losses)) (h5 : Evd K t5 σ H (.bool s.doubles)) (h6 : Evd K t6 σ H (.bool s.refusals)) (h7 : Evd K t7 σ H (.bool s.reloads)) (hok : SchOk s) (Q : VK)
    (k : ∀ p H', Ex H H' → H p = none → SchAt K H' p s → Q (.ref p) H') : (tMakeK (He.ga K "Scheme") 1 7 (sp_sinit K) (fun vs zs => vs ++ zs) E0 (tCons tv tNil) (tCons t1 (tCons t2 (tCons t3 (tCons t4 (tCons t5 (tCons t6 (tCons t7 tNil)))))))) σ H Q :=
  hv H (Ex.refl _) H (Ex.refl _) _ fun v H0 e0 r0 => h1.int H0 e0 _ fun H1 e1 => h2.int H1 (e0.trans e1) _ fun H2 e2 => h3.bl H2 ((e0.trans e1).trans e2) _ fun H3 e3 => h4.bl H3 (((e0.trans e1).trans e2).trans e3) _ fun H4 e4 => h5.bl H4 ((((e0.trans e1).trans e2).trans e3).trans e4) _ fun H5 e5 =>
    h6.bl H5 (((((e0.trans e1).trans e2).trans e3).trans e4).trans e5) _ fun H6 e6 => h7.bl H6 ((((((e0.trans e1).trans e2).trans e3).trans e4).trans e5).trans e6) _ fun H7 e7 => by
    have e17 := (((((e1.trans e2).trans e3).trans e4).trans e5).trans e6).trans e7
    refine ⟨rfl, rfl, fun p dx hp hdx hne => ?_⟩
    have e8 : Ex H7 (upd (upd H7 dx (.own p)) p (.ins (He.ga K "Scheme") dx [])) := fun a o h => by
      rw [upd_ne (nold h hp), upd_ne (nold h hdx)]
      exact h
    refine ⟨p, dx, v, s, rfl, upd_same, hok, r0.ex (e17.trans e8), fun H' xa hs => ⟨rfl, k p H' (fun a o h => ?_) (fresh_back (e0.trans e17) hp) hs⟩⟩
    have h7' := (e0.trans e17) a o h
    exact xa a o (nold h7' hp) (e8 a o h7')
end
end Sc


/-! Sc15: the possible deeds, yielded. -/
namespace Sc
open PySem PySem.Spec PyProof.Rows L2 Evl
abbrev nm_Machine_possible : List PySem.Str := ["self", "deed"]
theorem sc_Machine_possible : GScope nm_Machine_possible ["self"] (defScope s_Machine_possible) := ⟨rfl, rfl, rfl, by decide +kernel, rfl, by decide +kernel, by decide +kernel⟩
def possibles (hs : Sx → Bool) (s : Sch) (m : M) : List Deed := (allDeeds s).filter fun d => isPossible hs s m d
def sp_possible (K : PySem.W.Frag) : SpG := fun vs H Q _ => ∃ p s cs m, vs = [.ref p] ∧ MachP K H p s cs m ∧ ∀ xs H', Ex H H' → DpAll K H' xs ((possibles (hsOf cs) s m).map Deed.d) → Q xs H'
theorem deeds_le {s : Sch} (h : SchOk s) : (allDeeds s).length ≤ 100 := by
  have hk := kinds_le h
  have hw := way_le h
  have h4 : ∀ l : List LW, (l.flatMap fun w => (List.range s.way).map fun i => Deed.letr w i).length ≤ 2 * l.length := by
    intro l
    induction l with
    | nil => exact Nat.le_refl _
    | cons a r ih =>
      rw [List.flatMap_cons, List.length_append, List.length_cons, List.length_map, List.length_range]
      omega
  have := h4 lws
  have h5 : lws.length = 4 := rfl
  have h6 : plains.length = 5 := rfl
  unfold allDeeds
  rw [List.length_append, List.length_append, List.length_map, List.length_map]
  omega
theorem yf_run {K : PySem.W.Frag} {te : TE} {σ : L2.St} {H : Hp} {ds : List PD} {D : GEnds} (N : Evn K te σ H ds) (k : ∀ xs H1, Ex H H1 → DpAll K H1 xs ds → xs.length ≤ sizeLine ∧ D.nx xs σ H1) : tGThen (tGFrom (tYfLst te)) tG0 D [] σ H :=
  N H (Ex.refl _) (fun x H1 => ∃ a xs, x = .ref a ∧ H1 a = some (.lst xs) ∧ (([] : List V).length + xs.length ≤ sizeLine ∧ D.nx ([] ++ xs) σ H1)) fun l xs H1 hn e1 h1 r1 => ⟨l, xs, rfl, h1, by
    have z := k xs H1 e1 r1
    rw [List.nil_append, List.length_nil, Nat.zero_add]
    exact z⟩
section
variable {P : Program} {w : World} {K : PySem.W.Frag} {mg : PySem.Str → Option Value} {base : Heap}
theorem ok_possible (T : Tx K mg) : ∃ fd, GFn P w K mg base 3 (He.ma K (He.ga K "Machine") "possible") fd ["self"] (sp_possible K) ∧ Binds K fd ["self"] [] := by
  obtain ⟨fd, F⟩ := T.c.d.def_ 15 (d := d_Machine_possible)
  have B : Binds K fd ["self"] [] := F.bindsN (fun _ _ _ _ _ _ us hl => match us, hl with | [_], _ => rfl)
  refine ⟨fd, ?_, B⟩
  obtain ⟨oc, od, dV, kV, doc, pm, an, cdv, ct, osl, rfl, lk, hcd, _, _⟩ := F.ex
  refine gfn_of (k := 2) (N := nm_Machine_possible) lk hcd sc_Machine_possible (fun vs H Q E h => ?_) fun A outer s H vs Q E pn hr h => ?_
  · obtain ⟨p, s, cs, m, rfl, _⟩ := h
    rfl
  · obtain ⟨p, sc, cs, m, rfl, ⟨o, hm⟩, k⟩ := h
    refine ⟨_, gss_cons (gs_yieldFrom (yf_lst (pe_lc (own := [("deed", 1)]) rfl sc_Machine_possible.nd (pi_listK (K := K) rfl (pe_cR (ok_deeds_of T) hr (by rfl) (pa_cons (pe_fldK (K := K) rfl (pv 0) rfl) pa_nil))) (blkOk_by (own := [("deed", 1)]) (N := nm_Machine_possible) (sc := defScope s_Machine_possible) (by decide +kernel)) (fun _ _ _ _ _ => (pg_name (i := 1) sc_Machine_possible.nd rfl (Or.inl rfl))) (fun _ _ _ _ _ => (pts_one (pt_val (pe_cR (ok_is_possible T) hr (by rfl) (pa_cons (pv 0) (pa_cons (pv 1) pa_nil)))))) (fun _ _ _ _ _ => (pv 1)))) hr.hd) gss_nil, ?_⟩
    have hl := deeds_le hm.plan.ok
    have N : Evn K (tLc (iList K (tCallR (sp_deeds_of K) E0 (tCons (tFld K (tVar 0) "plan") tNil))) (gName 1) (tB (tCallR (sp_is_possible K) E0 (tCons (tVar 0) (tCons (tVar 1) tNil)))) (tVar 1) [1]) (start nm_Machine_possible [.ref p]) H ((possibles (hsOf cs) sc m).map Deed.d) := n_lc (K := K) (xs := allDeeds sc) (enc := Deed.d) (p := fun d => isPossible (hsOf cs) sc m d) (f := Deed.d) (src_list (d_call (a_consV (v_plan T (ev_var (i := 0) (v := .ref p) (σ := start nm_Machine_possible [.ref p]) rfl) hm) a_nil) fun H1 e1 => ⟨_, sc, rfl, hm.plan.ex e1, rfl⟩)) (fun _ => rfl) (fun d _ => imm_Deed d) (by omega) fun d hd v H1 e1 r => ⟨t_B (d_call (a_consV (ev_var rfl) (a_cons (d_var rfl r) a_nil)) fun H2 e2 => ⟨p, sc, cs, m, d, rfl, ⟨o, (hm.ex e1).ex e2⟩, rfl⟩), fun _ => d_var rfl r⟩
    have hpl : (possibles (hsOf cs) sc m).length ≤ 100 := Nat.le_trans (List.length_filter_le _ _) hl
    refine yf_run N fun xs H1 e1 r1 => ⟨?_, k xs H1 e1 r1⟩
    rw [r1.length, List.length_map]
    exact sz_of (by omega)
theorem passG {X : Cx} : Passes (CX X.prog X.w) X E0 := fun pins σ H s e s' I h => by
  obtain ⟨a, B, H', cls, d, _, _, _, _, _, _, _, h⟩ := h
  exact h.elim
/-- list(machine.possible()) -/
theorem n_possible {σ : L2.St} {H : Hp} {p : Addr} {s : Sch} {cs : List Sx} {m : M} {i : Nat} (hx : σ[i]? = some (some (.ref p))) (hM : MachP K H p s cs m) : Evn K (tListG (tMethG (He.ga K "Machine") "possible" (sp_possible K) [] E0 (tVar i) tNil)) σ H ((possibles (hsOf cs) s m).map Deed.d) := fun H1 a Q k => by
  obtain ⟨o, hA⟩ := hM
  refine ⟨_, hx, p, o.dx, MF o m, rfl, (hA.ex a).ob, by rfl, p, s, cs, m, rfl, ⟨o, hA.ex a⟩, fun xs H2 e r q hq => ?_⟩
  exact k q xs _ (fresh_back e hq) (e.trans (Ex.new hq)) upd_same (r.ex (Ex.new hq))
end
end Sc


/-! Sc16: runs of deeds. -/
namespace Sc
open PySem PySem.Spec PyProof.Rows L2 Evl
/-! ### what the deeds answer -/
inductive Ans where | no | of (f : Option Fail)
def Ans.d : Ans → PD | .no => .str "no" | .of f => failD f
theorem imm_Ans (a : Ans) : Imm a.d = true := by
  cases a with
  | no => rfl
  | of f => exact imm_failD f
def step (hs : Sx → Bool) (s : Sch) (m : M) (d : Deed) : M × Ans := if isPossible hs s m d = true then ((doM hs s m d).1, .of (doM hs s m d).2) else (m, .no)
def run1 (hs : Sx → Bool) (s : Sch) : M → List Deed → List Ans
  | _, [] => []
  | m, d :: r => (step hs s m d).2 :: run1 hs s (step hs s m d).1 r
def endM (hs : Sx → Bool) (s : Sch) : M → List Deed → M
  | m, [] => m
  | m, d :: r => endM hs s (step hs s m d).1 r
def failRun (hs : Sx → Bool) (s : Sch) : M → List Deed → Option Fail
  | _, [] => none
  | m, d :: r => if isPossible hs s m d = true then (match (done hs s m d).2 with | some f => some f | none => failRun hs s (done hs s m d).1 r) else failRun hs s m r
theorem run1_len (hs : Sx → Bool) (s : Sch) : ∀ (m : M) (ds : List Deed), (run1 hs s m ds).length = ds.length
  | _, [] => rfl
  | m, d :: r => congrArg Nat.succ (run1_len hs s _ r)
theorem run1_snoc (hs : Sx → Bool) (s : Sch) (d : Deed) : ∀ (ds : List Deed) (m : M), run1 hs s m (ds ++ [d]) = run1 hs s m ds ++ [(step hs s (endM hs s m ds) d).2]
  | [], m => rfl
  | x :: r, m => by
    show (step hs s m x).2 :: run1 hs s (step hs s m x).1 (r ++ [d]) = _
    rw [run1_snoc hs s d r]
    rfl
theorem endM_snoc (hs : Sx → Bool) (s : Sch) (d : Deed) : ∀ (ds : List Deed) (m : M), endM hs s m (ds ++ [d]) = (step hs s (endM hs s m ds) d).1
  | [], m => rfl
  | x :: r, m => by
    show endM hs s (step hs s m x).1 (r ++ [d]) = _
    rw [endM_snoc hs s d r]
    rfl
/-- a machine after n deeds at most -/
structure Ru (n : Nat) (m : M) : Prop where
  iv : Iv n m
  tr : m.trail ≤ n
theorem Ru.step {n : Nat} {hs : Sx → Bool} {s : Sch} {m : M} {d : Deed} (h : Ru n m) : Ru (n + 1) (step hs s m d).1 := by
  unfold Sc.step
  split
  · rename_i hp
    have h1 : Iv n { m with trail := m.trail + 1 } := h.iv.any
    have hp1 : isPossible hs s { m with trail := m.trail + 1 } d = true := hp
    have h2 := h1.done1 hp1
    refine ⟨?_, ?_⟩
    · show Iv (n + 1) { (done hs s { m with trail := m.trail + 1 } d).1 with fin := (done hs s { m with trail := m.trail + 1 } d).2 }
      exact ⟨h2.m0, h2.m1, h2.fl, h2.ps, h2.an, h2.ed, h2.rk⟩
    · show (done hs s { m with trail := m.trail + 1 } d).1.trail ≤ n + 1
      rw [done_trail]
      exact Nat.succ_le_succ h.tr
  · exact ⟨h.iv.mono (Nat.le_succ _), Nat.le_succ_of_le h.tr⟩
theorem ru0 : Ru 0 m0 := ⟨iv_m0, Nat.le_refl _⟩
theorem Ru.end {hs : Sx → Bool} {s : Sch} : ∀ {ds : List Deed} {n : Nat} {m : M}, Ru n m → Ru (n + ds.length) (endM hs s m ds)
  | [], n, m, h => h
  | d :: r, n, m, h => by
    have := Ru.end (hs := hs) (s := s) (ds := r) (h.step (hs := hs) (s := s) (d := d))
    rw [List.length_cons, show n + (r.length + 1) = n + 1 + r.length by omega]
    exact this
/-! ### frames that grow and change -/
section
variable {K : PySem.W.Frag} {G H : Hp} {p : Addr} {s : Sch} {cs : List Sx} {m : M}
theorem Mach.gnew {l : Addr} {u : HO} (h : Mach K G H p s cs m) (hn : H l = none) : Mach K (upd G l u) (upd H l u) p s cs m := by
  obtain ⟨o, hA, S⟩ := h
  obtain ⟨v1, h1, _⟩ := hA.rows
  obtain ⟨v2, h2, _⟩ := hA.post
  obtain ⟨v3, h3, _⟩ := hA.trail
  have gn : G l = none := gnone S.ex hn
  refine ⟨o, hA.ex (Ex.new hn), ⟨fun a u' e => ?_, S.pl.ex (Ex.new gn), ?_, ?_, ?_, ?_, ?_, ?_, S.d1, S.d2, S.d3, S.d4⟩⟩
  · by_cases ha : a = l
    · subst ha
      rw [upd_same] at e ⊢
      exact e
    · rw [upd_ne ha] at e ⊢
      exact S.ex a u' e
  · rw [upd_ne (nold hA.ob hn)]; exact S.gp
  · rw [upd_ne (nold h1 hn)]; exact S.gr
  · rw [upd_ne (nold h2 hn)]; exact S.go
  · rw [upd_ne (nold hA.fates hn)]; exact S.gf
  · rw [upd_ne (nold hA.passed hn)]; exact S.ga
  · rw [upd_ne (nold h3 hn)]; exact S.gt
theorem SchAt.tk {H' : Hp} {x D : Addr} {xs ys : List V} (h : SchAt K H x s) (hD : H D = some (.lst xs)) (e : H' = upd H D (.lst ys)) : SchAt K H' x s := by
  subst e
  obtain ⟨ok, dx, ek, ev, h1, h2, h3⟩ := h
  have tk : Tk H (upd H D (.lst ys)) := Tk.lst hD
  exact ⟨ok, dx, ek, ev, by rw [upd_ne (hne h1 hD (fun z => nomatch z))]; exact h1, h2.tk tk (imm_strs _), h3.tk tk rfl⟩
theorem Mach.gupd {D : Addr} {xs ys : List V} (h : Mach K G H p s cs m) (hD : G D = some (.lst xs)) : Mach K (upd G D (.lst ys)) (upd H D (.lst ys)) p s cs m := by
  obtain ⟨o, hA, S⟩ := h
  have hH : H D = some (.lst xs) := S.ex _ _ hD
  have tk : Tk H (upd H D (.lst ys)) := Tk.lst hH
  have ne : ∀ {a : Addr}, G a = none → a ≠ D := fun ga z => by rw [z, hD] at ga; cases ga
  obtain ⟨v1, h1, g1⟩ := hA.rows
  obtain ⟨v2, h2, g2⟩ := hA.post
  obtain ⟨v3, h3, g3⟩ := hA.trail
  refine ⟨o, ⟨?_, hA.plan.tk hH rfl, hA.given.tk tk (imm_strs cs), hA.seen.tk tk, ⟨v1, ?_, g1.tk tk (imm_rows m)⟩, ⟨v2, ?_, g2.tk tk (imm_post _)⟩, ?_, ?_, hA.fin.tk tk (imm_failD _), ⟨v3, ?_, g3⟩, hA.bd⟩, ⟨fun a u' e => ?_, S.pl.tk hD rfl, ?_, ?_, ?_, ?_, ?_, ?_, S.d1, S.d2, S.d3, S.d4⟩⟩
  · rw [upd_ne (ne S.gp)]; exact hA.ob
  · rw [upd_ne (ne S.gr)]; exact h1
  · rw [upd_ne (ne S.go)]; exact h2
  · rw [upd_ne (ne S.gf)]; exact hA.fates
  · rw [upd_ne (ne S.ga)]; exact hA.passed
  · rw [upd_ne (ne S.gt)]; exact h3
  · by_cases ha : a = D
    · subst ha
      rw [upd_same] at e ⊢
      exact e
    · rw [upd_ne ha] at e ⊢
      exact S.ex a u' e
  · rw [upd_ne (ne S.gp)]; exact S.gp
  · rw [upd_ne (ne S.gr)]; exact S.gr
  · rw [upd_ne (ne S.go)]; exact S.go
  · rw [upd_ne (ne S.gf)]; exact S.gf
  · rw [upd_ne (ne S.ga)]; exact S.ga
  · rw [upd_ne (ne S.gt)]; exact S.gt
/-- a list or a tuple that the frame holds, walked -/
theorem src_G {σ : L2.St} {v : V} {e : PD} {ds : List PD} {j : Nat} (hx : σ[j]? = some (some v)) (r : Dp K G v e) (he : e = .list ds ∨ e = .tuple ds) (H1 : Hp) (a : Ex G H1) (R : It → Hp → Prop) (k : ∀ J, Walk J ds.length (fun H' => Ex G H') (YP K ds) → R J H1) : iList K (tVar j) σ H1 R ∨ iTup K (tVar j) σ H1 R := by
  rcases he with rfl | rfl
  · obtain ⟨p, vs, rfl, hs, hv⟩ := r.lstV
    refine .inl ⟨_, hx, p, rfl, ⟨vs, ex_l a hs⟩, k _ ?_⟩
    rw [← hv.length]
    exact walk_list.mono (fun H' e => ex_l e hs) fun i H3 x H4 hi e y => by
      obtain ⟨d, h1, h2⟩ := hv.getV y.2
      exact ⟨y.1, d, h1, h2.ex e⟩
  · obtain ⟨p, vs, rfl, hs, hv⟩ := r.tupV
    refine .inr ⟨_, hx, p, rfl, ⟨vs, ex_t a hs⟩, k _ ?_⟩
    rw [← hv.length]
    exact walk_tup.mono (fun H' e => ex_t e hs) fun i H3 x H4 hi e y => by
      obtain ⟨d, h1, h2⟩ := hv.getV y.2
      exact ⟨y.1, d, h1, h2.ex e⟩
end
/-! ### promises -/
def seqD (e : PD) (ds : List Deed) : Prop := e = .list (ds.map Deed.d) ∨ e = .tuple (ds.map Deed.d)
def DsOk (s : Sch) (ds : List Deed) : Prop := ds.length ≤ 40 ∧ ∀ d ∈ ds, deedOk s d
def sp_check_deeds (K : PySem.W.Frag) : Sp := spP K fun H as r => ∃ x s e ds, as = [.val (.ref x), .dat e] ∧ SchAt K H x s ∧ seqD e ds ∧ DsOk s ds ∧ r = .none
def P_answer_of : List Ar → Sch → List Sx → M → M → PD → Prop := fun as s cs m m' d => ∃ dd, as = [.dat (Deed.d dd)] ∧ deedOk s dd ∧ (∃ N, Ru N m ∧ N ≤ 500) ∧ m' = (step (hsOf cs) s m dd).1 ∧ d = (step (hsOf cs) s m dd).2.d
def sp_answers (K : PySem.W.Frag) : Sp := spP K fun H as r => ∃ x s e cs e' ds, as = [.val (.ref x), .dat e, .dat e'] ∧ SchAt K H x s ∧ carD e cs ∧ CaresOk cs ∧ seqD e' ds ∧ DsOk s ds ∧ r = .list ((run1 (hsOf (inOrder cs)) s m0 ds).map Ans.d)
def sp_failure_of_lists (K : PySem.W.Frag) : Sp := spP K fun H as r => ∃ x s e cs e' ds, as = [.val (.ref x), .dat e, .dat e'] ∧ SchAt K H x s ∧ carD e cs ∧ CaresOk cs ∧ seqD e' ds ∧ DsOk s ds ∧ r = failD (failRun (hsOf (inOrder cs)) s m0 ds)
section
variable {P : Program} {w : World} {K : PySem.W.Frag} {mg : PySem.Str → Option Value} {base : Heap}
abbrev nm_check_deeds : List PySem.Str := ["scheme", "deeds", "deed"]
theorem sc_check_deeds : FnScope nm_check_deeds ["scheme", "deeds"] (defScope s_check_deeds) := ⟨rfl, rfl, rfl, by decide +kernel, rfl, by decide +kernel, by decide +kernel⟩
theorem ok_check_deeds (T : Tx K mg) : FR P w K mg base 3 "check_deeds" (sp_check_deeds K) := by
  refine fr_of (k := 2) (N := nm_check_deeds) (ps := ["scheme", "deeds"]) (gl_check_deeds T) (T.c.d.def_ 35 (d := d_check_deeds)) sc_check_deeds (fun _ _ _ _ _ _ us hl => match us, hl with | [_, _], _ => rfl) (fun vs H Q E h => ?_) (fun cdv A outer s H vs Q E hr h => ?_)
  · obtain ⟨as, r, hA, ⟨x, sc, e, ds, rfl, hs, hq, hd, rfl⟩, k⟩ := h
    exact hA.length
  · obtain ⟨as, r, hA, ⟨x, sc, e, ds, rfl, hs, hq, hd, rfl⟩, k⟩ := h
    obtain ⟨v0, _, rfl, rfl, v1, _, rfl, r1, rfl⟩ := hA
    refine ⟨_, (pss_cons (ps_if (PW.pt (pw_or (pt_not (pt_val (pe_callB (call_isiTK (K := K) rfl) (by rfl) (fr_isinstance T) (by decide +kernel) (pa_cons (pv 1) (pa_cons (pe_tup (pa_cons (pe_bltn (v := .ty "list") (u := .type "list") rfl (fr_list T) (by decide +kernel) rfl) (pa_cons (pe_bltn (v := .ty "tuple") (u := .type "tuple") rfl (fr_tuple T) (by decide +kernel) rfl) pa_nil))) pa_nil))))) (pw_or1 (pt_cmpR op_gt (pe_callB (call_lenK (K := K) rfl) (by rfl) (fr_len T) (by decide +kernel) (pa_cons (pv 1) pa_nil)) (pe_gint (it_MAX_DEEDS T) rfl) (nomark _))))) (pss_one ps_never) pss_nil)
      (pss_one (ps_if (pt_not (pt_val (pe_callB (cr_allK (K := K) rfl) (by rfl) (fr_all T) (by decide +kernel) (pa_cons (pe_lc (own := [("deed", 2)]) rfl sc_check_deeds.nd (pi_seqK (K := K) rfl (pv 1)) (blkOk_by (own := [("deed", 2)]) (N := nm_check_deeds) (sc := defScope s_check_deeds) (by decide +kernel)) (fun _ _ _ _ _ => (pg_name (i := 2) sc_check_deeds.nd rfl (Or.inl rfl))) (fun _ _ _ _ _ => pts_nil) (fun _ _ _ _ _ => (pe_cR (ok_is_deed_of T) hr (by rfl) (pa_cons (pv 0) (pa_cons (pv 2) pa_nil))))) pa_nil)))) (pss_one ps_never) pss_nil))), ?_⟩
    have hty : (t_list e || t_tuple e) = true := by rcases hq with rfl | rfl <;> rfl
    have hl := hd.1
    refine q_when (b := false) (et_or (a := false) (b := false) (et_not (a := true) (evt_to (t_B (d_isi2 (d_var rfl r1) (kb_list e) (kb_tuple e))) hty)) fun _ => evt_to (t_test (d_gt (d_lenS (d_var rfl r1) hq) d_int)) (decide_eq_false (by rw [List.length_map]; omega))) (fun z => nomatch z) fun _ H1 e1 => ?_
    have r1 := Dp.ex r1 e1
    have hs := hs.ex e1
    refine s_when (b := false) (et_not (a := true) (evt_to (t_B (d_all (bs := ds.map fun _ => true) (Evd.to (Evn.evd (n_map (xs := ds) (enc := Deed.d) (f := fun _ => .bool true) (src_seq (d_var rfl r1) hq) (fun _ => rfl) (fun _ _ => rfl) (by omega) fun d hdm v H2 e2 r => d_call (a_consV (ev_var rfl) (a_cons (d_var rfl r) a_nil)) fun H3 e3 => ⟨x, sc, d, rfl, (hs.ex e2).ex e3, hd.2 d hdm, rfl⟩)) (by rw [List.map_map]; rfl)))) (by simp))) (fun z => nomatch z) fun _ H2 e2 => k .non H2 (e1.trans e2) .non
abbrev nm_answer_of : List PySem.Str := ["machine", "deed"]
theorem sc_answer_of : FnScope nm_answer_of ["machine", "deed"] (defScope s_answer_of) := ⟨rfl, rfl, rfl, by decide +kernel, rfl, by decide +kernel, by decide +kernel⟩
theorem ok_answer_of (T : Tx K mg) : FR P w K mg base 8 "answer_of" (spM K P_answer_of) := by
  refine fr_of (k := 7) (N := nm_answer_of) (ps := ["machine", "deed"]) (gl_answer_of T) (T.c.d.def_ 36 (d := d_answer_of)) sc_answer_of (fun _ _ _ _ _ _ us hl => match us, hl with | [_, _], _ => rfl) (fun vs H Q E h => ?_) (fun cdv A outer s H vs Q E hr h => ?_)
  · obtain ⟨G, p, sc, cs, m, m', as, d, hA, hm, ⟨dd, rfl, h1, h2, rfl, rfl⟩, k⟩ := h
    exact hA.length
  · obtain ⟨G, p, sc, cs, m, m', as, d, hA, hM, ⟨dd, rfl, hd, ⟨N, hN, hN5⟩, rfl, rfl⟩, k⟩ := h
    obtain ⟨v0, _, rfl, rfl, v1, _, rfl, r1, rfl⟩ := hA
    refine ⟨_, (pss_one (ps_ret (pe_ifExp (pt_val (pe_cR (ok_is_possible T) hr (by rfl) (pa_cons (pv 0) (pa_cons (pv 1) pa_nil)))) (pe_methR (pv 0) (cl_Machine T) (me_Machine_do T) (ok_Machine_do T) (hr.mono (by decide)) pass0 (pa_cons (pv 1) pa_nil)) (pe_gstr (st_NO T) rfl)))), ?_⟩
    have ht := hN.tr
    unfold step at k
    have tst : EvT (tB (tCallR (sp_is_possible K) E0 (tCons (tVar 0) (tCons (tVar 1) tNil)))) [some (.ref p), some v1] H (isPossible (hsOf cs) sc m dd) := t_B (d_call (a_consV (ev_var rfl) (a_cons (d_var rfl r1) a_nil)) fun H1 e1 => ⟨p, sc, cs, m, dd, rfl, (hM.ex e1).at, rfl⟩)
    refine tst H (Ex.refl _) _ fun H1 e1 => ?_
    have h1 := hM.ex e1
    have r1 := Dp.ex r1 e1
    cases hp : isPossible (hsOf cs) sc m dd with
    | true =>
      rw [hp] at k
      obtain ⟨o, hA, hS⟩ := id h1
      refine ⟨_, rfl, p, o.dx, MF o m, rfl, hA.ob, by rfl, v1, rfl, ?_⟩
      exact ⟨G, p, sc, cs, m, _, [.dat (Deed.d dd)], _, ⟨_, _, rfl, rfl, _, _, rfl, r1, rfl⟩, h1, ⟨dd, rfl, hd, hp, ⟨N, hN.iv, hN5⟩, by omega, rfl, rfl⟩, fun v H' hm tk r => k v H' hm ((Tk.of e1).trans tk) r⟩
    | false =>
      rw [hp] at k
      exact k _ H1 h1 (Tk.of e1) (.str "no")
end
end Sc


/-! Sc17: answers, the first failure. -/
namespace Sc
open PySem PySem.Spec PyProof.Rows L2 Evl
section
variable {K : PySem.W.Frag} {G H : Hp} {p : Addr} {s : Sch} {cs : List Sx}
theorem e_answers {σ : L2.St} {j jm jd : Nat} {v : V} {e : PD} {ds : List Deed} {vs : List Nat} {Q : VK} (hx : σ[jd]? = some (some v)) (r : Dp K G v e) (hq : seqD e ds) (hok : DsOk s ds)
    (hw : ∀ w, ((wipe σ vs).set j (some w))[jm]? = some (some (.ref p)) ∧ ((wipe σ vs).set j (some w))[j]? = some (some w) ∧ wipe ((wipe σ vs).set j (some w)) vs = wipe σ vs) (hM : Mach K G H p s cs m0)
    (k : ∀ D H' acc, Ex G H' → H' D = some (.lst acc) → DpAll K H' acc ((run1 (hsOf cs) s m0 ds).map Ans.d) → Q (.ref D) H') :
    tLc (fun σ H R => iList K (tVar jd) σ H R ∨ iTup K (tVar jd) σ H R) (gName j) tYes (tCallR (spM K P_answer_of) E0 (tCons (tVar jm) (tCons (tVar j) tNil))) vs σ H Q := by
  have hl := hok.1
  refine src_G hx r hq H hM.gex (fun J H1 => ∀ D, H1 D = none → ∃ W : Nat → Nat → Hp → Prop, (∃ m, W 0 m (upd H1 D (.lst []))) ∧ _) fun J W D hD => ?_
  rw [List.length_map] at W
  have gD : G D = none := gnone hM.gex hD
  refine lc_it W (fun i H' => ∃ G' acc, Ex G G' ∧ G' D = some (.lst acc) ∧ DpAll K H' acc ((run1 (hsOf cs) s m0 (ds.take i)).map Ans.d) ∧ Mach K G' H' p s cs (endM (hsOf cs) s m0 (ds.take i))) ⟨upd G D (.lst []), [], Ex.new gD, upd_same, .nil, hM.gnew hD⟩ (fun i H' _ ⟨G', _, h1, _, _, h2⟩ => h1.trans h2.gex) (fun i x H3 H4 hi P Y => ?_) fun H3 P => ?_
  · obtain ⟨G', acc, eg, hG, hacc, hm⟩ := P
    obtain ⟨rfl, d, hd, rd⟩ := Y
    rw [List.getElem?_map] at hd
    obtain ⟨di, hdi, rfl⟩ := Option.map_eq_some_iff.mp hd
    obtain ⟨w1, w2, w3⟩ := hw x
    have hru : Ru i (endM (hsOf cs) s m0 (ds.take i)) := by
      have := Ru.end (hs := hsOf cs) (s := s) (ds := ds.take i) ru0
      rw [Nat.zero_add] at this
      exact ⟨this.iv.mono (by rw [List.length_take]; omega), Nat.le_trans this.tr (by rw [List.length_take]; omega)⟩
    have htk : ds.take (i + 1) = ds.take i ++ [di] := by rw [List.take_succ, hdi] <;> rfl
    refine ⟨w3, ?_⟩
    show (tCallR (spM K P_answer_of) E0 (tCons (tVar jm) (tCons (tVar j) tNil))) ((wipe σ vs).set j (some x)) H4 fun y H5 => ∃ acc, H5 D = some (.lst acc) ∧ acc.length < sizeLine ∧ _
    refine ⟨_, w1, _, w2, G', p, s, cs, _, _, [.dat (Deed.d di)], _, ⟨_, _, rfl, rfl, _, _, rfl, rd, rfl⟩, hm, ⟨di, rfl, hok.2 di (List.mem_of_getElem? hdi), ⟨i, hru, by omega⟩, rfl, rfl⟩, fun v' H' hm' tk rv => ?_⟩
    have hlen : acc.length ≤ 40 := by rw [hacc.length, List.length_map, run1_len, List.length_take]; omega
    refine ⟨acc, hm'.gex _ _ hG, sz_lt (by omega), upd G' D (.lst (acc ++ [v'])), acc ++ [v'], eg.mut gD, upd_same, ?_, ?_⟩
    · rw [htk, run1_snoc, List.map_append]
      have T : Tk H' (upd H' D (.lst (acc ++ [v']))) := Tk.lst (hm'.gex _ _ hG)
      exact ((hacc.tk tk (immAll_map _ fun x _ => imm_Ans x)).tk T (immAll_map _ fun x _ => imm_Ans x)).append (.one (rv.tk T (imm_Ans _)))
    · rw [htk, endM_snoc]
      exact hm'.gupd hG
  · obtain ⟨G', acc, eg, hG, hacc, hm⟩ := P
    rw [List.take_of_length_le (Nat.le_refl _)] at hacc
    exact k D H3 acc (eg.trans hm.gex) (hm.gex _ _ hG) hacc
end
theorem q_makeM {K : PySem.W.Frag} {σ : L2.St} {H : Hp} {tx tv : TE} {x : Addr} {s : Sch} {e : PD} {cs : List Sx} {D : Ends} {i : Nat} {tz : TS} (hx : Ev tx σ H (.ref x)) (hv : Evd K tv σ H e) (hs : SchAt K H x s) (hc : carD e cs) (hk : CaresOk cs)
    (k : ∀ p G H', Ex H G → G p = none → Mach K G H' p s (inOrder cs) m0 → tz D (σ.set i (some (.ref p))) H') : tSeq (tAsg (tMakeK (He.ga K "Machine") 1 1 (sp_minit K) (fun vs zs => vs ++ zs) E0 (tCons tx tNil) (tCons tv tNil)) (gName i)) tz D σ H :=
  s_makeM (tz := tNext) (D := { nx := fun _ _ => True, rt := fun _ _ => True }) (i := 0) (fun H1 e1 => fun H2 e2 => hx H2 (e1.trans e2)) hv hs hc hk (fun v H' => tz D (σ.set i (some v)) H') k
section
variable {P : Program} {w : World} {K : PySem.W.Frag} {mg : PySem.Str → Option Value} {base : Heap}
abbrev nm_answers : List PySem.Str := ["scheme", "cares", "deeds", "machine", "deed"]
theorem sc_answers : FnScope nm_answers ["scheme", "cares", "deeds"] (defScope s_answers) := ⟨rfl, rfl, rfl, by decide +kernel, rfl, by decide +kernel, by decide +kernel⟩
theorem ok_answers (T : Tx K mg) : FR P w K mg base 9 "answers" (sp_answers K) := by
  refine fr_of (k := 8) (N := nm_answers) (ps := ["scheme", "cares", "deeds"]) (gl_answers T) (T.c.d.def_ 37 (d := d_answers)) sc_answers (fun _ _ _ _ _ _ us hl => match us, hl with | [_, _, _], _ => rfl) (fun vs H Q E h => ?_) (fun cdv A outer s H vs Q E hr h => ?_)
  · obtain ⟨as, r, hA, ⟨x, sc, e, cs, e', ds, rfl, hs, hc, hk, hq, hd, rfl⟩, k⟩ := h
    exact hA.length
  · obtain ⟨as, r, hA, ⟨x, sc, e, cs, e', ds, rfl, hs, hc, hk, hq, hd, rfl⟩, k⟩ := h
    obtain ⟨v0, _, rfl, rfl, v1, _, rfl, r1, v2, _, rfl, r2, rfl⟩ := hA
    obtain ⟨fdM, Fm, mvM, Bm⟩ := ok_minit (P := P) (w := w) (base := base) T
    refine ⟨_, (pss_cons (ps_expr (pe_cR (ok_check_both T) hr (by rfl) (pa_cons (pv 0) (pa_cons (pv 1) pa_nil))))
      (pss_cons (ps_expr (pe_cR (ok_check_deeds T) hr (by rfl) (pa_cons (pv 0) (pa_cons (pv 2) pa_nil))))
      (pss_cons (ps_set (i := 3) sc_answers.nd rfl (Or.inr rfl) (pe_makeK (n := 1) (mk_Machine T) Fm (hr.mono (by decide)) (by rfl) (gl_Machine T) Bm pass0 (pa_cons (pv 0) pa_nil) (pk_cons (pv 1) pk_nil)))
      (pss_one (ps_ret (pe_lc (own := [("deed", 4)]) rfl sc_answers.nd (pi_seqK (K := K) rfl (pv 2)) (blkOk_by (own := [("deed", 4)]) (N := nm_answers) (sc := defScope s_answers) (by decide +kernel)) (fun _ _ _ _ _ => (pg_name (i := 4) sc_answers.nd rfl (Or.inl rfl))) (fun _ _ _ _ _ => pts_nil) (fun _ _ _ _ _ => (pe_cR (ok_answer_of T) hr (by rfl) (pa_cons (pv 3) (pa_cons (pv 4) pa_nil)))))))))), ?_⟩
    refine q_dropD (d_call (a_consV (ev_var rfl) (a_cons (d_var rfl r1) a_nil)) fun H1 e1 => ⟨x, sc, e, cs, rfl, hs.ex e1, hc, hk, rfl⟩) fun _ H1 e1 _ => ?_
    refine q_dropD (d_call (a_consV (ev_var rfl) (a_cons (d_var rfl (Dp.ex r2 e1)) a_nil)) fun H2 e2 => ⟨x, sc, e', ds, rfl, (hs.ex e1).ex e2, hq, hd, rfl⟩) fun _ H2 e2 _ => ?_
    have e12 := e1.trans e2
    refine q_makeM (ev_var rfl) (d_var rfl (Dp.ex r1 e12)) (hs.ex e12) hc hk fun p G H3 eG gp hM => ?_
    refine e_answers rfl (Dp.ex (Dp.ex r2 e12) eG) hq hd (fun w => ⟨rfl, rfl, rfl⟩) hM fun D H4 acc e4 h4 hacc => ?_
    exact k _ H4 ((e12.trans eG).trans e4) (.lst (sq_of h4) hacc)
theorem failRun_skip {hs : Sx → Bool} {s : Sch} {m : M} {d : Deed} {r : List Deed} (h : isPossible hs s m d = false) : failRun hs s m (d :: r) = failRun hs s m r := by
  show (if isPossible hs s m d = true then _ else _) = _
  rw [if_neg (by rw [h]; exact Bool.false_ne_true)]
theorem failRun_some {hs : Sx → Bool} {s : Sch} {m : M} {d : Deed} {r : List Deed} {f : Fail} (h : isPossible hs s m d = true) (hf : (done hs s m d).2 = some f) : failRun hs s m (d :: r) = some f := by
  show (if isPossible hs s m d = true then _ else _) = _
  rw [if_pos h, hf]
theorem failRun_none {hs : Sx → Bool} {s : Sch} {m : M} {d : Deed} {r : List Deed} (h : isPossible hs s m d = true) (hf : (done hs s m d).2 = none) : failRun hs s m (d :: r) = failRun hs s (done hs s m d).1 r := by
  show (if isPossible hs s m d = true then _ else _) = _
  rw [if_pos h, hf]
theorem done_iv {hs : Sx → Bool} {s : Sch} {m : M} {d : Deed} {N : Nat} (h : Iv N m) (hp : isPossible hs s m d = true) : Iv (N + 1) (done hs s m d).1 := by
  have h2 := h.done1 hp
  exact ⟨h2.m0, h2.m1, h2.fl, h2.ps, h2.an, h2.ed, h2.rk⟩
abbrev nm_failure_of_lists : List PySem.Str := ["scheme", "cares", "deeds", "machine", "deed", "failure"]
theorem sc_failure_of_lists : FnScope nm_failure_of_lists ["scheme", "cares", "deeds"] (defScope s_failure_of_lists) := ⟨rfl, rfl, rfl, by decide +kernel, rfl, by decide +kernel, by decide +kernel⟩
theorem ok_failure_of_lists (T : Tx K mg) : FR P w K mg base 7 "failure_of_lists" (sp_failure_of_lists K) := by
  refine fr_of (k := 6) (N := nm_failure_of_lists) (ps := ["scheme", "cares", "deeds"]) (gl_failure_of_lists T) (T.c.d.def_ 38 (d := d_failure_of_lists)) sc_failure_of_lists (fun _ _ _ _ _ _ us hl => match us, hl with | [_, _, _], _ => rfl) (fun vs H Q E h => ?_) (fun cdv A outer s H vs Q E hr h => ?_)
  · obtain ⟨as, r, hA, ⟨x, sc, e, cs, e', ds, rfl, hs, hc, hk, hq, hd, rfl⟩, k⟩ := h
    exact hA.length
  · obtain ⟨as, r, hA, ⟨x, sc, e, cs, e', ds, rfl, hs, hc, hk, hq, hd, rfl⟩, k⟩ := h
    obtain ⟨v0, _, rfl, rfl, v1, _, rfl, r1, v2, _, rfl, r2, rfl⟩ := hA
    obtain ⟨fdM, Fm, mvM, Bm⟩ := ok_minit (P := P) (w := w) (base := base) T
    refine ⟨_, (pss_cons (ps_set (i := 3) sc_failure_of_lists.nd rfl (Or.inl rfl) (pe_makeK (n := 1) (mk_Machine T) Fm (hr.mono (by decide)) (by rfl) (gl_Machine T) Bm pass0 (pa_cons (pv 0) pa_nil) (pk_cons (pv 1) pk_nil)))
      (pss_cons (ps_for PassesOwn.never rfl (pi_seqK (K := K) rfl (pv 2)) (pg_name (i := 4) sc_failure_of_lists.nd rfl (Or.inl rfl)) (pss_one (ps_if (pt_val (pe_cR (ok_is_possible T) hr (by rfl) (pa_cons (pv 3) (pa_cons (pv 4) pa_nil)))) (pss_cons (ps_set (i := 5) sc_failure_of_lists.nd rfl (Or.inl rfl) (pe_cR (ok_done T) hr (by rfl) (pa_cons (pv 3) (pa_cons (pv 4) pa_nil))))
      (pss_one (ps_if (pt_cmpR op_notN (pv 5) pe_non (nomark _)) (pss_one (ps_ret (pv 5))) pss_nil))) pss_nil)))
      (pss_one (ps_ret pe_non)))), ?_⟩
    have hl := hd.1
    refine q_makeM (ev_var rfl) (d_var rfl r1) hs hc hk fun p G H1 eG gp hM => ?_
    have k : ∀ (v : V) (H' : Hp), Ex G H' → Dp K H' v _ → Q v H' := fun v H' e r => k v H' (eG.trans e) r
    refine src_G (j := 2) rfl (Dp.ex r2 eG) hq H1 hM.gex (fun J H2 => ∃ W : Nat → Nat → L2.St → Hp → Prop, (∃ m, W 0 m _ H2) ∧ _) fun J W => ?_
    rw [List.length_map] at W
    refine for_it W (fun i σ' H' => ∃ m c d, σ' = [some (.ref x), some v1, some v2, some (.ref p), c, d] ∧ Mach K G H' p sc (inOrder cs) m ∧ Iv i m ∧ failRun (hsOf (inOrder cs)) sc m0 ds = failRun (hsOf (inOrder cs)) sc m (ds.drop i)) ⟨m0, none, none, rfl, hM, iv_m0, rfl⟩ (fun i σ' H' _ ⟨m, _, _, _, h, _⟩ => h.gex) (fun i y σ' H2 H3 hi P Y => ?_) fun σ' H2 P => ?_
    · obtain ⟨m, c, d', rfl, hm, hiv, hf⟩ := P
      obtain ⟨rfl, d, hdi, rd⟩ := Y
      rw [List.getElem?_map] at hdi
      obtain ⟨di, hdj, rfl⟩ := Option.map_eq_some_iff.mp hdi
      have hdr : ds.drop i = di :: ds.drop (i + 1) := by
        obtain ⟨h1, h2⟩ := List.getElem?_eq_some_iff.mp hdj
        rw [← h2]
        exact List.drop_eq_getElem_cons h1
      rw [hdr] at hf
      cases hp : isPossible (hsOf (inOrder cs)) sc m di with
      | false =>
        rw [failRun_skip hp] at hf
        refine s_when (b := false) (evt_to (t_B (d_call (a_consV (ev_var rfl) (a_cons (d_var rfl rd) a_nil)) fun H4 e4 => ⟨p, sc, inOrder cs, m, di, rfl, (hm.ex e4).at, rfl⟩)) hp) (fun z => nomatch z) fun _ H4 e4 => ⟨m, _, _, rfl, hm.ex e4, hiv.mono (Nat.le_succ _), hf⟩
      | true =>
        refine s_when (b := true) (evt_to (t_B (d_call (a_consV (ev_var rfl) (a_cons (d_var rfl rd) a_nil)) fun H4 e4 => ⟨p, sc, inOrder cs, m, di, rfl, (hm.ex e4).at, rfl⟩)) hp) (fun _ H4 e4 => ?_) fun z => nomatch z
        refine q_asgM (a_consV (ev_var rfl) (a_cons (d_var rfl (Dp.ex rd e4)) a_nil)) (hm.ex e4) ⟨di, rfl, hp, ⟨i, hiv, by omega⟩, rfl, rfl⟩ fun vf H5 h5 t5 r5 => ?_
        cases hfl : (done (hsOf (inOrder cs)) sc m di).2 with
        | some f =>
          rw [hfl] at r5
          rw [failRun_some hp hfl] at hf
          rw [hf] at k
          refine s_when (b := true) (t_test (d_notN (d_var rfl r5))) (fun _ H6 e6 => s_retD (d_var rfl (Dp.ex r5 e6)) fun v H7 e7 r => k v H7 ((h5.gex.trans e6).trans e7) r) fun z => nomatch z
        | none =>
          rw [hfl] at r5
          rw [failRun_none hp hfl] at hf
          exact s_when (b := false) (t_test (d_notN (d_var rfl r5))) (fun z => nomatch z) fun _ H6 e6 => ⟨_, _, _, rfl, h5.ex e6, done_iv hiv hp, hf⟩
    · obtain ⟨m, c, d', rfl, hm, hiv, hf⟩ := P
      have : ds.drop ds.length = [] := List.drop_length
      rw [this] at hf
      rw [hf] at k
      exact (s_retD (K := K) d_non fun v H7 e7 r => k v H7 (hm.gex.trans e7) r : tRet (tC .non) { nx := fun _ H' => Q .non H', rt := Q } [some (.ref x), some v1, some v2, some (.ref p), c, d'] H2)
end
end Sc


/-! Sc18: sets of cares. -/
namespace Sc
open PySem PySem.Spec PyProof.Rows L2 Evl
theorem mt_tup_indexK {X : Cx} {K : PySem.W.Frag} (hK : X.K = K) : MtR X "tuple.index" (fun x xs H Q => ∃ p, ∃ ys : List Sx, ∃ z j, x = .ref p ∧ xs = [.str z] ∧ SqT K H p (ys.map V.str) ∧ ys[j]? = some z ∧ (∀ m, m < j → ys[m]? ≠ some z) ∧ Q (.int (j : Nat)) H) := hK ▸ mt_tup_index
theorem call_tupleFK {X : Cx} {K : PySem.W.Frag} (hK : X.K = K) : CallR X (.type "tuple") (rTupF K) := hK ▸ call_tupleF
/-! ### pools -/
structure PoolAt (K : PySem.W.Frag) (H : Hp) (a : Addr) (pool : List Sx) : Prop where
  sq : SqT K H a (pool.map V.str)
  ty : L2.tyP K (.ref a) H
  ok : CaresOk pool
theorem PoolAt.ex {K : PySem.W.Frag} {H H' : Hp} {a : Addr} {pool : List Sx} (h : PoolAt K H a pool) (e : Ex H H') : PoolAt K H' a pool := by
  obtain ⟨h1, ⟨p, h2, h3⟩, h4⟩ := h
  refine ⟨ex_t e h1, ⟨p, h2, ?_⟩, h4⟩
  rcases h3 with ⟨od, u, g1, g2, g3⟩ | g
  · exact .inl ⟨od, u, e _ _ g1, g2, g3⟩
  · exact .inr g
theorem PoolAt.dp {K : PySem.W.Frag} {H : Hp} {a : Addr} {pool : List Sx} (h : PoolAt K H a pool) : Dp K H (.ref a) (setD pool) := .tup h.sq (DpAll.strs pool)
theorem cares_len {pool : List Sx} (h : CaresOk pool) : pool.length ≤ 9 := List.Nodup.length_le_of_subset h.2 (l₂ := cares9) fun x hx => h.1 x hx
theorem cares9_ok : CaresOk cares9 := ⟨fun _ h => h, by decide +kernel⟩
theorem strOk_cares : ∀ c ∈ cares9, PyData.strOk c = true := by decide +kernel
theorem sh_set {s : List Sx} (h : ∀ c ∈ s, c ∈ cares9) : Sh 1 (setD s) := Sh.tup fun d hd => by
  obtain ⟨c, hc, rfl⟩ := List.mem_map.mp hd
  exact Sh.str (strOk_cares c (h c hc))
theorem eqv_set_nil (s : List Sx) : PyData.eqv (setD s) (.tuple []) = decide (s = []) := by
  cases s with
  | nil => rfl
  | cons a r => rfl
theorem sh_unit : SeqAt.shaped (.tuple []) = true := by decide +kernel
theorem sh_lnil : SeqAt.shaped (.list []) = true := by decide +kernel
theorem eqv_sets_nil (L : List (List Sx)) : PyData.eqv (.list (L.map setD)) (.list []) = decide (L = []) := by
  cases L with
  | nil => rfl
  | cons a r => rfl
theorem atI_last {α : Type} (l : List α) : atI l (-1) = l.getLast? := by
  unfold atI ixN
  rw [if_neg (by decide)]
  cases l with
  | nil => rfl
  | cons a r =>
    have h : -((a :: r).length : Int) ≤ -1 := by rw [List.length_cons]; omega
    rw [if_pos h]
    show (a :: r)[(-1 + ((a :: r).length : Int)).toNat]? = _
    rw [List.getLast?_eq_getElem?]
    congr 1
    rw [List.length_cons]
    omega
theorem Evs.to' {K : PySem.W.Frag} {ta : TA} {σ : L2.St} {H : Hp} {ds es : List PD} (h : Evs K ta σ H ds) (q : ds = es) : Evs K ta σ H es := q ▸ h
/-! ### promises -/
def sp_later_cares (K : PySem.W.Frag) : Sp := spP K fun H as r => ∃ a pool s, as = [.val (.ref a), .dat (setD s)] ∧ PoolAt K H a pool ∧ (∀ c ∈ s, c ∈ pool) ∧ r = setD (later pool s)
def sp_sets_of (K : PySem.W.Frag) : Sp := spN K Tr fun H as L => ∃ a pool, as = [.val (.ref a)] ∧ PoolAt K H a pool ∧ L = setsOf pool
def goodOf (s : Sch) (ds : List Deed) : List (List Sx) := (setsOf cares9).filter fun c => (failRun (hsOf (inOrder c)) s m0 ds).isNone
def sp_good_sets (K : PySem.W.Frag) : Sp := spN K Tr fun H as L => ∃ x s e ds, as = [.val (.ref x), .dat e] ∧ SchAt K H x s ∧ seqD e ds ∧ DsOk s ds ∧ L = goodOf s ds
def sp_contains (K : PySem.W.Frag) : Sp := spP K fun _ as r => ∃ s p, as = [.dat (setD s), .dat (setD p)] ∧ p.length ≤ 1000 ∧ r = .bool (p.all fun c => decide (c ∈ s))
def poolOf (cs : List Sx) : List Sx := cares9.filter fun c => !decide (c ∈ cs)
def sp_additions (K : PySem.W.Frag) : Sp := spN K Tr fun _ as L => ∃ e cs, as = [.dat e] ∧ carD e cs ∧ L = setsOf (poolOf cs)
theorem pool_ok (cs : List Sx) : CaresOk (poolOf cs) := ⟨fun c hc => (List.mem_filter.mp hc).1, cares9_ok.2.filter _⟩
section
variable {P : Program} {w : World} {K : PySem.W.Frag} {mg : PySem.Str → Option Value} {base : Heap}
theorem pool_all (T : Tx K mg) (H : Hp) : PoolAt K H (He.ga K "ALL_CARES") cares9 := by
  refine ⟨?_, ⟨_, rfl, .inr ?_⟩, cares9_ok⟩
  · have := He.tupB_ok (He.ba (He.ba T.c.more).1).1 H
    exact this
  · have h := (He.ba (He.ba (He.ba T.c.more).2).2).2
    unfold bareB at h
    cases q : K.lookup (He.ga K "ALL_CARES") with
    | none => rw [q] at h; cases h
    | some o =>
      rw [q] at h
      obtain ⟨oc, od, dt, osl⟩ := o
      cases oc with
      | type c =>
        cases od with
        | none =>
          have : c = "tuple" := of_decide_eq_true h
          subst this
          exact ⟨_, rfl, rfl, rfl⟩
        | some _ => cases h
      | _ => cases h
theorem idx_first {pool : List Sx} {c : Sx} (h : c ∈ pool) : pool[pool.idxOf c]? = some c ∧ ∀ m, m < pool.idxOf c → pool[m]? ≠ some c := by
  have hlt := List.idxOf_lt_length_iff.mpr h
  refine ⟨by rw [List.getElem?_eq_getElem hlt, List.getElem_idxOf], fun m hm e => ?_⟩
  obtain ⟨h1, h2⟩ := List.getElem?_eq_some_iff.mp e
  have := List.not_of_lt_findIdx hm
  simp [h2] at this
abbrev nm_later_cares : List PySem.Str := ["cares", "some"]
theorem sc_later_cares : FnScope nm_later_cares ["cares", "some"] (defScope s_later_cares) := ⟨rfl, rfl, rfl, by decide +kernel, rfl, by decide +kernel, by decide +kernel⟩
theorem ok_later_cares (T : Tx K mg) : FR P w K mg base 1 "later_cares" (sp_later_cares K) := by
  refine fr_of (k := 0) (N := nm_later_cares) (ps := ["cares", "some"]) (gl_later_cares T) (T.c.d.def_ 40 (d := d_later_cares)) sc_later_cares (fun _ _ _ _ _ _ us hl => match us, hl with | [_, _], _ => rfl) (fun vs H Q E h => ?_) (fun cdv A outer s H vs Q E hr h => ?_)
  · obtain ⟨as, r, hA, ⟨a, pool, s, rfl, hp, hs, rfl⟩, k⟩ := h
    exact hA.length
  · obtain ⟨as, r, hA, ⟨a, pool, s, rfl, hp, hs, rfl⟩, k⟩ := h
    obtain ⟨v0, _, rfl, rfl, v1, _, rfl, r1, rfl⟩ := hA
    refine ⟨_, (pss_one (ps_ret (pe_ifExp (pt_cmpR (op_neK (K := K) rfl hr.units) (pv 1) (pe_tup pa_nil) (nomark _)) (pe_slice (sl_tupK (K := K) rfl) (pv 0) (po_some (pe_op op_add (pe_bmP (K := K) rfl PySem.F.plainAttrs_tuple PySem.F.slot_tuple_index PySem.F.type_tuple_index (mt_tup_indexK (K := K) rfl) (pv 0) (pa_cons (pe_ix (ix_tupK (K := K) rfl) (pv 1) (pe_un un_neg pe_int) (fun _ _ => rfl)) pa_nil)) pe_int)) po_none) (pv 0)))), ?_⟩
    have sh := sh_set fun c hc => hp.ok.1 c (hs c hc)
    refine s_retD (Evd.to (d_if (b := !decide (s = [])) (d := setD (later pool s)) (e := setD pool) (evt_to (t_test (d_ne (d_var rfl r1) (d_tup e_nil) sh.ok sh_unit)) (by rw [eqv_set_nil])) (fun hb => ?_) fun hb => d_var rfl hp.dp) ?_) k
    · have hne : s ≠ [] := by simpa using hb
      obtain ⟨c, hc⟩ : ∃ c, s.getLast? = some c := ⟨_, List.getLast?_eq_some_getLast hne⟩
      have hcp : c ∈ pool := hs c (List.mem_of_getLast? hc)
      obtain ⟨i1, i2⟩ := idx_first hcp
      have hix : Evd K (tOp (rIxT K) (tVar 1) (tUn (rU fun i => .int (-i)) (tC (.int 1)))) [some (.ref a), some v1] H (.str c) := d_ixT (i := -1) (d_var rfl r1) (d_ev (ev_un ev_c fun H1 e Q q => ⟨1, rfl, q H1 (Ex.refl _)⟩) (.int _)) (by rw [atI_last, List.getLast?_map, hc]; rfl)
      refine Evd.to (d_slT (ds := pool.map .str) (lo := some ((pool.idxOf c : Int) + 1)) (hi := none) (d_var rfl hp.dp) (eo_some (d_add (K := K) (i := (pool.idxOf c : Int)) (j := 1) (fun H1 e1 Q q => ⟨_, rfl, (hp.ex e1).ty, hix.str H1 e1 _ fun H2 e2 => ⟨a, pool, c, pool.idxOf c, rfl, rfl, (hp.ex (e1.trans e2)).sq, i1, i2, q _ H2 e2 (.int _)⟩⟩) d_int).int) eo_none) ?_
      have e : ((pool.idxOf c : Int) + 1) = ((pool.idxOf c + 1 : Nat) : Int) := rfl
      rw [e, cut_back]
      unfold later begAt setD
      rw [hc, List.map_drop]
    · cases s with
      | nil => rfl
      | cons a r => rfl
theorem later_len (pool s : List Sx) : (later pool s).length ≤ pool.length := by
  unfold later
  rw [List.length_drop]
  omega
theorem e_extend {σ : L2.St} {H : Hp} {i j : Nat} {af al : Addr} {vs ws : List V} {D : Ends} (hx : σ[i]? = some (some (.ref af))) (hy : σ[j]? = some (some (.ref al))) (h1 : H af = some (.lst vs)) (h2 : H al = some (.lst ws)) (hz : vs.length + ws.length ≤ 100000) (k : D.nx σ (upd H af (.lst (vs ++ ws)))) :
    tDrop (tBM K "list" rExtend (tVar i) (tCons (tVar j) tNil)) D σ H := ⟨_, hx, .inl ⟨rfl, _, sq_of h1⟩, _, hy, af, al, vs, ws, rfl, rfl, h1, h2, sz_of hz, k⟩
abbrev nm_sets_of : List PySem.Str := ["cares", "found", "layer", "some", "care"]
theorem sc_sets_of : FnScope nm_sets_of ["cares"] (defScope s_sets_of) := ⟨rfl, rfl, rfl, by decide +kernel, rfl, by decide +kernel, by decide +kernel⟩
theorem ok_sets_of (T : Tx K mg) : FR P w K mg base 2 "sets_of" (sp_sets_of K) := by
  refine fr_of (k := 1) (N := nm_sets_of) (ps := ["cares"]) (gl_sets_of T) (T.c.d.def_ 39 (d := d_sets_of)) sc_sets_of (fun _ _ _ _ _ _ us hl => match us, hl with | [_], _ => rfl) (fun vs H Q E h => ?_) (fun cdv A outer s H vs Q E hr h => ?_)
  · obtain ⟨as, L, hA, ⟨a, pool, rfl, hp, rfl⟩, k⟩ := h
    exact hA.length
  · obtain ⟨as, L, hA, ⟨a, pool, rfl, hp, rfl⟩, k⟩ := h
    obtain ⟨v0, _, rfl, rfl, rfl⟩ := hA
    refine ⟨_, (pss_cons (ps_par (i := 1) (j := 2) rfl sc_sets_of.nd rfl rfl (by decide) rfl rfl (pa_cons (pe_lst (pa_cons (pe_tup pa_nil) pa_nil)) (pa_cons (pe_lst (pa_cons (pe_tup pa_nil) pa_nil)) pa_nil)) (by rfl))
      (pss_cons (ps_while PassesOwn.never (pt_cmpR (op_neK (K := K) rfl hr.units) (pv 2) (pe_lst pa_nil) (nomark _)) (pss_cons (ps_setLc2 (i := 2) (own := [("some", 3), ("care", 4)]) (vs1 := [4]) rfl sc_sets_of.nd rfl rfl (sw_true rfl rfl rfl (by decide +kernel)) (pi_listK (K := K) rfl (pv 2)) (blkOk_by (own := [("some", 3), ("care", 4)]) (N := nm_sets_of) (sc := defScope s_sets_of) (by decide +kernel)) (by decide) (fun _ _ _ _ _ => (pg_name (i := 3) sc_sets_of.nd rfl (Or.inl rfl))) (fun _ _ _ _ _ => pts_nil) (fun _ _ _ _ _ => (pi_tupK (K := K) rfl (pe_cR (ok_later_cares T) hr (by rfl) (pa_cons (pv 0) (pa_cons (pv 3) pa_nil))))) (fun _ _ _ _ _ => (pg_name (i := 4) sc_sets_of.nd rfl (Or.inl rfl))) (fun _ _ _ _ _ => pts_nil) (fun _ _ _ _ _ => (pe_tup (pa_starK (K := K) rfl (pv 3) (pa_cons (pv 4) pa_nil)))))
      (pss_one (ps_expr (pe_bm PySem.F.plainAttrs_list PySem.F.slot_list_extend PySem.F.type_list_extend mt_extend (pv 1) (pa_cons (pv 2) pa_nil))))))
      (pss_one (ps_ret (pv 1))))), ?_⟩
    have hn := hp.ok.2
    have h9 := cares_len hp.ok
    refine q_parR (nr_one (tr_tup (K := K) (ks := []) e_nil (by decide))) (nr_one (tr_tup (K := K) (ks := []) e_nil (by decide))) fun af al vs ws H1 nf nl hne e1 hf rf hl rl => ?_
    refine q_while (fun m σ' H' => ∃ k af' al' vs ws c d, m = pool.length + 1 - k ∧ k ≤ pool.length + 1 ∧ σ' = [some (.ref a), some (.ref af), some (.ref al'), c, d] ∧ af' = af ∧ Ex H H' ∧ al' ≠ af ∧ H' af = some (.lst vs) ∧ AllR Tr H' vs (foundL pool k) ∧ H' al' = some (.lst ws) ∧ AllR Tr H' ws (layer pool k)) (pool.length + 1) ⟨0, af, al, vs, ws, none, none, rfl, Nat.zero_le _, rfl, rfl, e1, hne.symm, hf, rf, hl, rl⟩ fun m σ' H' ⟨k', _, al', vs', ws', c, d, hm, hk, hσ, _, eH, hne', hf', rf', hl', rl'⟩ => ?_
    subst hσ
    have dl : Dp K H' (.ref al') (.list ((layer pool k').map setD)) := .lst (sq_of hl') (rl'.dp fun v x => tr_dp)
    have mem : ∀ s ∈ layer pool k', ∀ c ∈ s, c ∈ pool := fun s hs => (layer_mem k' s hs).2
    have shl : Sh 2 (.list ((layer pool k').map setD)) := Sh.lst fun d hd => by
      obtain ⟨s, hs, rfl⟩ := List.mem_map.mp hd
      exact sh_set fun c hc => hp.ok.1 c (mem s hs c hc)
    refine ⟨!decide (layer pool k' = []), evt_to (t_test (d_ne (d_var rfl dl) (n_lst e_nil).evd shl.ok sh_lnil)) (by rw [eqv_sets_nil]), fun hb H2 e2 => ?_, fun hb H2 e2 => ?_⟩
    · have hnn : layer pool k' ≠ [] := by simpa using hb
      have hk' : k' ≤ pool.length := by
        by_cases h : k' ≤ pool.length
        · exact h
        · have : k' = pool.length + 1 := by omega
          rw [this] at hnn
          exact absurd (layer_end hn) hnn
      refine ⟨fun σ2 H2 => ∃ k af' al' vs ws c d, pool.length + 1 - (k' + 1) = pool.length + 1 - k ∧ k ≤ pool.length + 1 ∧ σ2 = [some (.ref a), some (.ref af), some (.ref al'), c, d] ∧ af' = af ∧ Ex H H2 ∧ al' ≠ af ∧ H2 af = some (.lst vs) ∧ AllR Tr H2 vs (foundL pool k) ∧ H2 al' = some (.lst ws) ∧ AllR Tr H2 ws (layer pool k), fun σ2 H2 h => ⟨_, by omega, h⟩, ?_⟩
      have hll := layer_len hn h9 k'
      have rl2 := rl'.ex e2
      have hp2 := hp.ex (eH.trans e2)
      have N : EvnR Tr (tLc2 (iList K (tVar 2)) (gName 3) tYes (iTup K (tCallR (sp_later_cares K) E0 (tCons (tVar 0) (tCons (tVar 3) tNil)))) (gName 4) tYes (tTup (StX.tStar K (tVar 3) (tCons (tVar 4) tNil))) [3, 4] [4]) [some (.ref a), some (.ref af), some (.ref al'), c, d] H2 (layer pool (k' + 1)) := by
        refine EvnR.to (n_lc2R (K := K) (Ri := Tr) (Ro := Tr) (xs := layer pool k') (ys := later pool) (p := fun _ _ => true) (f := fun s c => s ++ [c]) (srcR_list (ev_var rfl) (e2 _ _ hl') rl2) (fun _ => rfl) (fun _ _ => rfl) (fun n => ?_) (fun s hs => ?_) (fun s hs v H3 e3 r => ?_) fun s hs y hy v H3 e3 r => ⟨t_yes, fun _ => tr_tup (Evs.to' (e_star (d_var rfl (tr_dp r)) (.inr rfl) (e_cons (d_var rfl (.str _)) e_nil)) (by rw [List.map_append]; rfl)) ?_⟩) ?_
        · have hb : ∀ L : List (List Sx), (L.flatMap fun x => ((later pool x).filter fun _ => true).map fun c => x ++ [c]).length ≤ 9 * L.length := by
            intro L
            induction L with
            | nil => exact Nat.le_refl _
            | cons s r ih =>
              rw [List.flatMap_cons, List.length_append, List.length_map, List.length_cons]
              have h1 := List.length_filter_le (fun _ => true) (later pool s)
              have h2 := later_len pool s
              omega
          have := hb ((layer pool k').take n)
          rw [List.length_take] at this
          omega
        · have := later_len pool s
          omega
        · exact src_tupT (d_call (a_consV (ev_var rfl) (a_cons (d_var rfl (tr_dp r)) a_nil)) fun H4 e4 => ⟨a, pool, s, rfl, (hp2.ex e3).ex e4, mem s hs, rfl⟩) (immAll_map _ fun _ _ => rfl)
        · have := (layer_mem k' s hs).1
          rw [List.length_append, this]
          show k' + 1 ≤ 100000
          omega
        · show _ = nextL pool (layer pool k')
          unfold nextL
          refine congrArg (fun f => (layer pool k').flatMap f) (funext fun s => ?_)
          rw [List.filter_eq_self.mpr (fun _ _ => rfl)]
      refine q_asgR N fun al2 ws2 H3 n2 e3 h3 r3 => ?_
      have hf3 := e3 _ _ (e2 _ _ hf')
      have rf3 := (rf'.ex e2).ex e3
      have hfl := found_len hn h9 k'
      have hl2 := layer_len hn h9 (k' + 1)
      have l1 := rf3.length
      have l2 := r3.length
      have hn2 : al2 ≠ af := (nold (e2 _ _ hf') n2).symm
      refine e_extend (K := K) rfl rfl hf3 h3 (by omega) ⟨k' + 1, af, al2, vs' ++ ws2, ws2, _, _, rfl, by omega, rfl, rfl, ((eH.trans e2).trans e3).mut nf, hn2, upd_same, ?_, ?_, r3.up hf3⟩
      · exact (rf3.up hf3).append (r3.up hf3)
      · rw [upd_ne hn2]
        exact h3
    · have hz : layer pool k' = [] := by simpa using hb
      have e := setsOf_stop hn hz
      refine ⟨_, rfl, ?_⟩
      exact k af vs' H2 nf (eH.trans e2) (e2 _ _ hf') (by rw [e]; exact rf'.ex e2)
end
end Sc


/-! Sc19: good sets, least sets, what is needed. -/
namespace Sc
open PySem PySem.Spec PyProof.Rows L2 Evl
def leastOf (G : List (List Sx)) : List (List Sx) := G.filter fun some => !(G.any fun one => !decide (one = some) && one.all fun c => decide (c ∈ some))
def neededOf (G : List (List Sx)) : List Sx := cares9.filter fun c => G.all fun s => decide (c ∈ s)
def sp_least_sets (K : PySem.W.Frag) : Sp := spN K Tr fun H as L => ∃ x s e ds, as = [.val (.ref x), .dat e] ∧ SchAt K H x s ∧ seqD e ds ∧ DsOk s ds ∧ L = leastOf (goodOf s ds)
def sp_needed (K : PySem.W.Frag) : Sp := spP K fun H as r => ∃ x s e ds, as = [.val (.ref x), .dat e] ∧ SchAt K H x s ∧ seqD e ds ∧ DsOk s ds ∧ r = .list ((neededOf (goodOf s ds)).map .str)
def sp_failure_with (K : PySem.W.Frag) : Sp := spP K fun H as r => ∃ x s e cs added e' ds, as = [.val (.ref x), .dat e, .dat (setD added), .dat e'] ∧ SchAt K H x s ∧ carD e cs ∧ cs.length + added.length ≤ 1000 ∧ seqD e' ds ∧ DsOk s ds ∧ r = failD (failRun (hsOf (inOrder (cs ++ added))) s m0 ds)
theorem inOrder_ok (cs : List Sx) : CaresOk (inOrder cs) := ⟨fun c hc => (List.mem_filter.mp hc).1, cares9_ok.2.filter _⟩
theorem inOrder_idem (cs : List Sx) : inOrder (inOrder cs) = inOrder cs := by
  unfold inOrder
  refine List.filter_congr fun c hc => ?_
  simp [hc]
theorem sets_ok {pool s : List Sx} (h : CaresOk pool) (hs : s ∈ setsOf pool) : CaresOk s := ⟨fun c hc => h.1 c ((sets_sub h.2 hs).subset hc), (sets_sub h.2 hs).nodup h.2⟩
theorem sets_len {pool : List Sx} (h : CaresOk pool) : (setsOf pool).length ≤ 512 := by
  have h9 := cares_len h
  have := found_len h.2 h9 (pool.length + 1)
  unfold setsOf
  omega
theorem good_mem {s : Sch} {ds : List Deed} {c : List Sx} (h : c ∈ goodOf s ds) : CaresOk c := sets_ok cares9_ok (List.mem_filter.mp h).1
theorem good_len (s : Sch) (ds : List Deed) : (goodOf s ds).length ≤ 512 := Nat.le_trans (List.length_filter_le _ _) (sets_len cares9_ok)
theorem eqvAll_strs : ∀ (a b : List Sx), PyData.eqvAll (a.map .str) (b.map .str) = decide (a = b)
  | [], [] => by rw [List.map_nil, PyData.eqvAll]; rfl
  | [], _ :: _ => by rw [List.map_nil, List.map_cons, PyData.eqvAll] <;> simp
  | _ :: _, [] => by rw [List.map_nil, List.map_cons, PyData.eqvAll] <;> simp
  | x :: r, y :: r' => by
    rw [List.map_cons, List.map_cons, PyData.eqvAll, eqvAll_strs r r']
    show ((x == y) && _) = _
    by_cases h1 : x = y <;> by_cases h2 : r = r' <;> simp [h1, h2]
theorem eqv_sets (a b : List Sx) : PyData.eqv (setD a) (setD b) = decide (a = b) := by
  unfold setD
  rw [PyData.eqv, eqvAll_strs]
theorem nr_bls {K : PySem.W.Frag} {te : TE} {σ : L2.St} {H : Hp} {bs : List Bool} (h : EvnR (Dr K (fun b : Bool => .bool b) fun _ => rfl) te σ H bs) : Evd K te σ H (.list (bs.map .bool)) := (nr_dp (enc := fun b : Bool => PyData.bool b) (fun _ _ _ h => h) h).evd
section
variable {P : Program} {w : World} {K : PySem.W.Frag} {mg : PySem.Str → Option Value} {base : Heap}
abbrev nm_good_sets : List PySem.Str := ["scheme", "deeds", "some"]
theorem sc_good_sets : FnScope nm_good_sets ["scheme", "deeds"] (defScope s_good_sets) := ⟨rfl, rfl, rfl, by decide +kernel, rfl, by decide +kernel, by decide +kernel⟩
theorem ok_good_sets (T : Tx K mg) : FR P w K mg base 8 "good_sets" (sp_good_sets K) := by
  refine fr_of (k := 7) (N := nm_good_sets) (ps := ["scheme", "deeds"]) (gl_good_sets T) (T.c.d.def_ 41 (d := d_good_sets)) sc_good_sets (fun _ _ _ _ _ _ us hl => match us, hl with | [_, _], _ => rfl) (fun vs H Q E h => ?_) (fun cdv A outer s H vs Q E hr h => ?_)
  · obtain ⟨as, L, hA, ⟨x, sc, e, ds, rfl, hs, hq, hd, rfl⟩, k⟩ := h
    exact hA.length
  · obtain ⟨as, L, hA, ⟨x, sc, e, ds, rfl, hs, hq, hd, rfl⟩, k⟩ := h
    obtain ⟨v0, _, rfl, rfl, v1, _, rfl, r1, rfl⟩ := hA
    refine ⟨_, (pss_cons (ps_expr (pe_cR (ok_check_scheme T) hr (by rfl) (pa_cons (pv 0) pa_nil)))
      (pss_cons (ps_expr (pe_cR (ok_check_deeds T) hr (by rfl) (pa_cons (pv 0) (pa_cons (pv 1) pa_nil))))
      (pss_one (ps_ret (pe_lc (own := [("some", 2)]) rfl sc_good_sets.nd (pi_listK (K := K) rfl (pe_cR (ok_sets_of T) hr (by rfl) (pa_cons (pe_gref (gl_ALL_CARES T) rfl) pa_nil))) (blkOk_by (own := [("some", 2)]) (N := nm_good_sets) (sc := defScope s_good_sets) (by decide +kernel)) (fun _ _ _ _ _ => (pg_name (i := 2) sc_good_sets.nd rfl (Or.inl rfl))) (fun _ _ _ _ _ => (pts_one (pt_cmpR op_isN (pe_cR (ok_failure_of_lists T) hr (by rfl) (pa_cons (pv 0) (pa_cons (pv 2) (pa_cons (pv 1) pa_nil)))) pe_non (nomark _)))) (fun _ _ _ _ _ => (pv 2))))))), ?_⟩
    refine q_dropD (d_call (a_consV (ev_var rfl) a_nil) fun H1 e1 => ⟨x, sc, rfl, hs.ex e1, rfl⟩) fun _ H1 e1 _ => ?_
    refine q_dropD (d_call (a_consV (ev_var rfl) (a_cons (d_var rfl (Dp.ex r1 e1)) a_nil)) fun H2 e2 => ⟨x, sc, e, ds, rfl, (hs.ex e1).ex e2, hq, hd, rfl⟩) fun _ H2 e2 _ => ?_
    have e12 := e1.trans e2
    have hsl := sets_len cares9_ok
    refine s_retR (EvnR.to (n_lcR (Ri := Tr) (Ro := Tr) (xs := setsOf cares9) (p := fun c => (failRun (hsOf (inOrder c)) sc m0 ds).isNone) (f := fun c => c) (srcR_evn (K := K) (n_callN (a_consV ev_c a_nil) fun H3 e3 => ⟨_, cares9, rfl, pool_all T H3, rfl⟩)) (fun _ => rfl) (by omega) fun c hc v H3 e3 r => ⟨evt_to (t_test (d_isN (d := failD (failRun (hsOf (inOrder c)) sc m0 ds)) (d_call (a_consV (ev_var rfl) (a_cons (d_var rfl (tr_dp r)) (a_cons (d_var rfl (Dp.ex (Dp.ex r1 e12) e3)) a_nil))) fun H4 e4 => ⟨x, sc, setD c, c, e, ds, rfl, ((hs.ex e12).ex e3).ex e4, .inr rfl, sets_ok cares9_ok hc, hq, hd, rfl⟩))) ?_, fun _ => r_var rfl r⟩) (by rw [List.map_id']; rfl)) fun p ws H3 hp e3 h3 r3 => k p ws H3 (fresh_back e12 hp) (e12.trans e3) h3 r3
    cases failRun (hsOf (inOrder c)) sc m0 ds <;> rfl
abbrev nm_sufficient : List PySem.Str := ["scheme", "deeds"]
theorem sc_sufficient : FnScope nm_sufficient ["scheme", "deeds"] (defScope s_sufficient) := ⟨rfl, rfl, rfl, by decide +kernel, rfl, by decide +kernel, by decide +kernel⟩
theorem ok_sufficient (T : Tx K mg) : FR P w K mg base 9 "sufficient" (sp_good_sets K) := by
  refine fr_of (k := 8) (N := nm_sufficient) (ps := ["scheme", "deeds"]) (gl_sufficient T) (T.c.d.def_ 42 (d := d_sufficient)) sc_sufficient (fun _ _ _ _ _ _ us hl => match us, hl with | [_, _], _ => rfl) (fun vs H Q E h => ?_) (fun cdv A outer s H vs Q E hr h => ?_)
  · obtain ⟨as, L, hA, ⟨x, sc, e, ds, rfl, hs, hq, hd, rfl⟩, k⟩ := h
    exact hA.length
  · obtain ⟨as, L, hA, ⟨x, sc, e, ds, rfl, hs, hq, hd, rfl⟩, k⟩ := h
    obtain ⟨v0, _, rfl, rfl, v1, _, rfl, r1, rfl⟩ := hA
    refine ⟨_, (pss_one (ps_ret (pe_cR (ok_good_sets T) hr (by rfl) (pa_cons (pv 0) (pa_cons (pv 1) pa_nil))))), ?_⟩
    exact s_retR (n_callN (a_consV (ev_var rfl) (a_cons (d_var rfl r1) a_nil)) fun H1 e1 => ⟨x, sc, e, ds, rfl, hs.ex e1, hq, hd, rfl⟩) k
abbrev nm_contains : List PySem.Str := ["some", "part", "care"]
theorem sc_contains : FnScope nm_contains ["some", "part"] (defScope s_contains) := ⟨rfl, rfl, rfl, by decide +kernel, rfl, by decide +kernel, by decide +kernel⟩
theorem ok_contains (T : Tx K mg) : FR P w K mg base 1 "contains" (sp_contains K) := by
  refine fr_of (k := 0) (N := nm_contains) (ps := ["some", "part"]) (gl_contains T) (T.c.d.def_ 43 (d := d_contains)) sc_contains (fun _ _ _ _ _ _ us hl => match us, hl with | [_, _], _ => rfl) (fun vs H Q E h => ?_) (fun cdv A outer s H vs Q E hr h => ?_)
  · obtain ⟨as, r, hA, ⟨s, p, rfl, hl, rfl⟩, k⟩ := h
    exact hA.length
  · obtain ⟨as, r, hA, ⟨s, p, rfl, hl, rfl⟩, k⟩ := h
    obtain ⟨v0, _, rfl, r0, v1, _, rfl, r1, rfl⟩ := hA
    refine ⟨_, (pss_one (ps_ret (pe_callB (cr_allK (K := K) rfl) (by rfl) (fr_all T) (by decide +kernel) (pa_cons (pe_lc (own := [("care", 2)]) rfl sc_contains.nd (pi_tupK (K := K) rfl (pv 1)) (blkOk_by (own := [("care", 2)]) (N := nm_contains) (sc := defScope s_contains) (by decide +kernel)) (fun _ _ _ _ _ => (pg_name (i := 2) sc_contains.nd rfl (Or.inl rfl))) (fun _ _ _ _ _ => pts_nil) (fun _ _ _ _ _ => (pe_cmpR (op_inK (K := K) rfl) (pv 2) (pv 0) (by rfl)))) pa_nil)))), ?_⟩
    exact s_retD (Evd.to (d_all (bs := p.map fun c => decide (c ∈ s)) (Evd.to (Evn.evd (n_map (xs := p) (enc := .str) (f := fun c => .bool (decide (c ∈ s))) (src_tup (d_var rfl r1)) (fun _ => rfl) (fun _ _ => rfl) (by omega) fun c hc v H1 e1 r => d_inS (d_var rfl r) (d_var rfl (Dp.ex r0 e1)) (.inr rfl))) (by rw [List.map_map]; rfl))) (by rw [List.all_map]; rfl)) k
/-- tuple([..]) of cares: a pool -/
theorem ev_pool {σ : L2.St} {H : Hp} {te : TE} {pool : List Sx} (N : Evn K te σ H (pool.map .str)) (hp : CaresOk pool) : ∀ H1, Ex H H1 → ∀ Q : VK, (∀ l H2, Ex H1 H2 → PoolAt K H2 l pool → Q (.ref l) H2) → tCB (rTupF K) (tCons te tNil) σ H1 Q := fun H1 a Q k => N H1 a _ fun p vs H2 hn e1 h1 r1 => by
  refine ⟨p, vs, rfl, sq_of h1, fun l od hl hd hc2 => ?_⟩
  have ev := r1.strsV
  subst ev
  exact k l _ (e1.trans (Ex.new hl)) ⟨.inl (.inr ⟨od, upd_same⟩), ⟨l, rfl, .inl ⟨od, _, upd_same, hc2, hd⟩⟩, hp⟩
theorem n_setsOf {σ : L2.St} {H : Hp} {te : TE} {pool : List Sx} (N : Evn K te σ H (pool.map .str)) (hp : CaresOk pool) : EvnR Tr (tCallR (sp_sets_of K) E0 (tCons (tCB (rTupF K) (tCons te tNil)) tNil)) σ H (setsOf pool) := fun H1 a Q k =>
  ev_pool N hp H1 a _ fun l H2 e2 hp2 => ⟨[.val (.ref l)], setsOf pool, ⟨_, _, rfl, rfl, rfl⟩, ⟨l, pool, rfl, hp2, rfl⟩, fun q ws H3 hq e3 h3 r3 => k q ws H3 (fresh_back e2 hq) (e2.trans e3) h3 r3⟩
abbrev nm_additions : List PySem.Str := ["cares", "care"]
theorem sc_additions : FnScope nm_additions ["cares"] (defScope s_additions) := ⟨rfl, rfl, rfl, by decide +kernel, rfl, by decide +kernel, by decide +kernel⟩
theorem ok_additions (T : Tx K mg) : FR P w K mg base 3 "additions" (sp_additions K) := by
  refine fr_of (k := 2) (N := nm_additions) (ps := ["cares"]) (gl_additions T) (T.c.d.def_ 47 (d := d_additions)) sc_additions (fun _ _ _ _ _ _ us hl => match us, hl with | [_], _ => rfl) (fun vs H Q E h => ?_) (fun cdv A outer s H vs Q E hr h => ?_)
  · obtain ⟨as, L, hA, ⟨e, cs, rfl, hc, rfl⟩, k⟩ := h
    exact hA.length
  · obtain ⟨as, L, hA, ⟨e, cs, rfl, hc, rfl⟩, k⟩ := h
    obtain ⟨v0, _, rfl, r0, rfl⟩ := hA
    refine ⟨_, (pss_one (ps_ret (pe_cR (ok_sets_of T) hr (by rfl) (pa_cons (pe_callTy (call_tupleFK (K := K) rfl) (by rfl) (fr_tuple T) (by decide +kernel) (pa_cons (pe_lc (own := [("care", 1)]) rfl sc_additions.nd (pi_tupK (K := K) rfl (pe_gref (gl_ALL_CARES T) rfl)) (blkOk_by (own := [("care", 1)]) (N := nm_additions) (sc := defScope s_additions) (by decide +kernel)) (fun _ _ _ _ _ => (pg_name (i := 1) sc_additions.nd rfl (Or.inl rfl))) (fun _ _ _ _ _ => (pts_one (pt_cmpR (op_ninK (K := K) rfl) (pv 1) (pv 0) (by rfl)))) (fun _ _ _ _ _ => (pv 1))) pa_nil)) pa_nil)))), ?_⟩
    have N : Evn K (tLc (iTup K (tC (.ref (He.ga K "ALL_CARES")))) (gName 1) (tTest (tOp (rIn K true) (tVar 1) (tVar 0))) (tVar 1) [1]) [some v0, none] H ((poolOf cs).map .str) := n_lc (xs := cares9) (enc := .str) (p := fun c => !decide (c ∈ cs)) (f := .str) (src_tup (d_ALL T)) (fun _ => rfl) (fun _ _ => rfl) (by decide) fun c hc' v H1 e1 r => ⟨t_test (d_ninS (d_var rfl r) (d_var rfl (Dp.ex r0 e1)) hc), fun _ => d_var rfl r⟩
    exact s_retR (n_setsOf N (pool_ok cs)) k
abbrev nm_failure_with : List PySem.Str := ["scheme", "cares", "added", "deeds"]
theorem sc_failure_with : FnScope nm_failure_with ["scheme", "cares", "added", "deeds"] (defScope s_failure_with) := ⟨rfl, rfl, rfl, by decide +kernel, rfl, by decide +kernel, by decide +kernel⟩
theorem ok_failure_with (T : Tx K mg) : FR P w K mg base 8 "failure_with" (sp_failure_with K) := by
  refine fr_of (k := 7) (N := nm_failure_with) (ps := ["scheme", "cares", "added", "deeds"]) (gl_failure_with T) (T.c.d.def_ 48 (d := d_failure_with)) sc_failure_with (fun _ _ _ _ _ _ us hl => match us, hl with | [_, _, _, _], _ => rfl) (fun vs H Q E h => ?_) (fun cdv A outer s H vs Q E hr h => ?_)
  · obtain ⟨as, r, hA, ⟨x, sc, e, cs, added, e', ds, rfl, hs, hc, hl, hq, hd, rfl⟩, k⟩ := h
    exact hA.length
  · obtain ⟨as, r, hA, ⟨x, sc, e, cs, added, e', ds, rfl, hs, hc, hl, hq, hd, rfl⟩, k⟩ := h
    obtain ⟨v0, _, rfl, rfl, v1, _, rfl, r1, v2, _, rfl, r2, v3, _, rfl, r3, rfl⟩ := hA
    refine ⟨_, (pss_one (ps_ret (pe_cR (ok_failure_of_lists T) hr (by rfl) (pa_cons (pv 0) (pa_cons (pe_cR (ok_in_order T) hr (by rfl) (pa_cons (pe_tup (pa_starK (K := K) rfl (pv 1) (pa_starK (K := K) rfl (pv 2) pa_nil))) pa_nil)) (pa_cons (pv 3) pa_nil)))))), ?_⟩
    exact s_retD (d_call (a_consV (ev_var rfl) (a_cons (d_call (a_cons (d_tup (e_star (d_var rfl r1) hc (e_star (d_var rfl r2) (.inr rfl) e_nil)) (by simp; omega)) a_nil) fun H1 e1 => ⟨_, cs ++ added, rfl, .inr (by simp), rfl⟩) (a_cons (d_var rfl r3) a_nil))) fun H1 e1 => ⟨x, sc, _, inOrder (cs ++ added), e', ds, rfl, hs.ex e1, .inr rfl, inOrder_ok _, hq, hd, by rw [inOrder_idem]⟩) k
abbrev nm_least_sets : List PySem.Str := ["scheme", "deeds", "good", "some", "one"]
theorem sc_least_sets : FnScope nm_least_sets ["scheme", "deeds"] (defScope s_least_sets) := ⟨rfl, rfl, rfl, by decide +kernel, rfl, by decide +kernel, by decide +kernel⟩
theorem ok_least_sets (T : Tx K mg) : FR P w K mg base 9 "least_sets" (sp_least_sets K) := by
  refine fr_of (k := 8) (N := nm_least_sets) (ps := ["scheme", "deeds"]) (gl_least_sets T) (T.c.d.def_ 44 (d := d_least_sets)) sc_least_sets (fun _ _ _ _ _ _ us hl => match us, hl with | [_, _], _ => rfl) (fun vs H Q E h => ?_) (fun cdv A outer s H vs Q E hr h => ?_)
  · obtain ⟨as, L, hA, ⟨x, sc, e, ds, rfl, hs, hq, hd, rfl⟩, k⟩ := h
    exact hA.length
  · obtain ⟨as, L, hA, ⟨x, sc, e, ds, rfl, hs, hq, hd, rfl⟩, k⟩ := h
    obtain ⟨v0, _, rfl, rfl, v1, _, rfl, r1, rfl⟩ := hA
    refine ⟨_, (pss_cons (ps_set (i := 2) sc_least_sets.nd rfl (Or.inr rfl) (pe_cR (ok_good_sets T) hr (by rfl) (pa_cons (pv 0) (pa_cons (pv 1) pa_nil))))
      (pss_one (ps_ret (pe_lc (own := [("some", 3)]) rfl sc_least_sets.nd (pi_listK (K := K) rfl (pv 2)) (blkOk_by (own := [("some", 3)]) (N := nm_least_sets) (sc := defScope s_least_sets) (by decide +kernel)) (fun _ _ _ _ _ => (pg_name (i := 3) sc_least_sets.nd rfl (Or.inr rfl))) (fun _ _ _ _ _ => (pts_one (pt_not (pt_val (pe_callB (cr_anyK (K := K) rfl) (by rfl) (fr_any T) (by decide +kernel) (pa_cons (pe_lc (own := [("one", 4)]) rfl sc_least_sets.nd (pi_listK (K := K) rfl (pv 2)) (blkOk_by (own := [("one", 4)]) (N := nm_least_sets) (sc := (⟨.function, [(".0", .local), ("some", .cell), ("any", .globalImplicit), ("good", .cell)], false, false, []⟩ : Scope)) (by decide +kernel)) (fun _ _ _ _ _ => (pg_name (i := 4) sc_least_sets.nd rfl (Or.inl rfl))) (fun _ _ _ _ _ => pts_nil) (fun _ _ _ _ _ => (pe_and (pe_cmpR (op_neK (K := K) rfl hr.units) (pv 4) (pv 3) (nomark _)) (pe_one (pe_cR (ok_contains T) hr (by rfl) (pa_cons (pv 3) (pa_cons (pv 4) pa_nil))))))) pa_nil)))))) (fun _ _ _ _ _ => (pv 3)))))), ?_⟩
    refine q_asgR (n_callN (a_consV (ev_var rfl) (a_cons (d_var rfl r1) a_nil)) fun H1 e1 => ⟨x, sc, e, ds, rfl, hs.ex e1, hq, hd, rfl⟩) fun pg vg H1 ng e1 hg rg => ?_
    have hl := good_len sc ds
    have hsh : ∀ s ∈ goodOf sc ds, Sh 1 (setD s) := fun s hs => sh_set (good_mem hs).1
    refine s_retR (EvnR.to (n_lcR (Ri := Tr) (Ro := Tr) (xs := goodOf sc ds) (p := fun some => !((goodOf sc ds).any fun one => !decide (one = some) && one.all fun c => decide (c ∈ some))) (f := fun c => c) (srcR_list (K := K) (ev_var rfl) hg rg) (fun _ => rfl) (by omega) fun c hc v H2 e2 r => ⟨et_not (evt_to (t_B (d_any (bs := (goodOf sc ds).map fun one => !decide (one = c) && one.all fun x => decide (x ∈ c)) (nr_bls (n_mapR (Ri := Tr) (Ro := Dr K (fun b : Bool => .bool b) fun _ => rfl) (f := fun one => !decide (one = c) && one.all fun x => decide (x ∈ c)) (srcR_list (K := K) (ev_var rfl) (e2 _ _ hg) (rg.ex e2)) (fun _ => rfl) (by omega) fun one ho v2 H3 e3 r3 => r_of (enc := fun b : Bool => PyData.bool b) (d_and (Evd.to (d_ne (d_var rfl (tr_dp r3)) (d_var rfl (Dp.ex (tr_dp r) e3)) (hsh one ho).ok (hsh c hc).ok) (by rw [eqv_sets])) fun _ => d_call (a_cons (d_var rfl (Dp.ex (tr_dp r) e3)) (a_cons (d_var rfl (tr_dp r3)) a_nil)) fun _ _ => ⟨c, one, rfl, by have := cares_len (good_mem ho); omega, rfl⟩))))) (by rw [List.any_map]; rfl)), fun _ => r_var rfl r⟩) (by rw [List.map_id']; rfl)) fun p ws H2 hp e2 h2 r2 => k p ws H2 (fresh_back e1 hp) (e1.trans e2) h2 r2
abbrev nm_needed : List PySem.Str := ["scheme", "deeds", "good", "care", "some"]
theorem sc_needed : FnScope nm_needed ["scheme", "deeds"] (defScope s_needed) := ⟨rfl, rfl, rfl, by decide +kernel, rfl, by decide +kernel, by decide +kernel⟩
theorem ok_needed (T : Tx K mg) : FR P w K mg base 9 "needed" (sp_needed K) := by
  refine fr_of (k := 8) (N := nm_needed) (ps := ["scheme", "deeds"]) (gl_needed T) (T.c.d.def_ 45 (d := d_needed)) sc_needed (fun _ _ _ _ _ _ us hl => match us, hl with | [_, _], _ => rfl) (fun vs H Q E h => ?_) (fun cdv A outer s H vs Q E hr h => ?_)
  · obtain ⟨as, r, hA, ⟨x, sc, e, ds, rfl, hs, hq, hd, rfl⟩, k⟩ := h
    exact hA.length
  · obtain ⟨as, r, hA, ⟨x, sc, e, ds, rfl, hs, hq, hd, rfl⟩, k⟩ := h
    obtain ⟨v0, _, rfl, rfl, v1, _, rfl, r1, rfl⟩ := hA
    refine ⟨_, (pss_cons (ps_set (i := 2) sc_needed.nd rfl (Or.inr rfl) (pe_cR (ok_good_sets T) hr (by rfl) (pa_cons (pv 0) (pa_cons (pv 1) pa_nil))))
      (pss_one (ps_ret (pe_lc (own := [("care", 3)]) rfl sc_needed.nd (pi_tupK (K := K) rfl (pe_gref (gl_ALL_CARES T) rfl)) (blkOk_by (own := [("care", 3)]) (N := nm_needed) (sc := defScope s_needed) (by decide +kernel)) (fun _ _ _ _ _ => (pg_name (i := 3) sc_needed.nd rfl (Or.inr rfl))) (fun _ _ _ _ _ => (pts_one (pt_val (pe_callB (cr_allK (K := K) rfl) (by rfl) (fr_all T) (by decide +kernel) (pa_cons (pe_lc (own := [("some", 4)]) rfl sc_needed.nd (pi_listK (K := K) rfl (pv 2)) (blkOk_by (own := [("some", 4)]) (N := nm_needed) (sc := (⟨.function, [(".0", .local), ("care", .cell), ("all", .globalImplicit), ("good", .cell)], false, false, []⟩ : Scope)) (by decide +kernel)) (fun _ _ _ _ _ => (pg_name (i := 4) sc_needed.nd rfl (Or.inl rfl))) (fun _ _ _ _ _ => pts_nil) (fun _ _ _ _ _ => (pe_cmpR (op_inK (K := K) rfl) (pv 3) (pv 4) (by rfl)))) pa_nil))))) (fun _ _ _ _ _ => (pv 3)))))), ?_⟩
    refine q_asgR (n_callN (a_consV (ev_var rfl) (a_cons (d_var rfl r1) a_nil)) fun H1 e1 => ⟨x, sc, e, ds, rfl, hs.ex e1, hq, hd, rfl⟩) fun pg vg H1 ng e1 hg rg => ?_
    have hl := good_len sc ds
    exact s_retD (Evn.evd (n_lc (xs := cares9) (enc := .str) (p := fun c => (goodOf sc ds).all fun s => decide (c ∈ s)) (f := .str) (src_tup (d_ALL T)) (fun _ => rfl) (fun _ _ => rfl) (by decide) fun c hc v H2 e2 r => ⟨evt_to (t_B (d_all (bs := (goodOf sc ds).map fun s => decide (c ∈ s)) (nr_bls (n_mapR (Ri := Tr) (Ro := Dr K (fun b : Bool => .bool b) fun _ => rfl) (f := fun s => decide (c ∈ s)) (srcR_list (K := K) (ev_var rfl) (e2 _ _ hg) (rg.ex e2)) (fun _ => rfl) (by omega) fun one ho v2 H3 e3 r3 => r_of (enc := fun b : Bool => PyData.bool b) (d_inS (d_var rfl (Dp.ex r e3)) (d_var rfl (tr_dp r3)) (.inr rfl)))))) (by rw [List.all_map]; rfl), fun _ => d_var rfl r⟩)) fun v H2 e2 r2 => k v H2 (e1.trans e2) r2
end
end Sc


/-! Sc20: dicts whose keys are sets of cares; harms. -/
namespace Sc
open PySem PySem.Spec PyProof.Rows L2 Evl
abbrev KeyT := List L2.Key
def keyT (ks : List Sx) : KeyT := ks.map Sum.inr
theorem keyT_inj {a b : List Sx} (h : keyT a = keyT b) : a = b := by
  unfold keyT at h
  exact (List.map_inj_right (fun x y e => Sum.inr.inj e)).mp h
theorem keyT_kV (ks : List Sx) : (keyT ks).map kV = ks.map V.str := by
  unfold keyT
  rw [List.map_map]
  rfl
/-! tables -/
abbrev Tab := List (List Sx × PD)
def getT (t : Tab) (k : List Sx) : Option PD := (t.find? fun p => decide (p.1 = k)).map (·.2)
def putT (t : Tab) (k : List Sx) (d : PD) : Tab := if (t.any fun p => decide (p.1 = k)) = true then t.map fun p => if p.1 = k then (p.1, d) else p else t ++ [(k, d)]
def dropT (t : Tab) (k : List Sx) : Tab := t.filter fun p => decide (p.1 ≠ k)
def TabR (K : PySem.W.Frag) (H : Hp) : List (KeyT × V) → Tab → Prop
  | [], [] => True
  | p :: ps, t :: ts => p.1 = keyT t.1 ∧ Dp K H p.2 t.2 ∧ Imm t.2 = true ∧ TabR K H ps ts
  | _, _ => False
section
variable {K : PySem.W.Frag} {H H' : Hp}
theorem TabR.tk (e : Tk H H') : ∀ {ps : List (KeyT × V)} {ts : Tab}, TabR K H ps ts → TabR K H' ps ts
  | [], [], _ => trivial
  | _ :: _, _ :: _, ⟨h1, h2, h3, h4⟩ => ⟨h1, h2.tk e h3, h3, TabR.tk e h4⟩
  | [], _ :: _, h => h.elim
  | _ :: _, [], h => h.elim
theorem TabR.length : ∀ {ps : List (KeyT × V)} {ts : Tab}, TabR K H ps ts → ps.length = ts.length
  | [], [], _ => rfl
  | _ :: _, _ :: _, ⟨_, _, _, h4⟩ => congrArg Nat.succ (TabR.length h4)
  | [], _ :: _, h => h.elim
  | _ :: _, [], h => h.elim
theorem TabR.append : ∀ {ps : List (KeyT × V)} {ts : Tab} {qs : List (KeyT × V)} {us : Tab}, TabR K H ps ts → TabR K H qs us → TabR K H (ps ++ qs) (ts ++ us)
  | [], [], _, _, _, h => h
  | _ :: _, _ :: _, _, _, ⟨h1, h2, h3, h4⟩, h => ⟨h1, h2, h3, TabR.append h4 h⟩
  | [], _ :: _, _, _, h, _ => h.elim
  | _ :: _, [], _, _, h, _ => h.elim
theorem TabR.get (k : List Sx) : ∀ {ps : List (KeyT × V)} {ts : Tab}, TabR K H ps ts → (valV ps (keyT k) = none ∧ getT ts k = none) ∨ ∃ v d, valV ps (keyT k) = some v ∧ getT ts k = some d ∧ Dp K H v d ∧ Imm d = true
  | [], [], _ => .inl ⟨rfl, rfl⟩
  | p :: ps, t :: ts, ⟨h1, h2, h3, h4⟩ => by
    by_cases e : t.1 = k
    · refine .inr ⟨p.2, t.2, valV_pos (by rw [h1, e]), ?_, h2, h3⟩
      simp [getT, List.find?_cons, e]
    · have e' : ¬ p.1 = keyT k := fun z => e (keyT_inj (h1.symm.trans z))
      rw [valV_neg e']
      have : getT (t :: ts) k = getT ts k := by simp [getT, List.find?_cons, e]
      rw [this]
      exact TabR.get k h4
  | [], _ :: _, h => h.elim
  | _ :: _, [], h => h.elim
theorem TabR.any (k : List Sx) : ∀ {ps : List (KeyT × V)} {ts : Tab}, TabR K H ps ts → (ps.any fun kv => decide (kv.1 = keyT k)) = ts.any fun p => decide (p.1 = k)
  | [], [], _ => rfl
  | p :: ps, t :: ts, ⟨h1, _, _, h4⟩ => by
    rw [List.any_cons, List.any_cons, TabR.any k h4, h1]
    congr 1
    exact decide_eq_decide.mpr ⟨fun e => keyT_inj e, fun e => by rw [e]⟩
  | [], _ :: _, h => h.elim
  | _ :: _, [], h => h.elim
theorem TabR.over {k : List Sx} {v : V} {d : PD} (hv : Dp K H v d) (hi : Imm d = true) : ∀ {ps : List (KeyT × V)} {ts : Tab}, TabR K H ps ts → TabR K H (ps.map fun kv => if kv.1 = keyT k then (kv.1, v) else kv) (ts.map fun p => if p.1 = k then (p.1, d) else p)
  | [], [], _ => trivial
  | p :: ps, t :: ts, ⟨h1, h2, h3, h4⟩ => by
    rw [List.map_cons, List.map_cons]
    by_cases e : t.1 = k
    · rw [if_pos (by rw [h1, e]), if_pos e]
      exact ⟨h1, hv, hi, TabR.over hv hi h4⟩
    · rw [if_neg (fun z => e (keyT_inj (h1.symm.trans z))), if_neg e]
      exact ⟨h1, h2, h3, TabR.over hv hi h4⟩
  | [], _ :: _, h => h.elim
  | _ :: _, [], h => h.elim
theorem TabR.put {k : List Sx} {v : V} {d : PD} {ps : List (KeyT × V)} {ts : Tab} (h : TabR K H ps ts) (hv : Dp K H v d) (hi : Imm d = true) : TabR K H (putK ps (keyT k) v) (putT ts k d) := by
  unfold putK putT
  rw [h.any k]
  split
  · exact h.over hv hi
  · exact h.append ⟨rfl, hv, hi, trivial⟩
theorem TabR.drop {k : List Sx} : ∀ {ps : List (KeyT × V)} {ts : Tab}, TabR K H ps ts → TabR K H (dropK ps (keyT k)) (dropT ts k)
  | [], [], _ => trivial
  | p :: ps, t :: ts, ⟨h1, h2, h3, h4⟩ => by
    unfold dropK dropT
    by_cases e : t.1 = k
    · rw [List.filter_cons_of_neg (by simp [h1, e]), List.filter_cons_of_neg (by simp [e])]
      exact TabR.drop h4
    · have e' : ¬ p.1 = keyT k := fun z => e (keyT_inj (h1.symm.trans z))
      rw [List.filter_cons_of_pos (by simp [e']), List.filter_cons_of_pos (by simp [e])]
      exact ⟨h1, h2, h3, TabR.drop h4⟩
  | [], _ :: _, h => h.elim
  | _ :: _, [], h => h.elim
end
def DTab (K : PySem.W.Frag) (H : Hp) (a : Addr) (t : Tab) : Prop := ∃ kvs, H a = some (.dT kvs) ∧ TabR K H kvs t
theorem DTab.ex {K : PySem.W.Frag} {H H' : Hp} {a : Addr} {t : Tab} (h : DTab K H a t) (e : Ex H H') : DTab K H' a t := let ⟨kvs, h1, h2⟩ := h; ⟨kvs, e _ _ h1, h2.tk (Tk.of e)⟩
/-- a new dict -/
def EvDT (K : PySem.W.Frag) (te : TE) (σ : L2.St) (H : Hp) (t : Tab) : Prop := ∀ H1, Ex H H1 → ∀ Q : VK, (∀ p H2, H1 p = none → Ex H1 H2 → DTab K H2 p t → Q (.ref p) H2) → te σ H1 Q
section
variable {K : PySem.W.Frag} {σ : L2.St} {H : Hp} {td ty te tk tv : TE} {tt : TT} {a : Addr} {t : Tab} {k : List Sx} {j i : Nat} {wi : TI} {tz : TS} {D : Ends}
theorem keySq {v : V} (h : Dp K H v (setD k)) : ∃ b, v = .ref b ∧ SqT K H b ((keyT k).map kV) := by
  obtain ⟨b, vs, rfl, hs, hv⟩ := h.tupV
  rw [keyT_kV, ← hv.strsV]
  exact ⟨b, rfl, hs⟩
theorem d_inT (hk : Evd K ty σ H (setD k)) (hd : Ev td σ H (.ref a)) (ha : DTab K H a t) : Evd K (tDInS K ty td) σ H (.bool (getT t k).isSome) := fun H1 e Q q =>
  hk H1 e _ fun v H2 e2 r2 => hd H2 (e.trans e2) _ fun H3 e3 => by
    obtain ⟨kvs, h1, h2⟩ := ha.ex ((e.trans e2).trans e3)
    obtain ⟨b, rfl, hs⟩ := keySq (r2.ex e3)
    refine ⟨a, _, rfl, ⟨kvs, keyT k, b, .inl h1, rfl, hs, rfl⟩, ?_⟩
    have : (valV kvs (keyT k)).isSome = (getT t k).isSome := by
      rcases h2.get k with ⟨g1, g2⟩ | ⟨v, d, g1, g2, _⟩ <;> rw [g1, g2] <;> rfl
    rw [this]
    exact q _ H3 (e2.trans e3) (.bl _)
theorem d_ninT (hk : Evd K ty σ H (setD k)) (hd : Ev td σ H (.ref a)) (ha : DTab K H a t) : Evd K (tDNotInS K ty td) σ H (.bool (!(getT t k).isSome)) := fun H1 e Q q =>
  hk H1 e _ fun v H2 e2 r2 => hd H2 (e.trans e2) _ fun H3 e3 => by
    obtain ⟨kvs, h1, h2⟩ := ha.ex ((e.trans e2).trans e3)
    obtain ⟨b, rfl, hs⟩ := keySq (r2.ex e3)
    refine ⟨a, _, rfl, ⟨kvs, keyT k, b, .inl h1, rfl, hs, rfl⟩, ?_⟩
    have : (valV kvs (keyT k)).isSome = (getT t k).isSome := by
      rcases h2.get k with ⟨g1, g2⟩ | ⟨v, d, g1, g2, _⟩ <;> rw [g1, g2] <;> rfl
    rw [this]
    exact q _ H3 (e2.trans e3) (.bl _)
theorem d_atT {d : PD} (hd : Ev td σ H (.ref a)) (hk : Evd K ty σ H (setD k)) (ha : DTab K H a t) (hg : getT t k = some d) : Evd K (tDGetS K td ty) σ H d := fun H1 e Q q =>
  hd H1 e _ fun H2 e2 => hk H2 (e.trans e2) _ fun v H3 e3 r3 => by
    obtain ⟨kvs, h1, h2⟩ := ha.ex ((e.trans e2).trans e3)
    obtain ⟨b, rfl, hs⟩ := keySq r3
    rcases h2.get k with ⟨g1, g2⟩ | ⟨v', d', g1, g2, g3, _⟩
    · rw [hg] at g2; cases g2
    · rw [hg] at g2
      cases g2
      exact ⟨a, v', rfl, ⟨kvs, keyT k, b, .inl h1, rfl, hs, g1.symm⟩, q v' H3 (e2.trans e3) g3⟩
/-- {key: val for j in wi if tt} -/
theorem k_dcT {α : Type} {Ri : Rl α} {xs : List α} {p : α → Bool} {key : α → List Sx} {val : α → PD} {vs : List Nat} (hs : SrcR Ri wi σ H xs) (hw : ∀ v, wipe ((wipe σ vs).set j (some v)) vs = wipe σ vs) (hz : xs.length ≤ 40000) (hI : ∀ x ∈ xs, Imm (val x) = true)
    (hel : ∀ x ∈ xs, ∀ v H1, Ex H H1 → Ri.r H1 v x → EvT tt ((wipe σ vs).set j (some v)) H1 (p x) ∧ (p x = true → EvR Tr tk ((wipe σ vs).set j (some v)) H1 (key x) ∧ ∀ H2, Ex H1 H2 → Evd K tv ((wipe σ vs).set j (some v)) H2 (val x))) :
    EvDT K (tDcT wi (gName j) tt tk tv vs) σ H ((xs.filter p).foldl (fun acc x => putT acc (key x) (val x)) []) := fun H1 a1 Q q =>
  hs H1 a1 _ fun J H2 q2 W D hD => by
    refine walk_by W (body := fun Nx x H' => gName j x (wipe σ vs) H' fun σ2 H2 => wipe σ2 vs = wipe σ vs ∧ tt σ2 H2 fun b H3 =>
      if b = true then tk σ2 H3 fun y H4 => tv σ2 H4 fun z H5 => ∃ kvs k b, y = .ref b ∧ H5 b = some (.tup (k.map kV)) ∧ H5 D = some (.dT kvs) ∧ kvs.length < sizeLine ∧ Nx (upd H5 D (.dT (putK kvs k z))) else Nx H3)
      (fun i H' => Ex H2 H' ∧ ∃ kvs, H' D = some (.dT kvs) ∧ kvs.length ≤ i ∧ TabR K H' kvs (((xs.take i).filter p).foldl (fun acc x => putT acc (key x) (val x)) [])) ⟨Ex.new hD, [], upd_same, Nat.le_refl _, trivial⟩ (fun i H' _ P => P.1) (fun i x H3 H4 hi P Y => ?_) fun H3 P => ?_
    · obtain ⟨ex, kvs, hk, hl, hT⟩ := P
      obtain ⟨rfl, xi, hxi, rd⟩ := Y
      have hmem : xi ∈ xs := List.mem_of_getElem? hxi
      have htk : xs.take (i + 1) = xs.take i ++ [xi] := by rw [List.take_succ, hxi] <;> rfl
      refine ⟨hw x, ?_⟩
      obtain ⟨h1, h2⟩ := hel xi hmem x _ ((a1.trans q2).trans ex) rd
      refine h1 _ (Ex.refl _) _ fun H5 q5 => ?_
      cases hp : p xi with
      | true =>
        obtain ⟨hkk, hvv⟩ := h2 hp
        refine hkk H5 q5 _ fun y H6 q6 r6 => hvv H6 (q5.trans q6) H6 (Ex.refl _) _ fun z H7 q7 r7 => ?_
        obtain ⟨b, rfl, hb⟩ := id r6
        have e57 := (q5.trans q6).trans q7
        have hk7 := e57 _ _ hk
        have tk7 : Tk H7 (upd H7 D (.dT (putK kvs (keyT (key xi)) z))) := Tk.ob hk7 (fun _ z => nomatch z) fun _ _ z => nomatch z
        refine ⟨kvs, keyT (key xi), b, rfl, by rw [keyT_kV]; exact q7 _ _ hb, hk7, sz_lt (by omega), (ex.trans e57).mut hD, _, upd_same, ?_, ?_⟩
        · have := length_putK kvs (keyT (key xi)) z
          omega
        · rw [htk, List.filter_append, List.foldl_append]
          have e1 : [xi].filter p = [xi] := by simp [hp]
          rw [e1]
          exact ((hT.tk (Tk.of e57)).put r7 (hI xi hmem)).tk tk7
      | false =>
        refine ⟨ex.trans q5, kvs, q5 _ _ hk, by omega, ?_⟩
        rw [htk, List.filter_append, List.foldl_append]
        have e1 : [xi].filter p = [] := by simp [hp]
        rw [e1]
        exact hT.tk (Tk.of q5)
    · obtain ⟨ex, kvs, hk, hl, hT⟩ := P
      rw [List.take_of_length_le (Nat.le_refl _)] at hT
      exact q D H3 (fresh_back q2 hD) (q2.trans ex) ⟨kvs, hk, hT⟩
theorem q_asgT (h : EvDT K te σ H t) (k : ∀ p H1, H p = none → Ex H H1 → DTab K H1 p t → tz D (σ.set i (some (.ref p))) H1) : tSeq (tAsg te (gName i)) tz D σ H := h H (Ex.refl _) _ fun p H1 hp e h1 => k p H1 hp e h1
end
/-! tables with all keys -/
theorem getT_cons (p : List Sx × PD) (r : Tab) (k : List Sx) : getT (p :: r) k = if p.1 = k then some p.2 else getT r k := by
  unfold getT
  rw [List.find?_cons]
  by_cases h : p.1 = k <;> simp [h]
theorem getT_any (k : List Sx) : ∀ l : Tab, (l.any fun p => decide (p.1 = k)) = (getT l k).isSome
  | [] => rfl
  | p :: r => by
    rw [List.any_cons, getT_cons, getT_any k r]
    by_cases e : p.1 = k <;> simp [e]
theorem getT_over (k : List Sx) (a : PD) (k' : List Sx) : ∀ l : Tab, getT (l.map fun p => if p.1 = k then (p.1, a) else p) k' = if k' = k then (getT l k').map fun _ => a else getT l k'
  | [] => by
    show none = _
    split <;> rfl
  | p :: r => by
    rw [List.map_cons, getT_cons, getT_cons, getT_over k a k' r]
    by_cases e : p.1 = k
    · rw [if_pos e]
      by_cases e' : k' = k
      · subst e'
        simp [e]
      · have : ¬ k = k' := fun z => e' z.symm
        simp [e, e', this]
    · rw [if_neg e]
      by_cases e' : k' = k
      · subst e'
        simp [e]
      · simp [e']
theorem getT_snoc (k : List Sx) (a : PD) (k' : List Sx) : ∀ l : Tab, getT (l ++ [(k, a)]) k' = if (getT l k').isSome = true then getT l k' else (if k = k' then some a else none)
  | [] => by
    rw [List.nil_append, getT_cons]
    rfl
  | p :: r => by
    rw [List.cons_append, getT_cons, getT_cons, getT_snoc k a k' r]
    by_cases e : p.1 = k' <;> simp [e]
theorem getT_putT (l : Tab) (k : List Sx) (a : PD) (k' : List Sx) : getT (putT l k a) k' = if k' = k then some a else getT l k' := by
  unfold putT
  rw [getT_any]
  cases hg : getT l k with
  | some b =>
    show getT (l.map fun p => if p.1 = k then (p.1, a) else p) k' = _
    rw [getT_over]
    by_cases e : k' = k
    · subst e
      rw [if_pos rfl, if_pos rfl, hg]
      rfl
    · rw [if_neg e, if_neg e]
  | none =>
    show getT (l ++ [(k, a)]) k' = _
    rw [getT_snoc]
    by_cases e : k' = k
    · subst e
      rw [hg]
      simp
    · have : ¬ k = k' := fun z => e z.symm
      rw [if_neg e, if_neg this]
      cases getT l k' <;> rfl
def pairD (p : List Sx × Sx) : PD := .tuple [setD p.1, .str p.2]
theorem imm_set (s : List Sx) : Imm (setD s) = true := imm_strs s
theorem imm_pair (p : List Sx × Sx) : Imm (pairD p) = true := by
  show (Imm (setD p.1) && (Imm (.str p.2) && true)) = true
  rw [imm_set]
  rfl
def harmsOf (G : List (List Sx)) : List (List Sx × Sx) := (G.flatMap fun s => (cares9.filter fun c => !decide (c ∈ s)).map fun c => (s, c)).filter fun p => !decide (inOrder (p.1 ++ [p.2]) ∈ G)
def sp_harms (K : PySem.W.Frag) : Sp := spP K fun H as r => ∃ x s e ds, as = [.val (.ref x), .dat e] ∧ SchAt K H x s ∧ seqD e ds ∧ DsOk s ds ∧ r = .list ((harmsOf (goodOf s ds)).map pairD)
theorem held_isSome (k : List Sx) : ∀ (G : List (List Sx)) (acc : Tab), (getT (G.foldl (fun acc x => putT acc x (.bool true)) acc) k).isSome = (decide (k ∈ G) || (getT acc k).isSome)
  | [], acc => by simp
  | g :: r, acc => by
    rw [List.foldl_cons, held_isSome k r, getT_putT]
    by_cases e : k = g
    · subst e
      simp
    · simp [e]
section
variable {P : Program} {w : World} {K : PySem.W.Frag} {mg : PySem.Str → Option Value} {base : Heap}
abbrev nm_harms : List PySem.Str := ["scheme", "deeds", "good", "held", "pairs", "some", "care"]
theorem sc_harms : FnScope nm_harms ["scheme", "deeds"] (defScope s_harms) := ⟨rfl, rfl, rfl, by decide +kernel, rfl, by decide +kernel, by decide +kernel⟩
theorem ok_harms (T : Tx K mg) : FR P w K mg base 9 "harms" (sp_harms K) := by
  refine fr_of (k := 8) (N := nm_harms) (ps := ["scheme", "deeds"]) (gl_harms T) (T.c.d.def_ 46 (d := d_harms)) sc_harms (fun _ _ _ _ _ _ us hl => match us, hl with | [_, _], _ => rfl) (fun vs H Q E h => ?_) (fun cdv A outer s H vs Q E hr h => ?_)
  · obtain ⟨as, r, hA, ⟨x, sc, e, ds, rfl, hs, hq, hd, rfl⟩, k⟩ := h
    exact hA.length
  · obtain ⟨as, r, hA, ⟨x, sc, e, ds, rfl, hs, hq, hd, rfl⟩, k⟩ := h
    obtain ⟨v0, _, rfl, rfl, v1, _, rfl, r1, rfl⟩ := hA
    refine ⟨_, (pss_cons (ps_set (i := 2) sc_harms.nd rfl (Or.inl rfl) (pe_cR (ok_good_sets T) hr (by rfl) (pa_cons (pv 0) (pa_cons (pv 1) pa_nil))))
      (pss_cons (ps_set (i := 3) sc_harms.nd rfl (Or.inr rfl) (pe_dcT (own := [("some", 5)]) rfl (hu_of hr) sc_harms.nd (pi_listK (K := K) rfl (pv 2)) (blkOk_by (own := [("some", 5)]) (N := nm_harms) (sc := defScope s_harms) (by decide +kernel)) (fun _ _ _ _ _ => (pg_name (i := 5) sc_harms.nd rfl (Or.inl rfl))) (fun _ _ _ _ _ => pts_nil) (fun _ _ _ _ _ => (pv 5)) (fun _ _ _ _ _ => pe_bl)))
      (pss_cons (ps_setLc2 (i := 4) (own := [("some", 5), ("care", 6)]) (vs1 := [6]) rfl sc_harms.nd rfl rfl (sw_true rfl rfl rfl (by decide +kernel)) (pi_listK (K := K) rfl (pv 2)) (blkOk_by (own := [("some", 5), ("care", 6)]) (N := nm_harms) (sc := defScope s_harms) (by decide +kernel)) (by decide) (fun _ _ _ _ _ => (pg_name (i := 5) sc_harms.nd rfl (Or.inl rfl))) (fun _ _ _ _ _ => pts_nil) (fun _ _ _ _ _ => (pi_tupK (K := K) rfl (pe_gref (gl_ALL_CARES T) rfl))) (fun _ _ _ _ _ => (pg_name (i := 6) sc_harms.nd rfl (Or.inl rfl))) (fun _ _ _ _ _ => (pts_one (pt_cmpR (op_ninK (K := K) rfl) (pv 6) (pv 5) (by rfl)))) (fun _ _ _ _ _ => (pe_tup (pa_cons (pv 5) (pa_cons (pv 6) pa_nil)))))
      (pss_one (ps_ret (pe_lc (own := [("some", 5), ("care", 6)]) rfl sc_harms.nd (pi_listK (K := K) rfl (pv 4)) (blkOk_by (own := [("some", 5), ("care", 6)]) (N := nm_harms) (sc := defScope s_harms) (by decide +kernel)) (fun _ _ _ _ _ => (pg_tupK (K := K) (n := 2) rfl rfl (pgs_cons (pg_name (i := 5) sc_harms.nd rfl (Or.inl rfl)) (pgs_cons (pg_name (i := 6) sc_harms.nd rfl (Or.inl rfl)) pgs_nil)))) (fun _ _ _ _ _ => (pts_one (pt_cmp (pc_dnotinS (K := K) rfl (hu_of hr) (pe_cR (ok_in_order T) hr (by rfl) (pa_cons (pe_tup (pa_starK (K := K) rfl (pv 5) (pa_cons (pv 6) pa_nil))) pa_nil)) (pv 3))))) (fun _ _ _ _ _ => (pe_tup (pa_cons (pv 5) (pa_cons (pv 6) pa_nil)))))))))), ?_⟩
    have hl := good_len sc ds
    refine q_asgR (n_callN (a_consV (ev_var rfl) (a_cons (d_var rfl r1) a_nil)) fun H1 e1 => ⟨x, sc, e, ds, rfl, hs.ex e1, hq, hd, rfl⟩) fun pg vg H1 ng e1 hg rg => ?_
    refine q_asgT (k_dcT (K := K) (Ri := Tr) (xs := goodOf sc ds) (p := fun _ => true) (key := fun s => s) (val := fun _ => .bool true) (srcR_list (K := K) (ev_var rfl) hg rg) (fun _ => rfl) (by omega) (fun _ _ => rfl) fun s hs v H2 e2 r => ⟨t_yes, fun _ => ⟨r_var rfl r, fun H3 e3 => d_bl⟩⟩) fun ph H2 nh e2 hT => ?_
    rw [List.filter_eq_self.mpr (fun _ _ => rfl)] at hT
    have hb : ∀ L : List (List Sx), (L.flatMap fun s => (cares9.filter fun c => !decide (c ∈ s)).map fun c => (s, c)).length ≤ 9 * L.length := by
      intro L
      induction L with
      | nil => exact Nat.le_refl _
      | cons s r ih =>
        rw [List.flatMap_cons, List.length_append, List.length_map, List.length_cons]
        exact Nat.le_trans (Nat.add_le_add (List.length_filter_le _ _) ih) (by show 9 + 9 * r.length ≤ 9 * (r.length + 1); omega)
    refine q_asgR (n_lc2R (K := K) (Ri := Tr) (Ro := Dr K pairD imm_pair) (xs := goodOf sc ds) (ys := fun _ => cares9) (p := fun s c => !decide (c ∈ s)) (f := fun s c => (s, c)) (srcR_list (ev_var rfl) (e2 _ _ hg) (rg.ex e2)) (fun _ => rfl) (fun _ _ => rfl) (fun n => ?_) (fun _ _ => by decide) (fun s hs v H3 e3 r => src_tupT (d_ALL T) (immAll_map _ fun _ _ => rfl)) fun s hs y hy v H3 e3 r => ⟨t_test (d_ninS (d_var rfl (.str _)) (d_var rfl (tr_dp r)) (.inr rfl)), fun _ => r_of (enc := pairD) (d_tup (e_cons (d_var rfl (tr_dp r)) (e_cons (d_var rfl (.str _)) e_nil)))⟩) fun pp vp H3 np e3 hp rp => ?_
    · refine Nat.le_trans (hb ((goodOf sc ds).take n)) ?_
      rw [List.length_take]
      omega
    · have dp : Dp K H3 (.ref pp) (.list (((goodOf sc ds).flatMap fun s => (cares9.filter fun c => !decide (c ∈ s)).map fun c => (s, c)).map pairD)) := .lst (sq_of hp) (rp.dp fun _ _ h => h)
      have hlb := hb (goodOf sc ds)
      refine s_retD (Evn.evd (n_lcP (xs := (goodOf sc ds).flatMap fun s => (cares9.filter fun c => !decide (c ∈ s)).map fun c => (s, c)) (e1 := fun p => setD p.1) (e2 := fun p => .str p.2) (p := fun p => !decide (inOrder (p.1 ++ [p.2]) ∈ goodOf sc ds)) (f := pairD) (src_list (d_var rfl dp)) (fun _ _ => rfl) (fun p _ => imm_pair p) (by omega) fun p hp' v1 v2 H4 e4 q1 q2 => ⟨evt_to (t_test (d_ninT (k := inOrder (p.1 ++ [p.2])) (d_call (a_cons (d_tup (e_star (d_var rfl q1) (.inr rfl) (e_cons (d_var rfl q2) e_nil)) ?_) a_nil) fun H5 e5 => ⟨_, p.1 ++ [p.2], rfl, .inr (by simp), rfl⟩) (ev_var rfl) ((hT.ex e3).ex e4))) (by rw [held_isSome]; simp [getT]), fun _ => d_tup (e_cons (d_var rfl q1) (e_cons (d_var rfl q2) e_nil))⟩)) fun v H4 e4 r => k v H4 ((e1.trans e2).trans (e3.trans e4)) r
      obtain ⟨s, hs', hp''⟩ := List.mem_flatMap.mp hp'
      obtain ⟨c, _, rfl⟩ := List.mem_map.mp hp''
      have := cares_len (good_mem hs')
      simp
      omega
end
end Sc


/-! ScD3: items() of a dict whose keys are tuples, walked. -/
namespace L2
open PySem PySem.Spec PyProof.Rows
def ItiT (d : Addr) (o : Obj) (kvs : List (List Key × V)) : It :=
  ⟨fun i H => H d = some (.frz o (.dT kvs)) ∧ i < kvs.length, fun i H x H' => ∃ T q k v, kvs[i]? = some (k, v) ∧ x = .ref T ∧ H T = none ∧ H q = some (.tup (k.map kV)) ∧ H' = upd H T (.tup [.ref q, v]), fun i H => H d = some (.frz o (.dT kvs)) ∧ kvs.length ≤ i⟩
theorem Inv.frzTV {X : Cx} {pins : List (Addr × Obj)} {σ : St} {H : Hp} {s : Shared} {d : Addr} {o : Obj} {kvs : List (List Key × V)} (I : Inv X pins σ H s) (h : H d = some (.frz o (.dT kvs))) :
    (d == sysModules) = false ∧ s.heap.get? d = some o ∧ o.ExactDict ∧ ∃ (es : Array DictEntry) (ep : Nat), o.data = .dict es ep ∧ es.size = kvs.length ∧
      ∀ (i : Nat) (k : List Key) (v : V), kvs[i]? = some (k, v) → ∃ (en : DictEntry) (q : Addr), es[i]? = some en ∧ en.key = .ref q ∧ H q = some (.tup (k.map kV)) ∧ RelV v en.val := by
  obtain ⟨hd, z, hs, xs, pr, o', es, ep, ho, hx, hdt, he, _⟩ := I.hok d _ h
  rw [hd] at ho
  cases ho
  refine ⟨hs, hd, hx, es, ep, hdt, ?_, fun i k v e => ?_⟩
  · have l1 : es.size = xs.length := size_of_entries he
    have l2 : kvs.length = xs.length := Paired.length pr
    omega
  · obtain ⟨b, hb, e1, e2, e3⟩ := LiI.paired_get pr e
    have q := entry_at he i
    rw [hb] at q
    exact ⟨_, b.2.1, q, rfl, e2, e3⟩
section
variable {P : Program} {w : World} {K : PySem.W.Frag} {d : Addr} {o : Obj} {es : Array DictEntry} {ep : Nat}
theorem turn_itemsT {kvs : List (List Key × V)} {elts : List Expr} {kk : Nat} {tpos : Pos} (it : Addr) (hod : o.data = .dict es ep) (hx : o.ExactDict) :
    Turn P w K (.Tuple elts kk tpos) (ItiT d o kvs) [it] it (fun i h => ∃ ok ov, IsItemIter h it d i kvs.length ep ok ov) where
  mem := by simp
  obj := fun i h st b hb => by
    have e : b = it := by simpa using hb
    subst e
    obtain ⟨ok, ov, e⟩ := st
    exact ⟨_, e, fun v z => nomatch z⟩
  keep := fun i h h' st k => let ⟨ok, ov, e⟩ := st; ⟨ok, ov, k it (by simp) _ e⟩
  item := by
    intro X hP hw hK hc i pins s σ H E I hf st hg
    subst hP hw hK
    obtain ⟨hd, hi⟩ := hg
    obtain ⟨hs, hgd, _, es', ep', hdt, hsz, ent⟩ := I.frzTV hd
    obtain ⟨rfl, rfl⟩ := dict_ep hod hdt
    obtain ⟨⟨k, v⟩, hkv⟩ : ∃ p, kvs[i]? = some p := ⟨kvs[i], List.getElem?_eq_getElem hi⟩
    obtain ⟨en, q, hen, hkey, hq, ru⟩ := ent i k v hkv
    obtain ⟨ok, ov, he⟩ := st
    rw [← hsz] at he
    have hlt : it < s.heap.objs.size := Heap.lt_size he
    have hie : i < es'.size := by rw [hsz]; exact hi
    have hee : es'[i] = en := by
      have := Array.getElem?_eq_getElem hie
      rw [hen] at this
      exact (Option.some.inj this).symm
    refine DT.nextI (es := es') (ep := ep') he ⟨o, hgd, hx, hdt⟩ hie fun h' ho hT hz hk => ?_
    rw [hee] at ho hT
    refine ⟨_, rfl, wpAny_letOwnedTupleGo_items (s := { s with heap := h' }) ho fun h'' he' sb => ?_⟩
    have hT2 : h''.get? s.heap.objs.size = some { cls := .type "tuple", data := .seq #[en.key, en.val] } := (sb.2 _ (Nat.ne_of_gt hlt)).trans hT
    have new : ObjOk X.prog X.w (upd H s.heap.objs.size (.tup [.ref q, v])) h'' s.heap.objs.size (.tup [.ref q, v]) :=
      ⟨by show 2 ≤ sizeLine; decide, [en.key, en.val], .cons (by rw [hkey]; exact rfl) (.cons ru .nil), ⟨_, hT2, rfl, _, rfl⟩⟩
    have I1 : Inv X pins σ (upd H s.heap.objs.size (.tup [.ref q, v])) { s with heap := h'' } :=
      I.turnedNew (t' := s.toks) (ch := [it]) (fun b ob hb e => (sb.2 b (by simpa using hb)).trans (hk b ob (by simpa using hb) e)) hf (Nat.le_refl _) new
    refine ⟨.ref s.heap.objs.size, _, I1, rfl, ⟨_, q, k, v, hkv, rfl, I.hok.fresh (Nat.le_refl _), hq, rfl⟩, ⟨en.key, en.val, ?_⟩, fun b hb => ?_⟩
    · rw [← hsz]; exact he'
    · have e : b = it := by simpa using hb
      rw [e, upd_ne (Nat.ne_of_lt hlt)]
      exact (hf it (by simp)).1
  done := by
    intro X hP hw hK hc i pins s σ H E I hf st hg
    subst hP hw hK
    obtain ⟨hd, hi⟩ := hg
    obtain ⟨f0, f1, f2, f3, f4, f5⟩ := hf it (by simp)
    obtain ⟨hs, hgd, _, es', ep', hdt, hsz, ent⟩ := I.frzTV hd
    obtain ⟨rfl, rfl⟩ := dict_ep hod hdt
    obtain ⟨ok, ov, he⟩ := st
    rw [← hsz] at he
    exact DT.endI (es := es') (ep := ep') (I.ok.hd hc) he ⟨o, hgd, hx, hdt⟩ (by rw [hsz]; exact hi) fun h' eb => ⟨rfl, I.turned (t' := s.toks) (fun b ob hb e => eb b ob hb e) f0 f1 f3 f4 f5⟩
  self := fun A i s Q E st h => let ⟨_, _, e⟩ := st; PySem.W.kcp_self e h
end
def iItemsT (td : TE) : TI := fun σ H R => td σ H fun x H1 => ∃ d o kvs, x = .ref d ∧ H1 d = some (.frz o (.dT kvs)) ∧ R (ItiT d o kvs) H1
section
variable {X : Cx} {tg e : Expr} {td : TE} {apos cpos : Pos}
theorem pi_itemsT {elts : List Expr} {kk : Nat} {tpos : Pos} (he : PE X e td) (hbase : attributeBase e "items" X.env (eval e X.env) = eval e X.env := by rfl) (hline : (apos.endLine == cpos.line) = true := by rfl) :
    PI X (.Tuple elts kk tpos) (.Call (.Attribute e "items" apos) [] [] cpos) (iItemsT td) := by
  refine ⟨fun pins s σ H R I h => ?_⟩
  refine wpAny_Call_method (T := "dict") (id := "dict.items") hbase rfl hline F.plainAttrs_dict F.slot_dict_items F.type_dict_items (thn (he.run pins s σ H _ I h) fun u s1 ⟨x, H1, I1, rx, d, o, kvs, ex, hd, q⟩ => ?_)
  subst ex
  obtain rfl : u = Value.ref d := rx
  obtain ⟨hs, hgd, hx, es, ep, hdt, hsz, _⟩ := I1.frzTV hd
  have hm : DT.Raw s1.heap d es ep := ⟨o, hgd, hx, hdt⟩
  refine ⟨hm.typeIs, fun b e => ?_, ?_⟩
  · cases e
    exact ⟨o, hgd, hx.2.1⟩
  · have I2 : Inv X pins σ H1 { s1 with heap := s1.heap.push { cls := .type "dict_items", data := .fields #[.ref d] } } := I1.kept (t' := s1.toks) fun b ob q => Heap.get?_push_of_some _ q
    have fin : wpAny (model X.prog X.w) X.A (pyIter (.ref s1.heap.objs.size)) (PIE X pins σ (.Tuple elts kk tpos) R) X.xe { s1 with heap := s1.heap.push { cls := .type "dict_items", data := .fields #[.ref d] } } := by
      refine DT.iterI (es := es) (ep := ep) (d := d) ⟨_, Heap.get?_push_size _ rfl, rfl, rfl⟩ (hm.push _) (pi_one (tk := s1.toks) I2 _ (turn_itemsT _ hdt hx) ⟨.none, .none, ?_⟩ q)
      rw [← hsz]
      exact Heap.get?_push_size _ rfl
    show wpAny _ _ (callWith cpos (.builtin "dict.items") [.ref d] [] []) _ X.xe s1
    exact method_meetsIn F.slot_dict_items F.entry_dict_items rfl (PySem.evalArgs_none ⟨rfl, hm.typeIs, F.args_dict_items_1 _, _, DT.meetsItems (es := es) (ep := ep) hs, ⟨hm, fin⟩⟩)
end
end L2

/-! ScD4: list(d.items()), dict(pairs), d.pop(k), d == {} where keys are tuples. -/
namespace L2
open PySem PySem.Spec PyProof.Rows
/-! ### list(d.items()) -/
def rItemsLT : V → Hp → VK → Prop := fun x H Q => ∃ (d : Addr) (kvs : List (List Key × V)), x = .ref d ∧ H d = some (.dT kvs) ∧
  ∀ (H' : Hp) (p : Addr) (ts : List Addr), (∀ b o, H b = some o → H' b = some o) → H p = none → H' p = some (.lst (ts.map V.ref)) → ts.length = kvs.length →
    (∀ (j : Nat) (k : List Key) (v : V), kvs[j]? = some (k, v) → ∃ t q, ts[j]? = some t ∧ H' t = some (.tup [.ref q, v]) ∧ H q = some (.tup (k.map kV))) → Q (.ref p) H'
def tListItemsT (te : TE) : TE := fun σ H Q => te σ H fun x H1 => rItemsLT x H1 Q
section
variable {X : Cx} {e : Expr} {te : TE} {p apos cpos pos : Pos}
theorem pe_listItemsT (hc : X.calm = true) (he : PE X e te) (hg : Gl X "list") (hm : X.mg "list" = none) (hv : bootBuiltins "list" = some (.type "list")) (hbase : attributeBase e "items" X.env (eval e X.env) = eval e X.env := by rfl) (hline : (apos.endLine == cpos.line) = true := by rfl)
    (hs : starEach [.Call (.Attribute e "items" apos) [] [] cpos] X.env = (false, eval (.Call (.Attribute e "items" apos) [] [] cpos) X.env) :: starEach [] X.env := by rfl) :
    PE X (.Call (.Name "list" p) [.Call (.Attribute e "items" apos) [] [] cpos] [] pos) (tListItemsT te) := by
  refine ⟨fun pins s σ H Q I hq => ?_⟩
  refine wpAny_Call_Name_kw (ld_blt I hg hm hv ?_)
  refine PyProof.Rows.callWith_type1 ?_ hs rfl
  rw [hs]
  show wpAny _ _ (spliced ((false, eval (.Call (.Attribute e "items" apos) [] [] cpos) X.env) :: backTo pos (starEach [] X.env))) _ _ s
  refine Calls.spliced_cons ?_
  refine wpAny_Call_method (T := "dict") (id := "dict.items") hbase rfl hline F.plainAttrs_dict F.slot_dict_items F.type_dict_items (thn (he.run pins s σ H _ I hq) fun u s1 ⟨x, H1, I1, rx, d, kvs, ex, hd, q⟩ => ?_)
  subst ex
  obtain rfl : u = Value.ref d := rx
  obtain ⟨hz, hs0, xs, rel, o, es, ep, ho, hx, hdt, hes, hnd⟩ := I1.hok d _ hd
  have hm' : DT.Raw s1.heap d es ep := ⟨o, ho, hx, hdt⟩
  have l1 : es.size = xs.length := size_of_entries hes
  have l2 : kvs.length = xs.length := Paired.length rel
  have I2 : Inv X pins σ H1 { s1 with heap := s1.heap.push { cls := .type "dict_items", data := .fields #[.ref d] } } := I1.kept (t' := s1.toks) fun b ob q => Heap.get?_push_of_some _ q
  refine ⟨hm'.typeIs, fun b e => by cases e; exact ⟨o, ho, hx.2.1⟩, ?_⟩
  show wpAny _ _ (callWith cpos (.builtin "dict.items") [.ref d] [] []) _ X.xe s1
  refine method_meetsIn F.slot_dict_items F.entry_dict_items rfl (PySem.evalArgs_none ⟨rfl, hm'.typeIs, F.args_dict_items_1 _, _, DT.meetsItems (es := es) (ep := ep) hs0, ⟨hm', ?_⟩⟩)
  refine Calls.spliced_nil ?_
  have hraw : (s1.heap.push { cls := .type "dict_items", data := .fields #[.ref d] }).DictRaw d es ep := ⟨o, Heap.get?_push_of_some _ ho, hx, hdt⟩
  refine PySem.W.dil_call (es := es) (ep := ep) (I1.ok.hd hc) ⟨_, Heap.get?_push_size _ rfl, rfl, rfl⟩ hraw (by omega) fun h' tk acc c as hk hS hl hG hacc => ?_
  have hSf : H1 (s1.heap.push { cls := .type "dict_items", data := .fields #[.ref d] }).objs.size = none := I2.hok.fresh (Nat.le_refl _)
  have I3 : Inv X pins σ (upd H1 (s1.heap.push { cls := .type "dict_items", data := .fields #[.ref d] }).objs.size (.lst (as.map V.ref))) { s1 with heap := h', toks := tk } :=
    I2.laid (t' := tk) hk (Nat.le_refl _) ⟨by rw [List.length_map]; omega, acc.toList, c, by rw [hacc]; exact vals_refs as, by rw [Array.toArray_toList]; exact hS⟩
  have nd : as.Nodup := List.Pairwise.imp (fun {a b} (h : a < b) => Nat.ne_of_lt h) hG.rise
  obtain ⟨H2, I4, kp, at2⟩ := DX.takeT (P := fun a vs => ∀ (j : Nat), as[j]? = some a → ∃ (k : List Key) (v : V) (q : Addr), kvs[j]? = some (k, v) ∧ vs = [.ref q, v] ∧ H1 q = some (.tup (k.map kV))) I2 as _ I3 nd fun a ha => by
    have hab := hG.above a ha
    refine ⟨Nat.le_of_lt hab, by rw [upd_ne (Nat.ne_of_gt hab)]; exact I2.hok.fresh (Nat.le_of_lt hab), ?_⟩
    obtain ⟨j, hj⟩ := List.mem_iff_getElem?.mp ha
    obtain ⟨hje, hga⟩ := hG.pairs j a hj
    have hjk : j < kvs.length := by omega
    obtain ⟨⟨k, v⟩, hkv⟩ : ∃ p, kvs[j]? = some p := ⟨kvs[j], List.getElem?_eq_getElem hjk⟩
    obtain ⟨b, hb, e1, e2, e3⟩ := LiI.paired_get rel hkv
    have q := entry_at hes j
    rw [hb, Array.getElem?_eq_getElem hje] at q
    have qe : es[j] = entryOfKey (tupleKind (mixKind X.prog X.w)) b := Option.some.inj q
    rw [qe] at hga
    refine ⟨[.ref b.2.1, v], fun j' hj' => ?_, fun H2 => ⟨by show 2 ≤ sizeLine; decide, [.ref b.2.1, b.2.2], .cons rfl (.cons e3 .nil), ⟨_, hga, rfl, _, rfl⟩⟩⟩
    have hjj : j' = j := by
      obtain ⟨x1, x2⟩ := List.getElem?_eq_some_iff.mp hj
      obtain ⟨y1, y2⟩ := List.getElem?_eq_some_iff.mp hj'
      rw [← nd.idxOf_getElem j' y1, ← nd.idxOf_getElem j x1, x2, y2]
    subst hjj
    exact ⟨k, v, b.2.1, hkv, rfl, e2⟩
  refine ⟨.ref _, H2, I4, rfl, q H2 _ as (fun b o e => kp b o (by rw [upd_ne (ne_of_none e hSf)]; exact e)) hSf (kp _ _ upd_same) (by omega) fun j k v hkv => ?_⟩
  have hja : j < as.length := by
    have := (List.getElem?_eq_some_iff.mp hkv).1
    omega
  have hj : as[j]? = some as[j] := List.getElem?_eq_getElem hja
  obtain ⟨vs, hP, h2⟩ := at2 as[j] (List.mem_of_getElem? hj)
  obtain ⟨k', v', q', g1, g2, g3⟩ := hP j hj
  rw [hkv] at g1
  cases g1
  exact ⟨as[j], q', hj, by rw [g2] at h2; exact h2, g3⟩
end
/-! ### dict(l) of a list of pairs -/
def rDictT (K : PySem.W.Frag) : List V → Hp → VK → Prop := fun vs H Q => ∃ (a : Addr) (ts : List Addr) (ps : List (List Key × V)), vs = [.ref a] ∧ SqL K H a (ts.map V.ref) ∧ ts.length = ps.length ∧ ps.length ≤ 100000 ∧
  (∀ (j : Nat) (k : List Key) (v : V), ps[j]? = some (k, v) → ∃ t q, ts[j]? = some t ∧ SqT K H t [.ref q, v] ∧ H q = some (.tup (k.map kV))) ∧ ∀ D, H D = none → Q (.ref D) (upd H D (.dT (ps.foldl (fun acc p => putK acc p.1 p.2) [])))
theorem kt_fold {H : Hp} : ∀ {ps : List (List Key × V)} {qs : List (List Key × Addr × Value)} {kvs : List (List Key × V)} {xs : List (List Key × Addr × Value)}, KT H ps qs → KT H kvs xs → KT H (ps.foldl (fun acc p => putK acc p.1 p.2) kvs) (storedAllH xs qs)
  | [], [], _, _, .nil, h => h
  | p :: ps, q :: qs, kvs, xs, .cons h t, h' => by
    have h2 := h'.put p.1 (b := q.2.1) (y := p.2) (u := q.2.2) h.2.1 h.2.2
    rw [h.1] at h2
    show KT H (ps.foldl _ (putK kvs p.1 p.2)) (storedAllH (storedH xs q.1 q.2.1 q.2.2) qs)
    rw [h.1]
    exact kt_fold t h2
theorem fold_len : ∀ (ps kvs : List (List Key × V)), (ps.foldl (fun acc p => putK acc p.1 p.2) kvs).length ≤ kvs.length + ps.length
  | [], _ => Nat.le_refl _
  | p :: ps, kvs => by
    have h1 := fold_len ps (putK kvs p.1 p.2)
    have h2 := length_putK kvs p.1 p.2
    rw [List.foldl_cons, List.length_cons]
    omega
theorem vals_refs_inv : ∀ {ts : List Addr} {us : List Value}, Vals (ts.map V.ref) us → us = ts.map Value.ref
  | [], _, .nil => rfl
  | t :: ts, _, .cons h r => by
    rw [List.map_cons, ← vals_refs_inv r, show _ = Value.ref t from h]
section
variable {X : Cx}
theorem call_dictT (hcalm : X.calm = true) (hu : X.A.units + 2 < cLine) : CallR X (.type "dict") (rDictT X.K) := by
  intro pins s σ H xs us Q I r h
  obtain ⟨a, ts, ps, rfl, hs, hl, hz, hp, q⟩ := h
  obtain ⟨u, rfl, ru⟩ := vals1 r
  cases ru
  obtain ⟨its, rv, pl, hz2⟩ := I.list hs
  have hit := vals_refs_inv rv
  -- the entries by value
  have mk : ∀ (ps : List (List Key × V)) (ts : List Addr), ts.length = ps.length → (∀ (j : Nat) (k : List Key) (v : V), ps[j]? = some (k, v) → ∃ t q, ts[j]? = some t ∧ SqT X.K H t [.ref q, v] ∧ H q = some (.tup (k.map kV))) →
      ∃ qs : List (List Key × Addr × Value), KT H ps qs ∧ ∀ (j : Nat) (x : List Key × Addr × Value), qs[j]? = some x → ∃ t, ts[j]? = some t ∧ s.heap.IsTuple t #[.ref x.2.1, x.2.2] := by
    intro ps
    induction ps with
    | nil => exact fun ts _ _ => ⟨[], .nil, fun j x h => by simp at h⟩
    | cons p ps ih =>
      intro ts hl hp
      match ts, hl with
      | t :: ts, hl =>
        obtain ⟨t0, q0, h1, h2, h3⟩ := hp 0 p.1 p.2 rfl
        have : t0 = t := (Option.some.inj h1).symm
        subst this
        obtain ⟨its2, rv2, tp, _⟩ := I.tuple h2
        obtain ⟨u1, u2, rfl, r1, r2⟩ := vals2 rv2
        have e1 : u1 = Value.ref q0 := r1
        subst e1
        obtain ⟨qs, g1, g2⟩ := ih ts (Nat.succ.inj hl) fun j k v hj => by
          obtain ⟨t, q, a1, a2, a3⟩ := hp (j + 1) k v (by simpa using hj)
          exact ⟨t, q, by simpa using a1, a2, a3⟩
        refine ⟨(p.1, q0, u2) :: qs, .cons ⟨rfl, h3, r2⟩ g1, fun j x hj => ?_⟩
        cases j with
        | zero =>
          simp at hj
          subst hj
          exact ⟨t0, rfl, tp⟩
        | succ j =>
          obtain ⟨t', b1, b2⟩ := g2 j x (by simpa using hj)
          exact ⟨t', by simpa using b1, b2⟩
  obtain ⟨qs, kt, hq⟩ := mk ps ts hl hp
  have lq : ps.length = qs.length := Paired.length kt
  have hkeys : ∀ x ∈ qs, (tupleKind (mixKind X.prog X.w)).is s.heap x.1 x.2.1 := by
    intro x hx
    obtain ⟨j, hj⟩ := List.mem_iff_getElem?.mp hx
    have hjp : j < ps.length := by
      have := (List.getElem?_eq_some_iff.mp hj).1
      omega
    obtain ⟨b, hb, e1, e2, e3⟩ := LiI.paired_get kt (List.getElem?_eq_getElem hjp)
    rw [hj] at hb
    cases hb
    rw [e1] at e2
    exact key_of I.hok e2
  have hlo : (s.heap.objs.size == sysModules) = false := beq_eq_false_iff_ne.mpr (Nat.ne_of_gt I.big)
  have P := PairArg.list (prog := X.prog) (w := X.w) a its.toArray (fun j => ts.getD j 0) (qs.map fun x => (Value.ref x.2.1, x.2.2))
  refine call_dict_pairsH (knd := tupleKind (mixKind X.prog X.w)) (ps := qs) P (I.ok.hd hcalm) (show X.A.in1.in1.units < cLine from hu) ⟨?_, ?_⟩ ⟨by rw [List.length_map], fun i key v hr => ?_⟩ (fun h' hk x hx => ?_) ?_ fun h' tk dd hk => ?_
  · obtain ⟨o, n, e, hc2, hd2, hdt⟩ := pl
    exact ⟨o, n, e, hc2, hd2, hdt⟩
  · refine ⟨by rw [List.size_toArray, List.length_map, hit, List.length_map]; omega, fun j k v hj => ?_⟩
    rw [List.getElem?_map] at hj
    obtain ⟨x, hx, e⟩ := Option.map_eq_some_iff.mp hj
    cases e
    obtain ⟨t, ht, tp⟩ := hq j x hx
    refine ⟨?_, .inl ?_⟩
    · rw [hit]
      simp [ht]
    · simp only [List.getD_eq_getElem?_getD, ht, Option.getD_some]
      exact tp
  · have hr : (qs.map fun x => (Value.ref x.2.1, x.2.2))[i]? = some (key, v) := hr
    rw [List.getElem?_map] at hr
    obtain ⟨x, hx, e⟩ := Option.map_eq_some_iff.mp hr
    cases e
    exact ⟨x.1, x.2.1, hx, rfl⟩
  · have hkx := hkeys x hx
    obtain ⟨o, vs, n, h1, h2, h3, h4⟩ := hkx
    exact ⟨o, vs, n, hk _ _ (Nat.ne_of_lt (Heap.lt_size h1)) (by simp) h1, h2, h3, h4⟩
  · rw [List.length_map]
    exact Nat.le_trans (by omega) (show (100000 : Nat) ≤ sizeLine by rw [sizeLine_eq]; decide)
  · have hf : H s.heap.objs.size = none := I.hok.fresh (Nat.le_refl _)
    have ktf : KT H (ps.foldl (fun acc p => putK acc p.1 p.2) []) (storedAllH [] qs) := kt_fold kt .nil
    obtain ⟨o, es, ep, h1, h2, h3, h4, h5, h6⟩ := dd
    have hlen := fold_len ps []
    refine ⟨.ref s.heap.objs.size, _, I.laid (t' := tk) (fun b o e => hk b o (by simp) e) (Nat.le_refl _) (show ObjOk X.prog X.w (upd H s.heap.objs.size (.dT (ps.foldl (fun acc p => putK acc p.1 p.2) []))) h' s.heap.objs.size (.dT (ps.foldl (fun acc p => putK acc p.1 p.2) [])) from ⟨Nat.le_trans hlen (by show ([] : List (List Key × V)).length + ps.length ≤ _; rw [List.length_nil, sizeLine_eq]; omega), hlo, _, ktf.keeps fun b ys e => ?_, o, es, ep, h1, h2, h3, h4, h6⟩), rfl, q _ hf⟩
    rw [upd_ne (ne_of_none e hf)]
    exact e
/-! ### d.pop(k) -/
theorem meetsPop1 {prog : Program} {w : World} {κ : Type} [DecidableEq κ] {knd : HeapKind prog w κ} {d b : Addr} {k : κ} (hd : (d == sysModules) = false) :
    MeetsIn prog w (Builtin.«dict.pop» ⟨[.ref d, .ref b], []⟩) (fun A R s => ∃ xs p, knd.room A.in1 ∧ knd.is s.heap k b ∧ s.heap.DictOfH knd d xs ∧ xs.length ≤ sizeLine ∧ atKey xs k = some p ∧
      ∀ h' tk, h'.DictOfH knd d (DT.dropH xs k) → Heap.SameBut d s.heap h' → R (.ok (.ret p.2)) { s with heap := h', toks := tk }) :=
  .of_wp fun A R s ⟨xs, p, hu, hkey, hm, hsz, hp, hsome⟩ => by
    obtain ⟨o, es, ep, ho, hc, hdat, he, his, hn⟩ := id hm
    have hes : es.size = xs.length := size_of_entries he
    have hpart : (keyPart (Value.ref b)).isSome = false := rfl
    unfold Builtin.«dict.pop»
    refine wpAny_bind ?_
    unfold Builtin.Dict.keyAndDefault
    refine wpAny_bind (wpAny_notOrdered_dict hm.typeIs ?_)
    show wpAny _ _ (pure (d, Value.ref b, none)) _ _ s
    refine wpAny_pure ?_
    simp only [hpart, Bool.false_eq_true, if_false]
    refine wpAny_bind (wpAny_dictEntries ho hdat (wpAny_bind (wpAny_pure ?_)))
    cases hem : es.isEmpty with
    | true =>
      have h0 : xs = [] := by
        have z : es.size = 0 := by simpa using hem
        exact List.length_eq_zero_iff.mp (by omega)
      rw [h0] at hp
      cases hp
    | false =>
      simp only [Bool.false_eq_true, if_false]
      refine wpAny_bind (DT.takeH hu hkey hm hsz (fun hno => by rw [hno] at hp; cases hp) fun p' e hp' hev h' hm' hs' => ?_)
      rw [hp] at hp'
      cases hp'
      simp only [Option.isNone_some, Bool.false_eq_true, if_false]
      exact wpAny_bind (wpAny_letGo (wpAny_pure ⟨e.val, rfl, by rw [hev]; exact hsome h' _ hm' hs'⟩))
def rPopT1 : V → List V → Hp → VK → Prop := fun x xs H Q => ∃ (a : Addr) (kvs : List (List Key × V)) (k : List Key) (b : Addr) (v : V), x = .ref a ∧ xs = [.ref b] ∧ H a = some (.dT kvs) ∧ H b = some (.tup (k.map kV)) ∧ valV kvs k = some v ∧ Q v (upd H a (.dT (dropK kvs k)))
theorem mt_popT1 (hu : X.A.units + 1 < cLine) : MtR X "dict.pop" rPopT1 := by
  intro pins s σ H x xs v us Q I rx rxs h
  obtain ⟨a, kvs, k, b, v0, rfl, rfl, ha, hb, hv, q1⟩ := h
  cases rx
  obtain ⟨u1, rfl, r1⟩ := rxs.one
  cases r1
  obtain ⟨z, hd, xs', rel, dd⟩ := dt_of I.hok ha
  have hz : xs'.length ≤ sizeLine := by rw [← Paired.length rel]; exact z
  obtain ⟨w', hw, rw'⟩ := RelO.some_of (v := v0) (o := (atKey xs' k).map (·.2)) (by rw [← hv]; exact rel.val k)
  obtain ⟨p, hp, hp2⟩ := Option.map_eq_some_iff.mp hw
  refine call_meetsIn PySem.F.slot_dict_pop dd.typeIs PySem.F.entry_dict_pop (PySem.F.args_dict_pop_2 _ _) (meetsPop1 (knd := tupleKind (mixKind X.prog X.w)) (k := k) hd)
    ⟨xs', p, tupleKind_room_in1 hu, key_of I.hok hb, dd, hz, hp, fun h' tk dd' hs => ?_⟩
  obtain ⟨o, es, ep, hq, h2, h3, h4, _, h5⟩ := dd'
  have I2 : Inv X pins σ (upd H a (.dT (dropK kvs k))) { s with heap := h', toks := tk } :=
    d_write I (by rw [ha]; exact True.intro) hs ⟨o, hq⟩ ⟨Nat.le_trans (dropK_le kvs k) z, hd, _, (DX.KT_drop k rel).keeps (fun c ys ec => (by rw [upd_ne (ne_of ec ha (fun z => nomatch z))]; exact ec)), o, es, ep, hq, h2, h3, h4, h5⟩
  show EP X pins σ Q p.2 _
  exact ⟨v0, _, I2, by rw [hp2]; exact rw', q1⟩
/-! ### d == {} -/
theorem eqRaw {prog : Program} {w : World} {A : Around} {E : Value → Shared → Prop} {s : Shared} {a b : Addr} {es : Array DictEntry} {ep ep' : Nat} {Q : Value → Shared → Prop} (ha : (a == sysModules) = false) (hb : (b == sysModules) = false)
    (da : s.heap.DictRaw a es ep) (db : s.heap.DictRaw b #[] ep') (hu : A.units < cLine) (h : Q (.bool (es.size == 0)) s) : wpAny (model prog w) A (compareOp .Eq (.ref a) (.ref b)) Q E s := by
  by_cases hz : es.size = 0
  · have he : es = #[] := Array.eq_empty_of_size_eq_zero hz
    subst he
    obtain ⟨oa, h1, h2, h3⟩ := da
    obtain ⟨ob, g1, g2, g3⟩ := db
    exact PySem.W.keq_eq (knd := mixKind prog w) (r := true) (ka := []) (kb := []) ha hb ⟨oa, #[], ep, h1, h2, h3, (fun e he => absurd he (by simp)), .nil, List.nodup_nil⟩ ⟨ob, #[], ep', g1, g2, g3, (fun e he => absurd he (by simp)), .nil, List.nodup_nil⟩ hu (fun _ => .nil) h
  · have hf : (es.size == 0) = false := by simpa using hz
    rw [hf] at h
    refine wpAny_richCompare_same_room (op := .Eq) da.typeIs db.typeIs PySem.F.slot_dict_eq (wpAny_call_entry PySem.F.slot_dict_eq da.typeIs PySem.F.entry_dict_eq ?_ (PySem.F.args_dict_eq_2 _ _)) hu
    show wpAny _ _ (Builtin.Dict.dictSlotArgs "__eq__" ⟨[.ref a, .ref b], []⟩ >>= _) _ _ s
    refine wpAny_bind ?_
    unfold Builtin.Dict.dictSlotArgs
    refine wpAny_bind (wpAny_notOrdered_dict da.typeIs ?_)
    show wpAny _ _ (pure (Value.ref a, Value.ref b)) _ _ s
    refine wpAny_pure ?_
    refine wpAny_bind (wpAny_isInstance (T := "dict") db.typeIs PySem.F.sub_dict_dict ?_)
    simp only [Bool.not_true, Bool.false_eq_true, if_false]
    refine wpAny_bind (wpAny_pure (wpAny_bind (wpAny_pure ?_)))
    obtain ⟨oa, hoa, _, hda⟩ := da
    obtain ⟨ob, hob, _, hdb⟩ := db
    refine wpAny_bind ?_
    unfold Builtin.Dict.samePairs Builtin.Dict.showsAll
    rw [if_neg (show ¬ (a == sysModules) = true by rw [ha]; exact Bool.false_ne_true), if_neg (show ¬ (b == sysModules) = true by rw [hb]; exact Bool.false_ne_true)]
    refine wpAny_bind (wpAny_pure (wpAny_bind (wpAny_pure ?_)))
    refine wpAny_bind (wpAny_dictEntries hoa hda ?_)
    dsimp only
    refine wpAny_bind (wpAny_dictEntries hob hdb ?_)
    rw [if_pos (by simpa using hz)]
    refine wpAny_bind (wpAny_rule (wpAny_pure ?_))
    refine wpAny_pure ⟨_, rfl, ?_, ?_⟩
    · exact fun x => nomatch x
    · simpa using h
def rEqET : R2 := fun x y H Q => ∃ a b kvs, x = .ref a ∧ y = .ref b ∧ H a = some (.dT kvs) ∧ H b = some (.dT []) ∧ Q (.bl (decide (kvs.length = 0))) H
theorem op_eqET (hu : X.A.units < cLine) : OpR X (compareOp .Eq) rEqET := by
  intro pins s σ H x y v u Q I rx ry h
  obtain ⟨a, b, kvs, rfl, rfl, ea, eb, q⟩ := h
  obtain rfl : v = Value.ref a := rx
  obtain rfl : u = Value.ref b := ry
  obtain ⟨_, ya, xa, ra, oa, es, ep, h1, h2, h3, h4, _⟩ := I.hok a _ ea
  obtain ⟨_, yb, xb, rb, ob, es', ep', g1, g2, g3, g4, _⟩ := I.hok b _ eb
  have l1 : es.size = xa.length := size_of_entries h4
  have l2 : kvs.length = xa.length := Paired.length ra
  have l3 : es'.size = xb.length := size_of_entries g4
  cases rb
  have he : es' = #[] := Array.eq_empty_of_size_eq_zero l3
  subst he
  refine eqRaw ya yb ⟨oa, h1, h2, h3⟩ ⟨ob, g1, g2, g3⟩ hu ⟨_, H, I, ?_, q⟩
  show Value.bool _ = Value.bool _
  congr 1
  rw [show kvs.length = es.size by omega]
  exact Bool.beq_eq_decide_eq _ _
end
end L2

/-! ScF: the first failure among the answers of a run. -/
namespace Sc
open PySem PySem.Spec PyProof.Rows L2 Evl
section
variable {hs : Sx → Bool} {s : Sch}
theorem fin_send (m : M) (l : Letter) : (send1 s m l).fin = m.fin := by
  unfold send1
  split <;> rfl
theorem fin_sendEdit (m : M) (r : Row) : (sendEdit s m r).fin = m.fin := by
  unfold sendEdit
  rw [fin_send]
  rfl
theorem fin_copy1 (m : M) (v : Int) : (copy1 hs m v).fin = m.fin := by
  unfold copy1
  split <;> rfl
theorem fin_copy2 (m : M) (v : Int) : (copy2 hs m v).fin = m.fin := by
  unfold copy2
  split <;> rfl
theorem fin_copy (m : M) (v k : Int) : (takeCopy hs m v k).fin = m.fin := by
  unfold takeCopy
  rw [fin_copy2, fin_copy1]
theorem fin_answer (m : M) (k : Int) (f : Fate) : (takeAnswer hs m k f).fin = m.fin := by
  cases f with
  | ref =>
    unfold takeAnswer
    dsimp only
    split <;> rfl
  | ver n =>
    unfold takeAnswer
    dsimp only
    split <;> rfl
theorem fin_edit (m : M) (k : Int) (e : Ed) : (takeEdit hs s m k e).1.fin = m.fin := by
  unfold takeEdit
  split
  · split
    · exact fin_send _ _
    · rfl
  · dsimp only
    split
    · rfl
    · exact fin_send _ _
theorem fin_arrive (m : M) (l : Letter) : (arrive hs s m l).1.fin = m.fin := by
  cases l with
  | edit k e => exact fin_edit m k e
  | answer k f => exact fin_answer m k f
  | ask => exact fin_send _ _
  | copy v n =>
    unfold arrive
    dsimp only
    split
    · exact fin_copy _ _ _
    · split
      · exact fin_copy _ _ _
      · rfl
theorem fin_with (m : M) (w : LW) (i : Nat) : (doneWith hs s m w i).1.fin = m.fin := by
  unfold doneWith
  split
  · rfl
  · rename_i l _
    cases w with
    | refuse =>
      cases l with
      | edit k e => exact fin_send _ _
      | _ => rfl
    | lose => rfl
    | carry => exact fin_arrive _ _
    | double => exact fin_arrive _ _
theorem fin_done1 (m : M) (d : Deed) : (done1 hs s m d).1.fin = m.fin := by
  cases d with
  | edit e => rfl
  | plain p =>
    cases p with
    | send =>
      unfold done1
      dsimp only
      split
      · exact fin_sendEdit _ _
      · rfl
    | again =>
      unfold done1
      dsimp only
      split
      · exact fin_sendEdit _ _
      · rfl
    | ask => exact fin_send _ _
    | other => rfl
    | reload =>
      unfold done1
      dsimp only
      rw [fin_copy]
      split <;> rfl
  | letr w i => exact fin_with m w i
theorem fin_done (m : M) (d : Deed) : (done hs s m d).1.fin = m.fin := fin_done1 m d
def firstF : List Ans → Option Fail
  | [] => none
  | .of (some f) :: _ => some f
  | .of none :: r => firstF r
  | .no :: r => firstF r
theorem firstF_run : ∀ (ds : List Deed) (m : M) (t n : Nat), m.fin = none → firstF (run1 hs s (tr t n m) ds) = failRun hs s m ds
  | [], _, _, _, _ => rfl
  | d :: r, m, t, n, hf => by
    show firstF ((step hs s (tr t n m) d).2 :: run1 hs s (step hs s (tr t n m) d).1 r) = _
    unfold step
    rw [tr_possible]
    cases hp : isPossible hs s m d with
    | false =>
      rw [failRun_skip hp]
      exact firstF_run r m t n hf
    | true =>
      obtain ⟨h1, n', h2⟩ := tr_done (hs := hs) (s := s) (t := t + 1) (n := n) m d
      have e : doM hs s (tr t n m) d = ({ (done hs s (tr (t + 1) n m) d).1 with fin := (done hs s (tr (t + 1) n m) d).2 }, (done hs s (tr (t + 1) n m) d).2) := rfl
      show firstF (.of (doM hs s (tr t n m) d).2 :: run1 hs s (doM hs s (tr t n m) d).1 r) = _
      rw [e, h1, h2]
      cases hd : (done hs s m d).2 with
      | some f =>
        rw [failRun_some hp hd]
        rfl
      | none =>
        rw [failRun_none hp hd]
        have hfin := fin_done (hs := hs) (s := s) m d
        rw [hf] at hfin
        have e2 : ({ tr (t + 1) n' (done hs s m d).1 with fin := none } : M) = tr (t + 1) n' (done hs s m d).1 := by
          unfold tr
          rw [← hfin]
        show firstF (run1 hs s ({ tr (t + 1) n' (done hs s m d).1 with fin := none } : M) r) = _
        rw [e2]
        exact firstF_run r _ _ _ hfin
theorem firstF_m0 (ds : List Deed) : firstF (run1 hs s m0 ds) = failRun hs s m0 ds := firstF_run ds m0 0 0 rfl
end
end Sc

/-! Sc21: repairs. -/
namespace Sc
open PySem PySem.Spec PyProof.Rows L2 Evl

section
variable {K : PySem.W.Frag} {σ : L2.St} {H : Hp} {a : Addr} {t : Tab} {i j j1 j2 : Nat} {vs : List Nat} {tt : TT} {tv : TE}
theorem tab_at {K : PySem.W.Frag} {H : Hp} : ∀ {ps : List (KeyT × V)} {ts : Tab} {i : Nat} {k : KeyT} {v : V}, TabR K H ps ts → ps[i]? = some (k, v) → ∃ s d, ts[i]? = some (s, d) ∧ k = keyT s ∧ Dp K H v d ∧ Imm d = true
  | [], [], _, _, _, _, e => by simp at e
  | p :: ps, t :: ts, 0, k, v, ⟨h1, h2, h3, _⟩, e => by
    simp at e
    subst e
    exact ⟨t.1, t.2, rfl, h1, h2, h3⟩
  | _ :: ps, _ :: ts, i + 1, k, v, ⟨_, _, _, h4⟩, e => by
    obtain ⟨s, d, g1, g2⟩ := tab_at (i := i) h4 (by simpa using e)
    exact ⟨s, d, by simpa using g1, g2⟩
  | [], _ :: _, _, _, _, h, _ => h.elim
  | _ :: _, [], _, _, _, h, _ => h.elim
theorem ex_lock {H : Hp} {a : Addr} {kvs : List (KeyT × V)} {od : Obj} {H' : Hp} (h : H a = some (.dT kvs)) (e : Ex (upd H a (.frz od (.dT kvs))) H') : Ex H (upd H' a (.dT kvs)) := fun b o hb => by
  by_cases e' : b = a
  · subst e'
    rw [h] at hb
    cases hb
    exact upd_same
  · rw [upd_ne e']
    exact e b o (by rw [upd_ne e']; exact hb)
theorem tk_lock {H : Hp} {a : Addr} {kvs : List (KeyT × V)} {od : Obj} (h : H a = some (.dT kvs)) : Tk H (upd H a (.frz od (.dT kvs))) := Tk.ob h (fun _ z => nomatch z) fun _ _ z => nomatch z
theorem tk_unlock {H' : Hp} {a : Addr} {kvs : List (KeyT × V)} {od : Obj} (h : H' a = some (.frz od (.dT kvs))) : Tk H' (upd H' a (.dT kvs)) := Tk.ob h (fun _ z => nomatch z) fun _ _ z => nomatch z
/-- {some: v for some, v in d.items()} -/
theorem k_itemsT (hx : σ[i]? = some (some (.ref a))) (ha : DTab K H a t) (hn : (t.map (·.1)).Nodup) (hz : t.length ≤ 40000) (hw : ∀ v w, wipe (((wipe σ vs).set j1 (some v)).set j2 (some w)) vs = wipe σ vs ∧ (((wipe σ vs).set j1 (some v)).set j2 (some w))[j1]? = some (some v) ∧ (((wipe σ vs).set j1 (some v)).set j2 (some w))[j2]? = some (some w)) :
    EvDT K (tLockE (tDcT (iItemsT (tVar i)) (gTup K 2 (gCons (gName j1) (gCons (gName j2) gNil))) tYes (tVar j1) (tVar j2) vs)) σ H t := fun H1 e1 Q k => by
  obtain ⟨kvs, h1, h2⟩ := ha.ex e1
  have hlen := h2.length
  refine ⟨a, .dT kvs, h1, True.intro, fun od => ⟨_, hx, a, od, kvs, rfl, upd_same, fun D hD => ?_⟩⟩
  have hDa : D ≠ a := fun z => by rw [z, upd_same] at hD; cases hD
  have hD1 : H1 D = none := by rw [upd_ne hDa] at hD; exact hD
  have W : Walk (ItiT a od kvs) kvs.length (fun H' => H' a = some (.frz od (.dT kvs))) (fun i H' x H'' => ∃ T q k v, kvs[i]? = some (k, v) ∧ x = .ref T ∧ H' T = none ∧ H' q = some (.tup (k.map kV)) ∧ H'' = upd H' T (.tup [.ref q, v])) := ⟨fun _ _ hi q => ⟨q, hi⟩, fun _ q => ⟨q, Nat.le_refl _⟩, fun _ _ _ _ _ _ y => y⟩
  have hL := h2.tk (tk_lock (od := od) h1)
  refine walk_by W (body := fun Nx x H' => gTup K 2 (gCons (gName j1) (gCons (gName j2) gNil)) x (wipe σ vs) H' fun σ2 H2 => wipe σ2 vs = wipe σ vs ∧ tYes σ2 H2 fun b H3 =>
      if b = true then (tVar j1) σ2 H3 fun y H4 => (tVar j2) σ2 H4 fun z H5 => ∃ kvs k b, y = .ref b ∧ H5 b = some (.tup (k.map kV)) ∧ H5 D = some (.dT kvs) ∧ kvs.length < sizeLine ∧ Nx (upd H5 D (.dT (putK kvs k z))) else Nx H3)
    (fun n H' => Ex (upd H1 a (.frz od (.dT kvs))) H' ∧ ∃ kv, H' D = some (.dT kv) ∧ TabR K H' kv (t.take n)) ⟨Ex.new hD, [], upd_same, trivial⟩ (fun n H' _ P => P.1 a _ upd_same) (fun n x H3 H4 hi P Y => ?_) fun H3 P => ?_
  · obtain ⟨ex, kv, hkD, hT⟩ := P
    obtain ⟨T, q, kk, v, hkv, rfl, hT0, hq, rfl⟩ := Y
    obtain ⟨s, d, hs, rfl, hd, him⟩ := tab_at (hL.tk (Tk.of ex)) hkv
    have e4 : Ex H3 (upd H3 T (.tup [.ref q, v])) := Ex.new hT0
    obtain ⟨w1, w2, w3⟩ := hw (.ref q) v
    refine ⟨T, [.ref q, v], rfl, st_of upd_same, rfl, _, _, rfl, _, _, rfl, rfl, w1, _, w2, _, w3, kv, keyT s, q, rfl, e4 _ _ hq, e4 _ _ hkD, ?_, (ex.trans e4).mut hD, _, upd_same, ?_⟩
    · have := hT.length
      rw [List.length_take] at this
      exact sz_lt (by omega)
    · have htk : t.take (n + 1) = t.take n ++ [(s, d)] := by rw [List.take_succ, hs] <;> rfl
      have hk4 := e4 _ _ hkD
      have tk5 : Tk (upd H3 T (.tup [.ref q, v])) (upd (upd H3 T (.tup [.ref q, v])) D (.dT (putK kv (keyT s) v))) := Tk.ob hk4 (fun _ z => nomatch z) fun _ _ z => nomatch z
      have hput : putT (t.take n) s d = t.take (n + 1) := by
        unfold putT
        rw [if_neg, htk]
        rw [List.any_eq_true]
        rintro ⟨p, hp, e⟩
        have e : p.1 = s := of_decide_eq_true e
        have hlt := (List.getElem?_eq_some_iff.mp hs).1
        have hnd : ((t.take n).map (·.1) ++ [s]).Nodup := by
          have : (t.take (n + 1)).map (·.1) = (t.take n).map (·.1) ++ [s] := by rw [htk, List.map_append]; rfl
          rw [← this]
          exact hn.sublist ((List.take_sublist _ _).map _)
        have := (List.nodup_append.mp hnd).2.2 s (List.mem_map.mpr ⟨p, hp, e⟩) s (List.mem_singleton.mpr rfl)
        exact this rfl
      rw [← hput]
      exact (((hT.tk (Tk.of e4)).put (hd.ex e4) him).tk tk5)
  · obtain ⟨ex, kv, hkD, hT⟩ := P
    rw [hlen, List.take_length] at hT
    have hfz := ex a _ upd_same
    refine ⟨hfz, k D _ hD1 (ex_lock h1 ex) ⟨kv, by rw [upd_ne hDa]; exact hkD, hT.tk (tk_unlock hfz)⟩⟩
/-- {k: v for k in d if t} -/
theorem k_keysT {p : List Sx → Bool} (hx : σ[i]? = some (some (.ref a))) (ha : DTab K H a t) (hn : (t.map (·.1)).Nodup) (hz : t.length ≤ 40000) (hw : ∀ v, wipe ((wipe σ vs).set j (some v)) vs = wipe σ vs ∧ ((wipe σ vs).set j (some v))[j]? = some (some v))
    (hel : ∀ H1 kvs od, Ex H H1 → H1 a = some (.dT kvs) → ∀ H2 v s d, (s, d) ∈ t → Ex (upd H1 a (.frz od (.dT kvs))) H2 → Tr.r H2 v s → TabR K H2 kvs t → EvT tt ((wipe σ vs).set j (some v)) H2 (p s) ∧ (p s = true → Evd K tv ((wipe σ vs).set j (some v)) H2 d)) :
    EvDT K (tLockE (tDcT (iKeys (tVar i)) (gName j) tt (tVar j) tv vs)) σ H (t.filter fun q => p q.1) := fun H1 e1 Q k => by
  obtain ⟨kvs, h1, h2⟩ := ha.ex e1
  have hlen := h2.length
  refine ⟨a, .dT kvs, h1, True.intro, fun od => ⟨_, hx, a, od, rfl, .inr ⟨kvs, upd_same, fun D hD => ?_⟩⟩⟩
  have hDa : D ≠ a := fun z => by rw [z, upd_same] at hD; cases hD
  have hD1 : H1 D = none := by rw [upd_ne hDa] at hD; exact hD
  have W := walk_keysT (d := a) (o := od) (kvs := kvs)
  have hL := h2.tk (tk_lock (od := od) h1)
  refine walk_by W (body := fun Nx x H' => gName j x (wipe σ vs) H' fun σ2 H2 => wipe σ2 vs = wipe σ vs ∧ tt σ2 H2 fun b H3 =>
      if b = true then (tVar j) σ2 H3 fun y H4 => tv σ2 H4 fun z H5 => ∃ kvs k b, y = .ref b ∧ H5 b = some (.tup (k.map kV)) ∧ H5 D = some (.dT kvs) ∧ kvs.length < sizeLine ∧ Nx (upd H5 D (.dT (putK kvs k z))) else Nx H3)
    (fun n H' => Ex (upd H1 a (.frz od (.dT kvs))) H' ∧ ∃ kv, H' D = some (.dT kv) ∧ TabR K H' kv ((t.take n).filter fun q => p q.1)) ⟨Ex.new hD, [], upd_same, trivial⟩ (fun n H' _ P => P.1 a _ upd_same) (fun n x H3 H4 hi P Y => ?_) fun H3 P => ?_
  · obtain ⟨ex, kv, hkD, hT⟩ := P
    obtain ⟨rfl, kk, v, q, hkv, rfl, hq⟩ := Y
    have hL3 := hL.tk (Tk.of ex)
    obtain ⟨s, d, hs, rfl, hd, him⟩ := tab_at hL3 hkv
    obtain ⟨w1, w2⟩ := hw (.ref q)
    have hq' : H4 q = some (.tup (s.map V.str)) := by rw [← keyT_kV]; exact hq
    obtain ⟨g1, g2⟩ := hel H1 kvs od e1 h1 H4 (.ref q) s d (List.mem_of_getElem? hs) ex ⟨q, rfl, hq'⟩ hL3
    have htk : t.take (n + 1) = t.take n ++ [(s, d)] := by rw [List.take_succ, hs] <;> rfl
    refine ⟨w1, g1 _ (Ex.refl _) _ fun H5 q5 => ?_⟩
    cases hp : p s with
    | true =>
      refine ⟨_, w2, g2 hp H5 q5 _ fun z H6 q6 r6 => ?_⟩
      have e56 := q5.trans q6
      have hk6 := e56 _ _ hkD
      have tk7 : Tk H6 (upd H6 D (.dT (putK kv (keyT s) z))) := Tk.ob hk6 (fun _ z => nomatch z) fun _ _ z => nomatch z
      refine ⟨kv, keyT s, q, rfl, e56 _ _ hq, hk6, ?_, (ex.trans e56).mut hD, _, upd_same, ?_⟩
      · have := hT.length
        have h3 := List.length_filter_le (fun q : List Sx × PD => p q.1) (t.take n)
        rw [List.length_take] at h3
        exact sz_lt (by omega)
      · have hput : putT ((t.take n).filter fun q => p q.1) s d = (t.take (n + 1)).filter fun q => p q.1 := by
          unfold putT
          rw [if_neg, htk, List.filter_append]
          · simp [hp]
          · rw [List.any_eq_true]
            rintro ⟨q, hq, e⟩
            have e : q.1 = s := of_decide_eq_true e
            have hnd : ((t.take n).map (·.1) ++ [s]).Nodup := by
              have : (t.take (n + 1)).map (·.1) = (t.take n).map (·.1) ++ [s] := by rw [htk, List.map_append]; rfl
              rw [← this]
              exact hn.sublist ((List.take_sublist _ _).map _)
            have := (List.nodup_append.mp hnd).2.2 s (List.mem_map.mpr ⟨q, (List.mem_filter.mp hq).1, e⟩) s (List.mem_singleton.mpr rfl)
            exact this rfl
        rw [← hput]
        exact (((hT.tk (Tk.of e56)).put r6 him).tk tk7)
    | false =>
      refine ⟨ex.trans q5, kv, q5 _ _ hkD, ?_⟩
      rw [htk, List.filter_append]
      have : [(s, d)].filter (fun q : List Sx × PD => p q.1) = [] := by simp [hp]
      rw [this, List.append_nil]
      exact hT.tk (Tk.of q5)
  · obtain ⟨ex, kv, hkD, hT⟩ := P
    rw [hlen, List.take_length] at hT
    have hfz := ex a _ upd_same
    refine ⟨hfz, k D _ hD1 (ex_lock h1 ex) ⟨kv, by rw [upd_ne hDa]; exact hkD, hT.tk (tk_unlock hfz)⟩⟩
end
end Sc


/-! Sc22: repairs. -/
namespace Sc
open PySem PySem.Spec PyProof.Rows L2 Evl
section
variable {K : PySem.W.Frag} {mg : Sx → Option Value} {σ : L2.St} {G H H' : Hp} {tv te : TE} {p dx C : Addr} {fs : List (Sx × V)} {f : Sx} {D : Ends} {tz tu : TS} {d : PD} {t : Tab}
theorem q_forR {α : Type} {Ri : Rl α} {xs : List α} {wi : TI} {j : Nat} (hs : SrcR Ri wi σ H xs) (Pv : Hp → Nat → L2.St → Hp → Prop) (h0 : ∀ H2, Ex H H2 → Pv H2 0 σ H2) (hG : ∀ H2 i σ' H', Pv H2 i σ' H' → Ex H2 H')
    (ht : ∀ H2 i x v σ' H', Ex H H2 → xs[i]? = some x → Ri.r H' v x → Pv H2 i σ' H' → tu { D with nx := Pv H2 (i + 1), ct := Pv H2 (i + 1), bk := tz D } (σ'.set j (some v)) H')
    (hd : ∀ H2 σ' H', Ex H H2 → Pv H2 xs.length σ' H' → tz D σ' H') : tSeq (tFor wi (gName j) tu) tz D σ H :=
  hs H (Ex.refl H) _ fun J H2 q2 W => for_it W (Pv H2) (h0 H2 q2) (fun i σ' H' _ P => hG H2 i σ' H' P) (fun i x σ' H' H'' hi P Y => by
    obtain ⟨rfl, y, h1, h2⟩ := Y
    exact ht H2 i y x σ' _ q2 h1 h2 P) fun σ' H' P => hd H2 σ' H' q2 P
theorem s_initT (c : Cls K C) (hx : σ[0]? = some (some (.ref p))) (ob : H p = some (.ins C dx fs)) (hf : fs.length < 1000) (n : NoAttr K C f) (hv : EvDT K tv σ H t)
    (k : ∀ l H1, ExA p H H1 → DTab K H1 l t → H1 p = some (.ins C dx (putF f (.ref l) fs)) → Tk H H1 → D.nx σ H1) : sFld K (tVar 0) tv f D σ H := hv H (Ex.refl _) _ fun l H1 hl e1 h1t => by
  have h1 := e1 p _ ob
  have ne : l ≠ p := (nold ob hl).symm
  have tk : Tk H1 (upd H1 p (.ins C dx (putF f (.ref l) fs))) := Tk.ob h1 (fun _ z => nomatch z) fun _ _ z => nomatch z
  obtain ⟨kvs, g1, g2⟩ := h1t
  exact ⟨_, hx, p, _, _, _, rfl, h1, c, n, hf, k l _ ((ExA.of e1).trans ExA.up) ⟨kvs, by rw [upd_ne ne]; exact g1, g2.tk tk⟩ upd_same ((Tk.of e1).trans tk)⟩
end
/-- a repair held -/
def RepAt (K : PySem.W.Frag) (H : Hp) (p : Addr) (added : List Sx) (t : Tab) : Prop := ∃ dx v d, H p = some (.ins (He.ga K "Repair") dx [("added", v), ("doubts", .ref d)]) ∧ Dp K H v (setD added) ∧ DTab K H d t
theorem RepAt.ex {K : PySem.W.Frag} {H H' : Hp} {p : Addr} {added : List Sx} {t : Tab} (h : RepAt K H p added t) (e : Ex H H') : RepAt K H' p added t := by
  obtain ⟨dx, v, d, h1, h2, h3⟩ := h
  exact ⟨dx, v, d, e _ _ h1, h2.ex e, h3.ex e⟩
def sp_rinit (K : PySem.W.Frag) : Sp := fun vs H Q _ => ∃ p dx v a d t, vs = [.ref p, v, .ref d] ∧ H p = some (.ins (He.ga K "Repair") dx []) ∧ Dp K H v (setD a) ∧ DTab K H d t ∧ (t.map (·.1)).Nodup ∧ t.length ≤ 40000 ∧ ∀ H', ExA p H H' → RepAt K H' p a t → Q .non H'
abbrev FTab := List (List Sx × Fail)
def ftab (ft : FTab) : Tab := ft.map fun p => (p.1, p.2.d)
def getF (t : FTab) (k : List Sx) : Option Fail := (t.find? fun p => decide (p.1 = k)).map (·.2)
def failW (s : Sch) (cs : List Sx) (ds : List Deed) (added : List Sx) : Option Fail := failRun (hsOf (inOrder (cs ++ added))) s m0 ds
def fewer (cs added : List Sx) : List (List Sx) := (setsOf (poolOf cs)).filter fun s => decide (s.length < added.length)
def showsOf (s : Sch) (cs : List Sx) (ds : List Deed) (added : List Sx) (ft : FTab) : Bool :=
  (failW s cs ds added).isNone && (decide ((fewer cs added).length = ft.length) && ((fewer cs added).all fun s => (getF ft s).isSome) && (fewer cs added).all fun x => match failW s cs ds x with | none => false | some f => decide (getF ft x = some f))
theorem getT_ftab (k : List Sx) : ∀ ft : FTab, getT (ftab ft) k = (getF ft k).map Fail.d
  | [] => rfl
  | p :: r => by
    show getT ((p.1, p.2.d) :: ftab r) k = _
    rw [getT_cons, getT_ftab k r]
    unfold getF
    rw [List.find?_cons]
    by_cases e : p.1 = k <;> simp [e]
theorem ftab_len (ft : FTab) : (ftab ft).length = ft.length := List.length_map ..
def sp_shows (K : PySem.W.Frag) : Sp := spP K fun H as r => ∃ p x s e cs e' ds added ft, as = [.val (.ref p), .val (.ref x), .dat e, .dat e'] ∧ RepAt K H p added (ftab ft) ∧ CaresOk added ∧ SchAt K H x s ∧ carD e cs ∧ CaresOk cs ∧ seqD e' ds ∧ DsOk s ds ∧ r = .bool (showsOf s cs ds added ft)
theorem strOk_fw (f : FW) : PyData.strOk f.s = true := by cases f <;> decide +kernel
theorem sh_fail (f : Fail) : Sh 1 f.d := Sh.tup fun d hd => by
  rcases List.mem_cons.mp hd with rfl | hd
  · exact Sh.str (strOk_fw _)
  · rcases List.mem_cons.mp hd with rfl | hd
    · exact Sh.int
    · cases hd
theorem fws_inj {a b : FW} (h : a.s = b.s) : a = b := by cases a <;> cases b <;> first | rfl | exact absurd h (by decide +kernel)
theorem eqv_fail (a b : Fail) : PyData.eqv a.d b.d = decide (a = b) := by
  obtain ⟨w, k⟩ := a
  obtain ⟨w', k'⟩ := b
  show PyData.eqv (.tuple [.str w.s, .int k]) (.tuple [.str w'.s, .int k']) = _
  rw [PyData.eqv, PyData.eqvAll, PyData.eqvAll, PyData.eqvAll]
  show ((w.s == w'.s) && ((k == k') && true)) = _
  by_cases h1 : w = w'
  · subst h1
    by_cases h2 : k = k'
    · subst h2; simp
    · simp [h2]
  · have : ¬ w.s = w'.s := fun e => h1 (fws_inj e)
    simp [h1, this]
section
variable {P : Program} {w : World} {K : PySem.W.Frag} {mg : PySem.Str → Option Value} {base : Heap}
abbrev nm_Repair___init__ : List PySem.Str := ["self", "added", "doubts", "some", "failure"]
theorem sc_Repair___init__ : FnScope nm_Repair___init__ ["self", "added", "doubts"] (defScope s_Repair___init__) := ⟨rfl, rfl, rfl, by decide +kernel, rfl, by decide +kernel, by decide +kernel⟩
theorem ok_rinit (T : Tx K mg) : ∃ fd, FnOk P w K mg base CX0 1 (He.ma K (He.ga K "Repair") "__init__") fd ["self", "added", "doubts"] (sp_rinit K) ∧ Binds K fd ["self", "added", "doubts"] [] := by
  obtain ⟨fd, F⟩ := T.c.d.def_ 49 (d := d_Repair___init__)
  refine ⟨fd, F.ok (k := 0) (N := nm_Repair___init__) (ps := ["self", "added", "doubts"]) sc_Repair___init__ (fun vs H Q E h => ?_) (fun cdv A outer s H vs Q E hr h => ?_), F.bindsN (fun _ _ _ _ _ _ us hl => match us, hl with | [_, _, _], _ => rfl)⟩
  · obtain ⟨p, dx, v, a, d, t, rfl, _⟩ := h
    rfl
  · obtain ⟨p, dx, v, a, d, t, rfl, ob, rv, hd, hn, hz, k⟩ := h
    refine ⟨_, PSs.nox (pss_cons (ps_fldK (K := K) rfl (pv 0) (pv 1) rfl)
      (pss_one (ps_fldK (K := K) rfl (pv 0) (pe_lock (pe_dcT (own := [("some", 3), ("failure", 4)]) rfl (hu_of hr) sc_Repair___init__.nd (pi_itemsT (pv 2)) (blkOk_by (own := [("some", 3), ("failure", 4)]) (N := nm_Repair___init__) (sc := defScope s_Repair___init__) (by decide +kernel)) (fun _ _ _ _ _ => (pg_tupK (K := K) (n := 2) rfl rfl (pgs_cons (pg_name (i := 3) sc_Repair___init__.nd rfl (Or.inl rfl)) (pgs_cons (pg_name (i := 4) sc_Repair___init__.nd rfl (Or.inl rfl)) pgs_nil)))) (fun _ _ _ _ _ => pts_nil) (fun _ _ _ _ _ => (pv 3)) (fun _ _ _ _ _ => (pv 4)))) rfl))), ?_⟩
    have c := cl_Repair T
    refine q_init c rfl ob (by show (0 : Nat) < 1000; decide) (na_Repair_added T) (d_var rfl rv) (imm_set _) fun v1 H1 x1 r1 ob1 t1 => ?_
    have hd1 : DTab K H1 d t := by
      obtain ⟨kvs, g1, g2⟩ := hd
      have ne : d ≠ p := fun z => by rw [z, ob] at g1; cases g1
      exact ⟨kvs, x1 _ _ ne g1, g2.tk t1⟩
    refine s_initT c rfl ob1 (by show (1 : Nat) < 1000; decide) (na_Repair_doubts T) (k_itemsT (i := 2) rfl hd1 hn hz fun _ _ => ⟨rfl, rfl, rfl⟩) fun l H2 x2 h2 ob2 t2 => ?_
    exact k H2 (x1.trans x2) ⟨dx, v1, l, ob2, r1.tk t2 (imm_set _), h2⟩
end
end Sc


/-! Sc23: Repair.shows, repair. -/
namespace Sc
open PySem PySem.Spec PyProof.Rows L2 Evl
theorem d_lenT {K : PySem.W.Frag} {σ : L2.St} {H : Hp} {td : TE} {a : Addr} {t : Tab} (hd : Ev td σ H (.ref a)) (ha : DTab K H a t) : Evd K (tCB rLenT (tCons td tNil)) σ H (.int (t.length : Int)) := fun H1 e Q q =>
  hd H1 e _ fun H2 e2 => by
    obtain ⟨kvs, h1, h2⟩ := ha.ex (e.trans e2)
    exact ⟨a, kvs, rfl, h1, by rw [h2.length]; exact q _ H2 e2 (.int _)⟩
section
variable {P : Program} {w : World} {K : PySem.W.Frag} {mg : PySem.Str → Option Value} {base : Heap}
abbrev nm_Repair_shows : List PySem.Str := ["self", "scheme", "cares", "deeds", "fewer", "some", "failure"]
theorem sc_Repair_shows : FnScope nm_Repair_shows ["self", "scheme", "cares", "deeds"] (defScope s_Repair_shows) := ⟨rfl, rfl, rfl, by decide +kernel, rfl, by decide +kernel, by decide +kernel⟩
theorem ok_Repair_shows (T : Tx K mg) : FnR P w K mg base CX0 9 (He.ma K (He.ga K "Repair") "shows") (sp_shows K) := by
  refine fm_of (k := 8) (N := nm_Repair_shows) (ps := ["self", "scheme", "cares", "deeds"]) (T.c.d.def_ 50 (d := d_Repair_shows)) sc_Repair_shows (fun _ _ _ _ _ _ us hl => match us, hl with | [_, _, _, _], _ => rfl) (fun vs H Q E h => ?_) (fun cdv A outer s H vs Q E hr h => ?_)
  · obtain ⟨as, r, hA, ⟨p, x, sc, e, cs, e', ds, added, ft, rfl, hR, hka, hs, hc, hk, hq, hd, rfl⟩, k⟩ := h
    exact hA.length
  · obtain ⟨as, r, hA, ⟨p, x, sc, e, cs, e', ds, added, ft, rfl, hR, hka, hs, hc, hk, hq, hd, rfl⟩, k⟩ := h
    obtain ⟨v0, _, rfl, rfl, v1, _, rfl, rfl, v2, _, rfl, r2, v3, _, rfl, r3, rfl⟩ := hA
    refine ⟨_, (pss_cons (ps_expr (pe_cR (ok_check_both T) hr (by rfl) (pa_cons (pv 1) (pa_cons (pv 2) pa_nil))))
      (pss_cons (ps_expr (pe_cR (ok_check_deeds T) hr (by rfl) (pa_cons (pv 1) (pa_cons (pv 3) pa_nil))))
      (pss_cons (ps_if (pt_cmpR op_notN (pe_cR (ok_failure_with T) hr (by rfl) (pa_cons (pv 1) (pa_cons (pv 2) (pa_cons (pe_fldK (K := K) rfl (pv 0) rfl) (pa_cons (pv 3) pa_nil))))) pe_non (nomark _)) (pss_one (ps_ret pe_bl)) pss_nil)
      (pss_cons (ps_setLc (i := 4) (own := [("some", 5)]) rfl sc_Repair_shows.nd rfl rfl (sw_true rfl rfl rfl (by decide +kernel)) (pi_listK (K := K) rfl (pe_cR (ok_additions T) hr (by rfl) (pa_cons (pv 2) pa_nil))) (blkOk_by (own := [("some", 5)]) (N := nm_Repair_shows) (sc := defScope s_Repair_shows) (by decide +kernel)) (fun _ _ _ _ _ => (pg_name (i := 5) sc_Repair_shows.nd rfl (Or.inl rfl))) (fun _ _ _ _ _ => (pts_one (pt_cmpR op_lt (pe_callB (call_lenK (K := K) rfl) (by rfl) (fr_len T) (by decide +kernel) (pa_cons (pv 5) pa_nil)) (pe_callB (call_lenK (K := K) rfl) (by rfl) (fr_len T) (by decide +kernel) (pa_cons (pe_fldK (K := K) rfl (pv 0) rfl) pa_nil)) (nomark _)))) (fun _ _ _ _ _ => (pv 5)))
      (pss_cons (ps_if (PW.pt (pw_or (pt_cmpR op_ne (pe_callB (call_lenK (K := K) rfl) (by rfl) (fr_len T) (by decide +kernel) (pa_cons (pv 4) pa_nil)) (pe_callB call_len_dT (by rfl) (fr_len T) (by decide +kernel) (pa_cons (pe_fldK (K := K) rfl (pv 0) rfl) pa_nil)) (nomark _)) (pw_or1 (pt_not (pt_val (pe_callB (cr_allK (K := K) rfl) (by rfl) (fr_all T) (by decide +kernel) (pa_cons (pe_lc (own := [("some", 5)]) rfl sc_Repair_shows.nd (pi_listK (K := K) rfl (pv 4)) (blkOk_by (own := [("some", 5)]) (N := nm_Repair_shows) (sc := defScope s_Repair_shows) (by decide +kernel)) (fun _ _ _ _ _ => (pg_name (i := 5) sc_Repair_shows.nd rfl (Or.inl rfl))) (fun _ _ _ _ _ => pts_nil) (fun _ _ _ _ _ => (pe_cmp (pc_dinS (K := K) rfl (hu_of hr) (pv 5) (pe_fldK (K := K) rfl (pv 0) rfl))))) pa_nil))))))) (pss_one (ps_ret pe_bl)) pss_nil)
      (pss_cons (ps_for PassesOwn.never rfl (pi_listK (K := K) rfl (pv 4)) (pg_name (i := 5) sc_Repair_shows.nd rfl (Or.inl rfl)) (pss_cons (ps_set (i := 6) sc_Repair_shows.nd rfl (Or.inl rfl) (pe_cR (ok_failure_with T) hr (by rfl) (pa_cons (pv 1) (pa_cons (pv 2) (pa_cons (pv 5) (pa_cons (pv 3) pa_nil))))))
      (pss_one (ps_if (PW.pt (pw_or (pt_cmpR op_isN (pv 6) pe_non (nomark _)) (pw_or1 (pt_cmpR (op_neK (K := K) rfl hr.units) (pe_dgetS (K := K) rfl (hu_of hr) (pe_fldK (K := K) rfl (pv 0) rfl) (pv 5) (fun _ _ => rfl)) (pv 6) (nomark _))))) (pss_one (ps_ret pe_bl)) pss_nil))))
      (pss_one (ps_ret pe_bl)))))))), ?_⟩
    have c := cl_Repair T
    have h9 := cares_len hka
    have hc9 := cares_len hk
    refine q_dropD (d_call (a_consV (ev_var rfl) (a_cons (d_var rfl r2) a_nil)) fun H1 e1 => ⟨x, sc, e, cs, rfl, hs.ex e1, hc, hk, rfl⟩) fun _ H1 e1 _ => ?_
    refine q_dropD (d_call (a_consV (ev_var rfl) (a_cons (d_var rfl (Dp.ex r3 e1)) a_nil)) fun H2 e2 => ⟨x, sc, e', ds, rfl, (hs.ex e1).ex e2, hq, hd, rfl⟩) fun _ H2 e2 _ => ?_
    have e12 := e1.trans e2
    have k : ∀ v H', Ex H2 H' → Dp K H' v _ → Q v H' := fun v H' e r => k v H' (e12.trans e) r
    have hs := hs.ex e12
    have r2 := Dp.ex r2 e12
    have r3 := Dp.ex r3 e12
    have hR := hR.ex e12
    have dAdd : ∀ {σ : L2.St} {H'} {te : TE}, Ex H2 H' → Ev te σ H' (.ref p) → Evd K (tFld K te "added") σ H' (setD added) := fun e' hv => by
      obtain ⟨dx, va, da, g1, g2, g3⟩ := hR.ex e'
      exact d_fldG hv g1 c (na_Repair_added T) (by rfl) g2
    have vD : ∀ {σ : L2.St} {H'} {te : TE}, Ex H2 H' → Ev te σ H' (.ref p) → ∃ da, DTab K H' da (ftab ft) ∧ Ev (tFld K te "doubts") σ H' (.ref da) := fun e' hv => by
      obtain ⟨dx, va, da, g1, g2, g3⟩ := hR.ex e'
      exact ⟨da, g3, v_fldG hv g1 c (na_Repair_doubts T) (by rfl)⟩
    have fw : ∀ {σ : L2.St} {H'} {t1 t2 t3 t4 : TE} {y : List Sx}, y.length ≤ 9 → Ex H2 H' → Ev t1 σ H' (.ref x) → Evd K t2 σ H' e → Evd K t3 σ H' (setD y) → Evd K t4 σ H' e' → Evd K (tCallR (sp_failure_with K) E0 (tCons t1 (tCons t2 (tCons t3 (tCons t4 tNil))))) σ H' (failD (failW sc cs ds y)) := fun hy e0 a1 a2 a3 a4 =>
      d_call (a_consV a1 (a_cons a2 (a_cons a3 (a_cons a4 a_nil)))) fun H3 e3 => ⟨x, sc, e, cs, _, e', ds, rfl, (hs.ex e0).ex e3, hc, by omega, hq, hd, rfl⟩
    have hfl : (fewer cs added).length ≤ 512 := Nat.le_trans (List.length_filter_le _ _) (sets_len (pool_ok cs))
    have hf9 : ∀ y ∈ fewer cs added, y.length ≤ 9 := fun y hy => cares_len (sets_ok (pool_ok cs) (List.mem_filter.mp hy).1)
    cases hA : failW sc cs ds added with
    | some f =>
      have hS : showsOf sc cs ds added ft = false := by unfold showsOf; rw [hA]; rfl
      rw [hS] at k
      refine q_when (b := true) (evt_to (t_test (d_notN (fw h9 (Ex.refl _) (ev_var rfl) (d_var rfl r2) (dAdd (Ex.refl _) (ev_var rfl)) (d_var rfl r3)))) (by rw [hA]; rfl)) (fun _ H3 e3 => s_retD (K := K) d_bl fun v H4 e4 r => k v H4 (e3.trans e4) r) fun z => nomatch z
    | none =>
    refine q_when (b := false) (evt_to (t_test (d_notN (fw h9 (Ex.refl _) (ev_var rfl) (d_var rfl r2) (dAdd (Ex.refl _) (ev_var rfl)) (d_var rfl r3)))) (by rw [hA]; rfl)) (fun z => nomatch z) fun _ H3 e3 => ?_
    refine q_asgR (EvnR.to (n_lcR (Ri := Tr) (Ro := Tr) (xs := setsOf (poolOf cs)) (p := fun s => decide (s.length < added.length)) (f := fun s => s) (srcR_evn (K := K) (n_callN (a_cons (d_var rfl (Dp.ex r2 e3)) a_nil) fun H4 e4 => ⟨e, cs, rfl, hc, rfl⟩)) (fun _ => rfl) (by have := sets_len (pool_ok cs); omega) fun y hy v H4 e4 r => ⟨evt_to (t_test (d_lt (d_lenS (ds := y.map .str) (d_var rfl (tr_dp r)) (.inr rfl)) (d_lenS (ds := added.map .str) (dAdd (e3.trans e4) (ev_var rfl)) (.inr rfl)))) (by simp), fun _ => r_var rfl r⟩) (List.map_id' _)) fun pf vf H4 nf e4 hf rf => ?_
    have e34 := e3.trans e4
    obtain ⟨da, hda, hdv⟩ := vD (σ := [some (.ref p), some (.ref x), some v2, some v3, some (.ref pf), none, none]) (te := tVar 0) e34 (ev_var rfl)
    have dlen := d_neInt (K := K) (d_lenS (ds := (fewer cs added).map setD) (d_var (K := K) (σ := [some (.ref p), some (.ref x), some v2, some v3, some (.ref pf), none, none]) (i := 4) rfl (.lst (sq_of hf) (rf.dp fun v x => tr_dp))) (.inl rfl)) (d_lenT hdv hda)
    have hsS : showsOf sc cs ds added ft = ((decide ((fewer cs added).length = ft.length) && ((fewer cs added).all fun s => (getF ft s).isSome)) && (fewer cs added).all fun x => match failW sc cs ds x with | none => false | some f => decide (getF ft x = some f)) := by unfold showsOf; rw [hA]; rfl
    have tst : EvT _ [some (.ref p), some (.ref x), some v2, some v3, some (.ref pf), none, none] H4 (!(decide ((fewer cs added).length = ft.length) && ((fewer cs added).all fun s => (getF ft s).isSome))) := evt_to (et_or (t_test dlen) fun _ => et_not (t_B (d_all (bs := (fewer cs added).map fun s => (getF ft s).isSome) (nr_bls (n_mapR (Ri := Tr) (Ro := Dr K (fun b : Bool => .bool b) fun _ => rfl) (j := 5) (vs := [5]) (f := fun s => (getF ft s).isSome) (srcR_list (K := K) (ev_var (i := 4) rfl) hf rf) (fun _ => rfl) (by omega) fun y hy v H5 e5 r => by
      obtain ⟨da, hda, hdv⟩ := vD (σ := (wipe [some (.ref p), some (.ref x), some v2, some v3, some (.ref pf), none, none] [5]).set 5 (some v)) (te := tVar 0) (e34.trans e5) (ev_var rfl)
      have := d_inT (k := y) (d_var (i := 5) rfl (tr_dp r)) hdv hda
      rw [getT_ftab, Option.isSome_map] at this
      exact r_of (enc := fun b : Bool => PyData.bool b) this))))) (by
        rw [List.length_map, ftab_len, List.all_map, Bool.not_and]
        congr 1
        congr 1
        exact decide_eq_decide.mpr ⟨fun h => by omega, fun h => by omega⟩)
    cases hB : (decide ((fewer cs added).length = ft.length) && ((fewer cs added).all fun s => (getF ft s).isSome)) with
    | false =>
      rw [hB] at tst hsS
      have hS : showsOf sc cs ds added ft = false := hsS
      rw [hS] at k
      exact q_when (b := true) tst (fun _ H5 e5 => s_retD (K := K) d_bl fun v H6 e6 r => k v H6 (e34.trans (e5.trans e6)) r) fun z => nomatch z
    | true =>
      rw [hB] at tst hsS
      have hS : showsOf sc cs ds added ft = ((fewer cs added).all fun x => match failW sc cs ds x with | none => false | some f => decide (getF ft x = some f)) := hsS
      have hpres : ∀ s ∈ fewer cs added, (getF ft s).isSome = true := by
        rw [Bool.and_eq_true] at hB
        exact List.all_eq_true.mp hB.2
      refine q_when (b := false) tst (fun z => nomatch z) fun _ H5 e5 => ?_
      have e35 := e34.trans e5
      refine q_forR (Ri := Tr) (xs := fewer cs added) (srcR_list (K := K) (ev_var rfl) (e5 _ _ hf) (rf.ex e5)) (fun H6 i σ' H' => ∃ y z, σ' = [some (.ref p), some (.ref x), some v2, some v3, some (.ref pf), y, z] ∧ Ex H6 H' ∧ showsOf sc cs ds added ft = (((fewer cs added).drop i).all fun x => match failW sc cs ds x with | none => false | some f => decide (getF ft x = some f))) (fun H6 e6 => ⟨none, none, rfl, Ex.refl _, hS⟩) (fun H6 i σ' H' P => by obtain ⟨_, _, _, h, _⟩ := P; exact h) (fun H6 i y v σ' H' e6 hy r P => ?_) fun H6 σ' H' e6 P => ?_
      · obtain ⟨z1, z2, rfl, e7, hall⟩ := P
        have eall := e35.trans (e6.trans e7)
        have hym := List.mem_of_getElem? hy
        have hdr : (fewer cs added).drop i = y :: (fewer cs added).drop (i + 1) := by
          obtain ⟨h1, h2⟩ := List.getElem?_eq_some_iff.mp hy
          rw [← h2]
          exact List.drop_eq_getElem_cons h1
        rw [hdr, List.all_cons] at hall
        refine q_asgD (fw (hf9 y hym) eall (ev_var rfl) (d_var rfl (Dp.ex r2 eall)) (d_var rfl (tr_dp r)) (d_var rfl (Dp.ex r3 eall))) fun vf2 H8 e8 r8 => ?_
        have r' := Tr.ex e8 r
        obtain ⟨g, hg⟩ := Option.isSome_iff_exists.mp (hpres y hym)
        cases hF : failW sc cs ds y with
        | none =>
          rw [hF] at r8 hall
          have hS : showsOf sc cs ds added ft = false := hall
          rw [hS] at k
          exact s_when (b := true) (et_or (a := true) (b := true) (t_test (d_isN (d_var rfl r8))) (fun z => nomatch z)) (fun _ H9 e9 => s_retD (K := K) d_bl fun v H10 e10 r => k v H10 (eall.trans (e8.trans (e9.trans e10))) r) fun z => nomatch z
        | some f =>
          rw [hF] at r8 hall
          obtain ⟨da, hda, hdv⟩ := vD (σ := [some (.ref p), some (.ref x), some v2, some v3, some (.ref pf), some v, some vf2]) (te := tVar 0) (eall.trans e8) (ev_var rfl)
          have hat := d_atT (k := y) (d := g.d) hdv (d_var (i := 5) rfl (tr_dp r')) hda (by rw [getT_ftab, hg]; rfl)
          have tst2 := et_or (a := false) (b := !decide (g = f)) (t_test (d_isN (d_var (K := K) (σ := [some (.ref p), some (.ref x), some v2, some v3, some (.ref pf), some v, some vf2]) (i := 6) rfl r8))) fun _ => evt_to (t_test (d_ne hat (d_var (i := 6) rfl r8) (sh_fail g).ok (sh_fail f).ok)) (by show (!PyData.eqv g.d f.d) = _; rw [eqv_fail])
          by_cases hgf : g = f
          · subst hgf
            refine s_when (b := false) (evt_to tst2 (by simp)) (fun z => nomatch z) fun _ H9 e9 => ⟨_, _, rfl, e7.trans (e8.trans e9), ?_⟩
            rw [hall]
            show (decide (getF ft y = some g) && _) = _
            rw [hg]
            simp
          · refine s_when (b := true) (evt_to tst2 (by simp [hgf])) (fun _ H9 e9 => ?_) fun z => nomatch z
            have hS : showsOf sc cs ds added ft = false := by
              rw [hall]
              show (decide (getF ft y = some f) && _) = _
              rw [hg]
              simp [hgf]
            rw [hS] at k
            exact s_retD (K := K) d_bl fun v H10 e10 r => k v H10 (eall.trans (e8.trans (e9.trans e10))) r
      · obtain ⟨z1, z2, rfl, e7, hall⟩ := P
        rw [List.drop_length] at hall
        have hS : showsOf sc cs ds added ft = true := hall
        rw [hS] at k
        exact (s_retD (K := K) d_bl fun v H10 e10 r => k v H10 (e35.trans (e6.trans (e7.trans e10))) r : tRet (tC (.bl true)) { nx := fun _ H' => Q .non H', rt := Q } [some (.ref p), some (.ref x), some v2, some v3, some (.ref pf), z1, z2] H')
end
end Sc


/-! Sc24: repair. -/
namespace Sc
open PySem PySem.Spec PyProof.Rows L2 Evl
def repairGo (s : Sch) (cs : List Sx) (ds : List Deed) : List (List Sx) → FTab → Option (List Sx × FTab)
  | [], _ => none
  | x :: r, acc => match failW s cs ds x with
    | none => some (x, acc.filter fun p => decide (p.1.length < x.length))
    | some f => repairGo s cs ds r (acc ++ [(x, f)])
def repairOf (s : Sch) (cs : List Sx) (ds : List Deed) : Option (List Sx × FTab) := repairGo s cs ds (setsOf (poolOf cs)) []
def RepR (K : PySem.W.Frag) (H : Hp) (v : V) : Option (List Sx × FTab) → Prop
  | none => v = .non
  | some r => ∃ p, v = .ref p ∧ RepAt K H p r.1 (ftab r.2)
def sp_repair (K : PySem.W.Frag) : Sp := fun vs H Q _ => ∃ as, Ars K H as vs ∧ ∃ x s e cs e' ds, as = [.val (.ref x), .dat e, .dat e'] ∧ SchAt K H x s ∧ carD e cs ∧ CaresOk cs ∧ seqD e' ds ∧ DsOk s ds ∧ ∀ v H', Ex H H' → RepR K H' v (repairOf s cs ds) → Q v H'
section
variable {K : PySem.W.Frag} {σ : L2.St} {H : Hp} {D : Ends} {tl td ty tv te tsv : TE} {tu tz : TS} {j i : Nat} {a C : Addr} {t : Tab} {k : List Sx} {d : PD}
theorem q_forL {α : Type} {R : Rl α} {xs : List α} (h : EvnR R tl σ H xs)
    (k : ∀ p vs H2, H p = none → Ex H H2 → H2 p = some (.lst vs) → AllR R H2 vs xs → ∃ Pv : Nat → L2.St → Hp → Prop, Pv 0 σ H2 ∧ (∀ i σ' H', Pv i σ' H' → H' p = some (.lst vs)) ∧
      (∀ i x v σ' H', xs[i]? = some x → vs[i]? = some v → Pv i σ' H' → tu { D with nx := Pv (i + 1), ct := Pv (i + 1), bk := tz D } (σ'.set j (some v)) H') ∧ ∀ σ' H', Pv xs.length σ' H' → tz D σ' H') :
    tSeq (tFor (iList K tl) (gName j) tu) tz D σ H :=
  h H (Ex.refl _) _ fun p vs H2 hp e h2 r => by
    obtain ⟨Pv, p0, pG, pt, pd⟩ := k p vs H2 hp e h2 r
    refine ⟨p, rfl, ⟨vs, sq_of h2⟩, for_it (walk_list (K := K)) Pv p0 (fun i σ' H' _ P => sq_of (pG i σ' H' P)) (fun i x σ' H' H'' hi P Y => ?_) fun σ' H' P => pd σ' H' (by rw [← r.length]; exact P)⟩
    obtain ⟨rfl, hv⟩ := Y
    obtain ⟨y, hy, _⟩ := r.getV hv
    exact pt i y x σ' _ hy hv P
theorem s_dputT (hd : Ev td σ H (.ref a)) (hk : EvR Tr ty σ H k) (hv : Evd K tv σ H d) (ha : DTab K H a t) (hl : t.length ≤ 40000) (hi : Imm d = true)
    (c : ∀ H1 H2 kvs us, Ex H H1 → H1 a = some (.dT kvs) → H2 = upd H1 a (.dT us) → DTab K H2 a (putT t k d) → D.nx σ H2) : sDPut td ty tv D σ H :=
  hv H (Ex.refl _) _ fun v H1 e1 r1 => hd H1 e1 _ fun H2 e2 => hk H2 (e1.trans e2) _ fun y H3 e3 r3 => by
    obtain ⟨kvs, h1, h2⟩ := ha.ex ((e1.trans e2).trans e3)
    obtain ⟨b, rfl, hb⟩ := r3
    have tk : Tk H3 (upd H3 a (.dT (putK kvs (keyT k) v))) := Tk.ob h1 (fun _ z => nomatch z) fun _ _ z => nomatch z
    refine ⟨a, _, rfl, .inr ⟨kvs, keyT k, b, h1, rfl, by rw [keyT_kV]; exact hb, sz_lt (by rw [h2.length]; omega), rfl⟩, ?_⟩
    exact c H3 _ kvs _ ((e1.trans e2).trans e3) h1 rfl ⟨_, upd_same, (h2.put ((r1.ex e2).ex e3) hi).tk tk⟩
theorem q_newT (k : ∀ p H1, H p = none → Ex H H1 → DTab K H1 p [] → tz D (σ.set i (some (.ref p))) H1) : tSeq (tAsg tDNewT (gName i)) tz D σ H := fun p hp => k p _ hp (Ex.new hp) ⟨[], upd_same, trivial⟩
theorem d_atF {o : Obj} {kvs : List (KeyT × V)} (hd : Ev td σ H (.ref a)) (hk : Evd K ty σ H (setD k)) (ha : H a = some (.frz o (.dT kvs))) (hT : TabR K H kvs t) (hg : getT t k = some d) : Evd K (tDGetS K td ty) σ H d := fun H1 e Q q =>
  hd H1 e _ fun H2 e2 => hk H2 (e.trans e2) _ fun v H3 e3 r3 => by
    have e' := (e.trans e2).trans e3
    obtain ⟨b, rfl, hs⟩ := keySq r3
    rcases (hT.tk (Tk.of e')).get k with ⟨g1, g2⟩ | ⟨v', d', g1, g2, g3, _⟩
    · rw [hg] at g2; cases g2
    · rw [hg] at g2
      cases g2
      exact ⟨a, v', rfl, ⟨kvs, keyT k, b, .inr ⟨o, e' _ _ ha⟩, rfl, hs, g1.symm⟩, q v' H3 (e2.trans e3) g3⟩
/-- Repair(..) -/
theorem e_makeR {ta tb : TE} {x : List Sx} (h1 : Evd K ta σ H (setD x)) (h2 : ∀ H1, Ex H H1 → EvDT K tb σ H1 t) (hn : (t.map (·.1)).Nodup) (hz : t.length ≤ 40000) (Q : VK) (k : ∀ p H', Ex H H' → RepAt K H' p x t → Q (.ref p) H') :
    tMake (He.ga K "Repair") (sp_rinit K) [] E0 (tCons ta (tCons tb tNil)) σ H Q :=
  h1 H (Ex.refl _) _ fun v H1 e1 r1 => h2 H1 e1 H1 (Ex.refl _) _ fun l H2 hl e2 hT => by
    intro p dx hp hdx hne
    have e3 : Ex H2 (upd (upd H2 dx (.own p)) p (.ins (He.ga K "Repair") dx [])) := fun a o h => by
      rw [upd_ne (nold h hp), upd_ne (nold h hdx)]
      exact h
    refine ⟨p, dx, v, x, l, t, rfl, upd_same, (r1.ex e2).ex e3, hT.ex e3, hn, hz, fun H' xa hR => ⟨rfl, k p H' (fun a o h => ?_) hR⟩⟩
    have h' := (e1.trans e2) a o h
    exact xa a o (nold h' hp) (e3 a o h')
end
theorem getT_mem {k : List Sx} {d : PD} : ∀ {t : Tab}, (t.map (·.1)).Nodup → (k, d) ∈ t → getT t k = some d
  | [], _, h => by cases h
  | p :: r, hn, h => by
    rw [List.map_cons, List.nodup_cons] at hn
    rw [getT_cons]
    rcases List.mem_cons.mp h with rfl | h
    · simp
    · have : ¬ p.1 = k := fun e => hn.1 (List.mem_map.mpr ⟨(k, d), h, e.symm⟩)
      rw [if_neg this]
      exact getT_mem hn.2 h
section
variable {P : Program} {w : World} {K : PySem.W.Frag} {mg : PySem.Str → Option Value} {base : Heap}
abbrev nm_repair : List PySem.Str := ["scheme", "cares", "deeds", "doubts", "some", "failure", "one"]
theorem sc_repair : FnScope nm_repair ["scheme", "cares", "deeds"] (defScope s_repair) := ⟨rfl, rfl, rfl, by decide +kernel, rfl, by decide +kernel, by decide +kernel⟩
theorem ok_repair (T : Tx K mg) : FR P w K mg base 9 "repair" (sp_repair K) := by
  refine fr_of (k := 8) (N := nm_repair) (ps := ["scheme", "cares", "deeds"]) (gl_repair T) (T.c.d.def_ 51 (d := d_repair)) sc_repair (fun _ _ _ _ _ _ us hl => match us, hl with | [_, _, _], _ => rfl) (fun vs H Q E h => ?_) (fun cdv A outer s H vs Q E hr h => ?_)
  · obtain ⟨as, hA, x, sc, e, cs, e', ds, rfl, hs, hc, hk, hq, hd, k⟩ := h
    exact hA.length
  · obtain ⟨as, hA, x, sc, e, cs, e', ds, rfl, hs, hc, hk, hq, hd, k⟩ := h
    obtain ⟨v0, _, rfl, rfl, v1, _, rfl, r1, v2, _, rfl, r2, rfl⟩ := hA
    obtain ⟨fdR, Fr, Br⟩ := ok_rinit (P := P) (w := w) (base := base) T
    refine ⟨_, (pss_cons (ps_expr (pe_cR (ok_check_both T) hr (by rfl) (pa_cons (pv 0) (pa_cons (pv 1) pa_nil))))
      (pss_cons (ps_expr (pe_cR (ok_check_deeds T) hr (by rfl) (pa_cons (pv 0) (pa_cons (pv 2) pa_nil))))
      (pss_cons (ps_set (i := 3) sc_repair.nd rfl (Or.inr rfl) pe_dnewT)
      (pss_cons (ps_for PassesOwn.never rfl (pi_listK (K := K) rfl (pe_cR (ok_additions T) hr (by rfl) (pa_cons (pv 1) pa_nil))) (pg_name (i := 4) sc_repair.nd rfl (Or.inr rfl)) (pss_cons (ps_set (i := 5) sc_repair.nd rfl (Or.inl rfl) (pe_cR (ok_failure_with T) hr (by rfl) (pa_cons (pv 0) (pa_cons (pv 1) (pa_cons (pv 4) (pa_cons (pv 2) pa_nil))))))
      (pss_cons (ps_if (pt_cmpR op_isN (pv 5) pe_non (nomark _)) (pss_one (ps_ret (pe_make (mk_Repair T) Fr (hr.mono (by decide)) (by rfl) (gl_Repair T) Br .nil pass0 (pa_cons (pv 4) (pa_cons (pe_lock (pe_dcT (own := [("one", 6)]) rfl (hu_of hr) sc_repair.nd (pi_keys (pv 3)) (blkOk_by (own := [("one", 6)]) (N := nm_repair) (sc := defScope s_repair) (by decide +kernel)) (fun _ _ _ _ _ => (pg_name (i := 6) sc_repair.nd rfl (Or.inl rfl))) (fun _ _ _ _ _ => (pts_one (pt_cmpR op_lt (pe_callB (call_lenK (K := K) rfl) (by rfl) (fr_len T) (by decide +kernel) (pa_cons (pv 6) pa_nil)) (pe_callB (call_lenK (K := K) rfl) (by rfl) (fr_len T) (by decide +kernel) (pa_cons (pv 4) pa_nil)) (nomark _)))) (fun _ _ _ _ _ => (pv 6)) (fun _ _ _ _ _ => (pe_dgetS (K := K) rfl (hu_of hr) (pv 3) (pv 6) (fun _ _ => rfl))))) pa_nil))))) pss_nil)
      (pss_one (ps_dput (hu_of hr) (pv 3) (pv 4) (pv 5) rfl)))))
      (pss_one (ps_ret pe_non)))))), ?_⟩
    refine q_dropD (d_call (a_consV (ev_var rfl) (a_cons (d_var rfl r1) a_nil)) fun H1 e1 => ⟨x, sc, e, cs, rfl, hs.ex e1, hc, hk, rfl⟩) fun _ H1 e1 _ => ?_
    refine q_dropD (d_call (a_consV (ev_var rfl) (a_cons (d_var rfl (Dp.ex r2 e1)) a_nil)) fun H2 e2 => ⟨x, sc, e', ds, rfl, (hs.ex e1).ex e2, hq, hd, rfl⟩) fun _ H2 e2 _ => ?_
    have e12 := e1.trans e2
    have k : ∀ v H', Ex H2 H' → RepR K H' v (repairOf sc cs ds) → Q v H' := fun v H' e r => k v H' (e12.trans e) r
    have hs := hs.ex e12
    have r1 := Dp.ex r1 e12
    have r2 := Dp.ex r2 e12
    refine q_newT (K := K) fun a H3 na e3 hT0 => ?_
    have hpool := pool_ok cs
    have hsl := sets_len hpool
    have hnd := sets_nodup hpool.2
    refine q_forL (EvnR.to (n_callN (K := K) (R := Tr) (a_cons (d_var rfl (Dp.ex r1 e3)) a_nil) fun H4 e4 => ⟨e, cs, rfl, hc, rfl⟩) rfl) fun p vs H4 np e4 hp rp => ?_
    refine ⟨fun i σ' H' => ∃ y z ft, σ' = [some (.ref x), some v1, some v2, some (.ref a), y, z, none] ∧ Ex H2 H' ∧ H' p = some (.lst vs) ∧ AllR Tr H' vs (setsOf (poolOf cs)) ∧ DTab K H' a (ftab ft) ∧ ft.map (·.1) = (setsOf (poolOf cs)).take i ∧ repairOf sc cs ds = repairGo sc cs ds ((setsOf (poolOf cs)).drop i) ft,
      ⟨none, none, [], rfl, e3.trans e4, hp, rp, hT0.ex e4, rfl, rfl⟩, fun i σ' H' ⟨_, _, _, _, _, h, _⟩ => h, fun i y v σ' H' hy hv P => ?_, fun σ' H' P => ?_⟩
    · obtain ⟨z1, z2, ft, rfl, eH, hp', rp', hT, hkeys, hgo⟩ := P
      obtain ⟨y', hy', ry⟩ := rp'.getV hv
      rw [hy] at hy'
      cases hy'
      have hym := List.mem_of_getElem? hy
      have hy9 : y.length ≤ 9 := cares_len (sets_ok hpool hym)
      have hc9 := cares_len hk
      have hdr : (setsOf (poolOf cs)).drop i = y :: (setsOf (poolOf cs)).drop (i + 1) := by
        obtain ⟨h1, h2⟩ := List.getElem?_eq_some_iff.mp hy
        rw [← h2]
        exact List.drop_eq_getElem_cons h1
      have htk : (setsOf (poolOf cs)).take (i + 1) = (setsOf (poolOf cs)).take i ++ [y] := by rw [List.take_succ, hy] <;> rfl
      rw [hdr] at hgo
      have hfl : ft.length ≤ 512 := by
        have := congrArg List.length hkeys
        rw [List.length_map, List.length_take] at this
        omega
      have hnk : (ft.map (·.1)).Nodup := by rw [hkeys]; exact (List.take_sublist _ _).nodup hnd
      refine q_asgD (d_call (a_consV (ev_var rfl) (a_cons (d_var rfl (Dp.ex r1 eH)) (a_cons (d_var rfl (tr_dp ry)) (a_cons (d_var rfl (Dp.ex r2 eH)) a_nil)))) fun H5 e5 => ⟨x, sc, e, cs, y, e', ds, rfl, (hs.ex eH).ex e5, hc, by omega, hq, hd, rfl⟩) fun vf H5 e5 r5 => ?_
      have r5 : Dp K H5 vf (failD (failW sc cs ds y)) := r5
      have ry5 := Tr.ex e5 ry
      have hT5 := hT.ex e5
      cases hF : failW sc cs ds y with
      | none =>
        rw [hF] at r5
        have hgo : repairOf sc cs ds = some (y, ft.filter fun p => decide (p.1.length < y.length)) := by
          rw [hgo]
          show (match failW sc cs ds y with | none => _ | some f => _) = _
          rw [hF]
        rw [hgo] at k
        refine q_when (b := true) (t_test (d_isN (d_var rfl r5))) (fun _ H6 e6 => ?_) fun z => nomatch z
        have hff : (ftab ft).filter (fun q => decide (q.1.length < y.length)) = ftab (ft.filter fun p => decide (p.1.length < y.length)) := by
          unfold ftab
          rw [List.filter_map]
          rfl
        have hkf : ((ftab ft).map (·.1)).Nodup := by
          unfold ftab
          rw [List.map_map]
          exact hnk
        refine e_makeR (K := K) (x := y) (t := ftab (ft.filter fun p => decide (p.1.length < y.length))) (d_var (i := 4) rfl (tr_dp (Tr.ex e6 ry5))) (fun H7 e7 => ?_) ?_ ?_ _ fun pr H7 e7 hR => k _ H7 (eH.trans (e5.trans (e6.trans e7))) ⟨pr, rfl, hR⟩
        · rw [← hff]
          refine k_keysT (p := fun s => decide (s.length < y.length)) (i := 3) rfl ((hT5.ex e6).ex e7) hkf (by rw [ftab_len]; omega) (fun _ => ⟨rfl, rfl⟩) fun H8 kvs od e8 h8 H9 v9 s9 d9 hm9 e9 r9 hT9 => ?_
          have ea : Ex (upd H8 a (.frz od (.dT kvs))) H9 := e9
          have ry9 : Tr.r H9 v y := by
            have r8 := Tr.ex e8 (Tr.ex e7 (Tr.ex e6 ry5))
            obtain ⟨b, rfl, hb⟩ := r8
            refine ⟨b, rfl, e9 _ _ ?_⟩
            rw [upd_ne (ne_of hb h8 (fun z => nomatch z))]
            exact hb
          refine ⟨evt_to (t_test (d_lt (d_lenS (ds := s9.map .str) (d_var (i := 6) rfl (tr_dp r9)) (.inr rfl)) (d_lenS (ds := y.map .str) (d_var (i := 4) rfl (tr_dp ry9)) (.inr rfl)))) (by simp), fun _ => d_atF (ev_var (i := 3) rfl) (d_var (i := 6) rfl (tr_dp r9)) (e9 _ _ upd_same) hT9 ?_⟩
          exact getT_mem hkf hm9
        · rw [← hff]
          exact hkf.sublist ((List.filter_sublist).map _)
        · rw [ftab_len]
          have := List.length_filter_le (fun p : List Sx × Fail => decide (p.1.length < y.length)) ft
          omega
      | some f =>
        rw [hF] at r5
        have hgo : repairOf sc cs ds = repairGo sc cs ds ((setsOf (poolOf cs)).drop (i + 1)) (ft ++ [(y, f)]) := by
          rw [hgo]
          show (match failW sc cs ds y with | none => _ | some f => _) = _
          rw [hF]
        refine q_when (b := false) (t_test (d_isN (d_var rfl r5))) (fun z => nomatch z) fun _ H6 e6 => ?_
        refine s_dputT (K := K) (k := y) (d := f.d) (t := ftab ft) (ev_var (i := 3) rfl) (r_var (i := 4) rfl (Tr.ex e6 ry5)) (d_var (i := 5) rfl (Dp.ex r5 e6)) (hT5.ex e6) (by rw [ftab_len]; omega) (imm_failD (some f)) fun H7 H8 kvs us e7 h7 h8 hT8 => ?_
        subst h8
        have e67 := (e5.trans e6).trans e7
        refine ⟨_, _, ft ++ [(y, f)], rfl, (eH.trans e67).mut na, ?_, ?_, ?_, ?_, hgo⟩
        · have h' := e67 _ _ hp'
          rw [upd_ne (ne_of h' h7 (fun z => nomatch z))]
          exact h'
        · exact AllR.mono (R := Tr) (R' := Tr) (fun v x ⟨b, hb1, hb2⟩ => ⟨b, hb1, by rw [upd_ne (ne_of hb2 h7 (fun z => nomatch z))]; exact hb2⟩) (rp'.ex e67)
        · have hput : putT (ftab ft) y f.d = ftab (ft ++ [(y, f)]) := by
            unfold putT
            rw [if_neg]
            · unfold ftab
              rw [List.map_append]
              rfl
            · rw [List.any_eq_true]
              rintro ⟨q, hq, e⟩
              have e : q.1 = y := of_decide_eq_true e
              obtain ⟨q', hq', rfl⟩ := List.mem_map.mp hq
              have h1 : y ∈ (setsOf (poolOf cs)).take i := by rw [← hkeys]; exact List.mem_map.mpr ⟨q', hq', e⟩
              have h2 : ((setsOf (poolOf cs)).take (i + 1)).Nodup := (List.take_sublist _ _).nodup hnd
              rw [htk] at h2
              exact (List.nodup_append.mp h2).2.2 y h1 y (List.mem_singleton.mpr rfl) rfl
          rw [← hput]
          exact hT8
        · rw [List.map_append, hkeys, htk]
          rfl
    · obtain ⟨z1, z2, ft, rfl, eH, hp', rp', hT, hkeys, hgo⟩ := P
      rw [List.drop_length] at hgo
      rw [hgo] at k
      exact (s_retD (K := K) d_non fun v H10 e10 r => k v H10 (eH.trans e10) (Dp.nonV r) : tRet (tC .non) { nx := fun _ H' => Q .non H', rt := Q } [some (.ref x), some v1, some v2, some (.ref a), z1, z2, none] H')
end
end Sc


/-! Sc25: the law's draws. -/
namespace Sc
open PySem PySem.Spec PyProof.Rows L2 Evl
theorem d_int1 {K : PySem.W.Frag} {σ : L2.St} {H : Hp} {ta : TE} {i : Int} (ha : Evd K ta σ H (.int i)) : Evd K (tCB (fun xs H Q => (∃ i, xs = [V.int i] ∧ Q (.int i) H) ∨ ∃ k, xs = [V.bl k] ∧ Q (.int (if k = true then 1 else 0)) H) (tCons ta tNil)) σ H (.int i) := fun H1 e Q q =>
  ha.int H1 e _ fun H2 e2 => .inl ⟨i, rfl, q _ H2 e2 (.int _)⟩
theorem d_mod {K : PySem.W.Frag} {σ : L2.St} {H : Hp} {ta tb : TE} {i j : Int} (ha : Evd K ta σ H (.int i)) (hb : Evd K tb σ H (.int j)) (h : 0 < j) : Evd K (tOp (rI (fun _ j => 0 < j) fun i j => .int (i % j)) ta tb) σ H (.int (i % j)) := d_I ha hb h fun _ => .int _
theorem d_mul {K : PySem.W.Frag} {σ : L2.St} {H : Hp} {ta tb : TE} {i j : Int} (ha : Evd K ta σ H (.int i)) (hb : Evd K tb σ H (.int j)) (h : CMul i j) : Evd K (tOp (rI CMul fun i j => .int (i * j)) ta tb) σ H (.int (i * j)) := d_I ha hb h fun _ => .int _
theorem d_div {K : PySem.W.Frag} {σ : L2.St} {H : Hp} {ta tb : TE} {i j : Int} (ha : Evd K ta σ H (.int i)) (hb : Evd K tb σ H (.int j)) (h : CDiv i j) : Evd K (tOp (rI CDiv fun i j => .int (i / j)) ta tb) σ H (.int (i / j)) := d_I ha hb h fun _ => .int _
theorem d_divW {K : PySem.W.Frag} {σ : L2.St} {H : Hp} {ta tb : TE} {i j : Int} (ha : Evd K ta σ H (.int i)) (hb : Evd K tb σ H (.int j)) (h : CDivW i j) : Evd K (tOp (rI CDivW fun i j => .int (i / j)) ta tb) σ H (.int (i / j)) := d_I ha hb h fun _ => .int _
theorem d_pow {K : PySem.W.Frag} {σ : L2.St} {H : Hp} {ta tb : TE} {i j : Int} (ha : Evd K ta σ H (.int i)) (hb : Evd K tb σ H (.int j)) (h : CPow i j) : Evd K (tOp (rI CPow fun i j => .int (i ^ j.toNat)) ta tb) σ H (.int (i ^ j.toNat)) := d_I ha hb h fun _ => .int _
theorem call_any {K : PySem.W.Frag} {σ : L2.St} {H : Hp} {ta : TA} {as : List Ar} {sp : Sp} {E : XK} {Q : VK} (h : Eva K ta σ H as) (hP : ∀ H1 vs, Ex H H1 → Ars K H1 as vs → sp vs H1 Q E) : tCallR sp E ta σ H Q := h H (Ex.refl _) _ fun vs H1 e r => hP H1 vs e r
/-- some number below b -/
def EvI (te : TE) (σ : L2.St) (H : Hp) (b : Nat) : Prop := ∀ H1, Ex H H1 → ∀ Q : VK, (∀ (r : Nat) H2, Ex H1 H2 → r < b → Q (.int (r : Int)) H2) → te σ H1 Q
def primes16 : List Int := [1000003, 1000033, 1000037, 1000039, 1000081, 1000099, 1000117, 1000121, 1000133, 1000151, 1000159, 1000171, 1000183, 1000187, 1000193, 1000199]
theorem primes_pos : ∀ p ∈ primes16, 0 < p := by decide
theorem mod_nat (i : Int) {b : Nat} (h : 0 < b) : ∃ r : Nat, r < b ∧ i % (b : Int) = (r : Int) := ⟨(i % (b : Int)).toNat, by have h1 := Int.emod_lt_of_pos i (show (0 : Int) < b by omega); have h2 := Int.emod_nonneg i (show (b : Int) ≠ 0 by omega); omega, by have h2 := Int.emod_nonneg i (show (b : Int) ≠ 0 by omega); omega⟩
section
variable {P : Program} {w : World} {K : PySem.W.Frag} {mg : PySem.Str → Option Value} {base : Heap}
def cellAt (is : List Int) (k : Int) : Int := (is[k.toNat]?).getD 0
def sp_law_cell_at (K : PySem.W.Frag) : Sp := spP K fun _ as r => ∃ (is : List Int) (k : Nat), as = [.dat (.list (is.map .int)), .dat (.int (k : Int))] ∧ r = .int (cellAt is k)
def sp_law_draw (K : PySem.W.Frag) : Sp := fun vs H Q _ => ∃ (c : Int) (k b : Nat), 0 < b ∧ vs = [.int c, .int (k : Int), .int (b : Int)] ∧ ∀ H' (r : Nat), Ex H H' → r < b → Q (.int (r : Int)) H'
abbrev nm__law_cell_at : List PySem.Str := ["_law_script", "_law_k"]
theorem sc__law_cell_at : FnScope nm__law_cell_at ["_law_script", "_law_k"] (defScope s__law_cell_at) := ⟨rfl, rfl, rfl, by decide +kernel, rfl, by decide +kernel, by decide +kernel⟩
theorem ok__law_cell_at (T : Tx K mg) : FR P w K mg base 1 "_law_cell_at" (sp_law_cell_at K) := by
  refine fr_of (k := 0) (N := nm__law_cell_at) (ps := ["_law_script", "_law_k"]) (gl__law_cell_at T) (T.c.d.def_ 52 (d := d__law_cell_at)) sc__law_cell_at (fun _ _ _ _ _ _ us hl => match us, hl with | [_, _], _ => rfl) (fun vs H Q E h => ?_) (fun cdv A outer s H vs Q E hr h => ?_)
  · obtain ⟨as, r, hA, ⟨is, k, rfl, rfl⟩, _⟩ := h
    exact hA.length
  · obtain ⟨as, r, hA, ⟨is, k', rfl, rfl⟩, k⟩ := h
    obtain ⟨v0, _, rfl, r0, v1, _, rfl, r1, rfl⟩ := hA
    refine ⟨_, (pss_cons (ps_if (pt_cmpR op_lt (pv 1) (pe_callB (call_lenK (K := K) rfl) (by rfl) (fr_len T) (by decide +kernel) (pa_cons (pv 0) pa_nil)) (nomark _)) (pss_one (ps_ret (pe_ix (ix_listK (K := K) rfl) (pv 0) (pv 1) (fun _ _ => rfl)))) pss_nil)
      (pss_one (ps_ret pe_int))), ?_⟩
    have hl : cellAt is k' = (is[k']?).getD 0 := rfl
    by_cases hk : k' < is.length
    · have hc : is[k']? = some (cellAt is k') := by rw [hl, List.getElem?_eq_getElem hk]; rfl
      refine q_when (b := true) (evt_to (t_test (d_lt (d_var rfl r1) (d_lenS (d_var rfl r0) (.inl rfl)))) (by rw [List.length_map]; simpa using hk)) (fun _ H1 e1 => s_retD (d_ixL (d_var rfl (Dp.ex r0 e1)) (d_var rfl (Dp.ex r1 e1)) (atI_of (by rw [List.getElem?_map, hc]; rfl))) fun v H2 e2 r => k v H2 (e1.trans e2) r) fun z => nomatch z
    · have hc : cellAt is k' = 0 := by rw [hl, List.getElem?_eq_none (by omega)]; rfl
      rw [hc] at k
      refine q_when (b := false) (evt_to (t_test (d_lt (d_var rfl r1) (d_lenS (d_var rfl r0) (.inl rfl)))) (by rw [List.length_map]; simpa using hk)) (fun z => nomatch z) fun _ H1 e1 => s_retD d_int fun v H2 e2 r => k v H2 (e1.trans e2) r
abbrev nm__law_draw : List PySem.Str := ["_law_cell", "_law_k", "_law_bound", "_law_primes"]
theorem sc__law_draw : FnScope nm__law_draw ["_law_cell", "_law_k", "_law_bound"] (defScope s__law_draw) := ⟨rfl, rfl, rfl, by decide +kernel, rfl, by decide +kernel, by decide +kernel⟩
theorem ok__law_draw (T : Tx K mg) : FR P w K mg base 1 "_law_draw" (sp_law_draw K) := by
  refine fr_of (k := 0) (N := nm__law_draw) (ps := ["_law_cell", "_law_k", "_law_bound"]) (gl__law_draw T) (T.c.d.def_ 53 (d := d__law_draw)) sc__law_draw (fun _ _ _ _ _ _ us hl => match us, hl with | [_, _, _], _ => rfl) (fun vs H Q E h => ?_) (fun cdv A outer s H vs Q E hr h => ?_)
  · obtain ⟨c, k, b, hb, rfl, _⟩ := h
    rfl
  · obtain ⟨c, k', b, hb, rfl, k⟩ := h
    refine ⟨_, (pss_cons (ps_set (i := 3) sc__law_draw.nd rfl (Or.inl rfl) (pe_tup (pa_cons pe_int (pa_cons pe_int (pa_cons pe_int (pa_cons pe_int (pa_cons pe_int (pa_cons pe_int (pa_cons pe_int (pa_cons pe_int (pa_cons pe_int (pa_cons pe_int (pa_cons pe_int (pa_cons pe_int (pa_cons pe_int (pa_cons pe_int (pa_cons pe_int (pa_cons pe_int pa_nil))))))))))))))))))
      (pss_one (ps_ret (pe_op op_mod (pe_op op_mod (pe_callTy call_int1 (by rfl) (fr_int T) (by decide +kernel) (pa_cons (pe_op op_add (pe_op op_mul (pv 0) pe_int) (pe_op op_mul (pv 1) pe_int)) pa_nil)) (pe_ix (ix_tupK (K := K) rfl) (pv 3) (pe_op op_mod (pe_callTy call_int1 (by rfl) (fr_int T) (by decide +kernel) (pa_cons (pv 1) pa_nil)) pe_int) (fun _ _ => rfl))) (pv 2))))), ?_⟩
    refine q_asgD (K := K) (d := .tuple (primes16.map .int)) (d_tup (e_cons d_int (e_cons d_int (e_cons d_int (e_cons d_int (e_cons d_int (e_cons d_int (e_cons d_int (e_cons d_int (e_cons d_int (e_cons d_int (e_cons d_int (e_cons d_int (e_cons d_int (e_cons d_int (e_cons d_int (e_cons d_int e_nil)))))))))))))))) (by decide)) fun vp H1 e1 rp => ?_
    obtain ⟨i, hi, ei⟩ := mod_nat (k' : Int) (b := 16) (by decide)
    have hlt : i < primes16.length := hi
    have hp := primes_pos _ (List.getElem_mem hlt)
    obtain ⟨r, hr', er⟩ := mod_nat ((c * 48271 + (k' : Int) * 69621) % primes16[i]) hb
    have hcm : ∀ x : Int, CMul x 48271 ∧ CMul x 69621 := fun x => ⟨.inr ⟨by decide, by decide⟩, .inr ⟨by decide, by decide⟩⟩
    refine s_retD (K := K) (d := .int (r : Int)) (Evd.to (d_mod (j := (b : Int)) (d_mod (j := primes16[i]) (d_int1 (d_add (d_mul (d_var (d := .int c) rfl (.int _)) d_int (hcm _).1) (d_mul (d_var (d := .int (k' : Int)) rfl (.int _)) d_int (hcm _).2))) (d_ixT (i := (i : Int)) (d_var rfl rp) (Evd.to (d_mod (d_int1 (d_var (d := .int (k' : Int)) rfl (.int _))) d_int (by decide)) (by rw [← ei]; rfl)) (atI_of (by rw [List.getElem?_map, List.getElem?_eq_getElem hlt]; rfl))) hp) (d_var (d := .int (b : Int)) rfl (.int _)) (by omega)) (by rw [er])) fun v H2 e2 rv => ?_
    rw [rv.intV]
    exact k H2 r (e1.trans e2) hr'
def sp_law_number (K : PySem.W.Frag) : Sp := fun vs H Q _ => ∃ (c : Int) (k b : Nat), 0 < b ∧ k ≤ 12 ∧ vs = [.int c, .int (k : Int), .int (b : Int)] ∧ ∀ H' (r : Nat), Ex H H' → r < b → Q (.int (r : Int)) H'
abbrev nm__law_number : List PySem.Str := ["_law_cell", "_law_k", "_law_bound", "_law_power", "_law_times", "_law_remains", "_law_small"]
theorem sc__law_number : FnScope nm__law_number ["_law_cell", "_law_k", "_law_bound"] (defScope s__law_number) := ⟨rfl, rfl, rfl, by decide +kernel, rfl, by decide +kernel, by decide +kernel⟩
theorem ok__law_number (T : Tx K mg) : FR P w K mg base 2 "_law_number" (sp_law_number K) := by
  refine fr_of (k := 1) (N := nm__law_number) (ps := ["_law_cell", "_law_k", "_law_bound"]) (gl__law_number T) (T.c.d.def_ 54 (d := d__law_number)) sc__law_number (fun _ _ _ _ _ _ us hl => match us, hl with | [_, _, _], _ => rfl) (fun vs H Q E h => ?_) (fun cdv A outer s H vs Q E hr h => ?_)
  · obtain ⟨c, k, b, hb, hk, rfl, _⟩ := h
    rfl
  · obtain ⟨c, k', b, hb, hk, rfl, k⟩ := h
    refine ⟨_, (pss_cons (ps_set (i := 3) sc__law_number.nd rfl (Or.inl rfl) pe_int)
      (pss_cons (ps_for PassesOwn.never rfl (pi_range1 rfl (fr_range T) (pa_cons (pe_op op_mod (pe_callTy call_int1 (by rfl) (fr_int T) (by decide +kernel) (pa_cons (pv 1) pa_nil)) pe_int) pa_nil)) (pg_name (i := 4) sc__law_number.nd rfl (Or.inl rfl)) (pss_one (ps_set (i := 3) sc__law_number.nd rfl (Or.inl rfl) (pe_op op_mul (pv 3) pe_int))))
      (pss_cons (ps_set (i := 5) sc__law_number.nd rfl (Or.inl rfl) (pe_op op_fdivW (pe_op op_sub (pv 0) (pe_op op_pow pe_int pe_int)) (pv 3)))
      (pss_cons (ps_if (pt_cmpR op_gt (pv 5) pe_int (nomark _)) (pss_one (ps_ret (pe_op op_mod (pe_op op_mod (pe_callTy call_int1 (by rfl) (fr_int T) (by decide +kernel) (pa_cons (pv 5) pa_nil)) pe_int) (pv 2)))) pss_nil)
      (pss_cons (ps_set (i := 6) sc__law_number.nd rfl (Or.inl rfl) (pe_op op_mod (pe_callTy call_int1 (by rfl) (fr_int T) (by decide +kernel) (pa_cons (pv 0) pa_nil)) pe_int))
      (pss_one (ps_ret (pe_op op_mod (pe_cR (ok__law_draw T) hr (by rfl) (pa_cons (pe_op op_mul (pe_op op_add (pv 6) (pe_op op_mul pe_int (pv 1))) (pe_op op_add (pe_op op_add (pv 6) (pe_op op_mul pe_int (pv 1))) pe_int)) (pa_cons (pe_op op_add (pe_op op_mod (pe_callTy call_int1 (by rfl) (fr_int T) (by decide +kernel) (pa_cons (pv 1) pa_nil)) pe_int) pe_int) (pa_cons pe_int pa_nil)))) (pv 2))))))))), ?_⟩
    have hmod : ∀ {σ : L2.St} {H : Hp} {v : V}, σ[1]? = some (some (.int (k' : Int))) → Evd K (tOp (rI (fun _ j => 0 < j) fun i j => .int (i % j)) (tCB (fun xs H Q => (∃ i, xs = [V.int i] ∧ Q (.int i) H) ∨ ∃ k, xs = [V.bl k] ∧ Q (.int (if k = true then 1 else 0)) H) (tCons (tVar 1) tNil)) (tC (.int 24))) σ H (.int (k' : Int)) := fun h => Evd.to (d_mod (d_int1 (d_var (d := .int (k' : Int)) h (.int _))) d_int (by decide)) (by rw [Int.emod_eq_of_lt (by omega) (by omega)])
    refine q_asgD (K := K) d_int fun v1 H1 e1 r1 => ?_
    cases r1
    refine q_forS (K := K) (src_range (n := k') (hmod (v := .non) rfl) (by omega)) (fun H2 i σ' H' => Ex H2 H' ∧ ∃ z, σ' = [some (.int c), some (.int (k' : Int)), some (.int (b : Int)), some (.int (1009 ^ i)), z, none, none]) (fun H2 e2 => ⟨Ex.refl _, none, rfl⟩) (fun H2 i σ' H' P => P.1) (fun H2 i d v σ' H' e2 hd rv P => ?_) fun H2 σ' H' e2 P => ?_
    · obtain ⟨e3, z, rfl⟩ := P
      refine s_asgD (K := K) (d_mul (d_var (d := .int (1009 ^ i)) rfl (.int _)) d_int (.inr ⟨by decide, by decide⟩)) fun v4 H4 e4 r4 => ⟨e3.trans e4, some v, ?_⟩
      rw [r4.intV, show (1009 : Int) ^ i * 1009 = 1009 ^ (i + 1) from (Int.pow_succ ..).symm]
      rfl
    · obtain ⟨e3, z, rfl⟩ := P
      rw [intsP_len]
      have hpos : (0 : Int) < 1009 ^ k' := Int.pow_pos (by decide)
      have hlog : ((1009 : Int) ^ k').natAbs.log2 < 9000 := by
        rw [Int.natAbs_pow]
        refine (Nat.log2_lt (by have : 0 < (1009 : Int).natAbs ^ k' := Nat.pow_pos (by decide); omega)).mpr ?_
        calc (1009 : Int).natAbs ^ k' ≤ 1009 ^ 12 := Nat.pow_le_pow_right (by decide) hk
          _ < 2 ^ 9000 := by
            refine Nat.lt_of_lt_of_le (show 1009 ^ 12 < 2 ^ 120 by decide) (Nat.pow_le_pow_right (by decide) (by decide))
      refine q_asgD (K := K) (d_divW (d_sub (d_var (d := .int c) rfl (.int _)) (d_pow d_int d_int ⟨by decide, by decide, by decide⟩)) (d_var (d := .int (1009 ^ k')) rfl (.int _)) ⟨hpos, hlog⟩) fun v4 H4 e4 r4 => ?_
      rw [r4.intV]
      have e04 := (e1.trans e2).trans (e3.trans e4)
      refine q_when (t_test (d_gt (K := K) (d_var (d := .int _) rfl (.int _)) d_int)) (fun _ H5 e5 => ?_) fun _ H5 e5 => ?_
      · obtain ⟨r, hr', er⟩ := mod_nat ((c - 10 ^ (18 : Int).toNat) / 1009 ^ k' % 1009) hb
        refine s_retD (K := K) (d := .int (r : Int)) (Evd.to (d_mod (d_mod (d_int1 (d_var (d := .int _) rfl (.int _))) d_int (by decide)) (d_var (d := .int (b : Int)) rfl (.int _)) (by omega)) (by rw [er])) fun v H6 e6 rv => ?_
        rw [rv.intV]
        exact k H6 r (e04.trans (e5.trans e6)) hr'
      · obtain ⟨sm, hsm, esm⟩ := mod_nat c (b := 1000003) (by decide)
        refine q_asgD (K := K) (d := .int (sm : Int)) (Evd.to (d_mod (d_int1 (d_var (d := .int c) rfl (.int _))) d_int (by decide)) (by rw [← esm]; rfl)) fun v6 H6 e6 r6 => ?_
        rw [r6.intV]
        have hk9 : ((k' : Int) % 9 + 1) = ((k' % 9 + 1 : Nat) : Int) := by omega
        have EI : EvI (tCallR (sp_law_draw K) E0 (tCons (tOp (rI CMul fun i j => V.int (i * j)) (tOp (rI0 fun i j => V.int (i + j)) (tVar 6) (tOp (rI CMul fun i j => V.int (i * j)) (tC (V.int 977)) (tVar 1))) (tOp (rI0 fun i j => V.int (i + j)) (tOp (rI0 fun i j => V.int (i + j)) (tVar 6) (tOp (rI CMul fun i j => V.int (i * j)) (tC (V.int 31)) (tVar 1))) (tC (V.int 5)))) (tCons (tOp (rI0 fun i j => V.int (i + j)) (tOp (rI (fun x j => 0 < j) fun i j => V.int (i % j)) (tCB (fun xs H Q => (∃ i, xs = [V.int i] ∧ Q (V.int i) H) ∨ ∃ k, xs = [V.bl k] ∧ Q (V.int (if k = true then 1 else 0)) H) (tCons (tVar 1) tNil)) (tC (V.int 9))) (tC (V.int 1))) (tCons (tC (V.int 999983)) tNil))))
            [some (.int c), some (.int (k' : Int)), some (.int (b : Int)), some (.int (1009 ^ k')), z, some (.int ((c - 10 ^ (18 : Int).toNat) / 1009 ^ k')), some (.int (sm : Int))] H6 999983 := fun H7 e7 Q' q' =>
          call_any (K := K) (a_cons (d_mul (d_add (d_var (d := .int (sm : Int)) rfl (.int _)) (d_mul d_int (d_var (d := .int (k' : Int)) rfl (.int _)) (.inl ⟨by decide, by decide⟩))) (d_add (d_add (d_var (d := .int (sm : Int)) rfl (.int _)) (d_mul d_int (d_var (d := .int (k' : Int)) rfl (.int _)) (.inl ⟨by decide, by decide⟩))) d_int) (.inl ⟨by omega, by omega⟩)) (a_cons (Evd.to (d_add (d_mod (d_int1 (d_var (d := .int (k' : Int)) rfl (.int _))) d_int (by decide)) d_int) (by rw [hk9])) (a_cons d_int a_nil))) fun H8 vs e8 hA => by
            obtain ⟨w0, _, rfl, q0, w1, _, rfl, q1, w2, _, rfl, q2, rfl⟩ := hA
            rw [Dp.intV q0, Dp.intV q1, Dp.intV q2]
            exact ⟨_, k' % 9 + 1, 999983, by decide, rfl, fun H' r e hr => q' r H' (e8.trans e) hr⟩
        refine EI H6 (Ex.refl _) _ fun r7 H7 e7 h7 => ?_
        obtain ⟨r, hr', er⟩ := mod_nat (r7 : Int) hb
        refine ⟨_, rfl, _, _, rfl, rfl, (by show (0 : Int) < (b : Int); omega), ?_⟩
        show Q (.int ((r7 : Int) % (b : Int))) H7
        rw [er]
        exact k H7 r (e04.trans (e5.trans (e6.trans e7))) hr'
end
end Sc


/-! Sc26: the law's draws: the next number, a pick. -/
namespace Sc
open PySem PySem.Spec PyProof.Rows L2 Evl
/-- the heap without one place -/
def mn (H : Hp) (D : Addr) : Hp := fun a => if a = D then none else H a
structure Up (D : Addr) (H H' : Hp) : Prop where
  exA : ExA D H H'
  tk : Tk H H'
  dr : ∀ (v : V) (b n : Nat), H D = some (.lst [v, .int (b : Int), .int (n : Int)]) → ∃ n' : Nat, H' D = some (.lst [v, .int (b : Int), .int (n' : Int)])
section
variable {K : PySem.W.Frag} {H H1 H2 H' G : Hp} {D p : Addr} {v : V} {d : PD}
theorem Up.of (e : Ex H H') : Up D H H' := ⟨ExA.of e, Tk.of e, fun _ _ n h => ⟨n, e _ _ h⟩⟩
theorem Up.refl : Up D H H := .of (Ex.refl _)
theorem Up.trans (a : Up D H H1) (b : Up D H1 H2) : Up D H H2 := ⟨a.exA.trans b.exA, a.tk.trans b.tk, fun v c n h => let ⟨_, h1⟩ := a.dr v c n h; b.dr _ _ _ h1⟩
theorem Up.ex (a : Up D H H1) (e : Ex H1 H2) : Up D H H2 := a.trans (.of e)
theorem Up.set {v : V} {b n m : Nat} (a : Up D H H1) (h : H1 D = some (.lst [v, .int (b : Int), .int (n : Int)])) : Up D H (upd H1 D (.lst [v, .int (b : Int), .int (m : Int)])) := a.trans ⟨ExA.up, Tk.lst h, fun v' b' n' h' => by
  rw [h] at h'
  cases h'
  exact ⟨m, upd_same⟩⟩
/-- a new list changes -/
theorem Up.mut {l : Addr} {xs ys : List V} (a : Up D H H1) (hl : H l = none) (h : H1 l = some (.lst xs)) : Up D H (upd H1 l (.lst ys)) := ⟨fun b o n hb => by rw [upd_ne (ne_of_none hb hl)]; exact a.exA b o n hb, a.tk.trans (Tk.lst h), fun v b n hb => by
  rw [upd_ne (ne_of_none hb hl)]
  exact a.dr v b n hb⟩
theorem mn_ex : Ex (mn H D) H := fun a o h => by
  unfold mn at h
  split at h
  · cases h
  · exact h
theorem mn_exA (a : ExA D H H') : Ex (mn H D) (mn H' D) := fun b o h => by
  unfold mn at h ⊢
  split at h
  · cases h
  · rename_i n
    rw [if_neg n]
    exact a b o n h
theorem mn_upd {o : HO} : mn (upd H D o) D = mn H D := funext fun a => by
  unfold mn
  by_cases h : a = D
  · rw [if_pos h, if_pos h]
  · rw [if_neg h, if_neg h, upd_ne h]
theorem mn_tk {xs : List V} (h : H D = some (.lst xs)) : Tk H (mn H D) := fun a ys r => by
  have ne : a ≠ D := fun z => by
    subst z
    rcases r with r | ⟨o, r⟩ <;> rw [h] at r <;> cases r
  unfold Rd mn at *
  rw [if_neg ne]
  exact r
end
def DrawOk (K : PySem.W.Frag) (H : Hp) (D : Addr) : Prop := ∃ (v : V) (by' n : Nat) (is : List Int), H D = some (.lst [v, .int (by' : Int), .int (n : Int)]) ∧ Dp K (mn H D) v (.list (is.map .int))
theorem DrawOk.ex {K : PySem.W.Frag} {H H' : Hp} {D : Addr} (h : DrawOk K H D) (e : Ex H H') : DrawOk K H' D := by
  obtain ⟨v, b, n, is, h1, h2⟩ := h
  exact ⟨v, b, n, is, e _ _ h1, h2.ex (mn_exA (ExA.of e))⟩
theorem DrawOk.up {K : PySem.W.Frag} {H H' : Hp} {D : Addr} (h : DrawOk K H D) (e : Up D H H') : DrawOk K H' D := by
  obtain ⟨v, b, n, is, h1, h2⟩ := h
  obtain ⟨n', h3⟩ := e.dr _ _ _ h1
  exact ⟨v, b, n', is, h3, h2.ex (mn_exA e.exA)⟩
def sp_law_next (K : PySem.W.Frag) : Sp := fun vs H Q _ => ∃ (D : Addr) (b : Nat), 0 < b ∧ vs = [.ref D, .int (b : Int)] ∧ DrawOk K H D ∧ ∀ (r : Nat) H', Up D H H' → r < b → Q (.int (r : Int)) H'
def sp_law_pick (K : PySem.W.Frag) : Sp := fun vs H Q _ => ∃ (D p : Addr) (xs : List V), vs = [.ref D, .ref p] ∧ DrawOk K H D ∧ p ≠ D ∧ H p = some (.lst xs) ∧ xs ≠ [] ∧ ∀ (i : Nat) x H', xs[i]? = some x → Up D H H' → Q x H'
section
variable {P : Program} {w : World} {K : PySem.W.Frag} {mg : PySem.Str → Option Value} {base : Heap}
abbrev nm__law_next : List PySem.Str := ["_law_draw_here", "_law_bound", "_law_at", "_law_cell"]
theorem sc__law_next : FnScope nm__law_next ["_law_draw_here", "_law_bound"] (defScope s__law_next) := ⟨rfl, rfl, rfl, by decide +kernel, rfl, by decide +kernel, by decide +kernel⟩
theorem ok__law_next (T : Tx K mg) : FR P w K mg base 3 "_law_next" (sp_law_next K) := by
  refine fr_of (k := 2) (N := nm__law_next) (ps := ["_law_draw_here", "_law_bound"]) (gl__law_next T) (T.c.d.def_ 55 (d := d__law_next)) sc__law_next (fun _ _ _ _ _ _ us hl => match us, hl with | [_, _], _ => rfl) (fun vs H Q E h => ?_) (fun cdv A outer s H vs Q E hr h => ?_)
  · obtain ⟨D, b, hb, rfl, _⟩ := h
    rfl
  · obtain ⟨D, b, hb, rfl, hD, k⟩ := h
    refine ⟨_, (pss_cons (ps_asg (pe_op op_add (pe_ix (ix_listK (K := K) rfl) (pv 0) pe_int (fun _ _ => rfl)) pe_int) (pg_sub (pv 0) pe_int set_list))
      (pss_cons (ps_set (i := 2) sc__law_next.nd rfl (Or.inl rfl) (pe_op op_fdiv (pe_ix (ix_listK (K := K) rfl) (pv 0) pe_int (fun _ _ => rfl)) pe_int))
      (pss_cons (ps_set (i := 3) sc__law_next.nd rfl (Or.inl rfl) (pe_op op_add (pe_cR (ok__law_cell_at T) hr (by rfl) (pa_cons (pe_ix (ix_listK (K := K) rfl) (pv 0) pe_int (fun _ _ => rfl)) (pa_cons (pe_op op_add (pe_ix (ix_listK (K := K) rfl) (pv 0) pe_int (fun _ _ => rfl)) (pv 2)) pa_nil))) (pe_op op_mul pe_int (pv 2))))
      (pss_one (ps_ret (pe_cR (ok__law_number T) hr (by rfl) (pa_cons (pv 3) (pa_cons (pe_op op_add (pe_op op_mod (pe_callTy call_int1 (by rfl) (fr_int T) (by decide +kernel) (pa_cons (pe_ix (ix_listK (K := K) rfl) (pv 0) pe_int (fun _ _ => rfl)) pa_nil)) pe_int) pe_int) (pa_cons (pv 1) pa_nil))))))))), ?_⟩
    obtain ⟨v, by', n, is, h1, h2⟩ := hD
    have dl : ∀ {H' : Hp} {m : Nat}, H' D = some (.lst [v, .int (by' : Int), .int (m : Int)]) → Ex (mn H D) H' → Dp K H' (.ref D) (.list [.list (is.map .int), .int (by' : Int), .int (m : Int)]) := fun g e => .lst (sq_of g) (.cons (h2.ex e) (.cons (.int _) (.cons (.int _) .nil)))
    have at2 : ∀ {σ : L2.St} {H' : Hp} {m : Nat}, σ[0]? = some (some (.ref D)) → H' D = some (.lst [v, .int (by' : Int), .int (m : Int)]) → Ex (mn H D) H' → Evd K (tOp (rIxL K) (tVar 0) (tC (.int 2))) σ H' (.int (m : Int)) := fun hx g e => d_ixL (d_var hx (dl g e)) d_int (by rfl)
    refine (d_add (K := K) (at2 (σ := [some (.ref D), some (.int (b : Int)), none, none]) rfl h1 mn_ex) (d_int (i := 1))) H (Ex.refl _) _ fun v3 H1 e1 r3 => ?_
    rw [r3.intV]
    refine ⟨_, rfl, D, _, 2, 2, rfl, rfl, e1 _ _ h1, by rfl, ?_⟩
    show tSeq _ _ _ _ (upd H1 D (.lst [v, .int (by' : Int), .int ((n : Int) + 1)]))
    rw [show (n : Int) + 1 = ((n + 1 : Nat) : Int) from rfl]
    have hmn : Ex (mn H D) (upd H1 D (.lst [v, .int (by' : Int), .int ((n + 1 : Nat) : Int)])) := by
      refine Ex.trans (mn_exA (D := D) ((ExA.of e1).trans (ExA.up (o := .lst [v, .int (by' : Int), .int ((n + 1 : Nat) : Int)])))) mn_ex
    have hUp : Up D H (upd H1 D (.lst [v, .int (by' : Int), .int ((n + 1 : Nat) : Int)])) := (Up.of e1).set (e1 _ _ h1)
    have hs : (upd H1 D (.lst [v, .int (by' : Int), .int ((n + 1 : Nat) : Int)])) D = some (.lst [v, .int (by' : Int), .int ((n + 1 : Nat) : Int)]) := upd_same
    generalize upd H1 D (.lst [v, .int (by' : Int), .int ((n + 1 : Nat) : Int)]) = G at *
    have hq : ((n + 1 : Nat) : Int) / 12 = (((n + 1) / 12 : Nat) : Int) := by omega
    refine q_asgD (Evd.to (d_div (at2 rfl hs hmn) (d_int (i := 12)) ⟨by decide, by decide⟩) (by rw [hq])) fun v4 H4 e4 r4 => ?_
    rw [r4.intV]
    have ix0 : Evd K (tOp (rIxL K) (tVar 0) (tC (.int 0))) [some (.ref D), some (.int (b : Int)), some (.int (((n + 1) / 12 : Nat) : Int)), none] H4 (.list (is.map .int)) := d_ixL (d_var (i := 0) rfl (dl (e4 _ _ hs) (hmn.trans e4))) d_int (by rfl)
    have ix1 : Evd K (tOp (rIxL K) (tVar 0) (tC (.int 1))) [some (.ref D), some (.int (b : Int)), some (.int (((n + 1) / 12 : Nat) : Int)), none] H4 (.int (by' : Int)) := d_ixL (d_var (i := 0) rfl (dl (e4 _ _ hs) (hmn.trans e4))) d_int (by rfl)
    refine q_asgD (K := K) (d_add (d_call (a_cons ix0 (a_cons (Evd.to (d_add ix1 (d_var (d := .int (((n + 1) / 12 : Nat) : Int)) rfl (.int _))) (show PyData.int _ = PyData.int ((by' + (n + 1) / 12 : Nat) : Int) from rfl)) a_nil)) fun H5 e5 => ⟨is, _, rfl, rfl⟩) (d_mul (d_int (i := 31)) (d_var (d := .int (((n + 1) / 12 : Nat) : Int)) rfl (.int _)) (.inl ⟨by decide, by decide⟩))) fun v5 H5 e5 r5 => ?_
    rw [r5.intV]
    have e45 := e4.trans e5
    have hm : ((n + 1 : Nat) : Int) % 12 + 1 = (((n + 1) % 12 + 1 : Nat) : Int) := by omega
    refine call_any (K := K) (a_cons (d_var (d := .int _) rfl (.int _)) (a_cons (Evd.to (d_add (d_mod (d_int1 (at2 rfl (e45 _ _ hs) (hmn.trans e45))) (d_int (i := 12)) (by decide)) (d_int (i := 1))) (by rw [hm])) (a_cons (d_var (d := .int (b : Int)) rfl (.int _)) a_nil))) fun H6 vs e6 hA => ?_
    obtain ⟨w0, _, rfl, q0, w1, _, rfl, q1, w2, _, rfl, q2, rfl⟩ := hA
    rw [Dp.intV q0, Dp.intV q1, Dp.intV q2]
    exact ⟨_, (n + 1) % 12 + 1, b, hb, by omega, rfl, fun H' r e hr => k r H' (hUp.ex (e45.trans (e6.trans e))) hr⟩
abbrev nm__law_pick : List PySem.Str := ["_law_draw_here", "_law_things"]
theorem sc__law_pick : FnScope nm__law_pick ["_law_draw_here", "_law_things"] (defScope s__law_pick) := ⟨rfl, rfl, rfl, by decide +kernel, rfl, by decide +kernel, by decide +kernel⟩
theorem ok__law_pick (T : Tx K mg) : FR P w K mg base 4 "_law_pick" (sp_law_pick K) := by
  refine fr_of (k := 3) (N := nm__law_pick) (ps := ["_law_draw_here", "_law_things"]) (gl__law_pick T) (T.c.d.def_ 56 (d := d__law_pick)) sc__law_pick (fun _ _ _ _ _ _ us hl => match us, hl with | [_, _], _ => rfl) (fun vs H Q E h => ?_) (fun cdv A outer s H vs Q E hr h => ?_)
  · obtain ⟨D, p, xs, rfl, _⟩ := h
    rfl
  · obtain ⟨D, p, xs, rfl, hD, hp, hl, hne, k⟩ := h
    refine ⟨_, (pss_one (ps_ret (pe_ix (ix_listK (K := K) rfl) (pv 1) (pe_cR (ok__law_next T) hr (by rfl) (pa_cons (pv 0) (pa_cons (pe_callB (call_lenK (K := K) rfl) (by rfl) (fr_len T) (by decide +kernel) (pa_cons (pv 1) pa_nil)) pa_nil))) (fun _ _ => rfl)))), ?_⟩
    have hln : 0 < xs.length := List.length_pos_iff.mpr hne
    refine ⟨_, rfl, _, rfl, _, rfl, p, xs, rfl, .inl (sq_of hl), D, xs.length, hln, rfl, hD, fun r H' hU hr' => ?_⟩
    have hl' := hU.exA p _ hp hl
    exact ⟨p, xs, _, _, rfl, rfl, sq_of hl', atI_of (List.getElem?_eq_getElem hr'), k r _ H' (List.getElem?_eq_getElem hr') hU⟩
end
end Sc


/-! Sc27: things drawn: schemes, cares. -/
namespace Sc
open PySem PySem.Spec PyProof.Rows L2 Evl
def LA (K : PySem.W.Frag) (H : Hp) (p : Addr) (ds : List PD) : Prop := ∃ vs, H p = some (.lst vs) ∧ DpAll K H vs ds
section
variable {K : PySem.W.Frag} {H H1 H2 H' G : Hp} {D p x : Addr} {v : V} {d : PD} {ds es : List PD} {s : Sch} {σ : L2.St} {te tb ta : TE} {j : Nat}
theorem LA.ex (h : LA K H p ds) (e : Ex H H') : LA K H' p ds := let ⟨vs, h1, h2⟩ := h; ⟨vs, e _ _ h1, h2.ex e⟩
theorem LA.up (h : LA K H p ds) (u : Up D H H') (n : p ≠ D) (hI : ImmAll ds = true) : LA K H' p ds := let ⟨vs, h1, h2⟩ := h; ⟨vs, u.exA _ _ n h1, h2.tk u.tk hI⟩
theorem LA.dp (h : LA K H p ds) : Dp K H (.ref p) (.list ds) := let ⟨vs, h1, h2⟩ := h; .lst (sq_of h1) h2
theorem DrawOk.cell (h : DrawOk K H D) : ∃ xs, H D = some (.lst xs) := let ⟨_, _, _, _, h1, _⟩ := h; ⟨_, h1⟩
theorem SchAt.up (h : SchAt K H x s) (u : Up D H H') (hD : DrawOk K H D) : SchAt K H' x s := by
  obtain ⟨ok, dx, ek, ev, h1, h2, h3⟩ := h
  obtain ⟨xs, hx⟩ := hD.cell
  exact ⟨ok, dx, ek, ev, u.exA _ _ (hne h1 hx (fun z => nomatch z)) h1, h2.tk u.tk (imm_strs _), h3.tk u.tk rfl⟩
theorem next_c {b : Nat} {Q : VK} (hx : σ[j]? = some (some (.ref D))) (hb : Evd K tb σ H (.int (b : Int))) (h0 : 0 < b) (hD : DrawOk K H D) (k : ∀ (r : Nat) H', Up D H H' → r < b → Q (.int (r : Int)) H') :
    tCallR (sp_law_next K) E0 (tCons (tVar j) (tCons tb tNil)) σ H Q := ⟨_, hx, hb.int H (Ex.refl _) _ fun H1 e1 => ⟨D, b, h0, rfl, hD.ex e1, fun r H' u hr => k r H' ((Up.of e1).trans u) hr⟩⟩
theorem pick_n {Q : VK} (hx : σ[j]? = some (some (.ref D))) (N : Evn K te σ H ds) (hne' : ds ≠ []) (hI : ImmAll ds = true) (hD : DrawOk K H D) (k : ∀ v d H', d ∈ ds → Up D H H' → Dp K H' v d → Q v H') :
    tCallR (sp_law_pick K) E0 (tCons (tVar j) (tCons te tNil)) σ H Q := ⟨_, hx, N H (Ex.refl _) _ fun p vs H1 hp e1 h1 r1 => by
  obtain ⟨xs, hD1⟩ := hD.cell
  refine ⟨D, p, vs, rfl, hD.ex e1, (nold hD1 hp).symm, h1, fun z => ?_, fun i x H' hx u => ?_⟩
  · have := r1.length
    rw [z] at this
    exact hne' (List.length_eq_zero_iff.mp this.symm)
  · obtain ⟨d, hd, rd⟩ := r1.getV hx
    exact k x d H' (List.mem_of_getElem? hd) ((Up.of e1).trans u) (rd.tk u.tk (immAll_get hI hd))⟩
theorem pick_v {Q : VK} {i : Nat} (hx : σ[j]? = some (some (.ref D))) (hy : σ[i]? = some (some (.ref p))) (hp : LA K H p ds) (hpD : p ≠ D) (hne' : ds ≠ []) (hI : ImmAll ds = true) (hD : DrawOk K H D) (k : ∀ v d H', d ∈ ds → Up D H H' → Dp K H' v d → Q v H') :
    tCallR (sp_law_pick K) E0 (tCons (tVar j) (tCons (tVar i) tNil)) σ H Q := ⟨_, hx, _, hy, by
  obtain ⟨vs, h1, r1⟩ := hp
  refine ⟨D, p, vs, rfl, hD, hpD, h1, fun z => ?_, fun i x H' hx u => ?_⟩
  · have := r1.length
    rw [z] at this
    exact hne' (List.length_eq_zero_iff.mp this.symm)
  · obtain ⟨d, hd, rd⟩ := r1.getV hx
    exact k x d H' (List.mem_of_getElem? hd) u (rd.tk u.tk (immAll_get hI hd))⟩
theorem eq0_c {r : Int} {Q : VK} (k : Q (.bl (decide (r = 0))) H) : tC (.int 0) σ H (fun y H2 => rEq (.int r) y H2 Q) := ⟨rfl, by
  have : decide (V.int r = V.int 0) = decide (r = 0) := decide_eq_decide.mpr ⟨fun h => by cases h; rfl, fun h => by rw [h]⟩
  rw [this]
  exact k⟩
theorem n_rep {m : Nat} (N : Evn K te σ H ds) (hm : ds.length * m ≤ 100000) (hm2 : m ≤ 1000) : Evn K (tOp rRep te (tC (.int (m : Int)))) σ H (List.replicate m ds).flatten := fun H1 a Q k =>
  N H1 a _ fun p vs H2 hp e h r => by
    refine ⟨p, (m : Int), vs, rfl, rfl, h, by omega, by omega, by rw [r.length, Int.toNat_natCast]; exact sz_of hm, fun l hl => ?_⟩
    rw [Int.toNat_natCast]
    refine k l _ _ (fresh_back e hl) (e.trans (Ex.new hl)) upd_same ?_
    have : ∀ m : Nat, DpAll K H2 (List.replicate m vs).flatten (List.replicate m ds).flatten := by
      intro m
      induction m with
      | zero => exact .nil
      | succ m ih => rw [List.replicate_succ, List.replicate_succ, List.flatten_cons, List.flatten_cons]; exact r.append ih
    exact (this m).ex (Ex.new hl)
/-- a list made by drawing -/
theorem e_lcU {wi : TI} {tt : TT} {vs : List Nat} {R : Nat → List PD → Prop} (hs : SrcT K wi σ H ds) (hw : ∀ v, wipe ((wipe σ vs).set j (some v)) vs = wipe σ vs) (hz : ds.length ≤ 40000) (hD : DrawOk K H D) (h0 : R 0 []) (hR : ∀ i es, R i es → ImmAll es = true ∧ es.length ≤ i)
    (hel : ∀ i d v es H1, ds[i]? = some d → Up D H H1 → DrawOk K H1 D → Dp K H1 v d → R i es → ∀ (Nx : Hp → Prop) (Ad : VK), (∀ H2, Up D H1 H2 → R (i + 1) es → Nx H2) → (∀ w e H2, Up D H1 H2 → Dp K H2 w e → R (i + 1) (es ++ [e]) → Ad w H2) →
      tt ((wipe σ vs).set j (some v)) H1 fun b H2 => if b = true then te ((wipe σ vs).set j (some v)) H2 Ad else Nx H2)
    (Q : VK) (k : ∀ p es H', H p = none → Up D H H' → LA K H' p es → R ds.length es → Q (.ref p) H') : tLc wi (gName j) tt te vs σ H Q :=
  hs H (Ex.refl _) _ fun J H2 q2 W L hL => by
    have hLH := fresh_back q2 hL
    have hD2 := hD.ex q2
    refine lc_it W (fun i H' => ∃ es acc, Up D H2 H' ∧ H' L = some (.lst acc) ∧ DpAll K H' acc es ∧ R i es) ⟨[], [], Up.of (Ex.new hL), upd_same, .nil, h0⟩ (fun i H' _ ⟨_, _, u, _⟩ => u.tk) (fun i x H3 H4 hi P Y => ?_) fun H3 P => ?_
    · obtain ⟨es, acc, u, hacc, hdp, hRi⟩ := P
      obtain ⟨rfl, d, hd, rd⟩ := Y
      refine ⟨hw x, ?_⟩
      have hlen := hdp.length
      obtain ⟨hI, hl⟩ := hR i es hRi
      obtain ⟨ys, hDc⟩ := (hD2.up u).cell
      have hLD : L ≠ D := fun z => by
        obtain ⟨zs, hz⟩ := hD2.cell
        rw [z, hz] at hL
        cases hL
      refine hel i d x es _ hd ((Up.of q2).trans u) (hD2.up u) rd hRi _ _ (fun H5 u5 r => ⟨es, acc, u.trans u5, u5.exA _ _ hLD hacc, hdp.tk u5.tk hI, r⟩) fun w e H5 u5 re r => ?_
      have hacc5 := u5.exA _ _ hLD hacc
      have hI' := (hR _ _ r).1
      have T : Tk H5 (upd H5 L (.lst (acc ++ [w]))) := Tk.lst hacc5
      refine ⟨acc, hacc5, sz_lt (by omega), es ++ [e], acc ++ [w], (u.trans u5).mut hL hacc5, upd_same, ?_, r⟩
      exact ((hdp.tk u5.tk hI).append (.one re)).tk T hI'
    · obtain ⟨es, acc, u, hacc, hdp, hRi⟩ := P
      exact k L es H3 hLH ((Up.of q2).trans u) ⟨acc, hacc, hdp⟩ hRi
theorem q_lcU {E : Ends} {i : Nat} {tz : TS} {wi : TI} {tt : TT} {vs : List Nat} {R : Nat → List PD → Prop} (hs : SrcT K wi σ H ds) (hw : ∀ v, wipe ((wipe σ vs).set j (some v)) vs = wipe σ vs) (hz : ds.length ≤ 40000) (hD : DrawOk K H D) (h0 : R 0 []) (hR : ∀ i es, R i es → ImmAll es = true ∧ es.length ≤ i)
    (hel : ∀ i d v es H1, ds[i]? = some d → Up D H H1 → DrawOk K H1 D → Dp K H1 v d → R i es → ∀ (Nx : Hp → Prop) (Ad : VK), (∀ H2, Up D H1 H2 → R (i + 1) es → Nx H2) → (∀ w e H2, Up D H1 H2 → Dp K H2 w e → R (i + 1) (es ++ [e]) → Ad w H2) →
      tt ((wipe σ vs).set j (some v)) H1 fun b H2 => if b = true then te ((wipe σ vs).set j (some v)) H2 Ad else Nx H2)
    (k : ∀ p es H', H p = none → Up D H H' → LA K H' p es → R ds.length es → tz E (σ.set i (some (.ref p))) H') : tSeq (tAsg (tLc wi (gName j) tt te vs) (gName i)) tz E σ H := e_lcU hs hw hz hD h0 hR hel (fun v H' => tz E (σ.set i (some v)) H') k
theorem s_lcU {E : Ends} {wi : TI} {tt : TT} {vs : List Nat} {R : Nat → List PD → Prop} (hs : SrcT K wi σ H ds) (hw : ∀ v, wipe ((wipe σ vs).set j (some v)) vs = wipe σ vs) (hz : ds.length ≤ 40000) (hD : DrawOk K H D) (h0 : R 0 []) (hR : ∀ i es, R i es → ImmAll es = true ∧ es.length ≤ i)
    (hel : ∀ i d v es H1, ds[i]? = some d → Up D H H1 → DrawOk K H1 D → Dp K H1 v d → R i es → ∀ (Nx : Hp → Prop) (Ad : VK), (∀ H2, Up D H1 H2 → R (i + 1) es → Nx H2) → (∀ w e H2, Up D H1 H2 → Dp K H2 w e → R (i + 1) (es ++ [e]) → Ad w H2) →
      tt ((wipe σ vs).set j (some v)) H1 fun b H2 => if b = true then te ((wipe σ vs).set j (some v)) H2 Ad else Nx H2)
    (k : ∀ p es H', H p = none → Up D H H' → LA K H' p es → R ds.length es → E.rt (.ref p) H') : tRet (tLc wi (gName j) tt te vs) E σ H := e_lcU hs hw hz hD h0 hR hel (fun v H' => E.rt v H') k
end
section
variable {P : Program} {w : World} {K : PySem.W.Frag} {mg : PySem.Str → Option Value} {base : Heap}
def sp_law_scheme (K : PySem.W.Frag) : Sp := fun vs H Q _ => ∃ D, vs = [.ref D] ∧ DrawOk K H D ∧ ∀ p s H', Up D H H' → SchAt K H' p s → Q (.ref p) H'
abbrev nm__law_scheme : List PySem.Str := ["_law_draw_here", "_law_limit", "_law_chunk", "_law_flags", "_law_edits", "_law_turn"]
theorem sc__law_scheme : FnScope nm__law_scheme ["_law_draw_here"] (defScope s__law_scheme) := ⟨rfl, rfl, rfl, by decide +kernel, rfl, by decide +kernel, by decide +kernel⟩
theorem ok__law_scheme (T : Tx K mg) : FR P w K mg base 5 "_law_scheme" (sp_law_scheme K) := by
  refine fr_of (k := 4) (N := nm__law_scheme) (ps := ["_law_draw_here"]) (gl__law_scheme T) (T.c.d.def_ 57 (d := d__law_scheme)) sc__law_scheme (fun _ _ _ _ _ _ us hl => match us, hl with | [_], _ => rfl) (fun vs H Q E h => ?_) (fun cdv A outer s H vs Q E hr h => ?_)
  · obtain ⟨D, rfl, _⟩ := h
    rfl
  · obtain ⟨D, rfl, hD, k⟩ := h
    obtain ⟨fdS, Fs, mvS, Bs⟩ := ok_sinit (P := P) (w := w) (base := base) T
    refine ⟨_, (pss_cons (ps_asg (pe_cR (ok__law_pick T) hr (by rfl) (pa_cons (pv 0) (pa_cons (pe_lst (pa_cons (pe_tup (pa_cons pe_int (pa_cons pe_int pa_nil))) (pa_cons (pe_tup (pa_cons pe_int (pa_cons pe_int pa_nil))) (pa_cons (pe_tup (pa_cons pe_int (pa_cons pe_int pa_nil))) (pa_cons (pe_tup (pa_cons pe_int (pa_cons pe_int pa_nil))) pa_nil))))) pa_nil))) (pg_tupK (K := K) (n := 2) rfl rfl (pgs_cons (pg_name (i := 1) sc__law_scheme.nd rfl (Or.inl rfl)) (pgs_cons (pg_name (i := 2) sc__law_scheme.nd rfl (Or.inl rfl)) pgs_nil))))
      (pss_cons (ps_setLc (i := 3) (own := [("_law_turn", 5)]) rfl sc__law_scheme.nd rfl rfl (sw_true rfl rfl rfl (by decide +kernel)) (pi_range1 rfl (fr_range T) (pa_cons pe_int pa_nil)) (blkOk_by (own := [("_law_turn", 5)]) (N := nm__law_scheme) (sc := defScope s__law_scheme) (by decide +kernel)) (fun _ _ _ _ _ => (pg_name (i := 5) sc__law_scheme.nd rfl (Or.inl rfl))) (fun _ _ _ _ _ => pts_nil) (fun _ _ _ _ _ => (pe_cmpR op_eq (pe_cR (ok__law_next T) hr (by rfl) (pa_cons (pv 0) (pa_cons pe_int pa_nil))) pe_int (nomark _))))
      (pss_cons (ps_set (i := 4) sc__law_scheme.nd rfl (Or.inl rfl) (pe_cR (ok__law_pick T) hr (by rfl) (pa_cons (pv 0) (pa_cons (pe_lst (pa_cons (pe_tup (pa_cons pe_str pa_nil)) (pa_cons (pe_tup (pa_cons pe_str pa_nil)) (pa_cons (pe_tup (pa_cons pe_str (pa_cons pe_str pa_nil))) (pa_cons (pe_tup (pa_cons pe_str (pa_cons pe_str pa_nil))) pa_nil))))) pa_nil))))
      (pss_one (ps_ret (pe_makeK (n := 1) (mk_Scheme T) Fs (hr.mono (by decide)) (by rfl) (gl_Scheme T) Bs pass0 (pa_cons (pv 4) pa_nil) (pk_cons (pv 1) (pk_cons (pv 2) (pk_cons (pe_ix (ix_listK (K := K) rfl) (pv 3) pe_int (fun _ _ => rfl)) (pk_cons (pe_ix (ix_listK (K := K) rfl) (pv 3) pe_int (fun _ _ => rfl)) (pk_cons (pe_ix (ix_listK (K := K) rfl) (pv 3) pe_int (fun _ _ => rfl)) (pk_cons (pe_ix (ix_listK (K := K) rfl) (pv 3) pe_int (fun _ _ => rfl)) (pk_cons (pe_ix (ix_listK (K := K) rfl) (pv 3) pe_int (fun _ _ => rfl)) pk_nil))))))))))))), ?_⟩
    refine pick_n (K := K) (ds := [.tuple [.int 1, .int 1], .tuple [.int 2, .int 1], .tuple [.int 1, .int 2], .tuple [.int 1, .int 1]]) rfl (n_lst (e_cons (d_tup (e_cons d_int (e_cons d_int e_nil))) (e_cons (d_tup (e_cons d_int (e_cons d_int e_nil))) (e_cons (d_tup (e_cons d_int (e_cons d_int e_nil))) (e_cons (d_tup (e_cons d_int (e_cons d_int e_nil))) e_nil))))) (by simp) (by rfl) hD fun v1 d1 H1 m1 u1 r1 => ?_
    obtain ⟨a, b, ha, hb, rfl⟩ : ∃ a b : Nat, (a = 1 ∨ a = 2) ∧ (b = 1 ∨ b = 2) ∧ d1 = .tuple [.int (a : Int), .int (b : Int)] := by
      simp only [List.mem_cons, List.not_mem_nil, or_false] at m1
      rcases m1 with rfl | rfl | rfl | rfl
      · exact ⟨1, 1, .inl rfl, .inl rfl, rfl⟩
      · exact ⟨2, 1, .inr rfl, .inl rfl, rfl⟩
      · exact ⟨1, 2, .inl rfl, .inr rfl, rfl⟩
      · exact ⟨1, 1, .inl rfl, .inl rfl, rfl⟩
    refine (tgt_two (K := K) (α := Unit) (e1 := fun _ => .int (a : Int)) (e2 := fun _ => .int (b : Int))).go () _ _ r1 _ fun σ2 ⟨w1, w2, q1, q2, e'⟩ => ?_
    rw [q1.intV, q2.intV] at e'
    subst e'
    refine q_lcU (K := K) (D := D) (R := fun i es => ∃ bs : List Bool, bs.length = i ∧ es = bs.map .bool) (src_rangeT (n := 5) d_int (by decide)) (fun _ => rfl) (by decide) (hD.up u1) ⟨[], rfl, rfl⟩ (fun i es ⟨bs, h1, h2⟩ => ⟨by rw [h2]; exact immAll_map _ fun _ _ => rfl, by rw [h2, List.length_map]; omega⟩) (fun i d v es H2 hd u2 hD2 rd hR Nx Ad hN hA => ?_) fun p3 es H3 n3 u3 h3 hR3 => ?_
    · obtain ⟨bs, hb1, hb2⟩ := hR
      refine next_c (K := K) (b := 3) rfl d_int (by decide) hD2 fun r H4 u4 hr4 => ?_
      refine (d_eqInt (K := K) (ta := tC (.int (r : Int))) (tb := tC (.int 0)) (σ := []) (d_c (.int _)) d_int) H4 (Ex.refl _) Ad fun v5 H5 e5 r5 => ?_
      exact hA v5 _ H5 (u4.ex e5) r5 ⟨bs ++ [decide ((r : Int) = 0)], by rw [List.length_append, hb1]; rfl, by rw [hb2, List.map_append]; rfl⟩
    · obtain ⟨bs, hb1, rfl⟩ := hR3
      match bs, hb1 with
      | [b0, b1, b2, b3, b4], _ =>
        have hD3 := (hD.up u1).up u3
        refine pick_n (K := K) (ds := [.tuple [.str "up"], .tuple [.str "nil"], .tuple [.str "up", .str "nil"], .tuple [.str "up", .str "nil"]]) rfl (n_lst (e_cons (d_tup (e_cons d_str e_nil)) (e_cons (d_tup (e_cons d_str e_nil)) (e_cons (d_tup (e_cons d_str (e_cons d_str e_nil))) (e_cons (d_tup (e_cons d_str (e_cons d_str e_nil))) e_nil))))) (by simp) (by rfl) hD3 fun v4 d4 H4 m4 u4 r4 => ?_
        obtain ⟨ks, hks, rfl⟩ : ∃ ks : List Ed, (ks = [.up] ∨ ks = [.nil] ∨ ks = [.up, .nil]) ∧ d4 = .tuple ((ks.map Ed.s).map .str) := by
          simp only [List.mem_cons, List.not_mem_nil, or_false] at m4
          rcases m4 with rfl | rfl | rfl | rfl
          · exact ⟨[.up], .inl rfl, rfl⟩
          · exact ⟨[.nil], .inr (.inl rfl), rfl⟩
          · exact ⟨[.up, .nil], .inr (.inr rfl), rfl⟩
          · exact ⟨[.up, .nil], .inr (.inr rfl), rfl⟩
        obtain ⟨xs, hx⟩ := (hD.up u1).cell
        have h4 : LA K H4 p3 _ := h3.up u4 (nold hx n3).symm (by rfl)
        have ix : ∀ {i : Nat} {b : Bool} {σ : L2.St}, σ[3]? = some (some (.ref p3)) → [b0, b1, b2, b3, b4][i]? = some b → Evd K (tOp (rIxL K) (tVar 3) (tC (.int (i : Int)))) σ H4 (.bool b) := fun hx hi => d_ixL (d_var hx h4.dp) d_int (atI_of (by rw [List.getElem?_map, hi]; rfl))
        exact e_makeS (K := K) (s := ⟨ks, a, b, b0, b1, b2, b3, b4⟩) (fun H5 e5 => d_var rfl (r4.ex e5)) (d_var (d := .int (a : Int)) rfl (.int _)) (d_var (d := .int (b : Int)) rfl (.int _)) (ix (i := 0) rfl rfl) (ix (i := 1) rfl rfl) (ix (i := 2) rfl rfl) (ix (i := 3) rfl rfl) (ix (i := 4) rfl rfl) ⟨hks, ha, hb⟩ _ fun p H5 e5 n5 hS => k p _ H5 (((u1.trans u3).trans u4).ex e5) hS
def sp_law_cares (K : PySem.W.Frag) : Sp := fun vs H Q _ => ∃ D, vs = [.ref D] ∧ DrawOk K H D ∧ ∀ p cs H', H p = none → Up D H H' → LA K H' p (cs.map .str) → CaresOk cs → Q (.ref p) H'
abbrev nm__law_cares : List PySem.Str := ["_law_draw_here", "_law_some", "_law_care"]
theorem sc__law_cares : FnScope nm__law_cares ["_law_draw_here"] (defScope s__law_cares) := ⟨rfl, rfl, rfl, by decide +kernel, rfl, by decide +kernel, by decide +kernel⟩
theorem ok__law_cares (T : Tx K mg) : FR P w K mg base 5 "_law_cares" (sp_law_cares K) := by
  refine fr_of (k := 4) (N := nm__law_cares) (ps := ["_law_draw_here"]) (gl__law_cares T) (T.c.d.def_ 58 (d := d__law_cares)) sc__law_cares (fun _ _ _ _ _ _ us hl => match us, hl with | [_], _ => rfl) (fun vs H Q E h => ?_) (fun cdv A outer s H vs Q E hr h => ?_)
  · obtain ⟨D, rfl, _⟩ := h
    rfl
  · obtain ⟨D, rfl, hD, k⟩ := h
    refine ⟨_, (pss_cons (ps_if (pt_cmpR op_eq (pe_cR (ok__law_next T) hr (by rfl) (pa_cons (pv 0) (pa_cons pe_int pa_nil))) pe_int (nomark _)) (pss_one (ps_ret (pe_lc (own := [("_law_care", 2)]) rfl sc__law_cares.nd (pi_tupK (K := K) rfl (pe_gref (gl_ALL_CARES T) rfl)) (blkOk_by (own := [("_law_care", 2)]) (N := nm__law_cares) (sc := defScope s__law_cares) (by decide +kernel)) (fun _ _ _ _ _ => (pg_name (i := 2) sc__law_cares.nd rfl (Or.inl rfl))) (fun _ _ _ _ _ => (pts_one (PW.pt (pw_or (pt_cmpR op_eq (pv 2) pe_str (nomark _)) (pw_or1 (pt_cmpR op_eq (pe_cR (ok__law_next T) hr (by rfl) (pa_cons (pv 0) (pa_cons pe_int pa_nil))) pe_int (nomark _))))))) (fun _ _ _ _ _ => (pv 2))))) pss_nil)
      (pss_cons (ps_set (i := 1) sc__law_cares.nd rfl (Or.inr rfl) (pe_lst (pa_cons (pe_cR (ok__law_pick T) hr (by rfl) (pa_cons (pv 0) (pa_cons (pe_callTy (call_listK (K := K) rfl) (by rfl) (fr_list T) (by decide +kernel) (pa_cons (pe_slice (sl_tupK (K := K) rfl) (pe_gref (gl_ALL_CARES T) rfl) (po_some pe_int) po_none) pa_nil)) pa_nil))) pa_nil)))
      (pss_cons (ps_set (i := 1) sc__law_cares.nd rfl (Or.inr rfl) (pe_op op_cat (pv 1) (pe_lst (pa_cons (pe_cR (ok__law_pick T) hr (by rfl) (pa_cons (pv 0) (pa_cons (pe_op op_cat (pe_callTy (call_listK (K := K) rfl) (by rfl) (fr_list T) (by decide +kernel) (pa_cons (pe_slice (sl_tupK (K := K) rfl) (pe_gref (gl_ALL_CARES T) rfl) (po_some pe_int) po_none) pa_nil)) (pe_op op_rep (pe_lst (pa_cons pe_non pa_nil)) pe_int)) pa_nil))) pa_nil))))
      (pss_one (ps_ret (pe_lc (own := [("_law_care", 2)]) rfl sc__law_cares.nd (pi_tupK (K := K) rfl (pe_gref (gl_ALL_CARES T) rfl)) (blkOk_by (own := [("_law_care", 2)]) (N := nm__law_cares) (sc := defScope s__law_cares) (by decide +kernel)) (fun _ _ _ _ _ => (pg_name (i := 2) sc__law_cares.nd rfl (Or.inl rfl))) (fun _ _ _ _ _ => (pts_one (pt_cmpR (op_ninK (K := K) rfl) (pv 2) (pv 1) (by rfl)))) (fun _ _ _ _ _ => (pv 2)))))))), ?_⟩
    refine next_c (K := K) (b := 4) rfl d_int (by decide) hD fun r H1 u1 hr1 => ?_
    refine eq0_c ?_
    refine ⟨_, rfl, ?_⟩
    have hD2 := hD.up u1
    have u2 := u1
    have k : ∀ p cs H', H1 p = none → Up D H1 H' → LA K H' p (cs.map .str) → CaresOk cs → Q (.ref p) H' := fun p cs H' hn u hl hc => by
      refine k p cs H' ?_ (u2.trans u) hl hc
      cases hp : H p with
      | none => rfl
      | some o =>
        by_cases hpd : p = D
        · obtain ⟨xs, hx⟩ := hD2.cell
          rw [← hpd, hn] at hx
          cases hx
        · have := u2.exA _ _ hpd hp
          rw [hn] at this
          cases this
    have hcar : ∀ cs : List Sx, cs.Sublist cares9 → CaresOk cs := fun cs h => ⟨fun c hc => h.subset hc, h.nodup cares9_ok.2⟩
    cases hb : decide ((r : Int) = 0) with
    | true =>
      refine s_lcU (K := K) (D := D) (R := fun i es => ∃ cs : List Sx, es = cs.map .str ∧ cs.Sublist (cares9.take i)) (src_tupT (ds := cares9.map .str) (d_ALL T) (immAll_map _ fun _ _ => rfl)) (fun _ => rfl) (by decide) hD2 ⟨[], rfl, List.nil_sublist _⟩ (fun i es ⟨cs, h1, h2⟩ => ⟨by rw [h1]; exact immAll_map _ fun _ _ => rfl, by rw [h1, List.length_map]; have := h2.length_le; rw [List.length_take] at this; omega⟩) (fun i d v es H3 hd u3 hD3 rd hR Nx Ad hN hA => ?_) fun p3 es H3 n3 u3 h3 hR3 => ?_
      · obtain ⟨cs, rfl, hcs⟩ := hR
        rw [List.getElem?_map] at hd
        obtain ⟨c, hc, rfl⟩ := Option.map_eq_some_iff.mp hd
        have htk : cares9.take (i + 1) = cares9.take i ++ [c] := by rw [List.take_succ, hc] <;> rfl
        have rd' := rd.strV
        subst rd'
        have hadd : ∀ H5, Up D H3 H5 → Ad (.str c) H5 := fun H5 u5 => hA _ (.str c) H5 u5 (.str _) ⟨cs ++ [c], by rw [List.map_append]; rfl, by rw [htk]; exact List.Sublist.append hcs (List.Sublist.refl _)⟩
        have hskip : ∀ H5, Up D H3 H5 → Nx H5 := fun H5 u5 => hN H5 u5 ⟨cs, rfl, hcs.trans (by rw [htk]; exact List.sublist_append_left _ _)⟩
        refine (d_eqStr (K := K) (ta := tVar 2) (tb := tC (.str "lays")) (d_var (d := .str c) rfl (.str _)) d_str) H3 (Ex.refl _) _ fun v5 H5 e5 r5 => ⟨_, r5.blV, ?_⟩
        cases hb2 : decide (c = ("lays" : Sx)) with
        | true => exact ⟨_, rfl, hadd H5 (Up.of e5)⟩
        | false =>
          refine next_c (K := K) (b := 2) rfl d_int (by decide) (hD3.ex e5) fun r6 H6 u6 hr6 => ?_
          refine eq0_c ?_
          refine ⟨_, rfl, ?_⟩
          have u7 : Up D H3 H6 := (Up.of e5).trans u6
          cases hb3 : decide ((r6 : Int) = 0) with
          | true => exact ⟨_, rfl, hadd H6 u7⟩
          | false => exact hskip H6 u7
      · obtain ⟨cs, rfl, hcs⟩ := hR3
        exact k p3 cs H3 n3 u3 h3 (hcar cs (hcs.trans (List.take_sublist _ _)))
    | false =>
      have N1 : ∀ {σ : L2.St} {H' : Hp}, Evn K (tCB (fun xs H Q => ∃ p ys, xs = [V.ref p] ∧ (SqL K H p ys ∨ SqT K H p ys) ∧ ∀ (l : Addr), H l = none → Q (.ref l) (upd H l (.lst ys))) (tCons (tSl (rSlA K) (tC (.ref (He.ga K "ALL_CARES"))) (tPart (tC (.int 1))) tNoPart) tNil)) σ H' ((cares9.drop 1).map .str) := fun {σ H'} => n_listS (d_slT (ds := cares9.map .str) (lo := some 1) (hi := none) (d_ALL T) (eo_some ev_c) eo_none) (.inr (by rw [show (1 : Int) = ((1 : Nat) : Int) from rfl, cut_back, List.map_drop]))
      refine pick_n (K := K) (ds := (cares9.drop 1).map .str) rfl N1 (by decide +kernel) (immAll_map _ fun _ _ => rfl) hD2 fun v d H3 m3 u3 r3 => ?_
      refine ⟨sz_of (by simp), fun p1 hp1 => ?_⟩
      have hD3 := hD2.up u3
      have hP1 : LA K (upd H3 p1 (.lst [v])) p1 [d] := ⟨[v], upd_same, .one (r3.ex (Ex.new hp1))⟩
      have u4 := u3.ex (Ex.new (o := .lst [v]) hp1)
      have hD4 := hD2.up u4
      have hp1D : p1 ≠ D := fun z => by
        obtain ⟨xs, hx⟩ := hD3.cell
        rw [← z, hp1] at hx
        cases hx
      have fl1 : flatP d = true ∧ Imm d = true := by
        obtain ⟨c, _, rfl⟩ := List.mem_map.mp m3
        exact ⟨rfl, rfl⟩
      generalize upd H3 p1 (.lst [v]) = H4 at *
      refine ⟨_, rfl, ?_⟩
      refine pick_n (K := K) (ds := (cares9.drop 1).map .str ++ List.replicate 8 .none) rfl (n_cat N1 (Evn.to (n_rep (m := 8) (n_lst (e_cons d_non e_nil)) (by decide) (by decide)) rfl) (by decide)) (by decide +kernel) (by decide +kernel) hD4 fun v2 d2 H5 m5 u5 r5 => ?_
      refine ⟨sz_of (by simp), fun p2 hp2 => ?_⟩
      obtain ⟨ws, hw1, hw2⟩ := hP1.up u5 hp1D (by show (Imm d && true) = true; rw [fl1.2]; rfl)
      have fl2 : flatP d2 = true := by
        rcases List.mem_append.mp m5 with h | h
        · obtain ⟨c, _, rfl⟩ := List.mem_map.mp h
          rfl
        · rw [List.eq_of_mem_replicate h]
          rfl
      have e6 : Ex H5 (upd H5 p2 (.lst [v2])) := Ex.new hp2
      refine ⟨p1, p2, ws, [v2], rfl, rfl, e6 _ _ hw1, upd_same, by rw [hw2.length]; exact sz_of (by simp), fun p6 hp6 => ?_⟩
      have e7 : Ex (upd H5 p2 (.lst [v2])) (upd (upd H5 p2 (.lst [v2])) p6 (.lst (ws ++ [v2]))) := Ex.new hp6
      have r7 : Dp K (upd (upd H5 p2 (.lst [v2])) p6 (.lst (ws ++ [v2]))) (.ref p6) (.list [d, d2]) := .lst (sq_of upd_same) ((hw2.ex (e6.trans e7)).append (.one (r5.ex (e6.trans e7))))
      have u7 := (u4.trans u5).ex (e6.trans e7)
      generalize upd (upd H5 p2 (.lst [v2])) p6 (.lst (ws ++ [v2])) = H7 at *
      refine (n_lc (K := K) (j := 2) (vs := [2]) (σ := [some (.ref D), some (.ref p6), none]) (xs := cares9) (enc := .str) (p := fun c => !([d, d2].any fun y => PyData.eqv y (.str c))) (f := .str) (src_tup (d_ALL T)) (fun _ => rfl) (fun _ _ => rfl) (by decide) fun c hc v H8 e8 r8 => ⟨t_test (Evd.to (d_inG (d_var rfl r8) (d_var (i := 1) rfl (r7.ex e8)) (.inl rfl) rfl (by simp [fl1.1, fl2])) (by rw [if_pos rfl])), fun _ => d_var rfl r8⟩) H7 (Ex.refl _) _ fun p8 vs8 H8 n8 e8 h8 r8 => ?_
      refine k p8 _ H8 ?_ (u7.ex e8) ⟨vs8, h8, r8⟩ (hcar _ List.filter_sublist)
      cases hp : H1 p8 with
      | none => rfl
      | some o =>
        by_cases hpd : p8 = D
        · obtain ⟨xs, hx⟩ := (hD2.up u7).cell
          rw [← hpd, n8] at hx
          cases hx
        · have := u7.exA _ _ hpd hp
          rw [n8] at this
          cases this
end
end Sc


/-! Sc28: the law's answers and failures. -/
namespace Sc
open PySem PySem.Spec PyProof.Rows L2 Evl
def sp_law_answers (K : PySem.W.Frag) : Sp := spP K fun H as r => ∃ x s e cs ds, as = [.val (.ref x), .dat e, .dat (.list (ds.map Deed.d))] ∧ SchAt K H x s ∧ carD e cs ∧ CaresOk cs ∧ DsOk s ds ∧ r = .list ((run1 (hsOf (inOrder cs)) s m0 ds).map Ans.d)
def sp_law_failure (K : PySem.W.Frag) : Sp := spP K fun H as r => ∃ x s e cs ds, as = [.val (.ref x), .dat e, .dat (.list (ds.map Deed.d))] ∧ SchAt K H x s ∧ carD e cs ∧ CaresOk cs ∧ DsOk s ds ∧ r = failD (failRun (hsOf (inOrder cs)) s m0 ds)
theorem src_GL {K : PySem.W.Frag} {G : Hp} {σ : L2.St} {v : V} {ds : List PD} {j : Nat} (hx : σ[j]? = some (some v)) (r : Dp K G v (.list ds)) (H1 : Hp) (a : Ex G H1) (R : It → Hp → Prop) (k : ∀ J, Walk J ds.length (fun H' => Ex G H') (YP K ds) → R J H1) : iList K (tVar j) σ H1 R := by
  obtain ⟨p, vs, rfl, hs, hv⟩ := r.lstV
  refine ⟨_, hx, p, rfl, ⟨vs, ex_l a hs⟩, k _ ?_⟩
  rw [← hv.length]
  exact walk_list.mono (fun H' e => ex_l e hs) fun i H3 x H4 hi e y => by
    obtain ⟨d, h1, h2⟩ := hv.getV y.2
    exact ⟨y.1, d, h1, h2.ex e⟩
theorem q_forGL {K : PySem.W.Frag} {G H : Hp} {σ : L2.St} {v : V} {ds : List PD} {j j' : Nat} {D : Ends} {tu tz : TS} (hx : σ[j]? = some (some v)) (r : Dp K G v (.list ds)) (a : Ex G H) (Pv : Nat → L2.St → Hp → Prop) (h0 : Pv 0 σ H) (hG : ∀ i σ' H', Pv i σ' H' → Ex G H')
    (ht : ∀ i d w σ' H', ds[i]? = some d → Dp K H' w d → Pv i σ' H' → tu { D with nx := Pv (i + 1), ct := Pv (i + 1), bk := tz D } (σ'.set j' (some w)) H') (hd : ∀ σ' H', Pv ds.length σ' H' → tz D σ' H') : tSeq (tFor (iList K (tVar j)) (gName j') tu) tz D σ H :=
  by
  unfold tSeq tFor
  refine src_GL hx r H a _ fun J W => for_it (D := { D with nx := tz D }) W Pv h0 (fun i σ' H' _ P => hG i σ' H' P) (fun i x σ' H' H'' hi P Y => ?_) fun σ' H' P => hd σ' H' P
  obtain ⟨rfl, d, h1, h2⟩ := Y
  exact ht i d x σ' _ h1 h2 P
theorem q_parM {K : PySem.W.Frag} {σ : L2.St} {H : Hp} {tx tv : TE} {x : Addr} {s : Sch} {e : PD} {cs : List Sx} {D : Ends} {i j : Nat} {tz : TS} (hx : Ev tx σ H (.ref x)) (hv : Evd K tv σ H e) (hs : SchAt K H x s) (hc : carD e cs) (hk : CaresOk cs)
    (k : ∀ p F G H', Ex H G → G p = none → p ≠ F → H F = none → G F = some (.lst []) → Mach K G H' p s (inOrder cs) m0 → tz D ((σ.set i (some (.ref p))).set j (some (.ref F))) H') : tSeq (tPar i j (tCons (tMakeK (He.ga K "Machine") 1 1 (sp_minit K) (fun vs zs => vs ++ zs) E0 (tCons tx tNil) (tCons tv tNil)) (tCons (tLst tNil) tNil))) tz D σ H :=
  s_makeM (tz := tNext) (D := { nx := fun _ _ => True, rt := fun _ _ => True }) (i := 0) (fun H1 e1 => fun H2 e2 => hx H2 (e1.trans e2)) hv hs hc hk (fun v H1 => (tCons (tLst tNil) tNil) σ H1 fun vs H2 => ∃ a b, v :: vs = [a, b] ∧ tz D ((σ.set i (some a)).set j (some b)) H2) fun p G H' e gp hM => ⟨sz_of (by simp), fun F hF => by
    have gF := gnone hM.gex hF
    refine ⟨_, _, rfl, k p F (upd G F (.lst [])) _ (e.trans (Ex.new gF)) ?_ ?_ (fresh_back e gF) upd_same (hM.gnew hF)⟩
    · obtain ⟨o, hA, hS⟩ := hM
      rw [upd_ne (nold hA.ob hF)]
      exact gp
    · obtain ⟨o, hA, hS⟩ := hM
      exact nold hA.ob hF⟩
section
variable {P : Program} {w : World} {K : PySem.W.Frag} {mg : PySem.Str → Option Value} {base : Heap}
abbrev nm__law_answers : List PySem.Str := ["_law_scheme_here", "_law_held", "_law_deeds_here", "_law_machine", "_law_found", "_law_deed"]
theorem sc__law_answers : FnScope nm__law_answers ["_law_scheme_here", "_law_held", "_law_deeds_here"] (defScope s__law_answers) := ⟨rfl, rfl, rfl, by decide +kernel, rfl, by decide +kernel, by decide +kernel⟩
theorem ok__law_answers (T : Tx K mg) : FR P w K mg base 8 "_law_answers" (sp_law_answers K) := by
  refine fr_of (k := 7) (N := nm__law_answers) (ps := ["_law_scheme_here", "_law_held", "_law_deeds_here"]) (gl__law_answers T) (T.c.d.def_ 60 (d := d__law_answers)) sc__law_answers (fun _ _ _ _ _ _ us hl => match us, hl with | [_, _, _], _ => rfl) (fun vs H Q E h => ?_) (fun cdv A outer s H vs Q E hr h => ?_)
  · obtain ⟨as, r, hA, ⟨x, sc, e, cs, ds, rfl, hs, hc, hk, hd, rfl⟩, k⟩ := h
    exact hA.length
  · obtain ⟨as, r, hA, ⟨x, sc, e, cs, ds, rfl, hs, hc, hk, hd, rfl⟩, k⟩ := h
    obtain ⟨v0, _, rfl, rfl, v1, _, rfl, r1, v2, _, rfl, r2, rfl⟩ := hA
    obtain ⟨fdM, Fm, mvM, Bm⟩ := ok_minit (P := P) (w := w) (base := base) T
    refine ⟨_, (pss_cons (ps_par (i := 3) (j := 4) rfl sc__law_answers.nd rfl rfl (by decide) rfl rfl (pa_cons (pe_makeK (n := 1) (mk_Machine T) Fm (hr.mono (by decide)) (by rfl) (gl_Machine T) Bm pass0 (pa_cons (pv 0) pa_nil) (pk_cons (pv 1) pk_nil)) (pa_cons (pe_lst pa_nil) pa_nil)) (by rfl))
      (pss_cons (ps_for PassesOwn.never rfl (pi_listK (K := K) rfl (pv 2)) (pg_name (i := 5) sc__law_answers.nd rfl (Or.inl rfl)) (pss_one (ps_expr (pe_bm PySem.F.plainAttrs_list PySem.F.slot_list_append PySem.F.type_list_append mt_append (pv 4) (pa_cons (pe_ifExp (pt_val (pe_methR (pv 3) (cl_Machine T) (me_Machine_can T) (ok_Machine_can T) (hr.mono (by decide)) pass0 (pa_cons (pv 5) pa_nil))) (pe_methR (pv 3) (cl_Machine T) (me_Machine_do T) (ok_Machine_do T) (hr.mono (by decide)) pass0 (pa_cons (pv 5) pa_nil)) pe_str) pa_nil)))))
      (pss_one (ps_ret (pv 4))))), ?_⟩
    have hl := hd.1
    have hcan : ∀ {σ : L2.St} {H1 : Hp} {G' : Hp} {p : Addr} {m : M} {d : Deed} {v : V}, σ[3]? = some (some (.ref p)) → σ[5]? = some (some v) → Mach K G' H1 p sc (inOrder cs) m → deedOk sc d → Dp K H1 v d.d → Evd K (tMethR (He.ga K "Machine") "can" (sp_can K) E0 (tVar 3) (tCons (tVar 5) tNil)) σ H1 (.bool (isPossible (hsOf (inOrder cs)) sc m d)) := fun h3 h5 hm hok r =>
      d_meth h3 hm.at (fun o => rfl) (a_cons (d_var h5 r) a_nil) fun H2 e2 => ⟨_, sc, inOrder cs, _, _, rfl, (hm.ex e2).at, hok, rfl⟩
    refine q_parM (K := K) (ev_var rfl) (d_var rfl r1) hs hc hk fun p F G H1 eG gp hpF hF gF hM => ?_
    refine q_forGL (K := K) (j := 2) rfl r2 (eG.trans hM.gex) (fun i σ' H' => ∃ G' acc y, σ' = [some (.ref x), some v1, some v2, some (.ref p), some (.ref F), y] ∧ Ex H G' ∧ G' F = some (.lst acc) ∧ DpAll K H' acc ((run1 (hsOf (inOrder cs)) sc m0 (ds.take i)).map Ans.d) ∧ Mach K G' H' p sc (inOrder cs) (endM (hsOf (inOrder cs)) sc m0 (ds.take i))) ⟨G, [], none, rfl, eG, gF, .nil, hM⟩ (fun i σ' H' ⟨_, _, _, _, h, _, _, h2⟩ => h.trans h2.gex) (fun i d w' σ' H2 hdi rd P => ?_) fun σ' H2 P => ?_
    · obtain ⟨G', acc, y, rfl, e1, gF', hacc, hm⟩ := P
      rw [List.getElem?_map] at hdi
      obtain ⟨di, hdj, rfl⟩ := Option.map_eq_some_iff.mp hdi
      obtain ⟨hi, _⟩ := List.getElem?_eq_some_iff.mp hdj
      have hru : Ru i (endM (hsOf (inOrder cs)) sc m0 (ds.take i)) := by
        have := Ru.end (hs := hsOf (inOrder cs)) (s := sc) (ds := ds.take i) ru0
        rw [Nat.zero_add] at this
        exact ⟨this.iv.mono (by rw [List.length_take]; omega), Nat.le_trans this.tr (by rw [List.length_take]; omega)⟩
      have htk : ds.take (i + 1) = ds.take i ++ [di] := by rw [List.take_succ, hdj] <;> rfl
      have hok := hd.2 di (List.mem_of_getElem? hdj)
      have hlen : acc.length ≤ 40 := by rw [hacc.length, List.length_map, run1_len, List.length_take]; omega
      have hrun : (run1 (hsOf (inOrder cs)) sc m0 (ds.take (i + 1))).map Ans.d = (run1 (hsOf (inOrder cs)) sc m0 (ds.take i)).map Ans.d ++ [(step (hsOf (inOrder cs)) sc (endM (hsOf (inOrder cs)) sc m0 (ds.take i)) di).2.d] := by rw [htk, run1_snoc, List.map_append]; rfl
      have hend : endM (hsOf (inOrder cs)) sc m0 (ds.take (i + 1)) = (step (hsOf (inOrder cs)) sc (endM (hsOf (inOrder cs)) sc m0 (ds.take i)) di).1 := by rw [htk, endM_snoc]
      have fin : ∀ v' H', Mach K G' H' p sc (inOrder cs) (step (hsOf (inOrder cs)) sc (endM (hsOf (inOrder cs)) sc m0 (ds.take i)) di).1 → Tk H2 H' → Dp K H' v' (step (hsOf (inOrder cs)) sc (endM (hsOf (inOrder cs)) sc m0 (ds.take i)) di).2.d →
          rAppend (.ref F) [v'] H' fun _ H5 => ∃ G' acc y, [some (.ref x), some v1, some v2, some (.ref p), some (.ref F), some w'] = [some (.ref x), some v1, some v2, some (.ref p), some (.ref F), y] ∧ Ex H G' ∧ G' F = some (.lst acc) ∧ DpAll K H5 acc ((run1 (hsOf (inOrder cs)) sc m0 (ds.take (i + 1))).map Ans.d) ∧ Mach K G' H5 p sc (inOrder cs) (endM (hsOf (inOrder cs)) sc m0 (ds.take (i + 1))) := fun v' H' hm' tk rv => by
        have T : Tk H' (upd H' F (.lst (acc ++ [v']))) := Tk.lst (hm'.gex _ _ gF')
        refine ⟨F, acc, v', rfl, rfl, hm'.gex _ _ gF', sz_lt (by omega), upd G' F (.lst (acc ++ [v'])), acc ++ [v'], some w', rfl, e1.mut hF, upd_same, ?_, ?_⟩
        · rw [hrun]
          exact ((hacc.tk tk (immAll_map _ fun x _ => imm_Ans x)).tk T (immAll_map _ fun x _ => imm_Ans x)).append (.one (rv.tk T (imm_Ans _)))
        · rw [hend]
          exact hm'.gupd gF'
      refine ⟨_, rfl, .inl ⟨rfl, _, sq_of (hm.gex _ _ gF')⟩, ?_⟩
      unfold step at fin
      refine (t_B (hcan (σ := [some (.ref x), some v1, some v2, some (.ref p), some (.ref F), some w']) rfl rfl hm hok rd)) H2 (Ex.refl _) _ fun H3 e3 => ?_
      have h3 := hm.ex e3
      cases hp : isPossible (hsOf (inOrder cs)) sc (endM (hsOf (inOrder cs)) sc m0 (ds.take i)) di with
      | true =>
        rw [hp] at fin
        obtain ⟨o, hA, hS⟩ := id h3
        refine ⟨_, rfl, p, o.dx, MF o _, rfl, hA.ob, by rfl, _, rfl, ?_⟩
        have htr := hru.tr
        exact ⟨G', p, sc, inOrder cs, _, _, [.dat (Deed.d di)], _, ⟨_, _, rfl, rfl, _, _, rfl, rd.ex e3, rfl⟩, h3, ⟨di, rfl, hok, hp, ⟨i, hru.iv, by omega⟩, by omega, rfl, rfl⟩, fun v H' hm' tk r => fin v H' hm' ((Tk.of e3).trans tk) r⟩
      | false =>
        rw [hp] at fin
        exact fin _ H3 h3 (Tk.of e3) (.str "no")
    · obtain ⟨G', acc, y, rfl, e1, gF', hacc, hm⟩ := P
      rw [List.length_map, List.take_length] at hacc
      exact (s_retD (K := K) (d_var (i := 4) rfl (.lst (sq_of (hm.gex _ _ gF')) hacc)) fun v H7 e7 r => k v H7 ((e1.trans hm.gex).trans e7) r : tRet (tVar 4) { nx := fun _ H' => Q .non H', rt := Q } [some (.ref x), some v1, some v2, some (.ref p), some (.ref F), y] H2)
abbrev nm__law_failure : List PySem.Str := ["_law_scheme_here", "_law_held", "_law_deeds_here", "_law_answer"]
theorem sc__law_failure : FnScope nm__law_failure ["_law_scheme_here", "_law_held", "_law_deeds_here"] (defScope s__law_failure) := ⟨rfl, rfl, rfl, by decide +kernel, rfl, by decide +kernel, by decide +kernel⟩
theorem ok__law_failure (T : Tx K mg) : FR P w K mg base 9 "_law_failure" (sp_law_failure K) := by
  refine fr_of (k := 8) (N := nm__law_failure) (ps := ["_law_scheme_here", "_law_held", "_law_deeds_here"]) (gl__law_failure T) (T.c.d.def_ 61 (d := d__law_failure)) sc__law_failure (fun _ _ _ _ _ _ us hl => match us, hl with | [_, _, _], _ => rfl) (fun vs H Q E h => ?_) (fun cdv A outer s H vs Q E hr h => ?_)
  · obtain ⟨as, r, hA, ⟨x, sc, e, cs, ds, rfl, hs, hc, hk, hd, rfl⟩, k⟩ := h
    exact hA.length
  · obtain ⟨as, r, hA, ⟨x, sc, e, cs, ds, rfl, hs, hc, hk, hd, rfl⟩, k⟩ := h
    obtain ⟨v0, _, rfl, rfl, v1, _, rfl, r1, v2, _, rfl, r2, rfl⟩ := hA
    refine ⟨_, (pss_cons (ps_for PassesOwn.never rfl (pi_listK (K := K) rfl (pe_cR (ok__law_answers T) hr (by rfl) (pa_cons (pv 0) (pa_cons (pv 1) (pa_cons (pv 2) pa_nil))))) (pg_name (i := 3) sc__law_failure.nd rfl (Or.inl rfl)) (pss_one (ps_if (pt_val (pe_callB (call_isiK1 (K := K) rfl) (by rfl) (fr_isinstance T) (by decide +kernel) (pa_cons (pv 3) (pa_cons (pe_bltn (v := .ty "tuple") (u := .type "tuple") rfl (fr_tuple T) (by decide +kernel) rfl) pa_nil)))) (pss_one (ps_ret (pv 3))) pss_nil)))
      (pss_one (ps_ret pe_non))), ?_⟩
    have hl := hd.1
    rw [← firstF_m0] at k
    refine q_forS (K := K) (src_list (d_call (a_consV (ev_var rfl) (a_cons (d_var rfl r1) (a_cons (d_var rfl r2) a_nil))) fun H1 e1 => ⟨x, sc, e, cs, ds, rfl, hs.ex e1, hc, hk, hd, rfl⟩)) (fun H2 i σ' H' => Ex H2 H' ∧ ∃ z, σ' = [some (.ref x), some v1, some v2, z] ∧ firstF (run1 (hsOf (inOrder cs)) sc m0 ds) = firstF ((run1 (hsOf (inOrder cs)) sc m0 ds).drop i)) (fun H2 e2 => ⟨Ex.refl _, none, rfl, rfl⟩) (fun H2 i σ' H' P => P.1) (fun H2 i d v σ' H' e2 hdi rv P => ?_) fun H2 σ' H' e2 P => ?_
    · obtain ⟨e3, z, rfl, hf⟩ := P
      rw [List.getElem?_map] at hdi
      obtain ⟨a, ha, rfl⟩ := Option.map_eq_some_iff.mp hdi
      have hdr : (run1 (hsOf (inOrder cs)) sc m0 ds).drop i = a :: (run1 (hsOf (inOrder cs)) sc m0 ds).drop (i + 1) := by
        obtain ⟨h1, h2⟩ := List.getElem?_eq_some_iff.mp ha
        rw [← h2]
        exact List.drop_eq_getElem_cons h1
      rw [hdr] at hf
      have tst : EvT _ [some (.ref x), some v1, some v2, some v] H' (t_tuple a.d) := t_B (d_isi (d_var (i := 3) rfl rv) (kb_tuple _))
      cases a with
      | no => exact s_when (b := false) tst (fun z => nomatch z) fun _ H5 e5 => ⟨e3.trans e5, _, rfl, hf⟩
      | of f =>
        cases f with
        | none => exact s_when (b := false) tst (fun z => nomatch z) fun _ H5 e5 => ⟨e3.trans e5, _, rfl, hf⟩
        | some f =>
          have hf : firstF (run1 (hsOf (inOrder cs)) sc m0 ds) = some f := hf
          rw [hf] at k
          exact s_when (b := true) tst (fun _ H5 e5 => s_retD (d_var rfl (Dp.ex rv e5)) fun v H6 e6 r => k v H6 (e2.trans (e3.trans (e5.trans e6))) r) fun z => nomatch z
    · obtain ⟨e3, z, rfl, hf⟩ := P
      rw [List.length_map, List.drop_length] at hf
      rw [hf] at k
      exact (s_retD (K := K) d_non fun v H6 e6 r => k v H6 (e2.trans (e3.trans e6)) r : tRet (tC .non) { nx := fun _ H' => Q .non H', rt := Q } [some (.ref x), some v1, some v2, z] H')
end
end Sc


/-! Sc29: the law's sets. -/
namespace Sc
open PySem PySem.Spec PyProof.Rows L2 Evl
section
variable {K : PySem.W.Frag} {σ : L2.St} {H : Hp} {ta tb : TE} {p : Addr} {vs : List V} {α : Type} {R : Rl α} {xs ys : List α}
theorem nr_cat (ha : Ev ta σ H (.ref p)) (hp : H p = some (.lst vs)) (r : AllR R H vs xs) (hb : EvnR R tb σ H ys) (hl : xs.length + ys.length ≤ 100000) : EvnR R (tOp rCat ta tb) σ H (xs ++ ys) := fun H1 a Q k =>
  ha H1 a _ fun H2 q2 => hb H2 (a.trans q2) _ fun p' ws H3 hp' q3 h3 r3 =>
    ⟨p, p', vs, ws, rfl, rfl, q3 p _ (q2 p _ (a p _ hp)), h3, sz_of (by rw [r.length, r3.length]; exact hl), fun l hl' => k l _ _ (fresh_back (q2.trans q3) hl') ((q2.trans q3).trans (Ex.new hl')) upd_same (AllR.ex (AllR.append (AllR.ex r ((a.trans q2).trans q3)) r3) (Ex.new hl'))⟩
theorem nr_catH {q : Addr} {ws : List V} (ha : Ev ta σ H (.ref p)) (hb : Ev tb σ H (.ref q)) (hp : H p = some (.lst vs)) (r : AllR R H vs xs) (hq : H q = some (.lst ws)) (r2 : AllR R H ws ys) (hl : xs.length + ys.length ≤ 100000) : EvnR R (tOp rCat ta tb) σ H (xs ++ ys) := fun H1 a Q k =>
  ha H1 a _ fun H2 q2 => hb H2 (a.trans q2) _ fun H3 q3 => by
    have e := a.trans (q2.trans q3)
    exact ⟨p, q, vs, ws, rfl, rfl, e _ _ hp, e _ _ hq, sz_of (by rw [r.length, r2.length]; exact hl), fun l hl' => k l _ _ (fresh_back (q2.trans q3) hl') ((q2.trans q3).trans (Ex.new hl')) upd_same (AllR.ex (AllR.append (AllR.ex r e) (AllR.ex r2 e)) (Ex.new hl'))⟩
theorem nr_var {i : Nat} (h : σ[i]? = some (some (.ref p))) : Ev (tVar i) σ H (.ref p) := ev_var h
end
section
variable {P : Program} {w : World} {K : PySem.W.Frag} {mg : PySem.Str → Option Value} {base : Heap}
abbrev nm__law_sets : List PySem.Str := ["_law_pool", "_law_found", "_law_layer", "_law_late", "_law_some", "_law_begin", "_law_care"]
theorem sc__law_sets : FnScope nm__law_sets ["_law_pool"] (defScope s__law_sets) := ⟨rfl, rfl, rfl, by decide +kernel, rfl, by decide +kernel, by decide +kernel⟩
theorem ok__law_sets (T : Tx K mg) : FR P w K mg base 1 "_law_sets" (sp_sets_of K) := by
  refine fr_of (k := 0) (N := nm__law_sets) (ps := ["_law_pool"]) (gl__law_sets T) (T.c.d.def_ 62 (d := d__law_sets)) sc__law_sets (fun _ _ _ _ _ _ us hl => match us, hl with | [_], _ => rfl) (fun vs H Q E h => ?_) (fun cdv A outer s H vs Q E hr h => ?_)
  · obtain ⟨as, L, hA, ⟨a, pool, rfl, hp, rfl⟩, k⟩ := h
    exact hA.length
  · obtain ⟨as, L, hA, ⟨a, pool, rfl, hp, rfl⟩, k⟩ := h
    obtain ⟨v0, _, rfl, rfl, rfl⟩ := hA
    refine ⟨_, (pss_cons (ps_par (i := 1) (j := 2) rfl sc__law_sets.nd rfl rfl (by decide) rfl rfl (pa_cons (pe_lst (pa_cons (pe_tup pa_nil) pa_nil)) (pa_cons (pe_lst (pa_cons (pe_tup pa_nil) pa_nil)) pa_nil)) (by rfl))
      (pss_cons (ps_while PassesOwn.never (pt_cmpR (op_neK (K := K) rfl hr.units) (pv 2) (pe_lst pa_nil) (nomark _)) (pss_cons (ps_set (i := 3) sc__law_sets.nd rfl (Or.inl rfl) (pe_lst pa_nil))
      (pss_cons (ps_for PassesOwn.never rfl (pi_listK (K := K) rfl (pv 2)) (pg_name (i := 4) sc__law_sets.nd rfl (Or.inr rfl)) (pss_cons (ps_set (i := 5) sc__law_sets.nd rfl (Or.inl rfl) (pe_ifExp (pt_cmpR (op_neK (K := K) rfl hr.units) (pv 4) (pe_tup pa_nil) (nomark _)) (pe_op op_add (pe_bmP (K := K) rfl PySem.F.plainAttrs_tuple PySem.F.slot_tuple_index PySem.F.type_tuple_index (mt_tup_indexK (K := K) rfl) (pv 0) (pa_cons (pe_ix (ix_tupK (K := K) rfl) (pv 4) (pe_un un_neg pe_int) (fun _ _ => rfl)) pa_nil)) pe_int) pe_int))
      (pss_one (ps_set (i := 3) sc__law_sets.nd rfl (Or.inl rfl) (pe_op op_cat (pv 3) (pe_lc (own := [("_law_care", 6)]) rfl sc__law_sets.nd (pi_tupK (K := K) rfl (pe_slice (sl_tupK (K := K) rfl) (pv 0) (po_some (pv 5)) po_none)) (blkOk_by (own := [("_law_care", 6)]) (N := nm__law_sets) (sc := defScope s__law_sets) (by decide +kernel)) (fun _ _ _ _ _ => (pg_name (i := 6) sc__law_sets.nd rfl (Or.inl rfl))) (fun _ _ _ _ _ => pts_nil) (fun _ _ _ _ _ => (pe_op (op_catTK (K := K) rfl) (pv 4) (pe_tup (pa_cons (pv 6) pa_nil))))))))))
      (pss_one (ps_par (i := 1) (j := 2) rfl sc__law_sets.nd rfl rfl (by decide) rfl rfl (pa_cons (pe_op op_cat (pv 1) (pv 3)) (pa_cons (pv 3) pa_nil)) (by rfl))))))
      (pss_one (ps_ret (pv 1))))), ?_⟩
    have hn := hp.ok.2
    have h9 := cares_len hp.ok
    refine q_parR (nr_one (tr_tup (K := K) (ks := []) e_nil (by decide))) (nr_one (tr_tup (K := K) (ks := []) e_nil (by decide))) fun af al vs ws H1 nf nl hne e1 hf rf hl rl => ?_
    refine q_while (fun m σ' H' => ∃ k af' al' vs ws c d e f, m = pool.length + 1 - k ∧ k ≤ pool.length + 1 ∧ σ' = [some (.ref a), some (.ref af'), some (.ref al'), c, d, e, f] ∧ H af' = none ∧ Ex H H' ∧ H' af' = some (.lst vs) ∧ AllR Tr H' vs (foundL pool k) ∧ H' al' = some (.lst ws) ∧ AllR Tr H' ws (layer pool k)) (pool.length + 1) ⟨0, af, al, vs, ws, none, none, none, none, rfl, Nat.zero_le _, rfl, nf, e1, hf, rf, hl, rl⟩ fun m σ' H' ⟨k', af', al', vs', ws', c, d, e, f, hm, hk, hσ, nf', eH, hf', rf', hl', rl'⟩ => ?_
    subst hσ
    have dl : Dp K H' (.ref al') (.list ((layer pool k').map setD)) := .lst (sq_of hl') (rl'.dp fun v x => tr_dp)
    have mem : ∀ s ∈ layer pool k', ∀ c ∈ s, c ∈ pool := fun s hs => (layer_mem k' s hs).2
    have shl : Sh 2 (.list ((layer pool k').map setD)) := Sh.lst fun d hd => by
      obtain ⟨s, hs, rfl⟩ := List.mem_map.mp hd
      exact sh_set fun c hc => hp.ok.1 c (mem s hs c hc)
    refine ⟨!decide (layer pool k' = []), evt_to (t_test (d_ne (d_var rfl dl) (n_lst e_nil).evd shl.ok sh_lnil)) (by rw [eqv_sets_nil]), fun hb H2 e2 => ?_, fun hb H2 e2 => ?_⟩
    · have hnn : layer pool k' ≠ [] := by simpa using hb
      have hk' : k' ≤ pool.length := by
        by_cases h : k' ≤ pool.length
        · exact h
        · have : k' = pool.length + 1 := by omega
          rw [this] at hnn
          exact absurd (layer_end hn) hnn
      refine ⟨fun σ2 H2 => ∃ k af' al' vs ws c d e f, pool.length + 1 - (k' + 1) = pool.length + 1 - k ∧ k ≤ pool.length + 1 ∧ σ2 = [some (.ref a), some (.ref af'), some (.ref al'), c, d, e, f] ∧ H af' = none ∧ Ex H H2 ∧ H2 af' = some (.lst vs) ∧ AllR Tr H2 vs (foundL pool k) ∧ H2 al' = some (.lst ws) ∧ AllR Tr H2 ws (layer pool k), fun σ2 H2 h => ⟨_, by omega, h⟩, ?_⟩
      have hll := layer_len hn h9 k'
      have hnb : ∀ i, (((layer pool k').take i).flatMap fun s => (later pool s).map fun c => s ++ [c]).length ≤ 9 * 512 := fun i => by
        have hb : ∀ L : List (List Sx), (L.flatMap fun x => (later pool x).map fun c => x ++ [c]).length ≤ 9 * L.length := by
          intro L
          induction L with
          | nil => exact Nat.le_refl _
          | cons s r ih =>
            rw [List.flatMap_cons, List.length_append, List.length_map, List.length_cons]
            have h2 := later_len pool s
            omega
        have := hb ((layer pool k').take i)
        rw [List.length_take] at this
        omega
      have rl2 := rl'.ex e2
      have hp2 := hp.ex (eH.trans e2)
      refine q_asgR (nr_nil (R := Tr)) fun p3 ws3 H3 n3 e3 h3 r3 => ?_
      refine q_forR (Ri := Tr) (xs := layer pool k') (srcR_list (K := K) (ev_var rfl) ((e2.trans e3) _ _ hl') (rl2.ex e3)) (fun H4 i σ' H5 => ∃ p ws d e f, σ' = [some (.ref a), some (.ref af'), some (.ref al'), some (.ref p), d, e, f] ∧ Ex H4 H5 ∧ H5 p = some (.lst ws) ∧ AllR Tr H5 ws (((layer pool k').take i).flatMap fun s => (later pool s).map fun c => s ++ [c])) (fun H4 e4 => ⟨p3, ws3, _, _, _, rfl, Ex.refl _, e4 _ _ h3, r3.ex e4⟩) (fun H4 i σ' H5 P => by obtain ⟨_, _, _, _, _, _, h, _⟩ := P; exact h) (fun H4 i s v σ' H5 e4 hs rv P => ?_) fun H4 σ' H5 e4 P => ?_
      · obtain ⟨p5, ws5, d5, e5', f5, rfl, e5, h5, r5⟩ := P
        have hsm := List.mem_of_getElem? hs
        have hsp := mem s hsm
        have sh := sh_set fun c hc => hp.ok.1 c (hsp c hc)
        have hp5 := hp2.ex (e3.trans (e4.trans e5))
        have htk : (layer pool k').take (i + 1) = (layer pool k').take i ++ [s] := by rw [List.take_succ, hs] <;> rfl
        have hbeg : Evd K (tIf (tTest (tOp (rNeD K) (tVar 4) (tTup tNil))) (tOp (rI0 fun i j => .int (i + j)) (tBMP K (fun x xs H Q => ∃ p ys z j, x = V.ref p ∧ xs = [V.str z] ∧ SqT K H p (List.map V.str ys) ∧ ys[j]? = some z ∧ (∀ (m : Nat), m < j → ys[m]? ≠ some z) ∧ Q (V.int (j : Nat)) H) (tVar 0) (tCons (tOp (rIxT K) (tVar 4) (tUn (rU fun i => .int (-i)) (tC (.int 1)))) tNil)) (tC (.int 1))) (tC (.int 0)))
            [some (.ref a), some (.ref af'), some (.ref al'), some (.ref p5), some v, e5', f5] H5 (.int (begAt pool s : Int)) := by
          refine Evd.to (d_if (b := !decide (s = [])) (d := .int (begAt pool s : Int)) (e := .int 0) (evt_to (t_test (d_ne (d_var rfl (tr_dp rv)) (d_tup e_nil) sh.ok sh_unit)) (by rw [eqv_set_nil])) (fun hb => ?_) fun hb => d_int) ?_
          · have hne : s ≠ [] := by simpa using hb
            obtain ⟨c, hc⟩ : ∃ c, s.getLast? = some c := ⟨_, List.getLast?_eq_some_getLast hne⟩
            have hcp : c ∈ pool := hsp c (List.mem_of_getLast? hc)
            obtain ⟨i1, i2⟩ := idx_first hcp
            have hix : Evd K (tOp (rIxT K) (tVar 4) (tUn (rU fun i => .int (-i)) (tC (.int 1)))) [some (.ref a), some (.ref af'), some (.ref al'), some (.ref p5), some v, e5', f5] H5 (.str c) := d_ixT (i := -1) (d_var rfl (tr_dp rv)) (d_ev (ev_un ev_c fun H1 e Q q => ⟨1, rfl, q H1 (Ex.refl _)⟩) (.int _)) (by rw [atI_last, List.getLast?_map, hc]; rfl)
            refine Evd.to (d_add (K := K) (i := (pool.idxOf c : Int)) (j := 1) (fun H1 e1 Q q => ⟨_, rfl, (hp5.ex e1).ty, hix.str H1 e1 _ fun H2 e2 => ⟨a, pool, c, pool.idxOf c, rfl, rfl, (hp5.ex (e1.trans e2)).sq, i1, i2, q _ H2 e2 (.int _)⟩⟩) d_int) ?_
            unfold begAt
            rw [hc]
            rfl
          · cases s with
            | nil => rfl
            | cons a r => rfl
        refine q_asgD hbeg fun vb H6 e6 rb => ?_
        rw [rb.intV]
        have hp6 := hp5.ex e6
        have rv6 := Tr.ex e6 rv
        have hls := later_len pool s
        have N : EvnR Tr (tLc (iTup K (tSl (rSlA K) (tVar 0) (tPart (tVar 5)) tNoPart)) (gName 6) tYes (tOp (rCatA K) (tVar 4) (tTup (tCons (tVar 6) tNil))) [6]) [some (.ref a), some (.ref af'), some (.ref al'), some (.ref p5), some v, some (.int (begAt pool s : Int)), f5] H6 ((later pool s).map fun c => s ++ [c]) := by
          have srcL : Src K (iTup K (tSl (rSlA K) (tVar 0) (tPart (tVar 5)) tNoPart)) [some (.ref a), some (.ref af'), some (.ref al'), some (.ref p5), some v, some (.int (begAt pool s : Int)), f5] H6 ((later pool s).map .str) := src_tup (Evd.to (d_slT (ds := pool.map .str) (lo := some (begAt pool s : Int)) (hi := none) (d_var rfl hp6.dp) (eo_some (ev_var rfl)) eo_none) (by rw [cut_back]; unfold later; rw [List.map_drop]))
          refine n_mapR (Ri := Dr K (fun s : Sx => .str s) fun _ => rfl) (Ro := Tr) (f := fun c => s ++ [c]) (srcR_of (enc := fun s : Sx => PyData.str s) srcL) (fun _ => rfl) (by omega) fun c hc v7 H7 e7 r7 => tr_cat (d_var (i := 4) rfl (tr_dp (Tr.ex e7 rv6))) (tr_tup (e_cons (d_var (i := 6) (d := .str c) rfl r7) e_nil) (by simp)) ?_
          have := (layer_mem k' s hsm).1
          omega
        refine s_asgR (nr_cat (ev_var (i := 3) rfl) (e6 _ _ h5) (r5.ex e6) N ?_) fun p7 ws7 H7 n7 e7 h7 r7 => ⟨p7, ws7, _, _, _, rfl, e5.trans (e6.trans e7), h7, ?_⟩
        · have := hnb i
          rw [List.length_map]
          omega
        · rw [htk, List.flatMap_append]
          refine cast (congrArg _ ?_) r7
          rw [List.flatMap_cons, List.flatMap_nil, List.append_nil]
      · obtain ⟨p5, ws5, d5, e5', f5, rfl, e5, h5, r5⟩ := P
        rw [List.take_length] at r5
        have e25 := e2.trans (e3.trans (e4.trans e5))
        have hfl := found_len hn h9 k'
        have hl2 := layer_len hn h9 (k' + 1)
        exact nr_catH (R := Tr) (σ := [some (.ref a), some (.ref af'), some (.ref al'), some (.ref p5), d5, e5', f5]) (ta := tVar 1) (tb := tVar 3) (xs := foundL pool k') (ys := layer pool (k' + 1)) (ev_var rfl) (ev_var rfl) (e25 _ _ hf') (rf'.ex e25) h5 r5 (by omega) H5 (Ex.refl _) _ fun p7 ws7 H7 n7 e7 h7 r7 => ⟨_, rfl, _, _, rfl, k' + 1, p7, p5, ws7, ws5, _, _, _, _, rfl, by omega, rfl, fresh_back (eH.trans e25) n7, eH.trans (e25.trans e7), h7, r7, e7 _ _ h5, r5.ex e7⟩
    · have hz : layer pool k' = [] := by simpa using hb
      have e := setsOf_stop hn hz
      refine ⟨_, rfl, ?_⟩
      exact k af' vs' H2 nf' (eH.trans e2) (e2 _ _ hf') (by rw [e]; exact rf'.ex e2)
abbrev nm__law_within : List PySem.Str := ["_law_some", "_law_other", "_law_care"]
theorem sc__law_within : FnScope nm__law_within ["_law_some", "_law_other"] (defScope s__law_within) := ⟨rfl, rfl, rfl, by decide +kernel, rfl, by decide +kernel, by decide +kernel⟩
theorem ok__law_within (T : Tx K mg) : FR P w K mg base 1 "_law_within" (spP K fun _ as r => ∃ s o, as = [.dat (setD s), .dat (setD o)] ∧ CaresOk s ∧ CaresOk o ∧ r = .bool (!decide (s = o) && s.all fun c => decide (c ∈ o))) := by
  refine fr_of (k := 0) (N := nm__law_within) (ps := ["_law_some", "_law_other"]) (gl__law_within T) (T.c.d.def_ 63 (d := d__law_within)) sc__law_within (fun _ _ _ _ _ _ us hl => match us, hl with | [_, _], _ => rfl) (fun vs H Q E h => ?_) (fun cdv A outer s H vs Q E hr h => ?_)
  · obtain ⟨as, r, hA, ⟨x, y, rfl, hx, hy, rfl⟩, k⟩ := h
    exact hA.length
  · obtain ⟨as, r, hA, ⟨x, y, rfl, hx, hy, rfl⟩, k⟩ := h
    obtain ⟨v0, _, rfl, r0, v1, _, rfl, r1, rfl⟩ := hA
    refine ⟨_, (pss_one (ps_ret (pe_and (pe_cmpR (op_neK (K := K) rfl hr.units) (pv 0) (pv 1) (nomark _)) (pe_one (pe_callB (cr_allK (K := K) rfl) (by rfl) (fr_all T) (by decide +kernel) (pa_cons (pe_lc (own := [("_law_care", 2)]) rfl sc__law_within.nd (pi_tupK (K := K) rfl (pv 0)) (blkOk_by (own := [("_law_care", 2)]) (N := nm__law_within) (sc := defScope s__law_within) (by decide +kernel)) (fun _ _ _ _ _ => (pg_name (i := 2) sc__law_within.nd rfl (Or.inl rfl))) (fun _ _ _ _ _ => pts_nil) (fun _ _ _ _ _ => (pe_cmpR (op_inK (K := K) rfl) (pv 2) (pv 1) (by rfl)))) pa_nil)))))), ?_⟩
    have h9 := cares_len hx
    refine s_retD (d_and (Evd.to (d_ne (d_var rfl r0) (d_var rfl r1) (sh_set hx.1).ok (sh_set hy.1).ok) (by rw [eqv_sets])) fun _ => Evd.to (d_all (bs := x.map fun c => decide (c ∈ y)) (nr_bls (n_mapR (Ri := Dr K (fun s : Sx => .str s) fun _ => rfl) (Ro := Dr K (fun b : Bool => .bool b) fun _ => rfl) (f := fun c => decide (c ∈ y)) (srcR_of (enc := fun s : Sx => PyData.str s) (src_tup (d_var rfl r0))) (fun _ => rfl) (by omega) fun c hc v H1 e1 r => r_of (enc := fun b : Bool => PyData.bool b) (d_inS (d_var rfl r) (d_var rfl (Dp.ex r1 e1)) (.inr rfl))))) (by rw [List.all_map]; rfl)) k
end
end Sc


/-! Sc8L: deeds_of and all_deeds give new lists. -/
namespace Sc
open PySem PySem.Spec PyProof.Rows L2 Evl
section
variable {K : PySem.W.Frag} {σ : L2.St} {H : Hp} {te : TE} {ds : List PD} {D : Ends}
def spL (K : PySem.W.Frag) (P : Hp → List Ar → List PD → Prop) : Sp := fun vs H Q _ => ∃ as L, Ars K H as vs ∧ P H as L ∧ ∀ p ws H', H p = none → Ex H H' → H' p = some (.lst ws) → DpAll K H' ws L → Q (.ref p) H'
theorem n_callL {P : Hp → List Ar → List PD → Prop} {ta : TA} {as : List Ar} {L : List PD} {E : XK} (h : Eva K ta σ H as) (hP : ∀ H1, Ex H H1 → P H1 as L) : Evn K (tCallR (spL K P) E ta) σ H L := fun H1 a Q k =>
  h H1 a _ fun vs H2 e r => ⟨as, L, r, hP H2 (a.trans e), fun p ws H3 hn e3 h3 r3 => k p ws H3 (fresh_back e hn) (e.trans e3) h3 r3⟩
theorem s_retN (h : Evn K te σ H ds) (k : ∀ p vs H1, H p = none → Ex H H1 → H1 p = some (.lst vs) → DpAll K H1 vs ds → D.rt (.ref p) H1) : tRet te D σ H := h H (Ex.refl H) _ fun p vs H1 hp q h1 r => k p vs H1 hp q h1 r
end
def sp_deeds_ofL (K : PySem.W.Frag) : Sp := spL K fun H as r => ∃ x s, as = [.val (.ref x)] ∧ SchAt K H x s ∧ r = (allDeeds s).map Deed.d
section
variable {P : Program} {w : World} {K : PySem.W.Frag} {mg : PySem.Str → Option Value} {base : Heap}
theorem ok_deeds_ofL (T : Tx K mg) : FR P w K mg base 1 "deeds_of" (sp_deeds_ofL K) := by
  refine fr_of (k := 0) (N := nm_deeds_of) (ps := ["scheme"]) (gl_deeds_of T) (T.c.d.def_ 10 (d := d_deeds_of)) sc_deeds_of (fun _ _ _ _ _ _ us hl => match us, hl with | [_], _ => rfl) (fun vs H Q E h => ?_) (fun cdv A outer s H vs Q E hr h => ?_)
  · obtain ⟨as, r, hA, ⟨x, sc, rfl, hs, rfl⟩, k⟩ := h
    exact hA.length
  · obtain ⟨as, r, hA, ⟨x, sc, rfl, hs, rfl⟩, k⟩ := h
    obtain ⟨v0, _, rfl, rfl, rfl⟩ := hA
    refine ⟨_, (pss_cons (ps_set (i := 1) sc_deeds_of.nd rfl (Or.inl rfl) (pe_op op_cat (pe_lc (own := [("one", 2)]) rfl sc_deeds_of.nd (pi_tupK (K := K) rfl (pe_fldK (K := K) rfl (pv 0) rfl)) (blkOk_by (own := [("one", 2)]) (N := nm_deeds_of) (sc := defScope s_deeds_of) (by decide +kernel)) (fun _ _ _ _ _ => (pg_name (i := 2) sc_deeds_of.nd rfl (Or.inl rfl))) (fun _ _ _ _ _ => pts_nil) (fun _ _ _ _ _ => (pe_tup (pa_cons pe_str (pa_cons (pv 2) pa_nil))))) (pe_lc (own := [("word", 3)]) rfl sc_deeds_of.nd (pi_tupK (K := K) rfl (pe_gref (gl_PLAIN T) rfl)) (blkOk_by (own := [("word", 3)]) (N := nm_deeds_of) (sc := defScope s_deeds_of) (by decide +kernel)) (fun _ _ _ _ _ => (pg_name (i := 3) sc_deeds_of.nd rfl (Or.inl rfl))) (fun _ _ _ _ _ => pts_nil) (fun _ _ _ _ _ => (pe_tup (pa_cons (pv 3) pa_nil))))))
      (pss_one (ps_ret (pe_op op_cat (pv 1) (pe_lc2 (own := [("word", 3), ("index", 4)]) (vs1 := [4]) rfl sc_deeds_of.nd (pi_tupK (K := K) rfl (pe_gref (gl_OF_LETTERS T) rfl)) (blkOk_by (own := [("word", 3), ("index", 4)]) (N := nm_deeds_of) (sc := defScope s_deeds_of) (by decide +kernel)) (by decide) (fun _ _ _ _ _ => (pg_name (i := 3) sc_deeds_of.nd rfl (Or.inl rfl))) (fun _ _ _ _ _ => pts_nil) (fun _ _ _ _ _ => (pi_range1 rfl (fr_range T) (pa_cons (pe_fldK (K := K) rfl (pv 0) rfl) pa_nil))) (fun _ _ _ _ _ => (pg_name (i := 4) sc_deeds_of.nd rfl (Or.inl rfl))) (fun _ _ _ _ _ => pts_nil) (fun _ _ _ _ _ => (pe_tup (pa_cons (pv 3) (pa_cons (pv 4) pa_nil))))))))), ?_⟩
    have hk := kinds_le hs.ok
    have hw := way_le hs.ok
    refine q_asgN (n_cat (n_map (xs := sc.kinds) (enc := fun e => .str e.s) (f := fun e => Deed.d (.edit e)) (Src.to (src_tup (d_kinds T (ev_var rfl) hs)) (by rw [List.map_map]; rfl)) (fun _ => rfl) (fun _ _ => rfl) (by omega) fun e he v H1 e1 r => d_tup (e_cons d_str (e_cons (d_var rfl r) e_nil))) (n_map (xs := plains) (enc := fun p => .str p.s) (f := fun p => Deed.d (.plain p)) (src_tup (d_PLAIN T)) (fun _ => rfl) (fun _ _ => rfl) (by decide) fun p hp v H1 e1 r => d_tup (e_cons (d_var rfl r) e_nil)) (by rw [List.length_map, List.length_map]; show _ + 5 ≤ _; omega)) fun l vs H1 hl e1 h1 r1 => ?_
    have hs := hs.ex e1
    refine s_retN (Evn.to (n_catV (ev_var rfl) h1 r1 (n_lc2 (xs := lws) (enc := fun w => .str w.s) (ys := fun _ => List.range sc.way) (enc1 := fun (i : Nat) => .int (i : Int)) (p := fun _ _ => true) (f := fun w i => Deed.d (.letr w i)) (src_tup (d_LET T)) (fun _ => rfl) (fun _ _ => rfl) (fun _ _ _ _ => rfl) (fun _ _ => rfl) ?_ (fun _ _ => by rw [List.length_range]; omega) (fun w hw' v H2 e r => src_rangeT (d_way T (ev_var rfl) (hs.ex e)) (by omega)) (fun w hw' i hi v v1 H2 e r1 r2 => ⟨t_yes, fun _ => d_tup (e_cons (d_var rfl r1) (e_cons (d_var rfl r2) e_nil))⟩)) ?_) ?_) fun p ws H' hn e h r => k p ws H' (fresh_back e1 hn) (e1.trans e) h r
    · intro n
      have h4 : ∀ l : List LW, (l.flatMap fun w => ((List.range sc.way).filter fun _ => true).map fun i => Deed.d (.letr w i)).length ≤ 2 * l.length := by
        intro l
        induction l with
        | nil => exact Nat.le_refl _
        | cons a r ih =>
          rw [List.flatMap_cons, List.length_append, List.length_cons, List.length_map]
          have := List.length_filter_le (fun _ => true) (List.range sc.way)
          rw [List.length_range] at this
          omega
      have := h4 (lws.take n)
      rw [List.length_take] at this
      have h5 : lws.length = 4 := rfl
      omega
    · rw [List.length_append, List.length_map, List.length_map]
      have h4 : ∀ l : List LW, (l.flatMap fun w => ((List.range sc.way).filter fun _ => true).map fun i => Deed.d (.letr w i)).length ≤ 2 * l.length := by
        intro l
        induction l with
        | nil => exact Nat.le_refl _
        | cons a r ih =>
          rw [List.flatMap_cons, List.length_append, List.length_cons, List.length_map]
          have := List.length_filter_le (fun _ => true) (List.range sc.way)
          rw [List.length_range] at this
          omega
      have := h4 lws
      have h5 : lws.length = 4 := rfl
      have h6 : plains.length = 5 := rfl
      omega
    · unfold allDeeds
      rw [List.map_append, List.map_append, List.map_map, List.map_map, List.map_flatMap]
      refine congr (congrArg HAppend.hAppend rfl) ?_
      refine congrArg (fun f => lws.flatMap f) (funext fun w => ?_)
      rw [List.filter_eq_self.mpr (fun _ _ => rfl), List.map_map]
      rfl
theorem ok_all_deedsL (T : Tx K mg) : FR P w K mg base 4 "all_deeds" (sp_deeds_ofL K) := by
  refine fr_of (k := 3) (N := nm_all_deeds) (ps := ["scheme"]) (gl_all_deeds T) (T.c.d.def_ 11 (d := d_all_deeds)) sc_all_deeds (fun _ _ _ _ _ _ us hl => match us, hl with | [_], _ => rfl) (fun vs H Q E h => ?_) (fun cdv A outer s H vs Q E hr h => ?_)
  · obtain ⟨as, r, hA, ⟨x, sc, rfl, hs, rfl⟩, k⟩ := h
    exact hA.length
  · obtain ⟨as, r, hA, ⟨x, sc, rfl, hs, rfl⟩, k⟩ := h
    obtain ⟨v0, _, rfl, rfl, rfl⟩ := hA
    refine ⟨_, (pss_cons (ps_expr (pe_cR (ok_check_scheme T) hr (by rfl) (pa_cons (pv 0) pa_nil)))
      (pss_one (ps_ret (pe_cR (ok_deeds_ofL T) hr (by rfl) (pa_cons (pv 0) pa_nil))))), ?_⟩
    refine q_dropD (d_call (a_consV (ev_var rfl) a_nil) fun H1 e1 => ⟨x, sc, rfl, hs.ex e1, rfl⟩) fun _ H1 e1 _ => ?_
    exact s_retN (n_callL (a_consV (ev_var rfl) a_nil) fun H2 e2 => ⟨x, sc, rfl, (hs.ex e1).ex e2, rfl⟩) fun p ws H' hn e h r => k p ws H' (fresh_back e1 hn) (e1.trans e) h r
end
end Sc


/-! Sc30: the law's deeds. -/
namespace Sc
open PySem PySem.Spec PyProof.Rows L2 Evl
section
variable {K : PySem.W.Frag} {G H H' : Hp} {p D : Addr} {s : Sch} {cs : List Sx} {m : M}
theorem Mach.up {xs ys : List V} (h : Mach K G H p s cs m) (u : Up D H H') (hD : G D = some (.lst xs)) (hD' : H' D = some (.lst ys)) : Mach K (upd G D (.lst ys)) H' p s cs m := by
  obtain ⟨o, hA, S⟩ := h
  have tk := u.tk
  have ne : ∀ {a : Addr}, G a = none → a ≠ D := fun ga z => by rw [z, hD] at ga; cases ga
  have hex : Ex (upd G D (.lst ys)) H' := fun a u' e => by
    by_cases ha : a = D
    · subst ha
      rw [upd_same] at e
      cases e
      exact hD'
    · rw [upd_ne ha] at e
      exact u.exA a _ ha (S.ex a u' e)
  have hpl : SchAt K (upd G D (.lst ys)) o.plan s := S.pl.tk hD rfl
  obtain ⟨v1, h1, g1⟩ := hA.rows
  obtain ⟨v2, h2, g2⟩ := hA.post
  obtain ⟨v3, h3, g3⟩ := hA.trail
  refine ⟨o, ⟨u.exA _ _ (ne S.gp) hA.ob, hpl.ex hex, hA.given.tk tk (imm_strs cs), hA.seen.tk tk, ⟨v1, u.exA _ _ (ne S.gr) h1, g1.tk tk (imm_rows m)⟩, ⟨v2, u.exA _ _ (ne S.go) h2, g2.tk tk (imm_post _)⟩, u.exA _ _ (ne S.gf) hA.fates, u.exA _ _ (ne S.ga) hA.passed, hA.fin.tk tk (imm_failD _), ⟨v3, u.exA _ _ (ne S.gt) h3, g3⟩, hA.bd⟩, ⟨hex, hpl, ?_, ?_, ?_, ?_, ?_, ?_, S.d1, S.d2, S.d3, S.d4⟩⟩
  · rw [upd_ne (ne S.gp)]; exact S.gp
  · rw [upd_ne (ne S.gr)]; exact S.gr
  · rw [upd_ne (ne S.go)]; exact S.go
  · rw [upd_ne (ne S.gf)]; exact S.gf
  · rw [upd_ne (ne S.ga)]; exact S.ga
  · rw [upd_ne (ne S.gt)]; exact S.gt
end
section
variable {P : Program} {w : World} {K : PySem.W.Frag} {mg : PySem.Str → Option Value} {base : Heap}
theorem Mach.draw {K : PySem.W.Frag} {G H H' : Hp} {p D : Addr} {s : Sch} {cs : List Sx} {m : M} (hm : Mach K G H p s cs m) (hD : DrawOk K G D) (u : Up D H H') : ∃ G', Up D G G' ∧ Mach K G' H' p s cs m := by
  obtain ⟨v, b, n, is, h1, _⟩ := hD
  obtain ⟨n', h2⟩ := u.dr _ _ _ (hm.gex _ _ h1)
  exact ⟨_, Up.refl.set h1, hm.up u h1 h2⟩
theorem q_mid {tt : TT} {tu tz : TS} {D : Ends} {σ : L2.St} {H : Hp} (Mid : L2.St → Hp → Prop) (rest : ∀ σ' H', Mid σ' H' → tz D σ' H') (main : ∀ nx : L2.St → Hp → Prop, (∀ σ' H', Mid σ' H' → nx σ' H') → tIfS tt tu tNext { D with nx := nx } σ H) : tSeq (tIfS tt tu tNext) tz D σ H := main (tz D) rest
theorem q_pickV {K : PySem.W.Frag} {H : Hp} {D p : Addr} {ds : List PD} {σ : L2.St} {j i l : Nat} {E : Ends} {tz : TS} (hx : σ[j]? = some (some (.ref D))) (hy : σ[i]? = some (some (.ref p))) (hp : LA K H p ds) (hpD : p ≠ D) (hne' : ds ≠ []) (hI : ImmAll ds = true) (hD : DrawOk K H D) (k : ∀ v d H', d ∈ ds → Up D H H' → Dp K H' v d → tz E (σ.set l (some v)) H') :
    tSeq (tAsg (tCallR (sp_law_pick K) E0 (tCons (tVar j) (tCons (tVar i) tNil))) (gName l)) tz E σ H := pick_v (Q := fun v H' => tz E (σ.set l (some v)) H') hx hy hp hpD hne' hI hD k
theorem mem_deeds_ok {s : Sch} {d : Deed} (h : d ∈ allDeeds s) : deedOk s d := by
  rcases List.mem_append.mp h with h | h
  · rcases List.mem_append.mp h with h | h
    · obtain ⟨e, he, rfl⟩ := List.mem_map.mp h
      exact he
    · obtain ⟨p, hp, rfl⟩ := List.mem_map.mp h
      trivial
  · obtain ⟨w, _, h⟩ := List.mem_flatMap.mp h
    obtain ⟨i, hi, rfl⟩ := List.mem_map.mp h
    exact List.mem_range.mp hi
theorem deeds_ne (s : Sch) : allDeeds s ≠ [] := fun h => by
  have : (Deed.plain .send) ∈ allDeeds s := List.mem_append_left _ (List.mem_append_right _ (List.mem_map.mpr ⟨.send, by decide, rfl⟩))
  rw [h] at this
  cases this
theorem sh_deed (d : Deed) : Sh 1 d.d := by
  have two : ∀ a b : PD, Sh 0 a → Sh 0 b → Sh 1 (.tuple [a, b]) := fun a b ha hb => Sh.tup fun x hx => by
    rcases List.mem_cons.mp hx with rfl | hx
    · exact ha
    · rw [List.mem_singleton.mp hx]; exact hb
  cases d with
  | edit e => exact two _ _ (Sh.str (by decide +kernel)) (Sh.str (by cases e <;> decide +kernel))
  | plain p => exact Sh.tup fun x hx => by rw [List.mem_singleton.mp hx]; exact Sh.str (by cases p <;> decide +kernel)
  | letr w i => exact two _ _ (Sh.str (by cases w <;> decide +kernel)) Sh.int
theorem sh_deeds (ds : List Deed) : Sh 2 (.list (ds.map Deed.d)) := Sh.lst fun d hd => by
  obtain ⟨x, _, rfl⟩ := List.mem_map.mp hd
  exact sh_deed x
theorem eqv_deeds_nil (ds : List Deed) : PyData.eqv (.list (ds.map Deed.d)) (.list []) = decide (ds = []) := by
  cases ds with
  | nil => rfl
  | cons a r => rfl
theorem q_forT {K : PySem.W.Frag} {σ : L2.St} {H : Hp} {wi : TI} {ds : List PD} {j : Nat} {D : Ends} {tu tz : TS} (hs : SrcT K wi σ H ds)
    (k : ∀ H2, Ex H H2 → ∃ Pv : Nat → L2.St → Hp → Prop, Pv 0 σ H2 ∧ (∀ i σ' H', Pv i σ' H' → Tk H2 H') ∧
      (∀ i d v σ' H', ds[i]? = some d → Dp K H' v d → Pv i σ' H' → tu { D with nx := Pv (i + 1), ct := Pv (i + 1), bk := tz D } (σ'.set j (some v)) H') ∧ ∀ σ' H', Pv ds.length σ' H' → tz D σ' H') :
    tSeq (tFor wi (gName j) tu) tz D σ H := by
  unfold tSeq tFor
  refine hs H (Ex.refl _) _ fun J H2 e W => ?_
  obtain ⟨Pv, p0, pG, pt, pd⟩ := k H2 e
  refine for_it (D := { D with nx := tz D }) W Pv p0 (fun i σ' H' _ P => pG i σ' H' P) (fun i x σ' H' H'' hi P Y => ?_) fun σ' H' P => pd σ' H' P
  obtain ⟨rfl, d, h1, h2⟩ := Y
  exact pt i d x σ' _ h1 h2 P
def sp_law_deeds (K : PySem.W.Frag) : Sp := fun vs H Q _ => ∃ D x s v e cs lim, vs = [.ref D, .ref x, v, .int ((lim : Nat) : Int)] ∧ DrawOk K H D ∧ SchAt K H x s ∧ Dp K (mn H D) v e ∧ carD e cs ∧ CaresOk cs ∧ lim ≤ 40 ∧
  ∀ p ds H', H p = none → Up D H H' → LA K H' p (ds.map Deed.d) → DsOk s ds → Q (.ref p) H'
abbrev nm__law_deeds : List PySem.Str := ["_law_draw_here", "_law_scheme_here", "_law_held", "_law_limit", "_law_machine", "_law_found", "_law_turn", "_law_some", "_law_deed"]
theorem sc__law_deeds : FnScope nm__law_deeds ["_law_draw_here", "_law_scheme_here", "_law_held", "_law_limit"] (defScope s__law_deeds) := ⟨rfl, rfl, rfl, by decide +kernel, rfl, by decide +kernel, by decide +kernel⟩
theorem ok__law_deeds (T : Tx K mg) : FR P w K mg base 8 "_law_deeds" (sp_law_deeds K) := by
  refine fr_of (k := 7) (N := nm__law_deeds) (ps := ["_law_draw_here", "_law_scheme_here", "_law_held", "_law_limit"]) (gl__law_deeds T) (T.c.d.def_ 59 (d := d__law_deeds)) sc__law_deeds (fun _ _ _ _ _ _ us hl => match us, hl with | [_, _, _, _], _ => rfl) (fun vs H Q E h => ?_) (fun cdv A outer s H vs Q E hr h => ?_)
  · obtain ⟨D, x, s, v, e, cs, lim, rfl, _⟩ := h
    rfl
  · obtain ⟨D, x, sc, v, e, cs, lim, rfl, hD, hs, rv, hc, hk, hlim, k⟩ := h
    obtain ⟨fdM, Fm, mvM, Bm⟩ := ok_minit (P := P) (w := w) (base := base) T
    obtain ⟨fdP, Fp, Bp⟩ := ok_possible (P := P) (w := w) (base := base) T
    refine ⟨_, (pss_cons (ps_par (i := 4) (j := 5) rfl sc__law_deeds.nd rfl rfl (by decide) rfl rfl (pa_cons (pe_makeK (n := 1) (mk_Machine T) Fm (hr.mono (by decide)) (by rfl) (gl_Machine T) Bm pass0 (pa_cons (pv 1) pa_nil) (pk_cons (pv 2) pk_nil)) (pa_cons (pe_lst pa_nil) pa_nil)) (by rfl))
      (pss_cons (ps_for PassesOwn.never rfl (pi_range1 rfl (fr_range T) (pa_cons (pv 3) pa_nil)) (pg_name (i := 6) sc__law_deeds.nd rfl (Or.inl rfl)) (pss_cons (ps_set (i := 7) sc__law_deeds.nd rfl (Or.inl rfl) (pe_listG (pgen_meth0 (pv 4) (cl_Machine T) (me_Machine_possible T) Fp (hr.mono (by decide)) Bp .nil) passG (fun _ _ _ h => h.elim) (hr.mono (by decide)) (by rfl) (fr_list T) (by decide +kernel)))
      (pss_cons (ps_if (PW.pt (pw_or (pt_cmpR (op_eqK (K := K) rfl hr.units) (pv 7) (pe_lst pa_nil) (nomark _)) (pw_or1 (pt_cmpR op_eq (pe_cR (ok__law_next T) hr (by rfl) (pa_cons (pv 0) (pa_cons pe_int pa_nil))) pe_int (nomark _))))) (pss_one (ps_set (i := 7) sc__law_deeds.nd rfl (Or.inl rfl) (pe_cR (ok_all_deedsL T) hr (by rfl) (pa_cons (pv 1) pa_nil)))) pss_nil)
      (pss_cons (ps_set (i := 8) sc__law_deeds.nd rfl (Or.inl rfl) (pe_cR (ok__law_pick T) hr (by rfl) (pa_cons (pv 0) (pa_cons (pv 7) pa_nil))))
      (pss_cons (ps_if (pt_val (pe_methR (pv 4) (cl_Machine T) (me_Machine_can T) (ok_Machine_can T) (hr.mono (by decide)) pass0 (pa_cons (pv 8) pa_nil))) (pss_one (ps_expr (pe_methR (pv 4) (cl_Machine T) (me_Machine_do T) (ok_Machine_do T) (hr.mono (by decide)) pass0 (pa_cons (pv 8) pa_nil)))) pss_nil)
      (pss_one (ps_expr (pe_bm PySem.F.plainAttrs_list PySem.F.slot_list_append PySem.F.type_list_append mt_append (pv 5) (pa_cons (pv 8) pa_nil)))))))))
      (pss_one (ps_ret (pv 5))))), ?_⟩
    have hsH := hs
    refine q_parM (K := K) (ev_var rfl) (d_var rfl (rv.ex mn_ex)) hs hc hk fun p F G H1 eG gp hpF hF gF hM => ?_
    refine q_forT (K := K) (src_rangeT (n := lim) (d_var (d := .int (lim : Int)) rfl (.int _)) (by omega)) fun H2 e2 => ?_
    refine ⟨fun i σ' H' => ∃ G' m ds t7 t8 t9, σ' = [some (.ref D), some (.ref x), some v, some (.int (lim : Int)), some (.ref p), some (.ref F), t7, t8, t9] ∧ Up D H G' ∧ Tk H2 H' ∧ Mach K G' H' p sc (inOrder cs) m ∧ Ru i m ∧ (∃ acc, G' F = some (.lst acc) ∧ DpAll K H' acc (ds.map Deed.d)) ∧ ds.length = i ∧ ∀ d ∈ ds, deedOk sc d, ⟨G, m0, [], none, none, none, rfl, Up.of eG, Tk.refl _, hM.ex e2, ru0, ⟨[], gF, .nil⟩, rfl, fun _ h => by cases h⟩, fun i σ' H' ⟨_, _, _, _, _, _, _, _, h, _⟩ => h, fun i d w' σ' H' hdi rd P => ?_, fun σ' H' P => ?_⟩
    · obtain ⟨G', m, ds, t7, t8, t9, rfl, uG, tk, hm, hru, hF', hlen, hok⟩ := P
      have hi : i < lim := by
        have := (List.getElem?_eq_some_iff.mp hdi).1
        rwa [intsP_len] at this
      have hDG := hD.up uG
      have hsG := hs.up uG hD
      have hFD : F ≠ D := fun z => by
        obtain ⟨xs, hx⟩ := hD.cell
        rw [← z, hF] at hx
        cases hx
      have immD : ∀ l : List Deed, ImmAll (l.map Deed.d) = true := fun l => immAll_map _ fun d _ => imm_Deed d
      refine q_asgN (n_possible (i := 4) rfl hm.at) fun p7 vs7 H3 n7 e3 h7 r7 => ?_
      have hp7D : p7 ≠ D := fun z => by
        obtain ⟨xs, hx⟩ := (hDG.ex hm.gex).cell
        rw [← z, n7] at hx
        cases hx
      refine q_mid (fun σ' H5 => ∃ G5 p7 es t8, σ' = [some (.ref D), some (.ref x), some v, some (.int (lim : Int)), some (.ref p), some (.ref F), some w', some (.ref p7), t8] ∧ Up D H G5 ∧ Tk H2 H5 ∧ Mach K G5 H5 p sc (inOrder cs) m ∧ (∃ acc, G5 F = some (.lst acc) ∧ DpAll K H5 acc (ds.map Deed.d)) ∧ LA K H5 p7 (es.map Deed.d) ∧ p7 ≠ D ∧ es ≠ [] ∧ ∀ d ∈ es, deedOk sc d) (fun σ' H5 P => ?_) fun nx hnx => ?_
      · obtain ⟨G5, p8, es, t8', rfl, u5, tk5, hm5, hF5, h8, n8, hne', hok8⟩ := P
        refine q_pickV (K := K) (j := 0) (i := 7) rfl rfl h8 n8 (by simpa using hne') (immD es) ((hD.up u5).ex hm5.gex) fun v8 d8 H6 m8 u6 r8 => ?_
        obtain ⟨dd, hdd, rfl⟩ := List.mem_map.mp m8
        have hdok := hok8 dd hdd
        obtain ⟨G6, uG6, hm6⟩ := hm5.draw (hD.up u5) u6
        obtain ⟨acc, ha1', ha2'⟩ := hF5
        have ha1 := uG6.exA _ _ hFD ha1'
        have ha2 := ha2'.tk u6.tk (immD ds)
        have tk6 := tk5.trans u6.tk
        refine q_mid (fun σ' H7 => ∃ m', σ' = [some (.ref D), some (.ref x), some v, some (.int (lim : Int)), some (.ref p), some (.ref F), some w', some (.ref p8), some v8] ∧ Tk H2 H7 ∧ Tk H6 H7 ∧ Mach K G6 H7 p sc (inOrder cs) m' ∧ Ru (i + 1) m') (fun σ' H7 P => ?_) fun nx2 hnx2 => ?_
        · obtain ⟨m', rfl, tk7, tk67, hm7, hru7⟩ := P
          have hlacc : acc.length = i := by rw [ha2.length, List.length_map, hlen]
          have hF7 := hm7.gex _ _ ha1
          have T7 : Tk H7 (upd H7 F (.lst (acc ++ [v8]))) := Tk.lst hF7
          refine ⟨_, rfl, .inl ⟨rfl, _, sq_of hF7⟩, _, rfl, F, acc, v8, rfl, rfl, hF7, sz_lt (by omega), upd G6 F (.lst (acc ++ [v8])), m', ds ++ [dd], _, _, _, rfl, (u5.trans uG6).mut hF ha1, tk7.trans T7, hm7.gupd ha1, hru7, ⟨_, upd_same, ?_⟩, by rw [List.length_append, hlen]; rfl, fun d hd => ?_⟩
          · rw [List.map_append]
            exact ((ha2.tk tk67 (immD ds)).tk T7 (immD ds)).append (.one ((r8.tk tk67 (imm_Deed dd)).tk T7 (imm_Deed dd)))
          · rcases List.mem_append.mp hd with h | h
            · exact hok d h
            · rw [List.mem_singleton.mp h]; exact hdok
        · have hcan : EvT (tB (tMethR (He.ga K "Machine") "can" (sp_can K) E0 (tVar 4) (tCons (tVar 8) tNil))) [some (.ref D), some (.ref x), some v, some (.int (lim : Int)), some (.ref p), some (.ref F), some w', some (.ref p8), some v8] H6 (isPossible (hsOf (inOrder cs)) sc m dd) := t_B (d_meth (i := 4) rfl hm6.at (fun o => rfl) (a_cons (d_var (i := 8) rfl r8) a_nil) fun H7 e7 => ⟨_, sc, inOrder cs, _, _, rfl, (hm6.ex e7).at, hdok, rfl⟩)
          refine hcan H6 (Ex.refl _) _ fun H7 e7 => ?_
          have h7 := hm6.ex e7
          have hst := hru.step (hs := hsOf (inOrder cs)) (s := sc) (d := dd)
          unfold step at hst
          cases hp : isPossible (hsOf (inOrder cs)) sc m dd with
          | true =>
            rw [hp] at hst
            obtain ⟨o, hA, hS⟩ := id h7
            have htr := hru.tr
            refine ⟨_, rfl, p, o.dx, MF o _, rfl, hA.ob, by rfl, _, rfl, ?_⟩
            exact ⟨G6, p, sc, inOrder cs, _, _, [.dat (Deed.d dd)], _, ⟨_, _, rfl, rfl, _, _, rfl, r8.ex e7, rfl⟩, h7, ⟨dd, rfl, hdok, hp, ⟨i, hru.iv, by omega⟩, by omega, rfl, rfl⟩, fun v' H' hm' tk' r => hnx2 _ _ ⟨_, rfl, (tk6.trans (Tk.of e7)).trans tk', (Tk.of e7).trans tk', hm', hst⟩⟩
          | false => exact hnx2 _ _ ⟨m, rfl, tk6.trans (Tk.of e7), Tk.of e7, h7, ⟨hru.iv.mono (Nat.le_succ _), Nat.le_succ_of_le hru.tr⟩⟩
      · have all : ∀ (E' : Ends) (H5 : Hp) (G5 : Hp) (t7 : Option V), (∀ σ' H', (∃ G5 p7 es t8, σ' = [some (.ref D), some (.ref x), some v, some (.int (lim : Int)), some (.ref p), some (.ref F), some w', some (.ref p7), t8] ∧ Up D H G5 ∧ Tk H2 H' ∧ Mach K G5 H' p sc (inOrder cs) m ∧ (∃ acc, G5 F = some (.lst acc) ∧ DpAll K H' acc (ds.map Deed.d)) ∧ LA K H' p7 (es.map Deed.d) ∧ p7 ≠ D ∧ es ≠ [] ∧ ∀ d ∈ es, deedOk sc d) → E'.nx σ' H') → Up D H G5 → Tk H2 H5 → Mach K G5 H5 p sc (inOrder cs) m → (∃ acc, G5 F = some (.lst acc) ∧ DpAll K H5 acc (ds.map Deed.d)) →
            tAsg (tCallR (sp_deeds_ofL K) E0 (tCons (tVar 1) tNil)) (gName 7) E' [some (.ref D), some (.ref x), some v, some (.int (lim : Int)), some (.ref p), some (.ref F), some w', t7, t9] H5 := fun E' H5 G5 t7 hE u5 tk5 hm5 hF5 => by
          refine s_asgN (n_callL (K := K) (a_consV (ev_var rfl) a_nil) fun H6 e6 => ⟨x, sc, rfl, ((hs.up u5 hD).ex hm5.gex).ex e6, rfl⟩) fun p9 vs9 H6 n9 e6 h9 r9 => hE _ _ ⟨G5, p9, allDeeds sc, t9, rfl, u5, tk5.trans (Tk.of e6), hm5.ex e6, ?_, ⟨vs9, h9, r9⟩, ?_, deeds_ne sc, fun d hd => mem_deeds_ok hd⟩
          · obtain ⟨acc, h1, h2⟩ := hF5
            exact ⟨acc, h1, h2.ex e6⟩
          · intro z
            obtain ⟨xs, hx⟩ := ((hD.up u5).ex hm5.gex).cell
            rw [← z, n9] at hx
            cases hx
        obtain ⟨acc, ha1, ha2⟩ := hF'
        have dl : Dp K H3 (.ref p7) (.list ((possibles (hsOf (inOrder cs)) sc m).map Deed.d)) := .lst (sq_of h7) r7
        refine (evt_to (t_test (d_eq (d_var (K := K) (i := 7) (σ := [some (.ref D), some (.ref x), some v, some (.int (lim : Int)), some (.ref p), some (.ref F), some w', some (.ref p7), t9]) rfl dl) (n_lst e_nil).evd (sh_deeds _).ok sh_lnil)) (by rw [eqv_deeds_nil])) H3 (Ex.refl _) _ fun H4 e4 => ?_
        have hm4 := hm.ex (e3.trans e4)
        have tk4 := tk.trans (Tk.of (e3.trans e4))
        have ha4 := ha2.ex (e3.trans e4)
        cases hb : decide (possibles (hsOf (inOrder cs)) sc m = []) with
        | true => exact all _ H4 G' _ hnx uG tk4 hm4 ⟨acc, ha1, ha4⟩
        | false =>
          have hne' : possibles (hsOf (inOrder cs)) sc m ≠ [] := of_decide_eq_false hb
          have hD4 := hDG.ex hm4.gex
          refine next_c (K := K) (b := 7) rfl d_int (by decide) hD4 fun r H5 u5 hr5 => ?_
          refine eq0_c ?_
          refine ⟨_, rfl, ?_⟩
          obtain ⟨G5, uG5, hm5⟩ := hm4.draw hDG u5
          have tk5 := tk4.trans u5.tk
          have uD5 := uG.trans uG5
          have hF5 : ∃ acc, G5 F = some (.lst acc) ∧ DpAll K H5 acc (ds.map Deed.d) := ⟨acc, uG5.exA _ _ hFD ha1, ha4.tk u5.tk (immD ds)⟩
          cases hb2 : decide ((r : Int) = 0) with
          | true => exact all _ H5 G5 _ hnx uD5 tk5 hm5 hF5
          | false =>
            have h5 : LA K H5 p7 ((possibles (hsOf (inOrder cs)) sc m).map Deed.d) := (LA.ex ⟨vs7, h7, r7⟩ e4).up u5 hp7D (immD _)
            exact hnx _ _ ⟨G5, p7, _, t9, rfl, uD5, tk5, hm5, hF5, h5, hp7D, hne', fun d hd => mem_deeds_ok (List.mem_filter.mp hd).1⟩
    · obtain ⟨G', m, ds, t7, t8, t9, rfl, uG, tk, hm, hru, hF', hlen, hok⟩ := P
      rw [intsP_len] at hlen
      exact ⟨_, rfl, k F ds H' hF (uG.ex hm.gex) (let ⟨acc, h1, h2⟩ := hF'; ⟨acc, hm.gex _ _ h1, h2⟩) ⟨by omega, hok⟩⟩
end
end Sc


/-! Sc31: the law's likely lists. -/
namespace Sc
open PySem PySem.Spec PyProof.Rows L2 Evl
/-- held lists of deeds beside the draw list -/
def AllHL (K : PySem.W.Frag) (D : Addr) (H : Hp) : List V → List (List Deed) → Prop
  | [], [] => True
  | v :: vs, ds :: dss => (∃ a, v = .ref a ∧ a ≠ D ∧ LA K H a (ds.map Deed.d)) ∧ AllHL K D H vs dss
  | _, _ => False
def EvHs (K : PySem.W.Frag) (D : Addr) (ta : TA) (σ : L2.St) (H : Hp) (dss : List (List Deed)) : Prop := ∀ H1, Ex H H1 → ∀ Q : List V → Hp → Prop, (∀ vs H2, Ex H1 H2 → AllHL K D H2 vs dss → Q vs H2) → ta σ H1 Q
section
variable {K : PySem.W.Frag} {D : Addr} {H H' : Hp} {σ : L2.St} {te : TE} {tr : TA} {ds : List Deed} {dss : List (List Deed)}
theorem AllHL.ex (e : Ex H H') : ∀ {vs : List V} {dss : List (List Deed)}, AllHL K D H vs dss → AllHL K D H' vs dss
  | [], [], _ => trivial
  | _ :: _, _ :: _, ⟨⟨a, h1, h2, h3⟩, h4⟩ => ⟨⟨a, h1, h2, h3.ex e⟩, AllHL.ex e h4⟩
  | [], _ :: _, h => h.elim
  | _ :: _, [], h => h.elim
theorem AllHL.length : ∀ {vs : List V} {dss : List (List Deed)}, AllHL K D H vs dss → vs.length = dss.length
  | [], [], _ => rfl
  | _ :: _, _ :: _, ⟨_, h4⟩ => congrArg Nat.succ (AllHL.length h4)
  | [], _ :: _, h => h.elim
  | _ :: _, [], h => h.elim
theorem AllHL.getV : ∀ {vs : List V} {dss : List (List Deed)} {i : Nat} {v : V}, AllHL K D H vs dss → vs[i]? = some v → ∃ ds, ds ∈ dss ∧ ∃ a, v = .ref a ∧ a ≠ D ∧ LA K H a (ds.map Deed.d)
  | [], [], _, _, _, e => by simp at e
  | v :: vs, ds :: dss, 0, w, ⟨h1, _⟩, e => by
    simp at e
    subst e
    exact ⟨ds, List.mem_cons_self .., h1⟩
  | v :: vs, ds :: dss, i + 1, w, ⟨_, h2⟩, e => by
    obtain ⟨d, h3, h4⟩ := AllHL.getV (i := i) h2 (by simpa using e)
    exact ⟨d, List.mem_cons_of_mem _ h3, h4⟩
  | [], _ :: _, _, _, h, _ => h.elim
  | _ :: _, [], _, _, h, _ => h.elim
theorem eh_nil : EvHs K D tNil σ H [] := fun H1 _ Q k => k [] H1 (Ex.refl _) trivial
theorem eh_cons {xs : List V} (hD : H D = some (.lst xs)) (h : Evn K te σ H (ds.map Deed.d)) (hr : EvHs K D tr σ H dss) : EvHs K D (tCons te tr) σ H (ds :: dss) := fun H1 a Q k =>
  h H1 a _ fun p vs H2 hp e2 h2 r2 => hr H2 (a.trans e2) _ fun ws H3 e3 r3 => k _ H3 (e2.trans e3) ⟨⟨p, rfl, (nold (a _ _ hD) hp).symm, ⟨vs, e3 _ _ h2, r2.ex e3⟩⟩, r3⟩
theorem q_pickHL {E : Ends} {tz : TS} {ta : TA} {j l : Nat} (hx : σ[j]? = some (some (.ref D))) (N : EvHs K D ta σ H dss) (hne' : dss ≠ []) (hl : dss.length ≤ 1000) (hD : DrawOk K H D) (k : ∀ a ds H', ds ∈ dss → a ≠ D → Up D H H' → LA K H' a (ds.map Deed.d) → tz E (σ.set l (some (.ref a))) H') :
    tSeq (tAsg (tCallR (sp_law_pick K) E0 (tCons (tVar j) (tCons (tLst ta) tNil))) (gName l)) tz E σ H := ⟨_, hx, N H (Ex.refl _) _ fun vs H1 e1 r1 => ⟨sz_of (by rw [r1.length]; omega), fun p hp => by
  obtain ⟨xs, hDc⟩ := (hD.ex e1).cell
  have e2 : Ex H1 (upd H1 p (.lst vs)) := Ex.new hp
  refine ⟨D, p, vs, rfl, (hD.ex e1).ex e2, (nold hDc hp).symm, upd_same, fun z => ?_, fun i x H' hx' u => ?_⟩
  · have := r1.length
    rw [z] at this
    exact hne' (List.length_eq_zero_iff.mp this.symm)
  · obtain ⟨ds, hm, a, rfl, ha, hLA⟩ := (AllHL.ex e2 r1).getV hx'
    exact k a ds H' hm ha ((Up.of (e1.trans e2)).trans u) (hLA.up u ha (immAll_map _ fun d _ => imm_Deed d))⟩⟩
theorem q_forU {E : Ends} {tu tz : TS} {ta : TE} {b j : Nat} (hv : ∀ Q : VK, (∀ (r : Nat) H2, Up D H H2 → r < b → Q (.int ((r + 1 : Nat) : Int)) H2) → ta σ H Q) (hb : b ≤ 1000)
    (k : ∀ r H2, Up D H H2 → r < b → ∃ Pv : Nat → L2.St → Hp → Prop, Pv 0 σ H2 ∧ (∀ i v σ' H', i < r + 1 → Pv i σ' H' → tu { E with nx := Pv (i + 1), ct := Pv (i + 1), bk := tz E } (σ'.set j (some v)) H') ∧ ∀ σ' H', Pv (r + 1) σ' H' → tz E σ' H') :
    tSeq (tFor (iRng1 (tCons ta tNil)) (gName j) tu) tz E σ H := by
  unfold tSeq tFor
  refine hv _ fun r H2 u hr => ?_
  obtain ⟨Pv, p0, pt, pd⟩ := k r H2 u hr
  refine ⟨_, rfl, by omega, by omega, for_it (D := { E with nx := tz E }) walk_range Pv p0 (fun _ _ _ _ _ => trivial) (fun i x σ' H' H'' hi P Y => ?_) fun σ' H' P => pd σ' H' P⟩
  obtain ⟨rfl, rfl⟩ := Y
  exact pt i _ σ' _ hi P
end
/-- the lists that may be drawn -/
def likely5 : List (List Deed) := [[.edit .up, .plain .send, .letr .double 0, .letr .carry 0, .plain .ask, .letr .carry 0], [.edit .up, .plain .send, .letr .carry 0, .letr .carry 0, .plain .reload, .edit .up], [.edit .up, .edit .up, .plain .send, .plain .send, .letr .carry 1, .letr .carry 0], [.edit .up, .plain .ask, .letr .carry 0, .plain .other, .plain .reload, .letr .carry 0], [.edit .up, .plain .send, .letr .refuse 0, .letr .carry 0, .plain .ask, .letr .carry 0]]
def extra7 : List Deed := [.plain .ask, .letr .carry 0, .plain .send, .plain .again, .plain .other, .edit .up, .plain .reload]
/-- what i insertions make -/
inductive Likely : Nat → List Deed → Prop
  | base {ds : List Deed} : ds ∈ likely5 → Likely 0 ds
  | ins {n k : Nat} {ds : List Deed} {d : Deed} : Likely n ds → d ∈ extra7 → Likely (n + 1) (ds.take k ++ [d] ++ ds.drop k)
theorem Likely.len {n : Nat} {ds : List Deed} (h : Likely n ds) : ds.length ≤ 6 + n := by
  induction h with
  | base h => exact (by decide : ∀ l ∈ likely5, l.length ≤ 6 + 0) _ h
  | ins _ _ ih =>
    rw [List.length_append, List.length_append, List.length_take, List.length_drop, List.length_singleton]
    omega
theorem q_nextA {K : PySem.W.Frag} {D : Addr} {H : Hp} {σ : L2.St} {j l b : Nat} {tb : TE} {E : Ends} {tz : TS} (hx : σ[j]? = some (some (.ref D))) (hb : Evd K tb σ H (.int (b : Int))) (h0 : 0 < b) (hD : DrawOk K H D) (k : ∀ (r : Nat) H', Up D H H' → r < b → tz E (σ.set l (some (.int (r : Int)))) H') :
    tSeq (tAsg (tCallR (sp_law_next K) E0 (tCons (tVar j) (tCons tb tNil))) (gName l)) tz E σ H := next_c (Q := fun v H' => tz E (σ.set l (some v)) H') hx hb h0 hD k
theorem q_pickN {K : PySem.W.Frag} {D : Addr} {H : Hp} {σ : L2.St} {j l : Nat} {te : TE} {ds : List PD} {E : Ends} {tz : TS} (hx : σ[j]? = some (some (.ref D))) (N : Evn K te σ H ds) (hne' : ds ≠ []) (hI : ImmAll ds = true) (hD : DrawOk K H D) (k : ∀ v d H', d ∈ ds → Up D H H' → Dp K H' v d → tz E (σ.set l (some v)) H') :
    tSeq (tAsg (tCallR (sp_law_pick K) E0 (tCons (tVar j) (tCons te tNil))) (gName l)) tz E σ H := pick_n (Q := fun v H' => tz E (σ.set l (some v)) H') hx N hne' hI hD k
def sp_law_likely (K : PySem.W.Frag) : Sp := fun vs H Q _ => ∃ D, vs = [.ref D] ∧ DrawOk K H D ∧ ∀ p ds n H', p ≠ D → Up D H H' → LA K H' p (ds.map Deed.d) → Likely n ds → n ≤ 3 → Q (.ref p) H'
section
variable {P : Program} {w : World} {K : PySem.W.Frag} {mg : PySem.Str → Option Value} {base : Heap}
abbrev nm__law_likely : List PySem.Str := ["_law_draw_here", "_law_found", "_law_turn", "_law_at", "_law_some", "_law_deed"]
theorem sc__law_likely : FnScope nm__law_likely ["_law_draw_here"] (defScope s__law_likely) := ⟨rfl, rfl, rfl, by decide +kernel, rfl, by decide +kernel, by decide +kernel⟩
theorem ok__law_likely (T : Tx K mg) : FR P w K mg base 5 "_law_likely" (sp_law_likely K) := by
  refine fr_of (k := 4) (N := nm__law_likely) (ps := ["_law_draw_here"]) (gl__law_likely T) (T.c.d.def_ 64 (d := d__law_likely)) sc__law_likely (fun _ _ _ _ _ _ us hl => match us, hl with | [_], _ => rfl) (fun vs H Q E h => ?_) (fun cdv A outer s H vs Q E hr h => ?_)
  · obtain ⟨D, rfl, _⟩ := h
    rfl
  · obtain ⟨D, rfl, hD, k⟩ := h
    refine ⟨_, (pss_cons (ps_set (i := 1) sc__law_likely.nd rfl (Or.inl rfl) (pe_cR (ok__law_pick T) hr (by rfl) (pa_cons (pv 0) (pa_cons (pe_lst (pa_cons (pe_lst (pa_cons (pe_tup (pa_cons pe_str (pa_cons pe_str pa_nil))) (pa_cons (pe_tup (pa_cons pe_str pa_nil)) (pa_cons (pe_tup (pa_cons pe_str (pa_cons pe_int pa_nil))) (pa_cons (pe_tup (pa_cons pe_str (pa_cons pe_int pa_nil))) (pa_cons (pe_tup (pa_cons pe_str pa_nil)) (pa_cons (pe_tup (pa_cons pe_str (pa_cons pe_int pa_nil))) pa_nil))))))) (pa_cons (pe_lst (pa_cons (pe_tup (pa_cons pe_str (pa_cons pe_str pa_nil))) (pa_cons (pe_tup (pa_cons pe_str pa_nil)) (pa_cons (pe_tup (pa_cons pe_str (pa_cons pe_int pa_nil))) (pa_cons (pe_tup (pa_cons pe_str (pa_cons pe_int pa_nil))) (pa_cons (pe_tup (pa_cons pe_str pa_nil)) (pa_cons (pe_tup (pa_cons pe_str (pa_cons pe_str pa_nil))) pa_nil))))))) (pa_cons (pe_lst (pa_cons (pe_tup (pa_cons pe_str (pa_cons pe_str pa_nil))) (pa_cons (pe_tup (pa_cons pe_str (pa_cons pe_str pa_nil))) (pa_cons (pe_tup (pa_cons pe_str pa_nil)) (pa_cons (pe_tup (pa_cons pe_str pa_nil)) (pa_cons (pe_tup (pa_cons pe_str (pa_cons pe_int pa_nil))) (pa_cons (pe_tup (pa_cons pe_str (pa_cons pe_int pa_nil))) pa_nil))))))) (pa_cons (pe_lst (pa_cons (pe_tup (pa_cons pe_str (pa_cons pe_str pa_nil))) (pa_cons (pe_tup (pa_cons pe_str pa_nil)) (pa_cons (pe_tup (pa_cons pe_str (pa_cons pe_int pa_nil))) (pa_cons (pe_tup (pa_cons pe_str pa_nil)) (pa_cons (pe_tup (pa_cons pe_str pa_nil)) (pa_cons (pe_tup (pa_cons pe_str (pa_cons pe_int pa_nil))) pa_nil))))))) (pa_cons (pe_lst (pa_cons (pe_tup (pa_cons pe_str (pa_cons pe_str pa_nil))) (pa_cons (pe_tup (pa_cons pe_str pa_nil)) (pa_cons (pe_tup (pa_cons pe_str (pa_cons pe_int pa_nil))) (pa_cons (pe_tup (pa_cons pe_str (pa_cons pe_int pa_nil))) (pa_cons (pe_tup (pa_cons pe_str pa_nil)) (pa_cons (pe_tup (pa_cons pe_str (pa_cons pe_int pa_nil))) pa_nil))))))) pa_nil)))))) pa_nil))))
      (pss_cons (ps_for PassesOwn.never rfl (pi_range1 rfl (fr_range T) (pa_cons (pe_op op_add pe_int (pe_cR (ok__law_next T) hr (by rfl) (pa_cons (pv 0) (pa_cons pe_int pa_nil)))) pa_nil)) (pg_name (i := 2) sc__law_likely.nd rfl (Or.inl rfl)) (pss_cons (ps_set (i := 3) sc__law_likely.nd rfl (Or.inl rfl) (pe_cR (ok__law_next T) hr (by rfl) (pa_cons (pv 0) (pa_cons (pe_op op_add (pe_callB (call_lenK (K := K) rfl) (by rfl) (fr_len T) (by decide +kernel) (pa_cons (pv 1) pa_nil)) pe_int) pa_nil))))
      (pss_cons (ps_set (i := 4) sc__law_likely.nd rfl (Or.inl rfl) (pe_lst (pa_cons (pe_tup (pa_cons pe_str pa_nil)) (pa_cons (pe_tup (pa_cons pe_str (pa_cons pe_int pa_nil))) (pa_cons (pe_tup (pa_cons pe_str pa_nil)) (pa_cons (pe_tup (pa_cons pe_str pa_nil)) (pa_cons (pe_tup (pa_cons pe_str pa_nil)) (pa_cons (pe_tup (pa_cons pe_str (pa_cons pe_str pa_nil))) pa_nil))))))))
      (pss_cons (ps_set (i := 5) sc__law_likely.nd rfl (Or.inl rfl) (pe_cR (ok__law_pick T) hr (by rfl) (pa_cons (pv 0) (pa_cons (pe_op op_cat (pv 4) (pe_lst (pa_cons (pe_tup (pa_cons pe_str pa_nil)) pa_nil))) pa_nil))))
      (pss_one (ps_set (i := 1) sc__law_likely.nd rfl (Or.inl rfl) (pe_op op_cat (pe_op op_cat (pe_slice (sl_listK (K := K) rfl) (pv 1) po_none (po_some (pv 3))) (pe_lst (pa_cons (pv 5) pa_nil))) (pe_slice (sl_listK (K := K) rfl) (pv 1) (po_some (pv 3)) po_none))))))))
      (pss_one (ps_ret (pv 1))))), ?_⟩
    obtain ⟨xs, hc⟩ := hD.cell
    have hdd : ∀ {σ : L2.St} {H : Hp} {a b : Sx}, Evd K (tTup (tCons (tC (.str a)) (tCons (tC (.str b)) tNil))) σ H (.tuple [.str a, .str b]) := d_tup (e_cons d_str (e_cons d_str e_nil))
    have hdi : ∀ {σ : L2.St} {H : Hp} {a : Sx} {b : Int}, Evd K (tTup (tCons (tC (.str a)) (tCons (tC (.int b)) tNil))) σ H (.tuple [.str a, .int b]) := d_tup (e_cons d_str (e_cons d_int e_nil))
    have hd1 : ∀ {σ : L2.St} {H : Hp} {a : Sx}, Evd K (tTup (tCons (tC (.str a)) tNil)) σ H (.tuple [.str a]) := d_tup (e_cons d_str e_nil)
    refine q_pickHL (K := K) (dss := likely5) rfl (eh_cons hc (n_lst (e_cons hdd (e_cons hd1 (e_cons hdi (e_cons hdi (e_cons hd1 (e_cons hdi e_nil))))))) (eh_cons hc (n_lst (e_cons hdd (e_cons hd1 (e_cons hdi (e_cons hdi (e_cons hd1 (e_cons hdd e_nil))))))) (eh_cons hc (n_lst (e_cons hdd (e_cons hdd (e_cons hd1 (e_cons hd1 (e_cons hdi (e_cons hdi e_nil))))))) (eh_cons hc (n_lst (e_cons hdd (e_cons hd1 (e_cons hdi (e_cons hd1 (e_cons hd1 (e_cons hdi e_nil))))))) (eh_cons hc (n_lst (e_cons hdd (e_cons hd1 (e_cons hdi (e_cons hdi (e_cons hd1 (e_cons hdi e_nil))))))) eh_nil))))) (by decide) (by decide) hD fun a ds H1 hds ha u1 hl => ?_
    refine q_forU (D := D) (b := 3) (fun Q q => ?_) (by decide) fun r H2 u2 hr => ?_
    · refine next_c (K := K) (b := 3) rfl d_int (by decide) (hD.up u1) fun r H2 u hr => ?_
      exact ⟨1, _, rfl, rfl, by show Q (.int ((1 : Int) + (r : Int))) H2; rw [show (1 : Int) + (r : Int) = ((r + 1 : Nat) : Int) by omega]; exact q r H2 u hr⟩
    have immD : ∀ l : List Deed, ImmAll (l.map Deed.d) = true := fun l => immAll_map _ fun d _ => imm_Deed d
    refine ⟨fun i σ' H' => ∃ a ds z1 z2 z3 z4, σ' = [some (.ref D), some (.ref a), z1, z2, z3, z4] ∧ a ≠ D ∧ Up D H H' ∧ LA K H' a (ds.map Deed.d) ∧ Likely i ds, ⟨a, ds, none, none, none, none, rfl, ha, u1.trans u2, hl.up u2 ha (immD ds), .base hds⟩, fun i v σ' H' hi P => ?_, fun σ' H' P => ?_⟩
    · obtain ⟨a, ds, z1, z2, z3, z4, rfl, ha, u, hl, hk⟩ := P
      have hlen := hk.len
      have hDk := hD.up u
      refine q_nextA (K := K) (b := ds.length + 1) rfl (Evd.to (d_add (d_lenS (ds := ds.map Deed.d) (d_var rfl hl.dp) (.inl rfl)) (d_int (i := 1))) (by rw [List.length_map]; rfl)) (by omega) hDk fun at' H3 u3 hat => ?_
      have hl3 := hl.up u3 ha (immD ds)
      refine q_asgN (n_lst (K := K) (e_cons hd1 (e_cons hdi (e_cons hd1 (e_cons hd1 (e_cons hd1 (e_cons hdd e_nil))))))) fun p4 vs4 H4 n4 e4 h4 r4 => ?_
      have hD4 := (hDk.up u3).ex e4
      refine q_pickN (K := K) (ds := extra7.map Deed.d) rfl (Evn.to (n_catV (ev_var rfl) h4 r4 (n_lst (e_cons hd1 e_nil)) (by simp)) rfl) (by decide) (immD _) hD4 fun v5 d5 H5 m5 u5 r5 => ?_
      obtain ⟨dd, hdd', rfl⟩ := List.mem_map.mp m5
      have hl5 := (hl3.ex e4).up u5 ha (immD ds)
      have u35 := (u3.ex e4).trans u5
      refine s_asgN (Evn.to (n_cat (K := K) (n_cat (n_slL (lo := none) (hi := some (at' : Int)) (d_var rfl hl5.dp) eo_none (eo_some (ev_var rfl))) (n_lst (e_cons (d_var rfl r5) e_nil)) ?_) (n_slL (lo := some (at' : Int)) (hi := none) (d_var rfl hl5.dp) (eo_some (ev_var rfl)) eo_none) ?_) ?_) fun p6 vs6 H6 n6 e6 h6 r6 => ⟨p6, ds.take at' ++ [dd] ++ ds.drop at', _, _, _, _, rfl, ?_, u.trans (u35.ex e6), ⟨vs6, h6, r6⟩, .ins hk hdd'⟩
      · rw [cut_front, List.length_take, List.length_map]
        simp
        omega
      · rw [cut_front, cut_back, List.length_append, List.length_take, List.length_drop, List.length_map]
        simp
        omega
      · rw [cut_front, cut_back, List.map_append, List.map_append, List.map_take, List.map_drop]
        rfl
      · intro z
        obtain ⟨xs, hx⟩ := (hD4.up u5).cell
        rw [← z, n6] at hx
        cases hx
    · obtain ⟨a, ds, z1, z2, z3, z4, rfl, ha, u, hl, hk⟩ := P
      exact ⟨_, rfl, k a ds (r + 1) H' ha u hl hk (by omega)⟩
end
end Sc


/-! ScK: dicts with tuple keys, walked by a statement, by a list comprehension, and list(d). -/
namespace Sc
open PySem PySem.Spec PyProof.Rows L2 Evl
section
variable {K : PySem.W.Frag} {σ : L2.St} {H : Hp} {td ty te tv : TE} {tt : TT} {a : Addr} {t : Tab} {k : List Sx} {d : PD} {j i : Nat} {vs : List Nat} {tu tz : TS} {D : Ends}
theorem d_inF {o : Obj} {kvs : List (KeyT × V)} (hk : Evd K ty σ H (setD k)) (hd : Ev td σ H (.ref a)) (ha : H a = some (.frz o (.dT kvs))) (hT : TabR K H kvs t) : Evd K (tDInS K ty td) σ H (.bool (getT t k).isSome) := fun H1 e Q q =>
  hk H1 e _ fun v H2 e2 r2 => hd H2 (e.trans e2) _ fun H3 e3 => by
    have e' := (e.trans e2).trans e3
    obtain ⟨b, rfl, hs⟩ := keySq (r2.ex e3)
    refine ⟨a, _, rfl, ⟨kvs, keyT k, b, .inr ⟨o, e' _ _ ha⟩, rfl, hs, rfl⟩, ?_⟩
    have : (valV kvs (keyT k)).isSome = (getT t k).isSome := by
      rcases hT.get k with ⟨g1, g2⟩ | ⟨v, d, g1, g2, _⟩ <;> rw [g1, g2] <;> rfl
    rw [this]
    exact q _ H3 (e2.trans e3) (.bl _)
theorem d_ninF {o : Obj} {kvs : List (KeyT × V)} (hk : Evd K ty σ H (setD k)) (hd : Ev td σ H (.ref a)) (ha : H a = some (.frz o (.dT kvs))) (hT : TabR K H kvs t) : Evd K (tDNotInS K ty td) σ H (.bool (!(getT t k).isSome)) := fun H1 e Q q =>
  hk H1 e _ fun v H2 e2 r2 => hd H2 (e.trans e2) _ fun H3 e3 => by
    have e' := (e.trans e2).trans e3
    obtain ⟨b, rfl, hs⟩ := keySq (r2.ex e3)
    refine ⟨a, _, rfl, ⟨kvs, keyT k, b, .inr ⟨o, e' _ _ ha⟩, rfl, hs, rfl⟩, ?_⟩
    have : (valV kvs (keyT k)).isSome = (getT t k).isSome := by
      rcases hT.get k with ⟨g1, g2⟩ | ⟨v, d, g1, g2, _⟩ <;> rw [g1, g2] <;> rfl
    rw [this]
    exact q _ H3 (e2.trans e3) (.bl _)
/-- for j in d: -/
theorem q_forK (hx : σ[i]? = some (some (.ref a))) (ha : DTab K H a t)
    (k : ∀ kvs od, H a = some (.dT kvs) → TabR K (upd H a (.frz od (.dT kvs))) kvs t → ∃ Pv : Nat → L2.St → Hp → Prop, Pv 0 σ (upd H a (.frz od (.dT kvs))) ∧ (∀ n σ' H', Pv n σ' H' → H' a = some (.frz od (.dT kvs)) ∧ TabR K H' kvs t) ∧
      (∀ n s d v σ' H' (E : Ends), t[n]? = some (s, d) → Tr.r H' v s → Pv n σ' H' → E.nx = Pv (n + 1) → tu E (σ'.set j (some v)) H') ∧ ∀ σ' H', Pv t.length σ' H' → tz D σ' (upd H' a (.dT kvs))) :
    tSeq (tLock (tFor (iKeys (tVar i)) (gName j) tu)) tz D σ H := by
  obtain ⟨kvs, h1, h2⟩ := ha
  refine ⟨a, .dT kvs, h1, True.intro, fun od => ?_⟩
  obtain ⟨Pv, p0, pG, pt, pd⟩ := k kvs od h1 (h2.tk (tk_lock (od := od) h1))
  refine ⟨_, hx, a, od, rfl, .inr ⟨kvs, upd_same, for_it walk_keysT Pv p0 (fun n σ' H' _ P => (pG n σ' H' P).1) (fun n x σ' H' H'' hi P Y => ?_) fun σ' H' P => ?_⟩⟩
  · obtain ⟨rfl, kk, v, q, hkv, rfl, hq⟩ := Y
    obtain ⟨s, d, hs, rfl, hd, him⟩ := tab_at (pG _ _ _ P).2 hkv
    exact pt n s d _ σ' _ _ hs ⟨q, rfl, by rw [← keyT_kV]; exact hq⟩ P rfl
  · rw [h2.length] at P
    exact ⟨(pG _ _ _ P).1, pd σ' H' P⟩
/-- [te for j in d if tt] -/
theorem n_lcK {p : List Sx × PD → Bool} {f : List Sx × PD → PD} (hx : σ[i]? = some (some (.ref a))) (ha : DTab K H a t) (hz : t.length ≤ 40000) (hI : ∀ q ∈ t, Imm (f q) = true) (hw : ∀ v, wipe ((wipe σ vs).set j (some v)) vs = wipe σ vs)
    (hel : ∀ H1 kvs od, Ex H H1 → H1 a = some (.dT kvs) → ∀ H2 v q, q ∈ t → Ex (upd H1 a (.frz od (.dT kvs))) H2 → Tr.r H2 v q.1 → TabR K H2 kvs t → EvT tt ((wipe σ vs).set j (some v)) H2 (p q) ∧ (p q = true → Evd K te ((wipe σ vs).set j (some v)) H2 (f q))) :
    Evn K (tLockE (tLc (iKeys (tVar i)) (gName j) tt te vs)) σ H ((t.filter p).map f) := fun H1 e1 Q k => by
  obtain ⟨kvs, h1, h2⟩ := ha.ex e1
  have hlen := h2.length
  refine ⟨a, .dT kvs, h1, True.intro, fun od => ⟨_, hx, a, od, rfl, .inr ⟨kvs, upd_same, fun D hD => ?_⟩⟩⟩
  have hDa : D ≠ a := fun z => by rw [z, upd_same] at hD; cases hD
  have hD1 : H1 D = none := by rw [upd_ne hDa] at hD; exact hD
  have W := walk_keysT (d := a) (o := od) (kvs := kvs)
  have hL := h2.tk (tk_lock (od := od) h1)
  refine lc_it W (fun n H' => Ex (upd H1 a (.frz od (.dT kvs))) H' ∧ ∃ acc, H' D = some (.lst acc) ∧ DpAll K H' acc (((t.take n).filter p).map f)) ⟨Ex.new hD, [], upd_same, .nil⟩ (fun n H' _ P => P.1 a _ upd_same) (fun n x H3 H4 hi P Y => ?_) fun H3 P => ?_
  · obtain ⟨ex, acc, hacc, hdp⟩ := P
    obtain ⟨rfl, kk, v, q, hkv, rfl, hq⟩ := Y
    have hL3 := hL.tk (Tk.of ex)
    obtain ⟨s, d, hs, rfl, hd, him⟩ := tab_at hL3 hkv
    have hq' : H4 q = some (.tup (s.map V.str)) := by rw [← keyT_kV]; exact hq
    have hmem : (s, d) ∈ t := List.mem_of_getElem? hs
    have htk : t.take (n + 1) = t.take n ++ [(s, d)] := by rw [List.take_succ, hs] <;> rfl
    have hlen' : acc.length ≤ 40000 := by
      rw [hdp.length, List.length_map]
      exact Nat.le_trans (List.length_filter_le _ _) (by rw [List.length_take]; omega)
    obtain ⟨g1, g2⟩ := hel H1 kvs od e1 h1 H4 (.ref q) (s, d) hmem ex ⟨q, rfl, hq'⟩ hL3
    refine ⟨hw _, g1 _ (Ex.refl _) _ fun H5 q5 => ?_⟩
    cases hp : p (s, d) with
    | true =>
      show te _ H5 fun y H4 => ∃ acc, H4 D = some (.lst acc) ∧ acc.length < sizeLine ∧ _
      refine g2 hp H5 q5 _ fun w H6 q6 r6 => ⟨acc, q6 D _ (q5 D _ hacc), sz_lt (by omega), ((ex.trans q5).trans q6).mut hD, _, upd_same, ?_⟩
      rw [htk, List.filter_append, List.map_append]
      have e1 : [(s, d)].filter p = [(s, d)] := by simp [hp]
      rw [e1]
      have T : Tk H6 (upd H6 D (.lst (acc ++ [w]))) := Tk.lst (q6 D _ (q5 D _ hacc))
      exact ((hdp.ex (q5.trans q6)).tk T (immAll_map f fun z hz => hI z (List.mem_of_mem_take (List.mem_filter.mp hz).1))).append (.one (r6.tk T (hI _ hmem)))
    | false =>
      refine ⟨ex.trans q5, acc, q5 D _ hacc, ?_⟩
      rw [htk, List.filter_append, List.map_append]
      have e1 : [(s, d)].filter p = [] := by simp [hp]
      rw [e1]
      simpa using hdp.ex q5
  · obtain ⟨ex, acc, hacc, hdp⟩ := P
    rw [hlen, List.take_length] at hdp
    have hfz := ex a _ upd_same
    refine ⟨hfz, k D acc _ hD1 (ex_lock h1 ex) (by rw [upd_ne hDa]; exact hacc) (hdp.tk (tk_unlock hfz) (immAll_map f fun z hz => hI z (List.mem_filter.mp hz).1))⟩
theorem keys_all : ∀ {kvs : List (KeyT × V)} {ts : Tab} {bs : List Addr}, TabR K H kvs ts → IsKeys H kvs bs → AllR Tr H (bs.map V.ref) (ts.map (·.1))
  | [], [], _, _, .nil => trivial
  | p :: ps, t :: ts, _, ⟨h1, _, _, h4⟩, .cons (b := b) e r => ⟨⟨b, rfl, by rw [e, h1, keyT_kV]⟩, keys_all h4 r⟩
  | [], _ :: _, _, h, _ => h.elim
  | _ :: _, [], _, h, _ => h.elim
/-- list(d) -/
theorem n_keysL (hx : σ[i]? = some (some (.ref a))) (ha : DTab K H a t) : EvnR Tr (tCB (fun xs H Q => ∃ d kvs, xs = [V.ref d] ∧ Rd H d (.dT kvs) ∧ ∀ p bs, H p = none → IsKeys H kvs bs → Q (.ref p) (upd H p (.lst (bs.map V.ref)))) (tCons (tVar i) tNil)) σ H (t.map (·.1)) := fun H1 e Q k => by
  obtain ⟨kvs, h1, h2⟩ := ha.ex e
  exact ⟨_, hx, a, kvs, rfl, .inl h1, fun p bs hp hb => k p _ _ hp (Ex.new hp) upd_same ((keys_all h2 hb).ex (Ex.new hp))⟩
end
/-! a table of one value -/
def tabG (G : List (List Sx)) : Tab := G.map fun s => (s, .bool true)
theorem tabG_keys (G : List (List Sx)) : (tabG G).map (·.1) = G := by
  unfold tabG
  rw [List.map_map]
  exact List.map_id' _
theorem tabG_len (G : List (List Sx)) : (tabG G).length = G.length := List.length_map ..
theorem tabG_at {G : List (List Sx)} {n : Nat} {s : List Sx} {d : PD} (h : (tabG G)[n]? = some (s, d)) : G[n]? = some s := by
  unfold tabG at h
  rw [List.getElem?_map] at h
  obtain ⟨x, hx, e⟩ := Option.map_eq_some_iff.mp h
  cases e
  exact hx
theorem putT_new {t : Tab} {k : List Sx} {d : PD} (h : k ∉ t.map (·.1)) : putT t k d = t ++ [(k, d)] := by
  unfold putT
  rw [if_neg]
  rw [List.any_eq_true]
  rintro ⟨q, hq, e⟩
  exact h (List.mem_map.mpr ⟨q, hq, of_decide_eq_true e⟩)
theorem tabG_put {G : List (List Sx)} {s : List Sx} (h : s ∉ G) : putT (tabG G) s (.bool true) = tabG (G ++ [s]) := by
  rw [putT_new (by rw [tabG_keys]; exact h)]
  unfold tabG
  rw [List.map_append]
  rfl
theorem getT_tabG (k : List Sx) : ∀ G : List (List Sx), (getT (tabG G) k).isSome = decide (k ∈ G)
  | [] => rfl
  | g :: r => by
    show (getT ((g, .bool true) :: tabG r) k).isSome = _
    rw [getT_cons]
    by_cases e : g = k
    · subst e
      simp
    · have e' : ¬ k = g := fun z => e z.symm
      rw [if_neg e, getT_tabG k r]
      simp [e']
theorem eqv_sh {n : Nat} {d : PD} (h : Sh n d) : PyData.eqv d d = true := PySem.SeqAt.eqv_refl d h.1
end Sc

/-! ScG: the law's list of least sets is the program's. -/
namespace Sc
open PySem PySem.Spec PyProof.Rows L2 Evl
def within (o s : List Sx) : Bool := !decide (o = s) && o.all fun c => decide (c ∈ s)
def lawLeast (acc : List (List Sx)) : List (List Sx) → List (List Sx)
  | [] => acc
  | s :: r => lawLeast (if acc.any (fun o => within o s) = true then acc else acc ++ [s]) r
theorem within_iff {o s : List Sx} : within o s = true ↔ o ≠ s ∧ ∀ c ∈ o, c ∈ s := by
  unfold within
  simp [List.all_eq_true]
theorem sub_len {pool o s : List Sx} (hn : pool.Nodup) (ho : o.Sublist pool) (hs : s.Sublist pool) (h : within o s = true) : o.length < s.length := by
  obtain ⟨hne, hsub⟩ := within_iff.mp h
  by_cases hb : ∃ c ∈ s, c ∉ o
  · obtain ⟨c, hc, hco⟩ := hb
    have h1 : ∀ x ∈ o, x ∈ s.erase c := fun x hx => (List.mem_erase_of_ne (fun z : x = c => hco (z ▸ hx))).mpr (hsub x hx)
    have h2 := List.Nodup.length_le_of_subset (ho.nodup hn) h1
    rw [List.length_erase_of_mem hc] at h2
    have h3 := List.length_pos_of_mem hc
    omega
  · exfalso
    apply hne
    rw [← sub_filter hn ho, ← sub_filter hn hs]
    refine List.filter_congr fun c _ => decide_eq_decide.mpr ⟨hsub c, fun hc => ?_⟩
    exact Decidable.byContradiction fun z => hb ⟨c, hc, z⟩
theorem min_ex {pool : List Sx} (hn : pool.Nodup) {G : List (List Sx)} (hG : ∀ o ∈ G, o.Sublist pool) : ∀ (n : Nat) (o : List Sx), o.length ≤ n → o ∈ G → ∃ q ∈ G, q.length ≤ o.length ∧ (∀ c ∈ q, c ∈ o) ∧ (G.any fun p => within p q) = false
  | 0, o, hl, ho => by
    refine ⟨o, ho, Nat.le_refl _, fun c h => h, ?_⟩
    rw [List.any_eq_false]
    intro p hp z
    have := sub_len hn (hG p hp) (hG o ho) z
    omega
  | n + 1, o, hl, ho => by
    cases e : G.any fun p => within p o with
    | false => exact ⟨o, ho, Nat.le_refl _, fun c h => h, e⟩
    | true =>
      obtain ⟨p, hp, hw⟩ := List.any_eq_true.mp e
      have h1 := sub_len hn (hG p hp) (hG o ho) hw
      obtain ⟨q, hq, h2, h3, h4⟩ := min_ex hn hG n p (by omega) hp
      exact ⟨q, hq, by omega, fun c hc => (within_iff.mp hw).2 c (h3 c hc), h4⟩
def minG (G : List (List Sx)) (s : List Sx) : Bool := !(G.any fun o => within o s)
theorem least_step {pool : List Sx} (hn : pool.Nodup) {G pre rest : List (List Sx)} {s : List Sx} (hG : ∀ o ∈ G, o.Sublist pool) (e : G = pre ++ s :: rest) (hs : G.Pairwise fun a b => a.length ≤ b.length) :
    ((pre.filter (minG G)).any fun o => within o s) = G.any fun o => within o s := by
  rw [Bool.eq_iff_iff, List.any_eq_true, List.any_eq_true]
  constructor
  · rintro ⟨o, ho, hw⟩
    exact ⟨o, by rw [e]; exact List.mem_append_left _ (List.mem_filter.mp ho).1, hw⟩
  · rintro ⟨o, ho, hw⟩
    have hsG : s ∈ G := by rw [e]; simp
    have h1 := sub_len hn (hG o ho) (hG s hsG) hw
    obtain ⟨q, hq, h2, h3, h4⟩ := min_ex hn hG o.length o (Nat.le_refl _) ho
    refine ⟨q, List.mem_filter.mpr ⟨?_, by unfold minG; rw [h4]; rfl⟩, within_iff.mpr ⟨fun z => by rw [z] at h2; omega, fun c hc => (within_iff.mp hw).2 c (h3 c hc)⟩⟩
    rw [e] at hq hs
    rcases List.mem_append.mp hq with hq | hq
    · exact hq
    · have hp := (List.pairwise_append.mp hs).2.1
      rcases List.mem_cons.mp hq with rfl | hq
      · omega
      · have := (List.pairwise_cons.mp hp).1 q hq
        omega
theorem least_go {pool : List Sx} (hn : pool.Nodup) {G : List (List Sx)} (hG : ∀ o ∈ G, o.Sublist pool) (hs : G.Pairwise fun a b => a.length ≤ b.length) : ∀ (rest pre : List (List Sx)), G = pre ++ rest → lawLeast (pre.filter (minG G)) rest = G.filter (minG G)
  | [], pre, e => by
    rw [List.append_nil] at e
    rw [e]
    rfl
  | s :: r, pre, e => by
    show lawLeast (if ((pre.filter (minG G)).any fun o => within o s) = true then pre.filter (minG G) else pre.filter (minG G) ++ [s]) r = _
    rw [least_step hn hG e hs]
    have : (if (G.any fun o => within o s) = true then pre.filter (minG G) else pre.filter (minG G) ++ [s]) = (pre ++ [s]).filter (minG G) := by
      rw [List.filter_append]
      have e2 : [s].filter (minG G) = if minG G s = true then [s] else [] := by
        rw [List.filter_cons]
        rfl
      rw [e2]
      unfold minG
      cases h : G.any fun o => within o s
      · rfl
      · exact (List.append_nil _).symm
    rw [this]
    exact least_go hn hG hs r (pre ++ [s]) (by rw [e, List.append_assoc]; rfl)
theorem least_law {pool : List Sx} (hn : pool.Nodup) {G : List (List Sx)} (hG : ∀ o ∈ G, o.Sublist pool) (hs : G.Pairwise fun a b => a.length ≤ b.length) : lawLeast [] G = leastOf G := least_go hn hG hs G [] rfl
theorem good_sub {s : Sch} {ds : List Deed} : ∀ o ∈ goodOf s ds, o.Sublist cares9 := fun o ho => sets_sub cares9_ok.2 (List.mem_filter.mp ho).1
theorem good_nodup (s : Sch) (ds : List Deed) : (goodOf s ds).Nodup := (sets_nodup cares9_ok.2).filter _
theorem good_sorted (s : Sch) (ds : List Deed) : (goodOf s ds).Pairwise fun a b => a.length ≤ b.length := (sets_sorted cares9).filter _
theorem least_good (s : Sch) (ds : List Deed) : lawLeast [] (goodOf s ds) = leastOf (goodOf s ds) := least_law cares9_ok.2 good_sub (good_sorted s ds)
theorem inOrder_mem {s : List Sx} (h : s.Sublist cares9) {c : Sx} (hc : c ∈ s) : inOrder (s ++ [c]) = s := by
  have : inOrder (s ++ [c]) = cares9.filter (fun x => decide (x ∈ s)) := by
    unfold inOrder
    refine List.filter_congr fun x _ => decide_eq_decide.mpr ⟨fun h => ?_, fun h => List.mem_append_left _ h⟩
    rcases List.mem_append.mp h with h | h
    · exact h
    · rw [List.mem_singleton.mp h]; exact hc
  rw [this, sub_filter cares9_ok.2 h]
def harmsAt (G : List (List Sx)) (s : List Sx) : List (List Sx × Sx) := (cares9.filter fun c => !decide (inOrder (s ++ [c]) ∈ G)).map fun c => (s, c)
theorem harms_law {s : Sch} {ds : List Deed} : harmsOf (goodOf s ds) = (goodOf s ds).flatMap (harmsAt (goodOf s ds)) := by
  unfold harmsOf
  rw [List.filter_flatMap]
  unfold List.flatMap
  congr 1
  refine List.map_congr_left fun o ho => ?_
  unfold harmsAt
  rw [List.filter_map, List.filter_filter]
  congr 1
  refine List.filter_congr fun c _ => ?_
  show (!decide (inOrder (o ++ [c]) ∈ goodOf s ds) && !decide (c ∈ o)) = _
  by_cases hc : c ∈ o
  · rw [inOrder_mem (good_sub o ho) hc]
    simp [ho]
  · simp [hc]
end Sc

/-! ScW: the law's table of failures, and what shows. -/
namespace Sc
open PySem PySem.Spec PyProof.Rows L2 Evl
def shw (F : List Sx → Option Fail) (fw : List (List Sx)) (x : List Sx) (ft : FTab) : Bool :=
  (F x).isNone && (decide (fw.length = ft.length) && (fw.all fun s => (getF ft s).isSome) && fw.all fun x => match F x with | none => false | some f => decide (getF ft x = some f))
structure Late (F : List Sx → Option Fail) (L A : List (List Sx)) (x : List Sx) : Prop where
  eq : ∃ B, L = A ++ x :: B
  fx : F x = none
  fa : ∀ a ∈ A, (F a).isSome = true
theorem Late.of {F : List Sx → Option Fail} : ∀ {L : List (List Sx)}, (∃ x ∈ L, F x = none) → ∃ A x, Late F L A x
  | [], h => by obtain ⟨x, h, _⟩ := h; cases h
  | y :: r, h => by
    cases e : F y with
    | none => exact ⟨[], y, ⟨r, rfl⟩, e, fun a ha => by cases ha⟩
    | some f =>
      obtain ⟨x, hx, hf⟩ := h
      have : ∃ x ∈ r, F x = none := by
        rcases List.mem_cons.mp hx with rfl | hx
        · rw [e] at hf; cases hf
        · exact ⟨x, hx, hf⟩
      obtain ⟨A, x, ⟨B, h1⟩, h2, h3⟩ := Late.of this
      refine ⟨y :: A, x, ⟨B, by rw [h1]; rfl⟩, h2, fun a ha => ?_⟩
      rcases List.mem_cons.mp ha with rfl | ha
      · rw [e]; rfl
      · exact h3 a ha
def accOf (F : List Sx → Option Fail) (A : List (List Sx)) : FTab := A.filterMap fun a => (F a).map fun f => (a, f)
theorem accOf_cons {F : List Sx → Option Fail} {a : List Sx} {A : List (List Sx)} {f : Fail} (h : F a = some f) : accOf F (a :: A) = (a, f) :: accOf F A := by
  unfold accOf
  rw [List.filterMap_cons, h]
  rfl
theorem accOf_app (F : List Sx → Option Fail) (A B : List (List Sx)) : accOf F (A ++ B) = accOf F A ++ accOf F B := List.filterMap_append
theorem accOf_rev (F : List Sx → Option Fail) (A : List (List Sx)) : accOf F A.reverse = (accOf F A).reverse := List.filterMap_reverse
theorem accOf_keys {F : List Sx → Option Fail} : ∀ {A : List (List Sx)}, (∀ a ∈ A, (F a).isSome = true) → (accOf F A).map (·.1) = A
  | [], _ => rfl
  | a :: r, h => by
    cases e : F a with
    | none =>
      have := h a List.mem_cons_self
      rw [e] at this; cases this
    | some f =>
      rw [accOf_cons e, List.map_cons, accOf_keys fun b hb => h b (List.mem_cons_of_mem _ hb)]
theorem accOf_len {F : List Sx → Option Fail} {A : List (List Sx)} (h : ∀ a ∈ A, (F a).isSome = true) : (accOf F A).length = A.length := by
  have := congrArg List.length (accOf_keys h)
  rwa [List.length_map] at this
theorem getF_cons (p : List Sx × Fail) (r : FTab) (k : List Sx) : getF (p :: r) k = if p.1 = k then some p.2 else getF r k := by
  unfold getF
  rw [List.find?_cons]
  by_cases h : p.1 = k <;> simp [h]
theorem getF_acc {F : List Sx → Option Fail} {k : List Sx} : ∀ {A : List (List Sx)}, k ∈ A → getF (accOf F A) k = F k
  | a :: r, h => by
    by_cases hk : k = a
    · subst hk
      cases e : F k with
      | some f => rw [accOf_cons e, getF_cons, if_pos rfl]
      | none =>
        by_cases hr : k ∈ r
        · have : accOf F (k :: r) = accOf F r := by unfold accOf; rw [List.filterMap_cons, e]; rfl
          rw [this, getF_acc hr, e]
        · have : accOf F (k :: r) = accOf F r := by unfold accOf; rw [List.filterMap_cons, e]; rfl
          rw [this]
          unfold getF
          rw [Option.map_eq_none_iff, List.find?_eq_none]
          intro p hp
          obtain ⟨b, hb, hbe⟩ := List.mem_filterMap.mp hp
          cases e2 : F b with
          | none => rw [e2] at hbe; cases hbe
          | some f =>
            rw [e2] at hbe
            cases hbe
            intro z
            have z : b = k := of_decide_eq_true z
            exact hr (z ▸ hb)
    · have hr : k ∈ r := by
        rcases List.mem_cons.mp h with h | h
        · exact absurd h hk
        · exact h
      cases e : F a with
      | some f => rw [accOf_cons e, getF_cons, if_neg (fun z => hk z.symm), getF_acc hr]
      | none =>
        have : accOf F (a :: r) = accOf F r := by unfold accOf; rw [List.filterMap_cons, e]; rfl
        rw [this, getF_acc hr]
theorem acc_filter {F : List Sx → Option Fail} (q : List Sx → Bool) : ∀ A : List (List Sx), (accOf F A).filter (fun p => q p.1) = accOf F (A.filter q)
  | [] => rfl
  | a :: r => by
    have ih := acc_filter (F := F) q r
    cases e : F a with
    | none =>
      have e1 : accOf F (a :: r) = accOf F r := by unfold accOf; rw [List.filterMap_cons, e]; rfl
      rw [e1, ih, List.filter_cons]
      split
      · unfold accOf; rw [List.filterMap_cons, e]; rfl
      · rfl
    | some f =>
      rw [accOf_cons e, List.filter_cons, List.filter_cons, ih]
      show (if q a = true then _ else _) = _
      split
      · rw [accOf_cons e]
      · rfl
def fwr (L : List (List Sx)) (y : List Sx) : List (List Sx) := L.filter fun s => decide (s.length < y.length)
section
variable {F : List Sx → Option Fail} {L A : List (List Sx)} {x : List Sx}
theorem Late.fewer (h : Late F L A x) (hs : L.Pairwise fun a b => a.length ≤ b.length) : fwr L x = A.filter fun s => decide (s.length < x.length) := by
  obtain ⟨B, e⟩ := h.eq
  unfold fwr
  rw [e] at hs ⊢
  rw [List.filter_append]
  have : (x :: B).filter (fun s => decide (s.length < x.length)) = [] := by
    rw [List.filter_eq_nil_iff]
    intro a ha z
    have z := of_decide_eq_true z
    have h2 := (List.pairwise_append.mp hs).2.1
    rcases List.mem_cons.mp ha with rfl | ha
    · omega
    · have := (List.pairwise_cons.mp h2).1 a ha
      omega
  rw [this, List.append_nil]
theorem Late.due (h : Late F L A x) (hs : L.Pairwise fun a b => a.length ≤ b.length) : (accOf F A).filter (fun p => decide (p.1.length < x.length)) = accOf F (fwr L x) := by
  rw [h.fewer hs]
  exact acc_filter (fun s => decide (s.length < x.length)) A
theorem Late.some (h : Late F L A x) (hs : L.Pairwise fun a b => a.length ≤ b.length) : ∀ a ∈ fwr L x, (F a).isSome = true := by
  rw [h.fewer hs]
  exact fun a ha => h.fa a (List.mem_filter.mp ha).1
theorem shw_true {fw A' : List (List Sx)} (hx : F x = none) (hm : ∀ a ∈ fw, a ∈ A') (hf : ∀ a ∈ A', (F a).isSome = true) (hl : fw.length = A'.length) : shw F fw x (accOf F A') = true := by
  unfold shw
  rw [hx]
  simp only [Option.isNone_none, Bool.true_and, Bool.and_eq_true, decide_eq_true_eq, List.all_eq_true]
  refine ⟨⟨by rw [accOf_len hf, hl], fun a ha => ?_⟩, fun a ha => ?_⟩
  · rw [getF_acc (hm a ha)]
    exact hf a (hm a ha)
  · have h1 := hf a (hm a ha)
    cases e : F a with
    | none => rw [e] at h1; cases h1
    | some f =>
      dsimp only
      rw [getF_acc (hm a ha), e]
      exact decide_eq_true rfl
theorem Late.shows (h : Late F L A x) (hs : L.Pairwise fun a b => a.length ≤ b.length) : shw F (fwr L x) x (accOf F (fwr L x)) = true := shw_true h.fx (fun _ h => h) (h.some hs) rfl
theorem Late.shows_rev (h : Late F L A x) (hs : L.Pairwise fun a b => a.length ≤ b.length) : shw F (fwr L x) x (accOf F (fwr L x)).reverse = true := by
  rw [← accOf_rev]
  exact shw_true h.fx (fun _ h => List.mem_reverse.mpr h) (fun a ha => h.some hs a (List.mem_reverse.mp ha)) (List.length_reverse).symm
theorem Late.picked (h : Late F L A x) (hs : L.Pairwise fun a b => a.length ≤ b.length) {y : List Sx} (hy : y ∈ L) (hl : y.length ≤ x.length) : shw F (fwr L y) y (accOf F (fwr L x)).reverse = (decide (y.length = x.length) && (F y).isNone) := by
  cases e : F y with
  | some f =>
    unfold shw
    rw [e]
    simp
  | none =>
    have hlen : y.length = x.length := by
      apply Nat.le_antisymm hl
      apply Nat.not_lt.mp
      intro z
      have : y ∈ fwr L x := List.mem_filter.mpr ⟨hy, decide_eq_true z⟩
      have := h.some hs y this
      rw [e] at this
      cases this
    have : fwr L y = fwr L x := by unfold fwr; rw [hlen]
    rw [this, decide_eq_true hlen]
    have := h.shows_rev hs
    unfold shw at this ⊢
    rw [h.fx] at this
    rw [e, this]
    rfl
theorem shw_len {fw : List (List Sx)} {ft : FTab} (h : fw.length ≠ ft.length) : shw F fw x ft = false := by
  unfold shw
  rw [decide_eq_false h]
  simp
theorem Late.none_due (h : Late F L A x) (hs : L.Pairwise fun a b => a.length ≤ b.length) (e : accOf F (fwr L x) = []) (p : List Sx × Fail) : shw F (fwr L x) x [p] = false := by
  apply shw_len
  rw [← accOf_len (h.some hs), e]
  exact Nat.zero_ne_one
theorem Late.popped (h : Late F L A x) (hs : L.Pairwise fun a b => a.length ≤ b.length) {y : List Sx} (hy : y ∈ fwr L x) : shw F (fwr L x) x ((accOf F (fwr L x)).reverse.filter fun p => decide (p.1 ≠ y)) = false := by
  apply shw_len
  have hl := accOf_len (h.some hs)
  have hk := accOf_keys (h.some hs)
  have hm : y ∈ (accOf F (fwr L x)).map (·.1) := by rw [hk]; exact hy
  obtain ⟨p, hp, he⟩ := List.mem_map.mp hm
  have : ((accOf F (fwr L x)).reverse.filter fun p => decide (p.1 ≠ y)).length < (accOf F (fwr L x)).reverse.length := by
    refine List.length_filter_lt_length_iff_exists.mpr ⟨p, List.mem_reverse.mpr hp, ?_⟩
    simp [he]
  rw [List.length_reverse] at this
  omega
/-- one entry set anew -/
def putFT (t : FTab) (k : List Sx) (f : Fail) : FTab := if (t.any fun p => decide (p.1 = k)) = true then t.map fun p => if p.1 = k then (p.1, f) else p else t ++ [(k, f)]
theorem getF_putFT (k : List Sx) (f : Fail) (t : FTab) : getF (putFT t k f) k = some f := by
  unfold putFT
  split
  · rename_i h
    have : ∀ t : FTab, (t.any fun p => decide (p.1 = k)) = true → getF (t.map fun p => if p.1 = k then (p.1, f) else p) k = some f := by
      intro t
      induction t with
      | nil => intro h; cases h
      | cons p r ih =>
        intro h
        rw [List.map_cons, getF_cons]
        by_cases e : p.1 = k
        · simp [e]
        · rw [List.any_cons, decide_eq_false e] at h
          rw [if_neg e, if_neg e]
          exact ih (by simpa using h)
    exact this t h
  · rename_i h
    have : ∀ t : FTab, (t.any fun p => decide (p.1 = k)) = false → getF (t ++ [(k, f)]) k = some f := by
      intro t
      induction t with
      | nil => intro _; simp [getF]
      | cons p r ih =>
        intro h
        rw [List.any_cons, Bool.or_eq_false_iff] at h
        rw [List.cons_append, getF_cons, if_neg (of_decide_eq_false h.1)]
        exact ih h.2
    exact this t (Bool.eq_false_iff.mpr h)
theorem Late.bent (h : Late F L A x) {y : List Sx} {f f' : Fail} (hy : y ∈ fwr L x) (hf : F y = .some f) (hn : f' ≠ f) (t : FTab) : shw F (fwr L x) x (putFT t y f') = false := by
  have : (fwr L x).all (fun z => match F z with | none => false | .some g => decide (getF (putFT t y f') z = .some g)) = false := by
    rw [List.all_eq_false]
    refine ⟨y, hy, ?_⟩
    rw [hf]
    dsimp only
    rw [getF_putFT]
    intro z
    exact hn (Option.some.inj (of_decide_eq_true z))
  unfold shw
  rw [this]
  simp
end
end Sc

/-! ScV: with all nine cares no likely list fails. -/
namespace Sc
open PySem PySem.Spec PyProof.Rows L2 Evl
def s2 : Sch := ⟨[.up], 2, 2, true, true, true, true, true⟩
def hall : Sx → Bool := fun _ => true
/-- b with n deeds put in -/
inductive Inter : Nat → List Deed → List Deed → Prop
  | nil : Inter 0 [] []
  | keep {n : Nat} {b l : List Deed} (d : Deed) : Inter n b l → Inter n (d :: b) (d :: l)
  | ins {n : Nat} {b l : List Deed} {d : Deed} : d ∈ extra7 → Inter n b l → Inter (n + 1) b (d :: l)
theorem Inter.same : ∀ l : List Deed, Inter 0 l l
  | [] => .nil
  | d :: r => .keep d (Inter.same r)
theorem Inter.put {n : Nat} {b l : List Deed} {d : Deed} (h : Inter n b l) (hd : d ∈ extra7) : ∀ k, Inter (n + 1) b (l.take k ++ [d] ++ l.drop k) := by
  induction h with
  | nil => intro k; rw [List.take_nil, List.drop_nil]; exact .ins hd .nil
  | @keep n b l e h ih =>
    intro k
    cases k with
    | zero => exact .ins hd (.keep e h)
    | succ k => exact .keep e (ih k)
  | @ins n b l e he h ih =>
    intro k
    cases k with
    | zero => exact .ins hd (.ins he h)
    | succ k => exact .ins he (ih k)
/-- codes, to tell states apart fast -/
def zc (i : Int) : Nat := i.toNat
def mc : Mark → Nat | .new => 0 | .sent => 1 | .ref => 2 | .ver n => 3 + zc n
def rc (r : Row) : Nat := zc r.key + 8 * (mc r.mark + 64 * (match r.edit with | .up => 1 | .nil => 0))
def lc : Letter → Nat
  | .edit k _ => 4 * zc k
  | .answer k f => 1 + 4 * (zc k + 16 * (match f with | .ref => 0 | .ver n => 1 + zc n))
  | .ask => 2
  | .copy v n => 3 + 4 * (zc v + 16 * zc n)
def fc (p : Int × Fate) : Nat := zc p.1 + 8 * (match p.2 with | .ref => 0 | .ver n => 1 + zc n)
def code (m : M) : Nat := m.fates.foldl (fun a p => a * 128 + fc p + 1) (m.post.foldl (fun a l => a * 2048 + lc l + 1) (m.rows.foldl (fun a r => a * 1024 + rc r + 1) (zc m.stored + 16 * (zc m.written + 16 * (zc m.seenV + 16 * (zc m.seenN + 16 * (m.passed + 16 * zc m.made)))))))
abbrev CM := List (Nat × M)
def norm (m : M) : M := { m with trail := 0, n := 0 }
def add1 (c : Nat) (m : M) : CM → CM
  | [] => [(c, m)]
  | p :: r => if Nat.beq p.1 c = true then (if p.2 = m then p :: r else p :: add1 c m r) else p :: add1 c m r
theorem add1_old {c : Nat} {m x : M} : ∀ {l : CM}, (∃ a, (a, x) ∈ l) → ∃ a, (a, x) ∈ add1 c m l
  | p :: r, ⟨a, h⟩ => by
    have k : ∃ a, (a, x) ∈ p :: add1 c m r := by
      rcases List.mem_cons.mp h with h | h
      · exact ⟨a, h ▸ List.mem_cons_self⟩
      · obtain ⟨b, hb⟩ := add1_old (c := c) (m := m) ⟨a, h⟩
        exact ⟨b, List.mem_cons_of_mem _ hb⟩
    unfold add1
    split
    · split
      · exact ⟨a, h⟩
      · exact k
    · exact k
theorem add1_new {c : Nat} {m : M} : ∀ {l : CM}, ∃ a, (a, m) ∈ add1 c m l
  | [] => ⟨c, List.mem_cons_self⟩
  | p :: r => by
    have k : ∃ a, (a, m) ∈ p :: add1 c m r := by
      obtain ⟨b, hb⟩ := add1_new (c := c) (m := m) (l := r)
      exact ⟨b, List.mem_cons_of_mem _ hb⟩
    unfold add1
    split
    · split
      · rename_i e
        exact ⟨p.1, by rw [← e]; exact List.mem_cons_self⟩
      · exact k
    · exact k
/-- one deed from one state, put into the list; none at a failure -/
def one (m : M) (d : Deed) (acc : CM) : Option CM :=
  if isPossible hall s2 m d = true then (match done hall s2 m d with | (_, some _) => none | (m', none) => let y := norm m'; some (add1 (code y) y acc)) else some (add1 (code m) m acc)
def onAll (d : Deed) : CM → CM → Option CM
  | [], acc => some acc
  | p :: r, acc => match one p.2 d acc with | none => none | some acc' => onAll d r acc'
def each7 (l : CM) : List Deed → CM → Option CM
  | [], acc => some acc
  | d :: r, acc => match onAll d l acc with | none => none | some acc' => each7 l r acc'
/-- levels: element k, the states after k deeds put in -/
def closeL : CM → List CM → Option (List CM)
  | _, [] => some []
  | prev, a :: r => match each7 prev extra7 a with
    | none => none
    | some c => match closeL c r with | none => none | some q => some (c :: q)
def stepL (d : Deed) : List CM → Option (List CM)
  | [] => some []
  | a :: r => match onAll d a [] with
    | none => none
    | some c => match stepL d r with | none => none | some q => some (c :: q)
def chk : List Deed → List CM → Bool
  | [], A => (closeL [] A).isSome
  | d :: b, A => match closeL [] A with
    | none => false
    | some A' => match stepL d A' with | none => false | some A'' => chk b A''
def chk0 (b : List Deed) : Bool := chk b [[(code m0, m0)], [], [], []]


def InL (m : M) (l : CM) : Prop := ∃ a, (a, m) ∈ l
theorem InL.add_old {m x : M} {c : Nat} {l : CM} (h : InL x l) : InL x (add1 c m l) := add1_old h
/-- what a step says -/
def Good (A : CM) (m : M) (d : Deed) : Prop := if isPossible hall s2 m d = true then (done hall s2 m d).2 = none ∧ InL (norm (done hall s2 m d).1) A else InL m A
theorem Good.mono {A B : CM} {m : M} {d : Deed} (h : Good A m d) (e : ∀ x, InL x A → InL x B) : Good B m d := by
  unfold Good at *
  split
  · rename_i hp
    rw [if_pos hp] at h
    exact ⟨h.1, e _ h.2⟩
  · rename_i hp
    rw [if_neg hp] at h
    exact e _ h
theorem one_ok {m : M} {d : Deed} {acc A : CM} (h : one m d acc = some A) : (∀ x, InL x acc → InL x A) ∧ Good A m d := by
  unfold one at h
  unfold Good
  split at h
  · rename_i hp
    rw [if_pos hp]
    split at h
    · cases h
    · rename_i m' e
      cases h
      rw [e]
      exact ⟨fun x hx => add1_old hx, rfl, add1_new⟩
  · rename_i hp
    rw [if_neg hp]
    cases h
    exact ⟨fun x hx => add1_old hx, add1_new⟩
theorem onAll_ok {d : Deed} : ∀ {l acc A : CM}, onAll d l acc = some A → (∀ x, InL x acc → InL x A) ∧ ∀ m, InL m l → Good A m d
  | [], acc, A, h => by
    cases h
    exact ⟨fun x hx => hx, fun m hm => by obtain ⟨a, ha⟩ := hm; cases ha⟩
  | p :: r, acc, A, h => by
    unfold onAll at h
    split at h
    · cases h
    · rename_i acc' e
      have h1 := one_ok e
      have h2 := onAll_ok h
      refine ⟨fun x hx => h2.1 x (h1.1 x hx), fun m hm => ?_⟩
      obtain ⟨a, ha⟩ := hm
      rcases List.mem_cons.mp ha with ha | ha
      · have : m = p.2 := by rw [← ha]
        rw [this]
        exact h1.2.mono h2.1
      · exact h2.2 m ⟨a, ha⟩
theorem each7_ok {l : CM} : ∀ {ds : List Deed} {acc A : CM}, each7 l ds acc = some A → (∀ x, InL x acc → InL x A) ∧ ∀ m, InL m l → ∀ d ∈ ds, Good A m d
  | [], acc, A, h => by
    cases h
    exact ⟨fun x hx => hx, fun m hm d hd => by cases hd⟩
  | e :: r, acc, A, h => by
    unfold each7 at h
    split at h
    · cases h
    · rename_i acc' e'
      have h1 := onAll_ok e'
      have h2 := each7_ok h
      refine ⟨fun x hx => h2.1 x (h1.1 x hx), fun m hm d hd => ?_⟩
      rcases List.mem_cons.mp hd with hd | hd
      · subst hd
        exact (h1.2 m hm).mono h2.1
      · exact h2.2 m hm d hd
/-- levels of states from which nothing fails: k left to put in -/
def AtL (A : List CM) (k : Nat) (m : M) : Prop := ∃ l, A[k]? = some l ∧ InL m l
theorem closeL_ok : ∀ {A : List CM} {prev : CM} {B : List CM}, closeL prev A = some B → (B.length = A.length) ∧ (∀ k m, AtL A k m → AtL B k m) ∧ (∀ m, InL m prev → ∀ d ∈ extra7, A ≠ [] → ∃ l, B[0]? = some l ∧ Good l m d) ∧ ∀ k m, AtL B k m → ∀ d ∈ extra7, k + 1 < A.length → ∃ l, B[k + 1]? = some l ∧ Good l m d
  | [], prev, B, h => by
    cases h
    exact ⟨rfl, fun k m h => h, fun m hm d hd hn => absurd rfl hn, fun k m h d hd hk => by simp at hk⟩
  | a :: r, prev, B, h => by
    unfold closeL at h
    split at h
    · cases h
    · rename_i c e
      split at h
      · cases h
      · rename_i q e2
        cases h
        have h1 := each7_ok e
        obtain ⟨g0, g1, g2, g3⟩ := closeL_ok e2
        refine ⟨by rw [List.length_cons, List.length_cons, g0], fun k m hk => ?_, fun m hm d hd _ => ⟨c, rfl, h1.2 m hm d hd⟩, fun k m hk d hd hl => ?_⟩
        · obtain ⟨l, hl, hm⟩ := hk
          cases k with
          | zero =>
            have : a = l := by simpa using hl
            subst this
            exact ⟨c, rfl, h1.1 m hm⟩
          | succ k => exact g1 k m ⟨l, by simpa using hl, hm⟩
        · obtain ⟨l, hl', hm⟩ := hk
          cases k with
          | zero =>
            have : c = l := by simpa using hl'
            subst this
            have hr : r ≠ [] := by
              intro z
              rw [z] at hl
              simp at hl
            exact g2 m hm d hd hr
          | succ k => exact g3 k m ⟨l, by simpa using hl', hm⟩ d hd (by rw [List.length_cons] at hl; omega)
theorem stepL_ok {d : Deed} : ∀ {A B : List CM}, stepL d A = some B → B.length = A.length ∧ ∀ k m, AtL A k m → ∃ l, B[k]? = some l ∧ Good l m d
  | [], B, h => by
    cases h
    exact ⟨rfl, fun k m hk => by obtain ⟨l, hl, _⟩ := hk; simp at hl⟩
  | a :: r, B, h => by
    unfold stepL at h
    split at h
    · cases h
    · rename_i c e
      split at h
      · cases h
      · rename_i q e2
        cases h
        have h1 := onAll_ok e
        have h2 := stepL_ok e2
        refine ⟨by rw [List.length_cons, List.length_cons, h2.1], fun k m hk => ?_⟩
        obtain ⟨l, hl, hm⟩ := hk
        cases k with
        | zero =>
          have : a = l := by simpa using hl
          subst this
          exact ⟨c, rfl, h1.2 m hm⟩
        | succ k => exact h2.2 k m ⟨l, by simpa using hl, hm⟩
def Nxt (A' : List CM) : List Deed → Prop
  | [] => True
  | d :: b' => ∃ A'', stepL d A' = some A'' ∧ chk b' A'' = true
theorem chk_ok (hnorm : ∀ m ds, failRun hall s2 (norm m) ds = failRun hall s2 m ds) {n : Nat} {b l : List Deed} (h : Inter n b l) : ∀ (A : List CM) (k : Nat) (m : M), chk b A = true → AtL A k m → k + n < A.length → failRun hall s2 m l = none := by
  have go : ∀ {L : CM} {m : M} {d : Deed} {l : List Deed}, Good L m d → (∀ m', InL m' L → failRun hall s2 m' l = none) → failRun hall s2 m (d :: l) = none := by
    intro L m d l g k
    unfold Good at g
    unfold failRun
    split at g
    · rename_i hp
      rw [if_pos hp, g.1]
      show failRun hall s2 (done hall s2 m d).1 l = none
      rw [← hnorm]
      exact k _ g.2
    · rename_i hp
      rw [if_neg hp]
      exact k _ g
  -- after closing
  have main : ∀ (A' : List CM) (k : Nat) (m : M), (∀ k m, AtL A' k m → ∀ d ∈ extra7, k + 1 < A'.length → ∃ l, A'[k + 1]? = some l ∧ Good l m d) → Nxt A' b → AtL A' k m → k + n < A'.length → failRun hall s2 m l = none := by
    induction h with
    | nil => intro A' k m _ _ _ _; rfl
    | @keep n b l d h ih =>
      intro A' k m hc hb hm hk
      obtain ⟨A'', e1, e2⟩ := hb
      obtain ⟨h0, h1⟩ := stepL_ok e1
      obtain ⟨L, hL, g⟩ := h1 k m hm
      refine go g fun m' hm' => ?_
      -- close again
      cases b with
      | nil =>
        unfold chk at e2
        cases hcl : closeL [] A'' with
        | none => rw [hcl] at e2; cases e2
        | some A3 =>
          obtain ⟨g0, g1, g2, g3⟩ := closeL_ok hcl
          exact ih A3 k m' (fun k m hm d hd hk => g3 k m hm d hd (by omega)) trivial (g1 k m' ⟨L, hL, hm'⟩) (by omega)
      | cons d' b' =>
        unfold chk at e2
        cases hcl : closeL [] A'' with
        | none => rw [hcl] at e2; cases e2
        | some A3 =>
          rw [hcl] at e2
          obtain ⟨g0, g1, g2, g3⟩ := closeL_ok hcl
          refine ih A3 k m' (fun k m hm d hd hk => g3 k m hm d hd (by omega)) ?_ (g1 k m' ⟨L, hL, hm'⟩) (by omega)
          dsimp only at e2
          split at e2
          · cases e2
          · rename_i A4 e4
            exact ⟨A4, e4, e2⟩
    | @ins n b l d hd h ih =>
      intro A' k m hc hb hm hk
      obtain ⟨L, hL, g⟩ := hc k m hm d hd (by omega)
      exact go g fun m' hm' => ih A' (k + 1) m' hc hb ⟨L, hL, hm'⟩ (by omega)
  intro A k m e hm hk
  cases b with
  | nil =>
    unfold chk at e
    cases hcl : closeL [] A with
    | none => rw [hcl] at e; cases e
    | some A3 =>
      obtain ⟨g0, g1, g2, g3⟩ := closeL_ok hcl
      exact main A3 k m (fun k m hm d hd hk => g3 k m hm d hd (by omega)) trivial (g1 k m hm) (by omega)
  | cons d' b' =>
    unfold chk at e
    cases hcl : closeL [] A with
    | none => rw [hcl] at e; cases e
    | some A3 =>
      rw [hcl] at e
      obtain ⟨g0, g1, g2, g3⟩ := closeL_ok hcl
      refine main A3 k m (fun k m hm d hd hk => g3 k m hm d hd (by omega)) ?_ (g1 k m hm) (by omega)
      dsimp only at e
      split at e
      · cases e
      · rename_i A4 e4
        exact ⟨A4, e4, e⟩
theorem chk0_ok (hnorm : ∀ m ds, failRun hall s2 (norm m) ds = failRun hall s2 m ds) {n : Nat} {b l : List Deed} (h : Inter n b l) (hn : n ≤ 3) (e : chk0 b = true) : failRun hall s2 m0 l = none := by
  refine chk_ok hnorm h _ 0 m0 e ⟨_, rfl, _, List.mem_cons_self⟩ ?_
  show 0 + n < 4
  omega

section
variable {hs : Sx → Bool} {s : Sch}
structure AllT (hs : Sx → Bool) : Prop where
  lays : hs "lays" = true
  matches' : hs "matches" = true
  lists : hs "lists" = true
  newer : hs "newer" = true
  keys : hs "keys" = true
  turns : hs "turns" = true
  retries : hs "retries" = true
  undoes : hs "undoes" = true
  saves : hs "saves" = true
theorem at_copy1 (h : AllT hs) (m : M) (v : Int) : copy1 hs m v = copy1 hall m v := by
  unfold copy1
  rw [h.lists]
  rfl
theorem at_copy2 (h : AllT hs) (m : M) (v : Int) : copy2 hs m v = copy2 hall m v := by
  unfold copy2
  rw [h.matches']
  rfl
theorem at_copy (h : AllT hs) (m : M) (v n : Int) : takeCopy hs m v n = takeCopy hall m v n := by
  unfold takeCopy
  rw [at_copy1 h, at_copy2 h]
theorem at_failureAt (h : AllT hs) (m : M) (k : Int) (li : List (Int × Mark)) (uw : List Int) : failureAt hs m k li uw = failureAt hall m k li uw := by
  unfold failureAt
  rw [h.lays]
  rfl
theorem at_failureOf (h : AllT hs) (m : M) : failureOf hs m = failureOf hall m := by
  unfold failureOf
  exact congrArg (fun f => (List.range m.made.toNat).findSome? f) (funext fun i => at_failureAt h m _ _ _)
theorem at_takeAnswer (h : AllT hs) (m : M) (k : Int) (f : Fate) : takeAnswer hs m k f = takeAnswer hall m k f := by
  unfold takeAnswer
  rw [h.undoes, h.matches']
  rfl
theorem at_takeEdit (h : AllT hs) (m : M) (k : Int) (e : Ed) : takeEdit hs s m k e = takeEdit hall s m k e := by
  unfold takeEdit
  rw [h.keys]
  rfl
theorem at_arrive (h : AllT hs) (m : M) (l : Letter) : arrive hs s m l = arrive hall s m l := by
  cases l with
  | edit k e => exact at_takeEdit h m k e
  | answer k f => exact congrArg (fun x => (x, none)) (at_takeAnswer h m k f)
  | ask => rfl
  | copy v n =>
    unfold arrive
    dsimp only
    rw [h.newer, at_copy h]
    rfl
theorem at_with (h : AllT hs) (m : M) (w : LW) (i : Nat) : doneWith hs s m w i = doneWith hall s m w i := by
  unfold doneWith
  split
  · rfl
  · cases w with
    | refuse => rfl
    | lose => rfl
    | carry => exact at_arrive h _ _
    | double => exact at_arrive h _ _
theorem at_done1 (h : AllT hs) (m : M) (d : Deed) : done1 hs s m d = done1 hall s m d := by
  cases d with
  | edit e => rfl
  | plain p =>
    cases p with
    | reload =>
      unfold done1
      dsimp only
      rw [h.saves, at_copy h]
      rfl
    | _ => rfl
  | letr w i => exact at_with h m w i
theorem at_done (h : AllT hs) (m : M) (d : Deed) : done hs s m d = done hall s m d := by
  unfold done
  rw [at_done1 h]
  dsimp only
  rw [at_failureOf h]
theorem at_possible (h : AllT hs) (m : M) (d : Deed) : isPossible hs s m d = isPossible hall s m d := by
  unfold isPossible
  rw [h.turns, h.retries]
  rfl
theorem at_failRun (h : AllT hs) : ∀ (ds : List Deed) (m : M), failRun hs s m ds = failRun hall s m ds
  | [], _ => rfl
  | d :: r, m => by
    unfold failRun
    rw [at_possible h, at_done h, at_failRun h r, at_failRun h r]
end

theorem failRun_tr {hs : Sx → Bool} {s : Sch} : ∀ (ds : List Deed) (m : M) (t n : Nat), failRun hs s (tr t n m) ds = failRun hs s m ds
  | [], _, _, _ => rfl
  | d :: r, m, t, n => by
    unfold failRun
    rw [tr_possible, failRun_tr r m t n]
    obtain ⟨h1, n', h2⟩ := tr_done (hs := hs) (s := s) (t := t) (n := n) m d
    rw [h1, h2, failRun_tr r _ t n']
theorem failRun_norm (m : M) (ds : List Deed) : failRun hall s2 (norm m) ds = failRun hall s2 m ds := failRun_tr ds m 0 0
theorem all_nine : AllT (hsOf cares9) := ⟨by decide +kernel, by decide +kernel, by decide +kernel, by decide +kernel, by decide +kernel, by decide +kernel, by decide +kernel, by decide +kernel, by decide +kernel⟩
theorem Likely.inter {n : Nat} {ds : List Deed} (h : Likely n ds) : ∃ b ∈ likely5, Inter n b ds := by
  induction h with
  | base h => exact ⟨_, h, Inter.same _⟩
  | ins _ hd ih =>
    obtain ⟨b, hb, h⟩ := ih
    exact ⟨b, hb, h.put hd _⟩
theorem chk_five : likely5.all chk0 = true := by decide +kernel
theorem likely_none {n : Nat} {ds : List Deed} (h : Likely n ds) (hn : n ≤ 3) : failRun (hsOf cares9) s2 m0 ds = none := by
  obtain ⟨b, hb, h⟩ := h.inter
  rw [at_failRun all_nine]
  exact chk0_ok failRun_norm h hn (List.all_eq_true.mp chk_five b hb)
end Sc

/-! Sc32: the law's sets. -/
namespace Sc
open PySem PySem.Spec PyProof.Rows L2 Evl
theorem trs_upd {H : Hp} {a : Addr} {o : HO} {vs : List V} {xs : List (List Sx)} (h : AllR Tr H vs xs) (h7 : ∀ ys, H a ≠ some (.tup ys)) : AllR Tr (upd H a o) vs xs :=
  AllR.mono (R := Tr) (R' := Tr) (fun v x ⟨b, hb1, hb2⟩ => ⟨b, hb1, by rw [upd_ne (fun z => h7 _ (z ▸ hb2))]; exact hb2⟩) h
theorem tr_upd {H : Hp} {a : Addr} {o : HO} {v : V} {x : List Sx} (h : Tr.r H v x) (h7 : ∀ ys, H a ≠ some (.tup ys)) : Tr.r (upd H a o) v x := by
  obtain ⟨b, hb1, hb2⟩ := h
  exact ⟨b, hb1, by rw [upd_ne (fun z => h7 _ (z ▸ hb2))]; exact hb2⟩
theorem sh_strs {cs : List Sx} (h : ∀ c ∈ cs, c ∈ cares9) : Sh 1 (.list (cs.map .str)) := Sh.lst fun d hd => by
  obtain ⟨c, hc, rfl⟩ := List.mem_map.mp hd
  exact Sh.str ((by decide +kernel : ∀ c ∈ cares9, PyData.strOk c = true) c (h c hc))
theorem sh_sets {G : List (List Sx)} (h : ∀ s ∈ G, CaresOk s) : Sh 2 (.list (G.map setD)) := Sh.lst fun d hd => by
  obtain ⟨s, hs, rfl⟩ := List.mem_map.mp hd
  exact sh_set (h s hs).1
theorem sh_pairs {L : List (List Sx × Sx)} (h : ∀ p ∈ L, CaresOk p.1 ∧ p.2 ∈ cares9) : Sh 3 (.list (L.map pairD)) := Sh.lst fun d hd => by
  obtain ⟨p, hp, rfl⟩ := List.mem_map.mp hd
  obtain ⟨h1, h2⟩ := h p hp
  refine Sh.tup fun x hx => ?_
  rcases List.mem_cons.mp hx with rfl | hx
  · exact sh_set h1.1
  · rw [List.mem_singleton.mp hx]
    exact (Sh.str ((by decide +kernel : ∀ c ∈ cares9, PyData.strOk c = true) _ h2)).mono (by decide)
def sp_law_sets_right (K : PySem.W.Frag) : Sp := spP K fun H as r => ∃ x s ds, as = [.val (.ref x), .dat (.list (ds.map Deed.d))] ∧ SchAt K H x s ∧ DsOk s ds ∧ r = .bool true
section
variable {P : Program} {w : World} {K : PySem.W.Frag} {mg : PySem.Str → Option Value} {base : Heap}
abbrev nm__law_sets_right : List PySem.Str := ["_law_scheme_here", "_law_deeds_here", "_law_good", "_law_some", "_law_least", "_law_due", "_law_found", "_law_care", "_law_more", "_law_other", "_law_one"]
theorem sc__law_sets_right : FnScope nm__law_sets_right ["_law_scheme_here", "_law_deeds_here"] (defScope s__law_sets_right) := ⟨rfl, rfl, rfl, by decide +kernel, rfl, by decide +kernel, by decide +kernel⟩
theorem ok__law_sets_right (T : Tx K mg) : FR P w K mg base 10 "_law_sets_right" (sp_law_sets_right K) := by
  refine fr_of (k := 9) (N := nm__law_sets_right) (ps := ["_law_scheme_here", "_law_deeds_here"]) (gl__law_sets_right T) (T.c.d.def_ 65 (d := d__law_sets_right)) sc__law_sets_right (fun _ _ _ _ _ _ us hl => match us, hl with | [_, _], _ => rfl) (fun vs H Q E h => ?_) (fun cdv A outer s H vs Q E hr h => ?_)
  · obtain ⟨as, r, hA, ⟨x, sc, ds, rfl, hs, hd, rfl⟩, k⟩ := h
    exact hA.length
  · obtain ⟨as, r, hA, ⟨x, sc, ds, rfl, hs, hd, rfl⟩, k⟩ := h
    obtain ⟨v0, _, rfl, rfl, v1, _, rfl, r1, rfl⟩ := hA
    refine ⟨_, (pss_cons (ps_set (i := 2) sc__law_sets_right.nd rfl (Or.inr rfl) pe_dnewT)
      (pss_cons (ps_for PassesOwn.never rfl (pi_listK (K := K) rfl (pe_cR (ok__law_sets T) hr (by rfl) (pa_cons (pe_gref (gl_ALL_CARES T) rfl) pa_nil))) (pg_name (i := 3) sc__law_sets_right.nd rfl (Or.inr rfl)) (pss_one (ps_if (pt_cmpR op_isN (pe_cR (ok__law_failure T) hr (by rfl) (pa_cons (pv 0) (pa_cons (pv 3) (pa_cons (pv 1) pa_nil)))) pe_non (nomark _)) (pss_one (ps_dput (hu_of hr) (pv 2) (pv 3) pe_bl rfl)) pss_nil)))
      (pss_cons (ps_if (pt_cmpR (op_neK (K := K) rfl hr.units) (pe_cR (ok_sufficient T) hr (by rfl) (pa_cons (pv 0) (pa_cons (pv 1) pa_nil))) (pe_callTy (call_list_dT rfl) (by rfl) (fr_list T) (by decide +kernel) (pa_cons (pv 2) pa_nil)) (nomark _)) (pss_one (ps_ret pe_bl)) pss_nil)
      (pss_cons (ps_set (i := 4) sc__law_sets_right.nd rfl (Or.inl rfl) (pe_lst pa_nil))
      (pss_cons (ps_lock (ps_for PassesOwn.never rfl (pi_keys (pv 2)) (pg_name (i := 3) sc__law_sets_right.nd rfl (Or.inr rfl)) (pss_one (ps_if (pt_not (pt_val (pe_callB (cr_anyK (K := K) rfl) (by rfl) (fr_any T) (by decide +kernel) (pa_cons (pe_lc (own := [("_law_other", 9)]) rfl sc__law_sets_right.nd (pi_listK (K := K) rfl (pv 4)) (blkOk_by (own := [("_law_other", 9)]) (N := nm__law_sets_right) (sc := defScope s__law_sets_right) (by decide +kernel)) (fun _ _ _ _ _ => (pg_name (i := 9) sc__law_sets_right.nd rfl (Or.inl rfl))) (fun _ _ _ _ _ => pts_nil) (fun _ _ _ _ _ => (pe_cR (ok__law_within T) hr (by rfl) (pa_cons (pv 9) (pa_cons (pv 3) pa_nil))))) pa_nil)))) (pss_one (ps_expr (pe_bm PySem.F.plainAttrs_list PySem.F.slot_list_append PySem.F.type_list_append mt_append (pv 4) (pa_cons (pv 3) pa_nil)))) pss_nil))))
      (pss_cons (ps_if (pt_cmpR (op_neK (K := K) rfl hr.units) (pe_cR (ok_least_sets T) hr (by rfl) (pa_cons (pv 0) (pa_cons (pe_callTy (call_tupleK (K := K) rfl) (by rfl) (fr_tuple T) (by decide +kernel) (pa_cons (pv 1) pa_nil)) pa_nil))) (pv 4) (nomark _)) (pss_one (ps_ret pe_bl)) pss_nil)
      (pss_cons (ps_setLc (i := 5) (own := [("_law_care", 7)]) rfl sc__law_sets_right.nd rfl rfl (sw_true rfl rfl rfl (by decide +kernel)) (pi_tupK (K := K) rfl (pe_gref (gl_ALL_CARES T) rfl)) (blkOk_by (own := [("_law_care", 7)]) (N := nm__law_sets_right) (sc := defScope s__law_sets_right) (by decide +kernel)) (fun _ _ _ _ _ => (pg_name (i := 7) sc__law_sets_right.nd rfl (Or.inr rfl))) (fun _ _ _ _ _ => (pts_one (pt_val (pe_callB (cr_allK (K := K) rfl) (by rfl) (fr_all T) (by decide +kernel) (pa_cons (pe_lock (pe_lc (own := [("_law_some", 3)]) rfl sc__law_sets_right.nd (pi_keys (pv 2)) (blkOk_by (own := [("_law_some", 3)]) (N := nm__law_sets_right) (sc := (⟨.function, [(".0", .local), ("_law_care", .cell), ("all", .globalImplicit), ("_law_good", .cell)], false, false, []⟩ : Scope)) (by decide +kernel)) (fun _ _ _ _ _ => (pg_name (i := 3) sc__law_sets_right.nd rfl (Or.inl rfl))) (fun _ _ _ _ _ => pts_nil) (fun _ _ _ _ _ => (pe_cmpR (op_inK (K := K) rfl) (pv 7) (pv 3) (by rfl))))) pa_nil))))) (fun _ _ _ _ _ => (pv 7)))
      (pss_cons (ps_if (pt_cmpR (op_neK (K := K) rfl hr.units) (pe_cR (ok_needed T) hr (by rfl) (pa_cons (pv 0) (pa_cons (pv 1) pa_nil))) (pv 5) (nomark _)) (pss_one (ps_ret pe_bl)) pss_nil)
      (pss_cons (ps_set (i := 6) sc__law_sets_right.nd rfl (Or.inl rfl) (pe_lst pa_nil))
      (pss_cons (ps_lock (ps_for PassesOwn.never rfl (pi_keys (pv 2)) (pg_name (i := 3) sc__law_sets_right.nd rfl (Or.inr rfl)) (pss_one (ps_for PassesOwn.never rfl (pi_tupK (K := K) rfl (pe_gref (gl_ALL_CARES T) rfl)) (pg_name (i := 7) sc__law_sets_right.nd rfl (Or.inr rfl)) (pss_cons (ps_set (i := 8) sc__law_sets_right.nd rfl (Or.inl rfl) (pe_callTy (call_tupleK (K := K) rfl) (by rfl) (fr_tuple T) (by decide +kernel) (pa_cons (pe_lc (own := [("_law_one", 10)]) rfl sc__law_sets_right.nd (pi_tupK (K := K) rfl (pe_gref (gl_ALL_CARES T) rfl)) (blkOk_by (own := [("_law_one", 10)]) (N := nm__law_sets_right) (sc := defScope s__law_sets_right) (by decide +kernel)) (fun _ _ _ _ _ => (pg_name (i := 10) sc__law_sets_right.nd rfl (Or.inl rfl))) (fun _ _ _ _ _ => (pts_one (PW.pt (pw_or (pt_cmpR (op_inK (K := K) rfl) (pv 10) (pv 3) (by rfl)) (pw_or1 (pt_cmpR op_eq (pv 10) (pv 7) (nomark _))))))) (fun _ _ _ _ _ => (pv 10))) pa_nil)))
      (pss_one (ps_if (pt_cmp (pc_dnotinS (K := K) rfl (hu_of hr) (pv 8) (pv 2))) (pss_one (ps_expr (pe_bm PySem.F.plainAttrs_list PySem.F.slot_list_append PySem.F.type_list_append mt_append (pv 6) (pa_cons (pe_tup (pa_cons (pv 3) (pa_cons (pv 7) pa_nil))) pa_nil)))) pss_nil)))))))
      (pss_one (ps_ret (pe_cmpR (op_eqK (K := K) rfl hr.units) (pe_cR (ok_harms T) hr (by rfl) (pa_cons (pv 0) (pa_cons (pv 1) pa_nil))) (pv 6) (nomark _)))))))))))))), ?_⟩
    refine q_newT (K := K) fun a H1 na e1 hT0 => ?_
    have hsl := sets_len cares9_ok
    have hnd := sets_nodup cares9_ok.2
    have hl := good_len sc ds
    have nt : ∀ {H : Hp} {kvs : List (KeyT × V)}, H a = some (.dT kvs) → ∀ ys, H a ≠ some (.tup ys) := fun h ys z => by rw [h] at z; cases z
    have nf : ∀ {H : Hp} {od : Obj} {kvs : List (KeyT × V)}, H a = some (.frz od (.dT kvs)) → ∀ ys, H a ≠ some (.tup ys) := fun h ys z => by rw [h] at z; cases z
    refine q_forL (EvnR.to (n_callN (K := K) (R := Tr) (a_consV ev_c a_nil) fun H2 e2 => ⟨_, cares9, rfl, pool_all T H2, rfl⟩) rfl) fun p vs H2 np e2 hp rp => ?_
    refine ⟨fun i σ' H' => ∃ y, σ' = [some (.ref x), some v1, some (.ref a), y, none, none, none, none, none, none, none] ∧ Ex H H' ∧ H' p = some (.lst vs) ∧ AllR Tr H' vs (setsOf cares9) ∧ DTab K H' a (tabG (((setsOf cares9).take i).filter fun c => (failRun (hsOf (inOrder c)) sc m0 ds).isNone)),
      ⟨none, rfl, e1.trans e2, hp, rp, hT0.ex e2⟩, fun i σ' H' ⟨_, _, _, h, _⟩ => h, fun i y v σ' H' hy hv P => ?_, fun σ' H' P => ?_⟩
    · obtain ⟨z, rfl, eH, hp', rp', hT⟩ := P
      obtain ⟨y', hy', ry⟩ := rp'.getV hv
      rw [hy] at hy'
      cases hy'
      have hym := List.mem_of_getElem? hy
      have htk : (setsOf cares9).take (i + 1) = (setsOf cares9).take i ++ [y] := by rw [List.take_succ, hy] <;> rfl
      have tst := t_test (d_isN (d_call (K := K) (σ := [some (.ref x), some v1, some (.ref a), some v, none, none, none, none, none, none, none]) (E := E0) (P := fun H as r => ∃ x s e cs ds, as = [.val (.ref x), .dat e, .dat (.list (ds.map Deed.d))] ∧ SchAt K H x s ∧ carD e cs ∧ CaresOk cs ∧ DsOk s ds ∧ r = failD (failRun (hsOf (inOrder cs)) s m0 ds)) (a_consV (ev_var (i := 0) rfl) (a_cons (d_var (i := 3) rfl (tr_dp ry)) (a_cons (d_var (i := 1) rfl (Dp.ex r1 eH)) a_nil))) fun H5 e5 => ⟨x, sc, setD y, y, ds, rfl, (hs.ex eH).ex e5, .inr rfl, sets_ok cares9_ok hym, hd, rfl⟩))
      have hlen : (tabG (((setsOf cares9).take i).filter fun c => (failRun (hsOf (inOrder c)) sc m0 ds).isNone)).length ≤ 40000 := by
        rw [tabG_len]
        have := List.length_filter_le (fun c => (failRun (hsOf (inOrder c)) sc m0 ds).isNone) ((setsOf cares9).take i)
        rw [List.length_take] at this
        omega
      refine s_when (b := (failRun (hsOf (inOrder y)) sc m0 ds).isNone) (evt_to tst (by cases failRun (hsOf (inOrder y)) sc m0 ds <;> rfl)) (fun hb H5 e5 => ?_) (fun hb H5 e5 => ?_)
      · refine s_dputT (K := K) (k := y) (d := .bool true) (ev_var (i := 2) rfl) (r_var (i := 3) rfl (Tr.ex e5 ry)) d_bl (hT.ex e5) hlen rfl fun H7 H8 kvs us e7 h7 h8 hT8 => ?_
        subst h8
        have e57 := e5.trans e7
        refine ⟨_, rfl, (eH.trans e57).mut na, ?_, trs_upd (rp'.ex e57) (nt h7), ?_⟩
        · have h' := e57 _ _ hp'
          rw [upd_ne (ne_of h' h7 (fun z => nomatch z))]
          exact h'
        · rw [tabG_put] at hT8
          · rw [htk, List.filter_append]
            have e1 : [y].filter (fun c => (failRun (hsOf (inOrder c)) sc m0 ds).isNone) = [y] := by simp [hb]
            rw [e1]
            exact hT8
          · intro z
            have h2 : ((setsOf cares9).take (i + 1)).Nodup := (List.take_sublist _ _).nodup hnd
            rw [htk] at h2
            exact (List.nodup_append.mp h2).2.2 y (List.mem_filter.mp z).1 y (List.mem_singleton.mpr rfl) rfl
      · refine ⟨_, rfl, eH.trans e5, e5 _ _ hp', rp'.ex e5, ?_⟩
        rw [htk, List.filter_append]
        have e1 : [y].filter (fun c => (failRun (hsOf (inOrder c)) sc m0 ds).isNone) = [] := by simp [hb]
        rw [e1, List.append_nil]
        exact hT.ex e5
    · obtain ⟨z, rfl, eH, hp', rp', hT⟩ := P
      rw [List.take_length] at hT
      have hT : DTab K H' a (tabG (goodOf sc ds)) := hT
      have shG := sh_sets (G := goodOf sc ds) fun s hs => good_mem hs
      refine q_when (b := false) (evt_to (t_test (d_ne (Evn.evd (nr_dp (R := Tr) (fun _ _ _ h => tr_dp h) (n_callN (a_consV (ev_var (i := 0) rfl) (a_cons (d_var (i := 1) rfl (Dp.ex r1 eH)) a_nil)) fun H3 e3 => ⟨x, sc, _, ds, rfl, (hs.ex eH).ex e3, .inl rfl, hd, rfl⟩))) (Evn.evd (nr_dp (R := Tr) (fun _ _ _ h => tr_dp h) (EvnR.to (n_keysL (i := 2) rfl hT) (tabG_keys _)))) shG.ok shG.ok)) (by rw [eqv_sh shG]; rfl)) (fun z => nomatch z) fun _ H5 e5 => ?_
      refine q_asgR (nr_nil (R := Tr)) fun pl wl H6 n6 e6 h6 r6 => ?_
      have e06 := e5.trans e6
      have eH6 := eH.trans e06
      have hT6 := hT.ex e06
      have npl : H pl = none := fresh_back (eH.trans e5) n6
      have hla : pl ≠ a := by
        obtain ⟨kv, h1, _⟩ := hT.ex e5
        exact fun z => by rw [z, h1] at n6; cases n6
      refine q_forK (K := K) (i := 2) rfl hT6 fun kvs od hk hL => ?_
      refine ⟨fun n σ' H' => ∃ z1 z2 ws acc, σ' = [some (.ref x), some v1, some (.ref a), z1, some (.ref pl), none, none, none, none, z2, none] ∧ H' a = some (.frz od (.dT kvs)) ∧ TabR K H' kvs (tabG (goodOf sc ds)) ∧ Ex H H' ∧ H' pl = some (.lst ws) ∧ AllR Tr H' ws acc ∧ lawLeast acc ((goodOf sc ds).drop n) = leastOf (goodOf sc ds) ∧ acc.length ≤ n ∧ ∀ o ∈ acc, o ∈ goodOf sc ds,
        ⟨_, _, wl, [], rfl, upd_same, hL, eH6.mut na, by rw [upd_ne hla]; exact h6, trs_upd r6 (nt hk), least_good sc ds, Nat.le_refl _, fun _ h => by cases h⟩, fun n σ' H' P => ?_, fun n s d v σ' H' E hs' rs P hE => ?_, fun σ' H' P => ?_⟩
      · obtain ⟨_, _, _, _, _, h1, h2, _⟩ := P
        exact ⟨h1, h2⟩
      · obtain ⟨z1, z2, ws, acc, rfl, hf, hL', eH', hpl, racc, hlaw, hlen, hin⟩ := P
        have hsn := tabG_at hs'
        have hsG := List.mem_of_getElem? hsn
        have hdr : (goodOf sc ds).drop n = s :: (goodOf sc ds).drop (n + 1) := by
          obtain ⟨h1, h2⟩ := List.getElem?_eq_some_iff.mp hsn
          rw [← h2]
          exact List.drop_eq_getElem_cons h1
        have hnl := (List.getElem?_eq_some_iff.mp hsn).1
        rw [hdr] at hlaw
        have hlaw : lawLeast (if acc.any (fun o => within o s) = true then acc else acc ++ [s]) ((goodOf sc ds).drop (n + 1)) = leastOf (goodOf sc ds) := hlaw
        have hwl := racc.length
        refine s_when (b := !(acc.any fun o => within o s)) (et_not (evt_to (t_B (d_any (bs := acc.map fun o => within o s) (nr_bls (n_mapR (Ri := Tr) (Ro := Dr K (fun b : Bool => .bool b) fun _ => rfl) (f := fun o => within o s) (srcR_list (K := K) (ev_var (i := 4) rfl) hpl racc) (fun _ => rfl) (by omega) fun o ho v2 H3 e3 r3 => r_of (enc := fun b : Bool => PyData.bool b) (d_call (a_cons (d_var rfl (tr_dp r3)) (a_cons (d_var rfl (Dp.ex (tr_dp rs) e3)) a_nil)) fun H4 e4 => ⟨o, s, rfl, good_mem (hin o ho), good_mem hsG, rfl⟩))))) (by rw [List.any_map]; rfl))) (fun hb H5 e5 => ?_) (fun hb H5 e5 => ?_)
        · have hpl5 := e5 _ _ hpl
          have hb' : (acc.any fun o => within o s) = false := by simpa using hb
          rw [hb'] at hlaw
          refine ⟨_, rfl, .inl ⟨rfl, _, sq_of hpl5⟩, _, rfl, pl, ws, v, rfl, rfl, hpl5, sz_lt (by omega), ?_⟩
          show E.nx _ _
          rw [hE]
          refine ⟨_, _, ws ++ [v], acc ++ [s], rfl, ?_, (hL'.tk (Tk.of e5)).tk (Tk.lst hpl5), (eH'.trans e5).mut npl, upd_same, ((racc.ex e5).up hpl5).append (.one (Tr.up hpl5 (Tr.ex e5 rs))), hlaw, by rw [List.length_append]; exact Nat.succ_le_succ hlen, fun o ho => ?_⟩
          · rw [upd_ne (fun z => hla z.symm)]
            exact e5 _ _ hf
          · rcases List.mem_append.mp ho with h | h
            · exact hin o h
            · rw [List.mem_singleton.mp h]; exact hsG
        · have hb' : (acc.any fun o => within o s) = true := by simpa using hb
          rw [hb', if_pos rfl] at hlaw
          show E.nx _ _
          rw [hE]
          exact ⟨_, _, ws, acc, rfl, e5 _ _ hf, hL'.tk (Tk.of e5), eH'.trans e5, e5 _ _ hpl, racc.ex e5, hlaw, Nat.le_succ_of_le hlen, hin⟩
      · obtain ⟨z1, z2, ws, acc, rfl, hf, hL', eH', hpl, racc, hlaw, hlen, hin⟩ := P
        rw [tabG_len, List.drop_length] at hlaw
        have hlaw : acc = leastOf (goodOf sc ds) := hlaw
        subst hlaw
        have e7 : Ex H (upd H' a (.dT kvs)) := eH'.mut na
        have hT7 : DTab K (upd H' a (.dT kvs)) a (tabG (goodOf sc ds)) := ⟨kvs, upd_same, hL'.tk (tk_unlock hf)⟩
        have hpl7 : upd H' a (.dT kvs) pl = some (.lst ws) := by rw [upd_ne hla]; exact hpl
        have rl7 : AllR Tr (upd H' a (.dT kvs)) ws (leastOf (goodOf sc ds)) := trs_upd racc (nf hf)
        have shL := sh_sets (G := leastOf (goodOf sc ds)) fun s hs => good_mem (hin s hs)
        have dl : Dp K (upd H' a (.dT kvs)) (.ref pl) (.list ((leastOf (goodOf sc ds)).map setD)) := .lst (sq_of hpl7) (rl7.dp fun v x => tr_dp)
        refine q_when (b := false) (evt_to (t_test (d_ne (Evn.evd (nr_dp (R := Tr) (fun _ _ _ h => tr_dp h) (n_callN (a_consV (ev_var (i := 0) rfl) (a_cons (d_tupL (d_var (i := 1) rfl (Dp.ex r1 e7))) a_nil)) fun H3 e3 => ⟨x, sc, _, ds, rfl, (hs.ex e7).ex e3, .inr rfl, hd, rfl⟩))) (d_var (i := 4) rfl dl) shL.ok shL.ok)) (by rw [eqv_sh shL]; rfl)) (fun z => nomatch z) fun _ H8 e8 => ?_
        have eH8 := e7.trans e8
        have hT8 := hT7.ex e8
        have inStr : ∀ {v : V} {c : Sx} {H9 H11 : Hp}, Dp K H9 v (.str c) → Dp K H11 v (.str c) := fun r => by rw [r.strV]; exact .str _
        refine q_asgN (Evn.to (n_lc (K := K) (xs := cares9) (enc := .str) (p := fun c => (goodOf sc ds).all fun s => decide (c ∈ s)) (f := .str) (src_tup (d_ALL T)) (fun _ => rfl) (fun _ _ => rfl) (by decide) fun c hc v H9 e9 r => ⟨evt_to (t_B (d_all (bs := (goodOf sc ds).map fun s => decide (c ∈ s)) (Evd.to (Evn.evd (n_lcK (K := K) (t := tabG (goodOf sc ds)) (p := fun _ => true) (f := fun q => .bool (decide (c ∈ q.1))) (i := 2) rfl (hT8.ex e9) (by rw [tabG_len]; omega) (fun _ _ => rfl) (fun _ => rfl) fun H10 kvs' od' e10 h10 H11 v11 q hq e11 r11 hT11 => ⟨t_yes, fun _ => d_inS (d_var rfl (inStr r)) (d_var rfl (tr_dp r11)) (.inr rfl)⟩)) ?_))) (by rw [List.all_map]; rfl), fun _ => d_var rfl r⟩) rfl) fun pd wd H9 nd e9 hpd rd => ?_
        · rw [List.filter_eq_self.mpr (fun _ _ => rfl)]
          unfold tabG
          rw [List.map_map, List.map_map]
          rfl
        have dd : Dp K H9 (.ref pd) (.list ((neededOf (goodOf sc ds)).map .str)) := .lst (sq_of hpd) rd
        have shN := sh_strs (cs := neededOf (goodOf sc ds)) fun c hc => (List.mem_filter.mp hc).1
        have eH9 := eH8.trans e9
        refine q_when (b := false) (evt_to (t_test (d_ne (d_call (a_consV (ev_var (i := 0) rfl) (a_cons (d_var (i := 1) rfl (Dp.ex r1 eH9)) a_nil)) fun H3 e3 => ⟨x, sc, _, ds, rfl, (hs.ex eH9).ex e3, .inl rfl, hd, rfl⟩) (d_var (i := 5) rfl dd) shN.ok shN.ok)) (by rw [eqv_sh shN]; rfl)) (fun z => nomatch z) fun _ H10 e10 => ?_
        refine q_asgN (n_lst (K := K) e_nil) fun pf wf H11 nf' e11 hpf rf => ?_
        have e811 := e9.trans (e10.trans e11)
        have eH11 := eH8.trans e811
        have hT11 := hT8.ex e811
        have npf : H pf = none := fresh_back (eH9.trans e10) nf'
        have hfa : pf ≠ a := by
          obtain ⟨kv, h1, _⟩ := (hT8.ex e9).ex e10
          exact fun z => by rw [z, h1] at nf'; cases nf'
        have immP : ∀ L : List (List Sx × Sx), ImmAll (L.map pairD) = true := fun L => immAll_map _ fun p _ => imm_pair p
        have hAt : ∀ s, (harmsAt (goodOf sc ds) s).length ≤ 9 := fun s => by
          unfold harmsAt
          rw [List.length_map]
          exact List.length_filter_le _ _
        have hFl : ∀ L : List (List Sx), (L.flatMap (harmsAt (goodOf sc ds))).length ≤ 9 * L.length := by
          intro L
          induction L with
          | nil => exact Nat.le_refl _
          | cons s r ih =>
            rw [List.flatMap_cons, List.length_append, List.length_cons]
            have := hAt s
            omega
        refine q_forK (K := K) (i := 2) rfl hT11 fun kvs2 od2 hk2 hL2 => ?_
        refine ⟨fun n σ' H' => ∃ z1 z2 z3 z4 z5 ws, σ' = [some (.ref x), some v1, some (.ref a), z1, some (.ref pl), some (.ref pd), some (.ref pf), z2, z3, z4, z5] ∧ H' a = some (.frz od2 (.dT kvs2)) ∧ TabR K H' kvs2 (tabG (goodOf sc ds)) ∧ Ex H H' ∧ H' pf = some (.lst ws) ∧ DpAll K H' ws ((((goodOf sc ds).take n).flatMap (harmsAt (goodOf sc ds))).map pairD),
          ⟨_, _, _, _, _, wf, rfl, upd_same, hL2, eH11.mut na, by rw [upd_ne hfa]; exact hpf, (by cases rf; exact .nil)⟩, fun n σ' H' P => ?_, fun n s d v σ' H' E hs' rs P hE => ?_, fun σ' H' P => ?_⟩
        · obtain ⟨_, _, _, _, _, _, _, h1, h2, _⟩ := P
          exact ⟨h1, h2⟩
        · obtain ⟨z1, z2, z3, z4, z5, ws, rfl, hf2, hL', eH', hpf', hdp⟩ := P
          have hsn := tabG_at hs'
          have hsG := List.mem_of_getElem? hsn
          have hnl := (List.getElem?_eq_some_iff.mp hsn).1
          have htk : (goodOf sc ds).take (n + 1) = (goodOf sc ds).take n ++ [s] := by rw [List.take_succ, hsn] <;> rfl
          refine (q_forT (K := K) (j := 7) (D := E) (tz := tNext) (src_tupT (d_ALL T) (immAll_map _ fun _ _ => rfl)) fun H12 e12 => ?_ : tSeq (tFor _ (gName 7) _) tNext E _ H')
          refine ⟨fun i σ' H' => ∃ z2 z3 z4 z5 ws, σ' = [some (.ref x), some v1, some (.ref a), some v, some (.ref pl), some (.ref pd), some (.ref pf), z2, z3, z4, z5] ∧ H' a = some (.frz od2 (.dT kvs2)) ∧ TabR K H' kvs2 (tabG (goodOf sc ds)) ∧ Ex H H' ∧ Tk H12 H' ∧ Tr.r H' v s ∧ H' pf = some (.lst ws) ∧ DpAll K H' ws ((((goodOf sc ds).take n).flatMap (harmsAt (goodOf sc ds)) ++ ((cares9.take i).filter fun c => !decide (inOrder (s ++ [c]) ∈ goodOf sc ds)).map fun c => (s, c)).map pairD),
            ⟨_, _, _, _, ws, rfl, e12 _ _ hf2, hL'.tk (Tk.of e12), eH'.trans e12, Tk.refl _, Tr.ex e12 rs, e12 _ _ hpf', by rw [List.take_zero, List.filter_nil, List.map_nil, List.append_nil]; exact hdp.ex e12⟩, fun i σ' H' ⟨_, _, _, _, _, _, _, _, _, h, _⟩ => h, fun i d' v7 σ' H' hdi rc P => ?_, fun σ' H' P => ?_⟩
          · obtain ⟨z2, z3, z4, z5, ws, rfl, hf3, hL3, eH3, tk3, rs3, hpf3, hdp3⟩ := P
            rw [List.getElem?_map] at hdi
            obtain ⟨c, hci, rfl⟩ := Option.map_eq_some_iff.mp hdi
            have hc9 := List.mem_of_getElem? hci
            have htk2 : cares9.take (i + 1) = cares9.take i ++ [c] := by rw [List.take_succ, hci] <;> rfl
            have hwl : ws.length ≤ 5000 := by
              rw [hdp3.length, List.length_map, List.length_append, List.length_map]
              have h1 := hFl ((goodOf sc ds).take n)
              have h2 := List.length_filter_le (fun c => !decide (inOrder (s ++ [c]) ∈ goodOf sc ds)) (cares9.take i)
              rw [List.length_take] at h1 h2
              have : cares9.length = 9 := rfl
              omega
            have hmore : Evd K (tCB (fun xs H Q => ∃ p ys, xs = [V.ref p] ∧ ((SqL K H p ys ∧ ∀ l, H l = none → Q (.ref l) (upd H l (.tup ys))) ∨ (SqT K H p ys ∧ Q (.ref p) H))) (tCons (tLc (iTup K (tC (.ref (He.ga K "ALL_CARES")))) (gName 10) (tOr (tTest (tOp (rIn K false) (tVar 10) (tVar 3))) (tTest (tOp rEq (tVar 10) (tVar 7)))) (tVar 10) [10]) tNil)) [some (.ref x), some v1, some (.ref a), some v, some (.ref pl), some (.ref pd), some (.ref pf), some v7, z3, z4, z5] H' (setD (inOrder (s ++ [c]))) :=
              d_tupL (Evd.to (Evn.evd (n_lc (K := K) (xs := cares9) (enc := .str) (p := fun o => decide (o ∈ s) || decide (o = c)) (f := .str) (src_tup (d_ALL T)) (fun _ => rfl) (fun _ _ => rfl) (by decide) fun o ho v10 H13 e13 r13 => ⟨et_or' (t_test (d_inS (d_var (i := 10) rfl r13) (d_var (i := 3) rfl (Dp.ex (tr_dp rs3) e13)) (.inr rfl))) fun _ => t_test (d_eqStr (d_var (i := 10) rfl r13) (d_var (i := 7) rfl (Dp.ex rc e13))), fun _ => d_var rfl r13⟩)) (by
                unfold inOrder
                congr 2
                refine List.filter_congr fun o _ => ?_
                rw [Bool.eq_iff_iff]
                simp))
            refine q_asgD hmore fun v8 H13 e13 r13 => ?_
            have hf4 := e13 _ _ hf3
            have hL4 := hL3.tk (Tk.of e13)
            have hnew : ((cares9.take (i + 1)).filter fun c => !decide (inOrder (s ++ [c]) ∈ goodOf sc ds)).map (fun c => (s, c)) = ((cares9.take i).filter fun c => !decide (inOrder (s ++ [c]) ∈ goodOf sc ds)).map (fun c => (s, c)) ++ ([c].filter fun c => !decide (inOrder (s ++ [c]) ∈ goodOf sc ds)).map (fun c => (s, c)) := by
              rw [htk2, List.filter_append, List.map_append]
            refine s_when (b := !decide (inOrder (s ++ [c]) ∈ goodOf sc ds)) (evt_to (t_test (d_ninF (K := K) (k := inOrder (s ++ [c])) (d_var (i := 8) rfl r13) (ev_var (i := 2) rfl) hf4 hL4)) (by rw [getT_tabG])) (fun hb H14 e14 => ?_) (fun hb H14 e14 => ?_)
            · have e134 := e13.trans e14
              have hpf4 := e134 _ _ hpf3
              have hpair : Evd K (tTup (tCons (tVar 3) (tCons (tVar 7) tNil))) [some (.ref x), some v1, some (.ref a), some v, some (.ref pl), some (.ref pd), some (.ref pf), some v7, some v8, z4, z5] H14 (pairD (s, c)) := d_tup (e_cons (d_var rfl (tr_dp (Tr.ex e134 rs3))) (e_cons (d_var rfl (Dp.ex rc e134)) e_nil))
              refine ⟨_, rfl, .inl ⟨rfl, _, sq_of hpf4⟩, hpair H14 (Ex.refl _) _ fun vp H15 e15 r15 => ?_⟩
              have hpf5 := e15 _ _ hpf4
              have T15 : Tk H15 (upd H15 pf (.lst (ws ++ [vp]))) := Tk.lst hpf5
              have e35 := e134.trans e15
              refine ⟨pf, ws, vp, rfl, rfl, hpf5, sz_lt (by omega), ?_⟩
              refine ⟨_, _, _, _, ws ++ [vp], rfl, ?_, (hL4.tk (Tk.of (e14.trans e15))).tk T15, (eH3.trans e35).mut npf, (tk3.trans (Tk.of e35)).trans T15, ?_, upd_same, ?_⟩
              · rw [upd_ne (fun z => hfa z.symm)]
                exact e35 _ _ hf3
              · exact tr_upd (Tr.ex e35 rs3) (fun ys z => by rw [hpf5] at z; cases z)
              · rw [hnew]
                have e1 : [c].filter (fun c => !decide (inOrder (s ++ [c]) ∈ goodOf sc ds)) = [c] := by simp [hb]
                rw [e1, ← List.append_assoc, List.map_append]
                exact ((hdp3.ex e35).tk T15 (immP _)).append (.one (r15.tk T15 (imm_pair _)))
            · have e134 := e13.trans e14
              refine ⟨_, _, _, _, ws, rfl, e134 _ _ hf3, hL3.tk (Tk.of e134), eH3.trans e134, tk3.trans (Tk.of e134), Tr.ex e134 rs3, e134 _ _ hpf3, ?_⟩
              rw [hnew]
              have e1 : [c].filter (fun c => !decide (inOrder (s ++ [c]) ∈ goodOf sc ds)) = [] := by simp [hb]
              rw [e1, List.map_nil, List.append_nil]
              exact hdp3.ex e134
          · obtain ⟨z2, z3, z4, z5, ws, rfl, hf3, hL3, eH3, tk3, rs3, hpf3, hdp3⟩ := P
            rw [List.length_map, List.take_length] at hdp3
            show E.nx _ _
            rw [hE]
            refine ⟨_, _, _, _, _, ws, rfl, hf3, hL3, eH3, hpf3, ?_⟩
            rw [htk, List.flatMap_append]
            refine cast (congrArg _ ?_) hdp3
            rw [List.flatMap_cons, List.flatMap_nil, List.append_nil]
            rfl
        · obtain ⟨z1, z2, z3, z4, z5, ws, rfl, hf2, hL', eH', hpf', hdp⟩ := P
          rw [tabG_len, List.take_length, ← harms_law] at hdp
          have e14 : Ex H (upd H' a (.dT kvs2)) := eH'.mut na
          have dpf : Dp K (upd H' a (.dT kvs2)) (.ref pf) (.list ((harmsOf (goodOf sc ds)).map pairD)) := .lst (sq_of (by rw [upd_ne hfa]; exact hpf')) (hdp.tk (tk_unlock hf2) (immP _))
          have shH := sh_pairs (L := harmsOf (goodOf sc ds)) fun p hp => by
            rw [harms_law] at hp
            obtain ⟨s, hs1, hs2⟩ := List.mem_flatMap.mp hp
            obtain ⟨c, hc, rfl⟩ := List.mem_map.mp hs2
            exact ⟨good_mem hs1, (List.mem_filter.mp hc).1⟩
          exact s_retD (K := K) (Evd.to (d_eq (d_call (a_consV (ev_var (i := 0) rfl) (a_cons (d_var (i := 1) rfl (Dp.ex r1 e14)) a_nil)) fun H3 e3 => ⟨x, sc, _, ds, rfl, (hs.ex e14).ex e3, .inl rfl, hd, rfl⟩) (d_var (i := 6) rfl dpf) shH.ok shH.ok) (by rw [eqv_sh shH])) fun v H15 e15 r => k v H15 (e14.trans e15) r
end
end Sc


/-! ScP: pairs of a set and a failure; repairs made and asked. -/
namespace L2
open PySem PySem.Spec PyProof.Rows
theorem hu2_of {A : Around} {k : Nat} (hr : Room k A) : A.units + 2 < cLine := Nat.lt_of_le_of_lt (Nat.add_le_add_left (by decide : 2 ≤ 64) _) hr.units
theorem pe_revLK {X : Cx} {K : PySem.W.Frag} {e : Expr} {te : TE} {k : Nat} {p1 p2 p3 pos : Pos} (hK : X.K = K) (he : PE X e te) : PE X (.Subscript e (.Slice none none (some (.UnaryOp .USub (.Constant (.int 1) k p1) p2)) p3) pos) (tRevL K te) := hK ▸ pe_revL he
theorem call_dictTK {X : Cx} {K : PySem.W.Frag} (hK : X.K = K) (hcalm : X.calm = true) (hu : X.A.units + 2 < cLine) : CallR X (.type "dict") (rDictT K) := hK ▸ call_dictT hcalm hu
end L2
namespace Sc
open PySem PySem.Spec PyProof.Rows L2 Evl
/-- a held pair: a set, a datum -/
def Pr (K : PySem.W.Frag) : Rl (List Sx × PD) := ⟨fun H v q => ∃ t b w, v = .ref t ∧ H t = some (.tup [.ref b, w]) ∧ H b = some (.tup (q.1.map V.str)) ∧ Dp K H w q.2 ∧ Imm q.2 = true,
  fun e ⟨t, b, w, h1, h2, h3, h4, h5⟩ => ⟨t, b, w, h1, e _ _ h2, e _ _ h3, h4.ex e, h5⟩,
  fun hD ⟨t, b, w, h1, h2, h3, h4, h5⟩ => ⟨t, b, w, h1, by rw [upd_ne (ne_of h2 hD (fun z => nomatch z))]; exact h2, by rw [upd_ne (ne_of h3 hD (fun z => nomatch z))]; exact h3, h4.tk (Tk.lst hD) h5, h5⟩⟩
def prD (q : List Sx × PD) : PD := .tuple [setD q.1, q.2]
section
variable {K : PySem.W.Frag} {H H' : Hp} {σ : L2.St} {a : Addr} {v : V} {q : List Sx × PD} {D : Addr}
theorem Pr.dp (h : (Pr K).r H v q) : Dp K H v (prD q) := by
  obtain ⟨t, b, w, rfl, h2, h3, h4, _⟩ := h
  exact .tup (st_of h2) (.cons (.tup (st_of h3) (DpAll.strs _)) (.cons h4 .nil))
theorem Pr.unlock {kvs : List (KeyT × V)} {od : Obj} (hf : H a = some (.frz od (.dT kvs))) (h : (Pr K).r H v q) : (Pr K).r (upd H a (.dT kvs)) v q := by
  obtain ⟨t, b, w, rfl, h2, h3, h4, h5⟩ := h
  exact ⟨t, b, w, rfl, by rw [upd_ne (ne_of h2 hf (fun z => nomatch z))]; exact h2, by rw [upd_ne (ne_of h3 hf (fun z => nomatch z))]; exact h3, h4.tk (tk_unlock hf) h5, h5⟩
theorem Pr.mk' {ta tb : TE} {s : List Sx} {d : PD} (h1 : EvR Tr ta σ H s) (h2 : ∀ H1, Ex H H1 → Evd K tb σ H1 d) (hi : Imm d = true) : EvR (Pr K) (tTup (tCons ta (tCons tb tNil))) σ H (s, d) := fun H1 e Q k =>
  h1 H1 e _ fun v H2 e2 r2 => h2 H2 (e.trans e2) H2 (Ex.refl _) _ fun w H3 e3 r3 => ⟨sz_of (by simp), fun p hp => by
    obtain ⟨b, rfl, hb⟩ := r2
    have e4 : Ex H3 (upd H3 p (.tup [.ref b, w])) := Ex.new hp
    exact k _ _ ((e2.trans e3).trans e4) ⟨p, b, w, rfl, upd_same, (e3.trans e4) _ _ hb, r3.ex e4, hi⟩⟩
/-! under draws -/
theorem Tr.upU {xs : List V} {x : List Sx} (h : Tr.r H v x) (u : Up D H H') (hD : H D = some (.lst xs)) : Tr.r H' v x := by
  obtain ⟨b, rfl, hb⟩ := h
  exact ⟨b, rfl, u.exA _ _ (ne_of hb hD (fun z => nomatch z)) hb⟩
theorem DTab.upU {xs : List V} {t : Tab} (h : DTab K H a t) (u : Up D H H') (hD : H D = some (.lst xs)) : DTab K H' a t := by
  obtain ⟨kvs, h1, h2⟩ := h
  exact ⟨kvs, u.exA _ _ (ne_of h1 hD (fun z => nomatch z)) h1, h2.tk u.tk⟩
theorem Pr.upU {xs : List V} (h : (Pr K).r H v q) (u : Up D H H') (hD : H D = some (.lst xs)) : (Pr K).r H' v q := by
  obtain ⟨t, b, w, rfl, h2, h3, h4, h5⟩ := h
  exact ⟨t, b, w, rfl, u.exA _ _ (ne_of h2 hD (fun z => nomatch z)) h2, u.exA _ _ (ne_of h3 hD (fun z => nomatch z)) h3, h4.tk u.tk h5, h5⟩
/-- held lists of rows -/
def LR {α : Type} (R : Rl α) (H : Hp) (p : Addr) (xs : List α) : Prop := ∃ vs, H p = some (.lst vs) ∧ AllR R H vs xs
theorem LR.ex {α : Type} {R : Rl α} {p : Addr} {xs : List α} (h : LR R H p xs) (e : Ex H H') : LR R H' p xs := let ⟨vs, h1, h2⟩ := h; ⟨vs, e _ _ h1, h2.ex e⟩
theorem LR.upU {α : Type} {R : Rl α} {p : Addr} {xs : List α} (h : LR R H p xs) (hR : ∀ v x, R.r H v x → R.r H' v x) (u : Up D H H') (n : p ≠ D) : LR R H' p xs := let ⟨vs, h1, h2⟩ := h; ⟨vs, u.exA _ _ n h1, AllR.mono (R := R) (R' := R) hR h2⟩
theorem q_pickR {α : Type} {R : Rl α} {xs : List α} {p : Addr} {te : TE} {E : Ends} {tz : TS} {j l : Nat} (hx : σ[j]? = some (some (.ref D))) (N : EvnR R te σ H xs) (hne' : xs ≠ []) (hD : DrawOk K H D) (k : ∀ v x H1 H', x ∈ xs → Ex H H1 → R.r H1 v x → DrawOk K H1 D → Up D H1 H' → tz E (σ.set l (some v)) H') :
    tSeq (tAsg (tCallR (sp_law_pick K) E0 (tCons (tVar j) (tCons te tNil))) (gName l)) tz E σ H := ⟨_, hx, N H (Ex.refl _) _ fun p vs H1 hp e1 h1 r1 => by
  obtain ⟨ys, hD1⟩ := hD.cell
  refine ⟨D, p, vs, rfl, hD.ex e1, (nold hD1 hp).symm, h1, fun z => ?_, fun i x H' hx u => ?_⟩
  · have := r1.length
    rw [z] at this
    exact hne' (List.length_eq_zero_iff.mp this.symm)
  · obtain ⟨d, hd, rd⟩ := r1.getV hx
    exact k x d H1 H' (List.mem_of_getElem? hd) e1 rd (hD.ex e1) u⟩
theorem q_pickRV {α : Type} {R : Rl α} {xs : List α} {p : Addr} {E : Ends} {tz : TS} {j i l : Nat} (hx : σ[j]? = some (some (.ref D))) (hy : σ[i]? = some (some (.ref p))) (h : LR R H p xs) (hp : p ≠ D) (hne' : xs ≠ []) (hD : DrawOk K H D) (k : ∀ v x H', x ∈ xs → R.r H v x → Up D H H' → tz E (σ.set l (some v)) H') :
    tSeq (tAsg (tCallR (sp_law_pick K) E0 (tCons (tVar j) (tCons (tVar i) tNil))) (gName l)) tz E σ H := ⟨_, hx, _, hy, by
  obtain ⟨vs, h1, r1⟩ := h
  refine ⟨D, p, vs, rfl, hD, hp, h1, fun z => ?_, fun i x H' hx u => ?_⟩
  · have := r1.length
    rw [z] at this
    exact hne' (List.length_eq_zero_iff.mp this.symm)
  · obtain ⟨d, hd, rd⟩ := r1.getV hx
    exact k x d H' (List.mem_of_getElem? hd) rd u⟩
end
section
variable {K : PySem.W.Frag} {σ : L2.St} {H : Hp} {td ty te tv ta tb : TE} {tt : TT} {a p : Addr} {t : Tab} {k : List Sx} {d : PD} {j i : Nat} {vs : List Nat} {tu tz : TS} {D : Ends}
/-- for j in l: …, with break -/
theorem q_forLB {α : Type} {R : Rl α} {xs : List α} {tl : TE} (h : EvnR R tl σ H xs) (Mid : L2.St → Hp → Prop) (rest : ∀ σ' H', Mid σ' H' → tz D σ' H')
    (k : ∀ p vs H2, H p = none → Ex H H2 → H2 p = some (.lst vs) → AllR R H2 vs xs → ∃ Pv : Nat → L2.St → Hp → Prop, Pv 0 σ H2 ∧ (∀ i σ' H', Pv i σ' H' → H' p = some (.lst vs)) ∧
      (∀ i x v σ' H' (E : Ends), xs[i]? = some x → vs[i]? = some v → Pv i σ' H' → E.nx = Pv (i + 1) → (∀ σ H, Mid σ H → E.bk σ H) → tu E (σ'.set j (some v)) H') ∧ ∀ σ' H', Pv xs.length σ' H' → Mid σ' H') :
    tSeq (tFor (iList K tl) (gName j) tu) tz D σ H :=
  q_forL h fun p vs H2 hp e h2 r => by
    obtain ⟨Pv, p0, pG, pt, pd⟩ := k p vs H2 hp e h2 r
    exact ⟨Pv, p0, pG, fun i x v σ' H' hx hv P => pt i x v σ' H' _ hx hv P rfl rest, fun σ' H' P => rest _ _ (pd σ' H' P)⟩
/-- [te for j in d if tt], rows -/
theorem n_lcKR {α : Type} {Ro : Rl α} {pp : List Sx × PD → Bool} {f : List Sx × PD → α} (hun : ∀ (H : Hp) kvs od v x, H a = some (.frz od (.dT kvs)) → Ro.r H v x → Ro.r (upd H a (.dT kvs)) v x) (hx : σ[i]? = some (some (.ref a))) (ha : DTab K H a t) (hz : t.length ≤ 40000) (hw : ∀ v, wipe ((wipe σ vs).set j (some v)) vs = wipe σ vs)
    (hel : ∀ H1 kvs od, Ex H H1 → H1 a = some (.dT kvs) → ∀ H2 v q, q ∈ t → Ex (upd H1 a (.frz od (.dT kvs))) H2 → Tr.r H2 v q.1 → TabR K H2 kvs t → EvT tt ((wipe σ vs).set j (some v)) H2 (pp q) ∧ (pp q = true → EvR Ro te ((wipe σ vs).set j (some v)) H2 (f q))) :
    EvnR Ro (tLockE (tLc (iKeys (tVar i)) (gName j) tt te vs)) σ H ((t.filter pp).map f) := fun H1 e1 Q k => by
  obtain ⟨kvs, h1, h2⟩ := ha.ex e1
  have hlen := h2.length
  refine ⟨a, .dT kvs, h1, True.intro, fun od => ⟨_, hx, a, od, rfl, .inr ⟨kvs, upd_same, fun D hD => ?_⟩⟩⟩
  have hDa : D ≠ a := fun z => by rw [z, upd_same] at hD; cases hD
  have hD1 : H1 D = none := by rw [upd_ne hDa] at hD; exact hD
  have W := walk_keysT (d := a) (o := od) (kvs := kvs)
  have hL := h2.tk (tk_lock (od := od) h1)
  refine lc_it W (fun n H' => Ex (upd H1 a (.frz od (.dT kvs))) H' ∧ ∃ acc, H' D = some (.lst acc) ∧ AllR Ro H' acc (((t.take n).filter pp).map f)) ⟨Ex.new hD, [], upd_same, trivial⟩ (fun n H' _ P => P.1 a _ upd_same) (fun n x H3 H4 hi P Y => ?_) fun H3 P => ?_
  · obtain ⟨ex, acc, hacc, hdp⟩ := P
    obtain ⟨rfl, kk, v, q, hkv, rfl, hq⟩ := Y
    have hL3 := hL.tk (Tk.of ex)
    obtain ⟨s, d, hs, rfl, hd, him⟩ := tab_at hL3 hkv
    have hq' : H4 q = some (.tup (s.map V.str)) := by rw [← keyT_kV]; exact hq
    have hmem : (s, d) ∈ t := List.mem_of_getElem? hs
    have htk : t.take (n + 1) = t.take n ++ [(s, d)] := by rw [List.take_succ, hs] <;> rfl
    have hlen' : acc.length ≤ 40000 := by
      rw [hdp.length, List.length_map]
      exact Nat.le_trans (List.length_filter_le _ _) (by rw [List.length_take]; omega)
    obtain ⟨g1, g2⟩ := hel H1 kvs od e1 h1 H4 (.ref q) (s, d) hmem ex ⟨q, rfl, hq'⟩ hL3
    refine ⟨hw _, g1 _ (Ex.refl _) _ fun H5 q5 => ?_⟩
    cases hp : pp (s, d) with
    | true =>
      show te _ H5 fun y H4 => ∃ acc, H4 D = some (.lst acc) ∧ acc.length < sizeLine ∧ _
      refine g2 hp H5 q5 _ fun w H6 q6 r6 => ⟨acc, q6 D _ (q5 D _ hacc), sz_lt (by omega), ((ex.trans q5).trans q6).mut hD, _, upd_same, ?_⟩
      rw [htk, List.filter_append, List.map_append]
      have e1 : [(s, d)].filter pp = [(s, d)] := by simp [hp]
      rw [e1]
      have hD6 := q6 D _ (q5 D _ hacc)
      exact ((hdp.ex (q5.trans q6)).up hD6).append (.one (Ro.up hD6 r6))
    | false =>
      refine ⟨ex.trans q5, acc, q5 D _ hacc, ?_⟩
      rw [htk, List.filter_append, List.map_append]
      have e1 : [(s, d)].filter pp = [] := by simp [hp]
      rw [e1]
      simpa using hdp.ex q5
  · obtain ⟨ex, acc, hacc, hdp⟩ := P
    rw [hlen, List.take_length] at hdp
    have hfz := ex a _ upd_same
    exact ⟨hfz, k D acc _ hD1 (ex_lock h1 ex) (by rw [upd_ne hDa]; exact hacc) (AllR.mono (R := Ro) (R' := Ro) (fun v x h => hun _ kvs od v x hfz h) hdp)⟩
theorem AllR.rev {α : Type} {R : Rl α} : ∀ {vs : List V} {xs : List α}, AllR R H vs xs → AllR R H vs.reverse xs.reverse
  | [], [], _ => trivial
  | v :: vs, x :: xs, ⟨h, t⟩ => by
    rw [List.reverse_cons, List.reverse_cons]
    exact (AllR.rev t).append (.one h)
  | [], _ :: _, h => h.elim
  | _ :: _, [], h => h.elim
/-- l[::-1] -/
theorem n_revL {α : Type} {R : Rl α} {xs : List α} (hx : Ev te σ H (.ref p)) (h : LR R H p xs) : EvnR R (tRevL K te) σ H xs.reverse := fun H1 e Q k =>
  hx H1 e _ fun H2 e2 => by
    obtain ⟨vs, h1, h2⟩ := h.ex (e.trans e2)
    exact ⟨p, vs, rfl, sq_of h1, fun l hl => k l _ _ (fresh_back e2 hl) (e2.trans (Ex.new hl)) upd_same ((AllR.rev h2).ex (Ex.new hl))⟩
theorem prs_parts : ∀ {vs : List V} {qs : Tab}, AllR (Pr K) H vs qs → ∃ (ts : List Addr) (ps : List (KeyT × V)), vs = ts.map V.ref ∧ ts.length = ps.length ∧ ps.length = qs.length ∧ TabR K H ps qs ∧ ∀ (j : Nat) (k : KeyT) (v : V), ps[j]? = some (k, v) → ∃ t q, ts[j]? = some t ∧ H t = some (.tup [.ref q, v]) ∧ H q = some (.tup (k.map kV))
  | [], [], _ => ⟨[], [], rfl, rfl, rfl, trivial, fun j k v h => by simp at h⟩
  | v :: vs, q :: qs, ⟨h, r⟩ => by
    obtain ⟨t, b, w, rfl, h2, h3, h4, h5⟩ := h
    obtain ⟨ts, ps, rfl, g1, g2, g3, g4⟩ := prs_parts r
    refine ⟨t :: ts, (keyT q.1, w) :: ps, rfl, congrArg Nat.succ g1, congrArg Nat.succ g2, ⟨rfl, h4, h5, g3⟩, fun j k v hj => ?_⟩
    cases j with
    | zero =>
      simp at hj
      obtain ⟨rfl, rfl⟩ := hj
      exact ⟨t, b, rfl, h2, by rw [keyT_kV]; exact h3⟩
    | succ j =>
      obtain ⟨t', q', a1, a2, a3⟩ := g4 j k v (by simpa using hj)
      exact ⟨t', q', by simpa using a1, a2, a3⟩
  | [], _ :: _, h => h.elim
  | _ :: _, [], h => h.elim
theorem tabR_fold : ∀ {ps kvs : List (KeyT × V)} {qs t : Tab}, TabR K H ps qs → TabR K H kvs t → TabR K H (ps.foldl (fun acc p => putK acc p.1 p.2) kvs) (qs.foldl (fun acc q => putT acc q.1 q.2) t)
  | [], _, [], _, _, h => h
  | p :: ps, kvs, q :: qs, t, ⟨h1, h2, h3, h4⟩, h => by
    rw [List.foldl_cons, List.foldl_cons, h1]
    exact tabR_fold h4 (h.put h2 h3)
  | [], _, _ :: _, _, h, _ => h.elim
  | _ :: _, _, [], _, h, _ => h.elim
theorem fold_new : ∀ (qs t : Tab), ((t ++ qs).map (·.1)).Nodup → qs.foldl (fun acc q => putT acc q.1 q.2) t = t ++ qs
  | [], t, _ => (List.append_nil t).symm
  | q :: qs, t, h => by
    have hk : q.1 ∉ t.map (·.1) := fun z => by
      rw [List.map_append, List.nodup_append] at h
      exact h.2.2 _ z q.1 (List.mem_map.mpr ⟨q, List.mem_cons_self, rfl⟩) rfl
    have e : t ++ q :: qs = (t ++ [q]) ++ qs := by rw [List.append_assoc]; rfl
    rw [List.foldl_cons, putT_new hk, e]
    rw [e] at h
    exact fold_new qs (t ++ [q]) h
/-- dict(l) -/
theorem t_dictT {qs : Tab} (h : EvnR (Pr K) te σ H qs) (hn : (qs.map (·.1)).Nodup) (hz : qs.length ≤ 40000) : EvDT K (tCB (rDictT K) (tCons te tNil)) σ H qs := fun H1 e Q k =>
  h H1 e _ fun p vs H2 hp e2 h2 r2 => by
    obtain ⟨ts, ps, rfl, g1, g2, g3, g4⟩ := prs_parts r2
    refine ⟨p, ts, ps, rfl, sq_of h2, g1, by omega, fun j k v hj => ?_, fun D hD => ?_⟩
    · obtain ⟨t, q, a1, a2, a3⟩ := g4 j k v hj
      exact ⟨t, q, a1, st_of a2, a3⟩
    · have e3 : Ex H2 (upd H2 D (.dT (ps.foldl (fun acc p => putK acc p.1 p.2) []))) := Ex.new hD
      refine k D _ (fresh_back e2 hD) (e2.trans e3) ⟨_, upd_same, ?_⟩
      have hf := tabR_fold (kvs := []) (t := []) g3 trivial
      rw [fold_new qs [] hn] at hf
      exact TabR.tk (Tk.of e3) hf
/-- Repair(x, d), d held -/
theorem e_makeRV {x : List Sx} (h1 : Evd K ta σ H (setD x)) (h2 : Ev tb σ H (.ref a)) (hT : DTab K H a t) (hn : (t.map (·.1)).Nodup) (hz : t.length ≤ 40000) : ∀ H1, Ex H H1 → ∀ Q : VK, (∀ p H', Ex H1 H' → RepAt K H' p x t → Q (.ref p) H') →
    tMake (He.ga K "Repair") (sp_rinit K) [] E0 (tCons ta (tCons tb tNil)) σ H1 Q := fun H0 e0 Q k =>
  h1 H0 e0 _ fun v H1 e1 r1 => h2 H1 (e0.trans e1) _ fun H2 e2 => by
    intro p dx hp hdx hne
    have e3 : Ex H2 (upd (upd H2 dx (.own p)) p (.ins (He.ga K "Repair") dx [])) := fun a o h => by
      rw [upd_ne (nold h hp), upd_ne (nold h hdx)]
      exact h
    refine ⟨p, dx, v, x, a, t, rfl, upd_same, (r1.ex e2).ex e3, (hT.ex ((e0.trans e1).trans e2)).ex e3, hn, hz, fun H' xa hR => ⟨rfl, k p H' (fun a o h => ?_) hR⟩⟩
    have h' := (e1.trans e2) a o h
    exact xa a o (nold h' hp) (e3 a o h')
theorem e_makeRT {x : List Sx} (h1 : Evd K ta σ H (setD x)) (h2 : EvDT K tb σ H t) (hn : (t.map (·.1)).Nodup) (hz : t.length ≤ 40000) : ∀ H1, Ex H H1 → ∀ Q : VK, (∀ p H', Ex H1 H' → RepAt K H' p x t → Q (.ref p) H') →
    tMake (He.ga K "Repair") (sp_rinit K) [] E0 (tCons ta (tCons tb tNil)) σ H1 Q := fun H0 e0 Q k =>
  e_makeR (K := K) (σ := σ) (H := H0) (x := x) (t := t) (fun H1 a => h1 H1 (e0.trans a)) (fun H1 a => fun H2 a2 => h2 H2 ((e0.trans a).trans a2)) hn hz Q k
/-- r.shows(..) -/
theorem d_showsR {to : TE} {x : Addr} {s : Sch} {cs : List Sx} {ds : List Deed} {added : List Sx} {ft : FTab} {t1 t2 t3 : TE} {e e' : PD} (hto : ∀ H1, Ex H H1 → ∀ Q : VK, (∀ p H', Ex H1 H' → RepAt K H' p added (ftab ft) → Q (.ref p) H') → to σ H1 Q) (h1 : Ev t1 σ H (.ref x)) (h2 : Evd K t2 σ H e) (h3 : Evd K t3 σ H e')
    (ha : CaresOk added) (hs : SchAt K H x s) (hc : carD e cs) (hk : CaresOk cs) (hq : seqD e' ds) (hd : DsOk s ds) : Evd K (tMethR (He.ga K "Repair") "shows" (sp_shows K) E0 to (tCons t1 (tCons t2 (tCons t3 tNil)))) σ H (.bool (showsOf s cs ds added ft)) := fun H1 e1 Q k =>
  hto H1 e1 _ fun p H2 e2 hR => by
    obtain ⟨dx, v, dd, g1, g2, g3⟩ := id hR
    refine ⟨p, dx, _, rfl, g1, by rfl, ?_⟩
    refine (a_consV h1 (a_cons h2 (a_cons h3 a_nil))) H2 (e1.trans e2) _ fun vs H3 e3 r3 => ?_
    exact ⟨.val (.ref p) :: [.val (.ref x), .dat e, .dat e'], _, ⟨_, _, rfl, rfl, r3⟩, ⟨p, x, s, e, cs, e', ds, added, ft, rfl, hR.ex e3, ha, hs.ex ((e1.trans e2).trans e3), hc, hk, hq, hd, rfl⟩, fun v H' e4 r => k v H' ((e2.trans e3).trans e4) r⟩
/-- list(d.items()) -/
theorem d_itemsL (hd : ∀ H1, Ex H H1 → ∀ Q : VK, (∀ H2, Ex H1 H2 → Q (.ref a) H2) → te σ H1 Q) (ha : DTab K H a t) : Evd K (tListItemsT te) σ H (.list (t.map prD)) := fun H1 e Q k =>
  hd H1 e _ fun H2 e2 => by
    obtain ⟨kvs, h1, h2⟩ := ha.ex (e.trans e2)
    refine ⟨a, kvs, rfl, h1, fun H' p ts ex hp hp' hl hts => k _ _ (e2.trans ex) (.lst (sq_of hp') ?_)⟩
    have e3 : Ex H2 H' := ex
    have go : ∀ {kvs : List (KeyT × V)} {tt : Tab} {ts : List Addr}, TabR K H' kvs tt → ts.length = kvs.length → (∀ (j : Nat) (k : KeyT) (v : V), kvs[j]? = some (k, v) → ∃ t q, ts[j]? = some t ∧ H' t = some (.tup [.ref q, v]) ∧ H' q = some (.tup (k.map kV))) → DpAll K H' (ts.map V.ref) (tt.map prD) := by
      intro kvs
      induction kvs with
      | nil =>
        intro tt ts hT hl _
        cases tt with
        | nil =>
          rw [List.length_eq_zero_iff.mp hl]
          exact .nil
        | cons _ _ => exact hT.elim
      | cons q r ih =>
        intro tt ts hT hl hts
        cases tt with
        | nil => exact hT.elim
        | cons u us =>
          obtain ⟨g1, g2, g3, g4⟩ := hT
          match ts, hl with
          | b :: bs, hl =>
            obtain ⟨t0, q0, a1, a2, a3⟩ := hts 0 q.1 q.2 rfl
            have : t0 = b := (Option.some.inj a1).symm
            subst this
            refine .cons (.tup (st_of a2) (.cons (.tup (st_of a3) ?_) (.cons g2 .nil))) (ih g4 (Nat.succ.inj hl) fun j k v hj => ?_)
            · rw [g1, keyT_kV]
              exact DpAll.strs _
            · obtain ⟨t, q, b1, b2, b3⟩ := hts (j + 1) k v (by simpa using hj)
              exact ⟨t, q, by simpa using b1, b2, b3⟩
    refine go (h2.tk (Tk.of e3)) hl fun j k v hj => ?_
    obtain ⟨t, q, a1, a2, a3⟩ := hts j k v hj
    exact ⟨t, q, a1, a2, e3 _ _ a3⟩
/-- l[i] of rows -/
theorem r_ixL {α : Type} {R : Rl α} {xs : List α} {x : α} {n : Int} (h : EvnR R ta σ H xs) (hb : Evd K tb σ H (.int n)) (hx : atI xs n = some x) : EvR R (tOp (rIxL K) ta tb) σ H x := fun H1 e Q k =>
  h H1 e _ fun p vs H2 hp e2 h2 r2 => hb.int H2 (e.trans e2) _ fun H3 e3 => by
    have r3 := r2.ex e3
    have hat : ∃ v, atI vs n = some v ∧ R.r H3 v x := by
      unfold atI at hx ⊢
      rw [r3.length]
      cases hj : ixN xs.length n with
      | none => rw [hj] at hx; cases hx
      | some j =>
        rw [hj] at hx
        have hx : xs[j]? = some x := hx
        show ∃ v, vs[j]? = some v ∧ _
        cases hv : vs[j]? with
        | none =>
          have h1 := List.getElem?_eq_none_iff.mp hv
          rw [r3.length] at h1
          rw [List.getElem?_eq_none_iff.mpr h1] at hx
          cases hx
        | some v =>
          obtain ⟨y, hy, ry⟩ := r3.getV hv
          rw [hx] at hy
          cases hy
          exact ⟨v, rfl, ry⟩
    obtain ⟨v, hv, rv⟩ := hat
    exact ⟨p, vs, n, v, rfl, rfl, sq_of (e3 _ _ h2), hv, k v H3 (e2.trans e3) rv⟩
end
end Sc

/-! ScQ: what the law's repairs need: dict writes as changes of one place, tests, tables. -/
namespace Sc
open PySem PySem.Spec PyProof.Rows L2 Evl
section
variable {K : PySem.W.Frag} {σ : L2.St} {H H' H1 : Hp} {td ty te tv ta tb : TE} {a b p x D : Addr} {t : Tab} {k : List Sx} {d : PD} {j i : Nat} {v : V} {tz : TS} {E : Ends} {s : Sch} {kvs us : List (KeyT × V)} {ds : List PD}
theorem Up.dT (h : H a = some (.dT kvs)) : Up a H (upd H a (.dT us)) := ⟨ExA.up, Tk.ob h (fun _ z => nomatch z) (fun _ _ z => nomatch z), fun v b n z => by rw [h] at z; cases z⟩
theorem Up.mutT (u : Up D H H1) (hl : H a = none) (h : H1 a = some (.dT kvs)) : Up D H (upd H1 a (.dT us)) := ⟨fun b o n hb => by rw [upd_ne (ne_of_none hb hl)]; exact u.exA b o n hb, u.tk.trans (Tk.ob h (fun _ z => nomatch z) fun _ _ z => nomatch z), fun v b n hb => by
  rw [upd_ne (ne_of_none hb hl)]
  exact u.dr v b n hb⟩
theorem Up.back (u : Up D H H1) (hD : DrawOk K H D) (h : H1 a = none) : H a = none := by
  cases q : H a with
  | none => rfl
  | some o =>
    by_cases e : a = D
    · subst e
      obtain ⟨xs, hx⟩ := (hD.up u).cell
      rw [h] at hx
      cases hx
    · have := u.exA _ _ e q
      rw [h] at this
      cases this
theorem SchAt.upT (h : SchAt K H x s) (u : Up a H H') (hx : H a = some (.dT kvs)) : SchAt K H' x s := by
  obtain ⟨ok, dx, ek, ev, h1, h2, h3⟩ := h
  exact ⟨ok, dx, ek, ev, u.exA _ _ (hne h1 hx (fun z => nomatch z)) h1, h2.tk u.tk (imm_strs _), h3.tk u.tk rfl⟩
theorem LA.upT (h : LA K H p ds) (u : Up a H H') (hx : H a = some (.dT kvs)) (hI : ImmAll ds = true) : LA K H' p ds := h.up u (fun z => by
  obtain ⟨vs, h1, _⟩ := h
  rw [z, hx] at h1
  cases h1) hI
theorem Tr.upT {y : List Sx} (h : Tr.r H v y) (u : Up a H H') (hx : H a = some (.dT kvs)) : Tr.r H' v y := by
  obtain ⟨b, rfl, hb⟩ := h
  exact ⟨b, rfl, u.exA _ _ (ne_of hb hx (fun z => nomatch z)) hb⟩
theorem DTab.upT (h : DTab K H b t) (u : Up a H H') (n : b ≠ a) : DTab K H' b t := by
  obtain ⟨kvs, h1, h2⟩ := h
  exact ⟨kvs, u.exA _ _ n h1, h2.tk u.tk⟩
theorem q_asgPool {pool : List Sx} (N : Evn K te σ H (pool.map .str)) (hp : CaresOk pool) (k : ∀ l H1, Ex H H1 → PoolAt K H1 l pool → tz E (σ.set i (some (.ref l))) H1) : tSeq (tAsg (tCB (rTupF K) (tCons te tNil)) (gName i)) tz E σ H := ev_pool N hp H (Ex.refl _) _ fun l H1 e h => k l H1 e h
theorem q_asgE {α : Type} {R : Rl α} {y : α} (h : EvR R te σ H y) (k : ∀ v H1, Ex H H1 → R.r H1 v y → tz E (σ.set i (some v)) H1) : tSeq (tAsg te (gName i)) tz E σ H := h H (Ex.refl _) _ k
theorem q_asgLock {α : Type} {R : Rl α} {xs : List α} (h : EvnR R (tLockE te) σ H xs) (k : ∀ p vs H1, H p = none → Ex H H1 → H1 p = some (.lst vs) → AllR R H1 vs xs → tz E (σ.set i (some (.ref p))) H1) : tSeq (tLock (tAsg te (gName i))) tz E σ H := h H (Ex.refl _) (fun v H' => tz E (σ.set i (some v)) H') k
theorem q_asgRep {X : XK} {as : List Ar} {tas : TA} {r : Option (List Sx × FTab)} (h : Eva K tas σ H as) (hP : ∀ H1, Ex H H1 → ∃ x s e cs e' ds, as = [.val (.ref x), .dat e, .dat e'] ∧ SchAt K H1 x s ∧ carD e cs ∧ CaresOk cs ∧ seqD e' ds ∧ DsOk s ds ∧ r = repairOf s cs ds) (k : ∀ v H1, Ex H H1 → RepR K H1 v r → tz E (σ.set i (some v)) H1) : tSeq (tAsg (tCallR (sp_repair K) X tas) (gName i)) tz E σ H := by
  unfold tSeq tAsg
  refine h H (Ex.refl _) _ fun vs H1 e1 r1 => ?_
  obtain ⟨x, s, e, cs, e', ds, h1, h2, h3, h4, h5, h6, rfl⟩ := hP H1 e1
  exact ⟨as, r1, x, s, e, cs, e', ds, h1, h2, h3, h4, h5, h6, fun v H' e2 hR => k v H' (e1.trans e2) hR⟩
theorem d_notTrue {c : Bool} (h : Evd K te σ H (.bool c)) : Evd K (tOp (fun x y H Q => ∃ a b, x = V.bl a ∧ y = V.bl b ∧ Q (.bl (!decide (a = b))) H) te (tC (.bl true))) σ H (.bool (!c)) := fun H1 e Q k =>
  h.bl H1 e _ fun H2 e2 => ⟨c, true, rfl, rfl, by
    have : (!decide (c = true)) = !c := by cases c <;> rfl
    rw [this]
    exact k _ H2 e2 (.bl _)⟩
theorem d_eqEmpty (hx : σ[i]? = some (some (.ref a))) (ha : DTab K H a t) : Evd K (tOp rEqET (tVar i) tDNewT) σ H (.bool (decide (t.length = 0))) := fun H1 e Q k => by
  obtain ⟨kvs, h1, h2⟩ := ha.ex e
  refine ⟨_, hx, fun q hq => ?_⟩
  have e2 : Ex H1 (upd H1 q (.dT [])) := Ex.new hq
  refine ⟨a, q, kvs, rfl, rfl, e2 _ _ h1, upd_same, ?_⟩
  rw [h2.length]
  exact k _ _ e2 (.bl _)
theorem t_dictTV {qs : Tab} (hx : σ[i]? = some (some (.ref p))) (h : LR (Pr K) H p qs) (hn : (qs.map (·.1)).Nodup) (hz : qs.length ≤ 40000) : EvDT K (tCB (rDictT K) (tCons (tVar i) tNil)) σ H qs := fun H1 e Q k => by
  obtain ⟨vs, h2, r2⟩ := h.ex e
  obtain ⟨ts, ps, rfl, g1, g2, g3, g4⟩ := prs_parts r2
  refine ⟨_, hx, p, ts, ps, rfl, sq_of h2, g1, by omega, fun j k v hj => ?_, fun D hD => ?_⟩
  · obtain ⟨t, q, a1, a2, a3⟩ := g4 j k v hj
    exact ⟨t, q, a1, st_of a2, a3⟩
  · have e3 : Ex H1 (upd H1 D (.dT (ps.foldl (fun acc p => putK acc p.1 p.2) []))) := Ex.new hD
    refine k D _ hD e3 ⟨_, upd_same, ?_⟩
    have hf := tabR_fold (kvs := []) (t := []) g3 trivial
    rw [fold_new qs [] hn] at hf
    exact TabR.tk (Tk.of e3) hf
/-- d.pop(k) -/
theorem q_popT {d : PD} (hx : σ[i]? = some (some (.ref a))) (hy : σ[j]? = some (some v)) (ha : DTab K H a t) (r : Tr.r H v k) (hg : getT t k = some d) (c : ∀ kvs us, H a = some (.dT kvs) → DTab K (upd H a (.dT us)) a (dropT t k) → tz E σ (upd H a (.dT us))) :
    tSeq (tDrop (tBM K "dict" rPopT1 (tVar i) (tCons (tVar j) tNil))) tz E σ H := by
  obtain ⟨kvs, h1, h2⟩ := ha
  obtain ⟨b, rfl, hb⟩ := r
  rcases h2.get k with ⟨g1, g2⟩ | ⟨w, d', g1, g2, g3, _⟩
  · rw [hg] at g2; cases g2
  · have tk : Tk H (upd H a (.dT (dropK kvs (keyT k)))) := Tk.ob h1 (fun _ z => nomatch z) fun _ _ z => nomatch z
    exact ⟨_, hx, .inr (.inr (.inl ⟨rfl, .inr ⟨kvs, h1⟩⟩)), _, hy, a, kvs, keyT k, b, w, rfl, rfl, h1, by rw [keyT_kV]; exact hb, g1, c kvs _ h1 ⟨_, upd_same, h2.drop.tk tk⟩⟩
end
/-! the law's table -/
theorem ftab_app (x y : FTab) : ftab (x ++ y) = ftab x ++ ftab y := List.map_append
theorem ftab_keys (x : FTab) : (ftab x).map (·.1) = x.map (·.1) := by
  unfold ftab
  rw [List.map_map]
  rfl
theorem ftab_rev (x : FTab) : ftab x.reverse = (ftab x).reverse := List.map_reverse
theorem ftab_put (x : FTab) (k : List Sx) (f : Fail) : putT (ftab x) k f.d = ftab (putFT x k f) := by
  unfold putT putFT
  have : ((ftab x).any fun p => decide (p.1 = k)) = x.any fun p => decide (p.1 = k) := by
    unfold ftab
    rw [List.any_map]
    rfl
  rw [this]
  split
  · unfold ftab
    rw [List.map_map, List.map_map]
    refine List.map_congr_left fun p _ => ?_
    show (if p.1 = k then (p.1, f.d) else (p.1, p.2.d)) = ((if p.1 = k then (p.1, f) else p).1, (if p.1 = k then (p.1, f) else p).2.d)
    split <;> rfl
  · rw [ftab_app]
    rfl
theorem ftab_drop (x : FTab) (k : List Sx) : dropT (ftab x) k = ftab (x.filter fun p => decide (p.1 ≠ k)) := by
  unfold dropT ftab
  rw [List.filter_map]
  rfl
theorem ftab_imm (x : FTab) : ∀ q ∈ ftab x, Imm q.2 = true := fun q hq => by
  obtain ⟨p, _, rfl⟩ := List.mem_map.mp hq
  exact imm_failD (some p.2)
theorem repairGo_late {s : Sch} {cs : List Sx} {ds : List Deed} {x : List Sx} {B : List (List Sx)} (hx : failW s cs ds x = none) : ∀ (A : List (List Sx)) (acc : FTab), (∀ a ∈ A, (failW s cs ds a).isSome = true) → repairGo s cs ds (A ++ x :: B) acc = some (x, (acc ++ accOf (failW s cs ds) A).filter fun p => decide (p.1.length < x.length))
  | [], acc, _ => by
    show (match failW s cs ds x with | none => some (x, acc.filter fun p : List Sx × Fail => decide (p.1.length < x.length)) | some f => _) = _
    rw [hx]
    show _ = some (x, (acc ++ []).filter _)
    rw [List.append_nil]
  | a :: A, acc, h => by
    have h1 := h a List.mem_cons_self
    cases e : failW s cs ds a with
    | none => rw [e] at h1; cases h1
    | some f =>
      show (match failW s cs ds a with | none => some (a, acc.filter fun p : List Sx × Fail => decide (p.1.length < a.length)) | some f => repairGo s cs ds (A ++ x :: B) (acc ++ [(a, f)])) = _
      rw [e]
      show repairGo s cs ds (A ++ x :: B) (acc ++ [(a, f)]) = _
      rw [repairGo_late hx A _ fun b hb => h b (List.mem_cons_of_mem _ hb), accOf_cons e, List.append_assoc]
      rfl
theorem repair_of {s : Sch} {cs : List Sx} {ds : List Deed} {A : List (List Sx)} {x : List Sx} (h : Late (failW s cs ds) (setsOf (poolOf cs)) A x) : repairOf s cs ds = some (x, accOf (failW s cs ds) (fwr (setsOf (poolOf cs)) x)) := by
  obtain ⟨B, e⟩ := h.eq
  unfold repairOf
  rw [e, repairGo_late h.fx A [] h.fa, List.nil_append, ← e]
  exact congrArg (fun z => some (x, z)) (h.due (sets_sorted _))
theorem shows_eq (s : Sch) (cs : List Sx) (ds : List Deed) (x : List Sx) (ft : FTab) : showsOf s cs ds x ft = shw (failW s cs ds) (fwr (setsOf (poolOf cs)) x) x ft := rfl
theorem cs_app {cs y : List Sx} (hk : CaresOk cs) (hy : y ∈ setsOf (poolOf cs)) : CaresOk (cs ++ y) := by
  have hy2 := sets_ok (pool_ok cs) hy
  have hsub := sets_sub (pool_ok cs).2 hy
  refine ⟨fun c hc => ?_, ?_⟩
  · rcases List.mem_append.mp hc with h | h
    · exact hk.1 c h
    · exact hy2.1 c h
  · rw [List.nodup_append]
    refine ⟨hk.2, hy2.2, fun a ha b hb e => ?_⟩
    have := (List.mem_filter.mp (hsub.subset hb)).2
    rw [← e] at this
    simp [ha] at this
theorem order_full {cs : List Sx} : inOrder (cs ++ poolOf cs) = cares9 := by
  unfold inOrder
  rw [List.filter_eq_self]
  intro c hc
  rw [decide_eq_true_eq, List.mem_append]
  by_cases h : c ∈ cs
  · exact .inl h
  · exact .inr (List.mem_filter.mpr ⟨hc, by simp [h]⟩)
theorem set_cares {pool y : List Sx} (h : CaresOk pool) (hy : y ∈ setsOf pool) : CaresOk y := sets_ok h hy
theorem sh_rows (ft : FTab) (h : ∀ p ∈ ft, CaresOk p.1) : Sh 3 (.list ((ftab ft).map prD)) := Sh.lst fun d hd => by
  obtain ⟨q, hq, rfl⟩ := List.mem_map.mp hd
  obtain ⟨p, hp, rfl⟩ := List.mem_map.mp hq
  refine Sh.tup fun x hx => ?_
  rcases List.mem_cons.mp hx with rfl | hx
  · exact sh_set (h p hp).1
  · rw [List.mem_singleton.mp hx]
    exact sh_fail p.2
end Sc

/-! Sc33: the law's repairs. -/
namespace Sc
open PySem PySem.Spec PyProof.Rows L2 Evl
def sp_law_repair_right (K : PySem.W.Frag) : Sp := fun vs H Q _ => ∃ D x ph pd s cs ds, vs = [.ref D, .ref x, .ref ph, .ref pd] ∧ DrawOk K H D ∧ SchAt K H x s ∧ LA K H ph (cs.map .str) ∧ ph ≠ D ∧ CaresOk cs ∧ LA K H pd (ds.map Deed.d) ∧ pd ≠ D ∧ DsOk s ds ∧ failRun (hsOf cares9) s m0 ds = none ∧ ∀ H', Up D H H' → Q (.bl true) H'
section
variable {P : Program} {w : World} {K : PySem.W.Frag} {mg : PySem.Str → Option Value} {base : Heap}
abbrev nm__law_repair_right : List PySem.Str := ["_law_draw_here", "_law_scheme_here", "_law_held", "_law_deeds_here", "_law_mates", "_law_table", "_law_some", "_law_late", "_law_found", "_law_due", "_law_doubts", "_law_every", "_law_failure_here", "_law_is_right", "_law_bent", "_law_one", "_law_care"]
theorem sc__law_repair_right : FnScope nm__law_repair_right ["_law_draw_here", "_law_scheme_here", "_law_held", "_law_deeds_here"] (defScope s__law_repair_right) := ⟨rfl, rfl, rfl, by decide +kernel, rfl, by decide +kernel, by decide +kernel⟩
theorem ok__law_repair_right (T : Tx K mg) : FR P w K mg base 10 "_law_repair_right" (sp_law_repair_right K) := by
  refine fr_of (k := 9) (N := nm__law_repair_right) (ps := ["_law_draw_here", "_law_scheme_here", "_law_held", "_law_deeds_here"]) (gl__law_repair_right T) (T.c.d.def_ 66 (d := d__law_repair_right)) sc__law_repair_right (fun _ _ _ _ _ _ us hl => match us, hl with | [_, _, _, _], _ => rfl) (fun vs H Q E h => ?_) (fun cdv A outer s H vs Q E hr h => ?_)
  · obtain ⟨D, x, ph, pd, sc, cs, ds, rfl, _⟩ := h
    rfl
  · obtain ⟨D, x, ph, pd, sc, cs, ds, rfl, hD0, hs0, hh0, nh, hk, hdl0, nd, hd, hsafe, k0⟩ := h
    obtain ⟨fdR, FrR, BrR⟩ := ok_rinit (P := P) (w := w) (base := base) T
    refine ⟨_, (pss_cons (ps_set (i := 4) sc__law_repair_right.nd rfl (Or.inl rfl) (pe_callTy (call_tupleFK (K := K) rfl) (by rfl) (fr_tuple T) (by decide +kernel) (pa_cons (pe_lc (own := [("_law_care", 16)]) rfl sc__law_repair_right.nd (pi_tupK (K := K) rfl (pe_gref (gl_ALL_CARES T) rfl)) (blkOk_by (own := [("_law_care", 16)]) (N := nm__law_repair_right) (sc := defScope s__law_repair_right) (by decide +kernel)) (fun _ _ _ _ _ => (pg_name (i := 16) sc__law_repair_right.nd rfl (Or.inl rfl))) (fun _ _ _ _ _ => (pts_one (pt_cmpR (op_ninK (K := K) rfl) (pv 16) (pv 2) (by rfl)))) (fun _ _ _ _ _ => (pv 16))) pa_nil)))
      (pss_cons (ps_set (i := 5) sc__law_repair_right.nd rfl (Or.inr rfl) pe_dnewT)
      (pss_cons (ps_for PassesOwn.never rfl (pi_listK (K := K) rfl (pe_cR (ok__law_sets T) hr (by rfl) (pa_cons (pv 4) pa_nil))) (pg_name (i := 6) sc__law_repair_right.nd rfl (Or.inl rfl)) (pss_cons (ps_dput (hu_of hr) (pv 5) (pv 6) (pe_cR (ok__law_failure T) hr (by rfl) (pa_cons (pv 1) (pa_cons (pe_op op_cat (pv 2) (pe_callTy (call_listK (K := K) rfl) (by rfl) (fr_list T) (by decide +kernel) (pa_cons (pv 6) pa_nil))) (pa_cons (pv 3) pa_nil)))) rfl)
      (pss_one (ps_if (pt_cmpR op_isN (pe_dgetS (K := K) rfl (hu_of hr) (pv 5) (pv 6) (fun _ _ => rfl)) pe_non (nomark _)) (pss_one ps_break) pss_nil))))
      (pss_cons (ps_set (i := 7) sc__law_repair_right.nd rfl (Or.inr rfl) (pe_ix (ix_listK (K := K) rfl) (pe_callTy (call_list_dT rfl) (by rfl) (fr_list T) (by decide +kernel) (pa_cons (pv 5) pa_nil)) (pe_un un_neg pe_int) (fun _ _ => rfl)))
      (pss_cons (ps_set (i := 8) sc__law_repair_right.nd rfl (Or.inl rfl) (pe_cR (ok_repair T) hr (by rfl) (pa_cons (pv 1) (pa_cons (pv 2) (pa_cons (pv 3) pa_nil)))))
      (pss_cons (ps_lock (ps_setLc (i := 9) (own := [("_law_some", 6)]) rfl sc__law_repair_right.nd rfl rfl (sw_true rfl rfl rfl (by decide +kernel)) (pi_keys (pv 5)) (blkOk_by (own := [("_law_some", 6)]) (N := nm__law_repair_right) (sc := defScope s__law_repair_right) (by decide +kernel)) (fun _ _ _ _ _ => (pg_name (i := 6) sc__law_repair_right.nd rfl (Or.inl rfl))) (fun _ _ _ _ _ => (pts_one (pt_cmpR op_lt (pe_callB (call_lenK (K := K) rfl) (by rfl) (fr_len T) (by decide +kernel) (pa_cons (pv 6) pa_nil)) (pe_callB (call_lenK (K := K) rfl) (by rfl) (fr_len T) (by decide +kernel) (pa_cons (pv 7) pa_nil)) (nomark _)))) (fun _ _ _ _ _ => (pe_tup (pa_cons (pv 6) (pa_cons (pe_dgetS (K := K) rfl (hu_of hr) (pv 5) (pv 6) (fun _ _ => rfl)) pa_nil))))))
      (pss_cons (ps_if (PW.pt (pw_or (pt_cmpR (op_neK (K := K) rfl hr.units) (pe_fldK (K := K) rfl (pv 8) rfl) (pv 7) (nomark _)) (pw_or1 (pt_cmpR (op_neK (K := K) rfl hr.units) (pe_listItemsT rfl (pe_fldK (K := K) rfl (pv 8) rfl) (by rfl) (fr_list T) (by decide +kernel)) (pv 9) (nomark _))))) (pss_one (ps_ret pe_bl)) pss_nil)
      (pss_cons (ps_if (pt_cmpR op_isnot_bl (pe_methR (pv 8) (cl_Repair T) (me_Repair_shows T) (ok_Repair_shows T) (hr.mono (by decide)) pass0 (pa_cons (pv 1) (pa_cons (pe_callTy (call_tupleK (K := K) rfl) (by rfl) (fr_tuple T) (by decide +kernel) (pa_cons (pv 2) pa_nil)) (pa_cons (pv 3) pa_nil)))) pe_bl (nomark _)) (pss_one (ps_ret pe_bl)) pss_nil)
      (pss_cons (ps_set (i := 10) sc__law_repair_right.nd rfl (Or.inl rfl) (pe_callTy (call_dictTK (K := K) rfl rfl (hu2_of hr)) (by rfl) (fr_dict T) (by decide +kernel) (pa_cons (pe_revLK (K := K) rfl (pv 9)) pa_nil)))
      (pss_cons (ps_if (pt_not (pt_val (pe_methR (pe_make (mk_Repair T) FrR (hr.mono (by decide)) (by rfl) (gl_Repair T) BrR .nil pass0 (pa_cons (pv 7) (pa_cons (pv 10) pa_nil))) (cl_Repair T) (me_Repair_shows T) (ok_Repair_shows T) (hr.mono (by decide)) pass0 (pa_cons (pv 1) (pa_cons (pv 2) (pa_cons (pv 3) pa_nil)))))) (pss_one (ps_ret pe_bl)) pss_nil)
      (pss_cons (ps_setLc (i := 11) (own := [("_law_one", 15)]) rfl sc__law_repair_right.nd rfl rfl (sw_true rfl rfl rfl (by decide +kernel)) (pi_listK (K := K) rfl (pe_cR (ok__law_sets T) hr (by rfl) (pa_cons (pv 4) pa_nil))) (blkOk_by (own := [("_law_one", 15)]) (N := nm__law_repair_right) (sc := defScope s__law_repair_right) (by decide +kernel)) (fun _ _ _ _ _ => (pg_name (i := 15) sc__law_repair_right.nd rfl (Or.inl rfl))) (fun _ _ _ _ _ => (pts_one (pt_cmpR op_le (pe_callB (call_lenK (K := K) rfl) (by rfl) (fr_len T) (by decide +kernel) (pa_cons (pv 15) pa_nil)) (pe_callB (call_lenK (K := K) rfl) (by rfl) (fr_len T) (by decide +kernel) (pa_cons (pv 7) pa_nil)) (nomark _)))) (fun _ _ _ _ _ => (pv 15)))
      (pss_cons (ps_set (i := 6) sc__law_repair_right.nd rfl (Or.inl rfl) (pe_cR (ok__law_pick T) hr (by rfl) (pa_cons (pv 0) (pa_cons (pv 11) pa_nil))))
      (pss_cons (ps_set (i := 12) sc__law_repair_right.nd rfl (Or.inl rfl) (pe_cR (ok__law_failure T) hr (by rfl) (pa_cons (pv 1) (pa_cons (pe_op op_cat (pv 2) (pe_callTy (call_listK (K := K) rfl) (by rfl) (fr_list T) (by decide +kernel) (pa_cons (pv 6) pa_nil))) (pa_cons (pv 3) pa_nil)))))
      (pss_cons (ps_set (i := 13) sc__law_repair_right.nd rfl (Or.inl rfl) (pe_and (pe_cmpR op_eq (pe_callB (call_lenK (K := K) rfl) (by rfl) (fr_len T) (by decide +kernel) (pa_cons (pv 6) pa_nil)) (pe_callB (call_lenK (K := K) rfl) (by rfl) (fr_len T) (by decide +kernel) (pa_cons (pv 7) pa_nil)) (nomark _)) (pe_one (pe_cmpR op_isN (pv 12) pe_non (nomark _)))))
      (pss_cons (ps_if (pt_cmpR op_ne (pe_methR (pe_make (mk_Repair T) FrR (hr.mono (by decide)) (by rfl) (gl_Repair T) BrR .nil pass0 (pa_cons (pv 6) (pa_cons (pv 10) pa_nil))) (cl_Repair T) (me_Repair_shows T) (ok_Repair_shows T) (hr.mono (by decide)) pass0 (pa_cons (pv 1) (pa_cons (pv 2) (pa_cons (pv 3) pa_nil)))) (pv 13) (nomark _)) (pss_one (ps_ret pe_bl)) pss_nil)
      (pss_cons (ps_if (pt_cmpR (op_eqET hr.units0) (pv 10) pe_dnewT (nomark _)) (pss_one (ps_ret (pe_not (pe_methR (pe_make (mk_Repair T) FrR (hr.mono (by decide)) (by rfl) (gl_Repair T) BrR .nil pass0 (pa_cons (pv 7) (pa_cons (pe_callTy (call_dictTK (K := K) rfl rfl (hu2_of hr)) (by rfl) (fr_dict T) (by decide +kernel) (pa_cons (pe_lst (pa_cons (pe_tup (pa_cons (pv 7) (pa_cons (pe_tup (pa_cons pe_str (pa_cons pe_int pa_nil))) pa_nil))) pa_nil)) pa_nil)) pa_nil))) (cl_Repair T) (me_Repair_shows T) (ok_Repair_shows T) (hr.mono (by decide)) pass0 (pa_cons (pv 1) (pa_cons (pv 2) (pa_cons (pv 3) pa_nil))))))) pss_nil)
      (pss_cons (ps_set (i := 6) sc__law_repair_right.nd rfl (Or.inl rfl) (pe_cR (ok__law_pick T) hr (by rfl) (pa_cons (pv 0) (pa_cons (pe_callTy (call_list_dT rfl) (by rfl) (fr_list T) (by decide +kernel) (pa_cons (pv 10) pa_nil)) pa_nil))))
      (pss_cons (ps_set (i := 14) sc__law_repair_right.nd rfl (Or.inl rfl) (pe_callTy (call_dictTK (K := K) rfl rfl (hu2_of hr)) (by rfl) (fr_dict T) (by decide +kernel) (pa_cons (pv 9) pa_nil)))
      (pss_cons (ps_dput (hu_of hr) (pv 14) (pv 6) (pe_tup (pa_cons (pe_ix (ix_tupK (K := K) rfl) (pe_dgetS (K := K) rfl (hu_of hr) (pv 14) (pv 6) (fun _ _ => rfl)) pe_int (fun _ _ => rfl)) (pa_cons (pe_op op_add (pe_ix (ix_tupK (K := K) rfl) (pe_dgetS (K := K) rfl (hu_of hr) (pv 14) (pv 6) (fun _ _ => rfl)) pe_int (fun _ _ => rfl)) pe_int) pa_nil))) rfl)
      (pss_cons (ps_expr (pe_bm PySem.F.plainAttrs_dict PySem.F.slot_dict_pop PySem.F.type_dict_pop (mt_popT1 (hu_of hr)) (pv 10) (pa_cons (pv 6) pa_nil)))
      (pss_cons (ps_if (pt_val (pe_methR (pe_make (mk_Repair T) FrR (hr.mono (by decide)) (by rfl) (gl_Repair T) BrR .nil pass0 (pa_cons (pv 7) (pa_cons (pv 10) pa_nil))) (cl_Repair T) (me_Repair_shows T) (ok_Repair_shows T) (hr.mono (by decide)) pass0 (pa_cons (pv 1) (pa_cons (pv 2) (pa_cons (pv 3) pa_nil))))) (pss_one (ps_ret pe_bl)) pss_nil)
      (pss_one (ps_ret (pe_not (pe_methR (pe_make (mk_Repair T) FrR (hr.mono (by decide)) (by rfl) (gl_Repair T) BrR .nil pass0 (pa_cons (pv 7) (pa_cons (pv 14) pa_nil))) (cl_Repair T) (me_Repair_shows T) (ok_Repair_shows T) (hr.mono (by decide)) pass0 (pa_cons (pv 1) (pa_cons (pv 2) (pa_cons (pv 3) pa_nil)))))))))))))))))))))))))))), ?_⟩
    have c := cl_Repair T
    have hc9 := cares_len hk
    have hpool := pool_ok cs
    have hsl := sets_len hpool
    have hnd := sets_nodup hpool.2
    have hsort := sets_sorted (poolOf cs)
    have immD : ∀ l : List Deed, ImmAll (l.map Deed.d) = true := fun l => immAll_map _ fun d _ => imm_Deed d
    have h9 : ∀ y ∈ setsOf (poolOf cs), y.length ≤ 9 := fun y hy => cares_len (sets_ok hpool hy)
    -- the pool
    refine q_asgPool (K := K) (n_lc (xs := cares9) (enc := .str) (p := fun c => !decide (c ∈ cs)) (f := .str) (src_tup (d_ALL T)) (fun _ => rfl) (fun _ _ => rfl) (by decide) fun c hc' v H1 e1 r => ⟨t_test (d_ninS (d_var rfl r) (d_var (i := 2) rfl (Dp.ex hh0.dp e1)) (.inl rfl)), fun _ => d_var rfl r⟩) hpool fun l H1 e1 hp1 => ?_
    have hD := hD0.ex e1
    have hs := hs0.ex e1
    have hh := hh0.ex e1
    have hdl := hdl0.ex e1
    have k : ∀ H', Up D H1 H' → Q (.bl true) H' := fun H' u => k0 H' ((Up.of e1).trans u)
    -- the table
    refine q_newT (K := K) fun a H2 na e2 hT0 => ?_
    have hcat : ∀ {σ : L2.St} {H' : Hp} {y : List Sx} {v : V}, σ[2]? = some (some (.ref ph)) → σ[6]? = some (some v) → LA K H' ph (cs.map .str) → Tr.r H' v y → y.length ≤ 9 → Evd K (tOp rCat (tVar 2) (tCB (fun xs H Q => ∃ p ys, xs = [V.ref p] ∧ (SqL K H p ys ∨ SqT K H p ys) ∧ ∀ l, H l = none → Q (.ref l) (upd H l (.lst ys))) (tCons (tVar 6) tNil))) σ H' (.list ((cs ++ y).map .str)) := fun h2 h6 hl ry hy => by
      obtain ⟨vs, g1, g2⟩ := hl
      exact Evn.evd (Evn.to (n_catV (K := K) (ev_var h2) g1 g2 (n_listS (d_var h6 (tr_dp ry)) (.inr rfl)) (by simp; omega)) (by rw [List.map_append]))
    have hfail : ∀ {σ : L2.St} {H' : Hp} {y : List Sx} {v : V}, σ[1]? = some (some (.ref x)) → σ[2]? = some (some (.ref ph)) → σ[3]? = some (some (.ref pd)) → σ[6]? = some (some v) → SchAt K H' x sc → LA K H' ph (cs.map .str) → LA K H' pd (ds.map Deed.d) → Tr.r H' v y → y ∈ setsOf (poolOf cs) → Evd K (tCallR (sp_law_failure K) E0 (tCons (tVar 1) (tCons (tOp rCat (tVar 2) (tCB (fun xs H Q => ∃ p ys, xs = [V.ref p] ∧ (SqL K H p ys ∨ SqT K H p ys) ∧ ∀ l, H l = none → Q (.ref l) (upd H l (.lst ys))) (tCons (tVar 6) tNil))) (tCons (tVar 3) tNil)))) σ H' (failD (failW sc cs ds y)) := fun h1 h2 h3 h6 g1 g2 g3 ry hy =>
      d_call (a_consV (ev_var h1) (a_cons (hcat h2 h6 g2 ry (h9 _ hy)) (a_cons (d_var h3 g3.dp) a_nil))) fun H5 e5 => ⟨x, sc, _, cs ++ _, ds, rfl, g1.ex e5, .inl rfl, cs_app hk hy, hd, rfl⟩
    refine q_forLB (EvnR.to (n_callN (K := K) (R := Tr) (L := setsOf (poolOf cs)) (a_consV (ev_var (i := 4) rfl) a_nil) fun H3 e3 => ⟨l, poolOf cs, rfl, (hp1.ex e2).ex e3, rfl⟩) rfl)
      (fun σ' H' => ∃ z A late, σ' = [some (.ref D), some (.ref x), some (.ref ph), some (.ref pd), some (.ref l), some (.ref a), z, none, none, none, none, none, none, none, none, none, none] ∧ Ex H1 H' ∧ Late (failW sc cs ds) (setsOf (poolOf cs)) A late ∧ DTab K H' a (ftab (accOf (failW sc cs ds) A) ++ [(late, PyData.none)]))
      (fun σ' H' M => ?_) fun p vs H3 np e3 hp rp => ?_
    rotate_left
    · refine ⟨fun i σ' H' => ∃ z, σ' = [some (.ref D), some (.ref x), some (.ref ph), some (.ref pd), some (.ref l), some (.ref a), z, none, none, none, none, none, none, none, none, none, none] ∧ Ex H1 H' ∧ H' p = some (.lst vs) ∧ AllR Tr H' vs (setsOf (poolOf cs)) ∧ DTab K H' a (ftab (accOf (failW sc cs ds) ((setsOf (poolOf cs)).take i))) ∧ ∀ y ∈ (setsOf (poolOf cs)).take i, (failW sc cs ds y).isSome = true,
        ⟨none, rfl, e2.trans e3, hp, rp, hT0.ex e3, fun y hy => by rw [List.take_zero] at hy; cases hy⟩, fun i σ' H' ⟨_, _, _, h, _⟩ => h, fun i y v σ' H' E hy hv P hE hb => ?_, fun σ' H' P => ?_⟩
      · obtain ⟨z, rfl, eH, hp', rp', hT, hall⟩ := P
        obtain ⟨y', hy', ry⟩ := rp'.getV hv
        rw [hy] at hy'
        cases hy'
        have hym := List.mem_of_getElem? hy
        have hyl := (List.getElem?_eq_some_iff.mp hy).1
        have htk : (setsOf (poolOf cs)).take (i + 1) = (setsOf (poolOf cs)).take i ++ [y] := by rw [List.take_succ, hy] <;> rfl
        have hkeys : (ftab (accOf (failW sc cs ds) ((setsOf (poolOf cs)).take i))).map (·.1) = (setsOf (poolOf cs)).take i := by rw [ftab_keys, accOf_keys hall]
        have hnew : y ∉ (ftab (accOf (failW sc cs ds) ((setsOf (poolOf cs)).take i))).map (·.1) := by
          rw [hkeys]
          intro z
          have h2 : ((setsOf (poolOf cs)).take (i + 1)).Nodup := (List.take_sublist _ _).nodup hnd
          rw [htk] at h2
          exact (List.nodup_append.mp h2).2.2 y z y (List.mem_singleton.mpr rfl) rfl
        have hlen : (ftab (accOf (failW sc cs ds) ((setsOf (poolOf cs)).take i))).length ≤ 40000 := by
          rw [ftab_len, accOf_len hall, List.length_take]
          omega
        refine s_dputT (K := K) (k := y) (d := failD (failW sc cs ds y)) (t := ftab (accOf (failW sc cs ds) ((setsOf (poolOf cs)).take i))) (ev_var (i := 5) rfl) (r_var (i := 6) rfl ry) (hfail rfl rfl rfl rfl (hs.ex eH) (hh.ex eH) (hdl.ex eH) ry hym) hT hlen (imm_failD _) fun H7 H8 kvs us e7 h7 h8 hT8 => ?_
        subst h8
        rw [putT_new hnew] at hT8
        have eH8 : Ex H1 (upd H7 a (.dT us)) := (eH.trans e7).mut na
        have nt : ∀ ys, H7 a ≠ some (.tup ys) := fun ys z => by rw [h7] at z; cases z
        have ry8 : Tr.r (upd H7 a (.dT us)) v y := tr_upd (Tr.ex e7 ry) nt
        have hg : getT (ftab (accOf (failW sc cs ds) ((setsOf (poolOf cs)).take i)) ++ [(y, failD (failW sc cs ds y))]) y = some (failD (failW sc cs ds y)) := by
          rw [← putT_new hnew, getT_putT, if_pos rfl]
        have tst := t_test (d_isN (d_atT (K := K) (σ := [some (.ref D), some (.ref x), some (.ref ph), some (.ref pd), some (.ref l), some (.ref a), some v, none, none, none, none, none, none, none, none, none, none]) (ev_var (i := 5) rfl) (d_var (i := 6) rfl (tr_dp ry8)) hT8 hg))
        cases hF : failW sc cs ds y with
        | none =>
          rw [hF] at hT8
          refine s_when (b := true) (evt_to tst (by rw [hF]; rfl)) (fun _ H9 e9 => ?_) fun z => nomatch z
          refine hb _ _ ⟨_, (setsOf (poolOf cs)).take i, y, rfl, eH8.trans e9, ⟨⟨(setsOf (poolOf cs)).drop (i + 1), ?_⟩, hF, hall⟩, hT8.ex e9⟩
          have hdr : (setsOf (poolOf cs)).drop i = y :: (setsOf (poolOf cs)).drop (i + 1) := by
            obtain ⟨h1, h2⟩ := List.getElem?_eq_some_iff.mp hy
            rw [← h2]
            exact List.drop_eq_getElem_cons h1
          rw [← hdr, List.take_append_drop]
        | some f =>
          rw [hF] at hT8
          refine s_when (b := false) (evt_to tst (by rw [hF]; rfl)) (fun z => nomatch z) fun _ H9 e9 => ?_
          show E.nx _ _
          rw [hE]
          have hput : ftab (accOf (failW sc cs ds) ((setsOf (poolOf cs)).take (i + 1))) = ftab (accOf (failW sc cs ds) ((setsOf (poolOf cs)).take i)) ++ [(y, failD (some f))] := by
            rw [htk, accOf_app, accOf_cons hF, ftab_app]
            rfl
          refine ⟨_, rfl, eH8.trans e9, e9 _ _ ?_, (trs_upd (rp'.ex e7) nt).ex e9, by rw [hput]; exact hT8.ex e9, fun z hz => ?_⟩
          · have h' := e7 _ _ hp'
            rw [upd_ne (ne_of h' h7 (fun z => nomatch z))]
            exact h'
          · rw [htk] at hz
            rcases List.mem_append.mp hz with h | h
            · exact hall z h
            · rw [List.mem_singleton.mp h, hF]; rfl
      · exfalso
        obtain ⟨z, rfl, eH, hp', rp', hT, hall⟩ := P
        rw [List.take_length] at hall
        have h1 := hall _ (pool_mem hpool.2)
        have h2 : failW sc cs ds (poolOf cs) = none := by
          unfold failW
          rw [order_full]
          exact hsafe
        rw [h2] at h1
        cases h1
    -- behind the table
    obtain ⟨z, A, late, rfl, e3, hL, hT⟩ := M
    have hlateM : late ∈ setsOf (poolOf cs) := by
      obtain ⟨B, e⟩ := hL.eq
      rw [e]
      simp
    have hlate := sets_ok hpool hlateM
    have hl9 := h9 _ hlateM
    have hfsub : ∀ y ∈ fwr (setsOf (poolOf cs)) late, y ∈ setsOf (poolOf cs) := fun y hy => (List.mem_filter.mp hy).1
    have hfw := hL.some hsort
    have hAll : ∀ y ∈ A, y ∈ setsOf (poolOf cs) := fun y hy => by
      obtain ⟨B, e⟩ := hL.eq
      rw [e]
      exact List.mem_append_left _ hy
    have hAn : (A ++ [late]).Nodup := by
      obtain ⟨B, e⟩ := hL.eq
      have : (A ++ [late]) ++ B = setsOf (poolOf cs) := by rw [e, List.append_assoc]; rfl
      rw [← this] at hnd
      exact (List.nodup_append.mp hnd).1
    have hAl : A.length ≤ 512 := by
      obtain ⟨B, e⟩ := hL.eq
      have := congrArg List.length e
      rw [List.length_append] at this
      omega
    have hTk : ((ftab (accOf (failW sc cs ds) A) ++ [(late, PyData.none)]).map (·.1)) = A ++ [late] := by
      rw [List.map_append, ftab_keys, accOf_keys hL.fa]
      rfl
    have hTl : (ftab (accOf (failW sc cs ds) A) ++ [(late, PyData.none)]).length ≤ 40000 := by
      rw [List.length_append, ftab_len, accOf_len hL.fa]
      show A.length + 1 ≤ 40000
      omega
    refine q_asgE (r_ixL (R := Tr) (x := late) (n := -1) (EvnR.to (n_keysL (i := 5) rfl hT) hTk) (d_ev (ev_un ev_c fun H1 e Q q => ⟨1, rfl, q H1 (Ex.refl _)⟩) (.int _)) (by rw [atI_last]; simp)) fun vl H4 e4 rl => ?_
    -- repair
    have e34 := e3.trans e4
    refine q_asgRep (K := K) (a_consV (ev_var (i := 1) rfl) (a_cons (d_var (i := 2) rfl (hh.ex e34).dp) (a_cons (d_var (i := 3) rfl (hdl.ex e34).dp) a_nil))) (fun H5 e5 => ⟨x, sc, _, cs, _, ds, rfl, (hs.ex e34).ex e5, .inl rfl, hk, .inl rfl, hd, rfl⟩) fun vr H6 e46 hR => ?_
    rw [repair_of hL] at hR
    obtain ⟨pr, rfl, hR⟩ := hR
    have e06 := e34.trans e46
    have hT6 := (hT.ex e4).ex e46
    have rl6 := Tr.ex e46 rl
    -- due
    have hdueT : ((ftab (accOf (failW sc cs ds) A) ++ [(late, PyData.none)]).filter fun q => decide (q.1.length < late.length)).map (fun q => q) = ftab (accOf (failW sc cs ds) (fwr (setsOf (poolOf cs)) late)) := by
      rw [List.map_id', List.filter_append, ← hL.due hsort]
      have e1 : [(late, PyData.none)].filter (fun q => decide (q.1.length < late.length)) = [] := by simp
      rw [e1, List.append_nil]
      unfold ftab
      rw [List.filter_map]
      rfl
    refine q_asgLock (EvnR.to (n_lcKR (Ro := Pr K) (pp := fun q => decide (q.1.length < late.length)) (f := fun q => q) (fun H kvs od v x hf h => Pr.unlock hf h) (i := 5) rfl hT6 hTl (fun _ => rfl) fun H7 kvs od e7 h7 H8 v q hq e8 r8 hT8 => ⟨?_, fun hp => Pr.mk' (s := q.1) (d := q.2) (r_var (i := 6) rfl r8) (fun H9 e9 => d_atF (ev_var (i := 5) rfl) (d_var (i := 6) rfl (tr_dp (Tr.ex e9 r8))) (e9 _ _ (e8 _ _ upd_same)) (hT8.tk (Tk.of e9)) (getT_mem (by rw [hTk]; exact hAn) hq)) ?_⟩) hdueT) fun pdu vdu H7 ndu e7 hdu rdu => ?_
    · have rl8 : Tr.r H8 vl late := Tr.ex e8 (tr_upd (Tr.ex e7 rl6) fun ys z => by rw [h7] at z; cases z)
      exact evt_to (t_test (d_lt (d_lenS (ds := q.1.map .str) (d_var (i := 6) rfl (tr_dp r8)) (.inr rfl)) (d_lenS (ds := late.map .str) (d_var (i := 7) rfl (tr_dp rl8)) (.inr rfl)))) (by simp)
    · rcases List.mem_append.mp hq with h | h
      · exact ftab_imm _ q h
      · rw [List.mem_singleton.mp h]; rfl
    have e07 := e06.trans e7
    have hR7 := hR.ex e7
    have rl7 := Tr.ex e7 rl6
    have hdue7 : LR (Pr K) H7 pdu (ftab (accOf (failW sc cs ds) (fwr (setsOf (poolOf cs)) late))) := ⟨vdu, hdu, rdu⟩
    have shD : Sh 3 (.list ((ftab (accOf (failW sc cs ds) (fwr (setsOf (poolOf cs)) late))).map prD)) := sh_rows _ fun p hp => by
      have : p.1 ∈ (accOf (failW sc cs ds) (fwr (setsOf (poolOf cs)) late)).map (·.1) := List.mem_map.mpr ⟨p, hp, rfl⟩
      rw [accOf_keys hfw] at this
      exact sets_ok hpool (hfsub _ this)
    have hdueK : (accOf (failW sc cs ds) (fwr (setsOf (poolOf cs)) late)).map (·.1) = fwr (setsOf (poolOf cs)) late := accOf_keys hfw
    have hfn : (fwr (setsOf (poolOf cs)) late).Nodup := hnd.filter _
    have hfl : (fwr (setsOf (poolOf cs)) late).length ≤ 512 := Nat.le_trans (List.length_filter_le _ _) hsl
    generalize hdueG : accOf (failW sc cs ds) (fwr (setsOf (poolOf cs)) late) = due at *
    have hdl7 : due.length ≤ 512 := by rw [← List.length_map (f := (·.1)), hdueK]; exact hfl
    have shL := sh_set hlate.1
    refine q_when (b := false) (et_or (a := false) (b := false) (evt_to (t_test (d_ne (K := K) (d := setD late) (by
      obtain ⟨dx, va, da, g1, g2, g3⟩ := hR7
      exact d_fldG (ev_var (i := 8) rfl) g1 c (na_Repair_added T) (by rfl) g2) (d_var (i := 7) rfl (tr_dp rl7)) shL.ok shL.ok)) (by rw [eqv_sh shL]; rfl)) fun _ => evt_to (t_test (d_ne (K := K) (d := .list ((ftab due).map prD)) (by
      obtain ⟨dx, va, da, g1, g2, g3⟩ := hR7
      exact d_itemsL (v_fldG (ev_var (i := 8) rfl) g1 c (na_Repair_doubts T) (by rfl)) g3) (d_var (i := 9) rfl (.lst (sq_of hdu) (rdu.dp fun v x h => Pr.dp h))) shD.ok shD.ok)) (by rw [eqv_sh shD]; rfl)) (fun z => nomatch z) fun _ H8 e8 => ?_
    have e08 := e07.trans e8
    refine q_when (b := false) (evt_to (t_test (d_notTrue (d_showsR (K := K) (to := tVar 8) (added := late) (ft := due) (fun H9 e9 Q kq => ⟨_, rfl, kq _ _ (Ex.refl _) ((hR7.ex e8).ex e9)⟩) (ev_var (i := 1) rfl) (d_tupL (d_var (i := 2) rfl (hh.ex e08).dp)) (d_var (i := 3) rfl (hdl.ex e08).dp) hlate (hs.ex e08) (.inr rfl) hk (.inl rfl) hd))) (by rw [shows_eq, ← hdueG, hL.shows hsort]; rfl)) (fun z => nomatch z) fun _ H9 e9 => ?_
    have e79 := e8.trans e9
    have e09 := e08.trans e9
    -- doubts
    have hrevK : ((ftab due).reverse.map (·.1)).Nodup := by
      rw [List.map_reverse, ftab_keys, hdueK]
      exact List.pairwise_reverse.mpr (hfn.imp fun h => h.symm)
    have hrevL : (ftab due).reverse.length ≤ 40000 := by
      rw [List.length_reverse, ftab_len]
      omega
    refine q_asgT (t_dictT (n_revL (K := K) (ev_var (i := 9) rfl) (hdue7.ex e79)) hrevK hrevL) fun ad H10 nad e10 hTd => ?_
    have e010 := e09.trans e10
    have rl10 := Tr.ex (e79.trans e10) rl7
    have hshR : ∀ {σ : L2.St} {H' : Hp} {t1 : TE} {y : List Sx} {ft : FTab} {j : Nat} {ad : Addr}, σ[1]? = some (some (.ref x)) → σ[2]? = some (some (.ref ph)) → σ[3]? = some (some (.ref pd)) → σ[j]? = some (some (.ref ad)) → SchAt K H' x sc → LA K H' ph (cs.map .str) → LA K H' pd (ds.map Deed.d) → Evd K t1 σ H' (setD y) → CaresOk y → DTab K H' ad (ftab ft) → (ft.map (·.1)).Nodup → ft.length ≤ 40000 →
        Evd K (tMethR (He.ga K "Repair") "shows" (sp_shows K) E0 (tMake (He.ga K "Repair") (sp_rinit K) [] E0 (tCons t1 (tCons (tVar j) tNil))) (tCons (tVar 1) (tCons (tVar 2) (tCons (tVar 3) tNil)))) σ H' (.bool (showsOf sc cs ds y ft)) := fun h1 h2 h3 hj g1 g2 g3 hv hy hT hn hz =>
      d_showsR (e_makeRV hv (ev_var hj) hT (by rw [ftab_keys]; exact hn) (by rw [ftab_len]; exact hz)) (ev_var h1) (d_var h2 g2.dp) (d_var h3 g3.dp) hy g1 (.inl rfl) hk (.inl rfl) hd
    rw [← ftab_rev] at hTd
    have hrn : (due.reverse.map (·.1)).Nodup := by
      rw [List.map_reverse, hdueK]
      exact List.pairwise_reverse.mpr (hfn.imp fun h => h.symm)
    have hrl : due.reverse.length ≤ 40000 := by rw [List.length_reverse]; omega
    refine q_when (b := false) (et_not (a := true) (evt_to (t_B (hshR (j := 10) (ft := due.reverse) rfl rfl rfl rfl (hs.ex e010) (hh.ex e010) (hdl.ex e010) (d_var (i := 7) rfl (tr_dp rl10)) hlate hTd hrn hrl)) (by rw [shows_eq, ← hdueG, hL.shows_rev hsort]))) (fun z => nomatch z) fun _ H11 e11 => ?_
    have e011 := e010.trans e11
    -- every
    have rl11 := Tr.ex e11 rl10
    refine q_asgR (EvnR.to (n_lcR (Ri := Tr) (Ro := Tr) (xs := setsOf (poolOf cs)) (p := fun s => decide (s.length ≤ late.length)) (f := fun s => s) (srcR_evn (K := K) (n_callN (a_consV (ev_var (i := 4) rfl) a_nil) fun H12 e12 => ⟨l, poolOf cs, rfl, (hp1.ex e011).ex e12, rfl⟩)) (fun _ => rfl) (by omega) fun y hy v H12 e12 r => ⟨evt_to (t_test (d_le (d_lenS (ds := y.map .str) (d_var (i := 15) rfl (tr_dp r)) (.inr rfl)) (d_lenS (ds := late.map .str) (d_var (i := 7) rfl (tr_dp (Tr.ex e12 rl11))) (.inr rfl)))) (by simp), fun _ => r_var rfl r⟩) (List.map_id' _)) fun pe ve H12 ne' e12 he re => ?_
    have e012 := e011.trans e12
    have hD12 := hD.ex e012
    obtain ⟨xsD, hDc⟩ := hD12.cell
    have hpe : pe ≠ D := fun z => by
      obtain ⟨ys, hy⟩ := (hD.ex e011).cell
      rw [z, hy] at ne'
      cases ne'
    have hnd' : pdu ≠ D := fun z => by
      obtain ⟨ys, hy⟩ := (hD.ex e06).cell
      rw [z, hy] at ndu
      cases ndu
    have hlm : late ∈ (setsOf (poolOf cs)).filter fun s => decide (s.length ≤ late.length) := List.mem_filter.mpr ⟨hlateM, by simp⟩
    refine q_pickRV (K := K) (j := 0) (i := 11) rfl rfl ⟨ve, he, re⟩ hpe (fun z => by rw [z] at hlm; cases hlm) hD12 fun vy y H13 hy ry0 u13 => ?_
    have hyM := (List.mem_filter.mp hy).1
    have hyl : y.length ≤ late.length := by simpa using (List.mem_filter.mp hy).2
    have hyC := sets_ok hpool hyM
    have hD13 := hD12.up u13
    have hs13 := (hs.ex e012).up u13 hD12
    have hh13 := (hh.ex e012).up u13 nh (imm_strs cs)
    have hdl13 := (hdl.ex e012).up u13 nd (immD ds)
    have rl13 := Tr.upU (Tr.ex e12 rl11) u13 hDc
    have ry13 := Tr.upU ry0 u13 hDc
    have hTd13 := DTab.upU ((hTd.ex e11).ex e12) u13 hDc
    have hdu13 : LR (Pr K) H13 pdu (ftab due) := LR.upU (hdue7.ex (e79.trans (e10.trans (e11.trans e12)))) (fun v x h => Pr.upU h u13 hDc) u13 hnd'
    have u013 : Up D H1 H13 := (Up.of e012).trans u13
    -- the failure of the picked
    refine q_asgD (hfail rfl rfl rfl rfl hs13 hh13 hdl13 ry13 hyM) fun vf H14 e14 rf => ?_
    refine q_asgD (d_and (d_eqInt (d_lenS (ds := y.map .str) (d_var (i := 6) rfl (tr_dp (Tr.ex e14 ry13))) (.inr rfl)) (d_lenS (ds := late.map .str) (d_var (i := 7) rfl (tr_dp (Tr.ex e14 rl13))) (.inr rfl))) fun _ => d_isN (d_var (i := 12) rfl rf)) fun vi H15 e15 ri => ?_
    have e1315 := e14.trans e15
    have hiB : (decide (((y.map PyData.str).length : Int) = ((late.map PyData.str).length : Int)) && isNonP (failD (failW sc cs ds y))) = showsOf sc cs ds y due.reverse := by
      rw [shows_eq, ← hdueG, hL.picked hsort hyM hyl]
      congr 1
      · rw [List.length_map, List.length_map]
        exact decide_eq_decide.mpr ⟨fun h => by omega, fun h => by omega⟩
      · cases failW sc cs ds y <;> rfl
    rw [hiB] at ri
    refine q_when (b := false) (evt_to (t_test (d_neS (hshR (j := 10) (ft := due.reverse) rfl rfl rfl rfl (hs13.ex e1315) (hh13.ex e1315) (hdl13.ex e1315) (d_var (i := 6) rfl (tr_dp (Tr.ex e1315 ry13))) hyC (hTd13.ex e1315) hrn hrl) (d_var (i := 13) rfl ri) rfl)) (by rw [eqv_sh (Sh.bool)]; rfl)) (fun z => nomatch z) fun _ H16 e16 => ?_
    have e1316 := e1315.trans e16
    have hTd16 := hTd13.ex e1316
    have u016 := u013.ex e1316
    have tst0 := t_test (d_eqEmpty (K := K) (σ := [some (.ref D), some (.ref x), some (.ref ph), some (.ref pd), some (.ref l), some (.ref a), some vy, some vl, some (.ref pr), some (.ref pdu), some (.ref ad), some (.ref pe), some vf, some vi, none, none, none]) (i := 10) rfl hTd16)
    rw [ftab_len, List.length_reverse] at tst0
    have rl16 := Tr.ex e1316 rl13
    have hs16 := hs13.ex e1316
    have hh16 := hh13.ex e1316
    have hdl16 := hdl13.ex e1316
    cases hz : decide (due.length = 0) with
    | true =>
      rw [hz] at tst0
      have hz' : due = [] := List.length_eq_zero_iff.mp (of_decide_eq_true hz)
      refine q_when (b := true) tst0 (fun _ H17 e17 => ?_) fun z => nomatch z
      have hone : ftab [(late, ⟨.again, 0⟩)] = [(late, PyData.tuple [.str "again", .int 0])] := rfl
      refine s_retD (K := K) (Evd.to (d_not (d_showsR (K := K) (added := late) (ft := [(late, ⟨.again, 0⟩)]) (cs := cs) (ds := ds) (s := sc) (e_makeRT (K := K) (x := late) (d_var (i := 7) rfl (tr_dp (Tr.ex e17 rl16))) (t_dictT (K := K) (qs := ftab [(late, ⟨.again, 0⟩)]) (nr_one (Pr.mk' (s := late) (d := .tuple [.str "again", .int 0]) (r_var (i := 7) rfl (Tr.ex e17 rl16)) (fun H18 e18 => d_tup (e_cons d_str (e_cons d_int e_nil))) rfl)) (by simp [ftab]) (by simp [ftab])) (by simp [ftab]) (by simp [ftab])) (ev_var (i := 1) rfl) (d_var (i := 2) rfl (hh16.ex e17).dp) (d_var (i := 3) rfl (hdl16.ex e17).dp) hlate (hs16.ex e17) (.inl rfl) hk (.inl rfl) hd)) (d := _) (e := .bool true) ?_) fun v H18 e18 r => ?_
      · rw [shows_eq, hL.none_due hsort (by rw [hdueG]; exact hz')]
        rfl
      · rw [r.blV]
        exact k _ (u016.ex (e17.trans e18))
    | false =>
      rw [hz] at tst0
      have hz' : due ≠ [] := fun z => of_decide_eq_false hz (by rw [z]; rfl)
      refine q_when (b := false) tst0 (fun z => nomatch z) fun _ H17 e17 => ?_
      have hD17 := hD13.ex (e1316.trans e17)
      refine q_pickR (K := K) (p := ad) (j := 0) rfl (n_keysL (i := 10) rfl (hTd16.ex e17)) (fun z => ?_) hD17 fun vy2 y2 H18 H19 hy2 e18 ry18 hD18 u19 => ?_
      · rw [ftab_keys, List.map_reverse, List.reverse_eq_nil_iff, List.map_eq_nil_iff] at z
        exact hz' z
      have hy2F : y2 ∈ fwr (setsOf (poolOf cs)) late := by
        rw [ftab_keys, List.map_reverse, List.mem_reverse, hdueK] at hy2
        exact hy2
      obtain ⟨xs18, hc18⟩ := hD18.cell
      have e1618 := e17.trans e18
      have u019 : Up D H1 H19 := (u016.ex e1618).trans u19
      have hs19 := (hs16.ex e1618).up u19 hD18
      have hh19 := (hh16.ex e1618).up u19 nh (imm_strs cs)
      have hdl19 := (hdl16.ex e1618).up u19 nd (immD ds)
      have rl19 := Tr.upU (Tr.ex e1618 rl16) u19 hc18
      have ry19 := Tr.upU ry18 u19 hc18
      have hTd19 := DTab.upU (hTd16.ex e1618) u19 hc18
      have hdu19 : LR (Pr K) H19 pdu (ftab due) := LR.upU (hdu13.ex (e1316.trans e1618)) (fun v x h => Pr.upU h u19 hc18) u19 hnd'
      obtain ⟨f, hf⟩ := Option.isSome_iff_exists.mp (hfw y2 hy2F)
      have hgf : getF due y2 = some f := by rw [← hdueG, getF_acc hy2F, hf]
      have hgT : getT (ftab due) y2 = some f.d := by rw [getT_ftab, hgf]; rfl
      -- bent
      refine q_asgT (t_dictTV (K := K) (i := 9) rfl hdu19 (by rw [ftab_keys, hdueK]; exact hfn) (by rw [ftab_len]; omega)) fun ab H20 nab e20 hTb => ?_
      have hnab : H1 ab = none := u019.back hD nab
      have u020 := u019.ex e20
      have hadn : ad ≠ ab := fun z => by
        obtain ⟨kvs, g1, _⟩ := hTd19
        rw [z, nab] at g1
        cases g1
      have hix : ∀ {j : Int} {d : PD}, atI [PyData.str f.w.s, .int f.k] j = some d → ∀ {tb : TE} {H' : Hp}, Ex H20 H' → Evd K tb [some (.ref D), some (.ref x), some (.ref ph), some (.ref pd), some (.ref l), some (.ref a), some vy2, some vl, some (.ref pr), some (.ref pdu), some (.ref ad), some (.ref pe), some vf, some vi, some (.ref ab), none, none] H' (.int j) → Evd K (tOp (rIxT K) (tDGetS K (tVar 14) (tVar 6)) tb) [some (.ref D), some (.ref x), some (.ref ph), some (.ref pd), some (.ref l), some (.ref a), some vy2, some vl, some (.ref pr), some (.ref pdu), some (.ref ad), some (.ref pe), some vf, some vi, some (.ref ab), none, none] H' d := fun hat _ _ e' hb =>
        d_ixT (ds := [.str f.w.s, .int f.k]) (d_atT (d := f.d) (ev_var (i := 14) rfl) (d_var (i := 6) rfl (tr_dp (Tr.ex (e20.trans e') ry19))) (hTb.ex e') hgT) hb hat
      refine s_dputT (K := K) (k := y2) (d := Fail.d ⟨f.w, f.k + 1⟩) (t := ftab due) (ev_var (i := 14) rfl) (r_var (i := 6) rfl (Tr.ex e20 ry19)) (d_tup (e_cons (hix (j := 0) rfl (Ex.refl _) d_int) (e_cons (d_add (hix (j := 1) rfl (Ex.refl _) d_int) d_int) e_nil))) hTb (by rw [ftab_len]; omega) (imm_failD (some ⟨f.w, f.k + 1⟩)) fun H21 H22 kvs us e21 h21 h22 hT22 => ?_
      subst h22
      rw [ftab_put] at hT22
      have u022 : Up D H1 (upd H21 ab (.dT us)) := (u020.ex e21).mutT hnab h21
      have U : Up ab H21 (upd H21 ab (.dT us)) := Up.dT h21
      have e1921 := e20.trans e21
      have hs22 := (hs19.ex e1921).upT U h21
      have hh22 := (hh19.ex e1921).upT U h21 (imm_strs cs)
      have hdl22 := (hdl19.ex e1921).upT U h21 (immD ds)
      have rl22 := Tr.upT (Tr.ex e1921 rl19) U h21
      have ry22 := Tr.upT (Tr.ex e1921 ry19) U h21
      have hTd22 := (hTd19.ex e1921).upT U hadn
      -- pop
      have hgr : getT (ftab due.reverse) y2 = some f.d := by
        rw [getT_ftab, ← hdueG, ← accOf_rev, getF_acc (List.mem_reverse.mpr hy2F), hf]
        rfl
      have hnad : H1 ad = none := by
        have : H9 ad = none := nad
        exact fresh_back e09 this
      refine q_popT (K := K) (i := 10) (j := 6) rfl rfl hTd22 ry22 hgr fun kvs2 us2 h23 hT23 => ?_
      rw [ftab_drop] at hT23
      have V : Up ad (upd H21 ab (.dT us)) (upd (upd H21 ab (.dT us)) ad (.dT us2)) := Up.dT h23
      have u023 : Up D H1 (upd (upd H21 ab (.dT us)) ad (.dT us2)) := u022.mutT hnad h23
      have hs23 := hs22.upT V h23
      have hh23 := hh22.upT V h23 (imm_strs cs)
      have hdl23 := hdl22.upT V h23 (immD ds)
      have rl23 := Tr.upT rl22 V h23
      have hTb23 := hT22.upT V hadn.symm
      have hfr : ((due.reverse.filter fun p => decide (p.1 ≠ y2)).map (·.1)).Nodup := hrn.sublist ((List.filter_sublist).map _)
      refine q_when (b := false) (evt_to (t_B (hshR (j := 10) (ft := due.reverse.filter fun p => decide (p.1 ≠ y2)) rfl rfl rfl rfl hs23 hh23 hdl23 (d_var (i := 7) rfl (tr_dp rl23)) hlate hT23 hfr (Nat.le_trans (List.length_filter_le _ _) hrl))) (by rw [shows_eq, ← hdueG, hL.popped hsort hy2F])) (fun z => nomatch z) fun _ H24 e24 => ?_
      have hkp : (putFT due y2 ⟨f.w, f.k + 1⟩).map (·.1) = due.map (·.1) := by
        have ha : (due.any fun p => decide (p.1 = y2)) = true := by
          rw [List.any_eq_true]
          have : y2 ∈ due.map (·.1) := by rw [hdueK]; exact hy2F
          obtain ⟨p, hp, he⟩ := List.mem_map.mp this
          exact ⟨p, hp, decide_eq_true he⟩
        unfold putFT
        rw [if_pos ha, List.map_map]
        refine List.map_congr_left fun p _ => ?_
        show (if p.1 = y2 then (p.1, _) else p).1 = p.1
        split <;> rfl
      have hbn : ((putFT due y2 ⟨f.w, f.k + 1⟩).map (·.1)).Nodup := by rw [hkp, hdueK]; exact hfn
      have hbl : (putFT due y2 ⟨f.w, f.k + 1⟩).length ≤ 40000 := by
        have := congrArg List.length hkp
        rw [List.length_map, List.length_map] at this
        omega
      refine s_retD (K := K) (Evd.to (d_not (hshR (j := 14) (ft := putFT due y2 ⟨f.w, f.k + 1⟩) rfl rfl rfl rfl (hs23.ex e24) (hh23.ex e24) (hdl23.ex e24) (d_var (i := 7) rfl (tr_dp (Tr.ex e24 rl23))) hlate (hTb23.ex e24) hbn hbl)) (d := _) (e := .bool true) ?_) fun v H25 e25 r => ?_
      · rw [shows_eq, hL.bent hy2F hf (fun z => by
          have z2 := congrArg Fail.k z
          have z2 : f.k + 1 = f.k := z2
          omega)]
        rfl
      · rw [r.blV]
        exact k _ (u023.ex (e24.trans e25))
end
end Sc


/-! Sc34: the law. -/
namespace Sc
open PySem PySem.Spec PyProof.Rows L2 Evl
theorem sh_ans (l : List Ans) : Sh 2 (.list (l.map Ans.d)) := Sh.lst fun d hd => by
  obtain ⟨a, _, rfl⟩ := List.mem_map.mp hd
  cases a with
  | no => exact (Sh.str (by decide +kernel)).mono (by decide)
  | of f =>
    cases f with
    | none => exact Sh.none.mono (by decide)
    | some f => exact sh_fail f
theorem likely_ok {n : Nat} {ds : List Deed} (h : Likely n ds) : ∀ d ∈ ds, deedOk s2 d := by
  have k5 : ∀ l ∈ likely5, ∀ d ∈ l, deedOk s2 d := by
    intro l hl d hd
    simp only [likely5, List.mem_cons, List.not_mem_nil, or_false] at hl
    rcases hl with rfl | rfl | rfl | rfl | rfl <;> (simp only [List.mem_cons, List.not_mem_nil, or_false] at hd; rcases hd with rfl | rfl | rfl | rfl | rfl | rfl <;> first | trivial | (show _ ∈ [Ed.up]; simp) | (show (_ : Nat) < 2; decide))
  have k7 : ∀ d ∈ extra7, deedOk s2 d := by
    intro d hd
    simp only [extra7, List.mem_cons, List.not_mem_nil, or_false] at hd
    rcases hd with rfl | rfl | rfl | rfl | rfl | rfl | rfl <;> first | trivial | (show _ ∈ [Ed.up]; simp) | (show (_ : Nat) < 2; decide)
  induction h with
  | base h => exact k5 _ h
  | ins h hd ih =>
    intro d hm
    rcases List.mem_append.mp hm with hm | hm
    · rcases List.mem_append.mp hm with hm | hm
      · exact ih d (List.mem_of_mem_take hm)
      · rw [List.mem_singleton.mp hm]
        exact k7 _ hd
    · exact ih d (List.mem_of_mem_drop hm)
theorem likely_dsok {n : Nat} {ds : List Deed} (h : Likely n ds) (hn : n ≤ 3) : DsOk s2 ds := ⟨by have := h.len; omega, likely_ok h⟩
section
variable {K : PySem.W.Frag} {σ : L2.St} {H H1 H2 : Hp} {D p : Addr} {ds : List PD} {tu tz : TS} {E : Ends} {j : Nat} {ta : TA}
theorem ev_min2' {t1 t2 : TE} {i j : Int} (h1 : Ev t1 σ H (.int i)) (h2 : Ev t2 σ H (.int j)) : Ev (tCB (fun xs H Q => ∃ i j, xs = [V.int i, .int j] ∧ Q (.int (if j < i then j else i)) H) (tCons t1 (tCons t2 tNil))) σ H (.int (if j < i then j else i)) := fun H1 e Q q => h1 H1 e _ fun H2 e2 => h2 H2 (e.trans e2) _ fun H3 e3 => ⟨i, j, rfl, q H3 (e2.trans e3)⟩
theorem ev_max2' {t1 t2 : TE} {i j : Int} (h1 : Ev t1 σ H (.int i)) (h2 : Ev t2 σ H (.int j)) : Ev (tCB (fun xs H Q => ∃ i j, xs = [V.int i, .int j] ∧ Q (.int (if j > i then j else i)) H) (tCons t1 (tCons t2 tNil))) σ H (.int (if j > i then j else i)) := fun H1 e Q q => h1 H1 e _ fun H2 e2 => h2 H2 (e.trans e2) _ fun H3 e3 => ⟨i, j, rfl, q H3 (e2.trans e3)⟩
theorem LA.mn {xs : List V} (h : LA K H p ds) (n : p ≠ D) (hD : H D = some (.lst xs)) (hI : ImmAll ds = true) : LA K (mn H D) p ds := by
  obtain ⟨vs, h1, h2⟩ := h
  refine ⟨vs, ?_, h2.tk (mn_tk hD) hI⟩
  unfold Sc.mn
  rw [if_neg n]
  exact h1
theorem Up.fresh (e : Ex H H1) (n : H D = none) (u : Up D H1 H2) : Ex H H2 := fun a o h => u.exA a o (fun z => by rw [z, n] at h; cases h) (e a o h)
theorem ex_mn {o : HO} (n : H D = none) : Ex H (mn (upd H D o) D) := fun a u h => by
  rw [mn_upd]
  unfold Sc.mn
  rw [if_neg (fun z => by rw [z, n] at h; cases h)]
  exact h
theorem q_true (h : tz E σ H) : ∃ b, V.bl true = V.bl b ∧ (if (!b) = true then tu { E with nx := tz E } σ H else tNext { E with nx := tz E } σ H) := ⟨true, rfl, h⟩
theorem s_true (h : E.nx σ H) : ∃ b, V.bl true = V.bl b ∧ (if (!b) = true then tu E σ H else tNext E σ H) := ⟨true, rfl, h⟩
theorem q_forC {n : Nat} {lo hi c : Int} (hv : ∀ Q : List V → Hp → Prop, (∀ H2, Ex H H2 → Q [.int lo, .int hi, .int c] H2) → ta σ H Q) (hr : RgC lo hi c n) (Pv : Nat → L2.St → Hp → Prop) (p0 : ∀ H2, Ex H H2 → Pv 0 σ H2)
    (pt : ∀ i σ' H', i < n → Pv i σ' H' → tu { E with nx := Pv (i + 1), ct := Pv (i + 1), bk := tz E } (σ'.set j (some (.int (lo + (i : Nat) * c)))) H') (pd : ∀ σ' H', Pv n σ' H' → tz E σ' H') : tSeq (tFor (iRng3 ta) (gName j) tu) tz E σ H := by
  unfold tSeq tFor
  refine hv _ fun H2 e2 => ⟨lo, hi, c, n, rfl, hr, for_it (D := { E with nx := tz E }) walk_rangeC Pv (p0 H2 e2) (fun _ _ _ _ _ => trivial) (fun i x σ' H' H'' hi P Y => ?_) fun σ' H' P => pd σ' H' P⟩
  obtain ⟨rfl, rfl⟩ := Y
  exact pt i σ' _ hi P
end
theorem q_makeS2 {K : PySem.W.Frag} {σ : L2.St} {H : Hp} {tz : TS} {E : Ends} {i : Nat} (k : ∀ p H', Ex H H' → H p = none → SchAt K H' p s2 → tz E (σ.set i (some (.ref p))) H') :
    tSeq (tAsg (tMakeK (He.ga K "Scheme") 1 7 (sp_sinit K) (fun vs zs => vs ++ zs) E0 (tCons (tTup (tCons (tC (.str "up")) tNil)) tNil) (tCons (tC (.int 2)) (tCons (tC (.int 2)) (tCons (tC (.bl true)) (tCons (tC (.bl true)) (tCons (tC (.bl true)) (tCons (tC (.bl true)) (tCons (tC (.bl true)) tNil)))))))) (gName i)) tz E σ H := by
  unfold tSeq tAsg
  exact e_makeS (K := K) (s := s2) (fun H7 e7 => Evd.to (d_tup (ds := [.str "up"]) (e_cons d_str e_nil)) rfl) d_int d_int d_bl d_bl d_bl d_bl d_bl ⟨.inl rfl, .inr rfl, .inr rfl⟩ _ k
theorem rg12 {j : Int} (h1 : 1 ≤ j) (h2 : j ≤ 12) : ∃ n, RgC 0 j 4 n := by
  have : j = 1 ∨ j = 2 ∨ j = 3 ∨ j = 4 ∨ j = 5 ∨ j = 6 ∨ j = 7 ∨ j = 8 ∨ j = 9 ∨ j = 10 ∨ j = 11 ∨ j = 12 := by omega
  rcases this with rfl | rfl | rfl | rfl | rfl | rfl | rfl | rfl | rfl | rfl | rfl | rfl <;> first | exact ⟨1, by decide, by decide, by decide, by decide⟩ | exact ⟨2, by decide, by decide, by decide, by decide⟩ | exact ⟨3, by decide, by decide, by decide, by decide⟩
def sp_law (K : PySem.W.Frag) : Sp := fun vs H Q _ => ∃ (a : Addr) (ns : List Int), vs = [.ref a] ∧ SqL K H a (ns.map V.int) ∧ ∀ H', Q (.bl true) H'
section
variable {P : Program} {w : World} {K : PySem.W.Frag} {mg : PySem.Str → Option Value} {base : Heap}
abbrev nm_law : List PySem.Str := ["_law_script", "_law_by", "_law_draw_here", "_law_scheme_here", "_law_held", "_law_deeds_here", "_law_some", "_law_likely_here", "_law_less", "_law_care"]
theorem sc_law : FnScope nm_law ["_law_script"] (defScope s_law) := ⟨rfl, rfl, rfl, by decide +kernel, rfl, by decide +kernel, by decide +kernel⟩
theorem ok_law (T : Tx K mg) {fd : FuncData} (F : FunD K "law" "law" (defArgs s_law) (defBody s_law) (defScope s_law) [] [] (He.ga K "law") fd) : FnOk P w K mg base CX0 11 (He.ga K "law") fd ["_law_script"] (sp_law K) := by
  refine F.ok (k := 10) (N := nm_law) (ps := ["_law_script"]) sc_law (fun vs H Q E h => ?_) (fun cdv A outer s H vs Q E hr h => ?_)
  · obtain ⟨a, ns, rfl, _⟩ := h
    rfl
  · obtain ⟨a, ns, rfl, hS, k⟩ := h
    obtain ⟨fdS, Fs, mvS, Bs⟩ := ok_sinit (P := P) (w := w) (base := base) T
    refine ⟨_, PSs.nox (pss_cons (ps_for PassesOwn.never rfl (pi_range3 rfl (fr_range T) (pa_cons pe_int (pa_cons (pe_callB (call_max2 rfl) (by rfl) (fr_max T) (by decide +kernel) (pa_cons pe_int (pa_cons (pe_callB (call_min2 rfl) (by rfl) (fr_min T) (by decide +kernel) (pa_cons pe_int (pa_cons (pe_callB (call_lenK (K := K) rfl) (by rfl) (fr_len T) (by decide +kernel) (pa_cons (pv 0) pa_nil)) pa_nil))) pa_nil))) (pa_cons pe_int pa_nil)))) (pg_name (i := 1) sc_law.nd rfl (Or.inl rfl)) (pss_cons (ps_set (i := 2) sc_law.nd rfl (Or.inl rfl) (pe_lst (pa_cons (pv 0) (pa_cons (pv 1) (pa_cons pe_int pa_nil)))))
      (pss_cons (ps_par (i := 3) (j := 4) rfl sc_law.nd rfl rfl (by decide) rfl rfl (pa_cons (pe_cR (ok__law_scheme T) hr (by rfl) (pa_cons (pv 2) pa_nil)) (pa_cons (pe_cR (ok__law_cares T) hr (by rfl) (pa_cons (pv 2) pa_nil)) pa_nil)) (by rfl))
      (pss_cons (ps_set (i := 5) sc_law.nd rfl (Or.inl rfl) (pe_cR (ok__law_deeds T) hr (by rfl) (pa_cons (pv 2) (pa_cons (pv 3) (pa_cons (pv 4) (pa_cons (pe_op op_add pe_int (pe_cR (ok__law_next T) hr (by rfl) (pa_cons (pv 2) (pa_cons pe_int pa_nil)))) pa_nil))))))
      (pss_cons (ps_if (pt_cmpR (op_neK (K := K) rfl hr.units) (pe_cR (ok_answers T) hr (by rfl) (pa_cons (pv 3) (pa_cons (pv 4) (pa_cons (pv 5) pa_nil)))) (pe_cR (ok__law_answers T) hr (by rfl) (pa_cons (pv 3) (pa_cons (pv 4) (pa_cons (pv 5) pa_nil)))) (nomark _)) (pss_one (ps_ret pe_bl)) pss_nil)
      (pss_cons (ps_set (i := 6) sc_law.nd rfl (Or.inl rfl) (pe_makeK (n := 1) (mk_Scheme T) Fs (hr.mono (by decide)) (by rfl) (gl_Scheme T) Bs pass0 (pa_cons (pe_tup (pa_cons pe_str pa_nil)) pa_nil) (pk_cons pe_int (pk_cons pe_int (pk_cons pe_bl (pk_cons pe_bl (pk_cons pe_bl (pk_cons pe_bl (pk_cons pe_bl pk_nil)))))))))
      (pss_cons (ps_set (i := 7) sc_law.nd rfl (Or.inl rfl) (pe_cR (ok__law_likely T) hr (by rfl) (pa_cons (pv 2) pa_nil)))
      (pss_cons (ps_if (PW.pt (pw_and (pt_cmpR op_eq (pv 1) pe_int (nomark _)) (pw_and1 (pt_not (pt_val (pe_cR (ok__law_sets_right T) hr (by rfl) (pa_cons (pv 6) (pa_cons (pv 7) pa_nil)))))))) (pss_one (ps_ret pe_bl)) pss_nil)
      (pss_cons (ps_if (pt_not (pt_val (pe_cR (ok__law_repair_right T) hr (by rfl) (pa_cons (pv 2) (pa_cons (pv 6) (pa_cons (pv 4) (pa_cons (pv 7) pa_nil))))))) (pss_one (ps_ret pe_bl)) pss_nil)
      (pss_cons (ps_setLc (i := 8) (own := [("_law_care", 9)]) rfl sc_law.nd rfl rfl (sw_true rfl rfl rfl (by decide +kernel)) (pi_listK (K := K) rfl (pv 4)) (blkOk_by (own := [("_law_care", 9)]) (N := nm_law) (sc := defScope s_law) (by decide +kernel)) (fun _ _ _ _ _ => (pg_name (i := 9) sc_law.nd rfl (Or.inl rfl))) (fun _ _ _ _ _ => (pts_one (pt_cmpR (op_ninK (K := K) rfl) (pv 9) (pe_tup (pa_cons pe_str (pa_cons pe_str pa_nil))) (by rfl)))) (fun _ _ _ _ _ => (pv 9)))
      (pss_one (ps_if (pt_not (pt_val (pe_cR (ok__law_repair_right T) hr (by rfl) (pa_cons (pv 2) (pa_cons (pv 6) (pa_cons (pv 8) (pa_cons (pv 7) pa_nil))))))) (pss_one (ps_ret pe_bl)) pss_nil))))))))))))
      (pss_one (ps_ret pe_bl))), ?_⟩
    have rs : Dp K H (.ref a) (.list (ns.map .int)) := .lst hS (by
      have go : ∀ l : List Int, DpAll K H (l.map V.int) (l.map .int) := by
        intro l
        induction l with
        | nil => exact .nil
        | cons x r ih => exact .cons (.int x) ih
      exact go ns)
    have elen := (d_lenS (K := K) (σ := start nm_law [V.ref a]) (H := H) (ds := ns.map .int) (d_var (i := 0) rfl rs) (.inl rfl)).int
    have emin := ev_min2' (ev_c (σ := start nm_law [V.ref a]) (H := H) (v := .int 12)) elen
    obtain ⟨n, hr⟩ := rg12 (j := if (if ((ns.map PyData.int).length : Int) < 12 then ((ns.map PyData.int).length : Int) else 12) > 1 then (if ((ns.map PyData.int).length : Int) < 12 then ((ns.map PyData.int).length : Int) else 12) else 1) (by split <;> omega) (by split <;> (try split) <;> omega)
    refine q_forC (fun Q q => (ev_max2' (i := 1) ev_c emin) H (Ex.refl _) (fun y H2 => Q [.int 0, y, .int 4] H2) fun H2 e2 => q H2 e2) hr (fun i σ' H' => ∃ z1 z2 z3 z4 z5 z6 z7 z8 z9, σ' = [some (.ref a), z1, z2, z3, z4, z5, z6, z7, z8, z9] ∧ Ex H H') (fun H2 e2 => ⟨_, _, _, _, _, _, _, _, _, rfl, e2⟩) (fun i σ' H' hi P => ?_) fun σ' H' P => ?_
    · obtain ⟨z1, z2, z3, z4, z5, z6, z7, z8, z9, rfl, eH⟩ := P
      have hby : (0 : Int) + (i : Nat) * 4 = ((4 * i : Nat) : Int) := by omega
      rw [hby]
      refine ⟨_, rfl, _, rfl, sz_of (by simp), fun D hD => ?_⟩
      have hG : DrawOk K (upd H' D (.lst [.ref a, .int ((4 * i : Nat) : Int), .int 0])) D := ⟨.ref a, 4 * i, 0, ns, upd_same, (rs.ex eH).ex (ex_mn hD)⟩
      have eG : Ex H' (upd H' D (.lst [.ref a, .int ((4 * i : Nat) : Int), .int 0])) := Ex.new hD
      generalize upd H' D (.lst [.ref a, .int ((4 * i : Nat) : Int), .int 0]) = G at *
      refine ⟨_, rfl, D, rfl, hG, fun px sc H2 u2 hs2 => ⟨_, rfl, D, rfl, hG.up u2, fun ph cs H3 n3 u3 hl3 hk => ⟨_, _, rfl, ?_⟩⟩⟩
      have immS : ImmAll (cs.map .str) = true := imm_strs cs
      have immD : ∀ l : List Deed, ImmAll (l.map Deed.d) = true := fun l => immAll_map _ fun d _ => imm_Deed d
      have hD2 := hG.up u2
      have hD3 := hD2.up u3
      have hs3 := hs2.up u3 hD2
      have neD : ∀ {H1 : Hp} {p : Addr}, DrawOk K H1 D → H1 p = none → p ≠ D := fun hd hp z => by
        obtain ⟨xs, hx⟩ := hd.cell
        rw [z, hx] at hp
        cases hp
      have nph := neD hD2 n3
      refine ⟨_, rfl, _, rfl, _, rfl, ?_⟩
      refine next_c (K := K) (b := 12) rfl d_int (by decide) hD3 fun r H4 u4 hr4 => ?_
      have hD4 := hD3.up u4
      have hs4 := hs3.up u4 hD3
      have hl4 := hl3.up u4 nph immS
      obtain ⟨xs4, hx4⟩ := hD4.cell
      have hlim : (10 : Int) + (r : Int) = ((10 + r : Nat) : Int) := by omega
      refine ⟨10, _, rfl, rfl, D, px, sc, .ref ph, .list (cs.map .str), cs, 10 + r, by rw [← hlim], hD4, hs4, (hl4.mn nph hx4 immS).dp, .inl rfl, hk, by omega, fun pd ds H5 n5 u5 hl5 hd => ?_⟩
      have hD5 := hD4.up u5
      have hs5 := hs4.up u5 hD4
      have hh5 := hl4.up u5 nph immS
      have npd := neD hD4 n5
      have shA := sh_ans (run1 (hsOf (inOrder cs)) sc m0 ds)
      refine q_when (b := false) (evt_to (t_test (d_ne (d_call (a_consV (ev_var (i := 3) rfl) (a_cons (d_var (i := 4) rfl hh5.dp) (a_cons (d_var (i := 5) rfl hl5.dp) a_nil))) fun H6 e6 => ⟨px, sc, _, cs, _, ds, rfl, hs5.ex e6, .inl rfl, hk, .inl rfl, hd, rfl⟩) (d_call (a_consV (ev_var (i := 3) rfl) (a_cons (d_var (i := 4) rfl hh5.dp) (a_cons (d_var (i := 5) rfl hl5.dp) a_nil))) fun H6 e6 => ⟨px, sc, _, cs, ds, rfl, hs5.ex e6, .inl rfl, hk, hd, rfl⟩) shA.ok shA.ok)) (by rw [eqv_sh shA]; rfl)) (fun z => nomatch z) fun _ H6 e6 => ?_
      refine q_makeS2 (K := K) fun p2 H7 e7 n7 hS7 => ?_
      have e57 := e6.trans e7
      have hD7 := hD5.ex e57
      have hh7 := hh5.ex e57
      refine ⟨_, rfl, D, rfl, hD7, fun pl ds2 m H8 npl u8 hl8 hlk hm => ?_⟩
      have hD8 := hD7.up u8
      have hS8 := hS7.up u8 hD7
      have hh8 := hh7.up u8 nph immS
      have hdl := likely_dsok hlk hm
      have hnone := likely_none hlk hm
      refine q_when (b := false) (evt_to (et_and (t_test (d_eqInt (K := K) (b := 0) (d_var (d := .int ((4 * i : Nat) : Int)) (i := 1) rfl (.int _)) d_int)) fun _ => et_not (t_B (d_call (a_consV (ev_var (i := 6) rfl) (a_cons (d_var (i := 7) rfl hl8.dp) a_nil)) fun H9 e9 => ⟨p2, s2, ds2, rfl, hS8.ex e9, hdl, rfl⟩))) (by simp)) (fun z => nomatch z) fun _ H9 e9 => ?_
      have hD9 := hD8.ex e9
      have hS9 := hS8.ex e9
      have hh9 := hh8.ex e9
      have hl9 := hl8.ex e9
      refine ⟨_, rfl, _, rfl, _, rfl, _, rfl, D, p2, ph, pl, s2, cs, ds2, rfl, hD9, hS9, hh9, nph, hk, hl9, npl, hdl, hnone, fun H10 u10 => q_true ?_⟩
      have hD10 := hD9.up u10
      have hS10 := hS9.up u10 hD9
      have hh10 := hh9.up u10 nph immS
      have hl10 := hl9.up u10 npl (immD _)
      refine q_asgN (n_lc (K := K) (xs := cs) (enc := .str) (p := fun c => !decide (c ∈ (["lists", "keys"] : List Sx))) (f := .str) (src_list (d_var (i := 4) rfl hh10.dp)) (fun _ => rfl) (fun _ _ => rfl) (by have := cares_len hk; omega) fun c hc v H11 e11 r => ⟨t_test (d_ninS (d_var rfl r) (d_tup (e_cons d_str (e_cons d_str e_nil))) (.inr rfl)), fun _ => d_var rfl r⟩) fun p3 v3 H11 n11 e11 h11 r11 => ?_
      have hk3 : CaresOk (cs.filter fun c => !decide (c ∈ (["lists", "keys"] : List Sx))) := ⟨fun c hc => hk.1 c (List.mem_filter.mp hc).1, hk.2.filter _⟩
      have np3 := neD hD10 n11
      refine ⟨_, rfl, _, rfl, _, rfl, _, rfl, D, p2, p3, pl, s2, _, ds2, rfl, hD10.ex e11, hS10.ex e11, ⟨v3, h11, r11⟩, np3, hk3, hl10.ex e11, npl, hdl, hnone, fun H12 u12 => s_true ?_⟩
      refine ⟨_, _, _, _, _, _, _, _, _, rfl, eH.trans (Up.fresh eG hD ?_)⟩
      exact (((((u2.trans u3).trans u4).trans u5).ex e57).trans u8).trans (((Up.of e9).trans u10).trans ((Up.of e11).trans u12))
    · obtain ⟨z1, z2, z3, z4, z5, z6, z7, z8, z9, rfl, eH⟩ := P
      exact (s_retD (K := K) d_bl fun v H6 e6 r => by rw [r.blV]; exact k H6 : tRet (tC (.bl true)) { nx := fun _ H' => Q .non H', rt := Q } [some (.ref a), z1, z2, z3, z4, z5, z6, z7, z8, z9] H')
end
end Sc


set_option maxHeartbeats 0
namespace Sc
open PySem PySem.Spec PyProof.Rows L2
def ob (s : PySem.W.SharedT) : AlS := obsSG 6 (HandSHeadRun.getT s)
theorem ob_eq (s : PySem.W.SharedT) : ob s = (hookS 6).obs s.abs := obsSG_eq (HandSHeadRun.getT_eq s)
theorem run (w : World) : HandSHeadRun.RunEq R (PySem.W.view R.prog [LAWI]) (hookS 6) ob 6000 names w := by
  intro os
  kernel_rfl
end Sc

namespace Sc
open PySem PySem.Spec PyProof.Rows L2
theorem law_facts {P : Program} {w : World} {K : PySem.W.Frag} {h : Heap} {mg : PySem.Str → Option Value} {f : Addr} (X : K.In h) (G : h.Ns mainGlobals mg) (hfa : mg ("law" : PySem.Str) = some (.ref f)) (c : SaysS K) :
    ∃ fd : FuncData, (∀ (s : Shared) (v : Value), BindsTo s fd ⟨[v], []⟩ [("_law_script", v)]) ∧ ∀ base : Heap, K.In base → base.Ns mainGlobals mg → FnOk P w K mg base CX0 11 f fd ["_law_script"] (sp_law K) := by
  have T : Tx K mg := Tx.of X G c
  obtain ⟨fd, F⟩ := T.c.d.def_ 67 (d := d_law) rfl
  have e := hfa.symm.trans (gl_law T)
  cases e
  have b := FunD.bindsA (ps := ["_law_script"]) F fun _ _ _ _ _ _ us hl => match us, hl with | [_], _ => rfl
  exact ⟨fd, fun s v => b s [v] rfl, fun base _ _ => ok_law T F⟩
end Sc
open PySem PySem.W PySem.Calls PyProof.Rows
theorem PySem.Challenge.cw_screentruth_k33_whole_lists_holds : PySem.Challenge.rw_screentruth_k33_whole_lists.Holds := by
  w_on; o_law
  refine HandSHeadRun.head_any (r := OpenLaw.row PySem.Challenge.rw_screentruth_k33_whole_lists) (q := view (OpenLaw.row PySem.Challenge.rw_screentruth_k33_whole_lists).prog [Sc.LAWI]) (H := Sc.hookS 6) (ob := Sc.ob) (M := 6000) (loose := Sc.names) (d := HandSHeadRun.topDef (OpenLaw.row PySem.Challenge.rw_screentruth_k33_whole_lists).prog Sc.LAWI) (kwd := []) Sc.ob_eq
    (by kernel_rfl) (fun s => by kernel_rfl) Sc.run (by kernel_rfl) (by kernel_rfl) (by kernel_rfl) (by rfl) (by first | assumption | decide +kernel) (by decide +kernel) ⟨rfl, rfl, rfl, rfl, rfl, by decide +kernel⟩ ?hw ?hc
  case hw => w_witness2
  case hc =>
    refine L2.walk_ofE (l := PySem.Challenge.rw_screentruth_k33_whole_lists) (n := 63) (k := 11) (x := "_law_script") (CX := L2.CX0) rfl (by decide) (by kernel_rfl) ⟨rfl, by decide, by decide⟩ ?F (fun _ _ _ _ z => z)
    intro w mg fa h Y G hmg0
    obtain ⟨K, KX, c⟩ := Y
    have hmg : mg ("law" : PySem.Str) = some (.ref fa) := by
      have e : (HandSHeadRun.topDef (OpenLaw.row PySem.Challenge.rw_screentruth_k33_whole_lists).prog Sc.LAWI).name = ("law" : PySem.Str) := by kernel_rfl
      rw [← e]
      exact hmg0
    obtain ⟨fd, hb, hF⟩ := Sc.law_facts (P := (PySem.Challenge.rw_screentruth_k33_whole_lists).prog) (w := w) KX G hmg c
    exact ⟨K, fd, Sc.sp_law K, KX, hb, fun H a ns hl _ hS => ⟨a, ns, rfl, hS, fun _ => rfl⟩, hF⟩

